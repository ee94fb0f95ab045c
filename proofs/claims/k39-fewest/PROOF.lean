import PyProof.Rows.All
import Wide.All
import OpenK.AllK
import Wide.FinOn
import HandS.ForMost
import HandS.Deep
import HandS.Wide
import HandS.Conv
import HandS.Exc
import HandS.Defaults
import HandS.TupAny
import PySem.Challenge.RW_coretower_k39_whole_fewest_additions
import HandS.Walk
import HandS.IsInst
import HandS.HeadHook1
import HandS.HeadHook2
import HandS.OwnEq
import KE.KOpsOwn
import KE.KOwnIter
import HandS.MakeKwOnly
import HandS.TupSets
import KE.KeyNested
import PyProof.SetRoads
import KE.SortData
import HandS.StrMore
import HandS.IterVal
import HandS.OwnIter
import HandS.ExcInit
import HandS.ExcSuper
import KE.KExcSuper
import KE.KSuper
import HandS.NoneIn
import HandS.WideBits
import HandS.ExcIs
import HandS.ExcField
import HandS.WordsExc
import KE.KExcIs
import KE.KStateDown
import Lean
import HandS.Ends
import HandS.More
import HandS.Words
import HandS.Head0
import HandS.Head1
import HandS.Head2
import HandS.HeadEnd
set_option Elab.async false
set_option linter.all false
set_option maxRecDepth 100000
/-! KLay -/
set_option maxHeartbeats 4000000
/-! ## the data layer: what a value stands for -/
namespace K39
open PySem PySem.Spec PyProof.Rows L2
inductive D where
  | non | bl (b : Bool) | int (i : Int) | str (s : Str)
  | tup (xs : List D) | lst (xs : List D)
  | dct (kvs : List (Str × D))
  | dtt (kvs : List (List Str × Int))
  | ins (C : Addr) (fs : List (Str × D))
  | ptr (a : Addr)
  | scr (ns : List Int)
  | key (xs : List Str)
  | vls (vs : List V) | vtp (vs : List V) | all (vs : List V) (ds : List D)
/-- a dict with tuple keys, as the heap holds it -/
def dT (kvs : List (List Str × Int)) : List (List Key × V) := kvs.map fun p => (p.1.map Sum.inr, V.int p.2)
mutual
inductive Rep (K : PySem.W.Frag) (B : Hp) : V → D → Prop
  | non : Rep K B .non .non
  | bl (b : Bool) : Rep K B (.bl b) (.bl b)
  | int (i : Int) : Rep K B (.int i) (.int i)
  | str (s : Str) : Rep K B (.str s) (.str s)
  | tup {a : Addr} {vs : List V} {ds : List D} : SqT K B a vs → Reps K B vs ds → Rep K B (.ref a) (.tup ds)
  | lst {a : Addr} {vs : List V} {ds : List D} : B a = some (.lst vs) → Reps K B vs ds → Rep K B (.ref a) (.lst ds)
  | scr {a : Addr} {ns : List Int} : SqL K B a (ns.map V.int) → Rep K B (.ref a) (.scr ns)
  | dct {a : Addr} {kvs : List (Key × V)} {ds : List (Str × D)} : Rd B a (.dK kvs) → RepsD K B kvs ds → Rep K B (.ref a) (.dct ds)
  | dtt {a : Addr} {ds : List (List Str × Int)} : Rd B a (.dT (dT ds)) → Rep K B (.ref a) (.dtt ds)
  | ins {a C dx : Addr} {fs : List (Str × V)} {ds : List (Str × D)} : B a = some (.ins C dx fs) → RepsF K B fs ds → Rep K B (.ref a) (.ins C ds)
  | ptr (a : Addr) : Rep K B (.ref a) (.ptr a)
  | key {a : Addr} {xs : List Str} : B a = some (.tup (xs.map V.str)) → Rep K B (.ref a) (.key xs)
  | vls {a : Addr} {vs : List V} : B a = some (.lst vs) → Rep K B (.ref a) (.vls vs)
  | vtp {a : Addr} {vs : List V} : SqT K B a vs → Rep K B (.ref a) (.vtp vs)
  | all {vs : List V} {ds : List D} : Reps K B vs ds → Rep K B (.ty "") (.all vs ds)
inductive Reps (K : PySem.W.Frag) (B : Hp) : List V → List D → Prop
  | nil : Reps K B [] []
  | cons {v : V} {d : D} {vs : List V} {ds : List D} : Rep K B v d → Reps K B vs ds → Reps K B (v :: vs) (d :: ds)
inductive RepsD (K : PySem.W.Frag) (B : Hp) : List (Key × V) → List (Str × D) → Prop
  | nil : RepsD K B [] []
  | cons {x : Str} {v : V} {d : D} {vs : List (Key × V)} {ds : List (Str × D)} : Rep K B v d → RepsD K B vs ds → RepsD K B ((.inr x, v) :: vs) ((x, d) :: ds)
inductive RepsF (K : PySem.W.Frag) (B : Hp) : List (Str × V) → List (Str × D) → Prop
  | nil : RepsF K B [] []
  | cons {x : Str} {v : V} {d : D} {vs : List (Str × V)} {ds : List (Str × D)} : Rep K B v d → RepsF K B vs ds → RepsF K B ((x, v) :: vs) ((x, d) :: ds)
end
def plainO : HO → Bool
  | .frz _ _ => false
  | _ => true
/-- what may be read stays to be read -/
structure Le (B B' : Hp) : Prop where
  rd : ∀ a u, plainO u = true → Rd B a u → Rd B' a u
  ins : ∀ a C dx fs, B a = some (.ins C dx fs) → B' a = some (.ins C dx fs)
  lst : ∀ a vs, B a = some (.lst vs) → B' a = some (.lst vs)
  tup : ∀ a vs, B a = some (.tup vs) → B' a = some (.tup vs)
def Ex (H H' : Hp) : Prop := ∀ a o, H a = some o → H' a = some o
theorem Ex.rfl' (H : Hp) : Ex H H := fun _ _ h => h
theorem Ex.trans {H H1 H2 : Hp} (a : Ex H H1) (b : Ex H1 H2) : Ex H H2 := fun x o h => b x o (a x o h)
theorem Ex.le {B B' : Hp} (e : Ex B B') : Le B B' :=
  ⟨fun a u _ h => h.elim (fun h => .inl (e a _ h)) fun ⟨o, h⟩ => .inr ⟨o, e a _ h⟩, fun a C dx fs h => e a _ h, fun a vs h => e a _ h, fun a vs h => e a _ h⟩
theorem Le.sqT {K : PySem.W.Frag} {B B' : Hp} (e : Le B B') {a : Addr} {vs : List V} (h : SqT K B a vs) : SqT K B' a vs := h.elim (fun h => .inl (e.rd a _ rfl h)) .inr
theorem Le.sqL {K : PySem.W.Frag} {B B' : Hp} (e : Le B B') {a : Addr} {vs : List V} (h : SqL K B a vs) : SqL K B' a vs := h.elim (fun h => .inl (e.rd a _ rfl h)) .inr
theorem Le.trans {B B1 B2 : Hp} (a : Le B B1) (b : Le B1 B2) : Le B B2 := ⟨fun x u h r => b.rd x u h (a.rd x u h r), fun x C dx fs h => b.ins x C dx fs (a.ins x C dx fs h), fun x vs h => b.lst x vs (a.lst x vs h), fun x vs h => b.tup x vs (a.tup x vs h)⟩
mutual
theorem Rep.le {K : PySem.W.Frag} {B B' : Hp} (e : Le B B') : ∀ {v : V} {d : D}, Rep K B v d → Rep K B' v d
  | _, _, .non => .non
  | _, _, .bl b => .bl b
  | _, _, .int i => .int i
  | _, _, .str s => .str s
  | _, _, .tup h r => .tup (e.sqT h) (Reps.le e r)
  | _, _, .lst h r => .lst (e.lst _ _ h) (Reps.le e r)
  | _, _, .scr h => .scr (e.sqL h)
  | _, _, .dct h r => .dct (e.rd _ _ rfl h) (RepsD.le e r)
  | _, _, .dtt h => .dtt (e.rd _ _ rfl h)
  | _, _, .ins h r => .ins (e.ins _ _ _ _ h) (RepsF.le e r)
  | _, _, .ptr a => .ptr a
  | _, _, .key h => .key (e.tup _ _ h)
  | _, _, .vls h => .vls (e.lst _ _ h)
  | _, _, .vtp h => .vtp (e.sqT h)
  | _, _, .all r => .all (Reps.le e r)
theorem Reps.le {K : PySem.W.Frag} {B B' : Hp} (e : Le B B') : ∀ {vs : List V} {ds : List D}, Reps K B vs ds → Reps K B' vs ds
  | _, _, .nil => .nil
  | _, _, .cons h r => .cons (Rep.le e h) (Reps.le e r)
theorem RepsD.le {K : PySem.W.Frag} {B B' : Hp} (e : Le B B') : ∀ {vs : List (Key × V)} {ds : List (Str × D)}, RepsD K B vs ds → RepsD K B' vs ds
  | _, _, .nil => .nil
  | _, _, .cons h r => .cons (Rep.le e h) (RepsD.le e r)
theorem RepsF.le {K : PySem.W.Frag} {B B' : Hp} (e : Le B B') : ∀ {vs : List (Str × V)} {ds : List (Str × D)}, RepsF K B vs ds → RepsF K B' vs ds
  | _, _, .nil => .nil
  | _, _, .cons h r => .cons (Rep.le e h) (RepsF.le e r)
end
/-! ### slots: what a name holds -/
/-- a value for good; an own list, dict, dict with tuple keys; an own instance; an own instance at x whose field F holds the own dict at g -/
inductive Sl where
  | val (d : D)
  | oL (l : Addr) (ds : List D)
  | oD (l : Addr) (kvs : List (Str × D))
  | oT (l : Addr) (kvs : List (List Str × Int))
  | oI (x C : Addr) (fs : List (Str × D))
  | oR (x g C : Addr) (pre : List (Str × D)) (f : Str) (post : List (Str × D)) (kvs : List (Str × D))
def Sl.own : Sl → List Addr
  | .val _ => []
  | .oL l _ => [l]
  | .oD l _ => [l]
  | .oT l _ => [l]
  | .oI x _ _ => [x]
  | .oR x g _ _ _ _ _ => [x, g]
abbrev En := List (Option Sl)
def owns : En → List Addr
  | [] => []
  | none :: r => owns r
  | some s :: r => s.own ++ owns r
/-- the heap at the entry, the part of it that the arguments stand in -/
structure Fm where
  B0 : Hp
  H0 : Hp
  gh : List Sl
/-- the own addresses, those of hidden things (a comprehension's new list) too -/
def ow (F : Fm) (E : En) : List Addr := owns (E ++ F.gh.map some)
/-- what may be read for good -/
def base (F : Fm) (H : Hp) (ow : List Addr) : Hp := fun a => if a ∈ ow then none else match F.H0 a with
  | none => H a
  | some _ => F.B0 a
def RepS (K : PySem.W.Frag) (B H : Hp) (v : V) : Sl → Prop
  | .val d => Rep K B v d
  | .oL l ds => v = .ref l ∧ ∃ vs, H l = some (.lst vs) ∧ Reps K B vs ds
  | .oD l kvs => v = .ref l ∧ ∃ ks, H l = some (.dK ks) ∧ RepsD K B ks kvs
  | .oT l kvs => v = .ref l ∧ H l = some (.dT (dT kvs))
  | .oI x C fs => v = .ref x ∧ ∃ dx vs, H x = some (.ins C dx vs) ∧ RepsF K B vs fs
  | .oR x g C pre f post kvs => v = .ref x ∧ (∃ dx vs, H x = some (.ins C dx vs) ∧ RepsF K B vs (pre ++ (f, .ptr g) :: post)) ∧ ∃ ks, H g = some (.dK ks) ∧ RepsD K B ks kvs
theorem RepS.le {K : PySem.W.Frag} {B B' H H' : Hp} {v : V} {s : Sl} (e : Le B B') (k : ∀ l ∈ s.own, ∀ o, H l = some o → H' l = some o) (h : RepS K B H v s) : RepS K B' H' v s := by
  cases s with
  | val d => exact Rep.le e h
  | oL l ds =>
    obtain ⟨e1, vs, h1, h2⟩ := h
    exact ⟨e1, vs, k l (by simp [Sl.own]) _ h1, Reps.le e h2⟩
  | oD l kvs =>
    obtain ⟨e1, vs, h1, h2⟩ := h
    exact ⟨e1, vs, k l (by simp [Sl.own]) _ h1, RepsD.le e h2⟩
  | oT l kvs =>
    obtain ⟨e1, h1⟩ := h
    exact ⟨e1, k l (by simp [Sl.own]) _ h1⟩
  | oI x C fs =>
    obtain ⟨e1, dx, vs, h1, h2⟩ := h
    exact ⟨e1, dx, vs, k x (by simp [Sl.own]) _ h1, RepsF.le e h2⟩
  | oR x g C pre f post kvs =>
    obtain ⟨e1, ⟨dx, vs, h1, h2⟩, ks, h3, h4⟩ := h
    exact ⟨e1, ⟨dx, vs, k x (by simp [Sl.own]) _ h1, RepsF.le e h2⟩, ks, k g (by simp [Sl.own]) _ h3, RepsD.le e h4⟩
theorem RepS.there {K : PySem.W.Frag} {B H : Hp} {v : V} {s : Sl} (h : RepS K B H v s) {l : Addr} (hl : l ∈ s.own) : ∃ o, H l = some o := by
  cases s with
  | val d => simp [Sl.own] at hl
  | oL l' ds =>
    obtain ⟨_, vs, h1, _⟩ := h
    simp only [Sl.own, List.mem_singleton] at hl
    subst hl; exact ⟨_, h1⟩
  | oD l' kvs =>
    obtain ⟨_, vs, h1, _⟩ := h
    simp only [Sl.own, List.mem_singleton] at hl
    subst hl; exact ⟨_, h1⟩
  | oT l' kvs =>
    obtain ⟨_, h1⟩ := h
    simp only [Sl.own, List.mem_singleton] at hl
    subst hl; exact ⟨_, h1⟩
  | oI x C fs =>
    obtain ⟨_, dx, vs, h1, _⟩ := h
    simp only [Sl.own, List.mem_singleton] at hl
    subst hl; exact ⟨_, h1⟩
  | oR x g C pre f post kvs =>
    obtain ⟨_, ⟨dx, vs, h1, _⟩, ks, h3, _⟩ := h
    simp only [Sl.own, List.mem_cons, List.not_mem_nil, or_false] at hl
    rcases hl with rfl | rfl
    · exact ⟨_, h1⟩
    · exact ⟨_, h3⟩
/-! ### the own addresses -/
theorem mem_owns {l : Addr} : ∀ {E : En}, l ∈ owns E ↔ ∃ (i : Nat) (s : Sl), E[i]? = some (some s) ∧ l ∈ s.own
  | [] => by simp [owns]
  | none :: r => by
    show l ∈ owns r ↔ _
    rw [mem_owns]
    constructor
    · rintro ⟨i, s, h1, h2⟩
      exact ⟨i + 1, s, by simpa using h1, h2⟩
    · rintro ⟨i, s, h1, h2⟩
      cases i with
      | zero => simp at h1
      | succ i => exact ⟨i, s, by simpa using h1, h2⟩
  | some t :: r => by
    show l ∈ t.own ++ owns r ↔ _
    rw [List.mem_append, mem_owns]
    constructor
    · rintro (h | ⟨i, s, h1, h2⟩)
      · exact ⟨0, t, rfl, h⟩
      · exact ⟨i + 1, s, by simpa using h1, h2⟩
    · rintro ⟨i, s, h1, h2⟩
      cases i with
      | zero =>
        simp only [List.getElem?_cons_zero, Option.some.injEq] at h1
        subst h1
        exact .inl h2
      | succ i => exact .inr ⟨i, s, by simpa using h1, h2⟩
def oOwn : Option Sl → List Addr
  | none => []
  | some s => s.own
theorem owns_cons (o : Option Sl) (r : En) : owns (o :: r) = oOwn o ++ owns r := by
  cases o <;> rfl
theorem owns_set_sub {l : Addr} (o : Option Sl) : ∀ (E : En) (i : Nat), l ∈ owns (E.set i o) → l ∈ oOwn o ∨ l ∈ owns E
  | [], _, h => .inr h
  | t :: r, 0, h => by
    rw [List.set_cons_zero, owns_cons, List.mem_append] at h
    rw [owns_cons, List.mem_append]
    rcases h with h | h
    · exact .inl h
    · exact .inr (.inr h)
  | t :: r, i + 1, h => by
    rw [List.set_cons_succ, owns_cons, List.mem_append] at h
    rw [owns_cons, List.mem_append]
    rcases h with h | h
    · exact .inr (.inl h)
    · rcases owns_set_sub o r i h with h | h
      · exact .inl h
      · exact .inr (.inr h)
theorem owns_set_nd {o : Option Sl} (hn : (oOwn o).Nodup) : ∀ (E : En) (i : Nat), (owns E).Nodup → (∀ l ∈ oOwn o, l ∈ owns E → ∃ s, E[i]? = some (some s) ∧ l ∈ s.own) → (owns (E.set i o)).Nodup
  | [], _, h, _ => h
  | t :: r, 0, h, hd => by
    rw [owns_cons, List.nodup_append] at h
    rw [List.set_cons_zero, owns_cons, List.nodup_append]
    refine ⟨hn, h.2.1, fun a ha b hb e => ?_⟩
    subst e
    obtain ⟨s, h1, h2⟩ := hd a ha (by rw [owns_cons]; exact List.mem_append_right _ hb)
    simp only [List.getElem?_cons_zero, Option.some.injEq] at h1
    subst h1
    exact h.2.2 a h2 a hb rfl
  | t :: r, i + 1, h, hd => by
    have h0 := h
    rw [owns_cons, List.nodup_append] at h
    rw [List.set_cons_succ, owns_cons, List.nodup_append]
    refine ⟨h.1, owns_set_nd hn r i h.2.1 fun l hl hr => ?_, fun a ha b hb e => ?_⟩
    · obtain ⟨s, h1, h2⟩ := hd l hl (by rw [owns_cons]; exact List.mem_append_right _ hr)
      exact ⟨s, by simpa using h1, h2⟩
    · subst e
      rcases owns_set_sub o r i hb with z | z
      · obtain ⟨s, h1, h2⟩ := hd a z (by rw [owns_cons]; exact List.mem_append_left _ ha)
        have : a ∈ owns r := mem_owns.mpr ⟨i, s, by simpa using h1, h2⟩
        exact h.2.2 a ha a this rfl
      · exact h.2.2 a ha a z rfl
/-! ### the base -/
theorem base_in {F : Fm} {H : Hp} {ow : List Addr} {a : Addr} (h : a ∈ ow) : base F H ow a = none := if_pos h
theorem base_new {F : Fm} {H : Hp} {ow : List Addr} {a : Addr} (h : a ∉ ow) (h0 : F.H0 a = none) : base F H ow a = H a := by
  unfold base
  rw [if_neg h, h0]
theorem base_old {F : Fm} {H : Hp} {ow : List Addr} {a : Addr} {o : HO} (h : a ∉ ow) (h0 : F.H0 a = some o) : base F H ow a = F.B0 a := by
  unfold base
  rw [if_neg h, h0]
theorem base_ex {F : Fm} {H : Hp} {ow : List Addr} (b0 : Ex F.B0 F.H0) (ex : Ex F.H0 H) : Ex (base F H ow) H := fun a o h => by
  by_cases h1 : a ∈ ow
  · rw [base_in h1] at h; cases h
  · cases h2 : F.H0 a with
    | none => rw [base_new h1 h2] at h; exact h
    | some u => rw [base_old h1 h2] at h; exact ex a o (b0 a o h)
theorem base_mono {F : Fm} {H H' : Hp} {ow ow' : List Addr} (e : ∀ a o, a ∉ ow → F.H0 a = none → H a = some o → H' a = some o) (hs : ∀ a ∈ ow', a ∈ ow ∨ base F H ow a = none) : Ex (base F H ow) (base F H' ow') := fun a o h => by
  by_cases h1 : a ∈ ow
  · rw [base_in h1] at h; cases h
  · have h3 : a ∉ ow' := fun z => (hs a z).elim h1 fun q => by rw [q] at h; cases h
    cases h2 : F.H0 a with
    | none =>
      rw [base_new h1 h2] at h
      rw [base_new h3 h2]
      exact e a o h1 h2 h
    | some u =>
      rw [base_old h1 h2] at h
      rw [base_old h3 h2]
      exact h
/-! ### the state -/
structure SR (K : PySem.W.Frag) (F : Fm) (E : En) (τ : List (V × D)) (σ : L2.St) (H : Hp) : Prop where
  len : σ.length = E.length
  slot : ∀ (i : Nat) (s : Sl), E[i]? = some (some s) → ∃ v, σ[i]? = some (some v) ∧ RepS K (base F H (ow F E)) H v s
  gho : ∀ s ∈ F.gh, ∃ v, RepS K (base F H (ow F E)) H v s
  tmp : ∀ p ∈ τ, Rep K (base F H (ow F E)) p.1 p.2
  ex : Ex F.H0 H
  b0 : Ex F.B0 F.H0
  nd : (ow F E).Nodup
  fr : ∀ l ∈ ow F E, F.H0 l = none
section
variable {K : PySem.W.Frag} {F : Fm} {E : En} {τ : List (V × D)} {σ : L2.St} {H H' : Hp}
theorem SR.bex (S : SR K F E τ σ H) : Ex (base F H (ow F E)) H := base_ex S.b0 S.ex
theorem mem_ow {l : Addr} : l ∈ ow F E ↔ (∃ (i : Nat) (s : Sl), E[i]? = some (some s) ∧ l ∈ s.own) ∨ ∃ s ∈ F.gh, l ∈ s.own := by
  unfold ow
  rw [mem_owns]
  constructor
  · rintro ⟨i, s, h1, h2⟩
    by_cases hi : i < E.length
    · rw [List.getElem?_append_left hi] at h1
      exact .inl ⟨i, s, h1, h2⟩
    · rw [List.getElem?_append_right (Nat.le_of_not_lt hi), List.getElem?_map] at h1
      cases q : F.gh[i - E.length]? with
      | none => rw [q] at h1; cases h1
      | some t =>
        rw [q] at h1
        have : t = s := by simpa using h1
        subst this
        exact .inr ⟨t, List.mem_of_getElem? q, h2⟩
  · rintro (⟨i, s, h1, h2⟩ | ⟨s, h1, h2⟩)
    · have hi : i < E.length := (List.getElem?_eq_some_iff.mp h1).1
      exact ⟨i, s, by rw [List.getElem?_append_left hi]; exact h1, h2⟩
    · obtain ⟨j, hj, e⟩ := List.mem_iff_getElem.mp h1
      refine ⟨E.length + j, s, ?_, h2⟩
      rw [List.getElem?_append_right (Nat.le_add_right _ _), Nat.add_sub_cancel_left, List.getElem?_map, List.getElem?_eq_getElem hj, e]
      rfl
theorem SR.there (S : SR K F E τ σ H) {l : Addr} (h : l ∈ ow F E) : ∃ o, H l = some o := by
  rcases mem_ow.mp h with ⟨i, s, h1, h2⟩ | ⟨s, h1, h2⟩
  · obtain ⟨v, _, r⟩ := S.slot i s h1
    exact r.there h2
  · obtain ⟨v, r⟩ := S.gho s h1
    exact r.there h2
theorem SR.grow (S : SR K F E τ σ H) (e : Ex H H') : SR K F E τ σ H' := by
  have be : Ex (base F H (ow F E)) (base F H' (ow F E)) := base_mono (fun a o _ _ h => e a o h) fun a h => .inl h
  refine ⟨S.len, fun i s h => ?_, fun s h => ?_, fun p hp => Rep.le be.le (S.tmp p hp), S.ex.trans e, S.b0, S.nd, S.fr⟩
  · obtain ⟨v, h1, h2⟩ := S.slot i s h
    exact ⟨v, h1, h2.le be.le fun l _ o q => e l o q⟩
  · obtain ⟨v, h2⟩ := S.gho s h
    exact ⟨v, h2.le be.le fun l _ o q => e l o q⟩
theorem SR.bmono (S : SR K F E τ σ H) (e : Ex H H') : Ex (base F H (ow F E)) (base F H' (ow F E)) := base_mono (fun a o _ _ h => e a o h) fun a h => .inl h
theorem SR.free (S : SR K F E τ σ H) {a : Addr} (h : H a = none) : F.H0 a = none := by
  cases q : F.H0 a with
  | none => rfl
  | some o => rw [S.ex a o q] at h; cases h
theorem SR.nown (S : SR K F E τ σ H) {a : Addr} (h : H a = none) : a ∉ ow F E := fun z => by
  obtain ⟨o, q⟩ := S.there z
  rw [q] at h; cases h
end
/-! ### what comes out of an expression -/
inductive Rs where
  | val (d : D)
  | nL (ds : List D)
  | nD (kvs : List (Str × D))
  | nT (kvs : List (List Str × Int))
  | nR (C : Addr) (pre : List (Str × D)) (f : Str) (post : List (Str × D)) (kvs : List (Str × D))
def Rs.ok : Rs → Sl → Prop
  | .val d, s => s = .val d
  | .nL ds, s => ∃ l, s = .oL l ds
  | .nD kvs, s => ∃ l, s = .oD l kvs
  | .nT kvs, s => ∃ l, s = .oT l kvs
  | .nR C pre f post kvs, s => ∃ x g, s = .oR x g C pre f post kvs
structure Out (K : PySem.W.Frag) (F : Fm) (ow : List Addr) (H H' : Hp) (v : V) (s : Sl) : Prop where
  ex : Ex H H'
  rep : RepS K (base F H' (s.own ++ ow)) H' v s
  new : ∀ l ∈ s.own, H l = none
  nd : s.own.Nodup
abbrev Kt (K : PySem.W.Frag) (F : Fm) (ow : List Addr) (H : Hp) (r : Rs) (Q : VK) : Prop := ∀ v s H', r.ok s → Out K F ow H H' v s → Q v H'
def tEv (K : PySem.W.Frag) (E : En) (r : Rs) : TE := fun σ H Q => ∃ F τ, SR K F E τ σ H ∧ Kt K F (ow F E) H r Q
def tEvA (K : PySem.W.Frag) (E : En) (ds : List D) : TA := fun σ H Q => ∃ F τ, SR K F E τ σ H ∧ ∀ vs H', Ex H H' → Reps K (base F H' (ow F E)) vs ds → Q vs H'
def tTs (K : PySem.W.Frag) (E : En) (b : Bool) : TT := fun σ H Q => ∃ F τ, SR K F E τ σ H ∧ ∀ H', Ex H H' → Q b H'
abbrev HasR (X : Cx) (E : En) (e : Expr) (r : Rs) : Prop := PE X e (tEv X.K E r)
abbrev HasD (X : Cx) (E : En) (e : Expr) (d : D) : Prop := HasR X E e (.val d)
abbrev HA (X : Cx) (E : En) (es : List Expr) (ds : List D) : Prop := PA X es (tEvA X.K E ds)
abbrev HasT (X : Cx) (E : En) (e : Expr) (b : Bool) : Prop := PT X e (tTs X.K E b)
abbrev HasW (X : Cx) (E : En) (e : Expr) (b : Bool) : Prop := PW X e (tTs X.K E b)
theorem PE.mono {X : Cx} {e : Expr} {t t' : TE} (h : PE X e t) (hm : ∀ σ H Q, t' σ H Q → t σ H Q) : PE X e t' := ⟨fun pins s σ H Q I hw => h.run pins s σ H Q I (hm σ H Q hw)⟩
theorem PT.mono {X : Cx} {e : Expr} {t t' : TT} (h : PT X e t) (hm : ∀ σ H Q, t' σ H Q → t σ H Q) : PT X e t' := ⟨fun pins s σ H Q I hw => h.run pins s σ H Q I (hm σ H Q hw)⟩
theorem PW.mono {X : Cx} {e : Expr} {t t' : TT} (h : PW X e t) (hm : ∀ σ H Q, t' σ H Q → t σ H Q) : PW X e t' := ⟨fun wh pins s σ H Q I hw => h.run wh pins s σ H Q I (hm σ H Q hw)⟩
theorem PA.mono {X : Cx} {es : List Expr} {t t' : TA} (h : PA X es t) (hm : ∀ σ H Q, t' σ H Q → t σ H Q) : PA X es t' := ⟨fun pos pins s σ H Q I hw => h.run pos pins s σ H Q I (hm σ H Q hw)⟩
theorem PS.mono {X : Cx} {e : Stmt} {t t' : TS} (h : PS X e t) (hm : ∀ D σ H, t' D σ H → t D σ H) : PS X e t' := ⟨fun pins s σ H D I hw => h.run pins s σ H D I (hm D σ H hw)⟩
theorem PSs.mono {X : Cx} {e : List Stmt} {t t' : TS} (h : PSs X e t) (hm : ∀ D σ H, t' D σ H → t D σ H) : PSs X e t' := ⟨fun pins s σ H D I hw => h.run pins s σ H D I (hm D σ H hw)⟩
section
variable {K : PySem.W.Frag} {F : Fm} {E : En} {τ : List (V × D)} {σ : L2.St} {H H' : Hp} {Q : VK} {r : Rs}
theorem Out.val (ex : Ex H H') {ow : List Addr} {v : V} {d : D} (r : Rep K (base F H' ow) v d) : Out K F ow H H' v (.val d) := ⟨ex, r, fun l h => by simp [Sl.own] at h, List.nodup_nil⟩
theorem Out.rp {ow : List Addr} {v : V} {d : D} (o : Out K F ow H H' v (.val d)) : Rep K (base F H' ow) v d := o.rep
/-- a value as it is -/
theorem kt_val {ow : List Addr} {v : V} {d : D} (k : Kt K F ow H (.val d) Q) (r : Rep K (base F H ow) v d) : Q v H := k v _ H rfl (.val (Ex.rfl' H) r)
theorem Ex.upd {H : Hp} {p : Addr} {o : HO} (h : H p = none) : Ex H (upd H p o) := fun a u e => by
  rw [upd_ne (ne_of_none e h)]; exact e
theorem SR.bupd (S : SR K F E τ σ H) {p : Addr} {o : HO} (h : H p = none) : base F (upd H p o) (ow F E) p = some o := by
  rw [base_new (S.nown h) (S.free h), upd_same]
theorem kt_tup (S : SR K F E τ σ H) {vs : List V} {ds : List D} (k : Kt K F (ow F E) H (.val (.tup ds)) Q) (r : Reps K (base F H (ow F E)) vs ds) {p : Addr} (h : H p = none) : Q (.ref p) (upd H p (.tup vs)) :=
  k _ _ _ rfl (.val (Ex.upd h) (.tup (.inl (.inl (S.bupd h))) (Reps.le (S.bmono (Ex.upd h)).le r)))
theorem base_sub {ow ow' : List Addr} (h : ∀ a ∈ ow', a ∈ ow ∨ base F H ow a = none) : Ex (base F H ow) (base F H ow') := base_mono (fun _ _ _ _ q => q) h
/-- a new object laid: what stood stands, without it -/
theorem SR.less (S : SR K F E τ σ H) {p : Addr} {o : HO} (h : H p = none) : Ex (base F H (ow F E)) (base F (upd H p o) ([p] ++ ow F E)) :=
  base_mono (fun a u _ _ q => (Ex.upd h) a u q) fun a ha => by
    rcases List.mem_append.mp ha with z | z
    · rw [List.mem_singleton] at z
      subst z
      exact .inr (by rw [base_new (S.nown h) (S.free h)]; exact h)
    · exact .inl z
theorem kt_lst (S : SR K F E τ σ H) {vs : List V} {ds : List D} (k : Kt K F (ow F E) H (.nL ds) Q) (r : Reps K (base F H (ow F E)) vs ds) {p : Addr} (h : H p = none) : Q (.ref p) (upd H p (.lst vs)) :=
  k _ (.oL p ds) _ ⟨p, rfl⟩ ⟨Ex.upd h, ⟨rfl, vs, upd_same, Reps.le (S.less h).le r⟩, fun l hl => by simp only [Sl.own, List.mem_singleton] at hl; subst hl; exact h, by simp [Sl.own]⟩
theorem kt_dct (S : SR K F E τ σ H) {ks : List (Key × V)} {ds : List (Str × D)} (k : Kt K F (ow F E) H (.nD ds) Q) (r : RepsD K (base F H (ow F E)) ks ds) {p : Addr} (h : H p = none) : Q (.ref p) (upd H p (.dK ks)) :=
  k _ (.oD p ds) _ ⟨p, rfl⟩ ⟨Ex.upd h, ⟨rfl, ks, upd_same, RepsD.le (S.less h).le r⟩, fun l hl => by simp only [Sl.own, List.mem_singleton] at hl; subst hl; exact h, by simp [Sl.own]⟩
theorem kt_dtt (S : SR K F E τ σ H) {ds : List (List Str × Int)} (k : Kt K F (ow F E) H (.nT ds) Q) {p : Addr} (h : H p = none) : Q (.ref p) (upd H p (.dT (dT ds))) :=
  k _ (.oT p ds) _ ⟨p, rfl⟩ ⟨Ex.upd h, ⟨rfl, upd_same⟩, fun l hl => by simp only [Sl.own, List.mem_singleton] at hl; subst hl; exact h, by simp [Sl.own]⟩
end
section
variable {X : Cx} {E : En} {e : Expr} {es : List Expr} {pos : Pos}
/-- an own new thing becomes a value for good -/
theorem out_settle {K : PySem.W.Frag} {F : Fm} {τ : List (V × D)} {σ : L2.St} {H H' : Hp} (S : SR K F E τ σ H) {v : V} {l : Addr} {ds : List D} (o : Out K F (ow F E) H H' v (.oL l ds)) : Out K F (ow F E) H H' v (.val (.lst ds)) := by
  obtain ⟨ex, ⟨e1, vs, h1, h2⟩, new, _⟩ := o
  have hl : H l = none := new l (by simp [Sl.own])
  subst e1
  refine .val ex (.lst ?_ (Reps.le (base_sub fun a h => .inl (List.mem_append_right _ h)).le h2))
  rw [base_new (S.nown hl) (S.free hl)]
  exact h1
theorem h_settle {ds : List D} (h : HasR X E e (.nL ds)) : HasD X E e (.lst ds) := PE.mono h fun σ H Q ⟨F, τ, S, k⟩ => ⟨F, τ, S, fun v s H' hs o => by
  obtain ⟨l, rfl⟩ := hs
  exact k v _ H' rfl (out_settle S o)⟩
theorem out_settleD {K : PySem.W.Frag} {F : Fm} {τ : List (V × D)} {σ : L2.St} {H H' : Hp} (S : SR K F E τ σ H) {v : V} {l : Addr} {ds : List (Str × D)} (o : Out K F (ow F E) H H' v (.oD l ds)) : Out K F (ow F E) H H' v (.val (.dct ds)) := by
  obtain ⟨ex, ⟨e1, vs, h1, h2⟩, new, _⟩ := o
  have hl : H l = none := new l (by simp [Sl.own])
  subst e1
  refine .val ex (.dct (.inl ?_) (RepsD.le (base_sub fun a h => .inl (List.mem_append_right _ h)).le h2))
  rw [base_new (S.nown hl) (S.free hl)]
  exact h1
theorem h_settleD {ds : List (Str × D)} (h : HasR X E e (.nD ds)) : HasD X E e (.dct ds) := PE.mono h fun σ H Q ⟨F, τ, S, k⟩ => ⟨F, τ, S, fun v s H' hs o => by
  obtain ⟨l, rfl⟩ := hs
  exact k v _ H' rfl (out_settleD S o)⟩
/-! ### expressions -/
theorem h_var (i : Nat) {d : D} {x : Str} (hE : E[i]? = some (some (.val d)) := by rfl) (hN : X.N[i]? = some x := by rfl) (hv : Vis X.env.scope x := by first | exact Or.inl rfl | exact Or.inr (Or.inl rfl) | exact Or.inr (Or.inr rfl)) (hd : (x == ("__debug__" : Str)) = false := by decide)
    (hcd : (x == ("__classdict__" : Str)) = false := by decide) : HasD X E (.Name x pos) d := PE.mono (pe_var hN hv hd hcd) fun σ H Q ⟨F, τ, S, k⟩ => by
  obtain ⟨v, h1, h2⟩ := S.slot i _ hE
  exact ⟨v, h1, kt_val k h2⟩
theorem h_int {i : Int} {j : Nat} : HasD X E (.Constant (.int i) j pos) (.int i) := PE.mono pe_int fun _ _ _ ⟨_, _, _, k⟩ => kt_val k (.int i)
theorem h_bl {b : Bool} {j : Nat} : HasD X E (.Constant (.bool b) j pos) (.bl b) := PE.mono pe_bl fun _ _ _ ⟨_, _, _, k⟩ => kt_val k (.bl b)
theorem h_non {j : Nat} : HasD X E (.Constant .none j pos) .non := PE.mono pe_non fun _ _ _ ⟨_, _, _, k⟩ => kt_val k .non
theorem h_str {x : Str} {j : Nat} : HasD X E (.Constant (.str x) j pos) (.str x) := PE.mono pe_str fun _ _ _ ⟨_, _, _, k⟩ => kt_val k (.str x)
theorem h_glob {x : Str} {v : V} {u : Value} {d : D} (hg : Gl X x) (hm : X.mg x = some u) (r : RelV v u) (hr : ∀ B, Rep X.K B v d) (hd : (x == ("__debug__" : Str)) = false := by decide) : HasD X E (.Name x pos) d :=
  PE.mono (pe_glob hg hm r hd) fun _ _ _ ⟨_, _, _, k⟩ => kt_val k (hr _)
theorem ha_nil : HA X E [] [] := PA.mono pa_nil fun _ H _ ⟨_, _, _, k⟩ => k [] H (Ex.rfl' H) .nil
theorem ha_cons {d : D} {ds : List D} (h : HasD X E e d) (hr : HA X E es ds) (hs : starEach (e :: es) X.env = (false, eval e X.env) :: starEach es X.env := by rfl) : HA X E (e :: es) (d :: ds) :=
  PA.mono (pa_cons h hr hs) fun σ H Q ⟨F, τ, S, k⟩ => ⟨F, τ, S, fun v s H1 hs o => by
    cases hs
    exact ⟨F, τ, S.grow o.ex, fun vs H2 e2 r => k (v :: vs) H2 (o.ex.trans e2) (.cons (Rep.le (base_mono (fun a u _ _ q => e2 a u q) fun a q => .inl q).le o.rp) r)⟩⟩
theorem Reps.len {K : PySem.W.Frag} {B : Hp} : ∀ {vs : List V} {ds : List D}, Reps K B vs ds → vs.length = ds.length
  | _, _, .nil => rfl
  | _, _, .cons _ r => by rw [List.length_cons, List.length_cons, Reps.len r]
/-- an end that may be reached later -/
theorem Kt.later {K : PySem.W.Frag} {F : Fm} {ow : List Addr} {H H1 : Hp} {r : Rs} {Q : VK} (k : Kt K F ow H r Q) (e1 : Ex H H1) : Kt K F ow H1 r Q := fun v s H2 hs o => k v s H2 hs ⟨e1.trans o.ex, o.rep, (fun l hl => by
  have := o.new l hl
  cases q : H l with
  | none => rfl
  | some u => rw [e1 l u q] at this; cases this), o.nd⟩
theorem h_tup {ds : List D} {x1 : Nat} (h : HA X E es ds) (hl : ds.length ≤ 1000 := by exact Nat.le_of_ble_eq_true rfl) : HasD X E (.Tuple es x1 pos) (.tup ds) := PE.mono (pe_tup h) fun σ H Q ⟨F, τ, S, k⟩ => ⟨F, τ, S, fun vs H1 e1 r =>
  ⟨by rw [r.len]; exact Nat.le_of_lt (small1000 hl), fun p hp => kt_tup (S.grow e1) (k.later e1) r hp⟩⟩
theorem h_lst {ds : List D} (h : HA X E es ds) (hl : ds.length ≤ 1000 := by exact Nat.le_of_ble_eq_true rfl) : HasR X E (.List es pos) (.nL ds) := PE.mono (pe_lst h) fun σ H Q ⟨F, τ, S, k⟩ => ⟨F, τ, S, fun vs H1 e1 r =>
  ⟨by rw [r.len]; exact Nat.le_of_lt (small1000 hl), fun p hp => kt_lst (S.grow e1) (k.later e1) r hp⟩⟩
theorem h_dict0 : HasR X E (.Dict [] [] pos) (.nD []) := PE.mono pe_dnewK fun σ H Q ⟨F, τ, S, k⟩ p hp => kt_dct S k .nil hp
theorem h_dictT0 : HasR X E (.Dict [] [] pos) (.nT []) := PE.mono pe_dnewT fun σ H Q ⟨F, τ, S, k⟩ p hp => kt_dtt S k hp
end
end K39
/-! KOps -/
set_option maxHeartbeats 4000000
/-! ## operators over data -/
namespace K39
open PySem PySem.Spec PyProof.Rows L2
/-! ### plain data: none, ints, texts, tuples and lists of such -/
mutual
def D.py : D → PyData
  | .int i => .int i
  | .str s => .str s
  | .tup xs => .tuple (pys xs)
  | .lst xs => .list (pys xs)
  | _ => .none
def pys : List D → List PyData
  | [] => []
  | x :: xs => x.py :: pys xs
end
mutual
/-- plain, of depth at most n -/
def D.sh : Nat → D → Prop
  | _, .non => True
  | _, .int _ => True
  | _, .str s => PyData.strOk s = true
  | n + 1, .tup xs => shs n xs
  | n + 1, .lst xs => shs n xs
  | _, _ => False
def shs : Nat → List D → Prop
  | _, [] => True
  | n, x :: xs => D.sh n x ∧ shs n xs
end
theorem shs_all {n : Nat} : ∀ {xs : List D}, shs n xs ↔ ∀ x ∈ xs, D.sh n x
  | [] => by simp [shs]
  | x :: xs => by
    show D.sh n x ∧ shs n xs ↔ _
    rw [shs_all]
    simp
theorem pys_map : ∀ xs : List D, pys xs = xs.map D.py
  | [] => rfl
  | x :: xs => by
    show x.py :: pys xs = _
    rw [pys_map xs]; rfl
mutual
theorem D.sh_lay : ∀ {n : Nat} (d : D), D.sh n d → d.py.canLay0 = true ∧ d.py.depth ≤ n
  | n, .non, _ => ⟨rfl, Nat.zero_le _⟩
  | n, .int _, _ => ⟨rfl, Nat.zero_le _⟩
  | n, .str s, h => ⟨by cases n <;> exact h, Nat.zero_le _⟩
  | 0, .tup _, h => h.elim
  | n + 1, .tup xs, h => by
    obtain ⟨h1, h2⟩ := shs_lay xs (show shs n xs from h)
    exact ⟨h1, Nat.succ_le_succ h2⟩
  | 0, .lst _, h => h.elim
  | n + 1, .lst xs, h => by
    obtain ⟨h1, h2⟩ := shs_lay xs (show shs n xs from h)
    exact ⟨h1, Nat.succ_le_succ h2⟩
  | n, .bl _, h => by cases n <;> exact h.elim
  | n, .dct _, h => by cases n <;> exact h.elim
  | n, .dtt _, h => by cases n <;> exact h.elim
  | n, .ins _ _, h => by cases n <;> exact h.elim
  | n, .ptr _, h => by cases n <;> exact h.elim
  | n, .key _, h => by cases n <;> exact h.elim
  | n, .scr _, h => by cases n <;> exact h.elim
  | n, .vls _, h => by cases n <;> exact h.elim
  | n, .vtp _, h => by cases n <;> exact h.elim
  | n, .all _ _, h => by cases n <;> exact h.elim
theorem shs_lay : ∀ {n : Nat} (xs : List D), shs n xs → PyData.canLayAll0 (pys xs) = true ∧ PyData.depthAll (pys xs) ≤ n
  | _, [], _ => ⟨rfl, Nat.zero_le _⟩
  | n, x :: xs, h => by
    obtain ⟨h1, h2⟩ := D.sh_lay x h.1
    obtain ⟨h3, h4⟩ := shs_lay xs h.2
    refine ⟨?_, ?_⟩
    · show (x.py.canLay0 && PyData.canLayAll0 (pys xs)) = true
      rw [h1, h3]; rfl
    · exact Nat.max_le.mpr ⟨h2, h4⟩
end
theorem D.shaped {n : Nat} {d : D} (h : D.sh n d) (hn : n ≤ 64 := by decide) : SeqAt.shaped d.py = true := by
  obtain ⟨h1, h2⟩ := D.sh_lay d h
  unfold SeqAt.shaped
  rw [h1, decide_eq_true (Nat.le_trans h2 hn)]
  rfl
theorem str_beq {x y : Str} : (x == y) = true ↔ x = y := beq_iff_eq
mutual
theorem D.eqv_iff : ∀ {n m : Nat} (d e : D), D.sh n d → D.sh m e → (PyData.eqv d.py e.py = true ↔ d = e)
  | n, m, .non, .non, _, _ => by simp [D.py, PyData.eqv]
  | n, m, .non, .int _, _, _ => by simp [D.py, PyData.eqv]
  | n, m, .non, .str _, _, _ => by simp [D.py, PyData.eqv]
  | n, m, .non, .tup _, _, _ => by simp [D.py, PyData.eqv]
  | n, m, .non, .lst _, _, _ => by simp [D.py, PyData.eqv]
  | n, m, .int _, .non, _, _ => by simp [D.py, PyData.eqv]
  | n, m, .int a, .int b, _, _ => by simp [D.py, PyData.eqv]
  | n, m, .int _, .str _, _, _ => by simp [D.py, PyData.eqv]
  | n, m, .int _, .tup _, _, _ => by simp [D.py, PyData.eqv]
  | n, m, .int _, .lst _, _, _ => by simp [D.py, PyData.eqv]
  | n, m, .str _, .non, _, _ => by simp [D.py, PyData.eqv]
  | n, m, .str _, .int _, _, _ => by simp [D.py, PyData.eqv]
  | n, m, .str a, .str b, _, _ => by simp [D.py, PyData.eqv]
  | n, m, .str _, .tup _, _, _ => by simp [D.py, PyData.eqv]
  | n, m, .str _, .lst _, _, _ => by simp [D.py, PyData.eqv]
  | n, m, .tup _, .non, _, _ => by simp [D.py, PyData.eqv]
  | n, m, .tup _, .int _, _, _ => by simp [D.py, PyData.eqv]
  | n, m, .tup _, .str _, _, _ => by simp [D.py, PyData.eqv]
  | 0, _, .tup _, .tup _, h, _ => h.elim
  | _, 0, .tup _, .tup _, _, h => h.elim
  | n + 1, m + 1, .tup xs, .tup ys, h, g => by
    have := shs_eqv xs ys (show shs n xs from h) (show shs m ys from g)
    show PyData.eqvAll (pys xs) (pys ys) = true ↔ _
    rw [this]
    simp
  | n, m, .tup _, .lst _, _, _ => by simp [D.py, PyData.eqv]
  | n, m, .lst _, .non, _, _ => by simp [D.py, PyData.eqv]
  | n, m, .lst _, .int _, _, _ => by simp [D.py, PyData.eqv]
  | n, m, .lst _, .str _, _, _ => by simp [D.py, PyData.eqv]
  | n, m, .lst _, .tup _, _, _ => by simp [D.py, PyData.eqv]
  | 0, _, .lst _, .lst _, h, _ => h.elim
  | _, 0, .lst _, .lst _, _, h => h.elim
  | n + 1, m + 1, .lst xs, .lst ys, h, g => by
    have := shs_eqv xs ys (show shs n xs from h) (show shs m ys from g)
    show PyData.eqvAll (pys xs) (pys ys) = true ↔ _
    rw [this]
    simp
  | n, _, .bl _, _, h, _ => by cases n <;> exact h.elim
  | n, _, .dct _, _, h, _ => by cases n <;> exact h.elim
  | n, _, .dtt _, _, h, _ => by cases n <;> exact h.elim
  | n, _, .ins _ _, _, h, _ => by cases n <;> exact h.elim
  | n, _, .ptr _, _, h, _ => by cases n <;> exact h.elim
  | n, _, .key _, _, h, _ => by cases n <;> exact h.elim
  | n, _, .scr _, _, h, _ => by cases n <;> exact h.elim
  | n, _, .vls _, _, h, _ => by cases n <;> exact h.elim
  | n, _, .vtp _, _, h, _ => by cases n <;> exact h.elim
  | n, _, .all _ _, _, h, _ => by cases n <;> exact h.elim
  | _, m, _, .bl _, _, h => by cases m <;> exact h.elim
  | _, m, _, .dct _, _, h => by cases m <;> exact h.elim
  | _, m, _, .dtt _, _, h => by cases m <;> exact h.elim
  | _, m, _, .ins _ _, _, h => by cases m <;> exact h.elim
  | _, m, _, .ptr _, _, h => by cases m <;> exact h.elim
  | _, m, _, .key _, _, h => by cases m <;> exact h.elim
  | _, m, _, .scr _, _, h => by cases m <;> exact h.elim
  | _, m, _, .vls _, _, h => by cases m <;> exact h.elim
  | _, m, _, .vtp _, _, h => by cases m <;> exact h.elim
  | _, m, _, .all _ _, _, h => by cases m <;> exact h.elim
theorem shs_eqv : ∀ {n m : Nat} (xs ys : List D), shs n xs → shs m ys → (PyData.eqvAll (pys xs) (pys ys) = true ↔ xs = ys)
  | _, _, [], [], _, _ => by simp [pys, PyData.eqvAll]
  | _, _, [], _ :: _, _, _ => by simp [pys, PyData.eqvAll]
  | _, _, _ :: _, [], _, _ => by simp [pys, PyData.eqvAll]
  | n, m, x :: xs, y :: ys, h, g => by
    show (PyData.eqv x.py y.py && PyData.eqvAll (pys xs) (pys ys)) = true ↔ _
    rw [Bool.and_eq_true, D.eqv_iff x y h.1 g.1, shs_eqv xs ys h.2 g.2]
    simp
end
mutual
theorem Rep.dp {K : PySem.W.Frag} {B H : Hp} (e : Ex B H) : ∀ {n : Nat} {v : V} {d : D}, D.sh n d → Rep K B v d → Dp K H v d.py
  | _, _, _, _, .non => .non
  | _, _, _, _, .int i => .int i
  | _, _, _, _, .str s => .str s
  | 0, _, _, h, .tup _ _ => h.elim
  | n + 1, _, _, h, .tup q r => .tup (e.le.sqT q) (Reps.dp e h r)
  | 0, _, _, h, .lst _ _ => h.elim
  | n + 1, _, _, h, .lst q r => .lst (.inl (.inl (e _ _ q))) (Reps.dp e h r)
  | n, _, _, h, .bl _ => by cases n <;> exact h.elim
  | n, _, _, h, .dct _ _ => by cases n <;> exact h.elim
  | n, _, _, h, .dtt _ => by cases n <;> exact h.elim
  | n, _, _, h, .ins _ _ => by cases n <;> exact h.elim
  | n, _, _, h, .ptr _ => by cases n <;> exact h.elim
  | n, _, _, h, .key _ => by cases n <;> exact h.elim
  | n, _, _, h, .scr _ => by cases n <;> exact h.elim
  | n, _, _, h, .vls _ => by cases n <;> exact h.elim
  | n, _, _, h, .vtp _ => by cases n <;> exact h.elim
  | n, _, _, h, .all _ => by cases n <;> exact h.elim
theorem Reps.dp {K : PySem.W.Frag} {B H : Hp} (e : Ex B H) : ∀ {n : Nat} {vs : List V} {ds : List D}, shs n ds → Reps K B vs ds → DpAll K H vs (pys ds)
  | _, _, _, _, .nil => .nil
  | _, _, _, h, .cons q r => .cons (Rep.dp e h.1 q) (Reps.dp e h.2 r)
end
/-! ### comparisons -/
def CmpOk (X : Cx) (op : CmpOp) (d1 d2 : D) (b : Bool) : Prop := ∃ r : R2, OpR X (compareOp op) r ∧ ∀ (x y : V) (B H : Hp) (Q : VK), Ex B H → Rep X.K B x d1 → Rep X.K B y d2 → Q (.bl b) H → r x y H Q
section
variable {X : Cx} {E : En} {a b : Expr} {d1 d2 : D} {pos : Pos} {op : CmpOp} {k : Bool}
theorem h_cmp (hc : CmpOk X op d1 d2 k) (ha : HasD X E a d1) (hb : HasD X E b d2) (hm : behindInMarks op b = false := by first | exact nomark _ | rfl) : HasD X E (.Compare a [op] [b] pos) (.bl k) := by
  obtain ⟨r, hr, hq⟩ := hc
  refine PE.mono (pe_cmpR hr ha hb hm) fun σ H Q ⟨F, τ, S, kt⟩ => ⟨F, τ, S, fun v s H1 hs o => ?_⟩
  cases hs
  refine ⟨F, τ, S.grow o.ex, fun w s H2 hs2 o2 => ?_⟩
  cases hs2
  refine hq v w (base F H2 (ow F E)) H2 Q (((S.grow o.ex).grow o2.ex).bex) (Rep.le ((S.grow o.ex).bmono o2.ex).le o.rp) o2.rp ?_
  exact kt _ _ _ rfl (.val (o.ex.trans o2.ex) (.bl k))
theorem t_cmp (hc : CmpOk X op d1 d2 k) (ha : HasD X E a d1) (hb : HasD X E b d2) (hm : behindInMarks op b = false := by first | exact nomark _ | rfl) : HasT X E (.Compare a [op] [b] pos) k := by
  obtain ⟨r, hr, hq⟩ := hc
  refine PT.mono (pt_cmpR hr ha hb hm) fun σ H Q ⟨F, τ, S, kt⟩ => ⟨F, τ, S, fun v s H1 hs o => ?_⟩
  cases hs
  refine ⟨F, τ, S.grow o.ex, fun w s H2 hs2 o2 => ?_⟩
  cases hs2
  exact hq v w (base F H2 (ow F E)) H2 _ (((S.grow o.ex).grow o2.ex).bex) (Rep.le ((S.grow o.ex).bmono o2.ex).le o.rp) o2.rp ⟨k, rfl, kt H2 (o.ex.trans o2.ex)⟩
end
section
variable {X : Cx}
theorem c_eqS {x y : Str} : CmpOk X .Eq (.str x) (.str y) (decide (x = y)) := ⟨_, op_eq, fun u v B H Q e r1 r2 q => by
  cases r1; cases r2
  refine ⟨rfl, ?_⟩
  have : decide (V.str x = V.str y) = decide (x = y) := by simp
  rw [this]; exact q⟩
theorem c_neS {x y : Str} : CmpOk X .NotEq (.str x) (.str y) (!decide (x = y)) := ⟨_, op_ne, fun u v B H Q e r1 r2 q => by
  cases r1; cases r2
  refine ⟨rfl, ?_⟩
  have : decide (V.str x = V.str y) = decide (x = y) := by simp
  rw [this]; exact q⟩
theorem c_eqI {x y : Int} : CmpOk X .Eq (.int x) (.int y) (decide (x = y)) := ⟨_, op_eq, fun u v B H Q e r1 r2 q => by
  cases r1; cases r2
  refine ⟨rfl, ?_⟩
  have : decide (V.int x = V.int y) = decide (x = y) := by simp
  rw [this]; exact q⟩
theorem c_neI {x y : Int} : CmpOk X .NotEq (.int x) (.int y) (!decide (x = y)) := ⟨_, op_ne, fun u v B H Q e r1 r2 q => by
  cases r1; cases r2
  refine ⟨rfl, ?_⟩
  have : decide (V.int x = V.int y) = decide (x = y) := by simp
  rw [this]; exact q⟩
/-- truth values, by != -/
theorem c_neB {x y : Bool} : CmpOk X .NotEq (.bl x) (.bl y) (!decide (x = y)) := ⟨_, op_ne, fun u v B H Q e r1 r2 q => by
  cases r1; cases r2
  refine ⟨rfl, ?_⟩
  have : decide (V.bl x = V.bl y) = decide (x = y) := by simp
  rw [this]; exact q⟩
theorem c_lt {x y : Int} : CmpOk X .Lt (.int x) (.int y) (decide (x < y)) := ⟨_, op_lt, fun u v B H Q e r1 r2 q => by
  cases r1; cases r2
  exact ⟨_, _, rfl, rfl, q⟩⟩
theorem c_le {x y : Int} : CmpOk X .LtE (.int x) (.int y) (decide (x ≤ y)) := ⟨_, op_le, fun u v B H Q e r1 r2 q => by
  cases r1; cases r2
  exact ⟨_, _, rfl, rfl, q⟩⟩
theorem c_gt {x y : Int} : CmpOk X .Gt (.int x) (.int y) (decide (y < x)) := ⟨_, op_gt, fun u v B H Q e r1 r2 q => by
  cases r1; cases r2
  exact ⟨_, _, rfl, rfl, q⟩⟩
theorem c_ge {x y : Int} : CmpOk X .GtE (.int x) (.int y) (decide (y ≤ x)) := ⟨_, op_ge, fun u v B H Q e r1 r2 q => by
  cases r1; cases r2
  exact ⟨_, _, rfl, rfl, q⟩⟩
/-- == of plain data -/
theorem c_eqD {n m : Nat} {d e : D} {k : Bool} (hu : X.A.units + 64 < cLine) (hd : D.sh n d) (he : D.sh m e) (hk : k = true ↔ d = e) (hn : n ≤ 64 := by decide) (hm : m ≤ 64 := by decide) : CmpOk X .Eq d e k :=
  ⟨_, op_eqD hu, fun u v B H Q ex r1 r2 q => ⟨d.py, e.py, Rep.dp ex hd r1, Rep.dp ex he r2, D.shaped hd hn, D.shaped he hm, by
    have : PyData.eqv d.py e.py = k := by
      rw [Bool.eq_iff_iff, D.eqv_iff d e hd he, hk]
    rw [this]; exact q⟩⟩
theorem c_neD {n m : Nat} {d e : D} {k : Bool} (hu : X.A.units + 64 < cLine) (hd : D.sh n d) (he : D.sh m e) (hk : k = true ↔ d ≠ e) (hn : n ≤ 64 := by decide) (hm : m ≤ 64 := by decide) : CmpOk X .NotEq d e k :=
  ⟨_, op_neD hu, fun u v B H Q ex r1 r2 q => ⟨d.py, e.py, Rep.dp ex hd r1, Rep.dp ex he r2, D.shaped hd hn, D.shaped he hm, by
    have : (!PyData.eqv d.py e.py) = k := by
      rw [Bool.eq_iff_iff, hk, ne_eq, ← D.eqv_iff d e hd he]
      simp
    rw [this]; exact q⟩⟩
theorem any_eqv {n m : Nat} {d : D} (hd : D.sh n d) : ∀ {ds : List D}, shs m ds → (((pys ds).any fun z => PyData.eqv z d.py) = true ↔ d ∈ ds)
  | [], _ => by simp [pys]
  | e :: es, h => by
    show ((PyData.eqv e.py d.py || (pys es).any fun z => PyData.eqv z d.py) = true) ↔ _
    rw [Bool.or_eq_true, D.eqv_iff e d h.1 hd, any_eqv hd h.2]
    simp [eq_comm]
theorem c_inL {n m : Nat} {d : D} {ds : List D} {k : Bool} (hu : X.A.units + 65 < cLine) (hd : D.sh n d) (he : shs m ds) (hk : k = true ↔ d ∈ ds) (hn : n ≤ 64 := by decide) (hm : m ≤ 63 := by decide) : CmpOk X .In d (.lst ds) k :=
  ⟨_, op_inD hu, fun u v B H Q ex r1 r2 q => ⟨d.py, pys ds, Rep.dp ex hd r1, Rep.dp (n := m + 1) (d := .lst ds) ex he r2, D.shaped hd hn, D.shaped (n := m + 1) (d := .lst ds) he (Nat.succ_le_succ hm), by
    have : ((pys ds).any fun z => PyData.eqv z d.py) = k := by
      rw [Bool.eq_iff_iff, any_eqv hd he, hk]
    rw [this]; exact q⟩⟩
theorem c_ninL {n m : Nat} {d : D} {ds : List D} {k : Bool} (hu : X.A.units + 65 < cLine) (hd : D.sh n d) (he : shs m ds) (hk : k = true ↔ d ∉ ds) (hn : n ≤ 64 := by decide) (hm : m ≤ 63 := by decide) : CmpOk X .NotIn d (.lst ds) k :=
  ⟨_, op_notInD hu, fun u v B H Q ex r1 r2 q => ⟨d.py, pys ds, Rep.dp ex hd r1, Rep.dp (n := m + 1) (d := .lst ds) ex he r2, D.shaped hd hn, D.shaped (n := m + 1) (d := .lst ds) he (Nat.succ_le_succ hm), by
    have : (!(pys ds).any fun z => PyData.eqv z d.py) = k := by
      rw [Bool.eq_iff_iff, hk, ← any_eqv hd he]
      simp
    rw [this]; exact q⟩⟩
def rInT (K : PySem.W.Frag) : R2 := fun x y H Q => ∃ d ds, Dp K H x d ∧ Dp K H y (.tuple ds) ∧ SeqAt.shaped d = true ∧ SeqAt.shaped (.tuple ds) = true ∧ Q (.bl (ds.any fun z => PyData.eqv z d)) H
def rNotInT (K : PySem.W.Frag) : R2 := fun x y H Q => ∃ d ds, Dp K H x d ∧ Dp K H y (.tuple ds) ∧ SeqAt.shaped d = true ∧ SeqAt.shaped (.tuple ds) = true ∧ Q (.bl (!ds.any fun z => PyData.eqv z d)) H
theorem op_inTD (hu : X.A.units + 65 < cLine) : OpR X (compareOp .In) (rInT X.K) := by
  intro pins s σ H x y v u Q I rx ry h
  obtain ⟨d, ds, hd, he, sd, se, q⟩ := h
  obtain ⟨as, r1⟩ := Dp.reads I d x v hd rx
  obtain ⟨bs, r2⟩ := Dp.reads I (.tuple ds) y u he ry
  exact SeqAt.in_tuple_reads r2 r1 (SeqAt.canLay_of_shaped se) (SeqAt.canLay_of_shaped sd) (room_in_shaped sd hu) ⟨.bl _, H, I, rfl, q⟩
theorem op_notInTD (hu : X.A.units + 65 < cLine) : OpR X (compareOp .NotIn) (rNotInT X.K) := by
  intro pins s σ H x y v u Q I rx ry h
  obtain ⟨d, ds, hd, he, sd, se, q⟩ := h
  obtain ⟨as, r1⟩ := Dp.reads I d x v hd rx
  obtain ⟨bs, r2⟩ := Dp.reads I (.tuple ds) y u he ry
  exact SeqAt.notIn_tuple_reads r2 r1 (SeqAt.canLay_of_shaped se) (SeqAt.canLay_of_shaped sd) (room_in_shaped sd hu) ⟨.bl _, H, I, rfl, q⟩
theorem c_inT {n m : Nat} {d : D} {ds : List D} {k : Bool} (hu : X.A.units + 65 < cLine) (hd : D.sh n d) (he : shs m ds) (hk : k = true ↔ d ∈ ds) (hn : n ≤ 64 := by decide) (hm : m ≤ 63 := by decide) : CmpOk X .In d (.tup ds) k :=
  ⟨_, op_inTD hu, fun u v B H Q ex r1 r2 q => ⟨d.py, pys ds, Rep.dp ex hd r1, Rep.dp (n := m + 1) (d := .tup ds) ex he r2, D.shaped hd hn, D.shaped (n := m + 1) (d := .tup ds) he (Nat.succ_le_succ hm), by
    have : ((pys ds).any fun z => PyData.eqv z d.py) = k := by
      rw [Bool.eq_iff_iff, any_eqv hd he, hk]
    rw [this]; exact q⟩⟩
theorem c_ninT {n m : Nat} {d : D} {ds : List D} {k : Bool} (hu : X.A.units + 65 < cLine) (hd : D.sh n d) (he : shs m ds) (hk : k = true ↔ d ∉ ds) (hn : n ≤ 64 := by decide) (hm : m ≤ 63 := by decide) : CmpOk X .NotIn d (.tup ds) k :=
  ⟨_, op_notInTD hu, fun u v B H Q ex r1 r2 q => ⟨d.py, pys ds, Rep.dp ex hd r1, Rep.dp (n := m + 1) (d := .tup ds) ex he r2, D.shaped hd hn, D.shaped (n := m + 1) (d := .tup ds) he (Nat.succ_le_succ hm), by
    have : (!(pys ds).any fun z => PyData.eqv z d.py) = k := by
      rw [Bool.eq_iff_iff, hk, ← any_eqv hd he]
      simp
    rw [this]; exact q⟩⟩
def D.isNon : D → Bool
  | .non => true
  | _ => false
theorem Rep.isNon {K : PySem.W.Frag} {B : Hp} {v : V} {d : D} (r : Rep K B v d) : decide (v = V.non) = d.isNon := by
  cases r <;> rfl
theorem c_isN {d : D} : CmpOk X .Is d .non d.isNon := ⟨_, op_isN, fun u v B H Q e r1 r2 q => by
  cases r2
  exact ⟨rfl, by rw [r1.isNon]; exact q⟩⟩
theorem c_notN {d : D} : CmpOk X .IsNot d .non (!d.isNon) := ⟨_, op_notN, fun u v B H Q e r1 r2 q => by
  cases r2
  exact ⟨rfl, by rw [r1.isNon]; exact q⟩⟩
theorem c_notInSign {c : Nat} {z : Str} : CmpOk X .NotIn (.str ⟨#[c]⟩) (.str z) (!decide (c ∈ z.cps.toList)) := ⟨_, op_notIn_sign, fun u v B H Q e r1 r2 q => by
  cases r1; cases r2
  exact ⟨c, z, rfl, rfl, q⟩⟩
/-- dicts -/
theorem RepsD.val {K : PySem.W.Frag} {B : Hp} {x : Str} : ∀ {ks : List (Key × V)} {ds : List (Str × D)}, RepsD K B ks ds → (valV ks (.inr x) = none ∧ ds.lookup x = none) ∨ ∃ v d, valV ks (.inr x) = some v ∧ ds.lookup x = some d ∧ Rep K B v d
  | _, _, .nil => .inl ⟨rfl, rfl⟩
  | _, _, .cons (x := y) (v := v) (d := d) (vs := ks) (ds := ds) h r => by
    by_cases e : y = x
    · subst e
      refine .inr ⟨v, d, valV_pos rfl, ?_, h⟩
      rw [List.lookup_cons, beq_self_eq_true]
    · have e1 : valV (((Sum.inr y : Key), v) :: ks) (.inr x) = valV ks (.inr x) := valV_neg fun z => e (Sum.inr.inj z)
      have e2 : ((y, d) :: ds).lookup x = ds.lookup x := by
        rw [List.lookup_cons, show (x == y) = false from beq_eq_false_iff_ne.mpr (Ne.symm e)]
      rw [e1, e2]
      exact RepsD.val r
theorem op_inDK (hu : X.A.units + 1 < cLine) : OpR X (compareOp .In) (fun y x H Q => ∃ a o, x = .ref a ∧ DGet H a y o ∧ Q (.bl o.isSome) H) := by
  intro pins s σ H y x u v Q I ry rx h
  obtain ⟨a, o, rfl, g, q⟩ := h
  cases rx
  exact d_in hu I g ry fun s' I' => ⟨.bl _, H, I', rfl, q⟩
theorem op_notInDK (hu : X.A.units + 1 < cLine) : OpR X (compareOp .NotIn) (fun y x H Q => ∃ a o, x = .ref a ∧ DGet H a y o ∧ Q (.bl (!o.isSome)) H) := by
  intro pins s σ H y x u v Q I ry rx h
  obtain ⟨a, o, rfl, g, q⟩ := h
  cases rx
  exact d_notIn hu I g ry fun s' I' => ⟨.bl _, H, I', rfl, q⟩
theorem dget_rd {H : Hp} {a : Addr} {kvs : List (Key × V)} {k : Key} (e : Rd H a (.dK kvs)) : DGet H a (kV k) (valV kvs k) := .inl ⟨kvs, k, e, rfl, rfl⟩
theorem c_inD {x : Str} {ds : List (Str × D)} (hu : X.A.units + 1 < cLine) : CmpOk X .In (.str x) (.dct ds) (ds.lookup x).isSome := ⟨_, op_inDK hu, fun u v B H Q e r1 r2 q => by
  cases r1
  cases r2 with
  | dct h r =>
    refine ⟨_, _, rfl, dget_rd (k := .inr x) (e.le.rd _ _ rfl h), ?_⟩
    rcases RepsD.val (x := x) r with ⟨h1, h2⟩ | ⟨v, d, h1, h2, _⟩
    · rw [h1]; rw [h2] at q; exact q
    · rw [h1]; rw [h2] at q; exact q⟩
theorem c_ninD {x : Str} {ds : List (Str × D)} (hu : X.A.units + 1 < cLine) : CmpOk X .NotIn (.str x) (.dct ds) (!(ds.lookup x).isSome) := ⟨_, op_notInDK hu, fun u v B H Q e r1 r2 q => by
  cases r1
  cases r2 with
  | dct h r =>
    refine ⟨_, _, rfl, dget_rd (k := .inr x) (e.le.rd _ _ rfl h), ?_⟩
    rcases RepsD.val (x := x) r with ⟨h1, h2⟩ | ⟨v, d, h1, h2, _⟩
    · rw [h1]; rw [h2] at q; exact q
    · rw [h1]; rw [h2] at q; exact q⟩
end
/-! ### tests -/
section
variable {X : Cx} {E : En} {a b c e : Expr} {rest : List Expr} {pos : Pos} {k k1 k2 : Bool}
theorem t_val (h : HasD X E e (.bl k)) (he : ∀ whole, isTrue e X.env whole = (do let v ← whole; standAt e.pos; holding [v] (truthy v)) := by intro _; rfl) : HasT X E e k := PT.mono (pt_val h he) fun σ H Q ⟨F, τ, S, kt⟩ => ⟨F, τ, S, fun v s H1 hs o => by
  cases hs
  have r := o.rp
  cases r
  exact ⟨k, rfl, kt H1 o.ex⟩⟩
theorem t_not (h : HasT X E a k) : HasT X E (.UnaryOp .Not a pos) (!k) := PT.mono (pt_not h) fun σ H Q ⟨F, τ, S, kt⟩ => ⟨F, τ, S, fun H1 e1 => kt H1 e1⟩
theorem pt_no {e : Expr} : PT X e (fun _ _ _ => False) := ⟨fun _ _ _ _ _ _ h => h.elim⟩
theorem pw_no {e : Expr} : PW X e (fun _ _ _ => False) := ⟨fun _ _ _ _ _ _ _ h => h.elim⟩
theorem pe_no {e : Expr} : PE X e (fun _ _ _ => False) := ⟨fun _ _ _ _ _ _ h => h.elim⟩
theorem w_and (ha : HasT X E a k1) (hb : k1 = true → HasW X E (.BoolOp .And (b :: rest) pos) k2) : HasW X E (.BoolOp .And (a :: b :: rest) pos) (k1 && k2) := by
  cases k1 with
  | true => exact PW.mono (pw_and ha (hb rfl)) fun σ H Q ⟨F, τ, S, kt⟩ => ⟨F, τ, S, fun H1 e1 => by
      refine iteT ?_
      exact ⟨F, τ, S.grow e1, fun H2 e2 => kt H2 (e1.trans e2)⟩⟩
  | false => exact PW.mono (pw_and ha pw_no) fun σ H Q ⟨F, τ, S, kt⟩ => ⟨F, τ, S, fun H1 e1 => by
      refine iteF ?_
      exact kt H1 e1⟩
theorem w_and1 (ha : HasT X E a k) : HasW X E (.BoolOp .And [a] pos) k := pw_and1 ha
theorem w_or (ha : HasT X E a k1) (hb : k1 = false → HasW X E (.BoolOp .Or (b :: rest) pos) k2) : HasW X E (.BoolOp .Or (a :: b :: rest) pos) (k1 || k2) := by
  cases k1 with
  | false => exact PW.mono (pw_or ha (hb rfl)) fun σ H Q ⟨F, τ, S, kt⟩ => ⟨F, τ, S, fun H1 e1 => by
      refine iteF ?_
      exact ⟨F, τ, S.grow e1, fun H2 e2 => kt H2 (e1.trans e2)⟩⟩
  | true => exact PW.mono (pw_or ha pw_no) fun σ H Q ⟨F, τ, S, kt⟩ => ⟨F, τ, S, fun H1 e1 => by
      refine iteT ?_
      exact kt H1 e1⟩
theorem w_or1 (ha : HasT X E a k) : HasW X E (.BoolOp .Or [a] pos) k := pw_or1 ha
theorem t_w {e : Expr} (h : HasW X E e k) : HasT X E e k := PW.pt h
theorem t_is {e : Expr} (h : HasT X E e k1) (hk : k1 = k2) : HasT X E e k2 := hk ▸ h
theorem d_is {e : Expr} {d d' : D} (h : HasD X E e d) (hk : d = d') : HasD X E e d' := hk ▸ h
theorem r_is {e : Expr} {d d' : Rs} (h : HasR X E e d) (hk : d = d') : HasR X E e d' := hk ▸ h
/-- and, or as values -/
theorem h_and {b : Expr} {rest : List Expr} (ha : HasD X E a (.bl k1)) (hb : k1 = true → HasD X E (.BoolOp .And (b :: rest) pos) (.bl k2)) : HasD X E (.BoolOp .And (a :: b :: rest) pos) (.bl (k1 && k2)) := by
  cases k1 with
  | true => exact PE.mono (pe_and ha (hb rfl)) fun σ H Q ⟨F, τ, S, kt⟩ => ⟨F, τ, S, fun v s H1 hs o => by
      cases hs
      have r := o.rp
      cases r
      refine ⟨true, rfl, ?_⟩
      refine iteT ?_
      exact ⟨F, τ, S.grow o.ex, Kt.later kt o.ex⟩⟩
  | false => exact PE.mono (pe_and ha pe_no) fun σ H Q ⟨F, τ, S, kt⟩ => ⟨F, τ, S, fun v s H1 hs o => by
      cases hs
      have r := o.rp
      cases r
      refine ⟨false, rfl, ?_⟩
      refine iteF ?_
      exact kt _ _ _ rfl (.val o.ex (.bl false))⟩
theorem h_and1 {d : D} (ha : HasD X E a d) : HasD X E (.BoolOp .And [a] pos) d := pe_one ha
theorem h_or {b : Expr} {rest : List Expr} (ha : HasD X E a (.bl k1)) (hb : k1 = false → HasD X E (.BoolOp .Or (b :: rest) pos) (.bl k2)) : HasD X E (.BoolOp .Or (a :: b :: rest) pos) (.bl (k1 || k2)) := by
  cases k1 with
  | false => exact PE.mono (pe_or ha (hb rfl)) fun σ H Q ⟨F, τ, S, kt⟩ => ⟨F, τ, S, fun v s H1 hs o => by
      cases hs
      have r := o.rp
      cases r
      refine ⟨false, rfl, ?_⟩
      refine iteF ?_
      exact ⟨F, τ, S.grow o.ex, Kt.later kt o.ex⟩⟩
  | true => exact PE.mono (pe_or ha pe_no) fun σ H Q ⟨F, τ, S, kt⟩ => ⟨F, τ, S, fun v s H1 hs o => by
      cases hs
      have r := o.rp
      cases r
      refine ⟨true, rfl, ?_⟩
      refine iteT ?_
      exact kt _ _ _ rfl (.val o.ex (.bl true))⟩
theorem h_or1 {d : D} (ha : HasD X E a d) : HasD X E (.BoolOp .Or [a] pos) d := pe_one ha
theorem h_not (ha : HasD X E a (.bl k)) : HasD X E (.UnaryOp .Not a pos) (.bl (!k)) := PE.mono (pe_not ha) fun σ H Q ⟨F, τ, S, kt⟩ => ⟨F, τ, S, fun v s H1 hs o => by
  cases hs
  have r := o.rp
  cases r
  exact ⟨k, rfl, kt _ _ _ rfl (.val o.ex (.bl _))⟩⟩
theorem h_if {r : Rs} (hc : HasT X E c k) (ha : k = true → HasR X E a r) (hb : k = false → HasR X E b r) : HasR X E (.IfExp c a b pos) r := by
  cases k with
  | true => exact PE.mono (pe_ifExp hc (ha rfl) (pe_no (e := b))) fun σ H Q ⟨F, τ, S, kt⟩ => ⟨F, τ, S, fun H1 e1 => by
      refine iteT ?_
      exact ⟨F, τ, S.grow e1, Kt.later kt e1⟩⟩
  | false => exact PE.mono (pe_ifExp hc (pe_no (e := a)) (hb rfl)) fun σ H Q ⟨F, τ, S, kt⟩ => ⟨F, τ, S, fun H1 e1 => by
      refine iteF ?_
      exact ⟨F, τ, S.grow e1, Kt.later kt e1⟩⟩
end
/-! ### operators -/
def BinOk (X : Cx) (f : Value → Value → Sem Value) (IX : Cx → (Value → Value → Sem Value) → R2 → Prop) (d1 d2 : D) (r : Rs) : Prop := ∃ rr : R2, IX X f rr ∧ ∀ (F : Fm) (E : En) (τ : List (V × D)) (σ : L2.St) (H : Hp) (x y : V) (Q : VK),
  SR X.K F E τ σ H → Rep X.K (base F H (ow F E)) x d1 → Rep X.K (base F H (ow F E)) y d2 → Kt X.K F (ow F E) H r Q → rr x y H Q
abbrev OpOk (X : Cx) (op : Operator) (d1 d2 : D) (r : Rs) : Prop := BinOk X (binaryOp op) OpR d1 d2 r
abbrev IxOk (X : Cx) (d1 d2 : D) (r : Rs) : Prop := BinOk X (fun _ _ => pure .none) (fun X _ r => IxR X r) d1 d2 r
section
variable {X : Cx} {E : En} {a b : Expr} {d1 d2 : D} {pos : Pos} {r : Rs}
theorem h_op {op : Operator} (hc : OpOk X op d1 d2 r) (ha : HasD X E a d1) (hb : HasD X E b d2) : HasR X E (.BinOp a op b pos) r := by
  obtain ⟨rr, hr, hq⟩ := hc
  refine PE.mono (pe_op hr ha hb) fun σ H Q ⟨F, τ, S, kt⟩ => ⟨F, τ, S, fun v s H1 hs o => ?_⟩
  cases hs
  refine ⟨F, τ, S.grow o.ex, fun w s H2 hs2 o2 => ?_⟩
  cases hs2
  exact hq F E τ σ H2 v w Q ((S.grow o.ex).grow o2.ex) (Rep.le ((S.grow o.ex).bmono o2.ex).le o.rp) o2.rp (Kt.later kt (o.ex.trans o2.ex))
theorem h_ix (hc : IxOk X d1 d2 r) (ha : HasD X E a d1) (hb : HasD X E b d2) (hs : PlainIx b := by exact fun _ _ => rfl) : HasR X E (.Subscript a b pos) r := by
  obtain ⟨rr, hr, hq⟩ := hc
  refine PE.mono (pe_ix hr ha hb hs) fun σ H Q ⟨F, τ, S, kt⟩ => ⟨F, τ, S, fun v s H1 hs o => ?_⟩
  cases hs
  refine ⟨F, τ, S.grow o.ex, fun w s H2 hs2 o2 => ?_⟩
  cases hs2
  exact hq F E τ σ H2 v w Q ((S.grow o.ex).grow o2.ex) (Rep.le ((S.grow o.ex).bmono o2.ex).le o.rp) o2.rp (Kt.later kt (o.ex.trans o2.ex))
end
section
variable {X : Cx}
theorem o_add {i j : Int} : OpOk X .Add (.int i) (.int j) (.val (.int (i + j))) := ⟨_, op_add, fun F E τ σ H x y Q S r1 r2 k => by
  cases r1; cases r2
  exact ⟨i, j, rfl, rfl, kt_val k (.int _)⟩⟩
theorem o_sub {i j : Int} : OpOk X .Sub (.int i) (.int j) (.val (.int (i - j))) := ⟨_, op_sub, fun F E τ σ H x y Q S r1 r2 k => by
  cases r1; cases r2
  exact ⟨i, j, rfl, rfl, kt_val k (.int _)⟩⟩
theorem o_mulR {i j : Int} (h : -(2 ^ 64) < j ∧ j < 2 ^ 64) : OpOk X .Mult (.int i) (.int j) (.val (.int (i * j))) := ⟨_, op_mul, fun F E τ σ H x y Q S r1 r2 k => by
  cases r1; cases r2
  exact ⟨i, j, rfl, rfl, .inr h, kt_val k (.int _)⟩⟩
theorem o_mulL {i j : Int} (h : -(2 ^ 64) < i ∧ i < 2 ^ 64) : OpOk X .Mult (.int i) (.int j) (.val (.int (i * j))) := ⟨_, op_mul, fun F E τ σ H x y Q S r1 r2 k => by
  cases r1; cases r2
  exact ⟨i, j, rfl, rfl, .inl h, kt_val k (.int _)⟩⟩
theorem o_div {i j : Int} (h : 0 < j ∧ j < 1073741824) : OpOk X .FloorDiv (.int i) (.int j) (.val (.int (i / j))) := ⟨_, op_fdiv, fun F E τ σ H x y Q S r1 r2 k => by
  cases r1; cases r2
  exact ⟨i, j, rfl, rfl, h, kt_val k (.int _)⟩⟩
theorem o_mod {i j : Int} (h : 0 < j) : OpOk X .Mod (.int i) (.int j) (.val (.int (i % j))) := ⟨_, op_mod, fun F E τ σ H x y Q S r1 r2 k => by
  cases r1; cases r2
  exact ⟨i, j, rfl, rfl, h, kt_val k (.int _)⟩⟩
theorem o_pow {i j : Int} (h : CPow i j) : OpOk X .Pow (.int i) (.int j) (.val (.int (i ^ j.toNat))) := ⟨_, op_pow, fun F E τ σ H x y Q S r1 r2 k => by
  cases r1; cases r2
  exact ⟨i, j, rfl, rfl, h, kt_val k (.int _)⟩⟩
theorem o_or {i j : Int} : OpOk X .BitOr (.int i) (.int j) (.val (.int (Builtin.bitOr i j))) := ⟨_, op_or, fun F E τ σ H x y Q S r1 r2 k => by
  cases r1; cases r2
  exact ⟨i, j, rfl, rfl, kt_val k (.int _)⟩⟩
theorem o_addS {x y : Str} (h : x.length + y.length ≤ 1000) : OpOk X .Add (.str x) (.str y) (.val (.str (x ++ y))) := ⟨_, op_add_str, fun F E τ σ H u v Q S r1 r2 k => by
  cases r1; cases r2
  exact ⟨x, y, rfl, rfl, Nat.le_of_lt (small1000 h), kt_val k (.str _)⟩⟩
theorem Reps.append {K : PySem.W.Frag} {B : Hp} : ∀ {vs ws : List V} {ds es : List D}, Reps K B vs ds → Reps K B ws es → Reps K B (vs ++ ws) (ds ++ es)
  | _, _, _, _, .nil, r => r
  | _, _, _, _, .cons h t, r => .cons h (Reps.append t r)
theorem o_cat {ds es : List D} (h : ds.length + es.length ≤ 1000) : OpOk X .Add (.lst ds) (.lst es) (.nL (ds ++ es)) := ⟨_, op_cat, fun F E τ σ H u v Q S r1 r2 k => by
  cases r1 with
  | lst h1 q1 =>
    cases r2 with
    | lst h2 q2 => exact ⟨_, _, _, _, rfl, rfl, S.bex _ _ h1, S.bex _ _ h2, by rw [q1.len, q2.len]; exact Nat.le_of_lt (small1000 h), fun p hp => kt_lst S k (Reps.append q1 q2) hp⟩⟩
theorem o_catT {ds es : List D} (h : ds.length + es.length ≤ 1000) : OpOk X .Add (.tup ds) (.tup es) (.val (.tup (ds ++ es))) := ⟨_, op_catA, fun F E τ σ H u v Q S r1 r2 k => by
  cases r1 with
  | tup h1 q1 =>
    rename_i p1 vs1
    cases r2 with
    | tup h2 q2 =>
      rename_i p2 vs2
      refine ⟨_, _, _, _, rfl, rfl, S.bex.le.sqT h1, S.bex.le.sqT h2, by rw [q1.len, q2.len]; exact Nat.le_of_lt (small1000 h), fun e => ?_, fun _ e => ?_, fun _ _ p hp => kt_tup S k (Reps.append q1 q2) hp⟩
      · subst e
        cases q1
        exact kt_val k (.tup h2 q2)
      · subst e
        cases q2
        rw [List.append_nil] at k
        exact kt_val k (.tup h1 q1)⟩
theorem Reps.get {K : PySem.W.Frag} {B : Hp} : ∀ {vs : List V} {ds : List D} {i : Nat} {d : D}, Reps K B vs ds → ds[i]? = some d → ∃ v, vs[i]? = some v ∧ Rep K B v d
  | _, _, _, _, .nil, h => by simp at h
  | _, _, 0, _, .cons h t, e => by
    simp only [List.getElem?_cons_zero, Option.some.injEq] at e
    subst e
    exact ⟨_, rfl, h⟩
  | _, _, i + 1, _, .cons h t, e => by
    obtain ⟨v, h1, h2⟩ := Reps.get (i := i) t (by simpa using e)
    exact ⟨v, by simpa using h1, h2⟩
theorem i_tup {ds : List D} {j : Nat} {d : D} (h : ds[j]? = some d) : IxOk X (.tup ds) (.int (j : Int)) (.val d) := ⟨_, ix_tup, fun F E τ σ H u v Q S r1 r2 k => by
  cases r2
  cases r1 with
  | tup h1 q1 =>
    obtain ⟨w, hw, rw'⟩ := q1.get h
    exact ⟨_, _, _, _, rfl, rfl, S.bex.le.sqT h1, atI_nat hw, kt_val k rw'⟩⟩
theorem i_lst {ds : List D} {j : Nat} {d : D} (h : ds[j]? = some d) : IxOk X (.lst ds) (.int (j : Int)) (.val d) := ⟨_, ix_list, fun F E τ σ H u v Q S r1 r2 k => by
  cases r2
  cases r1 with
  | lst h1 q1 =>
    obtain ⟨w, hw, rw'⟩ := q1.get h
    exact ⟨_, _, _, _, rfl, rfl, SqL.of (S.bex _ _ h1), atI_nat hw, kt_val k rw'⟩⟩
theorem i_scr {ns : List Int} {j : Nat} {i : Int} (h : ns[j]? = some i) : IxOk X (.scr ns) (.int (j : Int)) (.val (.int i)) := ⟨_, ix_list, fun F E τ σ H u v Q S r1 r2 k => by
  cases r2
  cases r1 with
  | scr h1 => exact ⟨_, _, _, _, rfl, rfl, S.bex.le.sqL h1, atI_nat (v := V.int i) (by rw [List.getElem?_map, h] <;> rfl), kt_val k (.int i)⟩⟩
theorem i_str {x : Str} {j : Nat} {c : Nat} (hl : x.length ≤ 1000) (h : x.cps.toList[j]? = some c) : IxOk X (.str x) (.int (j : Int)) (.val (.str ⟨#[c]⟩)) := ⟨_, ix_str, fun F E τ σ H u v Q S r1 r2 k => by
  cases r2; cases r1
  exact ⟨x, _, c, rfl, rfl, Nat.le_of_lt (small1000 hl), atI_nat h, kt_val k (.str _)⟩⟩
end
section
variable {X : Cx} {E : En} {a b : Expr} {pos : Pos} {r : Rs}
theorem h_dget {ds : List (Str × D)} {x : Str} {d : D} (hu : X.A.units + 1 < cLine) (h : ds.lookup x = some d) (ha : HasD X E a (.dct ds)) (hb : HasD X E b (.str x)) (hs : NoSl b := by exact fun _ _ => rfl) : HasD X E (.Subscript a b pos) d :=
  PE.mono (pe_dget hu ha hb hs) fun σ H Q ⟨F, τ, S, kt⟩ => ⟨F, τ, S, fun v s H1 hs o => by
    cases hs
    refine ⟨F, τ, S.grow o.ex, fun w s H2 hs2 o2 => ?_⟩
    cases hs2
    have r1 := Rep.le ((S.grow o.ex).bmono o2.ex).le o.rp
    have r2 := o2.rp
    have S2 := (S.grow o.ex).grow o2.ex
    cases r2
    cases r1 with
    | dct h1 q1 =>
      rcases RepsD.val (x := x) q1 with ⟨_, h2⟩ | ⟨v, d', h2, h3, r3⟩
      · rw [h2] at h; cases h
      · rw [h3] at h
        cases h
        exact ⟨_, v, rfl, by
          have g := dget_rd (k := .inr x) (S2.bex.le.rd _ _ rfl h1)
          rw [h2] at g
          exact g, kt _ _ _ rfl (.val (o.ex.trans o2.ex) r3)⟩⟩
/-- slices -/
theorem h_sliceL {ds : List D} {k : Nat} {p2 : Pos} {hi : Expr} (ha : HasD X E a (.lst ds)) (hb : HasD X E hi (.int (k : Int))) : HasR X E (.Subscript a (.Slice none (some hi) none p2) pos) (.nL (ds.take k)) :=
  PE.mono (pe_slice sl_list ha po_none (po_some hb)) fun σ H Q ⟨F, τ, S, kt⟩ => ⟨F, τ, S, fun v s H1 hs o => by
    cases hs
    refine ⟨F, τ, S.grow o.ex, fun w s H2 hs2 o2 => ?_⟩
    cases hs2
    have r1 := Rep.le ((S.grow o.ex).bmono o2.ex).le o.rp
    have r2 := o2.rp
    have S2 := (S.grow o.ex).grow o2.ex
    cases r2
    refine ⟨_, rfl, ?_⟩
    cases r1 with
    | lst h1 q1 =>
      rename_i l vs
      refine ⟨l, vs, rfl, SqL.of (S2.bex _ _ h1), fun p hp => ?_⟩
      have e : cutV vs none (some (k : Int)) = vs.take k := by
        unfold cutV
        rw [HT.sIx_none, HT.sIx_nat, List.drop_zero, Nat.sub_zero]
        rcases Nat.le_total k vs.length with h | h
        · rw [Nat.min_eq_left h]
        · rw [Nat.min_eq_right h, List.take_of_length_le (Nat.le_refl _), List.take_of_length_le h]
      rw [e]
      exact kt_lst S2 (Kt.later kt (o.ex.trans o2.ex)) (Reps.take k q1) hp⟩
where
  Reps.take {K : PySem.W.Frag} {B : Hp} : ∀ {vs : List V} {ds : List D} (k : Nat), Reps K B vs ds → Reps K B (vs.take k) (ds.take k)
    | _, _, 0, _ => .nil
    | _, _, _ + 1, .nil => .nil
    | _, _, k + 1, .cons h t => .cons h (Reps.take k t)
theorem h_sliceB {ds : List D} {k : Nat} {p2 : Pos} {lo : Expr} (ha : HasD X E a (.lst ds)) (hb : HasD X E lo (.int (k : Int))) : HasR X E (.Subscript a (.Slice (some lo) none none p2) pos) (.nL (ds.drop k)) :=
  PE.mono (pe_slice sl_list ha (po_some hb) po_none) fun σ H Q ⟨F, τ, S, kt⟩ => ⟨F, τ, S, fun v s H1 hs o => by
    cases hs
    refine ⟨F, τ, S.grow o.ex, fun w s H2 hs2 o2 => ?_⟩
    cases hs2
    have r1 := Rep.le ((S.grow o.ex).bmono o2.ex).le o.rp
    have r2 := o2.rp
    have S2 := (S.grow o.ex).grow o2.ex
    cases r2
    refine ⟨_, rfl, ?_⟩
    cases r1 with
    | lst h1 q1 =>
      rename_i l vs
      refine ⟨l, vs, rfl, SqL.of (S2.bex _ _ h1), fun p hp => ?_⟩
      have e : cutV vs (some (k : Int)) none = vs.drop k := by
        unfold cutV
        rw [HT.sIx_none, HT.sIx_nat]
        rcases Nat.le_total k vs.length with h | h
        · rw [Nat.min_eq_left h, List.take_of_length_le (by rw [List.length_drop]; exact Nat.le_refl _)]
        · rw [Nat.min_eq_right h, Nat.sub_self, List.take_zero, List.drop_of_length_le h]
      rw [e]
      exact kt_lst S2 (Kt.later kt (o.ex.trans o2.ex)) (Reps.drop k q1) hp⟩
where
  Reps.drop {K : PySem.W.Frag} {B : Hp} : ∀ {vs : List V} {ds : List D} (k : Nat), Reps K B vs ds → Reps K B (vs.drop k) (ds.drop k)
    | _, _, 0, r => r
    | _, _, _ + 1, .nil => .nil
    | _, _, k + 1, .cons h t => Reps.drop k t
theorem h_sliceScr {ns : List Int} {k : Nat} {p2 : Pos} {hi : Expr} (ha : HasD X E a (.scr ns)) (hb : HasD X E hi (.int (k : Int))) : HasR X E (.Subscript a (.Slice none (some hi) none p2) pos) (.nL ((ns.take k).map D.int)) :=
  PE.mono (pe_slice sl_list ha po_none (po_some hb)) fun σ H Q ⟨F, τ, S, kt⟩ => ⟨F, τ, S, fun v s H1 hs o => by
    cases hs
    refine ⟨F, τ, S.grow o.ex, fun w s H2 hs2 o2 => ?_⟩
    cases hs2
    have r1 := Rep.le ((S.grow o.ex).bmono o2.ex).le o.rp
    have r2 := o2.rp
    have S2 := (S.grow o.ex).grow o2.ex
    cases r2
    refine ⟨_, rfl, ?_⟩
    cases r1 with
    | scr h1 =>
      rename_i l
      refine ⟨l, ns.map V.int, rfl, S2.bex.le.sqL h1, fun p hp => ?_⟩
      have e : cutV (ns.map V.int) none (some (k : Int)) = (ns.take k).map V.int := by
        unfold cutV
        rw [HT.sIx_none, HT.sIx_nat, List.drop_zero, Nat.sub_zero, List.map_take]
        rcases Nat.le_total k (ns.map V.int).length with h | h
        · rw [Nat.min_eq_left h]
        · rw [Nat.min_eq_right h, List.take_of_length_le (Nat.le_refl _), List.take_of_length_le h]
      rw [e]
      exact kt_lst S2 (Kt.later kt (o.ex.trans o2.ex)) (repInts _ (ns.take k)) hp⟩
where
  repInts {K : PySem.W.Frag} (B : Hp) : ∀ ns : List Int, Reps K B (ns.map V.int) (ns.map D.int)
    | [] => .nil
    | n :: r => .cons (.int n) (repInts B r)
theorem h_sliceS {x : Str} {k : Nat} {p2 : Pos} {hi : Expr} (hl : x.length ≤ 1000) (ha : HasD X E a (.str x)) (hb : HasD X E hi (.int (k : Int))) : HasD X E (.Subscript a (.Slice none (some hi) none p2) pos) (.str (cutS x none (some (k : Int)))) :=
  PE.mono (pe_slice sl_str ha po_none (po_some hb)) fun σ H Q ⟨F, τ, S, kt⟩ => ⟨F, τ, S, fun v s H1 hs o => by
    cases hs
    refine ⟨F, τ, S.grow o.ex, fun w s H2 hs2 o2 => ?_⟩
    cases hs2
    have r1 := o.rp
    have r2 := o2.rp
    cases r2
    cases r1
    exact ⟨_, rfl, x, rfl, Nat.le_of_lt (small1000 hl), kt _ _ _ rfl (.val (o.ex.trans o2.ex) (.str _))⟩⟩
end
end K39
/-! KStm -/
set_option maxHeartbeats 4000000
/-! ## statements over data -/
namespace K39
open PySem PySem.Spec PyProof.Rows L2
/-! ### changes of the state -/
section
variable {K : PySem.W.Frag} {F : Fm} {E : En} {τ : List (V × D)} {σ : L2.St} {H H' : Hp}
theorem ow_set (F : Fm) (E : En) {i : Nat} (hi : i < E.length) (o : Option Sl) : ow F (E.set i o) = owns ((E ++ F.gh.map some).set i o) := by
  unfold ow
  rw [List.set_append_left _ _ hi]
theorem ow_set_sub {l : Addr} {i : Nat} {o : Option Sl} (h : l ∈ ow F (E.set i o)) : l ∈ oOwn o ∨ l ∈ ow F E := by
  by_cases hi : i < E.length
  · rw [ow_set F E hi] at h
    exact owns_set_sub o _ i h
  · rw [List.set_eq_of_length_le (Nat.le_of_not_lt hi)] at h
    exact .inr h
theorem ow_set_nd {i : Nat} {o : Option Sl} (hn : (oOwn o).Nodup) (h : (ow F E).Nodup) (hd : ∀ l ∈ oOwn o, l ∈ ow F E → ∃ s, E[i]? = some (some s) ∧ l ∈ s.own) : (ow F (E.set i o)).Nodup := by
  by_cases hi : i < E.length
  · rw [ow_set F E hi]
    refine owns_set_nd hn _ i h fun l hl hr => ?_
    obtain ⟨s, h1, h2⟩ := hd l hl hr
    exact ⟨s, by rw [List.getElem?_append_left hi]; exact h1, h2⟩
  · rw [List.set_eq_of_length_le (Nat.le_of_not_lt hi)]
    exact h
/-- a slot takes what comes out of an expression -/
theorem SR.put (S : SR K F E τ σ H) {i : Nat} {v : V} {s : Sl} (o : Out K F (ow F E) H H' v s) (hi : i < σ.length) : SR K F (E.set i (some s)) τ (σ.set i (some v)) H' := by
  have hiE : i < E.length := by rw [← S.len]; exact hi
  -- what stood, without the new thing
  have b1 : Ex (base F H (ow F E)) (base F H' (s.own ++ ow F E)) := base_mono (fun a u _ _ q => o.ex a u q) fun a ha => by
    rcases List.mem_append.mp ha with z | z
    · refine .inr ?_
      have hn := o.new a z
      by_cases h1 : a ∈ ow F E
      · exact base_in h1
      · rw [base_new h1 (S.free hn)]; exact hn
    · exact .inl z
  have b2 : Ex (base F H' (s.own ++ ow F E)) (base F H' (ow F (E.set i (some s)))) := base_sub fun a ha => by
    rcases ow_set_sub ha with z | z
    · exact .inl (List.mem_append_left _ z)
    · exact .inl (List.mem_append_right _ z)
  have b3 := b1.trans b2
  refine ⟨by simp [S.len], fun j t hj => ?_, fun t ht => ?_, fun p hp => Rep.le b3.le (S.tmp p hp), S.ex.trans o.ex, S.b0, ow_set_nd o.nd S.nd fun l hl hr => ?_, fun l hl => ?_⟩
  · by_cases e : j = i
    · subst e
      rw [List.getElem?_set_self hiE] at hj
      cases hj
      exact ⟨v, by rw [List.getElem?_set_self hi], o.rep.le b2.le fun _ _ _ q => q⟩
    · rw [List.getElem?_set_ne (Ne.symm e)] at hj
      obtain ⟨w, h1, h2⟩ := S.slot j t hj
      exact ⟨w, by rw [List.getElem?_set_ne (Ne.symm e)]; exact h1, h2.le b3.le fun l _ u q => o.ex l u q⟩
  · obtain ⟨w, h2⟩ := S.gho t ht
    exact ⟨w, h2.le b3.le fun l _ u q => o.ex l u q⟩
  · obtain ⟨u, q⟩ := S.there hr
    rw [o.new l hl] at q
    cases q
  · rcases ow_set_sub hl with z | z
    · exact S.free (o.new l z)
    · exact S.fr l z
/-- two places that own the same address are one -/
theorem owns_inj {l : Addr} : ∀ {E : En} {i j : Nat} {s t : Sl}, (owns E).Nodup → E[i]? = some (some s) → E[j]? = some (some t) → l ∈ s.own → l ∈ t.own → i = j
  | [], i, _, _, _, _, h, _, _, _ => by simp at h
  | o :: r, 0, 0, _, _, _, _, _, _, _ => rfl
  | o :: r, 0, j + 1, s, t, hn, h1, h2, ls, lt => by
    rw [owns_cons, List.nodup_append] at hn
    simp only [List.getElem?_cons_zero, Option.some.injEq] at h1
    subst h1
    exact (hn.2.2 l ls l (mem_owns.mpr ⟨j, t, by simpa using h2, lt⟩) rfl).elim
  | o :: r, i + 1, 0, s, t, hn, h1, h2, ls, lt => by
    rw [owns_cons, List.nodup_append] at hn
    simp only [List.getElem?_cons_zero, Option.some.injEq] at h2
    subst h2
    exact (hn.2.2 l lt l (mem_owns.mpr ⟨i, s, by simpa using h1, ls⟩) rfl).elim
  | o :: r, i + 1, j + 1, s, t, hn, h1, h2, ls, lt => by
    rw [owns_cons, List.nodup_append] at hn
    exact congrArg (· + 1) (owns_inj (E := r) (i := i) (j := j) hn.2.1 (by simpa using h1) (by simpa using h2) ls lt)
theorem ow_inj {l : Addr} {i j : Nat} {s t : Sl} (hn : (ow F E).Nodup) (h1 : E[i]? = some (some s)) (h2 : E[j]? = some (some t)) (ls : l ∈ s.own) (lt : l ∈ t.own) : i = j := by
  refine owns_inj hn (s := s) (t := t) ?_ ?_ ls lt
  · rw [List.getElem?_append_left (List.getElem?_eq_some_iff.mp h1).1]; exact h1
  · rw [List.getElem?_append_left (List.getElem?_eq_some_iff.mp h2).1]; exact h2
theorem ow_gho {l : Addr} {i : Nat} {s t : Sl} (hn : (ow F E).Nodup) (h1 : E[i]? = some (some s)) (h2 : t ∈ F.gh) (ls : l ∈ s.own) (lt : l ∈ t.own) : False := by
  have hi := (List.getElem?_eq_some_iff.mp h1).1
  obtain ⟨j, hj, e⟩ := List.mem_iff_getElem.mp h2
  have := owns_inj hn (i := i) (j := E.length + j) (s := s) (t := t) (by rw [List.getElem?_append_left hi]; exact h1)
    (by rw [List.getElem?_append_right (Nat.le_add_right _ _), Nat.add_sub_cancel_left, List.getElem?_map, List.getElem?_eq_getElem hj, e]; rfl) ls lt
  omega
/-- an own thing of slot i changes: at its own addresses alone -/
theorem SR.mut (S : SR K F E τ σ H) {i : Nat} {s s' : Sl} (hs : E[i]? = some (some s)) (ho : ∀ l ∈ s'.own, l ∈ s.own ∨ H l = none) (hn : s'.own.Nodup) (k : ∀ a o, a ∉ s.own → H a = some o → H' a = some o)
    (hv : ∀ v, σ[i]? = some (some v) → RepS K (base F H' (s'.own ++ ow F E)) H' v s') : SR K F (E.set i (some s')) τ σ H' := by
  have hiE : i < E.length := (List.getElem?_eq_some_iff.mp hs).1
  have hso : ∀ l ∈ s.own, l ∈ ow F E := fun l hl => mem_ow.mpr (.inl ⟨i, s, hs, hl⟩)
  have b1 : Ex (base F H (ow F E)) (base F H' (s'.own ++ ow F E)) := base_mono (fun a u h1 _ q => k a u (fun z => h1 (hso a z)) q) fun a ha => by
    rcases List.mem_append.mp ha with z | z
    · rcases ho a z with y | y
      · exact .inl (hso a y)
      · refine .inr ?_
        by_cases h1 : a ∈ ow F E
        · exact base_in h1
        · rw [base_new h1 (S.free y)]; exact y
    · exact .inl z
  have b2 : Ex (base F H' (s'.own ++ ow F E)) (base F H' (ow F (E.set i (some s')))) := base_sub fun a ha => by
    rcases ow_set_sub ha with z | z
    · exact .inl (List.mem_append_left _ z)
    · exact .inl (List.mem_append_right _ z)
  have b3 := b1.trans b2
  refine ⟨by simp [S.len], fun j t hj => ?_, fun t ht => ?_, fun p hp => Rep.le b3.le (S.tmp p hp), fun a o q => ?_, S.b0, ow_set_nd hn S.nd fun l hl hr => ?_, fun l hl => ?_⟩
  · by_cases e : j = i
    · subst e
      rw [List.getElem?_set_self hiE] at hj
      cases hj
      obtain ⟨v, h1, _⟩ := S.slot j s hs
      exact ⟨v, h1, (hv v h1).le b2.le fun _ _ _ q => q⟩
    · rw [List.getElem?_set_ne (Ne.symm e)] at hj
      obtain ⟨w, h1, h2⟩ := S.slot j t hj
      exact ⟨w, h1, h2.le b3.le fun l hl u q => k l u (fun z => e (ow_inj S.nd hj hs hl z)) q⟩
  · obtain ⟨w, h2⟩ := S.gho t ht
    exact ⟨w, h2.le b3.le fun l hl u q => k l u (fun z => ow_gho S.nd hs ht z hl) q⟩
  · refine k a o (fun z => ?_) (S.ex a o q)
    rw [S.fr a (hso a z)] at q
    cases q
  · rcases ho l hl with z | z
    · exact ⟨s, hs, z⟩
    · obtain ⟨u, q⟩ := S.there hr
      rw [z] at q; cases q
  · rcases ow_set_sub hl with z | z
    · rcases ho l z with y | y
      · exact S.fr l (hso l y)
      · exact S.free y
    · exact S.fr l z
/-- a slot is forgotten -/
theorem SR.drop (S : SR K F E τ σ H) (i : Nat) {σ' : L2.St} (hl : σ'.length = σ.length) (hσ : ∀ j, j ≠ i → σ'[j]? = σ[j]?) : SR K F (E.set i none) τ σ' H := by
  have b : Ex (base F H (ow F E)) (base F H (ow F (E.set i none))) := base_sub fun a ha => by
    rcases ow_set_sub ha with z | z
    · simp [oOwn] at z
    · exact .inl z
  refine ⟨by simp [hl, S.len], fun j t hj => ?_, fun t ht => ?_, fun p hp => Rep.le b.le (S.tmp p hp), S.ex, S.b0, ow_set_nd (by simp [oOwn]) S.nd fun l hl => by simp [oOwn] at hl, fun l hl => ?_⟩
  · by_cases e : j = i
    · subst e
      by_cases hi : j < E.length
      · rw [List.getElem?_set_self hi] at hj; cases hj
      · rw [List.getElem?_eq_none (by simpa using Nat.le_of_not_lt hi)] at hj; cases hj
    · rw [List.getElem?_set_ne (Ne.symm e)] at hj
      obtain ⟨w, h1, h2⟩ := S.slot j t hj
      exact ⟨w, by rw [hσ j e]; exact h1, h2.le b.le fun _ _ _ q => q⟩
  · obtain ⟨w, h2⟩ := S.gho t ht
    exact ⟨w, h2.le b.le fun _ _ _ q => q⟩
  · rcases ow_set_sub hl with z | z
    · simp [oOwn] at z
    · exact S.fr l z
theorem SR.temps {τ' : List (V × D)} (S : SR K F E τ σ H) (h : ∀ p ∈ τ', Rep K (base F H (ow F E)) p.1 p.2) : SR K F E τ' σ H := ⟨S.len, S.slot, S.gho, h, S.ex, S.b0, S.nd, S.fr⟩
theorem SR.push (S : SR K F E τ σ H) {v : V} {d : D} (h : Rep K (base F H (ow F E)) v d) : SR K F E ((v, d) :: τ) σ H := S.temps fun p hp => by
  rcases List.mem_cons.mp hp with rfl | hp
  · exact h
  · exact S.tmp p hp
theorem SR.pop {p : V × D} (S : SR K F E (p :: τ) σ H) : SR K F E τ σ H := S.temps fun q hq => S.tmp q (List.mem_cons_of_mem _ hq)
end
/-! ### what a statement leaves -/
structure Po where
  nx : En → Prop
  rt : Sl → Prop
  bk : En → Prop := fun _ => False
  ct : En → Prop := fun _ => False
structure RtOk (K : PySem.W.Frag) (F : Fm) (v : V) (s : Sl) (H' : Hp) : Prop where
  ex : Ex F.H0 H'
  rep : RepS K (base F H' s.own) H' v s
  new : ∀ l ∈ s.own, F.H0 l = none
  nd : s.own.Nodup
def tSt (K : PySem.W.Frag) (E : En) (N : Po) : TS := fun D σ H => ∃ F τ, SR K F E τ σ H ∧ (∀ E' σ' H', N.nx E' → SR K F E' τ σ' H' → D.nx σ' H') ∧ (∀ v s H', N.rt s → RtOk K F v s H' → D.rt v H') ∧
  (∀ E' σ' H', N.bk E' → SR K F E' τ σ' H' → D.bk σ' H') ∧ (∀ E' σ' H', N.ct E' → SR K F E' τ σ' H' → D.ct σ' H')
abbrev HasS (X : Cx) (E : En) (st : Stmt) (N : Po) : Prop := PS X st (tSt X.K E N)
abbrev HasSs (X : Cx) (E : En) (st : List Stmt) (N : Po) : Prop := PSs X st (tSt X.K E N)
section
variable {X : Cx} {E : En} {N : Po} {st : Stmt} {rest : List Stmt} {e : Expr} {r : Rs} {pos : Pos}
theorem PSs.of_any {ι : Type} {st : List Stmt} {t : ι → TS} {P : ι → Prop} (h : ∀ i, P i → PSs X st (t i)) : PSs X st (fun D σ H => ∃ i, P i ∧ t i D σ H) :=
  ⟨fun pins s σ H D I ⟨i, hp, hw⟩ => (h i hp).run pins s σ H D I hw⟩
theorem PE.of_any {ι : Type} {e : Expr} {t : ι → TE} {P : ι → Prop} (h : ∀ i, P i → PE X e (t i)) : PE X e (fun σ H Q => ∃ i, P i ∧ t i σ H Q) :=
  ⟨fun pins s σ H D I ⟨i, hp, hw⟩ => (h i hp).run pins s σ H D I hw⟩
theorem PT.of_any {ι : Type} {e : Expr} {t : ι → TT} {P : ι → Prop} (h : ∀ i, P i → PT X e (t i)) : PT X e (fun σ H Q => ∃ i, P i ∧ t i σ H Q) :=
  ⟨fun pins s σ H D I ⟨i, hp, hw⟩ => (h i hp).run pins s σ H D I hw⟩
theorem PTs.of_any {ι : Type} {e : List Expr} {t : ι → TT} {P : ι → Prop} (h : ∀ i, P i → PTs X e (t i)) : PTs X e (fun σ H Q => ∃ i, P i ∧ t i σ H Q) :=
  ⟨fun pins s σ H D I ⟨i, hp, hw⟩ => (h i hp).run pins s σ H D I hw⟩
theorem s_nil (h : N.nx E) : HasSs X E [] N := PSs.mono pss_nil fun D σ H ⟨F, τ, S, k, _⟩ => k E σ H h S
theorem s_one (h : HasS X E st N) : HasSs X E [st] N := pss_one h
theorem s_cons {M : En → Prop} (h : HasS X E st ⟨M, N.rt, N.bk, N.ct⟩) (hr : ∀ E', M E' → HasSs X E' rest N) : HasSs X E (st :: rest) N :=
  PSs.mono (pss_cons h (PSs.of_any (P := M) hr)) fun D σ H ⟨F, τ, S, k1, k2, k3, k4⟩ => ⟨F, τ, S, fun E' σ' H' hM S' => ⟨E', hM, F, τ, S', k1, k2, k3, k4⟩, k2, k3, k4⟩
theorem s_imp {N' : Po} {st : List Stmt} (h : HasSs X E st N') (h1 : ∀ E', N'.nx E' → N.nx E') (h2 : ∀ s, N'.rt s → N.rt s) (h3 : ∀ E', N'.bk E' → N.bk E') (h4 : ∀ E', N'.ct E' → N.ct E') : HasSs X E st N :=
  PSs.mono h fun D σ H ⟨F, τ, S, k1, k2, k3, k4⟩ => ⟨F, τ, S, fun E' σ' H' h => k1 E' σ' H' (h1 E' h), fun v s H' h => k2 v s H' (h2 s h), fun E' σ' H' h => k3 E' σ' H' (h3 E' h), fun E' σ' H' h => k4 E' σ' H' (h4 E' h)⟩
/-- forgetting slots: what is shown of less holds of more -/
def EnLe (E E' : En) : Prop := E.length = E'.length ∧ ∀ (i : Nat) (s : Sl), E[i]? = some (some s) → E'[i]? = some (some s)
/-- x = e -/
theorem h_asg {i : Nat} {x : Str} {pos' : Pos} (hN : X.N.Nodup) (h : HasR X E e r) (hn : ∀ s, r.ok s → N.nx (E.set i (some s))) (hi : X.N[i]? = some x := by rfl) (hiE : i < E.length := by exact Nat.le_of_ble_eq_true rfl) (hx : Loc X.env.scope x := by first | exact Or.inl rfl | exact Or.inr rfl)
    (hs : swapsWith e (some (.Name x pos')) pos.line X.env = pure false := by rfl) (hf : X.fn x = true ∨ X.env.scope.names.lookup x = some .local := by first | exact .inl rfl | exact .inr rfl | assumption) : HasS X E (.Assign [.Name x pos'] e pos) N :=
  PS.mono (ps_set hN hi hx h hs hf) fun D σ H ⟨F, τ, S, k, _⟩ => ⟨F, τ, S, fun v s H' hs o => k _ _ _ (hn s hs) (S.put o (by rw [S.len]; exact hiE))⟩
theorem q_asg (i : Nat) {x : Str} {pos' : Pos} (hN : X.N.Nodup) (h : HasR X E e r) (hr : ∀ s, r.ok s → HasSs X (E.set i (some s)) rest N) (hi : X.N[i]? = some x := by rfl) (hiE : i < E.length := by exact Nat.le_of_ble_eq_true rfl) (hx : Loc X.env.scope x := by first | exact Or.inl rfl | exact Or.inr rfl)
    (hs : swapsWith e (some (.Name x pos')) pos.line X.env = pure false := by rfl) (hf : X.fn x = true ∨ X.env.scope.names.lookup x = some .local := by first | exact .inl rfl | exact .inr rfl | assumption) : HasSs X E (.Assign [.Name x pos'] e pos :: rest) N :=
  s_cons (M := fun E' => ∃ s, r.ok s ∧ E' = E.set i (some s)) (h_asg hN h (fun s hs => ⟨s, hs, rfl⟩) hi hiE hx hs hf) fun E' ⟨s, hs, e⟩ => by
    subst e
    exact hr s hs
theorem h_expr (h : HasR X E e r) (hn : N.nx E) (hs : swapsWith e none pos.line X.env = pure false := by rfl) : HasS X E (.Expr e pos) N :=
  PS.mono (ps_expr h hs) fun D σ H ⟨F, τ, S, k, _⟩ => ⟨F, τ, S, fun v s H' hs o => k _ _ _ hn (S.grow o.ex)⟩
theorem h_ret (h : HasR X E e r) (hn : ∀ s, r.ok s → N.rt s) : HasS X E (.Return (some e) pos) N :=
  PS.mono (ps_ret h) fun D σ H ⟨F, τ, S, _, k, _⟩ => ⟨F, τ, S, fun v s H' hs o => k v s H' (hn s hs) ⟨S.ex.trans o.ex, o.rep.le (base_sub fun a ha => .inl (List.mem_append_left _ ha)).le fun _ _ _ q => q, fun l hl => S.free (o.new l hl), o.nd⟩⟩
/-- return of an own thing -/
theorem SR.nd1 {K : PySem.W.Frag} {F : Fm} {τ : List (V × D)} {σ : L2.St} {H : Hp} (S : SR K F E τ σ H) {i : Nat} {s : Sl} (h : E[i]? = some (some s)) : s.own.Nodup := by
  have hi := (List.getElem?_eq_some_iff.mp h).1
  have hn := S.nd
  unfold ow at hn
  have key : ∀ (L : En) (i : Nat), (owns L).Nodup → L[i]? = some (some s) → s.own.Nodup := by
    intro L
    induction L with
    | nil => intro i _ h; simp at h
    | cons o r ih =>
      intro i hn h
      rw [owns_cons, List.nodup_append] at hn
      cases i with
      | zero =>
        simp only [List.getElem?_cons_zero, Option.some.injEq] at h
        subst h
        exact hn.1
      | succ i => exact ih i hn.2.1 (by simpa using h)
  exact key _ i hn (by rw [List.getElem?_append_left hi]; exact h)
theorem h_retOwn (i : Nat) {x : Str} {s : Sl} {p : Pos} (hE : E[i]? = some (some s) := by rfl) (hn : N.rt s) (hN : X.N[i]? = some x := by rfl) (hv : Vis X.env.scope x := by first | exact Or.inl rfl | exact Or.inr (Or.inl rfl) | exact Or.inr (Or.inr rfl))
    (hd : (x == ("__debug__" : Str)) = false := by decide) (hcd : (x == ("__classdict__" : Str)) = false := by decide) : HasS X E (.Return (some (.Name x p)) pos) N :=
  PS.mono (ps_ret (pe_var hN hv hd hcd)) fun D σ H ⟨F, τ, S, _, k, _⟩ => by
    obtain ⟨v, h1, h2⟩ := S.slot i s hE
    refine ⟨v, h1, k v s H hn ⟨S.ex, h2.le (base_sub fun a ha => ?_).le fun _ _ _ q => q, fun l hl => S.fr l (mem_ow.mpr (.inl ⟨i, s, hE, hl⟩)), S.nd1 hE⟩⟩
    exact .inl (mem_ow.mpr (.inl ⟨i, s, hE, ha⟩))
theorem h_ifS {c : Expr} {a b : List Stmt} {k : Bool} (hc : HasT X E c k) (ha : k = true → HasSs X E a N) (hb : k = false → HasSs X E b N) : HasS X E (.If c a b pos) N := by
  cases k with
  | true => exact PS.mono (ps_if hc (ha rfl) (pss_never (sts := b))) fun D σ H ⟨F, τ, S, k1, k2, k3, k4⟩ => ⟨F, τ, S, fun H' e1 => by
      refine iteT ?_
      exact ⟨F, τ, S.grow e1, k1, k2, k3, k4⟩⟩
  | false => exact PS.mono (ps_if hc (pss_never (sts := a)) (hb rfl)) fun D σ H ⟨F, τ, S, k1, k2, k3, k4⟩ => ⟨F, τ, S, fun H' e1 => by
      refine iteF ?_
      exact ⟨F, τ, S.grow e1, k1, k2, k3, k4⟩⟩
/-- an if, then the rest of the block -/
theorem q_if {c : Expr} {a b : List Stmt} {k : Bool} (M : En → Prop) (hc : HasT X E c k) (ha : k = true → HasSs X E a ⟨M, N.rt, N.bk, N.ct⟩) (hb : k = false → HasSs X E b ⟨M, N.rt, N.bk, N.ct⟩) (hr : ∀ E', M E' → HasSs X E' rest N) : HasSs X E (.If c a b pos :: rest) N :=
  s_cons (M := M) (h_ifS hc ha hb) hr
/-- an if whose suite leaves the block -/
theorem q_when {c : Expr} {a : List Stmt} {k : Bool} (hc : HasT X E c k) (ha : k = true → HasSs X E a ⟨fun _ => False, N.rt, N.bk, N.ct⟩) (hr : k = false → HasSs X E rest N) : HasSs X E (.If c a [] pos :: rest) N :=
  s_cons (M := fun E' => k = false ∧ E' = E) (h_ifS hc (fun h => s_imp (ha h) (fun _ z => z.elim) (fun _ z => z) (fun _ z => z) fun _ z => z) fun h => s_nil ⟨h, rfl⟩) fun E' ⟨h, e⟩ => by
    subst e
    exact hr h
theorem h_cont (hn : N.ct E) : HasS X E (.Continue pos) N := PS.mono ps_continue fun D σ H ⟨F, τ, S, _, _, _, k⟩ => k _ _ _ hn S
theorem h_break (hn : N.bk E) : HasS X E (.Break pos) N := PS.mono ps_break fun D σ H ⟨F, τ, S, _, _, k, _⟩ => k _ _ _ hn S
theorem h_pass (hn : N.nx E) : HasS X E (.Pass pos) N := PS.mono ps_pass fun D σ H ⟨F, τ, S, k, _⟩ => k _ _ _ hn S
end
/-! ### changes of own things -/
section
variable {X : Cx} {E : En} {N : Po} {e e2 : Expr} {pos apos cpos : Pos}
theorem RepsD.put {K : PySem.W.Frag} {B : Hp} {x : Str} {v : V} {d : D} (h : Rep K B v d) : ∀ {ks : List (Key × V)} {ds : List (Str × D)}, RepsD K B ks ds → RepsD K B (putK ks (.inr x) v) (match ds.lookup x with
    | none => ds ++ [(x, d)]
    | some _ => ds.map fun p => if p.1 = x then (x, d) else p) := by
  intro ks ds r
  have e1 : ∀ {ks : List (Key × V)} {ds : List (Str × D)}, RepsD K B ks ds → RepsD K B (ks.map fun kv => if kv.1 = Sum.inr x then (kv.1, v) else kv) (ds.map fun p => if p.1 = x then (x, d) else p) := by
    intro ks ds r
    induction ds generalizing ks with
    | nil => cases r; exact .nil
    | cons p ds ih =>
      cases r with
      | cons q r =>
        rename_i y w d' vs
        show RepsD K B ((if (Sum.inr y : Key) = Sum.inr x then (Sum.inr y, v) else (Sum.inr y, w)) :: _) ((if y = x then (x, d) else (y, d')) :: _)
        by_cases hy : y = x
        · subst hy
          rw [if_pos rfl, if_pos rfl]
          exact .cons h (ih r)
        · rw [if_neg (fun z => hy (Sum.inr.inj z)), if_neg hy]
          exact .cons q (ih r)
  have e2 : ∀ {ks : List (Key × V)} {ds : List (Str × D)}, RepsD K B ks ds → RepsD K B (ks ++ [(.inr x, v)]) (ds ++ [(x, d)]) := by
    intro ks ds r
    induction ds generalizing ks with
    | nil => cases r; exact .cons h .nil
    | cons p ds ih =>
      cases r with
      | cons q r => exact .cons q (ih r)
  unfold putK
  rcases RepsD.val (x := x) r with ⟨h1, h2⟩ | ⟨v', d', h1, h2, _⟩
  · have : ¬ (ks.any fun kv => decide (kv.1 = Sum.inr x)) = true := by rw [valV_any, h1]; decide
    rw [if_neg this, h2]
    exact e2 r
  · have : (ks.any fun kv => decide (kv.1 = Sum.inr x)) = true := by rw [valV_any, h1]; rfl
    rw [if_pos this, h2]
    exact e1 r
/-- d[x] = v, by data -/
def dput (ds : List (Str × D)) (x : Str) (d : D) : List (Str × D) := match ds.lookup x with
  | none => ds ++ [(x, d)]
  | some _ => ds.map fun p => if p.1 = x then (x, d) else p
theorem RepsD.len {K : PySem.W.Frag} {B : Hp} : ∀ {ks : List (Key × V)} {ds : List (Str × D)}, RepsD K B ks ds → ks.length = ds.length
  | _, _, .nil => rfl
  | _, _, .cons _ r => by rw [List.length_cons, List.length_cons, RepsD.len r]
theorem own_sub {F : Fm} {H : Hp} {ow0 so : List Addr} (h : ∀ l ∈ so, l ∈ ow0) : Ex (base F H ow0) (base F H (so ++ ow0)) := base_sub fun a ha => by
  rcases List.mem_append.mp ha with z | z
  · exact .inl (h a z)
  · exact .inl z
/-- an own address changes: the base does not see it -/
theorem base_upd {F : Fm} {H : Hp} {ow0 : List Addr} {l : Addr} {o : HO} (hl : l ∈ ow0) : Ex (base F H ow0) (base F (upd H l o) ow0) :=
  base_mono (fun a u h1 _ q => by
    rw [upd_ne (fun z => h1 (by rw [z]; exact hl))]
    exact q) fun a h => .inl h
/-- xs.append(e) -/
theorem h_append (i : Nat) {x : Str} {p : Pos} {l : Addr} {ds : List D} {d : D} (he : HasD X E e d) (hz : ds.length < 100000) (hn : N.nx (E.set i (some (.oL l (ds ++ [d]))))) (hE : E[i]? = some (some (.oL l ds)) := by rfl)
    (hN : X.N[i]? = some x := by rfl) (hv : Vis X.env.scope x := by first | exact Or.inl rfl | exact Or.inr (Or.inl rfl) | exact Or.inr (Or.inr rfl)) (hd : (x == ("__debug__" : Str)) = false := by decide) (hcd : (x == ("__classdict__" : Str)) = false := by decide)
    (PEM : PE X (.Name x p) (tVar i) → PA X [e] (tCons (tEv X.K E (.val d)) tNil) → PE X (.Call (.Attribute (.Name x p) "append" apos) [e] [] cpos) (tBM X.K "list" rAppend (tVar i) (tCons (tEv X.K E (.val d)) tNil)) := by
      exact fun ho ha => pe_bm PySem.F.plainAttrs_list PySem.F.slot_list_append PySem.F.type_list_append mt_append ho ha)
    (hs : swapsWith (.Call (.Attribute (.Name x p) "append" apos) [e] [] cpos) none pos.line X.env = pure false := by rfl) (hst : starEach [e] X.env = (false, eval e X.env) :: starEach [] X.env := by rfl) :
    HasS X E (.Expr (.Call (.Attribute (.Name x p) "append" apos) [e] [] cpos) pos) N := by
  refine PS.mono (ps_expr (PEM (pe_var hN hv hd hcd) (pa_cons he pa_nil hst)) hs) fun D σ H ⟨F, τ, S, k, _⟩ => ?_
  obtain ⟨v, h1, rfl, vs, h2, h3⟩ := S.slot i _ hE
  have hl : l ∈ ow F E := mem_ow.mpr (.inl ⟨i, _, hE, by simp [Sl.own]⟩)
  refine ⟨_, h1, .inl ⟨rfl, vs, SqL.of h2⟩, F, τ, S, fun w s H1 hs o => ?_⟩
  cases hs
  have S1 := S.grow o.ex
  have h2' := o.ex _ _ h2
  refine ⟨l, vs, w, rfl, rfl, h2', by rw [h3.len]; exact Nat.lt_of_lt_of_le hz (by decide), k _ _ _ hn ?_⟩
  refine S1.mut hE (fun a ha => .inl ha) (by simp [Sl.own]) (fun a u ha q => by rw [upd_ne (fun z => ha (by simp [Sl.own, z]))]; exact q) fun v' hv' => ?_
  have hv2 : v' = .ref l := by
    rw [h1] at hv'
    cases hv'; rfl
  have b := (base_upd (F := F) (H := H1) (o := .lst (vs ++ [w])) hl).trans (own_sub (so := [l]) fun a ha => by rw [List.mem_singleton] at ha; subst ha; exact hl)
  refine ⟨hv2, _, upd_same, ?_⟩
  exact Reps.append (Reps.le ((S.bmono o.ex).trans b).le h3) (.cons (Rep.le b.le o.rp) .nil)
/-- d[k] = e, an own dict -/
theorem h_dput (i : Nat) {x : Str} {p sp : Pos} {l : Addr} {ds : List (Str × D)} {y : Str} {d : D} (hu : X.A.units + 1 < cLine) (he : HasD X E e d) (hk : HasD X E e2 (.str y)) (hz : ds.length < 1000) (hn : N.nx (E.set i (some (.oD l (dput ds y d))))) (hE : E[i]? = some (some (.oD l ds)) := by rfl)
    (hN : X.N[i]? = some x := by rfl) (hv : Vis X.env.scope x := by first | exact Or.inl rfl | exact Or.inr (Or.inl rfl) | exact Or.inr (Or.inr rfl)) (hd : (x == ("__debug__" : Str)) = false := by decide) (hcd : (x == ("__classdict__" : Str)) = false := by decide)
    (hs : swapsWith e (some (.Subscript (.Name x p) e2 sp)) pos.line X.env = pure false := by rfl)
    (PP : PE X (.Name x p) (tVar i) → PE X e2 (tEv X.K E (.val (.str y))) → PE X e (tEv X.K E (.val d)) → PS X (.Assign [.Subscript (.Name x p) e2 sp] e pos) (sDPut (tVar i) (tEv X.K E (.val (.str y))) (tEv X.K E (.val d))) := by
      exact fun ho hi hv => ps_dput hu ho hi hv (by rfl)) :
    HasS X E (.Assign [.Subscript (.Name x p) e2 sp] e pos) N := by
  refine PS.mono (PP (pe_var hN hv hd hcd) hk he) fun D σ H ⟨F, τ, S, k, _⟩ => ?_
  refine ⟨F, τ, S, fun w s H1 hs o => ?_⟩
  cases hs
  have S1 := S.grow o.ex
  obtain ⟨v, h1, rfl, vs, h2, h3⟩ := S1.slot i _ hE
  have hl : l ∈ ow F E := mem_ow.mpr (.inl ⟨i, _, hE, by simp [Sl.own]⟩)
  refine ⟨_, h1, F, τ, S1, fun u s H2 hs2 o2 => ?_⟩
  cases hs2
  have r2 := o2.rp
  cases r2
  have S2 := S1.grow o2.ex
  have h2' := o2.ex _ _ h2
  refine ⟨l, _, rfl, DPut.k (k := .inr y) h2' (by rw [h3.len]; exact small1000 (Nat.le_of_lt hz)), k _ _ _ hn ?_⟩
  refine S2.mut hE (fun a ha => .inl ha) (by simp [Sl.own]) (fun a u ha q => by rw [upd_ne (fun z => ha (by simp [Sl.own, z]))]; exact q) fun v' hv' => ?_
  have hv2 : v' = .ref l := by
    rw [h1] at hv'
    cases hv'; rfl
  have b := (base_upd (F := F) (H := H2) (o := .dK (putK vs (.inr y) w)) hl).trans (own_sub (so := [l]) fun a ha => by rw [List.mem_singleton] at ha; subst ha; exact hl)
  refine ⟨hv2, _, upd_same, ?_⟩
  exact RepsD.put (Rep.le ((S1.bmono o2.ex).trans b).le o.rp) (RepsD.le ((S1.bmono o2.ex).trans b).le h3)
end
end K39
/-! KLoop -/
set_option maxHeartbeats 4000000
/-! ## targets, walks, loops, comprehensions over data -/
namespace K39
open PySem PySem.Spec PyProof.Rows L2
/-! ### targets -/
/-- what a target does to the slots: φ value before after -/
def TgOk (X : Cx) (tg : Expr) (φ : D → En → En → Prop) : Prop := ∃ g : TG, PG X tg g ∧ ∀ (F : Fm) (E E2 : En) (τ : List (V × D)) (σ : L2.St) (H : Hp) (v : V) (d : D), φ d E E2 → SR X.K F E τ σ H → Rep X.K (base F H (ow F E)) v d →
  ∀ Q : L2.St → Hp → Prop, (∀ σ', SR X.K F E2 τ σ' H → Q σ' H) → g v σ H Q
def φ1 (i : Nat) : D → En → En → Prop := fun d E E2 => i < E.length ∧ E2 = E.set i (some (.val d))
def φ2 (i j : Nat) : D → En → En → Prop := fun d E E2 => i < E.length ∧ j < E.length ∧ ∃ d1 d2, d = .tup [d1, d2] ∧ E2 = (E.set i (some (.val d1))).set j (some (.val d2))
def φ3 (i j k : Nat) : D → En → En → Prop := fun d E E2 => i < E.length ∧ j < E.length ∧ k < E.length ∧ ∃ d1 d2 d3, d = .tup [d1, d2, d3] ∧ E2 = ((E.set i (some (.val d1))).set j (some (.val d2))).set k (some (.val d3))
section
variable {X : Cx} {pos p1 p2 p3 : Pos}
theorem SR.setv {K : PySem.W.Frag} {F : Fm} {E : En} {τ : List (V × D)} {σ : L2.St} {H : Hp} (S : SR K F E τ σ H) {i : Nat} {v : V} {d : D} (r : Rep K (base F H (ow F E)) v d) (hi : i < E.length) : SR K F (E.set i (some (.val d))) τ (σ.set i (some v)) H :=
  S.put (.val (Ex.rfl' H) r) (by rw [S.len]; exact hi)
theorem SR.setb {K : PySem.W.Frag} {F : Fm} {E : En} {τ : List (V × D)} {σ : L2.St} {H : Hp} (S : SR K F E τ σ H) (i : Nat) (d : D) : Ex (base F H (ow F E)) (base F H (ow F (E.set i (some (.val d))))) := base_sub fun a ha => by
  rcases ow_set_sub ha with z | z
  · simp [oOwn, Sl.own] at z
  · exact .inl z
theorem g_name (i : Nat) {x : Str} (hN : X.N.Nodup) (hi : X.N[i]? = some x := by rfl) (hx : Loc X.env.scope x := by first | exact Or.inl rfl | exact Or.inr rfl)
    (hf : X.fn x = true ∨ X.env.scope.names.lookup x = some .local := by first | exact .inl rfl | exact .inr rfl | assumption) : TgOk X (.Name x pos) (φ1 i) :=
  ⟨_, pg_name hN hi hx hf, fun F E E2 τ σ H v d h S r Q k => by
    obtain ⟨hl, rfl⟩ := h
    exact k _ (S.setv r hl)⟩
theorem g_tup2 (i j : Nat) {x y : Str} {kk : Nat} (hN : X.N.Nodup) (hc : X.calm = true := by rfl) (hi : X.N[i]? = some x := by rfl) (hj : X.N[j]? = some y := by rfl) (hx : Loc X.env.scope x := by first | exact Or.inl rfl | exact Or.inr rfl) (hy : Loc X.env.scope y := by first | exact Or.inl rfl | exact Or.inr rfl)
    (fx : X.fn x = true ∨ X.env.scope.names.lookup x = some .local := by first | exact .inl rfl | exact .inr rfl | assumption) (fy : X.fn y = true ∨ X.env.scope.names.lookup y = some .local := by first | exact .inl rfl | exact .inr rfl | assumption)
    (hn : (assignEach [Expr.Name x p1, Expr.Name y p2] X.env).length = 2 := by rfl) (hst : (assignEach [Expr.Name x p1, Expr.Name y p2] X.env).findIdx? (·.1) = none := by rfl)
    (hs : (assignEach [Expr.Name x p1, Expr.Name y p2] X.env).map (·.2) = assign (Expr.Name x p1) X.env :: (assignEach [Expr.Name y p2] X.env).map (·.2) := by rfl) (hs2 : (assignEach [Expr.Name y p2] X.env).map (·.2) = assign (Expr.Name y p2) X.env :: (assignEach [] X.env).map (·.2) := by rfl) :
    TgOk X (.Tuple [.Name x p1, .Name y p2] kk pos) (φ2 i j) :=
  ⟨_, pg_tup hc (pgs_cons (pg_name hN hi hx fx) (pgs_cons (pg_name hN hj hy fy) pgs_nil hs2) hs) hn hst, fun F E E2 τ σ H v d h S r Q k => by
    obtain ⟨h1, h2, d1, d2, rfl, rfl⟩ := h
    cases r with
    | tup q rs =>
      rename_i a vs
      cases rs with
      | cons r1 rs =>
        cases rs with
        | cons r2 rs =>
          cases rs
          refine ⟨a, _, rfl, S.bex.le.sqT q, rfl, _, _, rfl, _, _, rfl, rfl, ?_⟩
          exact k _ ((S.setv r1 h1).setv (Rep.le (S.setb i d1).le r2) (by simpa using h2))⟩
theorem g_tup3 (i j l : Nat) {x y z : Str} {kk : Nat} (hN : X.N.Nodup) (hc : X.calm = true := by rfl) (hi : X.N[i]? = some x := by rfl) (hj : X.N[j]? = some y := by rfl) (hl : X.N[l]? = some z := by rfl)
    (hx : Loc X.env.scope x := by first | exact Or.inl rfl | exact Or.inr rfl) (hy : Loc X.env.scope y := by first | exact Or.inl rfl | exact Or.inr rfl) (hz : Loc X.env.scope z := by first | exact Or.inl rfl | exact Or.inr rfl)
    (fx : X.fn x = true ∨ X.env.scope.names.lookup x = some .local := by first | exact .inl rfl | exact .inr rfl | assumption) (fy : X.fn y = true ∨ X.env.scope.names.lookup y = some .local := by first | exact .inl rfl | exact .inr rfl | assumption) (fz : X.fn z = true ∨ X.env.scope.names.lookup z = some .local := by first | exact .inl rfl | exact .inr rfl | assumption)
    (hn : (assignEach [Expr.Name x p1, Expr.Name y p2, Expr.Name z p3] X.env).length = 3 := by rfl) (hst : (assignEach [Expr.Name x p1, Expr.Name y p2, Expr.Name z p3] X.env).findIdx? (·.1) = none := by rfl)
    (hs : (assignEach [Expr.Name x p1, Expr.Name y p2, Expr.Name z p3] X.env).map (·.2) = assign (Expr.Name x p1) X.env :: (assignEach [Expr.Name y p2, Expr.Name z p3] X.env).map (·.2) := by rfl)
    (hs2 : (assignEach [Expr.Name y p2, Expr.Name z p3] X.env).map (·.2) = assign (Expr.Name y p2) X.env :: (assignEach [Expr.Name z p3] X.env).map (·.2) := by rfl) (hs3 : (assignEach [Expr.Name z p3] X.env).map (·.2) = assign (Expr.Name z p3) X.env :: (assignEach [] X.env).map (·.2) := by rfl) :
    TgOk X (.Tuple [.Name x p1, .Name y p2, .Name z p3] kk pos) (φ3 i j l) :=
  ⟨_, pg_tup hc (pgs_cons (pg_name hN hi hx fx) (pgs_cons (pg_name hN hj hy fy) (pgs_cons (pg_name hN hl hz fz) pgs_nil hs3) hs2) hs) hn hst, fun F E E2 τ σ H v d h S r Q k => by
    obtain ⟨h1, h2, h3, d1, d2, d3, rfl, rfl⟩ := h
    cases r with
    | tup q rs =>
      rename_i a vs
      cases rs with
      | cons r1 rs =>
        cases rs with
        | cons r2 rs =>
          cases rs with
          | cons r3 rs =>
            cases rs
            refine ⟨a, _, rfl, S.bex.le.sqT q, rfl, _, _, rfl, _, _, rfl, _, _, rfl, rfl, ?_⟩
            have S1 := S.setv r1 h1
            have b1 := S.setb i d1
            have S2 := S1.setv (Rep.le b1.le r2) (by simpa using h2)
            have b2 := b1.trans (S1.setb j d2)
            exact k _ (S2.setv (Rep.le b2.le r3) (by simpa using h3))⟩
/-- a, b, c = e -/
theorem h_unpack {E : En} {N : Po} {tg e : Expr} {d : D} {φ : D → En → En → Prop} (h : HasD X E e d) (hg : TgOk X tg φ) {E2 : En} (hφ : φ d E E2) (hn : N.nx E2) (hs : swapsWithSole [tg] e pos.line X.env = pure false := by rfl) (hw : swappedStores [tg] e X.env = pure none := by rfl)
    (h1 : (assignEach [tg] X.env).map (·.2) = [assign tg X.env] := by rfl) : HasS X E (.Assign [tg] e pos) N := by
  obtain ⟨g, pg, hq⟩ := hg
  exact PS.mono (ps_asg h pg hs hw h1) fun D σ H ⟨F, τ, S, k, _⟩ => ⟨F, τ, S, fun v s H' hs o => by
    cases hs
    exact hq F E E2 τ σ H' v d hφ (S.grow o.ex) o.rp _ fun σ' S' => k _ _ _ hn S'⟩
theorem q_unpack {E : En} {N : Po} {tg e : Expr} {d : D} {rest : List Stmt} {φ : D → En → En → Prop} (h : HasD X E e d) (hg : TgOk X tg φ) {E2 : En} (hφ : φ d E E2) (hr : HasSs X E2 rest N) (hs : swapsWithSole [tg] e pos.line X.env = pure false := by rfl) (hw : swappedStores [tg] e X.env = pure none := by rfl)
    (h1 : (assignEach [tg] X.env).map (·.2) = [assign tg X.env] := by rfl) : HasSs X E (.Assign [tg] e pos :: rest) N :=
  s_cons (M := fun E' => E' = E2) (h_unpack h hg hφ rfl hs hw h1) fun E' e => by
    subst e; exact hr
end
/-! ### walks -/
/-- while t holds, J gives what ds tells -/
structure WalkD (K : PySem.W.Frag) (H0 : Hp) (t : List (V × D)) (J : It) (ds : List D) : Prop where
  goes : ∀ (i : Nat) (B H : Hp), i < ds.length → Ex H0 H → Ex B H → (∀ p ∈ t, Rep K B p.1 p.2) → J.go i H
  stops : ∀ (B H : Hp), Ex H0 H → Ex B H → (∀ p ∈ t, Rep K B p.1 p.2) → J.stop ds.length H
  yields : ∀ (i : Nat) (B H : Hp) (x : V) (H' : Hp), i < ds.length → Ex H0 H → Ex B H → (∀ p ∈ t, Rep K B p.1 p.2) → J.yld i H x H' → H' = H ∧ ∃ d, ds[i]? = some d ∧ Rep K B x d
def tWk (K : PySem.W.Frag) (E : En) (ds : List D) : TI := fun σ H R => ∃ F τ, SR K F E τ σ H ∧ ∀ (J : It) (H' : Hp) (t : List (V × D)), Ex H H' → WalkD K F.H0 t J ds → SR K F E (t ++ τ) σ H' → R J H'
abbrev HasI (X : Cx) (E : En) (tg e : Expr) (ds : List D) : Prop := PI X tg e (tWk X.K E ds)
theorem PI.mono {X : Cx} {tg e : Expr} {t t' : TI} (h : PI X tg e t) (hm : ∀ σ H Q, t' σ H Q → t σ H Q) : PI X tg e t' := ⟨fun pins s σ H Q I hw => h.run pins s σ H Q I (hm σ H Q hw)⟩
section
variable {X : Cx} {E : En} {tg e : Expr} {ds : List D}
theorem Reps.getD {K : PySem.W.Frag} {B : Hp} {vs : List V} {ds : List D} (h : Reps K B vs ds) {i : Nat} {x : V} (e : vs[i]? = some x) : ∃ d, ds[i]? = some d ∧ Rep K B x d := by
  have hi : i < vs.length := (List.getElem?_eq_some_iff.mp e).1
  have hd : i < ds.length := by rw [← h.len]; exact hi
  obtain ⟨v, h1, h2⟩ := h.get (List.getElem?_eq_getElem hd)
  rw [e] at h1
  cases h1
  exact ⟨_, List.getElem?_eq_getElem hd, h2⟩
theorem wk_list {K : PySem.W.Frag} {a : Addr} {vs : List V} (hl : vs.length = ds.length) {H0 : Hp} : WalkD K H0 [(.ref a, .vls vs), (.ty "", .all vs ds)] (Itl K a) ds := by
  have ls : ∀ {B H : Hp}, Ex B H → (∀ p ∈ [(V.ref a, D.vls vs), (.ty "", .all vs ds)], Rep K B p.1 p.2) → SqL K H a vs := fun ex ht => by
    have h1 := ht _ (List.mem_cons_self)
    cases h1 with
    | vls h => exact SqL.of (ex _ _ h)
  refine ⟨fun i B H hi _ ex ht => ?_, fun B H _ ex ht => ⟨vs, ls ex ht, by rw [hl]; exact Nat.le_refl _⟩, fun i B H x H' hi _ ex ht y => ?_⟩
  · have hi' : i < vs.length := by rw [hl]; exact hi
    exact ⟨vs, vs[i], ls ex ht, by simp [hi']⟩
  · refine ⟨y.1, ?_⟩
    have h2 := ht _ (List.mem_cons_of_mem _ List.mem_cons_self)
    cases h2 with
    | all r => exact r.getD (y.2 vs (ls ex ht))
theorem wk_tup {K : PySem.W.Frag} {a : Addr} {vs : List V} (hl : vs.length = ds.length) {H0 : Hp} : WalkD K H0 [(.ref a, .vtp vs), (.ty "", .all vs ds)] (Itt K a) ds := by
  have ls : ∀ {B H : Hp}, Ex B H → (∀ p ∈ [(V.ref a, D.vtp vs), (.ty "", .all vs ds)], Rep K B p.1 p.2) → SqT K H a vs := fun ex ht => by
    have h1 := ht _ (List.mem_cons_self)
    cases h1 with
    | vtp h => exact ex.le.sqT h
  refine ⟨fun i B H hi _ ex ht => ?_, fun B H _ ex ht => ⟨vs, ls ex ht, by rw [hl]; exact Nat.le_refl _⟩, fun i B H x H' hi _ ex ht y => ?_⟩
  · have hi' : i < vs.length := by rw [hl]; exact hi
    exact ⟨vs, vs[i], ls ex ht, by simp [hi']⟩
  · refine ⟨y.1, ?_⟩
    have h2 := ht _ (List.mem_cons_of_mem _ List.mem_cons_self)
    cases h2 with
    | all r => exact r.getD (y.2 vs (ls ex ht))
theorem SR.push2 {K : PySem.W.Frag} {F : Fm} {τ : List (V × D)} {σ : L2.St} {H : Hp} (S : SR K F E τ σ H) {v w : V} {d1 d2 : D} (h1 : Rep K (base F H (ow F E)) v d1) (h2 : Rep K (base F H (ow F E)) w d2) : SR K F E ([(v, d1), (w, d2)] ++ τ) σ H := (S.push h2).push h1
theorem k_list (h : HasD X E e (.lst ds)) : HasI X E tg e ds := PI.mono (pi_list h) fun σ H Q ⟨F, τ, S, k⟩ => ⟨F, τ, S, fun v s H' hs o => by
  cases hs
  have r := o.rp
  cases r with
  | lst q rs =>
    rename_i a vs
    have S1 := S.grow o.ex
    exact ⟨a, rfl, ⟨vs, SqL.of (S1.bex _ _ q)⟩, k _ H' _ o.ex (wk_list rs.len) (S1.push2 (.vls q) (.all rs))⟩⟩
theorem k_tup (h : HasD X E e (.tup ds)) : HasI X E tg e ds := PI.mono (pi_tup h) fun σ H Q ⟨F, τ, S, k⟩ => ⟨F, τ, S, fun v s H' hs o => by
  cases hs
  have r := o.rp
  cases r with
  | tup q rs =>
    rename_i a vs
    have S1 := S.grow o.ex
    exact ⟨a, rfl, ⟨vs, S1.bex.le.sqT q⟩, k _ H' _ o.ex (wk_tup rs.len) (S1.push2 (.vtp q) (.all rs))⟩⟩
def signs (x : Str) : List D := x.cps.toList.map fun c => .str ⟨#[c]⟩
theorem k_str {x : Str} (h : HasD X E e (.str x)) : HasI X E tg e (signs x) := PI.mono (pi_str h) fun σ H Q ⟨F, τ, S, k⟩ => ⟨F, τ, S, fun v s H' hs o => by
  cases hs
  have r := o.rp
  cases r
  refine ⟨x, rfl, k _ H' [] o.ex ⟨fun i B H hi _ _ _ => ?_, fun B H _ _ _ => ?_, fun i B H y H' hi _ _ _ q => ?_⟩ (S.grow o.ex)⟩
  · have : i < x.cps.size := by simpa [signs] using hi
    exact this
  · show x.cps.size ≤ (signs x).length
    simp [signs]
  · obtain ⟨e, c, hc, rfl⟩ := q
    refine ⟨e, .str ⟨#[c]⟩, ?_, .str _⟩
    unfold signs
    rw [List.getElem?_map, Array.getElem?_toList, hc]
    rfl⟩
def nums (n : Nat) : List D := (List.range n).map fun (i : Nat) => .int (i : Int)
theorem k_range {n : Int} {p pos : Pos} (hm : X.mg "range" = none) (h : HasD X E e (.int n)) (h0 : 0 ≤ n) (hn : n ≤ 100000) (hg : Gl X "range" := by rfl) (hs : starEach [e] X.env = [(false, eval e X.env)] := by rfl) (hs1 : starEach [e] X.env = (false, eval e X.env) :: starEach [] X.env := by rfl) :
    HasI X E tg (.Call (.Name "range" p) [e] [] pos) (nums n.toNat) := PI.mono (pi_range1 hg hm (ha_cons h ha_nil hs1) hs) fun σ H Q ⟨F, τ, S, k⟩ => ⟨F, τ, S, fun vs H' e1 r => by
  cases r with
  | cons r1 rs =>
    cases rs
    cases r1
    refine ⟨n, rfl, by omega, by omega, k _ H' [] e1 ⟨fun i B H hi _ _ _ => ?_, fun B H _ _ _ => ?_, fun i B H y H' hi _ _ _ q => ?_⟩ (S.grow e1)⟩
    · have : i < n.toNat := by simpa [nums] using hi
      exact this
    · show n.toNat ≤ (nums n.toNat).length
      simp [nums]
    · obtain ⟨e, rfl⟩ := q
      have hi' : i < n.toNat := by simpa [nums] using hi
      refine ⟨e, .int (i : Int), ?_, ?_⟩
      · unfold nums
        rw [List.getElem?_map, List.getElem?_range hi']
        rfl
      · have : (0 : Int) + (i : Int) = (i : Int) := Int.zero_add _
        rw [this]
        exact .int _⟩
end
/-! ### for -/
section
variable {X : Cx} {E : En} {N : Po} {tg e : Expr} {ds : List D} {body : List Stmt} {pos : Pos} {φ : D → En → En → Prop}
theorem for_walk {K : PySem.W.Frag} {F : Fm} {t τ : List (V × D)} {J : It} (w : WalkD K F.H0 t J ds) {g : TG} {tb : TS} {Dn : Ends} {σ : L2.St} {H : Hp} (I : Nat → En → Prop) (h0 : I 0 E) (S : SR K F E (t ++ τ) σ H)
    (hs : ∀ (i : Nat) (d : D) (E' : En) (x : V) (σ' : L2.St) (H' : Hp), ds[i]? = some d → I i E' → SR K F E' (t ++ τ) σ' H' → Rep K (base F H' (ow F E')) x d → ∀ M : L2.St → Hp → Prop, (∀ E2 σ2 H2, I (i + 1) E2 → SR K F E2 (t ++ τ) σ2 H2 → M σ2 H2) →
      g x σ' H' fun σ2 H2 => tb { Dn with nx := M, ct := M, bk := Dn.nx } σ2 H2) (hd : ∀ E' σ' H', I ds.length E' → SR K F E' (t ++ τ) σ' H' → Dn.nx σ' H') :
    ∃ W : Nat → Nat → L2.St → Hp → Prop, (∃ m, W 0 m σ H) ∧ ∀ i m σ H, W i m σ H →
      (J.stop i H ∧ Dn.nx σ H) ∨ (J.go i H ∧ ∃ M : L2.St → Hp → Prop, (∀ σ' H', M σ' H' → ∃ m', m' < m ∧ W (i + 1) m' σ' H') ∧ ∀ x H', J.yld i H x H' → g x σ H' fun σ2 H2 => tb { Dn with nx := M, ct := M, bk := Dn.nx } σ2 H2) := by
  refine ⟨fun i m σ' H' => m = ds.length - i ∧ i ≤ ds.length ∧ ∃ E', I i E' ∧ SR K F E' (t ++ τ) σ' H', ⟨_, rfl, Nat.zero_le _, E, h0, S⟩, ?_⟩
  rintro i m σ' H' ⟨rfl, hi, E', hI, S'⟩
  have ht : ∀ p ∈ t, Rep K (base F H' (ow F E')) p.1 p.2 := fun p hp => S'.tmp p (List.mem_append_left _ hp)
  by_cases hlt : i < ds.length
  · refine .inr ⟨w.goes i _ H' hlt S'.ex S'.bex ht, fun σ2 H2 => ∃ E2, I (i + 1) E2 ∧ SR K F E2 (t ++ τ) σ2 H2, fun σ2 H2 ⟨E2, h1, h2⟩ => ⟨ds.length - (i + 1), by omega, rfl, hlt, E2, h1, h2⟩, fun x H2 y => ?_⟩
    obtain ⟨e, d, hd', r⟩ := w.yields i _ H' x H2 hlt S'.ex S'.bex ht y
    subst e
    exact hs i d E' x σ' _ hd' hI S' r _ fun E2 σ2 H2 h1 h2 => ⟨E2, h1, h2⟩
  · have e : i = ds.length := by omega
    subst e
    exact .inl ⟨w.stops _ H' S'.ex S'.bex ht, hd E' σ' H' hI S'⟩
theorem SR.tail {K : PySem.W.Frag} {F : Fm} {t τ : List (V × D)} {σ : L2.St} {H : Hp} (S : SR K F E (t ++ τ) σ H) : SR K F E τ σ H := S.temps fun p hp => S.tmp p (List.mem_append_right _ hp)
/-- for tg in e: I by the turn and the slots -/
theorem h_for (I : Nat → En → Prop) (hi : HasI X E tg e ds) (hg : TgOk X tg φ) (h0 : I 0 E) (hb : ∀ (i : Nat) (d : D) (E' : En), ds[i]? = some d → I i E' → ∃ E2, φ d E' E2 ∧ HasSs X E2 body ⟨I (i + 1), N.rt, N.nx, I (i + 1)⟩)
    (hd : ∀ E', I ds.length E' → N.nx E') (hp : PassesOwn (model X.prog X.w) X.A X.env X.xe := by exact PassesOwn.never) (hc : X.calm = true := by rfl) (hs : ∀ x, foldedSetIterable e X.env x = pure x := by intro _; rfl) : HasS X E (.For tg e body [] pos) N := by
  obtain ⟨g, pg, hq⟩ := hg
  refine PS.mono (ps_for hp hc hi pg (PSs.of_any (ι := Nat × En) (P := fun q => HasSs X q.2 body ⟨I (q.1 + 1), N.rt, N.nx, I (q.1 + 1)⟩) (t := fun q => tSt X.K q.2 ⟨I (q.1 + 1), N.rt, N.nx, I (q.1 + 1)⟩) fun q h => h) hs) fun Dn σ H ⟨F, τ, S, k1, k2, k3, k4⟩ => ⟨F, τ, S, fun J H' t e1 w S1 => ?_⟩
  refine for_walk (g := g) (tb := fun D σ H => ∃ q : Nat × En, HasSs X q.2 body ⟨I (q.1 + 1), N.rt, N.nx, I (q.1 + 1)⟩ ∧ tSt X.K q.2 ⟨I (q.1 + 1), N.rt, N.nx, I (q.1 + 1)⟩ D σ H) w I h0 S1 (fun i d E' x σ' H2 hd' hI S' r M hM => ?_) fun E' σ' H2 hI S' => k1 E' σ' H2 (hd E' hI) S'.tail
  obtain ⟨E2, h1, h2⟩ := hb i d E' hd' hI
  refine hq F E' E2 (t ++ τ) σ' H2 x d h1 S' r _ fun σ2 S2 => ⟨(i, E2), h2, F, t ++ τ, S2, fun E3 σ3 H3 hn S3 => hM E3 σ3 H3 hn S3, k2, fun E3 σ3 H3 hn S3 => k1 E3 σ3 H3 hn S3.tail, fun E3 σ3 H3 hn S3 => hM E3 σ3 H3 hn S3⟩
theorem q_for {rest : List Stmt} (I : Nat → En → Prop) (M : En → Prop) (hi : HasI X E tg e ds) (hg : TgOk X tg φ) (h0 : I 0 E) (hb : ∀ (i : Nat) (d : D) (E' : En), ds[i]? = some d → I i E' → ∃ E2, φ d E' E2 ∧ HasSs X E2 body ⟨I (i + 1), N.rt, M, I (i + 1)⟩)
    (hd : ∀ E', I ds.length E' → M E') (hr : ∀ E', M E' → HasSs X E' rest N) (hp : PassesOwn (model X.prog X.w) X.A X.env X.xe := by exact PassesOwn.never) (hc : X.calm = true := by rfl) (hs : ∀ x, foldedSetIterable e X.env x = pure x := by intro _; rfl) :
    HasSs X E (.For tg e body [] pos :: rest) N := s_cons (M := M) (h_for I hi hg h0 hb hd hp hc hs) hr
end
/-! ### comprehensions -/
def wipeE (E : En) : List Nat → En
  | [] => E
  | i :: r => (wipeE E r).set i none
section
variable {X : Cx} {E : En} {tg iter elt c : Expr} {pos : Pos} {φ : D → En → En → Prop}
theorem wipe_ix {σ : L2.St} {j : Nat} : ∀ {vs : List Nat}, j ∉ vs → (wipe σ vs)[j]? = σ[j]? := fun {vs} h => wipe_out h
theorem SR.wiped {K : PySem.W.Frag} {F : Fm} {τ : List (V × D)} {H : Hp} {E : En} {σ : L2.St} (S : SR K F E τ σ H) : ∀ {vs : List Nat}, SR K F (wipeE E vs) τ (wipe σ vs) H
  | [] => S
  | i :: r => by
    have S1 := SR.wiped S (vs := r)
    exact S1.drop i (σ' := (wipe σ r).set i none) (by simp) fun j hj => by rw [List.getElem?_set_ne (Ne.symm hj)]
theorem owns_app : ∀ (A B : En), owns (A ++ B) = owns A ++ owns B
  | [], _ => rfl
  | o :: r, B => by rw [List.cons_append, owns_cons, owns_cons, owns_app r B, List.append_assoc]
abbrev Fm.hid (F : Fm) (l : Addr) (ds : List D) : Fm := { F with gh := .oL l ds :: F.gh }
theorem ow_hid {F : Fm} {l a : Addr} {ds : List D} : a ∈ ow (F.hid l ds) E ↔ a = l ∨ a ∈ ow F E := by
  rw [mem_ow, mem_ow]
  constructor
  · rintro (h | ⟨s, h1, h2⟩)
    · exact .inr (.inl h)
    · rcases List.mem_cons.mp h1 with rfl | h1
      · simp only [Sl.own, List.mem_singleton] at h2
        exact .inl h2
      · exact .inr (.inr ⟨s, h1, h2⟩)
  · rintro (rfl | h | ⟨s, h1, h2⟩)
    · exact .inr ⟨_, List.mem_cons_self, by simp [Sl.own]⟩
    · exact .inl h
    · exact .inr ⟨s, List.mem_cons_of_mem _ h1, h2⟩
/-- two frames of one entry, two lists of own addresses of which the second holds no more -/
theorem base_eqF {F F' : Fm} {H H' : Hp} {ow1 ow2 : List Addr} (hB : F'.B0 = F.B0) (hH : F'.H0 = F.H0) (hs : ∀ a ∈ ow2, a ∈ ow1) (k : ∀ a o, a ∉ ow1 → H a = some o → H' a = some o) : Ex (base F H ow1) (base F' H' ow2) := fun a o q => by
  have h1 : a ∉ ow1 := fun z => by rw [base_in z] at q; cases q
  have h2 : a ∉ ow2 := fun z => h1 (hs a z)
  cases h3 : F.H0 a with
  | none =>
    rw [base_new h1 h3] at q
    rw [base_new h2 (by rw [hH]; exact h3)]
    exact k a o h1 q
  | some u =>
    rw [base_old h1 h3] at q
    rw [base_old h2 (by rw [hH]; exact h3), hB]
    exact q
theorem ow_wipe {F : Fm} {vs : List Nat} (hw : owns (wipeE E vs) = owns E) : ow F (wipeE E vs) = ow F E := by
  unfold ow
  rw [owns_app, owns_app, hw]
theorem SR.hid {K : PySem.W.Frag} {F : Fm} {τ : List (V × D)} {σ : L2.St} {H1 H : Hp} {Dl : Addr} {acc : List V} {out : List D} (S : SR K F E τ σ H1) (hD : H1 Dl = none) (e1 : Ex H1 H) (hacc : H Dl = some (.lst acc)) (hr : Reps K (base F H ([Dl] ++ ow F E)) acc out) : SR K (F.hid Dl out) E τ σ H := by
  have nD : Dl ∉ ow F E := S.nown hD
  have f0 := S.free hD
  have b1 : Ex (base F H ([Dl] ++ ow F E)) (base (F.hid Dl out) H (ow (F.hid Dl out) E)) := base_eqF rfl rfl (fun a h => by
    rcases ow_hid.mp h with y | y
    · exact List.mem_append_left _ (by simp [y])
    · exact List.mem_append_right _ y) fun _ _ _ q => q
  have bb : Ex (base F H1 (ow F E)) (base (F.hid Dl out) H (ow (F.hid Dl out) E)) := Ex.trans (base_mono (fun a u _ _ q => e1 a u q) fun a ha => by
    rcases List.mem_append.mp ha with z | z
    · rw [List.mem_singleton] at z
      subst z
      exact .inr (by rw [base_new nD f0]; exact hD)
    · exact .inl z) b1
  refine ⟨S.len, fun j s hj => ?_, fun s h => ?_, fun p hp => Rep.le bb.le (S.tmp p hp), S.ex.trans e1, S.b0, ?_, fun l hl => ?_⟩
  · obtain ⟨v, h1, h2⟩ := S.slot j s hj
    exact ⟨v, h1, h2.le bb.le fun l _ u q => e1 l u q⟩
  · rcases List.mem_cons.mp h with rfl | h
    · exact ⟨.ref Dl, rfl, acc, hacc, Reps.le b1.le hr⟩
    · obtain ⟨v, h2⟩ := S.gho s h
      exact ⟨v, h2.le bb.le fun l _ u q => e1 l u q⟩
  · show (owns (E ++ (some (.oL Dl out) :: F.gh.map some))).Nodup
    have hn : (owns (E ++ F.gh.map some)).Nodup := S.nd
    have hne : Dl ∉ owns (E ++ F.gh.map some) := nD
    rw [owns_app] at hn hne ⊢
    show (owns E ++ ([Dl] ++ owns (F.gh.map some))).Nodup
    rw [List.nodup_append] at hn ⊢
    refine ⟨hn.1, ?_, fun a ha b hb => ?_⟩
    · rw [List.nodup_append]
      exact ⟨by simp, hn.2.1, fun a ha b hb e => by
        rw [List.mem_singleton] at ha
        subst ha; subst e
        exact hne (List.mem_append_right _ hb)⟩
    · rcases List.mem_append.mp hb with z | z
      · rw [List.mem_singleton] at z
        subst z
        exact fun e => hne (List.mem_append_left _ (e ▸ ha))
      · exact hn.2.2 a ha b z
  · rcases ow_hid.mp hl with rfl | y
    · exact f0
    · exact S.fr l y
theorem lc_walk {K : PySem.W.Frag} {F : Fm} {t τ : List (V × D)} {J : It} {ds : List D} (w : WalkD K F.H0 t J ds) {g : TG} {tt : TT} {te : TE} {vs : List Nat} {σ : L2.St} {H1 : Hp} {Dl : Addr} {Qd : Hp → Prop} (out : Nat → List D) (h0 : out 0 = []) (hz : ds.length ≤ 100000) (hD : H1 Dl = none)
    (hlen : ∀ i, (out i).length ≤ i) (hw : owns (wipeE E vs) = owns E) (S : SR K F E (t ++ τ) σ H1)
    (hs : ∀ (i : Nat) (d : D) (F' : Fm) (x : V) (H : Hp), ds[i]? = some d → SR K F' (wipeE E vs) (t ++ τ) (wipe σ vs) H → Rep K (base F' H (ow F' (wipeE E vs))) x d → ∀ (M : Hp → Prop), (out (i + 1) = out i → ∀ H', Ex H H' → M H') →
      (∀ (y : V) (d' : D) (H4 : Hp), out (i + 1) = out i ++ [d'] → Ex H H4 → Rep K (base F' H4 (ow F' (wipeE E vs))) y d' → ∃ acc, H4 Dl = some (.lst acc) ∧ acc.length < sizeLine ∧ M (upd H4 Dl (.lst (acc ++ [y])))) →
      g x (wipe σ vs) H fun σ2 H2 => wipe σ2 vs = wipe σ vs ∧ tt σ2 H2 fun b H3 => if b = true then te σ2 H3 fun y H4 => ∃ acc, H4 Dl = some (.lst acc) ∧ acc.length < sizeLine ∧ M (upd H4 Dl (.lst (acc ++ [y]))) else M H3)
    (hd : ∀ H', Out K F (ow F E) H1 H' (.ref Dl) (.oL Dl (out ds.length)) → Qd H') :
    ∃ W : Nat → Nat → Hp → Prop, (∃ m, W 0 m (upd H1 Dl (.lst []))) ∧ ∀ i m H, W i m H →
      (J.stop i H ∧ Qd H) ∨ (J.go i H ∧ ∃ Nx : Hp → Prop, (∀ H', Nx H' → ∃ m', m' < m ∧ W (i + 1) m' H') ∧ ∀ x H', J.yld i H x H' → g x (wipe σ vs) H' fun σ2 H2 => wipe σ2 vs = wipe σ vs ∧ tt σ2 H2 fun b H3 =>
        if b = true then te σ2 H3 fun y H4 => ∃ acc, H4 Dl = some (.lst acc) ∧ acc.length < sizeLine ∧ Nx (upd H4 Dl (.lst (acc ++ [y]))) else Nx H3) := by
  have nD : Dl ∉ ow F E := S.nown hD
  refine ⟨fun i m H => m = ds.length - i ∧ i ≤ ds.length ∧ Ex H1 H ∧ ∃ acc, H Dl = some (.lst acc) ∧ Reps K (base F H ([Dl] ++ ow F E)) acc (out i), ⟨_, rfl, Nat.zero_le _, Ex.upd hD, [], upd_same, by rw [h0]; exact .nil⟩, ?_⟩
  rintro i m H ⟨rfl, hi, e1, acc, ha, hr⟩
  have St : SR K (F.hid Dl (out i)) E (t ++ τ) σ H := S.hid hD e1 ha hr
  have ht : ∀ p ∈ t, Rep K (base (F.hid Dl (out i)) H (ow (F.hid Dl (out i)) E)) p.1 p.2 := fun p hp => St.tmp p (List.mem_append_left _ hp)
  by_cases hlt : i < ds.length
  · refine .inr ⟨w.goes i _ H hlt St.ex St.bex ht, fun H' => Ex H1 H' ∧ ∃ acc, H' Dl = some (.lst acc) ∧ Reps K (base F H' ([Dl] ++ ow F E)) acc (out (i + 1)), fun H' h => ⟨ds.length - (i + 1), by omega, rfl, hlt, h⟩, fun x H2 y => ?_⟩
    obtain ⟨e, d, hd', r⟩ := w.yields i _ H x H2 hlt St.ex St.bex ht y
    subst e
    refine hs i d _ x _ hd' St.wiped (by rw [ow_wipe hw]; exact r) _ (fun eo H' e2 => ⟨e1.trans e2, acc, e2 _ _ ha, by rw [eo]; exact Reps.le (base_mono (fun a u _ _ q => e2 a u q) fun a h => .inl h).le hr⟩) fun y d' H4 eo e2 r' => ?_
    rw [ow_wipe hw] at r'
    have b2 : Ex (base F H2 ([Dl] ++ ow F E)) (base F (upd H4 Dl (.lst (acc ++ [y]))) ([Dl] ++ ow F E)) := base_mono (fun a u h _ q => by
      rw [upd_ne (fun z => h (List.mem_append_left _ (by simp [z])))]
      exact e2 a u q) fun a h => .inl h
    have b3 : Ex (base (F.hid Dl (out i)) H4 (ow (F.hid Dl (out i)) E)) (base F (upd H4 Dl (.lst (acc ++ [y]))) ([Dl] ++ ow F E)) := base_eqF rfl rfl (fun a h => by
      rcases List.mem_append.mp h with z | z
      · rw [List.mem_singleton] at z
        exact ow_hid.mpr (.inl z)
      · exact ow_hid.mpr (.inr z)) fun a u h q => by
      rw [upd_ne (fun z => h (ow_hid.mpr (.inl z)))]
      exact q
    have hzz : acc.length < 100000 := by
      have h1 := hr.len
      have h2 := hlen i
      omega
    refine ⟨acc, e2 _ _ ha, Nat.lt_of_lt_of_le hzz (by decide), fun a u q => ?_, acc ++ [y], upd_same, ?_⟩
    · rw [upd_ne (ne_of_none q hD)]
      exact e2 a u (e1 a u q)
    · rw [eo]
      exact Reps.append (Reps.le b2.le hr) (.cons (Rep.le b3.le r') .nil)
  · have e : i = ds.length := by omega
    subst e
    exact .inl ⟨w.stops _ H St.ex St.bex ht, hd H ⟨e1, ⟨rfl, acc, ha, hr⟩, fun l hl => by simp only [Sl.own, List.mem_singleton] at hl; subst hl; exact hD, by simp [Sl.own]⟩⟩
/-- the first i turns: what is made of the items that are taken -/
def made (ds : List D) (kf : D → Option D) (i : Nat) : List D := (ds.take i).filterMap kf
theorem made_zero {ds : List D} {kf : D → Option D} : made ds kf 0 = [] := rfl
theorem made_len {ds : List D} {kf : D → Option D} (i : Nat) : (made ds kf i).length ≤ i := by
  unfold made
  refine Nat.le_trans (List.length_filterMap_le _ _) ?_
  rw [List.length_take]
  exact Nat.min_le_left _ _
theorem made_succ {ds : List D} {kf : D → Option D} {i : Nat} {d : D} (h : ds[i]? = some d) : made ds kf (i + 1) = made ds kf i ++ (kf d).toList := by
  unfold made
  have hi : i < ds.length := (List.getElem?_eq_some_iff.mp h).1
  have e : ds[i] = d := by
    rw [List.getElem?_eq_getElem hi] at h
    exact Option.some.inj h
  have e2 : [d].filterMap kf = (kf d).toList := by cases q : kf d <;> simp [List.filterMap_cons, q]
  rw [List.take_succ_eq_append_getElem hi, List.filterMap_append, e, e2]
theorem made_all {ds : List D} {kf : D → Option D} : made ds kf ds.length = ds.filterMap kf := by
  unfold made
  rw [List.take_length]
/-- tests of a comprehension -/
abbrev HasTs (X : Cx) (E : En) (cs : List Expr) (b : Bool) : Prop := PTs X cs (tTs X.K E b)
theorem ts_nil {E : En} : HasTs X E [] true := ⟨fun pins s σ H Q I ⟨F, τ, S, k⟩ => pts_nil.run pins s σ H Q I (k H (Ex.rfl' H))⟩
theorem ts_one {E : En} {b : Bool} (h : HasT X E c b) : HasTs X E [c] b := pts_one h
/-- a turn's target, in the block's frame -/
abbrev Blk (X : Cx) (scope : Scope) : Type := Shared × Hp × Addr × List (Str × Addr) × List Addr
abbrev Blk.x {X : Cx} {scope : Scope} (b : Blk X scope) : Cx := X.blk b.1 b.2.1 scope (compEnvC scope b.2.2.2.1 b.2.2.1 X.env) b.2.2.2.2
theorem tg_blk {scope : Scope} {g : TG} (h : ∀ b : Blk X scope, PG b.x tg g) : ∀ (s : Shared) (H : Hp) (C : Addr) (cl : List (Str × Addr)) (fp : List Addr), PG (X.blk s H scope (compEnvC scope cl C X.env) fp) tg g := fun s H C cl fp => h (s, H, C, cl, fp)
/-- a comprehension's turn: the test, the element -/
abbrev lcT (K : PySem.W.Frag) (E : En) (j : Nat) (ds : List D) (kf : D → Option D) : TT := fun σ H Q => ∃ q : Nat × D, ds[q.1]? = some q.2 ∧ tTs K ((E.set j none).set j (some (.val q.2))) (kf q.2).isSome σ H Q
abbrev lcE (K : PySem.W.Frag) (E : En) (j : Nat) (ds : List D) (kf : D → Option D) : TE := fun σ H Q => ∃ q : Nat × D × D, (ds[q.1]? = some q.2.1 ∧ kf q.2.1 = some q.2.2) ∧ tEv K ((E.set j none).set j (some (.val q.2.1))) (.val q.2.2) σ H Q
theorem lc_in {K : PySem.W.Frag} {F : Fm} {τ : List (V × D)} {ds : List D} {j : Nat} {kf : D → Option D} (hz : ds.length ≤ 100000) (hjE : j < E.length) (hw : owns (E.set j none) = owns E) {σ : L2.St} {H1 : Hp} {Q : VK} {J : It} {t : List (V × D)} (w : WalkD K F.H0 t J ds) (S1 : SR K F E (t ++ τ) σ H1) (k : Kt K F (ow F E) H1 (.nL (ds.filterMap kf)) Q) :
    tLc (fun _ H R => R J H) (gName j) (lcT K E j ds kf) (lcE K E j ds kf) [j] σ H1 Q := by
  refine fun Dl hD => ?_
  refine lc_walk (E := E) (vs := [j]) (g := gName j) (tt := lcT K E j ds kf) (te := lcE K E j ds kf) (Qd := fun H => Q (.ref Dl) H) w (made ds kf) made_zero hz hD made_len hw S1 (fun i d F' xv H2 hd' S2 r M m1 m2 => ?_) fun H' o => ?_
  · have hjE' : j < (E.set j none).length := by rw [List.length_set]; exact hjE
    have S3 : SR K F' ((E.set j none).set j (some (.val d))) (t ++ τ) ((wipe σ [j]).set j (some xv)) H2 := S2.setv r hjE'
    refine ⟨?_, (i, d), hd', F', t ++ τ, S3, fun H3 e3 => ?_⟩
    · show (((σ.set j none).set j (some xv)).set j none) = σ.set j none
      rw [List.set_set, List.set_set]
    · cases q : kf d with
      | none =>
        refine iteF ?_
        refine m1 ?_ H3 e3
        rw [made_succ hd', q]
        simp
      | some d' =>
        refine iteT ?_
        refine ⟨(i, d, d'), ⟨hd', q⟩, F', t ++ τ, S3.grow e3, fun y s H4 hs4 o4 => ?_⟩
        cases hs4
        have r4 := o4.rp
        refine m2 y d' H4 (by rw [made_succ hd', q]; rfl) (e3.trans o4.ex) (Rep.le ?_ r4)
        refine (base_sub fun a ha => .inl ?_).le
        have e5 : ow F' (wipeE E [j]) = ow F' ((E.set j none).set j (some (.val d))) := by
          unfold ow
          rw [owns_app, owns_app]
          congr 1
          have key : ∀ (L : En) (j : Nat), owns ((L.set j none).set j (some (.val d))) = owns (L.set j none) := by
            intro L
            induction L with
            | nil => intro j; rfl
            | cons o r ih =>
              intro j
              cases j with
              | zero => rfl
              | succ j =>
                show owns (o :: ((r.set j none).set j (some (.val d)))) = owns (o :: (r.set j none))
                rw [owns_cons, owns_cons, ih j]
          exact (key E j).symm
        rw [e5] at ha
        exact ha
  · rw [made_all] at o
    exact k _ _ H' ⟨Dl, rfl⟩ o
theorem lc_read {K : PySem.W.Frag} {ds : List D} {j : Nat} {kf : D → Option D} (hz : ds.length ≤ 100000) (hjE : j < E.length) (hw : owns (E.set j none) = owns E) {σ : L2.St} {H : Hp} {Q : VK} (h : tEv K E (.nL (ds.filterMap kf)) σ H Q) :
    tLc (tWk K E ds) (gName j) (lcT K E j ds kf) (lcE K E j ds kf) [j] σ H Q := by
  obtain ⟨F, τ, S, k⟩ := h
  exact ⟨F, τ, S, fun J H1 t e1 w S1 => lc_in hz hjE hw w S1 (Kt.later k e1)⟩
/-- [elt for x in iter if ..]: x in slot j -/
theorem h_lc {x : Str} {px : Pos} {ifs : List Expr} {scope : Scope} {ds : List D} (j : Nat) (kf : D → Option D) (hN : X.N.Nodup) (hi : HasI X E (.Name x px) iter ds) (hz : ds.length ≤ 100000) (hok : blkC X.N X.env.scope scope [(x, j)] = true)
    (hs : ∀ (i : Nat) (d : D), ds[i]? = some d → ∀ b : Blk X scope, HasTs b.x ((E.set j none).set j (some (.val d))) ifs (kf d).isSome ∧ ∀ d', kf d = some d' → HasD b.x ((E.set j none).set j (some (.val d))) elt d')
    (hj : X.N[j]? = some x := by rfl) (hjE : j < E.length := by exact Nat.le_of_ble_eq_true rfl) (hw : owns (E.set j none) = owns E := by rfl) (hc : X.calm = true := by rfl)
    (hx : ∀ b : Blk X scope, Loc b.x.env.scope x := by first | exact fun _ => Or.inl rfl | exact fun _ => Or.inr rfl)
    (hf : ∀ b : Blk X scope, b.x.fn x = true ∨ b.x.env.scope.names.lookup x = some .local := by first | exact fun _ => .inl rfl | exact fun _ => .inr rfl)
    (hfi : ∀ x, foldedSetIterable iter X.env x = pure x := by intro _; rfl) : HasR X E (.ListComp elt [⟨.Name x px, iter, ifs, 0⟩] scope pos) (.nL (ds.filterMap kf)) :=
  PE.mono (pe_lc (pos := pos) (own := [(x, j)]) hc hN hi (blkOk_by hok) (tg_blk fun b => pg_name hN hj (hx b) (hf b))
    (fun s H C cl fp => PTs.of_any (ι := Nat × D) (P := fun q => ds[q.1]? = some q.2) (t := fun q => tTs X.K ((E.set j none).set j (some (.val q.2))) (kf q.2).isSome) fun q h => (hs q.1 q.2 h (s, H, C, cl, fp)).1)
    (fun s H C cl fp => PE.of_any (ι := Nat × D × D) (P := fun q => ds[q.1]? = some q.2.1 ∧ kf q.2.1 = some q.2.2) (t := fun q => tEv X.K ((E.set j none).set j (some (.val q.2.1))) (.val q.2.2)) fun q h => (hs q.1 q.2.1 h.1 (s, H, C, cl, fp)).2 q.2.2 h.2) hfi) fun σ H Q h => lc_read hz hjE hw h
/-- y = [elt for x in iter if ..] -/
theorem h_setLc {N : Po} {x y : Str} {px py spos : Pos} {ifs : List Expr} {scope : Scope} {ds : List D} (i0 j : Nat) (kf : D → Option D) (hN : X.N.Nodup) (hi : HasI X E (.Name x px) iter ds) (hz : ds.length ≤ 100000) (hok : blkC X.N X.env.scope scope [(x, j)] = true)
    (hs : ∀ (i : Nat) (d : D), ds[i]? = some d → ∀ b : Blk X scope, HasTs b.x ((E.set j none).set j (some (.val d))) ifs (kf d).isSome ∧ ∀ d', kf d = some d' → HasD b.x ((E.set j none).set j (some (.val d))) elt d')
    (hn : ∀ l, N.nx (E.set i0 (some (.oL l (ds.filterMap kf)))))
    (hsw : swapsWith (.ListComp elt [⟨.Name x px, iter, ifs, 0⟩] scope pos) (some (.Name y py)) spos.line X.env = pure true)
    (hy : X.N[i0]? = some y := by rfl) (hyE : i0 < E.length := by exact Nat.le_of_ble_eq_true rfl) (hyl : X.env.scope.names.lookup y = some .local := by rfl)
    (hj : X.N[j]? = some x := by rfl) (hjE : j < E.length := by exact Nat.le_of_ble_eq_true rfl) (hw : owns (E.set j none) = owns E := by rfl) (hc : X.calm = true := by rfl)
    (hx : ∀ b : Blk X scope, Loc b.x.env.scope x := by first | exact fun _ => Or.inl rfl | exact fun _ => Or.inr rfl)
    (hf : ∀ b : Blk X scope, b.x.fn x = true ∨ b.x.env.scope.names.lookup x = some .local := by first | exact fun _ => .inl rfl | exact fun _ => .inr rfl)
    (hfi : ∀ x, foldedSetIterable iter X.env x = pure x := by intro _; rfl) : HasS X E (.Assign [.Name y py] (.ListComp elt [⟨.Name x px, iter, ifs, 0⟩] scope pos) spos) N :=
  PS.mono (ps_setLc (own := [(x, j)]) hc hN hy hyl hsw hi (blkOk_by hok) (tg_blk fun b => pg_name hN hj (hx b) (hf b))
    (fun s H C cl fp => PTs.of_any (ι := Nat × D) (P := fun q => ds[q.1]? = some q.2) (t := fun q => tTs X.K ((E.set j none).set j (some (.val q.2))) (kf q.2).isSome) fun q h => (hs q.1 q.2 h (s, H, C, cl, fp)).1)
    (fun s H C cl fp => PE.of_any (ι := Nat × D × D) (P := fun q => ds[q.1]? = some q.2.1 ∧ kf q.2.1 = some q.2.2) (t := fun q => tEv X.K ((E.set j none).set j (some (.val q.2.1))) (.val q.2.2)) fun q h => (hs q.1 q.2.1 h.1 (s, H, C, cl, fp)).2 q.2.2 h.2) hfi) fun Dn σ H ⟨F, τ, S, k, _⟩ =>
    lc_read (K := X.K) (ds := ds) (j := j) (kf := kf) hz hjE hw ⟨F, τ, S, fun v s H' hs' o => by
      obtain ⟨l, rfl⟩ := hs'
      exact k _ _ _ (hn l) (S.put o (by rw [S.len]; exact hyE))⟩
end
end K39
/-! KCall -/
set_option maxHeartbeats 4000000
/-! ## defs and calls over data -/
namespace K39
open PySem PySem.Spec PyProof.Rows L2
/-- a def's promise: of arguments that stand for ds it makes what G tells -/
def spG (K : PySem.W.Frag) (G : List D → Rs → Prop) : Sp := fun vs H Q _ => ∃ B ds r, Ex B H ∧ Reps K B vs ds ∧ G ds r ∧ ∀ v s H', r.ok s → Out K ⟨B, H, []⟩ [] H H' v s → Q v H'
section
variable {K : PySem.W.Frag} {F : Fm} {E : En} {τ : List (V × D)} {σ : L2.St} {H H' : Hp}
/-- what a callee hands back, in the caller's words -/
theorem SR.back (S : SR K F E τ σ H) {v : V} {s : Sl} (o : Out K ⟨base F H (ow F E), H, []⟩ [] H H' v s) : Out K F (ow F E) H H' v s := by
  refine ⟨o.ex, o.rep.le (Ex.le fun a u q => ?_) fun _ _ _ q => q, o.new, o.nd⟩
  have h1 : a ∉ s.own ++ [] := fun z => by rw [base_in z] at q; cases q
  have h1' : a ∉ s.own := by simpa using h1
  cases h2 : H a with
  | none =>
    rw [base_new (F := ⟨base F H (ow F E), H, []⟩) h1 h2] at q
    have h3 : a ∉ s.own ++ ow F E := fun z => (List.mem_append.mp z).elim h1' (S.nown h2)
    rw [base_new h3 (S.free h2)]
    exact q
  | some w =>
    rw [base_old (F := ⟨base F H (ow F E), H, []⟩) h1 h2] at q
    have q' : base F H (ow F E) a = some u := q
    have h4 : a ∉ ow F E := fun z => by rw [base_in z] at q'; cases q'
    have h3 : a ∉ s.own ++ ow F E := fun z => (List.mem_append.mp z).elim h1' h4
    cases h5 : F.H0 a with
    | none =>
      rw [base_new h4 h5] at q'
      rw [base_new h3 h5]
      exact o.ex _ _ q'
    | some z =>
      rw [base_old h4 h5] at q'
      rw [base_old h3 h5]
      exact q'
/-- the arguments, then nothing -/
def args (ds : List D) (n : Nat) : En := ds.map (fun d => some (.val d)) ++ List.replicate n none
theorem args_owns (ds : List D) (n : Nat) : owns (args ds n) = [] := by
  unfold args
  rw [owns_app]
  have h1 : ∀ n, owns (List.replicate n none) = [] := by
    intro n
    induction n with
    | zero => rfl
    | succ n ih => rw [List.replicate_succ]; exact ih
  have h2 : ∀ ds : List D, owns (ds.map fun d => some (.val d)) = [] := by
    intro ds
    induction ds with
    | nil => rfl
    | cons d r ih => rw [List.map_cons, owns_cons, ih]; rfl
  rw [h1, h2]; rfl
theorem SR.start {N : List Str} {B : Hp} {vs : List V} {ds : List D} (e : Ex B H) (r : Reps K B vs ds) (hl : ds.length ≤ N.length) : SR K ⟨B, H, []⟩ (args ds (N.length - ds.length)) [] (L2.start N vs) H := by
  have ho : ow ⟨B, H, []⟩ (args ds (N.length - ds.length)) = [] := by
    show owns (args ds _ ++ []) = []
    rw [List.append_nil, args_owns]
  have hb : Ex B (base ⟨B, H, []⟩ H []) := fun a o q => by
    rw [base_old (F := ⟨B, H, []⟩) (by simp) (e a o q)]
    exact q
  refine ⟨?_, fun i s h => ?_, fun s h => (by simp at h), fun p hp => (by simp at hp), Ex.rfl' H, e, by rw [ho]; exact List.nodup_nil, fun l h => by rw [ho] at h; simp at h⟩
  · unfold L2.start args
    simp [r.len]
  · rw [ho]
    unfold args at h
    by_cases hi : i < ds.length
    · rw [List.getElem?_append_left (by simpa using hi), List.getElem?_map, List.getElem?_eq_getElem hi] at h
      have h' : Sl.val ds[i] = s := by simpa using h
      subst h'
      obtain ⟨v, h1, h2⟩ := r.get (List.getElem?_eq_getElem hi)
      refine ⟨v, ?_, Rep.le hb.le h2⟩
      unfold L2.start
      have hi' : i < vs.length := by rw [r.len]; exact hi
      rw [List.getElem?_append_left (by simpa using hi'), List.getElem?_map, h1]
      rfl
    · rw [List.getElem?_append_right (by simpa using Nat.le_of_not_lt hi)] at h
      rw [List.getElem?_replicate] at h
      split at h <;> cases h
end
/-- a def of the module, by its name: what it promises -/
structure Kn (P : Program) (w : World) (K : PySem.W.Frag) (mg : Str → Option Value) (bs : Heap) (CX : CXT) (k : Nat) (x : Str) (ps : List Str) (sp : Sp) : Prop where
  ex : ∃ (f : Addr) (fd : FuncData), FnOk P w K mg bs CX k f fd ps sp ∧ L2.Binds K fd ps [] ∧ PySem.W.keepIn K (.ref f) = true ∧ mg x = some (.ref f)
/-- a method of a class of the module -/
structure KnM (P : Program) (w : World) (K : PySem.W.Frag) (mg : Str → Option Value) (bs : Heap) (CX : CXT) (k : Nat) (C : Addr) (m : Str) (ps : List Str) (sp : Sp) : Prop where
  ex : ∃ (f : Addr) (fd : FuncData), FnOk P w K mg bs CX k f fd ps sp ∧ L2.Binds K fd ps [] ∧ Meth K C m f ∧ PySem.W.fnIn K f = true
  cl : Cls K C
section
variable {X : Cx} {E : En} {x m : Str} {p pos apos : Pos} {e o : Expr} {es : List Expr} {k : Nat} {ps : List Str} {G : List D → Rs → Prop} {r : Rs} {ds : List D} {C : Addr} {fs : List (Str × D)}
theorem h_call (T : Kn X.prog X.w X.K X.mg X.base CX0 k x ps (spG X.K G)) (hr : Room k X.A) (ha : HA X E (e :: es) ds) (hG : G ds r) (hg : Gl X x := by rfl)
    (PC : ∀ {f : Addr} {fd : FuncData} {t : TA}, Room k X.A → FnOk X.prog X.w X.K X.mg X.base CX0 k f fd ps (spG X.K G) → L2.Binds X.K fd ps [] → PySem.W.keepIn X.K (.ref f) = true → X.mg x = some (.ref f) → PA X (e :: es) t → PE X (.Call (.Name x p) (e :: es) [] pos) (tCall (spG X.K G) [] E0 t) := by
      exact fun hr hF hB hK hM ha => pe_call hF hr (by rfl) hM hK hB .nil pass0 ha) : HasR X E (.Call (.Name x p) (e :: es) [] pos) r := by
  obtain ⟨f, fd, hF, hB, hK, hM⟩ := T.ex
  refine PE.mono (PC hr hF hB hK hM ha) fun σ H Q ⟨F, τ, S, kt⟩ => ⟨F, τ, S, fun vs H1 e1 rs => ?_⟩
  show spG X.K G (vs ++ []) H1 Q E0
  rw [List.append_nil]
  have S1 := S.grow e1
  exact ⟨base F H1 (ow F E), ds, r, S1.bex, rs, hG, fun v s H' hs' o => Kt.later kt e1 v s H' hs' (S1.back o)⟩
theorem h_call0 (T : Kn X.prog X.w X.K X.mg X.base CX0 k x ps (spG X.K G)) (hr : Room k X.A) (hG : G [] r) (hg : Gl X x := by rfl)
    (PC : ∀ {f : Addr} {fd : FuncData}, Room k X.A → FnOk X.prog X.w X.K X.mg X.base CX0 k f fd ps (spG X.K G) → L2.Binds X.K fd ps [] → PySem.W.keepIn X.K (.ref f) = true → X.mg x = some (.ref f) → PE X (.Call (.Name x p) [] [] pos) (tCall (spG X.K G) [] E0 tNil) := by
      exact fun hr hF hB hK hM => pe_call0 hF hr (by rfl) hM hK hB .nil pass0) : HasR X E (.Call (.Name x p) [] [] pos) r := by
  obtain ⟨f, fd, hF, hB, hK, hM⟩ := T.ex
  refine PE.mono (PC hr hF hB hK hM) fun σ H Q ⟨F, τ, S, kt⟩ => ?_
  exact ⟨base F H (ow F E), [], r, S.bex, .nil, hG, fun v s H' hs' o => kt v s H' hs' (S.back o)⟩
theorem RepsF.val {K : PySem.W.Frag} {B : Hp} {x : Str} : ∀ {ks : List (Str × V)} {ds : List (Str × D)}, RepsF K B ks ds → (ks.lookup x = none ∧ ds.lookup x = none) ∨ ∃ v d, ks.lookup x = some v ∧ ds.lookup x = some d ∧ Rep K B v d
  | _, _, .nil => .inl ⟨rfl, rfl⟩
  | _, _, .cons (x := y) (v := v) (d := d) (vs := ks) (ds := ds) h r => by
    by_cases e : x = y
    · subst e
      refine .inr ⟨v, d, ?_, ?_, h⟩
      · rw [List.lookup_cons, beq_self_eq_true]
      · rw [List.lookup_cons, beq_self_eq_true]
    · have e1 : (x == y) = false := beq_eq_false_iff_ne.mpr e
      rw [List.lookup_cons, e1, List.lookup_cons, e1]
      exact RepsF.val r
theorem RepsF.none {K : PySem.W.Frag} {B : Hp} {x : Str} {ks : List (Str × V)} {ds : List (Str × D)} (r : RepsF K B ks ds) (h : ds.lookup x = none) : ks.lookup x = none := by
  rcases RepsF.val (x := x) r with ⟨h1, _⟩ | ⟨v, d, _, h2, _⟩
  · exact h1
  · rw [h] at h2; cases h2
/-- o.f -/
theorem h_fld {f : Str} {d : D} (ho : HasD X E o (.ins C fs)) (hf : fs.lookup f = some d) (cl : Cls X.K C) (na : NoAttr X.K C f) (hb : attributeBase o f X.env (eval o X.env) = eval o X.env := by rfl) : HasD X E (.Attribute o f pos) d :=
  PE.mono (pe_fld ho hb) fun σ H Q ⟨F, τ, S, kt⟩ => ⟨F, τ, S, fun v s H1 hs oo => by
    cases hs
    have r := oo.rp
    cases r with
    | ins q rs =>
      rename_i a dx vs
      rcases RepsF.val (x := f) rs with ⟨_, h2⟩ | ⟨v, d', h1, h2, h3⟩
      · rw [h2] at hf; cases hf
      · rw [h2] at hf
        cases hf
        exact ⟨a, C, dx, vs, v, rfl, (S.grow oo.ex).bex _ _ q, cl, na, h1, kt _ _ _ rfl (.val oo.ex h3)⟩⟩
/-- o.m(..) -/
theorem h_meth (T : KnM X.prog X.w X.K X.mg X.base CX0 k C m ps (spG X.K G)) (hr : Room k X.A) (ho : HasD X E o (.ins C fs)) (hm : fs.lookup m = none) (ha : HA X E (e :: es) ds) (hG : G (.ins C fs :: ds) r)
    (PM : ∀ {f : Addr} {fd : FuncData} {ta : TE} {t : TA}, Cls X.K C → Room k X.A → FnOk X.prog X.w X.K X.mg X.base CX0 k f fd ps (spG X.K G) → L2.Binds X.K fd ps [] → Meth X.K C m f → PE X o ta → PA X (e :: es) t → PE X (.Call (.Attribute o m apos) (e :: es) [] pos) (tMeth C m (spG X.K G) [] E0 ta t) := by
      exact fun cl hr hF hB hM ho ha => pe_meth ho cl hM hF hr hB .nil pass0 ha) : HasR X E (.Call (.Attribute o m apos) (e :: es) [] pos) r := by
  obtain ⟨f, fd, hF, hB, hM, _⟩ := T.ex
  refine PE.mono (PM T.cl hr hF hB hM ho ha) fun σ H Q ⟨F, τ, S, kt⟩ => ⟨F, τ, S, fun v s H1 hs oo => ?_⟩
  cases hs
  have r1 := oo.rp
  have S1 := S.grow oo.ex
  cases r1 with
  | ins q rs =>
    rename_i a dx vs
    refine ⟨a, dx, vs, rfl, S1.bex _ _ q, rs.none hm, F, τ, S1, fun us H2 e2 r2 => ?_⟩
    show spG X.K G (.ref a :: (us ++ [])) H2 Q E0
    rw [List.append_nil]
    have S2 := S1.grow e2
    exact ⟨base F H2 (ow F E), _, r, S2.bex, .cons (Rep.le (S1.bmono e2).le oo.rp) r2, hG, fun v s H' hs' o => Kt.later kt (oo.ex.trans e2) v s H' hs' (S2.back o)⟩
theorem h_meth0 (T : KnM X.prog X.w X.K X.mg X.base CX0 k C m ps (spG X.K G)) (hr : Room k X.A) (ho : HasD X E o (.ins C fs)) (hm : fs.lookup m = none) (hG : G [.ins C fs] r)
    (PM : ∀ {f : Addr} {fd : FuncData} {ta : TE}, Cls X.K C → Room k X.A → FnOk X.prog X.w X.K X.mg X.base CX0 k f fd ps (spG X.K G) → L2.Binds X.K fd ps [] → Meth X.K C m f → PE X o ta → PE X (.Call (.Attribute o m apos) [] [] pos) (tMeth C m (spG X.K G) [] E0 ta tNil) := by
      exact fun cl hr hF hB hM ho => pe_meth0 ho cl hM hF hr hB .nil pass0) : HasR X E (.Call (.Attribute o m apos) [] [] pos) r := by
  obtain ⟨f, fd, hF, hB, hM, _⟩ := T.ex
  refine PE.mono (PM T.cl hr hF hB hM ho) fun σ H Q ⟨F, τ, S, kt⟩ => ⟨F, τ, S, fun v s H1 hs oo => ?_⟩
  cases hs
  have r1 := oo.rp
  have S1 := S.grow oo.ex
  cases r1 with
  | ins q rs =>
    rename_i a dx vs
    exact ⟨a, dx, vs, rfl, S1.bex _ _ q, rs.none hm, base F H1 (ow F E), _, r, S1.bex, .cons oo.rp .nil, hG, fun v s H' hs' o => Kt.later kt oo.ex v s H' hs' (S1.back o)⟩
/-! ### calls of built-ins -/
def CallOk (X : Cx) (f : Value) (ds : List D) (r : Rs) : Prop := ∃ rr : List V → Hp → VK → Prop, CallR X f rr ∧ ∀ (F : Fm) (E : En) (τ : List (V × D)) (σ : L2.St) (H : Hp) (vs : List V) (Q : VK),
  SR X.K F E τ σ H → Reps X.K (base F H (ow F E)) vs ds → Kt X.K F (ow F E) H r Q → rr vs H Q
theorem h_callB {id : String} (hc : CallOk X (.builtin id) ds r) (hm : X.mg x = none) (hv : bootBuiltins x = some (.builtin id)) (ha : HA X E (e :: es) ds) (hg : Gl X x := by rfl) (hn : x ≠ "__name__" := by decide) (hdb : (x == ("__debug__" : Str)) = false := by decide)
    (PB : X.mg x = none → bootBuiltins x = some (.builtin id) → ∀ {rr : List V → Hp → VK → Prop} {t : TA}, CallR X (.builtin id) rr → PA X (e :: es) t → PE X (.Call (.Name x p) (e :: es) [] pos) (tCB rr t) := by exact fun hm hv _ _ hc ha => pe_callB hc (by rfl) hm hv ha (by decide) (by decide)) : HasR X E (.Call (.Name x p) (e :: es) [] pos) r := by
  obtain ⟨rr, h1, h2⟩ := hc
  exact PE.mono (PB hm hv h1 ha) fun σ H Q ⟨F, τ, S, kt⟩ => ⟨F, τ, S, fun vs H1 e1 rs => h2 F E τ σ H1 vs Q (S.grow e1) rs (Kt.later kt e1)⟩
theorem h_callT {T : String} (hc : CallOk X (.type T) ds r) (hm : X.mg x = none) (hv : bootBuiltins x = some (.type T)) (ha : HA X E (e :: es) ds) (hg : Gl X x := by rfl) (hn : x ≠ "__name__" := by decide) (hdb : (x == ("__debug__" : Str)) = false := by decide)
    (PB : X.mg x = none → bootBuiltins x = some (.type T) → ∀ {rr : List V → Hp → VK → Prop} {t : TA}, CallR X (.type T) rr → PA X (e :: es) t → PE X (.Call (.Name x p) (e :: es) [] pos) (tCB rr t) := by exact fun hm hv _ _ hc ha => pe_callTy hc (by rfl) hm hv ha (by decide) (by decide)) : HasR X E (.Call (.Name x p) (e :: es) [] pos) r := by
  obtain ⟨rr, h1, h2⟩ := hc
  exact PE.mono (PB hm hv h1 ha) fun σ H Q ⟨F, τ, S, kt⟩ => ⟨F, τ, S, fun vs H1 e1 rs => h2 F E τ σ H1 vs Q (S.grow e1) rs (Kt.later kt e1)⟩
theorem f_int {i : Int} : CallOk X (.type "int") [.int i] (.val (.int i)) := ⟨_, call_int1, fun F E τ σ H vs Q S r k => by
  cases r with
  | cons r1 rs =>
    cases rs
    cases r1
    exact .inl ⟨i, rfl, kt_val k (.int i)⟩⟩
theorem f_lenL {ds : List D} : CallOk X (.builtin "len") [.lst ds] (.val (.int (ds.length : Int))) := ⟨_, call_len_seq, fun F E τ σ H vs Q S r k => by
  cases r with
  | cons r1 rs =>
    cases rs
    cases r1 with
    | lst q rs =>
      rename_i a ws
      refine ⟨a, ws, rfl, .inl (SqL.of (S.bex _ _ q)), ?_⟩
      rw [rs.len]
      exact kt_val k (.int _)⟩
theorem f_lenT {ds : List D} : CallOk X (.builtin "len") [.tup ds] (.val (.int (ds.length : Int))) := ⟨_, call_len_seq, fun F E τ σ H vs Q S r k => by
  cases r with
  | cons r1 rs =>
    cases rs
    cases r1 with
    | tup q rs =>
      rename_i a ws
      refine ⟨a, ws, rfl, .inr (S.bex.le.sqT q), ?_⟩
      rw [rs.len]
      exact kt_val k (.int _)⟩
theorem f_lenScr {ns : List Int} : CallOk X (.builtin "len") [.scr ns] (.val (.int (ns.length : Int))) := ⟨_, call_len_seq, fun F E τ σ H vs Q S r k => by
  cases r with
  | cons r1 rs =>
    cases rs
    cases r1 with
    | scr q =>
      rename_i a
      refine ⟨a, ns.map V.int, rfl, .inl (S.bex.le.sqL q), ?_⟩
      rw [List.length_map]
      exact kt_val k (.int _)⟩
theorem f_lenS {x : Str} (hl : x.length ≤ 1000) : CallOk X (.builtin "len") [.str x] (.val (.int (x.length : Int))) := ⟨_, call_len_str, fun F E τ σ H vs Q S r k => by
  cases r with
  | cons r1 rs =>
    cases rs
    cases r1
    exact ⟨x, rfl, Nat.le_of_lt (small1000 hl), kt_val k (.int _)⟩⟩
theorem f_listL {ds : List D} : CallOk X (.type "list") [.lst ds] (.nL ds) := ⟨_, call_list_of, fun F E τ σ H vs Q S r k => by
  cases r with
  | cons r1 rs =>
    cases rs
    cases r1 with
    | lst q rs =>
      rename_i a ws
      exact ⟨a, ws, rfl, .inl (SqL.of (S.bex _ _ q)), fun p hp => kt_lst S k rs hp⟩⟩
theorem f_listT {ds : List D} : CallOk X (.type "list") [.tup ds] (.nL ds) := ⟨_, call_list_of, fun F E τ σ H vs Q S r k => by
  cases r with
  | cons r1 rs =>
    cases rs
    cases r1 with
    | tup q rs =>
      rename_i a ws
      exact ⟨a, ws, rfl, .inr (S.bex.le.sqT q), fun p hp => kt_lst S k rs hp⟩⟩
theorem f_tupleL {ds : List D} : CallOk X (.type "tuple") [.lst ds] (.val (.tup ds)) := ⟨_, call_tuple_of, fun F E τ σ H vs Q S r k => by
  cases r with
  | cons r1 rs =>
    cases rs
    cases r1 with
    | lst q rs =>
      rename_i a ws
      exact ⟨a, ws, rfl, .inl ⟨SqL.of (S.bex _ _ q), fun p hp => kt_tup S k rs hp⟩⟩⟩
end
/-! ### dicts as arguments -/
section
variable {X : Cx}
theorem dk_len (hc : X.calm = true) : CallR X (.builtin "len") (fun xs H Q => ∃ a kvs, xs = [V.ref a] ∧ Rd H a (.dK kvs) ∧ Q (.int kvs.length) H) := by
  intro pins s σ H xs us Q I r h
  obtain ⟨a, kvs, rfl, hk, q⟩ := h
  obtain ⟨u, rfl, rx⟩ := vals1 r
  obtain rfl : u = Value.ref a := rx
  exact d_len I hk fun t s' I' => ⟨.int kvs.length, H, I', ⟨t, rfl⟩, q⟩
theorem f_lenD (hc : X.calm = true) {ds : List (Str × D)} : CallOk X (.builtin "len") [.dct ds] (.val (.int (ds.length : Int))) := ⟨_, dk_len hc, fun F E τ σ H vs Q S r k => by
  cases r with
  | cons r1 rs =>
    cases rs
    cases r1 with
    | dct q rs =>
      rename_i a ks
      refine ⟨a, ks, rfl, S.bex.le.rd _ _ rfl q, ?_⟩
      rw [rs.len]
      exact kt_val k (.int _)⟩
theorem list_rd (hc : X.calm = true) : CallR X (.type "list") (fun xs H Q => ∃ p kvs, xs = [V.ref p] ∧ Rd H p (.dK kvs) ∧ ∀ q, H q = none → Q (.ref q) (upd H q (.lst (kvs.map fun kv => kV kv.1)))) := by
  intro pins s σ H xs us Q I r h
  obtain ⟨p, kvs, e, hk, q⟩ := h
  subst e
  obtain ⟨u, eu, rx⟩ := vals1 r
  subst eu
  obtain rfl : u = Value.ref p := rx
  obtain ⟨z, lo, vs, rk, hd⟩ := dk_rd I.hok hk
  obtain ⟨ep, hat⟩ := hd.dictAt
  have hl : kvs.length = vs.length := Paired.length rk
  refine PySem.W.kdl_call (PySem.W.kdl_dict (knd := mixKind X.prog X.w) (kvs := vs) (ep := ep) lo) (I.ok.hd hc) hat (by rw [← hl]; exact z) fun h' tk acc' c' hkeep hS hacc => ?_
  refine ⟨.ref s.heap.objs.size, upd H s.heap.objs.size (.lst (kvs.map fun kv => kV kv.1)), I.laid hkeep (Nat.le_refl _) (show ObjOk X.prog X.w _ _ _ (.lst (kvs.map fun kv => kV kv.1)) from ⟨?_, acc'.toList, c', ?_, ?_⟩), rfl, q _ (I.hok.fresh (Nat.le_refl _))⟩
  · rw [List.length_map]; exact z
  · have el : acc'.toList.length = acc'.size := by simp
    refine vals_of_at (by rw [List.length_map, el, hacc.1, hl]) fun j x w h1 h2 => ?_
    obtain ⟨k, y, hky, hi⟩ := hacc.2 j w (by rw [← Array.getElem?_toList]; exact h2)
    have e1 : (kvs.map (·.1))[j]? = some k := by
      rw [KV.keys rk, List.getElem?_map, hky] <;> rfl
    have e2 : (kvs.map fun kv => kV kv.1)[j]? = some (kV k) := by
      have e3 : (kvs.map fun kv => kV kv.1) = (kvs.map (·.1)).map kV := by rw [List.map_map] <;> rfl
      rw [e3, List.getElem?_map, e1] <;> rfl
    rw [e2] at h1
    cases h1
    exact keyIs_rel hi
  · rw [Array.toArray_toList]; exact hS
def keysD (ds : List (Str × D)) : List D := ds.map fun p => .str p.1
theorem RepsD.keys {K : PySem.W.Frag} {B B' : Hp} : ∀ {ks : List (Key × V)} {ds : List (Str × D)}, RepsD K B ks ds → Reps K B' (ks.map fun kv => kV kv.1) (keysD ds)
  | _, _, .nil => .nil
  | _, _, .cons h r => .cons (.str _) (RepsD.keys r)
theorem f_listD (hc : X.calm = true) {ds : List (Str × D)} : CallOk X (.type "list") [.dct ds] (.nL (keysD ds)) := ⟨_, list_rd hc, fun F E τ σ H vs Q S r k => by
  cases r with
  | cons r1 rs =>
    cases rs
    cases r1 with
    | dct q rs =>
      rename_i a ks
      exact ⟨a, ks, rfl, S.bex.le.rd _ _ rfl q, fun p hp => kt_lst S k rs.keys hp⟩⟩
theorem dict_rd : CallR X (.type "dict") (fun xs H Q => ∃ p kvs, xs = [V.ref p] ∧ Rd H p (.dK kvs) ∧ ∀ q, H q = none → Q (.ref q) (upd H q (.dK kvs))) := by
  intro pins s σ H xs us Q I r h
  obtain ⟨p, kvs, e, hk, q⟩ := h
  subst e
  obtain ⟨u, eu, rx⟩ := vals1 r
  subst eu
  obtain rfl : u = Value.ref p := rx
  exact d_copyOf I hk fun a s' ha I' => ⟨.ref a, _, I', rfl, q a ha⟩
theorem f_dictD {ds : List (Str × D)} : CallOk X (.type "dict") [.dct ds] (.nD ds) := ⟨_, dict_rd, fun F E τ σ H vs Q S r k => by
  cases r with
  | cons r1 rs =>
    cases rs
    cases r1 with
    | dct q rs =>
      rename_i a ks
      exact ⟨a, ks, rfl, S.bex.le.rd _ _ rfl q, fun p hp => kt_dct S k rs hp⟩⟩
end
/-! ### isinstance -/
section
variable {X : Cx}
/-- the type of data, by name -/
def D.ty : D → Option String
  | .non => some "NoneType"
  | .bl _ => some "bool"
  | .int _ => some "int"
  | .str _ => some "str"
  | .tup _ => some "tuple"
  | .lst _ => some "list"
  | _ => none
theorem Rep.ty {K : PySem.W.Frag} {B H : Hp} (e : Ex B H) {v : V} {d : D} {t : String} (r : Rep K B v d) (h : d.ty = some t) : TyX K H v (.type t) := by
  cases r with
  | non => cases h; exact .base .non
  | bl b => cases h; exact .base (.bl b)
  | int i => cases h; exact .base (.int i)
  | str s => cases h; exact .base (.str s)
  | tup q _ =>
    cases h
    rcases e.le.sqT q with (q | ⟨o, q⟩) | ⟨o, its, n, q, c, _⟩
    · exact .base (.tup q)
    · exact .fTuple q
    · exact .kTuple q c
  | lst q _ => cases h; exact .base (.lst (e _ _ q))
  | dct _ _ => cases h
  | dtt _ => cases h
  | ins _ _ => cases h
  | ptr _ => cases h
  | key _ => cases h
  | scr _ => cases h
  | vls _ => cases h
  | vtp _ => cases h
  | all _ => cases h
/-- isinstance(x, T), T a built-in class, by its name -/
theorem h_isi {E : En} {a : Expr} {y T t : String} {x : Str} {p p2 pos : Pos} {d : D} {b : Bool} (hm : X.mg "isinstance" = none) (hmT : X.mg x = none) (hvT : bootBuiltins x = some (.type T)) (h : HasD X E a d) (ht : d.ty = some t) (hk : kitB t T = some b) (hg : Gl X "isinstance" := by rfl) (hgT : Gl X x := by rfl)
    (hn : x ≠ "__name__" := by decide) (hdb : (x == ("__debug__" : Str)) = false := by decide)
    (hs : starEach [a, .Name x p2] X.env = (false, eval a X.env) :: starEach [.Name x p2] X.env := by rfl) (hs2 : starEach [Expr.Name x p2] X.env = (false, eval (Expr.Name x p2) X.env) :: starEach [] X.env := by rfl)
    (PB : X.mg "isinstance" = none → ∀ {rr : List V → Hp → VK → Prop} {t : TA}, CallR X (.builtin "isinstance") rr → PA X [a, .Name x p2] t → PE X (.Call (.Name "isinstance" p) [a, .Name x p2] [] pos) (tCB rr t) := by exact fun hm _ _ hc ha => pe_callB hc (by rfl) hm PyProof.Rows.boot_isinstance ha (by decide) (by decide)) :
    HasD X E (.Call (.Name "isinstance" p) [a, .Name x p2] [] pos) (.bl b) :=
  PE.mono (PB hm call_isi (pa_cons h (pa_cons (pe_bltn (v := .ty T) hgT hmT hvT rfl hn hdb) pa_nil hs2) hs)) fun σ H Q ⟨F, τ, S, kt⟩ => ⟨F, τ, S, fun v s H1 hs' oo => by
    cases hs'
    exact ⟨v, .ty T, .type t, .type T, b, rfl, .ty T, oo.rp.ty (S.grow oo.ex).bex ht, kit_ty hk, kt _ _ _ rfl (.val oo.ex (.bl b))⟩⟩
end
/-! ### a def's body -/
/-- where a def's body runs -/
structure Cc where
  cdv : Value
  A : Around
  outer : List Env
  s : Shared
  H : Hp
  E : XK
  f : Addr
section
variable {P : Program} {w : World} {K : PySem.W.Frag} {mg : Str → Option Value} {bs : Heap}
abbrev Cc.cx (P : Program) (w : World) (K : PySem.W.Frag) (mg : Str → Option Value) (bs : Heap) (N : List Str) (qual : Str) (st : Stmt) (c : Cc) : Cx := (cxOf CX0 P w K mg bs N qual (defScope st) c.f c.cdv c.A c.outer c.s c.H c.E).nox
theorem fn_ok {x qual : Str} {st : Stmt} {dvs : List V} {kws : List (Str × V)} {f : Addr} {fd : FuncData} {N ps : List Str} {k : Nat} {G : List D → Rs → Prop} (F : L2.FunD K x qual (defArgs st) (defBody st) (defScope st) dvs kws f fd) (sc : FnScope N ps (defScope st)) (hl : ps.length ≤ N.length)
    (len : ∀ ds r, G ds r → ds.length = ps.length)
    (hb : ∀ (c : Cc) (ds : List D) (r : Rs), Room k (Cc.cx P w K mg bs N qual st c).A → G ds r → HasSs (Cc.cx P w K mg bs N qual st c) (args ds (N.length - ds.length)) (defBody st) ⟨fun _ => r = .val .non, r.ok, fun _ => False, fun _ => False⟩) :
    FnOk P w K mg bs CX0 (k + 1) f fd ps (spG K G) := by
  refine L2.FunD.ok F sc (fun vs H Q E ⟨B, ds, r, _, hr, hG, _⟩ => by rw [hr.len]; exact len ds r hG) fun cdv A outer s H vs Q E hr ⟨B, ds, r, eB, hR, hG, kQ⟩ => ?_
  refine ⟨_, PSs.nox (hb ⟨cdv, A, outer, s, H, E, f⟩ ds r hr hG), ⟨B, H, []⟩, [], SR.start eB hR (by rw [len ds r hG]; exact hl), fun E' σ' H' hn S' => ?_, fun v s H' hs ok => ?_, fun _ _ _ h => h.elim, fun _ _ _ h => h.elim⟩
  · subst hn
    exact kQ .non (.val .non) H' rfl (.val S'.ex .non)
  · refine kQ v s H' hs ⟨ok.ex, ?_, ok.new, ok.nd⟩
    rw [List.append_nil]
    exact ok.rep
end
end K39
/-! KMore -/
set_option maxHeartbeats 4000000
/-! ## further rules: extend, own special methods, dict walks, chains -/
namespace K39
open PySem PySem.Spec PyProof.Rows L2
open AutoSeq1 (wpAny_loadPart')
/-! ### xs.extend(a tuple) -/
theorem list_extend_tuple_any (l : Addr) (items : Array Value) (n : Nat) (b : Addr) (items2 : Array Value) (n2 : Nat) (dd : Option Addr) (sl : Array (Option Value)) (hs0 : ¬(!items.isEmpty && Builtin.List.listTooLong (items.size + items2.size)) = true) (hs1 : items.size ≤ sizeLine) (hs2 : items.size + items2.size ≤ sizeLine + 1) :
    Meets (Builtin.«list.extend» ⟨[.ref l, .ref b], []⟩) (fun _ R s => s.heap.get? l = some { cls := .type "list", dict := none, data := .seq items n, slots := #[] } ∧ s.heap.get? b = some { cls := .type "tuple", dict := dd, data := .seq items2 n2, slots := sl } ∧ R (.ok (.ret Value.none)) { s with heap := s.heap.update l (Obj.mapSeq fun x => x ++ items2), toks := s.toks }) :=
  .of_wp fun prog w A R s h => by
    obtain ⟨hp, g, d, tk, os⟩ := s; obtain ⟨hl, hb, h⟩ := h; have f1 := AutoSeq1.idx_int; have f2 := AutoSeq1.sub_tuple_tuple; have f3 := AutoSeq1.sub_list_list; have f4 := AutoSeq1.sub_tuple_list; have f5 := AutoSeq1.sub_list_tuple;
    have hz' : (items ++ items2).size ≤ sizeLine + 1 := by rw [Array.size_append]; exact hs2
    wp_walk using (wpAny_updateSeq hl rfl (hz := hs1) (_hz' := hz')), wpAny_loadPart' hl, wpAny_loadPart' hb; exact ⟨_, rfl, h⟩
section
variable {X : Cx}
def rExtT (K : PySem.W.Frag) : V → List V → Hp → VK → Prop := fun x vs H Q => ∃ l b xs zs, x = .ref l ∧ vs = [.ref b] ∧ H l = some (.lst xs) ∧ SqT K H b zs ∧ xs.length + zs.length ≤ sizeLine ∧ Q .non (upd H l (.lst (xs ++ zs)))
theorem mt_extT : MtM X "list.extend" (rExtT X.K) := by
  intro pins s σ H x vs v us Q I rx rv h
  obtain ⟨l, b, xs, zs, rfl, rfl, hH, hB, hz, q⟩ := h
  cases rx
  obtain ⟨u, rfl, ru⟩ := rv.one
  cases ru
  obtain ⟨z, its, n, r, hl, e⟩ := I.lstM hH
  obtain ⟨its2, r2, ⟨o, ho, hc, n2, hd⟩, z2⟩ := I.tuple hB
  obtain ⟨oc, od, dt, sl⟩ := o
  dsimp only at hc hd
  subst hc hd
  have hl2 := r2.length
  have hsz : its.toArray.size + its2.toArray.size ≤ sizeLine := by rw [List.size_toArray, List.size_toArray]; omega
  have hlong : ¬ (!its.toArray.isEmpty && Builtin.List.listTooLong (its.toArray.size + its2.toArray.size)) = true := by
    rw [notLongL hsz, Bool.and_false]
    exact Bool.false_ne_true
  refine call_meets PySem.F.slot_list_extend ⟨_, e, rfl⟩ PySem.F.entry_list_extend (PySem.F.args_list_extend_2 _ _)
    (list_extend_tuple_any l its.toArray n b its2.toArray n2 od sl hlong (by rw [List.size_toArray]; omega) (by omega)) ⟨e, ho, ?_⟩
  refine ⟨.non, _, I.lset (its' := its ++ its2) hH e (by simp) (r.append r2) ?_, rfl, q⟩
  rw [List.length_append]
  omega
end
section
variable {X : Cx} {E : En} {N : Po} {e : Expr} {pos apos cpos : Pos}
/-- xs.extend(e): e a tuple or a list -/
theorem h_extend (i : Nat) {x : Str} {p : Pos} {l : Addr} {ds es : List D} (he : HasD X E e (.tup es) ∨ HasD X E e (.lst es)) (hz : ds.length + es.length ≤ 100000) (hn : N.nx (E.set i (some (.oL l (ds ++ es))))) (hE : E[i]? = some (some (.oL l ds)) := by rfl)
    (hN : X.N[i]? = some x := by rfl) (hv : Vis X.env.scope x := by first | exact Or.inl rfl | exact Or.inr (Or.inl rfl) | exact Or.inr (Or.inr rfl)) (hd : (x == ("__debug__" : Str)) = false := by decide) (hcd : (x == ("__classdict__" : Str)) = false := by decide)
    (PEM : ∀ {r : V → List V → Hp → VK → Prop} {te : TE}, MtM X "list.extend" r → PE X (.Name x p) (tVar i) → PE X e te → PE X (.Call (.Attribute (.Name x p) "extend" apos) [e] [] cpos) (tBM X.K "list" r (tVar i) (tCons te tNil)) := by
      exact fun hm ho ha => pe_bm PySem.F.plainAttrs_list PySem.F.slot_list_extend PySem.F.type_list_extend hm ho (pa_cons ha pa_nil))
    (hs : swapsWith (.Call (.Attribute (.Name x p) "extend" apos) [e] [] cpos) none pos.line X.env = pure false := by rfl) :
    HasS X E (.Expr (.Call (.Attribute (.Name x p) "extend" apos) [e] [] cpos) pos) N := by
  have fin : ∀ {F : Fm} {τ : List (V × D)} {σ : L2.St} {H H1 : Hp} {vs zs : List V} {D : Ends}, SR X.K F E τ σ H → (∀ E' σ' H', N.nx E' → SR X.K F E' τ σ' H' → D.nx σ' H') → Ex H H1 → σ[i]? = some (some (.ref l)) → H l = some (.lst vs) → Reps X.K (base F H (ow F E)) vs ds →
      Reps X.K (base F H1 (ow F E)) zs es → D.nx σ (upd H1 l (.lst (vs ++ zs))) := by
    intro F τ σ H H1 vs zs D S k e1 h1 h2 h3 rz
    have hl : l ∈ ow F E := mem_ow.mpr (.inl ⟨i, _, hE, by simp [Sl.own]⟩)
    refine k _ _ _ hn ?_
    refine (S.grow e1).mut hE (fun a ha => .inl ha) (by simp [Sl.own]) (fun a u ha q => by rw [upd_ne (fun z => ha (by simp [Sl.own, z]))]; exact q) fun v' hv' => ?_
    have hv2 : v' = .ref l := by
      rw [h1] at hv'
      cases hv'; rfl
    have b := (base_upd (F := F) (H := H1) (o := .lst (vs ++ zs)) hl).trans (own_sub (so := [l]) fun a ha => by rw [List.mem_singleton] at ha; subst ha; exact hl)
    exact ⟨hv2, _, upd_same, Reps.append (Reps.le ((S.bmono e1).trans b).le h3) (Reps.le b.le rz)⟩
  rcases he with he | he
  · refine PS.mono (ps_expr (PEM mt_extT (pe_var hN hv hd hcd) he) hs) fun D σ H ⟨F, τ, S, k, _⟩ => ?_
    obtain ⟨v, h1, rfl, vs, h2, h3⟩ := S.slot i _ hE
    refine ⟨_, h1, .inl ⟨rfl, vs, SqL.of h2⟩, F, τ, S, fun w s H1 hs o => ?_⟩
    cases hs
    have r := o.rp
    cases r with
    | tup q rs =>
      rename_i a zs
      exact ⟨l, a, vs, zs, rfl, rfl, o.ex _ _ h2, (S.grow o.ex).bex.le.sqT q, by rw [h3.len, rs.len]; exact Nat.le_trans hz (by decide), fin S k o.ex h1 h2 h3 rs⟩
  · refine PS.mono (ps_expr (PEM mt_extend (pe_var hN hv hd hcd) he) hs) fun D σ H ⟨F, τ, S, k, _⟩ => ?_
    obtain ⟨v, h1, rfl, vs, h2, h3⟩ := S.slot i _ hE
    refine ⟨_, h1, .inl ⟨rfl, vs, SqL.of h2⟩, F, τ, S, fun w s H1 hs o => ?_⟩
    cases hs
    have r := o.rp
    cases r with
    | lst q rs =>
      rename_i a zs
      exact ⟨l, a, vs, zs, rfl, rfl, o.ex _ _ h2, (S.grow o.ex).bex _ _ q, by rw [h3.len, rs.len]; exact Nat.le_trans hz (by decide), fin S k o.ex h1 h2 h3 rs⟩
end
/-! ### own special methods -/
section
variable {X : Cx} {pins : List (Addr × Obj)} {σ : L2.St} {H : Hp} {s : Shared} {C f : Addr} {fd : FuncData} {ps : List Str} {k : Nat} {sp : Sp}
/-- the special method runs -/
theorem own_call {A1 : Around} {n : Nat} {us : List Value} {vs : List V} {Q : VK} (sb : Sub X n A1) (hF : FnOk X.prog X.w X.K X.mg X.base CX0 n f fd ps sp) (hB : L2.Binds X.K fd ps []) (I : Inv X pins σ H s) (r : Vals vs us) (h : sp vs H Q E0) : wpAny (model X.prog X.w) A1 (call (.ref f) us) (EP X pins σ Q) X.xe s := by
  have hl := hF.len _ _ _ _ h
  have e0 : Env0 X.prog X.w X.K X.mg X.base A1 X.stack s H := by
    have e := I.env0
    exact ⟨by rw [sb.fr]; exact e.frames, e.mod, e.bs, e.bsz, e.funs, e.frf, e.hok, e.bare⟩
  refine wpAny_call (codeAny_mono (hF.run A1 X.stack s H ⟨us, []⟩ us vs Q E0 sb.room e0 (by
    have := hB s us I.kIn (by rw [List.append_nil, ← r.length]; exact hl)
    simpa using this) r h) fun rr s' hq => ?_)
  cases rr with
  | error e => exact False.elim hq
  | ok fl =>
    cases fl with
    | ret u => exact I.after hq
    | next => exact False.elim hq
    | brk => exact False.elim hq
    | cont => exact False.elim hq
def rOwnIn (C : Addr) (sp : Sp) (neg : Bool) : R2 := fun x y H Q => ∃ a dx fs, y = .ref a ∧ H a = some (.ins C dx fs) ∧ sp [.ref a, x] H (fun v H' => ∃ b, v = .bl b ∧ Q (.bl (if neg then !b else b)) H') E0
theorem op_ownIn (hF : FnOk X.prog X.w X.K X.mg X.base CX0 k f fd ps sp) (hB : L2.Binds X.K fd ps []) (hm : Meth X.K C "__contains__" f) (hr : Room k X.A) : OpR X (compareOp .In) (rOwnIn C sp false) := by
  intro pins s σ H x y v u Q I rx ry h
  obtain ⟨a, dx, fs, rfl, ha, q⟩ := h
  cases ry
  obtain ⟨mA, J, _⟩ := ins_get I.hok ha
  obtain ⟨od, J, _⟩ := J.look
  obtain ⟨m, hF'⟩ := I.fr
  refine PySem.W.in_K hF' I.ok.mod.kin J hm.at_ hm.fn (thn (own_call ⟨hr, rfl⟩ hF hB I (vs := [.ref a, x]) (us := [.ref a, v]) (.cons rfl (.cons rx .nil)) q) fun r s' ⟨z, H', I', rz, b, e, q'⟩ => ?_)
  subst e
  cases rz
  exact wpAny_truthy_bool ⟨.bl b, H', I', rfl, q'⟩
theorem op_ownNotIn (hF : FnOk X.prog X.w X.K X.mg X.base CX0 k f fd ps sp) (hB : L2.Binds X.K fd ps []) (hm : Meth X.K C "__contains__" f) (hr : Room k X.A) : OpR X (compareOp .NotIn) (rOwnIn C sp true) := by
  intro pins s σ H x y v u Q I rx ry h
  obtain ⟨a, dx, fs, rfl, ha, q⟩ := h
  cases ry
  obtain ⟨mA, J, _⟩ := ins_get I.hok ha
  obtain ⟨od, J, _⟩ := J.look
  obtain ⟨m, hF'⟩ := I.fr
  refine PySem.W.notIn_K hF' I.ok.mod.kin J hm.at_ hm.fn (thn (own_call ⟨hr, rfl⟩ hF hB I (vs := [.ref a, x]) (us := [.ref a, v]) (.cons rfl (.cons rx .nil)) q) fun r s' ⟨z, H', I', rz, b, e, q'⟩ => ?_)
  subst e
  cases rz
  exact wpAny_truthy_bool ⟨.bl (!b), H', I', rfl, q'⟩
/-- a callee's promise, from the base -/
theorem spG_of {K : PySem.W.Frag} {F : Fm} {E : En} {τ : List (V × D)} {σ : L2.St} {H : Hp} {vs : List V} {ds : List D} {G : List D → Rs → Prop} {r : Rs} {Q : VK} {XE : XK} (S : SR K F E τ σ H) (rs : Reps K (base F H (ow F E)) vs ds) (hG : G ds r) (k : Kt K F (ow F E) H r Q) : spG K G vs H Q XE :=
  ⟨base F H (ow F E), ds, r, S.bex, rs, hG, fun v s H' hs o => k v s H' hs (S.back o)⟩
/-- comparisons whose answer a def of the module gives -/
def CmpOk2 (X : Cx) (op : CmpOp) (d1 d2 : D) (b : Bool) : Prop := ∃ r : R2, OpR X (compareOp op) r ∧ ∀ (F : Fm) (E : En) (τ : List (V × D)) (σ : L2.St) (H : Hp) (x y : V) (Q : VK), SR X.K F E τ σ H → Rep X.K (base F H (ow F E)) x d1 → Rep X.K (base F H (ow F E)) y d2 → (∀ H', Ex H H' → Q (.bl b) H') → r x y H Q
theorem h_cmp2 {E : En} {a b : Expr} {d1 d2 : D} {pos : Pos} {op : CmpOp} {k : Bool} (hc : CmpOk2 X op d1 d2 k) (ha : HasD X E a d1) (hb : HasD X E b d2) (hm : behindInMarks op b = false := by first | exact nomark _ | rfl) : HasD X E (.Compare a [op] [b] pos) (.bl k) := by
  obtain ⟨r, hr, hq⟩ := hc
  refine PE.mono (pe_cmpR hr ha hb hm) fun σ H Q ⟨F, τ, S, kt⟩ => ⟨F, τ, S, fun v s H1 hs o => ?_⟩
  cases hs
  refine ⟨F, τ, S.grow o.ex, fun w s H2 hs2 o2 => ?_⟩
  cases hs2
  exact hq F E τ σ H2 v w Q ((S.grow o.ex).grow o2.ex) (Rep.le ((S.grow o.ex).bmono o2.ex).le o.rp) o2.rp fun H3 e3 => kt _ _ _ rfl (.val ((o.ex.trans o2.ex).trans e3) (.bl k))
theorem t_cmp2 {E : En} {a b : Expr} {d1 d2 : D} {pos : Pos} {op : CmpOp} {k : Bool} (hc : CmpOk2 X op d1 d2 k) (ha : HasD X E a d1) (hb : HasD X E b d2) (hm : behindInMarks op b = false := by first | exact nomark _ | rfl) : HasT X E (.Compare a [op] [b] pos) k := by
  obtain ⟨r, hr, hq⟩ := hc
  refine PT.mono (pt_cmpR hr ha hb hm) fun σ H Q ⟨F, τ, S, kt⟩ => ⟨F, τ, S, fun v s H1 hs o => ?_⟩
  cases hs
  refine ⟨F, τ, S.grow o.ex, fun w s H2 hs2 o2 => ?_⟩
  cases hs2
  exact hq F E τ σ H2 v w _ ((S.grow o.ex).grow o2.ex) (Rep.le ((S.grow o.ex).bmono o2.ex).le o.rp) o2.rp fun H3 e3 => ⟨k, rfl, kt H3 ((o.ex.trans o2.ex).trans e3)⟩
theorem c_ownIn {G : List D → Rs → Prop} {d : D} {fs : List (Str × D)} {b : Bool} (T : KnM X.prog X.w X.K X.mg X.base CX0 k C "__contains__" ps (spG X.K G)) (hr : Room k X.A) (hG : G [.ins C fs, d] (.val (.bl b))) : CmpOk2 X .In d (.ins C fs) b := by
  obtain ⟨f, fd, hF, hB, hM, _⟩ := T.ex
  refine ⟨_, op_ownIn hF hB hM hr, fun F E τ σ H x y Q S r1 r2 k => ?_⟩
  cases r2 with
  | ins q rs =>
    rename_i a dx vs
    refine ⟨a, dx, vs, rfl, S.bex _ _ q, spG_of S (.cons (.ins q rs) (.cons r1 .nil)) hG fun v s H' hs o => ?_⟩
    cases hs
    have r := o.rp
    cases r
    exact ⟨b, rfl, k H' o.ex⟩
theorem c_ownNotIn {G : List D → Rs → Prop} {d : D} {fs : List (Str × D)} {b : Bool} (T : KnM X.prog X.w X.K X.mg X.base CX0 k C "__contains__" ps (spG X.K G)) (hr : Room k X.A) (hG : G [.ins C fs, d] (.val (.bl b))) : CmpOk2 X .NotIn d (.ins C fs) (!b) := by
  obtain ⟨f, fd, hF, hB, hM, _⟩ := T.ex
  refine ⟨_, op_ownNotIn hF hB hM hr, fun F E τ σ H x y Q S r1 r2 k => ?_⟩
  cases r2 with
  | ins q rs =>
    rename_i a dx vs
    refine ⟨a, dx, vs, rfl, S.bex _ _ q, spG_of S (.cons (.ins q rs) (.cons r1 .nil)) hG fun v s H' hs o => ?_⟩
    cases hs
    have r := o.rp
    cases r
    exact ⟨b, rfl, k H' o.ex⟩
end
end K39
/-! KLend -/
set_option maxHeartbeats 4000000
/-! ## own things that are read, own things that are given up; own subscripts -/
namespace K39
open PySem PySem.Spec PyProof.Rows L2
/-- an own thing as a value -/
def Sl.frz : Sl → D
  | .val d => d
  | .oL _ ds => .lst ds
  | .oD _ kvs => .dct kvs
  | .oT _ kvs => .dtt kvs
  | .oI _ C fs => .ins C fs
  | .oR _ _ C pre f post kvs => .ins C (pre ++ (f, .dct kvs) :: post)
theorem RepsF.hole {K : PySem.W.Frag} {B : Hp} {d d' : D} (k : ∀ v, Rep K B v d → Rep K B v d') {f : Str} {post : List (Str × D)} : ∀ {pre : List (Str × D)} {vs : List (Str × V)}, RepsF K B vs (pre ++ (f, d) :: post) → RepsF K B vs (pre ++ (f, d') :: post)
  | [], _, .cons h r => .cons (k _ h) r
  | _ :: pre, _, .cons h r => .cons h (RepsF.hole k (pre := pre) r)
theorem RepsF.at_hole {K : PySem.W.Frag} {B : Hp} {d : D} {f : Str} {post : List (Str × D)} : ∀ {pre : List (Str × D)} {vs : List (Str × V)}, RepsF K B vs (pre ++ (f, d) :: post) → ∃ v, (f, v) ∈ vs ∧ Rep K B v d
  | [], _, .cons h r => ⟨_, List.mem_cons_self, h⟩
  | _ :: pre, _, .cons h r => let ⟨v, h1, h2⟩ := RepsF.at_hole (pre := pre) r; ⟨v, List.mem_cons_of_mem _ h1, h2⟩
theorem RepS.frz {K : PySem.W.Frag} {B B' H : Hp} {v : V} {s : Sl} (e : Le B B') (k : ∀ l ∈ s.own, ∀ o, H l = some o → B' l = some o) (h : RepS K B H v s) : Rep K B' v s.frz := by
  cases s with
  | val d => exact Rep.le e h
  | oL l ds =>
    obtain ⟨rfl, vs, h1, h2⟩ := h
    exact .lst (k l (by simp [Sl.own]) _ h1) (Reps.le e h2)
  | oD l kvs =>
    obtain ⟨rfl, vs, h1, h2⟩ := h
    exact .dct (.inl (k l (by simp [Sl.own]) _ h1)) (RepsD.le e h2)
  | oT l kvs =>
    obtain ⟨rfl, h1⟩ := h
    exact .dtt (.inl (k l (by simp [Sl.own]) _ h1))
  | oI x C fs =>
    obtain ⟨rfl, dx, vs, h1, h2⟩ := h
    exact .ins (k x (by simp [Sl.own]) _ h1) (RepsF.le e h2)
  | oR x g C pre f post kvs =>
    obtain ⟨rfl, ⟨dx, vs, h1, h2⟩, ks, h3, h4⟩ := h
    refine .ins (k x (by simp [Sl.own]) _ h1) ((RepsF.le e h2).hole fun v r => ?_)
    cases r with
    | ptr => exact .dct (.inl (k g (by simp [Sl.own]) _ h3)) (RepsD.le e h4)
/-- what stands at an own address -/
def ownO : HO → Bool
  | .lst _ => true
  | .dK _ => true
  | .dT _ => true
  | .ins _ _ _ => true
  | _ => false
theorem RepS.there' {K : PySem.W.Frag} {B H : Hp} {v : V} {s : Sl} (h : RepS K B H v s) {l : Addr} (hl : l ∈ s.own) : ∃ o, H l = some o ∧ ownO o = true := by
  cases s with
  | val d => simp [Sl.own] at hl
  | oL l' ds =>
    obtain ⟨_, vs, h1, _⟩ := h
    simp only [Sl.own, List.mem_singleton] at hl
    subst hl; exact ⟨_, h1, rfl⟩
  | oD l' kvs =>
    obtain ⟨_, vs, h1, _⟩ := h
    simp only [Sl.own, List.mem_singleton] at hl
    subst hl; exact ⟨_, h1, rfl⟩
  | oT l' kvs =>
    obtain ⟨_, h1⟩ := h
    simp only [Sl.own, List.mem_singleton] at hl
    subst hl; exact ⟨_, h1, rfl⟩
  | oI x C fs =>
    obtain ⟨_, dx, vs, h1, _⟩ := h
    simp only [Sl.own, List.mem_singleton] at hl
    subst hl; exact ⟨_, h1, rfl⟩
  | oR x g C pre f post kvs =>
    obtain ⟨_, ⟨dx, vs, h1, _⟩, ks, h3, _⟩ := h
    simp only [Sl.own, List.mem_cons, List.not_mem_nil, or_false] at hl
    rcases hl with rfl | rfl
    · exact ⟨_, h1, rfl⟩
    · exact ⟨_, h3, rfl⟩
section
variable {K : PySem.W.Frag} {F : Fm} {E : En} {τ : List (V × D)} {σ : L2.St} {H H' : Hp}
theorem SR.there' (S : SR K F E τ σ H) {l : Addr} (h : l ∈ ow F E) : ∃ o, H l = some o ∧ ownO o = true := by
  rcases mem_ow.mp h with ⟨i, s, h1, h2⟩ | ⟨s, h1, h2⟩
  · obtain ⟨v, _, r⟩ := S.slot i s h1
    exact r.there' h2
  · obtain ⟨v, r⟩ := S.gho s h1
    exact r.there' h2
/-- an own thing becomes a value for good -/
theorem SR.settle (S : SR K F E τ σ H) {i : Nat} {s : Sl} (hs : E[i]? = some (some s)) : SR K F (E.set i (some (.val s.frz))) τ σ H := by
  have hiE : i < E.length := (List.getElem?_eq_some_iff.mp hs).1
  have sub : ∀ a ∈ ow F (E.set i (some (.val s.frz))), a ∈ ow F E := fun a ha => by
    rcases ow_set_sub ha with z | z
    · simp [oOwn, Sl.own] at z
    · exact z
  have b : Ex (base F H (ow F E)) (base F H (ow F (E.set i (some (.val s.frz))))) := base_sub fun a ha => .inl (sub a ha)
  have no : ∀ l ∈ s.own, l ∉ ow F (E.set i (some (.val s.frz))) := fun l hl hm => by
    rcases mem_ow.mp hm with ⟨j, t, h1, h2⟩ | ⟨t, h1, h2⟩
    · by_cases e : j = i
      · subst e
        rw [List.getElem?_set_self hiE] at h1
        cases h1
        simp [Sl.own] at h2
      · rw [List.getElem?_set_ne (Ne.symm e)] at h1
        exact e (ow_inj S.nd h1 hs h2 hl)
    · exact ow_gho S.nd hs h1 hl h2
  refine ⟨by simp [S.len], fun j t hj => ?_, fun t ht => ?_, fun p hp => Rep.le b.le (S.tmp p hp), S.ex, S.b0, ow_set_nd (by simp [oOwn, Sl.own]) S.nd fun l hl => by simp [oOwn, Sl.own] at hl, fun l hl => S.fr l (sub l hl)⟩
  · by_cases e : j = i
    · subst e
      rw [List.getElem?_set_self hiE] at hj
      cases hj
      obtain ⟨v, h1, h2⟩ := S.slot j s hs
      refine ⟨v, h1, ?_⟩
      refine RepS.frz b.le (fun l hl o q => ?_) h2
      rw [base_new (no l hl) (S.fr l (mem_ow.mpr (.inl ⟨j, s, hs, hl⟩)))]
      exact q
    · rw [List.getElem?_set_ne (Ne.symm e)] at hj
      obtain ⟨w, h1, h2⟩ := S.slot j t hj
      exact ⟨w, h1, h2.le b.le fun _ _ _ q => q⟩
  · obtain ⟨w, h2⟩ := S.gho t ht
    exact ⟨w, h2.le b.le fun _ _ _ q => q⟩
/-- all own things read as values -/
def frzE (E : En) : En := E.map (Option.map fun s => .val s.frz)
theorem frzE_owns : ∀ E : En, owns (frzE E) = []
  | [] => rfl
  | none :: r => frzE_owns r
  | some s :: r => frzE_owns r
def lendF (F : Fm) (H : Hp) (w : List Addr) : Fm := ⟨fun a => if a ∈ w then H a else base F H w a, H, []⟩
theorem SR.lend (S : SR K F E τ σ H) : SR K (lendF F H (ow F E)) (frzE E) [] σ H ∧ ow (lendF F H (ow F E)) (frzE E) = [] := by
  have ho : ow (lendF F H (ow F E)) (frzE E) = [] := by
    show owns (frzE E ++ []) = []
    rw [List.append_nil, frzE_owns]
  have hb : Ex (base F H (ow F E)) (base (lendF F H (ow F E)) H []) := fun a o q => by
    have h1 : a ∉ ow F E := fun z => by rw [base_in z] at q; cases q
    have q2 := S.bex a o q
    rw [base_old (F := lendF F H (ow F E)) (by simp) q2]
    show (if a ∈ ow F E then H a else base F H (ow F E) a) = some o
    rw [if_neg h1]; exact q
  refine ⟨⟨by simp [frzE, S.len], fun i t h => ?_, fun s h => by simp [lendF] at h, fun p hp => by simp at hp, Ex.rfl' H, fun a o q => ?_, by rw [ho]; exact List.nodup_nil, fun l h => by rw [ho] at h; simp at h⟩, ho⟩
  · rw [ho]
    unfold frzE at h
    rw [List.getElem?_map] at h
    cases q : E[i]? with
    | none => rw [q] at h; cases h
    | some os =>
      rw [q] at h
      cases os with
      | none => cases h
      | some s =>
        have e : Sl.val s.frz = t := by simpa using h
        subst e
        obtain ⟨v, h1, h2⟩ := S.slot i s q
        refine ⟨v, h1, RepS.frz hb.le (fun l hl o ho' => ?_) h2⟩
        rw [base_old (F := lendF F H (ow F E)) (by simp) ho']
        show (if l ∈ ow F E then H l else _) = some o
        rw [if_pos (mem_ow.mpr (.inl ⟨i, s, q, hl⟩))]
        exact ho'
  · show H a = some o
    have q' : (if a ∈ ow F E then H a else base F H (ow F E) a) = some o := q
    by_cases h1 : a ∈ ow F E
    · rw [if_pos h1] at q'; exact q'
    · rw [if_neg h1] at q'; exact S.bex a o q'
end
/-! ### plain results -/
mutual
def D.pl : D → Bool
  | .non => true
  | .bl _ => true
  | .int _ => true
  | .str _ => true
  | .tup xs => pls xs
  | .key _ => true
  | _ => false
def pls : List D → Bool
  | [] => true
  | x :: xs => x.pl && pls xs
end
theorem pls_all : ∀ {xs : List D}, pls xs = true ↔ ∀ x ∈ xs, x.pl = true
  | [] => by simp [pls]
  | x :: xs => by
    show (x.pl && pls xs) = true ↔ _
    rw [Bool.and_eq_true, pls_all]
    simp
/-- what is read of B' as of B: all but own things -/
def Strip (B B' : Hp) : Prop := ∀ a o, B a = some o → ownO o = false → B' a = some o
theorem Strip.sqT {K : PySem.W.Frag} {B B' : Hp} (e : Strip B B') {a : Addr} {vs : List V} (h : SqT K B a vs) : SqT K B' a vs := by
  rcases h with h | h
  · rcases h with h | ⟨o, h⟩
    · exact .inl (.inl (e a _ h rfl))
    · exact .inl (.inr ⟨o, e a _ h rfl⟩)
  · exact .inr h
mutual
theorem Rep.strip {K : PySem.W.Frag} {B B' : Hp} (e : Strip B B') : ∀ {v : V} {d : D}, Rep K B v d → d.pl = true → Rep K B' v d
  | _, _, .non, _ => .non
  | _, _, .bl b, _ => .bl b
  | _, _, .int i, _ => .int i
  | _, _, .str s, _ => .str s
  | _, _, .tup q r, h => .tup (e.sqT q) (Reps.strip e r (by unfold D.pl at h; exact h))
  | _, _, .lst q r, h => by unfold D.pl at h; exact Bool.noConfusion h
  | _, _, .scr _, h => by unfold D.pl at h; exact Bool.noConfusion h
  | _, _, .dct _ _, h => by unfold D.pl at h; exact Bool.noConfusion h
  | _, _, .dtt _, h => by unfold D.pl at h; exact Bool.noConfusion h
  | _, _, .ins _ _, h => by unfold D.pl at h; exact Bool.noConfusion h
  | _, _, .ptr _, h => by unfold D.pl at h; exact Bool.noConfusion h
  | _, _, .key q, _ => .key (e _ _ q rfl)
  | _, _, .vls _, h => by unfold D.pl at h; exact Bool.noConfusion h
  | _, _, .vtp _, h => by unfold D.pl at h; exact Bool.noConfusion h
  | _, _, .all _, h => by unfold D.pl at h; exact Bool.noConfusion h
theorem Reps.strip {K : PySem.W.Frag} {B B' : Hp} (e : Strip B B') : ∀ {vs : List V} {ds : List D}, Reps K B vs ds → pls ds = true → Reps K B' vs ds
  | _, _, .nil, _ => .nil
  | _, _, .cons q r, h => by
    unfold pls at h
    rw [Bool.and_eq_true] at h
    exact .cons (Rep.strip e q h.1) (Reps.strip e r h.2)
end
theorem RepsD.strip {K : PySem.W.Frag} {B B' : Hp} (e : Strip B B') : ∀ {vs : List (Key × V)} {ds : List (Str × D)}, RepsD K B vs ds → (∀ p ∈ ds, p.2.pl = true) → RepsD K B' vs ds
  | _, _, .nil, _ => .nil
  | _, _, .cons q r, h => .cons (Rep.strip e q (h _ List.mem_cons_self)) (RepsD.strip e r fun p hp => h p (List.mem_cons_of_mem _ hp))
def Rs.plain : Rs → Prop
  | .val d => d.pl = true
  | .nL ds => pls ds = true
  | .nD kvs => ∀ p ∈ kvs, p.2.pl = true
  | .nT _ => True
  | .nR _ _ _ _ _ => False
section
variable {K : PySem.W.Frag} {F : Fm} {E : En} {τ : List (V × D)} {σ : L2.St} {H H' : Hp}
theorem SR.unlend (S : SR K F E τ σ H) {v : V} {s : Sl} {r : Rs} (hr : r.plain) (hs : r.ok s) (o : Out K (lendF F H (ow F E)) [] H H' v s) : Out K F (ow F E) H H' v s := by
  have st : Strip (base (lendF F H (ow F E)) H' (s.own ++ [])) (base F H' (s.own ++ ow F E)) := fun a u q hu => by
    have h1 : a ∉ s.own ++ [] := fun z => by rw [base_in z] at q; cases q
    have h1' : a ∉ s.own := by simpa using h1
    cases h2 : H a with
    | none =>
      rw [base_new (F := lendF F H (ow F E)) h1 h2] at q
      have h3 : a ∉ s.own ++ ow F E := fun z => (List.mem_append.mp z).elim h1' (S.nown h2)
      rw [base_new h3 (S.free h2)]
      exact q
    | some w =>
      rw [base_old (F := lendF F H (ow F E)) h1 h2] at q
      have q' : (if a ∈ ow F E then H a else base F H (ow F E) a) = some u := q
      by_cases h4 : a ∈ ow F E
      · rw [if_pos h4] at q'
        obtain ⟨o', ho1, ho2⟩ := S.there' h4
        rw [ho1] at q'
        cases q'
        rw [hu] at ho2
        cases ho2
      · rw [if_neg h4] at q'
        have h3 : a ∉ s.own ++ ow F E := fun z => (List.mem_append.mp z).elim h1' h4
        cases h5 : F.H0 a with
        | none =>
          rw [base_new h4 h5] at q'
          rw [base_new h3 h5]
          exact o.ex _ _ q'
        | some z =>
          rw [base_old h4 h5] at q'
          rw [base_old h3 h5]
          exact q'
  refine ⟨o.ex, ?_, o.new, o.nd⟩
  have q := o.rep
  cases r with
  | val d =>
    cases hs
    exact Rep.strip st q hr
  | nL ds =>
    obtain ⟨l, rfl⟩ := hs
    obtain ⟨e1, vs, h1, h2⟩ := q
    exact ⟨e1, vs, h1, Reps.strip st h2 hr⟩
  | nD kvs =>
    obtain ⟨l, rfl⟩ := hs
    obtain ⟨e1, vs, h1, h2⟩ := q
    exact ⟨e1, vs, h1, RepsD.strip st h2 hr⟩
  | nT kvs =>
    obtain ⟨l, rfl⟩ := hs
    exact q
  | nR _ _ _ _ _ => exact hr.elim
end
section
variable {X : Cx} {E : En} {e : Expr} {r : Rs} {b : Bool} {N : Po} {st : List Stmt}
/-- an expression that reads own things -/
theorem h_lend (h : HasR X (frzE E) e r) (hp : r.plain) : HasR X E e r := PE.mono h fun σ H Q ⟨F, τ, S, k⟩ => by
  obtain ⟨S2, ho⟩ := S.lend
  refine ⟨_, [], S2, fun v s H' hs o => ?_⟩
  rw [ho] at o
  exact k v s H' hs (S.unlend hp hs o)
theorem t_lend (h : HasT X (frzE E) e b) : HasT X E e b := PT.mono h fun σ H Q ⟨F, τ, S, k⟩ => by
  obtain ⟨S2, ho⟩ := S.lend
  exact ⟨_, [], S2, k⟩
theorem q_settle (i : Nat) {s : Sl} (h : HasSs X (E.set i (some (.val s.frz))) st N) (hE : E[i]? = some (some s) := by rfl) : HasSs X E st N :=
  PSs.mono h fun D σ H ⟨F, τ, S, k⟩ => ⟨F, τ, S.settle hE, k⟩
end
section
variable {X : Cx} {E : En} {a b o : Expr} {d : D} {r : Rs} {pos : Pos} {C : Addr} {fs : List (Str × D)} {k : Nat} {ps : List Str} {G : List D → Rs → Prop}
def tOwnIx (C : Addr) (sp : Sp) (ta tb : TE) : TE := fun σ H Q => ta σ H fun x H1 => tb σ H1 fun y H2 => ∃ a dx fs, x = .ref a ∧ H2 a = some (.ins C dx fs) ∧ sp [.ref a, y] H2 Q E0
theorem pe_ownIx {f : Addr} {fd : FuncData} {sp : Sp} {ta tb : TE} (hF : FnOk X.prog X.w X.K X.mg X.base CX0 k f fd ps sp) (hB : L2.Binds X.K fd ps []) (hM : Meth X.K C "__getitem__" f) (hf : PySem.W.fnIn X.K f = true) (hr : Room (k + 1) X.A) (ha : PE X o ta) (hb : PE X b tb)
    (hs : ∀ (x i : Value), subscripted b true x i = runValue (.builtin "lifetime.subscript" ⟨[x, i], []⟩)) : PE X (.Subscript o b pos) (tOwnIx C sp ta tb) := by
  refine ⟨fun pins s σ H Q I h => ?_⟩
  refine Subscript_ (thn (ha.run pins s σ H _ I h) fun u s1 ⟨x, H1, I1, rx, q1⟩ => ?_)
  refine thn (hb.run pins s1 σ H1 _ I1 q1) fun i s2 ⟨y, H2, I2, ry, ad, dx, vs, e, hH, q2⟩ => ?_
  subst e
  cases rx
  obtain ⟨mA, J, _⟩ := ins_get I2.hok hH
  obtain ⟨od, J, _⟩ := J.look
  obtain ⟨m, hF'⟩ := I2.fr
  exact PySem.W.sub_K hF' I2.ok.mod.kin J hM.at_ hf hM.fn (own_call ⟨hr.in1, rfl⟩ hF hB I2 (vs := [.ref ad, y]) (us := [.ref ad, i]) (.cons rfl (.cons ry .nil)) q2) (hs _ _)
/-- o[i] by the class's own __getitem__ -/
theorem h_ownIx (T : KnM X.prog X.w X.K X.mg X.base CX0 k C "__getitem__" ps (spG X.K G)) (hr : Room (k + 1) X.A) (ho : HasD X E o (.ins C fs)) (hb : HasD X E b d) (hG : G [.ins C fs, d] r)
    (hs : ∀ (x i : Value), subscripted b true x i = runValue (.builtin "lifetime.subscript" ⟨[x, i], []⟩) := by exact fun _ _ => rfl) : HasR X E (.Subscript o b pos) r := by
  obtain ⟨f, fd, hF, hB, hM, hf⟩ := T.ex
  refine PE.mono (pe_ownIx hF hB hM hf hr ho hb hs) fun σ H Q ⟨F, τ, S, kt⟩ => ⟨F, τ, S, fun v s H1 hs1 oo => ?_⟩
  cases hs1
  refine ⟨F, τ, S.grow oo.ex, fun w s2 H2 hs2 o2 => ?_⟩
  cases hs2
  have r1 := Rep.le ((S.grow oo.ex).bmono o2.ex).le oo.rp
  have S2 := (S.grow oo.ex).grow o2.ex
  cases r1 with
  | ins q rs =>
    rename_i ad dx vs
    exact ⟨ad, dx, vs, rfl, S2.bex _ _ q, spG_of S2 (.cons (.ins q rs) (.cons o2.rp .nil)) hG (Kt.later kt (oo.ex.trans o2.ex))⟩
end
end K39
/-! KOwn -/
set_option maxHeartbeats 4000000
/-! ## own instances: fields, stores, constructors, own __setitem__ -/
namespace K39
open PySem PySem.Spec PyProof.Rows L2
def Sl.fld : Sl → Option (Addr × List (Str × D))
  | .oI _ C fs => some (C, fs)
  | .oR _ g C pre f post _ => some (C, pre ++ (f, .ptr g) :: post)
  | _ => none
def Sl.hd : Sl → Addr
  | .oI x _ _ => x
  | .oR x _ _ _ _ _ _ => x
  | .oL l _ => l
  | .oD l _ => l
  | .oT l _ => l
  | .val _ => 0
/-- the own dict in it -/
def Sl.dic : Sl → Option (Addr × List (Str × D))
  | .oD l kvs => some (l, kvs)
  | .oR _ g _ _ _ _ kvs => some (g, kvs)
  | _ => none
def Sl.withD : Sl → List (Str × D) → Sl
  | .oD l _, k => .oD l k
  | .oR x g C pre f post _, k => .oR x g C pre f post k
  | s, _ => s
theorem withD_own (s : Sl) (k : List (Str × D)) : (s.withD k).own = s.own := by cases s <;> rfl
theorem RepS.fld {K : PySem.W.Frag} {B H : Hp} {v : V} {s : Sl} {C : Addr} {fs : List (Str × D)} (h : RepS K B H v s) (hf : s.fld = some (C, fs)) : ∃ dx vs, v = .ref s.hd ∧ H s.hd = some (.ins C dx vs) ∧ RepsF K B vs fs := by
  cases s with
  | oI x C' fs' =>
    obtain ⟨e, dx, vs, h1, h2⟩ := h
    cases hf
    exact ⟨dx, vs, e, h1, h2⟩
  | oR x g C' pre f post kvs =>
    obtain ⟨e, ⟨dx, vs, h1, h2⟩, _⟩ := h
    cases hf
    exact ⟨dx, vs, e, h1, h2⟩
  | _ => cases hf
theorem RepS.dic {K : PySem.W.Frag} {B H : Hp} {v : V} {s : Sl} {g : Addr} {kvs : List (Str × D)} (h : RepS K B H v s) (hf : s.dic = some (g, kvs)) : ∃ ks, H g = some (.dK ks) ∧ RepsD K B ks kvs := by
  cases s with
  | oD l k =>
    obtain ⟨_, ks, h1, h2⟩ := h
    cases hf
    exact ⟨ks, h1, h2⟩
  | oR x g' C' pre f post k =>
    obtain ⟨_, _, ks, h1, h2⟩ := h
    cases hf
    exact ⟨ks, h1, h2⟩
  | _ => cases hf
theorem Sl.dic_own {s : Sl} {g : Addr} {kvs : List (Str × D)} (h : s.dic = some (g, kvs)) : g ∈ s.own := by
  cases s <;> cases h <;> simp [Sl.own]
theorem RepS.putD {K : PySem.W.Frag} {B B' H : Hp} {v : V} {s : Sl} {g : Addr} {kvs k2 : List (Str × D)} {ks2 : List (Key × V)} (e : Le B B') (hn : s.own.Nodup) (h : RepS K B H v s) (hf : s.dic = some (g, kvs)) (r : RepsD K B' ks2 k2) : RepS K B' (upd H g (.dK ks2)) v (s.withD k2) := by
  cases s with
  | oD l k =>
    obtain ⟨e1, ks, h1, h2⟩ := h
    cases hf
    exact ⟨e1, ks2, upd_same, r⟩
  | oR x g' C' pre f post k =>
    obtain ⟨e1, ⟨dx, vs, h1, h2⟩, ks, h3, h4⟩ := h
    cases hf
    have hne : x ≠ g := by
      simp only [Sl.own, List.nodup_cons, List.mem_singleton] at hn
      exact hn.1
    exact ⟨e1, ⟨dx, vs, by rw [upd_ne hne]; exact h1, RepsF.le e h2⟩, ks2, upd_same, r⟩
  | _ => cases hf
theorem RepsF.app {K : PySem.W.Frag} {B : Hp} {f : Str} {v : V} {d : D} (h : Rep K B v d) : ∀ {vs : List (Str × V)} {ds : List (Str × D)}, RepsF K B vs ds → RepsF K B (vs ++ [(f, v)]) (ds ++ [(f, d)])
  | _, _, .nil => .cons h .nil
  | _, _, .cons q r => .cons q (RepsF.app h r)
theorem RepsF.keys {K : PySem.W.Frag} {B : Hp} : ∀ {vs : List (Str × V)} {ds : List (Str × D)}, RepsF K B vs ds → vs.map (·.1) = ds.map (·.1)
  | _, _, .nil => rfl
  | _, _, .cons q r => by rw [List.map_cons, List.map_cons, RepsF.keys r]
theorem putF_new {f : Str} {v : V} : ∀ {vs : List (Str × V)}, f ∉ vs.map (·.1) → putF f v vs = vs ++ [(f, v)]
  | [], _ => rfl
  | (g, x) :: r, h => by
    have h1 : ¬ g = f := fun e => h (by rw [List.map_cons, e]; exact List.mem_cons_self)
    show (if g = f then (g, v) :: r else (g, x) :: putF f v r) = _
    rw [if_neg h1, putF_new fun z => h (by rw [List.map_cons]; exact List.mem_cons_of_mem _ z)]
    rfl
section
variable {X : Cx} {E : En} {N : Po} {e e2 o : Expr} {pos apos p sp : Pos} {x f : Str} {C : Addr} {fs : List (Str × D)} {d : D} {s : Sl}
/-- x.f, x an own instance -/
theorem h_fldOwn (i : Nat) (hf : s.fld = some (C, fs) := by rfl) (hd : fs.lookup f = some d := by rfl) (cl : Cls X.K C) (na : NoAttr X.K C f) (hE : E[i]? = some (some s) := by rfl)
    (hN : X.N[i]? = some x := by rfl) (hv : Vis X.env.scope x := by first | exact Or.inl rfl | exact Or.inr (Or.inl rfl) | exact Or.inr (Or.inr rfl)) (hdb : (x == ("__debug__" : Str)) = false := by decide) (hcd : (x == ("__classdict__" : Str)) = false := by decide)
    (hb : attributeBase (.Name x p) f X.env (eval (.Name x p) X.env) = eval (.Name x p) X.env := by rfl) : HasD X E (.Attribute (.Name x p) f pos) d :=
  PE.mono (pe_fld (pe_var hN hv hdb hcd) hb) fun σ H Q ⟨F, τ, S, kt⟩ => by
    obtain ⟨v, h1, h2⟩ := S.slot i s hE
    obtain ⟨dx, vs, rfl, h3, h4⟩ := h2.fld hf
    rcases RepsF.val (x := f) h4 with ⟨_, h5⟩ | ⟨w, d', h5, h6, h7⟩
    · rw [h5] at hd; cases hd
    · rw [h6] at hd
      cases hd
      exact ⟨_, h1, s.hd, C, dx, vs, w, rfl, h3, cl, na, h5, kt_val kt h7⟩
/-- a name of an own dict, as its address -/
theorem h_ptrVar (i : Nat) {g : Addr} {kvs : List (Str × D)} (hE : E[i]? = some (some (.oD g kvs)) := by rfl) (hN : X.N[i]? = some x := by rfl) (hv : Vis X.env.scope x := by first | exact Or.inl rfl | exact Or.inr (Or.inl rfl) | exact Or.inr (Or.inr rfl)) (hdb : (x == ("__debug__" : Str)) = false := by decide)
    (hcd : (x == ("__classdict__" : Str)) = false := by decide) : HasD X E (.Name x p) (.ptr g) := PE.mono (pe_var hN hv hdb hcd) fun σ H Q ⟨F, τ, S, k⟩ => by
  obtain ⟨v, h1, rfl, _⟩ := S.slot i _ hE
  exact ⟨_, h1, kt_val k (.ptr g)⟩
/-- x.f = e, a new attribute of an own instance -/
theorem s_fld (i : Nat) {y : Addr} (he : HasD X E e d) (hn : N.nx (E.set i (some (.oI y C (fs ++ [(f, d)]))))) (cl : Cls X.K C) (na : NoAttr X.K C f) (hnew : f ∉ fs.map (·.1) := by decide) (hl : fs.length < 1000 := by exact Nat.lt_of_sub_pos (by decide)) (hE : E[i]? = some (some (.oI y C fs)) := by rfl)
    (hN : X.N[i]? = some x := by rfl) (hv : Vis X.env.scope x := by first | exact Or.inl rfl | exact Or.inr (Or.inl rfl) | exact Or.inr (Or.inr rfl)) (hdb : (x == ("__debug__" : Str)) = false := by decide) (hcd : (x == ("__classdict__" : Str)) = false := by decide)
    (hs : swapsWith e (some (.Attribute (.Name x p) f apos)) pos.line X.env = pure false := by rfl) : HasS X E (.Assign [.Attribute (.Name x p) f apos] e pos) N := by
  refine PS.mono (ps_fld (pe_var hN hv hdb hcd) he hs) fun D σ H ⟨F, τ, S, k, _⟩ => ⟨F, τ, S, fun w sl H1 hs' o => ?_⟩
  cases hs'
  have S1 := S.grow o.ex
  obtain ⟨v, h1, rfl, dx, vs, h3, h4⟩ := S1.slot i _ hE
  have hx : y ∈ ow F E := mem_ow.mpr (.inl ⟨i, _, hE, by simp [Sl.own]⟩)
  refine ⟨_, h1, y, C, dx, vs, rfl, h3, cl, na, ?_, k _ _ _ hn ?_⟩
  · have := congrArg List.length h4.keys
    rw [List.length_map, List.length_map] at this
    rw [this]; exact hl
  · rw [putF_new (by rw [h4.keys]; exact hnew)]
    refine S1.mut hE (fun a ha => .inl ha) (by simp [Sl.own]) (fun a u ha q => by rw [upd_ne (fun z => ha (by simp [Sl.own, z]))]; exact q) fun v' hv' => ?_
    have hv2 : v' = .ref y := by
      rw [h1] at hv'
      cases hv'; rfl
    have b := (base_upd (F := F) (H := H1) (o := .ins C dx (vs ++ [(f, w)])) hx).trans (own_sub (so := [y]) fun a ha => by rw [List.mem_singleton] at ha; subst ha; exact hx)
    exact ⟨hv2, dx, _, upd_same, (RepsF.le b.le h4).app (Rep.le b.le o.rp)⟩
/-- x.f = a new dict -/
theorem s_fldNew (i : Nat) {y : Addr} {kvs : List (Str × D)} (he : HasR X E e (.nD kvs)) (hn : ∀ g, N.nx (E.set i (some (.oR y g C fs f [] kvs)))) (cl : Cls X.K C) (na : NoAttr X.K C f) (hnew : f ∉ fs.map (·.1) := by decide) (hl : fs.length < 1000 := by exact Nat.lt_of_sub_pos (by decide)) (hE : E[i]? = some (some (.oI y C fs)) := by rfl)
    (hN : X.N[i]? = some x := by rfl) (hv : Vis X.env.scope x := by first | exact Or.inl rfl | exact Or.inr (Or.inl rfl) | exact Or.inr (Or.inr rfl)) (hdb : (x == ("__debug__" : Str)) = false := by decide) (hcd : (x == ("__classdict__" : Str)) = false := by decide)
    (hs : swapsWith e (some (.Attribute (.Name x p) f apos)) pos.line X.env = pure false := by rfl) : HasS X E (.Assign [.Attribute (.Name x p) f apos] e pos) N := by
  refine PS.mono (ps_fld (pe_var hN hv hdb hcd) he hs) fun D σ H ⟨F, τ, S, k, _⟩ => ⟨F, τ, S, fun w sl H1 hs' o => ?_⟩
  obtain ⟨g, rfl⟩ := hs'
  obtain ⟨ex, ⟨rfl, ks, q1, q2⟩, new, _⟩ := o
  have S1 := S.grow ex
  have hg : H g = none := new g (by simp [Sl.own])
  obtain ⟨v, h1, rfl, dx, vs, h3, h4⟩ := S.slot i _ hE
  have hx : y ∈ ow F E := mem_ow.mpr (.inl ⟨i, _, hE, by simp [Sl.own]⟩)
  have hne : y ≠ g := fun e => by rw [e, hg] at h3; cases h3
  refine ⟨_, h1, y, C, dx, vs, rfl, ex _ _ h3, cl, na, ?_, k _ _ _ (hn g) ?_⟩
  · have := congrArg List.length h4.keys
    rw [List.length_map, List.length_map] at this
    rw [this]; exact hl
  · rw [putF_new (by rw [h4.keys]; exact hnew)]
    refine S.mut hE (fun a ha => ?_) (by simp [Sl.own, hne]) (fun a u ha q => by rw [upd_ne (fun z => ha (by simp [Sl.own, z]))]; exact ex _ _ q) fun v' hv' => ?_
    · simp only [Sl.own, List.mem_cons, List.not_mem_nil, or_false] at ha
      rcases ha with rfl | rfl
      · exact .inl (by simp [Sl.own])
      · exact .inr hg
    · have hv2 : v' = .ref y := by
        rw [h1] at hv'
        cases hv'; rfl
      have b1 : Ex (base F H (ow F E)) (base F (upd H1 y (.ins C dx (vs ++ [(f, .ref g)]))) ([y, g] ++ ow F E)) := base_mono (fun a u h _ q => by
        rw [upd_ne (fun z => h (by rw [z]; exact hx))]
        exact ex _ _ q) fun a ha => by
          rcases List.mem_append.mp ha with z | z
          · simp only [List.mem_cons, List.not_mem_nil, or_false] at z
            rcases z with rfl | rfl
            · exact .inl hx
            · exact .inr (by
                by_cases h9 : a ∈ ow F E
                · exact base_in h9
                · rw [base_new h9 (S.free hg)]; exact hg)
          · exact .inl z
      have b2 : Ex (base F H1 ([g] ++ ow F E)) (base F (upd H1 y (.ins C dx (vs ++ [(f, .ref g)]))) ([y, g] ++ ow F E)) := base_mono (fun a u h _ q => by
        rw [upd_ne (fun z => h (List.mem_append_right _ (by rw [z]; exact hx)))]
        exact q) fun a ha => by
          rcases List.mem_append.mp ha with z | z
          · simp only [List.mem_cons, List.not_mem_nil, or_false] at z
            rcases z with rfl | rfl
            · exact .inl (List.mem_append_right _ hx)
            · exact .inl (List.mem_append_left _ (by simp))
          · exact .inl (List.mem_append_right _ z)
      exact ⟨hv2, ⟨dx, _, upd_same, (RepsF.le b1.le h4).app (.ptr g)⟩, ks, by rw [upd_ne (Ne.symm hne)]; exact q1, RepsD.le b2.le q2⟩
/-- o[k] = e, o the own dict of slot i -/
theorem s_dputO (i : Nat) {g : Addr} {kvs : List (Str × D)} {y : Str} (hu : X.A.units + 1 < cLine) (he : HasD X E e d) (ho : HasD X E o (.ptr g)) (hk : HasD X E e2 (.str y)) (hz : kvs.length < 1000) (hn : N.nx (E.set i (some (s.withD (dput kvs y d))))) (hE : E[i]? = some (some s) := by rfl) (hd : s.dic = some (g, kvs) := by rfl)
    (hs : swapsWith e (some (.Subscript o e2 sp)) pos.line X.env = pure false := by rfl) : HasS X E (.Assign [.Subscript o e2 sp] e pos) N := by
  refine PS.mono (ps_dput hu ho hk he hs) fun D σ H ⟨F, τ, S, k, _⟩ => ?_
  refine ⟨F, τ, S, fun w sl H1 hs o1 => ?_⟩
  cases hs
  have S1 := S.grow o1.ex
  refine ⟨F, τ, S1, fun u sl H2 hs2 o2 => ?_⟩
  cases hs2
  have r2 := o2.rp
  cases r2
  have S2 := S1.grow o2.ex
  refine ⟨F, τ, S2, fun u2 sl H3 hs3 o3 => ?_⟩
  cases hs3
  have r3 := o3.rp
  cases r3
  have S3 := S2.grow o3.ex
  obtain ⟨v, h1, h2⟩ := S3.slot i s hE
  obtain ⟨ks, h3, h4⟩ := h2.dic hd
  have hg : g ∈ ow F E := mem_ow.mpr (.inl ⟨i, s, hE, Sl.dic_own hd⟩)
  refine ⟨g, _, rfl, DPut.k (k := .inr y) h3 (by rw [h4.len]; exact small1000 (Nat.le_of_lt hz)), k _ _ _ hn ?_⟩
  refine S3.mut hE (fun a ha => .inl (by rw [withD_own] at ha; exact ha)) (by rw [withD_own]; exact S3.nd1 hE) (fun a u ha q => by rw [upd_ne (fun z => ha (by rw [z]; exact Sl.dic_own hd))]; exact q) fun v' hv' => ?_
  rw [h1] at hv'
  cases hv'
  have b := (base_upd (F := F) (H := H3) (o := .dK (putK ks (.inr y) w)) hg).trans (own_sub (so := (s.withD (dput kvs y d)).own) fun a ha => by rw [withD_own] at ha; exact mem_ow.mpr (.inl ⟨i, s, hE, ha⟩))
  exact h2.putD b.le (S3.nd1 hE) hd (RepsD.put (Rep.le ((S1.bmono (o2.ex.trans o3.ex)).trans b).le o1.rp) (RepsD.le b.le h4))
end
/-- an own dict at an own instance's attribute is given up -/
theorem SR.absorb {K : PySem.W.Frag} {F : Fm} {E : En} {τ : List (V × D)} {σ : L2.St} {H : Hp} (S : SR K F E τ σ H) {i j : Nat} {y g C : Addr} {pre post : List (Str × D)} {f : Str} {kvs : List (Str × D)} (hi : E[i]? = some (some (.oI y C (pre ++ (f, .ptr g) :: post)))) (hj : E[j]? = some (some (.oD g kvs))) (hij : i ≠ j) :
    SR K F ((E.set j (some (.val (.dct kvs)))).set i (some (.oI y C (pre ++ (f, .dct kvs) :: post)))) τ σ H := by
  have S1 := S.settle hj
  have hi1 : (E.set j (some (.val (.dct kvs))))[i]? = some (some (.oI y C (pre ++ (f, .ptr g) :: post))) := by rw [List.getElem?_set_ne (Ne.symm hij)]; exact hi
  have hiE : j < E.length := (List.getElem?_eq_some_iff.mp hj).1
  have hjv : (E.set j (some (.val (.dct kvs))))[j]? = some (some (.val (.dct kvs))) := List.getElem?_set_self hiE
  obtain ⟨w, w1, w2⟩ := S1.slot j _ hjv
  obtain ⟨w', w1', e1, _⟩ := S.slot j _ hj
  subst e1
  rw [w1'] at w1
  cases w1
  refine S1.mut hi1 (fun a ha => .inl ha) (by simp [Sl.own]) (fun a o _ q => q) fun v hv => ?_
  obtain ⟨v0, h1, e, dx, vs, h2, h3⟩ := S1.slot i _ hi1
  rw [h1] at hv
  cases hv
  have hy : y ∈ ow F (E.set j (some (.val (.dct kvs)))) := mem_ow.mpr (.inl ⟨i, _, hi1, by simp [Sl.own]⟩)
  have b := own_sub (F := F) (H := H) (so := [y]) (ow0 := ow F (E.set j (some (.val (.dct kvs))))) fun a ha => by rw [List.mem_singleton] at ha; subst ha; exact hy
  refine ⟨e, dx, vs, h2, (RepsF.le b.le h3).hole fun u hu => ?_⟩
  cases hu
  exact Rep.le b.le w2
theorem q_absorb {X : Cx} {E : En} {N : Po} {st : List Stmt} (i j : Nat) {y g C : Addr} (pre post : List (Str × D)) {f : Str} {kvs : List (Str × D)} (h : HasSs X ((E.set j (some (.val (.dct kvs)))).set i (some (.oI y C (pre ++ (f, .dct kvs) :: post)))) st N) (hi : E[i]? = some (some (.oI y C (pre ++ (f, .ptr g) :: post))) := by rfl)
    (hj : E[j]? = some (some (.oD g kvs)) := by rfl) (hij : i ≠ j := by decide) : HasSs X E st N :=
  PSs.mono h fun D σ H ⟨F, τ, S, k⟩ => ⟨F, τ, S.absorb hi hj hij, k⟩
end K39
/-! KIni -/
set_option maxHeartbeats 4000000
/-! ## defs that change their first argument: constructors, own __setitem__ -/
namespace K39
open PySem PySem.Spec PyProof.Rows L2
def lessH (H : Hp) (w : List Addr) : Hp := fun a => if a ∈ w then none else H a
theorem lessH_in {H : Hp} {w : List Addr} {a : Addr} (h : a ∈ w) : lessH H w a = none := if_pos h
theorem lessH_out {H : Hp} {w : List Addr} {a : Addr} (h : a ∉ w) : lessH H w a = H a := if_neg h
theorem lessH_ex (H : Hp) (w : List Addr) : Ex (lessH H w) H := fun a o h => by
  by_cases h1 : a ∈ w
  · rw [lessH_in h1] at h; cases h
  · rw [lessH_out h1] at h; exact h
/-- how a def leaves its first argument -/
structure Left (K : PySem.W.Frag) (B H : Hp) (w : List Addr) (H' : Hp) (v0 : V) (s1 : Sl) : Prop where
  ex : Ex (lessH H w) H'
  rep : RepS K (base ⟨B, lessH H w, []⟩ H' s1.own) H' v0 s1
  nd : s1.own.Nodup
  new : ∀ l ∈ s1.own, lessH H w l = none
  kept : ∀ l ∈ w, l ∈ s1.own
def spI (K : PySem.W.Frag) (G : Sl → List D → (Sl → Prop) → Prop) : Sp := fun vs H Q _ => ∃ v0 vs' s0 B ds r, vs = v0 :: vs' ∧ Ex B (lessH H s0.own) ∧ RepS K B H v0 s0 ∧ Reps K B vs' ds ∧ s0.own.Nodup ∧ G s0 ds r ∧ ∀ s1 H', r s1 → Left K B H s0.own H' v0 s1 → Q .non H'
def argsI (s0 : Sl) (ds : List D) (n : Nat) : En := some s0 :: args ds n
section
variable {P : Program} {w : World} {K : PySem.W.Frag} {mg : Str → Option Value} {bs : Heap}
theorem SR.startI {N : List Str} {H B : Hp} {v0 : V} {s0 : Sl} {vs : List V} {ds : List D} (e : Ex B (lessH H s0.own)) (r0 : RepS K B H v0 s0) (r : Reps K B vs ds) (nd : s0.own.Nodup) (hl : ds.length + 1 ≤ N.length) : SR K ⟨B, lessH H s0.own, []⟩ (argsI s0 ds (N.length - (ds.length + 1))) [] (L2.start N (v0 :: vs)) H := by
  have ho : ow ⟨B, lessH H s0.own, []⟩ (argsI s0 ds (N.length - (ds.length + 1))) = s0.own := by
    show owns ((some s0 :: args ds _) ++ []) = _
    rw [List.append_nil, owns_cons, args_owns, List.append_nil]
    rfl
  have hb : Ex B (base ⟨B, lessH H s0.own, []⟩ H s0.own) := fun a o q => by
    have q2 := e a o q
    have h1 : a ∉ s0.own := fun z => by rw [lessH_in z] at q2; cases q2
    rw [base_old (F := ⟨B, lessH H s0.own, []⟩) h1 q2]
    exact q
  have lv : vs.length = ds.length := r.len
  refine ⟨?_, fun i s h => ?_, fun s h => (by simp at h), fun p hp => (by simp at hp), lessH_ex _ _, e, by rw [ho]; exact nd, fun l h => by rw [ho] at h; exact lessH_in h⟩
  · unfold L2.start argsI args
    simp [lv]
  · rw [ho]
    cases i with
    | zero =>
      have h' : s0 = s := by simpa [argsI] using h
      subst h'
      refine ⟨v0, ?_, r0.le hb.le fun _ _ _ q => q⟩
      unfold L2.start
      simp
    | succ i =>
      have h : (args ds (N.length - (ds.length + 1)))[i]? = some (some s) := by simpa [argsI] using h
      unfold args at h
      by_cases hi : i < ds.length
      · rw [List.getElem?_append_left (by simpa using hi), List.getElem?_map, List.getElem?_eq_getElem hi] at h
        have h' : Sl.val ds[i] = s := by simpa using h
        subst h'
        obtain ⟨v, h1, h2⟩ := r.get (List.getElem?_eq_getElem hi)
        refine ⟨v, ?_, Rep.le hb.le h2⟩
        unfold L2.start
        have hi' : i < vs.length := by rw [lv]; exact hi
        rw [List.getElem?_append_left (by simpa using hi'), List.getElem?_map, List.getElem?_cons_succ, h1]
        rfl
      · rw [List.getElem?_append_right (by simpa using Nat.le_of_not_lt hi)] at h
        rw [List.getElem?_replicate] at h
        split at h <;> cases h
/-- the value of an own slot -/
theorem RepS.hdv {B H : Hp} {v : V} {s : Sl} (h : RepS K B H v s) (hs : s.own ≠ []) : v = .ref s.hd := by
  cases s with
  | val d => exact absurd rfl hs
  | oL _ _ => exact h.1
  | oD _ _ => exact h.1
  | oT _ _ => exact h.1
  | oI _ _ _ => exact h.1
  | oR _ _ _ _ _ _ _ => exact h.1
theorem fnI_ok {x qual : Str} {st : Stmt} {dvs : List V} {kws : List (Str × V)} {f : Addr} {fd : FuncData} {N ps : List Str} {k : Nat} {G : Sl → List D → (Sl → Prop) → Prop} (F : L2.FunD K x qual (defArgs st) (defBody st) (defScope st) dvs kws f fd) (sc : FnScope N ps (defScope st)) (hl : ps.length ≤ N.length)
    (len : ∀ s ds r, G s ds r → ds.length + 1 = ps.length) (hh : ∀ s ds r s1, G s ds r → r s1 → s.own ≠ [] ∧ s1.hd = s.hd ∧ ∀ l ∈ s.own, l ∈ s1.own)
    (hb : ∀ (c : Cc) (s0 : Sl) (ds : List D) (r : Sl → Prop), Room k (Cc.cx P w K mg bs N qual st c).A → G s0 ds r →
      HasSs (Cc.cx P w K mg bs N qual st c) (argsI s0 ds (N.length - (ds.length + 1))) (defBody st) ⟨fun E' => ∃ s1, E'[0]? = some (some s1) ∧ r s1, fun _ => False, fun _ => False, fun _ => False⟩) :
    FnOk P w K mg bs CX0 (k + 1) f fd ps (spI K G) := by
  refine L2.FunD.ok F sc (fun vs H Q E ⟨v0, vs', s0, B, ds, r, e, _, _, hr, _, hG, _⟩ => by rw [e, List.length_cons, hr.len]; exact len s0 ds r hG) fun cdv A outer s H vs Q E hr ⟨v0, vs', s0, B, ds, r, e, eB, r0, hR, nd, hG, kQ⟩ => ?_
  subst e
  have S0 : SR K ⟨B, lessH H s0.own, []⟩ (argsI s0 ds (N.length - (ds.length + 1))) [] (L2.start N (v0 :: vs')) H := SR.startI eB r0 hR nd (by rw [len s0 ds r hG]; exact hl)
  refine ⟨_, PSs.nox (hb ⟨cdv, A, outer, s, H, E, f⟩ s0 ds r hr hG), ⟨B, lessH H s0.own, []⟩, [], S0, fun E' σ' H' hn S' => ?_, fun v s H' hs ok => hs.elim, fun _ _ _ h => h.elim, fun _ _ _ h => h.elim⟩
  obtain ⟨s1, h1, h2⟩ := hn
  obtain ⟨g1, g2, g3⟩ := hh s0 ds r s1 hG h2
  obtain ⟨v, h3, h4⟩ := S'.slot 0 s1 h1
  have g4 : s1.own ≠ [] := fun e => by
    cases q : s0.own with
    | nil => exact g1 q
    | cons a r => have := g3 a (by rw [q]; exact List.mem_cons_self); rw [e] at this; simp at this
  have hv : v = v0 := by rw [h4.hdv g4, r0.hdv g1, g2]
  subst hv
  have sub : ∀ l ∈ s1.own, l ∈ ow ⟨B, lessH H s0.own, []⟩ E' := fun l hl => mem_ow.mpr (.inl ⟨0, s1, h1, hl⟩)
  exact kQ s1 H' h2 ⟨S'.ex, h4.le (base_sub fun a ha => .inl (sub a ha)).le fun _ _ _ q => q, S'.nd1 h1, fun l hl => S'.fr l (sub l hl), g3⟩
end
/-- from a callee's base to the caller's, an own slot lent -/
theorem SR.backI {K : PySem.W.Frag} {F : Fm} {E : En} {τ : List (V × D)} {σ : L2.St} {H H' B : Hp} (S : SR K F E τ σ H) (hB : Ex B (base F H (ow F E))) {w : List Addr} {v0 : V} {s1 : Sl} (o : Left K B H w H' v0 s1) :
    RepS K (base F H' (s1.own ++ ow F E)) H' v0 s1 := by
  refine o.rep.le (Ex.le fun a u q => ?_) fun _ _ _ q => q
  have h1 : a ∉ s1.own := fun z => by rw [base_in z] at q; cases q
  have hw1 : a ∉ w := fun z => h1 (o.kept a z)
  cases h2 : H a with
  | none =>
    rw [base_new (F := ⟨B, lessH H w, []⟩) h1 (show lessH H w a = none by rw [lessH_out hw1]; exact h2)] at q
    have h3 : a ∉ s1.own ++ ow F E := fun z => (List.mem_append.mp z).elim h1 (S.nown h2)
    rw [base_new h3 (S.free h2)]
    exact q
  | some z =>
    have h2' : lessH H w a = some z := by rw [lessH_out hw1]; exact h2
    rw [base_old (F := ⟨B, lessH H w, []⟩) h1 h2'] at q
    have q' : base F H (ow F E) a = some u := hB a u q
    have h4 : a ∉ ow F E := fun z => by rw [base_in z] at q'; cases q'
    have h3 : a ∉ s1.own ++ ow F E := fun z => (List.mem_append.mp z).elim h1 h4
    cases h5 : F.H0 a with
    | none =>
      rw [base_new h4 h5] at q'
      rw [base_new h3 h5]
      refine o.ex _ _ ?_
      rw [lessH_out hw1]; exact q'
    | some z =>
      rw [base_old h4 h5] at q'
      rw [base_old h3 h5]
      exact q'
/-- a constructor of a class of the module -/
structure KnC (P : Program) (w : World) (K : PySem.W.Frag) (mg : Str → Option Value) (bs : Heap) (CX : CXT) (k : Nat) (x : Str) (C : Addr) (ps : List Str) (sp : Sp) : Prop where
  ex : ∃ (f : Addr) (fd : FuncData), Mk K C f ∧ FnOk P w K mg bs CX k f fd ps sp ∧ L2.Binds K fd ps [] ∧ mg x = some (.ref C)
section
variable {K : PySem.W.Frag} {F : Fm} {E : En} {τ : List (V × D)} {σ : L2.St} {H : Hp} {C : Addr} {rr : Rs} {Q : VK} {G : Sl → List D → (Sl → Prop) → Prop} {ds : List D} {vs : List V} {r : Sl → Prop}
/-- what a new instance comes to -/
def MakeR (r : Sl → Prop) (rr : Rs) : Prop := ∀ s1, r s1 → rr.ok s1 ∨ rr = .val s1.frz
theorem spI_make (S : SR K F E τ σ H) (rs : Reps K (base F H (ow F E)) vs ds) (hG : ∀ x, G (.oI x C []) ds r) (hr : MakeR r rr) (k : Kt K F (ow F E) H rr Q) {x dx : Addr} (hx : H x = none) (hdx : H dx = none) (hne : dx ≠ x) {XE : XK} :
    spI K G (.ref x :: vs) (upd (upd H dx (.own x)) x (.ins C dx [])) (fun v H2 => v = .non ∧ Q (.ref x) H2) XE := by
  have hx1 : (upd H dx (.own x)) x = none := by rw [upd_ne (Ne.symm hne)]; exact hx
  have e2 : Ex H (upd (upd H dx (.own x)) x (.ins C dx [])) := (Ex.upd hdx).trans (Ex.upd hx1)
  have S2 := S.grow e2
  have eL : Ex H (lessH (upd (upd H dx (.own x)) x (.ins C dx [])) [x]) := fun a o q => by
    have h1 : a ∉ [x] := fun z => by rw [List.mem_singleton] at z; subst z; rw [hx] at q; cases q
    rw [lessH_out h1]
    exact e2 a o q
  refine ⟨.ref x, vs, .oI x C [], base F H (ow F E), ds, r, rfl, S.bex.trans eL, ⟨rfl, dx, [], upd_same, .nil⟩, rs, by simp [Sl.own], hG x, fun s1 H' h1 o => ⟨rfl, ?_⟩⟩
  have rb := S2.backI (S.bmono e2) o
  have ex : Ex H H' := fun a u q => o.ex a u (eL a u q)
  have new : ∀ l ∈ s1.own, H l = none := fun l hl => by
    have h2 := o.new l hl
    cases q : H l with
    | none => rfl
    | some u => cases (eL l u q).symm.trans h2
  rcases hr s1 h1 with h | h
  · exact k _ s1 H' h ⟨ex, rb, new, o.nd⟩
  · subst h
    refine k _ _ H' rfl (.val ex (rb.frz (base_sub fun a ha => .inl (List.mem_append_right _ ha)).le fun l hl u q => ?_))
    rw [base_new (S.nown (new l hl)) (S.free (new l hl))]
    exact q
end
section
variable {X : Cx} {E : En} {x : Str} {p pos : Pos} {e : Expr} {es : List Expr} {k : Nat} {C : Addr} {ps : List Str} {G : Sl → List D → (Sl → Prop) → Prop} {rr : Rs} {ds : List D} {r : Sl → Prop}
/-- C(..) -/
theorem h_make (T : KnC X.prog X.w X.K X.mg X.base CX0 k x C ps (spI X.K G)) (hr : Room (k + 1) X.A) (ha : HA X E (e :: es) ds) (hG : ∀ y, G (.oI y C []) ds r) (hR : MakeR r rr) (hg : Gl X x := by rfl)
    (PC : ∀ {f : Addr} {fd : FuncData} {t : TA}, Room (k + 1) X.A → Mk X.K C f → FnOk X.prog X.w X.K X.mg X.base CX0 k f fd ps (spI X.K G) → L2.Binds X.K fd ps [] → X.mg x = some (.ref C) → PA X (e :: es) t → PE X (.Call (.Name x p) (e :: es) [] pos) (tMake C (spI X.K G) [] E0 t) := by
      exact fun hr M hF hB hM ha => pe_make M hF hr (by rfl) hM hB .nil pass0 ha) : HasR X E (.Call (.Name x p) (e :: es) [] pos) rr := by
  obtain ⟨f, fd, M, hF, hB, hM⟩ := T.ex
  refine PE.mono (PC hr M hF hB hM ha) fun σ H Q ⟨F, τ, S, kt⟩ => ⟨F, τ, S, fun vs H1 e1 rs y dy h1 h2 h3 => ?_⟩
  rw [List.append_nil]
  exact spI_make (S.grow e1) rs hG hR (Kt.later kt e1) h1 h2 h3
end
/-! ### own __setitem__ -/
/-- a method that changes the instance -/
structure KnS (P : Program) (w : World) (K : PySem.W.Frag) (mg : Str → Option Value) (bs : Heap) (CX : CXT) (k : Nat) (C : Addr) (m : Str) (ps : List Str) (sp : Sp) : Prop where
  ex : ∃ (f : Addr) (fd : FuncData), FnOk P w K mg bs CX k f fd ps sp ∧ L2.Binds K fd ps [] ∧ Meth K C m f
  sq : PySem.W.noSeq K C = true
section
variable {X : Cx} {E : En} {N : Po} {e e2 o : Expr} {pos sp' : Pos} {k : Nat} {C : Addr} {ps : List Str} {G : Sl → List D → (Sl → Prop) → Prop}
def sOwnPut (C : Addr) (sp : Sp) (ta ty tv : TE) : TS := fun D σ H => tv σ H fun v H1 => ta σ H1 fun x H2 => ty σ H2 fun y H3 => ∃ a dx fs, x = .ref a ∧ H3 a = some (.ins C dx fs) ∧ sp [.ref a, y, v] H3 (fun _ H4 => D.nx σ H4) E0
theorem ps_ownPut {f : Addr} {fd : FuncData} {sp : Sp} {ta ty tv : TE} (hF : FnOk X.prog X.w X.K X.mg X.base CX0 k f fd ps sp) (hB : L2.Binds X.K fd ps []) (hM : Meth X.K C "__setitem__" f) (hq : PySem.W.noSeq X.K C = true) (hr : Room k X.A) (ho : PE X o ta) (hi : PE X e2 ty) (hv : PE X e tv)
    (hs : swapsWith e (some (.Subscript o e2 sp')) pos.line X.env = pure false) : PS X (.Assign [.Subscript o e2 sp'] e pos) (sOwnPut C sp ta ty tv) := by
  refine ⟨fun pins s σ H D I h => ?_⟩
  refine wpAny_Assign_Subscript (thn (hv.run pins s σ H _ I h) fun r s1 ⟨v, H1, I1, rv, q1⟩ => thn (ho.run pins s1 σ H1 _ I1 q1) fun u s2 ⟨x, H2, I2, rx, q2⟩ => thn (hi.run pins s2 σ H2 _ I2 q2) fun iv s3 ⟨y, H3, I3, ry, a, dx, fs, ex, hH, q3⟩ => ?_) hs
  subst ex
  cases rx
  obtain ⟨mA, J, _⟩ := ins_get I3.hok hH
  obtain ⟨od, J, _⟩ := J.look
  obtain ⟨m, hF'⟩ := I3.fr
  refine PySem.W.ksp_setItem hF' I3.ok.mod.kin J hq hM.at_ hM.fn (thn (own_call ⟨hr, rfl⟩ hF hB I3 (vs := [.ref a, y, v]) (us := [.ref a, iv, r]) (.cons rfl (.cons ry (.cons rv .nil))) q3) fun z s4 ⟨zz, H4, I4, _, q4⟩ => ⟨σ, H4, I4, q4⟩)
/-- x[k] = e by the class's own __setitem__, x an own instance -/
theorem s_ownPut (i : Nat) {x : Str} {p : Pos} {s0 : Sl} {fs : List (Str × D)} {dk dv : D} {r : Sl → Prop} (T : KnS X.prog X.w X.K X.mg X.base CX0 k C "__setitem__" ps (spI X.K G)) (hr : Room k X.A) (he : HasD X E e dv) (hk : HasD X E e2 dk) (hf : s0.fld = some (C, fs)) (hG : G s0 [dk, dv] r)
    (hn : ∀ s1, r s1 → N.nx (E.set i (some s1))) (hE : E[i]? = some (some s0) := by rfl)
    (hN : X.N[i]? = some x := by rfl) (hv : Vis X.env.scope x := by first | exact Or.inl rfl | exact Or.inr (Or.inl rfl) | exact Or.inr (Or.inr rfl)) (hdb : (x == ("__debug__" : Str)) = false := by decide) (hcd : (x == ("__classdict__" : Str)) = false := by decide)
    (hs : swapsWith e (some (.Subscript (.Name x p) e2 sp')) pos.line X.env = pure false := by rfl) : HasS X E (.Assign [.Subscript (.Name x p) e2 sp'] e pos) N := by
  obtain ⟨f, fd, hF, hB, hM⟩ := T.ex
  refine PS.mono (ps_ownPut hF hB hM T.sq hr (pe_var hN hv hdb hcd) hk he hs) fun D σ H ⟨F, τ, S, kk, _⟩ => ⟨F, τ, S, fun w sl H1 hs1 o1 => ?_⟩
  cases hs1
  have S1 := S.grow o1.ex
  obtain ⟨v, h1, h2⟩ := S1.slot i s0 hE
  refine ⟨v, h1, F, τ, S1, fun u sl H2 hs2 o2 => ?_⟩
  cases hs2
  have S2 := S1.grow o2.ex
  obtain ⟨v', h1', h2'⟩ := S2.slot i s0 hE
  rw [h1] at h1'
  cases h1'
  obtain ⟨dx, vs, rfl, h3, h4⟩ := h2'.fld hf
  have sub : ∀ l ∈ s0.own, l ∈ ow F E := fun l hl => mem_ow.mpr (.inl ⟨i, s0, hE, hl⟩)
  have eB : Ex (base F H2 (ow F E)) (lessH H2 s0.own) := fun a o q => by
    have h9 : a ∉ s0.own := fun z => by rw [base_in (sub a z)] at q; cases q
    rw [lessH_out h9]
    exact S2.bex a o q
  refine ⟨s0.hd, dx, vs, rfl, h3, .ref s0.hd, [u, w], s0, base F H2 (ow F E), [dk, dv], r, rfl, eB, h2', .cons o2.rp (.cons (Rep.le (S1.bmono o2.ex).le o1.rp) .nil), S2.nd1 hE, hG, fun s1 H' hr1 o => kk _ _ _ (hn s1 hr1) ?_⟩
  refine S2.mut hE (fun l hl => ?_) o.nd (fun a u ha q => o.ex a u (by rw [lessH_out ha]; exact q)) fun v' hv' => ?_
  · by_cases h9 : l ∈ s0.own
    · exact .inl h9
    · have h8 := o.new l hl
      rw [lessH_out h9] at h8
      exact .inr h8
  · rw [h1] at hv'
    cases hv'
    exact S2.backI (Ex.rfl' _) o
end
end K39
/-! KTab -/
set_option maxHeartbeats 4000000
/-! ## set tables: each slot is met again -/
namespace K39
open PySem PySem.Spec PyProof.Rows L2
/-! ### the masks -/
/-- the round of 5 i + 1 from 0 comes back after all the slots, not before -/
def cyc (m : Nat) : Nat → Nat → Bool
  | 0, x => x == 0
  | f + 1, x => x != 0 && cyc m f ((x * 5 + 1) % (m + 1))
structure MaskG (m : Nat) : Prop where
  cy : cyc m m 1 = true
  pos : 1 < m + 1
  inj : ∀ i j, i ≤ m → j ≤ m → (i * 5 + 1) % (m + 1) = (j * 5 + 1) % (m + 1) → i = j
  odd : m % 2 = 1
  le : m ≤ 2047
theorem mask7 : MaskG 7 := ⟨by decide +kernel, by decide, fun i j h1 h2 h => by omega, rfl, by decide⟩
theorem mask31 : MaskG 31 := ⟨by decide +kernel, by decide, fun i j h1 h2 h => by omega, rfl, by decide⟩
theorem mask127 : MaskG 127 := ⟨by decide +kernel, by decide, fun i j h1 h2 h => by omega, rfl, by decide⟩
theorem mask511 : MaskG 511 := ⟨by decide +kernel, by decide, fun i j h1 h2 h => by omega, rfl, by decide⟩
theorem mask2047 : MaskG 2047 := ⟨by decide +kernel, by decide, fun i j h1 h2 h => by omega, rfl, by decide⟩
section
variable {m : Nat}
theorem lcgN_le (m k : Nat) : lcgN m k ≤ m := by
  cases k with
  | zero => exact Nat.zero_le _
  | succ k => exact Nat.le_of_lt_succ (Nat.mod_lt _ (Nat.succ_pos _))
theorem cyc_says : ∀ (f k : Nat), cyc m f (lcgN m k) = true → (∀ i, i < f → lcgN m (k + i) ≠ 0) ∧ lcgN m (k + f) = 0
  | 0, k, h => ⟨fun i hi => absurd hi (Nat.not_lt_zero _), by simpa [cyc] using h⟩
  | f + 1, k, h => by
    unfold cyc at h
    rw [Bool.and_eq_true, bne_iff_ne] at h
    obtain ⟨h1, h2⟩ := cyc_says f (k + 1) h.2
    refine ⟨fun i hi => ?_, by rw [show k + (f + 1) = k + 1 + f by omega]; exact h2⟩
    cases i with
    | zero => exact h.1
    | succ i => rw [show k + (i + 1) = k + 1 + i by omega]; exact h1 i (by omega)
theorem MaskG.one (hm : MaskG m) : lcgN m 1 = 1 := by
  show (0 * 5 + 1) % (m + 1) = 1
  rw [Nat.zero_mul, Nat.zero_add]
  exact Nat.mod_eq_of_lt hm.pos
theorem MaskG.says (hm : MaskG m) : (∀ i, i < m → lcgN m (1 + i) ≠ 0) ∧ lcgN m (m + 1) = 0 := by
  have h := cyc_says m 1 (by rw [hm.one]; exact hm.cy)
  rw [Nat.add_comm 1 m] at h
  exact h
theorem MaskG.back (hm : MaskG m) : ∀ (a d : Nat), lcgN m a = lcgN m (a + d) → lcgN m d = 0
  | 0, d, h => by rw [Nat.zero_add] at h; exact h.symm
  | a + 1, d, h => MaskG.back hm a d (hm.inj _ _ (lcgN_le m a) (lcgN_le m (a + d)) (by rw [show a + 1 + d = a + d + 1 by omega] at h; exact h))
/-- a list that leaves nothing out -/
theorem all_of_nodup (l : List Nat) (n : Nat) (hn : l.Nodup) (hb : ∀ x ∈ l, x < n) (hl : l.length = n) {j : Nat} (hj : j < n) : j ∈ l := by
  rcases Classical.em (j ∈ l) with c | c
  · exact c
  · have h := nat_nodup_len l ((List.range n).erase j) hn fun x hx => (List.mem_erase_of_ne (fun e : x = j => c (by rw [← e]; exact hx))).2 (List.mem_range.mpr (hb x hx))
    rw [List.length_erase_of_mem (List.mem_range.mpr hj), List.length_range] at h
    omega
theorem MaskG.all (hm : MaskG m) {j : Nat} (hj : j ≤ m) : ∃ b, b ≤ m ∧ lcgN m b = j := by
  have nd : ((List.range (m + 1)).map (lcgN m)).Nodup := by
    refine List.pairwise_map.mpr (List.Pairwise.imp_of_mem (fun {a b} ha hb hlt e => ?_) (List.pairwise_lt_range (n := m + 1)))
    have h1 := List.mem_range.mp hb
    have h2 := hm.back a (b - a) (by rw [show a + (b - a) = b by omega]; exact e)
    have h3 := hm.says.1 (b - a - 1) (by omega)
    rw [show 1 + (b - a - 1) = b - a by omega] at h3
    exact h3 h2
  have h := all_of_nodup _ (m + 1) nd (fun x hx => by
    obtain ⟨a, _, e⟩ := List.mem_map.mp hx
    rw [← e]
    exact Nat.lt_succ_of_le (lcgN_le m a)) (by rw [List.length_map, List.length_range]) (Nat.lt_succ_of_le hj)
  obtain ⟨b, hb, e⟩ := List.mem_map.mp h
  exact ⟨b, Nat.le_of_lt_succ (List.mem_range.mp hb), e⟩
theorem MaskG.per (hm : MaskG m) : ∀ k, lcgN m (m + 1 + k) = lcgN m k
  | 0 => hm.says.2
  | k + 1 => by
    show (lcgN m (m + 1 + k) * 5 + 1) % (m + 1) = _
    rw [MaskG.per hm k]
    rfl
theorem MaskG.from_ (hm : MaskG m) {i j : Nat} (hi : i ≤ m) (hj : j ≤ m) : ∃ k, k ≤ m ∧ lcgI m i k = j := by
  obtain ⟨a, ha, ea⟩ := hm.all hi
  obtain ⟨b, hb, eb⟩ := hm.all hj
  subst ea
  by_cases c : a ≤ b
  · exact ⟨b - a, by omega, by rw [lcgN_add, show a + (b - a) = b by omega]; exact eb⟩
  · exact ⟨m + 1 + b - a, by omega, by rw [lcgN_add, show a + (m + 1 + b - a) = m + 1 + b by omega, hm.per]; exact eb⟩
theorem MaskG.run (hm : MaskG m) (h : Int) {j : Nat} (hj : j ≤ m) : ∃ n, n ≤ m + 12 ∧ runI m (SetTable.bits h) n = j := by
  obtain ⟨k, hk, e⟩ := hm.from_ (runI_le m (SetTable.bits h) 12) hj
  exact ⟨12 + k, by omega, by rw [runI_tail (bits_lt h)]; exact e⟩
theorem MaskG.meets (hm : MaskG m) (h : Int) {j : Nat} (hj : j ≤ m) : ∃ k, k < 10 * SetTable.turns m ∧ way m h k = j := by
  obtain ⟨n, hn, e⟩ := hm.run h hj
  obtain ⟨k, hk, e2⟩ := run_nth m (SetTable.bits h) n
  refine ⟨k, by unfold SetTable.turns; omega, ?_⟩
  show (nth m (runAt m (SetTable.bits h % (m + 1)) (SetTable.bits h)) k).j = j
  rw [e2]
  exact e
theorem way_in (m : Nat) (h : Int) (k : Nat) : way m h k ≤ m := by
  have hi : SetTable.bits h % (m + 1) ≤ m := Nat.le_of_lt_succ (Nat.mod_lt (SetTable.bits h) (Nat.succ_pos m))
  have r := runEnd_bd hi
  have q := nth_in (m := m) k (runAt m (SetTable.bits h % (m + 1)) (SetTable.bits h)) (by
    show SetTable.bits h % (m + 1) + (SetTable.runEnd m (SetTable.bits h % (m + 1)) - SetTable.bits h % (m + 1)) ≤ m
    omega)
  exact Nat.le_trans (Nat.le_add_right _ _) q
end
/-! ### the table -/
structure TabG (t : SetTable) (hs : List Int) : Prop where
  ris : Ris t.place.toList
  dm : t.dummies = #[]
  sz : t.place.size = hs.length
  mok : MaskG t.mask
  bd : ∀ x ∈ t.place.toList, x ≤ t.mask
  reach : ∀ (i : Nat) (h : Int) (j : Nat), hs[i]? = some h → t.place.toList[i]? = some j → ∃ k, way t.mask h k = j ∧ ∀ k', k' < k → way t.mask h k' ∈ t.place.toList
section
variable {t : SetTable} {hs : List Int}
theorem TabG.first (T : TabG t hs) (hl : hs.length ≤ t.mask) (h : Int) : ∃ K, K < 10 * SetTable.turns t.mask ∧ way t.mask h K ∉ t.place.toList ∧ ∀ k, k < K → way t.mask h k ∈ t.place.toList := by
  obtain ⟨j, hj, hn⟩ := st_missing t.place.toList (t.mask + 1) (by rw [Array.length_toList, T.sz]; omega)
  obtain ⟨k, hk, e⟩ := T.mok.meets h (Nat.le_of_lt_succ hj)
  obtain ⟨K, h1, h2, h3⟩ := st_least (p := fun k => way t.mask h k ∉ t.place.toList) k (by rw [← e] at hn; exact hn)
  exact ⟨K, Nat.lt_of_le_of_lt h1 hk, h2, fun k' hk' => Classical.byContradiction (h3 k' hk')⟩
theorem TabG.before (T : TabG t hs) {h : Int} {K i j : Nat} (hK : way t.mask h K ∉ t.place.toList) (hi : hs[i]? = some h) (hj : t.place.toList[i]? = some j) : ∃ k, k < K ∧ way t.mask h k = j := by
  obtain ⟨k, e, hb⟩ := T.reach i h j hi hj
  refine ⟨k, Nat.lt_of_not_le fun c => ?_, e⟩
  rcases Nat.eq_or_lt_of_le c with c | c
  · rw [c, e] at hK
    exact hK (List.mem_of_getElem? hj)
  · exact hK (hb K c)
/-- the slots as the hashes, one more put in -/
theorem TabG.put (T : TabG t hs) {h : Int} {K : Nat} (hK : way t.mask h K ∉ t.place.toList) (hb : ∀ k, k < K → way t.mask h k ∈ t.place.toList) {p : Nat} (hp : SetTable.below t.place (way t.mask h K) = p) :
    p ≤ hs.length ∧ TabG (t.put (way t.mask h K)).1 (hs.take p ++ h :: hs.drop p) := by
  obtain ⟨c1, _, _⟩ := below_cut T.ris (way t.mask h K)
  have hpp := put_place t (way t.mask h K)
  have hnp : t.place[SetTable.below t.place (way t.mask h K)]? ≠ some (way t.mask h K) := fun e => hK (List.mem_of_getElem? (by rw [Array.getElem?_toList]; exact e))
  have hr := ris_insert T.ris hnp
  rw [hp] at hpp c1
  have hph : p ≤ hs.length := by rw [← T.sz]; exact c1
  have hpl : p ≤ t.place.toList.length := by rw [Array.length_toList]; exact c1
  have up : ∀ {x : Nat}, x ∈ t.place.toList → x ∈ (t.put (way t.mask h K)).1.place.toList := fun {x} hx => by
    rw [hpp]
    exact mem_ins.2 (.inr hx)
  refine ⟨hph, ⟨hr, put_dm T.dm _, ?_, T.mok, fun x hx => ?_, fun i h' j h1 h2 => ?_⟩⟩
  · rw [← Array.length_toList, hpp, len_ins _ hpl, len_ins _ hph, Array.length_toList, T.sz]
  · rw [hpp] at hx
    rcases mem_ins.1 hx with z | z
    · rw [z]; exact way_in _ _ _
    · exact T.bd x z
  · rw [tins_get hs hph] at h1
    rw [hpp, tins_get _ hpl] at h2
    show ∃ k, way t.mask h' k = j ∧ ∀ k', k' < k → way t.mask h' k' ∈ (t.put (way t.mask h K)).1.place.toList
    split at h1
    · rename_i c
      rw [if_pos c] at h2
      obtain ⟨k, e, z⟩ := T.reach i h' j h1 h2
      exact ⟨k, e, fun k' hk' => up (z k' hk')⟩
    · rename_i c
      rw [if_neg c] at h2
      split at h1
      · rename_i d
        rw [if_pos d] at h2
        cases h1
        cases h2
        exact ⟨K, rfl, fun k' hk' => up (hb k' hk')⟩
      · rename_i d
        rw [if_neg d] at h2
        obtain ⟨k, e, z⟩ := T.reach (i - 1) h' j h1 h2
        exact ⟨k, e, fun k' hk' => up (z k' hk')⟩
end
/-! ### laid anew -/
section
variable {m : Nat}
theorem free_findG (hm : MaskG m) (owner : Array (Option Nat)) (h : Int) {j : Nat} (hj : j ≤ m) (hf : oAt owner j = none) :
    ∃ K, SetTable.layClean.free m owner (SetTable.turns m) (SetTable.bits h % (m + 1)) (SetTable.bits h) = some (way m h K) ∧ oAt owner (way m h K) = none ∧ ∀ k, k < K → oAt owner (way m h k) ≠ none := by
  obtain ⟨n, hn, e⟩ := hm.run h hj
  have hw : way m h (off m (SetTable.bits h % (m + 1)) (SetTable.bits h) n) = j := by
    unfold way
    rw [nth_off, itL_run]
    exact e
  obtain ⟨K, k1, k2, k3⟩ := st_least (p := fun k => oAt owner (way m h k) = none) (off m (SetTable.bits h % (m + 1)) (SetTable.bits h) n) (by rw [hw]; exact hf)
  refine ⟨K, free_spec m owner _ n _ _ K (by unfold SetTable.turns; omega) k1 (fun k hk => ?_) ?_, k2, k3⟩
  · cases z : oAt owner (nth m (runAt m (SetTable.bits h % (m + 1)) (SetTable.bits h)) k).j with
    | none => exact absurd z (k3 k hk)
    | some _ => rfl
  · rw [show oAt owner (nth m (runAt m (SetTable.bits h % (m + 1)) (SetTable.bits h)) K).j = none from k2]
    rfl
theorem own_step (hm : MaskG m) {done : List Int} {owner : Array (Option Nat)} (W : L2.Own m done owner) (hl : done.length ≤ m) (h : Int) :
    ∃ j, SetTable.layClean.free m owner (SetTable.turns m) (SetTable.bits h % (m + 1)) (SetTable.bits h) = some j ∧ L2.Own m (done ++ [h]) (owner.setIfInBounds j (some done.length)) := by
  obtain ⟨ps, hps, hin⟩ := W.ps
  obtain ⟨j0, h0, hn0⟩ := st_missing ps (m + 1) (by omega)
  obtain ⟨K, e1, e2, e3⟩ := free_findG hm owner h (Nat.le_of_lt_succ h0) (Classical.byContradiction fun z => hn0 (hin j0 (Nat.le_of_lt_succ h0) z))
  have hjs : way m h K < owner.size := by
    rw [W.sz]
    exact Nat.lt_succ_of_le (way_in m h K)
  have hself := oAt_set_self (some done.length) hjs
  have mono : ∀ {i : Nat}, oAt owner i ≠ none → oAt (owner.setIfInBounds (way m h K) (some done.length)) i ≠ none := fun {i} hi => by
    by_cases c : i = way m h K
    · rw [c, hself]
      exact fun e => nomatch e
    · rw [oAt_set_ne _ c]
      exact hi
  refine ⟨way m h K, e1, ⟨by rw [Array.size_setIfInBounds]; exact W.sz, fun j k hj e => ?_, fun k hk => ?_, ⟨way m h K :: ps, by simp [hps], fun j hj e => ?_⟩⟩⟩
  · by_cases c : j = way m h K
    · rw [c, hself] at e
      cases e
      exact ⟨h, K, by simp, c.symm, fun k' hk' => mono (e3 k' hk')⟩
    · rw [oAt_set_ne _ c] at e
      obtain ⟨h', K', a1, a2, a3⟩ := W.at_ j k hj e
      exact ⟨h', K', by rw [List.getElem?_append_left (List.getElem?_eq_some_iff.mp a1).1]; exact a1, a2, fun k' hk' => mono (a3 k' hk')⟩
  · rcases Nat.lt_or_ge k done.length with c | c
    · obtain ⟨j, hj, e⟩ := W.all k c
      exact ⟨j, hj, by rw [oAt_set_ne _ (fun z => by rw [z, e2] at e; cases e)]; exact e⟩
    · have ek : k = done.length := by
        rw [List.length_append, List.length_singleton] at hk
        omega
      exact ⟨_, way_in m h K, by rw [ek]; exact hself⟩
  · by_cases c : j = way m h K
    · rw [c]; exact List.mem_cons_self
    · rw [oAt_set_ne _ c] at e
      exact List.mem_cons_of_mem _ (hin j hj e)
theorem fold_okG (hm : MaskG m) : ∀ (rest done : List Int) (owner : Array (Option Nat)), L2.Own m done owner → done.length + rest.length ≤ m →
    ∃ owner', rest.foldl (stepF m) (some (owner, done.length)) = some (owner', (done ++ rest).length) ∧ L2.Own m (done ++ rest) owner'
  | [], done, owner, W, _ => ⟨owner, by simp, by simpa using W⟩
  | h :: rest, done, owner, W, hl => by
    rw [List.length_cons] at hl
    obtain ⟨j, e, W'⟩ := own_step hm W (by omega) h
    obtain ⟨owner', f, W2⟩ := fold_okG hm rest (done ++ [h]) _ W' (by simp; omega)
    rw [List.append_assoc] at f W2
    refine ⟨owner', ?_, W2⟩
    rw [List.foldl_cons, stepF_some e]
    rw [List.length_append] at f
    exact f
theorem relaidG (t : SetTable) {hs : Array Int} {wanted M : Nat} (hw : SetTable.sizeAbove wanted - 1 = M) (hM : MaskG M) (hn : hs.size ≤ M) :
    ∃ t' order, t.relaid hs wanted = some (t', order) ∧ order.toList.Perm (List.range hs.size) ∧ TabG t' (order.toList.map fun i => hs.getD i 0) ∧ t'.mask = M ∧ t'.led = t.led := by
  obtain ⟨owner, e, W⟩ := fold_okG hM hs.toList [] _ (L2.Own.init M) (by rw [Array.length_toList]; show 0 + hs.size ≤ M; omega)
  rw [List.nil_append] at e W
  have e' : SetTable.layClean M hs = some owner := by
    rw [layClean_eq]
    have e0 : hs.toList.foldl (stepF M) (some (Array.replicate (M + 1) none, 0)) = some (owner, hs.toList.length) := e
    rw [e0]
    rfl
  have hr : t.relaid hs wanted = some (tabOf t M owner, ((liveOf M owner).map (·.2)).toArray) := by
    rw [relaid_eq, hw, e']
    rfl
  have ris := ris_live (fun j => owner.getD j none) (List.range (M + 1)) (by unfold Ris; exact List.pairwise_lt_range)
  have r1 : Ris ((liveOf M owner).map (·.1)) := ris.1
  have nd : ((liveOf M owner).map (·.1)).Nodup := List.Pairwise.imp (fun h => Nat.ne_of_lt h) r1
  have all2 : ∀ k, k < hs.size → k ∈ (liveOf M owner).map (·.2) := fun k hk => by
    obtain ⟨j, b1, b2⟩ := W.all k (by rw [Array.length_toList]; exact hk)
    exact List.mem_map.mpr ⟨(j, k), (mem_live W.sz).2 ⟨b1, b2⟩, rfl⟩
  have hlen : (liveOf M owner).length = hs.size := by
    obtain ⟨ps, p1, p2⟩ := W.ps
    have a := nat_nodup_len ((liveOf M owner).map (·.1)) ps nd fun x hx => by
      obtain ⟨⟨y, k⟩, hq, rfl⟩ := List.mem_map.mp hx
      obtain ⟨b1, b2⟩ := (mem_live W.sz).1 hq
      exact p2 y b1 (by rw [b2]; exact fun z => nomatch z)
    have b := nat_nodup_len (List.range hs.size) ((liveOf M owner).map (·.2)) List.nodup_range fun k hk => all2 k (List.mem_range.mp hk)
    rw [List.length_map, p1] at a
    rw [List.length_map, List.length_range] at b
    exact Nat.le_antisymm a b
  refine ⟨tabOf t M owner, _, hr, ?_, ⟨r1, rfl, ?_, hM, fun x hx => ?_, fun i h j h1 h2 => ?_⟩, rfl, rfl⟩
  · exact perm_range hs.size ((liveOf M owner).map (·.2)) (by rw [List.length_map]; exact hlen) all2
  · show ((liveOf M owner).map (·.1)).toArray.size = _
    simp
  · exact Nat.le_of_lt_succ (List.mem_range.mp (ris.2 x hx))
  · have h1' : (((liveOf M owner).map (·.2)).map fun i => hs.getD i 0)[i]? = some h := h1
    have h2' : ((liveOf M owner).map (·.1))[i]? = some j := h2
    rw [List.getElem?_map, List.getElem?_map] at h1'
    rw [List.getElem?_map] at h2'
    cases hq : (liveOf M owner)[i]? with
    | none => rw [hq] at h2'; cases h2'
    | some q =>
      obtain ⟨y, k⟩ := q
      rw [hq] at h1' h2'
      cases h2'
      have eh : hs.getD k 0 = h := Option.some.inj h1'
      obtain ⟨b1, b2⟩ := (mem_live W.sz).1 (List.mem_of_getElem? hq)
      obtain ⟨h0, K, a1, a2, a3⟩ := W.at_ _ k b1 b2
      have e0 : hs.getD k 0 = h0 := by
        rw [Array.getD_eq_getD_getElem?, ← Array.getElem?_toList, a1]
        rfl
      rw [← eh, e0]
      refine ⟨K, a2, fun k' hk' => ?_⟩
      show way M h0 k' ∈ (liveOf M owner).map (·.1)
      cases z : oAt owner (way M h0 k') with
      | none => exact absurd z (a3 k' hk')
      | some k2 => exact List.mem_map.mpr ⟨(way M h0 k', k2), (mem_live W.sz).2 ⟨way_in M h0 k', z⟩, rfl⟩
end
theorem size_307 : SetTable.sizeAbove (SetTable.grown 77) = 512 := by decide +kernel
theorem size_1228 : SetTable.sizeAbove (SetTable.grown 307) = 2048 := by decide +kernel
end K39
/-! KSet -/
set_option maxHeartbeats 4000000
/-! ## sets of nested tuples, of texts: adding -/
namespace K39
open PySem PySem.Spec PyProof.Rows L2
abbrev NV := NestedKey × Value
def rowsN (w : World) (L : List NV) : List (Int × Value) := L.map fun p => (p.1.hash w, p.2)
abbrev hsN (w : World) (L : List NV) : List Int := L.map fun p => p.1.hash w
structure SetC (w : World) (h : Heap) (a : Addr) (L : List NV) (es : Array (Int × Value)) (ep : Nat) (t : SetTable) : Prop where
  ob : ∃ o, h.get? a = some o ∧ o.ExactSet ∧ o.data = .set es ep t
  rows : es.toList = rowsN w L
  fits : t.fits es.size = true
  ris : Ris t.place.toList
  nd : (L.map (·.1)).Nodup
  led : w.params.followText "set-order" = true ∨ t.led = true
  few : L.length ≤ 1000
  good : ∀ p ∈ L, NestedIs h p.1 p.2
def IsRefs (L : List NV) : Prop := ∀ p ∈ L, (∃ b, p.2 = .ref b) ∧ p.1.depth ≤ 4
def IsTexts (L : List NV) : Prop := ∀ p ∈ L, ∃ x tk, p.1 = .text x ∧ p.2 = .str x tk
structure SetQ (w : World) (h : Heap) (a : Addr) (L : List NV) (es : Array (Int × Value)) (ep : Nat) (t : SetTable) : Prop where
  c : SetC w h a L es ep t
  tab : TabG t (hsN w L)
  room : L.length * 5 < t.mask * 3
  refs : IsRefs L
section
variable {P : Program} {w : World} {A : Around} {E : Value → Shared → Prop} {s : Shared} {a : Addr} {L : List NV} {es : Array (Int × Value)} {ep : Nat} {t : SetTable}
theorem SetC.size {h : Heap} (R : SetC w h a L es ep t) : es.size = L.length := by
  have q := congrArg List.length R.rows
  rw [Array.length_toList] at q
  rw [q]
  simp [rowsN]
theorem SetC.entry {h : Heap} (R : SetC w h a L es ep t) {i : Nat} {p : NV} (e : L[i]? = some p) : es[i]? = some (p.1.hash w, p.2) := by
  rw [← Array.getElem?_toList, R.rows]
  unfold rowsN
  rw [List.getElem?_map, e]
  rfl
/-! ### questions asked of a nested tuple -/
/-- whether the hash goes by value alone: an answer there is -/
theorem hashBy_any : ∀ (n : Nat) (k : NestedKey) (v : Value) (s : Shared) (Q : Bool → Shared → Prop), NestedIs s.heap k v → (∀ b, Q b s) → wpAny (model P w) A (hashByValue n v) Q E s := by
  intro n
  induction n with
  | zero =>
    intro k v s Q x h
    cases x <;> (unfold hashByValue; exact wpAny_pure (h _))
  | succ n ih =>
    intro k v s Q x h
    cases x with
    | @tup b o vs m ks hg hc hd hk =>
      unfold hashByValue
      refine wpAny_bind (wpAny_specialOf (T := "tuple") ⟨o, hg, hc⟩ F.slot_tuple_hash.lookup ?_)
      show wpAny _ _ (seqItems? (.ref b) >>= _) _ _ s
      refine wpAny_bind (wpAny_seqItems hg hd ?_)
      refine wpAny_bind ?_
      show wpAny _ _ (forIn vs _ _) _ _ s
      rw [← Array.forIn_toList]
      refine wpAny_forIn_list _ (fun rest r s' => s' = s ∧ ∃ ks, NestedAll s.heap ks rest) _ ?_ ?_ _ _ ⟨rfl, ks, hk⟩
      · rintro v rest r s' ⟨rfl, ks', hall⟩
        cases hall with
        | cons h1 h2 =>
          refine wpAny_bind (ih _ _ _ _ h1 fun b => ?_)
          cases b
          · simp only [Bool.not_false, if_true]
            refine wpAny_pure ?_
            dsimp only
            exact wpAny_pure (h _)
          · simp only [Bool.not_true, Bool.false_eq_true, if_false]
            exact wpAny_pure ⟨rfl, _, h2⟩
      · rintro ⟨r1, r2⟩ s' ⟨rfl, _⟩
        cases r1 with
        | none => exact wpAny_pure (h _)
        | some b => exact wpAny_pure (h _)
    | _ => unfold hashByValue; exact wpAny_pure (h _)
/-- of no class statement's class -/
theorem ofAClass_no : ∀ (n : Nat) (k : NestedKey) (v : Value) (s : Shared) (Q : Bool → Shared → Prop), NestedIs s.heap k v → k.depth ≤ n → Q false s → wpAny (model P w) A (ofAClassStatement n v) Q E s := by
  intro n
  induction n with
  | zero =>
    intro k v s Q x hn h
    cases x with
    | tup _ _ _ _ => simp only [NestedKey.depth] at hn; omega
    | _ => unfold ofAClassStatement; exact wpAny_pure h
  | succ n ih =>
    intro k v s Q x hn h
    cases x with
    | @tup b o vs m ks hg hc hd hk =>
      simp only [NestedKey.depth] at hn
      have hT : s.TypeIs (.ref b) "tuple" := ⟨o, hg, hc⟩
      unfold ofAClassStatement
      refine wpAny_bind (wpAny_typeOf hT ?_)
      dsimp only
      have e : (("tuple" : String) == "tuple") = true := by decide
      simp only [e, if_true, Bool.not_true, Bool.false_eq_true, if_false]
      try refine wpAny_bind (wpAny_pure ?_)
      try simp only [Bool.not_true, Bool.false_eq_true, if_false]
      show wpAny _ _ (seqItems? (.ref b) >>= _) _ _ s
      refine wpAny_bind (wpAny_seqItems hg hd ?_)
      dsimp only
      refine wpAny_bind ?_
      show wpAny _ _ (forIn vs _ _) _ _ s
      rw [← Array.forIn_toList]
      refine wpAny_forIn_list _ (fun rest r s' => r.1 = none ∧ s' = s ∧ ∃ ks, NestedAll s.heap ks rest ∧ NestedKey.depthAll ks ≤ n) _ ?_ ?_ _ _ ⟨rfl, rfl, ks, hk, by omega⟩
      · rintro v rest r s' ⟨hr, rfl, ks', hall, hdp⟩
        cases hall with
        | cons h1 h2 =>
          simp only [NestedKey.depthAll] at hdp
          refine wpAny_bind (ih _ _ _ _ h1 (by omega) ?_)
          simp only [Bool.false_eq_true, if_false]
          exact wpAny_pure ⟨rfl, rfl, _, h2, by omega⟩
      · rintro ⟨r1, r2⟩ s' ⟨hr, rfl, _⟩
        simp only at hr
        subst hr
        exact wpAny_pure h
    | _ => unfold ofAClassStatement; exact wpAny_pure h
/-- a search among nested tuples shows nothing -/
theorem seen_no {k : NestedKey} {b : Addr} {Q : Bool → Shared → Prop} (hk : NestedIs s.heap k (.ref b)) (hn : k.depth ≤ 8) {ys : List Value} (hy : ∀ y ∈ ys, ∃ k' c, y = Value.ref c ∧ NestedIs s.heap k' (.ref c) ∧ k'.depth ≤ 8) (h : Q false s) :
    wpAny (model P w) A (searchCouldBeSeen (.ref b) ys) Q E s := by
  unfold searchCouldBeSeen
  refine wpAny_bind ?_
  refine wpAny_forIn_list _ (fun rest r s' => r.1 = none ∧ s' = s ∧ ∀ y ∈ rest, ∃ k' c, y = Value.ref c ∧ NestedIs s.heap k' (.ref c) ∧ k'.depth ≤ 8) _ ?_ ?_ _ _ ⟨rfl, rfl, hy⟩
  · rintro v rest r s' ⟨hr, rfl, hall⟩
    obtain ⟨k', c, rfl, hc, hd⟩ := hall v List.mem_cons_self
    have rest' : ∀ y ∈ rest, ∃ k' c, y = Value.ref c ∧ NestedIs s'.heap k' (.ref c) ∧ k'.depth ≤ 8 := fun u hu' => hall u (List.mem_cons_of_mem _ hu')
    dsimp only
    by_cases hv : (b == c || (carriedByValue (.ref b) && carriedByValue (.ref c))) = true
    · exact wp_if_pos hv (wpAny_pure ⟨rfl, rfl, rest'⟩)
    · refine wp_if_neg hv ?_
      refine wpAny_bind (quiet_key k _ 8 s' hk hn A E _ ?_)
      simp only [Bool.not_true, Bool.false_eq_true, if_false]
      refine wpAny_bind (quiet_key k' _ 8 s' hc hd A E _ ?_)
      simp only [Bool.not_true, Bool.false_eq_true, if_false]
      refine wpAny_bind (ofAClass_no 8 k _ s' _ hk hn ?_)
      simp only [Bool.false_eq_true, if_false]
      refine wpAny_bind (ofAClass_no 8 k' _ s' _ hc hd ?_)
      simp only [Bool.false_eq_true, if_false]
      exact wpAny_pure ⟨rfl, rfl, rest'⟩
  · rintro ⟨r1, r2⟩ s' ⟨hr, rfl, _⟩
    simp only at hr
    subst hr
    exact wpAny_pure h
theorem eqN {x y : NestedKey} {b c : Addr} {Q : Bool → Shared → Prop} (hu : A.units + 8 < cLine) (hx : NestedIs s.heap x (.ref b)) (hy : NestedIs s.heap y (.ref c)) (dx : x.depth ≤ 8) (dy : y.depth ≤ 8) (h : Q (decide (x = y)) s) :
    wpAny (model P w) A (eqBool (.ref b) (.ref c)) Q E s := (nestedKind P w).eqBool (x := x) (y := y) hu ⟨hx, dx⟩ ⟨hy, dy⟩ h
/-! ### the search -/
abbrev p0 (m : Nat) (h : Int) : SetTable.Probe := runAt m (SetTable.bits h % (m + 1)) (SetTable.bits h)
theorem dummy_nth (m : Nat) : ∀ (n : Nat) (p : SetTable.Probe), p.dummy = none → (nth m p n).dummy = none
  | 0, _, h => h
  | n + 1, p, h => dummy_nth m n (adv m p) (by unfold adv; split <;> exact h)
theorem gaveNo (T : TabG t (hsN w L)) : ¬ t.gaveWay = true := by
  unfold SetTable.gaveWay
  rw [T.mok.odd]
  decide
theorem search_n (R : SetQ w s.heap a L es ep t) {b : Addr} {k : NestedKey} (hx : NestedIs s.heap k (.ref b)) (hdk : k.depth ≤ 4) (hu : A.units + 8 < cLine) {K : Nat} (hKf : K < 10 * SetTable.turns t.mask)
    (hK : way t.mask (k.hash w) K ∉ t.place.toList) (hKb : ∀ c, c < K → way t.mask (k.hash w) c ∈ t.place.toList) {Q : SetFound → Shared → Prop}
    (hin : k ∈ L.map (·.1) → Q (.there none) s) (hout : k ∉ L.map (·.1) → Q (.free (way t.mask (k.hash w) K) false) s) :
    ∀ (f c : Nat) (stand : Option SetTable.Probe), stand.getD (t.probeStart (k.hash w)) = nth t.mask (p0 t.mask (k.hash w)) c → c ≤ K → K - c < f →
      (∀ (i : Nat) p, L[i]? = some p → p.1 = k → ∃ c', c ≤ c' ∧ c' < K ∧ t.place.toList[i]? = some (way t.mask (k.hash w) c')) →
      wpAny (model P w) A (setSearchFrom a (.ref b) (k.hash w) true f stand) Q E s
  | 0, c, stand, _, _, hf, _ => absurd hf (Nat.not_lt_zero _)
  | f + 1, c, stand, hst, hc, hf, hre => by
    obtain ⟨o, ho, hex, hd⟩ := R.c.ob
    have sh : ∀ q, nth t.mask (nth t.mask (p0 t.mask (k.hash w)) c) q = nth t.mask (p0 t.mask (k.hash w)) (c + q) := fun q => (nth_add t.mask c _ q).symm
    have e1 : ∀ q, (nth t.mask (nth t.mask (p0 t.mask (k.hash w)) c) q).j = way t.mask (k.hash w) (c + q) := fun q => congrArg SetTable.Probe.j (sh q)
    have hcK : c + (K - c) = K := by omega
    have hashAt : ∀ (i : Nat) p, L[i]? = some p → (es[i]?.map (·.1)).getD 0 = p.1.hash w := fun i p hp => by
      rw [R.c.entry hp]; rfl
    rw [setSearchFrom_succ]
    refine wpAny_bind (wpAny_setState_of ho hd R.c.fits ?_)
    dsimp only
    refine wp_if_neg (gaveNo R.tab) ?_
    try refine wpAny_bind (wpAny_pure ?_)
    rcases go_spec t R.tab.ris R.tab.dm (fun i => (es[i]?.map (·.1)).getD 0) (k.hash w) (10 * SetTable.turns t.mask) (K - c) (nth t.mask (p0 t.mask (k.hash w)) c) (dummy_nth t.mask c _ rfl) (by omega)
      (fun q hq => by rw [e1]; exact hKb (c + q) (by omega)) (by rw [e1, hcK]; exact hK) with ⟨q, i, hq, hi, hh, hno, hpr⟩ | ⟨hno, hpr⟩
    · have hpr' : t.probe (fun i => (es[i]?.map (·.1)).getD 0) (k.hash w) (stand.getD (t.probeStart (k.hash w))) = some (.candidate (way t.mask (k.hash w) (c + q)) i (nth t.mask (p0 t.mask (k.hash w)) (c + (q + 1)))) := by
        rw [hst, ← e1, ← sh]
        exact hpr
      rw [hpr']
      dsimp only
      rw [e1] at hi
      have hil : i < L.length := by
        have h1 : i < t.place.toList.length := (List.getElem?_eq_some_iff.mp hi).1
        rw [Array.length_toList, R.tab.sz] at h1
        simpa using h1
      obtain ⟨p, hp⟩ : ∃ p, L[i]? = some p := ⟨_, List.getElem?_eq_getElem hil⟩
      have hmem : p ∈ L := List.mem_of_getElem? hp
      obtain ⟨⟨pb, hpb⟩, hpd⟩ := R.refs p hmem
      have hpt := R.c.good p hmem
      have hent := R.c.entry hp
      rw [hpb] at hpt hent
      have hsl : t.slot (way t.mask (k.hash w) (c + q)) = .live i := slot_live R.tab.ris hi
      have rest : wpAny (model P w) A (searchRest a (.ref b) (k.hash w) true f es t (way t.mask (k.hash w) (c + q)) i (nth t.mask (p0 t.mask (k.hash w)) (c + (q + 1)))) Q E s := by
        unfold searchRest
        rw [hent]
        dsimp only
        refine wpAny_bind (wpAny_holding (eqN hu hpt hx (by omega) (by omega) ?_))
        refine wpAny_bind (wpAny_setState_of ho hd R.c.fits ?_)
        dsimp only
        by_cases hkk : p.1 = k
        · refine wp_if_pos (by simp [hkk]) ?_
          exact wpAny_pure (hin (List.mem_map.mpr ⟨p, hmem, hkk⟩))
        · refine wp_if_neg (by simp [hkk]) ?_
          try refine wpAny_bind (wpAny_pure ?_)
          rw [sameMem]
          dsimp only
          simp only [if_true, hsl, hent]
          refine wpAny_bind (wpAny_isSame_ref_self (wpAny_bind (wpAny_pure ?_)))
          simp only [if_true]
          refine wp_if_neg (by simp [hkk]) ?_
          refine search_n R hx hdk hu hKf hK hKb hin hout f (c + (q + 1)) _ rfl (by omega) (by omega) fun i0 p1 h0 hk0 => ?_
          obtain ⟨c', a1, a2, a3⟩ := hre i0 p1 h0 hk0
          refine ⟨c', Nat.lt_of_not_le fun z => ?_, a2, a3⟩
          have z' : c' ≤ c + q := z
          rcases Nat.eq_or_lt_of_le z' with y | y
          · rw [y] at a3
            have s0 := slot_live R.tab.ris a3
            rw [hsl] at s0
            injection s0 with s0
            rw [← s0, hp] at h0
            cases h0
            exact hkk hk0
          · exact hno (c' - c) i0 (by omega) (by rw [e1, show c + (c' - c) = c' by omega]; exact a3) (by rw [hashAt i0 p1 h0, hk0])
      by_cases hl : t.led = true
      · refine wp_if_neg (by simp [hl]) ?_
        try refine wpAny_bind (wpAny_pure ?_)
        exact rest
      · refine wp_if_pos (by simp [hl]) ?_
        refine wpAny_bind (seen_no hx (by omega) (fun y hy => ?_) ?_)
        · obtain ⟨e, he, ee⟩ := List.mem_map.mp hy
          have he1 : e ∈ es ∧ e.1 = k.hash w := by simpa using he
          have he2 : e ∈ es.toList := by simpa using he1.1
          rw [R.c.rows] at he2
          obtain ⟨p2, hp2, e2⟩ := List.mem_map.mp he2
          obtain ⟨⟨c2, hc2⟩, hd2⟩ := R.refs p2 hp2
          refine ⟨p2.1, c2, ?_, by rw [← hc2]; exact R.c.good p2 hp2, by omega⟩
          rw [← ee, ← e2]
          exact hc2
        · refine wp_if_neg (by decide) ?_
          try refine wpAny_bind (wpAny_pure ?_)
          exact rest
    · have hpr' : t.probe (fun i => (es[i]?.map (·.1)).getD 0) (k.hash w) (stand.getD (t.probeStart (k.hash w))) = some (.empty (way t.mask (k.hash w) K) none) := by
        have e2 : way t.mask (k.hash w) K = (nth t.mask (nth t.mask (p0 t.mask (k.hash w)) c) (K - c)).j := by rw [e1, hcK]
        rw [hst, e2]
        exact hpr
      rw [hpr']
      dsimp only
      refine wpAny_pure (hout fun hm => ?_)
      obtain ⟨p1, h0, hk0⟩ := List.mem_map.mp hm
      obtain ⟨i0, hi0, e0⟩ := List.getElem_of_mem h0
      have h00 : L[i0]? = some p1 := by rw [List.getElem?_eq_getElem hi0, e0]
      obtain ⟨c', a1, a2, a3⟩ := hre i0 p1 h00 hk0
      exact hno (c' - c) i0 (by omega) (by rw [e1, show c + (c' - c) = c' by omega]; exact a3) (by rw [hashAt i0 p1 h00, hk0])
theorem search_a (R : SetQ w s.heap a L es ep t) {b : Addr} {k : NestedKey} (hx : NestedIs s.heap k (.ref b)) (hdk : k.depth ≤ 4) (hu : A.units + 8 < cLine) {Q : SetFound → Shared → Prop}
    (hin : k ∈ L.map (·.1) → Q (.there none) s)
    (hout : ∀ K, k ∉ L.map (·.1) → way t.mask (k.hash w) K ∉ t.place.toList → (∀ c, c < K → way t.mask (k.hash w) c ∈ t.place.toList) → Q (.free (way t.mask (k.hash w) K) false) s) :
    wpAny (model P w) A (setSearch a (.ref b) (k.hash w) true) Q E s := by
  have hroom := R.room
  obtain ⟨K, hKf, hK, hKb⟩ := R.tab.first (by rw [List.length_map]; omega) (k.hash w)
  have hbig : K < 100000 := by
    have h1 := R.tab.mok.le
    unfold SetTable.turns at hKf
    omega
  unfold setSearch
  refine search_n R hx hdk hu hKf hK hKb hin (fun hn => hout K hn hK hKb) 100000 0 none rfl (Nat.zero_le _) (by omega) fun i p hp hk => ?_
  have hi : (hsN w L)[i]? = some (k.hash w) := by rw [List.getElem?_map, hp, ← hk]; rfl
  have hil : i < t.place.toList.length := by
    rw [Array.length_toList, R.tab.sz]
    exact (List.getElem?_eq_some_iff.mp hi).1
  have hj := List.getElem?_eq_getElem hil
  obtain ⟨c, hc, e⟩ := R.tab.before hK hi hj
  exact ⟨c, Nat.zero_le _, hc, by rw [hj, e]⟩
end
end K39
/-! KSetB -/
set_option maxHeartbeats 4000000
/-! ## sets of nested tuples, of texts: adding -/
namespace K39
open PySem PySem.Spec PyProof.Rows L2
section
variable {P : Program} {w : World} {A : Around} {E : Value → Shared → Prop} {s : Shared} {a : Addr} {L : List NV} {es : Array (Int × Value)} {ep : Nat} {t : SetTable}
theorem good_same {h h' : Heap} {o : Obj} (ho : h.get? a = some o) (hd : o.data = .set es ep t) (hs : Heap.SameBut a h h') {k : NestedKey} {v : Value} (x : NestedIs h k v) : NestedIs h' k v :=
  NestedIs.at (fun b ob vs n hb hc => by
    refine (hs.2 b fun e => ?_).trans hb
    subst e
    rw [ho] at hb
    cases hb
    rw [hd] at hc
    cases hc) k v x
theorem rowsN_ins (L : List NV) (p : Nat) (x : NV) : rowsN w (L.take p ++ x :: L.drop p) = (rowsN w L).take p ++ (x.1.hash w, x.2) :: (rowsN w L).drop p := by
  unfold rowsN
  rw [List.map_append, List.map_cons, List.map_take, List.map_drop]
theorem hsN_ins (L : List NV) (p : Nat) (x : NV) : hsN w (L.take p ++ x :: L.drop p) = (hsN w L).take p ++ x.1.hash w :: (hsN w L).drop p := by
  unfold hsN
  rw [List.map_append, List.map_cons, List.map_take, List.map_drop]
theorem pick_perm' {α : Type} (L : List α) (order : List Nat) (hp : order.Perm (List.range L.length)) : (order.filterMap fun i => L[i]?).Perm L := by
  refine (hp.filterMap _).trans ?_
  have key : ∀ n, n ≤ L.length → (List.range n).filterMap (fun i => L[i]?) = L.take n := by
    intro n
    induction n with
    | zero => intro _; rfl
    | succ n ih =>
      intro hn
      rw [List.range_succ, List.filterMap_append, ih (Nat.le_of_lt hn), List.take_succ, List.getElem?_eq_getElem hn]
      simp [List.filterMap_cons, List.getElem?_eq_getElem hn]
  rw [key L.length (Nat.le_refl _), List.take_length]
/-- the rows in the table's order -/
theorem pick_rows {h : Heap} (rows : es.toList = rowsN w L) (order : Array Nat) (hp : order.toList.Perm (List.range L.length)) :
    ∃ L2 : List NV, (order.filterMap (es[·]?)).toList = rowsN w L2 ∧ L2.Perm L ∧ hsN w L2 = order.toList.map fun i => (es.map (·.1)).getD i 0 := by
  have ent : ∀ i (x : NV), L[i]? = some x → es[i]? = some (x.1.hash w, x.2) := fun i x e => by
    rw [← Array.getElem?_toList, rows]
    unfold rowsN
    rw [List.getElem?_map, e]
    rfl
  refine ⟨order.toList.filterMap fun i => L[i]?, ?_, pick_perm' L _ hp, ?_⟩
  · rw [Array.toList_filterMap]
    have key : ∀ l : List Nat, (∀ i ∈ l, i < L.length) → l.filterMap (fun i => es[i]?) = rowsN w (l.filterMap fun i => L[i]?) := by
      intro l
      induction l with
      | nil => intro _; rfl
      | cons i l ih =>
        intro hl
        have hi := List.getElem?_eq_getElem (hl i List.mem_cons_self)
        rw [List.filterMap_cons_some (ent i _ hi), List.filterMap_cons_some hi, ih fun j hj => hl j (List.mem_cons_of_mem _ hj)]
        rfl
    exact key _ fun i hi => List.mem_range.mp (hp.mem_iff.mp hi)
  · have key : ∀ l : List Nat, (∀ i ∈ l, i < L.length) → hsN w (l.filterMap fun i => L[i]?) = l.map fun i => (es.map (·.1)).getD i 0 := by
      intro l
      induction l with
      | nil => intro _; rfl
      | cons i l ih =>
        intro hl
        have hi := List.getElem?_eq_getElem (hl i List.mem_cons_self)
        have e5 : (es.map (·.1))[i]? = some ((L[i]'(hl i List.mem_cons_self)).1.hash w) := by rw [Array.getElem?_map, ent i _ hi]; rfl
        have e4 : (es.map (·.1)).getD i 0 = (L[i]'(hl i List.mem_cons_self)).1.hash w := by simp [Array.getD_eq_getD_getElem?, e5]
        rw [List.filterMap_cons_some hi, List.map_cons, e4, ← ih fun j hj => hl j (List.mem_cons_of_mem _ hj)]
        rfl
    exact key _ fun i hi => List.mem_range.mp (hp.mem_iff.mp hi)
theorem fits_of_tab {hs : List Int} (T : TabG t hs) {n : Nat} (hn : n = hs.length) (hm : n ≤ t.mask) : t.fits n = true := by
  have h1 := T.sz
  unfold SetTable.fits SetTable.fill
  rw [T.dm, Bool.and_eq_true, beq_iff_eq, decide_eq_true_eq]
  show t.place.size = n ∧ t.place.size + 0 ≤ t.mask
  omega
theorem relay_n {o : Obj} (ho : s.heap.get? a = some o) (hex : o.ExactSet) (hd : o.data = .set es ep t) (hrows : es.toList = rowsN w L) (T : TabG t (hsN w L)) (hm : L.length ≤ t.mask) (nd : (L.map (·.1)).Nodup) (refs : IsRefs L) (good : ∀ p ∈ L, NestedIs s.heap p.1 p.2)
    (ld : w.params.followText "set-order" = true ∨ t.led = true) (few : L.length ≤ 1000) {wanted M : Nat} (hw : SetTable.sizeAbove wanted - 1 = M) (hM : MaskG M) (hw2 : SetTable.sizeAbove wanted ≤ 2048) (hn : L.length * 5 < M * 3) {Q : Unit → Shared → Prop}
    (hQ : ∀ h' L' es' ep' t', Heap.SameBut a s.heap h' → SetQ w h' a L' es' ep' t' → t'.mask = M → L'.Perm L → Q () { s with heap := h' }) : wpAny (model P w) A (setRelay a wanted) Q E s := by
  have hsl : es.size = L.length := by
    have q := congrArg List.length hrows
    rw [Array.length_toList] at q
    rw [q]
    simp [rowsN]
  have hfits : t.fits es.size = true := fits_of_tab T (by rw [hsl]; simp) (by rw [hsl]; exact hm)
  obtain ⟨t', order, e, hp, T', em, el⟩ := relaidG t (hs := es.map (·.1)) (wanted := wanted) hw hM (by rw [Array.size_map, hsl]; omega)
  rw [Array.size_map, hsl] at hp
  obtain ⟨L2, r1, r2, r3⟩ := pick_rows (h := s.heap) hrows order hp
  rw [← r3] at T'
  have hs2 : (order.filterMap (es[·]?)).size = L.length := by
    rw [← Array.length_toList, r1]
    unfold rowsN
    rw [List.length_map, r2.length_eq]
  rw [setRelay_eq]
  refine wpAny_bind (wpAny_setState_of ho hd hfits ?_)
  dsimp only
  refine wp_if_neg (by rw [sizeLine_eq]; omega) ?_
  try refine wpAny_bind (wpAny_pure ?_)
  rw [e]
  dsimp only
  refine wpAny_bind ?_
  refine wp_if_neg (by rw [hs2, hsl]; simp) ?_
  try refine wpAny_bind (wpAny_pure ?_)
  refine wpAny_pure ?_
  dsimp only
  refine wpAny_storeSet_of ho hd ?_ (by rw [hs2, sizeLine_eq]; omega)
  have sb : Heap.SameBut a s.heap (s.heap.update a (Obj.putSet (order.filterMap (es[·]?)) t')) := Heap.SameBut.update ..
  have l2 := r2.length_eq
  refine hQ _ L2 (order.filterMap (es[·]?)) (ep + 1) t' sb ⟨⟨⟨_, store_at ho hd, ⟨hex.1, hex.2.1, hex.2.2⟩, rfl⟩, r1, ?_, T'.ris, (r2.map (·.1)).nodup_iff.mpr nd, by rw [el]; exact ld, by rw [l2]; exact few, fun p hpm => good_same ho hd sb (good p (r2.mem_iff.mp hpm))⟩, T', by rw [l2, em]; exact hn, fun p hpm => refs p (r2.mem_iff.mp hpm)⟩ em r2
  exact fits_of_tab T' (by rw [hs2]; simp [l2]) (by rw [hs2, em]; omega)
theorem grown_cases {m n : Nat} (hm : m = 7 ∨ m = 31 ∨ m = 127 ∨ m = 511 ∨ m = 2047) (h1 : n * 5 < m * 3) (h2 : (n + 1) * 5 ≥ m * 3) (h3 : n + 1 ≤ 1000) : (n = 4 ∧ m = 7) ∨ (n = 18 ∧ m = 31) ∨ (n = 76 ∧ m = 127) ∨ (n = 306 ∧ m = 511) := by
  rcases hm with e | e | e | e | e <;> subst e <;> omega
/-- ADDING a nested tuple -/
theorem add_n (R : SetQ w s.heap a L es ep t) (hmk : t.mask = 7 ∨ t.mask = 31 ∨ t.mask = 127 ∨ t.mask = 511 ∨ t.mask = 2047) {b : Addr} {k : NestedKey} (hx : NestedIs s.heap k (.ref b)) (hdk : k.depth ≤ 4) (hu : A.units + 8 < cLine) (hfew : L.length + 1 ≤ 1000) {Q : Bool → Shared → Prop}
    (hQ : ∀ z h' L' es' ep' t', Heap.SameBut a s.heap h' → SetQ w h' a L' es' ep' t' → (t'.mask = 7 ∨ t'.mask = 31 ∨ t'.mask = 127 ∨ t'.mask = 511 ∨ t'.mask = 2047) → (k ∈ L.map (·.1) → L' = L) → (k ∉ L.map (·.1) → L'.Perm ((k, .ref b) :: L)) → Q z { s with heap := h' }) :
    wpAny (model P w) A (setAddHashed a (.ref b) (k.hash w)) Q E s := by
  obtain ⟨o, ho, hex, hd⟩ := R.c.ob
  have hsl := R.c.size
  have hroom := R.room
  unfold setAddHashed
  refine wpAny_holding ?_
  rw [show (100000 : Nat) = 99999 + 1 from rfl, setAddHashedIn_succ]
  refine wpAny_bind (wpAny_setState_of ho hd R.c.fits ?_)
  dsimp only
  refine wp_if_neg (by simp [byScan, Value.scannable]) ?_
  try refine wpAny_bind (wpAny_pure ?_)
  refine wpAny_bind (search_a R hx hdk hu (fun hm => ?_) fun K hm hK hb => ?_)
  · dsimp only
    exact wpAny_pure (hQ false s.heap L es ep t (Heap.SameBut.refl a s.heap) R hmk (fun _ => rfl) fun z => absurd hm z)
  · dsimp only
    refine wpAny_bind (wpAny_setState_of ho hd R.c.fits ?_)
    dsimp only
    obtain ⟨p, hp⟩ : ∃ p, SetTable.below t.place (way t.mask (k.hash w) K) = p := ⟨_, rfl⟩
    obtain ⟨hpl, T1⟩ := R.tab.put hK hb hp
    have epair : t.put (way t.mask (k.hash w) K) = ((t.put (way t.mask (k.hash w) K)).1, p) := by rw [← hp]; rfl
    have m1 : (t.put (way t.mask (k.hash w) K)).1.mask = t.mask := rfl
    have l1 : (t.put (way t.mask (k.hash w) K)).1.led = t.led := rfl
    rw [epair]
    generalize (t.put (way t.mask (k.hash w) K)).1 = t1 at T1 m1 l1
    dsimp only
    rw [← hsN_ins L p (k, .ref b)] at T1
    have hin : (SetTable.insertAt es p (k.hash w, Value.ref b)).toList = rowsN w (L.take p ++ (k, .ref b) :: L.drop p) := by
      rw [SetTable.toList_insertAt, rowsN_ins, R.c.rows]
    have pm := put_perm L p ((k, .ref b) : NV)
    have hlen : (L.take p ++ (k, .ref b) :: L.drop p).length = L.length + 1 := pm.length_eq
    have nd1 : ((L.take p ++ (k, .ref b) :: L.drop p).map (·.1)).Nodup := by
      refine (pm.map (·.1)).nodup_iff.mpr ?_
      rw [List.map_cons]
      exact List.nodup_cons.mpr ⟨hm, R.c.nd⟩
    generalize L.take p ++ (k, .ref b) :: L.drop p = L1 at pm hlen T1 nd1 hin
    have hes : (SetTable.insertAt es p (k.hash w, Value.ref b)).size = L.length + 1 := by
      rw [← Array.length_toList, hin]
      unfold rowsN
      rw [List.length_map, hlen]
    generalize SetTable.insertAt es p (k.hash w, Value.ref b) = es1 at hin hes ⊢
    have refs1 : IsRefs L1 := fun p hp => by
      rcases List.mem_cons.mp (pm.mem_iff.mp hp) with e | hp
      · rw [e]; exact ⟨⟨b, rfl⟩, hdk⟩
      · exact R.refs p hp
    -- whatever is known of the hash
    have go : ∀ t2 : SetTable, TabG t2 (hsN w L1) → t2.mask = t.mask → t2.led = t.led → wpAny (model P w) A (do
          storeSet a es1 t2
          if (!false && t2.tooFull) = true then setRelay a (SetTable.grown (es.size + 1))
          return true) Q E s := fun t2 T2 m2 l2 => by
      have ld2 : w.params.followText "set-order" = true ∨ t2.led = true := by rw [l2]; exact R.c.led
      refine wpAny_bind (wpAny_storeSet_of ho hd ?_ (by rw [hes, sizeLine_eq]; omega))
      have sb : Heap.SameBut a s.heap (s.heap.update a (Obj.putSet es1 t2)) := Heap.SameBut.update ..
      have ho1 := store_at (es' := es1) (t' := t2) ho hd
      generalize s.heap.update a (Obj.putSet es1 t2) = h1 at sb ho1 ⊢
      have good1 : ∀ p ∈ L1, NestedIs h1 p.1 p.2 := fun p hp => by
        rcases List.mem_cons.mp (pm.mem_iff.mp hp) with e | hp
        · rw [e]; exact good_same ho hd sb hx
        · exact good_same ho hd sb (R.c.good p hp)
      have hfill : t2.fill = L.length + 1 := by
        unfold SetTable.fill
        rw [T2.dm, T2.sz, List.length_map, hlen]
        rfl
      have hle : L1.length ≤ t2.mask := by
        rw [hlen, m2]
        have := R.tab.mok.pos
        rcases hmk with e | e | e | e | e <;> omega
      by_cases hf : t2.tooFull = true
      · first
          | (refine wpAny_bind ?_; refine wp_if_pos (by simp [hf]) ?_)
          | (refine wp_if_pos (by simp [hf]) ?_; refine wpAny_bind ?_)
        have hfull : (L.length + 1) * 5 ≥ t.mask * 3 := by
          have h := hf
          unfold SetTable.tooFull at h
          rw [decide_eq_true_eq, hfill, m2] at h
          exact h
        rw [hsl]
        have fin : ∀ M, SetTable.sizeAbove (SetTable.grown (L.length + 1)) - 1 = M → MaskG M → (M = 7 ∨ M = 31 ∨ M = 127 ∨ M = 511 ∨ M = 2047) → SetTable.sizeAbove (SetTable.grown (L.length + 1)) ≤ 2048 → (L.length + 1) * 5 < M * 3 →
            wpAny (model P w) A (setRelay a (SetTable.grown (L.length + 1))) (fun _ s' => wpAny (model P w) A (pure true) Q E s') E { s with heap := h1 } := fun M h1' h2' hmm h3' h4' => by
          refine relay_n (s := { s with heap := h1 }) ho1 ⟨hex.1, hex.2.1, hex.2.2⟩ rfl hin T2 hle nd1 refs1 good1 ld2 (by rw [hlen]; exact hfew) h1' h2' h3' (by rw [hlen]; exact h4') ?_
          intro h2 L2 es2 ep2 t3 sb2 R2 hm3 pm2
          exact wpAny_pure (hQ true h2 L2 es2 ep2 t3 (sb.trans sb2) R2 (by rw [hm3]; exact hmm) (fun z => absurd z hm) fun _ => pm2.trans pm)
        rcases grown_cases hmk hroom hfull hfew with ⟨e2, _⟩ | ⟨e2, _⟩ | ⟨e2, _⟩ | ⟨e2, _⟩
        · exact fin 31 (by rw [e2, size_20]) mask31 (by simp) (by rw [e2, size_20]; decide) (by omega)
        · exact fin 127 (by rw [e2, size_76]) mask127 (by simp) (by rw [e2, size_76]; decide) (by omega)
        · exact fin 511 (by rw [e2, size_307]) mask511 (by simp) (by rw [e2, size_307]; decide) (by omega)
        · exact fin 2047 (by rw [e2, size_1228]) mask2047 (by simp) (by rw [e2, size_1228]; decide) (by omega)
      · first
          | refine wp_if_neg (by simp [hf]) ?_
          | (refine wpAny_bind ?_; refine wp_if_neg (by simp [hf]) ?_; refine wpAny_pure ?_)
        have hnf : (L.length + 1) * 5 < t.mask * 3 := by
          have h := hf
          unfold SetTable.tooFull at h
          rw [decide_eq_true_eq, hfill, m2] at h
          omega
        refine wpAny_pure (hQ true h1 L1 es1 (ep + 1) t2 sb ⟨⟨⟨_, ho1, ⟨hex.1, hex.2.1, hex.2.2⟩, rfl⟩, hin, fits_of_tab T2 (by rw [hes]; simp [hlen]) (by rw [hes, ← hlen]; exact hle), T2.ris, nd1, ld2, by rw [hlen]; exact hfew, good1⟩, T2, by rw [hlen, m2]; exact hnf, refs1⟩ (by rw [m2]; exact hmk) (fun z => absurd z hm) fun _ => pm)
    have byv : ∀ z : Bool, wpAny (model P w) A (do
          storeSet a es1 (if z = true then t1 else { t1 with plain := false })
          if (!false && (if z = true then t1 else { t1 with plain := false }).tooFull) = true then setRelay a (SetTable.grown (es.size + 1))
          return true) Q E s := fun z => by
      cases z
      · exact go { t1 with plain := false } ⟨T1.ris, T1.dm, T1.sz, T1.mok, T1.bd, T1.reach⟩ m1 l1
      · exact go t1 T1 m1 l1
    by_cases hpl1 : t1.plain = true
    · exact wp_if_pos hpl1 (wpAny_bind (hashBy_any 8 k _ s _ hx fun z => byv z))
    · exact wp_if_neg hpl1 (wpAny_bind (wpAny_pure (byv true)))
end
end K39
/-! KSetC -/
set_option maxHeartbeats 4000000
/-! ## sets of texts: adding; set(xs) -/
namespace K39
open PySem PySem.Spec PyProof.Rows L2
section
variable {P : Program} {w : World} {A : Around} {E : Value → Shared → Prop} {s : Shared} {a : Addr} {L : List NV} {es : Array (Int × Value)} {ep : Nat} {t : SetTable}
theorem elems_txt (hL : IsTexts L) (rows : es.toList = rowsN w L) : ElemsOf (strKind P w) es.toList := fun e he => by
  rw [rows] at he
  obtain ⟨p, hp, rfl⟩ := List.mem_map.mp he
  obtain ⟨x, tk, h1, h2⟩ := hL p hp
  refine ⟨⟨x, ?_, ?_⟩, ?_⟩
  · show (strKind P w).is x p.2 = true
    rw [h2]; exact strKind_is P w x tk
  · show p.1.hash w = (strKind P w).hash x
    rw [h1]; rfl
  · show p.2.scannable = true
    rw [h2]; rfl
/-- a list of the same rows in another order -/
theorem rows_perm {es1 : Array (Int × Value)} (pm : es1.toList.Perm (rowsN w L)) : ∃ L1 : List NV, es1.toList = rowsN w L1 ∧ L1.Perm L := by
  have key : ∀ (l l2 : List (Int × Value)), l.Perm l2 → ∀ L : List NV, l2 = rowsN w L → ∃ L1 : List NV, l = rowsN w L1 ∧ L1.Perm L := by
    intro l l2 pm
    induction pm with
    | nil =>
      intro L e
      cases L with
      | nil => exact ⟨[], rfl, .refl _⟩
      | cons p L => cases e
    | cons x p ih =>
      intro L e
      cases L with
      | nil => cases e
      | cons q L =>
        have e' : _ :: _ = (q.1.hash w, q.2) :: rowsN w L := e
        injection e' with e1 e2
        obtain ⟨L1, h1, h2⟩ := ih L e2
        exact ⟨q :: L1, by rw [h1, e1]; rfl, h2.cons q⟩
    | swap x y l =>
      intro L e
      cases L with
      | nil => cases e
      | cons q L =>
        cases L with
        | nil => injection e with e1 e2; cases e2
        | cons r L =>
          have e' : _ :: _ :: _ = (q.1.hash w, q.2) :: (r.1.hash w, r.2) :: rowsN w L := e
          injection e' with e1 e2
          injection e2 with e2 e3
          exact ⟨r :: q :: L, by rw [e1, e2, e3]; rfl, .swap _ _ _⟩
    | trans p1 p2 ih1 ih2 =>
      intro L e
      obtain ⟨L2, h1, h2⟩ := ih2 L e
      obtain ⟨L1, h3, h4⟩ := ih1 L2 h1
      exact ⟨L1, h3, h4.trans h2⟩
  exact key _ _ pm L rfl
structure SetX (w : World) (h : Heap) (a : Addr) (L : List NV) : Prop where
  ex : ∃ es ep t, SetC w h a L es ep t
  txt : IsTexts L
theorem tail_txt {g : Bool → Sem Unit} (hg : ∀ (b : Bool) (s₁ : Shared) (Q' : Unit → Shared → Prop), Q' () s₁ → wpAny (model P w) A (g b) Q' E s₁)
    {o : Obj} (ho : s.heap.get? a = some o) (hex : o.ExactSet) (hd : o.data = .set es ep t) {es1 : Array (Int × Value)} {t2 : SetTable} {L1 : List NV} (rows : es1.toList = rowsN w L1) (nd1 : (L1.map (·.1)).Nodup) (few : L1.length ≤ 1000) (txt : IsTexts L1) (good : ∀ p ∈ L1, NestedIs s.heap p.1 p.2)
    (hf2 : t2.fits es1.size = true) (hr : Ris t2.place.toList) (hl : w.params.followText "set-order" = true ∨ t2.led = true) {wasDummy : Bool} {R : Option Bool → Shared → Prop}
    (hR : ∀ h' L', Heap.SameBut a s.heap h' → SetX w h' a L' → L'.Perm L1 → R (some true) { s with heap := h' }) :
    wpAny (model P w) A (do
        storeSet a es1 t2
        if (!wasDummy && t2.tooFull) = true then do
            g (relayAll t2 es1 (SetTable.grown es1.size)).2.2
            storeSet a (relayAll t2 es1 (SetTable.grown es1.size)).1 (relayAll t2 es1 (SetTable.grown es1.size)).2.1
            pure (some true)
          else pure (some true)) R E s := by
  have hsz1 : es1.size = L1.length := by
    rw [← Array.length_toList, rows]
    simp [rowsN]
  have hb1 : es1.size ≤ sizeLine := by rw [hsz1, sizeLine_eq]; omega
  refine wpAny_bind (wpAny_storeSet_of ho hd ?_ hb1)
  have ho1 := store_at (es' := es1) (t' := t2) ho hd
  have sb1 := Heap.SameBut.update s.heap a (Obj.putSet es1 t2)
  split
  · have pm := relayAll_perm t2 es1 (SetTable.grown es1.size)
    have hf3 := relayAll_fits t2 es1 (SetTable.grown es1.size)
    have hr3 := relayAll_ris t2 es1 (SetTable.grown es1.size)
    have hl3 := relayAll_led t2 es1 (SetTable.grown es1.size)
    generalize relayAll t2 es1 (SetTable.grown es1.size) = Z at pm hf3 hr3 hl3 ⊢
    obtain ⟨es2, t3, gave⟩ := Z
    dsimp only at pm hf3 hr3 hl3 ⊢
    rw [rows] at pm
    obtain ⟨L2, r2, p2⟩ := rows_perm pm
    have hsz : es2.size = L1.length := by
      rw [← Array.length_toList, r2]
      simp [rowsN, p2.length_eq]
    refine wpAny_bind (hg _ _ _ ?_)
    refine wpAny_bind (wpAny_storeSet_of ho1 rfl ?_ (by rw [hsz, sizeLine_eq]; omega))
    have ho2 := store_at (es' := es2) (t' := t3) ho1 rfl
    have sb2 := sb1.trans (Heap.SameBut.update _ a (Obj.putSet es2 t3))
    refine wpAny_pure (hR _ L2 sb2 ⟨⟨es2, _, t3, ⟨_, ho2, ⟨hex.1, hex.2.1, hex.2.2⟩, rfl⟩, r2, hf3, hr3, (p2.map (·.1)).nodup_iff.mpr nd1, hl.imp id fun z => by rw [hl3]; exact z, by rw [p2.length_eq]; exact few, fun p hp => good_same ho hd sb2 (good p (p2.mem_iff.mp hp))⟩, fun p hp => txt p (p2.mem_iff.mp hp)⟩ p2)
  · exact wpAny_pure (hR _ L1 sb1 ⟨⟨es1, _, t2, ⟨_, ho1, ⟨hex.1, hex.2.1, hex.2.2⟩, rfl⟩, rows, hf2, hr, nd1, hl, few, fun p hp => good_same ho hd sb1 (good p hp)⟩, txt⟩ (.refl _))
/-- ADDING a text -/
theorem add_txt (R : SetX w s.heap a L) {x : Str} {tk : Tok} (hfew : L.length + 1 ≤ 1000) {Q : Bool → Shared → Prop}
    (hQ : ∀ z h' L', Heap.SameBut a s.heap h' → SetX w h' a L' → (NestedKey.text x ∈ L.map (·.1) → L' = L) → (NestedKey.text x ∉ L.map (·.1) → L'.Perm ((NestedKey.text x, Value.str x tk) :: L)) → Q z { s with heap := h' }) :
    wpAny (model P w) A (setAddHashed a (.str x tk) ((NestedKey.text x).hash w)) Q E s := by
  obtain ⟨⟨es, ep, t, C⟩, txt⟩ := R
  obtain ⟨o, ho, hex, hd⟩ := id C.ob
  have hel : ElemsOf (strKind P w) es.toList := elems_txt txt C.rows
  have hkey : (strKind P w).is x (.str x tk) = true := strKind_is P w x tk
  have hsz := C.size
  have hb : es.size < scanBound := by unfold scanBound; omega
  have ehash : (NestedKey.text x).hash w = (strKind P w).hash x := rfl
  rw [ehash]
  -- who has the text
  have mem : NestedKey.text x ∈ L.map (·.1) ↔ ∃ e ∈ es.toList, (strKind P w).is x e.2 = true := by
    rw [C.rows]
    constructor
    · intro h
      obtain ⟨p, hp, e⟩ := List.mem_map.mp h
      obtain ⟨y, tk', h1, h2⟩ := txt p hp
      rw [e] at h1
      cases h1
      refine ⟨_, List.mem_map.mpr ⟨p, hp, rfl⟩, ?_⟩
      show (strKind P w).is x p.2 = true
      rw [h2]; exact strKind_is P w x tk'
    · rintro ⟨e, he, hq⟩
      obtain ⟨p, hp, rfl⟩ := List.mem_map.mp he
      obtain ⟨y, tk', h1, h2⟩ := txt p hp
      have hq' : (strKind P w).is x p.2 = true := hq
      rw [h2] at hq'
      have e1 := KeyKind.is_eq_decide (strKind_is P w y tk') x
      rw [hq'] at e1
      have e : x = y := of_decide_eq_true e1.symm
      exact List.mem_map.mpr ⟨p, hp, by rw [h1, e]⟩
  unfold setAddHashed setAddHashedIn
  refine wpAny_holding (wpAny_bind (wpAny_setState_of ho hd C.fits ?_))
  dsimp only
  rw [byScan_of (x := .str x tk) rfl hb hel]
  simp only [↓reduceIte]
  unfold setAddByScan
  refine wpAny_bind ?_
  refine wpAny_bind (wpAny_rule ?_)
  refine wpAny_bind (wpAny_setScan_of hkey ho hd C.fits hel ?_)
  cases hfi : List.findIdx? (fun e => (strKind P w).is x e.2) es.toList with
  | some j =>
    dsimp only
    obtain ⟨hj, pj, _⟩ := List.findIdx?_eq_some_iff_getElem.mp hfi
    have hin : NestedKey.text x ∈ L.map (·.1) := mem.mpr ⟨es.toList[j], List.getElem_mem hj, pj⟩
    exact wpAny_pure (wpAny_pure (hQ _ s.heap L (Heap.SameBut.refl a s.heap) ⟨⟨es, ep, t, C⟩, txt⟩ (fun _ => rfl) fun z => absurd hin z))
  | none =>
    dsimp only
    have hnk : NestedKey.text x ∉ L.map (·.1) := fun z => by
      obtain ⟨e, he, q⟩ := mem.mp z
      have c := List.findIdx?_eq_none_iff.mp hfi e he
      rw [q] at c
      cases c
    have hgw : ∀ (b : Bool) {s₁ : Shared} {Q' : Unit → Shared → Prop}, Q' () s₁ → wpAny (model P w) A (match b with | true => rule "set.scan.the-table-gave-way" | false => pure ()) Q' E s₁ :=
      fun b s₁ Q' q => by cases b <;> first | exact wpAny_pure q | exact wpAny_rule q
    have pm := layNew_perm t es ((strKind P w).hash x) (.str x tk)
    have hf1 := layNew_fits t es ((strKind P w).hash x) (.str x tk)
    have hr1 := layNew_ris t es ((strKind P w).hash x) (.str x tk) C.ris
    have hl1 := layNew_led t es ((strKind P w).hash x) (.str x tk)
    generalize layNew t es ((strKind P w).hash x) (.str x tk) = Z at pm hf1 hr1 hl1 ⊢
    obtain ⟨es1, t1, wasDummy, gave⟩ := Z
    dsimp only at pm hf1 hr1 hl1 ⊢
    have pc : es1.toList.Perm (rowsN w ((NestedKey.text x, Value.str x tk) :: L)) := by
      rw [Array.toList_push, C.rows] at pm
      exact pm.trans (List.perm_append_singleton _ _)
    obtain ⟨L1, r1, p1⟩ := rows_perm pc
    have txt1 : IsTexts L1 := fun p hp => by
      rcases List.mem_cons.mp (p1.mem_iff.mp hp) with z | z
      · rw [z]; exact ⟨x, tk, rfl, rfl⟩
      · exact txt p z
    have nd1 : (L1.map (·.1)).Nodup := (p1.map (·.1)).nodup_iff.mpr (List.nodup_cons.mpr ⟨hnk, C.nd⟩)
    have len1 : L1.length = L.length + 1 := p1.length_eq
    have good1 : ∀ p ∈ L1, NestedIs s.heap p.1 p.2 := fun p hp => by
      rcases List.mem_cons.mp (p1.mem_iff.mp hp) with z | z
      · rw [z]; exact .text x tk
      · exact C.good p z
    have hled : w.params.followText "set-order" = true ∨ t1.led = true := C.led.imp id fun z => by rw [hl1]; exact z
    have fin : ∀ h' L', Heap.SameBut a s.heap h' → SetX w h' a L' → L'.Perm L1 → Q true { s with heap := h' } := fun h' L' sb r p => hQ true h' L' sb r (fun z => absurd z hnk) fun _ => p.trans p1
    refine wpAny_bind (hgw _ ?_)
    split
    · refine wpAny_bind ?_
      rw [hashByValue_scannable 8 (x := .str x tk) rfl]
      refine wpAny_pure ?_
      refine tail_txt ?_ ho hex hd r1 nd1 (by rw [len1]; exact hfew) txt1 good1 ?_ ?_ ?_ ?_
      · intro b s₁ Q' q; cases b <;> first | exact wpAny_pure q | exact wpAny_rule q
      · first | (split <;> first | exact hf1 | exact SetTable.fits_plain_off hf1) | exact hf1
      · first | (split <;> exact hr1) | exact hr1
      · first | (split <;> exact hled) | exact hled
      · intro h' L' sb r p; dsimp only; exact wpAny_pure (fin h' L' sb r p)
    · refine wpAny_bind (wpAny_pure ?_)
      simp only [↓reduceIte]
      refine tail_txt ?_ ho hex hd r1 nd1 (by rw [len1]; exact hfew) txt1 good1 hf1 hr1 hled ?_
      · intro b s₁ Q' q; cases b <;> first | exact wpAny_pure q | exact wpAny_rule q
      · intro h' L' sb r p; dsimp only; exact wpAny_pure (fin h' L' sb r p)
end
end K39
/-! KSetD -/
set_option maxHeartbeats 4000000
/-! ## set(xs), sorted(set(xs)): nested tuples, or texts -/
namespace K39
open PySem PySem.Spec PyProof.Rows L2
def ItemOk (tx : Bool) (h : Heap) (p : NV) : Prop := NestedIs h p.1 p.2 ∧ if tx = true then ∃ x tk, p.1 = .text x ∧ p.2 = .str x tk else (∃ b, p.2 = .ref b) ∧ p.1.depth ≤ 4
def SetZ (tx : Bool) (w : World) (h : Heap) (a : Addr) (L : List NV) : Prop := if tx = true then SetX w h a L else ∃ es ep t, SetQ w h a L es ep t ∧ (t.mask = 7 ∨ t.mask = 31 ∨ t.mask = 127 ∨ t.mask = 511 ∨ t.mask = 2047)
theorem good_keep {h h' : Heap} (hk : ∀ c o, h.get? c = some o → h'.get? c = some o) {k : NestedKey} {v : Value} (x : NestedIs h k v) : NestedIs h' k v := NestedIs.at (fun b ob _ _ hb _ => hk b ob hb) k v x
theorem ItemOk.keep {tx : Bool} {h h' : Heap} (hk : ∀ c o, h.get? c = some o → h'.get? c = some o) {p : NV} (x : ItemOk tx h p) : ItemOk tx h' p := ⟨good_keep hk x.1, x.2⟩
theorem SetZ.common {tx : Bool} {w : World} {h : Heap} {a : Addr} {L : List NV} (R : SetZ tx w h a L) : ∃ es ep t, SetC w h a L es ep t := by
  unfold SetZ at R
  cases tx with
  | true => exact R.ex
  | false =>
    obtain ⟨es, ep, t, q, _⟩ := R
    exact ⟨es, ep, t, q.c⟩
theorem SetC.keep {w : World} {h h' : Heap} {a : Addr} {L : List NV} {es : Array (Int × Value)} {ep : Nat} {t : SetTable} (R : SetC w h a L es ep t) (ha : ∀ o, h.get? a = some o → h'.get? a = some o) (hg : ∀ p ∈ L, NestedIs h' p.1 p.2) : SetC w h' a L es ep t := by
  obtain ⟨o, ho, r⟩ := R.ob
  exact ⟨⟨o, ha o ho, r⟩, R.rows, R.fits, R.ris, R.nd, R.led, R.few, hg⟩
theorem SetZ.keep {tx : Bool} {w : World} {h h' : Heap} {a : Addr} {L : List NV} (R : SetZ tx w h a L) (ha : ∀ o, h.get? a = some o → h'.get? a = some o) (hg : ∀ p ∈ L, NestedIs h' p.1 p.2) : SetZ tx w h' a L := by
  unfold SetZ at R ⊢
  cases tx with
  | true =>
    obtain ⟨⟨es, ep, t, C⟩, x⟩ := R
    exact ⟨⟨es, ep, t, C.keep ha hg⟩, x⟩
  | false =>
    obtain ⟨es, ep, t, q, m⟩ := R
    exact ⟨es, ep, t, ⟨q.c.keep ha hg, q.tab, q.room, q.refs⟩, m⟩
structure GotN (ks : List NV) (i : Nat) (L : List NV) : Prop where
  sub : ∀ p ∈ L, p ∈ ks.take i
  all : ∀ p ∈ ks.take i, p.1 ∈ L.map (·.1)
  len : L.length ≤ i
theorem GotN.step {ks L L' : List NV} {i : Nat} {x : NV} (g : GotN ks i L) (h : ks[i]? = some x) (c1 : x.1 ∈ L.map (·.1) → L' = L) (c2 : x.1 ∉ L.map (·.1) → L'.Perm (x :: L)) : GotN ks (i + 1) L' := by
  have tk : ks.take (i + 1) = ks.take i ++ [x] := by rw [List.take_succ, h]; rfl
  rcases Classical.em (x.1 ∈ L.map (·.1)) with c | c
  · rw [c1 c]
    refine ⟨fun p hp => by rw [tk]; exact List.mem_append_left _ (g.sub p hp), fun p hp => ?_, Nat.le_succ_of_le g.len⟩
    rw [tk] at hp
    rcases List.mem_append.mp hp with z | z
    · exact g.all p z
    · rw [List.mem_singleton.mp z]; exact c
  · have pm := c2 c
    refine ⟨fun p hp => ?_, fun p hp => ?_, by rw [pm.length_eq, List.length_cons]; exact Nat.succ_le_succ g.len⟩
    · rw [tk]
      rcases List.mem_cons.mp (pm.mem_iff.mp hp) with e | z
      · rw [e]; exact List.mem_append_right _ (List.mem_singleton.mpr rfl)
      · exact List.mem_append_left _ (g.sub p z)
    · rw [(pm.map (·.1)).mem_iff, List.map_cons]
      rw [tk] at hp
      rcases List.mem_append.mp hp with z | z
      · exact List.mem_cons_of_mem _ (g.all p z)
      · rw [List.mem_singleton.mp z]; exact List.mem_cons_self
section
variable {P : Program} {w : World} {A : Around} {E : Value → Shared → Prop} {s : Shared} {a : Addr} {L : List NV} {tx : Bool}
theorem add_z (R : SetZ tx w s.heap a L) {p : NV} (hx : ItemOk tx s.heap p) (hu : A.units + 8 < cLine) (hfew : L.length + 1 ≤ 1000) {Q : Bool → Shared → Prop}
    (hQ : ∀ z h' L', Heap.SameBut a s.heap h' → SetZ tx w h' a L' → (p.1 ∈ L.map (·.1) → L' = L) → (p.1 ∉ L.map (·.1) → L'.Perm (p :: L)) → Q z { s with heap := h' }) :
    wpAny (model P w) A (setAddHashed a p.2 (p.1.hash w)) Q E s := by
  obtain ⟨k, v⟩ := p
  obtain ⟨h1, h2⟩ := hx
  unfold SetZ at R
  cases tx with
  | true =>
    obtain ⟨x, tk, e1, e2⟩ := h2
    dsimp only at e1 e2
    subst e1 e2
    exact add_txt R hfew hQ
  | false =>
    obtain ⟨⟨b, e⟩, hd⟩ := h2
    dsimp only at e hd
    subst e
    obtain ⟨es, ep, t, q, m⟩ := R
    exact add_n q m h1 hd hu hfew fun z h' L' es' ep' t' sb q' m' c1 c2 => hQ z h' L' sb ⟨es', ep', t', q', m'⟩ c1 c2
theorem setZ_fresh {h : Heap} (ho : h.get? a = some { cls := .type "set", dict := none, data := .set #[] 0 (.fresh 0 0 (!w.params.followText "set-order")) }) : SetZ tx w h a [] := by
  have hl : w.params.followText "set-order" = true ∨ (SetTable.fresh 0 0 (!w.params.followText "set-order")).led = true := by
    show _ ∨ (!w.params.followText "set-order") = true
    cases w.params.followText "set-order"
    · exact .inr rfl
    · exact .inl rfl
  have C : SetC w h a [] #[] 0 (.fresh 0 0 (!w.params.followText "set-order")) := ⟨⟨_, ho, ⟨rfl, rfl, rfl⟩, rfl⟩, rfl, rfl, List.Pairwise.nil, List.nodup_nil, hl, Nat.zero_le _, fun p hp => by cases hp⟩
  unfold SetZ
  cases tx with
  | true => exact ⟨⟨_, _, _, C⟩, fun p hp => by cases hp⟩
  | false =>
    refine ⟨_, _, _, ⟨C, ⟨List.Pairwise.nil, rfl, rfl, mask7, fun x hx => (by cases hx), fun i h j hi => (by simp at hi)⟩, ?_, fun p hp => (by cases hp)⟩, .inl rfl⟩
    show 0 * 5 < 7 * 3
    decide
/-- set.update's loop -/
theorem update_z {I : Addr} {fp wr : List Addr} {G : Array GenState → Array GenState → Prop} {n : Nat} {Pv : Nat → Value → Prop} {St : Nat → Shared → Prop} {R : Result → Shared → Prop}
    (W : WalksS P w A.in1 I fp wr G n Pv St) (S : Addr) (hSf : S ∉ fp) (ks : List NV) (hn : n = ks.length) (hfew : ks.length ≤ 1000) (hval : ∀ i v, Pv i v → ∃ p tk, ks[i]? = some p ∧ ∀ h, ItemOk tx h p → ItemOk tx h (p.1, v) ∧ (p.1, v) = p ∧ tk = 0)
    (h0 : Heap) (hk : ∀ p ∈ ks, ItemOk tx h0 p) (hS0 : h0.get? S = none) (hw0 : ∀ b ∈ wr, h0.get? b = none) (hu : A.units + 12 < cLine) :
    ∀ (k i : Nat) (s : Shared), n - i = k → i ≤ n → St i s → (∀ b o, h0.get? b = some o → s.heap.get? b = some o) → (∃ L, SetZ tx w s.heap S L ∧ GotN ks i L) →
      (∀ s' L, Moved (S :: wr) G s s' → SetZ tx w s'.heap S L → GotN ks n L → (∀ b o, h0.get? b = some o → s'.heap.get? b = some o) → R (.ok (.ret .none)) s') →
      codeAny (model P w) A (.builtin "set.update.loop" ⟨[.ref S, .ref I], []⟩) R s := by
  have hSw : S ∉ wr := fun h => hSf (W.sub _ h)
  have hsub : ∀ b ∈ wr, b ∈ S :: wr := fun b hb => List.mem_cons_of_mem _ hb
  have keepM : ∀ {s s' : Shared}, Moved wr G s s' → (∀ b o, h0.get? b = some o → s.heap.get? b = some o) → ∀ b o, h0.get? b = some o → s'.heap.get? b = some o := fun hm hkp b o e =>
    hm.heap b o (fun hb => by rw [hw0 b hb] at e; cases e) (hkp b o e)
  intro k
  induction k with
  | zero =>
    intro i s hk' hi hst hkp ⟨L, hS, g⟩ hR
    have hin : i = n := by omega
    subst hin
    refine codeAny_builtin F.entry_set_update_loop ?_
    rw [Around.under_plainId F.plain_set_update_loop _]
    show wpAny _ A.in1 (pyNext (.ref I) >>= _) _ _ s
    refine wpAny_bind (W.done s _ _ hst fun s' hm => ?_)
    show wpAny _ A.in1 (ret Value.none) _ _ s'
    have hkp' := keepM hm hkp
    exact wpAny_pure (hR s' L (hm.mono hsub) (hS.keep (fun o e => hm.heap S o hSw e) fun p hp => good_keep hkp' (hk p (List.mem_of_mem_take (g.sub p hp))).1) g hkp')
  | succ k ih =>
    intro i s hk' hi hst hkp ⟨L, hS, g⟩ hR
    have hlt : i < n := by omega
    refine codeAny_builtin F.entry_set_update_loop ?_
    rw [Around.under_plainId F.plain_set_update_loop _]
    show wpAny _ A.in1 (pyNext (.ref I) >>= _) _ _ s
    refine wpAny_bind (W.item i s _ _ hlt hst fun v s' hP hst' hm => ?_)
    obtain ⟨p, _, hp, hv⟩ := hval i v hP
    have hmem := List.mem_of_getElem? hp
    have ev : v = p.2 := by rw [← (hv h0 (hk p hmem)).2.1]
    subst ev
    have hkp' := keepM hm hkp
    have hS' : SetZ tx w s'.heap S L := hS.keep (fun o e => hm.heap S o hSw e) fun q hq => good_keep hkp' (hk q (List.mem_of_mem_take (g.sub q hq))).1
    have hx : ItemOk tx s'.heap p := (hk p hmem).keep hkp'
    show wpAny _ A.in1 (holding [p.2] (setAdd S p.2) >>= _) _ _ s'
    refine wpAny_bind (wpAny_holding ?_)
    unfold setAdd
    refine wpAny_holding ?_
    have hdep : p.1.depth ≤ 4 := by
      have h2 := hx.2
      split at h2
      · obtain ⟨x, tk, e, _⟩ := h2
        rw [e]; exact Nat.zero_le _
      · exact h2.2
    refine wpAny_bind (pyHash_key p.1 p.2 _ _ _ hx.1 (by show A.units + 1 + p.1.depth < cLine; omega) ?_)
    refine add_z (s := { s' with toks := s'.toks + p.1.draws }) hS' hx (by show A.units + 1 + 8 < cLine; omega) (by have := g.len; omega) fun b h' L' hsb hS2 c1 c2 => ?_
    have hkp2 : ∀ b o, h0.get? b = some o → h'.get? b = some o := fun b o e => (hsb.2 b (fun z => by rw [z, hS0] at e; cases e)).trans (hkp' b o e)
    refine wpAny_pure ⟨plainId_quiet F.plain_set_update_loop _, ih (i + 1) _ (by omega) hlt (W.frame _ s' _ _ hst' (Nat.le_add_right _ _) fun b hb o e => ?_) hkp2 ⟨L', hS2, g.step hp c1 c2⟩ fun s'' L2 hm'' hS'' g'' hkp'' => ?_⟩
    · rw [hsb.2 b (fun h : b = S => hSf (by rw [← h]; exact hb))]; exact e
    · refine hR s'' L2 (Moved.trans W.gtrans ((hm.mono hsub).then_heap (Nat.le_add_right _ _) fun b o hb e => ?_) hm'') hS'' g'' hkp''
      rw [hsb.2 b (fun h : b = S => hb (by rw [h]; exact List.mem_cons_self))]; exact e
set_option maxHeartbeats 8000000 in
/-- set(xs) of a list -/
theorem call_set_list {l : Addr} {items : Array Value} (ks : List NV) {Q : Value → Shared → Prop} (hh : A.handled = none) (hl : s.heap.IsList l items) (hit : items.toList = ks.map (·.2)) (hk : ∀ p ∈ ks, ItemOk tx s.heap p) (hfew : ks.length ≤ 1000) (hu : A.units + 20 < cLine)
    (h : ∀ (h' : Heap) (tk : Nat) (L : List NV), SetZ tx w h' s.heap.objs.size L → GotN ks ks.length L → (∀ b o, s.heap.get? b = some o → h'.get? b = some o) → Q (.ref s.heap.objs.size) { s with heap := h', toks := tk }) :
    wpAny (model P w) A (call (.type "set") [.ref l]) Q E s := by
  have hisz : items.size = ks.length := by
    rw [← Array.length_toList, hit, List.length_map]
  obtain ⟨c, tl, hmro⟩ := F.called_set.mro
  have hmade := F.called_set.made
  have hsub := F.called_set.sub
  refine wpAny_call (codeAny_of_tree ?_)
  show wpAny _ _ (callAny (.type "set") _) _ _ _
  refine wpAny_pure ⟨Code.quiet_builtin _ (by decide +kernel), codeAny_builtin F.entry_type_call ?_⟩
  rw [Around.under_plain (weight_type_call_type "set" [.ref l] []) rfl]
  have h1 := F.called_set.notType
  have h2 := F.called_set.canCreate
  have hct := F.typeCall_set_1 (.ref l)
  repeat (any_goals (first | assumption | wp_step))
  refine codeAny_mono (code_set_led1 (.ref l) (E := E) (Q₁ := fun obj s₁ => obj = .ref s.heap.objs.size ∧ s₁ = { s with heap := s.heap.push { cls := .type "set", dict := none, data := .set #[] 0 (.fresh 0 0 (!w.params.followText "set-order")) } }) ⟨rfl, rfl⟩) fun r s₁ hr => ?_
  cases r with
  | error e => exact hr
  | ok fl =>
    cases fl with
    | ret obj =>
      obtain ⟨rfl, rfl⟩ := hr
      have hS : (s.heap.push { cls := .type "set", dict := none, data := .set #[] 0 (.fresh 0 0 (!w.params.followText "set-order")) }).get? s.heap.objs.size = some { cls := .type "set", dict := none, data := .set #[] 0 (.fresh 0 0 (!w.params.followText "set-order")) } := Heap.get?_push_size _ rfl
      have hT : Shared.TypeIs { s with heap := s.heap.push { cls := .type "set", dict := none, data := .set #[] 0 (.fresh 0 0 (!w.params.followText "set-order")) } } (.ref s.heap.objs.size) "set" := ⟨_, hS, rfl⟩
      have hli := F.called_set.init.lookup
      have hbi := F.called_set.init.bind (.ref s.heap.objs.size)
      repeat (any_goals (first | assumption | wp_step))
      refine codeAny_mono (codeAny_call_builtin (R := wants (fun r s₂ => r = .none ∧ ∃ h' tk L, s₂ = { s with heap := h', toks := tk } ∧ SetZ tx w h' s.heap.objs.size L ∧ GotN ks ks.length L ∧
          (∀ b o, s.heap.get? b = some o → h'.get? b = some o)) E) F.called_set.init.plain F.entry_set_init (check_set_init_1 hT ?_)) fun r₂ s₂ hr₂ => ?_
      · obtain ⟨ol, hol, hcl, nl, hdl⟩ := hl
        obtain ⟨ocls, odict, odata, oslots⟩ := ol
        simp only at hcl hdl
        subst hcl; subst hdl
        have hol' : (s.heap.push { cls := .type "set", dict := none, data := .set #[] 0 (.fresh 0 0 (!w.params.followText "set-order")) }).get? l = some { cls := .type "list", dict := odict, data := .seq items nl, slots := oslots } := Heap.get?_push_of_some _ hol
        have hsls := F.sub_list_set
        have hslf := F.sub_list_frozenset
        have hne : (Value.type "list" == Value.type "dict") = false := by decide
        have hl1 : (s.heap.push { cls := .type "set", dict := none, data := .set #[] 0 (.fresh 0 0 (!w.params.followText "set-order")) }).IsList l items := ⟨_, hol', rfl, nl, rfl⟩
        unfold Builtin.«set.__init__» noKeywords Builtin.Frozenset.updateFrom
        generalize hPI : pyIter = PI
        wp_walk
        subst hPI
        refine wpAny_pyIter_list hl1 ?_
        refine wpAny_bind (wpAny_runValue ?_)
        have hlS : l < s.heap.objs.size := Heap.lt_size hol
        have hh3 : A.in1.in1.in1.handled = none := by simp [hh]
        have hz1 : (s.heap.push { cls := .type "set", dict := none, data := .set #[] 0 (.fresh 0 0 (!w.params.followText "set-order")) }).objs.size = s.heap.objs.size + 1 := Heap.size_push ..
        have hneI : l ≠ (s.heap.push { cls := .type "set", dict := none, data := .set #[] 0 (.fresh 0 0 (!w.params.followText "set-order")) }).objs.size := by
          rw [hz1]; exact Nat.ne_of_lt (Nat.lt_succ_of_lt hlS)
        have hSf : s.heap.objs.size ∉ [(s.heap.push { cls := .type "set", dict := none, data := .set #[] 0 (.fresh 0 0 (!w.params.followText "set-order")) }).objs.size, l] := by
          rw [hz1]; simp only [List.mem_cons, List.not_mem_nil, or_false, not_or]
          exact ⟨Nat.ne_of_lt (Nat.lt_succ_self _), Nat.ne_of_gt hlS⟩
        have hval : ∀ (i : Nat) (v : Value), items[i]? = some v → ∃ (p : NV) (tk : Nat), ks[i]? = some p ∧ ∀ h, ItemOk tx h p → ItemOk tx h (p.1, v) ∧ (p.1, v) = p ∧ tk = 0 := fun i v hv => by
          have q : items.toList[i]? = some v := by rw [Array.getElem?_toList]; exact hv
          rw [hit, List.getElem?_map] at q
          cases hq : ks[i]? with
          | none => rw [hq] at q; cases q
          | some p =>
            rw [hq] at q
            have e : p.2 = v := Option.some.inj q
            subst e
            exact ⟨p, 0, rfl, fun h x => ⟨x, rfl, rfl⟩⟩
        have none_of : ∀ b, s.heap.objs.size ≤ b → s.heap.get? b = none := fun b hb => by
          cases q : s.heap.get? b with
          | none => rfl
          | some o => exact absurd (Nat.lt_of_lt_of_le (Heap.lt_size q) hb) (Nat.lt_irrefl _)
        refine update_z (tx := tx) ((Walks.list hh3 _ l hneI items).toS) s.heap.objs.size
          hSf ks hisz hfew hval s.heap hk (none_of _ (Nat.le_refl _)) (fun b hb => none_of b (by
            rw [List.mem_singleton.mp hb, hz1]
            exact Nat.le_succ _)) (by show A.units + 1 + 1 + 12 < cLine; omega) (items.size - 0) 0 _ (by omega) (Nat.zero_le _)
          ⟨⟨_, Heap.get?_push_size _ rfl, rfl, rfl⟩, (hl1.push _)⟩ (fun b o e => Heap.get?_push_of_some _ (Heap.get?_push_of_some _ e)) ?hS0 ?hR
        case hS0 => exact ⟨[], setZ_fresh (Heap.get?_push_of_some _ hS), ⟨fun p hp => (by cases hp), fun p hp => (by simp at hp), Nat.le_refl _⟩⟩
        case hR =>
          intro s' L hm hS' g' hkp
          obtain ⟨h', g2, d', tk', os'⟩ := s'
          have eg : g2 = s.gens := hm.gens
          have ed : d' = s.drawn := hm.drawn
          have eo : os' = s.os := hm.os
          subst eg; subst ed; subst eo
          show wpAny _ _ _ _ _ _
          refine wpAny_pure ?_
          show wpAny _ _ (ret Value.none) _ _ _
          rw [hisz] at g'
          exact wpAny_pure ⟨rfl, h', tk', L, rfl, hS', g', hkp⟩
      · cases r₂ with
        | error e => exact hr₂
        | ok fl₂ =>
          cases fl₂ with
          | ret r =>
            obtain ⟨rfl, h', tk, L, rfl, hS', g', hk'⟩ := hr₂
            repeat (any_goals (first | assumption | wp_step))
            exact h _ _ _ hS' g' hk'
          | _ => exact hr₂.elim
    | _ => exact hr.elim
set_option maxHeartbeats 8000000 in
/-- set(xs) of a tuple -/
theorem call_set_tuple {l : Addr} {items : Array Value} (ks : List NV) {Q : Value → Shared → Prop} (hh : A.handled = none) (hl : s.heap.IsTuple l items) (hit : items.toList = ks.map (·.2)) (hk : ∀ p ∈ ks, ItemOk tx s.heap p) (hfew : ks.length ≤ 1000) (hu : A.units + 20 < cLine)
    (h : ∀ (h' : Heap) (tk : Nat) (L : List NV), SetZ tx w h' s.heap.objs.size L → GotN ks ks.length L → (∀ b o, s.heap.get? b = some o → h'.get? b = some o) → Q (.ref s.heap.objs.size) { s with heap := h', toks := tk }) :
    wpAny (model P w) A (call (.type "set") [.ref l]) Q E s := by
  have hisz : items.size = ks.length := by
    rw [← Array.length_toList, hit, List.length_map]
  obtain ⟨c, tl, hmro⟩ := F.called_set.mro
  have hmade := F.called_set.made
  have hsub := F.called_set.sub
  refine wpAny_call (codeAny_of_tree ?_)
  show wpAny _ _ (callAny (.type "set") _) _ _ _
  refine wpAny_pure ⟨Code.quiet_builtin _ (by decide +kernel), codeAny_builtin F.entry_type_call ?_⟩
  rw [Around.under_plain (weight_type_call_type "set" [.ref l] []) rfl]
  have h1 := F.called_set.notType
  have h2 := F.called_set.canCreate
  have hct := F.typeCall_set_1 (.ref l)
  repeat (any_goals (first | assumption | wp_step))
  refine codeAny_mono (code_set_led1 (.ref l) (E := E) (Q₁ := fun obj s₁ => obj = .ref s.heap.objs.size ∧ s₁ = { s with heap := s.heap.push { cls := .type "set", dict := none, data := .set #[] 0 (.fresh 0 0 (!w.params.followText "set-order")) } }) ⟨rfl, rfl⟩) fun r s₁ hr => ?_
  cases r with
  | error e => exact hr
  | ok fl =>
    cases fl with
    | ret obj =>
      obtain ⟨rfl, rfl⟩ := hr
      have hS : (s.heap.push { cls := .type "set", dict := none, data := .set #[] 0 (.fresh 0 0 (!w.params.followText "set-order")) }).get? s.heap.objs.size = some { cls := .type "set", dict := none, data := .set #[] 0 (.fresh 0 0 (!w.params.followText "set-order")) } := Heap.get?_push_size _ rfl
      have hT : Shared.TypeIs { s with heap := s.heap.push { cls := .type "set", dict := none, data := .set #[] 0 (.fresh 0 0 (!w.params.followText "set-order")) } } (.ref s.heap.objs.size) "set" := ⟨_, hS, rfl⟩
      have hli := F.called_set.init.lookup
      have hbi := F.called_set.init.bind (.ref s.heap.objs.size)
      repeat (any_goals (first | assumption | wp_step))
      refine codeAny_mono (codeAny_call_builtin (R := wants (fun r s₂ => r = .none ∧ ∃ h' tk L, s₂ = { s with heap := h', toks := tk } ∧ SetZ tx w h' s.heap.objs.size L ∧ GotN ks ks.length L ∧
          (∀ b o, s.heap.get? b = some o → h'.get? b = some o)) E) F.called_set.init.plain F.entry_set_init (check_set_init_1 hT ?_)) fun r₂ s₂ hr₂ => ?_
      · obtain ⟨ol, hol, hcl, nl, hdl⟩ := hl
        obtain ⟨ocls, odict, odata, oslots⟩ := ol
        simp only at hcl hdl
        subst hcl; subst hdl
        have hol' : (s.heap.push { cls := .type "set", dict := none, data := .set #[] 0 (.fresh 0 0 (!w.params.followText "set-order")) }).get? l = some { cls := .type "tuple", dict := odict, data := .seq items nl, slots := oslots } := Heap.get?_push_of_some _ hol
        have hsls := F.sub_tuple_set
        have hslf := F.sub_tuple_frozenset
        have hne : (Value.type "tuple" == Value.type "dict") = false := by decide
        have hl1 : (s.heap.push { cls := .type "set", dict := none, data := .set #[] 0 (.fresh 0 0 (!w.params.followText "set-order")) }).IsTuple l items := ⟨_, hol', rfl, nl, rfl⟩
        unfold Builtin.«set.__init__» noKeywords Builtin.Frozenset.updateFrom
        generalize hPI : pyIter = PI
        wp_walk
        subst hPI
        refine wpAny_pyIter_tuple hl1 ?_
        refine wpAny_bind (wpAny_runValue ?_)
        have hlS : l < s.heap.objs.size := Heap.lt_size hol
        have hh3 : A.in1.in1.in1.handled = none := by simp [hh]
        have hz1 : (s.heap.push { cls := .type "set", dict := none, data := .set #[] 0 (.fresh 0 0 (!w.params.followText "set-order")) }).objs.size = s.heap.objs.size + 1 := Heap.size_push ..
        have hneI : l ≠ (s.heap.push { cls := .type "set", dict := none, data := .set #[] 0 (.fresh 0 0 (!w.params.followText "set-order")) }).objs.size := by
          rw [hz1]; exact Nat.ne_of_lt (Nat.lt_succ_of_lt hlS)
        have hSf : s.heap.objs.size ∉ [(s.heap.push { cls := .type "set", dict := none, data := .set #[] 0 (.fresh 0 0 (!w.params.followText "set-order")) }).objs.size, l] := by
          rw [hz1]; simp only [List.mem_cons, List.not_mem_nil, or_false, not_or]
          exact ⟨Nat.ne_of_lt (Nat.lt_succ_self _), Nat.ne_of_gt hlS⟩
        have hval : ∀ (i : Nat) (v : Value), items[i]? = some v → ∃ (p : NV) (tk : Nat), ks[i]? = some p ∧ ∀ h, ItemOk tx h p → ItemOk tx h (p.1, v) ∧ (p.1, v) = p ∧ tk = 0 := fun i v hv => by
          have q : items.toList[i]? = some v := by rw [Array.getElem?_toList]; exact hv
          rw [hit, List.getElem?_map] at q
          cases hq : ks[i]? with
          | none => rw [hq] at q; cases q
          | some p =>
            rw [hq] at q
            have e : p.2 = v := Option.some.inj q
            subst e
            exact ⟨p, 0, rfl, fun h x => ⟨x, rfl, rfl⟩⟩
        have none_of : ∀ b, s.heap.objs.size ≤ b → s.heap.get? b = none := fun b hb => by
          cases q : s.heap.get? b with
          | none => rfl
          | some o => exact absurd (Nat.lt_of_lt_of_le (Heap.lt_size q) hb) (Nat.lt_irrefl _)
        refine update_z (tx := tx) ((Walks.tuple hh3 _ l hneI items).toS) s.heap.objs.size
          hSf ks hisz hfew hval s.heap hk (none_of _ (Nat.le_refl _)) (fun b hb => none_of b (by
            rw [List.mem_singleton.mp hb, hz1]
            exact Nat.le_succ _)) (by show A.units + 1 + 1 + 12 < cLine; omega) (items.size - 0) 0 _ (by omega) (Nat.zero_le _)
          ⟨⟨_, Heap.get?_push_size _ rfl, rfl, rfl⟩, (hl1.push _)⟩ (fun b o e => Heap.get?_push_of_some _ (Heap.get?_push_of_some _ e)) ?hS0 ?hR
        case hS0 => exact ⟨[], setZ_fresh (Heap.get?_push_of_some _ hS), ⟨fun p hp => (by cases hp), fun p hp => (by simp at hp), Nat.le_refl _⟩⟩
        case hR =>
          intro s' L hm hS' g' hkp
          obtain ⟨h', g2, d', tk', os'⟩ := s'
          have eg : g2 = s.gens := hm.gens
          have ed : d' = s.drawn := hm.drawn
          have eo : os' = s.os := hm.os
          subst eg; subst ed; subst eo
          show wpAny _ _ _ _ _ _
          refine wpAny_pure ?_
          show wpAny _ _ (ret Value.none) _ _ _
          rw [hisz] at g'
          exact wpAny_pure ⟨rfl, h', tk', L, rfl, hS', g', hkp⟩
      · cases r₂ with
        | error e => exact hr₂
        | ok fl₂ =>
          cases fl₂ with
          | ret r =>
            obtain ⟨rfl, h', tk, L, rfl, hS', g', hk'⟩ := hr₂
            repeat (any_goals (first | assumption | wp_step))
            exact h _ _ _ hS' g' hk'
          | _ => exact hr₂.elim
    | _ => exact hr.elim
end
end K39
/-! KSort -/
set_option maxHeartbeats 4000000
/-! ## sorted(a set), sorted(a list) of data, over the heap -/
namespace K39
open PySem PySem.Spec PyProof.Rows L2 PySem.W
open SeqAt
theorem data_antis {x y : PyData} (h : alike x y = true) (h1 : dataLt x y = false) (h2 : dataLt y x = false) : PyData.eqv x y = true := by
  have e : keyToks x = keyToks y := (listOrd itemOrd).total _ _ h1 h2
  cases q : PyData.eqv x y with
  | true => rfl
  | false =>
    have k := (toks_eqv x y h).2 q [] [Sum.inl 0]
    rw [← e, lex_pre, lex_irrefl] at k
    exact absurd k (by decide +kernel)
/-- what sorted takes: alike data; tuples with an item at least, or no tuples; or the empty tuple alone -/
def Srt (ds : List PyData) : Prop := (AllAlike ds ∧ Sortable ds) ∨ ds = [.tuple []]
section
variable {prog : Program} {w : World} {A : Around} {E : Value → Shared → Prop} {s : Shared}
theorem srt_alike {ds : List PyData} (h : Srt ds) : AllAlike ds := by
  rcases h with h | h
  · exact h.1
  · subst h
    intro d hd d' hd'
    rw [List.mem_singleton.mp hd, List.mem_singleton.mp hd']
    decide +kernel
theorem SortsAt.srt {vs : List Value} {ds : List PyData} (e : EachIs (fun v d => ∃ as, Reads s.heap v d as) vs ds) (h : Srt ds) (hu : ∀ d, d ∈ ds → A.units + d.depth < cLine) : SortsAt prog w A s (dataKind s.heap ds) vs := by
  rcases h with h | h
  · exact SortsAt.data e h.1 h.2 hu
  · have hal := srt_alike (.inr h)
    subst h
    refine ⟨fun v hv => ?_, tuples' false, fun E x y a b Q ha hb hq => ?_, fun h2 => ?_⟩
    · obtain ⟨d, hd, as, r⟩ := e.left v hv
      exact ⟨_, dataKind_some hal hd r⟩
    · obtain ⟨d, as, hd, ra, rfl⟩ := dataKind_inv ha
      obtain ⟨d', as', hd', rb, rfl⟩ := dataKind_inv hb
      cases List.mem_singleton.mp hd
      cases List.mem_singleton.mp hd'
      have hq' : Q (dataLt (.tuple []) (.tuple [])) s := hq
      rw [dataLt_tuple] at hq'
      cases ra with
      | @tuple l o xs n _ _ h1 h2 h3 h4 =>
        cases rb with
        | @tuple l' o' xs' n' _ _ k1 k2 k3 k4 =>
          have n1 : xs.size = 0 := by simpa using SeqAt.ReadsAll.length _ _ _ h4
          have n2 : xs'.size = 0 := by simpa using SeqAt.ReadsAll.length _ _ _ k4
          have hr := hu (.tuple []) (by simp)
          refine kat_lt h1 h3 k1 k3 (katLex_alike [] [] 0 _ _ _ _ h4 k4 rfl ?_ (fun hb _ x r t ex => by cases ex) (by rw [n1, n2]; rfl) hq')
          refine Nat.lt_of_le_of_lt ?_ hr
          exact Nat.add_le_add_left (Nat.le_trans (Nat.min_le_left _ _) (Nat.zero_le _)) _
    · have := e.length
      rw [this] at h2
      exact absurd h2 (by decide)
variable {β : Type} {vs : List Value} {bs : List β} {enc : β → PyData} {R : Value → β → Prop}
/-- list.sort of a list that has just been made -/
theorem sort_made {a : Addr} {n : Nat} {P : PySem.Fin → Shared → Prop} (ho : s.heap.get? a = some (seqObj "list" vs.toArray n)) (e : EachIs R vs bs) (er : EachIs (fun v b => ∃ as, Reads s.heap v (enc b) as ∧ a ∉ as) vs bs) (hk : Srt (bs.map enc)) (hL : bs.length ≤ sizeLine)
    (hu : ∀ b, b ∈ bs → A.units + (enc b).depth < cLine) (h : ∀ out, out.length = bs.length → EachIs R out (bs.mergeSort (dataLe false enc)) → P (.done (.ret .none)) { s with heap := sortedHeap s.heap a vs (List.toArray out) }) :
    wpAny (model prog w) A (Builtin.«list.sort» ⟨[.ref a], []⟩) P E s := by
  have hal := srt_alike hk
  have er' : EachIs (fun v b => ∃ as, Reads (sortingHeap s.heap a vs) v (enc b) as) vs bs := each_keepBut (h' := sortingHeap s.heap a vs) (fun _ _ hb q => sortingHeap_old hb q) (fun o q => by rw [ho] at q; rw [← Option.some.inj q]) hal er
  refine list_sort_vals (κ := dataKind (sortingHeap s.heap a vs) (bs.map enc)) ho (SortsAt.srt (s := { s with heap := sortingHeap s.heap a vs }) (each_map (R := fun v d => ∃ as, Reads (sortingHeap s.heap a vs) v d as) enc er') hk (bound_map hu)) (by rw [e.length]; exact hL) ?_
  exact h _ (by rw [sortVals_length false rfl]; exact e.length) (sortVals_data false e er' hal)
/-- sorted(xs) of a list -/
theorem sorted_list {l : Addr} {Q : Value → Shared → Prop} (hl : s.heap.IsList l vs.toArray) (e : EachIs R vs bs) (er : EachIs (fun v b => ∃ as, Reads s.heap v (enc b) as) vs bs) (hk : Srt (bs.map enc)) (hL : bs.length ≤ sizeLine)
    (hu : ∀ b, b ∈ bs → A.units + 2 + (enc b).depth < cLine) (h : ∀ out, out.length = bs.length → EachIs R out (bs.mergeSort (dataLe false enc)) → Q (.ref (s.heap.objs.size + 1)) { s with heap := sortedAll s.heap vs (List.toArray out) }) :
    wpAny (model prog w) A (call (.builtin "sorted") [.ref l]) Q E s := by
  have hal := srt_alike hk
  have er' : EachIs (fun v b => ∃ as, Reads (sortingHeap (copyHeap s.heap vs) (s.heap.objs.size + 1) vs) v (enc b) as) vs bs := er.mono fun _ _ ⟨as, r⟩ => ⟨as, PyProof.Rows.Reads.keeps (fun _ _ => sorting_copy_old) r⟩
  exact sorted_vals hl (SortsAt.srt (s := { s with heap := sortingHeap (copyHeap s.heap vs) (s.heap.objs.size + 1) vs }) (each_map (R := fun v d => ∃ as, Reads (sortingHeap (copyHeap s.heap vs) (s.heap.objs.size + 1) vs) v d as) enc er') hk (bound_map hu)) (by rw [e.length]; exact hL)
    (h _ (by rw [sortVals_length false rfl]; exact e.length) (sortVals_data false e er' hal))
end
/-! ### sorted(a set) -/
mutual
theorem reads_lt {h : Heap} : ∀ {v : Value} {d : PyData} {as : List Addr}, Reads h v d as → ∀ b ∈ as, b < h.objs.size
  | _, _, _, .none, b, hb => by cases hb
  | _, _, _, .bool _, b, hb => by cases hb
  | _, _, _, .int _ _, b, hb => by cases hb
  | _, _, _, .str _ _, b, hb => by cases hb
  | _, _, _, .list h1 _ _ r, b, hb => by
    rcases List.mem_cons.mp hb with e | hb
    · rw [e]; exact Heap.lt_size h1
    · exact readsAll_lt r b hb
  | _, _, _, .tuple _ _ _ r, b, hb => readsAll_lt r b hb
  | _, _, _, .dict h1 _ _ r1 r2, b, hb => by
    rcases List.mem_append.mp hb with hb | hb
    · rcases List.mem_cons.mp hb with e | hb
      · rw [e]; exact Heap.lt_size h1
      · exact readsAll_lt r1 b hb
    · exact readsAll_lt r2 b hb
theorem readsAll_lt {h : Heap} : ∀ {vs : List Value} {ds : List PyData} {as : List Addr}, ReadsAll h vs ds as → ∀ b ∈ as, b < h.objs.size
  | _, _, _, .nil, b, hb => by cases hb
  | _, _, _, .cons r1 r2, b, hb => by
    rcases List.mem_append.mp hb with hb | hb
    · exact reads_lt r1 b hb
    · exact readsAll_lt r2 b hb
end
/-- a list whose values are those of the rows is the rows in an order -/
theorem perm_lift {α β : Type} (f : α → β) : ∀ (vs : List β) (L : List α), vs.Perm (L.map f) → ∃ L1 : List α, vs = L1.map f ∧ L1.Perm L := by
  have key : ∀ (l l2 : List β), l.Perm l2 → ∀ L : List α, l2 = L.map f → ∃ L1 : List α, l = L1.map f ∧ L1.Perm L := by
    intro l l2 pm
    induction pm with
    | nil =>
      intro L e
      cases L with
      | nil => exact ⟨[], rfl, .refl _⟩
      | cons p L => cases e
    | cons x p ih =>
      intro L e
      cases L with
      | nil => cases e
      | cons q L =>
        rw [List.map_cons] at e
        injection e with e1 e2
        obtain ⟨L1, h1, h2⟩ := ih L e2
        exact ⟨q :: L1, by rw [h1, e1, List.map_cons], h2.cons q⟩
    | swap x y l =>
      intro L e
      cases L with
      | nil => cases e
      | cons q L =>
        cases L with
        | nil => injection e with e1 e2; cases e2
        | cons r L =>
          rw [List.map_cons, List.map_cons] at e
          injection e with e1 e2
          injection e2 with e2 e3
          exact ⟨r :: q :: L, by rw [e1, e2, e3]; rfl, .swap _ _ _⟩
    | trans p1 p2 ih1 ih2 =>
      intro L e
      obtain ⟨L2, h1, h2⟩ := ih2 L e
      obtain ⟨L1, h3, h4⟩ := ih1 L2 h1
      exact ⟨L1, h3, h4.trans h2⟩
  exact fun vs L pm => key vs _ pm L rfl
section
variable {prog : Program} {w : World} {A : Around} {E : Value → Shared → Prop} {s : Shared}
theorem each_of_list {α β : Type} {R : α → β → Prop} (f : β → α) : ∀ (bs : List β), (∀ b ∈ bs, R (f b) b) → EachIs R (bs.map f) bs
  | [], _ => .nil
  | b :: bs, h => .cons (h b List.mem_cons_self) (each_of_list f bs fun c hc => h c (List.mem_cons_of_mem _ hc))
theorem each_list {α β : Type} {f : β → α} : ∀ {as : List α} {bs : List β}, EachIs (fun v b => v = f b) as bs → as = bs.map f
  | _, _, .nil => rfl
  | _, _, .cons h t => by rw [List.map_cons, ← each_list t, ← h]
theorem sorted_z {a : Addr} {L : List NV} {tx : Bool} {Q : Value → Shared → Prop} (R : SetZ tx w s.heap a L) (hr : ∀ p ∈ L, ∃ as, Reads s.heap p.2 p.1.data as) (hh : A.handled = none) (hk : ∀ L1 : List NV, L1.Perm L → Srt (L1.map fun p => p.1.data)) (hu : ∀ p ∈ L, A.units + 10 + p.1.data.depth < cLine)
    (hQ : ∀ s' p (out : Array Value) (c : Nat) (L' : List NV), (∀ b o, s.heap.get? b = some o → s'.heap.get? b = some o) → s'.gens = s.gens → s'.os = s.os → s.heap.objs.size ≤ p →
      s'.heap.get? p = some (seqObj "list" out c) → out.toList = L'.map (·.2) → L'.Perm L → L'.Pairwise (fun q r => dataLe false (fun p : NV => p.1.data) q r = true) → Q (.ref p) s') :
    wpAny (model prog w) A (call (.builtin "sorted") [.ref a]) Q E s := by
  obtain ⟨es, ep, t, C⟩ := R.common
  obtain ⟨o, ho, hex, hd⟩ := C.ob
  have hsz := C.size
  have hfew := C.few
  refine Calls.call_function_entry kind_sorted plain_sorted entry_sorted (args_sorted1 _) ?_
  unfold Builtin.«sorted»
  refine wpAny_bind (m := checkCount "sorted" 1 1 _) (wpAny_pure ?_)
  refine wpAny_bind (collect_set (A := A.in1) hh ⟨o, ho, hex.1, hd⟩ C.fits (by unfold scanBound; omega) C.ris C.led fun s1 vs k1 hz g1 o1 pm => ?_)
  have hes : es.toList.map (·.2) = L.map (·.2) := by
    rw [C.rows]
    unfold rowsN
    rw [List.map_map]
    rfl
  rw [hes] at pm
  obtain ⟨L1, e1, p1⟩ := perm_lift (fun p : NV => p.2) vs L pm
  subst e1
  have hlen : L1.length ≤ 1000 := by rw [p1.length_eq]; exact hfew
  refine wpAny_bind (wpAny_newList ?_ (by rw [List.length_map, sizeLine_eq]; omega))
  have hoL : (s1.heap.push (seqObj "list" (L1.map (·.2)).toArray 0)).get? s1.heap.objs.size = some (seqObj "list" (L1.map (·.2)).toArray 0) := Heap.get?_push_size _ rfl
  refine wpAny_bind (wpAny_holding (wpAny_call_entry slot_list_sort ⟨_, hoL, rfl⟩ entry_list_sort (sort_made (s := { s1 with heap := s1.heap.push (seqObj "list" (L1.map (·.2)).toArray 0) }) (bs := L1) (enc := fun p : NV => p.1.data) (R := fun v (p : NV) => v = p.2) hoL ?_ ?_ (hk L1 p1) ?_ ?_ fun out a1 a2 => ⟨_, rfl, ?_⟩) (args_list_sort _)))
  · exact each_of_list (fun p : NV => p.2) L1 fun _ _ => rfl
  · refine each_of_list (fun p : NV => p.2) L1 fun p hp => ?_
    obtain ⟨as, r⟩ := hr p (p1.mem_iff.mp hp)
    have r1 : Reads s1.heap p.2 p.1.data as := PyProof.Rows.Reads.keeps k1 r
    refine ⟨as, PyProof.Rows.Reads.keeps (fun _ _ q => Heap.get?_push_of_some _ q) r1, fun hm => ?_⟩
    exact absurd (reads_lt r1 _ hm) (Nat.lt_irrefl _)
  · rw [sizeLine_eq]; omega
  · intro p hp
    have := hu p (p1.mem_iff.mp hp)
    show A.units + 1 + 1 + p.1.data.depth < cLine
    omega
  · have e2 := each_list a2
    obtain ⟨c, hc⟩ := sortedHeap_at (vs := L1.map (·.2)) (out := out.toArray) hoL
    refine wpAny_pure ⟨_, rfl, hQ _ s1.heap.objs.size out.toArray c (L1.mergeSort (dataLe false fun p : NV => p.1.data)) (fun b u e => ?_) g1 o1 hz hc (by simpa using e2) ((List.mergeSort_perm L1 _).trans p1) (sort_pairwise (sortLe_total (listOrd itemOrd) false fun p : NV => keyToks p.1.data) L1)⟩
    have q := k1 b u e
    have hlt := Heap.lt_size q
    show (sortedHeap (s1.heap.push (seqObj "list" (L1.map (·.2)).toArray 0)) s1.heap.objs.size _ _).get? b = some u
    rw [sortedHeap_old (Nat.ne_of_lt hlt) (by rw [size_push']; exact Nat.lt_succ_of_lt hlt)]
    exact Heap.get?_push_of_some _ q
end
end K39
/-! KAsc -/
set_option maxHeartbeats 4000000
/-! ## sorted(set(xs)), sorted(xs) over data -/
namespace K39
open PySem PySem.Spec PyProof.Rows L2
mutual
/-- data that can be a key, of depth at most n -/
def D.kl : Nat → D → Prop
  | _, .int _ => True
  | _, .str s => PyData.strOk s = true
  | n + 1, .tup xs => kls n xs
  | _, _ => False
def kls : Nat → List D → Prop
  | _, [] => True
  | n, x :: xs => D.kl n x ∧ kls n xs
end
theorem kls_all {n : Nat} : ∀ {xs : List D}, kls n xs ↔ ∀ x ∈ xs, D.kl n x
  | [] => by simp [kls]
  | x :: xs => by
    show D.kl n x ∧ kls n xs ↔ _
    rw [kls_all]
    simp
mutual
def D.nk : D → NestedKey
  | .int i => .num i
  | .str s => .text s
  | .tup xs => .tup (nks xs)
  | _ => .none
def nks : List D → List NestedKey
  | [] => []
  | x :: xs => x.nk :: nks xs
end
mutual
theorem kl_sh : ∀ {n : Nat} (d : D), D.kl n d → D.sh n d
  | n, .int _, _ => by cases n <;> exact True.intro
  | n, .str s, h => by cases n <;> exact h
  | n + 1, .tup xs, h => kls_shs xs h
  | 0, .tup _, h => h.elim
  | n, .non, h => by cases n <;> exact h.elim
  | n, .lst _, h => by cases n <;> exact h.elim
  | n, .bl _, h => by cases n <;> exact h.elim
  | n, .dct _, h => by cases n <;> exact h.elim
  | n, .dtt _, h => by cases n <;> exact h.elim
  | n, .ins _ _, h => by cases n <;> exact h.elim
  | n, .ptr _, h => by cases n <;> exact h.elim
  | n, .key _, h => by cases n <;> exact h.elim
  | n, .scr _, h => by cases n <;> exact h.elim
  | n, .vls _, h => by cases n <;> exact h.elim
  | n, .vtp _, h => by cases n <;> exact h.elim
  | n, .all _ _, h => by cases n <;> exact h.elim
theorem kls_shs : ∀ {n : Nat} (xs : List D), kls n xs → shs n xs
  | _, [], _ => True.intro
  | _, x :: xs, h => ⟨kl_sh x h.1, kls_shs xs h.2⟩
end
mutual
theorem kl_nk : ∀ {n : Nat} (d : D), D.kl n d → d.nk.data = d.py ∧ d.nk.depth ≤ n
  | n, .int _, _ => ⟨rfl, Nat.zero_le _⟩
  | n, .str s, h => ⟨rfl, Nat.zero_le _⟩
  | n + 1, .tup xs, h => by
    obtain ⟨h1, h2⟩ := kls_nks xs h
    exact ⟨congrArg PyData.tuple h1, Nat.succ_le_succ h2⟩
  | 0, .tup _, h => h.elim
  | n, .non, h => by cases n <;> exact h.elim
  | n, .lst _, h => by cases n <;> exact h.elim
  | n, .bl _, h => by cases n <;> exact h.elim
  | n, .dct _, h => by cases n <;> exact h.elim
  | n, .dtt _, h => by cases n <;> exact h.elim
  | n, .ins _ _, h => by cases n <;> exact h.elim
  | n, .ptr _, h => by cases n <;> exact h.elim
  | n, .key _, h => by cases n <;> exact h.elim
  | n, .scr _, h => by cases n <;> exact h.elim
  | n, .vls _, h => by cases n <;> exact h.elim
  | n, .vtp _, h => by cases n <;> exact h.elim
  | n, .all _ _, h => by cases n <;> exact h.elim
theorem kls_nks : ∀ {n : Nat} (xs : List D), kls n xs → NestedKey.datas (nks xs) = pys xs ∧ NestedKey.depthAll (nks xs) ≤ n
  | _, [], _ => ⟨rfl, Nat.zero_le _⟩
  | _, x :: xs, h => by
    obtain ⟨h1, h2⟩ := kl_nk x h.1
    obtain ⟨h3, h4⟩ := kls_nks xs h.2
    refine ⟨?_, Nat.max_le.mpr ⟨h2, h4⟩⟩
    show x.nk.data :: NestedKey.datas (nks xs) = x.py :: pys xs
    rw [h1, h3]
end
mutual
theorem reads_key {h : Heap} : ∀ {n : Nat} (d : D) (u : Value) (as : List Addr), D.kl n d → Reads h u d.py as → NestedIs h d.nk u
  | n, .int _, _, _, _, r => by
    have r' : Reads h _ (.int _) _ := r
    cases r'; exact .int _ _
  | n, .str s, _, _, _, r => by
    have r' : Reads h _ (.str s) _ := r
    cases r'; exact .text _ _
  | n + 1, .tup xs, _, _, hk, r => by
    have r' : Reads h _ (.tuple (pys xs)) _ := r
    cases r' with
    | tuple h1 h2 h3 h4 => exact .tup h1 h2 h3 (readsAll_key xs _ _ hk h4)
  | 0, .tup _, _, _, h, _ => h.elim
  | n, .non, _, _, h, _ => by cases n <;> exact h.elim
  | n, .lst _, _, _, h, _ => by cases n <;> exact h.elim
  | n, .bl _, _, _, h, _ => by cases n <;> exact h.elim
  | n, .dct _, _, _, h, _ => by cases n <;> exact h.elim
  | n, .dtt _, _, _, h, _ => by cases n <;> exact h.elim
  | n, .ins _ _, _, _, h, _ => by cases n <;> exact h.elim
  | n, .ptr _, _, _, h, _ => by cases n <;> exact h.elim
  | n, .key _, _, _, h, _ => by cases n <;> exact h.elim
  | n, .scr _, _, _, h, _ => by cases n <;> exact h.elim
  | n, .vls _, _, _, h, _ => by cases n <;> exact h.elim
  | n, .vtp _, _, _, h, _ => by cases n <;> exact h.elim
  | n, .all _ _, _, _, h, _ => by cases n <;> exact h.elim
theorem readsAll_key {h : Heap} : ∀ {n : Nat} (xs : List D) (us : List Value) (as : List Addr), kls n xs → ReadsAll h us (pys xs) as → NestedAll h (nks xs) us
  | _, [], _, _, _, r => by
    have r' : ReadsAll h _ [] _ := r
    cases r'; exact .nil
  | _, x :: xs, _, _, hk, r => by
    have r' : ReadsAll h _ (x.py :: pys xs) _ := r
    cases r' with
    | cons h1 h2 => exact .cons (reads_key x _ _ hk.1 h1) (readsAll_key xs _ _ hk.2 h2)
end
/-- the order of data -/
def leD (a b : D) : Bool := PySem.W.dataLe false D.py a b
theorem leD_antis {n : Nat} {a b : D} (ha : D.sh n a) (hb : D.sh n b) (al : PySem.W.alike a.py b.py = true) (h1 : leD a b = true) (h2 : leD b a = true) : a = b := by
  have e1 : PySem.W.dataLt b.py a.py = false := by
    have q : (!PySem.W.dataLt b.py a.py) = true := h1
    rwa [Bool.not_eq_true'] at q
  have e2 : PySem.W.dataLt a.py b.py = false := by
    have q : (!PySem.W.dataLt a.py b.py) = true := h2
    rwa [Bool.not_eq_true'] at q
  exact (D.eqv_iff a b ha hb).mp (data_antis al e2 e1)
/-- two sorted lists of the same are one -/
theorem sorted_one {n : Nat} {l m : List D} (hl : shs n l) (al : PySem.W.AllAlike (pys l)) (h1 : l.Pairwise (fun a b => leD a b = true)) (h2 : m.Pairwise (fun a b => leD a b = true)) (p : l.Perm m) : l = m :=
  List.Perm.eq_of_pairwise (fun a b ha hb q1 q2 => leD_antis (shs_all.mp hl a ha) (shs_all.mp hl b (p.mem_iff.mpr hb)) (by
    rw [pys_map] at al
    exact al _ (List.mem_map.mpr ⟨a, ha, rfl⟩) _ (List.mem_map.mpr ⟨b, p.mem_iff.mpr hb, rfl⟩)) q1 q2) h1 h2 p
theorem Reps.pair {K : PySem.W.Frag} {B : Hp} : ∀ {vs : List V} {ds : List D}, Reps K B vs ds → ∀ {us : List Value}, Vals vs us → ∃ T : List (V × D × Value), T.map (·.1) = vs ∧ T.map (·.2.1) = ds ∧ T.map (·.2.2) = us ∧ ∀ t ∈ T, Rep K B t.1 t.2.1 ∧ RelV t.1 t.2.2
  | _, _, .nil, _, .nil => ⟨[], rfl, rfl, rfl, fun t ht => by cases ht⟩
  | _, _, .cons (v := v) (d := d) h r, _, .cons (b := u) q s => by
    obtain ⟨T, h1, h2, h3, h4⟩ := Reps.pair r s
    refine ⟨(v, d, u) :: T, by rw [List.map_cons, h1], by rw [List.map_cons, h2], by rw [List.map_cons, h3], fun t ht => ?_⟩
    rcases List.mem_cons.mp ht with e | ht
    · rw [e]; exact ⟨h, q⟩
    · exact h4 t ht
theorem of_pair {K : PySem.W.Frag} {B : Hp} : ∀ {T : List (V × D × Value)}, (∀ t ∈ T, Rep K B t.1 t.2.1 ∧ RelV t.1 t.2.2) → Reps K B (T.map (·.1)) (T.map (·.2.1)) ∧ Vals (T.map (·.1)) (T.map (·.2.2))
  | [], _ => ⟨.nil, .nil⟩
  | t :: T, h => by
    obtain ⟨h1, h2⟩ := of_pair (T := T) fun x hx => h x (List.mem_cons_of_mem _ hx)
    obtain ⟨h3, h4⟩ := h t List.mem_cons_self
    exact ⟨.cons h3 h1, .cons h4 h2⟩
/-- a list of things that each come from T -/
theorem pick_from {α β : Type} {f : α → β} {T : List α} : ∀ {L : List β}, (∀ p ∈ L, ∃ t ∈ T, f t = p) → ∃ T' : List α, T'.map f = L ∧ ∀ t ∈ T', t ∈ T
  | [], _ => ⟨[], rfl, fun t ht => by cases ht⟩
  | p :: L, h => by
    obtain ⟨t, ht, e⟩ := h p List.mem_cons_self
    obtain ⟨T', h1, h2⟩ := pick_from (L := L) fun q hq => h q (List.mem_cons_of_mem _ hq)
    exact ⟨t :: T', by rw [List.map_cons, h1, e], fun x hx => (List.mem_cons.mp hx).elim (fun e => e ▸ ht) (h2 x)⟩
theorem nodup_le {α : Type} : ∀ {l m : List α}, l.Nodup → (∀ x ∈ l, x ∈ m) → l.length ≤ m.length
  | [], _, _, _ => Nat.zero_le _
  | x :: l, m, hn, hs => by
    obtain ⟨h1, h2⟩ := List.nodup_cons.mp hn
    obtain ⟨a, b, e⟩ := List.append_of_mem (hs x List.mem_cons_self)
    have ih := nodup_le (m := a ++ b) h2 fun y hy => by
      have := hs y (List.mem_cons_of_mem _ hy)
      rw [e] at this
      rcases List.mem_append.mp this with z | z
      · exact List.mem_append_left _ z
      · rcases List.mem_cons.mp z with z | z
        · exact absurd (z ▸ hy) h1
        · exact List.mem_append_right _ z
    rw [e]
    rw [List.length_append] at ih
    rw [List.length_append, List.length_cons, List.length_cons]
    omega
section
variable {X : Cx} {E : En} {a : Expr} {p p2 q pos : Pos} {ds es : List D}
/-- sorted(xs) -/
theorem f_sorted {n : Nat} (hu : X.A.units + 64 < cLine) (hsh : shs n ds) (hn : n ≤ 40) (hk : Srt (pys ds)) (hlen : ds.length ≤ 1000) (h1 : es.Pairwise (fun a b => leD a b = true)) (h2 : es.Perm ds) : CallOk X (.builtin "sorted") [.lst ds] (.nL es) := by
  refine ⟨fun vs H Q => ∃ (F : Fm) (E : En) (τ : List (V × D)) (σ : L2.St), SR X.K F E τ σ H ∧ Reps X.K (base F H (ow F E)) vs [.lst ds] ∧ Kt X.K F (ow F E) H (.nL es) Q, ?_, fun F E τ σ H vs Q S r k => ⟨F, E, τ, σ, S, r, k⟩⟩
  intro pins s σ H xs us Q I r h
  obtain ⟨F, E, τ, σ', S, rr, k⟩ := h
  cases rr with
  | cons r1 rs =>
    cases rs
    cases r1 with
    | lst qa ra =>
      rename_i ad vs
      rw [Vals.ref1 r]
      obtain ⟨its, rv, pl, hz⟩ := I.list (SqL.of (S.bex _ _ qa))
      obtain ⟨T, t1, t2, t3, t4⟩ := ra.pair rv
      have hb : ∀ t ∈ T, ∃ as, Reads s.heap t.2.2 t.2.1.py as := fun t ht => by
        obtain ⟨q1, q2⟩ := t4 t ht
        exact Dp.reads I _ _ _ (Rep.dp S.bex (shs_all.mp hsh _ (by rw [← t2]; exact List.mem_map.mpr ⟨t, ht, rfl⟩)) q1) q2
      have hl : T.length = ds.length := by rw [← t2, List.length_map]
      have hk' : Srt (T.map fun t => t.2.1.py) := by
        have e : (T.map fun t => t.2.1.py) = pys ds := by rw [pys_map, ← t2, List.map_map]; rfl
        rw [e]; exact hk
      have hits : its = (T.map (·.2.2)) := t3.symm
      rw [hits] at pl
      refine sorted_list (vs := T.map (·.2.2)) (bs := T) (enc := fun t => t.2.1.py) (R := fun v t => v = t.2.2) (by simpa using pl.isList) (each_of_list (fun t => t.2.2) T fun _ _ => rfl) (each_of_list (fun t => t.2.2) T hb) hk' (by rw [hl, sizeLine_eq]; omega) (fun t ht => ?_) fun out o1 o2 => ?_
      · obtain ⟨_, hd⟩ := D.sh_lay t.2.1 (shs_all.mp hsh _ (by rw [← t2]; exact List.mem_map.mpr ⟨t, ht, rfl⟩))
        show X.A.units + 2 + t.2.1.py.depth < cLine
        omega
      · have eo := each_list o2
        subst eo
        obtain ⟨T', hT'⟩ : ∃ T', T' = T.mergeSort (PySem.W.dataLe false fun t => t.2.1.py) := ⟨_, rfl⟩
        rw [← hT']
        have pm : T'.Perm T := by rw [hT']; exact List.mergeSort_perm T _
        have pw : T'.Pairwise (fun a b => PySem.W.dataLe false (fun t : V × D × Value => t.2.1.py) a b = true) := by
          rw [hT']
          exact PySem.W.sort_pairwise (PySem.W.sortLe_total (listOrd itemOrd) false fun t : V × D × Value => PySem.W.keyToks t.2.1.py) T
        have ee : es = T'.map (·.2.1) := by
          refine sorted_one (n := n) (shs_all.mpr fun x hx => shs_all.mp hsh x (h2.mem_iff.mp hx)) ?_ h1 (List.pairwise_map.mpr pw) (h2.trans (by rw [← t2]; exact (pm.map (·.2.1)).symm))
          have al := srt_alike hk
          intro x hx y hy
          rw [pys_map] at hx hy al
          obtain ⟨a, ha, rfl⟩ := List.mem_map.mp hx
          obtain ⟨b, hb, rfl⟩ := List.mem_map.mp hy
          exact al _ (List.mem_map.mpr ⟨a, h2.mem_iff.mp ha, rfl⟩) _ (List.mem_map.mpr ⟨b, h2.mem_iff.mp hb, rfl⟩)
        obtain ⟨g1, g2⟩ := of_pair (K := X.K) (B := base F H (ow F E)) (T := T') fun t ht => t4 t (pm.mem_iff.mp ht)
        obtain ⟨ep, he'⟩ := PyProof.Rows.sortedAll_at s.heap (T.map (·.2.2)) (T'.map (·.2.2)).toArray
        have hlen' : (T'.map (·.1)).length ≤ sizeLine := by
          rw [List.length_map, pm.length_eq, hl, sizeLine_eq]; omega
        have hp : H (s.heap.objs.size + 1) = none := I.hok.fresh (Nat.le_succ _)
        refine ⟨.ref _, upd H (s.heap.objs.size + 1) (.lst (T'.map (·.1))), I.laid (t' := s.toks) (fun _ _ => PyProof.Rows.sortedAll_old) (Nat.le_succ _) ⟨hlen', _, ep, g2, he'⟩, rfl, ?_⟩
        rw [ee] at k
        exact kt_lst S k g1 hp
/-- set(..) and then sorted(..) of it, at the machine -/
theorem run_ss {n : Nat} {tx : Bool} {pins : List (Addr × Obj)} {σ : L2.St} {H : Hp} {s : Shared} {F : Fm} {E : En} {τ : List (V × D)} {σ' : L2.St} {Q : VK} (I : Inv X pins σ H s) (hc : X.calm = true) (hu : X.A.units + 64 < cLine) (S : SR X.K F E τ σ' H) {T : List (V × D × Value)} {l : Addr}
    (pl : s.heap.IsList l (T.map (·.2.2)).toArray ∨ s.heap.IsTuple l (T.map (·.2.2)).toArray) (ht : ∀ t ∈ T, Rep X.K (base F H (ow F E)) t.1 t.2.1 ∧ RelV t.1 t.2.2) (hsh : kls n ds) (hT : T.map (·.2.1) = ds) (hn : n ≤ 4)
    (hkind : ∀ d ∈ ds, if tx = true then ∃ x, d = .str x else ∃ xs, d = .tup xs) (hk : Srt (pys es)) (hlen : ds.length ≤ 1000) (h1 : es.Pairwise (fun a b => leD a b = true)) (h2 : es.Nodup) (h3 : ∀ d, d ∈ es ↔ d ∈ ds) (k : Kt X.K F (ow F E) H (.nL es) Q) :
    wpAny (model X.prog X.w) X.A (call (.type "set") [.ref l]) (fun v s1 => wpAny (model X.prog X.w) X.A (call (.builtin "sorted") [v]) (EP X pins σ Q) X.xe s1) X.xe s := by
  have hlT : T.length = ds.length := by rw [← hT, List.length_map]
  have hmem : ∀ t ∈ T, t.2.1 ∈ ds := fun t ht => by rw [← hT]; exact List.mem_map.mpr ⟨t, ht, rfl⟩
  have hrd : ∀ t ∈ T, ∃ as, Reads s.heap t.2.2 t.2.1.py as := fun t hm => by
    obtain ⟨q1, q2⟩ := ht t hm
    exact Dp.reads I _ _ _ (Rep.dp S.bex (kl_sh _ (kls_all.mp hsh _ (hmem t hm))) q1) q2
  have kof : ∀ t : V × D × Value, ((fun t : V × D × Value => ((t.2.1.nk, t.2.2) : NV)) t).1 = t.2.1.nk := fun _ => rfl
  obtain ⟨ks, hks⟩ : ∃ ks : List NV, ks = T.map fun t => (t.2.1.nk, t.2.2) := ⟨_, rfl⟩
  have hit : (T.map (·.2.2)).toArray.toList = ks.map (·.2) := by rw [hks, List.map_map]; rfl
  have hok : ∀ p ∈ ks, ItemOk tx s.heap p := fun p hp => by
    rw [hks] at hp
    obtain ⟨t, hm, rfl⟩ := List.mem_map.mp hp
    obtain ⟨as, r⟩ := hrd t hm
    have hkl := kls_all.mp hsh _ (hmem t hm)
    have hN := reads_key t.2.1 t.2.2 as hkl r
    refine ⟨hN, ?_⟩
    have hkd := hkind _ (hmem t hm)
    cases tx with
    | true =>
      obtain ⟨x, e⟩ := hkd
      rw [e] at hN
      have hN' : NestedIs s.heap (.text x) t.2.2 := hN
      show ∃ y tk, t.2.1.nk = .text y ∧ t.2.2 = .str y tk
      rw [e]
      generalize hu2 : t.2.2 = u at hN'
      cases hN' with
      | text _ tk => exact ⟨x, tk, rfl, rfl⟩
    | false =>
      obtain ⟨xs, e⟩ := hkd
      show (∃ b, t.2.2 = .ref b) ∧ t.2.1.nk.depth ≤ 4
      refine ⟨?_, Nat.le_trans (kl_nk _ hkl).2 hn⟩
      rw [e] at hN
      have hN' : NestedIs s.heap (.tup (nks xs)) t.2.2 := hN
      generalize hu2 : t.2.2 = u at hN'
      cases hN' with
      | tup _ _ _ _ => exact ⟨_, rfl⟩
  have hkl : ks.length = ds.length := by rw [hks, List.length_map, hlT]
  have key : ∀ (h' : Heap) (tk : Nat) (L : List NV), SetZ tx X.w h' s.heap.objs.size L → GotN ks ks.length L → (∀ b o, s.heap.get? b = some o → h'.get? b = some o) →
      wpAny (model X.prog X.w) X.A (call (.builtin "sorted") [.ref s.heap.objs.size]) (EP X pins σ Q) X.xe { s with heap := h', toks := tk } := fun h' tk L R g hkeep => by
    have sub : ∀ p ∈ L, ∃ t ∈ T, ((t.2.1.nk, t.2.2) : NV) = p := fun p hp => by
      have := List.mem_of_mem_take (g.sub p hp)
      rw [hks] at this
      obtain ⟨t, h1, h2⟩ := List.mem_map.mp this
      exact ⟨t, h1, h2⟩
    have hdat : ∀ t ∈ T, t.2.1.nk.data = t.2.1.py ∧ t.2.1.nk.depth ≤ n := fun t hm => kl_nk _ (kls_all.mp hsh _ (hmem t hm))
    -- the members, and what they stand for
    have lift : ∀ L' : List NV, L'.Perm L → ∃ T' : List (V × D × Value), T'.map (fun t => ((t.2.1.nk, t.2.2) : NV)) = L' ∧ (∀ t ∈ T', t ∈ T) ∧ (T'.map (·.2.1)).Perm es := fun L' pm => by
      obtain ⟨T', e1, e2⟩ := pick_from (f := fun t : V × D × Value => ((t.2.1.nk, t.2.2) : NV)) (T := T) (L := L') fun p hp => sub p (pm.mem_iff.mp hp)
      refine ⟨T', e1, e2, ?_⟩
      obtain ⟨es', ep', t', C⟩ := R.common
      have ndk : (L'.map (·.1)).Nodup := (pm.map (·.1)).nodup_iff.mpr C.nd
      have enk : L'.map (·.1) = (T'.map (·.2.1)).map D.nk := by rw [← e1, List.map_map, List.map_map]; rfl
      have nd1 : (T'.map (·.2.1)).Nodup := by
        rw [enk] at ndk
        exact List.Pairwise.of_map D.nk (fun _ _ hne e => hne (congrArg D.nk e)) ndk
      refine (List.perm_ext_iff_of_nodup nd1 h2).mpr fun d => ?_
      rw [h3]
      constructor
      · intro hd
        obtain ⟨t, h5, rfl⟩ := List.mem_map.mp hd
        exact hmem t (e2 t h5)
      · intro hd
        rw [← hT] at hd
        obtain ⟨t, h5, rfl⟩ := List.mem_map.mp hd
        have hp : ((t.2.1.nk, t.2.2) : NV) ∈ ks.take ks.length := by
          rw [List.take_length, hks]
          exact List.mem_map.mpr ⟨t, h5, rfl⟩
        have h6 := g.all _ hp
        rw [← (pm.map (·.1)).mem_iff, enk, List.mem_map] at h6
        obtain ⟨d', h7, h8⟩ := h6
        obtain ⟨t', h9, rfl⟩ := List.mem_map.mp h7
        have e8 : t'.2.1.nk = t.2.1.nk := h8
        have ea := hdat t' (e2 t' h9)
        have eb := hdat t h5
        have e9 : t'.2.1 = t.2.1 := by
          refine (D.eqv_iff t'.2.1 t.2.1 (kl_sh _ (kls_all.mp hsh _ (hmem t' (e2 t' h9)))) (kl_sh _ (kls_all.mp hsh _ (hmem t h5)))).mp ?_
          rw [← ea.1, ← eb.1, e8, eb.1]
          exact (D.eqv_iff t.2.1 t.2.1 (kl_sh _ (kls_all.mp hsh _ (hmem t h5))) (kl_sh _ (kls_all.mp hsh _ (hmem t h5)))).mpr rfl
        rw [← e9]
        exact h7
    refine sorted_z (s := { s with heap := h', toks := tk }) R (fun p hp => ?_) (I.ok.hd hc) (fun L1 p1 => ?_) (fun p hp => ?_) fun s' pp out c L' keep g1 o1 hz hget hout pm pw => ?_
    · obtain ⟨t, hm, rfl⟩ := sub p hp
      obtain ⟨as, r⟩ := hrd t hm
      refine ⟨as, ?_⟩
      show Reads h' t.2.2 t.2.1.nk.data as
      rw [(hdat t hm).1]
      exact PyProof.Rows.Reads.keeps hkeep r
    · obtain ⟨T', e1, e2, e3⟩ := lift L1 p1
      have e4 : L1.map (fun p => p.1.data) = pys (T'.map (·.2.1)) := by
        rw [← e1, pys_map, List.map_map, List.map_map]
        exact List.map_congr_left fun t hm => (hdat t (e2 t hm)).1
      rw [e4]
      rcases hk with ⟨k1, k2⟩ | k1
      · have sub2 : ∀ d ∈ pys (T'.map (·.2.1)), d ∈ pys es := fun d hd => by
          rw [pys_map] at hd ⊢
          obtain ⟨x, hx, rfl⟩ := List.mem_map.mp hd
          exact List.mem_map.mpr ⟨x, e3.mem_iff.mp hx, rfl⟩
        refine .inl ⟨fun x hx y hy => k1 x (sub2 x hx) y (sub2 y hy), ?_⟩
        rcases k2 with k2 | k2
        · exact .inl fun d hd => k2 d (sub2 d hd)
        · exact .inr fun d hd => k2 d (sub2 d hd)
      · refine .inr ?_
        rw [pys_map] at k1 ⊢
        have e5 := e3.map D.py
        rw [k1] at e5
        exact List.perm_singleton.mp e5
    · obtain ⟨t, hm, rfl⟩ := sub p hp
      obtain ⟨_, hd⟩ := D.sh_lay t.2.1 (kl_sh _ (kls_all.mp hsh _ (hmem t hm)))
      show X.A.units + 10 + t.2.1.nk.data.depth < cLine
      rw [(hdat t hm).1]
      omega
    · obtain ⟨T', e1, e2, e3⟩ := lift L' pm
      have ee : es = T'.map (·.2.1) := by
        refine sorted_one (n := n) (shs_all.mpr fun x hx => kl_sh x (kls_all.mp hsh x ((h3 x).mp hx))) (srt_alike hk) h1 (List.pairwise_map.mpr ?_) e3.symm
        rw [← e1] at pw
        refine List.Pairwise.imp_of_mem (fun {x y} hx hy h => ?_) (List.pairwise_map.mp pw)
        have q : (!PySem.W.dataLt y.2.1.nk.data x.2.1.nk.data) = true := h
        rw [(hdat x (e2 x hx)).1, (hdat y (e2 y hy)).1] at q
        exact q
      obtain ⟨g2, g3⟩ := of_pair (K := X.K) (B := base F H (ow F E)) (T := T') fun t hm => ht t (e2 t hm)
      have hn2 : H pp = none := I.hok.fresh (Nat.le_trans (by
        rcases Nat.lt_or_ge h'.objs.size s.heap.objs.size with c2 | c2
        · exfalso
          obtain ⟨es', ep', t', C⟩ := R.common
          obtain ⟨o, ho, _⟩ := C.ob
          exact absurd (Nat.lt_trans (Heap.lt_size ho) c2) (Nat.lt_irrefl _)
        · exact c2) hz)
      have hlen' : (T'.map (·.1)).length ≤ sizeLine := by
        have e6 : T'.length = es.length := by rw [ee, List.length_map]
        have e7 : es.length ≤ ds.length := nodup_le h2 fun d hd => (h3 d).mp hd
        rw [List.length_map, sizeLine_eq]; omega
      have J : Inv X pins σ (upd H pp (.lst (T'.map (·.1)))) { s with heap := s'.heap, gens := s'.gens, drawn := s'.drawn, toks := s'.toks } :=
        I.call (ch := []) (Un.laid (fun b o e => keep b o (hkeep b o e)) (Nat.le_trans (by
          rcases Nat.lt_or_ge h'.objs.size s.heap.objs.size with c2 | c2
          · exfalso
            obtain ⟨es', ep', t', C⟩ := R.common
            obtain ⟨o, ho, _⟩ := C.ob
            exact absurd (Nat.lt_trans (Heap.lt_size ho) c2) (Nat.lt_irrefl _)
          · exact c2) hz) hn2) (I.hok.laid (fun b o e => keep b o (hkeep b o e)) (Nat.le_trans (by
          rcases Nat.lt_or_ge h'.objs.size s.heap.objs.size with c2 | c2
          · exfalso
            obtain ⟨es', ep', t', C⟩ := R.common
            obtain ⟨o, ho, _⟩ := C.ob
            exact absurd (Nat.lt_trans (Heap.lt_size ho) c2) (Nat.lt_irrefl _)
          · exact c2) hz) ⟨hlen', out.toList, c, by rw [hout, ← e1, List.map_map]; exact g3, by simpa using hget⟩) (by rw [g1]; exact I.bare) (fun _ z => nomatch z)
      have e : s' = { s with heap := s'.heap, gens := s'.gens, drawn := s'.drawn, toks := s'.toks } := by
        cases s'
        cases s
        cases o1
        rfl
      rw [e]
      rw [ee] at k
      exact ⟨.ref pp, _, J, rfl, kt_lst S k g2 hn2⟩
  rcases pl with pl | pl
  · exact call_set_list (tx := tx) ks (I.ok.hd hc) pl hit hok (by rw [hkl]; exact hlen) (by omega) key
  · exact call_set_tuple (tx := tx) ks (I.ok.hd hc) pl hit hok (by rw [hkl]; exact hlen) (by omega) key
/-- what sorted(set(xs)) makes of ds -/
structure AscOk (ds es : List D) : Prop where
  kl : kls 4 ds
  kind : (∀ d ∈ ds, ∃ x, d = .str x) ∨ (∀ d ∈ ds, ∃ xs, d = .tup xs)
  srt : Srt (pys es)
  few : ds.length ≤ 1000
  ord : es.Pairwise (fun a b => leD a b = true)
  nd : es.Nodup
  mem : ∀ d, d ∈ es ↔ d ∈ ds
def tSS (K : PySem.W.Frag) (E : En) (ds es : List D) : TE := fun σ H Q => ∃ F τ, SR K F E τ σ H ∧ Kt K F (ow F E) H (.nL es) Q
theorem ss_run {pins : List (Addr × Obj)} {σ : L2.St} {H : Hp} {s : Shared} {F : Fm} {τ : List (V × D)} {Q : VK} {v : V} {u : Value} (I : Inv X pins σ H s) (hc : X.calm = true) (hu : X.A.units + 64 < cLine) (S : SR X.K F E τ σ H) (rv : RelV v u) (r : Rep X.K (base F H (ow F E)) v (.lst ds) ∨ Rep X.K (base F H (ow F E)) v (.tup ds)) (A : AscOk ds es) (k : Kt X.K F (ow F E) H (.nL es) Q) :
    wpAny (model X.prog X.w) X.A (call (.type "set") [u]) (fun v s1 => wpAny (model X.prog X.w) X.A (call (.builtin "sorted") [v]) (EP X pins σ Q) X.xe s1) X.xe s := by
  have go : ∀ {l : Addr} {vs : List V} {its : List Value}, v = .ref l → Reps X.K (base F H (ow F E)) vs ds → Vals vs its → (s.heap.IsList l its.toArray ∨ s.heap.IsTuple l its.toArray) → wpAny (model X.prog X.w) X.A (call (.type "set") [u]) (fun v s1 => wpAny (model X.prog X.w) X.A (call (.builtin "sorted") [v]) (EP X pins σ Q) X.xe s1) X.xe s := by
    intro l vs its e rs rl pl
    subst e
    cases rv
    obtain ⟨T, t1, t2, t3, t4⟩ := rs.pair rl
    rw [← t3] at pl
    rcases A.kind with hk | hk
    · exact run_ss (tx := true) I hc hu S pl t4 A.kl t2 (by decide) (fun d hd => hk d hd) A.srt A.few A.ord A.nd A.mem k
    · exact run_ss (tx := false) I hc hu S pl t4 A.kl t2 (by decide) (fun d hd => hk d hd) A.srt A.few A.ord A.nd A.mem k
  rcases r with r | r
  · cases r with
    | lst q rs =>
      obtain ⟨its, rl, pl, _⟩ := I.list (SqL.of (S.bex _ _ q))
      exact go rfl rs rl (.inl pl.isList)
  · cases r with
    | tup q rs =>
      obtain ⟨its, rl, pl, _⟩ := I.tuple (S.bex.le.sqT q)
      exact go rfl rs rl (.inr pl)
/-- sorted(set(xs)) -/
theorem h_sortedSet (hu : X.A.units + 64 < cLine) (hm : X.mg "sorted" = none) (hm2 : X.mg "set" = none) (ha : HasD X E a (.lst ds) ∨ HasD X E a (.tup ds)) (A : AscOk ds es) (hc : X.calm = true := by rfl) (hg : Gl X "sorted" := by rfl) (hg2 : Gl X "set" := by rfl)
    (na : starEach [a] X.env = (false, eval a X.env) :: starEach [] X.env := by rfl) :
    HasR X E (.Call (.Name "sorted" p) [.Call (.Name "set" p2) [a] [] q] [] pos) (.nL es) := by
  refine ⟨fun pins s σ H Q I ⟨F, τ, S, k⟩ => ?_⟩
  refine Call_ (ld_blt I hg hm PyProof.Rows.boot_sorted ?_)
  refine PyProof.Rows.callWith_builtin1 (PyProof.Rows.args_cons ?_ rfl) rfl rfl
  refine Call_ (ld_blt I hg2 hm2 PyProof.Rows.boot_set ?_)
  have fin : wpAny (model X.prog X.w) X.A (eval a X.env) (fun u s1 => ∃ v H1, Inv X pins σ H1 s1 ∧ RelV v u ∧ (Rep X.K (base F H1 (ow F E)) v (.lst ds) ∨ Rep X.K (base F H1 (ow F E)) v (.tup ds)) ∧ Ex H H1) X.xe s := by
    rcases ha with ha | ha
    · exact thn (ha.run pins s σ H (fun v H1 => Rep X.K (base F H1 (ow F E)) v (.lst ds) ∧ Ex H H1) I ⟨F, τ, S, fun v sl H1 hs o => by cases hs; exact ⟨o.rp, o.ex⟩⟩) fun u s1 ⟨v, H1, I1, r1, q1⟩ => ⟨v, H1, I1, r1, .inl q1.1, q1.2⟩
    · exact thn (ha.run pins s σ H (fun v H1 => Rep X.K (base F H1 (ow F E)) v (.tup ds) ∧ Ex H H1) I ⟨F, τ, S, fun v sl H1 hs o => by cases hs; exact ⟨o.rp, o.ex⟩⟩) fun u s1 ⟨v, H1, I1, r1, q1⟩ => ⟨v, H1, I1, r1, .inr q1.1, q1.2⟩
  refine PyProof.Rows.callWith_type1 (PyProof.Rows.args_cons (thn fin fun u s1 ⟨v, H1, I1, r1, q1, e1⟩ => PyProof.Rows.args_nil ?_) na) na rfl
  exact thn (ss_run I1 hc hu (S.grow e1) r1 q1 A (Kt.later k e1)) fun w s2 h => PyProof.Rows.args_nil h
end
end K39
/-! KDict -/
set_option maxHeartbeats 4000000
/-! ## walks over the keys of a dict -/
namespace K39
open PySem PySem.Spec PyProof.Rows L2
section
variable {K : PySem.W.Frag} {F : Fm} {E : En} {τ : List (V × D)} {σ : L2.St} {H : Hp} {a : Addr} {ks : List (Key × V)} {u0 : HO}
/-- the frame while the dict at a is locked -/
def lockF (F : Fm) (a : Addr) (o : Obj) (ks : List (Key × V)) : Fm := ⟨upd F.B0 a (.frz o (.dK ks)), upd F.H0 a (.frz o (.dK ks)), F.gh⟩
theorem lk_H0 {o : Obj} {b : Addr} : (lockF F a o ks).H0 b = upd F.H0 a (.frz o (.dK ks)) b := rfl
theorem lk_B0 {o : Obj} {b : Addr} : (lockF F a o ks).B0 b = upd F.B0 a (.frz o (.dK ks)) b := rfl
theorem ow_lock {o : Obj} : ow (lockF F a o ks) E = ow F E := rfl
theorem base_lock {o : Obj} (h : a ∉ ow F E) {H' : Hp} : base (lockF F a o ks) H' (ow F E) a = some (.frz o (.dK ks)) := by
  rw [base_old (F := lockF F a o ks) h (o := .frz o (.dK ks)) (by rw [lk_H0, upd_same]), lk_B0, upd_same]
theorem base_lock_ne {o : Obj} {b : Addr} (hb : b ≠ a) {H' : Hp} {w : List Addr} : base (lockF F a o ks) H' w b = base F H' w b := by
  unfold base
  rw [lk_H0, lk_B0, upd_ne hb, upd_ne hb]
theorem base_upd_ne {H' : Hp} {w : List Addr} {b : Addr} {x : HO} (hb : b ≠ a) : base F (upd H' a x) w b = base F H' w b := by
  unfold base
  rw [upd_ne hb]
def isD (u0 : HO) (ks : List (Key × V)) : Prop := u0 = .dK ks ∨ ∃ o, u0 = .frz o (.dK ks)
theorem isD.rd {u1 : HO} (h : isD u0 ks) (p : plainO u1 = true) (q : u0 = u1 ∨ ∃ o, u0 = .frz o u1) : u1 = .dK ks := by
  rcases h with h | ⟨o, h⟩
  · subst h
    rcases q with q | ⟨o, q⟩
    · exact q.symm
    · cases q
  · subst h
    rcases q with q | ⟨o', q⟩
    · rw [← q] at p; cases p
    · cases q; rfl
theorem lock_le {o : Obj} (hd : isD u0 ks) (hb : base F H (ow F E) a = some u0) : Le (base F H (ow F E)) (base (lockF F a o ks) (upd H a (.frz o (.dK ks))) (ow F E)) := by
  have h : a ∉ ow F E := fun z => by rw [base_in z] at hb; cases hb
  have ne : ∀ b, b ≠ a → base (lockF F a o ks) (upd H a (.frz o (.dK ks))) (ow F E) b = base F H (ow F E) b := fun b hb' => by rw [base_lock_ne hb', base_upd_ne hb']
  refine ⟨fun b u p r => ?_, fun b C dx fs r => ?_, fun b vs r => ?_, fun b vs r => ?_⟩
  · by_cases e : b = a
    · subst e
      have e2 : u = .dK ks := by
        rcases r with r | ⟨o', r⟩
        · rw [hb] at r; cases r; exact isD.rd hd p (.inl rfl)
        · rw [hb] at r; cases r; exact isD.rd hd p (.inr ⟨o', rfl⟩)
      subst e2
      exact .inr ⟨o, base_lock h⟩
    · unfold Rd
      rw [ne b e]; exact r
  · have e : b ≠ a := fun e => by
      subst e
      rw [hb] at r; cases r
      rcases hd with q | ⟨_, q⟩ <;> cases q
    rw [ne b e]; exact r
  · have e : b ≠ a := fun e => by
      subst e
      rw [hb] at r; cases r
      rcases hd with q | ⟨_, q⟩ <;> cases q
    rw [ne b e]; exact r
  · have e : b ≠ a := fun e => by
      subst e
      rw [hb] at r; cases r
      rcases hd with q | ⟨_, q⟩ <;> cases q
    rw [ne b e]; exact r
theorem SR.lock (S : SR K F E τ σ H) (o : Obj) (hd : isD u0 ks) (hb : base F H (ow F E) a = some u0) : SR K (lockF F a o ks) E τ σ (upd H a (.frz o (.dK ks))) := by
  have h : a ∉ ow F E := fun z => by rw [base_in z] at hb; cases hb
  have le := lock_le (o := o) hd hb
  have kp : ∀ l ∈ ow F E, ∀ u, H l = some u → upd H a (.frz o (.dK ks)) l = some u := fun l hl u q => by
    rw [upd_ne (fun z : l = a => h (z ▸ hl))]; exact q
  refine ⟨S.len, fun i s hs => ?_, fun s hs => ?_, fun p hp => Rep.le le (S.tmp p hp), fun b u q => ?_, fun b u q => ?_, S.nd, fun l hl => ?_⟩
  · obtain ⟨v, h1, h2⟩ := S.slot i s hs
    exact ⟨v, h1, h2.le le fun l hl u q => kp l (mem_ow.mpr (.inl ⟨i, s, hs, hl⟩)) u q⟩
  · obtain ⟨v, h2⟩ := S.gho s hs
    exact ⟨v, h2.le le fun l hl u q => kp l (mem_ow.mpr (.inr ⟨s, hs, hl⟩)) u q⟩
  · have q' : upd F.H0 a (.frz o (.dK ks)) b = some u := q
    by_cases e : b = a
    · subst e; rw [upd_same] at q' ⊢; exact q'
    · rw [upd_ne e] at q' ⊢; exact S.ex b u q'
  · have q' : upd F.B0 a (.frz o (.dK ks)) b = some u := q
    show upd F.H0 a (.frz o (.dK ks)) b = some u
    by_cases e : b = a
    · subst e; rw [upd_same] at q' ⊢; exact q'
    · rw [upd_ne e] at q' ⊢; exact S.b0 b u q'
  · show upd F.H0 a (.frz o (.dK ks)) l = none
    rw [upd_ne (fun z : l = a => h (z ▸ hl))]
    exact S.fr l hl
/-- what was known of the place before -/
structure Was (F : Fm) (H : Hp) (w : List Addr) (a : Addr) (u0 : HO) : Prop where
  nw : a ∉ w
  old : ∀ z, F.H0 a = some z → z = u0 ∧ F.B0 a = some u0
theorem SR.was (S : SR K F E τ σ H) (hb : base F H (ow F E) a = some u0) : Was F H (ow F E) a u0 := by
  have h : a ∉ ow F E := fun z => by rw [base_in z] at hb; cases hb
  refine ⟨h, fun z hz => ?_⟩
  have q := hb
  rw [base_old h hz] at q
  have h1 := S.ex a z hz
  have h2 := S.bex a u0 hb
  rw [h1] at h2
  cases h2
  exact ⟨rfl, q⟩
theorem unlock_base {o : Obj} {w w' : List Addr} (W : Was F H w a u0) (h' : a ∉ w') {H' : Hp} : base F (upd H' a u0) w' a = some u0 := by
  cases q : F.H0 a with
  | none => rw [base_new h' q, upd_same]
  | some z => rw [base_old h' q, (W.old z q).2]
theorem unlock_le {o : Obj} {w w' : List Addr} (W : Was F H w a u0) (hd : isD u0 ks) (h' : a ∉ w') {H' : Hp} (hf : base (lockF F a o ks) H' w' a = some (.frz o (.dK ks))) : Le (base (lockF F a o ks) H' w') (base F (upd H' a u0) w') := by
  have ne : ∀ b, b ≠ a → base F (upd H' a u0) w' b = base (lockF F a o ks) H' w' b := fun b hb' => by rw [base_lock_ne hb', base_upd_ne hb']
  have at_ : base F (upd H' a u0) w' a = some u0 := unlock_base (o := o) W h'
  refine ⟨fun b u p r => ?_, fun b C dx fs r => ?_, fun b vs r => ?_, fun b vs r => ?_⟩
  · by_cases e : b = a
    · subst e
      have e2 : u = .dK ks := by
        rcases r with r | ⟨o', r⟩
        · rw [hf] at r; cases r; cases p
        · rw [hf] at r; cases r; rfl
      subst e2
      rcases hd with q | ⟨o', q⟩
      · subst q; exact .inl at_
      · subst q; exact .inr ⟨o', at_⟩
    · unfold Rd
      rw [ne b e]; exact r
  · have e : b ≠ a := fun e => by subst e; rw [hf] at r; cases r
    rw [ne b e]; exact r
  · have e : b ≠ a := fun e => by subst e; rw [hf] at r; cases r
    rw [ne b e]; exact r
  · have e : b ≠ a := fun e => by subst e; rw [hf] at r; cases r
    rw [ne b e]; exact r
theorem SR.unlock {w : List Addr} {F0 : Hp} {o : Obj} {E' : En} {τ' : List (V × D)} {σ' : L2.St} {H' : Hp} (W : Was F H w a u0) (hd : isD u0 ks) (hb0 : Ex F.B0 F.H0) (S : SR K (lockF F a o ks) E' τ' σ' H') : SR K F E' τ' σ' (upd H' a u0) := by
  have hH0 : (lockF F a o ks).H0 a = some (.frz o (.dK ks)) := by rw [lk_H0, upd_same]
  have h' : a ∉ ow F E' := fun z => by
    have := S.fr a z
    rw [hH0] at this; cases this
  have le := unlock_le (o := o) W hd h' (H' := H') (base_lock h')
  have kp : ∀ l ∈ ow F E', ∀ u, H' l = some u → upd H' a u0 l = some u := fun l hl u q => by
    rw [upd_ne (fun z : l = a => h' (z ▸ hl))]; exact q
  refine ⟨S.len, fun i s hs => ?_, fun s hs => ?_, fun p hp => Rep.le le (S.tmp p hp), fun b u q => ?_, hb0, S.nd, fun l hl => ?_⟩
  · obtain ⟨v, h1, h2⟩ := S.slot i s hs
    exact ⟨v, h1, h2.le le fun l hl u q => kp l (mem_ow.mpr (.inl ⟨i, s, hs, hl⟩)) u q⟩
  · obtain ⟨v, h2⟩ := S.gho s hs
    exact ⟨v, h2.le le fun l hl u q => kp l (mem_ow.mpr (.inr ⟨s, hs, hl⟩)) u q⟩
  · by_cases e : b = a
    · subst e
      rw [upd_same, (W.old u q).1]
    · rw [upd_ne e]
      refine S.ex b u ?_
      show upd F.H0 a _ b = some u
      rw [upd_ne e]; exact q
  · have q := S.fr l hl
    have q' : upd F.H0 a (.frz o (.dK ks)) l = none := q
    rwa [upd_ne (fun z : l = a => h' (z ▸ hl))] at q'
/-- what comes out while the dict is locked -/
theorem Out.unlock {o : Obj} {H' : Hp} {v : V} {s : Sl} (S : SR K F E τ σ H) (W : Was F H (ow F E) a u0) (hd : isD u0 ks) (hu : H a = some u0) (q : Out K (lockF F a o ks) (ow F E) (upd H a (.frz o (.dK ks))) H' v s) : Out K F (ow F E) H (upd H' a u0) v s ∧ H' a = some (.frz o (.dK ks)) := by
  have hf : H' a = some (.frz o (.dK ks)) := q.ex a _ upd_same
  have hs : ∀ l ∈ s.own, l ≠ a := fun l hl e => by
    have := q.new l hl
    rw [e, upd_same] at this
    cases this
  have h' : a ∉ s.own ++ ow F E := fun z => by
    rcases List.mem_append.mp z with z | z
    · exact hs a z rfl
    · exact W.nw z
  have hb : base (lockF F a o ks) H' (s.own ++ ow F E) a = some (.frz o (.dK ks)) := by
    rw [base_old (F := lockF F a o ks) h' (o := .frz o (.dK ks)) (by rw [lk_H0, upd_same]), lk_B0, upd_same]
  refine ⟨⟨fun b u e => ?_, q.rep.le (unlock_le (o := o) W hd h' hb) fun l hl u e => ?_, fun l hl => ?_, q.nd⟩, hf⟩
  · by_cases e2 : b = a
    · subst e2
      rw [upd_same]
      rw [hu] at e; exact e
    · rw [upd_ne e2]
      exact q.ex b u (by rw [upd_ne e2]; exact e)
  · rw [upd_ne (hs l hl)]; exact e
  · have := q.new l hl
    rwa [upd_ne (hs l hl)] at this
theorem wk_keys {o : Obj} {ds : List (Str × D)} {B : Hp} (r : RepsD K B ks ds) {H0 : Hp} (h0 : H0 a = some (.frz o (.dK ks))) : WalkD K H0 [] (Itk a o ks) (keysD ds) := by
  have hl : ks.length = (keysD ds).length := by unfold keysD; rw [List.length_map]; exact r.len
  refine ⟨fun i B H hi ex _ _ => ⟨ex _ _ h0, by rw [hl]; exact hi⟩, fun B H ex _ _ => ⟨ex _ _ h0, by rw [hl]; exact Nat.le_refl _⟩, fun i B H x H' hi ex _ _ y => ?_⟩
  obtain ⟨e, k, v, h1, h2⟩ := y
  refine ⟨e, ?_⟩
  have key : ∀ {ks : List (Key × V)} {ds : List (Str × D)} {B' : Hp} {i : Nat}, RepsD K B' ks ds → ks[i]? = some (k, v) → ∃ s, (keysD ds)[i]? = some (.str s) ∧ k = .inr s := by
    intro ks ds B' i r
    induction ds generalizing ks i with
    | nil => cases r; intro h; simp at h
    | cons p ds ih =>
      cases r with
      | cons q r =>
        intro h
        cases i with
        | zero =>
          have h' : _ = _ := Option.some.inj h
          cases h'
          exact ⟨_, rfl, rfl⟩
        | succ i =>
          obtain ⟨s, a1, a2⟩ := ih r (by simpa using h)
          exact ⟨s, by simpa [keysD] using a1, a2⟩
  obtain ⟨s, a1, a2⟩ := key r h1
  refine ⟨.str s, a1, ?_⟩
  rw [h2, a2]
  exact .str s
end
section
variable {X : Cx}
theorem ps_or {st : Stmt} {t : TS} (h : PS X st t) : PS X st (fun D σ H => tLock t D σ H ∨ t D σ H) := ⟨fun pins s σ H D I hw => hw.elim ((ps_lock h).run pins s σ H D I) (h.run pins s σ H D I)⟩
theorem pe_or' {e : Expr} {t : TE} (h : PE X e t) : PE X e (fun σ H Q => tLockE t σ H Q ∨ t σ H Q) := ⟨fun pins s σ H D I hw => hw.elim ((pe_lock h).run pins s σ H D I) (h.run pins s σ H D I)⟩
variable {E : En} {N : Po} {tg e : Expr} {ds : List (Str × D)} {body : List Stmt} {pos p : Pos} {φ : D → En → En → Prop} {x : Str}
theorem Hp_same {H : Hp} {a : Addr} {o : HO} (h : H a = some o) : upd H a o = H := by
  funext b
  by_cases e : b = a
  · subst e; rw [upd_same, h]
  · rw [upd_ne e]
/-- for k in d -/
theorem h_forD (I : Nat → En → Prop) (ix : Nat) (hg : TgOk X tg φ) (h0 : I 0 E) (hb : ∀ (i : Nat) (d : D) (E' : En), (keysD ds)[i]? = some d → I i E' → ∃ E2, φ d E' E2 ∧ HasSs X E2 body ⟨I (i + 1), N.rt, N.nx, I (i + 1)⟩)
    (hd : ∀ E', I (keysD ds).length E' → N.nx E') (hrt : ∀ s, ¬ N.rt s) (hbc : ∀ E, ¬ N.bk E ∧ ¬ N.ct E) (hE : E[ix]? = some (some (.val (.dct ds))) := by rfl) (hN : X.N[ix]? = some x := by rfl) (hv : Vis X.env.scope x := by first | exact Or.inl rfl | exact Or.inr (Or.inl rfl) | exact Or.inr (Or.inr rfl))
    (hdb : (x == ("__debug__" : Str)) = false := by decide) (hcd : (x == ("__classdict__" : Str)) = false := by decide)
    (hp : PassesOwn (model X.prog X.w) X.A X.env X.xe := by exact PassesOwn.never) (hc : X.calm = true := by rfl) (hs : ∀ y, foldedSetIterable (.Name x p) X.env y = pure y := by intro _; rfl) : HasS X E (.For tg (.Name x p) body [] pos) N := by
  obtain ⟨g, pg, hq⟩ := hg
  refine PS.mono (ps_or (ps_for hp hc (pi_keys (pe_var hN hv hdb hcd)) pg (PSs.of_any (ι := Nat × En) (P := fun q => HasSs X q.2 body ⟨I (q.1 + 1), N.rt, N.nx, I (q.1 + 1)⟩) (t := fun q => tSt X.K q.2 ⟨I (q.1 + 1), N.rt, N.nx, I (q.1 + 1)⟩) fun q h => h) hs)) fun Dn σ H ⟨F, τ, S, k1, k2, k3, k4⟩ => ?_
  obtain ⟨v, hv1, hv2⟩ := S.slot ix _ hE
  have hv3 : Rep X.K (base F H (ow F E)) v (.dct ds) := hv2
  cases hv3 with
  | dct q rs =>
    rename_i a ks
    have main : ∀ (u0 : HO) (o : Obj) (H1 : Hp), isD u0 ks → base F H (ow F E) a = some u0 → H1 = upd H a (.frz o (.dK ks)) → ∀ Dn' : Ends, (∀ σ' H', H' a = some (.frz o (.dK ks)) → Dn.nx σ' (upd H' a u0) → Dn'.nx σ' H') →
        tFor (iKeys (tVar ix)) g (fun D σ H => ∃ q : Nat × En, HasSs X q.2 body ⟨I (q.1 + 1), N.rt, N.nx, I (q.1 + 1)⟩ ∧ tSt X.K q.2 ⟨I (q.1 + 1), N.rt, N.nx, I (q.1 + 1)⟩ D σ H) Dn' σ H1 := by
      intro u0 o H1 hu hb1 e1 Dn' nx
      subst e1
      have W := S.was hb1
      have S1 := S.lock o hu hb1
      refine ⟨.ref a, hv1, a, o, rfl, .inl ⟨ks, upd_same, ?_⟩⟩
      have le := lock_le (o := o) hu hb1
      have fr : ∀ {E' : En} {σ' : L2.St} {H' : Hp} {τ' : List (V × D)}, SR X.K (lockF F a o ks) E' τ' σ' H' → H' a = some (.frz o (.dK ks)) := fun S' => S'.ex a _ (by rw [lk_H0, upd_same])
      refine for_walk (g := g) (tb := fun D σ H => ∃ q : Nat × En, HasSs X q.2 body ⟨I (q.1 + 1), N.rt, N.nx, I (q.1 + 1)⟩ ∧ tSt X.K q.2 ⟨I (q.1 + 1), N.rt, N.nx, I (q.1 + 1)⟩ D σ H) (t := []) (wk_keys (RepsD.le le rs) (by rw [lk_H0, upd_same])) I h0 S1 (fun i d E' xx σ' H2 hd' hI S' r M hM => ?_) fun E' σ' H2 hI S' => nx σ' H2 (fr S') (k1 E' σ' _ (hd E' hI) (SR.unlock (F0 := H) W hu S.b0 S'))
      obtain ⟨E2, h1, h2⟩ := hb i d E' hd' hI
      exact hq (lockF F a o ks) E' E2 ([] ++ τ) σ' H2 xx d h1 S' r _ fun σ2 S2 => ⟨(i, E2), h2, lockF F a o ks, [] ++ τ, S2, fun E3 σ3 H3 hn S3 => hM E3 σ3 H3 hn S3, fun _ s _ h => (hrt s h).elim, fun E3 σ3 H3 hn S3 => nx σ3 H3 (fr S3) (k1 E3 σ3 _ hn (SR.unlock (F0 := H) W hu S.b0 S3)), fun E3 σ3 H3 hn S3 => hM E3 σ3 H3 hn S3⟩
    rcases q with q | ⟨o, q⟩
    · refine .inl ⟨a, .dK ks, S.bex _ _ q, True.intro, fun od => ?_⟩
      exact main (.dK ks) od _ (.inl rfl) q rfl _ fun σ' H' h1 h2 => ⟨h1, h2⟩
    · refine .inr ?_
      have hH := S.bex _ _ q
      exact main (.frz o (.dK ks)) o H (.inr ⟨o, rfl⟩) q (Hp_same hH).symm _ fun σ' H' h1 h2 => by
        rw [Hp_same h1] at h2
        exact h2
/-- [elt for k in d if ..] -/
theorem h_lcD {elt : Expr} {y : Str} {px : Pos} {ifs : List Expr} {scope : Scope} (ix j : Nat) (kf : D → Option D) (hN : X.N.Nodup) (hz : ds.length ≤ 100000) (hok : blkC X.N X.env.scope scope [(y, j)] = true)
    (hs : ∀ (i : Nat) (d : D), (keysD ds)[i]? = some d → ∀ b : Blk X scope, HasTs b.x ((E.set j none).set j (some (.val d))) ifs (kf d).isSome ∧ ∀ d', kf d = some d' → HasD b.x ((E.set j none).set j (some (.val d))) elt d')
    (hE : E[ix]? = some (some (.val (.dct ds))) := by rfl) (hNx : X.N[ix]? = some x := by rfl) (hv : Vis X.env.scope x := by first | exact Or.inl rfl | exact Or.inr (Or.inl rfl) | exact Or.inr (Or.inr rfl))
    (hdb : (x == ("__debug__" : Str)) = false := by decide) (hcd : (x == ("__classdict__" : Str)) = false := by decide)
    (hj : X.N[j]? = some y := by rfl) (hjE : j < E.length := by exact Nat.le_of_ble_eq_true rfl) (hw : owns (E.set j none) = owns E := by rfl) (hc : X.calm = true := by rfl)
    (hx : ∀ b : Blk X scope, Loc b.x.env.scope y := by first | exact fun _ => Or.inl rfl | exact fun _ => Or.inr rfl)
    (hf : ∀ b : Blk X scope, b.x.fn y = true ∨ b.x.env.scope.names.lookup y = some .local := by first | exact fun _ => .inl rfl | exact fun _ => .inr rfl)
    (hfi : ∀ z, foldedSetIterable (.Name x p) X.env z = pure z := by intro _; rfl) : HasR X E (.ListComp elt [⟨.Name y px, .Name x p, ifs, 0⟩] scope pos) (.nL ((keysD ds).filterMap kf)) := by
  refine PE.mono (pe_or' (pe_lc (pos := pos) (own := [(y, j)]) hc hN (pi_keys (pe_var hNx hv hdb hcd)) (blkOk_by hok) (tg_blk fun b => pg_name hN hj (hx b) (hf b))
    (fun s H C cl fp => PTs.of_any (ι := Nat × D) (P := fun q => (keysD ds)[q.1]? = some q.2) (t := fun q => tTs X.K ((E.set j none).set j (some (.val q.2))) (kf q.2).isSome) fun q h => (hs q.1 q.2 h (s, H, C, cl, fp)).1)
    (fun s H C cl fp => PE.of_any (ι := Nat × D × D) (P := fun q => (keysD ds)[q.1]? = some q.2.1 ∧ kf q.2.1 = some q.2.2) (t := fun q => tEv X.K ((E.set j none).set j (some (.val q.2.1))) (.val q.2.2)) fun q h => (hs q.1 q.2.1 h.1 (s, H, C, cl, fp)).2 q.2.2 h.2) hfi)) fun σ H Q ⟨F, τ, S, k⟩ => ?_
  obtain ⟨v, hv1, hv2⟩ := S.slot ix _ hE
  have hv3 : Rep X.K (base F H (ow F E)) v (.dct ds) := hv2
  cases hv3 with
  | dct q rs =>
    rename_i a ks
    have hz' : (keysD ds).length ≤ 100000 := by unfold keysD; rw [List.length_map]; exact hz
    have main : ∀ (u0 : HO) (o : Obj) (H1 : Hp), isD u0 ks → base F H (ow F E) a = some u0 → H1 = upd H a (.frz o (.dK ks)) → ∀ Q' : VK, (∀ v H', H' a = some (.frz o (.dK ks)) → Q v (upd H' a u0) → Q' v H') →
        tLc (iKeys (tVar ix)) (gName j) (lcT X.K E j (keysD ds) kf) (lcE X.K E j (keysD ds) kf) [j] σ H1 Q' := by
      intro u0 o H1 hu hb1 e1 Q' qq
      subst e1
      have W := S.was hb1
      have S1 := S.lock o hu hb1
      have le := lock_le (o := o) hu hb1
      have hua : H a = some u0 := S.bex _ _ hb1
      refine ⟨.ref a, hv1, a, o, rfl, .inl ⟨ks, upd_same, ?_⟩⟩
      exact lc_in (K := X.K) (F := lockF F a o ks) (τ := τ) (ds := keysD ds) (j := j) (kf := kf) hz' hjE hw (t := []) (wk_keys (RepsD.le le rs) (by rw [lk_H0, upd_same])) S1 fun v s H' hs' oo => by
        obtain ⟨o1, o2⟩ := Out.unlock S W hu hua oo
        exact qq v H' o2 (k v s _ hs' o1)
    rcases q with q | ⟨o, q⟩
    · refine .inl ⟨a, .dK ks, S.bex _ _ q, True.intro, fun od => ?_⟩
      exact main (.dK ks) od _ (.inl rfl) q rfl _ fun v H' h1 h2 => ⟨h1, h2⟩
    · refine .inr ?_
      have hH := S.bex _ _ q
      exact main (.frz o (.dK ks)) o H (.inr ⟨o, rfl⟩) q (Hp_same hH).symm _ fun v H' h1 h2 => by
        rw [Hp_same h1] at h2
        exact h2
end
end K39
/-! KMisc -/
set_option maxHeartbeats 4000000
/-! ## chains, signs, dict displays, index, dicts with tuple keys -/
namespace K39
open PySem PySem.Spec PyProof.Rows L2
section
variable {X : Cx} {E : En} {a b c e e2 : Expr} {pos p apos cpos : Pos} {d1 d2 d3 d : D} {k1 k2 : Bool} {op op' : CmpOp}
/-- a op b op' c -/
theorem h_chain (h1 : CmpOk X op d1 d2 k1) (h2 : CmpOk X op' d2 d3 k2) (ha : HasD X E a d1) (hb : HasD X E b d2) (hc : HasD X E c d3) (hm : lastMarks [op, op'] [b, c] = false := by with_unfolding_all rfl) : HasD X E (.Compare a [op, op'] [b, c] pos) (.bl (k1 && k2)) := by
  obtain ⟨r1, hr1, q1⟩ := h1
  obtain ⟨r2, hr2, q2⟩ := h2
  refine PE.mono (pe_chain hr1 hr2 ha hb hc hm) fun σ H Q ⟨F, τ, S, kt⟩ => ⟨F, τ, S, fun v s H1 hs o => ?_⟩
  cases hs
  refine ⟨F, τ, S.grow o.ex, fun w s H2 hs2 o2 => ?_⟩
  cases hs2
  have S2 := (S.grow o.ex).grow o2.ex
  refine q1 v w (base F H2 (ow F E)) H2 _ S2.bex (Rep.le ((S.grow o.ex).bmono o2.ex).le o.rp) o2.rp ⟨k1, rfl, ?_⟩
  cases k1 with
  | false =>
    refine iteF ?_
    exact kt _ _ _ rfl (.val (o.ex.trans o2.ex) (.bl _))
  | true =>
    refine iteT ?_
    refine ⟨F, τ, S2, fun u s H3 hs3 o3 => ?_⟩
    cases hs3
    exact q2 w u (base F H3 (ow F E)) H3 Q (S2.grow o3.ex).bex (Rep.le (S2.bmono o3.ex).le o2.rp) o3.rp (kt _ _ _ rfl (.val ((o.ex.trans o2.ex).trans o3.ex) (.bl _)))
/-- -e -/
theorem h_neg {i : Int} (ha : HasD X E a (.int i)) : HasD X E (.UnaryOp .USub a pos) (.int (-i)) := PE.mono (pe_un un_neg ha) fun σ H Q ⟨F, τ, S, kt⟩ => ⟨F, τ, S, fun v s H1 hs o => by
  cases hs
  have r := o.rp
  cases r
  exact ⟨i, rfl, kt _ _ _ rfl (.val o.ex (.int _))⟩⟩
/-- xs.index(e), a list of texts -/
theorem h_index {ys : List Str} {y : Str} {j : Nat} (hu : X.A.units + 65 < cLine) (ho : HasD X E a (.lst (ys.map .str))) (he : HasD X E e (.str y)) (hys : shs 1 (ys.map .str)) (hy : PyData.strOk y = true) (hj : ys[j]? = some y) (hf : ∀ m, m < j → ys[m]? ≠ some y)
    (PEM : ∀ {te ta : TE}, X.A.units + 65 < cLine → PE X a ta → PE X e te → PE X (.Call (.Attribute a "index" apos) [e] [] cpos) (tBM X.K "list" (rIndexD X.K) ta (tCons te tNil)) := by
      exact fun hu ho ha => pe_bm PySem.F.plainAttrs_list PySem.F.slot_list_index PySem.F.type_list_index (mt_indexD hu) ho (pa_cons ha pa_nil)) : HasD X E (.Call (.Attribute a "index" apos) [e] [] cpos) (.int (j : Int)) := by
  refine PE.mono (PEM hu ho he) fun σ H Q ⟨F, τ, S, kt⟩ => ⟨F, τ, S, fun v s H1 hs o => ?_⟩
  cases hs
  have r := o.rp
  have S1 := S.grow o.ex
  cases r with
  | lst q rs =>
    rename_i l vs
    refine ⟨.inl ⟨rfl, vs, SqL.of (S1.bex _ _ q)⟩, F, τ, S1, fun w s H2 hs2 o2 => ?_⟩
    cases hs2
    have r2 := o2.rp
    cases r2
    have S2 := S1.grow o2.ex
    have hd : Dp X.K H2 (V.ref l) (D.lst (ys.map .str)).py := Rep.dp (n := 2) S2.bex hys (Rep.le (S1.bmono o2.ex).le (.lst q rs))
    refine ⟨l, .str y, .str y, pys (ys.map .str), j, .str y, rfl, rfl, hd, .str y, D.shaped (n := 2) (d := .lst (ys.map .str)) hys, D.shaped (n := 1) (d := .str y) hy, ?_, ?_, fun m z hm hz => ?_, kt _ _ _ rfl (.val (o.ex.trans o2.ex) (.int _))⟩
    · rw [pys_map, List.map_map, List.getElem?_map, hj]; rfl
    · simp [PyData.eqv]
    · rw [pys_map, List.map_map, List.getElem?_map] at hz
      cases q : ys[m]? with
      | none => rw [q] at hz; cases hz
      | some z' =>
        rw [q] at hz
        cases hz
        have : z' ≠ y := fun e => hf m hm (by rw [q, e])
        simp [D.py, PyData.eqv, this]
/-- {'a': 'b', ..}: texts -/
def cks (ks : List (Str × Str)) (j : Nat) (f : Nat → Pos × Pos) : List (Option Expr) × List Expr := (ks.map fun p => some (.Constant (.str p.1) j (f 0).1), ks.map fun p => .Constant (.str p.2) j (f 0).2)
theorem tPairs_str {K : PySem.W.Frag} {σ : L2.St} {R : List (V × V) → Hp → Prop} : ∀ {ps : List (Str × Str)} {H : Hp}, R (ps.map fun p => (V.str p.1, V.str p.2)) H → tPairs (ps.map fun p => (tC (.str p.1), tC (.str p.2))) σ H R
  | [], _, h => h
  | p :: ps, _, h => tPairs_str (K := K) (ps := ps) (R := fun l H => R ((V.str p.1, V.str p.2) :: l) H) h
theorem RepsD.strs {K : PySem.W.Frag} {B : Hp} : ∀ (ps : List (Str × Str)), RepsD K B (ps.map fun p => (.inr p.1, .str p.2)) (ps.map fun p => (p.1, .str p.2))
  | [] => .nil
  | p :: ps => .cons (.str _) (RepsD.strs ps)
theorem h_disp {keys : List (Option Expr)} {values : List Expr} (ps : List (Str × Str)) (hp : PPs X pos keys values (ps.map fun p => (tC (.str p.1), tC (.str p.2)))) (hm : mergeK [] (ps.map fun p => ((.inr p.1 : Key), V.str p.2)) = ps.map fun p => (.inr p.1, .str p.2)) (hn : keys.length ≤ 15 := by decide) (h0 : keys ≠ [] := by exact fun h => nomatch h)
    (hall : keys.all (·.isSome) = true := by rfl) (hl : keys.length = values.length := by rfl) (hps : ps.length ≤ 15 := by decide) : HasR X E (.Dict keys values pos) (.nD (ps.map fun p => (p.1, .str p.2))) :=
  PE.mono (pe_disp hp hall hl h0 hn) fun σ H Q ⟨F, τ, S, k⟩ q hq => by
    refine tPairs_str (K := X.K) ⟨upd_same, ps.map fun p => (.inr p.1, .str p.2), ?_, by rw [List.length_map]; exact hps, ?_⟩
    · rw [List.map_map]; rfl
    · rw [hm, upd_upd]
      exact kt_dct S k (RepsD.strs ps) hq
end
/-! ### dicts with tuple keys -/
section
variable {X : Cx} {E : En} {N : Po} {e e2 o : Expr} {pos p sp : Pos} {x : Str}
theorem Rep.unkey {K : PySem.W.Frag} {B : Hp} {v : V} {xs : List Str} (h : Rep K B v (.key xs)) : Rep K B v (.tup (xs.map .str)) := by
  cases h with
  | key h =>
    refine .tup (.inl (.inl h)) ?_
    have : ∀ xs : List Str, Reps K B (xs.map V.str) (xs.map D.str) := by
      intro xs
      induction xs with
      | nil => exact .nil
      | cons y ys ih => exact .cons (.str y) ih
    exact this xs
theorem h_unkey {xs : List Str} (h : HasD X E e (.key xs)) : HasD X E e (.tup (xs.map .str)) := PE.mono h fun σ H Q ⟨F, τ, S, k⟩ => ⟨F, τ, S, fun v s H' hs o => by
  cases hs
  exact k v _ H' rfl (.val o.ex o.rp.unkey)⟩
theorem Reps.unkeys {K : PySem.W.Frag} {B : Hp} : ∀ {vs : List V} {ks : List (List Str)}, Reps K B vs (ks.map .key) → Reps K B vs (ks.map fun xs => .tup (xs.map .str))
  | _, [], .nil => .nil
  | _, _ :: _, .cons h r => .cons h.unkey (Reps.unkeys r)
theorem h_unkeys {ks : List (List Str)} (h : HasD X E e (.lst (ks.map .key))) : HasD X E e (.lst (ks.map fun xs => .tup (xs.map .str))) := PE.mono h fun σ H Q ⟨F, τ, S, k⟩ => ⟨F, τ, S, fun v s H' hs o => by
  cases hs
  have r := o.rp
  cases r with
  | lst q rs => exact k _ _ H' rfl (.val o.ex (.lst q rs.unkeys))⟩
theorem strs_of {K : PySem.W.Frag} {B : Hp} : ∀ {vs : List V} {xs : List Str}, Reps K B vs (xs.map .str) → vs = xs.map V.str
  | _, [], .nil => rfl
  | _, _ :: _, .cons h r => by
    cases h
    rw [strs_of r]
    rfl
/-- a new tuple of texts, as a key -/
theorem h_key {es : List Expr} {xs : List Str} {x1 : Nat} (h : HA X E es (xs.map .str)) (hl : xs.length ≤ 1000 := by exact Nat.le_of_ble_eq_true rfl) (h0 : xs ≠ [] := by exact fun h => nomatch h) : HasD X E (.Tuple es x1 pos) (.key xs) := PE.mono (pe_tup h) fun σ H Q ⟨F, τ, S, k⟩ => ⟨F, τ, S, fun vs H1 e1 r =>
  ⟨by rw [r.len, List.length_map]; exact Nat.le_of_lt (small1000 hl), fun q hq => by
    have ev := strs_of r
    subst ev
    exact k _ _ _ rfl (.val (e1.trans (Ex.upd hq)) (.key ((S.grow e1).bupd hq)))⟩⟩
theorem lookup_dT {xs : List Str} : ∀ {kvs : List (List Str × Int)}, valV (dT kvs) (xs.map Sum.inr) = (kvs.lookup xs).map V.int
  | [] => rfl
  | (ys, i) :: kvs => by
    unfold valV dT
    rw [List.map_cons, List.find?_cons, List.lookup_cons]
    by_cases h : ys = xs
    · subst h
      simp
    · have h1 : ¬ (ys.map Sum.inr : List Key) = xs.map Sum.inr := fun e => h ((List.map_inj_right (fun _ _ h => Sum.inr.inj h)).mp e)
      have h2 : (xs == ys) = false := beq_eq_false_iff_ne.mpr fun e => h e.symm
      simp only [h1, decide_false, h2]
      exact lookup_dT
/-- d[k], d with tuple keys -/
theorem h_tget {kvs : List (List Str × Int)} {xs : List Str} {i : Int} (hu : X.A.units + 1 < cLine) (h : kvs.lookup xs = some i) (ha : HasD X E o (.dtt kvs)) (hb : HasD X E e (.key xs)) (hs : NoSl e := by exact fun _ _ => rfl) : HasD X E (.Subscript o e pos) (.int i) :=
  PE.mono (pe_dget hu ha hb hs) fun σ H Q ⟨F, τ, S, kt⟩ => ⟨F, τ, S, fun v s H1 hs o => by
    cases hs
    refine ⟨F, τ, S.grow o.ex, fun w s H2 hs2 o2 => ?_⟩
    cases hs2
    have r1 := Rep.le ((S.grow o.ex).bmono o2.ex).le o.rp
    have r2 := o2.rp
    have S2 := (S.grow o.ex).grow o2.ex
    cases r1 with
    | dtt q1 =>
      cases r2 with
      | key q2 =>
        rename_i b
        have q1' := S2.bex.le.rd _ _ rfl q1
        refine ⟨_, V.int i, rfl, .inr ⟨_, xs.map Sum.inr, b, q1', rfl, ?_, ?_⟩, kt _ _ _ rfl (.val (o.ex.trans o2.ex) (.int i))⟩
        · rw [List.map_map]
          exact S2.bex _ _ q2
        · rw [lookup_dT, h]; rfl⟩
/-- d[k] = i, by data -/
def tput (kvs : List (List Str × Int)) (xs : List Str) (i : Int) : List (List Str × Int) := match kvs.lookup xs with
  | none => kvs ++ [(xs, i)]
  | some _ => kvs.map fun p => if p.1 = xs then (xs, i) else p
theorem dT_put {xs : List Str} {i : Int} {kvs : List (List Str × Int)} : putK (dT kvs) (xs.map Sum.inr) (V.int i) = dT (tput kvs xs i) := by
  have inj : ∀ ys : List Str, (ys.map Sum.inr : List Key) = xs.map Sum.inr ↔ ys = xs := fun ys => List.map_inj_right (fun _ _ h => Sum.inr.inj h)
  have e1 : (dT kvs).any (fun kv => decide (kv.1 = xs.map Sum.inr)) = (kvs.lookup xs).isSome := by
    induction kvs with
    | nil => rfl
    | cons p kvs ih =>
      obtain ⟨ys, j⟩ := p
      unfold dT at ih ⊢
      rw [List.map_cons, List.any_cons, List.lookup_cons, ih]
      by_cases h : ys = xs
      · subst h; simp
      · have h2 : (xs == ys) = false := beq_eq_false_iff_ne.mpr fun e => h e.symm
        simp [inj, h, h2]
  unfold putK tput
  rw [e1]
  cases q : kvs.lookup xs with
  | none =>
    rw [if_neg (by simp)]
    unfold dT
    rw [List.map_append]
    rfl
  | some z =>
    rw [if_pos (by simp)]
    unfold dT
    rw [List.map_map, List.map_map]
    refine List.map_congr_left fun p _ => ?_
    show (if (p.1.map Sum.inr : List Key) = xs.map Sum.inr then ((p.1.map Sum.inr : List Key), V.int i) else (p.1.map Sum.inr, V.int p.2)) = ((if p.1 = xs then (xs, i) else p).1.map Sum.inr, V.int (if p.1 = xs then (xs, i) else p).2)
    by_cases h : p.1 = xs
    · rw [if_pos ((inj _).mpr h), if_pos h, h]
    · rw [if_neg fun z => h ((inj _).mp z), if_neg h]
theorem s_tput (i : Nat) {l : Addr} {kvs : List (List Str × Int)} {xs : List Str} {z : Int} (hu : X.A.units + 1 < cLine) (he : HasD X E e (.int z)) (hk : HasD X E e2 (.key xs)) (hz : kvs.length < 1000) (hn : N.nx (E.set i (some (.oT l (tput kvs xs z))))) (hE : E[i]? = some (some (.oT l kvs)) := by rfl)
    (hN : X.N[i]? = some x := by rfl) (hv : Vis X.env.scope x := by first | exact Or.inl rfl | exact Or.inr (Or.inl rfl) | exact Or.inr (Or.inr rfl)) (hd : (x == ("__debug__" : Str)) = false := by decide) (hcd : (x == ("__classdict__" : Str)) = false := by decide)
    (hs : swapsWith e (some (.Subscript (.Name x p) e2 sp)) pos.line X.env = pure false := by rfl) : HasS X E (.Assign [.Subscript (.Name x p) e2 sp] e pos) N := by
  refine PS.mono (ps_dput hu (pe_var hN hv hd hcd) hk he hs) fun D σ H ⟨F, τ, S, k, _⟩ => ?_
  refine ⟨F, τ, S, fun w s H1 hs o => ?_⟩
  cases hs
  have S1 := S.grow o.ex
  have rw1 := o.rp
  cases rw1
  obtain ⟨v, h1, rfl, h2⟩ := S1.slot i _ hE
  have hl : l ∈ ow F E := mem_ow.mpr (.inl ⟨i, _, hE, by simp [Sl.own]⟩)
  refine ⟨_, h1, F, τ, S1, fun u s H2 hs2 o2 => ?_⟩
  cases hs2
  have r2 := o2.rp
  have S2 := S1.grow o2.ex
  have h2' := o2.ex _ _ h2
  cases r2 with
  | key q2 =>
    rename_i b
    refine ⟨l, _, rfl, DPut.t (k := xs.map Sum.inr) h2' (by rw [List.map_map]; exact S2.bex _ _ q2) (by unfold dT; rw [List.length_map]; exact small1000 (Nat.le_of_lt hz)), k _ _ _ hn ?_⟩
    refine S2.mut hE (fun a ha => .inl ha) (by simp [Sl.own]) (fun a u ha q => by rw [upd_ne (fun z => ha (by simp [Sl.own, z]))]; exact q) fun v' hv' => ?_
    have hv2 : v' = .ref l := by
      rw [h1] at hv'
      cases hv'; rfl
    exact ⟨hv2, by rw [upd_same, dT_put]⟩
end
end K39
/-! KComp2 -/
set_option maxHeartbeats 4000000
/-! ## [elt for a, b in xs for c in ys] -/
namespace K39
open PySem PySem.Spec PyProof.Rows L2
theorem wipe_in {σ : L2.St} {k : Nat} : ∀ {vs : List Nat}, k ∈ vs → k < σ.length → (wipe σ vs)[k]? = some none
  | [], h, _ => by simp at h
  | v :: vs, h, hk => by
    show ((wipe σ vs).set v none)[k]? = some none
    by_cases e : v = k
    · subst e
      rw [List.getElem?_set_self (by rw [wipe_length]; exact hk)]
    · rw [List.getElem?_set_ne e]
      exact wipe_in ((List.mem_cons.mp h).resolve_left fun z => e z.symm) hk
theorem wipe_ext {σ σ' : L2.St} {vs : List Nat} (hl : σ.length = σ'.length) (h : ∀ k, k ∉ vs → σ[k]? = σ'[k]?) : wipe σ vs = wipe σ' vs := by
  apply List.ext_getElem?
  intro k
  by_cases hk : k ∈ vs
  · by_cases hl' : k < σ.length
    · rw [wipe_in hk hl', wipe_in hk (by rw [← hl]; exact hl')]
    · rw [List.getElem?_eq_none (by rw [wipe_length]; omega), List.getElem?_eq_none (by rw [wipe_length]; omega)]
  · rw [wipe_out hk, wipe_out hk, h k hk]
theorem wipe_set {σ : L2.St} {vs : List Nat} {j : Nat} {v : Option V} (hj : j ∈ vs) : wipe (σ.set j v) vs = wipe σ vs :=
  wipe_ext (by simp) fun k hk => by rw [List.getElem?_set_ne (fun e : j = k => hk (e ▸ hj))]
theorem wipe_wipe {σ : L2.St} {vs : List Nat} : wipe (wipe σ vs) vs = wipe σ vs := wipe_ext (wipe_length _ _) fun k hk => wipe_out hk
theorem PI.of_any {X : Cx} {ι : Type} {tg e : Expr} {t : ι → TI} {P : ι → Prop} (h : ∀ i, P i → PI X tg e (t i)) : PI X tg e (fun σ H Q => ∃ i, P i ∧ t i σ H Q) :=
  ⟨fun pins s σ H D I ⟨i, hp, hw⟩ => (h i hp).run pins s σ H D I hw⟩
section
variable {K : PySem.W.Frag} {F : Fm} {E : En} {τ : List (V × D)} {σ : L2.St} {H H' : Hp}
/-- the hidden list grows -/
theorem SR.rehid {Dl : Addr} {o o' : List D} {acc : List V} (S : SR K (F.hid Dl o) E τ σ H) (k : ∀ a u, a ≠ Dl → H a = some u → H' a = some u) (ha : H' Dl = some (.lst acc)) (hr : Reps K (base F H' ([Dl] ++ ow F E)) acc o') : SR K (F.hid Dl o') E τ σ H' := by
  have ows : ow (F.hid Dl o') E = ow (F.hid Dl o) E := by
    unfold ow
    rw [owns_app, owns_app]
    rfl
  have hD : Dl ∈ ow (F.hid Dl o) E := ow_hid.mpr (.inl rfl)
  have b : Ex (base (F.hid Dl o) H (ow (F.hid Dl o) E)) (base (F.hid Dl o') H' (ow (F.hid Dl o') E)) := by
    rw [ows]
    exact base_eqF rfl rfl (fun a h => h) fun a u h q => k a u (fun e => h (by rw [e]; exact hD)) q
  have b2 : Ex (base F H' ([Dl] ++ ow F E)) (base (F.hid Dl o') H' (ow (F.hid Dl o') E)) := base_eqF rfl rfl (fun a h => by
    rcases ow_hid.mp h with y | y
    · exact List.mem_append_left _ (by simp [y])
    · exact List.mem_append_right _ y) fun _ _ _ q => q
  have nE : ∀ {i : Nat} {s : Sl} {l : Addr}, E[i]? = some (some s) → l ∈ s.own → l ≠ Dl := fun {i s l} h1 h2 e => ow_gho S.nd h1 (t := .oL Dl o) List.mem_cons_self h2 (by simp [Sl.own, e])
  have nG : ∀ {s : Sl} {l : Addr}, s ∈ F.gh → l ∈ s.own → l ≠ Dl := fun {s l} h1 h2 e => by
    have hn : (owns (E ++ (some (.oL Dl o) :: F.gh.map some))).Nodup := S.nd
    rw [owns_app, owns_cons, List.nodup_append] at hn
    have h3 := hn.2.1
    rw [List.nodup_append] at h3
    refine h3.2.2 Dl (by simp [oOwn, Sl.own]) l (mem_owns.mpr ?_) e.symm
    obtain ⟨j, hj, e2⟩ := List.mem_iff_getElem.mp h1
    exact ⟨j, s, by rw [List.getElem?_map, List.getElem?_eq_getElem hj, e2]; rfl, h2⟩
  refine ⟨S.len, fun i s hs => ?_, fun s hs => ?_, fun p hp => Rep.le b.le (S.tmp p hp), fun a u q => ?_, S.b0, by rw [ows]; exact S.nd, fun l hl => S.fr l (by rw [ows] at hl; exact hl)⟩
  · obtain ⟨v, h1, h2⟩ := S.slot i s hs
    exact ⟨v, h1, h2.le b.le fun l hl u q => k l u (nE hs hl) q⟩
  · rcases List.mem_cons.mp hs with e | hs
    · subst e
      exact ⟨.ref Dl, rfl, acc, ha, Reps.le b2.le hr⟩
    · obtain ⟨v, h2⟩ := S.gho s (List.mem_cons_of_mem _ hs)
      exact ⟨v, h2.le b.le fun l hl u q => k l u (nG hs hl) q⟩
  · refine k a u (fun e => ?_) (S.ex a u q)
    rw [e, S.fr Dl hD] at q
    cases q
end
section
variable {X : Cx} {E : En} {iter iter1 elt : Expr} {pos tpos px py pz : Pos} {x y z : Str} {kk : Nat}
/-- the slots in the outer turn, in the inner turn -/
def e2 (E : En) (vs : List Nat) (j1 j2 : Nat) (d1 d2 : D) : En := ((wipeE E vs).set j1 (some (.val d1))).set j2 (some (.val d2))
def e3 (E : En) (vs : List Nat) (j1 j2 j3 : Nat) (d1 d2 d3 : D) : En := ((e2 E vs j1 j2 d1 d2).set j3 none).set j3 (some (.val d3))
theorem own_set_val (d : D) : ∀ (L : En) (j : Nat), owns (L.set j none) = owns L → owns (L.set j (some (.val d))) = owns L := by
  intro L
  induction L with
  | nil => intro j _; rfl
  | cons o r ih =>
    intro j h
    cases j with
    | zero =>
      rw [List.set_cons_zero, owns_cons] at h ⊢
      exact h
    | succ j =>
      rw [List.set_cons_succ, owns_cons, owns_cons] at h ⊢
      rw [ih j (List.append_cancel_left h)]
/-- [elt for x, y in iter for z in iter1] -/
theorem h_lc2 {scope : Scope} {ps : List (D × D)} (j1 j2 j3 : Nat) (own : List (Str × Nat)) {es : D × D → List D} {f : D × D → D → D} (hN : X.N.Nodup) (hi : HasI X E (.Tuple [.Name x px, .Name y py] kk tpos) iter (ps.map fun p => .tup [p.1, p.2])) (hz : (ps.flatMap fun p => (es p).map (f p)).length < 100000) (hok : blkC X.N X.env.scope scope own = true)
    (hs : ∀ p ∈ ps, ∀ b : Blk X scope, HasI b.x (e2 E (own.map (·.2)) j1 j2 p.1 p.2) (.Name z pz) iter1 (es p) ∧ ∀ d3 ∈ es p, HasD b.x (e3 E (own.map (·.2)) j1 j2 j3 p.1 p.2 d3) elt (f p d3))
    (hm1 : j1 ∈ own.map (·.2) := by decide) (hm2 : j2 ∈ own.map (·.2) := by decide) (hm3 : j3 ∈ own.map (·.2) := by decide) (h13 : j1 ≠ j3 := by decide) (h23 : j2 ≠ j3 := by decide)
    (hj1 : X.N[j1]? = some x := by rfl) (hj2 : X.N[j2]? = some y := by rfl) (hj3 : X.N[j3]? = some z := by rfl) (hE1 : j1 < E.length := by exact Nat.le_of_ble_eq_true rfl) (hE2 : j2 < E.length := by exact Nat.le_of_ble_eq_true rfl) (hE3 : j3 < E.length := by exact Nat.le_of_ble_eq_true rfl)
    (hw : ∀ d1 d2 d3, owns (wipeE E (own.map (·.2))) = owns E ∧ owns (e2 E (own.map (·.2)) j1 j2 d1 d2) = owns E ∧ owns (e3 E (own.map (·.2)) j1 j2 j3 d1 d2 d3) = owns E ∧ owns ((e2 E (own.map (·.2)) j1 j2 d1 d2).set j3 none) = owns E := by exact fun _ _ _ => ⟨rfl, rfl, rfl, rfl⟩) (hc : X.calm = true := by rfl)
    (hx : ∀ b : Blk X scope, Loc b.x.env.scope x ∧ Loc b.x.env.scope y ∧ Loc b.x.env.scope z := by exact fun _ => ⟨.inl rfl, .inl rfl, .inl rfl⟩)
    (hf : ∀ b : Blk X scope, (b.x.fn x = true ∨ b.x.env.scope.names.lookup x = some .local) ∧ (b.x.fn y = true ∨ b.x.env.scope.names.lookup y = some .local) ∧ (b.x.fn z = true ∨ b.x.env.scope.names.lookup z = some .local) := by first | exact fun _ => ⟨.inl rfl, .inl rfl, .inl rfl⟩ | exact fun _ => ⟨.inr rfl, .inr rfl, .inr rfl⟩)
    (htg : ∀ b : Blk X scope, PG b.x (.Tuple [.Name x px, .Name y py] kk tpos) (gTup X.K 2 (gCons (gName j1) (gCons (gName j2) gNil))) := by exact fun b => pg_tup rfl (pgs_cons (pg_name (by assumption) (by assumption) (by assumption) (by assumption)) (pgs_cons (pg_name (by assumption) (by assumption) (by assumption) (by assumption)) pgs_nil rfl) rfl) rfl rfl)
    (hfi : ∀ w, foldedSetIterable iter X.env w = pure w := by intro _; rfl) (hfi1 : ∀ env w, foldedSetIterable iter1 env w = pure w := by intro _ _; rfl) :
    HasR X E (.ListComp elt [⟨.Tuple [.Name x px, .Name y py] kk tpos, iter, [], 0⟩, ⟨.Name z pz, iter1, [], 0⟩] scope pos) (.nL (ps.flatMap fun p => (es p).map (f p))) := by
  obtain ⟨vs, hvs⟩ : ∃ vs, vs = own.map (·.2) := ⟨_, rfl⟩
  rw [← hvs] at hs hm1 hm2 hm3 hw
  refine PE.mono (pe_lc2 (pos := pos) (own := own) (vs1 := [j3]) (tt := fun σ H Q => Q true H) (tt1 := fun σ H Q => Q true H)
    (wi1 := fun σ H R => ∃ p : D × D, p ∈ ps ∧ tWk X.K (e2 E vs j1 j2 p.1 p.2) (es p) σ H R) (te := fun σ H Q => ∃ q : (D × D) × D, (q.1 ∈ ps ∧ q.2 ∈ es q.1) ∧ tEv X.K (e3 E vs j1 j2 j3 q.1.1 q.1.2 q.2) (.val (f q.1 q.2)) σ H Q) hc hN hi (blkOk_by hok) (fun i hi => by rw [List.mem_singleton.mp hi, ← hvs]; exact hm3)
    (tg_blk htg) (fun _ _ _ _ _ => pts_nil) (fun s H C cl fp => PI.of_any fun p hp => (hs p hp (s, H, C, cl, fp)).1) (tg_blk fun b => pg_name hN hj3 (hx b).2.2 (hf b).2.2) (fun _ _ _ _ _ => pts_nil)
    (fun s H C cl fp => PE.of_any fun q hq => (hs q.1 hq.1 (s, H, C, cl, fp)).2 q.2 hq.2) hfi hfi1) fun σ H Q ⟨F, τ, S, k⟩ => ⟨F, τ, S, fun J H1 t e1 w S1 Dl hD => ?_⟩
  rw [← hvs]
  have nD : Dl ∉ ow F E := S1.nown hD
  have owE : ∀ (F' : Fm) (E' : En), owns E' = owns E → ow F' E' = ow F' E := fun F' E' h => by unfold ow; rw [owns_app, owns_app, h]
  -- what is made of the first i, and of the first jx of the next
  obtain ⟨out, hout⟩ : ∃ out : Nat → List D, out = fun i => (ps.take i).flatMap fun p => (es p).map (f p) := ⟨_, rfl⟩
  have lenOut : ∀ i, (out i).length ≤ (ps.flatMap fun p => (es p).map (f p)).length := fun i => by
    rw [hout]
    conv => rhs; rw [← List.take_append_drop i ps, List.flatMap_append, List.length_append]
    exact Nat.le_add_right _ _
  refine ⟨fun i m H' => m = ps.length - i ∧ i ≤ ps.length ∧ Ex H1 H' ∧ ∃ acc, H' Dl = some (.lst acc) ∧ Reps X.K (base F H' ([Dl] ++ ow F E)) acc (out i), ⟨_, rfl, Nat.zero_le _, Ex.upd hD, [], upd_same, by rw [hout]; exact .nil⟩, ?_⟩
  rintro i m H2 ⟨rfl, hi, e2', acc, ha, hr⟩
  have St : SR X.K (F.hid Dl (out i)) E (t ++ τ) σ H2 := S1.hid hD e2' ha hr
  have ht : ∀ p ∈ t, Rep X.K (base (F.hid Dl (out i)) H2 (ow (F.hid Dl (out i)) E)) p.1 p.2 := fun p hp => St.tmp p (List.mem_append_left _ hp)
  have hlen : (ps.map fun p => D.tup [p.1, p.2]).length = ps.length := List.length_map _
  by_cases hlt : i < ps.length
  · refine .inr ⟨w.goes i _ H2 (by rw [hlen]; exact hlt) St.ex St.bex ht, fun H' => Ex H1 H' ∧ ∃ acc, H' Dl = some (.lst acc) ∧ Reps X.K (base F H' ([Dl] ++ ow F E)) acc (out (i + 1)), fun H' h => ⟨ps.length - (i + 1), by omega, rfl, hlt, h⟩, fun xv H3 yy => ?_⟩
    obtain ⟨e, d, hd', r⟩ := w.yields i _ H2 xv H3 (by rw [hlen]; exact hlt) St.ex St.bex ht yy
    subst e
    have hpi : ps[i]? = some ps[i] := List.getElem?_eq_getElem hlt
    generalize ps[i] = p at hpi
    have hp : p ∈ ps := List.mem_of_getElem? hpi
    rw [List.getElem?_map, hpi] at hd'
    cases hd'
    have SW : SR X.K (F.hid Dl (out i)) (wipeE E vs) (t ++ τ) (wipe σ vs) H3 := St.wiped
    rw [← owE (F.hid Dl (out i)) (wipeE E vs) (hw .non .non .non).1] at r
    cases r with
    | tup q rs =>
      rename_i ad xs
      cases rs with
      | cons r1 rs =>
        cases rs with
        | cons r2 rs =>
          cases rs
          rename_i v1 v2
          refine ⟨ad, _, rfl, SW.bex.le.sqT q, rfl, v1, _, rfl, v2, _, rfl, rfl, ?_⟩
          have wl : (wipeE E vs).length = E.length := by rw [← SW.len, wipe_length, S1.len]
          have Sa := SW.setv r1 (by rw [wl]; exact hE1)
          have Sb : SR X.K (F.hid Dl (out i)) (e2 E vs j1 j2 p.1 p.2) (t ++ τ) (((wipe σ vs).set j1 (some v1)).set j2 (some v2)) H3 := Sa.setv (Rep.le (SW.setb j1 p.1).le r2) (by rw [List.length_set, wl]; exact hE2)
          refine ⟨by rw [wipe_set hm2, wipe_set hm1, wipe_wipe], ?_⟩
          refine iteT ?_
          refine ⟨p, hp, F.hid Dl (out i), t ++ τ, Sb, fun J1 H4 t1 e4 w1 S4 => ?_⟩
          -- the inner walk
          obtain ⟨o2, ho2⟩ : ∃ o2 : Nat → List D, o2 = fun jx => out i ++ ((es p).take jx).map (f p) := ⟨_, rfl⟩
          have o2z : o2 0 = out i := by rw [ho2]; simp
          have o2e : o2 (es p).length = out (i + 1) := by
            rw [ho2, hout]
            show (ps.take i).flatMap _ ++ ((es p).take (es p).length).map (f p) = (ps.take (i + 1)).flatMap _
            rw [List.take_length, List.take_succ, hpi, List.flatMap_append]
            simp
          have owD : ow F (e2 E vs j1 j2 p.1 p.2) = ow F E := owE F _ (hw p.1 p.2 .non).2.1
          refine ⟨fun jx kx H' => kx = (es p).length - jx ∧ jx ≤ (es p).length ∧ (∀ a u, a ≠ Dl → H4 a = some u → H' a = some u) ∧ Ex H1 H' ∧ ∃ acc, H' Dl = some (.lst acc) ∧ Reps X.K (base F H' ([Dl] ++ ow F E)) acc (o2 jx), ⟨_, rfl, Nat.zero_le _, fun a u _ q => q, e2'.trans e4, acc, e4 _ _ ha, by
            rw [o2z]
            exact Reps.le (base_mono (fun a u _ _ q => e4 a u q) fun a h => .inl h).le hr⟩, ?_⟩
          rintro jx kx H5 ⟨rfl, hjx, k5, e5, acc5, ha5, hr5⟩
          have S5 : SR X.K (F.hid Dl (o2 jx)) (e2 E vs j1 j2 p.1 p.2) (t1 ++ (t ++ τ)) (((wipe σ vs).set j1 (some v1)).set j2 (some v2)) H5 := S4.rehid k5 ha5 (by rw [owD]; exact hr5)
          have ht1 : ∀ q ∈ t1, Rep X.K (base (F.hid Dl (o2 jx)) H5 (ow (F.hid Dl (o2 jx)) (e2 E vs j1 j2 p.1 p.2))) q.1 q.2 := fun q hq => S5.tmp q (List.mem_append_left _ hq)
          by_cases hl1 : jx < (es p).length
          · refine .inr ⟨w1.goes jx _ H5 hl1 S5.ex S5.bex ht1, fun H' => (∀ a u, a ≠ Dl → H4 a = some u → H' a = some u) ∧ Ex H1 H' ∧ ∃ acc, H' Dl = some (.lst acc) ∧ Reps X.K (base F H' ([Dl] ++ ow F E)) acc (o2 (jx + 1)), fun H' h => ⟨(es p).length - (jx + 1), by omega, rfl, hl1, h⟩, fun zv H6 y6 => ?_⟩
            obtain ⟨e6, d3, hd3, r3⟩ := w1.yields jx _ H5 zv H6 hl1 S5.ex S5.bex ht1 y6
            subst e6
            have S6 : SR X.K (F.hid Dl (o2 jx)) ((e2 E vs j1 j2 p.1 p.2).set j3 none) (t1 ++ (t ++ τ)) (wipe (((wipe σ vs).set j1 (some v1)).set j2 (some v2)) [j3]) H6 := S5.wiped (vs := [j3])
            have ow6 : ow (F.hid Dl (o2 jx)) ((e2 E vs j1 j2 p.1 p.2).set j3 none) = ow (F.hid Dl (o2 jx)) (e2 E vs j1 j2 p.1 p.2) := by
              rw [owE _ _ (hw p.1 p.2 .non).2.2.2, owE _ _ (hw p.1 p.2 .non).2.1]
            rw [← ow6] at r3
            have el : j3 < ((e2 E vs j1 j2 p.1 p.2).set j3 none).length := by
              unfold e2
              rw [List.length_set, List.length_set, List.length_set, wl]; exact hE3
            have S7 : SR X.K (F.hid Dl (o2 jx)) (e3 E vs j1 j2 j3 p.1 p.2 d3) (t1 ++ (t ++ τ)) ((wipe (((wipe σ vs).set j1 (some v1)).set j2 (some v2)) [j3]).set j3 (some zv)) H6 := S6.setv r3 el
            refine ⟨by rw [wipe_set (by simp), wipe_wipe], ?_⟩
            refine iteT ?_
            refine ⟨(p, d3), ⟨hp, List.mem_of_getElem? hd3⟩, F.hid Dl (o2 jx), _, S7, fun yv sl H7 hs7 o7 => ?_⟩
            cases hs7
            have r7 := o7.rp
            rw [owE _ _ (hw p.1 p.2 d3).2.2.1] at r7
            have hlo : (o2 (jx + 1)).length ≤ (ps.flatMap fun p => (es p).map (f p)).length := by
              refine Nat.le_trans ?_ (lenOut (i + 1))
              rw [← o2e, ho2]
              show (out i ++ ((es p).take (jx + 1)).map (f p)).length ≤ (out i ++ ((es p).take (es p).length).map (f p)).length
              rw [List.length_append, List.length_append, List.length_map, List.length_map, List.length_take, List.length_take]
              omega
            have o2s : o2 (jx + 1) = o2 jx ++ [f p d3] := by
              rw [ho2]
              show out i ++ ((es p).take (jx + 1)).map (f p) = out i ++ ((es p).take jx).map (f p) ++ [f p d3]
              rw [List.take_succ, hd3, List.map_append, List.append_assoc]
              rfl
            have hacc : acc5.length < 100000 := by
              have h1 := hr5.len
              rw [o2s, List.length_append, List.length_singleton] at hlo
              omega
            refine ⟨acc5, o7.ex _ _ ha5, Nat.lt_of_lt_of_le hacc (by decide), fun a u ne q => ?_, fun a u q => ?_, acc5 ++ [yv], upd_same, ?_⟩
            · rw [upd_ne ne]
              exact o7.ex a u (k5 a u ne q)
            · rw [upd_ne (ne_of_none q hD)]
              exact o7.ex a u (e5 a u q)
            · rw [o2s]
              have b2 : Ex (base F H6 ([Dl] ++ ow F E)) (base F (upd H7 Dl (.lst (acc5 ++ [yv]))) ([Dl] ++ ow F E)) := base_mono (fun a u h _ q => by
                rw [upd_ne (fun z => h (List.mem_append_left _ (by simp [z])))]
                exact o7.ex a u q) fun a h => .inl h
              have b3 : Ex (base (F.hid Dl (o2 jx)) H7 (ow (F.hid Dl (o2 jx)) E)) (base F (upd H7 Dl (.lst (acc5 ++ [yv]))) ([Dl] ++ ow F E)) := base_eqF rfl rfl (fun a h => by
                rcases List.mem_append.mp h with z | z
                · rw [List.mem_singleton] at z
                  exact ow_hid.mpr (.inl z)
                · exact ow_hid.mpr (.inr z)) fun a u h q => by
                rw [upd_ne (fun z => h (ow_hid.mpr (.inl z)))]
                exact q
              exact Reps.append (Reps.le b2.le hr5) (.cons (Rep.le b3.le r7) .nil)
          · have ej : jx = (es p).length := by omega
            subst ej
            exact .inl ⟨w1.stops _ H5 S5.ex S5.bex ht1, e5, acc5, ha5, by rw [← o2e]; exact hr5⟩
  · have e : i = ps.length := by omega
    subst e
    refine .inl ⟨by have := w.stops _ H2 St.ex St.bex ht; rw [hlen] at this; exact this, k _ _ H2 ⟨Dl, rfl⟩ ⟨e1.trans e2', ⟨rfl, acc, ha, ?_⟩, fun l hl => ?_, by simp [Sl.own]⟩⟩
    · have eo : out ps.length = ps.flatMap fun p => (es p).map (f p) := by rw [hout]; show (ps.take ps.length).flatMap _ = _; rw [List.take_length]
      rw [← eo]
      exact hr
    · simp only [Sl.own, List.mem_singleton] at hl
      subst hl
      cases q : H l with
      | none => rfl
      | some u => rw [e1 l u q] at hD; cases hD
end
end K39
/-! KIter -/
set_option maxHeartbeats 4000000
/-! ## walks over an instance whose __iter__ is iter(self.f) -/
namespace K39
open PySem PySem.Spec PyProof.Rows L2 ItX
def ItR (outer : List Env) (P : Program) (w : World) (H : Hp) (s : Shared) (l : Addr) (r : Result) (s' : Shared) : Prop := match r with
  | .ok (.ret u) => ∃ it, u = .ref it ∧ H it = none ∧ s.heap.objs.size ≤ it ∧ s'.os = s.os ∧ AllBare s'.gens ∧ Un (frs outer) [] H (upd H it (ItO l it 0)) s.heap s'.heap ∧ HOk P w (upd H it (ItO l it 0)) s'.heap
  | .ok _ => False
  | .error e => CX0 outer H s E0 e s'
/-- what a class must have: __iter__ is the def at f, whose body is return iter(self.fl) -/
structure ItL (P : Program) (w : World) (K : PySem.W.Frag) (mg : Str → Option Value) (bs : Heap) (C : Addr) (fl : Str) : Prop where
  ex : ∃ f : Addr, PySem.W.findIn K (.ref C) "__iter__" = some (some (.ref f)) ∧ PySem.W.isFn K (.ref f) = true ∧
    ∀ (A : Around) (outer : List Env) (s : Shared) (H : Hp) (a dx l : Addr) (fs : List (Str × V)) (zs : List V), Room 1 A → Env0 P w K mg bs A outer s H → H a = some (.ins C dx fs) → fs.lookup fl = some (.ref l) → SqL K H l zs →
      codeAny (model P w) A (.call (.ref f) ⟨[.ref a], []⟩) (ItR outer P w H s l) s
  nolen : PySem.W.findIn K (.ref C) "__len__" = some none
  nohint : PySem.W.findIn K (.ref C) "__length_hint__" = some none
section
variable {P : Program} {w : World} {K : PySem.W.Frag} {mg : Str → Option Value} {base : Heap}
theorem run_it {C f : Addr} {fl qual : Str} {st : Stmt} {fd : FuncData} (F : L2.FunD K "__iter__" qual (defArgs st) (defBody st) (defScope st) [] [] f fd) (S : FnScope ["self"] ["self"] (defScope st)) (cl : Cls K C) (na : NoAttr K C fl) (hm : mg "iter" = none)
    (hbind : ∀ (kV doc pm : Value) (an : Option Addr) (cdv ct : Value) (us : List Value), us.length = (["self"] : List Str).length → bindArgs (PySem.W.fnOf "__iter__" qual (defArgs st) (defBody st) (defScope st) .none kV doc pm an cdv ct) ⟨us, []⟩ = pure ((["self"] : List Str).zip us))
    (hbody : ∀ (cdv : Value) (A : Around) (outer : List Env) (s : Shared) (H : Hp), PSs (cxOf CX0 P w K mg base ["self"] qual (defScope st) f cdv A outer s H E0) (defBody st) (tRet (tCB (rIterN K s.heap.objs.size) (tCons (tFld K (tVar 0) fl) tNil))))
    (A : Around) (outer : List Env) (s : Shared) (H : Hp) (a dx l : Addr) (fs : List (Str × V)) (zs : List V) (hr : Room 1 A) (e0 : Env0 P w K mg base A outer s H) (ha : H a = some (.ins C dx fs)) (hf : fs.lookup fl = some (.ref l)) (hz : SqL K H l zs) :
    codeAny (model P w) A (.call (.ref f) ⟨[.ref a], []⟩) (ItR outer P w H s l) s := by
  have hb := F.bindsN hbind
  obtain ⟨oc, od, dV, kV, doc, pm, an, cdv, ct, osl, rfl, lk, hcd, _, _⟩ := F.ex
  have r : Vals [V.ref a] [Value.ref a] := .cons rfl .nil
  have KX : K.In s.heap := e0.mod.kin.keeps fun b o e => (e0.bs b o e).1
  have lim : s.heap.NoLimit := e0.mod.nolimit.keeps fun b o e => (e0.bs b o e).1
  have hkind : ∀ y ∈ (["self"] : List Str).zip [Value.ref a], (defScope st).names.lookup y.1 = some .local ∨ ((defScope st).names.lookup y.1 = some .cell ∧ ((cellsFrom (s.heap.objs.size + 1) (defScope st).names []).lookup y.1).isSome = true) := fun ⟨n, v⟩ hy => by
    rcases S.par n (List.of_mem_zip hy).1 with q | q
    · exact .inl q
    · exact .inr ⟨q, PySem.W.cellsFrom_some _ _ _ (.inl q)⟩
  have hbt : BindsTo s (PySem.W.fnOf "__iter__" qual (defArgs st) (defBody st) (defScope st) dV kV doc pm an cdv ct) ⟨[.ref a], []⟩ ((["self"] : List Str).zip [Value.ref a]) := by
    have := hb s [.ref a] KX rfl
    simpa using this
  refine codeAny_call_function hr.depth (KX _ _ lk) rfl S.co S.gen rfl (PySem.W.codeRec_of KX hcd) (hbt _ _ _ _ ?_)
  refine wpAny_newFunctionEnv_cells S.kind hkind fun env he s1 x => ?_
  subst he
  refine ⟨lim.keeps x.toInCall.keep, codeAny_func ?_⟩
  have I : Inv (cxOf CX0 P w K mg base ["self"] qual (defScope st) f cdv A outer s H E0) [] (L2.start ["self"] [V.ref a]) H s1 := inv_start S hr.hd e0 rfl r x
  have ht := hbody cdv A outer s H
  refine wpAny_mono (ht.run [] s1 (L2.start ["self"] [V.ref a]) H { nx := fun _ _ => False, rt := fun v H' => ∃ it, v = .ref it ∧ H it = none ∧ s.heap.objs.size ≤ it ∧ H' = upd H it (ItO l it 0) } I ?_) (fun fl s' hs => ?_) fun e s' hs => hs
  · refine ⟨.ref a, rfl, a, C, dx, fs, .ref l, rfl, ha, cl, na, hf, l, zs, rfl, hz, fun it h1 h2 => ⟨it, rfl, h1, h2, rfl⟩⟩
  · cases fl with
    | ret u =>
      obtain ⟨v, σ', H', J, rv, it, e1, h1, h2, h3⟩ := hs
      subst e1 h3
      cases rv
      exact ⟨it, rfl, h1, h2, J.os, J.bare, J.base, J.hok⟩
    | next => obtain ⟨_, _, _, q⟩ := hs; exact q.elim
    | brk => obtain ⟨_, _, _, q⟩ := hs; exact q.elim
    | cont => obtain ⟨_, _, _, q⟩ := hs; exact q.elim
end
section
variable {X : Cx} {pins : List (Addr × Obj)} {σ : L2.St} {H : Hp} {s : Shared} {C : Addr} {fl : Str} {a dx l : Addr} {fs : List (Str × V)} {zs : List V}
theorem it_call {A1 : Around} (sb : Sub X 1 A1) (T : ItL X.prog X.w X.K X.mg X.base C fl) (I : Inv X pins σ H s) (ha : H a = some (.ins C dx fs)) (hf : fs.lookup fl = some (.ref l)) (hz : SqL X.K H l zs) {Q : Value → Shared → Prop}
    (hQ : ∀ it s', H it = none → s.heap.objs.size ≤ it → Inv X pins σ (upd H it (ItO l it 0)) s' → Q (.ref it) s') :
    ∃ f : Addr, PySem.W.findIn X.K (.ref C) "__iter__" = some (some (.ref f)) ∧ PySem.W.isFn X.K (.ref f) = true ∧ wpAny (model X.prog X.w) A1 (call (.ref f) [.ref a]) Q X.xe s := by
  obtain ⟨f, h1, h2, h3⟩ := T.ex
  have e0 : Env0 X.prog X.w X.K X.mg X.base A1 X.stack s H := by
    have e := I.env0
    exact ⟨by rw [sb.fr]; exact e.frames, e.mod, e.bs, e.bsz, e.funs, e.frf, e.hok, e.bare⟩
  refine ⟨f, h1, h2, wpAny_call (codeAny_mono (h3 A1 X.stack s H a dx l fs zs sb.room e0 ha hf hz) fun rr s' hq => ?_)⟩
  cases rr with
  | error e => exact False.elim hq
  | ok fl =>
    cases fl with
    | ret u =>
      obtain ⟨it, rfl, q1, q2, q3, q4, q5, q6⟩ := hq
      refine hQ it s' q1 q2 ?_
      obtain ⟨hh, g, d, t, os'⟩ := s'
      obtain rfl : os' = s.os := q3
      exact I.call (h' := hh) (g' := g) (d' := d) (t' := t) (ch := []) q5 q6 q4 (fun b z => absurd z (by simp))
    | next => exact False.elim hq
    | brk => exact False.elim hq
    | cont => exact False.elim hq
def iOwnL (K : PySem.W.Frag) (C : Addr) (fl : Str) (te : TE) : TI := fun σ H R => te σ H fun x H1 => ∃ a dx fs l zs, x = .ref a ∧ H1 a = some (.ins C dx fs) ∧ fs.lookup fl = some (.ref l) ∧ SqL K H1 l zs ∧ R (Itl K l) H1
theorem pi_ownL {tg e : Expr} {te : TE} (T : ItL X.prog X.w X.K X.mg X.base C fl) (hr : Room 1 X.A) (he : PE X e te) : PI X tg e (iOwnL X.K C fl te) := by
  refine ⟨fun pins s σ H R I h => ?_⟩
  refine thn (he.run pins s σ H _ I h) fun u s1 ⟨x, H1, I1, rx, a, dx, fs, l, zs, ex, ha, hf, hz, q⟩ => ?_
  subst ex
  cases rx
  obtain ⟨mA, J, _⟩ := ins_get I1.hok ha
  obtain ⟨od, J, _⟩ := J.look
  obtain ⟨m, hF⟩ := I1.fr
  obtain ⟨f, h1, h2, h3⟩ := it_call (A1 := X.A) (Q := PySem.W.OwitIt (model X.prog X.w) X.A (PIE X pins σ tg R) X.xe) ⟨hr, rfl⟩ T I1 ha hf hz fun it s2 q1 q2 I2 => by
    have eo := itO_get I2 upd_same
    have st : s2.heap.IsListIter it l 0 := ⟨_, eo, rfl, rfl⟩
    unfold PySem.W.OwitIt
    refine wpAny_specialOf (name := Str.ofString "__next__") (T := "list_iterator") ⟨_, eo, rfl⟩ slot_listiter_next.lookup ?_
    have hi : upd H1 it (ItO l it 0) it = some (ItO l it 0) := upd_same
    have hi' := hi
    unfold ItO at hi'
    refine ⟨it, [it], _, _, dropH (upd H1 it (ItO l it 0)) it, rfl, inv_drop I2 hi', turn_list l it, st, fun b hb => ?_, ?_⟩
    · have e : b = it := by simpa using hb
      rw [e]
      exact inv_fp I2 hi (Nat.le_trans I1.sz q2)
    · rw [dropH_upd q1]
      exact q
  exact PySem.W.owit_iter hF I1.ok.mod.kin J h1 h2 h3
variable {E : En} {ds : List D} {fd : List (Str × D)} {tg e : Expr}
/-- for .. in o, o an instance whose attribute fl is the list -/
theorem k_own (T : ItL X.prog X.w X.K X.mg X.base C fl) (hr : Room 1 X.A) (he : HasD X E e (.ins C fd)) (hf : fd.lookup fl = some (.lst ds)) : HasI X E tg e ds := PI.mono (pi_ownL T hr he) fun σ H Q ⟨F, τ, S, k⟩ => ⟨F, τ, S, fun v s H' hs o => by
  cases hs
  have r := o.rp
  cases r with
  | ins q rs =>
    rename_i a dx vs
    have S1 := S.grow o.ex
    rcases RepsF.val (x := fl) rs with ⟨_, h2⟩ | ⟨w, d', h1, h2, h3⟩
    · rw [h2] at hf; cases hf
    · rw [h2] at hf
      cases hf
      cases h3 with
      | lst q2 r2 =>
        rename_i l zs
        exact ⟨a, dx, vs, l, zs, rfl, S1.bex _ _ q, h1, SqL.of (S1.bex _ _ q2), k _ H' _ o.ex (wk_list r2.len) (S1.push2 (.vls q2) (.all r2))⟩⟩
end
end K39
/-! KListOf -/
set_option maxHeartbeats 4000000
/-! ## list(o), o an instance whose __iter__ is iter(self.f) -/
namespace K39
open PySem PySem.Spec PyProof.Rows L2 ItX
section
variable {X : Cx} {pins : List (Addr × Obj)} {σ : L2.St} {H : Hp} {C : Addr} {fl : Str} {a dx l q it : Addr} {fs : List (Str × V)} {zs : List V} {A1 : Around}
theorem ext_turns (hc : A1.handled = none) (hl : SqL X.K H l zs) (hql : q ≠ l) (hqi : q ≠ it) (hz : zs.length < sizeLine) (hq0 : H q = none) (hf : FpOk X pins H it) :
    ∀ (k i : Nat) (s : Shared), zs.length - i = k → i ≤ zs.length → Inv X pins σ (upd H q (.lst (zs.take i))) s → s.heap.IsListIter it l i →
      codeAny (model X.prog X.w) A1 (.builtin "list.extend.loop" ⟨[.ref q, .ref it, .none], []⟩) (wants (fun r s2 => r = .none ∧ Inv X pins σ (upd H q (.lst zs)) s2) X.xe) s := by
  obtain ⟨f0, f1, f2, f3, f4, f5⟩ := hf
  have f0' : ∀ o, upd H q o it = none := fun o => by rw [upd_ne (Ne.symm hqi)]; exact f0
  have hl' : ∀ o, SqL X.K (upd H q o) l zs := fun o => by
    rcases hl with h | h
    · refine .inl ?_
      unfold Rd at h ⊢
      rw [upd_ne (Ne.symm hql)]
      exact h
    · exact .inr h
  intro k
  induction k with
  | zero =>
    intro i s hk hi I st
    have e : i = zs.length := by omega
    subst e
    rw [List.take_length] at I
    refine codeAny_builtin PySem.F.entry_extend_loop ?_
    rw [Around.under_plainId PySem.F.plain_extend_loop _]
    show wpAny _ A1.in1 (pyNext (.ref it) >>= _) _ _ s
    obtain ⟨its, rv, p, hzz⟩ := I.list (hl' _)
    have hlen := rv.length
    refine wpAny_bind (wpAny_pyNext_list_end (A := A1.in1) hc st p.isList (by simp; omega) fun h' eb => ?_)
    exact wpAny_pure ⟨rfl, I.turned (t' := s.toks) (fun b o hb e => eb b o hb e) (f0' _) f1 f3 f4 f5⟩
  | succ k ih =>
    intro i s hk hi I st
    have hlt : i < zs.length := by omega
    refine codeAny_builtin PySem.F.entry_extend_loop ?_
    rw [Around.under_plainId PySem.F.plain_extend_loop _]
    show wpAny _ A1.in1 (pyNext (.ref it) >>= _) _ _ s
    obtain ⟨its, rv, p, hzz⟩ := I.list (hl' _)
    have hx : zs[i]? = some zs[i] := List.getElem?_eq_getElem hlt
    generalize zs[i] = z at hx
    obtain ⟨u, hu, ru⟩ := rv.get hx
    refine wpAny_bind (wpAny_pyNext_list_item st p.isList (x := u) (by simpa using hu) fun h' st' sb => ?_)
    have I1 : Inv X pins σ (upd H q (.lst (zs.take i))) { s with heap := h' } := I.turned (t' := s.toks) (fun b o hb e => (sb.2 b hb).trans e) (f0' _) f1 f3 f4 f5
    obtain ⟨z1, its1, n1, r1, l1, e1⟩ := I1.lstM upd_same
    show wpAny _ A1.in1 (updateSeq q (·.push u) >>= _) _ _ _
    have htl : (zs.take i).length = i := by rw [List.length_take]; omega
    refine wpAny_bind (wpAny_updateSeq e1 rfl (wpAny_pure ⟨plainId_quiet PySem.F.plain_extend_loop _, ?_⟩) (by rw [List.size_toArray]; omega) (by show (its1.toArray.push u).size ≤ sizeLine + 1; rw [Array.size_push, List.size_toArray]; omega))
    have I2 := I1.lset (its' := its1 ++ [u]) (t' := s.toks) upd_same e1 (f := (·.push u)) (by simp) (r1.append (.cons ru .nil)) (by rw [List.length_append, List.length_singleton, htl]; omega)
    rw [upd_upd] at I2
    have et : zs.take i ++ [z] = zs.take (i + 1) := by rw [List.take_succ, hx]; rfl
    rw [et] at I2
    refine ih (i + 1) _ (by omega) hlt I2 (st'.at fun o e => ?_)
    show (h'.update q _).get? it = some o
    rw [Heap.get?_update_ne _ _ _ _ (Ne.symm hqi)]
    exact e
theorem hint_no {M : Model} {A : Around} {E : Value → Shared → Prop} {Q : Bool → Shared → Prop} {K : PySem.W.Frag} {ox : Obj} {od : Option Obj} {s : Shared} (n1 : PySem.W.findIn K (.ref C) "__len__" = some none) (n2 : PySem.W.findIn K (.ref C) "__length_hint__" = some none) (hK : K.In s.heap) (J : PySem.W.InstAt s.heap a ox C od) (h : Q true s) :
    wpAny M A (Builtin.List.listLengthHint (.ref a)) Q E s := by
  unfold Builtin.List.listLengthHint
  refine wpAny_bind (wpAny_bind (J.type.here ((PySem.W.looks_findIn hK n1).here ?_)))
  refine PySem.W.KFB.if_not rfl ?_
  refine PySem.W.KFB.if_not rfl ?_
  refine wpAny_bind (wpAny_bind (J.type.here ((PySem.W.looks_findIn hK n2).here ?_)))
  exact wpAny_pure h
def rListOf (K : PySem.W.Frag) (C : Addr) (fl : Str) : List V → Hp → VK → Prop := fun xs H Q => ∃ a dx fs l zs, xs = [.ref a] ∧ H a = some (.ins C dx fs) ∧ fs.lookup fl = some (.ref l) ∧ SqL K H l zs ∧ zs.length < 100000 ∧ ∀ q, H q = none → Q (.ref q) (upd H q (.lst zs))
theorem call_listOf (T : ItL X.prog X.w X.K X.mg X.base C fl) (hcm : X.calm = true) (hr : Room 3 X.A) : CallR X (.type "list") (rListOf X.K C fl) := by
  intro pins s σ H xs us Q I rv h
  obtain ⟨a, dx, fs, l, zs, rfl, ha, hf, hz, hlen, hq⟩ := h
  obtain ⟨u, rfl, ru⟩ := rv.one
  cases ru
  have sb : Sub X 1 X.A.in1.in1 := Sub.in1 (Sub.in1 (⟨hr, rfl⟩ : Sub X 3 X.A))
  have hsz : zs.length < sizeLine := Nat.lt_of_lt_of_le hlen (by decide)
  refine callType_codes (Q₁ := fun obj s₁ => obj = .ref s.heap.objs.size ∧ s₁ = { s with heap := s.heap.push { cls := .type "list", data := .seq #[] } }) PySem.F.called_list (PySem.F.typeCall_list_1 _) PySem.F.entry_list_init
    (code_list_new _ ⟨rfl, rfl⟩) fun obj s₁ h₁ => ?_
  obtain ⟨rfl, rfl⟩ := h₁
  have hS : (s.heap.push { cls := .type "list", data := .seq #[] }).get? s.heap.objs.size = some { cls := .type "list", data := .seq #[] } := Heap.get?_push_size _ rfl
  refine ⟨⟨_, hS, rfl⟩, PySem.F.args_list_init_2 _ _, ?_⟩
  have fr : H s.heap.objs.size = none := I.hok.fresh (Nat.le_refl _)
  have I1 : Inv X pins σ (upd H s.heap.objs.size (.lst [])) { s with heap := s.heap.push { cls := .type "list", data := .seq #[] } } := I.lnew (its := []) (t' := s.toks) .nil (Nat.zero_le _)
  show wpAny _ _ (do let old ← Builtin.List.listItems (.ref s.heap.objs.size); Builtin.List.listUpdate (.ref s.heap.objs.size) (fun _ => #[]); letGo old.toList.reverse; Builtin.List.listExtendWith (.ref s.heap.objs.size) (.ref a) .none) _ _ _
  refine wpAny_bind ?_
  unfold Builtin.List.listItems
  refine wpAny_bind (wpAny_seqItems hS rfl (wpAny_pure ?_))
  show wpAny _ _ (updateSeq s.heap.objs.size (fun _ => #[]) >>= fun _ => letGo (#[] : Array Value).toList.reverse >>= fun _ => Builtin.List.listExtendWith (.ref s.heap.objs.size) (.ref a) .none) _ _ _
  refine wpAny_bind (wpAny_updateSeq hS rfl ?_)
  have I2 := I1.lset (f := fun _ => #[]) (its := []) (its' := []) (ys := []) (t' := s.toks) upd_same hS rfl .nil (Nat.zero_le _)
  rw [upd_upd] at I2
  refine wpAny_bind (wpAny_letGo ?_)
  have hne : s.heap.objs.size ≠ a := fun e => by rw [← e, fr] at ha; cases ha
  have ha2 : upd H s.heap.objs.size (.lst []) a = some (.ins C dx fs) := by rw [upd_ne (Ne.symm hne)]; exact ha
  have hql : s.heap.objs.size ≠ l := fun e => by
    rcases hz with (h | ⟨o, h⟩) | ⟨o, its, n, hk, _⟩
    · rw [← e, fr] at h; cases h
    · rw [← e, fr] at h; cases h
    · have := I.kIn _ _ hk
      rw [← e] at this
      exact absurd (Heap.lt_size this) (Nat.lt_irrefl _)
  have hz2 : SqL X.K (upd H s.heap.objs.size (.lst [])) l zs := by
    rcases hz with h | h
    · refine .inl ?_
      unfold Rd at h ⊢
      rw [upd_ne (Ne.symm hql)]
      exact h
    · exact .inr h
  generalize hs3 : ({ s with heap := (s.heap.push { cls := .type "list", data := .seq #[] }).update s.heap.objs.size (Obj.mapSeq fun _ => #[]) } : Shared) = s3 at I2 ⊢
  obtain ⟨q, hqq⟩ : ∃ q, q = s.heap.objs.size := ⟨_, rfl⟩
  rw [← hqq] at I2 ha2 hz2 hne hql fr ⊢
  have hql' := hql
  obtain ⟨mA, J, _⟩ := ins_get I2.hok ha2
  obtain ⟨od, J, _⟩ := J.look
  obtain ⟨m0, hF⟩ := I2.fr
  unfold Builtin.List.listExtendWith
  refine wpAny_bind (J.type.here ?_)
  have h1 : Builtin.List.listSameRef (.ref q) (.ref a) = false := by simp [Builtin.List.listSameRef, hne]
  have h2 : (Value.ref C == Value.type "list") = false := rfl
  have h3 : (Value.ref C == Value.type "tuple") = false := rfl
  simp only [h1, h2, h3, Bool.or_false, Bool.false_eq_true, if_false]
  have core := it_call (A1 := X.A.in1.in1) (Q := PySem.W.OwitIt (model X.prog X.w) X.A.in1.in1 (fun v s4 => ∃ it, v = .ref it ∧ upd H q (.lst []) it = none ∧ s3.heap.objs.size ≤ it ∧ Inv X pins σ (upd (upd H q (.lst [])) it (ItO l it 0)) s4) X.xe) sb T I2 ha2 hf hz2 fun it s4 q1 q2 I4 => by
    have eo := itO_get I4 upd_same
    unfold PySem.W.OwitIt
    exact wpAny_specialOf (name := Str.ofString "__next__") (T := "list_iterator") ⟨_, eo, rfl⟩ slot_listiter_next.lookup ⟨it, rfl, q1, q2, I4⟩
  obtain ⟨f, g1, g2, g3⟩ := core
  refine wpAny_bind (thn (PySem.W.owit_iter hF I2.ok.mod.kin J g1 g2 g3) fun v s4 hv => ?_)
  obtain ⟨it, rfl, q1, q2, I4⟩ := hv
  have eo := itO_get I4 upd_same
  have st : s4.heap.IsListIter it l 0 := ⟨_, eo, rfl, rfl⟩
  have hi : upd (upd H q (.lst [])) it (ItO l it 0) it = some (ItO l it 0) := upd_same
  have hi' := hi
  unfold ItO at hi'
  have I5 := inv_drop I4 hi'
  have fp := inv_fp I4 hi (Nat.le_trans I2.sz q2)
  rw [dropH_upd q1] at I5 fp
  have hqi : q ≠ it := fun e => by rw [← e, upd_same] at q1; cases q1
  have fpH : FpOk X pins H it := ⟨by rw [upd_ne (Ne.symm hqi)] at q1; exact q1, fp.2⟩
  have go : ∀ s6, Inv X pins σ (upd H q (.lst [])) s6 → s6.heap.IsListIter it l 0 → codeAny (model X.prog X.w) X.A.in1 (.builtin "list.extend.loop" ⟨[.ref q, .ref it, .none], []⟩) (wants (fun r s₂ => r = .none ∧ EP X pins σ Q (.ref q) s₂) X.xe) s6 := fun s6 I6 st6 => by
    refine codeAny_mono (ext_turns (A1 := X.A.in1) (I6.ok.hd hcm) hz hql hqi hsz fr fpH zs.length 0 s6 (by omega) (Nat.zero_le _) (by rw [List.take_zero]; exact I6) st6) fun r s7 h7 => ?_
    cases r with
    | error e => exact h7
    | ok fl =>
      cases fl with
      | ret v =>
        obtain ⟨e, I7⟩ := h7
        exact ⟨e, .ref q, _, I7, rfl, hq q fr⟩
      | next => exact h7
      | brk => exact h7
      | cont => exact h7
  obtain ⟨mA', J', _⟩ := ins_get I5.hok ha2
  obtain ⟨od', J', _⟩ := J'.look
  refine wpAny_bind (wpAny_holding (hint_no T.nolen T.nohint I5.kIn J' ?_))
  obtain ⟨z, its, k, r3, hl3, e3⟩ := I5.lstM upd_same
  cases r3
  refine wpAny_ite_split (fun _ => ?_) (fun _ => wpAny_pure ⟨plainId_quiet PySem.F.plain_extend_loop _, go s4 I5 st⟩)
  refine wpAny_bind (wpAny_rule ?_)
  refine wpAny_bind ?_
  show wpAny _ _ (updateSeq q (·.push .none) >>= fun _ => updateSeq q (·.pop)) _ _ _
  refine wpAny_bind (wpAny_updateSeq e3 rfl ?_)
  have I6 := I5.lset (f := (·.push Value.none)) (its' := [Value.none]) (ys := [.non]) (t' := s4.toks) upd_same e3 (by simp) (.cons rfl .nil) (by rw [List.length_singleton, sizeLine_eq]; decide)
  rw [upd_upd] at I6
  obtain ⟨z4, its4, k4, r4, hl4, e4⟩ := I6.lstM upd_same
  obtain ⟨u4, rfl, ru4⟩ := r4.one
  refine wpAny_updateSeq e4 rfl ?_ (by show 1 ≤ sizeLine; rw [sizeLine_eq]; decide) (by show 0 ≤ sizeLine + 1; exact Nat.zero_le _)
  have I7 := I6.lset (f := (·.pop)) (its := [u4]) (its' := []) (ys := []) (t' := s4.toks) upd_same e4 (by rfl) .nil (Nat.zero_le _)
  rw [upd_upd] at I7
  refine wpAny_pure ⟨plainId_quiet PySem.F.plain_extend_loop _, go _ I7 (st.at fun o e => ?_)⟩
  show ((s4.heap.update q _).update q _).get? it = some o
  rw [Heap.get?_update_ne _ _ _ _ (Ne.symm hqi), Heap.get?_update_ne _ _ _ _ (Ne.symm hqi)]
  exact e
theorem f_listOf {ds : List D} {fd : List (Str × D)} (T : ItL X.prog X.w X.K X.mg X.base C fl) (hcm : X.calm = true) (hr : Room 3 X.A) (hf : fd.lookup fl = some (.lst ds)) (hz : ds.length < 100000) : CallOk X (.type "list") [.ins C fd] (.nL ds) := ⟨_, call_listOf T hcm hr, fun F E τ σ H vs Q S r k => by
  cases r with
  | cons r1 rs =>
    cases rs
    cases r1 with
    | ins q rs =>
      rename_i a dx vs
      rcases RepsF.val (x := fl) rs with ⟨_, h2⟩ | ⟨w, d', h1, h2, h3⟩
      · rw [h2] at hf; cases hf
      · rw [h2] at hf
        cases hf
        cases h3 with
        | lst q2 r2 =>
          rename_i l zs
          exact ⟨a, dx, vs, l, zs, rfl, S.bex _ _ q, h1, SqL.of (S.bex _ _ q2), by rw [r2.len]; exact hz, fun p hp => kt_lst S k r2 hp⟩⟩
end
end K39
/-! KKw -/
set_option maxHeartbeats 4000000
/-! ## calls with a keyword: o.m(e, .., k = v), C(e, k = v) -/
namespace K39
open PySem PySem.Spec PyProof.Rows L2
/-- a method with a keyword-only parameter at the end -/
structure KnK (P : Program) (w : World) (K : PySem.W.Frag) (mg : Str → Option Value) (bs : Heap) (CX : CXT) (k : Nat) (C : Addr) (m : Str) (ps : List Str) (n : Nat) (ks : List Str) (sp : Sp) : Prop where
  ex : ∃ (f : Addr) (fd : FuncData), FnOk P w K mg bs CX k f fd ps sp ∧ KBn K fd ps n ks (fun us ws => us ++ ws) (fun vs zs => vs ++ zs) ∧ Meth K C m f
  cl : Cls K C
section
variable {X : Cx} {E : En} {x m : Str} {p pos apos kpos : Pos} {e o e1 : Expr} {es : List Expr} {k n : Nat} {C : Addr} {ps : List Str} {ds : List D} {d1 : D} {fs : List (Str × D)} {r : Rs} {kn : Str}
def tMethK (C : Addr) (m : Str) (n : Nat) (sp : Sp) (ta : TE) (t tk : TA) : TE := fun σ H Q => ta σ H fun x H1 => ∃ a dx fs, x = .ref a ∧ H1 a = some (.ins C dx fs) ∧ fs.lookup m = none ∧ t σ H1 fun vs H2 => tk σ H2 fun zs H3 => (V.ref a :: vs).length = n ∧ zs.length = 1 ∧ sp ((.ref a :: vs) ++ zs) H3 Q E0
theorem pe_methK {f : Addr} {fd : FuncData} {sp : Sp} {ta : TE} {t tk : TA} {pl : Sem Bool} (he : PE X o ta) (c : Cls X.K C) (hm : Meth X.K C m f) (F : FnOk X.prog X.w X.K X.mg X.base CX0 k f fd ps sp) (hr : Room k X.A) (hb : KBn X.K fd ps n [kn] (fun us ws => us ++ ws) (fun vs zs => vs ++ zs)) (ha : PA X (e :: es) t) (hkw : PK X [⟨some kn, e1, kpos⟩] tk)
    (hst : starEach (e :: es) X.env = (false, eval e X.env) :: starEach es X.env := by rfl)
    (hall : (backToKw pos (keywordEach [⟨some kn, e1, kpos⟩] X.env)).all (·.1.isSome) = true := by rfl) (hks : (backToKw pos (keywordEach [⟨some kn, e1, kpos⟩] X.env)).filterMap (·.1) = [kn] := by rfl)
    (hpl : ((backTo pos (starEach (e :: es) X.env)).any (·.1) || (backToKw pos (keywordEach [⟨some kn, e1, kpos⟩] X.env)).any (·.1.isNone)) = false := by rfl)
    (ht : eval (.Call (.Attribute o m apos) (e :: es) [⟨some kn, e1, kpos⟩] pos) X.env = (do
      let ov ← eval o X.env
      standAt apos.atName
      let (f, first) ← holding [ov] (getMethod ov m pl)
      callWith pos f first (backTo pos (starEach (e :: es) X.env)) (backToKw pos (keywordEach [⟨some kn, e1, kpos⟩] X.env))) := by rfl) :
    PE X (.Call (.Attribute o m apos) (e :: es) [⟨some kn, e1, kpos⟩] pos) (tMethK C m n sp ta t tk) := by
  refine ⟨fun pins s σ H Q I h => ?_⟩
  refine PySem.W.methodCall_KW (pl := pl) (thn (he.run pins s σ H _ I h) fun u s1 ⟨x, H1, I1, rx, a, dx, fs, ex, ea, l, q⟩ => ?_) ht
  subst ex
  obtain rfl : u = Value.ref a := rx
  refine getmeth_ok I1 ea c hm l ?_
  refine PySem.W.callWith_KW (first := [.ref a]) (h₀ := X.base) I1.ok.mod.kin hm.kp hall (thn (ha.run pos pins s1 σ H1 _ I1 q) fun us s2 ⟨vs, H2, I2, r, q2⟩ => ?_) hpl hst
  refine thn (hkw.run pos pins s2 σ H2 _ I2 q2) fun ws s3 ⟨zs, H3, I3, rz, l1, l2, q3⟩ => ⟨I3.kIn, ?_⟩
  rw [hks]
  exact run_fnN (us := .ref a :: us) (vs := .ref a :: vs) F hr hb pass0 I3 (.cons rfl r) rz l1 l2 q3
/-- o.m(e, .., k = e1) -/
theorem h_methK {G : List D → Rs → Prop} (T : KnK X.prog X.w X.K X.mg X.base CX0 k C m ps n [kn] (spG X.K G)) (hr : Room k X.A) (ho : HasD X E o (.ins C fs)) (hm : fs.lookup m = none) (ha : HA X E (e :: es) ds) (hk : HasD X E e1 d1) (hn : ds.length + 1 = n) (hG : G (.ins C fs :: (ds ++ [d1])) r)
    (PM : ∀ {f : Addr} {fd : FuncData} {ta tb : TE} {t : TA}, Cls X.K C → Room k X.A → FnOk X.prog X.w X.K X.mg X.base CX0 k f fd ps (spG X.K G) → KBn X.K fd ps n [kn] (fun us ws => us ++ ws) (fun vs zs => vs ++ zs) → Meth X.K C m f → PE X o ta → PA X (e :: es) t → PE X e1 tb → PE X (.Call (.Attribute o m apos) (e :: es) [⟨some kn, e1, kpos⟩] pos) (tMethK C m n (spG X.K G) ta t (tCons tb tNil)) := by
      exact fun cl hr hF hB hM ho ha hk => pe_methK ho cl hM hF hr hB ha (pk_cons hk pk_nil)) : HasR X E (.Call (.Attribute o m apos) (e :: es) [⟨some kn, e1, kpos⟩] pos) r := by
  obtain ⟨f, fd, hF, hB, hM⟩ := T.ex
  refine PE.mono (PM T.cl hr hF hB hM ho ha hk) fun σ H Q ⟨F, τ, S, kt⟩ => ⟨F, τ, S, fun v s H1 hs oo => ?_⟩
  cases hs
  have r1 := oo.rp
  have S1 := S.grow oo.ex
  cases r1 with
  | ins q rs =>
    rename_i a dx vs
    refine ⟨a, dx, vs, rfl, S1.bex _ _ q, rs.none hm, F, τ, S1, fun us H2 e2 r2 => ?_⟩
    have S2 := S1.grow e2
    refine ⟨F, τ, S2, fun w s3 H3 hs3 o3 => ?_⟩
    cases hs3
    have S3 := S2.grow o3.ex
    refine ⟨by rw [List.length_cons, r2.len]; exact hn, rfl, ?_⟩
    exact spG_of S3 (.cons (Rep.le (S1.bmono (e2.trans o3.ex)).le oo.rp) (Reps.append (Reps.le (S2.bmono o3.ex).le r2) (.cons o3.rp .nil))) hG (Kt.later kt ((oo.ex.trans e2).trans o3.ex))
/-- a constructor with a keyword-only parameter at the end -/
structure KnCK (P : Program) (w : World) (K : PySem.W.Frag) (mg : Str → Option Value) (bs : Heap) (CX : CXT) (k : Nat) (x : Str) (C : Addr) (ps : List Str) (n : Nat) (ks : List Str) (sp : Sp) : Prop where
  ex : ∃ (f : Addr) (fd : FuncData), Mk K C f ∧ FnOk P w K mg bs CX k f fd ps sp ∧ KBn K fd ps (n + 1) ks (fun us ws => us ++ ws) (fun vs zs => vs ++ zs) ∧ mg x = some (.ref C)
/-- C(e, .., k = e1) -/
theorem h_makeK {G : Sl → List D → (Sl → Prop) → Prop} {rr : Rs} {rP : Sl → Prop} (T : KnCK X.prog X.w X.K X.mg X.base CX0 k x C ps n [kn] (spI X.K G)) (hr : Room (k + 1) X.A) (ha : HA X E (e :: es) ds) (hk : HasD X E e1 d1) (hn : ds.length = n) (hG : ∀ y, G (.oI y C []) (ds ++ [d1]) rP) (hR : MakeR rP rr) (hg : Gl X x := by rfl)
    (PC : ∀ {f : Addr} {fd : FuncData} {tb : TE} {t : TA}, Room (k + 1) X.A → Mk X.K C f → FnOk X.prog X.w X.K X.mg X.base CX0 k f fd ps (spI X.K G) → KBn X.K fd ps (n + 1) [kn] (fun us ws => us ++ ws) (fun vs zs => vs ++ zs) → X.mg x = some (.ref C) → PA X (e :: es) t → PE X e1 tb → PE X (.Call (.Name x p) (e :: es) [⟨some kn, e1, kpos⟩] pos) (tMakeK C n [kn].length (spI X.K G) (fun vs zs => vs ++ zs) E0 t (tCons tb tNil)) := by
      exact fun hr M hF hB hM ha hk => pe_makeK M hF hr (by rfl) hM hB pass0 ha (pk_cons hk pk_nil)) : HasR X E (.Call (.Name x p) (e :: es) [⟨some kn, e1, kpos⟩] pos) rr := by
  obtain ⟨f, fd, M, hF, hB, hM⟩ := T.ex
  refine PE.mono (PC hr M hF hB hM ha hk) fun σ H Q ⟨F, τ, S, kt⟩ => ⟨F, τ, S, fun vs H1 ex1 rs => ?_⟩
  have S1 := S.grow ex1
  refine ⟨F, τ, S1, fun w s2 H2 hs2 o2 => ?_⟩
  cases hs2
  have S2 := S1.grow o2.ex
  refine ⟨by rw [rs.len]; exact hn, rfl, fun y dy h1 h2 h3 => ?_⟩
  exact spI_make S2 (Reps.append (Reps.le (S1.bmono o2.ex).le rs) (.cons o2.rp .nil)) hG hR (Kt.later kt (ex1.trans o2.ex)) h1 h2 h3
end
end K39
/-! KTop -/
set_option maxHeartbeats 4000000
/-! ## the text by places, the defs, what the head says -/
namespace K39
open PySem PySem.Spec PyProof.Rows L2
def top (i : Nat) : Stmt := PySem.Challenge.pw_coretower_k39_whole_fewest_additions.main.body.getD i (.Pass ⟨0, 0, 0, 0⟩)
abbrev s_is_name : Stmt := top 12
abbrev s_is_whole : Stmt := top 13
abbrev s_ascending : Stmt := top 14
abbrev s_is_fence : Stmt := top 20
abbrev s_Pairs_init : Stmt := inClass (top 21) 0
abbrev s_Pairs_contains : Stmt := inClass (top 21) 3
abbrev s_Book_init : Stmt := inClass (top 22) 0
abbrev s_Book_fences : Stmt := inClass (top 22) 1
abbrev s_Book_fence : Stmt := inClass (top 22) 2
abbrev s_Book_keeps : Stmt := inClass (top 22) 3
abbrev s_group_of : Stmt := top 24
abbrev s_are_fences : Stmt := top 25
abbrev s_fits : Stmt := top 26
abbrev s_normal : Stmt := top 27
abbrev s_Recipe_init : Stmt := inClass (top 29) 0
abbrev s_Recipe_iter : Stmt := inClass (top 29) 1
abbrev s_Recipe_getitem : Stmt := inClass (top 29) 2
abbrev s_Recipe_setitem : Stmt := inClass (top 29) 3
abbrev s_spots : Stmt := top 30
abbrev s_at_spot : Stmt := top 31
abbrev s_aim : Stmt := top 32
abbrev s_is_lost : Stmt := top 33
abbrev s_is_due : Stmt := top 34
abbrev s_lost : Stmt := top 35
abbrev s_all_spots : Stmt := top 36
abbrev s_added : Stmt := top 37
abbrev s_cures : Stmt := top 38
abbrev s_unmet : Stmt := top 39
abbrev s_fewest : Stmt := top 40
abbrev s_l_great : Stmt := top 42
abbrev s_l_draw : Stmt := top 43
abbrev s_l_pairs : Stmt := top 44
abbrev s_l_usual : Stmt := top 45
abbrev s_l_set : Stmt := top 46
abbrev s_l_name : Stmt := top 47
abbrev s_l_book : Stmt := top 48
abbrev s_l_table : Stmt := top 49
abbrev s_l_goal : Stmt := top 50
abbrev s_l_names : Stmt := top 51
abbrev s_l_plain : Stmt := top 52
abbrev s_l_some : Stmt := top 53
abbrev s_l_loose : Stmt := top 54
abbrev s_l_normal : Stmt := top 55
abbrev s_l_rows : Stmt := top 56
abbrev s_l_kept_by : Stmt := top 57
abbrev s_l_wanted : Stmt := top 58
abbrev s_l_ahead : Stmt := top 59
abbrev s_l_becomes : Stmt := top 60
abbrev s_l_lost : Stmt := top 61
abbrev s_l_spots : Stmt := top 62
abbrev s_l_able : Stmt := top 63
abbrev s_l_put : Stmt := top 64
abbrev s_l_part : Stmt := top 65
abbrev s_l_taken : Stmt := top 66
abbrev s_l_known : Stmt := top 67
abbrev s_l_near : Stmt := top 68
abbrev s_l_masks : Stmt := top 69
abbrev s_l_due : Stmt := top 70
abbrev s_l_told : Stmt := top 71
abbrev s_l_walked : Stmt := top 72
abbrev s_l_refusal : Stmt := top 73
abbrev s_law : Stmt := top 74
/-- the keyword-only default x of a def, if it is an object -/
def kwdAt (f : Str × Option Str) (x : Str) (K : PySem.W.Frag) : Addr := match K.lookup (He.fAd K f) with
  | some ⟨_, _, .func fd, _⟩ => (match fd.kwdefaults with
    | .ref D => (match PySem.W.nsIn K D x with
      | some (some (.ref a)) => a
      | _ => 0)
    | _ => 0)
  | _ => 0
def d_is_name : He.DefD := ⟨("is_name", none), "is_name", "is_name", defArgs s_is_name, defBody s_is_name, defScope s_is_name, [], []⟩
def d_is_whole : He.DefD := ⟨("is_whole", none), "is_whole", "is_whole", defArgs s_is_whole, defBody s_is_whole, defScope s_is_whole, [], []⟩
def d_ascending : He.DefD := ⟨("ascending", none), "ascending", "ascending", defArgs s_ascending, defBody s_ascending, defScope s_ascending, [], []⟩
def d_is_fence : He.DefD := ⟨("is_fence", none), "is_fence", "is_fence", defArgs s_is_fence, defBody s_is_fence, defScope s_is_fence, [], []⟩
def d_Pairs_init : He.DefD := ⟨("Pairs", some "__init__"), "__init__", "Pairs.__init__", defArgs s_Pairs_init, defBody s_Pairs_init, defScope s_Pairs_init, [.adr (He.dflAt ("Pairs", some "__init__") 0)], []⟩
def d_Pairs_contains : He.DefD := ⟨("Pairs", some "__contains__"), "__contains__", "Pairs.__contains__", defArgs s_Pairs_contains, defBody s_Pairs_contains, defScope s_Pairs_contains, [], []⟩
def d_Book_init : He.DefD := ⟨("Book", some "__init__"), "__init__", "Book.__init__", defArgs s_Book_init, defBody s_Book_init, defScope s_Book_init, [], [("fences", .non)]⟩
def d_Book_fences : He.DefD := ⟨("Book", some "fences"), "fences", "Book.fences", defArgs s_Book_fences, defBody s_Book_fences, defScope s_Book_fences, [], []⟩
def d_Book_fence : He.DefD := ⟨("Book", some "fence"), "fence", "Book.fence", defArgs s_Book_fence, defBody s_Book_fence, defScope s_Book_fence, [], []⟩
def d_Book_keeps : He.DefD := ⟨("Book", some "keeps"), "keeps", "Book.keeps", defArgs s_Book_keeps, defBody s_Book_keeps, defScope s_Book_keeps, [], [("between", .adr (kwdAt ("Book", some "keeps") "between"))]⟩
def d_group_of : He.DefD := ⟨("group_of", none), "group_of", "group_of", defArgs s_group_of, defBody s_group_of, defScope s_group_of, [], []⟩
def d_are_fences : He.DefD := ⟨("are_fences", none), "are_fences", "are_fences", defArgs s_are_fences, defBody s_are_fences, defScope s_are_fences, [], []⟩
def d_fits : He.DefD := ⟨("fits", none), "fits", "fits", defArgs s_fits, defBody s_fits, defScope s_fits, [], []⟩
def d_normal : He.DefD := ⟨("normal", none), "normal", "normal", defArgs s_normal, defBody s_normal, defScope s_normal, [], []⟩
def d_Recipe_init : He.DefD := ⟨("Recipe", some "__init__"), "__init__", "Recipe.__init__", defArgs s_Recipe_init, defBody s_Recipe_init, defScope s_Recipe_init, [], []⟩
def d_Recipe_iter : He.DefD := ⟨("Recipe", some "__iter__"), "__iter__", "Recipe.__iter__", defArgs s_Recipe_iter, defBody s_Recipe_iter, defScope s_Recipe_iter, [], []⟩
def d_Recipe_getitem : He.DefD := ⟨("Recipe", some "__getitem__"), "__getitem__", "Recipe.__getitem__", defArgs s_Recipe_getitem, defBody s_Recipe_getitem, defScope s_Recipe_getitem, [], []⟩
def d_Recipe_setitem : He.DefD := ⟨("Recipe", some "__setitem__"), "__setitem__", "Recipe.__setitem__", defArgs s_Recipe_setitem, defBody s_Recipe_setitem, defScope s_Recipe_setitem, [], []⟩
def d_spots : He.DefD := ⟨("spots", none), "spots", "spots", defArgs s_spots, defBody s_spots, defScope s_spots, [], []⟩
def d_at_spot : He.DefD := ⟨("at_spot", none), "at_spot", "at_spot", defArgs s_at_spot, defBody s_at_spot, defScope s_at_spot, [], []⟩
def d_aim : He.DefD := ⟨("aim", none), "aim", "aim", defArgs s_aim, defBody s_aim, defScope s_aim, [], []⟩
def d_is_lost : He.DefD := ⟨("is_lost", none), "is_lost", "is_lost", defArgs s_is_lost, defBody s_is_lost, defScope s_is_lost, [], []⟩
def d_is_due : He.DefD := ⟨("is_due", none), "is_due", "is_due", defArgs s_is_due, defBody s_is_due, defScope s_is_due, [], []⟩
def d_lost : He.DefD := ⟨("lost", none), "lost", "lost", defArgs s_lost, defBody s_lost, defScope s_lost, [], []⟩
def d_all_spots : He.DefD := ⟨("all_spots", none), "all_spots", "all_spots", defArgs s_all_spots, defBody s_all_spots, defScope s_all_spots, [], []⟩
def d_added : He.DefD := ⟨("added", none), "added", "added", defArgs s_added, defBody s_added, defScope s_added, [], []⟩
def d_cures : He.DefD := ⟨("cures", none), "cures", "cures", defArgs s_cures, defBody s_cures, defScope s_cures, [], []⟩
def d_unmet : He.DefD := ⟨("unmet", none), "unmet", "unmet", defArgs s_unmet, defBody s_unmet, defScope s_unmet, [], []⟩
def d_fewest : He.DefD := ⟨("fewest", none), "fewest", "fewest", defArgs s_fewest, defBody s_fewest, defScope s_fewest, [], []⟩
def d_l_great : He.DefD := ⟨("_law_great", none), "_law_great", "_law_great", defArgs s_l_great, defBody s_l_great, defScope s_l_great, [], []⟩
def d_l_draw : He.DefD := ⟨("_law_draw", none), "_law_draw", "_law_draw", defArgs s_l_draw, defBody s_l_draw, defScope s_l_draw, [], []⟩
def d_l_pairs : He.DefD := ⟨("_law_pairs", none), "_law_pairs", "_law_pairs", defArgs s_l_pairs, defBody s_l_pairs, defScope s_l_pairs, [], []⟩
def d_l_usual : He.DefD := ⟨("_law_usual", none), "_law_usual", "_law_usual", defArgs s_l_usual, defBody s_l_usual, defScope s_l_usual, [], []⟩
def d_l_set : He.DefD := ⟨("_law_set", none), "_law_set", "_law_set", defArgs s_l_set, defBody s_l_set, defScope s_l_set, [], []⟩
def d_l_name : He.DefD := ⟨("_law_name", none), "_law_name", "_law_name", defArgs s_l_name, defBody s_l_name, defScope s_l_name, [], []⟩
def d_l_book : He.DefD := ⟨("_law_book", none), "_law_book", "_law_book", defArgs s_l_book, defBody s_l_book, defScope s_l_book, [], []⟩
def d_l_table : He.DefD := ⟨("_law_table", none), "_law_table", "_law_table", defArgs s_l_table, defBody s_l_table, defScope s_l_table, [], []⟩
def d_l_goal : He.DefD := ⟨("_law_goal", none), "_law_goal", "_law_goal", defArgs s_l_goal, defBody s_l_goal, defScope s_l_goal, [], []⟩
def d_l_names : He.DefD := ⟨("_law_names", none), "_law_names", "_law_names", defArgs s_l_names, defBody s_l_names, defScope s_l_names, [], []⟩
def d_l_plain : He.DefD := ⟨("_law_plain", none), "_law_plain", "_law_plain", defArgs s_l_plain, defBody s_l_plain, defScope s_l_plain, [], []⟩
def d_l_some : He.DefD := ⟨("_law_some", none), "_law_some", "_law_some", defArgs s_l_some, defBody s_l_some, defScope s_l_some, [], []⟩
def d_l_loose : He.DefD := ⟨("_law_loose", none), "_law_loose", "_law_loose", defArgs s_l_loose, defBody s_l_loose, defScope s_l_loose, [], []⟩
def d_l_normal : He.DefD := ⟨("_law_normal", none), "_law_normal", "_law_normal", defArgs s_l_normal, defBody s_l_normal, defScope s_l_normal, [], []⟩
def d_l_rows : He.DefD := ⟨("_law_rows", none), "_law_rows", "_law_rows", defArgs s_l_rows, defBody s_l_rows, defScope s_l_rows, [], []⟩
def d_l_kept_by : He.DefD := ⟨("_law_kept_by", none), "_law_kept_by", "_law_kept_by", defArgs s_l_kept_by, defBody s_l_kept_by, defScope s_l_kept_by, [], []⟩
def d_l_wanted : He.DefD := ⟨("_law_wanted", none), "_law_wanted", "_law_wanted", defArgs s_l_wanted, defBody s_l_wanted, defScope s_l_wanted, [], []⟩
def d_l_ahead : He.DefD := ⟨("_law_ahead", none), "_law_ahead", "_law_ahead", defArgs s_l_ahead, defBody s_l_ahead, defScope s_l_ahead, [], []⟩
def d_l_becomes : He.DefD := ⟨("_law_becomes", none), "_law_becomes", "_law_becomes", defArgs s_l_becomes, defBody s_l_becomes, defScope s_l_becomes, [], []⟩
def d_l_lost : He.DefD := ⟨("_law_lost", none), "_law_lost", "_law_lost", defArgs s_l_lost, defBody s_l_lost, defScope s_l_lost, [], []⟩
def d_l_spots : He.DefD := ⟨("_law_spots", none), "_law_spots", "_law_spots", defArgs s_l_spots, defBody s_l_spots, defScope s_l_spots, [], []⟩
def d_l_able : He.DefD := ⟨("_law_able", none), "_law_able", "_law_able", defArgs s_l_able, defBody s_l_able, defScope s_l_able, [], []⟩
def d_l_put : He.DefD := ⟨("_law_put", none), "_law_put", "_law_put", defArgs s_l_put, defBody s_l_put, defScope s_l_put, [], []⟩
def d_l_part : He.DefD := ⟨("_law_part", none), "_law_part", "_law_part", defArgs s_l_part, defBody s_l_part, defScope s_l_part, [], []⟩
def d_l_taken : He.DefD := ⟨("_law_taken", none), "_law_taken", "_law_taken", defArgs s_l_taken, defBody s_l_taken, defScope s_l_taken, [], []⟩
def d_l_known : He.DefD := ⟨("_law_known", none), "_law_known", "_law_known", defArgs s_l_known, defBody s_l_known, defScope s_l_known, [], []⟩
def d_l_near : He.DefD := ⟨("_law_near", none), "_law_near", "_law_near", defArgs s_l_near, defBody s_l_near, defScope s_l_near, [], []⟩
def d_l_masks : He.DefD := ⟨("_law_masks", none), "_law_masks", "_law_masks", defArgs s_l_masks, defBody s_l_masks, defScope s_l_masks, [], []⟩
def d_l_due : He.DefD := ⟨("_law_due", none), "_law_due", "_law_due", defArgs s_l_due, defBody s_l_due, defScope s_l_due, [], []⟩
def d_l_told : He.DefD := ⟨("_law_told", none), "_law_told", "_law_told", defArgs s_l_told, defBody s_l_told, defScope s_l_told, [], []⟩
def d_l_walked : He.DefD := ⟨("_law_walked", none), "_law_walked", "_law_walked", defArgs s_l_walked, defBody s_l_walked, defScope s_l_walked, [], []⟩
def d_l_refusal : He.DefD := ⟨("_law_refusal", none), "_law_refusal", "_law_refusal", defArgs s_l_refusal, defBody s_l_refusal, defScope s_l_refusal, [], []⟩
def d_law : He.DefD := ⟨("law", none), "law", "law", defArgs s_law, defBody s_law, defScope s_law, [], []⟩
def fn : List He.DefD := [d_is_name, d_is_whole, d_ascending, d_is_fence, d_Pairs_init, d_Pairs_contains, d_Book_init, d_Book_fences, d_Book_fence, d_Book_keeps, d_group_of, d_are_fences, d_fits, d_normal, d_Recipe_init, d_Recipe_iter, d_Recipe_getitem, d_Recipe_setitem, d_spots, d_at_spot, d_aim, d_is_lost, d_is_due, d_lost, d_all_spots, d_added, d_cures, d_unmet, d_fewest, d_l_great, d_l_draw, d_l_pairs] ++ [d_l_usual, d_l_set, d_l_name, d_l_book, d_l_table, d_l_goal, d_l_names, d_l_plain, d_l_some, d_l_loose, d_l_normal, d_l_rows, d_l_kept_by, d_l_wanted, d_l_ahead, d_l_becomes, d_l_lost, d_l_spots, d_l_able, d_l_put, d_l_part, d_l_taken, d_l_known, d_l_near, d_l_masks, d_l_due, d_l_told, d_l_walked, d_l_refusal, d_law]
def fa0 : List He.Fa := [.glo "is_name", .glo "is_whole", .glo "ascending", .glo "is_fence", .glo "group_of", .glo "are_fences", .glo "fits", .glo "normal", .glo "spots", .glo "at_spot", .glo "aim", .glo "is_lost", .glo "is_due", .glo "lost", .glo "all_spots", .glo "added", .glo "cures", .glo "unmet", .glo "fewest", .glo "_law_great", .glo "_law_draw", .glo "_law_pairs", .glo "_law_usual", .glo "_law_set", .glo "_law_name", .glo "_law_book", .glo "_law_table", .glo "_law_goal", .glo "_law_names", .glo "_law_plain", .glo "_law_some", .glo "_law_loose", .glo "_law_normal", .glo "_law_rows", .glo "_law_kept_by", .glo "_law_wanted", .glo "_law_ahead", .glo "_law_becomes", .glo "_law_lost", .glo "_law_spots"]
def fa1 : List He.Fa := [.glo "_law_able", .glo "_law_put", .glo "_law_part", .glo "_law_taken", .glo "_law_known", .glo "_law_near", .glo "_law_masks", .glo "_law_due", .glo "_law_told", .glo "_law_walked", .glo "_law_refusal", .glo "law", .glo "Pairs", .glo "Book", .glo "Recipe", .glo "CoreError", .glo "BadNumber", .glo "BadRow", .glo "READS", .glo "WRITES", .glo "KINDS", .glo "PAIRS", .free "len", .free "isinstance", .free "str", .free "int", .free "bool", .free "sorted", .free "set", .free "list", .free "tuple", .free "dict", .free "range", .free "iter", .free "super", .free "ValueError", .str "LETTERS" "abcdefghijklmnopqrstuvwxyz", .cls "Pairs", .mkr "Pairs", .cls "Book"]
def fa2 : List He.Fa := [.mkr "Book", .cls "Recipe", .mkr "Recipe", .noat "Pairs" "own_rows", .noat "Book" "kept", .noat "Book" "own_kept_by", .noat "Book" "own_names", .noat "Recipe" "source", .noat "Recipe" "target", .noat "Recipe" "own_names", .noat "Recipe" "own_rows", .meth "Book" "fences", .meth "Book" "fence", .meth "Book" "keeps", .meth "Pairs" "__contains__", .meth "Recipe" "__iter__", .meth "Recipe" "__getitem__", .meth "Recipe" "__setitem__"]
def fa : List He.Fa := fa0 ++ (fa1 ++ (fa2))
/-! what the head says beyond the kit's facts -/
def strsOf : List Value → Option (List Str)
  | [] => some []
  | .str x _ :: r => (strsOf r).map (x :: ·)
  | _ :: _ => none
def strTup (K : PySem.W.Frag) (v : Value) : Option (List Str) := match v with
  | .ref a => (match K.lookup a with
    | some ⟨.type "tuple", _, .seq its _, _⟩ => if its.size ≤ 1000 then strsOf its.toList else none
    | _ => none)
  | _ => none
def strTups (K : PySem.W.Frag) : List Value → Option (List (List Str))
  | [] => some []
  | v :: r => (match strTup K v with
    | some x => (strTups K r).map (x :: ·)
    | none => none)
def pairTup (K : PySem.W.Frag) (v : Value) : Option (List (List Str)) := match v with
  | .ref a => (match K.lookup a with
    | some ⟨.type "tuple", _, .seq its _, _⟩ => if its.size ≤ 1000 then strTups K its.toList else none
    | _ => none)
  | _ => none
def kinds5 : List Str := ["read", "acquire", "write", "release", "both"]
def pairsM : List (Str × Str) := kinds5.flatMap fun (a : Str) => kinds5.map (fun (b : Str) => (a, b)) ++ (if a = ("write" : Str) ∨ a = ("release" : Str) then [(a, ("return" : Str))] else [])
def pairs27 : List (List Str) := pairsM.map fun p => [p.1, p.2]
def extra (K : PySem.W.Frag) : Bool := decide (strTup K (.ref (He.ga K "READS")) = some (["read", "acquire"] : List Str)) && (decide (strTup K (.ref (He.ga K "WRITES")) = some (["write", "release"] : List Str)) && (decide (strTup K (.ref (He.ga K "KINDS")) = some kinds5) &&
  (decide (pairTup K (.ref (He.ga K "PAIRS")) = some pairs27) && (decide (PySem.W.findIn K (.ref (He.ga K "Recipe")) "__len__" = some none) && (decide (PySem.W.findIn K (.ref (He.ga K "Recipe")) "__length_hint__" = some none) && PySem.W.noSeq K (He.ga K "Recipe"))))))
/-- what the head says -/
structure Hd (K : PySem.W.Frag) (mg : Str → Option Value) : Prop where
  says : He.SaysD fa fn K
  xt : extra K = true
  ex : ∃ h : Heap, K.In h ∧ h.Ns mainGlobals mg
section
variable {P : Program} {w : World} {K : PySem.W.Frag} {mg : Str → Option Value} {bs : Heap}
theorem strsOf_vals : ∀ {l : List Value} {xs : List Str}, strsOf l = some xs → Vals (xs.map V.str) l
  | [], xs, h => by cases h; exact .nil
  | v :: r, xs, h => by
    cases v with
    | str x tk =>
      have h' : (strsOf r).map (x :: ·) = some xs := h
      obtain ⟨ys, e1, e2⟩ := Option.map_eq_some_iff.mp h'
      subst e2
      exact .cons ⟨tk, rfl⟩ (strsOf_vals e1)
    | _ => cases h
theorem reps_str (B : Hp) : ∀ xs : List Str, Reps K B (xs.map V.str) (xs.map D.str)
  | [] => .nil
  | x :: xs => .cons (.str x) (reps_str B xs)
theorem strTup_rep {a : Addr} {xs : List Str} (h : strTup K (.ref a) = some xs) (B : Hp) : Rep K B (.ref a) (.tup (xs.map .str)) := by
  unfold strTup at h
  dsimp only at h
  split at h
  · rename_i e
    split at h
    · rename_i hz
      exact .tup (.inr ⟨_, _, _, e, rfl, rfl, by rw [sizeLine_eq]; omega, strsOf_vals h⟩) (reps_str B xs)
    · cases h
  · cases h
theorem strTups_reps : ∀ {l : List Value} {xss : List (List Str)}, strTups K l = some xss → ∃ vs, Vals vs l ∧ ∀ B, Reps K B vs (xss.map fun xs => .tup (xs.map .str))
  | [], xss, h => by cases h; exact ⟨[], .nil, fun _ => .nil⟩
  | v :: r, xss, h => by
    unfold strTups at h
    split at h
    · rename_i x e
      obtain ⟨ys, e1, e2⟩ := Option.map_eq_some_iff.mp h
      subst e2
      obtain ⟨vs, h1, h2⟩ := strTups_reps e1
      cases v with
      | ref a => exact ⟨.ref a :: vs, .cons rfl h1, fun B => .cons (strTup_rep e B) (h2 B)⟩
      | _ => cases e
    · cases h
theorem pairTup_rep {a : Addr} {xss : List (List Str)} (h : pairTup K (.ref a) = some xss) (B : Hp) : Rep K B (.ref a) (.tup (xss.map fun xs => .tup (xs.map .str))) := by
  unfold pairTup at h
  dsimp only at h
  split at h
  · rename_i e
    split at h
    · rename_i hz
      obtain ⟨vs, h1, h2⟩ := strTups_reps h
      exact .tup (.inr ⟨_, _, _, e, rfl, rfl, by rw [sizeLine_eq]; omega, h1⟩) (h2 B)
    · cases h
  · cases h
theorem Hd.xx (T : Hd K mg) : strTup K (.ref (He.ga K "READS")) = some (["read", "acquire"] : List Str) ∧ strTup K (.ref (He.ga K "WRITES")) = some (["write", "release"] : List Str) ∧ strTup K (.ref (He.ga K "KINDS")) = some kinds5 ∧ pairTup K (.ref (He.ga K "PAIRS")) = some pairs27 ∧
    PySem.W.findIn K (.ref (He.ga K "Recipe")) "__len__" = some none ∧ PySem.W.findIn K (.ref (He.ga K "Recipe")) "__length_hint__" = some none ∧ PySem.W.noSeq K (He.ga K "Recipe") = true := by
  have h := T.xt
  unfold extra at h
  simp only [Bool.and_eq_true, decide_eq_true_eq] at h
  exact h
theorem Hd.r_READS (T : Hd K mg) (B : Hp) : Rep K B (.ref (He.ga K "READS")) (.tup [.str "read", .str "acquire"]) := strTup_rep T.xx.1 B
theorem Hd.r_WRITES (T : Hd K mg) (B : Hp) : Rep K B (.ref (He.ga K "WRITES")) (.tup [.str "write", .str "release"]) := strTup_rep T.xx.2.1 B
theorem Hd.r_KINDS (T : Hd K mg) (B : Hp) : Rep K B (.ref (He.ga K "KINDS")) (.tup (kinds5.map .str)) := strTup_rep T.xx.2.2.1 B
theorem Hd.r_PAIRS (T : Hd K mg) (B : Hp) : Rep K B (.ref (He.ga K "PAIRS")) (.tup (pairs27.map fun xs => .tup (xs.map .str))) := pairTup_rep T.xx.2.2.2.1 B
theorem Hd.glo (T : Hd K mg) {x : Str} (c : (He.Fa.glo x).ok K = true) : mg x = some (.ref (He.ga K x)) := by
  obtain ⟨h, X, G⟩ := T.ex
  exact He.glo_ok X G c
theorem Hd.free (T : Hd K mg) {x : Str} (c : (He.Fa.free x).ok K = true) : mg x = none := by
  obtain ⟨h, X, G⟩ := T.ex
  exact He.free_ok X G c
theorem kn_of {x : Str} {st : Stmt} {N ps : List Str} {k : Nat} {G : List D → Rs → Prop} (F : ∃ fd, L2.FunD K x x (defArgs st) (defBody st) (defScope st) [] [] (He.ga K x) fd) (g : mg x = some (.ref (He.ga K x))) (sc : FnScope N ps (defScope st)) (hl : ps.length ≤ N.length)
    (hbind : ∀ (kV doc pm : Value) (an : Option Addr) (cdv ct : Value) (us : List Value), us.length = ps.length → bindArgs (PySem.W.fnOf x x (defArgs st) (defBody st) (defScope st) .none kV doc pm an cdv ct) ⟨us, []⟩ = pure (ps.zip us))
    (len : ∀ ds r, G ds r → ds.length = ps.length)
    (hb : ∀ (c : Cc) (ds : List D) (r : Rs), Room k (Cc.cx P w K mg bs N x st c).A → G ds r → HasSs (Cc.cx P w K mg bs N x st c) (args ds (N.length - ds.length)) (defBody st) ⟨fun _ => r = .val .non, r.ok, fun _ => False, fun _ => False⟩) :
    Kn P w K mg bs CX0 (k + 1) x ps (spG K G) := by
  obtain ⟨fd, F⟩ := F
  exact ⟨_, fd, fn_ok F sc hl len hb, F.bindsN hbind, F.kp, g⟩
theorem fnIn_of {x qual : Str} {params : Arguments} {body : List Stmt} {scope : Scope} {dvs : List V} {kws : List (Str × V)} {f : Addr} {fd : FuncData} (F : L2.FunD K x qual params body scope dvs kws f fd) : PySem.W.fnIn K f = true := by
  obtain ⟨oc, od, dV, kV, doc, pm, an, cdv, ct, osl, rfl, lk, _⟩ := F.ex
  unfold PySem.W.fnIn
  rw [lk]
theorem knM_of {C : Addr} {m qual : Str} {st : Stmt} {N ps : List Str} {k : Nat} {G : List D → Rs → Prop} (F : ∃ fd, L2.FunD K m qual (defArgs st) (defBody st) (defScope st) [] [] (He.ma K C m) fd) (M : Meth K C m (He.ma K C m)) (cl : Cls K C) (sc : FnScope N ps (defScope st)) (hl : ps.length ≤ N.length)
    (hbind : ∀ (kV doc pm : Value) (an : Option Addr) (cdv ct : Value) (us : List Value), us.length = ps.length → bindArgs (PySem.W.fnOf m qual (defArgs st) (defBody st) (defScope st) .none kV doc pm an cdv ct) ⟨us, []⟩ = pure (ps.zip us))
    (len : ∀ ds r, G ds r → ds.length = ps.length)
    (hb : ∀ (c : Cc) (ds : List D) (r : Rs), Room k (Cc.cx P w K mg bs N qual st c).A → G ds r → HasSs (Cc.cx P w K mg bs N qual st c) (args ds (N.length - ds.length)) (defBody st) ⟨fun _ => r = .val .non, r.ok, fun _ => False, fun _ => False⟩) :
    KnM P w K mg bs CX0 (k + 1) C m ps (spG K G) := by
  obtain ⟨fd, F⟩ := F
  exact ⟨⟨_, fd, fn_ok F sc hl len hb, F.bindsN hbind, M, fnIn_of F⟩, cl⟩
/-- a constructor, every parameter is written -/
theorem knC_of {x qual : Str} {st : Stmt} {N ps : List Str} {k : Nat} {G : Sl → List D → (Sl → Prop) → Prop} {dvs : List V} {kws : List (Str × V)} (F : ∃ fd, L2.FunD K "__init__" qual (defArgs st) (defBody st) (defScope st) dvs kws (He.ma K (He.ga K x) "__init__") fd ∧ L2.Binds K fd ps []) (M : Mk K (He.ga K x) (He.ma K (He.ga K x) "__init__")) (g : mg x = some (.ref (He.ga K x))) (sc : FnScope N ps (defScope st)) (hl : ps.length ≤ N.length)
    (len : ∀ s ds r, G s ds r → ds.length + 1 = ps.length) (hh : ∀ s ds r s1, G s ds r → r s1 → s.own ≠ [] ∧ s1.hd = s.hd ∧ ∀ l ∈ s.own, l ∈ s1.own)
    (hb : ∀ (c : Cc) (s0 : Sl) (ds : List D) (r : Sl → Prop), Room k (Cc.cx P w K mg bs N qual st c).A → G s0 ds r →
      HasSs (Cc.cx P w K mg bs N qual st c) (argsI s0 ds (N.length - (ds.length + 1))) (defBody st) ⟨fun E' => ∃ s1, E'[0]? = some (some s1) ∧ r s1, fun _ => False, fun _ => False, fun _ => False⟩) :
    KnC P w K mg bs CX0 (k + 1) x (He.ga K x) ps (spI K G) := by
  obtain ⟨fd, F, B⟩ := F
  exact ⟨_, fd, M, fnI_ok F sc hl len hh hb, B, g⟩
theorem knCK_of {x qual : Str} {st : Stmt} {N ps ks : List Str} {k n : Nat} {G : Sl → List D → (Sl → Prop) → Prop} {dvs : List V} {kws : List (Str × V)} (F : ∃ fd, L2.FunD K "__init__" qual (defArgs st) (defBody st) (defScope st) dvs kws (He.ma K (He.ga K x) "__init__") fd ∧ KBn K fd ps (n + 1) ks (fun us ws => us ++ ws) (fun vs zs => vs ++ zs)) (M : Mk K (He.ga K x) (He.ma K (He.ga K x) "__init__")) (g : mg x = some (.ref (He.ga K x))) (sc : FnScope N ps (defScope st)) (hl : ps.length ≤ N.length)
    (len : ∀ s ds r, G s ds r → ds.length + 1 = ps.length) (hh : ∀ s ds r s1, G s ds r → r s1 → s.own ≠ [] ∧ s1.hd = s.hd ∧ ∀ l ∈ s.own, l ∈ s1.own)
    (hb : ∀ (c : Cc) (s0 : Sl) (ds : List D) (r : Sl → Prop), Room k (Cc.cx P w K mg bs N qual st c).A → G s0 ds r →
      HasSs (Cc.cx P w K mg bs N qual st c) (argsI s0 ds (N.length - (ds.length + 1))) (defBody st) ⟨fun E' => ∃ s1, E'[0]? = some (some s1) ∧ r s1, fun _ => False, fun _ => False, fun _ => False⟩) :
    KnCK P w K mg bs CX0 (k + 1) x (He.ga K x) ps n ks (spI K G) := by
  obtain ⟨fd, F, B⟩ := F
  exact ⟨_, fd, M, fnI_ok F sc hl len hh hb, B, g⟩
theorem knS_of {C : Addr} {m qual : Str} {st : Stmt} {N ps : List Str} {k : Nat} {G : Sl → List D → (Sl → Prop) → Prop} (F : ∃ fd, L2.FunD K m qual (defArgs st) (defBody st) (defScope st) [] [] (He.ma K C m) fd) (M : Meth K C m (He.ma K C m)) (sq : PySem.W.noSeq K C = true) (sc : FnScope N ps (defScope st)) (hl : ps.length ≤ N.length)
    (hbind : ∀ (kV doc pm : Value) (an : Option Addr) (cdv ct : Value) (us : List Value), us.length = ps.length → bindArgs (PySem.W.fnOf m qual (defArgs st) (defBody st) (defScope st) .none kV doc pm an cdv ct) ⟨us, []⟩ = pure (ps.zip us))
    (len : ∀ s ds r, G s ds r → ds.length + 1 = ps.length) (hh : ∀ s ds r s1, G s ds r → r s1 → s.own ≠ [] ∧ s1.hd = s.hd ∧ ∀ l ∈ s.own, l ∈ s1.own)
    (hb : ∀ (c : Cc) (s0 : Sl) (ds : List D) (r : Sl → Prop), Room k (Cc.cx P w K mg bs N qual st c).A → G s0 ds r →
      HasSs (Cc.cx P w K mg bs N qual st c) (argsI s0 ds (N.length - (ds.length + 1))) (defBody st) ⟨fun E' => ∃ s1, E'[0]? = some (some s1) ∧ r s1, fun _ => False, fun _ => False, fun _ => False⟩) :
    KnS P w K mg bs CX0 (k + 1) C m ps (spI K G) := by
  obtain ⟨fd, F⟩ := F
  exact ⟨⟨_, fd, fnI_ok F sc hl len hh hb, F.bindsN hbind, M⟩, sq⟩
theorem knK_of {C : Addr} {m qual : Str} {st : Stmt} {N ps ks : List Str} {k n : Nat} {G : List D → Rs → Prop} {dvs : List V} {kws : List (Str × V)} (F : ∃ fd, L2.FunD K m qual (defArgs st) (defBody st) (defScope st) dvs kws (He.ma K C m) fd ∧ KBn K fd ps n ks (fun us ws => us ++ ws) (fun vs zs => vs ++ zs)) (M : Meth K C m (He.ma K C m)) (cl : Cls K C) (sc : FnScope N ps (defScope st)) (hl : ps.length ≤ N.length)
    (len : ∀ ds r, G ds r → ds.length = ps.length)
    (hb : ∀ (c : Cc) (ds : List D) (r : Rs), Room k (Cc.cx P w K mg bs N qual st c).A → G ds r → HasSs (Cc.cx P w K mg bs N qual st c) (args ds (N.length - ds.length)) (defBody st) ⟨fun _ => r = .val .non, r.ok, fun _ => False, fun _ => False⟩) :
    KnK P w K mg bs CX0 (k + 1) C m ps n ks (spG K G) := by
  obtain ⟨fd, F, B⟩ := F
  exact ⟨⟨_, fd, fn_ok F sc hl len hb, B, M⟩, cl⟩
theorem Hd.g_is_name (T : Hd K mg) : mg "is_name" = some (.ref (He.ga K "is_name")) := T.glo (T.says.fact 0 (f := .glo "is_name") rfl)
theorem Hd.g_is_whole (T : Hd K mg) : mg "is_whole" = some (.ref (He.ga K "is_whole")) := T.glo (T.says.fact 1 (f := .glo "is_whole") rfl)
theorem Hd.g_ascending (T : Hd K mg) : mg "ascending" = some (.ref (He.ga K "ascending")) := T.glo (T.says.fact 2 (f := .glo "ascending") rfl)
theorem Hd.g_is_fence (T : Hd K mg) : mg "is_fence" = some (.ref (He.ga K "is_fence")) := T.glo (T.says.fact 3 (f := .glo "is_fence") rfl)
theorem Hd.g_group_of (T : Hd K mg) : mg "group_of" = some (.ref (He.ga K "group_of")) := T.glo (T.says.fact 4 (f := .glo "group_of") rfl)
theorem Hd.g_are_fences (T : Hd K mg) : mg "are_fences" = some (.ref (He.ga K "are_fences")) := T.glo (T.says.fact 5 (f := .glo "are_fences") rfl)
theorem Hd.g_fits (T : Hd K mg) : mg "fits" = some (.ref (He.ga K "fits")) := T.glo (T.says.fact 6 (f := .glo "fits") rfl)
theorem Hd.g_normal (T : Hd K mg) : mg "normal" = some (.ref (He.ga K "normal")) := T.glo (T.says.fact 7 (f := .glo "normal") rfl)
theorem Hd.g_spots (T : Hd K mg) : mg "spots" = some (.ref (He.ga K "spots")) := T.glo (T.says.fact 8 (f := .glo "spots") rfl)
theorem Hd.g_at_spot (T : Hd K mg) : mg "at_spot" = some (.ref (He.ga K "at_spot")) := T.glo (T.says.fact 9 (f := .glo "at_spot") rfl)
theorem Hd.g_aim (T : Hd K mg) : mg "aim" = some (.ref (He.ga K "aim")) := T.glo (T.says.fact 10 (f := .glo "aim") rfl)
theorem Hd.g_is_lost (T : Hd K mg) : mg "is_lost" = some (.ref (He.ga K "is_lost")) := T.glo (T.says.fact 11 (f := .glo "is_lost") rfl)
theorem Hd.g_is_due (T : Hd K mg) : mg "is_due" = some (.ref (He.ga K "is_due")) := T.glo (T.says.fact 12 (f := .glo "is_due") rfl)
theorem Hd.g_lost (T : Hd K mg) : mg "lost" = some (.ref (He.ga K "lost")) := T.glo (T.says.fact 13 (f := .glo "lost") rfl)
theorem Hd.g_all_spots (T : Hd K mg) : mg "all_spots" = some (.ref (He.ga K "all_spots")) := T.glo (T.says.fact 14 (f := .glo "all_spots") rfl)
theorem Hd.g_added (T : Hd K mg) : mg "added" = some (.ref (He.ga K "added")) := T.glo (T.says.fact 15 (f := .glo "added") rfl)
theorem Hd.g_cures (T : Hd K mg) : mg "cures" = some (.ref (He.ga K "cures")) := T.glo (T.says.fact 16 (f := .glo "cures") rfl)
theorem Hd.g_unmet (T : Hd K mg) : mg "unmet" = some (.ref (He.ga K "unmet")) := T.glo (T.says.fact 17 (f := .glo "unmet") rfl)
theorem Hd.g_fewest (T : Hd K mg) : mg "fewest" = some (.ref (He.ga K "fewest")) := T.glo (T.says.fact 18 (f := .glo "fewest") rfl)
theorem Hd.g_l_great (T : Hd K mg) : mg "_law_great" = some (.ref (He.ga K "_law_great")) := T.glo (T.says.fact 19 (f := .glo "_law_great") rfl)
theorem Hd.g_l_draw (T : Hd K mg) : mg "_law_draw" = some (.ref (He.ga K "_law_draw")) := T.glo (T.says.fact 20 (f := .glo "_law_draw") rfl)
theorem Hd.g_l_pairs (T : Hd K mg) : mg "_law_pairs" = some (.ref (He.ga K "_law_pairs")) := T.glo (T.says.fact 21 (f := .glo "_law_pairs") rfl)
theorem Hd.g_l_usual (T : Hd K mg) : mg "_law_usual" = some (.ref (He.ga K "_law_usual")) := T.glo (T.says.fact 22 (f := .glo "_law_usual") rfl)
theorem Hd.g_l_set (T : Hd K mg) : mg "_law_set" = some (.ref (He.ga K "_law_set")) := T.glo (T.says.fact 23 (f := .glo "_law_set") rfl)
theorem Hd.g_l_name (T : Hd K mg) : mg "_law_name" = some (.ref (He.ga K "_law_name")) := T.glo (T.says.fact 24 (f := .glo "_law_name") rfl)
theorem Hd.g_l_book (T : Hd K mg) : mg "_law_book" = some (.ref (He.ga K "_law_book")) := T.glo (T.says.fact 25 (f := .glo "_law_book") rfl)
theorem Hd.g_l_table (T : Hd K mg) : mg "_law_table" = some (.ref (He.ga K "_law_table")) := T.glo (T.says.fact 26 (f := .glo "_law_table") rfl)
theorem Hd.g_l_goal (T : Hd K mg) : mg "_law_goal" = some (.ref (He.ga K "_law_goal")) := T.glo (T.says.fact 27 (f := .glo "_law_goal") rfl)
theorem Hd.g_l_names (T : Hd K mg) : mg "_law_names" = some (.ref (He.ga K "_law_names")) := T.glo (T.says.fact 28 (f := .glo "_law_names") rfl)
theorem Hd.g_l_plain (T : Hd K mg) : mg "_law_plain" = some (.ref (He.ga K "_law_plain")) := T.glo (T.says.fact 29 (f := .glo "_law_plain") rfl)
theorem Hd.g_l_some (T : Hd K mg) : mg "_law_some" = some (.ref (He.ga K "_law_some")) := T.glo (T.says.fact 30 (f := .glo "_law_some") rfl)
theorem Hd.g_l_loose (T : Hd K mg) : mg "_law_loose" = some (.ref (He.ga K "_law_loose")) := T.glo (T.says.fact 31 (f := .glo "_law_loose") rfl)
theorem Hd.g_l_normal (T : Hd K mg) : mg "_law_normal" = some (.ref (He.ga K "_law_normal")) := T.glo (T.says.fact 32 (f := .glo "_law_normal") rfl)
theorem Hd.g_l_rows (T : Hd K mg) : mg "_law_rows" = some (.ref (He.ga K "_law_rows")) := T.glo (T.says.fact 33 (f := .glo "_law_rows") rfl)
theorem Hd.g_l_kept_by (T : Hd K mg) : mg "_law_kept_by" = some (.ref (He.ga K "_law_kept_by")) := T.glo (T.says.fact 34 (f := .glo "_law_kept_by") rfl)
theorem Hd.g_l_wanted (T : Hd K mg) : mg "_law_wanted" = some (.ref (He.ga K "_law_wanted")) := T.glo (T.says.fact 35 (f := .glo "_law_wanted") rfl)
theorem Hd.g_l_ahead (T : Hd K mg) : mg "_law_ahead" = some (.ref (He.ga K "_law_ahead")) := T.glo (T.says.fact 36 (f := .glo "_law_ahead") rfl)
theorem Hd.g_l_becomes (T : Hd K mg) : mg "_law_becomes" = some (.ref (He.ga K "_law_becomes")) := T.glo (T.says.fact 37 (f := .glo "_law_becomes") rfl)
theorem Hd.g_l_lost (T : Hd K mg) : mg "_law_lost" = some (.ref (He.ga K "_law_lost")) := T.glo (T.says.fact 38 (f := .glo "_law_lost") rfl)
theorem Hd.g_l_spots (T : Hd K mg) : mg "_law_spots" = some (.ref (He.ga K "_law_spots")) := T.glo (T.says.fact 39 (f := .glo "_law_spots") rfl)
theorem Hd.g_l_able (T : Hd K mg) : mg "_law_able" = some (.ref (He.ga K "_law_able")) := T.glo (T.says.fact 40 (f := .glo "_law_able") rfl)
theorem Hd.g_l_put (T : Hd K mg) : mg "_law_put" = some (.ref (He.ga K "_law_put")) := T.glo (T.says.fact 41 (f := .glo "_law_put") rfl)
theorem Hd.g_l_part (T : Hd K mg) : mg "_law_part" = some (.ref (He.ga K "_law_part")) := T.glo (T.says.fact 42 (f := .glo "_law_part") rfl)
theorem Hd.g_l_taken (T : Hd K mg) : mg "_law_taken" = some (.ref (He.ga K "_law_taken")) := T.glo (T.says.fact 43 (f := .glo "_law_taken") rfl)
theorem Hd.g_l_known (T : Hd K mg) : mg "_law_known" = some (.ref (He.ga K "_law_known")) := T.glo (T.says.fact 44 (f := .glo "_law_known") rfl)
theorem Hd.g_l_near (T : Hd K mg) : mg "_law_near" = some (.ref (He.ga K "_law_near")) := T.glo (T.says.fact 45 (f := .glo "_law_near") rfl)
theorem Hd.g_l_masks (T : Hd K mg) : mg "_law_masks" = some (.ref (He.ga K "_law_masks")) := T.glo (T.says.fact 46 (f := .glo "_law_masks") rfl)
theorem Hd.g_l_due (T : Hd K mg) : mg "_law_due" = some (.ref (He.ga K "_law_due")) := T.glo (T.says.fact 47 (f := .glo "_law_due") rfl)
theorem Hd.g_l_told (T : Hd K mg) : mg "_law_told" = some (.ref (He.ga K "_law_told")) := T.glo (T.says.fact 48 (f := .glo "_law_told") rfl)
theorem Hd.g_l_walked (T : Hd K mg) : mg "_law_walked" = some (.ref (He.ga K "_law_walked")) := T.glo (T.says.fact 49 (f := .glo "_law_walked") rfl)
theorem Hd.g_l_refusal (T : Hd K mg) : mg "_law_refusal" = some (.ref (He.ga K "_law_refusal")) := T.glo (T.says.fact 50 (f := .glo "_law_refusal") rfl)
theorem Hd.g_law (T : Hd K mg) : mg "law" = some (.ref (He.ga K "law")) := T.glo (T.says.fact 51 (f := .glo "law") rfl)
theorem Hd.g_Pairs (T : Hd K mg) : mg "Pairs" = some (.ref (He.ga K "Pairs")) := T.glo (T.says.fact 52 (f := .glo "Pairs") rfl)
theorem Hd.g_Book (T : Hd K mg) : mg "Book" = some (.ref (He.ga K "Book")) := T.glo (T.says.fact 53 (f := .glo "Book") rfl)
theorem Hd.g_Recipe (T : Hd K mg) : mg "Recipe" = some (.ref (He.ga K "Recipe")) := T.glo (T.says.fact 54 (f := .glo "Recipe") rfl)
theorem Hd.g_CoreError (T : Hd K mg) : mg "CoreError" = some (.ref (He.ga K "CoreError")) := T.glo (T.says.fact 55 (f := .glo "CoreError") rfl)
theorem Hd.g_BadNumber (T : Hd K mg) : mg "BadNumber" = some (.ref (He.ga K "BadNumber")) := T.glo (T.says.fact 56 (f := .glo "BadNumber") rfl)
theorem Hd.g_BadRow (T : Hd K mg) : mg "BadRow" = some (.ref (He.ga K "BadRow")) := T.glo (T.says.fact 57 (f := .glo "BadRow") rfl)
theorem Hd.g_READS (T : Hd K mg) : mg "READS" = some (.ref (He.ga K "READS")) := T.glo (T.says.fact 58 (f := .glo "READS") rfl)
theorem Hd.g_WRITES (T : Hd K mg) : mg "WRITES" = some (.ref (He.ga K "WRITES")) := T.glo (T.says.fact 59 (f := .glo "WRITES") rfl)
theorem Hd.g_KINDS (T : Hd K mg) : mg "KINDS" = some (.ref (He.ga K "KINDS")) := T.glo (T.says.fact 60 (f := .glo "KINDS") rfl)
theorem Hd.g_PAIRS (T : Hd K mg) : mg "PAIRS" = some (.ref (He.ga K "PAIRS")) := T.glo (T.says.fact 61 (f := .glo "PAIRS") rfl)
theorem Hd.n_len (T : Hd K mg) : mg "len" = none := T.free (T.says.fact 62 (f := .free "len") rfl)
theorem Hd.n_isinstance (T : Hd K mg) : mg "isinstance" = none := T.free (T.says.fact 63 (f := .free "isinstance") rfl)
theorem Hd.n_str (T : Hd K mg) : mg "str" = none := T.free (T.says.fact 64 (f := .free "str") rfl)
theorem Hd.n_int (T : Hd K mg) : mg "int" = none := T.free (T.says.fact 65 (f := .free "int") rfl)
theorem Hd.n_bool (T : Hd K mg) : mg "bool" = none := T.free (T.says.fact 66 (f := .free "bool") rfl)
theorem Hd.n_sorted (T : Hd K mg) : mg "sorted" = none := T.free (T.says.fact 67 (f := .free "sorted") rfl)
theorem Hd.n_set (T : Hd K mg) : mg "set" = none := T.free (T.says.fact 68 (f := .free "set") rfl)
theorem Hd.n_list (T : Hd K mg) : mg "list" = none := T.free (T.says.fact 69 (f := .free "list") rfl)
theorem Hd.n_tuple (T : Hd K mg) : mg "tuple" = none := T.free (T.says.fact 70 (f := .free "tuple") rfl)
theorem Hd.n_dict (T : Hd K mg) : mg "dict" = none := T.free (T.says.fact 71 (f := .free "dict") rfl)
theorem Hd.n_range (T : Hd K mg) : mg "range" = none := T.free (T.says.fact 72 (f := .free "range") rfl)
theorem Hd.n_iter (T : Hd K mg) : mg "iter" = none := T.free (T.says.fact 73 (f := .free "iter") rfl)
theorem Hd.n_super (T : Hd K mg) : mg "super" = none := T.free (T.says.fact 74 (f := .free "super") rfl)
theorem Hd.n_ValueError (T : Hd K mg) : mg "ValueError" = none := T.free (T.says.fact 75 (f := .free "ValueError") rfl)
theorem Hd.c_Pairs (T : Hd K mg) : Cls K (He.ga K "Pairs") := He.cls_ok (T.says.fact 77 (f := .cls "Pairs") rfl)
theorem Hd.m_Pairs (T : Hd K mg) : Mk K (He.ga K "Pairs") (He.ma K (He.ga K "Pairs") "__init__") := He.mkr_ok (T.says.fact 78 (f := .mkr "Pairs") rfl)
theorem Hd.c_Book (T : Hd K mg) : Cls K (He.ga K "Book") := He.cls_ok (T.says.fact 79 (f := .cls "Book") rfl)
theorem Hd.m_Book (T : Hd K mg) : Mk K (He.ga K "Book") (He.ma K (He.ga K "Book") "__init__") := He.mkr_ok (T.says.fact 80 (f := .mkr "Book") rfl)
theorem Hd.c_Recipe (T : Hd K mg) : Cls K (He.ga K "Recipe") := He.cls_ok (T.says.fact 81 (f := .cls "Recipe") rfl)
theorem Hd.m_Recipe (T : Hd K mg) : Mk K (He.ga K "Recipe") (He.ma K (He.ga K "Recipe") "__init__") := He.mkr_ok (T.says.fact 82 (f := .mkr "Recipe") rfl)
theorem Hd.a_Pairs_own_rows (T : Hd K mg) : NoAttr K (He.ga K "Pairs") "own_rows" := He.noat_ok (T.says.fact 83 (f := .noat "Pairs" "own_rows") rfl)
theorem Hd.a_Book_kept (T : Hd K mg) : NoAttr K (He.ga K "Book") "kept" := He.noat_ok (T.says.fact 84 (f := .noat "Book" "kept") rfl)
theorem Hd.a_Book_own_kept_by (T : Hd K mg) : NoAttr K (He.ga K "Book") "own_kept_by" := He.noat_ok (T.says.fact 85 (f := .noat "Book" "own_kept_by") rfl)
theorem Hd.a_Book_own_names (T : Hd K mg) : NoAttr K (He.ga K "Book") "own_names" := He.noat_ok (T.says.fact 86 (f := .noat "Book" "own_names") rfl)
theorem Hd.a_Recipe_source (T : Hd K mg) : NoAttr K (He.ga K "Recipe") "source" := He.noat_ok (T.says.fact 87 (f := .noat "Recipe" "source") rfl)
theorem Hd.a_Recipe_target (T : Hd K mg) : NoAttr K (He.ga K "Recipe") "target" := He.noat_ok (T.says.fact 88 (f := .noat "Recipe" "target") rfl)
theorem Hd.a_Recipe_own_names (T : Hd K mg) : NoAttr K (He.ga K "Recipe") "own_names" := He.noat_ok (T.says.fact 89 (f := .noat "Recipe" "own_names") rfl)
theorem Hd.a_Recipe_own_rows (T : Hd K mg) : NoAttr K (He.ga K "Recipe") "own_rows" := He.noat_ok (T.says.fact 90 (f := .noat "Recipe" "own_rows") rfl)
theorem Hd.m_Book_fences (T : Hd K mg) : Meth K (He.ga K "Book") "fences" (He.ma K (He.ga K "Book") "fences") := He.meth_ok (T.says.fact 91 (f := .meth "Book" "fences") rfl)
theorem Hd.m_Book_fence (T : Hd K mg) : Meth K (He.ga K "Book") "fence" (He.ma K (He.ga K "Book") "fence") := He.meth_ok (T.says.fact 92 (f := .meth "Book" "fence") rfl)
theorem Hd.m_Book_keeps (T : Hd K mg) : Meth K (He.ga K "Book") "keeps" (He.ma K (He.ga K "Book") "keeps") := He.meth_ok (T.says.fact 93 (f := .meth "Book" "keeps") rfl)
theorem Hd.m_Pairs_contains (T : Hd K mg) : Meth K (He.ga K "Pairs") "__contains__" (He.ma K (He.ga K "Pairs") "__contains__") := He.meth_ok (T.says.fact 94 (f := .meth "Pairs" "__contains__") rfl)
theorem Hd.m_Recipe_iter (T : Hd K mg) : Meth K (He.ga K "Recipe") "__iter__" (He.ma K (He.ga K "Recipe") "__iter__") := He.meth_ok (T.says.fact 95 (f := .meth "Recipe" "__iter__") rfl)
theorem Hd.m_Recipe_getitem (T : Hd K mg) : Meth K (He.ga K "Recipe") "__getitem__" (He.ma K (He.ga K "Recipe") "__getitem__") := He.meth_ok (T.says.fact 96 (f := .meth "Recipe" "__getitem__") rfl)
theorem Hd.m_Recipe_setitem (T : Hd K mg) : Meth K (He.ga K "Recipe") "__setitem__" (He.ma K (He.ga K "Recipe") "__setitem__") := He.meth_ok (T.says.fact 97 (f := .meth "Recipe" "__setitem__") rfl)
theorem Hd.f_is_name (T : Hd K mg) : ∃ fd, L2.FunD K "is_name" "is_name" (defArgs s_is_name) (defBody s_is_name) (defScope s_is_name) [] [] (He.ga K "is_name") fd := T.says.def_ 0 (d := d_is_name) rfl
theorem Hd.f_is_whole (T : Hd K mg) : ∃ fd, L2.FunD K "is_whole" "is_whole" (defArgs s_is_whole) (defBody s_is_whole) (defScope s_is_whole) [] [] (He.ga K "is_whole") fd := T.says.def_ 1 (d := d_is_whole) rfl
theorem Hd.f_ascending (T : Hd K mg) : ∃ fd, L2.FunD K "ascending" "ascending" (defArgs s_ascending) (defBody s_ascending) (defScope s_ascending) [] [] (He.ga K "ascending") fd := T.says.def_ 2 (d := d_ascending) rfl
theorem Hd.f_is_fence (T : Hd K mg) : ∃ fd, L2.FunD K "is_fence" "is_fence" (defArgs s_is_fence) (defBody s_is_fence) (defScope s_is_fence) [] [] (He.ga K "is_fence") fd := T.says.def_ 3 (d := d_is_fence) rfl
theorem Hd.f_Pairs_init (T : Hd K mg) : ∃ fd, L2.FunD K "__init__" "Pairs.__init__" (defArgs s_Pairs_init) (defBody s_Pairs_init) (defScope s_Pairs_init) (d_Pairs_init.dvs K) (d_Pairs_init.kws K) (He.ma K (He.ga K "Pairs") "__init__") fd := T.says.def_ 4 (d := d_Pairs_init) rfl
theorem Hd.f_Pairs_contains (T : Hd K mg) : ∃ fd, L2.FunD K "__contains__" "Pairs.__contains__" (defArgs s_Pairs_contains) (defBody s_Pairs_contains) (defScope s_Pairs_contains) (d_Pairs_contains.dvs K) (d_Pairs_contains.kws K) (He.ma K (He.ga K "Pairs") "__contains__") fd := T.says.def_ 5 (d := d_Pairs_contains) rfl
theorem Hd.f_Book_init (T : Hd K mg) : ∃ fd, L2.FunD K "__init__" "Book.__init__" (defArgs s_Book_init) (defBody s_Book_init) (defScope s_Book_init) (d_Book_init.dvs K) (d_Book_init.kws K) (He.ma K (He.ga K "Book") "__init__") fd := T.says.def_ 6 (d := d_Book_init) rfl
theorem Hd.f_Book_fences (T : Hd K mg) : ∃ fd, L2.FunD K "fences" "Book.fences" (defArgs s_Book_fences) (defBody s_Book_fences) (defScope s_Book_fences) (d_Book_fences.dvs K) (d_Book_fences.kws K) (He.ma K (He.ga K "Book") "fences") fd := T.says.def_ 7 (d := d_Book_fences) rfl
theorem Hd.f_Book_fence (T : Hd K mg) : ∃ fd, L2.FunD K "fence" "Book.fence" (defArgs s_Book_fence) (defBody s_Book_fence) (defScope s_Book_fence) (d_Book_fence.dvs K) (d_Book_fence.kws K) (He.ma K (He.ga K "Book") "fence") fd := T.says.def_ 8 (d := d_Book_fence) rfl
theorem Hd.f_Book_keeps (T : Hd K mg) : ∃ fd, L2.FunD K "keeps" "Book.keeps" (defArgs s_Book_keeps) (defBody s_Book_keeps) (defScope s_Book_keeps) (d_Book_keeps.dvs K) (d_Book_keeps.kws K) (He.ma K (He.ga K "Book") "keeps") fd := T.says.def_ 9 (d := d_Book_keeps) rfl
theorem Hd.f_group_of (T : Hd K mg) : ∃ fd, L2.FunD K "group_of" "group_of" (defArgs s_group_of) (defBody s_group_of) (defScope s_group_of) [] [] (He.ga K "group_of") fd := T.says.def_ 10 (d := d_group_of) rfl
theorem Hd.f_are_fences (T : Hd K mg) : ∃ fd, L2.FunD K "are_fences" "are_fences" (defArgs s_are_fences) (defBody s_are_fences) (defScope s_are_fences) [] [] (He.ga K "are_fences") fd := T.says.def_ 11 (d := d_are_fences) rfl
theorem Hd.f_fits (T : Hd K mg) : ∃ fd, L2.FunD K "fits" "fits" (defArgs s_fits) (defBody s_fits) (defScope s_fits) [] [] (He.ga K "fits") fd := T.says.def_ 12 (d := d_fits) rfl
theorem Hd.f_normal (T : Hd K mg) : ∃ fd, L2.FunD K "normal" "normal" (defArgs s_normal) (defBody s_normal) (defScope s_normal) [] [] (He.ga K "normal") fd := T.says.def_ 13 (d := d_normal) rfl
theorem Hd.f_Recipe_init (T : Hd K mg) : ∃ fd, L2.FunD K "__init__" "Recipe.__init__" (defArgs s_Recipe_init) (defBody s_Recipe_init) (defScope s_Recipe_init) (d_Recipe_init.dvs K) (d_Recipe_init.kws K) (He.ma K (He.ga K "Recipe") "__init__") fd := T.says.def_ 14 (d := d_Recipe_init) rfl
theorem Hd.f_Recipe_iter (T : Hd K mg) : ∃ fd, L2.FunD K "__iter__" "Recipe.__iter__" (defArgs s_Recipe_iter) (defBody s_Recipe_iter) (defScope s_Recipe_iter) (d_Recipe_iter.dvs K) (d_Recipe_iter.kws K) (He.ma K (He.ga K "Recipe") "__iter__") fd := T.says.def_ 15 (d := d_Recipe_iter) rfl
theorem Hd.f_Recipe_getitem (T : Hd K mg) : ∃ fd, L2.FunD K "__getitem__" "Recipe.__getitem__" (defArgs s_Recipe_getitem) (defBody s_Recipe_getitem) (defScope s_Recipe_getitem) (d_Recipe_getitem.dvs K) (d_Recipe_getitem.kws K) (He.ma K (He.ga K "Recipe") "__getitem__") fd := T.says.def_ 16 (d := d_Recipe_getitem) rfl
theorem Hd.f_Recipe_setitem (T : Hd K mg) : ∃ fd, L2.FunD K "__setitem__" "Recipe.__setitem__" (defArgs s_Recipe_setitem) (defBody s_Recipe_setitem) (defScope s_Recipe_setitem) (d_Recipe_setitem.dvs K) (d_Recipe_setitem.kws K) (He.ma K (He.ga K "Recipe") "__setitem__") fd := T.says.def_ 17 (d := d_Recipe_setitem) rfl
theorem Hd.f_spots (T : Hd K mg) : ∃ fd, L2.FunD K "spots" "spots" (defArgs s_spots) (defBody s_spots) (defScope s_spots) [] [] (He.ga K "spots") fd := T.says.def_ 18 (d := d_spots) rfl
theorem Hd.f_at_spot (T : Hd K mg) : ∃ fd, L2.FunD K "at_spot" "at_spot" (defArgs s_at_spot) (defBody s_at_spot) (defScope s_at_spot) [] [] (He.ga K "at_spot") fd := T.says.def_ 19 (d := d_at_spot) rfl
theorem Hd.f_aim (T : Hd K mg) : ∃ fd, L2.FunD K "aim" "aim" (defArgs s_aim) (defBody s_aim) (defScope s_aim) [] [] (He.ga K "aim") fd := T.says.def_ 20 (d := d_aim) rfl
theorem Hd.f_is_lost (T : Hd K mg) : ∃ fd, L2.FunD K "is_lost" "is_lost" (defArgs s_is_lost) (defBody s_is_lost) (defScope s_is_lost) [] [] (He.ga K "is_lost") fd := T.says.def_ 21 (d := d_is_lost) rfl
theorem Hd.f_is_due (T : Hd K mg) : ∃ fd, L2.FunD K "is_due" "is_due" (defArgs s_is_due) (defBody s_is_due) (defScope s_is_due) [] [] (He.ga K "is_due") fd := T.says.def_ 22 (d := d_is_due) rfl
theorem Hd.f_lost (T : Hd K mg) : ∃ fd, L2.FunD K "lost" "lost" (defArgs s_lost) (defBody s_lost) (defScope s_lost) [] [] (He.ga K "lost") fd := T.says.def_ 23 (d := d_lost) rfl
theorem Hd.f_all_spots (T : Hd K mg) : ∃ fd, L2.FunD K "all_spots" "all_spots" (defArgs s_all_spots) (defBody s_all_spots) (defScope s_all_spots) [] [] (He.ga K "all_spots") fd := T.says.def_ 24 (d := d_all_spots) rfl
theorem Hd.f_added (T : Hd K mg) : ∃ fd, L2.FunD K "added" "added" (defArgs s_added) (defBody s_added) (defScope s_added) [] [] (He.ga K "added") fd := T.says.def_ 25 (d := d_added) rfl
theorem Hd.f_cures (T : Hd K mg) : ∃ fd, L2.FunD K "cures" "cures" (defArgs s_cures) (defBody s_cures) (defScope s_cures) [] [] (He.ga K "cures") fd := T.says.def_ 26 (d := d_cures) rfl
theorem Hd.f_unmet (T : Hd K mg) : ∃ fd, L2.FunD K "unmet" "unmet" (defArgs s_unmet) (defBody s_unmet) (defScope s_unmet) [] [] (He.ga K "unmet") fd := T.says.def_ 27 (d := d_unmet) rfl
theorem Hd.f_fewest (T : Hd K mg) : ∃ fd, L2.FunD K "fewest" "fewest" (defArgs s_fewest) (defBody s_fewest) (defScope s_fewest) [] [] (He.ga K "fewest") fd := T.says.def_ 28 (d := d_fewest) rfl
theorem Hd.f_l_great (T : Hd K mg) : ∃ fd, L2.FunD K "_law_great" "_law_great" (defArgs s_l_great) (defBody s_l_great) (defScope s_l_great) [] [] (He.ga K "_law_great") fd := T.says.def_ 29 (d := d_l_great) rfl
theorem Hd.f_l_draw (T : Hd K mg) : ∃ fd, L2.FunD K "_law_draw" "_law_draw" (defArgs s_l_draw) (defBody s_l_draw) (defScope s_l_draw) [] [] (He.ga K "_law_draw") fd := T.says.def_ 30 (d := d_l_draw) rfl
theorem Hd.f_l_pairs (T : Hd K mg) : ∃ fd, L2.FunD K "_law_pairs" "_law_pairs" (defArgs s_l_pairs) (defBody s_l_pairs) (defScope s_l_pairs) [] [] (He.ga K "_law_pairs") fd := T.says.def_ 31 (d := d_l_pairs) rfl
theorem Hd.f_l_usual (T : Hd K mg) : ∃ fd, L2.FunD K "_law_usual" "_law_usual" (defArgs s_l_usual) (defBody s_l_usual) (defScope s_l_usual) [] [] (He.ga K "_law_usual") fd := T.says.def_ 32 (d := d_l_usual) rfl
theorem Hd.f_l_set (T : Hd K mg) : ∃ fd, L2.FunD K "_law_set" "_law_set" (defArgs s_l_set) (defBody s_l_set) (defScope s_l_set) [] [] (He.ga K "_law_set") fd := T.says.def_ 33 (d := d_l_set) rfl
theorem Hd.f_l_name (T : Hd K mg) : ∃ fd, L2.FunD K "_law_name" "_law_name" (defArgs s_l_name) (defBody s_l_name) (defScope s_l_name) [] [] (He.ga K "_law_name") fd := T.says.def_ 34 (d := d_l_name) rfl
theorem Hd.f_l_book (T : Hd K mg) : ∃ fd, L2.FunD K "_law_book" "_law_book" (defArgs s_l_book) (defBody s_l_book) (defScope s_l_book) [] [] (He.ga K "_law_book") fd := T.says.def_ 35 (d := d_l_book) rfl
theorem Hd.f_l_table (T : Hd K mg) : ∃ fd, L2.FunD K "_law_table" "_law_table" (defArgs s_l_table) (defBody s_l_table) (defScope s_l_table) [] [] (He.ga K "_law_table") fd := T.says.def_ 36 (d := d_l_table) rfl
theorem Hd.f_l_goal (T : Hd K mg) : ∃ fd, L2.FunD K "_law_goal" "_law_goal" (defArgs s_l_goal) (defBody s_l_goal) (defScope s_l_goal) [] [] (He.ga K "_law_goal") fd := T.says.def_ 37 (d := d_l_goal) rfl
theorem Hd.f_l_names (T : Hd K mg) : ∃ fd, L2.FunD K "_law_names" "_law_names" (defArgs s_l_names) (defBody s_l_names) (defScope s_l_names) [] [] (He.ga K "_law_names") fd := T.says.def_ 38 (d := d_l_names) rfl
theorem Hd.f_l_plain (T : Hd K mg) : ∃ fd, L2.FunD K "_law_plain" "_law_plain" (defArgs s_l_plain) (defBody s_l_plain) (defScope s_l_plain) [] [] (He.ga K "_law_plain") fd := T.says.def_ 39 (d := d_l_plain) rfl
theorem Hd.f_l_some (T : Hd K mg) : ∃ fd, L2.FunD K "_law_some" "_law_some" (defArgs s_l_some) (defBody s_l_some) (defScope s_l_some) [] [] (He.ga K "_law_some") fd := T.says.def_ 40 (d := d_l_some) rfl
theorem Hd.f_l_loose (T : Hd K mg) : ∃ fd, L2.FunD K "_law_loose" "_law_loose" (defArgs s_l_loose) (defBody s_l_loose) (defScope s_l_loose) [] [] (He.ga K "_law_loose") fd := T.says.def_ 41 (d := d_l_loose) rfl
theorem Hd.f_l_normal (T : Hd K mg) : ∃ fd, L2.FunD K "_law_normal" "_law_normal" (defArgs s_l_normal) (defBody s_l_normal) (defScope s_l_normal) [] [] (He.ga K "_law_normal") fd := T.says.def_ 42 (d := d_l_normal) rfl
theorem Hd.f_l_rows (T : Hd K mg) : ∃ fd, L2.FunD K "_law_rows" "_law_rows" (defArgs s_l_rows) (defBody s_l_rows) (defScope s_l_rows) [] [] (He.ga K "_law_rows") fd := T.says.def_ 43 (d := d_l_rows) rfl
theorem Hd.f_l_kept_by (T : Hd K mg) : ∃ fd, L2.FunD K "_law_kept_by" "_law_kept_by" (defArgs s_l_kept_by) (defBody s_l_kept_by) (defScope s_l_kept_by) [] [] (He.ga K "_law_kept_by") fd := T.says.def_ 44 (d := d_l_kept_by) rfl
theorem Hd.f_l_wanted (T : Hd K mg) : ∃ fd, L2.FunD K "_law_wanted" "_law_wanted" (defArgs s_l_wanted) (defBody s_l_wanted) (defScope s_l_wanted) [] [] (He.ga K "_law_wanted") fd := T.says.def_ 45 (d := d_l_wanted) rfl
theorem Hd.f_l_ahead (T : Hd K mg) : ∃ fd, L2.FunD K "_law_ahead" "_law_ahead" (defArgs s_l_ahead) (defBody s_l_ahead) (defScope s_l_ahead) [] [] (He.ga K "_law_ahead") fd := T.says.def_ 46 (d := d_l_ahead) rfl
theorem Hd.f_l_becomes (T : Hd K mg) : ∃ fd, L2.FunD K "_law_becomes" "_law_becomes" (defArgs s_l_becomes) (defBody s_l_becomes) (defScope s_l_becomes) [] [] (He.ga K "_law_becomes") fd := T.says.def_ 47 (d := d_l_becomes) rfl
theorem Hd.f_l_lost (T : Hd K mg) : ∃ fd, L2.FunD K "_law_lost" "_law_lost" (defArgs s_l_lost) (defBody s_l_lost) (defScope s_l_lost) [] [] (He.ga K "_law_lost") fd := T.says.def_ 48 (d := d_l_lost) rfl
theorem Hd.f_l_spots (T : Hd K mg) : ∃ fd, L2.FunD K "_law_spots" "_law_spots" (defArgs s_l_spots) (defBody s_l_spots) (defScope s_l_spots) [] [] (He.ga K "_law_spots") fd := T.says.def_ 49 (d := d_l_spots) rfl
theorem Hd.f_l_able (T : Hd K mg) : ∃ fd, L2.FunD K "_law_able" "_law_able" (defArgs s_l_able) (defBody s_l_able) (defScope s_l_able) [] [] (He.ga K "_law_able") fd := T.says.def_ 50 (d := d_l_able) rfl
theorem Hd.f_l_put (T : Hd K mg) : ∃ fd, L2.FunD K "_law_put" "_law_put" (defArgs s_l_put) (defBody s_l_put) (defScope s_l_put) [] [] (He.ga K "_law_put") fd := T.says.def_ 51 (d := d_l_put) rfl
theorem Hd.f_l_part (T : Hd K mg) : ∃ fd, L2.FunD K "_law_part" "_law_part" (defArgs s_l_part) (defBody s_l_part) (defScope s_l_part) [] [] (He.ga K "_law_part") fd := T.says.def_ 52 (d := d_l_part) rfl
theorem Hd.f_l_taken (T : Hd K mg) : ∃ fd, L2.FunD K "_law_taken" "_law_taken" (defArgs s_l_taken) (defBody s_l_taken) (defScope s_l_taken) [] [] (He.ga K "_law_taken") fd := T.says.def_ 53 (d := d_l_taken) rfl
theorem Hd.f_l_known (T : Hd K mg) : ∃ fd, L2.FunD K "_law_known" "_law_known" (defArgs s_l_known) (defBody s_l_known) (defScope s_l_known) [] [] (He.ga K "_law_known") fd := T.says.def_ 54 (d := d_l_known) rfl
theorem Hd.f_l_near (T : Hd K mg) : ∃ fd, L2.FunD K "_law_near" "_law_near" (defArgs s_l_near) (defBody s_l_near) (defScope s_l_near) [] [] (He.ga K "_law_near") fd := T.says.def_ 55 (d := d_l_near) rfl
theorem Hd.f_l_masks (T : Hd K mg) : ∃ fd, L2.FunD K "_law_masks" "_law_masks" (defArgs s_l_masks) (defBody s_l_masks) (defScope s_l_masks) [] [] (He.ga K "_law_masks") fd := T.says.def_ 56 (d := d_l_masks) rfl
theorem Hd.f_l_due (T : Hd K mg) : ∃ fd, L2.FunD K "_law_due" "_law_due" (defArgs s_l_due) (defBody s_l_due) (defScope s_l_due) [] [] (He.ga K "_law_due") fd := T.says.def_ 57 (d := d_l_due) rfl
theorem Hd.f_l_told (T : Hd K mg) : ∃ fd, L2.FunD K "_law_told" "_law_told" (defArgs s_l_told) (defBody s_l_told) (defScope s_l_told) [] [] (He.ga K "_law_told") fd := T.says.def_ 58 (d := d_l_told) rfl
theorem Hd.f_l_walked (T : Hd K mg) : ∃ fd, L2.FunD K "_law_walked" "_law_walked" (defArgs s_l_walked) (defBody s_l_walked) (defScope s_l_walked) [] [] (He.ga K "_law_walked") fd := T.says.def_ 59 (d := d_l_walked) rfl
theorem Hd.f_l_refusal (T : Hd K mg) : ∃ fd, L2.FunD K "_law_refusal" "_law_refusal" (defArgs s_l_refusal) (defBody s_l_refusal) (defScope s_l_refusal) [] [] (He.ga K "_law_refusal") fd := T.says.def_ 60 (d := d_l_refusal) rfl
theorem Hd.f_law (T : Hd K mg) : ∃ fd, L2.FunD K "law" "law" (defArgs s_law) (defBody s_law) (defScope s_law) [] [] (He.ga K "law") fd := T.says.def_ 61 (d := d_law) rfl
end
end K39
/-! KX1 -/
set_option maxHeartbeats 4000000
/-! ## an own exception whose __init__ says super().__init__(text), the built-in base being ValueError -/
namespace K39
open PySem PySem.Spec PyProof.Rows L2
abbrev s_bn : Stmt := inClass (top 3) 0
abbrev bnFn (dV kV doc pm : Value) (an : Option Addr) (cdv ct : Value) (cc : Addr) : FuncData := PySem.W.ksFn "__init__" "BadNumber.__init__" (defArgs s_bn) (defBody s_bn) (defScope s_bn) dV kV doc pm an cdv ct cc
structure BnOk (K : PySem.W.Frag) (C f : Addr) : Prop where
  ex : ∃ (oc : Value) (od : Option Addr) (kV doc pm : Value) (an : Option Addr) (cda : Addr) (ct : Value) (cc : Addr) (osl : Array (Option Value)),
    K.lookup f = some ⟨oc, od, .func (bnFn .none kV doc pm an (.ref cda) ct cc), osl⟩ ∧ PySem.W.codeIn K (.ref cda) "BadNumber.__init__" = true ∧
    (∃ ccl cdd vs ccs tf, K.lookup cda = some ⟨ccl, cdd, .fields vs, ccs⟩ ∧ vs[2]? = some (.str "/claim/cut.py" tf)) ∧ ∃ cl cld csl, K.lookup cc = some ⟨cl, cld, .cell (some (.ref C)), csl⟩
  cls : OexC K C
  ini : PySem.W.ks_superIn K C C "__init__" = some (some (.builtin "ValueError.__init__"))
  sub : PySem.W.subIn K (.ref C) (.type "ValueError") = some true
  mro : PySem.W.mroIn K C (.ref C) = some true
  opq : PySem.W.nsIn K cStatics "thirdparty.any" = some none
  num : PySem.W.findIn K (.ref C) "number" = some none
def spBn (C : Addr) : Sp := fun vs H Q _ => ∃ (a : Addr) (y : V), vs = [.ref a, y] ∧ H a = some (exo a C none) ∧ ∀ dx, H dx = none → dx ≠ a → Q .non (upd (upd H dx (exd dx [("number", y)])) a (exo a C (some dx)))
section
open PySem.W PySem.Calls
/-- the bound ValueError.__init__, called -/
theorem bw_call {prog : Program} {w : World} {A : Around} {E : Value → Shared → Prop} {h : Heap} {g : Array GenState} {d : Drawn} {t : Nat} {os : OsState} {nm q : Str} {C N : Addr} {bs bm : List Value} {hdct : Bool} {sn : List Str} {sub : List Value} {ab : Bool} {col : Option Bool} {dd : Option Addr} {k0 k1 k2 k3 k5 : Option Value} {u e t0 : Addr} {rest : List Value} {Q : Value → Shared → Prop}
    (hC : h.get? C = some (excClassObj nm q C N bs bm hdct sn sub ab col dd k0 k1 k2 k3 k5 "ValueError.__new__")) (he : h.get? e = some (HandSPX.excO C t0)) (hu : h.get? u = some (kxs_mw "ValueError.__init__" e)) (hrest : rest.length ≤ sizeLine)
    (hq : ∀ h' t1, (∀ b o, b ≠ e → h.get? b = some o → h'.get? b = some o) → h'.get? e = some (HandSPX.excO C t1) → Q .none ⟨h', g, d, t, os⟩) :
    wpAny (model prog w) A (call (.ref u) rest) Q E ⟨h, g, d, t, os⟩ := by
  refine wpAny_call (codeAny_of_tree ?_)
  show wpAny _ A.in1 (callAny (.ref u) ⟨rest, []⟩) _ _ _
  simp only [callAny]
  refine wpAny_bind (wpAny_load hu ?_)
  simp only [kxs_mw, show (Value.type "method-wrapper" == Value.type "method" || Value.type "method-wrapper" == Value.type "builtin_function_or_method" || Value.type "method-wrapper" == Value.type "method-wrapper") = true by decide, if_true]
  refine W.KFB.if_so (by decide) ?_
  refine wpAny_bind (ESX.check_bound F.excBase_ValueError hC he rfl ?_)
  refine wpAny_bind (wpAny_pure (wpAny_pure ?_))
  refine ⟨Code.quiet_builtin _ (by decide +kernel), codeAny_builtin F.excBase_ValueError.initEntry ?_⟩
  rw [Around.under_plainId F.excBase_ValueError.init.plain _]
  wp_walk
  refine hq _ h.objs.size (fun b o hb ho => ?_) ?_
  · rw [Heap.get?_update_other _ _ (Ne.symm hb)]
    exact Heap.get?_push_of_some _ ho
  · rw [Heap.get?_update_self _ (Heap.get?_push_of_some _ he) rfl]
    rfl
end
end K39
/-! KX2 -/
set_option maxHeartbeats 4000000
namespace K39
open PySem PySem.Spec PyProof.Rows L2
section
open PySem.W PySem.Calls
theorem bw_with {M : Model} {A : Around} {E : Value → Shared → Prop} {s : Shared} {pos : Pos} {u x : Addr} {env : Env} {e : Expr} {rest : List Expr} {Q : Value → Shared → Prop}
    (h : wpAny M A (spliced (backTo pos (starEach (e :: rest) env))) (fun vs s₁ => KxsAt "ValueError.__init__" u x s₁.heap ∧ wpAny M A (call (.ref u) vs) Q E s₁) E s)
    (he : starEach (e :: rest) env = (false, eval e env) :: starEach rest env := by rfl) (hplain : (backTo pos (starEach rest env)).any (·.1) = false := by rfl) :
    wpAny M A (callWith pos (.ref u) [] (backTo pos (starEach (e :: rest) env)) []) Q E s := by
  rw [he] at h ⊢
  refine kxs_callWith (i := "ValueError.__init__") (x := x) (by show (false || (backTo pos (starEach rest env)).any (·.1)) = false; rw [hplain]; rfl) ?_
  exact evalArgs_plain h
theorem bn_init {P : Program} {w : World} {K : PySem.W.Frag} {mg : Str → Option Value} {base : Heap} {C fI : Addr} (B : BnOk K C fI) (hfile : (P.main.file == ("/claim/cut.py" : Str)) = true) (htop : (P.main.scope.names.lookup ("super" : Str)).isSome = false) (hm : mg "super" = none) :
    ∃ fd, FnOk P w K mg base CX0 1 fI fd ["self", "number"] (spBn C) ∧ L2.Binds K fd ["self", "number"] [] := by
  obtain ⟨oc, od, kV, doc, pm, an, cda, ct, cc, osl, lk, hcd, ⟨ccl, cdd, vs2, ccs, tf, lkc, hv2⟩, cl, cld, csl, lkl⟩ := B.ex
  refine ⟨bnFn .none kV doc pm an (.ref cda) ct cc, ⟨fun vs H Q E h => ?_, fun A outer s H args us vs Q E hr e0 hb hv hsp => ?_⟩, fun s us X hl => ?_⟩
  · obtain ⟨a, y, rfl, _⟩ := h; rfl
  rotate_left
  · rw [List.append_nil] at hl ⊢
    match us, hl with
    | [_, _], _ => exact .of_eq rfl
  obtain ⟨a, y, rfl, ha, hq⟩ := hsp
  cases hv with
  | @cons _ u0 _ ur ra hv =>
  cases hv with
  | @cons _ u _ ur ry hv =>
  cases hv
  obtain rfl : u0 = Value.ref a := ra
  have KX : K.In s.heap := e0.mod.kin.keeps fun b o e => (e0.bs b o e).1
  have lim : s.heap.NoLimit := e0.mod.nolimit.keeps fun b o e => (e0.bs b o e).1
  obtain ⟨nm, q, N, bs, bm, sn, sub, ab, col, dd, k0, k1, k2, k3, k5, hC, hbm⟩ := B.cls.cls
  have hcl : PySem.W.clsIn K C = some { name := nm, bases := bs, mro := .ref C :: bm, ns := N, qualname := q, hasDict := true, slotNames := sn, subclasses := sub, abstract := ab, collection := col, hasDel := false } := by unfold PySem.W.clsIn; rw [hC] <;> rfl
  obtain ⟨t1, hx⟩ := exo_at e0.hok ha
  have aBase : base.get? a = none := by
    cases z : base.get? a with
    | none => rfl
    | some o =>
      have := (e0.bs a o z).2
      rw [ha] at this; cases this
  have aK : ∀ {b o}, K.lookup b = some o → b ≠ a := fun {b o} z e => by
    have := e0.mod.kin b o z
    rw [e, aBase] at this; cases this
  refine ks_codeAny_call_defAt hr.depth (KX _ _ lk) rfl lim (codeRec_of KX hcd) rfl hb (show ∀ x ∈ (defScope s_bn).names, x.2 ≠ .cell by decide +kernel) (fun y hy => ?_) (fun h₀ hns hk => ?_)
  · rcases List.mem_cons.mp hy with rfl | hy
    · exact (by decide +kernel : (defScope s_bn).names.lookup ("self" : Str) = some .local)
    · rcases List.mem_cons.mp hy with rfl | hy
      · exact (by decide +kernel : (defScope s_bn).names.lookup ("number" : Str) = some .local)
      · cases hy
  have X0 : K.In h₀ := KX.keeps hk
  have hC0 := X0 _ _ hC
  have hx0 := hk _ _ hx
  have aL : a ≠ s.heap.objs.size := Nat.ne_of_lt (Heap.lt_size hx)
  have bk0 : ∀ b o, base.get? b = some o → h₀.get? b = some o := fun b o z => hk b o (e0.bs b o z).1
  obtain ⟨mb, hmb, hmbx⟩ := e0.mod.blt
  refine ks_wpAt_execs_cons ?_
  refine ks_wpAt_Expr_any ?_
  refine ks_wpAt_MethodCall (pl := _) ?_
  refine ks_wpAt_super_base rfl rfl (by decide) rfl (X0 _ _ lk) rfl rfl rfl (X0 _ _ lkc) rfl hv2 hfile htop ?_
  refine ks_loadName_global rfl rfl (loadGlobal_builtin (e0.mod.glob.keeps bk0) hm (hmb.keeps bk0) ((hmbx _ (by decide +kernel)).trans PyProof.Rows.Boot.«super») ⟨rfl, ?_⟩)
  refine wpAny_loadName_free rfl rfl rfl ⟨_, X0 _ _ lkl, rfl⟩ ?_
  refine wpAny_loadName_local rfl rfl hns rfl ?_
  refine ks_wpAny_isType_cls hC0 rfl ⟨rfl, ?_⟩
  refine ks_wpAny_call_super hC0 rfl hx0 rfl (fun c e => by cases e) (looks_mroIn X0 B.mro) (fun h1 e1 k1 => ?_)
  have X1 := X0.keeps k1
  have hx1 := k1 _ _ hx0
  have I1 : InstAt h1 a { cls := .ref C, dict := none, data := .fields #[.ref t1, .none, .none, .none, .bool false, .none] } C none := ⟨hx1, rfl, rfl, trivial⟩
  refine kxs_getMethod kxs_ValueError e1 (looks_opaque X1 B.opq) (l₀ := .ref C :: bm) ((looks_clsIn X1 hcl).andThen .now) rfl X1 ?_ (I1.type.andThen (looks_subIn X1 B.sub)) (aK hC).symm (by decide) ?_
  · have := B.ini
    unfold ks_superIn at this
    rw [hcl] at this
    exact this
  have k2 : ∀ b o, h1.get? b = some o → (h1.push (kxs_mw "ValueError.__init__" a)).get? b = some o := fun b o z => Heap.get?_push_of_some _ z
  refine bw_with (x := a) (Calls.spliced_cons (wpAny_Constant_str (k := 0) (pos := ⟨0, 0, 0, 0⟩) (Calls.spliced_nil ⟨Heap.get?_push_at rfl rfl, ?_⟩)))
  refine bw_call (k2 _ _ (k1 _ _ hC0)) (k2 _ _ hx1) (Heap.get?_push_at rfl rfl) (by rw [sizeLine_eq]; exact Nat.le_of_ble_eq_true rfl) (fun h3 t3 k3 hx3 => ?_)
  have k03 : ∀ b o, b ≠ a → h₀.get? b = some o → h3.get? b = some o := fun b o hb z => k3 b o hb (k2 _ _ (k1 _ _ z))
  have X3 : K.In h3 := fun b o z => k03 b o (aK z) (X0 b o z)
  have hns3 : h3.Ns s.heap.objs.size (fun x => List.lookup x (List.reverse (([("self" : Str), "number"]).zip [Value.ref a, u]))) := by
    obtain ⟨o, es, ep, g1, g2⟩ := hns
    exact ⟨o, es, ep, k03 _ _ aL.symm g1, g2⟩
  refine ks_wpAt_execs_cons ?_
  refine ks_wpAt_Assign_Attr ?_
  refine wpAt_of_wpAny (wpAny_Name (wpAny_loadName_local rfl rfl hns3 rfl ?_) (by decide))
  refine wpAny_Name (wpAny_loadName_local rfl rfl hns3 rfl ?_) (by decide)
  refine set_plain X3 (ox := { cls := .ref C, dict := none, data := .fields #[.ref t3, .none, .none, .none, .bool false, .none] }) (od := none) ⟨hx3, rfl, rfl, trivial⟩ B.cls.sa ?_
  refine HandSPX.exc_osa X3 hx3 hcl (show HandSPX.refsVE (.ref C :: bm) = true from hbm) rfl B.num (fun h4 tk4 dx k4 dn dne hx4 hn4 => ?_)
  have k34 : ∀ b o, b ≠ a → s.heap.get? b = some o → h4.get? b = some o := fun b o hb z => k4 b o hb (k03 b o hb (hk b o z))
  have szL : s.heap.objs.size < dx := by
    obtain ⟨o, es, ep, g1, _⟩ := hns3
    exact Nat.lt_of_lt_of_le (Heap.lt_size g1) dn
  have dH : H dx = none := e0.hok.fresh (Nat.le_of_lt szL)
  have na : ∀ {b : Addr}, H b = none → b ≠ a := fun {b} n z => by
    rw [z, ha] at n
    cases n
  have nd : ∀ {b : Addr} {o : Obj}, s.heap.get? b = some o → b ≠ dx := fun {b o} z => Nat.ne_of_lt (Nat.lt_trans (Heap.lt_size z) szL)
  refine wpAt_of_wpAny (wpAny_execs_nil ?_)
  refine ⟨.non, upd (upd H dx (exd dx [("number", y)])) a (exo a C (some dx)), rfl, e0.bare, ?_, fun b o z => ?_, rfl, hq dx dH dne⟩
  · exact {
      keep := fun b o z n _ _ => k34 b o (na n) z
      slot := fun b o z n _ _ => ⟨o.slots, k34 b o (na n) z⟩
      free := fun b o z n _ => by rw [upd_ne (na n), upd_ne (nd z)]; exact n
      there := fun b o z _ => by
        by_cases hb : b = a
        · exact ⟨_, by rw [hb]; exact hx4⟩
        · exact ⟨o, k34 b o hb z⟩
      tups := fun b xs z => by rw [upd_ne (at_ne ha z exo_tup), upd_ne (ne_of_none z dH)]; exact z
      frzs := fun b o v z => by rw [upd_ne (at_ne ha z exo_frz), upd_ne (ne_of_none z dH)]; exact z
      tbls := fun b ps z => ⟨#[], by rw [upd_ne (at_ne ha z exo_tbl), upd_ne (ne_of_none z dH), z]; simp⟩ }
  · by_cases hb : b = a
    · subst hb
      rw [upd_same] at z
      cases z
      exact exo_ok hx4
    · rw [upd_ne hb] at z
      by_cases hd : b = dx
      · subst hd
        rw [upd_same] at z
        cases z
        exact exd_ok hn4 (relO_put (fs := []) ry fun g => True.intro)
      · rw [upd_ne hd] at z
        exact (e0.hok b o z).stay (fun c v hc zz => k34 c v (by
            rcases hc with hc | hc
            · rw [hc]
              exact hb
            · exact at_ne ha hc exo_own) zz)
          (fun c hc => by rw [upd_ne (at_ne ha hc exo_own), upd_ne (ne_of_none hc dH)]; exact hc) (fun c xs hc => by rw [upd_ne (at_ne ha hc exo_tup), upd_ne (ne_of_none hc dH)]; exact hc)
end
end K39
/-! KDat -/
set_option maxHeartbeats 4000000
/-! ## typed data and how it is told -/
namespace K39
open PySem PySem.Spec PyProof.Rows L2
abbrev Pair := Str × Str
abbrev Item := Str × Str × Str
abbrev Trip := Str × Option Str × Str
def eP (p : Pair) : D := .tup [.str p.1, .str p.2]
def eI (t : Item) : D := .tup [.str t.1, .str t.2.1, .str t.2.2]
def eO : Option Str → D
  | none => .non
  | some s => .str s
def eT (t : Trip) : D := .tup [.str t.1, eO t.2.1, .str t.2.2]
def eF (fs : List Str) : D := .tup (fs.map .str)
inductive Row where
  | pl (fs : List Str)
  | ac (a : List Str) (k : Str) (b : List Str)
def eR : Row → D
  | .pl fs => eF fs
  | .ac a k b => .tup [eF a, .str k, eF b]
theorem eO_isNon (o : Option Str) : (eO o).isNon = o.isNone := by cases o <;> rfl
end K39
/-! KT1 -/
set_option maxHeartbeats 4000000
namespace K39
open PySem PySem.Spec PyProof.Rows L2
def spotsM (t : Trip) : List Pair := (t.1, "behind") :: ((match t.2.1 with
  | none => []
  | some f => [(f, ("row" : Str))]) ++ [if t.2.2 = "return" then (("return" : Str), ("row" : Str)) else (t.2.2, "ahead")])
def G_spots : List D → Rs → Prop := fun ds r => ∃ t : Trip, ds = [eT t] ∧ r = .nL ((spotsM t).map eP)
section
variable {P : Program} {w : World} {K : PySem.W.Frag} {mg : Str → Option Value} {bs : Heap}
theorem kn_spots (T : Hd K mg) : Kn P w K mg bs CX0 1 "spots" ["pair"] (spG K G_spots) := by
  have sc : FnScope ["pair", "first", "fence", "second", "found"] ["pair"] (defScope s_spots) := ⟨rfl, rfl, rfl, by decide +kernel, rfl, by decide +kernel, by decide +kernel⟩
  refine kn_of (N := ["pair", "first", "fence", "second", "found"]) T.f_spots T.g_spots sc (by decide) (fun _ _ _ _ _ _ us hl => match us, hl with | [_], _ => rfl) ?_ ?_
  · rintro ds r ⟨t, rfl, _⟩; rfl
  · rintro c ds r hr ⟨⟨f, o, s⟩, rfl, rfl⟩
    refine q_unpack (h_var 0) (g_tup3 1 2 3 sc.nd) ⟨Nat.le_of_ble_eq_true rfl, Nat.le_of_ble_eq_true rfl, Nat.le_of_ble_eq_true rfl, _, _, _, rfl, rfl⟩ ?_
    refine q_asg 4 sc.nd (h_lst (ha_cons (h_tup (ha_cons (h_var 1) (ha_cons h_str ha_nil))) ha_nil)) ?_
    rintro _ ⟨l, rfl⟩
    refine q_if (fun E' => E' = [some (.val (eT (f, o, s))), some (.val (.str f)), some (.val (eO o)), some (.val (.str s)), some (.oL l ((eP (f, "behind")) :: (match o with | none => [] | some g => [eP (g, "row")])))])
      (t_cmp c_notN (h_var 2) h_non) (fun h => ?_) (fun h => ?_) ?_
    · cases o with
      | none => cases h
      | some g => exact s_one (h_append 4 (h_tup (ha_cons (h_var 2) (ha_cons h_str ha_nil))) (Nat.le_of_ble_eq_true rfl) rfl)
    · cases o with
      | none => exact s_nil rfl
      | some g => cases h
    · rintro _ rfl
      refine s_cons (M := fun E' => E' = [some (.val (eT (f, o, s))), some (.val (.str f)), some (.val (eO o)), some (.val (.str s)), some (.oL l ((spotsM (f, o, s)).map eP))])
        (h_append 4 (d := eP (if s = "return" then ("return", "row") else (s, "ahead"))) (h_if (t_cmp c_eqS (h_var 3) h_str)
          (fun h => d_is (h_tup (ha_cons h_str (ha_cons h_str ha_nil))) (by rw [if_pos (of_decide_eq_true h)]; rfl))
          (fun h => d_is (h_tup (ha_cons (h_var 3) (ha_cons h_str ha_nil))) (by rw [if_neg (of_decide_eq_false h)]; rfl))) ?_ ?_) ?_
      · cases o <;> exact Nat.le_of_ble_eq_true rfl
      · cases o <;> rfl
      · rintro _ rfl
        exact s_one (h_retOwn 4 (hn := ⟨_, rfl⟩))
end
end K39
/-! KMir -/
set_option maxHeartbeats 4000000
/-! ## what the defs compute, in plain words -/
namespace K39
open PySem PySem.Spec PyProof.Rows L2
abbrev PSet := List Pair
abbrev Tab := List (Str × PSet)
abbrev Rows := List (Str × Row)
def eS (ps : PSet) : D := .lst (ps.map eP)
def eTab (t : Tab) : D := .dct (t.map fun p => (p.1, eS p.2))
def eRws (r : Rows) : List (Str × D) := r.map fun p => (p.1, eR p.2)
def eRows (r : Rows) : D := .dct (eRws r)
def eNs (ns : List Str) : D := .lst (ns.map .str)
/-! ### the draws -/
def greatStep (k t : Int) (p : Int × Int) : Int × Int :=
  let s1 := (p.2 * 48271 + 7 * t + 11) % 2147483647
  let s2 := (s1 * 69621 + k) % 2147483629
  (p.1 * 2147483629 + s2, s2)
def greatM (cell k : Int) : Int := if cell ≥ 10 ^ 18 then cell - 10 ^ 18 else
  ((List.range 3).foldl (fun p (t : Nat) => greatStep k t p) ((0 : Int), cell + 1009 * k)).1
def drawM (script : List Int) (k : Nat) : Int := if script.length = 0 then 0 else
  if h : k < script.length then greatM script[k] k else
  greatM ((script.take 9).foldl (fun (s : Int) c => (s * 31 + c) % 1000003) (5 + (script.length : Int))) k
def rowM (script : List Int) : List Int := (List.range 24).map (drawM script)
/-! ### sets of pairs -/
def lateM (p : Pair) : Bool := (p.1 = "write" ∨ p.1 = "release") && (p.2 = "read" ∨ p.2 = "acquire" ∨ p.2 = "return")
def usualM (which : Int) : PSet := pairsM.filter fun p => which = 0 ∨ (which = 1 ∧ ¬ lateM p = true) ∨ (which = 2 ∧ (p.1 = "acquire" ∨ p.2 = "release"))
def digitsM (way : Int) : List Pair → Int → PSet
  | [], _ => []
  | p :: r, n => (if way = 5 ∧ n % 4 = 3 ∨ (way = 6 ∧ n % 4 > 0) ∨ ((way = 0 ∨ way = 7) ∧ (n % 4 = 1 ∨ n % 4 = 3)) then [p] else []) ++ digitsM way r (n / 4)
def pairAt (i : Int) : Pair := pairsM.getD i.toNat ("read", "read")
def setM (number : Int) : PSet :=
  let way := number % 8
  let n := number / 8
  let spot := pairAt (n / 3 % 27)
  if way = 1 then usualM (n % 3) else
  if way = 2 then pairsM.filter fun p => decide (p ∈ usualM (n % 3)) != decide (p = spot) else
  if way = 3 then pairsM.filter fun p => p = spot ∧ n % 3 > 0 else
  if way = 4 then pairsM.filter fun p => p ≠ spot ∧ p ≠ pairAt (n / 81 % 27) else
  digitsM way pairsM n
def barred7 : List Str := ["read", "acquire", "write", "release", "both", "return", "full"]
def menu14 : List Str := ["a", "reads", "fulk", "fulm", "returns", "zz", "bothh", "light", "gate", "acquires", "rea", "zzzzzzzz", "kk", "writ"]
def letters : Str := "abcdefghijklmnopqrstuvwxyz"
def letterAt (i : Int) : Str := ⟨#[97 + i.toNat]⟩
def wordM : Nat → Int → Str → Str
  | 0, _, w => w
  | k + 1, n, w => wordM k (n / 26) (w ++ letterAt (n % 26))
def signs9 : List Str := ["a", "b", "c", "d", "e", "f", "g", "h", "i"]
def cut7 (w : Str) : Str := cutS w none (some (7 : Int))
def nameM (number : Int) (taken : List Str) : Str :=
  let w0 := if number % 2 = 1 then wordM (1 + (number / 2 % 8).toNat) (number / 16) "" else menu14.getD (number / 2 % 14).toNat ""
  signs9.foldl (fun w s => if w ∈ barred7 ++ taken then cut7 w ++ s else w) w0
def tput' (t : Tab) (n : Str) (s : PSet) : Tab := match t.lookup n with
  | none => t ++ [(n, s)]
  | some _ => t.map fun p => if p.1 = n then (n, s) else p
def tableStep (number : Int) (row : List Int) (at_ : Nat) (known : List Str) (t : Tab) (k : Nat) : Tab :=
  let n0 := nameM (row.getD (at_ + k) 0) (t.map (·.1))
  let free := known.filter fun x => x ∉ t.map (·.1)
  let n1 := if free.length > 0 ∧ number / (if k = 0 then 3 else 6) % 2 = 1 then free.headD "" else n0
  tput' t n1 (setM (row.getD (at_ + 2 + k) 0))
def tableM (number : Int) (row : List Int) (at_ : Nat) (known : List Str) : Tab := (List.range (number % 3).toNat).foldl (tableStep number row at_ known) []
def goalM (kept : PSet) (number : Int) : PSet := if number % 2 = 1 then setM (number / 2) else
  let gone := [pairAt (number / 2 % 27), pairAt (number / 54 % 27), pairAt (number / 1458 % 27)]
  kept.filter fun p => p ∉ gone.take (number / 39366 % 4).toNat
/-! ### the order of names and items -/
def leS (a b : Str) : Bool := decide (a.cps.toList ≤ b.cps.toList)
def dedup {α : Type} [DecidableEq α] : List α → List α
  | [] => []
  | x :: xs => if x ∈ xs then dedup xs else x :: dedup xs
def sortS (l : List Str) : List Str := l.mergeSort leS
def ascS (l : List Str) : List Str := sortS (dedup l)
def gatesM (bars : Tab) : List Str := sortS ("full" :: bars.map (·.1))
def namesM (t : Tab) : List Str := sortS (barred7 ++ t.map (·.1))
/-! ### rows -/
def plainM (names : List Str) (bars : Tab) : Rows := names.map fun n => (n, if n ∈ kinds5 then .ac [] n [] else if n = "full" ∨ n ∈ bars.map (·.1) then .pl [n] else if n = "return" then .pl [] else .pl ["full"])
def someM : Nat → Int → List Str → List Str
  | 0, _, _ => []
  | k + 1, n, bars => bars.getD (n % bars.length).toNat "" :: someM k (n / bars.length) bars
def someF (number : Int) (bars : List Str) (most : Nat) : List Str := someM (number % (most + 1)).toNat (number / (most + 1)) bars
def otherM (n : Str) : Str := if n = "read" then "acquire" else if n = "acquire" then "read" else if n = "write" then "release" else if n = "release" then "write" else n
def looseM (name : Str) (number : Int) (bars : List Str) : Row := if name ∈ kinds5 then .ac (someF (number / 2 % 405) bars 4) (if number % 2 = 1 then otherM name else name) (someF (number / 810) bars 4) else .pl (someF number bars 4)
def normalM : Row → Row
  | .ac a k b => .ac (ascS a) k (ascS b)
  | .pl f => .pl (ascS f)
def rput (r : Rows) (n : Str) (x : Row) : Rows := r.map fun p => if p.1 = n then (n, x) else p
def rowsStep (row : List Int) (at_ : Nat) (names gates : List Str) (r : Rows) (k : Nat) : Rows := if row.getD (at_ + k) 0 % 3 > 0 then rput r (names.getD k "") (normalM (looseM (names.getD k "") (row.getD (at_ + k) 0 / 3) gates)) else r
def rowsM (row : List Int) (at_ : Nat) (names : List Str) (bars : Tab) (gates : List Str) : Rows := (List.range names.length).foldl (rowsStep row at_ names gates) (plainM names bars)
def rowOf (r : Rows) (n : Str) : Row := (r.lookup n).getD (.pl [])
def Row.fs : Row → List Str
  | .pl f => f
  | .ac a _ _ => a
def Row.behind : Row → List Str
  | .pl f => f
  | .ac _ _ b => b
def Row.kind : Row → Str
  | .pl _ => ""
  | .ac _ k _ => k
/-! ### lost pairs, by the law -/
def setOf (t : Tab) (n : Str) : PSet := (t.lookup n).getD []
def keptByM (kept : PSet) (t : Tab) (p : Pair) (passed : List Str) : Bool := decide (p ∈ kept) || passed.any fun n => decide (n = "full") || decide (p ∈ setOf t n)
def wantedM (kept : PSet) (marks : Tab) (a : Str) (f : Option Str) (b : Str) : Bool := match f with
  | none => decide ((a, b) ∈ kept)
  | some f => decide ((a, b) ∉ kept) && (decide (f = "full") || decide ((a, b) ∈ setOf marks f))
def aheadM (r : Rows) (second : Str) : List Str := if second = "return" then (rowOf r "return").fs else (rowOf r second).fs
def becomesM (r : Rows) (a b : Str) : Pair := ((rowOf r a).kind, if b = "return" then "return" else (rowOf r b).kind)
def fencesM (marks : Tab) : List (Option Str) := none :: (gatesM marks).map some
def lLost1 (kept : PSet) (marks : Tab) (goal : PSet) (bars : Tab) (r : Rows) (t : Trip) : Bool := wantedM kept marks t.1 t.2.1 t.2.2 &&
  !keptByM goal bars (becomesM r t.1 t.2.2) ((rowOf r t.1).behind ++ (match t.2.1 with | none => [] | some f => (rowOf r f).fs) ++ aheadM r t.2.2)
def tripsM (fences : List (Option Str)) : List Trip := kinds5.flatMap fun a => fences.flatMap fun f => (pairsM.filter fun p => p.1 = a).map fun p => (a, f, p.2)
def lLostM (kept : PSet) (marks : Tab) (goal : PSet) (bars : Tab) (r : Rows) : List Trip := (tripsM (fencesM marks)).filter (lLost1 kept marks goal bars r)
def ableM (r : Rows) (bars : Tab) (t : Trip) : List Str := "full" :: (bars.map (·.1)).filter fun n => decide (becomesM r t.1 t.2.2 ∈ setOf bars n)
def partM (r : Rows) (n side : Str) : List Str := if side = "row" then (rowOf r n).fs else if side = "ahead" then (rowOf r n).fs else (rowOf r n).behind
def addTo (x : Row) (side f : Str) : Row := match x with
  | .pl fs => .pl (fs ++ [f])
  | .ac a k b => if side = "ahead" then .ac (a ++ [f]) k b else .ac a k (b ++ [f])
def putM (r : Rows) (i : Item) : Rows := rput r i.1 (normalM (addTo (rowOf r i.1) i.2.1 i.2.2))
def delFrom (x : Row) (side f : Str) : Row := match x with
  | .pl fs => .pl (fs.filter (· ≠ f))
  | .ac a k b => if side = "ahead" then .ac (a.filter (· ≠ f)) k b else .ac a k (b.filter (· ≠ f))
def takenM (r : Rows) (i : Item) : Rows := rput r i.1 (delFrom (rowOf r i.1) i.2.1 i.2.2)
def sidesM (n : Str) : List Str := if n ∈ kinds5 then ["ahead", "behind"] else ["row"]
def knownM (names gates : List Str) : List Item := names.flatMap fun n => (sidesM n).flatMap fun s => gates.map fun f => (n, s, f)
def nearStep1 (bars : Tab) (p : Rows × Int) (t : Trip) : Rows × Int :=
  let sp := spotsM t
  let ab := ableM p.1 bars t
  let s := sp.getD (p.2 / 3 % sp.length).toNat ("", "")
  (putM p.1 (s.1, s.2, ab.getD (p.2 % ab.length).toNat ""), (p.2 * 48271 + 11) % 2147483647)
def nearStep2 (gates : List Str) (p : Rows × Int) : Rows × Int :=
  let n := p.2 / 4
  let standing := (knownM (p.1.map (·.1)) gates).filter fun i => i.2.2 ∈ partM p.1 i.1 i.2.1
  (if standing.length > 0 then takenM p.1 (standing.getD (n % standing.length).toNat ("", "", "")) else p.1, n / 42)
def nearM (kept : PSet) (marks : Tab) (goal : PSet) (bars : Tab) (r : Rows) (number : Int) : Rows :=
  let p := (lLostM kept marks goal bars r).foldl (nearStep1 bars) (r, number)
  ((List.range (p.2 % 4).toNat).foldl (fun q _ => nearStep2 (gatesM bars) q) p).1
end K39
/-! KL1 -/
set_option maxHeartbeats 4000000
namespace K39
open PySem PySem.Spec PyProof.Rows L2
section
variable {P : Program} {w : World} {K : PySem.W.Frag} {mg : Str → Option Value} {bs : Heap}
theorem p18 : CPow 10 18 := ⟨by decide, by decide, by decide⟩
theorem cm (j : Int) (h : (decide (-(2 ^ 64) < j) && decide (j < 2 ^ 64)) = true) : -(2 ^ 64) < j ∧ j < 2 ^ 64 := by
  rw [Bool.and_eq_true, decide_eq_true_eq, decide_eq_true_eq] at h
  exact h
theorem a1 {X : Cx} {E : En} {e : Expr} {d : D} (h : HasD X E e d) (hs : starEach [e] X.env = (false, eval e X.env) :: starEach [] X.env := by rfl) : HA X E [e] [d] := ha_cons h ha_nil hs
theorem a2 {X : Cx} {E : En} {e e' : Expr} {d d' : D} (h : HasD X E e d) (h' : HasD X E e' d') (hs : starEach [e, e'] X.env = (false, eval e X.env) :: starEach [e'] X.env := by rfl) (hs' : starEach [e'] X.env = (false, eval e' X.env) :: starEach [] X.env := by rfl) : HA X E [e, e'] [d, d'] := ha_cons h (ha_cons h' ha_nil hs') hs
theorem nums_get {n i : Nat} {d : D} (h : (nums n)[i]? = some d) : i < n ∧ d = .int (i : Int) := by
  unfold nums at h
  rw [List.getElem?_map] at h
  by_cases hi : i < n
  · rw [List.getElem?_range hi] at h
    exact ⟨hi, (Option.some.inj h).symm⟩
  · rw [List.getElem?_eq_none (by simpa using hi)] at h
    cases h
def G_great : List D → Rs → Prop := fun ds r => ∃ c k : Int, ds = [.int c, .int k] ∧ r = .val (.int (greatM c k))
theorem kn_great (T : Hd K mg) : Kn P w K mg bs CX0 1 "_law_great" ["_law_cell", "_law_k"] (spG K G_great) := by
  have sc : FnScope ["_law_cell", "_law_k", "_law_total", "_law_seed", "_law_turn"] ["_law_cell", "_law_k"] (defScope s_l_great) := ⟨rfl, rfl, rfl, by decide +kernel, rfl, by decide +kernel, by decide +kernel⟩
  refine kn_of (N := ["_law_cell", "_law_k", "_law_total", "_law_seed", "_law_turn"]) T.f_l_great T.g_l_great sc (by decide) (fun _ _ _ _ _ _ us hl => match us, hl with | [_, _], _ => rfl) ?_ ?_
  · rintro ds r ⟨c, k, rfl, _⟩; rfl
  · rintro c ds r hr ⟨cl, k, rfl, rfl⟩
    refine q_when (t_cmp c_ge (h_var 0) (h_op (o_pow p18) h_int h_int)) (fun h => s_one (h_ret (h_op o_sub (h_var 0) (h_op (o_pow p18) h_int h_int)) ?_)) fun h => ?_
    · rintro _ rfl
      have h1 : cl ≥ 10 ^ 18 := by simpa using h
      show Sl.val _ = _
      unfold greatM
      rw [if_pos h1]
      rfl
    · have h1 : ¬ cl ≥ 10 ^ 18 := by simpa using h
      have mul : ∀ {i j : Int}, (decide (-(2 ^ 64) < j) && decide (j < 2 ^ 64)) = true → OpOk (Cc.cx P w K mg bs ["_law_cell", "_law_k", "_law_total", "_law_seed", "_law_turn"] "_law_great" s_l_great c) .Mult (.int i) (.int j) (.val (.int (i * j))) := fun h => o_mulR (cm _ h)
      have mulL : ∀ {i j : Int}, (decide (-(2 ^ 64) < i) && decide (i < 2 ^ 64)) = true → OpOk (Cc.cx P w K mg bs ["_law_cell", "_law_k", "_law_total", "_law_seed", "_law_turn"] "_law_great" s_l_great c) .Mult (.int i) (.int j) (.val (.int (i * j))) := fun h => o_mulL (cm _ h)
      refine q_asg 2 sc.nd h_int ?_
      rintro _ rfl
      refine q_asg 3 sc.nd (h_op o_add (h_callT f_int T.n_int PyProof.Rows.boot_int (a1 (h_var 0))) (h_op (mulL rfl) h_int (h_var 1))) ?_
      rintro _ rfl
      let st := fun i => (List.range i).foldl (fun p (t : Nat) => greatStep k t p) ((0 : Int), cl + 1009 * k)
      refine q_for (fun i E' => ∃ o, E' = [some (.val (.int cl)), some (.val (.int k)), some (.val (.int (st i).1)), some (.val (.int (st i).2)), o]) (fun E' => ∃ o, E' = [some (.val (.int cl)), some (.val (.int k)), some (.val (.int (st 3).1)), some (.val (.int (st 3).2)), o])
        (k_range T.n_range h_int (by decide) (by decide)) (g_name 4 sc.nd) ⟨_, rfl⟩ ?_ (fun E' h => h) ?_
      · rintro i d E' hd ⟨o, rfl⟩
        obtain ⟨hi, rfl⟩ := nums_get hd
        refine ⟨_, ⟨Nat.le_of_ble_eq_true rfl, rfl⟩, ?_⟩
        refine q_asg 3 sc.nd (h_op (o_mod (by decide)) (h_callT f_int T.n_int PyProof.Rows.boot_int (a1 (h_op o_add (h_op o_add (h_op (mul rfl) (h_var 3) h_int) (h_op (mulL rfl) h_int (h_var 4))) h_int))) h_int) ?_
        rintro _ rfl
        refine q_asg 3 sc.nd (h_op (o_mod (by decide)) (h_callT f_int T.n_int PyProof.Rows.boot_int (a1 (h_op o_add (h_op (mul rfl) (h_var 3) h_int) (h_var 1)))) h_int) ?_
        rintro _ rfl
        refine s_one (h_asg (i := 2) sc.nd (h_op o_add (h_op (mul rfl) (h_var 2) h_int) (h_var 3)) ?_)
        rintro _ rfl
        refine ⟨some (.val (.int i)), ?_⟩
        have e : st (i + 1) = greatStep k i (st i) := by
          show (List.range (i + 1)).foldl _ _ = _
          rw [List.range_succ, List.foldl_append]
          rfl
        rw [e]
        rfl
      · rintro _ ⟨o, rfl⟩
        refine s_one (h_ret (h_var 2) ?_)
        rintro _ rfl
        show Sl.val _ = _
        unfold greatM
        rw [if_neg h1]
end
end K39
/-! KSc -/
set_option maxHeartbeats 4000000
namespace K39
open PySem PySem.Spec PyProof.Rows L2
section
variable {P : Program} {w : World} {K : PySem.W.Frag} {mg : Str → Option Value} {bs : Heap}
abbrev N_is_name : List Str := ["x", "sign"]
theorem sc_is_name : FnScope N_is_name ["x"] (defScope s_is_name) := ⟨rfl, rfl, rfl, by decide +kernel, rfl, by decide +kernel, by decide +kernel⟩
theorem k_is_name (T : Hd K mg) {k : Nat} {G : List D → Rs → Prop} (len : ∀ ds r, G ds r → ds.length = 1)
    (hb : ∀ (c : Cc) (ds : List D) (r : Rs), Room k (Cc.cx P w K mg bs N_is_name "is_name" s_is_name c).A → G ds r → HasSs (Cc.cx P w K mg bs N_is_name "is_name" s_is_name c) (args ds (N_is_name.length - ds.length)) (defBody s_is_name) ⟨fun _ => r = .val .non, r.ok, fun _ => False, fun _ => False⟩) :
    Kn P w K mg bs CX0 (k + 1) "is_name" ["x"] (spG K G) := kn_of (N := N_is_name) T.f_is_name T.g_is_name sc_is_name (by decide) (fun _ _ _ _ _ _ us hl => match us, hl with | [_], _ => rfl) len hb
abbrev N_is_whole : List Str := ["x", "least", "most"]
theorem sc_is_whole : FnScope N_is_whole ["x", "least", "most"] (defScope s_is_whole) := ⟨rfl, rfl, rfl, by decide +kernel, rfl, by decide +kernel, by decide +kernel⟩
theorem k_is_whole (T : Hd K mg) {k : Nat} {G : List D → Rs → Prop} (len : ∀ ds r, G ds r → ds.length = 3)
    (hb : ∀ (c : Cc) (ds : List D) (r : Rs), Room k (Cc.cx P w K mg bs N_is_whole "is_whole" s_is_whole c).A → G ds r → HasSs (Cc.cx P w K mg bs N_is_whole "is_whole" s_is_whole c) (args ds (N_is_whole.length - ds.length)) (defBody s_is_whole) ⟨fun _ => r = .val .non, r.ok, fun _ => False, fun _ => False⟩) :
    Kn P w K mg bs CX0 (k + 1) "is_whole" ["x", "least", "most"] (spG K G) := kn_of (N := N_is_whole) T.f_is_whole T.g_is_whole sc_is_whole (by decide) (fun _ _ _ _ _ _ us hl => match us, hl with | [_, _, _], _ => rfl) len hb
abbrev N_ascending : List Str := ["rows"]
theorem sc_ascending : FnScope N_ascending ["rows"] (defScope s_ascending) := ⟨rfl, rfl, rfl, by decide +kernel, rfl, by decide +kernel, by decide +kernel⟩
theorem k_ascending (T : Hd K mg) {k : Nat} {G : List D → Rs → Prop} (len : ∀ ds r, G ds r → ds.length = 1)
    (hb : ∀ (c : Cc) (ds : List D) (r : Rs), Room k (Cc.cx P w K mg bs N_ascending "ascending" s_ascending c).A → G ds r → HasSs (Cc.cx P w K mg bs N_ascending "ascending" s_ascending c) (args ds (N_ascending.length - ds.length)) (defBody s_ascending) ⟨fun _ => r = .val .non, r.ok, fun _ => False, fun _ => False⟩) :
    Kn P w K mg bs CX0 (k + 1) "ascending" ["rows"] (spG K G) := kn_of (N := N_ascending) T.f_ascending T.g_ascending sc_ascending (by decide) (fun _ _ _ _ _ _ us hl => match us, hl with | [_], _ => rfl) len hb
abbrev N_is_fence : List Str := ["name"]
theorem sc_is_fence : FnScope N_is_fence ["name"] (defScope s_is_fence) := ⟨rfl, rfl, rfl, by decide +kernel, rfl, by decide +kernel, by decide +kernel⟩
theorem k_is_fence (T : Hd K mg) {k : Nat} {G : List D → Rs → Prop} (len : ∀ ds r, G ds r → ds.length = 1)
    (hb : ∀ (c : Cc) (ds : List D) (r : Rs), Room k (Cc.cx P w K mg bs N_is_fence "is_fence" s_is_fence c).A → G ds r → HasSs (Cc.cx P w K mg bs N_is_fence "is_fence" s_is_fence c) (args ds (N_is_fence.length - ds.length)) (defBody s_is_fence) ⟨fun _ => r = .val .non, r.ok, fun _ => False, fun _ => False⟩) :
    Kn P w K mg bs CX0 (k + 1) "is_fence" ["name"] (spG K G) := kn_of (N := N_is_fence) T.f_is_fence T.g_is_fence sc_is_fence (by decide) (fun _ _ _ _ _ _ us hl => match us, hl with | [_], _ => rfl) len hb
abbrev N_Pairs_init : List Str := ["self", "pairs", "item", "pair"]
theorem sc_Pairs_init : FnScope N_Pairs_init ["self", "pairs"] (defScope s_Pairs_init) := ⟨rfl, rfl, rfl, by decide +kernel, rfl, by decide +kernel, by decide +kernel⟩
abbrev N_Pairs_contains : List Str := ["self", "pair"]
theorem sc_Pairs_contains : FnScope N_Pairs_contains ["self", "pair"] (defScope s_Pairs_contains) := ⟨rfl, rfl, rfl, by decide +kernel, rfl, by decide +kernel, by decide +kernel⟩
abbrev N_Book_init : List Str := ["self", "kept", "fences", "given", "name"]
theorem sc_Book_init : FnScope N_Book_init ["self", "kept", "fences"] (defScope s_Book_init) := ⟨rfl, rfl, rfl, by decide +kernel, rfl, by decide +kernel, by decide +kernel⟩
abbrev N_Book_fences : List Str := ["self"]
theorem sc_Book_fences : FnScope N_Book_fences ["self"] (defScope s_Book_fences) := ⟨rfl, rfl, rfl, by decide +kernel, rfl, by decide +kernel, by decide +kernel⟩
abbrev N_Book_fence : List Str := ["self", "name"]
theorem sc_Book_fence : FnScope N_Book_fence ["self", "name"] (defScope s_Book_fence) := ⟨rfl, rfl, rfl, by decide +kernel, rfl, by decide +kernel, by decide +kernel⟩
abbrev N_Book_keeps : List Str := ["self", "first", "second", "between", "pair", "name"]
theorem sc_Book_keeps : FnScope N_Book_keeps ["self", "first", "second", "between"] (defScope s_Book_keeps) := ⟨rfl, rfl, rfl, by decide +kernel, rfl, by decide +kernel, by decide +kernel⟩
abbrev N_group_of : List Str := ["kind"]
theorem sc_group_of : FnScope N_group_of ["kind"] (defScope s_group_of) := ⟨rfl, rfl, rfl, by decide +kernel, rfl, by decide +kernel, by decide +kernel⟩
theorem k_group_of (T : Hd K mg) {k : Nat} {G : List D → Rs → Prop} (len : ∀ ds r, G ds r → ds.length = 1)
    (hb : ∀ (c : Cc) (ds : List D) (r : Rs), Room k (Cc.cx P w K mg bs N_group_of "group_of" s_group_of c).A → G ds r → HasSs (Cc.cx P w K mg bs N_group_of "group_of" s_group_of c) (args ds (N_group_of.length - ds.length)) (defBody s_group_of) ⟨fun _ => r = .val .non, r.ok, fun _ => False, fun _ => False⟩) :
    Kn P w K mg bs CX0 (k + 1) "group_of" ["kind"] (spG K G) := kn_of (N := N_group_of) T.f_group_of T.g_group_of sc_group_of (by decide) (fun _ _ _ _ _ _ us hl => match us, hl with | [_], _ => rfl) len hb
abbrev N_are_fences : List Str := ["row", "known", "name"]
theorem sc_are_fences : FnScope N_are_fences ["row", "known"] (defScope s_are_fences) := ⟨rfl, rfl, rfl, by decide +kernel, rfl, by decide +kernel, by decide +kernel⟩
theorem k_are_fences (T : Hd K mg) {k : Nat} {G : List D → Rs → Prop} (len : ∀ ds r, G ds r → ds.length = 2)
    (hb : ∀ (c : Cc) (ds : List D) (r : Rs), Room k (Cc.cx P w K mg bs N_are_fences "are_fences" s_are_fences c).A → G ds r → HasSs (Cc.cx P w K mg bs N_are_fences "are_fences" s_are_fences c) (args ds (N_are_fences.length - ds.length)) (defBody s_are_fences) ⟨fun _ => r = .val .non, r.ok, fun _ => False, fun _ => False⟩) :
    Kn P w K mg bs CX0 (k + 1) "are_fences" ["row", "known"] (spG K G) := kn_of (N := N_are_fences) T.f_are_fences T.g_are_fences sc_are_fences (by decide) (fun _ _ _ _ _ _ us hl => match us, hl with | [_, _], _ => rfl) len hb
abbrev N_fits : List Str := ["name", "row", "known"]
theorem sc_fits : FnScope N_fits ["name", "row", "known"] (defScope s_fits) := ⟨rfl, rfl, rfl, by decide +kernel, rfl, by decide +kernel, by decide +kernel⟩
theorem k_fits (T : Hd K mg) {k : Nat} {G : List D → Rs → Prop} (len : ∀ ds r, G ds r → ds.length = 3)
    (hb : ∀ (c : Cc) (ds : List D) (r : Rs), Room k (Cc.cx P w K mg bs N_fits "fits" s_fits c).A → G ds r → HasSs (Cc.cx P w K mg bs N_fits "fits" s_fits c) (args ds (N_fits.length - ds.length)) (defBody s_fits) ⟨fun _ => r = .val .non, r.ok, fun _ => False, fun _ => False⟩) :
    Kn P w K mg bs CX0 (k + 1) "fits" ["name", "row", "known"] (spG K G) := kn_of (N := N_fits) T.f_fits T.g_fits sc_fits (by decide) (fun _ _ _ _ _ _ us hl => match us, hl with | [_, _, _], _ => rfl) len hb
abbrev N_normal : List Str := ["name", "row"]
theorem sc_normal : FnScope N_normal ["name", "row"] (defScope s_normal) := ⟨rfl, rfl, rfl, by decide +kernel, rfl, by decide +kernel, by decide +kernel⟩
theorem k_normal (T : Hd K mg) {k : Nat} {G : List D → Rs → Prop} (len : ∀ ds r, G ds r → ds.length = 2)
    (hb : ∀ (c : Cc) (ds : List D) (r : Rs), Room k (Cc.cx P w K mg bs N_normal "normal" s_normal c).A → G ds r → HasSs (Cc.cx P w K mg bs N_normal "normal" s_normal c) (args ds (N_normal.length - ds.length)) (defBody s_normal) ⟨fun _ => r = .val .non, r.ok, fun _ => False, fun _ => False⟩) :
    Kn P w K mg bs CX0 (k + 1) "normal" ["name", "row"] (spG K G) := kn_of (N := N_normal) T.f_normal T.g_normal sc_normal (by decide) (fun _ _ _ _ _ _ us hl => match us, hl with | [_, _], _ => rfl) len hb
abbrev N_Recipe_init : List Str := ["self", "source", "target", "name"]
theorem sc_Recipe_init : FnScope N_Recipe_init ["self", "source", "target"] (defScope s_Recipe_init) := ⟨rfl, rfl, rfl, by decide +kernel, rfl, by decide +kernel, by decide +kernel⟩
abbrev N_Recipe_iter : List Str := ["self"]
theorem sc_Recipe_iter : FnScope N_Recipe_iter ["self"] (defScope s_Recipe_iter) := ⟨rfl, rfl, rfl, by decide +kernel, rfl, by decide +kernel, by decide +kernel⟩
abbrev N_Recipe_getitem : List Str := ["self", "name"]
theorem sc_Recipe_getitem : FnScope N_Recipe_getitem ["self", "name"] (defScope s_Recipe_getitem) := ⟨rfl, rfl, rfl, by decide +kernel, rfl, by decide +kernel, by decide +kernel⟩
abbrev N_Recipe_setitem : List Str := ["self", "name", "row"]
theorem sc_Recipe_setitem : FnScope N_Recipe_setitem ["self", "name", "row"] (defScope s_Recipe_setitem) := ⟨rfl, rfl, rfl, by decide +kernel, rfl, by decide +kernel, by decide +kernel⟩
abbrev N_spots : List Str := ["pair", "first", "fence", "second", "found"]
theorem sc_spots : FnScope N_spots ["pair"] (defScope s_spots) := ⟨rfl, rfl, rfl, by decide +kernel, rfl, by decide +kernel, by decide +kernel⟩
theorem k_spots (T : Hd K mg) {k : Nat} {G : List D → Rs → Prop} (len : ∀ ds r, G ds r → ds.length = 1)
    (hb : ∀ (c : Cc) (ds : List D) (r : Rs), Room k (Cc.cx P w K mg bs N_spots "spots" s_spots c).A → G ds r → HasSs (Cc.cx P w K mg bs N_spots "spots" s_spots c) (args ds (N_spots.length - ds.length)) (defBody s_spots) ⟨fun _ => r = .val .non, r.ok, fun _ => False, fun _ => False⟩) :
    Kn P w K mg bs CX0 (k + 1) "spots" ["pair"] (spG K G) := kn_of (N := N_spots) T.f_spots T.g_spots sc_spots (by decide) (fun _ _ _ _ _ _ us hl => match us, hl with | [_], _ => rfl) len hb
abbrev N_at_spot : List Str := ["recipe", "spot", "name", "side"]
theorem sc_at_spot : FnScope N_at_spot ["recipe", "spot"] (defScope s_at_spot) := ⟨rfl, rfl, rfl, by decide +kernel, rfl, by decide +kernel, by decide +kernel⟩
theorem k_at_spot (T : Hd K mg) {k : Nat} {G : List D → Rs → Prop} (len : ∀ ds r, G ds r → ds.length = 2)
    (hb : ∀ (c : Cc) (ds : List D) (r : Rs), Room k (Cc.cx P w K mg bs N_at_spot "at_spot" s_at_spot c).A → G ds r → HasSs (Cc.cx P w K mg bs N_at_spot "at_spot" s_at_spot c) (args ds (N_at_spot.length - ds.length)) (defBody s_at_spot) ⟨fun _ => r = .val .non, r.ok, fun _ => False, fun _ => False⟩) :
    Kn P w K mg bs CX0 (k + 1) "at_spot" ["recipe", "spot"] (spG K G) := kn_of (N := N_at_spot) T.f_at_spot T.g_at_spot sc_at_spot (by decide) (fun _ _ _ _ _ _ us hl => match us, hl with | [_, _], _ => rfl) len hb
abbrev N_aim : List Str := ["recipe", "pair", "first", "unused", "second"]
theorem sc_aim : FnScope N_aim ["recipe", "pair"] (defScope s_aim) := ⟨rfl, rfl, rfl, by decide +kernel, rfl, by decide +kernel, by decide +kernel⟩
theorem k_aim (T : Hd K mg) {k : Nat} {G : List D → Rs → Prop} (len : ∀ ds r, G ds r → ds.length = 2)
    (hb : ∀ (c : Cc) (ds : List D) (r : Rs), Room k (Cc.cx P w K mg bs N_aim "aim" s_aim c).A → G ds r → HasSs (Cc.cx P w K mg bs N_aim "aim" s_aim c) (args ds (N_aim.length - ds.length)) (defBody s_aim) ⟨fun _ => r = .val .non, r.ok, fun _ => False, fun _ => False⟩) :
    Kn P w K mg bs CX0 (k + 1) "aim" ["recipe", "pair"] (spG K G) := kn_of (N := N_aim) T.f_aim T.g_aim sc_aim (by decide) (fun _ _ _ _ _ _ us hl => match us, hl with | [_, _], _ => rfl) len hb
abbrev N_is_lost : List Str := ["recipe", "pair", "found", "spot", "first", "second"]
theorem sc_is_lost : FnScope N_is_lost ["recipe", "pair"] (defScope s_is_lost) := ⟨rfl, rfl, rfl, by decide +kernel, rfl, by decide +kernel, by decide +kernel⟩
theorem k_is_lost (T : Hd K mg) {k : Nat} {G : List D → Rs → Prop} (len : ∀ ds r, G ds r → ds.length = 2)
    (hb : ∀ (c : Cc) (ds : List D) (r : Rs), Room k (Cc.cx P w K mg bs N_is_lost "is_lost" s_is_lost c).A → G ds r → HasSs (Cc.cx P w K mg bs N_is_lost "is_lost" s_is_lost c) (args ds (N_is_lost.length - ds.length)) (defBody s_is_lost) ⟨fun _ => r = .val .non, r.ok, fun _ => False, fun _ => False⟩) :
    Kn P w K mg bs CX0 (k + 1) "is_lost" ["recipe", "pair"] (spG K G) := kn_of (N := N_is_lost) T.f_is_lost T.g_is_lost sc_is_lost (by decide) (fun _ _ _ _ _ _ us hl => match us, hl with | [_, _], _ => rfl) len hb
abbrev N_is_due : List Str := ["recipe", "pair", "first", "fence", "second"]
theorem sc_is_due : FnScope N_is_due ["recipe", "pair"] (defScope s_is_due) := ⟨rfl, rfl, rfl, by decide +kernel, rfl, by decide +kernel, by decide +kernel⟩
theorem k_is_due (T : Hd K mg) {k : Nat} {G : List D → Rs → Prop} (len : ∀ ds r, G ds r → ds.length = 2)
    (hb : ∀ (c : Cc) (ds : List D) (r : Rs), Room k (Cc.cx P w K mg bs N_is_due "is_due" s_is_due c).A → G ds r → HasSs (Cc.cx P w K mg bs N_is_due "is_due" s_is_due c) (args ds (N_is_due.length - ds.length)) (defBody s_is_due) ⟨fun _ => r = .val .non, r.ok, fun _ => False, fun _ => False⟩) :
    Kn P w K mg bs CX0 (k + 1) "is_due" ["recipe", "pair"] (spG K G) := kn_of (N := N_is_due) T.f_is_due T.g_is_due sc_is_due (by decide) (fun _ _ _ _ _ _ us hl => match us, hl with | [_, _], _ => rfl) len hb
abbrev N_lost : List Str := ["recipe", "found", "first", "fence", "one", "second", "pair"]
theorem sc_lost : FnScope N_lost ["recipe"] (defScope s_lost) := ⟨rfl, rfl, rfl, by decide +kernel, rfl, by decide +kernel, by decide +kernel⟩
theorem k_lost (T : Hd K mg) {k : Nat} {G : List D → Rs → Prop} (len : ∀ ds r, G ds r → ds.length = 1)
    (hb : ∀ (c : Cc) (ds : List D) (r : Rs), Room k (Cc.cx P w K mg bs N_lost "lost" s_lost c).A → G ds r → HasSs (Cc.cx P w K mg bs N_lost "lost" s_lost c) (args ds (N_lost.length - ds.length)) (defBody s_lost) ⟨fun _ => r = .val .non, r.ok, fun _ => False, fun _ => False⟩) :
    Kn P w K mg bs CX0 (k + 1) "lost" ["recipe"] (spG K G) := kn_of (N := N_lost) T.f_lost T.g_lost sc_lost (by decide) (fun _ _ _ _ _ _ us hl => match us, hl with | [_], _ => rfl) len hb
abbrev N_all_spots : List Str := ["recipe", "found", "name"]
theorem sc_all_spots : FnScope N_all_spots ["recipe"] (defScope s_all_spots) := ⟨rfl, rfl, rfl, by decide +kernel, rfl, by decide +kernel, by decide +kernel⟩
theorem k_all_spots (T : Hd K mg) {k : Nat} {G : List D → Rs → Prop} (len : ∀ ds r, G ds r → ds.length = 1)
    (hb : ∀ (c : Cc) (ds : List D) (r : Rs), Room k (Cc.cx P w K mg bs N_all_spots "all_spots" s_all_spots c).A → G ds r → HasSs (Cc.cx P w K mg bs N_all_spots "all_spots" s_all_spots c) (args ds (N_all_spots.length - ds.length)) (defBody s_all_spots) ⟨fun _ => r = .val .non, r.ok, fun _ => False, fun _ => False⟩) :
    Kn P w K mg bs CX0 (k + 1) "all_spots" ["recipe"] (spG K G) := kn_of (N := N_all_spots) T.f_all_spots T.g_all_spots sc_all_spots (by decide) (fun _ _ _ _ _ _ us hl => match us, hl with | [_], _ => rfl) len hb
abbrev N_added : List Str := ["recipe", "chosen", "known", "name", "side", "fence", "more", "ahead", "kind", "behind"]
theorem sc_added : FnScope N_added ["recipe", "chosen"] (defScope s_added) := ⟨rfl, rfl, rfl, by decide +kernel, rfl, by decide +kernel, by decide +kernel⟩
theorem k_added (T : Hd K mg) {k : Nat} {G : List D → Rs → Prop} (len : ∀ ds r, G ds r → ds.length = 2)
    (hb : ∀ (c : Cc) (ds : List D) (r : Rs), Room k (Cc.cx P w K mg bs N_added "added" s_added c).A → G ds r → HasSs (Cc.cx P w K mg bs N_added "added" s_added c) (args ds (N_added.length - ds.length)) (defBody s_added) ⟨fun _ => r = .val .non, r.ok, fun _ => False, fun _ => False⟩) :
    Kn P w K mg bs CX0 (k + 1) "added" ["recipe", "chosen"] (spG K G) := kn_of (N := N_added) T.f_added T.g_added sc_added (by decide) (fun _ _ _ _ _ _ us hl => match us, hl with | [_, _], _ => rfl) len hb
abbrev N_cures : List Str := ["recipe", "pair", "first", "second", "able", "fence", "name", "side"]
theorem sc_cures : FnScope N_cures ["recipe", "pair"] (defScope s_cures) := ⟨rfl, rfl, rfl, by decide +kernel, rfl, by decide +kernel, by decide +kernel⟩
theorem k_cures (T : Hd K mg) {k : Nat} {G : List D → Rs → Prop} (len : ∀ ds r, G ds r → ds.length = 2)
    (hb : ∀ (c : Cc) (ds : List D) (r : Rs), Room k (Cc.cx P w K mg bs N_cures "cures" s_cures c).A → G ds r → HasSs (Cc.cx P w K mg bs N_cures "cures" s_cures c) (args ds (N_cures.length - ds.length)) (defBody s_cures) ⟨fun _ => r = .val .non, r.ok, fun _ => False, fun _ => False⟩) :
    Kn P w K mg bs CX0 (k + 1) "cures" ["recipe", "pair"] (spG K G) := kn_of (N := N_cures) T.f_cures T.g_cures sc_cures (by decide) (fun _ _ _ _ _ _ us hl => match us, hl with | [_, _], _ => rfl) len hb
abbrev N_unmet : List Str := ["needs", "chosen", "need", "one"]
theorem sc_unmet : FnScope N_unmet ["needs", "chosen"] (defScope s_unmet) := ⟨rfl, rfl, rfl, by decide +kernel, rfl, by decide +kernel, by decide +kernel⟩
theorem k_unmet (T : Hd K mg) {k : Nat} {G : List D → Rs → Prop} (len : ∀ ds r, G ds r → ds.length = 2)
    (hb : ∀ (c : Cc) (ds : List D) (r : Rs), Room k (Cc.cx P w K mg bs N_unmet "unmet" s_unmet c).A → G ds r → HasSs (Cc.cx P w K mg bs N_unmet "unmet" s_unmet c) (args ds (N_unmet.length - ds.length)) (defBody s_unmet) ⟨fun _ => r = .val .non, r.ok, fun _ => False, fun _ => False⟩) :
    Kn P w K mg bs CX0 (k + 1) "unmet" ["needs", "chosen"] (spG K G) := kn_of (N := N_unmet) T.f_unmet T.g_unmet sc_unmet (by decide) (fun _ _ _ _ _ _ us hl => match us, hl with | [_, _], _ => rfl) len hb
abbrev N_fewest : List Str := ["recipe", "most", "needs", "level", "unused", "enough", "longer", "chosen", "one", "pair"]
theorem sc_fewest : FnScope N_fewest ["recipe", "most"] (defScope s_fewest) := ⟨rfl, rfl, rfl, by decide +kernel, rfl, by decide +kernel, by decide +kernel⟩
theorem k_fewest (T : Hd K mg) {k : Nat} {G : List D → Rs → Prop} (len : ∀ ds r, G ds r → ds.length = 2)
    (hb : ∀ (c : Cc) (ds : List D) (r : Rs), Room k (Cc.cx P w K mg bs N_fewest "fewest" s_fewest c).A → G ds r → HasSs (Cc.cx P w K mg bs N_fewest "fewest" s_fewest c) (args ds (N_fewest.length - ds.length)) (defBody s_fewest) ⟨fun _ => r = .val .non, r.ok, fun _ => False, fun _ => False⟩) :
    Kn P w K mg bs CX0 (k + 1) "fewest" ["recipe", "most"] (spG K G) := kn_of (N := N_fewest) T.f_fewest T.g_fewest sc_fewest (by decide) (fun _ _ _ _ _ _ us hl => match us, hl with | [_, _], _ => rfl) len hb
abbrev N_l_great : List Str := ["_law_cell", "_law_k", "_law_total", "_law_seed", "_law_turn"]
theorem sc_l_great : FnScope N_l_great ["_law_cell", "_law_k"] (defScope s_l_great) := ⟨rfl, rfl, rfl, by decide +kernel, rfl, by decide +kernel, by decide +kernel⟩
theorem k_l_great (T : Hd K mg) {k : Nat} {G : List D → Rs → Prop} (len : ∀ ds r, G ds r → ds.length = 2)
    (hb : ∀ (c : Cc) (ds : List D) (r : Rs), Room k (Cc.cx P w K mg bs N_l_great "_law_great" s_l_great c).A → G ds r → HasSs (Cc.cx P w K mg bs N_l_great "_law_great" s_l_great c) (args ds (N_l_great.length - ds.length)) (defBody s_l_great) ⟨fun _ => r = .val .non, r.ok, fun _ => False, fun _ => False⟩) :
    Kn P w K mg bs CX0 (k + 1) "_law_great" ["_law_cell", "_law_k"] (spG K G) := kn_of (N := N_l_great) T.f_l_great T.g_l_great sc_l_great (by decide) (fun _ _ _ _ _ _ us hl => match us, hl with | [_, _], _ => rfl) len hb
abbrev N_l_draw : List Str := ["_law_script", "_law_k", "_law_seed", "_law_cell"]
theorem sc_l_draw : FnScope N_l_draw ["_law_script", "_law_k"] (defScope s_l_draw) := ⟨rfl, rfl, rfl, by decide +kernel, rfl, by decide +kernel, by decide +kernel⟩
theorem k_l_draw (T : Hd K mg) {k : Nat} {G : List D → Rs → Prop} (len : ∀ ds r, G ds r → ds.length = 2)
    (hb : ∀ (c : Cc) (ds : List D) (r : Rs), Room k (Cc.cx P w K mg bs N_l_draw "_law_draw" s_l_draw c).A → G ds r → HasSs (Cc.cx P w K mg bs N_l_draw "_law_draw" s_l_draw c) (args ds (N_l_draw.length - ds.length)) (defBody s_l_draw) ⟨fun _ => r = .val .non, r.ok, fun _ => False, fun _ => False⟩) :
    Kn P w K mg bs CX0 (k + 1) "_law_draw" ["_law_script", "_law_k"] (spG K G) := kn_of (N := N_l_draw) T.f_l_draw T.g_l_draw sc_l_draw (by decide) (fun _ _ _ _ _ _ us hl => match us, hl with | [_, _], _ => rfl) len hb
abbrev N_l_pairs : List Str := ["_law_rows_here", "_law_one", "_law_two"]
theorem sc_l_pairs : FnScope N_l_pairs [] (defScope s_l_pairs) := ⟨rfl, rfl, rfl, by decide +kernel, rfl, by decide +kernel, by decide +kernel⟩
theorem k_l_pairs (T : Hd K mg) {k : Nat} {G : List D → Rs → Prop} (len : ∀ ds r, G ds r → ds.length = 0)
    (hb : ∀ (c : Cc) (ds : List D) (r : Rs), Room k (Cc.cx P w K mg bs N_l_pairs "_law_pairs" s_l_pairs c).A → G ds r → HasSs (Cc.cx P w K mg bs N_l_pairs "_law_pairs" s_l_pairs c) (args ds (N_l_pairs.length - ds.length)) (defBody s_l_pairs) ⟨fun _ => r = .val .non, r.ok, fun _ => False, fun _ => False⟩) :
    Kn P w K mg bs CX0 (k + 1) "_law_pairs" [] (spG K G) := kn_of (N := N_l_pairs) T.f_l_pairs T.g_l_pairs sc_l_pairs (by decide) (fun _ _ _ _ _ _ us hl => match us, hl with | [], _ => rfl) len hb
abbrev N_l_usual : List Str := ["_law_which", "_law_chosen", "_law_pair", "_law_late"]
theorem sc_l_usual : FnScope N_l_usual ["_law_which"] (defScope s_l_usual) := ⟨rfl, rfl, rfl, by decide +kernel, rfl, by decide +kernel, by decide +kernel⟩
theorem k_l_usual (T : Hd K mg) {k : Nat} {G : List D → Rs → Prop} (len : ∀ ds r, G ds r → ds.length = 1)
    (hb : ∀ (c : Cc) (ds : List D) (r : Rs), Room k (Cc.cx P w K mg bs N_l_usual "_law_usual" s_l_usual c).A → G ds r → HasSs (Cc.cx P w K mg bs N_l_usual "_law_usual" s_l_usual c) (args ds (N_l_usual.length - ds.length)) (defBody s_l_usual) ⟨fun _ => r = .val .non, r.ok, fun _ => False, fun _ => False⟩) :
    Kn P w K mg bs CX0 (k + 1) "_law_usual" ["_law_which"] (spG K G) := kn_of (N := N_l_usual) T.f_l_usual T.g_l_usual sc_l_usual (by decide) (fun _ _ _ _ _ _ us hl => match us, hl with | [_], _ => rfl) len hb
abbrev N_l_set : List Str := ["_law_number", "_law_rows_here", "_law_way", "_law_spot", "_law_usual_here", "_law_chosen", "_law_pair", "_law_digit"]
theorem sc_l_set : FnScope N_l_set ["_law_number"] (defScope s_l_set) := ⟨rfl, rfl, rfl, by decide +kernel, rfl, by decide +kernel, by decide +kernel⟩
theorem k_l_set (T : Hd K mg) {k : Nat} {G : List D → Rs → Prop} (len : ∀ ds r, G ds r → ds.length = 1)
    (hb : ∀ (c : Cc) (ds : List D) (r : Rs), Room k (Cc.cx P w K mg bs N_l_set "_law_set" s_l_set c).A → G ds r → HasSs (Cc.cx P w K mg bs N_l_set "_law_set" s_l_set c) (args ds (N_l_set.length - ds.length)) (defBody s_l_set) ⟨fun _ => r = .val .non, r.ok, fun _ => False, fun _ => False⟩) :
    Kn P w K mg bs CX0 (k + 1) "_law_set" ["_law_number"] (spG K G) := kn_of (N := N_l_set) T.f_l_set T.g_l_set sc_l_set (by decide) (fun _ _ _ _ _ _ us hl => match us, hl with | [_], _ => rfl) len hb
abbrev N_l_name : List Str := ["_law_number", "_law_taken_here", "_law_barred", "_law_menu", "_law_word", "_law_many", "_law_k", "_law_sign"]
theorem sc_l_name : FnScope N_l_name ["_law_number", "_law_taken_here"] (defScope s_l_name) := ⟨rfl, rfl, rfl, by decide +kernel, rfl, by decide +kernel, by decide +kernel⟩
theorem k_l_name (T : Hd K mg) {k : Nat} {G : List D → Rs → Prop} (len : ∀ ds r, G ds r → ds.length = 2)
    (hb : ∀ (c : Cc) (ds : List D) (r : Rs), Room k (Cc.cx P w K mg bs N_l_name "_law_name" s_l_name c).A → G ds r → HasSs (Cc.cx P w K mg bs N_l_name "_law_name" s_l_name c) (args ds (N_l_name.length - ds.length)) (defBody s_l_name) ⟨fun _ => r = .val .non, r.ok, fun _ => False, fun _ => False⟩) :
    Kn P w K mg bs CX0 (k + 1) "_law_name" ["_law_number", "_law_taken_here"] (spG K G) := kn_of (N := N_l_name) T.f_l_name T.g_l_name sc_l_name (by decide) (fun _ _ _ _ _ _ us hl => match us, hl with | [_, _], _ => rfl) len hb
abbrev N_l_book : List Str := ["_law_kept", "_law_table_here", "_law_handed", "_law_name_here"]
theorem sc_l_book : FnScope N_l_book ["_law_kept", "_law_table_here"] (defScope s_l_book) := ⟨rfl, rfl, rfl, by decide +kernel, rfl, by decide +kernel, by decide +kernel⟩
theorem k_l_book (T : Hd K mg) {k : Nat} {G : List D → Rs → Prop} (len : ∀ ds r, G ds r → ds.length = 2)
    (hb : ∀ (c : Cc) (ds : List D) (r : Rs), Room k (Cc.cx P w K mg bs N_l_book "_law_book" s_l_book c).A → G ds r → HasSs (Cc.cx P w K mg bs N_l_book "_law_book" s_l_book c) (args ds (N_l_book.length - ds.length)) (defBody s_l_book) ⟨fun _ => r = .val .non, r.ok, fun _ => False, fun _ => False⟩) :
    Kn P w K mg bs CX0 (k + 1) "_law_book" ["_law_kept", "_law_table_here"] (spG K G) := kn_of (N := N_l_book) T.f_l_book T.g_l_book sc_l_book (by decide) (fun _ _ _ _ _ _ us hl => match us, hl with | [_, _], _ => rfl) len hb
abbrev N_l_table : List Str := ["_law_number", "_law_row", "_law_at", "_law_known_here", "_law_table_here", "_law_k", "_law_name_here", "_law_free", "_law_one"]
theorem sc_l_table : FnScope N_l_table ["_law_number", "_law_row", "_law_at", "_law_known_here"] (defScope s_l_table) := ⟨rfl, rfl, rfl, by decide +kernel, rfl, by decide +kernel, by decide +kernel⟩
theorem k_l_table (T : Hd K mg) {k : Nat} {G : List D → Rs → Prop} (len : ∀ ds r, G ds r → ds.length = 4)
    (hb : ∀ (c : Cc) (ds : List D) (r : Rs), Room k (Cc.cx P w K mg bs N_l_table "_law_table" s_l_table c).A → G ds r → HasSs (Cc.cx P w K mg bs N_l_table "_law_table" s_l_table c) (args ds (N_l_table.length - ds.length)) (defBody s_l_table) ⟨fun _ => r = .val .non, r.ok, fun _ => False, fun _ => False⟩) :
    Kn P w K mg bs CX0 (k + 1) "_law_table" ["_law_number", "_law_row", "_law_at", "_law_known_here"] (spG K G) := kn_of (N := N_l_table) T.f_l_table T.g_l_table sc_l_table (by decide) (fun _ _ _ _ _ _ us hl => match us, hl with | [_, _, _, _], _ => rfl) len hb
abbrev N_l_goal : List Str := ["_law_kept", "_law_number", "_law_rows_here", "_law_gone", "_law_pair"]
theorem sc_l_goal : FnScope N_l_goal ["_law_kept", "_law_number"] (defScope s_l_goal) := ⟨rfl, rfl, rfl, by decide +kernel, rfl, by decide +kernel, by decide +kernel⟩
theorem k_l_goal (T : Hd K mg) {k : Nat} {G : List D → Rs → Prop} (len : ∀ ds r, G ds r → ds.length = 2)
    (hb : ∀ (c : Cc) (ds : List D) (r : Rs), Room k (Cc.cx P w K mg bs N_l_goal "_law_goal" s_l_goal c).A → G ds r → HasSs (Cc.cx P w K mg bs N_l_goal "_law_goal" s_l_goal c) (args ds (N_l_goal.length - ds.length)) (defBody s_l_goal) ⟨fun _ => r = .val .non, r.ok, fun _ => False, fun _ => False⟩) :
    Kn P w K mg bs CX0 (k + 1) "_law_goal" ["_law_kept", "_law_number"] (spG K G) := kn_of (N := N_l_goal) T.f_l_goal T.g_l_goal sc_l_goal (by decide) (fun _ _ _ _ _ _ us hl => match us, hl with | [_, _], _ => rfl) len hb
abbrev N_l_names : List Str := ["_law_table_here"]
theorem sc_l_names : FnScope N_l_names ["_law_table_here"] (defScope s_l_names) := ⟨rfl, rfl, rfl, by decide +kernel, rfl, by decide +kernel, by decide +kernel⟩
theorem k_l_names (T : Hd K mg) {k : Nat} {G : List D → Rs → Prop} (len : ∀ ds r, G ds r → ds.length = 1)
    (hb : ∀ (c : Cc) (ds : List D) (r : Rs), Room k (Cc.cx P w K mg bs N_l_names "_law_names" s_l_names c).A → G ds r → HasSs (Cc.cx P w K mg bs N_l_names "_law_names" s_l_names c) (args ds (N_l_names.length - ds.length)) (defBody s_l_names) ⟨fun _ => r = .val .non, r.ok, fun _ => False, fun _ => False⟩) :
    Kn P w K mg bs CX0 (k + 1) "_law_names" ["_law_table_here"] (spG K G) := kn_of (N := N_l_names) T.f_l_names T.g_l_names sc_l_names (by decide) (fun _ _ _ _ _ _ us hl => match us, hl with | [_], _ => rfl) len hb
abbrev N_l_plain : List Str := ["_law_names_here", "_law_bars", "_law_rows_here", "_law_name_here"]
theorem sc_l_plain : FnScope N_l_plain ["_law_names_here", "_law_bars"] (defScope s_l_plain) := ⟨rfl, rfl, rfl, by decide +kernel, rfl, by decide +kernel, by decide +kernel⟩
theorem k_l_plain (T : Hd K mg) {k : Nat} {G : List D → Rs → Prop} (len : ∀ ds r, G ds r → ds.length = 2)
    (hb : ∀ (c : Cc) (ds : List D) (r : Rs), Room k (Cc.cx P w K mg bs N_l_plain "_law_plain" s_l_plain c).A → G ds r → HasSs (Cc.cx P w K mg bs N_l_plain "_law_plain" s_l_plain c) (args ds (N_l_plain.length - ds.length)) (defBody s_l_plain) ⟨fun _ => r = .val .non, r.ok, fun _ => False, fun _ => False⟩) :
    Kn P w K mg bs CX0 (k + 1) "_law_plain" ["_law_names_here", "_law_bars"] (spG K G) := kn_of (N := N_l_plain) T.f_l_plain T.g_l_plain sc_l_plain (by decide) (fun _ _ _ _ _ _ us hl => match us, hl with | [_, _], _ => rfl) len hb
abbrev N_l_some : List Str := ["_law_number", "_law_bars", "_law_most", "_law_chosen", "_law_many", "_law_k"]
theorem sc_l_some : FnScope N_l_some ["_law_number", "_law_bars", "_law_most"] (defScope s_l_some) := ⟨rfl, rfl, rfl, by decide +kernel, rfl, by decide +kernel, by decide +kernel⟩
theorem k_l_some (T : Hd K mg) {k : Nat} {G : List D → Rs → Prop} (len : ∀ ds r, G ds r → ds.length = 3)
    (hb : ∀ (c : Cc) (ds : List D) (r : Rs), Room k (Cc.cx P w K mg bs N_l_some "_law_some" s_l_some c).A → G ds r → HasSs (Cc.cx P w K mg bs N_l_some "_law_some" s_l_some c) (args ds (N_l_some.length - ds.length)) (defBody s_l_some) ⟨fun _ => r = .val .non, r.ok, fun _ => False, fun _ => False⟩) :
    Kn P w K mg bs CX0 (k + 1) "_law_some" ["_law_number", "_law_bars", "_law_most"] (spG K G) := kn_of (N := N_l_some) T.f_l_some T.g_l_some sc_l_some (by decide) (fun _ _ _ _ _ _ us hl => match us, hl with | [_, _, _], _ => rfl) len hb
abbrev N_l_loose : List Str := ["_law_name_here", "_law_number", "_law_bars", "_law_others", "_law_kind"]
theorem sc_l_loose : FnScope N_l_loose ["_law_name_here", "_law_number", "_law_bars"] (defScope s_l_loose) := ⟨rfl, rfl, rfl, by decide +kernel, rfl, by decide +kernel, by decide +kernel⟩
theorem k_l_loose (T : Hd K mg) {k : Nat} {G : List D → Rs → Prop} (len : ∀ ds r, G ds r → ds.length = 3)
    (hb : ∀ (c : Cc) (ds : List D) (r : Rs), Room k (Cc.cx P w K mg bs N_l_loose "_law_loose" s_l_loose c).A → G ds r → HasSs (Cc.cx P w K mg bs N_l_loose "_law_loose" s_l_loose c) (args ds (N_l_loose.length - ds.length)) (defBody s_l_loose) ⟨fun _ => r = .val .non, r.ok, fun _ => False, fun _ => False⟩) :
    Kn P w K mg bs CX0 (k + 1) "_law_loose" ["_law_name_here", "_law_number", "_law_bars"] (spG K G) := kn_of (N := N_l_loose) T.f_l_loose T.g_l_loose sc_l_loose (by decide) (fun _ _ _ _ _ _ us hl => match us, hl with | [_, _, _], _ => rfl) len hb
abbrev N_l_normal : List Str := ["_law_row"]
theorem sc_l_normal : FnScope N_l_normal ["_law_row"] (defScope s_l_normal) := ⟨rfl, rfl, rfl, by decide +kernel, rfl, by decide +kernel, by decide +kernel⟩
theorem k_l_normal (T : Hd K mg) {k : Nat} {G : List D → Rs → Prop} (len : ∀ ds r, G ds r → ds.length = 1)
    (hb : ∀ (c : Cc) (ds : List D) (r : Rs), Room k (Cc.cx P w K mg bs N_l_normal "_law_normal" s_l_normal c).A → G ds r → HasSs (Cc.cx P w K mg bs N_l_normal "_law_normal" s_l_normal c) (args ds (N_l_normal.length - ds.length)) (defBody s_l_normal) ⟨fun _ => r = .val .non, r.ok, fun _ => False, fun _ => False⟩) :
    Kn P w K mg bs CX0 (k + 1) "_law_normal" ["_law_row"] (spG K G) := kn_of (N := N_l_normal) T.f_l_normal T.g_l_normal sc_l_normal (by decide) (fun _ _ _ _ _ _ us hl => match us, hl with | [_], _ => rfl) len hb
abbrev N_l_rows : List Str := ["_law_row", "_law_at", "_law_names_here", "_law_bars", "_law_gates", "_law_rows_here", "_law_k"]
theorem sc_l_rows : FnScope N_l_rows ["_law_row", "_law_at", "_law_names_here", "_law_bars", "_law_gates"] (defScope s_l_rows) := ⟨rfl, rfl, rfl, by decide +kernel, rfl, by decide +kernel, by decide +kernel⟩
theorem k_l_rows (T : Hd K mg) {k : Nat} {G : List D → Rs → Prop} (len : ∀ ds r, G ds r → ds.length = 5)
    (hb : ∀ (c : Cc) (ds : List D) (r : Rs), Room k (Cc.cx P w K mg bs N_l_rows "_law_rows" s_l_rows c).A → G ds r → HasSs (Cc.cx P w K mg bs N_l_rows "_law_rows" s_l_rows c) (args ds (N_l_rows.length - ds.length)) (defBody s_l_rows) ⟨fun _ => r = .val .non, r.ok, fun _ => False, fun _ => False⟩) :
    Kn P w K mg bs CX0 (k + 1) "_law_rows" ["_law_row", "_law_at", "_law_names_here", "_law_bars", "_law_gates"] (spG K G) := kn_of (N := N_l_rows) T.f_l_rows T.g_l_rows sc_l_rows (by decide) (fun _ _ _ _ _ _ us hl => match us, hl with | [_, _, _, _, _], _ => rfl) len hb
abbrev N_l_kept_by : List Str := ["_law_kept", "_law_table_here", "_law_pair", "_law_passed", "_law_name_here"]
theorem sc_l_kept_by : FnScope N_l_kept_by ["_law_kept", "_law_table_here", "_law_pair", "_law_passed"] (defScope s_l_kept_by) := ⟨rfl, rfl, rfl, by decide +kernel, rfl, by decide +kernel, by decide +kernel⟩
theorem k_l_kept_by (T : Hd K mg) {k : Nat} {G : List D → Rs → Prop} (len : ∀ ds r, G ds r → ds.length = 4)
    (hb : ∀ (c : Cc) (ds : List D) (r : Rs), Room k (Cc.cx P w K mg bs N_l_kept_by "_law_kept_by" s_l_kept_by c).A → G ds r → HasSs (Cc.cx P w K mg bs N_l_kept_by "_law_kept_by" s_l_kept_by c) (args ds (N_l_kept_by.length - ds.length)) (defBody s_l_kept_by) ⟨fun _ => r = .val .non, r.ok, fun _ => False, fun _ => False⟩) :
    Kn P w K mg bs CX0 (k + 1) "_law_kept_by" ["_law_kept", "_law_table_here", "_law_pair", "_law_passed"] (spG K G) := kn_of (N := N_l_kept_by) T.f_l_kept_by T.g_l_kept_by sc_l_kept_by (by decide) (fun _ _ _ _ _ _ us hl => match us, hl with | [_, _, _, _], _ => rfl) len hb
abbrev N_l_wanted : List Str := ["_law_kept", "_law_marks", "_law_first", "_law_fence", "_law_second"]
theorem sc_l_wanted : FnScope N_l_wanted ["_law_kept", "_law_marks", "_law_first", "_law_fence", "_law_second"] (defScope s_l_wanted) := ⟨rfl, rfl, rfl, by decide +kernel, rfl, by decide +kernel, by decide +kernel⟩
theorem k_l_wanted (T : Hd K mg) {k : Nat} {G : List D → Rs → Prop} (len : ∀ ds r, G ds r → ds.length = 5)
    (hb : ∀ (c : Cc) (ds : List D) (r : Rs), Room k (Cc.cx P w K mg bs N_l_wanted "_law_wanted" s_l_wanted c).A → G ds r → HasSs (Cc.cx P w K mg bs N_l_wanted "_law_wanted" s_l_wanted c) (args ds (N_l_wanted.length - ds.length)) (defBody s_l_wanted) ⟨fun _ => r = .val .non, r.ok, fun _ => False, fun _ => False⟩) :
    Kn P w K mg bs CX0 (k + 1) "_law_wanted" ["_law_kept", "_law_marks", "_law_first", "_law_fence", "_law_second"] (spG K G) := kn_of (N := N_l_wanted) T.f_l_wanted T.g_l_wanted sc_l_wanted (by decide) (fun _ _ _ _ _ _ us hl => match us, hl with | [_, _, _, _, _], _ => rfl) len hb
abbrev N_l_ahead : List Str := ["_law_rows_here", "_law_second"]
theorem sc_l_ahead : FnScope N_l_ahead ["_law_rows_here", "_law_second"] (defScope s_l_ahead) := ⟨rfl, rfl, rfl, by decide +kernel, rfl, by decide +kernel, by decide +kernel⟩
theorem k_l_ahead (T : Hd K mg) {k : Nat} {G : List D → Rs → Prop} (len : ∀ ds r, G ds r → ds.length = 2)
    (hb : ∀ (c : Cc) (ds : List D) (r : Rs), Room k (Cc.cx P w K mg bs N_l_ahead "_law_ahead" s_l_ahead c).A → G ds r → HasSs (Cc.cx P w K mg bs N_l_ahead "_law_ahead" s_l_ahead c) (args ds (N_l_ahead.length - ds.length)) (defBody s_l_ahead) ⟨fun _ => r = .val .non, r.ok, fun _ => False, fun _ => False⟩) :
    Kn P w K mg bs CX0 (k + 1) "_law_ahead" ["_law_rows_here", "_law_second"] (spG K G) := kn_of (N := N_l_ahead) T.f_l_ahead T.g_l_ahead sc_l_ahead (by decide) (fun _ _ _ _ _ _ us hl => match us, hl with | [_, _], _ => rfl) len hb
abbrev N_l_becomes : List Str := ["_law_rows_here", "_law_first", "_law_second"]
theorem sc_l_becomes : FnScope N_l_becomes ["_law_rows_here", "_law_first", "_law_second"] (defScope s_l_becomes) := ⟨rfl, rfl, rfl, by decide +kernel, rfl, by decide +kernel, by decide +kernel⟩
theorem k_l_becomes (T : Hd K mg) {k : Nat} {G : List D → Rs → Prop} (len : ∀ ds r, G ds r → ds.length = 3)
    (hb : ∀ (c : Cc) (ds : List D) (r : Rs), Room k (Cc.cx P w K mg bs N_l_becomes "_law_becomes" s_l_becomes c).A → G ds r → HasSs (Cc.cx P w K mg bs N_l_becomes "_law_becomes" s_l_becomes c) (args ds (N_l_becomes.length - ds.length)) (defBody s_l_becomes) ⟨fun _ => r = .val .non, r.ok, fun _ => False, fun _ => False⟩) :
    Kn P w K mg bs CX0 (k + 1) "_law_becomes" ["_law_rows_here", "_law_first", "_law_second"] (spG K G) := kn_of (N := N_l_becomes) T.f_l_becomes T.g_l_becomes sc_l_becomes (by decide) (fun _ _ _ _ _ _ us hl => match us, hl with | [_, _, _], _ => rfl) len hb
abbrev N_l_lost : List Str := ["_law_kept", "_law_marks", "_law_goal_here", "_law_bars", "_law_rows_here", "_law_found", "_law_first", "_law_fence", "_law_middle", "_law_one", "_law_second", "_law_passed"]
theorem sc_l_lost : FnScope N_l_lost ["_law_kept", "_law_marks", "_law_goal_here", "_law_bars", "_law_rows_here"] (defScope s_l_lost) := ⟨rfl, rfl, rfl, by decide +kernel, rfl, by decide +kernel, by decide +kernel⟩
theorem k_l_lost (T : Hd K mg) {k : Nat} {G : List D → Rs → Prop} (len : ∀ ds r, G ds r → ds.length = 5)
    (hb : ∀ (c : Cc) (ds : List D) (r : Rs), Room k (Cc.cx P w K mg bs N_l_lost "_law_lost" s_l_lost c).A → G ds r → HasSs (Cc.cx P w K mg bs N_l_lost "_law_lost" s_l_lost c) (args ds (N_l_lost.length - ds.length)) (defBody s_l_lost) ⟨fun _ => r = .val .non, r.ok, fun _ => False, fun _ => False⟩) :
    Kn P w K mg bs CX0 (k + 1) "_law_lost" ["_law_kept", "_law_marks", "_law_goal_here", "_law_bars", "_law_rows_here"] (spG K G) := kn_of (N := N_l_lost) T.f_l_lost T.g_l_lost sc_l_lost (by decide) (fun _ _ _ _ _ _ us hl => match us, hl with | [_, _, _, _, _], _ => rfl) len hb
abbrev N_l_spots : List Str := ["_law_pair", "_law_first", "_law_fence", "_law_second", "_law_spots_here"]
theorem sc_l_spots : FnScope N_l_spots ["_law_pair"] (defScope s_l_spots) := ⟨rfl, rfl, rfl, by decide +kernel, rfl, by decide +kernel, by decide +kernel⟩
theorem k_l_spots (T : Hd K mg) {k : Nat} {G : List D → Rs → Prop} (len : ∀ ds r, G ds r → ds.length = 1)
    (hb : ∀ (c : Cc) (ds : List D) (r : Rs), Room k (Cc.cx P w K mg bs N_l_spots "_law_spots" s_l_spots c).A → G ds r → HasSs (Cc.cx P w K mg bs N_l_spots "_law_spots" s_l_spots c) (args ds (N_l_spots.length - ds.length)) (defBody s_l_spots) ⟨fun _ => r = .val .non, r.ok, fun _ => False, fun _ => False⟩) :
    Kn P w K mg bs CX0 (k + 1) "_law_spots" ["_law_pair"] (spG K G) := kn_of (N := N_l_spots) T.f_l_spots T.g_l_spots sc_l_spots (by decide) (fun _ _ _ _ _ _ us hl => match us, hl with | [_], _ => rfl) len hb
abbrev N_l_able : List Str := ["_law_rows_here", "_law_bars", "_law_pair", "_law_kinds", "_law_name_here"]
theorem sc_l_able : FnScope N_l_able ["_law_rows_here", "_law_bars", "_law_pair"] (defScope s_l_able) := ⟨rfl, rfl, rfl, by decide +kernel, rfl, by decide +kernel, by decide +kernel⟩
theorem k_l_able (T : Hd K mg) {k : Nat} {G : List D → Rs → Prop} (len : ∀ ds r, G ds r → ds.length = 3)
    (hb : ∀ (c : Cc) (ds : List D) (r : Rs), Room k (Cc.cx P w K mg bs N_l_able "_law_able" s_l_able c).A → G ds r → HasSs (Cc.cx P w K mg bs N_l_able "_law_able" s_l_able c) (args ds (N_l_able.length - ds.length)) (defBody s_l_able) ⟨fun _ => r = .val .non, r.ok, fun _ => False, fun _ => False⟩) :
    Kn P w K mg bs CX0 (k + 1) "_law_able" ["_law_rows_here", "_law_bars", "_law_pair"] (spG K G) := kn_of (N := N_l_able) T.f_l_able T.g_l_able sc_l_able (by decide) (fun _ _ _ _ _ _ us hl => match us, hl with | [_, _, _], _ => rfl) len hb
abbrev N_l_put : List Str := ["_law_rows_here", "_law_item", "_law_name_here", "_law_side", "_law_fence", "_law_made", "_law_one"]
theorem sc_l_put : FnScope N_l_put ["_law_rows_here", "_law_item"] (defScope s_l_put) := ⟨rfl, rfl, rfl, by decide +kernel, rfl, by decide +kernel, by decide +kernel⟩
theorem k_l_put (T : Hd K mg) {k : Nat} {G : List D → Rs → Prop} (len : ∀ ds r, G ds r → ds.length = 2)
    (hb : ∀ (c : Cc) (ds : List D) (r : Rs), Room k (Cc.cx P w K mg bs N_l_put "_law_put" s_l_put c).A → G ds r → HasSs (Cc.cx P w K mg bs N_l_put "_law_put" s_l_put c) (args ds (N_l_put.length - ds.length)) (defBody s_l_put) ⟨fun _ => r = .val .non, r.ok, fun _ => False, fun _ => False⟩) :
    Kn P w K mg bs CX0 (k + 1) "_law_put" ["_law_rows_here", "_law_item"] (spG K G) := kn_of (N := N_l_put) T.f_l_put T.g_l_put sc_l_put (by decide) (fun _ _ _ _ _ _ us hl => match us, hl with | [_, _], _ => rfl) len hb
abbrev N_l_part : List Str := ["_law_rows_here", "_law_name_here", "_law_side"]
theorem sc_l_part : FnScope N_l_part ["_law_rows_here", "_law_name_here", "_law_side"] (defScope s_l_part) := ⟨rfl, rfl, rfl, by decide +kernel, rfl, by decide +kernel, by decide +kernel⟩
theorem k_l_part (T : Hd K mg) {k : Nat} {G : List D → Rs → Prop} (len : ∀ ds r, G ds r → ds.length = 3)
    (hb : ∀ (c : Cc) (ds : List D) (r : Rs), Room k (Cc.cx P w K mg bs N_l_part "_law_part" s_l_part c).A → G ds r → HasSs (Cc.cx P w K mg bs N_l_part "_law_part" s_l_part c) (args ds (N_l_part.length - ds.length)) (defBody s_l_part) ⟨fun _ => r = .val .non, r.ok, fun _ => False, fun _ => False⟩) :
    Kn P w K mg bs CX0 (k + 1) "_law_part" ["_law_rows_here", "_law_name_here", "_law_side"] (spG K G) := kn_of (N := N_l_part) T.f_l_part T.g_l_part sc_l_part (by decide) (fun _ _ _ _ _ _ us hl => match us, hl with | [_, _, _], _ => rfl) len hb
abbrev N_l_taken : List Str := ["_law_rows_here", "_law_item", "_law_name_here", "_law_side", "_law_fence", "_law_made", "_law_one", "_law_left"]
theorem sc_l_taken : FnScope N_l_taken ["_law_rows_here", "_law_item"] (defScope s_l_taken) := ⟨rfl, rfl, rfl, by decide +kernel, rfl, by decide +kernel, by decide +kernel⟩
theorem k_l_taken (T : Hd K mg) {k : Nat} {G : List D → Rs → Prop} (len : ∀ ds r, G ds r → ds.length = 2)
    (hb : ∀ (c : Cc) (ds : List D) (r : Rs), Room k (Cc.cx P w K mg bs N_l_taken "_law_taken" s_l_taken c).A → G ds r → HasSs (Cc.cx P w K mg bs N_l_taken "_law_taken" s_l_taken c) (args ds (N_l_taken.length - ds.length)) (defBody s_l_taken) ⟨fun _ => r = .val .non, r.ok, fun _ => False, fun _ => False⟩) :
    Kn P w K mg bs CX0 (k + 1) "_law_taken" ["_law_rows_here", "_law_item"] (spG K G) := kn_of (N := N_l_taken) T.f_l_taken T.g_l_taken sc_l_taken (by decide) (fun _ _ _ _ _ _ us hl => match us, hl with | [_, _], _ => rfl) len hb
abbrev N_l_known : List Str := ["_law_names_here", "_law_gates", "_law_found", "_law_name_here", "_law_sides", "_law_side", "_law_fence"]
theorem sc_l_known : FnScope N_l_known ["_law_names_here", "_law_gates"] (defScope s_l_known) := ⟨rfl, rfl, rfl, by decide +kernel, rfl, by decide +kernel, by decide +kernel⟩
theorem k_l_known (T : Hd K mg) {k : Nat} {G : List D → Rs → Prop} (len : ∀ ds r, G ds r → ds.length = 2)
    (hb : ∀ (c : Cc) (ds : List D) (r : Rs), Room k (Cc.cx P w K mg bs N_l_known "_law_known" s_l_known c).A → G ds r → HasSs (Cc.cx P w K mg bs N_l_known "_law_known" s_l_known c) (args ds (N_l_known.length - ds.length)) (defBody s_l_known) ⟨fun _ => r = .val .non, r.ok, fun _ => False, fun _ => False⟩) :
    Kn P w K mg bs CX0 (k + 1) "_law_known" ["_law_names_here", "_law_gates"] (spG K G) := kn_of (N := N_l_known) T.f_l_known T.g_l_known sc_l_known (by decide) (fun _ _ _ _ _ _ us hl => match us, hl with | [_, _], _ => rfl) len hb
abbrev N_l_near : List Str := ["_law_kept", "_law_marks", "_law_goal_here", "_law_bars", "_law_rows_here", "_law_number", "_law_pair", "_law_spots_here", "_law_able_here", "_law_name_here", "_law_side", "_law_gates", "_law_k", "_law_standing", "_law_item"]
theorem sc_l_near : FnScope N_l_near ["_law_kept", "_law_marks", "_law_goal_here", "_law_bars", "_law_rows_here", "_law_number"] (defScope s_l_near) := ⟨rfl, rfl, rfl, by decide +kernel, rfl, by decide +kernel, by decide +kernel⟩
theorem k_l_near (T : Hd K mg) {k : Nat} {G : List D → Rs → Prop} (len : ∀ ds r, G ds r → ds.length = 6)
    (hb : ∀ (c : Cc) (ds : List D) (r : Rs), Room k (Cc.cx P w K mg bs N_l_near "_law_near" s_l_near c).A → G ds r → HasSs (Cc.cx P w K mg bs N_l_near "_law_near" s_l_near c) (args ds (N_l_near.length - ds.length)) (defBody s_l_near) ⟨fun _ => r = .val .non, r.ok, fun _ => False, fun _ => False⟩) :
    Kn P w K mg bs CX0 (k + 1) "_law_near" ["_law_kept", "_law_marks", "_law_goal_here", "_law_bars", "_law_rows_here", "_law_number"] (spG K G) := kn_of (N := N_l_near) T.f_l_near T.g_l_near sc_l_near (by decide) (fun _ _ _ _ _ _ us hl => match us, hl with | [_, _, _, _, _, _], _ => rfl) len hb
abbrev N_l_masks : List Str := ["_law_new", "_law_found", "_law_rows_here", "_law_bars", "_law_masks_here", "_law_item", "_law_power", "_law_pair", "_law_able_here", "_law_name_here", "_law_side", "_law_fence"]
theorem sc_l_masks : FnScope N_l_masks ["_law_new", "_law_found", "_law_rows_here", "_law_bars"] (defScope s_l_masks) := ⟨rfl, rfl, rfl, by decide +kernel, rfl, by decide +kernel, by decide +kernel⟩
theorem k_l_masks (T : Hd K mg) {k : Nat} {G : List D → Rs → Prop} (len : ∀ ds r, G ds r → ds.length = 4)
    (hb : ∀ (c : Cc) (ds : List D) (r : Rs), Room k (Cc.cx P w K mg bs N_l_masks "_law_masks" s_l_masks c).A → G ds r → HasSs (Cc.cx P w K mg bs N_l_masks "_law_masks" s_l_masks c) (args ds (N_l_masks.length - ds.length)) (defBody s_l_masks) ⟨fun _ => r = .val .non, r.ok, fun _ => False, fun _ => False⟩) :
    Kn P w K mg bs CX0 (k + 1) "_law_masks" ["_law_new", "_law_found", "_law_rows_here", "_law_bars"] (spG K G) := kn_of (N := N_l_masks) T.f_l_masks T.g_l_masks sc_l_masks (by decide) (fun _ _ _ _ _ _ us hl => match us, hl with | [_, _, _, _], _ => rfl) len hb
abbrev N_l_due : List Str := ["_law_new", "_law_masks_here", "_law_total", "_law_most", "_law_ones", "_law_twos", "_law_k", "_law_other", "_law_item"]
theorem sc_l_due : FnScope N_l_due ["_law_new", "_law_masks_here", "_law_total", "_law_most"] (defScope s_l_due) := ⟨rfl, rfl, rfl, by decide +kernel, rfl, by decide +kernel, by decide +kernel⟩
theorem k_l_due (T : Hd K mg) {k : Nat} {G : List D → Rs → Prop} (len : ∀ ds r, G ds r → ds.length = 4)
    (hb : ∀ (c : Cc) (ds : List D) (r : Rs), Room k (Cc.cx P w K mg bs N_l_due "_law_due" s_l_due c).A → G ds r → HasSs (Cc.cx P w K mg bs N_l_due "_law_due" s_l_due c) (args ds (N_l_due.length - ds.length)) (defBody s_l_due) ⟨fun _ => r = .val .non, r.ok, fun _ => False, fun _ => False⟩) :
    Kn P w K mg bs CX0 (k + 1) "_law_due" ["_law_new", "_law_masks_here", "_law_total", "_law_most"] (spG K G) := kn_of (N := N_l_due) T.f_l_due T.g_l_due sc_l_due (by decide) (fun _ _ _ _ _ _ us hl => match us, hl with | [_, _, _, _], _ => rfl) len hb
abbrev N_l_told : List Str := ["_law_made", "_law_books", "_law_rows_here", "_law_sizes", "_law_kept", "_law_marks", "_law_goal_here", "_law_bars", "_law_found", "_law_known_here", "_law_new", "_law_masks_here", "_law_total", "_law_most", "_law_told_here", "_law_item"]
theorem sc_l_told : FnScope N_l_told ["_law_made", "_law_books", "_law_rows_here", "_law_sizes"] (defScope s_l_told) := ⟨rfl, rfl, rfl, by decide +kernel, rfl, by decide +kernel, by decide +kernel⟩
theorem k_l_told (T : Hd K mg) {k : Nat} {G : List D → Rs → Prop} (len : ∀ ds r, G ds r → ds.length = 4)
    (hb : ∀ (c : Cc) (ds : List D) (r : Rs), Room k (Cc.cx P w K mg bs N_l_told "_law_told" s_l_told c).A → G ds r → HasSs (Cc.cx P w K mg bs N_l_told "_law_told" s_l_told c) (args ds (N_l_told.length - ds.length)) (defBody s_l_told) ⟨fun _ => r = .val .non, r.ok, fun _ => False, fun _ => False⟩) :
    Kn P w K mg bs CX0 (k + 1) "_law_told" ["_law_made", "_law_books", "_law_rows_here", "_law_sizes"] (spG K G) := kn_of (N := N_l_told) T.f_l_told T.g_l_told sc_l_told (by decide) (fun _ _ _ _ _ _ us hl => match us, hl with | [_, _, _, _], _ => rfl) len hb
abbrev N_l_walked : List Str := ["_law_made", "_law_told_here", "_law_chosen", "_law_item", "_law_one"]
theorem sc_l_walked : FnScope N_l_walked ["_law_made", "_law_told_here"] (defScope s_l_walked) := ⟨rfl, rfl, rfl, by decide +kernel, rfl, by decide +kernel, by decide +kernel⟩
theorem k_l_walked (T : Hd K mg) {k : Nat} {G : List D → Rs → Prop} (len : ∀ ds r, G ds r → ds.length = 2)
    (hb : ∀ (c : Cc) (ds : List D) (r : Rs), Room k (Cc.cx P w K mg bs N_l_walked "_law_walked" s_l_walked c).A → G ds r → HasSs (Cc.cx P w K mg bs N_l_walked "_law_walked" s_l_walked c) (args ds (N_l_walked.length - ds.length)) (defBody s_l_walked) ⟨fun _ => r = .val .non, r.ok, fun _ => False, fun _ => False⟩) :
    Kn P w K mg bs CX0 (k + 1) "_law_walked" ["_law_made", "_law_told_here"] (spG K G) := kn_of (N := N_l_walked) T.f_l_walked T.g_l_walked sc_l_walked (by decide) (fun _ _ _ _ _ _ us hl => match us, hl with | [_, _], _ => rfl) len hb
abbrev N_l_refusal : List Str := ["_law_made", "_law_most", "e"]
theorem sc_l_refusal : FnScope N_l_refusal ["_law_made", "_law_most"] (defScope s_l_refusal) := ⟨rfl, rfl, rfl, by decide +kernel, rfl, by decide +kernel, by decide +kernel⟩
theorem k_l_refusal (T : Hd K mg) {k : Nat} {G : List D → Rs → Prop} (len : ∀ ds r, G ds r → ds.length = 2)
    (hb : ∀ (c : Cc) (ds : List D) (r : Rs), Room k (Cc.cx P w K mg bs N_l_refusal "_law_refusal" s_l_refusal c).A → G ds r → HasSs (Cc.cx P w K mg bs N_l_refusal "_law_refusal" s_l_refusal c) (args ds (N_l_refusal.length - ds.length)) (defBody s_l_refusal) ⟨fun _ => r = .val .non, r.ok, fun _ => False, fun _ => False⟩) :
    Kn P w K mg bs CX0 (k + 1) "_law_refusal" ["_law_made", "_law_most"] (spG K G) := kn_of (N := N_l_refusal) T.f_l_refusal T.g_l_refusal sc_l_refusal (by decide) (fun _ _ _ _ _ _ us hl => match us, hl with | [_, _], _ => rfl) len hb
abbrev N_law : List Str := ["_law_script", "_law_row", "_law_kept", "_law_marks", "_law_goal_here", "_law_bars", "_law_gates", "_law_names_here", "_law_rows_here", "_law_made", "_law_name_here", "_law_found", "_law_most", "_law_k"]
theorem sc_law : FnScope N_law ["_law_script"] (defScope s_law) := ⟨rfl, rfl, rfl, by decide +kernel, rfl, by decide +kernel, by decide +kernel⟩
theorem k_law (T : Hd K mg) {k : Nat} {G : List D → Rs → Prop} (len : ∀ ds r, G ds r → ds.length = 1)
    (hb : ∀ (c : Cc) (ds : List D) (r : Rs), Room k (Cc.cx P w K mg bs N_law "law" s_law c).A → G ds r → HasSs (Cc.cx P w K mg bs N_law "law" s_law c) (args ds (N_law.length - ds.length)) (defBody s_law) ⟨fun _ => r = .val .non, r.ok, fun _ => False, fun _ => False⟩) :
    Kn P w K mg bs CX0 (k + 1) "law" ["_law_script"] (spG K G) := kn_of (N := N_law) T.f_law T.g_law sc_law (by decide) (fun _ _ _ _ _ _ us hl => match us, hl with | [_], _ => rfl) len hb
end
end K39
/-! KL2 -/
set_option maxHeartbeats 4000000
namespace K39
open PySem PySem.Spec PyProof.Rows L2
theorem ru65 {k : Nat} {A : Around} (r : Room k A) : A.units + 65 < cLine := by have := r.un; omega
theorem ru64 {k : Nat} {A : Around} (r : Room k A) : A.units + 64 < cLine := by have := r.un; omega
theorem ru1 {k : Nat} {A : Around} (r : Room k A) : A.units + 1 < cLine := by have := r.un; omega
section
variable {P : Program} {w : World} {K : PySem.W.Frag} {mg : Str → Option Value} {bs : Heap}
theorem h_callH {X : Cx} {E : En} {e : Expr} {es : List Expr} {ds : List D} {d : D} {x : Str} {p pos : Pos} {T : String} (hd : HasR X E (.Call (.Name x p) (e :: es) [] pos) (.val d)) : HasD X E (.Call (.Name x p) (e :: es) [] pos) d := hd
def G_draw : List D → Rs → Prop := fun ds r => ∃ (sc : List Int) (k : Nat), ds = [.scr sc, .int k] ∧ r = .val (.int (drawM sc k))
theorem kn_draw (T : Hd K mg) : Kn P w K mg bs CX0 2 "_law_draw" ["_law_script", "_law_k"] (spG K G_draw) := by
  refine k_l_draw T ?_ ?_
  · rintro ds r ⟨c, k, rfl, _⟩; rfl
  · rintro c ds r hr ⟨sc, k, rfl, rfl⟩
    refine q_when (k := decide ((sc.length : Int) = 0)) (t_cmp c_eqI (h_callB f_lenScr T.n_len PySem.boot_len (a1 (h_var 0))) h_int) (fun h => s_one (h_ret h_int ?_)) fun h => ?_
    · rintro _ rfl
      have h1 : sc.length = 0 := by simpa using h
      show Sl.val _ = _
      unfold drawM
      rw [if_pos h1]
    · have h1 : sc.length ≠ 0 := by simpa using h
      refine q_when (t_cmp c_lt (h_var 1) (h_callB f_lenScr T.n_len PySem.boot_len (a1 (h_var 0)))) (fun h => ?_) fun h => ?_
      · have h2 : k < sc.length := by simpa using h
        refine s_one (h_ret (h_call (kn_great T) (hr.mono (by decide)) (a2 (h_ix (i_scr (List.getElem?_eq_getElem h2)) (h_var 0) (h_var 1)) (h_var 1)) ⟨_, _, rfl, rfl⟩) ?_)
        rintro _ rfl
        show Sl.val _ = _
        unfold drawM
        rw [if_neg h1, dif_pos h2]
      · have h2 : ¬ k < sc.length := by simpa using h
        refine q_asg 2 sc_l_draw.nd (h_op o_add h_int (h_callB f_lenScr T.n_len PySem.boot_len (a1 (h_var 0)))) ?_
        rintro _ rfl
        let st := fun i => ((sc.take 9).take i).foldl (fun (s : Int) c => (s * 31 + c) % 1000003) (5 + (sc.length : Int))
        refine q_for (fun i E' => ∃ o, E' = [some (.val (.scr sc)), some (.val (.int k)), some (.val (.int (st i))), o]) (fun E' => ∃ o, E' = [some (.val (.scr sc)), some (.val (.int k)), some (.val (.int (st 9))), o])
          (k_list (h_settle (h_sliceScr (k := 9) (h_var 0) h_int))) (g_name 3 sc_l_draw.nd) ⟨_, rfl⟩ ?_ ?_ ?_
        · rintro i d E' hd ⟨o, rfl⟩
          rw [List.getElem?_map] at hd
          obtain ⟨x, hx, rfl⟩ := Option.map_eq_some_iff.mp hd
          refine ⟨_, ⟨Nat.le_of_ble_eq_true rfl, rfl⟩, ?_⟩
          refine s_one (h_asg (i := 2) sc_l_draw.nd (h_op (o_mod (by decide)) (h_callT f_int T.n_int PyProof.Rows.boot_int (a1 (h_op o_add (h_op (o_mulR (by decide)) (h_var 2) h_int) (h_var 3)))) h_int) ?_)
          rintro _ rfl
          refine ⟨some (.val (.int x)), ?_⟩
          have e : st (i + 1) = (st i * 31 + x) % 1000003 := by
            show List.foldl _ _ _ = _
            rw [List.take_succ, hx, List.foldl_append]
            rfl
          rw [e]
          rfl
        · rintro E' ⟨o, rfl⟩
          refine ⟨o, ?_⟩
          have e : st ((sc.take 9).map D.int).length = st 9 := by
            show List.foldl _ _ _ = List.foldl _ _ _
            rw [List.length_map, List.take_length, List.take_of_length_le (l := sc.take 9) (i := 9) (by simp; omega)]
          rw [← e]
        · rintro _ ⟨o, rfl⟩
          refine s_one (h_ret (h_call (kn_great T) (hr.mono (by decide)) (a2 (h_var 2) (h_var 1)) ⟨_, _, rfl, rfl⟩) ?_)
          rintro _ rfl
          show Sl.val _ = _
          unfold drawM
          rw [if_neg h1, dif_neg h2]
          show _ = Sl.val (.int (greatM (((sc.take 9)).foldl _ _) k))
          have e : st 9 = (sc.take 9).foldl (fun (s : Int) c => (s * 31 + c) % 1000003) (5 + (sc.length : Int)) := by
            show List.foldl _ _ _ = List.foldl _ _ _
            rw [List.take_of_length_le (l := sc.take 9) (i := 9) (by simp; omega)]
          rw [← e]
end
end K39
/-! KL3 -/
set_option maxHeartbeats 4000000
namespace K39
open PySem PySem.Spec PyProof.Rows L2
theorem map_get {α : Type} {f : α → D} {l : List α} {i : Nat} {d : D} (h : (l.map f)[i]? = some d) : ∃ x, l[i]? = some x ∧ d = f x := by
  rw [List.getElem?_map] at h
  obtain ⟨x, hx, rfl⟩ := Option.map_eq_some_iff.mp h
  exact ⟨x, hx, rfl⟩
theorem tk {α : Type} {l : List α} {i : Nat} {x : α} (h : l[i]? = some x) : l.take (i + 1) = l.take i ++ [x] := by
  rw [List.take_succ, h]; rfl
theorem tkf {α β : Type} {l : List α} {i : Nat} {x : α} {f : α → List β} (h : l[i]? = some x) : (l.take (i + 1)).flatMap f = (l.take i).flatMap f ++ f x := by
  rw [tk h, List.flatMap_append]; simp
theorem tkm {α β : Type} {l : List α} {i : Nat} {x : α} {f : α → β} (h : l[i]? = some x) : (l.take (i + 1)).map f = (l.take i).map f ++ [f x] := by
  rw [tk h, List.map_append]; rfl
theorem tkfilter {α : Type} {l : List α} {i : Nat} {x : α} {f : α → Bool} (h : l[i]? = some x) : (l.take (i + 1)).filter f = (l.take i).filter f ++ if f x = true then [x] else [] := by
  rw [tk h, List.filter_append]
  by_cases hx : f x = true
  · rw [if_pos hx, List.filter_cons_of_pos hx]; rfl
  · rw [if_neg hx, List.filter_cons_of_neg hx]; rfl
theorem lt_of_get {α : Type} {l : List α} {i : Nat} {x : α} (h : l[i]? = some x) : i < l.length := (List.getElem?_eq_some_iff.mp h).1
def pr1 (a : Str) : List Pair := kinds5.map (fun b => (a, b)) ++ (if a = ("write" : Str) ∨ a = ("release" : Str) then [(a, ("return" : Str))] else [])
theorem pr1_all : kinds5.flatMap pr1 = pairsM := rfl
theorem pr1_len (a : Str) : (pr1 a).length ≤ 6 := by
  unfold pr1
  split
  · exact Nat.le_of_ble_eq_true rfl
  · exact Nat.le_of_ble_eq_true rfl
theorem flat_len {α β : Type} {f : α → List β} {n : Nat} (h : ∀ a, (f a).length ≤ n) : ∀ (l : List α), (l.flatMap f).length ≤ n * l.length
  | [] => by simp
  | a :: l => by
    have := flat_len h l
    have := h a
    rw [List.flatMap_cons, List.length_append, List.length_cons, Nat.mul_succ]
    omega
section
variable {P : Program} {w : World} {K : PySem.W.Frag} {mg : Str → Option Value} {bs : Heap}
theorem a5 {X : Cx} {E : En} {e1 e2 e3 e4 e5 : Expr} {d1 d2 d3 d4 d5 : D} (h1 : HasD X E e1 d1) (h2 : HasD X E e2 d2) (h3 : HasD X E e3 d3) (h4 : HasD X E e4 d4) (h5 : HasD X E e5 d5)
  (s1 : starEach [e1, e2, e3, e4, e5] X.env = (false, eval e1 X.env) :: starEach [e2, e3, e4, e5] X.env := by rfl) (s2 : starEach [e2, e3, e4, e5] X.env = (false, eval e2 X.env) :: starEach [e3, e4, e5] X.env := by rfl) (s3 : starEach [e3, e4, e5] X.env = (false, eval e3 X.env) :: starEach [e4, e5] X.env := by rfl)
  (s4 : starEach [e4, e5] X.env = (false, eval e4 X.env) :: starEach [e5] X.env := by rfl) (s5 : starEach [e5] X.env = (false, eval e5 X.env) :: starEach [] X.env := by rfl) : HA X E [e1, e2, e3, e4, e5] [d1, d2, d3, d4, d5] := ha_cons h1 (ha_cons h2 (ha_cons h3 (ha_cons h4 (ha_cons h5 ha_nil s5) s4) s3) s2) s1
theorem h_appM {X : Cx} {E : En} {N : Po} {α : Type} (f : α → D) (i : Nat) (a : α) {x : Str} {p apos cpos spos : Pos} {l : Addr} {L : List α} (L' : List α) (eL : L ++ [a] = L') {e : Expr} (he : HasD X E e (f a)) (hz : L.length < 100000) (hn : N.nx (E.set i (some (.oL l (L'.map f))))) (hE : E[i]? = some (some (.oL l (L.map f))) := by rfl)
    (hN : X.N[i]? = some x := by rfl)
    (H : HasD X E e (f a) → E[i]? = some (some (.oL l (L.map f))) → X.N[i]? = some x → (L.map f).length < 100000 → N.nx (E.set i (some (.oL l (L.map f ++ [f a])))) → HasS X E (.Expr (.Call (.Attribute (.Name x p) "append" apos) [e] [] cpos) spos) N := by exact fun he hE hN h1 h2 => h_append _ he h1 h2 hE hN) : HasS X E (.Expr (.Call (.Attribute (.Name x p) "append" apos) [e] [] cpos) spos) N :=
  H he hE hN (by rw [List.length_map]; exact hz) (by
    have e : L.map f ++ [f a] = L'.map f := by rw [← eL, List.map_append]; rfl
    rw [e]
    exact hn)
def G_pairs : List D → Rs → Prop := fun ds r => ds = [] ∧ r = .nL (pairsM.map eP)
theorem kn_pairs (T : Hd K mg) : Kn P w K mg bs CX0 1 "_law_pairs" [] (spG K G_pairs) := by
  refine k_l_pairs T ?_ ?_
  · rintro ds r ⟨rfl, _⟩; rfl
  · rintro c ds r hr ⟨rfl, rfl⟩
    refine q_asg 0 sc_l_pairs.nd (h_lst ha_nil) ?_
    rintro _ ⟨l, rfl⟩
    refine q_for (fun i E' => ∃ o1 o2, E' = [some (.oL l (((kinds5.take i).flatMap pr1).map eP)), o1, o2]) (fun E' => ∃ o1 o2, E' = [some (.oL l (pairsM.map eP)), o1, o2])
      (k_list (h_settle (h_lst (a5 h_str h_str h_str h_str h_str)))) (g_name 1 sc_l_pairs.nd) ⟨_, _, rfl⟩ ?_ ?_ ?_
    · rintro i d E' hd ⟨o1, o2, rfl⟩
      obtain ⟨a, ha, rfl⟩ := map_get (f := D.str) (l := kinds5) hd
      have hi := lt_of_get ha
      refine ⟨_, ⟨Nat.le_of_ble_eq_true rfl, rfl⟩, ?_⟩
      have hl : ((kinds5.take i).flatMap pr1).length ≤ 30 := Nat.le_trans (flat_len pr1_len _) (by
        rw [List.length_take]
        have : kinds5.length = 5 := rfl
        omega)
      refine q_for (fun j E' => ∃ o2, E' = [some (.oL l (((kinds5.take i).flatMap pr1 ++ (kinds5.take j).map (fun b => (a, b))).map eP)), some (.val (.str a)), o2]) (fun E' => ∃ o2, E' = [some (.oL l (((kinds5.take i).flatMap pr1 ++ kinds5.map (fun b => (a, b))).map eP)), some (.val (.str a)), o2])
        (k_list (h_settle (h_lst (a5 h_str h_str h_str h_str h_str)))) (g_name 2 sc_l_pairs.nd) ⟨_, by rw [List.take_zero, List.map_nil, List.append_nil]; rfl⟩ ?_ ?_ ?_
      · rintro j d E' hd ⟨o2, rfl⟩
        obtain ⟨b, hb, rfl⟩ := map_get (f := D.str) (l := kinds5) hd
        refine ⟨_, ⟨Nat.le_of_ble_eq_true rfl, rfl⟩, ?_⟩
        refine s_one (h_appM eP 0 (a, b) _ ?_ (h_tup (a2 (h_var 1) (h_var 2))) ?_ ⟨some (.val (.str b)), rfl⟩)
        · rw [tk hb, List.map_append, ← List.append_assoc]
          rfl
        · rw [List.length_append, List.length_map, List.length_take]
          have : kinds5.length = 5 := rfl
          omega
      · rintro E' ⟨o, rfl⟩
        exact ⟨o, rfl⟩
      · rintro _ ⟨o, rfl⟩
        have fin : ∀ L : List Pair, L = (kinds5.take i).flatMap pr1 ++ pr1 a → ∃ o1 o2, ([some (.oL l (L.map eP)), some (.val (.str a)), o] : En) = [some (.oL l (((kinds5.take (i + 1)).flatMap pr1).map eP)), o1, o2] := by
          rintro _ rfl
          refine ⟨some (.val (.str a)), o, ?_⟩
          rw [tkf ha]
        refine s_one (h_ifS (t_w (w_or (t_cmp c_eqS (h_var 1) h_str) fun _ => w_or1 (t_cmp c_eqS (h_var 1) h_str))) (fun h => ?_) (fun h => s_nil ?_))
        · have h1 : a = "write" ∨ a = "release" := by simpa using h
          refine s_one (h_appM eP 0 (a, ("return" : Str)) _ rfl (h_tup (a2 (h_var 1) h_str)) ?_ (fin _ (by rw [pr1, if_pos h1, List.append_assoc])))
          rw [List.length_append, List.length_map]
          have : kinds5.length = 5 := rfl
          omega
        · have h1 : ¬ (a = "write" ∨ a = "release") := by simpa using h
          exact fin _ (by rw [pr1, if_neg h1, List.append_nil])
    · rintro E' ⟨o1, o2, rfl⟩
      exact ⟨o1, o2, rfl⟩
    · rintro _ ⟨o1, o2, rfl⟩
      exact s_one (h_retOwn 0 (hn := ⟨_, rfl⟩))
end
end K39
/-! KL4 -/
set_option maxHeartbeats 4000000
namespace K39
open PySem PySem.Spec PyProof.Rows L2
theorem pairs_ok {p : Pair} (h : p ∈ pairsM) : PyData.strOk p.1 = true ∧ PyData.strOk p.2 = true := by
  have := (List.all_eq_true (l := pairsM) (p := fun p => PyData.strOk p.1 && PyData.strOk p.2)).mp (by decide +kernel) p h
  simpa using this
theorem shP {p : Pair} (h : p ∈ pairsM) : D.sh 1 (eP p) := ⟨(pairs_ok h).1, (pairs_ok h).2, trivial⟩
theorem pairs_len : pairsM.length = 27 := rfl
theorem mem_of_get {α : Type} {l : List α} {i : Nat} {x : α} (h : l[i]? = some x) : x ∈ l := List.mem_of_getElem? h
theorem take_len_le {α : Type} (l : List α) (i : Nat) : (l.take i).length ≤ l.length := by rw [List.length_take]; omega
theorem filt_len {α : Type} (f : α → Bool) (l : List α) (i : Nat) : ((l.take i).filter f).length ≤ l.length := Nat.le_trans (List.length_filter_le _ _) (take_len_le l i)
theorem eP_inj {p q : Pair} : eP p = eP q ↔ p = q := by
  constructor
  · intro h
    have h1 := D.tup.inj h
    injection h1 with h2 h3
    injection h3 with h4 h5
    exact Prod.ext (D.str.inj h2) (D.str.inj h4)
  · rintro rfl; rfl
theorem eP_mem {p : Pair} {L : List Pair} : eP p ∈ L.map eP ↔ p ∈ L := by
  rw [List.mem_map]
  constructor
  · rintro ⟨q, h, e⟩
    rw [← eP_inj.mp e]; exact h
  · intro h
    exact ⟨p, h, rfl⟩
theorem str_mem {s : Str} {L : List Str} : D.str s ∈ L.map D.str ↔ s ∈ L := by
  rw [List.mem_map]
  constructor
  · rintro ⟨q, h, e⟩
    rw [← D.str.inj e]; exact h
  · intro h
    exact ⟨s, h, rfl⟩
theorem sh_strs {n : Nat} {L : List Str} (h : ∀ s ∈ L, PyData.strOk s = true) : shs n (L.map D.str) := shs_all.mpr fun x hx => by
  obtain ⟨s, hs, rfl⟩ := List.mem_map.mp hx
  cases n <;> exact h s hs
theorem sh_str {n : Nat} {s : Str} (h : PyData.strOk s = true) : D.sh n (.str s) := by cases n <;> exact h
theorem sh_pairs {L : List Pair} (h : ∀ p ∈ L, p ∈ pairsM) : shs 1 (L.map eP) := shs_all.mpr fun x hx => by
  obtain ⟨p, hp, rfl⟩ := List.mem_map.mp hx
  exact shP (h p hp)
section
variable {P : Program} {w : World} {K : PySem.W.Frag} {mg : Str → Option Value} {bs : Heap} {X : Cx}
/-- a text in a literal tuple of texts -/
theorem c_inTS {s : Str} {L : List Str} (hu : X.A.units + 65 < cLine) (h : PyData.strOk s = true) (hL : ∀ x ∈ L, PyData.strOk x = true) : CmpOk X .In (.str s) (.tup (L.map D.str)) (decide (s ∈ L)) :=
  c_inT (n := 0) (m := 0) hu (sh_str h) (sh_strs hL) (by rw [decide_eq_true_eq, str_mem])
def usualB (which : Int) (p : Pair) : Bool := decide (which = 0 ∨ (which = 1 ∧ ¬ lateM p = true) ∨ (which = 2 ∧ (p.1 = "acquire" ∨ p.2 = "release")))
theorem usual_eq (which : Int) : usualM which = pairsM.filter (usualB which) := rfl
def G_usual : List D → Rs → Prop := fun ds r => ∃ n : Int, ds = [.int n] ∧ r = .nL ((usualM n).map eP)
theorem kn_usual (T : Hd K mg) : Kn P w K mg bs CX0 2 "_law_usual" ["_law_which"] (spG K G_usual) := by
  refine k_l_usual T ?_ ?_
  · rintro ds r ⟨_, rfl, _⟩; rfl
  · rintro c ds r hr ⟨n, rfl, rfl⟩
    refine q_asg 1 sc_l_usual.nd (h_lst ha_nil) ?_
    rintro _ ⟨l, rfl⟩
    refine q_for (fun i E' => ∃ o1 o2, E' = [some (.val (.int n)), some (.oL l (((pairsM.take i).filter (usualB n)).map eP)), o1, o2]) (fun E' => ∃ o1 o2, E' = [some (.val (.int n)), some (.oL l ((usualM n).map eP)), o1, o2])
      (k_list (h_settle (h_call0 (kn_pairs T) (hr.mono (by decide)) ⟨rfl, rfl⟩))) (g_name 2 sc_l_usual.nd) ⟨_, _, rfl⟩ ?_ ?_ ?_
    · rintro i d E' hd ⟨o1, o2, rfl⟩
      obtain ⟨p, hp, rfl⟩ := map_get hd
      have ok := pairs_ok (mem_of_get hp)
      refine ⟨_, ⟨Nat.le_of_ble_eq_true rfl, rfl⟩, ?_⟩
      refine q_asg 3 sc_l_usual.nd (r := .val (.bl (lateM p))) (r_is (h_and (h_cmp (c_inTS (L := ["write", "release"]) (ru65 hr) ok.1 (by decide +kernel)) (h_ix (i_tup (j := 0) rfl) (h_var 2) h_int) (h_tup (a2 h_str h_str)))
        fun _ => h_and1 (h_cmp (c_inTS (L := ["read", "acquire", "return"]) (ru65 hr) ok.2 (by decide +kernel)) (h_ix (i_tup (j := 1) rfl) (h_var 2) h_int) (h_tup (ha_cons h_str (a2 h_str h_str))))) ?_) ?_
      · unfold lateM
        simp
      rintro _ rfl
      refine s_one (h_ifS (k := usualB n p) (t_is (t_w (w_or (t_cmp c_eqI (h_var 0) h_int) fun _ => w_or (t_w (w_and (t_cmp c_eqI (h_var 0) h_int) fun _ => w_and1 (t_not (t_val (h_var 3)))))
        fun _ => w_or1 (t_w (w_and (t_cmp c_eqI (h_var 0) h_int) fun _ => w_and1 (t_w (w_or (t_cmp c_eqS (h_ix (i_tup (j := 0) rfl) (h_var 2) h_int) h_str) fun _ => w_or1 (t_cmp c_eqS (h_ix (i_tup (j := 1) rfl) (h_var 2) h_int) h_str))))))) ?_) (fun h => ?_) (fun h => s_nil ?_))
      · unfold usualB
        simp
      · refine s_one (h_appM eP 1 p _ rfl (h_var 2) (Nat.lt_of_le_of_lt (filt_len _ _ _) (Nat.le_of_ble_eq_true rfl)) ⟨some (.val (eP p)), some (.val (.bl (lateM p))), ?_⟩)
        rw [tkfilter hp, if_pos h]
        rfl
      · refine ⟨some (.val (eP p)), some (.val (.bl (lateM p))), ?_⟩
        rw [tkfilter hp, if_neg (by rw [h]; decide), List.append_nil]
        rfl
    · rintro E' ⟨o1, o2, rfl⟩
      exact ⟨o1, o2, rfl⟩
    · rintro _ ⟨o1, o2, rfl⟩
      exact s_one (h_retOwn 1 (hn := ⟨_, rfl⟩))
end
end K39
/-! KL5 -/
set_option maxHeartbeats 4000000
namespace K39
open PySem PySem.Spec PyProof.Rows L2
open Classical in
noncomputable def kfOf {α : Type} (f g : α → D) (c : α → Bool) (d : D) : Option D := if h : ∃ a, f a = d then (if c h.choose = true then some (g h.choose) else none) else none
theorem kf_at {α : Type} {f g : α → D} {c : α → Bool} (inj : ∀ a b, f a = f b → a = b) (a : α) : kfOf f g c (f a) = if c a = true then some (g a) else none := by
  have h : ∃ b, f b = f a := ⟨a, rfl⟩
  unfold kfOf
  rw [dif_pos h, inj _ _ h.choose_spec]
theorem kf_all {α : Type} {f g : α → D} {c : α → Bool} (inj : ∀ a b, f a = f b → a = b) : ∀ L : List α, (L.map f).filterMap (kfOf f g c) = (L.filter c).map g
  | [] => rfl
  | a :: L => by
    rw [List.map_cons, List.filterMap_cons, kf_at inj]
    by_cases h : c a = true
    · rw [if_pos h, List.filter_cons_of_pos h, List.map_cons, kf_all inj L]
    · rw [if_neg h, List.filter_cons_of_neg h, kf_all inj L]
section
variable {X : Cx} {E : En} {iter elt : Expr} {pos : Pos}
/-- [elt for x in iter if ..], by the things listed -/
theorem h_lcM {α : Type} (f g : α → D) (c : α → Bool) {L : List α} {x : Str} {px : Pos} {ifs : List Expr} {scope : Scope} (j : Nat) (inj : ∀ a b, f a = f b → a = b) (hN : X.N.Nodup) (hi : HasI X E (.Name x px) iter (L.map f)) (hz : L.length ≤ 100000)
    (hs : ∀ (i : Nat) (a : α), L[i]? = some a → ∀ b : Blk X scope, HasTs b.x ((E.set j none).set j (some (.val (f a)))) ifs (c a) ∧ (c a = true → HasD b.x ((E.set j none).set j (some (.val (f a)))) elt (g a)))
    (hok : blkC X.N X.env.scope scope [(x, j)] = true := by rfl) (hj : X.N[j]? = some x := by rfl) (hjE : j < E.length := by exact Nat.le_of_ble_eq_true rfl) (hw : owns (E.set j none) = owns E := by rfl) (hc : X.calm = true := by rfl)
    (hx : ∀ b : Blk X scope, Loc b.x.env.scope x := by first | exact fun _ => Or.inl rfl | exact fun _ => Or.inr rfl)
    (hf : ∀ b : Blk X scope, b.x.fn x = true ∨ b.x.env.scope.names.lookup x = some .local := by first | exact fun _ => .inl rfl | exact fun _ => .inr rfl)
    (hfi : ∀ x, foldedSetIterable iter X.env x = pure x := by intro _; rfl) : HasR X E (.ListComp elt [⟨.Name x px, iter, ifs, 0⟩] scope pos) (.nL ((L.filter c).map g)) := by
  rw [← kf_all inj (g := g) (c := c) L]
  refine h_lc j (kfOf f g c) hN hi (by rw [List.length_map]; exact hz) hok (fun i d hd b => ?_) hj hjE hw hc hx hf hfi
  obtain ⟨a, ha, rfl⟩ := map_get hd
  rw [kf_at inj]
  by_cases h : c a = true
  · rw [if_pos h]
    have q := hs i a ha b
    rw [h] at q
    exact ⟨q.1, fun d' e => by cases e; exact q.2 rfl⟩
  · rw [if_neg h]
    have q := hs i a ha b
    have e : c a = false := by simpa using h
    rw [e] at q
    exact ⟨q.1, fun d' e => by cases e⟩
end
theorem pairAt_get {i : Int} (h0 : 0 ≤ i) (h : i < 27) : pairsM[i.toNat]? = some (pairAt i) := by
  have hl : i.toNat < pairsM.length := by rw [pairs_len]; omega
  unfold pairAt
  rw [List.getD_eq_getElem?_getD, List.getElem?_eq_getElem hl]
  rfl
theorem pairAt_mem {i : Int} (h0 : 0 ≤ i) (h : i < 27) : pairAt i ∈ pairsM := mem_of_get (pairAt_get h0 h)
theorem emod_nat {i : Int} {m : Int} (h : 0 < m) : D.int (i % m) = D.int ((i % m).toNat : Int) := by
  rw [Int.toNat_of_nonneg (Int.emod_nonneg _ (by omega))]
theorem usual_sub {n : Int} {p : Pair} (h : p ∈ usualM n) : p ∈ pairsM := by
  rw [usual_eq] at h
  exact (List.mem_filter.mp h).1
section
variable {P : Program} {w : World} {K : PySem.W.Frag} {mg : Str → Option Value} {bs : Heap} {X : Cx} {E : En}
/-- rows[i % 27] of the list of all pairs -/
theorem h_pairAt {a e : Expr} {pos : Pos} {i : Int} (h0 : 0 ≤ i) (h : i < 27) (ha : HasD X E a (.lst (pairsM.map eP))) (hb : HasD X E e (.int i)) (hs : PlainIx e := by exact fun _ _ => rfl) : HasD X E (.Subscript a e pos) (eP (pairAt i)) :=
  h_ix (i_lst (j := i.toNat) (by rw [List.getElem?_map, pairAt_get h0 h]; rfl)) ha (d_is hb (by rw [Int.toNat_of_nonneg h0])) hs
theorem m27 (i : Int) : 0 ≤ i % 27 ∧ i % 27 < 27 := ⟨Int.emod_nonneg _ (by decide), Int.emod_lt_of_pos _ (by decide)⟩
end
end K39
/-! KL6 -/
set_option maxHeartbeats 4000000
namespace K39
open PySem PySem.Spec PyProof.Rows L2
theorem eP_inj' : ∀ a b : Pair, eP a = eP b → a = b := fun _ _ h => eP_inj.mp h
def digitB (way m : Int) : Bool := decide (way = 5 ∧ m % 4 = 3 ∨ (way = 6 ∧ m % 4 > 0) ∨ ((way = 0 ∨ way = 7) ∧ (m % 4 = 1 ∨ m % 4 = 3)))
theorem digits_cons (way : Int) (p : Pair) (r : List Pair) (m : Int) : digitsM way (p :: r) m = (if digitB way m = true then [p] else []) ++ digitsM way r (m / 4) := by
  rw [digitsM]
  unfold digitB
  by_cases h : (way = 5 ∧ m % 4 = 3 ∨ (way = 6 ∧ m % 4 > 0) ∨ ((way = 0 ∨ way = 7) ∧ (m % 4 = 1 ∨ m % 4 = 3)))
  · rw [if_pos h, if_pos (decide_eq_true h)]
  · rw [if_neg h, if_neg (by simpa using h)]
section
variable {P : Program} {w : World} {K : PySem.W.Frag} {mg : Str → Option Value} {bs : Heap} {X : Cx} {E : En}
theorem c_inTI {i : Int} {L : List Int} (hu : X.A.units + 65 < cLine) : CmpOk X .In (.int i) (.tup (L.map D.int)) (decide (i ∈ L)) :=
  c_inT (n := 0) (m := 0) hu trivial (shs_all.mpr fun x hx => by
    obtain ⟨s, hs, rfl⟩ := List.mem_map.mp hx
    trivial) (by
    rw [decide_eq_true_eq, List.mem_map]
    constructor
    · intro h; exact ⟨i, h, rfl⟩
    · rintro ⟨j, h, e⟩
      rw [← D.int.inj e]; exact h)
def G_set : List D → Rs → Prop := fun ds r => ∃ n : Int, ds = [.int n] ∧ r = .nL ((setM n).map eP)
theorem kn_set (T : Hd K mg) : Kn P w K mg bs CX0 3 "_law_set" ["_law_number"] (spG K G_set) := by
  refine k_l_set T ?_ ?_
  · rintro ds r ⟨_, rfl, _⟩; rfl
  · rintro c ds r hr ⟨num, rfl, rfl⟩
    have di : ∀ {X : Cx} {E : En} {e : Expr} {p p2 : Pos} {i m : Int}, 0 < m → HasD X E e (.int i) → HasD X E (.BinOp e .Mod (.Constant (.int m) 0 p) p2) (.int (i % m)) := fun h0 h => h_op (o_mod h0) h h_int
    refine q_asg 1 sc_l_set.nd (h_call0 (kn_pairs T) (hr.mono (by decide)) ⟨rfl, rfl⟩) ?_
    rintro _ ⟨l, rfl⟩
    refine q_settle 1 ?_
    refine q_asg 2 sc_l_set.nd (h_op (o_mod (by decide)) (h_callT f_int T.n_int PyProof.Rows.boot_int (a1 (h_var 0))) h_int) ?_
    rintro _ rfl
    refine q_asg 0 sc_l_set.nd (h_op (o_div (by decide)) (h_var 0) h_int) ?_
    rintro _ rfl
    refine q_asg 3 sc_l_set.nd (h_pairAt (m27 _).1 (m27 _).2 (h_var 1) (h_op (o_mod (by decide)) (h_callT f_int T.n_int PyProof.Rows.boot_int (a1 (h_op (o_div (by decide)) (h_var 0) h_int))) h_int)) ?_
    rintro _ rfl
    have sh1 := shP (pairAt_mem (m27 (num / 8 / 3)).1 (m27 (num / 8 / 3)).2)
    refine q_when (t_cmp c_eqI (h_var 2) h_int) (fun h => ?_) fun n1 => ?_
    · have h1 : num % 8 = 1 := by simpa using h
      refine s_one (h_ret (h_call (kn_usual T) (hr.mono (by decide)) (a1 (h_op (o_mod (by decide)) (h_callT f_int T.n_int PyProof.Rows.boot_int (a1 (h_var 0))) h_int)) ⟨_, rfl, rfl⟩) ?_)
      have e : setM num = usualM (num / 8 % 3) := by unfold setM; rw [if_pos h1]
      intro s hs
      show Rs.ok (.nL ((setM num).map eP)) s
      rw [e]; exact hs
    have n1 : num % 8 ≠ 1 := by simpa using n1
    refine q_when (t_cmp c_eqI (h_var 2) h_int) (fun h => ?_) fun n2 => ?_
    · have h1 : num % 8 = 2 := by simpa using h
      refine q_asg 4 sc_l_set.nd (h_call (kn_usual T) (hr.mono (by decide)) (a1 (h_op (o_mod (by decide)) (h_callT f_int T.n_int PyProof.Rows.boot_int (a1 (h_var 0))) h_int)) ⟨_, rfl, rfl⟩) ?_
      rintro _ ⟨l2, rfl⟩
      refine q_settle 4 ?_
      refine s_one (h_ret (h_lcM eP eP (fun p => decide (p ∈ usualM (num / 8 % 3)) != decide (p = pairAt (num / 8 / 3 % 27))) 6 eP_inj' sc_l_set.nd (k_list (h_var 1)) (Nat.le_of_ble_eq_true rfl) (fun i p hp b => ⟨ts_one (t_is (t_cmp c_neB (h_cmp (c_inL (k := decide (p ∈ usualM (num / 8 % 3))) (ru65 hr) (shP (mem_of_get hp)) (sh_pairs fun q => usual_sub) (by rw [decide_eq_true_eq, eP_mem])) (h_var 6) (h_var 4))
        (h_cmp (c_eqD (k := decide (p = pairAt (num / 8 / 3 % 27))) (ru64 hr) (shP (mem_of_get hp)) sh1 (by rw [decide_eq_true_eq, eP_inj])) (h_var 6) (h_var 3))) ?_), fun _ => h_var 6⟩)) ?_)
      · cases decide (p ∈ usualM (num / 8 % 3)) <;> cases decide (p = pairAt (num / 8 / 3 % 27)) <;> rfl
      have e : setM num = pairsM.filter fun p => decide (p ∈ usualM (num / 8 % 3)) != decide (p = pairAt (num / 8 / 3 % 27)) := by unfold setM; rw [if_neg n1, if_pos h1]
      intro s hs
      show Rs.ok (.nL ((setM num).map eP)) s
      rw [e]; exact hs
    have n2 : num % 8 ≠ 2 := by simpa using n2
    refine q_when (t_cmp c_eqI (h_var 2) h_int) (fun h => ?_) fun n3 => ?_
    · have h1 : num % 8 = 3 := by simpa using h
      refine s_one (h_ret (h_lcM eP eP (fun p => decide (p = pairAt (num / 8 / 3 % 27) ∧ num / 8 % 3 > 0)) 6 eP_inj' sc_l_set.nd (k_list (h_var 1)) (Nat.le_of_ble_eq_true rfl) (fun i p hp b => ⟨ts_one (t_is (t_w (w_and (t_cmp (c_eqD (k := decide (p = pairAt (num / 8 / 3 % 27))) (ru64 hr) (shP (mem_of_get hp)) sh1 (by rw [decide_eq_true_eq, eP_inj])) (h_var 6) (h_var 3))
        fun _ => w_and1 (t_cmp c_gt (h_op (o_mod (by decide)) (h_callT f_int T.n_int PyProof.Rows.boot_int (a1 (h_var 0))) h_int) h_int))) ?_), fun _ => h_var 6⟩)) ?_)
      · simp
      have e : setM num = pairsM.filter fun p => decide (p = pairAt (num / 8 / 3 % 27) ∧ num / 8 % 3 > 0) := by unfold setM; rw [if_neg n1, if_neg n2, if_pos h1]
      intro s hs
      show Rs.ok (.nL ((setM num).map eP)) s
      rw [e]; exact hs
    have n3 : num % 8 ≠ 3 := by simpa using n3
    refine q_when (t_cmp c_eqI (h_var 2) h_int) (fun h => ?_) fun n4 => ?_
    · have h1 : num % 8 = 4 := by simpa using h
      refine s_one (h_ret (h_lcM eP eP (fun p => decide (p ≠ pairAt (num / 8 / 3 % 27) ∧ p ≠ pairAt (num / 8 / 81 % 27))) 6 eP_inj' sc_l_set.nd (k_list (h_var 1)) (Nat.le_of_ble_eq_true rfl) (fun i p hp b => ⟨ts_one (t_is (t_w (w_and (t_cmp (c_neD (k := decide (p ≠ pairAt (num / 8 / 3 % 27))) (ru64 hr) (shP (mem_of_get hp)) sh1 (by rw [decide_eq_true_eq, Ne, Ne, eP_inj])) (h_var 6) (h_var 3))
        fun _ => w_and1 (t_cmp (c_neD (k := decide (p ≠ pairAt (num / 8 / 81 % 27))) (ru64 hr) (shP (mem_of_get hp)) (shP (pairAt_mem (m27 _).1 (m27 _).2)) (by rw [decide_eq_true_eq, Ne, Ne, eP_inj])) (h_var 6)
          (h_pairAt (m27 _).1 (m27 _).2 (h_var 1) (h_op (o_mod (by decide)) (h_callT f_int T.n_int PyProof.Rows.boot_int (a1 (h_op (o_div (by decide)) (h_var 0) h_int))) h_int))))) ?_), fun _ => h_var 6⟩)) ?_)
      · simp
      have e : setM num = pairsM.filter fun p => decide (p ≠ pairAt (num / 8 / 3 % 27) ∧ p ≠ pairAt (num / 8 / 81 % 27)) := by unfold setM; rw [if_neg n1, if_neg n2, if_neg n3, if_pos h1]
      intro s hs
      show Rs.ok (.nL ((setM num).map eP)) s
      rw [e]; exact hs
    have n4 : num % 8 ≠ 4 := by simpa using n4
    refine q_asg 5 sc_l_set.nd (h_lst ha_nil) ?_
    rintro _ ⟨l3, rfl⟩
    refine q_for (fun i E' => ∃ m C o6 o7, E' = [some (.val (.int m)), some (.val (.lst (pairsM.map eP))), some (.val (.int (num % 8))), some (.val (eP (pairAt (num / 8 / 3 % 27)))), none, some (.oL l3 (C.map eP)), o6, o7] ∧ C ++ digitsM (num % 8) (pairsM.drop i) m = digitsM (num % 8) pairsM (num / 8) ∧ C.length ≤ i)
      (fun E' => ∃ m o6 o7, E' = [some (.val (.int m)), some (.val (.lst (pairsM.map eP))), some (.val (.int (num % 8))), some (.val (eP (pairAt (num / 8 / 3 % 27)))), none, some (.oL l3 ((digitsM (num % 8) pairsM (num / 8)).map eP)), o6, o7])
      (k_list (h_var 1)) (g_name 6 sc_l_set.nd) ⟨_, [], _, _, rfl, rfl, Nat.le_refl _⟩ ?_ ?_ ?_
    · rintro i d E' hd ⟨m, C, o6, o7, rfl, hC, hl⟩
      obtain ⟨p, hp, rfl⟩ := map_get hd
      have hi := lt_of_get hp
      rw [pairs_len] at hi
      refine ⟨_, ⟨Nat.le_of_ble_eq_true rfl, rfl⟩, ?_⟩
      refine q_asg 7 sc_l_set.nd (h_op (o_mod (by decide)) (h_callT f_int T.n_int PyProof.Rows.boot_int (a1 (h_var 0))) h_int) ?_
      rintro _ rfl
      refine q_asg 0 sc_l_set.nd (h_op (o_div (by decide)) (h_var 0) h_int) ?_
      rintro _ rfl
      have hdr : pairsM.drop i = p :: pairsM.drop (i + 1) := by
        obtain ⟨h1, h2⟩ := List.getElem?_eq_some_iff.mp hp
        rw [← h2]
        exact List.drop_eq_getElem_cons h1
      rw [hdr, digits_cons] at hC
      refine s_one (h_ifS (k := digitB (num % 8) m) (t_is (t_w (w_or (t_w (w_and (t_cmp c_eqI (h_var 2) h_int) fun _ => w_and1 (t_cmp c_eqI (h_var 7) h_int))) fun _ => w_or (t_w (w_and (t_cmp c_eqI (h_var 2) h_int) fun _ => w_and1 (t_cmp c_gt (h_var 7) h_int)))
        fun _ => w_or1 (t_w (w_and (t_cmp (c_inTI (L := [0, 7]) (ru65 hr)) (h_var 2) (h_tup (a2 h_int h_int)))
          fun _ => w_and1 (t_cmp (c_inTI (L := [1, 3]) (ru65 hr)) (h_var 7) (h_tup (a2 h_int h_int))))))) ?_) (fun h => ?_) (fun h => s_nil ?_))
      · unfold digitB
        simp
      · rw [if_pos h] at hC
        refine s_one (h_appM eP 5 p _ rfl (h_var 6) (by omega) ⟨m / 4, C ++ [p], some (.val (eP p)), some (.val (.int (m % 4))), rfl, by rw [← hC, List.append_assoc], by rw [List.length_append]; exact Nat.succ_le_succ hl⟩)
      · rw [if_neg (by rw [h]; decide)] at hC
        exact ⟨m / 4, C, some (.val (eP p)), some (.val (.int (m % 4))), rfl, hC, by omega⟩
    · rintro E' ⟨m, C, o6, o7, rfl, hC, _⟩
      refine ⟨m, o6, o7, ?_⟩
      rw [← hC, show pairsM.drop (pairsM.map eP).length = [] by rw [List.length_map, List.drop_length], digitsM, List.append_nil]
    · rintro _ ⟨m, o6, o7, rfl⟩
      have e : setM num = digitsM (num % 8) pairsM (num / 8) := by unfold setM; rw [if_neg n1, if_neg n2, if_neg n3, if_neg n4]
      refine s_one (h_retOwn 5 (hn := ?_))
      show Rs.ok (.nL ((setM num).map eP)) _
      rw [e]
      exact ⟨_, rfl⟩
end
end K39
/-! KNm -/
set_option maxHeartbeats 4000000
namespace K39
open PySem PySem.Spec PyProof.Rows L2
/-- small letters -/
def Low (w : Str) : Prop := ∀ c ∈ w.cps.toList, 97 ≤ c ∧ c ≤ 122
structure Nm (w : Str) : Prop where
  lo : 1 ≤ w.length
  hi : w.length ≤ 8
  low : Low w
theorem low_ok {w : Str} (h : Low w) : PyData.strOk w = true := by
  show w.cps.all (· < 0x110000) = true
  rw [← Array.all_toList, List.all_eq_true]
  intro c hc
  have := (h c hc).2
  exact decide_eq_true (by omega)
theorem Nm.ok {w : Str} (h : Nm w) : PyData.strOk w = true := low_ok h.low
theorem app_list (a b : Str) : (a ++ b).cps.toList = a.cps.toList ++ b.cps.toList := by
  show (a.cps ++ b.cps).toList = _
  rw [Array.toList_append]
theorem app_len (a b : Str) : (a ++ b).length = a.length + b.length := by
  show (a.cps ++ b.cps).size = _
  rw [Array.size_append]; rfl
theorem Low.app {a b : Str} (h : Low a) (h2 : Low b) : Low (a ++ b) := fun c hc => by
  rw [app_list, List.mem_append] at hc
  exact hc.elim (h c) (h2 c)
theorem len_list (a : Str) : a.cps.toList.length = a.length := Array.length_toList
theorem cut7_list (z : Str) : (cut7 z).cps.toList = z.cps.toList.take 7 := by
  unfold cut7 cutS
  show ((z.cps.toList.drop 0).take (HT.sIx z.length z.length (some 7) - 0)) = _
  rw [List.drop_zero, Nat.sub_zero]
  have h : HT.sIx z.length z.length (some 7) = min 7 z.length := by
    unfold HT.sIx
    simp
  rw [h, ← len_list]
  by_cases h7 : 7 ≤ z.cps.toList.length
  · rw [Nat.min_eq_left h7]
  · rw [Nat.min_eq_right (by omega), List.take_length, List.take_of_length_le (by omega)]
theorem cut7_len (z : Str) : (cut7 z).length ≤ 7 := by
  rw [← len_list, cut7_list, List.length_take]
  omega
theorem Low.cut {z : Str} (h : Low z) : Low (cut7 z) := fun c hc => by
  rw [cut7_list] at hc
  exact h c (List.mem_of_mem_take hc)
theorem low_letter {i : Int} (h : i < 26) : Low (letterAt i) := fun c hc => by
  have e : c = 97 + i.toNat := by simpa [letterAt] using hc
  omega
theorem word_nm : ∀ (k : Nat) (n : Int) (w : Str), Low w → (wordM k n w).length = w.length + k ∧ Low (wordM k n w)
  | 0, n, w, h => ⟨rfl, h⟩
  | k + 1, n, w, h => by
    have h1 : Low (w ++ letterAt (n % 26)) := h.app (low_letter (Int.emod_lt_of_pos _ (by decide)))
    obtain ⟨a, b⟩ := word_nm k (n / 26) _ h1
    refine ⟨?_, b⟩
    rw [wordM, a, app_len]
    show _ + 1 + k = _
    omega
def w0M (number : Int) : Str := if number % 2 = 1 then wordM (1 + (number / 2 % 8).toNat) (number / 16) "" else menu14.getD (number / 2 % 14).toNat ""
theorem menu_nm : ∀ w ∈ menu14, (1 ≤ w.length ∧ w.length ≤ 8) ∧ ∀ c ∈ w.cps.toList, 97 ≤ c ∧ c ≤ 122 := by decide +kernel
theorem menu_get {i : Int} (h0 : 0 ≤ i) (h : i < 14) : menu14[i.toNat]? = some (menu14.getD i.toNat "") := by
  have hl : i.toNat < menu14.length := by show _ < 14; omega
  rw [List.getD_eq_getElem?_getD, List.getElem?_eq_getElem hl]
  rfl
theorem w0_nm (n : Int) : Nm (w0M n) := by
  unfold w0M
  split
  · obtain ⟨a, b⟩ := word_nm (1 + (n / 2 % 8).toNat) (n / 16) "" (fun c hc => by cases hc)
    have h8 : 0 ≤ n / 2 % 8 ∧ n / 2 % 8 < 8 := ⟨Int.emod_nonneg _ (by decide), Int.emod_lt_of_pos _ (by decide)⟩
    have e0 : ("" : Str).length = 0 := rfl
    exact ⟨by omega, by omega, b⟩
  · have h := menu_nm _ (List.mem_of_getElem? (menu_get (Int.emod_nonneg (n / 2) (by decide : (14 : Int) ≠ 0)) (Int.emod_lt_of_pos _ (by decide))))
    exact ⟨h.1.1, h.1.2, h.2⟩
def nameStep (bad : List Str) (w s : Str) : Str := if w ∈ bad then cut7 w ++ s else w
theorem signs_one : ∀ s ∈ signs9, s.length = 1 ∧ ∀ c ∈ s.cps.toList, 97 ≤ c ∧ c ≤ 122 := by decide +kernel
theorem step_nm {bad : List Str} {w s : Str} (h : Nm w) (hs : s ∈ signs9) : Nm (nameStep bad w s) := by
  unfold nameStep
  split
  · obtain ⟨a, b⟩ := signs_one s hs
    have := cut7_len w
    exact ⟨by rw [app_len]; omega, by rw [app_len]; omega, h.low.cut.app b⟩
  · exact h
theorem steps_nm {bad : List Str} : ∀ (l : List Str) (w : Str), (∀ s ∈ l, s ∈ signs9) → Nm w → Nm (l.foldl (nameStep bad) w)
  | [], w, _, h => h
  | s :: l, w, hl, h => steps_nm l _ (fun x hx => hl x (List.mem_cons_of_mem _ hx)) (step_nm h (hl s (List.mem_cons_self ..)))
theorem name_eq (n : Int) (taken : List Str) : nameM n taken = signs9.foldl (nameStep (barred7 ++ taken)) (w0M n) := rfl
theorem name_nm (n : Int) (taken : List Str) : Nm (nameM n taken) := steps_nm _ _ (fun _ h => h) (w0_nm n)
end K39
/-! KL7 -/
set_option maxHeartbeats 4000000
namespace K39
open PySem PySem.Spec PyProof.Rows L2
theorem low_nil : Low "" := fun c hc => by
  have h : c ∈ ([] : List Nat) := hc
  cases h
theorem barred_ok : ∀ s ∈ barred7, PyData.strOk s = true := by decide +kernel
theorem letters_get {i : Int} (h0 : 0 ≤ i) (h : i < 26) : (("abcdefghijklmnopqrstuvwxyz" : Str)).cps.toList[i.toNat]? = some (97 + i.toNat) := by
  have : ∀ j : Fin 26, (("abcdefghijklmnopqrstuvwxyz" : Str)).cps.toList[j.val]? = some (97 + j.val) := by decide +kernel
  exact this ⟨i.toNat, by omega⟩
section
variable {P : Program} {w : World} {K : PySem.W.Frag} {mg : Str → Option Value} {bs : Heap} {X : Cx} {E : En}
theorem c_inLS {s : Str} {L : List Str} (hu : X.A.units + 65 < cLine) (h : PyData.strOk s = true) (hL : ∀ x ∈ L, PyData.strOk x = true) : CmpOk X .In (.str s) (.lst (L.map D.str)) (decide (s ∈ L)) :=
  c_inL (n := 0) (m := 0) hu (sh_str h) (sh_strs hL) (by rw [decide_eq_true_eq, str_mem])
theorem c_ninLS {s : Str} {L : List Str} (hu : X.A.units + 65 < cLine) (h : PyData.strOk s = true) (hL : ∀ x ∈ L, PyData.strOk x = true) : CmpOk X .NotIn (.str s) (.lst (L.map D.str)) (decide (s ∉ L)) :=
  c_ninL (n := 0) (m := 0) hu (sh_str h) (sh_strs hL) (by rw [decide_eq_true_eq, str_mem])
/-- a literal list of texts -/
theorem ha_strs {es : List Expr} {L : List Str} (h : HA X E es (L.map D.str)) : HA X E es (L.map D.str) := h
def G_name : List D → Rs → Prop := fun ds r => ∃ (n : Int) (tk : List Str), ds = [.int n, eNs tk] ∧ tk.length ≤ 10 ∧ (∀ t ∈ tk, PyData.strOk t = true) ∧ r = .val (.str (nameM n tk))
theorem kn_name (T : Hd K mg) : Kn P w K mg bs CX0 1 "_law_name" ["_law_number", "_law_taken_here"] (spG K G_name) := by
  refine k_l_name T ?_ ?_
  · rintro ds r ⟨_, _, rfl, _⟩; rfl
  · rintro c ds r hr ⟨num, taken, rfl, hlen, hok, rfl⟩
    have bok : ∀ s ∈ barred7 ++ taken, PyData.strOk s = true := fun s hs => (List.mem_append.mp hs).elim (barred_ok s) (hok s)
    refine q_asg 2 sc_l_name.nd (r := .nL ((barred7 ++ taken).map D.str)) (r_is (h_op (o_cat (ds := barred7.map D.str) (es := taken.map D.str) (by rw [List.length_map, List.length_map, show barred7.length = 7 from rfl]; omega)) (h_settle (h_lst (ha_cons h_str (ha_cons h_str (a5 h_str h_str h_str h_str h_str))))) (h_var 1)) (by rw [List.map_append])) ?_
    rintro _ ⟨l, rfl⟩
    refine q_settle 2 ?_
    refine q_asg 3 sc_l_name.nd (h_lst (ha_cons h_str (ha_cons h_str (ha_cons h_str (ha_cons h_str (ha_cons h_str (ha_cons h_str (ha_cons h_str (ha_cons h_str (ha_cons h_str (a5 h_str h_str h_str h_str h_str))))))))))) ?_
    rintro _ ⟨l2, rfl⟩
    refine q_settle 3 ?_
    have b14 : 0 ≤ num / 2 % 14 ∧ num / 2 % 14 < 14 := ⟨Int.emod_nonneg _ (by decide), Int.emod_lt_of_pos _ (by decide)⟩
    refine q_asg 4 sc_l_name.nd (r := .val (.str (menu14.getD (num / 2 % 14).toNat ""))) (h_ix (i_lst (ds := menu14.map D.str) (j := (num / 2 % 14).toNat) (by rw [List.getElem?_map, menu_get b14.1 b14.2]; rfl)) (h_var 3) (d_is (h_op (o_mod (by decide)) (h_callT f_int T.n_int PyProof.Rows.boot_int (a1 (h_op (o_div (by decide)) (h_var 0) h_int))) h_int) (by rw [Int.toNat_of_nonneg b14.1]))) ?_
    rintro _ rfl
    refine q_if (fun E' => ∃ n o5 o6, E' = [some (.val (.int n)), some (.val (eNs taken)), some (.val (eNs (barred7 ++ taken))), some (.val (.lst (menu14.map D.str))), some (.val (.str (w0M num))), o5, o6, none]) (t_cmp c_eqI (h_op (o_mod (by decide)) (h_callT f_int T.n_int PyProof.Rows.boot_int (a1 (h_var 0))) h_int) h_int) (fun h => ?_) (fun h => s_nil ?_) ?_
    · have h1 : num % 2 = 1 := by simpa using h
      have b8 : 0 ≤ num / 2 % 8 ∧ num / 2 % 8 < 8 := ⟨Int.emod_nonneg _ (by decide), Int.emod_lt_of_pos _ (by decide)⟩
      refine q_asg 5 sc_l_name.nd (h_op o_add h_int (h_op (o_mod (by decide)) (h_callT f_int T.n_int PyProof.Rows.boot_int (a1 (h_op (o_div (by decide)) (h_var 0) h_int))) h_int)) ?_
      rintro _ rfl
      refine q_asg 0 sc_l_name.nd (h_op (o_div (by decide)) (h_var 0) h_int) ?_
      rintro _ rfl
      refine q_asg 4 sc_l_name.nd h_str ?_
      rintro _ rfl
      have many : (1 + num / 2 % 8).toNat = 1 + (num / 2 % 8).toNat := by omega
      have e : w0M num = wordM (1 + num / 2 % 8).toNat (num / 16) "" := by unfold w0M; rw [if_pos h1, many]
      refine s_one (h_for (fun i E' => ∃ m v o6, E' = [some (.val (.int m)), some (.val (eNs taken)), some (.val (eNs (barred7 ++ taken))), some (.val (.lst (menu14.map D.str))), some (.val (.str v)), some (.val (.int (1 + num / 2 % 8))), o6, none] ∧ Low v ∧ v.length = i ∧ wordM ((1 + num / 2 % 8).toNat - i) m v = wordM (1 + num / 2 % 8).toNat (num / 16) "")
        (k_range T.n_range (h_var 5) (by omega) (by omega)) (g_name 6 sc_l_name.nd) ⟨num / 16, "", _, rfl, low_nil, rfl, rfl⟩ ?_ ?_)
      · rintro i d E' hd ⟨m, v, o6, rfl, hv, hl, hw⟩
        obtain ⟨hi, rfl⟩ := nums_get hd
        refine ⟨_, ⟨Nat.le_of_ble_eq_true rfl, rfl⟩, ?_⟩
        have b26 : 0 ≤ m % 26 ∧ m % 26 < 26 := ⟨Int.emod_nonneg _ (by decide), Int.emod_lt_of_pos _ (by decide)⟩
        refine q_asg 4 sc_l_name.nd (h_op (o_addS (y := letterAt (m % 26)) (by show v.length + 1 ≤ 1000; omega)) (h_var 4) (h_ix (i_str (j := (m % 26).toNat) (Nat.le_of_ble_eq_true rfl) (letters_get b26.1 b26.2)) h_str (d_is (h_op (o_mod (by decide)) (h_callT f_int T.n_int PyProof.Rows.boot_int (a1 (h_var 0))) h_int) (by rw [Int.toNat_of_nonneg b26.1])))) ?_
        rintro _ rfl
        refine s_one (h_asg (i := 0) sc_l_name.nd (h_op (o_div (by decide)) (h_var 0) h_int) ?_)
        rintro _ rfl
        refine ⟨m / 26, v ++ letterAt (m % 26), some (.val (.int i)), rfl, hv.app (low_letter b26.2), by rw [app_len, hl]; rfl, ?_⟩
        rw [← hw, show (1 + num / 2 % 8).toNat - i = ((1 + num / 2 % 8).toNat - (i + 1)) + 1 by omega]
        rfl
      · rintro E' ⟨m, v, o6, rfl, hv, hl, hw⟩
        have e2 : w0M num = v := by
          rw [e, ← hw, show (nums (1 + num / 2 % 8).toNat).length = (1 + num / 2 % 8).toNat by unfold nums; rw [List.length_map, List.length_range], Nat.sub_self]
          rfl
        exact ⟨m, some (.val (.int (1 + num / 2 % 8))), o6, by rw [e2]⟩
    · have h1 : ¬ num % 2 = 1 := by simpa using h
      refine ⟨num, none, none, ?_⟩
      unfold w0M
      rw [if_neg h1]
      rfl
    · rintro _ ⟨n, o5, o6, rfl⟩
      refine q_for (fun i E' => ∃ v o7, E' = [some (.val (.int n)), some (.val (eNs taken)), some (.val (eNs (barred7 ++ taken))), some (.val (.lst (menu14.map D.str))), some (.val (.str v)), o5, o6, o7] ∧ v = (signs9.take i).foldl (nameStep (barred7 ++ taken)) (w0M num))
        (fun E' => ∃ o7, E' = [some (.val (.int n)), some (.val (eNs taken)), some (.val (eNs (barred7 ++ taken))), some (.val (.lst (menu14.map D.str))), some (.val (.str (nameM num taken))), o5, o6, o7])
        (k_list (h_settle (h_lst (ha_cons h_str (ha_cons h_str (ha_cons h_str (ha_cons h_str (a5 h_str h_str h_str h_str h_str)))))))) (g_name 7 sc_l_name.nd) ⟨_, _, rfl, rfl⟩ ?_ ?_ ?_
      · rintro i d E' hd ⟨v, o7, rfl, hv⟩
        obtain ⟨s, hs, rfl⟩ := map_get (f := D.str) (l := signs9) hd
        refine ⟨_, ⟨Nat.le_of_ble_eq_true rfl, rfl⟩, ?_⟩
        have hn : Nm v := hv ▸ steps_nm _ _ (fun x hx => List.mem_of_mem_take hx) (w0_nm num)
        have hs1 := (signs_one s (mem_of_get hs)).1
        have nx : (signs9.take (i + 1)).foldl (nameStep (barred7 ++ taken)) (w0M num) = nameStep (barred7 ++ taken) v s := by rw [tk hs, List.foldl_append, hv]; rfl
        refine s_one (h_ifS (t_cmp (c_inLS (ru65 hr) hn.ok bok) (h_var 4) (h_var 2)) (fun h => ?_) (fun h => s_nil ?_))
        · have h1 : v ∈ barred7 ++ taken := of_decide_eq_true h
          have c7 := cut7_len v
          refine s_one (h_asg (i := 4) sc_l_name.nd (h_op (o_addS (x := cut7 v) (y := s) (by omega)) (h_sliceS (k := 7) (Nat.le_trans hn.hi (by decide)) (h_var 4) h_int) (h_var 7)) ?_)
          rintro _ rfl
          refine ⟨cut7 v ++ s, some (.val (.str s)), rfl, ?_⟩
          rw [nx, nameStep, if_pos h1]
        · have h1 : ¬ v ∈ barred7 ++ taken := of_decide_eq_false h
          refine ⟨v, some (.val (.str s)), rfl, ?_⟩
          rw [nx, nameStep, if_neg h1]
      · rintro E' ⟨v, o7, rfl, hv⟩
        refine ⟨o7, ?_⟩
        rw [hv]; rfl
      · rintro _ ⟨o7, rfl⟩
        refine s_one (h_ret (h_var 4) ?_)
        rintro _ rfl
        rfl
end
end K39
/-! KStr -/
set_option maxHeartbeats 4000000
/-! ## sorting texts -/
namespace K39
open PySem PySem.Spec PyProof.Rows L2
theorem leD_str (a b : Str) : leD (.str a) (.str b) = leS a b := congrFun (congrFun (PySem.W.dataLe_str (fun b : Str => b)) a) b
theorem leS_trans (a b c : Str) (h1 : leS a b = true) (h2 : leS b c = true) : leS a c = true := by
  unfold leS at *
  exact decide_eq_true (List.le_trans (of_decide_eq_true h1) (of_decide_eq_true h2))
theorem leS_total (a b : Str) : (leS a b || leS b a) = true := by
  unfold leS
  rw [Bool.or_eq_true, decide_eq_true_eq, decide_eq_true_eq]
  exact List.le_total _ _
theorem leS_antis {a b : Str} (h1 : leS a b = true) (h2 : leS b a = true) : a = b := by
  unfold leS at *
  have e := List.le_antisymm (of_decide_eq_true h1) (of_decide_eq_true h2)
  have e2 : a.cps = b.cps := Array.toList_inj.mp e
  cases a; cases b; cases e2; rfl
theorem sortS_perm (l : List Str) : (sortS l).Perm l := List.mergeSort_perm l leS
theorem sortS_ord (l : List Str) : (sortS l).Pairwise (fun a b => leS a b = true) := List.pairwise_mergeSort (le := leS) leS_trans leS_total l
theorem sortS_mem {l : List Str} {x : Str} : x ∈ sortS l ↔ x ∈ l := (sortS_perm l).mem_iff
theorem sortS_len (l : List Str) : (sortS l).length = l.length := (sortS_perm l).length_eq
theorem dedup_mem {α : Type} [DecidableEq α] {x : α} : ∀ {l : List α}, x ∈ dedup l ↔ x ∈ l
  | [] => Iff.rfl
  | y :: l => by
    rw [dedup]
    split
    · next h =>
      rw [dedup_mem, List.mem_cons]
      constructor
      · exact .inr
      · rintro (rfl | h2)
        · exact h
        · exact h2
    · rw [List.mem_cons, List.mem_cons, dedup_mem]
theorem dedup_nodup {α : Type} [DecidableEq α] : ∀ (l : List α), (dedup l).Nodup
  | [] => List.nodup_nil
  | y :: l => by
    rw [dedup]
    split
    · exact dedup_nodup l
    · next h => exact List.nodup_cons.mpr ⟨fun q => h (dedup_mem.mp q), dedup_nodup l⟩
theorem dedup_len {α : Type} [DecidableEq α] : ∀ (l : List α), (dedup l).length ≤ l.length
  | [] => Nat.le_refl _
  | y :: l => by
    rw [dedup]
    split
    · exact Nat.le_succ_of_le (dedup_len l)
    · exact Nat.succ_le_succ (dedup_len l)
theorem ascS_mem {l : List Str} {x : Str} : x ∈ ascS l ↔ x ∈ l := sortS_mem.trans dedup_mem
theorem ascS_nodup (l : List Str) : (ascS l).Nodup := (sortS_perm _).nodup_iff.mpr (dedup_nodup l)
theorem ascS_ord (l : List Str) : (ascS l).Pairwise (fun a b => leS a b = true) := sortS_ord _
theorem ascS_len (l : List Str) : (ascS l).length ≤ l.length := by
  unfold ascS
  rw [sortS_len]
  exact dedup_len l
theorem nodup_map_str {l : List Str} (h : l.Nodup) : (l.map D.str).Nodup := List.pairwise_map.mpr (h.imp fun hn e => hn (D.str.inj e))
theorem ord_str {l : List Str} (h : l.Pairwise (fun a b => leS a b = true)) : (l.map D.str).Pairwise (fun a b => leD a b = true) := List.pairwise_map.mpr (h.imp fun {a b} q => by rw [leD_str]; exact q)
theorem srt_strs (l : List Str) : Srt (pys (l.map D.str)) := by
  rw [pys_map, List.map_map]
  exact .inl ⟨PySem.W.AllAlike.of fun _ _ => rfl, PySem.W.Sortable.others fun b => ⟨(fun h => by cases h), (fun xs h => by cases h)⟩⟩
/-- two ordered lists of the same texts, none twice -/
theorem ord_one {l m : List Str} (h1 : l.Pairwise (fun a b => leS a b = true)) (h2 : m.Pairwise (fun a b => leS a b = true)) (p : l.Perm m) : l = m :=
  p.eq_of_pairwise (le := fun a b => leS a b = true) (fun a b _ _ q1 q2 => leS_antis q1 q2) h1 h2
theorem ascS_one {l m : List Str} (h : l.Pairwise (fun a b => leS a b = true)) (hn : l.Nodup) (hm : ∀ x, x ∈ l ↔ x ∈ m) : ascS m = l :=
  ord_one (ascS_ord m) h ((List.perm_ext_iff_of_nodup (ascS_nodup m) hn).mpr fun x => by rw [ascS_mem, hm])
theorem ascS_of {l : List Str} (h : l.Pairwise (fun a b => leS a b = true)) (hn : l.Nodup) : ascS l = l := ascS_one h hn fun _ => Iff.rfl
section
variable {X : Cx}
theorem f_sortedS {L : List Str} (hu : X.A.units + 64 < cLine) (hok : ∀ x ∈ L, PyData.strOk x = true) (hl : L.length ≤ 1000) : CallOk X (.builtin "sorted") [.lst (L.map D.str)] (.nL ((sortS L).map D.str)) :=
  f_sorted (n := 0) hu (sh_strs hok) (by decide) (srt_strs L) (by rw [List.length_map]; exact hl) (ord_str (sortS_ord L)) ((sortS_perm L).map D.str)
theorem ascOk_strs {L : List Str} (hok : ∀ x ∈ L, PyData.strOk x = true) (hl : L.length ≤ 1000) : AscOk (L.map D.str) ((ascS L).map D.str) where
  kl := kls_all.mpr fun x hx => by
    obtain ⟨s, hs, rfl⟩ := List.mem_map.mp hx
    exact hok s hs
  kind := .inl fun d hd => by
    obtain ⟨s, hs, rfl⟩ := List.mem_map.mp hd
    exact ⟨s, rfl⟩
  srt := srt_strs _
  few := by rw [List.length_map]; exact hl
  ord := ord_str (ascS_ord L)
  nd := nodup_map_str (ascS_nodup L)
  mem := fun d => by
    rw [List.mem_map, List.mem_map]
    constructor
    · rintro ⟨s, hs, rfl⟩; exact ⟨s, ascS_mem.mp hs, rfl⟩
    · rintro ⟨s, hs, rfl⟩; exact ⟨s, ascS_mem.mpr hs, rfl⟩
end
end K39
/-! KL8 -/
set_option maxHeartbeats 4000000
namespace K39
open PySem PySem.Spec PyProof.Rows L2
def Okl (L : List Str) : Prop := (∀ x ∈ L, PyData.strOk x = true) ∧ L.length ≤ 100
def Row.ok : Row → Prop
  | .pl f => Okl f
  | .ac a k b => Okl a ∧ PyData.strOk k = true ∧ Okl b
theorem okl_asc {L : List Str} (h : Okl L) : Okl (ascS L) := ⟨fun x hx => h.1 x (ascS_mem.mp hx), Nat.le_trans (ascS_len L) h.2⟩
theorem ok_normal : ∀ {r : Row}, r.ok → (normalM r).ok
  | .pl _, h => okl_asc h
  | .ac _ _ _, h => ⟨okl_asc h.1, h.2.1, okl_asc h.2.2⟩
section
variable {P : Program} {w : World} {K : PySem.W.Frag} {mg : Str → Option Value} {bs : Heap} {X : Cx} {E : En}
/-- tuple(sorted(set(e))), e a tuple or a list of texts -/
theorem h_asc {a : Expr} {L : List Str} {p1 p2 p3 q1 q2 q3 : Pos} (hu : X.A.units + 64 < cLine) (hT : X.mg "tuple" = none) (hm : X.mg "sorted" = none) (hm2 : X.mg "set" = none) (ha : HasD X E a (.lst (L.map D.str)) ∨ HasD X E a (.tup (L.map D.str))) (h : Okl L)
    (hg : Gl X "tuple" := by rfl) (hc : X.calm = true := by rfl) (hg1 : Gl X "sorted" := by rfl) (hg2 : Gl X "set" := by rfl)
    (na : starEach [a] X.env = (false, eval a X.env) :: starEach [] X.env := by rfl)
    (na2 : starEach [Expr.Call (.Name "sorted" p2) [.Call (.Name "set" p3) [a] [] q3] [] q2] X.env = (false, eval (Expr.Call (.Name "sorted" p2) [.Call (.Name "set" p3) [a] [] q3] [] q2) X.env) :: starEach [] X.env := by rfl)
    (HC : ∀ {ds : List D} {r : Rs}, CallOk X (.type "tuple") ds r → X.mg "tuple" = none → HA X E [Expr.Call (.Name "sorted" p2) [.Call (.Name "set" p3) [a] [] q3] [] q2] ds → Gl X "tuple" → HasR X E (.Call (.Name "tuple" p1) [Expr.Call (.Name "sorted" p2) [.Call (.Name "set" p3) [a] [] q3] [] q2] [] q1) r := by exact fun hc hm ha hg => h_callT hc hm PyProof.Rows.boot_tuple ha hg) :
    HasD X E (.Call (.Name "tuple" p1) [Expr.Call (.Name "sorted" p2) [.Call (.Name "set" p3) [a] [] q3] [] q2] [] q1) (eF (ascS L)) :=
  HC f_tupleL hT (ha_cons (h_settle (h_sortedSet hu hm hm2 ha (ascOk_strs h.1 (Nat.le_trans h.2 (by decide))) hc hg1 hg2 na)) ha_nil na2) hg
def G_goal : List D → Rs → Prop := fun ds r => ∃ (ps : PSet) (n : Int), ds = [eS ps, .int n] ∧ (∀ p ∈ ps, p ∈ pairsM) ∧ ps.length ≤ 1000 ∧ r = .nL ((goalM ps n).map eP)
theorem kn_goal (T : Hd K mg) : Kn P w K mg bs CX0 4 "_law_goal" ["_law_kept", "_law_number"] (spG K G_goal) := by
  refine k_l_goal T ?_ ?_
  · rintro ds r ⟨_, _, rfl, _⟩; rfl
  · rintro c ds r hr ⟨ps, num, rfl, hp, hl, rfl⟩
    refine q_when (t_cmp c_eqI (h_op (o_mod (by decide)) (h_callT f_int T.n_int PyProof.Rows.boot_int (a1 (h_var 1))) h_int) h_int) (fun h => ?_) fun n1 => ?_
    · have h1 : num % 2 = 1 := by simpa using h
      refine s_one (h_ret (h_call (kn_set T) (hr.mono (by decide)) (a1 (h_op (o_div (by decide)) (h_var 1) h_int)) ⟨_, rfl, rfl⟩) ?_)
      have e : goalM ps num = setM (num / 2) := by unfold goalM; rw [if_pos h1]
      intro s hs
      show Rs.ok (.nL ((goalM ps num).map eP)) s
      rw [e]; exact hs
    have n1 : ¬ num % 2 = 1 := by simpa using n1
    refine q_asg 2 sc_l_goal.nd (h_call0 (kn_pairs T) (hr.mono (by decide)) ⟨rfl, rfl⟩) ?_
    rintro _ ⟨l, rfl⟩
    refine q_settle 2 ?_
    refine q_asg 3 sc_l_goal.nd (h_lst (ha_cons (h_pairAt (m27 _).1 (m27 _).2 (h_var 2) (h_op (o_mod (by decide)) (h_callT f_int T.n_int PyProof.Rows.boot_int (a1 (h_op (o_div (by decide)) (h_var 1) h_int))) h_int))
      (a2 (h_pairAt (m27 _).1 (m27 _).2 (h_var 2) (h_op (o_mod (by decide)) (h_callT f_int T.n_int PyProof.Rows.boot_int (a1 (h_op (o_div (by decide)) (h_var 1) h_int))) h_int))
      (h_pairAt (m27 _).1 (m27 _).2 (h_var 2) (h_op (o_mod (by decide)) (h_callT f_int T.n_int PyProof.Rows.boot_int (a1 (h_op (o_div (by decide)) (h_var 1) h_int))) h_int))))) ?_
    rintro _ ⟨l2, rfl⟩
    refine q_settle 3 ?_
    have e : goalM ps num = ps.filter fun p => decide (p ∉ ([pairAt (num / 2 % 27), pairAt (num / 54 % 27), pairAt (num / 1458 % 27)].take (num / 39366 % 4).toNat)) := by unfold goalM; rw [if_neg n1]
    have b4 : 0 ≤ num / 39366 % 4 := Int.emod_nonneg _ (by decide)
    have gok : ∀ p ∈ [pairAt (num / 2 % 27), pairAt (num / 54 % 27), pairAt (num / 1458 % 27)].take (num / 39366 % 4).toNat, p ∈ pairsM := fun p h => by
      have h2 := List.mem_of_mem_take h
      simp only [List.mem_cons, List.not_mem_nil, or_false] at h2
      rcases h2 with rfl | rfl | rfl <;> exact pairAt_mem (m27 _).1 (m27 _).2
    refine s_one (h_ret (r_is (h_lcM eP eP (fun p => decide (p ∉ ([pairAt (num / 2 % 27), pairAt (num / 54 % 27), pairAt (num / 1458 % 27)].take (num / 39366 % 4).toNat))) 4 eP_inj' sc_l_goal.nd (k_list (h_var 0)) (Nat.le_trans hl (by decide)) (fun i p hp' b => ⟨ts_one (t_cmp (c_ninL (n := 1) (m := 1) (ru65 hr) (shP (hp p (mem_of_get hp'))) (sh_pairs gok) (by rw [decide_eq_true_eq, eP_mem])) (h_var 4)
      (d_is (h_settle (h_sliceL (ds := [pairAt (num / 2 % 27), pairAt (num / 54 % 27), pairAt (num / 1458 % 27)].map eP) (k := (num / 39366 % 4).toNat) (h_var 3) (d_is (h_op (o_mod (by decide)) (h_callT f_int T.n_int PyProof.Rows.boot_int (a1 (h_op (o_div (by decide)) (h_var 1) h_int))) h_int) (by rw [Int.toNat_of_nonneg b4])))) (by rw [← List.map_take]))), fun _ => h_var 4⟩)) (by rw [← e])) fun s hs => hs)
def G_names : List D → Rs → Prop := fun ds r => ∃ t : Tab, ds = [eTab t] ∧ Okl (t.map (·.1)) ∧ r = .nL ((namesM t).map .str)
theorem keys_tab (t : Tab) : keysD (t.map fun p => (p.1, eS p.2)) = (t.map (·.1)).map D.str := by
  unfold keysD
  rw [List.map_map, List.map_map]; rfl
theorem kn_names (T : Hd K mg) : Kn P w K mg bs CX0 1 "_law_names" ["_law_table_here"] (spG K G_names) := by
  refine k_l_names T ?_ ?_
  · rintro ds r ⟨_, rfl, _⟩; rfl
  · rintro c ds r hr ⟨t, rfl, ok, rfl⟩
    have bok : ∀ s ∈ barred7 ++ t.map (·.1), PyData.strOk s = true := fun s hs => (List.mem_append.mp hs).elim (barred_ok s) (ok.1 s)
    have hl : (barred7 ++ t.map (·.1)).length ≤ 1000 := by
      rw [List.length_append, show barred7.length = 7 from rfl]
      have := ok.2
      omega
    refine s_one (h_ret (h_callB (f_sortedS (L := barred7 ++ t.map (·.1)) (ru64 hr) bok hl) T.n_sorted PyProof.Rows.boot_sorted (a1 (d_is (h_settle (h_op (o_cat (ds := barred7.map D.str) (es := (t.map (·.1)).map D.str) (by rw [List.length_map, List.length_map, show barred7.length = 7 from rfl]; have := ok.2; omega)) (h_settle (h_lst (ha_cons h_str (ha_cons h_str (a5 h_str h_str h_str h_str h_str)))))
      (h_settle (r_is (h_callT (f_listD rfl) T.n_list PyProof.Rows.boot_list (a1 (h_var 0))) (by rw [keys_tab]))))) (by rw [List.map_append])))) fun s hs => hs)
end
end K39
/-! KL9 -/
set_option maxHeartbeats 4000000
namespace K39
open PySem PySem.Spec PyProof.Rows L2
theorem someM_get {n : Int} {bars : List Str} (h : bars ≠ []) : bars[(n % bars.length).toNat]? = some (bars.getD (n % bars.length).toNat "") := by
  have h0 : (0 : Int) < bars.length := by
    have := List.length_pos_iff.mpr h
    omega
  have h1 := Int.emod_nonneg n (Int.ne_of_gt h0)
  have h2 := Int.emod_lt_of_pos n h0
  have hl : (n % bars.length).toNat < bars.length := by omega
  rw [List.getD_eq_getElem?_getD, List.getElem?_eq_getElem hl]
  rfl
theorem someM_mem : ∀ {k : Nat} {n : Int} {bars : List Str} {x : Str}, bars ≠ [] → x ∈ someM k n bars → x ∈ bars
  | 0, _, _, _, _, h => by cases h
  | k + 1, n, bars, x, hb, h => by
    rw [someM, List.mem_cons] at h
    rcases h with rfl | h
    · exact List.mem_of_getElem? (someM_get hb)
    · exact someM_mem hb h
theorem someM_len : ∀ (k : Nat) (n : Int) (bars : List Str), (someM k n bars).length = k
  | 0, _, _ => rfl
  | k + 1, n, bars => by rw [someM, List.length_cons, someM_len]
section
variable {P : Program} {w : World} {K : PySem.W.Frag} {mg : Str → Option Value} {bs : Heap} {X : Cx} {E : En}
def G_some : List D → Rs → Prop := fun ds r => ∃ (n : Int) (bars : List Str) (most : Nat), ds = [.int n, eNs bars, .int most] ∧ bars ≠ [] ∧ bars.length ≤ 1000 ∧ most ≤ 100 ∧ r = .val (eF (someF n bars most))
theorem kn_some (T : Hd K mg) : Kn P w K mg bs CX0 1 "_law_some" ["_law_number", "_law_bars", "_law_most"] (spG K G_some) := by
  refine k_l_some T ?_ ?_
  · rintro ds r ⟨_, _, _, rfl, _⟩; rfl
  · rintro c ds r hr ⟨num, bars, most, rfl, hb, hl, hm, rfl⟩
    have hb0 : 0 < bars.length := List.length_pos_iff.mpr hb
    have m0 : (0 : Int) < most + 1 := by omega
    have mm : 0 ≤ num % ((most : Int) + 1) ∧ num % ((most : Int) + 1) < most + 1 := ⟨Int.emod_nonneg _ (Int.ne_of_gt m0), Int.emod_lt_of_pos _ m0⟩
    refine q_asg 3 sc_l_some.nd (h_lst ha_nil) ?_
    rintro _ ⟨l, rfl⟩
    refine q_asg 4 sc_l_some.nd (h_op (o_mod m0) (h_callT f_int T.n_int PyProof.Rows.boot_int (a1 (h_var 0))) (h_op o_add (h_var 2) h_int)) ?_
    rintro _ rfl
    refine q_asg 0 sc_l_some.nd (h_op (o_div (j := (most : Int) + 1) (by omega)) (h_var 0) (h_op o_add (h_var 2) h_int)) ?_
    rintro _ rfl
    refine q_for (fun i E' => ∃ m C o5, E' = [some (.val (.int m)), some (.val (eNs bars)), some (.val (.int most)), some (.oL l (C.map D.str)), some (.val (.int (num % ((most : Int) + 1)))), o5] ∧ C ++ someM ((num % ((most : Int) + 1)).toNat - i) m bars = someF num bars most ∧ C.length = i)
      (fun E' => ∃ m o5, E' = [some (.val (.int m)), some (.val (eNs bars)), some (.val (.int most)), some (.oL l ((someF num bars most).map D.str)), some (.val (.int (num % ((most : Int) + 1)))), o5])
      (k_range T.n_range (h_var 4) mm.1 (by omega)) (g_name 5 sc_l_some.nd) ⟨_, [], _, rfl, rfl, rfl⟩ ?_ ?_ ?_
    · rintro i d E' hd ⟨m, C, o5, rfl, hC, hn⟩
      obtain ⟨hi, rfl⟩ := nums_get hd
      refine ⟨_, ⟨Nat.le_of_ble_eq_true rfl, rfl⟩, ?_⟩
      have b0 := Int.emod_nonneg m (show (bars.length : Int) ≠ 0 by omega)
      rw [show (num % ((most : Int) + 1)).toNat - i = ((num % ((most : Int) + 1)).toNat - (i + 1)) + 1 by omega, someM] at hC
      refine s_cons (M := fun E' => E' = [some (.val (.int m)), some (.val (eNs bars)), some (.val (.int most)), some (.oL l ((C ++ [bars.getD (m % bars.length).toNat ""]).map D.str)), some (.val (.int (num % ((most : Int) + 1)))), some (.val (.int i))])
        (h_appM D.str 3 (bars.getD (m % bars.length).toNat "") _ rfl (h_ix (i_lst (ds := bars.map D.str) (j := (m % bars.length).toNat) (by rw [List.getElem?_map, someM_get hb]; rfl)) (h_var 1)
          (d_is (h_op (o_mod (j := bars.length) (by omega)) (h_callT f_int T.n_int PyProof.Rows.boot_int (a1 (h_var 0))) (d_is (h_callB f_lenL T.n_len PySem.boot_len (a1 (h_var 1))) (by rw [List.length_map]))) (by rw [Int.toNat_of_nonneg b0]))) (by omega) rfl) ?_
      rintro _ rfl
      refine s_one (h_asg (i := 0) sc_l_some.nd (h_op (o_div (j := bars.length) (by omega)) (h_var 0) (d_is (h_callB f_lenL T.n_len PySem.boot_len (a1 (h_var 1))) (by rw [List.length_map]))) ?_)
      rintro _ rfl
      exact ⟨m / bars.length, C ++ [bars.getD (m % bars.length).toNat ""], some (.val (.int i)), rfl, by rw [List.append_assoc]; exact hC, by rw [List.length_append, hn]; rfl⟩
    · rintro E' ⟨m, C, o5, rfl, hC, _⟩
      refine ⟨m, o5, ?_⟩
      rw [show (nums (num % ((most : Int) + 1)).toNat).length = (num % ((most : Int) + 1)).toNat by unfold nums; rw [List.length_map, List.length_range], Nat.sub_self, someM, List.append_nil] at hC
      rw [hC]
    · rintro _ ⟨m, o5, rfl⟩
      refine q_settle 3 ?_
      exact s_one (h_ret (h_callT f_tupleL T.n_tuple PyProof.Rows.boot_tuple (a1 (h_var 3))) fun s hs => hs)
def eRok (r : Row) : Prop := r.ok
theorem eR_tup (r : Row) : ∃ xs, eR r = .tup xs := by
  cases r with
  | pl f => exact ⟨_, rfl⟩
  | ac a k b => exact ⟨_, rfl⟩
def G_normal : List D → Rs → Prop := fun ds r => ∃ row : Row, ds = [eR row] ∧ row.ok ∧ r = .val (eR (normalM row))
theorem kn_normal (T : Hd K mg) : Kn P w K mg bs CX0 1 "_law_normal" ["_law_row"] (spG K G_normal) := by
  refine k_l_normal T ?_ ?_
  · rintro ds r ⟨_, rfl, _⟩; rfl
  · rintro c ds r hr ⟨row, rfl, ok, rfl⟩
    cases row with
    | pl f =>
      refine q_when (k := false) (t_is (t_w (w_and (k2 := false) (t_cmp c_eqI (h_callB f_lenT T.n_len PySem.boot_len (a1 (h_var 0))) h_int) fun h => ?_)) (by rw [Bool.and_false])) (fun h => nomatch h) fun _ => ?_
      · have h3 : f.length = 3 := by
          have := of_decide_eq_true h
          rw [List.length_map] at this
          omega
        cases f with
        | nil => cases h3
        | cons x f =>
          exact w_and1 (t_val (h_isi (y := "") T.n_isinstance T.n_tuple PyProof.Rows.boot_tuple (h_ix (i_tup (j := 0) (d := .str x) rfl) (h_var 0) h_int) (t := "str") rfl rfl))
      · exact s_one (h_ret (h_asc (ru64 hr) T.n_tuple T.n_sorted T.n_set (.inr (h_var 0)) ok) fun s hs => hs)
    | ac a k b =>
      refine q_when (k := true) (t_w (w_and (k1 := true) (k2 := true) (t_cmp c_eqI (h_callB f_lenT T.n_len PySem.boot_len (a1 (h_var 0))) h_int) fun _ => w_and1 (t_val (h_isi (y := "") T.n_isinstance T.n_tuple PyProof.Rows.boot_tuple (h_ix (i_tup (j := 0) rfl) (h_var 0) h_int) (t := "tuple") rfl rfl)))) (fun _ => ?_) (fun h => nomatch h)
      exact s_one (h_ret (h_tup (ha_cons (h_asc (ru64 hr) T.n_tuple T.n_sorted T.n_set (.inr (h_ix (i_tup (j := 0) rfl) (h_var 0) h_int)) ok.1)
        (a2 (h_ix (i_tup (j := 1) rfl) (h_var 0) h_int) (h_asc (ru64 hr) T.n_tuple T.n_sorted T.n_set (.inr (h_ix (i_tup (j := 2) rfl) (h_var 0) h_int)) ok.2.2)))) fun s hs => hs)
end
end K39
/-! KL10 -/
set_option maxHeartbeats 4000000
namespace K39
open PySem PySem.Spec PyProof.Rows L2
theorem look_app {x : Str} {d : D} : ∀ {A : List (Str × D)}, A.lookup x = none → (A ++ [(x, d)]).lookup x = some d
  | [], _ => by show (match x == x with | true => some d | false => none) = some d; rw [beq_self_eq_true]
  | (y, e) :: A, h => by
    rw [List.lookup_cons] at h
    rw [List.cons_append, List.lookup_cons]
    cases hb : x == y with
    | true => rw [hb] at h; cases h
    | false => rw [hb] at h; exact look_app h
theorem look_none {x : Str} : ∀ {A : List (Str × D)}, A.lookup x = none ↔ x ∉ A.map (·.1)
  | [] => by simp
  | (y, e) :: A => by
    rw [List.lookup_cons, List.map_cons, List.mem_cons]
    cases hb : x == y with
    | true => simp [beq_iff_eq.mp hb]
    | false =>
      have : x ≠ y := by simpa using hb
      rw [show (A.lookup x = none ↔ x ∉ A.map (·.1)) from look_none]
      simp [this]
theorem look_some {x : Str} {A : List (Str × D)} : (A.lookup x).isSome = decide (x ∈ A.map (·.1)) := by
  cases h : A.lookup x with
  | none =>
    have := look_none.mp h
    simp [this]
  | some d =>
    have : x ∈ A.map (·.1) := by
      refine Classical.byContradiction fun q => ?_
      rw [look_none.mpr q] at h; cases h
    simp [this]
theorem dput_new {x : Str} {d : D} {A : List (Str × D)} (h : A.lookup x = none) : dput A x d = A ++ [(x, d)] := by
  unfold dput
  rw [h]
theorem map_ne {x : Str} {d : D} : ∀ {A : List (Str × D)}, x ∉ A.map (·.1) → (A.map fun p => if p.1 = x then (x, d) else p) = A
  | [], _ => rfl
  | (y, e) :: A, h => by
    rw [List.map_cons, List.mem_cons, not_or] at h
    rw [List.map_cons, if_neg (fun q => h.1 q.symm), map_ne h.2]
theorem dput_last {x : Str} {d1 d : D} {A : List (Str × D)} (h : A.lookup x = none) : dput (A ++ [(x, d1)]) x d = A ++ [(x, d)] := by
  unfold dput
  rw [look_app h]
  show (A ++ [(x, d1)]).map _ = _
  rw [List.map_append, map_ne (look_none.mp h), List.map_cons, if_pos rfl]
  rfl
def plainRow (n : Str) (bars : Tab) : Row := if n ∈ kinds5 then .ac [] n [] else if n = "full" ∨ n ∈ bars.map (·.1) then .pl [n] else if n = "return" then .pl [] else .pl ["full"]
theorem plain_eq (names : List Str) (bars : Tab) : plainM names bars = names.map fun n => (n, plainRow n bars) := rfl
theorem eRws_plain (names : List Str) (bars : Tab) : eRws (plainM names bars) = names.map fun n => (n, eR (plainRow n bars)) := by
  rw [plain_eq]
  unfold eRws
  rw [List.map_map]; rfl
theorem kinds_ok : ∀ s ∈ kinds5, PyData.strOk s = true := by decide +kernel
def others5 : List (Str × Str) := [("read", "acquire"), ("acquire", "read"), ("write", "release"), ("release", "write"), ("both", "both")]
theorem others_get {n : Str} (h : n ∈ kinds5) : (others5.map fun p => (p.1, D.str p.2)).lookup n = some (.str (otherM n)) := by
  simp only [kinds5, List.mem_cons, List.not_mem_nil, or_false] at h
  rcases h with rfl | rfl | rfl | rfl | rfl <;> rfl
theorem others_keys : (others5.map fun p => (p.1, D.str p.2)).map (·.1) = kinds5 := rfl
section
variable {P : Program} {w : World} {K : PySem.W.Frag} {mg : Str → Option Value} {bs : Heap} {X : Cx} {E : En}
def G_loose : List D → Rs → Prop := fun ds r => ∃ (nm : Str) (n : Int) (bars : List Str), ds = [.str nm, .int n, eNs bars] ∧ bars ≠ [] ∧ bars.length ≤ 1000 ∧ r = .val (eR (looseM nm n bars))
theorem kn_loose (T : Hd K mg) : Kn P w K mg bs CX0 2 "_law_loose" ["_law_name_here", "_law_number", "_law_bars"] (spG K G_loose) := by
  refine k_l_loose T ?_ ?_
  · rintro ds r ⟨_, _, _, rfl, _⟩; rfl
  · rintro c ds r hr ⟨nm, num, bars, rfl, hb, hl, rfl⟩
    refine q_asg 3 sc_l_loose.nd (h_disp others5 (pps_cons pe_str pe_str (pps_cons pe_str pe_str (pps_cons pe_str pe_str (pps_cons pe_str pe_str (pps_cons pe_str pe_str pps_nil))))) rfl) ?_
    rintro _ ⟨l, rfl⟩
    refine q_settle 3 ?_
    refine q_when (t_cmp (c_ninD (ru1 hr)) (h_var 0) (h_var 3)) (fun h => ?_) fun n1 => ?_
    · have h1 : nm ∉ kinds5 := by
        rw [look_some, others_keys] at h
        simpa using h
      refine s_one (h_ret (h_call (kn_some T) (hr.mono (by decide)) (ha_cons (h_var 1) (a2 (h_var 2) (d_is h_int (by rfl)))) ⟨num, bars, 4, rfl, hb, hl, by decide, rfl⟩) ?_)
      rintro _ rfl
      show Sl.val _ = _
      unfold looseM
      rw [if_neg h1]; rfl
    · have h1 : nm ∈ kinds5 := by
        rw [look_some, others_keys] at n1
        simpa using n1
      refine q_asg 4 sc_l_loose.nd (h_var 0) ?_
      rintro _ rfl
      refine q_if (fun E' => E' = [some (.val (.str nm)), some (.val (.int num)), some (.val (eNs bars)), some (.val (.dct (others5.map fun p => (p.1, D.str p.2)))), some (.val (.str (if num % 2 = 1 then otherM nm else nm)))])
        (t_cmp c_eqI (h_op (o_mod (by decide)) (h_callT f_int T.n_int PyProof.Rows.boot_int (a1 (h_var 1))) h_int) h_int) (fun h => ?_) (fun h => s_nil ?_) ?_
      · have h2 : num % 2 = 1 := of_decide_eq_true h
        refine s_one (h_asg (i := 4) sc_l_loose.nd (h_dget (ru1 hr) (others_get h1) (h_var 3) (h_var 0)) ?_)
        rintro _ rfl
        rw [if_pos h2]; rfl
      · have h2 : ¬ num % 2 = 1 := of_decide_eq_false h
        rw [if_neg h2]; rfl
      · rintro _ rfl
        refine s_one (h_ret (h_tup (ha_cons (h_call (kn_some T) (hr.mono (by decide)) (ha_cons (h_op (o_mod (by decide)) (h_callT f_int T.n_int PyProof.Rows.boot_int (a1 (h_op (o_div (by decide)) (h_var 1) h_int))) h_int) (a2 (h_var 2) (d_is h_int (by rfl)))) ⟨num / 2 % 405, bars, 4, rfl, hb, hl, by decide, rfl⟩)
          (a2 (h_var 4) (h_call (kn_some T) (hr.mono (by decide)) (ha_cons (h_op (o_div (by decide)) (h_var 1) h_int) (a2 (h_var 2) (d_is h_int (by rfl)))) ⟨num / 810, bars, 4, rfl, hb, hl, by decide, rfl⟩)))) ?_)
        rintro _ rfl
        show Sl.val _ = _
        unfold looseM
        rw [if_pos h1]; rfl
def G_plain : List D → Rs → Prop := fun ds r => ∃ (names : List Str) (t : Tab), ds = [eNs names, eTab t] ∧ Okl names ∧ names.Nodup ∧ r = .nD (eRws (plainM names t))
theorem tab_keys (t : Tab) : (t.map fun p => (p.1, eS p.2)).map (·.1) = t.map (·.1) := by rw [List.map_map]; rfl
theorem kn_plain (T : Hd K mg) : Kn P w K mg bs CX0 1 "_law_plain" ["_law_names_here", "_law_bars"] (spG K G_plain) := by
  refine k_l_plain T ?_ ?_
  · rintro ds r ⟨_, _, rfl, _⟩; rfl
  · rintro c ds r hr ⟨names, t, rfl, ok, nd, rfl⟩
    have hu := ru1 hr
    refine q_asg 2 sc_l_plain.nd h_dict0 ?_
    rintro _ ⟨l, rfl⟩
    refine q_for (fun i E' => ∃ o, E' = [some (.val (eNs names)), some (.val (eTab t)), some (.oD l (eRws (plainM (names.take i) t))), o]) (fun E' => ∃ o, E' = [some (.val (eNs names)), some (.val (eTab t)), some (.oD l (eRws (plainM names t))), o])
      (k_list (h_var 0)) (g_name 3 sc_l_plain.nd) ⟨_, rfl⟩ ?_ ?_ ?_
    · rintro i d E' hd ⟨o, rfl⟩
      obtain ⟨n, hn, rfl⟩ := map_get hd
      have hok := ok.1 n (mem_of_get hn)
      refine ⟨_, ⟨Nat.le_of_ble_eq_true rfl, rfl⟩, ?_⟩
      have hA : (eRws (plainM (names.take i) t)).lookup n = none := by
        rw [look_none, eRws_plain, List.map_map]
        intro hx
        have hx2 : n ∈ names.take i := by
          obtain ⟨y, hy, e⟩ := List.mem_map.mp hx
          exact (show y = n from e) ▸ hy
        have hs : names.take (i + 1) = names.take i ++ [n] := tk hn
        have hnd : (names.take (i + 1)).Nodup := nd.sublist (List.take_sublist _ _)
        rw [hs] at hnd
        exact (List.nodup_append.mp hnd).2.2 n hx2 n (List.mem_cons_self ..) rfl
      have hz : (eRws (plainM (names.take i) t)).length ≤ 100 := by
        rw [eRws_plain, List.length_map]
        exact Nat.le_trans (take_len_le _ _) ok.2
      have hz1 : ∀ d, (eRws (plainM (names.take i) t) ++ [(n, d)]).length < 1000 := fun d => by rw [List.length_append]; show _ + 1 < _; omega
      have fin : ∀ d, d = eR (plainRow n t) → (∃ o, ([some (.val (eNs names)), some (.val (eTab t)), some (.oD l (eRws (plainM (names.take i) t) ++ [(n, d)])), some (.val (.str n))] : En) = [some (.val (eNs names)), some (.val (eTab t)), some (.oD l (eRws (plainM (names.take (i + 1)) t))), o]) := by
        rintro _ rfl
        refine ⟨some (.val (.str n)), ?_⟩
        rw [eRws_plain, eRws_plain, tkm hn]
      refine s_cons (M := fun E' => E' = [some (.val (eNs names)), some (.val (eTab t)), some (.oD l (eRws (plainM (names.take i) t) ++ [(n, .tup [])])), some (.val (.str n))])
        (h_dput 2 (ru1 hr) (ds := eRws (plainM (names.take i) t)) (h_tup ha_nil) (h_var 3) (by omega) (by rw [dput_new hA]; rfl)) ?_
      rintro _ rfl
      refine s_one (h_ifS (t_cmp (c_inTS (L := kinds5) (ru65 hr) hok kinds_ok) (h_var 3) (h_tup (a5 h_str h_str h_str h_str h_str))) (fun h => ?_) fun h => ?_)
      · have h1 : n ∈ kinds5 := of_decide_eq_true h
        refine s_one (h_dput 2 (ru1 hr) (h_tup (ha_cons (h_tup ha_nil) (a2 (h_var 3) (h_tup ha_nil)))) (h_var 3) (hz1 _) ?_)
        rw [dput_last hA]
        exact fin _ (by unfold plainRow; rw [if_pos h1]; rfl)
      have h1 : ¬ n ∈ kinds5 := of_decide_eq_false h
      refine s_one (h_ifS (t_w (w_or (t_cmp c_eqS (h_var 3) h_str) fun _ => w_or1 (t_cmp (c_inD (ru1 hr)) (h_var 3) (h_var 1)))) (fun h => ?_) fun h => ?_)
      · have h2 : n = "full" ∨ n ∈ t.map (·.1) := by
          rw [look_some, tab_keys] at h
          simpa using h
        refine s_one (h_dput 2 (ru1 hr) (h_tup (a1 (h_var 3))) (h_var 3) (hz1 _) ?_)
        rw [dput_last hA]
        exact fin _ (by unfold plainRow; rw [if_neg h1, if_pos h2]; rfl)
      have h2 : ¬ (n = "full" ∨ n ∈ t.map (·.1)) := by
        rw [look_some, tab_keys] at h
        simpa using h
      refine s_one (h_ifS (t_cmp c_neS (h_var 3) h_str) (fun h => ?_) fun h => s_nil ?_)
      · have h3 : ¬ n = "return" := by simpa using h
        refine s_one (h_dput 2 (ru1 hr) (h_tup (a1 h_str)) (h_var 3) (hz1 _) ?_)
        rw [dput_last hA]
        exact fin _ (by unfold plainRow; rw [if_neg h1, if_neg h2, if_neg h3]; rfl)
      · have h3 : n = "return" := by simpa using h
        exact fin _ (by unfold plainRow; rw [if_neg h1, if_neg h2, if_pos h3]; rfl)
    · rintro E' ⟨o, rfl⟩
      refine ⟨o, ?_⟩
      rw [List.length_map, List.take_length]
    · rintro _ ⟨o, rfl⟩
      exact s_one (h_retOwn 2 (hn := ⟨_, rfl⟩))
end
end K39
/-! KL11 -/
set_option maxHeartbeats 4000000
namespace K39
open PySem PySem.Spec PyProof.Rows L2
/-! ### lookups of told tables and rows -/
theorem look_map {α : Type} {g : α → D} {n : Str} : ∀ {t : List (Str × α)}, (t.map fun p => (p.1, g p.2)).lookup n = (t.lookup n).map g
  | [] => rfl
  | (y, e) :: t => by
    rw [List.map_cons, List.lookup_cons, List.lookup_cons]
    cases n == y with
    | true => rfl
    | false => exact look_map
theorem look_mem {α : Type} {n : Str} : ∀ {t : List (Str × α)}, n ∈ t.map (·.1) → ∃ x, t.lookup n = some x ∧ (n, x) ∈ t
  | (y, e) :: t, h => by
    rw [List.lookup_cons]
    cases hb : n == y with
    | true =>
      rw [beq_iff_eq.mp hb]
      exact ⟨e, rfl, List.mem_cons_self ..⟩
    | false =>
      have : n ≠ y := by simpa using hb
      rw [List.map_cons, List.mem_cons] at h
      obtain ⟨x, h1, h2⟩ := look_mem (h.resolve_left this)
      exact ⟨x, h1, List.mem_cons_of_mem _ h2⟩
theorem mem_look {α : Type} {n : Str} {x : α} : ∀ {t : List (Str × α)}, t.lookup n = some x → n ∈ t.map (·.1) ∧ (n, x) ∈ t
  | (y, e) :: t, h => by
    rw [List.lookup_cons] at h
    cases hb : n == y with
    | true =>
      rw [hb] at h
      cases h
      rw [beq_iff_eq.mp hb]
      exact ⟨List.mem_cons_self .., List.mem_cons_self ..⟩
    | false =>
      rw [hb] at h
      obtain ⟨h1, h2⟩ := mem_look h
      exact ⟨List.mem_cons_of_mem _ h1, List.mem_cons_of_mem _ h2⟩
def SetOk (s : PSet) : Prop := (∀ p ∈ s, p ∈ pairsM) ∧ s.length ≤ 1000
structure TabOk (t : Tab) : Prop where
  ok : Okl (t.map (·.1))
  nd : (t.map (·.1)).Nodup
  sets : ∀ n s, t.lookup n = some s → SetOk s
theorem tab_get {t : Tab} {n : Str} (h : n ∈ t.map (·.1)) : (t.map fun p => (p.1, eS p.2)).lookup n = some (eS (setOf t n)) := by
  obtain ⟨x, h1, _⟩ := look_mem h
  rw [look_map, h1]
  unfold setOf
  rw [h1]; rfl
theorem TabOk.set {t : Tab} (T : TabOk t) (n : Str) : SetOk (setOf t n) := by
  unfold setOf
  cases h : t.lookup n with
  | none => exact ⟨fun p hp => (nomatch hp), Nat.zero_le _⟩
  | some s => exact T.sets n s h
def groupM (n : Str) : List Str := if n ∈ (["read", "acquire"] : List Str) then ["read", "acquire"] else if n ∈ (["write", "release"] : List Str) then ["write", "release"] else [n]
def RowIn (gates : List Str) : Row → Prop
  | .pl f => ∀ x ∈ f, x ∈ gates
  | .ac a _ b => (∀ x ∈ a, x ∈ gates) ∧ ∀ x ∈ b, x ∈ gates
/-- what the row of this name is like -/
def RowAt (n : Str) (x : Row) : Prop := (n ∈ kinds5 ∧ ∃ a k b, x = .ac a k b ∧ k ∈ groupM n) ∨ (n ∉ kinds5 ∧ ∃ f, x = .pl f)
structure RowsOk (names gates : List Str) (r : Rows) : Prop where
  keys : r.map (·.1) = names
  nd : names.Nodup
  ok : Okl names
  row : ∀ n x, r.lookup n = some x → x.ok ∧ RowIn gates x ∧ RowAt n x
  kin : ∀ n ∈ kinds5, n ∈ names
  ret : ("return" : Str) ∈ names
  full : ("full" : Str) ∈ names
theorem rows_get {r : Rows} {n : Str} {x : Row} (h : r.lookup n = some x) : (eRws r).lookup n = some (eR x) := by
  unfold eRws
  rw [look_map, h]; rfl
theorem RowsOk.at {names gates : List Str} {r : Rows} (R : RowsOk names gates r) {n : Str} (h : n ∈ names) : ∃ x, r.lookup n = some x ∧ rowOf r n = x ∧ (eRws r).lookup n = some (eR x) ∧ x.ok ∧ RowIn gates x ∧ RowAt n x := by
  rw [← R.keys] at h
  obtain ⟨x, h1, _⟩ := look_mem h
  exact ⟨x, h1, by unfold rowOf; rw [h1]; rfl, rows_get h1, R.row n x h1⟩
theorem RowsOk.atK {names gates : List Str} {r : Rows} (R : RowsOk names gates r) {n : Str} (h : n ∈ kinds5) : ∃ a k b, rowOf r n = .ac a k b ∧ (eRws r).lookup n = some (eR (.ac a k b)) ∧ (Row.ac a k b).ok ∧ RowIn gates (.ac a k b) ∧ k ∈ groupM n := by
  obtain ⟨x, _, h2, h3, h4, h5, h6⟩ := R.at (R.kin n h)
  rcases h6 with ⟨_, a, k, b, rfl, hk⟩ | ⟨q, _⟩
  · exact ⟨a, k, b, h2, h3, h4, h5, hk⟩
  · exact absurd h q
theorem RowsOk.atP {names gates : List Str} {r : Rows} (R : RowsOk names gates r) {n : Str} (h : n ∈ names) (hk : n ∉ kinds5) : ∃ f, rowOf r n = .pl f ∧ (eRws r).lookup n = some (eR (.pl f)) ∧ Okl f ∧ RowIn gates (.pl f) := by
  obtain ⟨x, _, h2, h3, h4, h5, h6⟩ := R.at h
  rcases h6 with ⟨q, _⟩ | ⟨_, f, rfl⟩
  · exact absurd q hk
  · exact ⟨f, h2, h3, h4, h5⟩
theorem ret_kind : ("return" : Str) ∉ kinds5 := by decide +kernel
theorem full_kind : ("full" : Str) ∉ kinds5 := by decide +kernel
section
variable {P : Program} {w : World} {K : PySem.W.Frag} {mg : Str → Option Value} {bs : Heap} {X : Cx} {E : En}
theorem sh_eP {p : Pair} (h : PyData.strOk p.1 = true ∧ PyData.strOk p.2 = true) : D.sh 1 (eP p) := ⟨h.1, h.2, trivial⟩
theorem c_inP {p : Pair} {s : PSet} (hu : X.A.units + 65 < cLine) (h : PyData.strOk p.1 = true ∧ PyData.strOk p.2 = true) (hs : SetOk s) : CmpOk X .In (eP p) (eS s) (decide (p ∈ s)) :=
  c_inL (n := 1) (m := 1) hu (sh_eP h) (sh_pairs hs.1) (by rw [decide_eq_true_eq, eP_mem])
theorem c_ninP {p : Pair} {s : PSet} (hu : X.A.units + 65 < cLine) (h : PyData.strOk p.1 = true ∧ PyData.strOk p.2 = true) (hs : SetOk s) : CmpOk X .NotIn (eP p) (eS s) (decide (p ∉ s)) :=
  c_ninL (n := 1) (m := 1) hu (sh_eP h) (sh_pairs hs.1) (by rw [decide_eq_true_eq, eP_mem])
def G_kept_by : List D → Rs → Prop := fun ds r => ∃ (kept : PSet) (t : Tab) (p : Pair) (pd : List Str), ds = [eS kept, eTab t, eP p, eF pd] ∧ SetOk kept ∧ TabOk t ∧ (PyData.strOk p.1 = true ∧ PyData.strOk p.2 = true) ∧ (∀ n ∈ pd, n = "full" ∨ n ∈ t.map (·.1)) ∧ r = .val (.bl (keptByM kept t p pd))
theorem kn_kept_by (T : Hd K mg) : Kn P w K mg bs CX0 1 "_law_kept_by" ["_law_kept", "_law_table_here", "_law_pair", "_law_passed"] (spG K G_kept_by) := by
  refine k_l_kept_by T ?_ ?_
  · rintro ds r ⟨_, _, _, _, rfl, _⟩; rfl
  · rintro c ds r hr ⟨kept, t, p, pd, rfl, hk, ht, hp, hpd, rfl⟩
    refine q_when (t_cmp (c_inP (ru65 hr) hp hk) (h_var 2) (h_var 0)) (fun h => s_one (h_ret h_bl ?_)) fun n1 => ?_
    · rintro _ rfl
      show Sl.val _ = _
      unfold keptByM
      rw [show decide (p ∈ kept) = true from h]; rfl
    have n1 : decide (p ∈ kept) = false := n1
    refine q_for (fun i E' => ∃ o, E' = [some (.val (eS kept)), some (.val (eTab t)), some (.val (eP p)), some (.val (eF pd)), o] ∧ ((pd.take i).any fun n => decide (n = "full") || decide (p ∈ setOf t n)) = false) (fun _ => (pd.any fun n => decide (n = "full") || decide (p ∈ setOf t n)) = false)
      (k_tup (h_var 3)) (g_name 4 sc_l_kept_by.nd) ⟨_, rfl, rfl⟩ ?_ ?_ ?_
    · rintro i d E' hd ⟨o, rfl, hf⟩
      obtain ⟨n, hn, rfl⟩ := map_get hd
      have hm := mem_of_get hn
      refine ⟨_, ⟨Nat.le_of_ble_eq_true rfl, rfl⟩, ?_⟩
      refine s_one (h_ifS (k := decide (n = "full") || decide (p ∈ setOf t n)) (t_w (w_or (t_cmp c_eqS (h_var 4) h_str) fun q => w_or1 (t_cmp (c_inP (ru65 hr) hp (ht.set n)) (h_var 2) (h_dget (ru1 hr) (tab_get ((hpd n hm).resolve_left (of_decide_eq_false q))) (h_var 1) (h_var 4))))) (fun h => s_one (h_ret h_bl ?_)) (fun h => s_nil ?_))
      · rintro _ rfl
        show Sl.val _ = _
        unfold keptByM
        rw [show (pd.any fun n => decide (n = "full") || decide (p ∈ setOf t n)) = true from List.any_eq_true.mpr ⟨n, hm, h⟩, Bool.or_true]
      · refine ⟨some (.val (.str n)), rfl, ?_⟩
        rw [tk hn, List.any_append, hf, Bool.false_or, List.any_cons, h]; rfl
    · rintro E' ⟨o, rfl, hf⟩
      rw [List.length_map, List.take_length] at hf
      exact hf
    · intro E' hf
      refine s_one (h_ret h_bl ?_)
      rintro _ rfl
      show Sl.val _ = _
      unfold keptByM
      rw [n1, hf]; rfl
def G_wanted : List D → Rs → Prop := fun ds r => ∃ (kept : PSet) (t : Tab) (a : Str) (f : Option Str) (b : Str), ds = [eS kept, eTab t, .str a, eO f, .str b] ∧ SetOk kept ∧ TabOk t ∧ (PyData.strOk a = true ∧ PyData.strOk b = true) ∧ (∀ n, f = some n → n = "full" ∨ n ∈ t.map (·.1)) ∧ r = .val (.bl (wantedM kept t a f b))
theorem kn_wanted (T : Hd K mg) : Kn P w K mg bs CX0 1 "_law_wanted" ["_law_kept", "_law_marks", "_law_first", "_law_fence", "_law_second"] (spG K G_wanted) := by
  refine k_l_wanted T ?_ ?_
  · rintro ds r ⟨_, _, _, _, _, rfl, _⟩; rfl
  · rintro c ds r hr ⟨kept, t, a, f, b, rfl, hk, ht, hp, hf, rfl⟩
    have tp : ∀ {E : En} {p1 p2 p3 : Pos} {k1 : Nat}, HasD (Cc.cx P w K mg bs N_l_wanted "_law_wanted" s_l_wanted c) E (.Name "_law_first" p1) (.str a) → HasD (Cc.cx P w K mg bs N_l_wanted "_law_wanted" s_l_wanted c) E (.Name "_law_second" p2) (.str b) →
      HasD (Cc.cx P w K mg bs N_l_wanted "_law_wanted" s_l_wanted c) E (.Tuple [.Name "_law_first" p1, .Name "_law_second" p2] k1 p3) (eP (a, b)) := fun h1 h2 => h_tup (a2 h1 h2)
    refine q_when (t_cmp c_isN (h_var 3) h_non) (fun h => ?_) fun h => ?_
    · cases f with
      | some n => cases h
      | none =>
        refine s_one (h_ret (h_cmp (c_inP (p := (a, b)) (ru65 hr) hp hk) (tp (h_var 2) (h_var 4)) (h_var 0)) ?_)
        rintro _ rfl
        rfl
    · cases f with
      | none => cases h
      | some n =>
        refine s_one (h_ret (h_and (h_cmp (c_ninP (p := (a, b)) (ru65 hr) hp hk) (tp (h_var 2) (h_var 4)) (h_var 0)) fun _ => h_and1 (h_or (h_cmp c_eqS (h_var 3) h_str) fun q => h_or1 (h_cmp (c_inP (p := (a, b)) (ru65 hr) hp (ht.set n)) (tp (h_var 2) (h_var 4))
          (h_dget (ru1 hr) (tab_get ((hf n rfl).resolve_left (of_decide_eq_false q))) (h_var 1) (h_var 3))))) ?_)
        rintro _ rfl
        rfl
def G_ahead : List D → Rs → Prop := fun ds r => ∃ (names gates : List Str) (rs : Rows) (b : Str), ds = [eRows rs, .str b] ∧ RowsOk names gates rs ∧ (b = "return" ∨ b ∈ kinds5) ∧ r = .val (eF (aheadM rs b))
theorem kn_ahead (T : Hd K mg) : Kn P w K mg bs CX0 1 "_law_ahead" ["_law_rows_here", "_law_second"] (spG K G_ahead) := by
  refine k_l_ahead T ?_ ?_
  · rintro ds r ⟨_, _, _, _, rfl, _⟩; rfl
  · rintro c ds r hr ⟨names, gates, rs, b, rfl, R, hb, rfl⟩
    refine q_when (t_cmp c_eqS (h_var 1) h_str) (fun h => ?_) fun h => ?_
    · have h1 : b = "return" := of_decide_eq_true h
      obtain ⟨f, e1, e2, _⟩ := R.atP R.ret ret_kind
      refine s_one (h_ret (h_dget (ru1 hr) e2 (h_var 0) h_str) ?_)
      rintro _ rfl
      show Sl.val _ = _
      unfold aheadM
      rw [if_pos h1, e1]; rfl
    · have h1 : ¬ b = "return" := of_decide_eq_false h
      obtain ⟨a, k, b', e1, e2, _⟩ := R.atK (hb.resolve_left h1)
      refine s_one (h_ret (h_ix (i_tup (j := 0) rfl) (h_dget (ru1 hr) e2 (h_var 0) (h_var 1)) h_int) ?_)
      rintro _ rfl
      show Sl.val _ = _
      unfold aheadM
      rw [if_neg h1, e1]; rfl
def G_becomes : List D → Rs → Prop := fun ds r => ∃ (names gates : List Str) (rs : Rows) (a b : Str), ds = [eRows rs, .str a, .str b] ∧ RowsOk names gates rs ∧ a ∈ kinds5 ∧ (b = "return" ∨ b ∈ kinds5) ∧ r = .val (eP (becomesM rs a b))
theorem kn_becomes (T : Hd K mg) : Kn P w K mg bs CX0 1 "_law_becomes" ["_law_rows_here", "_law_first", "_law_second"] (spG K G_becomes) := by
  refine k_l_becomes T ?_ ?_
  · rintro ds r ⟨_, _, _, _, _, rfl, _⟩; rfl
  · rintro c ds r hr ⟨names, gates, rs, a, b, rfl, R, ha, hb, rfl⟩
    obtain ⟨x, k, y, e1, e2, _⟩ := R.atK ha
    refine q_when (t_cmp c_eqS (h_var 2) h_str) (fun h => ?_) fun h => ?_
    · have h1 : b = "return" := of_decide_eq_true h
      refine s_one (h_ret (h_tup (a2 (h_ix (i_tup (j := 1) rfl) (h_dget (ru1 hr) e2 (h_var 0) (h_var 1)) h_int) h_str)) ?_)
      rintro _ rfl
      show Sl.val _ = _
      unfold becomesM
      rw [if_pos h1, e1]; rfl
    · have h1 : ¬ b = "return" := of_decide_eq_false h
      obtain ⟨x', k', y', e1', e2', _⟩ := R.atK (hb.resolve_left h1)
      refine s_one (h_ret (h_tup (a2 (h_ix (i_tup (j := 1) rfl) (h_dget (ru1 hr) e2 (h_var 0) (h_var 1)) h_int) (h_ix (i_tup (j := 1) rfl) (h_dget (ru1 hr) e2' (h_var 0) (h_var 2)) h_int))) ?_)
      rintro _ rfl
      show Sl.val _ = _
      unfold becomesM
      rw [if_neg h1, e1, e1']; rfl
end
end K39
/-! KL12 -/
set_option maxHeartbeats 4000000
namespace K39
open PySem PySem.Spec PyProof.Rows L2
theorem rput_cons (n : Str) (x : Row) (p : Str × Row) (r : Rows) : rput (p :: r) n x = (if p.1 = n then (n, x) else p) :: rput r n x := rfl
theorem rput_keys (n : Str) (x : Row) : ∀ (r : Rows), (rput r n x).map (·.1) = r.map (·.1)
  | [] => rfl
  | p :: r => by
    rw [rput_cons, List.map_cons, List.map_cons, rput_keys n x r]
    by_cases h : p.1 = n
    · rw [if_pos h, h]
    · rw [if_neg h]
theorem rput_ne {n m : Str} {x : Row} (h : m ≠ n) : ∀ (r : Rows), (rput r n x).lookup m = r.lookup m
  | [] => rfl
  | (y, e) :: r => by
    rw [rput_cons]
    by_cases hy : y = n
    · have hb : (m == n) = false := by simpa using h
      rw [if_pos hy, List.lookup_cons, List.lookup_cons, hy, hb]
      exact rput_ne h r
    · rw [if_neg hy, List.lookup_cons, List.lookup_cons, rput_ne h r]
theorem rput_eq {n : Str} {x : Row} : ∀ {r : Rows}, n ∈ r.map (·.1) → (rput r n x).lookup n = some x
  | (y, e) :: r, h => by
    rw [rput_cons]
    by_cases hy : y = n
    · rw [if_pos hy, List.lookup_cons, beq_self_eq_true]
    · have hb : (n == y) = false := by simpa using fun q : n = y => hy q.symm
      rw [if_neg hy, List.lookup_cons, hb]
      rw [List.map_cons, List.mem_cons] at h
      exact rput_eq (h.resolve_left fun q => hy q.symm)
theorem dput_old {n : Str} {x : Row} {r : Rows} (h : n ∈ r.map (·.1)) : dput (eRws r) n (eR x) = eRws (rput r n x) := by
  obtain ⟨z, hz, _⟩ := look_mem h
  unfold dput
  rw [rows_get hz]
  show (eRws r).map _ = _
  unfold eRws rput
  rw [List.map_map, List.map_map]
  refine List.map_congr_left fun p _ => ?_
  show (if p.1 = n then (n, eR x) else (p.1, eR p.2)) = _
  by_cases hp : p.1 = n
  · rw [if_pos hp]; show _ = (fun p : Str × Row => (p.1, eR p.2)) (if p.1 = n then (n, x) else p); rw [if_pos hp]
  · rw [if_neg hp]; show _ = (fun p : Str × Row => (p.1, eR p.2)) (if p.1 = n then (n, x) else p); rw [if_neg hp]
/-- a row put where it fits -/
theorem RowsOk.put {names gates : List Str} {r : Rows} (R : RowsOk names gates r) {n : Str} {x : Row} (h1 : x.ok) (h2 : RowIn gates x) (h3 : RowAt n x) : RowsOk names gates (rput r n x) where
  keys := by rw [rput_keys, R.keys]
  nd := R.nd
  ok := R.ok
  row := fun m y hy => by
    by_cases h : m = n
    · subst h
      by_cases hm : m ∈ r.map (·.1)
      · rw [rput_eq hm] at hy
        cases hy
        exact ⟨h1, h2, h3⟩
      · have hy2 := (mem_look hy).1
        rw [rput_keys] at hy2
        exact absurd hy2 hm
    · rw [rput_ne h] at hy
      exact R.row m y hy
  kin := R.kin
  ret := R.ret
  full := R.full
/-! ### which rows the law makes -/
structure GatesOk (gates : List Str) : Prop where
  ok : Okl gates
  full : ("full" : Str) ∈ gates
theorem GatesOk.ne {gates : List Str} (h : GatesOk gates) : gates ≠ [] := fun e => by
  have := h.full
  rw [e] at this
  cases this
theorem some_ok {n : Int} {gates : List Str} {m : Nat} (h : GatesOk gates) (hm : m ≤ 99) : Okl (someF n gates m) ∧ ∀ x ∈ someF n gates m, x ∈ gates := by
  have hx : ∀ x ∈ someF n gates m, x ∈ gates := fun x hx => someM_mem h.ne hx
  refine ⟨⟨fun x q => h.ok.1 x (hx x q), ?_⟩, hx⟩
  unfold someF
  rw [someM_len]
  have := Int.emod_lt_of_pos n (show (0 : Int) < (m : Int) + 1 by omega)
  omega
theorem other_group {n : Str} (h : n ∈ kinds5) : otherM n ∈ groupM n ∧ n ∈ groupM n ∧ PyData.strOk (otherM n) = true := by
  have : ∀ n ∈ kinds5, otherM n ∈ groupM n ∧ n ∈ groupM n ∧ PyData.strOk (otherM n) = true := by decide +kernel
  exact this n h
theorem loose_ok {nm : Str} {n : Int} {gates : List Str} (h : GatesOk gates) : (looseM nm n gates).ok ∧ RowIn gates (looseM nm n gates) ∧ RowAt nm (looseM nm n gates) := by
  unfold looseM
  by_cases hk : nm ∈ kinds5
  · rw [if_pos hk]
    have g := other_group hk
    have k1 := some_ok (n := n / 2 % 405) h (show 4 ≤ 99 by decide)
    have k2 := some_ok (n := n / 810) h (show 4 ≤ 99 by decide)
    refine ⟨⟨k1.1, ?_, k2.1⟩, ⟨k1.2, k2.2⟩, .inl ⟨hk, _, _, _, rfl, ?_⟩⟩
    · split
      · exact g.2.2
      · exact kinds_ok nm hk
    · split
      · exact g.1
      · exact g.2.1
  · rw [if_neg hk]
    have k1 := some_ok (n := n) h (show 4 ≤ 99 by decide)
    exact ⟨k1.1, k1.2, .inr ⟨hk, _, rfl⟩⟩
theorem normal_fit {nm : Str} {gates : List Str} : ∀ {x : Row}, x.ok ∧ RowIn gates x ∧ RowAt nm x → (normalM x).ok ∧ RowIn gates (normalM x) ∧ RowAt nm (normalM x)
  | .pl f, h => ⟨ok_normal h.1, fun x hx => h.2.1 x (ascS_mem.mp hx), by
      rcases h.2.2 with ⟨_, _, _, _, e, _⟩ | ⟨q, _⟩
      · cases e
      · exact .inr ⟨q, _, rfl⟩⟩
  | .ac a k b, h => ⟨ok_normal h.1, ⟨fun x hx => h.2.1.1 x (ascS_mem.mp hx), fun x hx => h.2.1.2 x (ascS_mem.mp hx)⟩, by
      rcases h.2.2 with ⟨q, _, _, _, e, g⟩ | ⟨_, _, e⟩
      · cases e
        exact .inl ⟨q, _, _, _, rfl, g⟩
      · cases e⟩
/-- what the names are like -/
structure NamesOk (names : List Str) : Prop where
  nd : names.Nodup
  ok : Okl names
  kin : ∀ n ∈ kinds5, n ∈ names
  ret : ("return" : Str) ∈ names
  full : ("full" : Str) ∈ names
theorem plain_ok {names gates : List Str} {bars : Tab} (N : NamesOk names) (hg : GatesOk gates) (hb : ∀ n ∈ bars.map (·.1), n ∈ gates) : RowsOk names gates (plainM names bars) where
  keys := by
    rw [plain_eq, List.map_map]
    exact List.map_id' names
  nd := N.nd
  ok := N.ok
  row := fun n x h => by
    have hm := (mem_look h).2
    rw [plain_eq] at hm
    obtain ⟨m, hm1, e⟩ := List.mem_map.mp hm
    cases e
    have hok := N.ok.1 _ hm1
    have one : ∀ y : Str, PyData.strOk y = true → Okl [y] := fun y hy => ⟨fun x hx => by rw [List.mem_singleton.mp hx]; exact hy, Nat.le_of_ble_eq_true rfl⟩
    have nil : Okl [] := ⟨(fun x hx => by cases hx), Nat.zero_le _⟩
    unfold plainRow
    by_cases h1 : n ∈ kinds5
    · rw [if_pos h1]
      exact ⟨⟨nil, hok, nil⟩, ⟨(fun x hx => by cases hx), (fun x hx => by cases hx)⟩, .inl ⟨h1, _, _, _, rfl, (other_group h1).2.1⟩⟩
    rw [if_neg h1]
    by_cases h2 : n = "full" ∨ n ∈ bars.map (·.1)
    · rw [if_pos h2]
      refine ⟨one n hok, fun x hx => ?_, .inr ⟨h1, _, rfl⟩⟩
      rw [List.mem_singleton.mp hx]
      rcases h2 with rfl | h2
      · exact hg.full
      · exact hb n h2
    rw [if_neg h2]
    by_cases h3 : n = "return"
    · rw [if_pos h3]
      exact ⟨nil, (fun x hx => by cases hx), .inr ⟨h1, _, rfl⟩⟩
    rw [if_neg h3]
    refine ⟨one _ (hg.ok.1 _ hg.full), fun x hx => ?_, .inr ⟨h1, _, rfl⟩⟩
    rw [List.mem_singleton.mp hx]; exact hg.full
  kin := N.kin
  ret := N.ret
  full := N.full
theorem rowsStep_ok {row : List Int} {at_ : Nat} {names gates : List Str} {r : Rows} {k : Nat} (hg : GatesOk gates) (R : RowsOk names gates r) : RowsOk names gates (rowsStep row at_ names gates r k) := by
  unfold rowsStep
  split
  · have h := normal_fit (loose_ok (nm := names.getD k "") (n := row.getD (at_ + k) 0 / 3) hg)
    exact R.put h.1 h.2.1 h.2.2
  · exact R
theorem steps_ok {row : List Int} {at_ : Nat} {names gates : List Str} (hg : GatesOk gates) : ∀ (l : List Nat) {r : Rows}, RowsOk names gates r → RowsOk names gates (l.foldl (rowsStep row at_ names gates) r)
  | [], _, R => R
  | k :: l, _, R => steps_ok hg l (rowsStep_ok hg R)
theorem rows_ok {row : List Int} {at_ : Nat} {names gates : List Str} {bars : Tab} (N : NamesOk names) (hg : GatesOk gates) (hb : ∀ n ∈ bars.map (·.1), n ∈ gates) : RowsOk names gates (rowsM row at_ names bars gates) :=
  steps_ok hg _ (plain_ok N hg hb)
end K39
/-! KL13 -/
set_option maxHeartbeats 4000000
namespace K39
open PySem PySem.Spec PyProof.Rows L2
def eNums (l : List Int) : D := .lst (l.map D.int)
theorem getD_get {α : Type} {l : List α} {i : Nat} {d : α} (h : i < l.length) : l[i]? = some (l.getD i d) := by
  rw [List.getD_eq_getElem?_getD, List.getElem?_eq_getElem h]; rfl
section
variable {P : Program} {w : World} {K : PySem.W.Frag} {mg : Str → Option Value} {bs : Heap} {X : Cx} {E : En}
def G_rows : List D → Rs → Prop := fun ds r => ∃ (row : List Int) (at_ : Nat) (names : List Str) (bars : Tab) (gates : List Str), ds = [eNums row, .int at_, eNs names, eTab bars, eNs gates] ∧ at_ + names.length ≤ row.length ∧ NamesOk names ∧ GatesOk gates ∧ (∀ n ∈ bars.map (·.1), n ∈ gates) ∧ r = .nD (eRws (rowsM row at_ names bars gates))
theorem kn_rows (T : Hd K mg) : Kn P w K mg bs CX0 3 "_law_rows" ["_law_row", "_law_at", "_law_names_here", "_law_bars", "_law_gates"] (spG K G_rows) := by
  refine k_l_rows T ?_ ?_
  · rintro ds r ⟨_, _, _, _, _, rfl, _⟩; rfl
  · rintro c ds r hr ⟨row, at_, names, bars, gates, rfl, hl, N, hg, hb, rfl⟩
    have hu := ru1 hr
    refine q_asg 5 sc_l_rows.nd (h_call (kn_plain T) (hr.mono (by decide)) (a2 (h_var 2) (h_var 3)) ⟨names, bars, rfl, N.ok, N.nd, rfl⟩) ?_
    rintro _ ⟨l, rfl⟩
    let R := fun i => (List.range i).foldl (rowsStep row at_ names gates) (plainM names bars)
    have hR : ∀ i, RowsOk names gates (R i) := fun i => steps_ok hg _ (plain_ok N hg hb)
    have hn100 := N.ok.2
    refine q_for (fun i E' => ∃ o, E' = [some (.val (eNums row)), some (.val (.int at_)), some (.val (eNs names)), some (.val (eTab bars)), some (.val (eNs gates)), some (.oD l (eRws (R i))), o])
      (fun E' => ∃ o, E' = [some (.val (eNums row)), some (.val (.int at_)), some (.val (eNs names)), some (.val (eTab bars)), some (.val (eNs gates)), some (.oD l (eRws (rowsM row at_ names bars gates))), o])
      (k_range (n := (names.length : Int)) T.n_range (d_is (h_callB f_lenL T.n_len PySem.boot_len (a1 (h_var 2))) (by rw [List.length_map])) (by omega) (by omega)) (g_name 6 sc_l_rows.nd) ⟨_, rfl⟩ ?_ ?_ ?_
    · rintro i d E' hd ⟨o, rfl⟩
      obtain ⟨hi, rfl⟩ := nums_get hd
      have hi : i < names.length := by omega
      refine ⟨_, ⟨Nat.le_of_ble_eq_true rfl, rfl⟩, ?_⟩
      have hrow : row[at_ + i]? = some (row.getD (at_ + i) 0) := getD_get (by omega)
      have hnm : names[i]? = some (names.getD i "") := getD_get hi
      have eR1 : R (i + 1) = rowsStep row at_ names gates (R i) i := by
        show (List.range (i + 1)).foldl _ _ = _
        rw [List.range_succ, List.foldl_append]; rfl
      refine s_one (h_ifS (t_cmp c_gt (h_op (o_mod (by decide)) (h_callT f_int T.n_int PyProof.Rows.boot_int (a1 (h_ix (i_lst (ds := row.map D.int) (j := at_ + i) (by rw [List.getElem?_map, hrow]; rfl)) (h_var 0) (d_is (h_op o_add (h_var 1) (h_var 6)) (by rw [Int.natCast_add]))))) h_int) h_int) (fun h => ?_) (fun h => s_nil ?_))
      · have h1 : row.getD (at_ + i) 0 % 3 > 0 := of_decide_eq_true h
        have lk := loose_ok (nm := names.getD i "") (n := row.getD (at_ + i) 0 / 3) hg
        refine s_one (h_dput 5 (ru1 hr) (ds := eRws (R i)) (y := names.getD i "") (h_call (kn_normal T) (hr.mono (by decide)) (a1 (h_call (kn_loose T) (hr.mono (by decide)) (ha_cons (h_ix (i_lst (ds := names.map D.str) (j := i) (by rw [List.getElem?_map, hnm]; rfl)) (h_var 2) (h_var 6))
          (a2 (h_op (o_div (by decide)) (h_ix (i_lst (ds := row.map D.int) (j := at_ + i) (by rw [List.getElem?_map, hrow]; rfl)) (h_var 0) (d_is (h_op o_add (h_var 1) (h_var 6)) (by rw [Int.natCast_add]))) h_int) (h_var 4))) ⟨names.getD i "", row.getD (at_ + i) 0 / 3, gates, rfl, hg.ne, Nat.le_trans hg.ok.2 (by decide), rfl⟩)) ⟨_, rfl, lk.1, rfl⟩)
          (h_ix (i_lst (ds := names.map D.str) (j := i) (by rw [List.getElem?_map, hnm]; rfl)) (h_var 2) (h_var 6)) ?_ ?_)
        · rw [eRws, List.length_map, ← List.length_map (f := (·.1)) (as := R i), (hR i).keys]; omega
        · rw [dput_old (by rw [(hR i).keys]; exact mem_of_get hnm)]
          refine ⟨some (.val (.int i)), ?_⟩
          rw [eR1, rowsStep, if_pos h1]; rfl
      · have h1 : ¬ row.getD (at_ + i) 0 % 3 > 0 := of_decide_eq_false h
        refine ⟨some (.val (.int i)), ?_⟩
        rw [eR1, rowsStep, if_neg h1]; rfl
    · rintro E' ⟨o, rfl⟩
      refine ⟨o, ?_⟩
      rw [show (nums ((names.length : Int)).toNat).length = names.length by unfold nums; rw [List.length_map, List.length_range]; omega]
      rfl
    · rintro _ ⟨o, rfl⟩
      exact s_one (h_retOwn 5 (hn := ⟨_, rfl⟩))
def G_able : List D → Rs → Prop := fun ds r => ∃ (names gates : List Str) (rs : Rows) (bars : Tab) (t : Trip), ds = [eRows rs, eTab bars, eT t] ∧ RowsOk names gates rs ∧ TabOk bars ∧ t.1 ∈ kinds5 ∧ (t.2.2 = "return" ∨ t.2.2 ∈ kinds5) ∧ r = .nL ((ableM rs bars t).map .str)
theorem group_ok {k n : Str} (h : n ∈ kinds5) (hk : k ∈ groupM n) : PyData.strOk k = true := by
  have : ∀ n ∈ kinds5, ∀ k ∈ groupM n, PyData.strOk k = true := by decide +kernel
  exact this n h k hk
theorem becomes_ok {names gates : List Str} {rs : Rows} (R : RowsOk names gates rs) {a b : Str} (ha : a ∈ kinds5) (hb : b = "return" ∨ b ∈ kinds5) : PyData.strOk (becomesM rs a b).1 = true ∧ PyData.strOk (becomesM rs a b).2 = true := by
  obtain ⟨x, k, y, e1, _, _, _, g⟩ := R.atK ha
  unfold becomesM
  refine ⟨?_, ?_⟩
  · show PyData.strOk (rowOf rs a).kind = true
    rw [e1]; exact group_ok ha g
  · show PyData.strOk (if b = "return" then "return" else (rowOf rs b).kind) = true
    by_cases h1 : b = "return"
    · rw [if_pos h1]; decide +kernel
    · rw [if_neg h1]
      obtain ⟨x, k, y, e1, _, _, _, g⟩ := R.atK (hb.resolve_left h1)
      rw [e1]; exact group_ok (hb.resolve_left h1) g
theorem str_inj' : ∀ a b : Str, D.str a = D.str b → a = b := fun _ _ h => D.str.inj h
theorem kn_able (T : Hd K mg) : Kn P w K mg bs CX0 2 "_law_able" ["_law_rows_here", "_law_bars", "_law_pair"] (spG K G_able) := by
  refine k_l_able T ?_ ?_
  · rintro ds r ⟨_, _, _, _, _, rfl, _⟩; rfl
  · rintro c ds r hr ⟨names, gates, rs, bars, ⟨a, f, b⟩, rfl, R, hB, ha, hb, rfl⟩
    have hu := ru1 hr
    have pk := becomes_ok R ha hb
    refine q_asg 3 sc_l_able.nd (h_call (kn_becomes T) (hr.mono (by decide)) (ha_cons (h_var 0) (a2 (h_ix (i_tup (j := 0) (d := .str a) rfl) (h_var 2) h_int) (h_ix (i_tup (j := 2) (d := .str b) rfl) (h_var 2) h_int))) ⟨names, gates, rs, a, b, rfl, R, ha, hb, rfl⟩) ?_
    rintro _ rfl
    have hk : (keysD (bars.map fun p => (p.1, eS p.2))).filterMap (kfOf D.str D.str (fun n => decide (becomesM rs a b ∈ setOf bars n))) = ((bars.map (·.1)).filter fun n => decide (becomesM rs a b ∈ setOf bars n)).map D.str := by
      rw [keys_tab]
      exact kf_all str_inj' _
    have hlen := hB.ok.2
    refine s_one (h_ret (r_is (h_op (o_cat (ds := [D.str "full"]) (es := ((bars.map fun p : Str × PSet => p.1).filter fun n => decide (becomesM rs a b ∈ setOf bars n)).map D.str) (by
        rw [List.length_map]
        have := List.length_filter_le (fun n => decide (becomesM rs a b ∈ setOf bars n)) (bars.map (·.1))
        show 1 + _ ≤ 1000
        omega)) (h_settle (h_lst (a1 h_str)))
      (h_settle (r_is (h_lcD 1 4 (kfOf D.str D.str (fun n => decide (becomesM rs a b ∈ setOf bars n))) sc_l_able.nd (ds := bars.map fun p => (p.1, eS p.2)) (by rw [List.length_map]; rw [List.length_map] at hlen; omega) rfl (fun i d hd b' => ?_)) (by rw [hk])))) rfl) fun s hs => hs)
    rw [keys_tab] at hd
    obtain ⟨n, hn, rfl⟩ := map_get hd
    rw [kf_at str_inj']
    by_cases q : decide (becomesM rs a b ∈ setOf bars n) = true
    · rw [if_pos q]
      exact ⟨ts_one (t_is (t_cmp (c_inP (p := becomesM rs a b) (ru65 hr) pk (hB.set n)) (h_var 3) (h_dget (ru1 hr) (tab_get (mem_of_get hn)) (h_var 1) (h_var 4))) q), fun d' e => by cases e; exact h_var 4⟩
    · rw [if_neg q]
      exact ⟨ts_one (t_is (t_cmp (c_inP (p := becomesM rs a b) (ru65 hr) pk (hB.set n)) (h_var 3) (h_dget (ru1 hr) (tab_get (mem_of_get hn)) (h_var 1) (h_var 4))) (by simpa using q)), fun d' e => by cases e⟩
end
end K39
/-! KL14 -/
set_option maxHeartbeats 4000000
namespace K39
open PySem PySem.Spec PyProof.Rows L2
/-- the four books' tables and a recipe's rows -/
structure LawOk (names gates : List Str) (kept : PSet) (marks : Tab) (goal : PSet) (bars : Tab) (rs : Rows) : Prop where
  hkept : SetOk kept
  hgoal : SetOk goal
  hmarks : TabOk marks
  hbars : TabOk bars
  rows : RowsOk names gates rs
  gin : ∀ g ∈ gates, g = "full" ∨ g ∈ bars.map (·.1)
  min : ∀ n ∈ marks.map (·.1), n ∈ names ∧ n ∉ kinds5
theorem pairs_first {p : Pair} (h : p ∈ pairsM) : p.1 ∈ kinds5 ∧ (p.2 = "return" ∨ p.2 ∈ kinds5) := by
  have : ∀ p ∈ pairsM, p.1 ∈ kinds5 ∧ (p.2 = "return" ∨ p.2 ∈ kinds5) := by decide +kernel
  exact this p h
def midM (rs : Rows) : Option Str → List Str
  | none => []
  | some f => (rowOf rs f).fs
theorem lost1_eq (kept : PSet) (marks : Tab) (goal : PSet) (bars : Tab) (r : Rows) (t : Trip) : lLost1 kept marks goal bars r t = (wantedM kept marks t.1 t.2.1 t.2.2 && !keptByM goal bars (becomesM r t.1 t.2.2) ((rowOf r t.1).behind ++ midM r t.2.1 ++ aheadM r t.2.2)) := by
  unfold lLost1
  cases t.2.1 <;> rfl
def lostB (L : Trip → Bool) (a : Str) (f : Option Str) (k : Nat) : List Trip := (((pairsM.take k).filter fun p => decide (p.1 = a)).map fun p => (a, f, p.2)).filter L
theorem lostB_succ {L : Trip → Bool} {a : Str} {f : Option Str} {k : Nat} {p : Pair} (h : pairsM[k]? = some p) : lostB L a f (k + 1) = lostB L a f k ++ (if (decide (p.1 = a) && L (a, f, p.2)) = true then [(a, f, p.2)] else []) := by
  unfold lostB
  rw [tkfilter h, List.map_append, List.filter_append]
  by_cases h1 : p.1 = a
  · rw [if_pos (decide_eq_true h1), decide_eq_true h1, Bool.true_and]
    cases hL : L (a, f, p.2) with
    | true => simp [hL]
    | false => simp [hL]
  · rw [if_neg (by simpa using h1), decide_eq_false h1, Bool.false_and]
    simp
theorem lostB_len {L : Trip → Bool} {a : Str} {f : Option Str} {k : Nat} : (lostB L a f k).length ≤ 27 := by
  unfold lostB
  refine Nat.le_trans (List.length_filter_le _ _) ?_
  rw [List.length_map]
  exact filt_len _ _ _
def lostA (L : Trip → Bool) (fences : List (Option Str)) (a : Str) : List Trip := fences.flatMap fun f => lostB L a f 27
theorem lost_eq (kept : PSet) (marks : Tab) (goal : PSet) (bars : Tab) (r : Rows) : lLostM kept marks goal bars r = kinds5.flatMap (lostA (lLost1 kept marks goal bars r) (fencesM marks)) := by
  unfold lLostM tripsM lostA lostB
  rw [List.filter_flatMap]
  congr 1
  funext a
  rw [List.filter_flatMap]
  congr 1
section
variable {P : Program} {w : World} {K : PySem.W.Frag} {mg : Str → Option Value} {bs : Heap} {X : Cx} {E : En}
def G_lspots : List D → Rs → Prop := fun ds r => ∃ t : Trip, ds = [eT t] ∧ r = .nL ((spotsM t).map eP)
theorem kn_lspots (T : Hd K mg) : Kn P w K mg bs CX0 1 "_law_spots" ["_law_pair"] (spG K G_lspots) := by
  refine k_l_spots T ?_ ?_
  · rintro ds r ⟨t, rfl, _⟩; rfl
  · rintro c ds r hr ⟨⟨f, o, s⟩, rfl, rfl⟩
    refine q_unpack (h_var 0) (g_tup3 1 2 3 sc_l_spots.nd) ⟨Nat.le_of_ble_eq_true rfl, Nat.le_of_ble_eq_true rfl, Nat.le_of_ble_eq_true rfl, _, _, _, rfl, rfl⟩ ?_
    refine q_asg 4 sc_l_spots.nd (h_lst (ha_cons (h_tup (ha_cons (h_var 1) (ha_cons h_str ha_nil))) ha_nil)) ?_
    rintro _ ⟨l, rfl⟩
    refine q_if (fun E' => E' = [some (.val (eT (f, o, s))), some (.val (.str f)), some (.val (eO o)), some (.val (.str s)), some (.oL l ((eP (f, "behind")) :: (match o with | none => [] | some g => [eP (g, "row")])))])
      (t_cmp c_notN (h_var 2) h_non) (fun h => ?_) (fun h => ?_) ?_
    · cases o with
      | none => cases h
      | some g => exact s_one (h_append 4 (h_tup (ha_cons (h_var 2) (ha_cons h_str ha_nil))) (Nat.le_of_ble_eq_true rfl) rfl)
    · cases o with
      | none => exact s_nil rfl
      | some g => cases h
    · rintro _ rfl
      refine q_if (fun E' => E' = [some (.val (eT (f, o, s))), some (.val (.str f)), some (.val (eO o)), some (.val (.str s)), some (.oL l ((spotsM (f, o, s)).map eP))])
        (t_cmp c_eqS (h_var 3) h_str) (fun h => s_one (h_append 4 (d := eP ("return", "row")) (h_tup (a2 h_str h_str)) ?_ ?_)) (fun h => s_one (h_append 4 (d := eP (s, "ahead")) (h_tup (a2 (h_var 3) h_str)) ?_ ?_)) ?_
      · cases o <;> exact Nat.le_of_ble_eq_true rfl
      · have h1 : s = "return" := of_decide_eq_true h
        unfold spotsM
        rw [if_pos (show (f, o, s).2.2 = "return" from h1)]
        cases o <;> rfl
      · cases o <;> exact Nat.le_of_ble_eq_true rfl
      · have h1 : ¬ s = "return" := of_decide_eq_false h
        unfold spotsM
        rw [if_neg (show ¬ (f, o, s).2.2 = "return" from h1)]
        cases o <;> rfl
      · rintro _ rfl
        exact s_one (h_retOwn 4 (hn := ⟨_, rfl⟩))
def G_lost : List D → Rs → Prop := fun ds r => ∃ (names gates : List Str) (kept : PSet) (marks : Tab) (goal : PSet) (bars : Tab) (rs : Rows), ds = [eS kept, eTab marks, eS goal, eTab bars, eRows rs] ∧ LawOk names gates kept marks goal bars rs ∧ r = .nL ((lLostM kept marks goal bars rs).map eT)
theorem kn_llost (T : Hd K mg) : Kn P w K mg bs CX0 2 "_law_lost" ["_law_kept", "_law_marks", "_law_goal_here", "_law_bars", "_law_rows_here"] (spG K G_lost) := by
  refine k_l_lost T ?_ ?_
  · rintro ds r ⟨_, _, _, _, _, _, _, rfl, _⟩; rfl
  · rintro c ds r hr ⟨names, gates, kept, marks, goal, bars, rs, rfl, W, rfl⟩
    have hu := ru1 hr
    rw [lost_eq]
    generalize hL : lLost1 kept marks goal bars rs = L
    let fs := fencesM marks
    have hlf : fs.length ≤ 102 := by
      show (none :: (gatesM marks).map some).length ≤ 102
      rw [List.length_cons, List.length_map, gatesM, sortS_len, List.length_cons]
      have := W.hmarks.ok.2
      omega
    have hgl : (gatesM marks).length ≤ 101 := by
      rw [gatesM, sortS_len, List.length_cons]
      have := W.hmarks.ok.2
      omega
    have lenA : ∀ a, (lostA L fs a).length ≤ 2754 := fun a => Nat.le_trans (flat_len (fun f => lostB_len) fs) (by omega)
    let B := fun (F : List Trip) (o6 o7 o8 o9 o10 o11 : Option Sl) (l : Addr) => ([some (.val (eS kept)), some (.val (eTab marks)), some (.val (eS goal)), some (.val (eTab bars)), some (.val (eRows rs)), some (.oL l (F.map eT)), o6, o7, o8, o9, o10, o11] : En)
    refine q_asg 5 sc_l_lost.nd (h_lst ha_nil) ?_
    rintro _ ⟨l, rfl⟩
    refine q_for (fun i E' => ∃ o6 o7 o8 o9 o10 o11, E' = B ((kinds5.take i).flatMap (lostA L fs)) o6 o7 o8 o9 o10 o11 l) (fun E' => ∃ o6 o7 o8 o9 o10 o11, E' = B (kinds5.flatMap (lostA L fs)) o6 o7 o8 o9 o10 o11 l)
      (k_list (h_settle (h_lst (a5 h_str h_str h_str h_str h_str)))) (g_name 6 sc_l_lost.nd) ⟨_, _, _, _, _, _, rfl⟩ ?_ ?_ ?_
    · rintro i d E' hd ⟨o6, o7, o8, o9, o10, o11, rfl⟩
      obtain ⟨a, ha, rfl⟩ := map_get (f := D.str) (l := kinds5) hd
      have hak := mem_of_get ha
      refine ⟨_, ⟨Nat.le_of_ble_eq_true rfl, rfl⟩, ?_⟩
      obtain ⟨xa, xk, xb, ea, ga, oka, ina, _⟩ := W.rows.atK hak
      have len1 : ((kinds5.take i).flatMap (lostA L fs)).length ≤ 13770 := Nat.le_trans (flat_len lenA _) (by
        have := take_len_le kinds5 i
        rw [show kinds5.length = 5 from rfl] at this
        omega)
      refine q_for (N := ⟨_, _, _, _⟩) (fun j E' => ∃ o7 o8 o9 o10 o11, E' = B ((kinds5.take i).flatMap (lostA L fs) ++ (fs.take j).flatMap fun f => lostB L a f 27) (some (.val (.str a))) o7 o8 o9 o10 o11 l) (fun E' => ∃ o7 o8 o9 o10 o11, E' = B ((kinds5.take i).flatMap (lostA L fs) ++ lostA L fs a) (some (.val (.str a))) o7 o8 o9 o10 o11 l)
        (k_list (ds := fs.map eO) (d_is (h_settle (h_op (o_cat (ds := [D.non]) (es := (gatesM marks).map D.str) (by
            rw [List.length_map]
            show 1 + _ ≤ 1000
            omega)) (h_settle (h_lst (a1 h_non)))
          (h_settle (h_callB (f_sortedS (L := "full" :: marks.map (·.1)) (ru64 hr) (fun x hx => by
            rcases List.mem_cons.mp hx with rfl | hx
            · exact W.rows.ok.1 _ W.rows.full
            · exact W.hmarks.ok.1 x hx) (by rw [List.length_cons]; have := W.hmarks.ok.2; omega)) T.n_sorted PyProof.Rows.boot_sorted (a1 (d_is (h_settle (h_op (o_cat (ds := [D.str "full"]) (es := (marks.map (·.1)).map D.str) (by rw [List.length_map]; have := W.hmarks.ok.2; show 1 + _ ≤ 1000; omega)) (h_settle (h_lst (a1 h_str)))
              (h_settle (r_is (h_callT (f_listD rfl) T.n_list PyProof.Rows.boot_list (a1 (h_var 1))) (by rw [keys_tab]))))) rfl)))))) (by
            show D.lst ([D.non] ++ (gatesM marks).map D.str) = D.lst ((none :: (gatesM marks).map some).map eO)
            rw [List.map_cons, List.map_map]; rfl))) (g_name 7 sc_l_lost.nd) ⟨_, _, _, _, _, by rw [List.take_zero, List.flatMap_nil, List.append_nil]; rfl⟩ ?_ ?_ ?_
      · rintro j d E' hd ⟨o7, o8, o9, o10, o11, rfl⟩
        obtain ⟨f, hf, rfl⟩ := map_get hd
        refine ⟨_, ⟨Nat.le_of_ble_eq_true rfl, rfl⟩, ?_⟩
        have len2 : ((fs.take j).flatMap fun f => lostB L a f 27).length ≤ 2754 := Nat.le_trans (flat_len (fun f => lostB_len) _) (by
          have := take_len_le fs j
          omega)
        -- the fence's row
        have hfm : ∀ n, f = some n → (n = "full" ∨ n ∈ marks.map (·.1)) := fun n e => by
          have hm := mem_of_get hf
          subst e
          have hm2 : n ∈ gatesM marks := by
            rcases List.mem_cons.mp hm with h | h
            · cases h
            · obtain ⟨m, hm1, e⟩ := List.mem_map.mp h
              cases e; exact hm1
          rcases List.mem_cons.mp (sortS_mem.mp hm2) with h | h
          · exact .inl h
          · exact .inr h
        have hmid : Okl (midM rs f) ∧ (∀ x ∈ midM rs f, x ∈ gates) ∧ ∀ n, f = some n → (eRws rs).lookup n = some (eF (midM rs f)) := by
          cases f with
          | none => exact ⟨⟨(fun x hx => by cases hx), Nat.zero_le _⟩, (fun x hx => by cases hx), fun n e => by cases e⟩
          | some n =>
            have hn : n ∈ names ∧ n ∉ kinds5 := by
              rcases hfm n rfl with rfl | h
              · exact ⟨W.rows.full, full_kind⟩
              · exact W.min n h
            obtain ⟨x, e1, e2, e3, e4⟩ := W.rows.atP hn.1 hn.2
            show Okl (rowOf rs n).fs ∧ (∀ x ∈ (rowOf rs n).fs, x ∈ gates) ∧ _
            rw [e1]
            refine ⟨e3, e4, fun m e => ?_⟩
            cases e
            show _ = some (eF (rowOf rs n).fs)
            rw [e1, e2]; rfl
        refine q_asg 8 sc_l_lost.nd (h_tup ha_nil) ?_
        rintro _ rfl
        refine q_if (fun E' => E' = B ((kinds5.take i).flatMap (lostA L fs) ++ (fs.take j).flatMap fun f => lostB L a f 27) (some (.val (.str a))) (some (.val (eO f))) (some (.val (eF (midM rs f)))) o9 o10 o11 l)
          (t_cmp c_notN (h_var 7) h_non) (fun h => ?_) (fun h => ?_) ?_
        · cases f with
          | none => cases h
          | some n =>
            refine s_one (h_asg (i := 8) sc_l_lost.nd (h_dget (ru1 hr) (hmid.2.2 n rfl) (h_var 4) (h_var 7)) ?_)
            rintro _ rfl
            rfl
        · cases f with
          | none => exact s_nil rfl
          | some n => cases h
        · rintro _ rfl
          refine s_one (h_for (fun k E' => ∃ o9 o10 o11, E' = B (((kinds5.take i).flatMap (lostA L fs) ++ (fs.take j).flatMap fun f => lostB L a f 27) ++ lostB L a f k) (some (.val (.str a))) (some (.val (eO f))) (some (.val (eF (midM rs f)))) o9 o10 o11 l)
            (k_list (h_settle (h_call0 (kn_pairs T) (hr.mono (by decide)) ⟨rfl, rfl⟩))) (g_tup2 9 10 sc_l_lost.nd) ⟨_, _, _, by rw [show lostB L a f 0 = [] from rfl, List.append_nil]⟩ ?_ ?_)
          · rintro k d E' hd ⟨o9, o10, o11, rfl⟩
            obtain ⟨⟨p, b⟩, hp, rfl⟩ := map_get hd
            have pm := mem_of_get hp
            have pf := pairs_first pm
            have pok := pairs_ok pm
            refine ⟨_, ⟨Nat.le_of_ble_eq_true rfl, Nat.le_of_ble_eq_true rfl, _, _, rfl, rfl⟩, ?_⟩
            have lenK : (lostB L a f k).length ≤ 27 := lostB_len
            refine s_one (h_ifS (t_w (w_and (t_cmp c_eqS (h_var 9) (h_var 6)) fun q => w_and1 (t_val (h_call (kn_wanted T) (hr.mono (by decide)) (a5 (h_var 0) (h_var 1) (h_var 6) (h_var 7) (h_var 10)) ⟨kept, marks, a, f, b, rfl, W.hkept, W.hmarks, ⟨kinds_ok a hak, pok.2⟩, hfm, rfl⟩)))) (fun h => ?_) (fun h => s_nil ?_))
            · have h1 : p = a := of_decide_eq_true (Bool.and_eq_true_iff.mp h).1
              have h2 := (Bool.and_eq_true_iff.mp h).2
              subst h1
              obtain ⟨aok, ain⟩ : Okl (aheadM rs b) ∧ ∀ x ∈ aheadM rs b, x ∈ gates := by
                unfold aheadM
                by_cases hb : b = "return"
                · rw [if_pos hb]
                  obtain ⟨x, e1, e2, e3, e4⟩ := W.rows.atP W.rows.ret ret_kind
                  rw [e1]
                  exact ⟨e3, e4⟩
                · rw [if_neg hb]
                  obtain ⟨x, y, z, e1, e2, e3, e4, _⟩ := W.rows.atK (pf.2.resolve_left hb)
                  rw [e1]
                  exact ⟨e3.1, e4.1⟩
              have eL : L (p, f, b) = (wantedM kept marks p f b && !keptByM goal bars (becomesM rs p b) (xb ++ midM rs f ++ aheadM rs b)) := by
                rw [← hL, lost1_eq]
                show (_ && !keptByM goal bars (becomesM rs p b) ((rowOf rs p).behind ++ midM rs f ++ aheadM rs b)) = _
                rw [ea]; rfl
              have l1 := oka.2.2.2
              have l2 := hmid.1.2
              have l3 := aok.2
              refine q_asg 11 sc_l_lost.nd (r := .val (eF (xb ++ midM rs f ++ aheadM rs b))) (r_is (h_op (o_catT (ds := (xb ++ midM rs f).map D.str) (es := (aheadM rs b).map D.str) (by rw [List.length_map, List.length_map, List.length_append]; omega)) (d_is (h_op (o_catT (ds := xb.map D.str) (es := (midM rs f).map D.str) (by rw [List.length_map, List.length_map]; omega)) (h_ix (i_tup (j := 2) rfl) (h_dget (ru1 hr) ga (h_var 4) (h_var 6)) h_int) (h_var 8)) (by rw [← List.map_append]))
                (h_call (kn_ahead T) (hr.mono (by decide)) (a2 (h_var 4) (h_var 10)) ⟨names, gates, rs, b, rfl, W.rows, pf.2, rfl⟩)) (by rw [← List.map_append]; rfl)) ?_
              rintro _ rfl
              refine s_one (h_ifS (t_not (t_val (h_call (kn_kept_by T) (hr.mono (by decide)) (ha_cons (h_var 2) (ha_cons (h_var 3) (a2 (h_call (kn_becomes T) (hr.mono (by decide)) (ha_cons (h_var 4) (a2 (h_var 6) (h_var 10))) ⟨names, gates, rs, p, b, rfl, W.rows, hak, pf.2, rfl⟩) (h_var 11))))
                ⟨goal, bars, becomesM rs p b, xb ++ midM rs f ++ aheadM rs b, rfl, W.hgoal, W.hbars, becomes_ok W.rows hak pf.2, fun x hx => W.gin x (by
                  rcases List.mem_append.mp hx with hx | hx
                  · rcases List.mem_append.mp hx with hx | hx
                    · exact ina.2 x hx
                    · exact hmid.2.1 x hx
                  · exact ain x hx), rfl⟩))) (fun h3 => ?_) (fun h3 => s_nil ?_))
              · have c1 : (decide (p = p) && L (p, f, b)) = true := by rw [eL, h2, h3, decide_eq_true rfl]; rfl
                refine s_one (h_appM (L := ((kinds5.take i).flatMap (lostA L fs) ++ (fs.take j).flatMap fun f => lostB L p f 27) ++ lostB L p f k) eT 5 (p, f, b) _ rfl (h_tup (ha_cons (h_var 6) (a2 (h_var 7) (h_var 10)))) (by rw [List.length_append, List.length_append]; omega) ⟨some (.val (.str p)), some (.val (.str b)), some (.val (eF (xb ++ midM rs f ++ aheadM rs b))), ?_⟩)
                rw [lostB_succ hp, if_pos c1, ← List.append_assoc]
                rfl
              · have c1 : ¬ (decide (p = p) && L (p, f, b)) = true := by rw [eL, h2, h3]; simp
                refine ⟨some (.val (.str p)), some (.val (.str b)), some (.val (eF (xb ++ midM rs f ++ aheadM rs b))), ?_⟩
                rw [lostB_succ hp, if_neg c1, List.append_nil]
                rfl
            · have c1 : ¬ (decide (p = a) && L (a, f, b)) = true := by
                rw [← hL, lost1_eq, ← Bool.and_assoc]
                show ¬ (decide (p = a) && wantedM kept marks a f b && _) = true
                rw [h]; simp
              refine ⟨some (.val (.str p)), some (.val (.str b)), o11, ?_⟩
              rw [lostB_succ hp, if_neg c1, List.append_nil]
              rfl
          · rintro E' ⟨o9, o10, o11, rfl⟩
            refine ⟨some (.val (eO f)), some (.val (eF (midM rs f))), o9, o10, o11, ?_⟩
            rw [tkf hf, ← List.append_assoc, show (pairsM.map eP).length = 27 from rfl]
      · rintro E' ⟨o7, o8, o9, o10, o11, rfl⟩
        refine ⟨o7, o8, o9, o10, o11, ?_⟩
        rw [List.length_map, List.take_length]; rfl
      · rintro _ ⟨o7, o8, o9, o10, o11, rfl⟩
        refine s_nil ⟨some (.val (.str a)), o7, o8, o9, o10, o11, ?_⟩
        rw [tkf ha]
    · rintro E' ⟨o6, o7, o8, o9, o10, o11, rfl⟩
      exact ⟨o6, o7, o8, o9, o10, o11, rfl⟩
    · rintro _ ⟨o6, o7, o8, o9, o10, o11, rfl⟩
      exact s_one (h_retOwn 5 (hn := ⟨_, rfl⟩))
end
end K39
/-! KL15 -/
set_option maxHeartbeats 4000000
namespace K39
open PySem PySem.Spec PyProof.Rows L2
/-- the side fits the name -/
def SideOk (names : List Str) (n s : Str) : Prop := (s = "row" ∧ n ∈ names ∧ n ∉ kinds5) ∨ (n ∈ kinds5 ∧ (s = "ahead" ∨ s = "behind"))
def eK (i : Item) : D := .key [i.1, i.2.1, i.2.2]
section
variable {P : Program} {w : World} {K : PySem.W.Frag} {mg : Str → Option Value} {bs : Heap} {X : Cx} {E : En}
theorem q_settleL {N : Po} {st : List Stmt} (F : Option Sl → En) (i : Nat) {ds : List D} {o : Option Sl} (ho : o = some (.val (.lst ds)) ∨ ∃ l, o = some (.oL l ds)) (hF : ∀ l, (F (some (.oL l ds)))[i]? = some (some (.oL l ds)) ∧ (F (some (.oL l ds))).set i (some (.val (.lst ds))) = F (some (.val (.lst ds)))) (h : HasSs X (F (some (.val (.lst ds)))) st N) : HasSs X (F o) st N := by
  rcases ho with rfl | ⟨l, rfl⟩
  · exact h
  · refine q_settle i ?_ (hF l).1
    show HasSs X ((F (some (.oL l ds))).set i (some (.val (.lst ds)))) st N
    rw [(hF l).2]; exact h
def G_part : List D → Rs → Prop := fun ds r => ∃ (names gates : List Str) (rs : Rows) (n s : Str), ds = [eRows rs, .str n, .str s] ∧ RowsOk names gates rs ∧ SideOk names n s ∧ r = .val (eF (partM rs n s))
theorem kn_part (T : Hd K mg) : Kn P w K mg bs CX0 1 "_law_part" ["_law_rows_here", "_law_name_here", "_law_side"] (spG K G_part) := by
  refine k_l_part T ?_ ?_
  · rintro ds r ⟨_, _, _, _, _, rfl, _⟩; rfl
  · rintro c ds r hr ⟨names, gates, rs, n, s, rfl, R, hs, rfl⟩
    refine q_when (t_cmp c_eqS (h_var 2) h_str) (fun h => ?_) fun h => ?_
    · have h1 : s = "row" := of_decide_eq_true h
      subst h1
      rcases hs with ⟨_, h1, h2⟩ | ⟨_, h | h⟩
      · obtain ⟨f, e1, e2, _⟩ := R.atP h1 h2
        refine s_one (h_ret (h_dget (ru1 hr) e2 (h_var 0) (h_var 1)) ?_)
        rintro _ rfl
        show Sl.val _ = _
        unfold partM
        rw [if_pos rfl, e1]; rfl
      · exact absurd h (by decide +kernel)
      · exact absurd h (by decide +kernel)
    · have h1 : ¬ s = "row" := of_decide_eq_false h
      rcases hs with ⟨q, _⟩ | ⟨hk, hs⟩
      · exact absurd q h1
      obtain ⟨x, k, y, e1, e2, _⟩ := R.atK hk
      rcases hs with rfl | rfl
      · refine s_one (h_ret (h_ix (i_tup (j := 0) rfl) (h_dget (ru1 hr) e2 (h_var 0) (h_var 1)) (h_index (ys := ["ahead", "", "behind"]) (y := "ahead") (j := 0) (ru65 hr) (h_settle (h_lst (ha_cons h_str (a2 h_str h_str)))) (h_var 2) (sh_strs (by decide +kernel)) (by decide +kernel) rfl (fun m hm => absurd hm (Nat.not_lt_zero _)))) ?_)
        rintro _ rfl
        show Sl.val _ = _
        unfold partM
        rw [if_neg h1, if_pos rfl, e1]; rfl
      · refine s_one (h_ret (h_ix (i_tup (j := 2) rfl) (h_dget (ru1 hr) e2 (h_var 0) (h_var 1)) (h_index (ys := ["ahead", "", "behind"]) (y := "behind") (j := 2) (ru65 hr) (h_settle (h_lst (ha_cons h_str (a2 h_str h_str)))) (h_var 2) (sh_strs (by decide +kernel)) (by decide +kernel) rfl (fun m hm => by
          match m, hm with
          | 0, _ => decide +kernel
          | 1, _ => decide +kernel))) ?_)
        rintro _ rfl
        show Sl.val _ = _
        unfold partM
        rw [if_neg h1, if_neg (by decide +kernel), e1]; rfl
def G_known : List D → Rs → Prop := fun ds r => ∃ (names gates : List Str), ds = [eNs names, eNs gates] ∧ Okl names ∧ Okl gates ∧ r = .nL ((knownM names gates).map eK)
theorem sides_len (n : Str) : (sidesM n).length ≤ 2 := by
  unfold sidesM
  split
  · exact Nat.le_refl _
  · exact Nat.le_succ _
theorem kn_known (T : Hd K mg) : Kn P w K mg bs CX0 1 "_law_known" ["_law_names_here", "_law_gates"] (spG K G_known) := by
  refine k_l_known T ?_ ?_
  · rintro ds r ⟨_, _, rfl, _⟩; rfl
  · rintro c ds r hr ⟨names, gates, rfl, hN, hG, rfl⟩
    refine q_asg 2 sc_l_known.nd (h_lst ha_nil) ?_
    rintro _ ⟨l, rfl⟩
    have hn := hN.2
    have hg := hG.2
    let F1 := fun (n s : Str) => gates.map fun f => ((n, s, f) : Item)
    let F2 := fun (n : Str) => (sidesM n).flatMap fun s => F1 n s
    have len1 : ∀ n s, (F1 n s).length ≤ 100 := fun n s => by show (gates.map _).length ≤ 100; rw [List.length_map]; exact hg
    have len2 : ∀ n, (F2 n).length ≤ 200 := fun n => Nat.le_trans (flat_len (len1 n) _) (by have := sides_len n; omega)
    refine q_for (fun i E' => ∃ o3 o4 o5 o6, E' = [some (.val (eNs names)), some (.val (eNs gates)), some (.oL l (((names.take i).flatMap F2).map eK)), o3, o4, o5, o6]) (fun E' => ∃ o3 o4 o5 o6, E' = [some (.val (eNs names)), some (.val (eNs gates)), some (.oL l ((knownM names gates).map eK)), o3, o4, o5, o6])
      (k_list (h_var 0)) (g_name 3 sc_l_known.nd) ⟨_, _, _, _, rfl⟩ ?_ ?_ ?_
    · rintro i d E' hd ⟨o3, o4, o5, o6, rfl⟩
      obtain ⟨n, hn1, rfl⟩ := map_get hd
      have hok := hN.1 n (mem_of_get hn1)
      refine ⟨_, ⟨Nat.le_of_ble_eq_true rfl, rfl⟩, ?_⟩
      have l0 : ((names.take i).flatMap F2).length ≤ 20000 := Nat.le_trans (flat_len len2 _) (by
        have := take_len_le names i
        omega)
      refine q_asg 4 sc_l_known.nd (h_lst (a1 h_str)) ?_
      rintro _ ⟨l4, rfl⟩
      refine q_settle 4 ?_
      refine q_if (fun E' => ∃ o, E' = [some (.val (eNs names)), some (.val (eNs gates)), some (.oL l (((names.take i).flatMap F2).map eK)), some (.val (.str n)), o, o5, o6] ∧ (o = some (.val (eNs (sidesM n))) ∨ ∃ l5, o = some (.oL l5 ((sidesM n).map D.str))))
        (t_cmp (c_inTS (L := kinds5) (ru65 hr) hok kinds_ok) (h_var 3) (h_tup (a5 h_str h_str h_str h_str h_str))) (fun h => ?_) (fun h => s_nil ?_) ?_
      · have h1 : n ∈ kinds5 := of_decide_eq_true h
        refine s_one (h_asg (i := 4) sc_l_known.nd (h_lst (a2 h_str h_str)) ?_)
        rintro _ ⟨l5, rfl⟩
        refine ⟨_, rfl, .inr ⟨l5, ?_⟩⟩
        unfold sidesM
        rw [if_pos h1]; rfl
      · have h1 : ¬ n ∈ kinds5 := of_decide_eq_false h
        refine ⟨_, rfl, .inl ?_⟩
        unfold sidesM
        rw [if_neg h1]; rfl
      · rintro _ ⟨o, rfl, ho⟩
        refine q_settleL (fun o => [some (.val (eNs names)), some (.val (eNs gates)), some (.oL l (((names.take i).flatMap F2).map eK)), some (.val (.str n)), o, o5, o6]) 4 ho (fun _ => ⟨rfl, rfl⟩) ?_
        · skip
          refine s_one (h_for (fun j E' => ∃ o5 o6, E' = [some (.val (eNs names)), some (.val (eNs gates)), some (.oL l (((names.take i).flatMap F2 ++ ((sidesM n).take j).flatMap fun s => F1 n s).map eK)), some (.val (.str n)), some (.val (eNs (sidesM n))), o5, o6])
            (k_list (h_var 4)) (g_name 5 sc_l_known.nd) ⟨o5, o6, by rw [List.take_zero, List.flatMap_nil, List.append_nil]; rfl⟩ ?_ ?_)
          · rintro j d E' hd ⟨o5, o6, rfl⟩
            obtain ⟨s, hs1, rfl⟩ := map_get hd
            refine ⟨_, ⟨Nat.le_of_ble_eq_true rfl, rfl⟩, ?_⟩
            have l1 : (((sidesM n).take j).flatMap fun s => F1 n s).length ≤ 200 := Nat.le_trans (flat_len (len1 n) _) (by
              have := take_len_le (sidesM n) j
              have := sides_len n
              omega)
            refine s_one (h_for (fun k E' => ∃ o6, E' = [some (.val (eNs names)), some (.val (eNs gates)), some (.oL l (((names.take i).flatMap F2 ++ (((sidesM n).take j).flatMap fun s => F1 n s) ++ (gates.take k).map fun f => ((n, s, f) : Item)).map eK)), some (.val (.str n)), some (.val (eNs (sidesM n))), some (.val (.str s)), o6])
              (k_list (h_var 1)) (g_name 6 sc_l_known.nd) ⟨_, by rw [List.take_zero, List.map_nil, List.append_nil]; rfl⟩ ?_ ?_)
            · rintro k d E' hd ⟨o6, rfl⟩
              obtain ⟨f, hf, rfl⟩ := map_get hd
              refine ⟨_, ⟨Nat.le_of_ble_eq_true rfl, rfl⟩, ?_⟩
              have l2 := take_len_le gates k
              refine s_one (h_appM eK 2 (n, s, f) (((names.take i).flatMap F2 ++ (((sidesM n).take j).flatMap fun s => F1 n s)) ++ (gates.take (k + 1)).map fun f => ((n, s, f) : Item)) ?_ (h_key (xs := [n, s, f]) (ha_cons (h_var 3) (a2 (h_var 5) (h_var 6)))) ?_ ⟨some (.val (.str f)), rfl⟩)
              · rw [tkm hf, ← List.append_assoc]
              · rw [List.length_append, List.length_append, List.length_map]; omega
            · rintro E' ⟨o6, rfl⟩
              refine ⟨some (.val (.str s)), o6, ?_⟩
              rw [List.length_map, List.take_length, tkf hs1, ← List.append_assoc]
          · rintro E' ⟨o5, o6, rfl⟩
            refine ⟨some (.val (.str n)), some (.val (eNs (sidesM n))), o5, o6, ?_⟩
            rw [List.length_map, List.take_length, tkf hn1]
    · rintro E' ⟨o3, o4, o5, o6, rfl⟩
      refine ⟨o3, o4, o5, o6, ?_⟩
      rw [List.length_map, List.take_length]; rfl
    · rintro _ ⟨o3, o4, o5, o6, rfl⟩
      exact s_one (h_retOwn 2 (hn := ⟨_, rfl⟩))
end
end K39
/-! KL16 -/
set_option maxHeartbeats 4000000
namespace K39
open PySem PySem.Spec PyProof.Rows L2
section
variable {P : Program} {w : World} {K : PySem.W.Frag} {mg : Str → Option Value} {bs : Heap} {X : Cx} {E : En}
theorem st_imp {N N' : Po} {st : Stmt} (h : HasS X E st N') (h1 : ∀ E', N'.nx E' → N.nx E') (h2 : ∀ s, N'.rt s → N.rt s) (h3 : ∀ E', N'.bk E' → N.bk E') (h4 : ∀ E', N'.ct E' → N.ct E') : HasS X E st N :=
  PS.mono h fun D σ H ⟨F, τ, S, k1, k2, k3, k4⟩ => ⟨F, τ, S, fun E' σ' H' q => k1 E' σ' H' (h1 _ q), fun v s H' q => k2 v s H' (h2 _ q), fun E' σ' H' q => k3 E' σ' H' (h3 _ q), fun E' σ' H' q => k4 E' σ' H' (h4 _ q)⟩
/-- no way out but on -/
theorem st_on {N : Po} {st : Stmt} {M : En → Prop} (h : HasS X E st ⟨M, fun _ => False, fun _ => False, fun _ => False⟩) (h1 : ∀ E', M E' → N.nx E') : HasS X E st N :=
  st_imp h h1 (fun _ q => q.elim) (fun _ q => q.elim) (fun _ q => q.elim)
def Row.small : Row → Prop
  | .pl f => f.length ≤ 50
  | .ac a _ b => a.length ≤ 50 ∧ b.length ≤ 50
def Small (rs : Rows) : Prop := ∀ n x, rs.lookup n = some x → x.small
theorem look_nodup {α : Type} {n : Str} {x : α} : ∀ {t : List (Str × α)}, (t.map (·.1)).Nodup → (n, x) ∈ t → t.lookup n = some x
  | (y, e) :: t, hn, h => by
    rw [List.map_cons, List.nodup_cons] at hn
    rw [List.lookup_cons]
    rcases List.mem_cons.mp h with h | h
    · cases h
      rw [beq_self_eq_true]
    · have hy : n ≠ y := fun q => hn.1 (q ▸ List.mem_map.mpr ⟨_, h, rfl⟩)
      have hb : (n == y) = false := by simpa using hy
      rw [hb]
      exact look_nodup hn.2 h
theorem keys_rows (rs : Rows) : keysD (eRws rs) = rs.map fun p => .str p.1 := by
  unfold keysD eRws
  rw [List.map_map]; rfl
theorem dput_take {rs : Rows} {i : Nat} {p : Str × Row} (hn : (rs.map (·.1)).Nodup) (h : rs[i]? = some p) : dput (eRws (rs.take i)) p.1 (eR p.2) = eRws (rs.take (i + 1)) := by
  rw [dput_new, tk h]
  · unfold eRws
    rw [List.map_append]; rfl
  · rw [look_none]
    intro hx
    have hx2 : p.1 ∈ (rs.take i).map (·.1) := by
      unfold eRws at hx
      rw [List.map_map] at hx
      exact hx
    have hs : (rs.take (i + 1)).map (·.1) = (rs.take i).map (·.1) ++ [p.1] := tkm h
    have hnd : ((rs.take (i + 1)).map (·.1)).Nodup := hn.sublist ((List.take_sublist _ _).map _)
    rw [hs] at hnd
    exact (List.nodup_append.mp hnd).2.2 _ hx2 _ (List.mem_cons_self ..) rfl
def G_put : List D → Rs → Prop := fun ds r => ∃ (names gates : List Str) (rs : Rows) (i : Item), ds = [eRows rs, eI i] ∧ RowsOk names gates rs ∧ Small rs ∧ SideOk names i.1 i.2.1 ∧ PyData.strOk i.2.2 = true ∧ r = .nD (eRws (putM rs i))
theorem kn_put (T : Hd K mg) : Kn P w K mg bs CX0 2 "_law_put" ["_law_rows_here", "_law_item"] (spG K G_put) := by
  refine k_l_put T ?_ ?_
  · rintro ds r ⟨_, _, _, _, rfl, _⟩; rfl
  · rintro c ds r hr ⟨names, gates, rs, ⟨n, s, f⟩, rfl, R, S, hs, hf, rfl⟩
    have hu := ru1 hr
    have hnd : (rs.map (·.1)).Nodup := by rw [R.keys]; exact R.nd
    have hlen : rs.length ≤ 100 := by rw [← List.length_map (f := (·.1)) (as := rs), R.keys]; exact R.ok.2
    refine q_unpack (h_var 1) (g_tup3 2 3 4 sc_l_put.nd) ⟨Nat.le_of_ble_eq_true rfl, Nat.le_of_ble_eq_true rfl, Nat.le_of_ble_eq_true rfl, _, _, _, rfl, rfl⟩ ?_
    refine q_asg 5 sc_l_put.nd h_dict0 ?_
    rintro _ ⟨l, rfl⟩
    refine s_cons (M := fun E' => ∃ o, E' = [some (.val (eRows rs)), some (.val (eI (n, s, f))), some (.val (.str n)), some (.val (.str s)), some (.val (.str f)), some (.oD l (eRws rs)), o])
      (st_on (h_forD (N := ⟨fun E' => ∃ o, E' = [some (.val (eRows rs)), some (.val (eI (n, s, f))), some (.val (.str n)), some (.val (.str s)), some (.val (.str f)), some (.oD l (eRws rs)), o], fun _ => False, fun _ => False, fun _ => False⟩) (ds := eRws rs) (fun i E' => ∃ o, E' = [some (.val (eRows rs)), some (.val (eI (n, s, f))), some (.val (.str n)), some (.val (.str s)), some (.val (.str f)), some (.oD l (eRws (rs.take i))), o]) 0 (g_name 6 sc_l_put.nd) ⟨_, rfl⟩ ?_ ?_ (fun _ h => h) (fun _ => ⟨(fun h => h), (fun h => h)⟩)) fun _ h => h) ?_
    · rintro i d E' hd ⟨o, rfl⟩
      rw [keys_rows] at hd
      obtain ⟨p, hp, rfl⟩ := map_get hd
      refine ⟨_, ⟨Nat.le_of_ble_eq_true rfl, rfl⟩, ?_⟩
      refine s_one (h_dput 5 (ru1 hr) (ds := eRws (rs.take i)) (h_dget (ru1 hr) (rows_get (look_nodup hnd (mem_of_get hp))) (h_var 0) (h_var 6)) (h_var 6) ?_ ⟨some (.val (.str p.1)), ?_⟩)
      · rw [eRws, List.length_map]
        have := take_len_le rs i
        omega
      · rw [dput_take hnd hp]; rfl
    · rintro E' ⟨o, rfl⟩
      refine ⟨o, ?_⟩
      rw [keys_rows, List.length_map, List.take_length]
    rintro _ ⟨o, rfl⟩
    have fin : ∀ x, x = normalM (addTo (rowOf rs n) s f) → n ∈ names → (fun E' => ∃ o, E' = [some (.val (eRows rs)), some (.val (eI (n, s, f))), some (.val (.str n)), some (.val (.str s)), some (.val (.str f)), some (.oD l (eRws (putM rs (n, s, f)))), o]) ([some (.val (eRows rs)), some (.val (eI (n, s, f))), some (.val (.str n)), some (.val (.str s)), some (.val (.str f)), some (.oD l (dput (eRws rs) n (eR x))), o] : En) := by
      rintro _ rfl hn
      refine ⟨o, ?_⟩
      rw [dput_old (by rw [R.keys]; exact hn)]; rfl
    have okf : ∀ {g : List Str}, Okl g → g.length ≤ 50 → Okl (g ++ [f]) := fun h h2 => ⟨fun x hx => by
      rcases List.mem_append.mp hx with hx | hx
      · exact h.1 x hx
      · rw [List.mem_singleton.mp hx]; exact hf, by rw [List.length_append]; show _ + 1 ≤ 100; omega⟩
    have hz : (eRws rs).length < 1000 := by rw [eRws, List.length_map]; omega
    refine q_if (fun E' => ∃ o, E' = [some (.val (eRows rs)), some (.val (eI (n, s, f))), some (.val (.str n)), some (.val (.str s)), some (.val (.str f)), some (.oD l (eRws (putM rs (n, s, f)))), o]) (t_cmp c_eqS (h_var 3) h_str) (fun h => ?_) (fun h => ?_) ?_
    · have h1 : s = "row" := of_decide_eq_true h
      have hp : n ∈ names ∧ n ∉ kinds5 := by
        rcases hs with ⟨_, a, b⟩ | ⟨_, q | q⟩
        · exact ⟨a, b⟩
        · exact absurd (h1.symm.trans q) (by decide +kernel)
        · exact absurd (h1.symm.trans q) (by decide +kernel)
      obtain ⟨x, lx, e1, e2, e3, e4, e5⟩ := R.at hp.1
      rcases e5 with ⟨q, _⟩ | ⟨_, g, rfl⟩
      · exact absurd q hp.2
      have sg : g.length ≤ 50 := S n _ lx
      refine s_one (h_dput 5 (ru1 hr) (ds := eRws rs) (y := n) (d := eR (normalM (.pl (g ++ [f])))) (h_call (kn_normal T) (hr.mono (by decide)) (a1 (d_is (h_op (o_catT (ds := g.map D.str) (es := [D.str f]) (by rw [List.length_map]; show _ + 1 ≤ 1000; omega)) (h_dget (ru1 hr) e2 (h_var 0) (h_var 2)) (h_tup (a1 (h_var 4)))) (show D.tup (g.map D.str ++ [D.str f]) = eR (.pl (g ++ [f])) by show _ = D.tup ((g ++ [f]).map D.str); rw [List.map_append]; rfl))) ⟨.pl (g ++ [f]), rfl, okf e3 sg, rfl⟩) (h_var 2) hz (fin _ ?_ hp.1))
      rw [e1]; rfl
    · have h1 : ¬ s = "row" := of_decide_eq_false h
      have hk : n ∈ kinds5 ∧ (s = "ahead" ∨ s = "behind") := by
        rcases hs with ⟨q, _⟩ | q
        · exact absurd q h1
        · exact q
      obtain ⟨x, lx, e1, e2, e3, e4, e5⟩ := R.at (R.kin n hk.1)
      rcases e5 with ⟨_, a, k, b, rfl, _⟩ | ⟨q, _⟩
      rotate_left
      · exact absurd hk.1 q
      have sg : a.length ≤ 50 ∧ b.length ≤ 50 := S n _ lx
      have g0 : HasD (Cc.cx P w K mg bs N_l_put "_law_put" s_l_put c) [some (.val (eRows rs)), some (.val (eI (n, s, f))), some (.val (.str n)), some (.val (.str s)), some (.val (.str f)), some (.oD l (eRws rs)), o] (.Name "_law_side" ⟨0, 0, 0, 0⟩) (.str s) := h_var 3
      refine s_one (h_ifS (t_cmp c_eqS (h_var 3) h_str) (fun h => ?_) fun h => ?_)
      · have h2 : s = "ahead" := of_decide_eq_true h
        refine s_one (h_dput 5 (ru1 hr) (ds := eRws rs) (y := n) (d := eR (normalM (.ac (a ++ [f]) k b))) (h_call (kn_normal T) (hr.mono (by decide)) (a1 (h_tup (ha_cons (h_op (o_catT (ds := a.map D.str) (es := [D.str f]) (by rw [List.length_map]; show _ + 1 ≤ 1000; omega)) (h_ix (i_tup (j := 0) rfl) (h_dget (ru1 hr) e2 (h_var 0) (h_var 2)) h_int) (h_tup (a1 (h_var 4))))
          (a2 (h_ix (i_tup (j := 1) rfl) (h_dget (ru1 hr) e2 (h_var 0) (h_var 2)) h_int) (h_ix (i_tup (j := 2) rfl) (h_dget (ru1 hr) e2 (h_var 0) (h_var 2)) h_int))))) ⟨.ac (a ++ [f]) k b, by show _ = [D.tup [D.tup ((a ++ [f]).map D.str), _, _]]; rw [List.map_append]; rfl, ⟨okf e3.1 sg.1, e3.2⟩, rfl⟩) (h_var 2) hz (fin _ ?_ (R.kin n hk.1)))
        rw [e1, h2]; rfl
      · have h2 : ¬ s = "ahead" := of_decide_eq_false h
        refine s_one (h_dput 5 (ru1 hr) (ds := eRws rs) (y := n) (d := eR (normalM (.ac a k (b ++ [f])))) (h_call (kn_normal T) (hr.mono (by decide)) (a1 (h_tup (ha_cons (h_ix (i_tup (j := 0) rfl) (h_dget (ru1 hr) e2 (h_var 0) (h_var 2)) h_int)
          (a2 (h_ix (i_tup (j := 1) rfl) (h_dget (ru1 hr) e2 (h_var 0) (h_var 2)) h_int) (h_op (o_catT (ds := b.map D.str) (es := [D.str f]) (by rw [List.length_map]; show _ + 1 ≤ 1000; omega)) (h_ix (i_tup (j := 2) rfl) (h_dget (ru1 hr) e2 (h_var 0) (h_var 2)) h_int) (h_tup (a1 (h_var 4)))))))) ⟨.ac a k (b ++ [f]), by show _ = [D.tup [_, _, D.tup ((b ++ [f]).map D.str)]]; rw [List.map_append]; rfl, ⟨e3.1, e3.2.1, okf e3.2.2 sg.2⟩, rfl⟩) (h_var 2) hz (fin _ ?_ (R.kin n hk.1)))
        rw [e1]
        show _ = normalM (if s = "ahead" then Row.ac (a ++ [f]) k b else Row.ac a k (b ++ [f]))
        rw [if_neg h2]
    · rintro _ ⟨o, rfl⟩
      exact s_one (h_retOwn 5 (hn := ⟨_, rfl⟩))
end
end K39
/-! KL17 -/
set_option maxHeartbeats 4000000
namespace K39
open PySem PySem.Spec PyProof.Rows L2
/-- a local that owns nothing -/
def NoOwn (o : Option Sl) : Prop := o = none ∨ ∃ d, o = some (.val d)
section
variable {P : Program} {w : World} {K : PySem.W.Frag} {mg : Str → Option Value} {bs : Heap} {X : Cx} {E : En}
def G_taken : List D → Rs → Prop := fun ds r => ∃ (names gates : List Str) (rs : Rows) (i : Item), ds = [eRows rs, eI i] ∧ RowsOk names gates rs ∧ SideOk names i.1 i.2.1 ∧ PyData.strOk i.2.2 = true ∧ r = .nD (eRws (takenM rs i))
theorem kn_taken (T : Hd K mg) : Kn P w K mg bs CX0 2 "_law_taken" ["_law_rows_here", "_law_item"] (spG K G_taken) := by
  refine k_l_taken T ?_ ?_
  · rintro ds r ⟨_, _, _, _, rfl, _⟩; rfl
  · rintro c ds r hr ⟨names, gates, rs, ⟨n, s, f⟩, rfl, R, hs, hf, rfl⟩
    have hu := ru1 hr
    have hnd : (rs.map (·.1)).Nodup := by rw [R.keys]; exact R.nd
    have hlen : rs.length ≤ 100 := by rw [← List.length_map (f := (·.1)) (as := rs), R.keys]; exact R.ok.2
    refine q_unpack (h_var 1) (g_tup3 2 3 4 sc_l_taken.nd) ⟨Nat.le_of_ble_eq_true rfl, Nat.le_of_ble_eq_true rfl, Nat.le_of_ble_eq_true rfl, _, _, _, rfl, rfl⟩ ?_
    refine q_asg 5 sc_l_taken.nd h_dict0 ?_
    rintro _ ⟨l, rfl⟩
    refine s_cons (M := fun E' => ∃ o, E' = [some (.val (eRows rs)), some (.val (eI (n, s, f))), some (.val (.str n)), some (.val (.str s)), some (.val (.str f)), some (.oD l (eRws rs)), o, none] ∧ NoOwn o)
      (st_on (h_forD (N := ⟨fun E' => ∃ o, E' = [some (.val (eRows rs)), some (.val (eI (n, s, f))), some (.val (.str n)), some (.val (.str s)), some (.val (.str f)), some (.oD l (eRws rs)), o, none] ∧ NoOwn o, fun _ => False, fun _ => False, fun _ => False⟩) (ds := eRws rs) (fun i E' => ∃ o, E' = [some (.val (eRows rs)), some (.val (eI (n, s, f))), some (.val (.str n)), some (.val (.str s)), some (.val (.str f)), some (.oD l (eRws (rs.take i))), o, none] ∧ NoOwn o) 0 (g_name 6 sc_l_taken.nd) ⟨_, rfl, .inl rfl⟩ ?_ ?_ (fun _ h => h) (fun _ => ⟨(fun h => h), (fun h => h)⟩)) fun _ h => h) ?_
    · rintro i d E' hd ⟨o, rfl, _⟩
      rw [keys_rows] at hd
      obtain ⟨p, hp, rfl⟩ := map_get hd
      refine ⟨_, ⟨Nat.le_of_ble_eq_true rfl, rfl⟩, ?_⟩
      refine s_one (h_dput 5 (ru1 hr) (ds := eRws (rs.take i)) (h_dget (ru1 hr) (rows_get (look_nodup hnd (mem_of_get hp))) (h_var 0) (h_var 6)) (h_var 6) ?_ ⟨some (.val (.str p.1)), ?_, .inr ⟨_, rfl⟩⟩)
      · rw [eRws, List.length_map]
        have := take_len_le rs i
        omega
      · rw [dput_take hnd hp]; rfl
    · rintro E' ⟨o, rfl, ho⟩
      refine ⟨o, ?_, ho⟩
      rw [keys_rows, List.length_map, List.take_length]
    rintro _ ⟨o, rfl, ho⟩
    have pok : ∀ x ∈ partM rs n s, PyData.strOk x = true := by
      rcases hs with ⟨rfl, h1, h2⟩ | ⟨hk, hs⟩
      · obtain ⟨g, e1, e2, e3, e4⟩ := R.atP h1 h2
        unfold partM
        rw [if_pos rfl, e1]; exact e3.1
      · obtain ⟨a, k, b, e1, e2, e3, e4, _⟩ := R.atK hk
        unfold partM
        rcases hs with rfl | rfl
        · rw [if_neg (by decide +kernel), if_pos rfl, e1]; exact e3.1.1
        · rw [if_neg (by decide +kernel), if_neg (by decide +kernel), e1]; exact e3.2.2.1
    have plen : (partM rs n s).length ≤ 100 := by
      rcases hs with ⟨rfl, h1, h2⟩ | ⟨hk, hs⟩
      · obtain ⟨g, e1, e2, e3, e4⟩ := R.atP h1 h2
        unfold partM
        rw [if_pos rfl, e1]; exact e3.2
      · obtain ⟨a, k, b, e1, e2, e3, e4, _⟩ := R.atK hk
        unfold partM
        rcases hs with rfl | rfl
        · rw [if_neg (by decide +kernel), if_pos rfl, e1]; exact e3.1.2
        · rw [if_neg (by decide +kernel), if_neg (by decide +kernel), e1]; exact e3.2.2.2
    let left := (partM rs n s).filter fun x => decide (x ≠ f)
    refine q_asg 7 sc_l_taken.nd (r := .val (eF left)) (h_callT f_tupleL T.n_tuple PyProof.Rows.boot_tuple (a1 (h_settle (h_lcM D.str D.str (fun x => decide (x ≠ f)) 6 str_inj' sc_l_taken.nd (k_tup (h_call (kn_part T) (hr.mono (by decide)) (ha_cons (h_var 0) (a2 (h_var 2) (h_var 3))) ⟨names, gates, rs, n, s, rfl, R, hs, rfl⟩)) (Nat.le_trans plen (by decide))
      (fun i x hx b => ⟨ts_one (t_is (t_cmp c_neS (h_var 6) (h_var 4)) (by simp)), fun _ => h_var 6⟩) (hw := by rcases ho with rfl | ⟨d, rfl⟩ <;> rfl))))) ?_
    rintro _ rfl
    have fin : ∀ x, x = delFrom (rowOf rs n) s f → n ∈ names → (fun E' => ∃ o, E' = [some (.val (eRows rs)), some (.val (eI (n, s, f))), some (.val (.str n)), some (.val (.str s)), some (.val (.str f)), some (.oD l (eRws (takenM rs (n, s, f)))), o, some (.val (eF left))]) ([some (.val (eRows rs)), some (.val (eI (n, s, f))), some (.val (.str n)), some (.val (.str s)), some (.val (.str f)), some (.oD l (dput (eRws rs) n (eR x))), o, some (.val (eF left))] : En) := by
      rintro _ rfl hn
      refine ⟨o, ?_⟩
      rw [dput_old (by rw [R.keys]; exact hn)]; rfl
    have hz : (eRws rs).length < 1000 := by rw [eRws, List.length_map]; omega
    have hnm : n ∈ names := by
      rcases hs with ⟨_, h1, _⟩ | ⟨hk, _⟩
      · exact h1
      · exact R.kin n hk
    refine q_if (fun E' => ∃ o, E' = [some (.val (eRows rs)), some (.val (eI (n, s, f))), some (.val (.str n)), some (.val (.str s)), some (.val (.str f)), some (.oD l (eRws (takenM rs (n, s, f)))), o, some (.val (eF left))]) (t_cmp c_eqS (h_var 3) h_str) (fun h => ?_) (fun h => ?_) ?_
    · have h1 : s = "row" := of_decide_eq_true h
      subst h1
      rcases hs with ⟨_, h1, h2⟩ | ⟨_, q | q⟩
      · obtain ⟨g, e1, e2, e3, e4⟩ := R.atP h1 h2
        refine s_one (h_dput 5 (ru1 hr) (ds := eRws rs) (y := n) (d := eR (.pl left)) (h_var 7) (h_var 2) hz (fin _ ?_ hnm))
        show Row.pl ((partM rs n "row").filter _) = _
        unfold partM
        rw [if_pos rfl, e1]; rfl
      · exact absurd (show ("row" : Str) = "ahead" from q) (by decide +kernel)
      · exact absurd (show ("row" : Str) = "behind" from q) (by decide +kernel)
    · have h1 : ¬ s = "row" := of_decide_eq_false h
      rcases hs with ⟨q, _⟩ | ⟨hk, hs⟩
      · exact absurd q h1
      obtain ⟨a, k, b, e1, e2, e3, e4, _⟩ := R.atK hk
      refine s_one (h_ifS (t_cmp c_eqS (h_var 3) h_str) (fun h => ?_) fun h => ?_)
      · have h2 : s = "ahead" := of_decide_eq_true h
        refine s_one (h_dput 5 (ru1 hr) (ds := eRws rs) (y := n) (d := eR (.ac left k b)) (h_tup (ha_cons (h_var 7) (a2 (h_ix (i_tup (j := 1) rfl) (h_dget (ru1 hr) e2 (h_var 0) (h_var 2)) h_int) (h_ix (i_tup (j := 2) rfl) (h_dget (ru1 hr) e2 (h_var 0) (h_var 2)) h_int)))) (h_var 2) hz (fin _ ?_ hnm))
        show Row.ac ((partM rs n s).filter _) k b = _
        unfold partM
        rw [if_neg h1, if_pos h2, e1]
        show _ = (if s = "ahead" then _ else _)
        rw [if_pos h2]; rfl
      · have h2 : ¬ s = "ahead" := of_decide_eq_false h
        refine s_one (h_dput 5 (ru1 hr) (ds := eRws rs) (y := n) (d := eR (.ac a k left)) (h_tup (ha_cons (h_ix (i_tup (j := 0) rfl) (h_dget (ru1 hr) e2 (h_var 0) (h_var 2)) h_int) (a2 (h_ix (i_tup (j := 1) rfl) (h_dget (ru1 hr) e2 (h_var 0) (h_var 2)) h_int) (h_var 7)))) (h_var 2) hz (fin _ ?_ hnm))
        show Row.ac a k ((partM rs n s).filter _) = _
        unfold partM
        rw [if_neg h1, if_neg h2, e1]
        show _ = (if s = "ahead" then _ else _)
        rw [if_neg h2]; rfl
    · rintro _ ⟨o, rfl⟩
      exact s_one (h_retOwn 5 (hn := ⟨_, rfl⟩))
end
end K39
/-! KSLL -/
set_option maxHeartbeats 4000000
/-! ## y = [elt for x in iter if ..], own things read as values -/
namespace K39
open PySem PySem.Spec PyProof.Rows L2
theorem frz_none (E : En) (j : Nat) : owns ((frzE E).set j none) = owns (frzE E) := by
  have e : (frzE E).set j none = frzE (E.set j none) := by
    unfold frzE
    rw [List.map_set]; rfl
  rw [e, frzE_owns, frzE_owns]
section
variable {X : Cx} {E : En} {iter elt : Expr} {pos : Pos}
theorem h_setLcL {N : Po} {α : Type} (f g : α → D) (c : α → Bool) {L : List α} {x y : Str} {px py spos : Pos} {ifs : List Expr} {scope : Scope} (i0 j : Nat) (inj : ∀ a b, f a = f b → a = b) (hN : X.N.Nodup) (hi : HasI X (frzE E) (.Name x px) iter (L.map f)) (hz : L.length ≤ 100000)
    (hs : ∀ (i : Nat) (a : α), L[i]? = some a → ∀ b : Blk X scope, HasTs b.x (((frzE E).set j none).set j (some (.val (f a)))) ifs (c a) ∧ (c a = true → HasD b.x (((frzE E).set j none).set j (some (.val (f a)))) elt (g a)))
    (hp : pls ((L.filter c).map g) = true) (hn : ∀ l, N.nx (E.set i0 (some (.oL l ((L.filter c).map g)))))
    (hsw : swapsWith (.ListComp elt [⟨.Name x px, iter, ifs, 0⟩] scope pos) (some (.Name y py)) spos.line X.env = pure true := by rfl)
    (hok : blkC X.N X.env.scope scope [(x, j)] = true := by rfl)
    (hy : X.N[i0]? = some y := by rfl) (hyE : i0 < E.length := by exact Nat.le_of_ble_eq_true rfl) (hyl : X.env.scope.names.lookup y = some .local := by rfl)
    (hj : X.N[j]? = some x := by rfl) (hjE : j < (frzE E).length := by exact Nat.le_of_ble_eq_true rfl) (hc : X.calm = true := by rfl)
    (hx : ∀ b : Blk X scope, Loc b.x.env.scope x := by first | exact fun _ => Or.inl rfl | exact fun _ => Or.inr rfl)
    (hf : ∀ b : Blk X scope, b.x.fn x = true ∨ b.x.env.scope.names.lookup x = some .local := by first | exact fun _ => .inl rfl | exact fun _ => .inr rfl)
    (hfi : ∀ x, foldedSetIterable iter X.env x = pure x := by intro _; rfl) : HasS X E (.Assign [.Name y py] (.ListComp elt [⟨.Name x px, iter, ifs, 0⟩] scope pos) spos) N := by
  have hs' : ∀ (i : Nat) (d : D), (L.map f)[i]? = some d → ∀ b : Blk X scope, HasTs b.x (((frzE E).set j none).set j (some (.val d))) ifs (kfOf f g c d).isSome ∧ ∀ d', kfOf f g c d = some d' → HasD b.x (((frzE E).set j none).set j (some (.val d))) elt d' := fun i d hd b => by
    obtain ⟨a, ha, rfl⟩ := map_get hd
    rw [kf_at inj]
    have q := hs i a ha b
    by_cases h : c a = true
    · rw [if_pos h]
      rw [h] at q
      exact ⟨q.1, fun d' e => by cases e; exact q.2 rfl⟩
    · rw [if_neg h]
      have e : c a = false := by simpa using h
      rw [e] at q
      exact ⟨q.1, fun d' e => by cases e⟩
  rw [← kf_all inj (g := g) (c := c) L] at hp
  have hn' : ∀ l, N.nx (E.set i0 (some (.oL l ((L.map f).filterMap (kfOf f g c))))) := fun l => by rw [kf_all inj]; exact hn l
  exact PS.mono (ps_setLc (own := [(x, j)]) hc hN hy hyl hsw hi (blkOk_by hok) (tg_blk fun b => pg_name hN hj (hx b) (hf b))
    (fun s H C cl fp => PTs.of_any (ι := Nat × D) (P := fun q => (L.map f)[q.1]? = some q.2) (t := fun q => tTs X.K (((frzE E).set j none).set j (some (.val q.2))) (kfOf f g c q.2).isSome) fun q h => (hs' q.1 q.2 h (s, H, C, cl, fp)).1)
    (fun s H C cl fp => PE.of_any (ι := Nat × D × D) (P := fun q => (L.map f)[q.1]? = some q.2.1 ∧ kfOf f g c q.2.1 = some q.2.2) (t := fun q => tEv X.K (((frzE E).set j none).set j (some (.val q.2.1))) (.val q.2.2)) fun q h => (hs' q.1 q.2.1 h.1 (s, H, C, cl, fp)).2 q.2.2 h.2) hfi) fun Dn σ H ⟨F, τ, S, k, _⟩ =>
    lc_read (K := X.K) (ds := L.map f) (j := j) (kf := kfOf f g c) (by rw [List.length_map]; exact hz) hjE (frz_none E j) ⟨_, [], S.lend.1, fun v s H' hs1 o => by
      rw [S.lend.2] at o
      have o2 := S.unlend (r := .nL ((L.map f).filterMap (kfOf f g c))) hp hs1 o
      obtain ⟨l, rfl⟩ := hs1
      exact k _ _ _ (hn' l) (S.put o2 (by rw [S.len]; exact hyE))⟩
end
end K39
/-! KL18 -/
set_option maxHeartbeats 4000000
namespace K39
open PySem PySem.Spec PyProof.Rows L2
def tk_ (t : Tab) : List (Str × D) := t.map fun p => (p.1, eS p.2)
theorem tput_keys (t : Tab) (n : Str) (s : PSet) : (tput' t n s).map (·.1) = if n ∈ t.map (·.1) then t.map (·.1) else t.map (·.1) ++ [n] := by
  unfold tput'
  cases h : t.lookup n with
  | none =>
    have hn : n ∉ t.map (·.1) := fun q => by
      obtain ⟨x, h1, _⟩ := look_mem q
      rw [h] at h1; cases h1
    rw [if_neg hn]
    exact List.map_append
  | some x =>
    rw [if_pos (mem_look h).1]
    show (t.map _).map _ = _
    rw [List.map_map]
    refine List.map_congr_left fun p _ => ?_
    show (if p.1 = n then (n, s) else p).1 = p.1
    by_cases hp : p.1 = n
    · rw [if_pos hp]; exact hp.symm
    · rw [if_neg hp]
theorem dput_tab (t : Tab) (n : Str) (s : PSet) : dput (tk_ t) n (eS s) = tk_ (tput' t n s) := by
  unfold dput tput' tk_
  rw [look_map]
  cases h : t.lookup n with
  | none =>
    show (t.map _) ++ _ = (t ++ _).map _
    rw [List.map_append]; rfl
  | some x =>
    show (t.map _).map _ = (t.map _).map _
    rw [List.map_map, List.map_map]
    refine List.map_congr_left fun p _ => ?_
    show (if p.1 = n then (n, eS s) else (p.1, eS p.2)) = (fun p : Str × PSet => (p.1, eS p.2)) (if p.1 = n then (n, s) else p)
    by_cases hp : p.1 = n
    · rw [if_pos hp, if_pos hp]
    · rw [if_neg hp, if_neg hp]
theorem pls_strs : ∀ l : List Str, pls (l.map D.str) = true
  | [] => rfl
  | _ :: l => by
    show (true && pls (l.map D.str)) = true
    rw [pls_strs l]; rfl
section
variable {P : Program} {w : World} {K : PySem.W.Frag} {mg : Str → Option Value} {bs : Heap} {X : Cx} {E : En}
def G_table : List D → Rs → Prop := fun ds r => ∃ (n : Int) (row : List Int) (at_ : Nat) (known : List Str), ds = [.int n, eNums row, .int at_, eNs known] ∧ at_ + 4 ≤ row.length ∧ Okl known ∧ r = .nD (tk_ (tableM n row at_ known))
theorem kn_table (T : Hd K mg) : Kn P w K mg bs CX0 4 "_law_table" ["_law_number", "_law_row", "_law_at", "_law_known_here"] (spG K G_table) := by
  refine k_l_table T ?_ ?_
  · rintro ds r ⟨_, _, _, _, rfl, _⟩; rfl
  · rintro c ds r hr ⟨num, row, at_, known, rfl, hl, hk, rfl⟩
    have hu := ru1 hr
    have b3 : 0 ≤ num % 3 ∧ num % 3 < 3 := ⟨Int.emod_nonneg _ (by decide), Int.emod_lt_of_pos _ (by decide)⟩
    refine q_asg 4 sc_l_table.nd h_dict0 ?_
    rintro _ ⟨l, rfl⟩
    let t := fun i => (List.range i).foldl (tableStep num row at_ known) []
    refine q_for (fun i E' => ∃ o5 o6 o7, E' = [some (.val (.int num)), some (.val (eNums row)), some (.val (.int at_)), some (.val (eNs known)), some (.oD l (tk_ (t i))), o5, o6, o7, none] ∧ NoOwn o7 ∧ (∀ n ∈ (t i).map (·.1), PyData.strOk n = true) ∧ (t i).length ≤ i)
      (fun E' => ∃ o5 o6 o7, E' = [some (.val (.int num)), some (.val (eNums row)), some (.val (.int at_)), some (.val (eNs known)), some (.oD l (tk_ (tableM num row at_ known))), o5, o6, o7, none])
      (k_range T.n_range (h_op (o_mod (by decide)) (h_callT f_int T.n_int PyProof.Rows.boot_int (a1 (h_var 0))) h_int) b3.1 (by omega)) (g_name 5 sc_l_table.nd) ⟨_, _, _, rfl, .inl rfl, (fun n h => by cases h), Nat.le_refl _⟩ ?_ ?_ ?_
    · rintro i d E' hd ⟨o5, o6, o7, rfl, h7, hok, hln⟩
      obtain ⟨hi, rfl⟩ := nums_get hd
      have hi : i < 3 := by omega
      refine ⟨_, ⟨Nat.le_of_ble_eq_true rfl, rfl⟩, ?_⟩
      have r1 : row[at_ + i]? = some (row.getD (at_ + i) 0) := getD_get (by omega)
      refine q_asg 6 sc_l_table.nd (r := .val (.str (nameM (row.getD (at_ + i) 0) ((t i).map (·.1))))) (h_lend (h_call (kn_name T) (hr.mono (by decide)) (a2 (h_ix (i_lst (ds := row.map D.int) (j := at_ + i) (by rw [List.getElem?_map, r1]; rfl)) (h_var 1) (d_is (h_op o_add (h_var 2) (h_var 5)) (by rw [Int.natCast_add])))
        (d_is (h_settle (h_callT (f_listD (ds := tk_ (t i)) rfl) T.n_list PyProof.Rows.boot_list (a1 (h_var 4)))) (show D.lst (keysD (tk_ (t i))) = eNs ((t i).map (·.1)) by unfold tk_; rw [keys_tab]; rfl))) ⟨_, _, rfl, by rw [List.length_map]; omega, hok, rfl⟩) rfl) ?_
      rintro _ rfl
      have hi2 : i < 2 := by omega
      let n0 := nameM (row.getD (at_ + i) 0) ((t i).map (·.1))
      let free := known.filter fun x => decide (x ∉ (t i).map (·.1))
      have hfl : free.length ≤ 100 := Nat.le_trans (List.length_filter_le _ _) hk.2
      refine s_cons (M := fun E' => ∃ l7, E' = [some (.val (.int num)), some (.val (eNums row)), some (.val (.int at_)), some (.val (eNs known)), some (.oD l (tk_ (t i))), some (.val (.int i)), some (.val (.str n0)), some (.oL l7 (free.map D.str)), none])
        (h_setLcL D.str D.str (fun x : Str => decide (x ∉ (t i).map fun p : Str × PSet => p.1)) (L := known) 7 8 str_inj' sc_l_table.nd (k_list (h_var 3)) (Nat.le_trans hk.2 (by decide))
        (fun j x hx b => ⟨ts_one (t_is (t_cmp (c_ninD (ds := tk_ (t i)) (ru1 hr)) (h_var 8) (h_var 4)) (by rw [look_some, show (tk_ (t i)).map (·.1) = (t i).map (·.1) from tab_keys _]; simp)), fun _ => h_var 8⟩) (pls_strs _) (fun l7 => ⟨l7, rfl⟩)) ?_
      rintro _ ⟨l7, rfl⟩
      refine q_settle 7 ?_
      let cnd : Bool := decide (0 < (free.length : Int)) && decide (num / (if i = 0 then 3 else 6) % 2 = 1)
      let n1 := if cnd = true then free.headD "" else n0
      have r36 : ([D.int 3, D.int 6] : List D)[i]? = some (.int (if i = 0 then 3 else 6)) := by
        match i, hi2 with
        | 0, _ => rfl
        | 1, _ => rfl
      have r2 : row[at_ + 2 + i]? = some (row.getD (at_ + 2 + i) 0) := getD_get (by omega)
      refine q_if (fun E' => E' = [some (.val (.int num)), some (.val (eNums row)), some (.val (.int at_)), some (.val (eNs known)), some (.oD l (tk_ (t i))), some (.val (.int i)), some (.val (.str n1)), some (.val (eNs free)), none])
        (k := cnd) (t_w (w_and (t_cmp c_gt (d_is (h_callB f_lenL T.n_len PySem.boot_len (a1 (h_var 7))) (by rw [List.length_map])) h_int) fun _ => w_and1 (t_cmp c_eqI (h_op (o_mod (by decide)) (h_callT f_int T.n_int PyProof.Rows.boot_int (a1 (h_op (o_div (by split <;> decide)) (h_var 0) (h_ix (i_lst (j := i) r36) (h_settle (h_lst (a2 h_int h_int))) (h_var 5))))) h_int) h_int))) (fun h => ?_) (fun h => s_nil ?_) ?_
      · have h1 : 0 < free.length := by
          have := of_decide_eq_true (Bool.and_eq_true_iff.mp h).1
          omega
        have h2 : free[0]? = some (free.headD "") := by
          cases hf : free with
          | nil => rw [hf] at h1; cases h1
          | cons x xs => rfl
        refine s_one (h_asg (i := 6) sc_l_table.nd (h_ix (i_lst (ds := free.map D.str) (j := 0) (by rw [List.getElem?_map, h2]; rfl)) (h_var 7) h_int) ?_)
        rintro _ rfl
        show _ = [_, _, _, _, _, _, some (Sl.val (.str (if cnd = true then free.headD "" else n0))), _, _]
        rw [if_pos h]; rfl
      · show _ = [_, _, _, _, _, _, some (Sl.val (.str (if cnd = true then free.headD "" else n0))), _, _]
        rw [if_neg (by rw [h]; decide)]; rfl
      · rintro _ rfl
        have n1ok : PyData.strOk n1 = true := by
          show PyData.strOk (if cnd = true then free.headD "" else n0) = true
          by_cases hc : cnd = true
          · rw [if_pos hc]
            have h1 : 0 < free.length := by
              have := of_decide_eq_true (Bool.and_eq_true_iff.mp hc).1
              omega
            cases hf : free with
            | nil => rw [hf] at h1; cases h1
            | cons x xs =>
              have : x ∈ free := by rw [hf]; exact List.mem_cons_self ..
              exact hk.1 x (List.mem_filter.mp this).1
          · rw [if_neg hc]; exact (name_nm _ _).ok
        have nxt : t (i + 1) = tput' (t i) n1 (setM (row.getD (at_ + 2 + i) 0)) := by
          show (List.range (i + 1)).foldl _ _ = _
          rw [List.range_succ, List.foldl_append]
          show tput' (t i) (if free.length > 0 ∧ num / (if i = 0 then 3 else 6) % 2 = 1 then free.headD "" else n0) _ = tput' (t i) (if cnd = true then free.headD "" else n0) _
          have e : (free.length > 0 ∧ num / (if i = 0 then 3 else 6) % 2 = 1) ↔ cnd = true := by
            show _ ↔ (decide (0 < (free.length : Int)) && decide (num / (if i = 0 then 3 else 6) % 2 = 1)) = true
            rw [Bool.and_eq_true, decide_eq_true_eq, decide_eq_true_eq]
            constructor
            · rintro ⟨a, b⟩; exact ⟨by omega, b⟩
            · rintro ⟨a, b⟩; exact ⟨by omega, b⟩
          by_cases hc : cnd = true
          · rw [if_pos hc, if_pos (e.mpr hc)]
          · rw [if_neg hc, if_neg fun q => hc (e.mp q)]
        refine s_one (h_dput 4 (ru1 hr) (ds := tk_ (t i)) (y := n1) (d := eS (setM (row.getD (at_ + 2 + i) 0))) (h_settle (h_call (kn_set T) (hr.mono (by decide)) (a1 (h_ix (i_lst (ds := row.map D.int) (j := at_ + 2 + i) (by rw [List.getElem?_map, r2]; rfl)) (h_var 1) (d_is (h_op o_add (h_op o_add (h_var 2) h_int) (h_var 5)) (by rw [Int.natCast_add, Int.natCast_add]; rfl)))) ⟨_, rfl, rfl⟩)) (h_var 6) (by unfold tk_; rw [List.length_map]; omega) ?_)
        rw [dput_tab, ← nxt]
        refine ⟨some (.val (.int i)), some (.val (.str n1)), some (.val (eNs free)), rfl, .inr ⟨_, rfl⟩, ?_, ?_⟩
        · rw [nxt, tput_keys]
          intro n hn
          split at hn
          · exact hok n hn
          · rcases List.mem_append.mp hn with hn | hn
            · exact hok n hn
            · rw [List.mem_singleton.mp hn]; exact n1ok
        · rw [← List.length_map (f := (·.1)) (as := t (i + 1)), nxt, tput_keys]
          split
          · rw [List.length_map]; omega
          · rw [List.length_append, List.length_map]; show _ + 1 ≤ _; omega
    · rintro E' ⟨o5, o6, o7, rfl, _⟩
      refine ⟨o5, o6, o7, ?_⟩
      rw [show (nums (num % 3).toNat).length = (num % 3).toNat by unfold nums; rw [List.length_map, List.length_range]]
      rfl
    · rintro _ ⟨o5, o6, o7, rfl⟩
      exact s_one (h_retOwn 4 (hn := ⟨_, rfl⟩))
end
end K39
/-! KL19 -/
set_option maxHeartbeats 4000000
namespace K39
open PySem PySem.Spec PyProof.Rows L2
def kI (i : Item) : List Str := [i.1, i.2.1, i.2.2]
def mkOf (m : List (List Str × Int)) (i : Item) : Int := (m.lookup (kI i)).getD 0
def twosAt (new : List Item) (mk : Item → Int) (total : Int) (k : Nat) (a : Item) : List (List Item) := if mk a > 0 then ((new.drop (k + 1)).filter fun b => Builtin.bitOr (mk a) (mk b) = total).map fun b => [a, b] else []
def twosM (new : List Item) (mk : Item → Int) (total : Int) : List (List Item) := (List.range new.length).flatMap fun k => match new[k]? with
  | some a => twosAt new mk total k a
  | none => []
def onesM (new : List Item) (mk : Item → Int) (total : Int) : List (List Item) := (new.filter fun a => mk a = total).map fun a => [a]
def dueM (new : List Item) (mk : Item → Int) (total : Int) (most : Int) : List (List Item) :=
  if total = 0 then [[]] else if most = 0 then [] else if (onesM new mk total).length > 0 ∨ most = 1 then onesM new mk total else twosM new mk total
/-- a choice: a tuple of items -/
def eC (l : List Item) : D := .tup (l.map eI)
theorem eK_inj : ∀ a b : Item, eK a = eK b → a = b := fun a b h => by
  have h1 := D.key.inj h
  obtain ⟨a1, a2, a3⟩ := a
  obtain ⟨b1, b2, b3⟩ := b
  simp only [List.cons.injEq, and_true] at h1
  obtain ⟨rfl, rfl, rfl⟩ := h1
  rfl
theorem eI_inj : ∀ a b : Item, eI a = eI b → a = b := fun a b h => by
  have h1 := D.tup.inj h
  obtain ⟨a1, a2, a3⟩ := a
  obtain ⟨b1, b2, b3⟩ := b
  simp only [List.cons.injEq, and_true, D.str.injEq] at h1
  obtain ⟨rfl, rfl, rfl⟩ := h1
  rfl
section
variable {P : Program} {w : World} {K : PySem.W.Frag} {mg : Str → Option Value} {bs : Heap} {X : Cx} {E : En}
theorem pls_mapG {α : Type} {g : α → D} (h : ∀ a, (g a).pl = true) : ∀ l : List α, pls (l.map g) = true
  | [] => rfl
  | a :: l => by
    show ((g a).pl && pls (l.map g)) = true
    rw [h a, pls_mapG h l]; rfl
theorem h_item {a : Item} {e : Expr} (h : HasD X E e (eK a)) : HasD X E e (eI a) := h_unkey h
structure MaskOk (new : List Item) (m : List (List Str × Int)) : Prop where
  few : new.length ≤ 100
  has : ∀ a ∈ new, m.lookup (kI a) = some (mkOf m a)
def G_due : List D → Rs → Prop := fun ds r => ∃ (new : List Item) (m : List (List Str × Int)) (total most : Int), ds = [.lst (new.map eK), .dtt m, .int total, .int most] ∧ MaskOk new m ∧ r = .nL ((dueM new (mkOf m) total most).map eC)
theorem kn_due (T : Hd K mg) : Kn P w K mg bs CX0 1 "_law_due" ["_law_new", "_law_masks_here", "_law_total", "_law_most"] (spG K G_due) := by
  refine k_l_due T ?_ ?_
  · rintro ds r ⟨_, _, _, _, rfl, _⟩; rfl
  · rintro c ds r hr ⟨new, m, total, most, rfl, M, rfl⟩
    refine q_when (t_cmp c_eqI (h_var 2) h_int) (fun h => s_one (h_ret (h_lst (a1 (h_tup ha_nil))) ?_)) fun n1 => ?_
    · have h1 : total = 0 := of_decide_eq_true h
      intro s hs
      show Rs.ok (.nL ((dueM new (mkOf m) total most).map eC)) s
      unfold dueM
      rw [if_pos h1]; exact hs
    have n1 : ¬ total = 0 := of_decide_eq_false n1
    refine q_when (t_cmp c_eqI (h_var 3) h_int) (fun h => s_one (h_ret (h_lst ha_nil) ?_)) fun n2 => ?_
    · have h1 : most = 0 := of_decide_eq_true h
      intro s hs
      show Rs.ok (.nL ((dueM new (mkOf m) total most).map eC)) s
      unfold dueM
      rw [if_neg n1, if_pos h1]; exact hs
    have n2 : ¬ most = 0 := of_decide_eq_false n2
    refine s_cons (M := fun E' => ∃ l, E' = [some (.val (.lst (new.map eK))), some (.val (.dtt m)), some (.val (.int total)), some (.val (.int most)), some (.oL l ((onesM new (mkOf m) total).map eC)), none, none, none, none])
      (st_imp (N' := ⟨fun E' => ∃ l, E' = [some (.val (.lst (new.map eK))), some (.val (.dtt m)), some (.val (.int total)), some (.val (.int most)), some (.oL l ((new.filter fun a => decide (mkOf m a = total)).map fun a => eC [a])), none, none, none, none], fun _ => False, fun _ => False, fun _ => False⟩)
        (h_setLcL eK (fun a => eC [a]) (fun a => decide (mkOf m a = total)) (L := new) 4 8 eK_inj sc_l_due.nd (k_list (h_var 0)) (Nat.le_trans M.few (by decide))
        (fun j a ha b => ⟨ts_one (t_cmp c_eqI (h_tget (xs := kI a) (ru1 hr) (M.has a (mem_of_get ha)) (h_var 1) (h_var 8)) (h_var 2)), fun _ => h_tup (a1 (h_item (h_var 8)))⟩) ?_ (fun l7 => ⟨l7, rfl⟩)) ?_ (fun _ q => q.elim) (fun _ q => q.elim) (fun _ q => q.elim)) ?_
    · exact pls_mapG (fun a => rfl) _
    · rintro E' ⟨l, rfl⟩
      refine ⟨l, ?_⟩
      unfold onesM
      rw [List.map_map]; rfl
    rintro _ ⟨l, rfl⟩
    refine q_when (k := decide ((onesM new (mkOf m) total).length > 0 ∨ most = 1)) (t_is (t_lend (t_w (w_or (t_cmp c_gt (d_is (h_callB f_lenL T.n_len PySem.boot_len (a1 (h_var 4))) (by rw [List.length_map])) h_int) fun _ => w_or1 (t_cmp c_eqI (h_var 3) h_int)))) (by simp)) (fun h => s_one (h_retOwn 4 (hn := ?_))) fun n3 => ?_
    · have h1 := of_decide_eq_true h
      show Rs.ok (.nL ((dueM new (mkOf m) total most).map eC)) _
      unfold dueM
      rw [if_neg n1, if_neg n2, if_pos h1]; exact ⟨_, rfl⟩
    have n3 := of_decide_eq_false n3
    have few := M.few
    let mk := mkOf m
    let F := fun k => match new[k]? with
      | some a => twosAt new mk total k a
      | none => []
    have hF : ∀ k, (F k).length ≤ 100 := fun k => by
      show (match new[k]? with | some a => twosAt new mk total k a | none => []).length ≤ 100
      cases new[k]? with
      | none => exact Nat.zero_le _
      | some a =>
        show (twosAt new mk total k a).length ≤ 100
        unfold twosAt
        split
        · rw [List.length_map]
          exact Nat.le_trans (List.length_filter_le _ _) (by rw [List.length_drop]; omega)
        · exact Nat.zero_le _
    refine q_asg 5 sc_l_due.nd (h_lst ha_nil) ?_
    rintro _ ⟨l2, rfl⟩
    refine q_settle 4 ?_
    refine q_for (fun i E' => ∃ o6 o7, E' = [some (.val (.lst (new.map eK))), some (.val (.dtt m)), some (.val (.int total)), some (.val (.int most)), some (.val (.lst ((onesM new mk total).map eC))), some (.oL l2 (((List.range i).flatMap F).map eC)), o6, o7, none])
      (fun E' => ∃ o6 o7, E' = [some (.val (.lst (new.map eK))), some (.val (.dtt m)), some (.val (.int total)), some (.val (.int most)), some (.val (.lst ((onesM new mk total).map eC))), some (.oL l2 ((twosM new mk total).map eC)), o6, o7, none])
      (k_range (n := (new.length : Int)) T.n_range (d_is (h_callB f_lenL T.n_len PySem.boot_len (a1 (h_var 0))) (by rw [List.length_map])) (by omega) (by omega)) (g_name 6 sc_l_due.nd) ⟨_, _, rfl⟩ ?_ ?_ ?_
    · rintro i d E' hd ⟨o6, o7, rfl⟩
      obtain ⟨hi, rfl⟩ := nums_get hd
      have hi : i < new.length := by omega
      refine ⟨_, ⟨Nat.le_of_ble_eq_true rfl, rfl⟩, ?_⟩
      have ha : new[i]? = some new[i] := List.getElem?_eq_getElem hi
      have nx : (List.range (i + 1)).flatMap F = (List.range i).flatMap F ++ twosAt new mk total i new[i] := by
        have e : F i = twosAt new mk total i new[i] := by
          show (match new[i]? with | some a => twosAt new mk total i a | none => []) = _
          rw [ha]
        rw [List.range_succ, List.flatMap_append, ← e]; simp
      have l0 : ((List.range i).flatMap F).length ≤ 10000 := Nat.le_trans (flat_len hF _) (by rw [List.length_range]; omega)
      have ga := M.has new[i] (mem_of_get ha)
      refine s_one (h_ifS (t_cmp c_gt (h_tget (xs := kI new[i]) (ru1 hr) ga (h_var 1) (h_ix (i_lst (ds := new.map eK) (j := i) (d := eK new[i]) (by rw [List.getElem?_map, ha]; rfl)) (h_var 0) (h_var 6))) h_int) (fun h => ?_) (fun h => s_nil ?_))
      · have h1 : mk new[i] > 0 := of_decide_eq_true h
        have e2 : twosAt new mk total i new[i] = ((new.drop (i + 1)).filter fun b => decide (Builtin.bitOr (mk new[i]) (mk b) = total)).map fun b => [new[i], b] := by unfold twosAt; rw [if_pos h1]
        refine s_one (h_for (fun j E' => ∃ o7, E' = [some (.val (.lst (new.map eK))), some (.val (.dtt m)), some (.val (.int total)), some (.val (.int most)), some (.val (.lst ((onesM new mk total).map eC))), some (.oL l2 (((List.range i).flatMap F ++ (((new.drop (i + 1)).take j).filter fun b => decide (Builtin.bitOr (mk new[i]) (mk b) = total)).map fun b => [new[i], b]).map eC)), some (.val (.int i)), o7, none])
          (k_list (ds := (new.drop (i + 1)).map eK) (d_is (h_settle (h_sliceB (k := i + 1) (h_var 0) (d_is (h_op o_add (h_var 6) h_int) (by rw [Int.natCast_add]; rfl)))) (by rw [List.map_drop]))) (g_name 7 sc_l_due.nd) ⟨o7, by rw [List.take_zero, List.filter_nil, List.map_nil, List.append_nil]; rfl⟩ ?_ ?_)
        · rintro j d E' hd ⟨o7, rfl⟩
          obtain ⟨b, hb, rfl⟩ := map_get hd
          refine ⟨_, ⟨Nat.le_of_ble_eq_true rfl, rfl⟩, ?_⟩
          have gb := M.has b (List.mem_of_mem_drop (mem_of_get hb))
          have l1 : (((new.drop (i + 1)).take j).filter fun b => decide (Builtin.bitOr (mk new[i]) (mk b) = total)).length ≤ 100 := Nat.le_trans (filt_len _ _ _) (by rw [List.length_drop]; omega)
          have gA : ∀ {E : En} {e1 e2 : Expr} {p : Pos}, HasD (Cc.cx P w K mg bs N_l_due "_law_due" s_l_due c) E e1 (.lst (new.map eK)) → HasD (Cc.cx P w K mg bs N_l_due "_law_due" s_l_due c) E e2 (.int (i : Int)) → PlainIx e2 → HasD (Cc.cx P w K mg bs N_l_due "_law_due" s_l_due c) E (.Subscript e1 e2 p) (eK new[i]) :=
            fun h1 h2 h3 => h_ix (i_lst (ds := new.map eK) (j := i) (by rw [List.getElem?_map, ha]; rfl)) h1 h2 h3
          refine s_one (h_ifS (t_cmp c_eqI (h_op o_or (h_tget (xs := kI new[i]) (ru1 hr) ga (h_var 1) (gA (h_var 0) (h_var 6) (fun _ _ => rfl))) (h_tget (xs := kI b) (ru1 hr) gb (h_var 1) (h_var 7))) (h_var 2)) (fun h => ?_) (fun h => s_nil ?_))
          · refine s_one (h_appM (L := (List.range i).flatMap F ++ (((new.drop (i + 1)).take j).filter fun b => decide (Builtin.bitOr (mk new[i]) (mk b) = total)).map fun b => [new[i], b]) eC 5 [new[i], b] _ rfl (h_tup (a2 (h_item (gA (h_var 0) (h_var 6) (fun _ _ => rfl))) (h_item (h_var 7)))) (by rw [List.length_append, List.length_map]; omega) ⟨some (.val (eK b)), ?_⟩)
            have e : ((((new.drop (i + 1)).take (j + 1)).filter fun b => decide (Builtin.bitOr (mk new[i]) (mk b) = total)).map fun b => [new[i], b]) = ((((new.drop (i + 1)).take j).filter fun b => decide (Builtin.bitOr (mk new[i]) (mk b) = total)).map fun b => [new[i], b]) ++ [[new[i], b]] := by
              rw [tkfilter hb, if_pos h, List.map_append]; rfl
            rw [e, ← List.append_assoc]
            rfl
          · refine ⟨some (.val (eK b)), ?_⟩
            rw [tkfilter hb, if_neg (by rw [show decide (Builtin.bitOr (mk new[i]) (mk b) = total) = false from h]; decide), List.append_nil]
            rfl
        · rintro E' ⟨o7, rfl⟩
          refine ⟨some (.val (.int i)), o7, ?_⟩
          rw [List.length_map, List.take_length, nx, e2]
      · have h1 : ¬ mk new[i] > 0 := of_decide_eq_false h
        refine ⟨some (.val (.int i)), o7, ?_⟩
        rw [nx, show twosAt new mk total i new[i] = [] by unfold twosAt; rw [if_neg h1], List.append_nil]; rfl
    · rintro E' ⟨o6, o7, rfl⟩
      refine ⟨o6, o7, ?_⟩
      rw [show (nums ((new.length : Int)).toNat).length = new.length by unfold nums; rw [List.length_map, List.length_range]; omega]
      rfl
    · rintro _ ⟨o6, o7, rfl⟩
      have e : dueM new mk total most = twosM new mk total := by unfold dueM; rw [if_neg n1, if_neg n2, if_neg n3]
      refine s_one (h_retOwn 5 (hn := ?_))
      show Rs.ok (.nL ((dueM new mk total most).map eC)) _
      rw [e]; exact ⟨_, rfl⟩
end
end K39
/-! KP1 -/
set_option maxHeartbeats 4000000
/-! ## the program's small defs -/
namespace K39
open PySem PySem.Spec PyProof.Rows L2
theorem Hd.s_LETTERS {K : PySem.W.Frag} {mg : Str → Option Value} (T : Hd K mg) : ∃ t, mg "LETTERS" = some (.str letters t) := by
  obtain ⟨h, X, G⟩ := T.ex
  exact He.str_ok X G (T.says.fact 76 (f := .str "LETTERS" "abcdefghijklmnopqrstuvwxyz") rfl)
theorem letters_mem {c : Nat} (h : 97 ≤ c ∧ c ≤ 122) : c ∈ letters.cps.toList := by
  have : ∀ c ∈ (List.range 26).map (· + 97), c ∈ letters.cps.toList := by decide +kernel
  exact this c (List.mem_map.mpr ⟨c - 97, List.mem_range.mpr (by omega), by omega⟩)
section
variable {P : Program} {w : World} {K : PySem.W.Frag} {mg : Str → Option Value} {bs : Heap} {X : Cx} {E : En}
theorem c_ninTS {s : Str} {L : List Str} (hu : X.A.units + 65 < cLine) (h : PyData.strOk s = true) (hL : ∀ x ∈ L, PyData.strOk x = true) : CmpOk X .NotIn (.str s) (.tup (L.map D.str)) (decide (s ∉ L)) :=
  c_ninT (n := 0) (m := 1) hu (sh_str h) (sh_strs hL) (by rw [decide_eq_true_eq, str_mem])
def G_is_name : List D → Rs → Prop := fun ds r => ∃ x : Str, ds = [.str x] ∧ Nm x ∧ r = .val (.bl true)
theorem kn_is_name (T : Hd K mg) : Kn P w K mg bs CX0 1 "is_name" ["x"] (spG K G_is_name) := by
  refine k_is_name T ?_ ?_
  · rintro ds r ⟨_, rfl, _⟩; rfl
  · rintro c ds r hr ⟨x, rfl, hx, rfl⟩
    have lo := hx.lo
    have hi := hx.hi
    obtain ⟨tk, hl⟩ := T.s_LETTERS
    refine q_when (k := false) (t_w (w_or (k1 := false) (k2 := false) (t_not (t_val (h_isi (y := "") T.n_isinstance T.n_str PyProof.Rows.boot_str (h_var 0) (t := "str") rfl rfl))) fun _ =>
      w_or (k1 := false) (k2 := false) (t_is (t_cmp c_lt (h_callB (f_lenS (Nat.le_trans hi (by decide))) T.n_len PySem.boot_len (a1 (h_var 0))) h_int) (by simp; omega)) fun _ =>
      w_or1 (t_is (t_cmp c_gt (h_callB (f_lenS (Nat.le_trans hi (by decide))) T.n_len PySem.boot_len (a1 (h_var 0))) h_int) (by simp; omega)))) (fun h => nomatch h) fun _ => ?_
    refine q_for (fun i E' => ∃ o, E' = [some (.val (.str x)), o]) (fun E' => ∃ o, E' = [some (.val (.str x)), o]) (k_str (h_var 0)) (g_name 1 sc_is_name.nd) ⟨_, rfl⟩ ?_ (fun _ h => h) ?_
    · rintro i d E' hd ⟨o, rfl⟩
      obtain ⟨c, hc, rfl⟩ := map_get hd
      have hm := letters_mem (hx.low c (mem_of_get hc))
      refine ⟨_, ⟨Nat.le_of_ble_eq_true rfl, rfl⟩, ?_⟩
      exact s_one (h_ifS (k := false) (t_is (t_cmp c_notInSign (h_var 1) (h_glob (v := .str letters) (u := .str letters tk) rfl hl ⟨_, rfl⟩ (fun _ => .str _))) (by rw [decide_eq_true hm]; rfl)) (fun h => nomatch h) fun _ => s_nil ⟨_, rfl⟩)
    · rintro _ ⟨o, rfl⟩
      exact s_one (h_ret h_bl fun s hs => hs)
def G_is_whole : List D → Rs → Prop := fun ds r => ∃ x a b : Int, ds = [.int x, .int a, .int b] ∧ r = .val (.bl (decide (a ≤ x) && decide (x ≤ b)))
theorem kn_is_whole (T : Hd K mg) : Kn P w K mg bs CX0 1 "is_whole" ["x", "least", "most"] (spG K G_is_whole) := by
  refine k_is_whole T ?_ ?_
  · rintro ds r ⟨_, _, _, rfl, _⟩; rfl
  · rintro c ds r hr ⟨x, a, b, rfl, rfl⟩
    exact s_one (h_ret (h_and (k1 := true) (k2 := decide (a ≤ x) && decide (x ≤ b)) (h_isi (y := "") T.n_isinstance T.n_int PyProof.Rows.boot_int (h_var 0) (t := "int") rfl rfl) fun _ =>
      h_and (k1 := true) (k2 := decide (a ≤ x) && decide (x ≤ b)) (h_not (h_isi (y := "") T.n_isinstance T.n_bool PyProof.Rows.boot_bool (h_var 0) (t := "int") rfl rfl)) fun _ =>
      h_and1 (h_chain c_le c_le (h_var 1) (h_var 0) (h_var 2))) fun s hs => hs)
def G_ascending : List D → Rs → Prop := fun ds r => ∃ xs es : List D, ds = [.lst xs] ∧ AscOk xs es ∧ r = .nL es
theorem kn_ascending (T : Hd K mg) : Kn P w K mg bs CX0 1 "ascending" ["rows"] (spG K G_ascending) := by
  refine k_ascending T ?_ ?_
  · rintro ds r ⟨_, _, rfl, _⟩; rfl
  · rintro c ds r hr ⟨xs, es, rfl, A, rfl⟩
    exact s_one (h_ret (h_sortedSet (ru64 hr) T.n_sorted T.n_set (.inl (h_var 0)) A) fun s hs => hs)
def G_is_fence : List D → Rs → Prop := fun ds r => ∃ x : Str, ds = [.str x] ∧ Nm x ∧ x ∉ barred7 ∧ r = .val (.bl true)
theorem kn_is_fence (T : Hd K mg) : Kn P w K mg bs CX0 2 "is_fence" ["name"] (spG K G_is_fence) := by
  refine k_is_fence T ?_ ?_
  · rintro ds r ⟨_, rfl, _⟩; rfl
  · rintro c ds r hr ⟨x, rfl, hx, hb, rfl⟩
    have h1 : x ∉ kinds5 := fun h => hb (by
      have : ∀ y ∈ kinds5, y ∈ barred7 := by decide +kernel
      exact this x h)
    have h2 : x ≠ "return" := fun h => hb (by rw [h]; decide +kernel)
    have h3 : x ≠ "full" := fun h => hb (by rw [h]; decide +kernel)
    refine s_one (h_ret (h_and (k1 := true) (k2 := true) (h_call (kn_is_name T) (hr.mono (by decide)) (a1 (h_var 0)) ⟨x, rfl, hx, rfl⟩) fun _ =>
      h_and (k1 := true) (k2 := true) (d_is (h_cmp (c_ninTS (ru65 hr) hx.ok kinds_ok) (h_var 0) (h_glob (v := .ref (He.ga K "KINDS")) rfl T.g_KINDS rfl T.r_KINDS)) (by rw [decide_eq_true h1])) fun _ =>
      h_and (k1 := true) (k2 := true) (d_is (h_cmp c_neS (h_var 0) h_str) (by rw [decide_eq_false h2]; rfl)) fun _ =>
      h_and1 (d_is (h_cmp c_neS (h_var 0) h_str) (by rw [decide_eq_false h3]; rfl))) fun s hs => hs)
end
end K39
/-! KP2 -/
set_option maxHeartbeats 4000000
/-! ## Pairs and Book -/
namespace K39
open PySem PySem.Spec PyProof.Rows L2
/-- a weaker constructor's promise -/
def weakI (G : Sl → List D → (Sl → Prop) → Prop) : Sl → List D → (Sl → Prop) → Prop := fun s ds r' => ∃ r, G s ds r ∧ ∀ s1, r s1 → r' s1
theorem spI_weak {K : PySem.W.Frag} {G : Sl → List D → (Sl → Prop) → Prop} : ∀ vs H Q XE, spI K (weakI G) vs H Q XE → spI K G vs H Q XE := by
  rintro vs H Q XE ⟨v0, vs', s0, B, ds, r', e, eB, r0, hR, nd, ⟨r, hG, hw⟩, k⟩
  exact ⟨v0, vs', s0, B, ds, r, e, eB, r0, hR, nd, hG, fun s1 H' h1 => k s1 H' (hw s1 h1)⟩
theorem KnC.weak {P : Program} {w : World} {K : PySem.W.Frag} {mg : Str → Option Value} {bs : Heap} {k : Nat} {x : Str} {C : Addr} {ps : List Str} {G : Sl → List D → (Sl → Prop) → Prop} (T : KnC P w K mg bs CX0 k x C ps (spI K G)) : KnC P w K mg bs CX0 k x C ps (spI K (weakI G)) := by
  obtain ⟨f, fd, M, F, B, g⟩ := T.ex
  exact ⟨f, fd, M, F.imp spI_weak, B, g⟩
theorem KnCK.weak {P : Program} {w : World} {K : PySem.W.Frag} {mg : Str → Option Value} {bs : Heap} {k n : Nat} {x : Str} {C : Addr} {ps ks : List Str} {G : Sl → List D → (Sl → Prop) → Prop} (T : KnCK P w K mg bs CX0 k x C ps n ks (spI K G)) : KnCK P w K mg bs CX0 k x C ps n ks (spI K (weakI G)) := by
  obtain ⟨f, fd, M, F, B, g⟩ := T.ex
  exact ⟨f, fd, M, F.imp spI_weak, B, g⟩
def normS (ps : PSet) : PSet := pairsM.filter fun p => decide (p ∈ ps)
def oP (K : PySem.W.Frag) (ps : PSet) : D := .ins (He.ga K "Pairs") [("own_rows", eS (normS ps))]
theorem normS_mem {p : Pair} {ps : PSet} : p ∈ normS ps ↔ p ∈ pairsM ∧ p ∈ ps := by
  unfold normS
  rw [List.mem_filter, decide_eq_true_eq]
theorem normS_ok (ps : PSet) : SetOk (normS ps) := ⟨fun p h => (normS_mem.mp h).1, Nat.le_trans (List.length_filter_le _ _) (by decide +kernel)⟩
theorem normS_in {p : Pair} {ps : PSet} (h : SetOk ps) : p ∈ normS ps ↔ p ∈ ps := ⟨fun q => (normS_mem.mp q).2, fun q => normS_mem.mpr ⟨h.1 p q, q⟩⟩
theorem pairs_eP : (D.tup (pairs27.map fun xs => .tup (xs.map .str))) = .tup (pairsM.map eP) := by unfold pairs27; rw [List.map_map]; rfl
theorem pairs_set : SetOk pairsM := ⟨fun p h => h, by decide +kernel⟩
section
variable {P : Program} {w : World} {K : PySem.W.Frag} {mg : Str → Option Value} {bs : Heap} {X : Cx} {E : En}
theorem h_PAIRS {p : Pos} (T : Hd X.K X.mg) (hg : Gl X "PAIRS" := by rfl) : HasD X E (.Name "PAIRS" p) (.tup (pairsM.map eP)) :=
  d_is (h_glob (v := .ref (He.ga X.K "PAIRS")) hg T.g_PAIRS rfl T.r_PAIRS) pairs_eP
theorem h_KINDS {p : Pos} (T : Hd X.K X.mg) (hg : Gl X "KINDS" := by rfl) : HasD X E (.Name "KINDS" p) (.tup (kinds5.map D.str)) :=
  h_glob (v := .ref (He.ga X.K "KINDS")) hg T.g_KINDS rfl T.r_KINDS
theorem c_inPT {p : Pair} {s : PSet} (hu : X.A.units + 65 < cLine) (h : PyData.strOk p.1 = true ∧ PyData.strOk p.2 = true) (hs : SetOk s) : CmpOk X .In (eP p) (.tup (s.map eP)) (decide (p ∈ s)) :=
  c_inT (n := 1) (m := 1) hu (sh_eP h) (sh_pairs hs.1) (by rw [decide_eq_true_eq, eP_mem])
theorem c_ninPT {p : Pair} {s : PSet} (hu : X.A.units + 65 < cLine) (h : PyData.strOk p.1 = true ∧ PyData.strOk p.2 = true) (hs : SetOk s) : CmpOk X .NotIn (eP p) (.tup (s.map eP)) (decide (p ∉ s)) :=
  c_ninT (n := 1) (m := 1) hu (sh_eP h) (sh_pairs hs.1) (by rw [decide_eq_true_eq, eP_mem])
def G_Pairs_init (K : PySem.W.Frag) : Sl → List D → (Sl → Prop) → Prop := fun s ds r => ∃ (ps : PSet) (y : Addr) (d : D), s = .oI y (He.ga K "Pairs") [] ∧ ds = [d] ∧ (d = eS ps ∨ d = .tup (ps.map eP)) ∧ SetOk ps ∧ r = fun s1 => s1 = .oI y (He.ga K "Pairs") [("own_rows", eS (normS ps))]
theorem kn_Pairs0 (T : Hd K mg) : KnC P w K mg bs CX0 1 "Pairs" (He.ga K "Pairs") ["self", "pairs"] (spI K (G_Pairs_init K)) := by
  have F : ∃ fd, L2.FunD K "__init__" "Pairs.__init__" (defArgs s_Pairs_init) (defBody s_Pairs_init) (defScope s_Pairs_init) (d_Pairs_init.dvs K) (d_Pairs_init.kws K) (He.ma K (He.ga K "Pairs") "__init__") fd ∧ L2.Binds K fd ["self", "pairs"] [] := by
    obtain ⟨fd, F⟩ := T.f_Pairs_init
    obtain ⟨ds, h1, h2⟩ := F.binds1 (ps := ["self", "pairs"]) 2 1 (fun h => nomatch h) rfl (fun Ta kV doc pm an cdv ct us its hu hi => match us, its, hu, hi with | [_, _], [_], _, _ => ⟨_, rfl, rfl⟩)
    cases h1
    exact ⟨fd, F, h2⟩
  refine knC_of (N := N_Pairs_init) F T.m_Pairs T.g_Pairs sc_Pairs_init (by decide) ?_ ?_ ?_
  · rintro s ds r ⟨_, _, _, _, rfl, _⟩; rfl
  · rintro s ds r s1 ⟨_, _, _, rfl, _, _, _, rfl⟩ rfl
    exact ⟨fun h => (nomatch h), rfl, fun l h => h⟩
  · rintro c s0 ds r hr ⟨ps, y, d, rfl, rfl, hd, hs, rfl⟩
    refine q_for (fun i E' => ∃ o, E' = [some (.oI y (He.ga K "Pairs") []), some (.val d), o, none]) (fun E' => ∃ o, E' = [some (.oI y (He.ga K "Pairs") []), some (.val d), o, none]) (ds := ps.map eP) ?_ (g_name 2 sc_Pairs_init.nd) ⟨_, rfl⟩ ?_ (fun _ h => h) ?_
    · rcases hd with rfl | rfl
      · exact k_list (h_var 1)
      · exact k_tup (h_var 1)
    · rintro i e E' he ⟨o, rfl⟩
      obtain ⟨p, hp, rfl⟩ := map_get he
      have pm := hs.1 p (mem_of_get hp)
      refine ⟨_, ⟨Nat.le_of_ble_eq_true rfl, rfl⟩, ?_⟩
      exact s_one (h_ifS (k := false) (t_is (t_cmp (c_ninPT (ru65 hr) (pairs_ok pm) pairs_set) (h_var 2) (h_PAIRS T)) (decide_eq_false fun h => h pm)) (fun h => nomatch h) fun _ => s_nil ⟨_, rfl⟩)
    · rintro _ ⟨o, rfl⟩
      refine s_one (s_fld (fs := []) 0 (d := eS (normS ps)) (h_settle (h_lcM eP eP (fun p => decide (p ∈ ps)) (L := pairsM) 3 eP_inj' sc_Pairs_init.nd (k_tup (h_PAIRS T)) (by decide +kernel) (fun i p hp b => ⟨ts_one ?_, fun _ => h_var 3⟩))) ⟨_, rfl, rfl⟩ T.c_Pairs T.a_Pairs_own_rows)
      rcases hd with rfl | rfl
      · exact t_cmp (c_inP (ru65 hr) (pairs_ok (mem_of_get hp)) hs) (h_var 3) (h_var 1)
      · exact t_cmp (c_inPT (ru65 hr) (pairs_ok (mem_of_get hp)) hs) (h_var 3) (h_var 1)
theorem kn_Pairs (T : Hd K mg) : KnC P w K mg bs CX0 1 "Pairs" (He.ga K "Pairs") ["self", "pairs"] (spI K (weakI (G_Pairs_init K))) := (kn_Pairs0 T).weak
/-- Pairs(..) as a value -/
theorem h_Pairs {e : Expr} {p pos : Pos} {d : D} {ps : PSet} (T : Hd X.K X.mg) (hr : Room 2 X.A) (he : HasD X E e d) (hd : d = eS ps ∨ d = .tup (ps.map eP)) (hs : SetOk ps)
    (PC : ∀ {rr : Rs} {r : Sl → Prop}, Hd X.K X.mg → Room 2 X.A → HA X E [e] [d] → (∀ y, weakI (G_Pairs_init X.K) (.oI y (He.ga X.K "Pairs") []) [d] r) → MakeR r rr → HasR X E (.Call (.Name "Pairs" p) [e] [] pos) rr := by exact fun T hr ha hG hR => h_make (kn_Pairs T) hr ha hG hR)
    (na : starEach [e] X.env = (false, eval e X.env) :: starEach [] X.env := by rfl) : HasD X E (.Call (.Name "Pairs" p) [e] [] pos) (oP X.K ps) :=
  PC T hr (a1 he na) (r := fun s1 => ∃ y, s1 = .oI y (He.ga X.K "Pairs") [("own_rows", eS (normS ps))]) (fun y => ⟨_, ⟨ps, y, d, rfl, rfl, hd, hs, rfl⟩, fun s1 h => ⟨y, h⟩⟩) fun s1 ⟨y, h⟩ => .inr (by rw [h]; rfl)
def G_Pairs_contains (K : PySem.W.Frag) : List D → Rs → Prop := fun ds r => ∃ (ps : PSet) (p : Pair), ds = [oP K ps, eP p] ∧ (PyData.strOk p.1 = true ∧ PyData.strOk p.2 = true) ∧ r = .val (.bl (decide (p ∈ normS ps)))
theorem kn_contains (T : Hd K mg) : KnM P w K mg bs CX0 1 (He.ga K "Pairs") "__contains__" ["self", "pair"] (spG K (G_Pairs_contains K)) := by
  refine knM_of (N := N_Pairs_contains) T.f_Pairs_contains T.m_Pairs_contains T.c_Pairs sc_Pairs_contains (by decide) (fun _ _ _ _ _ _ us hl => match us, hl with | [_, _], _ => rfl) ?_ ?_
  · rintro ds r ⟨_, _, rfl, _⟩; rfl
  · rintro c ds r hr ⟨ps, p, rfl, hp, rfl⟩
    exact s_one (h_ret (h_cmp (c_inP (ru65 hr) hp (normS_ok ps)) (h_var 1) (h_fld (h_var 0) rfl T.c_Pairs T.a_Pairs_own_rows)) fun s hs => hs)
end
end K39
/-! KP3 -/
set_option maxHeartbeats 4000000
/-! ## Book -/
namespace K39
open PySem PySem.Spec PyProof.Rows L2
def tkP (K : PySem.W.Frag) (t : Tab) : List (Str × D) := t.map fun p => (p.1, oP K p.2)
def oB (K : PySem.W.Frag) (kept : PSet) (t : Tab) : D := .ins (He.ga K "Book") [("kept", oP K kept), ("own_kept_by", .dct (tkP K t)), ("own_names", eNs (ascS (t.map (·.1))))]
def fullT (t : Tab) : Tab := t ++ [(("full" : Str), pairsM)]
theorem tkP_keys (K : PySem.W.Frag) (t : Tab) : (tkP K t).map (·.1) = t.map (·.1) := by unfold tkP; rw [List.map_map]; rfl
theorem keys_tkP (K : PySem.W.Frag) (t : Tab) : keysD (tkP K t) = (t.map (·.1)).map D.str := by unfold tkP keysD; rw [List.map_map, List.map_map]; rfl
theorem tkP_get {K : PySem.W.Frag} {t : Tab} {n : Str} (h : n ∈ t.map (·.1)) : (tkP K t).lookup n = some (oP K (setOf t n)) := by
  obtain ⟨x, e, _⟩ := look_mem h
  unfold tkP
  rw [look_map, e, setOf, e]; rfl
/-- the names of a law's table can be fences' names -/
structure FenOk (t : Tab) : Prop where
  tab : TabOk t
  nm : ∀ n ∈ t.map (·.1), Nm n ∧ n ∉ barred7
  two : t.length ≤ 2
theorem FenOk.nofull {t : Tab} (F : FenOk t) : ("full" : Str) ∉ t.map (·.1) := fun h => (F.nm _ h).2 (by decide +kernel)
theorem full_keys (t : Tab) : (fullT t).map (·.1) = t.map (·.1) ++ [("full" : Str)] := by unfold fullT; rw [List.map_append]; rfl
theorem full_strOk : PyData.strOk ("full" : Str) = true := by decide +kernel
theorem lookup_app_none {α : Type} {n : Str} {b : List (Str × α)} : ∀ {a : List (Str × α)}, a.lookup n = none → (a ++ b).lookup n = b.lookup n
  | [], _ => rfl
  | (y, e) :: a, h => by
    rw [List.cons_append, List.lookup_cons]
    rw [List.lookup_cons] at h
    cases q : n == y with
    | true => rw [q] at h; cases h
    | false => rw [q] at h; exact lookup_app_none h
theorem lookup_app_some {α : Type} {n : Str} {x : α} {b : List (Str × α)} : ∀ {a : List (Str × α)}, a.lookup n = some x → (a ++ b).lookup n = some x
  | [], h => by cases h
  | (y, e) :: a, h => by
    rw [List.cons_append, List.lookup_cons]
    rw [List.lookup_cons] at h
    cases q : n == y with
    | true => rw [q] at h; exact h
    | false => rw [q] at h; exact lookup_app_some h
theorem look_no {α : Type} {n : Str} : ∀ {t : List (Str × α)}, n ∉ t.map (·.1) → t.lookup n = none
  | [], _ => rfl
  | (y, e) :: t, h => by
    rw [List.map_cons, List.mem_cons, not_or] at h
    rw [List.lookup_cons, show (n == y) = false by simpa using h.1]
    exact look_no h.2
theorem set_full {t : Tab} (F : FenOk t) : setOf (fullT t) "full" = pairsM := by
  unfold setOf fullT
  rw [lookup_app_none (look_no F.nofull)]; rfl
theorem set_other {t : Tab} {n : Str} (h : n ∈ t.map (·.1)) : setOf (fullT t) n = setOf t n := by
  obtain ⟨x, e, _⟩ := look_mem h
  unfold setOf fullT
  rw [lookup_app_some e, e]
theorem FenOk.full {t : Tab} (F : FenOk t) : TabOk (fullT t) where
  ok := by
    rw [full_keys]
    refine ⟨fun x hx => ?_, ?_⟩
    · rcases List.mem_append.mp hx with hx | hx
      · exact F.tab.ok.1 x hx
      · rw [List.mem_singleton.mp hx]; exact full_strOk
    · rw [List.length_append, List.length_map]
      have := F.two
      show _ + 1 ≤ 100
      omega
  nd := by
    rw [full_keys]
    exact List.nodup_append.mpr ⟨F.tab.nd, by simp, fun a ha b hb e => by
      rw [List.mem_singleton.mp hb] at e
      rw [e] at ha
      exact F.nofull ha⟩
  sets := fun n s h => by
    cases q : t.lookup n with
    | some x =>
      have : (fullT t).lookup n = some x := lookup_app_some q
      rw [this] at h
      cases h
      exact F.tab.sets n _ q
    | none =>
      have h2 : (fullT t).lookup n = List.lookup n [(("full" : Str), pairsM)] := lookup_app_none q
      rw [h2, List.lookup_cons] at h
      cases e : n == "full" with
      | true => rw [e] at h; cases h; exact pairs_set
      | false => rw [e] at h; cases h
section
variable {P : Program} {w : World} {K : PySem.W.Frag} {mg : Str → Option Value} {bs : Heap} {X : Cx} {E : En}
def G_Book_init (K : PySem.W.Frag) : Sl → List D → (Sl → Prop) → Prop := fun s ds r => ∃ (kept : PSet) (t : Tab) (y : Addr), s = .oI y (He.ga K "Book") [] ∧ ds = [oP K kept, .dct (tkP K t)] ∧ FenOk t ∧
  r = fun s1 => s1 = .oI y (He.ga K "Book") [("kept", oP K kept), ("own_kept_by", .dct (tkP K (fullT t))), ("own_names", eNs (ascS ((fullT t).map (·.1))))]
theorem kn_Book0 (T : Hd K mg) : KnCK P w K mg bs CX0 3 "Book" (He.ga K "Book") ["self", "kept", "fences"] 1 ["fences"] (spI K (G_Book_init K)) := by
  have F : ∃ fd, L2.FunD K "__init__" "Book.__init__" (defArgs s_Book_init) (defBody s_Book_init) (defScope s_Book_init) (d_Book_init.dvs K) (d_Book_init.kws K) (He.ma K (He.ga K "Book") "__init__") fd ∧ KBn K fd ["self", "kept", "fences"] (1 + 1) ["fences"] (fun us ws => us ++ ws) (fun vs zs => vs ++ zs) := by
    obtain ⟨fd, F⟩ := T.f_Book_init
    refine ⟨fd, F, ⟨fun s us ws _ hu hw => ?_, fun h1 h2 => h1.append h2⟩⟩
    obtain ⟨oc, od, dV, kV, doc, pm, an, cdv, ct, osl, rfl, lk, hcd, hD, hK⟩ := F.ex
    rcases hD with ⟨_, rfl⟩ | ⟨e, _⟩
    · match us, ws, hu, hw with
      | [_, _], [_], _, _ => exact .of_eq rfl
    · exact absurd rfl e
  refine knCK_of (N := N_Book_init) F T.m_Book T.g_Book sc_Book_init (by decide) ?_ ?_ ?_
  · rintro s ds r ⟨_, _, _, _, rfl, _⟩; rfl
  · rintro s ds r s1 ⟨_, _, _, rfl, _, _, rfl⟩ rfl
    exact ⟨fun h => (nomatch h), rfl, fun l h => h⟩
  · rintro c s0 ds r hr ⟨kept, t, y, rfl, rfl, F, rfl⟩
    have hu := ru1 hr
    have two := F.two
    refine q_asg 3 sc_Book_init.nd (r := .nD (tkP K t)) (h_if (k := false) (t_cmp c_isN (h_var 2) h_non) (fun h => nomatch h) fun _ => h_callT f_dictD T.n_dict PyProof.Rows.boot_dict (a1 (h_var 2))) ?_
    rintro _ ⟨g, rfl⟩
    refine q_when (k := false) (t_lend (t_is (t_cmp c_gt (h_callB (f_lenD rfl) T.n_len PySem.boot_len (a1 (h_var 3))) h_int) (by unfold tkP; rw [List.length_map]; simp; omega))) (fun h => nomatch h) fun _ => ?_
    refine q_for (fun i E' => ∃ o, E' = [some (.oI y (He.ga K "Book") []), some (.val (oP K kept)), some (.val (.dct (tkP K t))), some (.oD g (tkP K t)), o]) (fun E' => ∃ o, E' = [some (.oI y (He.ga K "Book") []), some (.val (oP K kept)), some (.val (.dct (tkP K t))), some (.oD g (tkP K t)), o])
      (k_list (ds := (sortS (t.map (·.1))).map D.str) (h_settle (h_callB (f_sortedS (L := t.map (·.1)) (ru64 hr) F.tab.ok.1 (Nat.le_trans F.tab.ok.2 (by decide))) T.n_sorted PyProof.Rows.boot_sorted
        (a1 (h_settle (h_lend (r_is (h_callT (f_listD rfl) T.n_list PyProof.Rows.boot_list (a1 (h_var 3))) (by rw [keys_tkP])) (pls_strs _))))))) (g_name 4 sc_Book_init.nd) ⟨_, rfl⟩ ?_ (fun _ h => h) ?_
    · rintro i d E' hd ⟨o, rfl⟩
      obtain ⟨n, hn, rfl⟩ := map_get hd
      obtain ⟨h1, h2⟩ := F.nm n (sortS_mem.mp (mem_of_get hn))
      refine ⟨_, ⟨Nat.le_of_ble_eq_true rfl, rfl⟩, ?_⟩
      exact s_one (h_ifS (k := false) (t_not (k := true) (t_val (h_call (kn_is_fence T) (hr.mono (by decide)) (a1 (h_var 4)) ⟨n, rfl, h1, h2, rfl⟩))) (fun h => nomatch h) fun _ => s_nil ⟨_, rfl⟩)
    · rintro _ ⟨o, rfl⟩
      refine s_cons (M := fun E' => E' = [some (.oI y (He.ga K "Book") [("kept", oP K kept)]), some (.val (oP K kept)), some (.val (.dct (tkP K t))), some (.oD g (tkP K t)), o]) (s_fld (fs := []) 0 (h_var 1) rfl T.c_Book T.a_Book_kept) ?_
      rintro _ rfl
      refine s_cons (M := fun E' => E' = [some (.oI y (He.ga K "Book") [("kept", oP K kept), ("own_kept_by", .ptr g)]), some (.val (oP K kept)), some (.val (.dct (tkP K t))), some (.oD g (tkP K t)), o]) (s_fld (fs := [("kept", oP K kept)]) 0 (h_ptrVar 3) rfl T.c_Book T.a_Book_own_kept_by (hnew := (by decide : ("own_kept_by" : Str) ∉ [("kept" : Str)])) (hl := (by decide : 1 < 1000))) ?_
      rintro _ rfl
      have hl : (tkP K t).lookup ("full" : Str) = none := look_none.mpr (by rw [tkP_keys]; exact F.nofull)
      refine s_cons (M := fun E' => E' = [some (.oI y (He.ga K "Book") [("kept", oP K kept), ("own_kept_by", .ptr g)]), some (.val (oP K kept)), some (.val (.dct (tkP K t))), some (.oD g (tkP K (fullT t))), o])
        (s_dputO (s := .oD g (tkP K t)) (kvs := tkP K t) (g := g) 3 (ru1 hr) (h_Pairs T (hr.mono (by decide)) (h_PAIRS T) (.inr rfl) pairs_set) (h_fldOwn 0 (s := .oI y (He.ga K "Book") [("kept", oP K kept), ("own_kept_by", .ptr g)]) rfl rfl T.c_Book T.a_Book_own_kept_by) h_str (by unfold tkP; rw [List.length_map]; omega) (by
          rw [dput_new hl]
          show [_, _, _, some (Sl.oD g _), _] = _
          unfold tkP fullT
          rw [List.map_append]; rfl)) ?_
      rintro _ rfl
      refine q_absorb 0 3 [("kept", oP K kept)] [] ?_
      exact s_one (s_fld (fs := [("kept", oP K kept), ("own_kept_by", .dct (tkP K (fullT t)))]) 0 (d := eNs (ascS ((fullT t).map (·.1))))
        (h_settle (h_call (kn_ascending T) (hr.mono (by decide)) (a1 (h_settle (h_callT (f_listD rfl) T.n_list PyProof.Rows.boot_list (a1 (h_fldOwn 0 (s := .oI y (He.ga K "Book") [("kept", oP K kept), ("own_kept_by", .dct (tkP K (fullT t)))]) rfl rfl T.c_Book T.a_Book_own_kept_by))))) ⟨_, _, rfl, by
          rw [keys_tkP]
          exact ascOk_strs F.full.ok.1 (Nat.le_trans F.full.ok.2 (by decide)), rfl⟩)) ⟨_, rfl, rfl⟩ T.c_Book T.a_Book_own_names (hnew := (by decide : ("own_names" : Str) ∉ [("kept" : Str), "own_kept_by"])) (hl := (by decide : 2 < 1000)))
theorem kn_Book (T : Hd K mg) : KnCK P w K mg bs CX0 3 "Book" (He.ga K "Book") ["self", "kept", "fences"] 1 ["fences"] (spI K (weakI (G_Book_init K))) := (kn_Book0 T).weak
/-- Book(kept, fences=t) as a value -/
theorem h_Book {e e1 : Expr} {p pos kpos : Pos} {kept : PSet} {t : Tab} (T : Hd X.K X.mg) (hr : Room 4 X.A) (he : HasD X E e (oP X.K kept)) (hk : HasD X E e1 (.dct (tkP X.K t))) (F : FenOk t)
    (PC : ∀ {rr : Rs} {r : Sl → Prop}, Hd X.K X.mg → Room 4 X.A → HA X E [e] [oP X.K kept] → HasD X E e1 (.dct (tkP X.K t)) → (∀ y, weakI (G_Book_init X.K) (.oI y (He.ga X.K "Book") []) ([oP X.K kept] ++ [.dct (tkP X.K t)]) r) → MakeR r rr → HasR X E (.Call (.Name "Book" p) [e] [⟨some "fences", e1, kpos⟩] pos) rr := by exact fun T hr ha hk hG hR => h_makeK (kn_Book T) hr ha hk rfl hG hR)
    (na : starEach [e] X.env = (false, eval e X.env) :: starEach [] X.env := by rfl) : HasD X E (.Call (.Name "Book" p) [e] [⟨some "fences", e1, kpos⟩] pos) (oB X.K kept (fullT t)) :=
  PC T hr (a1 he na) hk (r := fun s1 => ∃ y, s1 = .oI y (He.ga X.K "Book") [("kept", oP X.K kept), ("own_kept_by", .dct (tkP X.K (fullT t))), ("own_names", eNs (ascS ((fullT t).map (·.1))))]) (fun y => ⟨_, ⟨kept, t, y, rfl, rfl, F, rfl⟩, fun s1 h => ⟨y, h⟩⟩) fun s1 ⟨y, h⟩ => .inr (by rw [h]; rfl)
end
end K39
/-! KP4 -/
set_option maxHeartbeats 4000000
/-! ## Book's methods, the law's book -/
namespace K39
open PySem PySem.Spec PyProof.Rows L2
section
variable {P : Program} {w : World} {K : PySem.W.Frag} {mg : Str → Option Value} {bs : Heap} {X : Cx} {E : En}
def G_fences (K : PySem.W.Frag) : List D → Rs → Prop := fun ds r => ∃ (kept : PSet) (t : Tab), ds = [oB K kept t] ∧ r = .nL ((ascS (t.map (·.1))).map .str)
theorem kn_fences (T : Hd K mg) : KnM P w K mg bs CX0 1 (He.ga K "Book") "fences" ["self"] (spG K (G_fences K)) := by
  refine knM_of (N := N_Book_fences) T.f_Book_fences T.m_Book_fences T.c_Book sc_Book_fences (by decide) (fun _ _ _ _ _ _ us hl => match us, hl with | [_], _ => rfl) ?_ ?_
  · rintro ds r ⟨_, _, rfl, _⟩; rfl
  · rintro c ds r hr ⟨kept, t, rfl, rfl⟩
    exact s_one (h_ret (h_callT f_listL T.n_list PyProof.Rows.boot_list (a1 (h_fld (h_var 0) rfl T.c_Book T.a_Book_own_names))) fun s hs => hs)
theorem asc_ok {t : Tab} (T : TabOk t) : ∀ x ∈ ascS (t.map (·.1)), PyData.strOk x = true := fun x hx => T.ok.1 x (ascS_mem.mp hx)
def G_fence (K : PySem.W.Frag) : List D → Rs → Prop := fun ds r => ∃ (kept : PSet) (t : Tab) (n : Str), ds = [oB K kept t, .str n] ∧ TabOk t ∧ n ∈ t.map (·.1) ∧ r = .val (oP K (setOf t n))
theorem kn_fence (T : Hd K mg) : KnM P w K mg bs CX0 1 (He.ga K "Book") "fence" ["self", "name"] (spG K (G_fence K)) := by
  refine knM_of (N := N_Book_fence) T.f_Book_fence T.m_Book_fence T.c_Book sc_Book_fence (by decide) (fun _ _ _ _ _ _ us hl => match us, hl with | [_, _], _ => rfl) ?_ ?_
  · rintro ds r ⟨_, _, _, rfl, _⟩; rfl
  · rintro c ds r hr ⟨kept, t, n, rfl, Tt, hn, rfl⟩
    refine q_when (k := false) (t_is (t_cmp (c_ninLS (ru65 hr) (Tt.ok.1 n hn) (asc_ok Tt)) (h_var 1) (h_fld (h_var 0) rfl T.c_Book T.a_Book_own_names)) (decide_eq_false fun h => h (ascS_mem.mpr hn))) (fun h => nomatch h) fun _ => ?_
    exact s_one (h_ret (h_dget (ru1 hr) (tkP_get hn) (h_fld (h_var 0) rfl T.c_Book T.a_Book_own_kept_by) (h_var 1)) fun s hs => hs)
def keepsM (kept : PSet) (t : Tab) (p : Pair) (pd : List Str) : Bool := decide (p ∈ normS kept) || pd.any fun n => decide (p ∈ normS (setOf t n))
def G_keeps (K : PySem.W.Frag) : List D → Rs → Prop := fun ds r => ∃ (kept : PSet) (t : Tab) (p : Pair) (pd : List Str), ds = [oB K kept t, .str p.1, .str p.2, eF pd] ∧ TabOk t ∧ p ∈ pairsM ∧ (∀ n ∈ pd, n ∈ t.map (·.1)) ∧ r = .val (.bl (keepsM kept t p pd))
theorem kn_keeps (T : Hd K mg) : KnK P w K mg bs CX0 2 (He.ga K "Book") "keeps" ["self", "first", "second", "between"] 3 ["between"] (spG K (G_keeps K)) := by
  have F : ∃ fd, L2.FunD K "keeps" "Book.keeps" (defArgs s_Book_keeps) (defBody s_Book_keeps) (defScope s_Book_keeps) (d_Book_keeps.dvs K) (d_Book_keeps.kws K) (He.ma K (He.ga K "Book") "keeps") fd ∧ KBn K fd ["self", "first", "second", "between"] 3 ["between"] (fun us ws => us ++ ws) (fun vs zs => vs ++ zs) := by
    obtain ⟨fd, F⟩ := T.f_Book_keeps
    refine ⟨fd, F, ⟨fun s us ws _ hu hw => ?_, fun h1 h2 => h1.append h2⟩⟩
    obtain ⟨oc, od, dV, kV, doc, pm, an, cdv, ct, osl, rfl, lk, hcd, hD, hK⟩ := F.ex
    rcases hD with ⟨_, rfl⟩ | ⟨e, _⟩
    · match us, ws, hu, hw with
      | [_, _, _], [_], _, _ => exact .of_eq rfl
    · exact absurd rfl e
  refine knK_of (N := N_Book_keeps) F T.m_Book_keeps T.c_Book sc_Book_keeps (by decide) ?_ ?_
  · rintro ds r ⟨_, _, _, _, rfl, _⟩; rfl
  · rintro c ds r hr ⟨kept, t, ⟨a, b⟩, pd, rfl, Tt, hp, hpd, rfl⟩
    have pok := pairs_ok hp
    refine q_asg 4 sc_Book_keeps.nd (r := .val (eP (a, b))) (h_tup (a2 (h_var 1) (h_var 2))) ?_
    rintro _ rfl
    refine q_when (k := false) (t_is (t_cmp (c_ninPT (ru65 hr) pok pairs_set) (h_var 4) (h_PAIRS T)) (decide_eq_false fun h => h hp)) (fun h => nomatch h) fun _ => ?_
    refine q_for (fun i E' => ∃ o, E' = [some (.val (oB K kept t)), some (.val (.str a)), some (.val (.str b)), some (.val (eF pd)), some (.val (eP (a, b))), o]) (fun E' => ∃ o, E' = [some (.val (oB K kept t)), some (.val (.str a)), some (.val (.str b)), some (.val (eF pd)), some (.val (eP (a, b))), o])
      (k_tup (h_var 3)) (g_name 5 sc_Book_keeps.nd) ⟨_, rfl⟩ ?_ (fun _ h => h) ?_
    · rintro i d E' hd ⟨o, rfl⟩
      obtain ⟨n, hn, rfl⟩ := map_get hd
      have hm := hpd n (mem_of_get hn)
      refine ⟨_, ⟨Nat.le_of_ble_eq_true rfl, rfl⟩, ?_⟩
      exact s_one (h_ifS (k := false) (t_is (t_cmp (c_ninLS (ru65 hr) (Tt.ok.1 n hm) (asc_ok Tt)) (h_var 5) (h_fld (h_var 0) rfl T.c_Book T.a_Book_own_names)) (decide_eq_false fun h => h (ascS_mem.mpr hm))) (fun h => nomatch h) fun _ => s_nil ⟨_, rfl⟩)
    · rintro _ ⟨o, rfl⟩
      refine q_when (t_cmp2 (c_ownIn (kn_contains T) (hr.mono (by decide)) ⟨kept, (a, b), rfl, pok, rfl⟩) (h_var 4) (h_fld (h_var 0) rfl T.c_Book T.a_Book_kept)) (fun h => s_one (h_ret h_bl ?_)) fun n1 => ?_
      · rintro _ rfl
        show Sl.val _ = _
        unfold keepsM
        rw [h]; rfl
      · have n1 : decide ((a, b) ∈ normS kept) = false := n1
        refine q_for (fun i E' => ∃ o, E' = [some (.val (oB K kept t)), some (.val (.str a)), some (.val (.str b)), some (.val (eF pd)), some (.val (eP (a, b))), o] ∧ ((pd.take i).any fun n => decide ((a, b) ∈ normS (setOf t n))) = false) (fun _ => (pd.any fun n => decide ((a, b) ∈ normS (setOf t n))) = false)
          (k_tup (h_var 3)) (g_name 5 sc_Book_keeps.nd) ⟨_, rfl, rfl⟩ ?_ ?_ ?_
        · rintro i d E' hd ⟨o, rfl, hf⟩
          obtain ⟨n, hn, rfl⟩ := map_get hd
          have hm := mem_of_get hn
          refine ⟨_, ⟨Nat.le_of_ble_eq_true rfl, rfl⟩, ?_⟩
          refine s_one (h_ifS (k := decide ((a, b) ∈ normS (setOf t n))) (t_cmp2 (c_ownIn (kn_contains T) (hr.mono (by decide)) ⟨setOf t n, (a, b), rfl, pok, rfl⟩) (h_var 4) (h_dget (ru1 hr) (tkP_get (hpd n hm)) (h_fld (h_var 0) rfl T.c_Book T.a_Book_own_kept_by) (h_var 5))) (fun h => s_one (h_ret h_bl ?_)) (fun h => s_nil ?_))
          · rintro _ rfl
            show Sl.val _ = _
            unfold keepsM
            rw [show (pd.any fun n => decide ((a, b) ∈ normS (setOf t n))) = true from List.any_eq_true.mpr ⟨n, hm, h⟩, Bool.or_true]
          · refine ⟨some (.val (.str n)), rfl, ?_⟩
            rw [tk hn, List.any_append, hf, Bool.false_or, List.any_cons, h]; rfl
        · rintro E' ⟨o, rfl, hf⟩
          rw [List.length_map, List.take_length] at hf
          exact hf
        · intro E' hf
          refine s_one (h_ret h_bl ?_)
          rintro _ rfl
          show Sl.val _ = _
          unfold keepsM
          rw [n1, hf]; rfl
/-! ### the law's book -/
def G_lbook (K : PySem.W.Frag) : List D → Rs → Prop := fun ds r => ∃ (kept : PSet) (t : Tab), ds = [eS kept, eTab t] ∧ SetOk kept ∧ FenOk t ∧ r = .val (oB K kept (fullT t))
theorem dputP_take {t : Tab} {i : Nat} {p : Str × PSet} (hn : (t.map (·.1)).Nodup) (h : t[i]? = some p) : dput (tkP K (t.take i)) p.1 (oP K p.2) = tkP K (t.take (i + 1)) := by
  rw [dput_new, tk h]
  · unfold tkP
    rw [List.map_append]; rfl
  · refine look_none.mpr ?_
    rw [tkP_keys]
    intro hx
    have h2 : (t.take (i + 1)).map (·.1) = (t.take i).map (·.1) ++ [p.1] := by rw [tk h, List.map_append]; rfl
    have h3 : ((t.take (i + 1)).map (·.1)).Nodup := by
      rw [List.map_take]
      exact hn.sublist (List.take_sublist _ _)
    rw [h2] at h3
    exact (List.nodup_append.mp h3).2.2 p.1 hx p.1 (List.mem_cons_self ..) rfl
theorem keys_tk (t : Tab) : keysD (tk_ t) = t.map fun p => .str p.1 := by unfold tk_ keysD; rw [List.map_map]; rfl
theorem kn_lbook (T : Hd K mg) : Kn P w K mg bs CX0 5 "_law_book" ["_law_kept", "_law_table_here"] (spG K (G_lbook K)) := by
  refine k_l_book T ?_ ?_
  · rintro ds r ⟨_, _, rfl, _⟩; rfl
  · rintro c ds r hr ⟨kept, t, rfl, hk, F, rfl⟩
    have hu := ru1 hr
    have two := F.two
    refine q_asg 2 sc_l_book.nd h_dict0 ?_
    rintro _ ⟨l, rfl⟩
    refine s_cons (M := fun E' => ∃ o, E' = [some (.val (eS kept)), some (.val (eTab t)), some (.oD l (tkP K t)), o])
      (st_on (h_forD (N := ⟨fun E' => ∃ o, E' = [some (.val (eS kept)), some (.val (eTab t)), some (.oD l (tkP K t)), o], fun _ => False, fun _ => False, fun _ => False⟩) (ds := tk_ t) (fun i E' => ∃ o, E' = [some (.val (eS kept)), some (.val (eTab t)), some (.oD l (tkP K (t.take i))), o]) 1 (g_name 3 sc_l_book.nd) ⟨_, rfl⟩ ?_ ?_ (fun _ h => h) (fun _ => ⟨(fun h => h), (fun h => h)⟩)) fun _ h => h) ?_
    · rintro i d E' hd ⟨o, rfl⟩
      rw [keys_tk] at hd
      obtain ⟨p, hp, rfl⟩ := map_get hd
      have lk := look_nodup F.tab.nd (mem_of_get hp)
      have hm : p.1 ∈ t.map (·.1) := List.mem_map.mpr ⟨p, mem_of_get hp, rfl⟩
      refine ⟨_, ⟨Nat.le_of_ble_eq_true rfl, rfl⟩, ?_⟩
      refine s_one (h_dput 2 (ru1 hr) (ds := tkP K (t.take i)) (h_Pairs T (hr.mono (by decide)) (h_settle (h_callT f_listL T.n_list PyProof.Rows.boot_list (a1 (h_dget (ru1 hr) (tab_get hm) (h_var 1) (h_var 3))))) (.inl rfl) (F.tab.set p.1)) (h_var 3) ?_ ⟨some (.val (.str p.1)), ?_⟩)
      · unfold tkP
        rw [List.length_map]
        have := take_len_le t i
        omega
      · rw [show setOf t p.1 = p.2 by unfold setOf; rw [lk]; rfl]
        show [_, _, some (Sl.oD l (dput (tkP K (t.take i)) p.1 (oP K p.2))), _] = _
        rw [dputP_take F.tab.nd hp]
    · rintro E' ⟨o, rfl⟩
      refine ⟨o, ?_⟩
      rw [keys_tk, List.length_map, List.take_length]
    · rintro _ ⟨o, rfl⟩
      refine q_settle 2 ?_
      exact s_one (h_ret (h_Book T (hr.mono (by decide)) (h_Pairs T (hr.mono (by decide)) (h_settle (h_callT f_listL T.n_list PyProof.Rows.boot_list (a1 (h_var 0)))) (.inl rfl) hk) (h_var 2) F) fun s hs => hs)
end
end K39
/-! KP5 -/
set_option maxHeartbeats 4000000
/-! ## rows: group_of, are_fences, fits, normal -/
namespace K39
open PySem PySem.Spec PyProof.Rows L2
section
variable {P : Program} {w : World} {K : PySem.W.Frag} {mg : Str → Option Value} {bs : Heap} {X : Cx} {E : En}
theorem h_READS {p : Pos} (T : Hd X.K X.mg) (hg : Gl X "READS" := by rfl) : HasD X E (.Name "READS" p) (.tup ((["read", "acquire"] : List Str).map D.str)) :=
  h_glob (v := .ref (He.ga X.K "READS")) hg T.g_READS rfl T.r_READS
theorem h_WRITES {p : Pos} (T : Hd X.K X.mg) (hg : Gl X "WRITES" := by rfl) : HasD X E (.Name "WRITES" p) (.tup ((["write", "release"] : List Str).map D.str)) :=
  h_glob (v := .ref (He.ga X.K "WRITES")) hg T.g_WRITES rfl T.r_WRITES
theorem rd_ok : ∀ x ∈ (["read", "acquire"] : List Str), PyData.strOk x = true := by decide +kernel
theorem wr_ok : ∀ x ∈ (["write", "release"] : List Str), PyData.strOk x = true := by decide +kernel
def G_group_of : List D → Rs → Prop := fun ds r => ∃ n : Str, ds = [.str n] ∧ PyData.strOk n = true ∧ r = .val (eF (groupM n))
theorem kn_group_of (T : Hd K mg) : Kn P w K mg bs CX0 1 "group_of" ["kind"] (spG K G_group_of) := by
  refine k_group_of T ?_ ?_
  · rintro ds r ⟨_, rfl, _⟩; rfl
  · rintro c ds r hr ⟨n, rfl, hn, rfl⟩
    refine q_when (t_cmp (c_inTS (ru65 hr) hn rd_ok) (h_var 0) (h_READS T)) (fun h => s_one (h_ret (h_READS T) ?_)) fun n1 => ?_
    · rintro _ rfl
      show Sl.val _ = _
      unfold groupM
      rw [if_pos (of_decide_eq_true h)]; rfl
    refine q_when (t_cmp (c_inTS (ru65 hr) hn wr_ok) (h_var 0) (h_WRITES T)) (fun h => s_one (h_ret (h_WRITES T) ?_)) fun n2 => ?_
    · rintro _ rfl
      show Sl.val _ = _
      unfold groupM
      rw [if_neg (of_decide_eq_false n1), if_pos (of_decide_eq_true h)]; rfl
    refine s_one (h_ret (h_tup (a1 (h_var 0))) ?_)
    rintro _ rfl
    show Sl.val _ = _
    unfold groupM
    rw [if_neg (of_decide_eq_false n1), if_neg (of_decide_eq_false n2)]; rfl
def G_are_fences : List D → Rs → Prop := fun ds r => ∃ f gs : List Str, ds = [eF f, eNs gs] ∧ (∀ x ∈ f, PyData.strOk x = true) ∧ (∀ x ∈ gs, PyData.strOk x = true) ∧ (∀ x ∈ f, x ∈ gs) ∧ r = .val (.bl true)
theorem kn_are_fences (T : Hd K mg) : Kn P w K mg bs CX0 1 "are_fences" ["row", "known"] (spG K G_are_fences) := by
  refine k_are_fences T ?_ ?_
  · rintro ds r ⟨_, _, rfl, _⟩; rfl
  · rintro c ds r hr ⟨f, gs, rfl, hf, hg, hs, rfl⟩
    refine q_when (k := false) (t_not (k := true) (t_val (h_isi (y := "") T.n_isinstance T.n_tuple PyProof.Rows.boot_tuple (h_var 0) (t := "tuple") rfl rfl))) (fun h => nomatch h) fun _ => ?_
    refine q_for (fun i E' => ∃ o, E' = [some (.val (eF f)), some (.val (eNs gs)), o]) (fun E' => ∃ o, E' = [some (.val (eF f)), some (.val (eNs gs)), o]) (k_tup (h_var 0)) (g_name 2 sc_are_fences.nd) ⟨_, rfl⟩ ?_ (fun _ h => h) ?_
    · rintro i d E' hd ⟨o, rfl⟩
      obtain ⟨n, hn, rfl⟩ := map_get hd
      have hm := mem_of_get hn
      refine ⟨_, ⟨Nat.le_of_ble_eq_true rfl, rfl⟩, ?_⟩
      exact s_one (h_ifS (k := false) (t_is (t_cmp (c_ninLS (ru65 hr) (hf n hm) hg) (h_var 2) (h_var 1)) (decide_eq_false fun h => h (hs n hm))) (fun h => nomatch h) fun _ => s_nil ⟨_, rfl⟩)
    · rintro _ ⟨o, rfl⟩
      exact s_one (h_ret h_bl fun s hs => hs)
def G_fits : List D → Rs → Prop := fun ds r => ∃ (n : Str) (x : Row) (gs : List Str), ds = [.str n, eR x, eNs gs] ∧ PyData.strOk n = true ∧ x.ok ∧ (∀ g ∈ gs, PyData.strOk g = true) ∧ RowIn gs x ∧ RowAt n x ∧ r = .val (.bl true)
theorem group_strOk {n : Str} (h : PyData.strOk n = true) : ∀ x ∈ groupM n, PyData.strOk x = true := by
  unfold groupM
  split
  · exact rd_ok
  · split
    · exact wr_ok
    · intro x hx
      rw [List.mem_singleton.mp hx]; exact h
theorem kn_fits (T : Hd K mg) : Kn P w K mg bs CX0 2 "fits" ["name", "row", "known"] (spG K G_fits) := by
  refine k_fits T ?_ ?_
  · rintro ds r ⟨_, _, _, rfl, _⟩; rfl
  · rintro c ds r hr ⟨n, x, gs, rfl, hn, ok, hg, hin, hat, rfl⟩
    rcases hat with ⟨hk, a, k, b, rfl, hgk⟩ | ⟨hk, f, rfl⟩
    · refine q_when (k := false) (t_is (t_cmp (c_ninTS (ru65 hr) hn kinds_ok) (h_var 0) (h_KINDS T)) (decide_eq_false fun h => h hk)) (fun h => nomatch h) fun _ => ?_
      refine q_when (k := false) (t_w (w_or (k1 := false) (k2 := false) (t_not (k := true) (t_val (h_isi (y := "") T.n_isinstance T.n_tuple PyProof.Rows.boot_tuple (h_var 1) (t := "tuple") rfl rfl))) fun _ =>
        w_or1 (t_is (t_cmp c_neI (h_callB f_lenT T.n_len PySem.boot_len (a1 (h_var 1))) h_int) rfl))) (fun h => nomatch h) fun _ => ?_
      exact s_one (h_ret (h_and (k1 := true) (k2 := true) (h_call (kn_are_fences T) (hr.mono (by decide)) (a2 (h_ix (i_tup (j := 0) rfl) (h_var 1) h_int) (h_var 2)) ⟨a, gs, rfl, ok.1.1, hg, hin.1, rfl⟩) fun _ =>
        h_and (k1 := true) (k2 := true) (d_is (h_cmp (c_inTS (L := groupM n) (ru65 hr) ok.2.1 (group_strOk hn)) (h_ix (i_tup (j := 1) rfl) (h_var 1) h_int) (h_call (kn_group_of T) (hr.mono (by decide)) (a1 (h_var 0)) ⟨n, rfl, hn, rfl⟩)) (by rw [decide_eq_true hgk])) fun _ =>
        h_and1 (h_call (kn_are_fences T) (hr.mono (by decide)) (a2 (h_ix (i_tup (j := 2) rfl) (h_var 1) h_int) (h_var 2)) ⟨b, gs, rfl, ok.2.2.1, hg, hin.2, rfl⟩)) fun s hs => hs)
    · refine q_when (k := true) (t_is (t_cmp (c_ninTS (ru65 hr) hn kinds_ok) (h_var 0) (h_KINDS T)) (decide_eq_true hk)) (fun _ => ?_) (fun h => nomatch h)
      exact s_one (h_ret (h_call (kn_are_fences T) (hr.mono (by decide)) (a2 (h_var 1) (h_var 2)) ⟨f, gs, rfl, ok.1, hg, hin, rfl⟩) fun s hs => hs)
def G_normalP : List D → Rs → Prop := fun ds r => ∃ (n : Str) (x : Row), ds = [.str n, eR x] ∧ PyData.strOk n = true ∧ x.ok ∧ RowAt n x ∧ r = .val (eR (normalM x))
theorem h_ascT {e : Expr} {p1 p2 p3 p4 p5 p6 : Pos} {L : List Str} (T : Hd X.K X.mg) (hr : Room 1 X.A) (h : Okl L) (he : HasD X E e (eF L))
    (PC : ∀ {ds es : List D} {r : Rs}, Hd X.K X.mg → Room 1 X.A → AscOk ds es → HasD X E e (.tup ds) → HasD X E (.Call (.Name "tuple" p1) [.Call (.Name "ascending" p2) [.Call (.Name "list" p3) [e] [] p4] [] p5] [] p6) (.tup es) := by
      exact fun T hr A he => h_callT f_tupleL T.n_tuple PyProof.Rows.boot_tuple (a1 (h_settle (h_call (kn_ascending T) hr (a1 (h_settle (h_callT f_listT T.n_list PyProof.Rows.boot_list (a1 he)))) ⟨_, _, rfl, A, rfl⟩)))) :
    HasD X E (.Call (.Name "tuple" p1) [.Call (.Name "ascending" p2) [.Call (.Name "list" p3) [e] [] p4] [] p5] [] p6) (eF (ascS L)) :=
  PC (r := .val .non) T hr (ascOk_strs h.1 (Nat.le_trans h.2 (by decide))) he
theorem kn_normal' (T : Hd K mg) : Kn P w K mg bs CX0 2 "normal" ["name", "row"] (spG K G_normalP) := by
  refine k_normal T ?_ ?_
  · rintro ds r ⟨_, _, rfl, _⟩; rfl
  · rintro c ds r hr ⟨n, x, rfl, hn, ok, hat, rfl⟩
    rcases hat with ⟨hk, a, k, b, rfl, hgk⟩ | ⟨hk, f, rfl⟩
    · refine q_when (k := false) (t_is (t_cmp (c_ninTS (ru65 hr) hn kinds_ok) (h_var 0) (h_KINDS T)) (decide_eq_false fun h => h hk)) (fun h => nomatch h) fun _ => ?_
      exact s_one (h_ret (h_tup (ha_cons (h_ascT T (hr.mono (by decide)) ok.1 (h_ix (i_tup (j := 0) rfl) (h_var 1) h_int)) (a2 (h_ix (i_tup (j := 1) rfl) (h_var 1) h_int) (h_ascT T (hr.mono (by decide)) ok.2.2 (h_ix (i_tup (j := 2) rfl) (h_var 1) h_int))))) fun s hs => hs)
    · refine q_when (k := true) (t_is (t_cmp (c_ninTS (ru65 hr) hn kinds_ok) (h_var 0) (h_KINDS T)) (decide_eq_true hk)) (fun _ => ?_) (fun h => nomatch h)
      exact s_one (h_ret (h_ascT T (hr.mono (by decide)) ok (h_var 1)) fun s hs => hs)
end
end K39
/-! KP6 -/
set_option maxHeartbeats 4000000
/-! ## Recipe -/
namespace K39
open PySem PySem.Spec PyProof.Rows L2
abbrev preR (src tgt : D) (names : List Str) : List (Str × D) := [("source", src), ("target", tgt), ("own_names", eNs names)]
def oR (K : PySem.W.Frag) (src tgt : D) (names : List Str) (rs : Rows) : D := .ins (He.ga K "Recipe") (preR src tgt names ++ [(("own_rows" : Str), D.dct (eRws rs))])
abbrev slR (K : PySem.W.Frag) (y g : Addr) (src tgt : D) (names : List Str) (rs : Rows) : Sl := .oR y g (He.ga K "Recipe") (preR src tgt names) "own_rows" [] (eRws rs)
abbrev retL : List Str := ["return"]
theorem barred_kinds : barred7 = kinds5 ++ (["return", "full"] : List Str) := rfl
theorem names_nodup {t : Tab} (F : FenOk t) : (barred7 ++ t.map (·.1)).Nodup :=
  List.nodup_append.mpr ⟨by decide +kernel, F.tab.nd, fun a ha b hb e => (F.nm b hb).2 (e ▸ ha)⟩
theorem namesM_nodup {t : Tab} (F : FenOk t) : (namesM t).Nodup := (sortS_perm _).nodup_iff.mpr (names_nodup F)
theorem namesM_mem {t : Tab} {x : Str} : x ∈ namesM t ↔ x ∈ barred7 ∨ x ∈ t.map (·.1) := by
  unfold namesM
  rw [sortS_mem, List.mem_append]
theorem gatesM_mem {t : Tab} {x : Str} : x ∈ gatesM t ↔ x = "full" ∨ x ∈ t.map (·.1) := by
  unfold gatesM
  rw [sortS_mem, List.mem_cons]
theorem gatesM_nodup {t : Tab} (F : FenOk t) : (gatesM t).Nodup := (sortS_perm _).nodup_iff.mpr (List.nodup_cons.mpr ⟨F.nofull, F.tab.nd⟩)
theorem gates_full {t : Tab} (F : FenOk t) : ascS ((fullT t).map (·.1)) = gatesM t :=
  ascS_one (sortS_ord _) (gatesM_nodup F) fun x => by
    rw [gatesM_mem, full_keys, List.mem_append, List.mem_singleton]
    exact Or.comm
theorem names_asc {t : Tab} (F : FenOk t) : ascS (kinds5 ++ retL ++ gatesM t) = namesM t :=
  ascS_one (sortS_ord _) (namesM_nodup F) fun x => by
    rw [namesM_mem, List.mem_append, gatesM_mem, barred_kinds, List.mem_append, List.mem_append]
    simp only [List.mem_cons, List.not_mem_nil, or_false]
    constructor
    · rintro ((h | h | h) | h)
      · exact .inl (.inl h)
      · exact .inl (.inr h)
      · exact .inr (.inl h)
      · exact .inr (.inr h)
    · rintro ((h | h) | h | h)
      · exact .inl (.inl h)
      · exact .inl (.inr (.inl h))
      · exact .inl (.inr (.inr h))
      · exact .inr h
theorem namesM_ok {t : Tab} (F : FenOk t) : NamesOk (namesM t) where
  nd := namesM_nodup F
  ok := by
    refine ⟨fun x hx => (namesM_mem.mp hx).elim (barred_ok x) (F.tab.ok.1 x), ?_⟩
    unfold namesM
    rw [sortS_len, List.length_append, List.length_map, show barred7.length = 7 from rfl]
    have := F.two
    omega
  kin := fun n h => namesM_mem.mpr (.inl (by rw [barred_kinds]; exact List.mem_append_left _ h))
  ret := namesM_mem.mpr (.inl (by decide +kernel))
  full := namesM_mem.mpr (.inl (by decide +kernel))
theorem gatesM_ok {t : Tab} (F : FenOk t) : GatesOk (gatesM t) where
  ok := by
    refine ⟨fun x hx => ?_, ?_⟩
    · rcases gatesM_mem.mp hx with rfl | h
      · exact full_strOk
      · exact F.tab.ok.1 x h
    · unfold gatesM
      rw [sortS_len, List.length_cons, List.length_map]
      have := F.two
      omega
  full := gatesM_mem.mpr (.inl rfl)
theorem oR_frz (K : PySem.W.Frag) (y g : Addr) (src tgt : D) (names : List Str) (rs : Rows) : (slR K y g src tgt names rs).frz = oR K src tgt names rs := rfl
section
variable {P : Program} {w : World} {K : PySem.W.Frag} {mg : Str → Option Value} {bs : Heap} {X : Cx} {E : En}
def G_Recipe_init (K : PySem.W.Frag) : Sl → List D → (Sl → Prop) → Prop := fun s ds r => ∃ (kept goal : PSet) (marks bars : Tab) (y : Addr), s = .oI y (He.ga K "Recipe") [] ∧ ds = [oB K kept (fullT marks), oB K goal (fullT bars)] ∧ FenOk marks ∧ FenOk bars ∧
  r = fun s1 => ∃ g, s1 = slR K y g (oB K kept (fullT marks)) (oB K goal (fullT bars)) (namesM marks) (plainM (namesM marks) bars)
theorem kn_Recipe0 (T : Hd K mg) : KnC P w K mg bs CX0 2 "Recipe" (He.ga K "Recipe") ["self", "source", "target"] (spI K (G_Recipe_init K)) := by
  have F : ∃ fd, L2.FunD K "__init__" "Recipe.__init__" (defArgs s_Recipe_init) (defBody s_Recipe_init) (defScope s_Recipe_init) (d_Recipe_init.dvs K) (d_Recipe_init.kws K) (He.ma K (He.ga K "Recipe") "__init__") fd ∧ L2.Binds K fd ["self", "source", "target"] [] := by
    obtain ⟨fd, F⟩ := T.f_Recipe_init
    exact ⟨fd, F, F.bindsN (fun _ _ _ _ _ _ us hl => match us, hl with | [_, _, _], _ => rfl)⟩
  refine knC_of (N := N_Recipe_init) F T.m_Recipe T.g_Recipe sc_Recipe_init (by decide) ?_ ?_ ?_
  · rintro s ds r ⟨_, _, _, _, _, _, rfl, _⟩; rfl
  · rintro s ds r s1 ⟨_, _, _, _, _, rfl, _, _, _, rfl⟩ ⟨g, rfl⟩
    exact ⟨fun h => (nomatch h), rfl, fun l h => List.mem_cons.mpr (.inl (List.mem_singleton.mp h))⟩
  · rintro c s0 ds r hr ⟨kept, goal, marks, bars, y, rfl, rfl, Fm, Fb, rfl⟩
    have hu := ru1 hr
    let src := oB K kept (fullT marks)
    let tgt := oB K goal (fullT bars)
    let C := He.ga K "Recipe"
    have N := namesM_ok Fm
    refine s_cons (M := fun E' => E' = [some (.oI y C [("source", src)]), some (.val src), some (.val tgt), none]) (s_fld (fs := []) 0 (h_var 1) rfl T.c_Recipe T.a_Recipe_source) ?_
    rintro _ rfl
    refine s_cons (M := fun E' => E' = [some (.oI y C [("source", src), ("target", tgt)]), some (.val src), some (.val tgt), none]) (s_fld (fs := [("source", src)]) 0 (h_var 2) rfl T.c_Recipe T.a_Recipe_target (hnew := (by decide : ("target" : Str) ∉ [("source" : Str)])) (hl := (by decide : 1 < 1000))) ?_
    rintro _ rfl
    have okL : ∀ x ∈ kinds5 ++ retL ++ gatesM marks, PyData.strOk x = true := fun x hx => by
      rcases List.mem_append.mp hx with hx | hx
      · rcases List.mem_append.mp hx with hx | hx
        · exact kinds_ok x hx
        · rw [List.mem_singleton.mp hx]; decide +kernel
      · exact (gatesM_ok Fm).ok.1 x hx
    have lenG := (gatesM_ok Fm).ok.2
    have lenL : (kinds5 ++ retL ++ gatesM marks).length ≤ 1000 := by
      rw [List.length_append, List.length_append, show kinds5.length = 5 from rfl]
      show 5 + 1 + _ ≤ 1000
      omega
    refine s_cons (M := fun E' => E' = [some (.oI y C (preR src tgt (namesM marks))), some (.val src), some (.val tgt), none]) (s_fld (fs := [("source", src), ("target", tgt)]) 0 (d := eNs (namesM marks))
      (h_settle (h_call (kn_ascending T) (hr.mono (by decide)) (a1 (d := .lst ((kinds5 ++ retL ++ gatesM marks).map D.str)) (h_settle (r_is (h_op (o_cat (ds := (kinds5 ++ retL).map D.str) (es := (gatesM marks).map D.str) (by rw [List.length_map, List.length_map]; show 6 + _ ≤ 1000; omega))
          (h_settle (h_op (o_cat (ds := kinds5.map D.str) (es := [D.str "return"]) (by decide)) (h_settle (h_callT f_listT T.n_list PyProof.Rows.boot_list (a1 (h_KINDS T)))) (h_settle (h_lst (a1 h_str)))))
          (h_settle (h_meth0 (kn_fences T) (hr.mono (by decide)) (h_var 1) rfl ⟨kept, fullT marks, rfl, by rw [gates_full Fm]⟩))) (by rw [List.map_append (l₁ := kinds5 ++ retL)])))) ⟨_, _, rfl, by rw [← names_asc Fm]; exact ascOk_strs okL lenL, rfl⟩)) rfl T.c_Recipe T.a_Recipe_own_names (hnew := (by decide : ("own_names" : Str) ∉ [("source" : Str), "target"])) (hl := (by decide : 2 < 1000))) ?_
    rintro _ rfl
    refine s_cons (M := fun E' => ∃ g, E' = [some (slR K y g src tgt (namesM marks) (plainM ((namesM marks).take 0) bars)), some (.val src), some (.val tgt), none]) (s_fldNew (fs := preR src tgt (namesM marks)) 0 h_dict0 (fun g => ⟨g, rfl⟩) T.c_Recipe T.a_Recipe_own_rows (hnew := (by decide : ("own_rows" : Str) ∉ [("source" : Str), "target", "own_names"])) (hl := (by decide : 3 < 1000))) ?_
    rintro _ ⟨g, rfl⟩
    refine s_one (h_for (fun i E' => ∃ o, E' = [some (slR K y g src tgt (namesM marks) (plainM ((namesM marks).take i) bars)), some (.val src), some (.val tgt), o])
      (k_list (ds := (namesM marks).map D.str) (h_fldOwn 0 (s := slR K y g src tgt (namesM marks) (plainM ((namesM marks).take 0) bars)) rfl rfl T.c_Recipe T.a_Recipe_own_names)) (g_name 3 sc_Recipe_init.nd) ⟨_, rfl⟩ ?_ ?_)
    · rintro i d E' hd ⟨o, rfl⟩
      obtain ⟨n, hn, rfl⟩ := map_get hd
      have hnm := mem_of_get hn
      have hok := N.ok.1 n hnm
      refine ⟨_, ⟨Nat.le_of_ble_eq_true rfl, rfl⟩, ?_⟩
      have hA : (eRws (plainM ((namesM marks).take i) bars)).lookup n = none := by
        rw [look_none, eRws_plain, List.map_map]
        intro hx
        have hx2 : n ∈ (namesM marks).take i := by
          obtain ⟨y, hy, e⟩ := List.mem_map.mp hx
          exact (show y = n from e) ▸ hy
        have hs : (namesM marks).take (i + 1) = (namesM marks).take i ++ [n] := tk hn
        have hnd : ((namesM marks).take (i + 1)).Nodup := N.nd.sublist (List.take_sublist _ _)
        rw [hs] at hnd
        exact (List.nodup_append.mp hnd).2.2 n hx2 n (List.mem_cons_self ..) rfl
      have hz : (eRws (plainM ((namesM marks).take i) bars)).length ≤ 100 := by
        rw [eRws_plain, List.length_map]
        exact Nat.le_trans (take_len_le _ _) N.ok.2
      have hz1 : ∀ d, (eRws (plainM ((namesM marks).take i) bars) ++ [(n, d)]).length < 1000 := fun d => by rw [List.length_append]; show _ + 1 < _; omega
      let sl1 := fun (kvs : List (Str × D)) => Sl.oR y g C (preR src tgt (namesM marks)) "own_rows" [] kvs
      have fin : ∀ d, d = eR (plainRow n bars) → (∃ o, ([some (sl1 (eRws (plainM ((namesM marks).take i) bars) ++ [(n, d)])), some (.val src), some (.val tgt), some (.val (.str n))] : En) = [some (slR K y g src tgt (namesM marks) (plainM ((namesM marks).take (i + 1)) bars)), some (.val src), some (.val tgt), o]) := by
        rintro _ rfl
        refine ⟨some (.val (.str n)), ?_⟩
        show [some (sl1 _), _, _, _] = [some (sl1 _), _, _, _]
        rw [eRws_plain, eRws_plain, tkm hn]
      have hf : ∀ {E : En} {kvs : List (Str × D)} {p1 p2 : Pos}, E[0]? = some (some (sl1 kvs)) → HasD (Cc.cx P w K mg bs N_Recipe_init "Recipe.__init__" s_Recipe_init c) E (.Attribute (.Name "self" p1) "own_rows" p2) (.ptr g) := fun {E kvs p1 p2} hE => h_fldOwn 0 (s := sl1 kvs) rfl rfl T.c_Recipe T.a_Recipe_own_rows hE
      refine s_cons (M := fun E' => E' = [some (sl1 (eRws (plainM ((namesM marks).take i) bars) ++ [(n, .tup [])])), some (.val src), some (.val tgt), some (.val (.str n))])
        (s_dputO (s := sl1 (eRws (plainM ((namesM marks).take i) bars))) (kvs := eRws (plainM ((namesM marks).take i) bars)) (g := g) 0 (ru1 hr) (h_tup ha_nil) (hf rfl) (h_var 3) (by omega) (by rw [dput_new hA]; rfl)) ?_
      rintro _ rfl
      have ow : ∀ {e : Expr} {d : D} {N' : Po} {sp p1 p2 p3 p4 : Pos} (he : HasD (Cc.cx P w K mg bs N_Recipe_init "Recipe.__init__" s_Recipe_init c) [some (sl1 (eRws (plainM ((namesM marks).take i) bars) ++ [(n, .tup [])])), some (.val src), some (.val tgt), some (.val (.str n))] e d)
          (hs : swapsWith e (some (.Subscript (.Attribute (.Name "self" p1) "own_rows" p2) (.Name "name" p3) sp)) p4.line (Cc.cx P w K mg bs N_Recipe_init "Recipe.__init__" s_Recipe_init c).env = pure false)
          (hn : N'.nx [some (sl1 (eRws (plainM ((namesM marks).take i) bars) ++ [(n, d)])), some (.val src), some (.val tgt), some (.val (.str n))]),
          HasS (Cc.cx P w K mg bs N_Recipe_init "Recipe.__init__" s_Recipe_init c) [some (sl1 (eRws (plainM ((namesM marks).take i) bars) ++ [(n, .tup [])])), some (.val src), some (.val tgt), some (.val (.str n))] (.Assign [.Subscript (.Attribute (.Name "self" p1) "own_rows" p2) (.Name "name" p3) sp] e p4) N' := by
        intro e d N' sp p1 p2 p3 p4 he hs hn'
        refine s_dputO (s := sl1 (eRws (plainM ((namesM marks).take i) bars) ++ [(n, .tup [])])) (kvs := eRws (plainM ((namesM marks).take i) bars) ++ [(n, .tup [])]) (g := g) (y := n) 0 (ru1 hr) he (hf rfl) (h_var 3) (hz1 _) ?_ rfl rfl hs
        rw [dput_last hA]
        exact hn'
      refine s_one (h_ifS (t_cmp (c_inTS (L := kinds5) (ru65 hr) hok kinds_ok) (h_var 3) (h_KINDS T)) (fun h => ?_) fun h => ?_)
      · have h1 : n ∈ kinds5 := of_decide_eq_true h
        exact s_one (ow (h_tup (ha_cons (h_tup ha_nil) (a2 (h_var 3) (h_tup ha_nil)))) rfl (fin _ (by unfold plainRow; rw [if_pos h1]; rfl)))
      have h1 : ¬ n ∈ kinds5 := of_decide_eq_false h
      refine s_one (h_ifS (t_cmp c_neS (h_var 3) h_str) (fun h => ?_) fun h => s_nil ?_)
      · have h3 : ¬ n = "return" := by simpa using h
        refine s_one (ow (d := eR (plainRow n bars)) (d_is (h_tup (a1 (d := .str (if n ∈ gatesM bars then n else "full")) (h_if (t_cmp (c_inLS (L := gatesM bars) (ru65 hr) hok (gatesM_ok Fb).ok.1) (h_var 3) (h_settle (h_meth0 (kn_fences T) (hr.mono (by decide)) (h_var 2) rfl ⟨goal, fullT bars, rfl, by rw [gates_full Fb]⟩))) (fun h => d_is (h_var 3) (by rw [if_pos (of_decide_eq_true h)])) (fun h => d_is h_str (by rw [if_neg (of_decide_eq_false h)]))))) ?_) rfl (fin _ rfl))
        unfold plainRow
        rw [if_neg h1]
        by_cases h4 : n ∈ gatesM bars
        · rw [if_pos h4, if_pos (gatesM_mem.mp h4)]; rfl
        · rw [if_neg h4, if_neg (fun q => h4 (gatesM_mem.mpr q)), if_neg h3]; rfl
      · have h3 : n = "return" := by simpa using h
        refine fin _ ?_
        unfold plainRow
        rw [if_neg h1, if_neg, if_pos h3]; rfl
        rintro (q | q)
        · exact absurd (h3.symm.trans q) (by decide +kernel)
        · exact (Fb.nm n q).2 (by rw [h3]; decide +kernel)
    · rintro E' ⟨o, rfl⟩
      refine ⟨_, rfl, g, ?_⟩
      rw [List.length_map, List.take_length]
theorem kn_Recipe (T : Hd K mg) : KnC P w K mg bs CX0 2 "Recipe" (He.ga K "Recipe") ["self", "source", "target"] (spI K (weakI (G_Recipe_init K))) := (kn_Recipe0 T).weak
/-- Recipe(a, b): a new own instance -/
theorem h_Recipe {e1 e2 : Expr} {p pos : Pos} {kept goal : PSet} {marks bars : Tab} (T : Hd X.K X.mg) (hr : Room 3 X.A) (h1 : HasD X E e1 (oB X.K kept (fullT marks))) (h2 : HasD X E e2 (oB X.K goal (fullT bars))) (Fm : FenOk marks) (Fb : FenOk bars)
    (PC : ∀ {rr : Rs} {r : Sl → Prop}, Hd X.K X.mg → Room 3 X.A → HA X E [e1, e2] [oB X.K kept (fullT marks), oB X.K goal (fullT bars)] → (∀ y, weakI (G_Recipe_init X.K) (.oI y (He.ga X.K "Recipe") []) [oB X.K kept (fullT marks), oB X.K goal (fullT bars)] r) → MakeR r rr → HasR X E (.Call (.Name "Recipe" p) [e1, e2] [] pos) rr := by exact fun T hr ha hG hR => h_make (kn_Recipe T) hr ha hG hR)
    (na : starEach [e1, e2] X.env = (false, eval e1 X.env) :: starEach [e2] X.env := by rfl) (na2 : starEach [e2] X.env = (false, eval e2 X.env) :: starEach [] X.env := by rfl) :
    HasR X E (.Call (.Name "Recipe" p) [e1, e2] [] pos) (.nR (He.ga X.K "Recipe") (preR (oB X.K kept (fullT marks)) (oB X.K goal (fullT bars)) (namesM marks)) "own_rows" [] (eRws (plainM (namesM marks) bars))) :=
  PC T hr (a2 h1 h2 na na2) (r := fun s1 => ∃ y g, s1 = slR X.K y g (oB X.K kept (fullT marks)) (oB X.K goal (fullT bars)) (namesM marks) (plainM (namesM marks) bars)) (fun y => ⟨_, ⟨kept, goal, marks, bars, y, rfl, rfl, Fm, Fb, rfl⟩, fun s1 h => ⟨y, h⟩⟩) fun s1 ⟨y, g, h⟩ => .inl ⟨y, g, h⟩
end
end K39
/-! KP7 -/
set_option maxHeartbeats 4000000
/-! ## Recipe's __iter__, __getitem__, __setitem__ -/
namespace K39
open PySem PySem.Spec PyProof.Rows L2 ItX
section
variable {P : Program} {w : World} {K : PySem.W.Frag} {mg : Str → Option Value} {bs : Heap} {X : Cx} {E : En}
theorem it_Recipe (T : Hd K mg) : ItL P w K mg bs (He.ga K "Recipe") "own_names" := by
  refine ⟨⟨_, T.m_Recipe_iter.at_, ?_, ?_⟩, T.xx.2.2.2.2.1, T.xx.2.2.2.2.2.1⟩
  · exact T.m_Recipe_iter.fn
  · obtain ⟨fd, F⟩ := T.f_Recipe_iter
    intro A outer s H a dx l fs zs hr e0 ha hf hz
    refine run_it (mg := mg) F sc_Recipe_iter T.c_Recipe T.a_Recipe_own_names T.n_iter (fun _ _ _ _ _ _ us hl => match us, hl with | [_], _ => rfl) (fun cdv A outer s H => ?_) A outer s H a dx l fs zs hr e0 ha hf hz
    exact pss_one (ps_ret (pe_callB call_iterN rfl T.n_iter PyProof.Rows.boot_iter (pa_cons (pe_fld (pe_var (i := 0) rfl (Or.inl rfl)) rfl) pa_nil)))
def G_getitem (K : PySem.W.Frag) : List D → Rs → Prop := fun ds r => ∃ (src tgt : D) (names gates : List Str) (rs : Rows) (n : Str), ds = [oR K src tgt names rs, .str n] ∧ RowsOk names gates rs ∧ n ∈ names ∧ r = .val (eR (rowOf rs n))
theorem kn_getitem (T : Hd K mg) : KnM P w K mg bs CX0 1 (He.ga K "Recipe") "__getitem__" ["self", "name"] (spG K (G_getitem K)) := by
  refine knM_of (N := N_Recipe_getitem) T.f_Recipe_getitem T.m_Recipe_getitem T.c_Recipe sc_Recipe_getitem (by decide) (fun _ _ _ _ _ _ us hl => match us, hl with | [_, _], _ => rfl) ?_ ?_
  · rintro ds r ⟨_, _, _, _, _, _, rfl, _⟩; rfl
  · rintro c ds r hr ⟨src, tgt, names, gates, rs, n, rfl, R, hn, rfl⟩
    obtain ⟨x, lx, e1, e2, _⟩ := R.at hn
    refine q_when (k := false) (t_is (t_cmp (c_ninLS (ru65 hr) (R.ok.1 n hn) R.ok.1) (h_var 1) (h_fld (h_var 0) rfl T.c_Recipe T.a_Recipe_own_names)) (decide_eq_false fun h => h hn)) (fun h => nomatch h) fun _ => ?_
    rw [e1]
    exact s_one (h_ret (h_dget (ru1 hr) e2 (h_fld (h_var 0) rfl T.c_Recipe T.a_Recipe_own_rows) (h_var 1)) fun s hs => hs)
def G_setitem (K : PySem.W.Frag) : Sl → List D → (Sl → Prop) → Prop := fun s ds r => ∃ (y g : Addr) (kept goal : PSet) (marks bars : Tab) (rs : Rows) (n : Str) (x : Row), s = slR K y g (oB K kept (fullT marks)) (oB K goal (fullT bars)) (namesM marks) rs ∧ ds = [.str n, eR x] ∧
  FenOk bars ∧ RowsOk (namesM marks) (gatesM bars) rs ∧ n ∈ namesM marks ∧ x.ok ∧ RowIn (gatesM bars) x ∧ RowAt n x ∧ r = fun s1 => s1 = slR K y g (oB K kept (fullT marks)) (oB K goal (fullT bars)) (namesM marks) (rput rs n (normalM x))
theorem kn_setitem (T : Hd K mg) : KnS P w K mg bs CX0 3 (He.ga K "Recipe") "__setitem__" ["self", "name", "row"] (spI K (G_setitem K)) := by
  refine knS_of (N := N_Recipe_setitem) T.f_Recipe_setitem T.m_Recipe_setitem T.xx.2.2.2.2.2.2 sc_Recipe_setitem (by decide) (fun _ _ _ _ _ _ us hl => match us, hl with | [_, _, _], _ => rfl) ?_ ?_ ?_
  · rintro s ds r ⟨_, _, _, _, _, _, _, _, _, _, rfl, _⟩; rfl
  · rintro s ds r s1 ⟨_, _, _, _, _, _, _, _, _, rfl, _, _, _, _, _, _, _, rfl⟩ rfl
    exact ⟨fun h => (nomatch h), rfl, fun l h => h⟩
  · rintro c s0 ds r hr ⟨y, g, kept, goal, marks, bars, rs, n, x, rfl, rfl, Fb, R, hn, ok, hin, hat, rfl⟩
    have hu := ru1 hr
    have hz : rs.length ≤ 100 := by rw [← List.length_map (f := (·.1)) (as := rs), R.keys]; exact R.ok.2
    refine q_when (k := false) (t_is (t_cmp (c_ninLS (ru65 hr) (R.ok.1 n hn) R.ok.1) (h_var 1) (h_fldOwn 0 (s := slR K y g (oB K kept (fullT marks)) (oB K goal (fullT bars)) (namesM marks) rs) rfl rfl T.c_Recipe T.a_Recipe_own_names)) (decide_eq_false fun h => h hn)) (fun h => nomatch h) fun _ => ?_
    refine q_when (k := false) (t_lend (t_not (k := true) (t_val (h_call (kn_fits T) (hr.mono (by decide)) (ha_cons (h_var 1) (a2 (h_var 2) (h_settle (h_meth0 (kn_fences T) (hr.mono (by decide)) (h_fld (h_var 0) rfl T.c_Recipe T.a_Recipe_target) rfl ⟨goal, fullT bars, rfl, by rw [gates_full Fb]⟩)))) ⟨n, x, gatesM bars, rfl, R.ok.1 n hn, ok, (gatesM_ok Fb).ok.1, hin, hat, rfl⟩)))) (fun h => nomatch h) fun _ => ?_
    refine s_one (s_dputO (s := slR K y g (oB K kept (fullT marks)) (oB K goal (fullT bars)) (namesM marks) rs) (kvs := eRws rs) (g := g) (y := n) 0 (ru1 hr) (h_call (kn_normal' T) (hr.mono (by decide)) (a2 (h_var 1) (h_var 2)) ⟨n, x, rfl, R.ok.1 n hn, ok, hat, rfl⟩) (h_fldOwn 0 (s := slR K y g (oB K kept (fullT marks)) (oB K goal (fullT bars)) (namesM marks) rs) rfl rfl T.c_Recipe T.a_Recipe_own_rows) (h_var 1) (by rw [eRws, List.length_map]; omega) ⟨_, rfl, ?_⟩)
    rw [dput_old (by rw [R.keys]; exact hn)]
    rfl
end
end K39
/-! KP8 -/
set_option maxHeartbeats 4000000
/-! ## at_spot, aim, is_lost, is_due -/
namespace K39
open PySem PySem.Spec PyProof.Rows L2
def oRec (K : PySem.W.Frag) (kept goal : PSet) (marks bars : Tab) (rs : Rows) : D := oR K (oB K kept (fullT marks)) (oB K goal (fullT bars)) (namesM marks) rs
structure RecOk (kept goal : PSet) (marks bars : Tab) (rs : Rows) : Prop where
  fm : FenOk marks
  fb : FenOk bars
  hk : SetOk kept
  hg : SetOk goal
  rows : RowsOk (namesM marks) (gatesM bars) rs
  nrm : ∀ n x, rs.lookup n = some x → normalM x = x
theorem RecOk.law {kept goal : PSet} {marks bars : Tab} {rs : Rows} (R : RecOk kept goal marks bars rs) : LawOk (namesM marks) (gatesM bars) kept marks goal bars rs where
  hkept := R.hk
  hgoal := R.hg
  hmarks := R.fm.tab
  hbars := R.fb.tab
  rows := R.rows
  gin := fun g h => gatesM_mem.mp h
  min := fun n h => ⟨namesM_mem.mpr (.inr h), fun q => (R.fm.nm n h).2 (by rw [barred_kinds]; exact List.mem_append_left _ q)⟩
/-- what stands between the accesses of a pair -/
def passedM (rs : Rows) (t : Trip) : List Str := (spotsM t).flatMap fun s => partM rs s.1 s.2
theorem behind_ne : ("behind" : Str) ≠ "row" ∧ ("behind" : Str) ≠ "ahead" ∧ ("ahead" : Str) ≠ "row" := by decide +kernel
theorem passed_eq (rs : Rows) (t : Trip) : passedM rs t = (rowOf rs t.1).behind ++ midM rs t.2.1 ++ aheadM rs t.2.2 := by
  obtain ⟨a, f, b⟩ := t
  have e1 : partM rs a "behind" = (rowOf rs a).behind := by unfold partM; rw [if_neg behind_ne.1, if_neg behind_ne.2.1]
  have e3 : partM rs (if b = "return" then (("return" : Str), ("row" : Str)) else (b, "ahead")).1 (if b = "return" then (("return" : Str), ("row" : Str)) else (b, "ahead")).2 = aheadM rs b := by
    unfold aheadM
    by_cases h : b = "return"
    · rw [if_pos h, if_pos h]
      show partM rs "return" "row" = _
      unfold partM
      rw [if_pos rfl]
    · rw [if_neg h, if_neg h]
      show partM rs b "ahead" = _
      unfold partM
      rw [if_neg behind_ne.2.2, if_pos rfl]
  unfold passedM spotsM
  rw [List.flatMap_cons, List.flatMap_append, List.flatMap_singleton]
  show partM rs a "behind" ++ (_ ++ partM rs (if b = "return" then (("return" : Str), ("row" : Str)) else (b, "ahead")).1 (if b = "return" then (("return" : Str), ("row" : Str)) else (b, "ahead")).2) = _
  rw [e1, e3]
  cases f with
  | none => simp [midM]
  | some g =>
    show _ ++ (List.flatMap _ [(g, ("row" : Str))] ++ _) = _
    rw [List.flatMap_singleton, ← List.append_assoc]
    show _ ++ partM rs g "row" ++ _ = _
    unfold partM
    rw [if_pos rfl]; rfl
theorem any_eq {α : Type} {A B : α → Bool} : ∀ {l : List α}, (∀ x ∈ l, A x = B x) → l.any A = l.any B
  | [], _ => rfl
  | x :: l, h => by rw [List.any_cons, List.any_cons, h x (List.mem_cons_self ..), any_eq fun y hy => h y (List.mem_cons_of_mem _ hy)]
theorem group_pairs : ∀ p ∈ pairsM, ∀ k ∈ groupM p.1, (p.2 = "return" → (k, ("return" : Str)) ∈ pairsM) ∧ (p.2 ≠ "return" → ∀ l ∈ groupM p.2, (k, l) ∈ pairsM) := by decide +kernel
theorem becomes_in {names gates : List Str} {rs : Rows} (R : RowsOk names gates rs) {a b : Str} (h : (a, b) ∈ pairsM) : becomesM rs a b ∈ pairsM := by
  obtain ⟨ha, hb⟩ := pairs_first h
  obtain ⟨x, k, y, e1, _, _, _, g⟩ := R.atK ha
  have gp := group_pairs (a, b) h k g
  unfold becomesM
  rw [e1]
  show (k, if b = "return" then ("return" : Str) else (rowOf rs b).kind) ∈ pairsM
  by_cases h1 : b = "return"
  · rw [if_pos h1]; exact gp.1 h1
  · rw [if_neg h1]
    obtain ⟨x2, k2, y2, e2, _, _, _, g2⟩ := R.atK (hb.resolve_left h1)
    rw [e2]
    exact gp.2 h1 k2 g2
theorem keeps_eq {goal : PSet} {bars : Tab} (hg : SetOk goal) (F : FenOk bars) {p : Pair} (hp : p ∈ pairsM) {pd : List Str} (h : ∀ n ∈ pd, n ∈ gatesM bars) : keepsM goal (fullT bars) p pd = keptByM goal bars p pd := by
  unfold keepsM keptByM
  rw [show decide (p ∈ normS goal) = decide (p ∈ goal) from decide_eq_decide.mpr (normS_in hg)]
  congr 1
  refine any_eq fun n hn => ?_
  rcases gatesM_mem.mp (h n hn) with rfl | hb
  · rw [set_full F, decide_eq_true (normS_mem.mpr ⟨hp, hp⟩), decide_eq_true rfl]; rfl
  · have hf : n ≠ "full" := fun e => F.nofull (e ▸ hb)
    rw [set_other hb, decide_eq_false hf, Bool.false_or]
    exact decide_eq_decide.mpr (normS_in (F.tab.set n))
section
variable {P : Program} {w : World} {K : PySem.W.Frag} {mg : Str → Option Value} {bs : Heap} {X : Cx} {E : En}
def G_at_spot (K : PySem.W.Frag) : List D → Rs → Prop := fun ds r => ∃ (kept goal : PSet) (marks bars : Tab) (rs : Rows) (n s : Str), ds = [oRec K kept goal marks bars rs, eP (n, s)] ∧ RecOk kept goal marks bars rs ∧ SideOk (namesM marks) n s ∧ r = .val (eF (partM rs n s))
theorem h_row {e1 e2 : Expr} {p : Pos} {kept goal : PSet} {marks bars : Tab} {rs : Rows} {n : Str} (T : Hd X.K X.mg) (hr : Room 2 X.A) (R : RecOk kept goal marks bars rs) (h1 : HasD X E e1 (oRec X.K kept goal marks bars rs)) (h2 : HasD X E e2 (.str n)) (hn : n ∈ namesM marks)
    (hs : ∀ (x i : Value), subscripted e2 true x i = runValue (.builtin "lifetime.subscript" ⟨[x, i], []⟩) := by exact fun _ _ => rfl) : HasD X E (.Subscript e1 e2 p) (eR (rowOf rs n)) :=
  h_ownIx (kn_getitem T) hr h1 h2 ⟨_, _, _, _, rs, n, rfl, R.rows, hn, rfl⟩ hs
theorem kn_at_spot (T : Hd K mg) : Kn P w K mg bs CX0 3 "at_spot" ["recipe", "spot"] (spG K (G_at_spot K)) := by
  refine k_at_spot T ?_ ?_
  · rintro ds r ⟨_, _, _, _, _, _, _, rfl, _⟩; rfl
  · rintro c ds r hr ⟨kept, goal, marks, bars, rs, n, s, rfl, R, hs, rfl⟩
    refine q_unpack (h_var 1) (g_tup2 2 3 sc_at_spot.nd) ⟨Nat.le_of_ble_eq_true rfl, Nat.le_of_ble_eq_true rfl, _, _, rfl, rfl⟩ ?_
    refine q_when (t_cmp c_eqS (h_var 3) h_str) (fun h => ?_) fun h => ?_
    · have h1 : s = "row" := of_decide_eq_true h
      subst h1
      rcases hs with ⟨_, h1, h2⟩ | ⟨_, h | h⟩
      · obtain ⟨f, e1, e2, _⟩ := R.rows.atP h1 h2
        refine s_one (h_ret (h_row T (hr.mono (by decide)) R (h_var 0) (h_var 2) h1) ?_)
        rintro _ rfl
        show Sl.val _ = _
        unfold partM
        rw [if_pos rfl, e1]; rfl
      · exact absurd h (by decide +kernel)
      · exact absurd h (by decide +kernel)
    · have h1 : ¬ s = "row" := of_decide_eq_false h
      rcases hs with ⟨q, _⟩ | ⟨hk, hs⟩
      · exact absurd q h1
      obtain ⟨x, k, y, e1, e2, _⟩ := R.rows.atK hk
      have hn := R.rows.kin n hk
      have row : ∀ {E : En} {p1 p2 p3 : Pos} (h0 : E[0]? = some (some (.val (oRec K kept goal marks bars rs)))) (h2 : E[2]? = some (some (.val (.str n)))), HasD (Cc.cx P w K mg bs N_at_spot "at_spot" s_at_spot c) E (.Subscript (.Name "recipe" p1) (.Name "name" p2) p3) (.tup [eF x, .str k, eF y]) :=
        fun h0 h2 => d_is (h_row T (hr.mono (by decide)) R (h_var 0 h0) (h_var 2 h2) hn) (by rw [e1]; rfl)
      refine s_one (h_ret (r := .val (eF (partM rs n s))) (h_if (t_cmp c_eqS (h_var 3) h_str) (fun q => d_is (h_ix (i_tup (j := 0) rfl) (row rfl rfl) h_int) ?_) (fun q => d_is (h_ix (i_tup (j := 2) rfl) (row rfl rfl) h_int) ?_)) fun s hs => hs)
      · unfold partM
        rw [if_neg h1, if_pos (of_decide_eq_true q), e1]; rfl
      · unfold partM
        rw [if_neg h1, if_neg (of_decide_eq_false q), e1]; rfl
def G_aim (K : PySem.W.Frag) : List D → Rs → Prop := fun ds r => ∃ (kept goal : PSet) (marks bars : Tab) (rs : Rows) (t : Trip), ds = [oRec K kept goal marks bars rs, eT t] ∧ RecOk kept goal marks bars rs ∧ (t.1, t.2.2) ∈ pairsM ∧ r = .val (eP (becomesM rs t.1 t.2.2))
theorem kn_aim (T : Hd K mg) : Kn P w K mg bs CX0 3 "aim" ["recipe", "pair"] (spG K (G_aim K)) := by
  refine k_aim T ?_ ?_
  · rintro ds r ⟨_, _, _, _, _, _, rfl, _⟩; rfl
  · rintro c ds r hr ⟨kept, goal, marks, bars, rs, ⟨a, f, b⟩, rfl, R, hp, rfl⟩
    obtain ⟨ha, hb⟩ := pairs_first hp
    refine q_unpack (h_var 1) (g_tup3 2 3 4 sc_aim.nd) ⟨Nat.le_of_ble_eq_true rfl, Nat.le_of_ble_eq_true rfl, Nat.le_of_ble_eq_true rfl, _, _, _, rfl, rfl⟩ ?_
    have kd2 : ∀ {n : Str} {E : En} {e : Expr}, HasD (Cc.cx P w K mg bs N_aim "aim" s_aim c) E e (eR (rowOf rs n)) → n ∈ kinds5 → ∀ {v1 : Nat} {p p3 : Pos}, HasD (Cc.cx P w K mg bs N_aim "aim" s_aim c) E (.Subscript e (.Constant (.int 1) v1 p3) p) (.str (rowOf rs n).kind) := by
      intro n E e h hk v1 p p3
      obtain ⟨x, k, y, e1, _⟩ := R.rows.atK hk
      rw [e1] at h ⊢
      exact h_ix (i_tup (j := 1) rfl) h h_int
    refine s_one (h_ret (r := .val (eP (becomesM rs a b))) (h_tup (a2 (kd2 (h_row T (hr.mono (by decide)) R (h_var 0) (h_var 2) (R.rows.kin a ha)) ha) (h_if (t_cmp c_eqS (h_var 4) h_str) (fun q => d_is h_str ?_) (fun q => d_is (kd2 (h_row T (hr.mono (by decide)) R (h_var 0) (h_var 4) (R.rows.kin b (hb.resolve_left (of_decide_eq_false q)))) (hb.resolve_left (of_decide_eq_false q))) ?_)))) fun s hs => hs)
    · show D.str "return" = D.str (if b = "return" then "return" else (rowOf rs b).kind)
      rw [if_pos (of_decide_eq_true q)]
    · show _ = D.str (if b = "return" then "return" else (rowOf rs b).kind)
      rw [if_neg (of_decide_eq_false q)]
end
end K39
/-! KP9 -/
set_option maxHeartbeats 4000000
/-! ## is_lost, is_due, lost -/
namespace K39
open PySem PySem.Spec PyProof.Rows L2
structure TripOk (marks : Tab) (t : Trip) : Prop where
  pr : (t.1, t.2.2) ∈ pairsM
  fe : ∀ n, t.2.1 = some n → n ∈ gatesM marks
theorem gate_name {marks : Tab} (F : FenOk marks) {n : Str} (h : n ∈ gatesM marks) : n ∈ namesM marks ∧ n ∉ kinds5 := by
  rcases gatesM_mem.mp h with rfl | h
  · exact ⟨(namesM_ok F).full, full_kind⟩
  · exact ⟨namesM_mem.mpr (.inr h), fun q => (F.nm n h).2 (by rw [barred_kinds]; exact List.mem_append_left _ q)⟩
theorem spots_side {marks : Tab} (F : FenOk marks) {t : Trip} (ht : TripOk marks t) : ∀ s ∈ spotsM t, SideOk (namesM marks) s.1 s.2 := by
  obtain ⟨a, f, b⟩ := t
  obtain ⟨ha, hb⟩ := pairs_first ht.pr
  intro s hs
  rcases List.mem_cons.mp hs with rfl | hs
  · exact .inr ⟨ha, .inr rfl⟩
  · rcases List.mem_append.mp hs with hs | hs
    · cases f with
      | none => cases hs
      | some g =>
        rw [List.mem_singleton.mp hs]
        have := gate_name F (ht.fe g rfl)
        exact .inl ⟨rfl, this.1, this.2⟩
    · rw [List.mem_singleton.mp hs]
      by_cases h : b = "return"
      · rw [show (if (a, f, b).2.2 = "return" then (("return" : Str), ("row" : Str)) else ((a, f, b).2.2, "ahead")) = (("return" : Str), ("row" : Str)) from if_pos h]
        exact .inl ⟨rfl, (namesM_ok F).ret, ret_kind⟩
      · rw [show (if (a, f, b).2.2 = "return" then (("return" : Str), ("row" : Str)) else ((a, f, b).2.2, "ahead")) = (b, ("ahead" : Str)) from if_neg h]
        exact .inr ⟨hb.resolve_left h, .inl rfl⟩
theorem part_ok {names gates : List Str} {rs : Rows} (R : RowsOk names gates rs) {n s : Str} (h : SideOk names n s) : Okl (partM rs n s) ∧ ∀ x ∈ partM rs n s, x ∈ gates := by
  unfold partM
  rcases h with ⟨rfl, h1, h2⟩ | ⟨hk, h⟩
  · obtain ⟨f, e1, e2, e3, e4⟩ := R.atP h1 h2
    rw [if_pos rfl, e1]; exact ⟨e3, e4⟩
  · obtain ⟨x, k, y, e1, e2, e3, e4, _⟩ := R.atK hk
    rw [e1]
    rcases h with rfl | rfl
    · rw [if_neg behind_ne.2.2, if_pos rfl]; exact ⟨e3.1, e4.1⟩
    · rw [if_neg behind_ne.1, if_neg behind_ne.2.1]; exact ⟨e3.2.2, e4.2⟩
theorem spots_len (t : Trip) : (spotsM t).length ≤ 3 := by
  unfold spotsM
  rw [List.length_cons, List.length_append]
  obtain ⟨a, f, b⟩ := t
  cases f <;> exact Nat.le_of_ble_eq_true rfl
theorem lost1_passed (kept : PSet) (marks : Tab) (goal : PSet) (bars : Tab) (rs : Rows) (t : Trip) : lLost1 kept marks goal bars rs t = (wantedM kept marks t.1 t.2.1 t.2.2 && !keptByM goal bars (becomesM rs t.1 t.2.2) (passedM rs t)) := by
  rw [lost1_eq, passed_eq]
section
variable {P : Program} {w : World} {K : PySem.W.Frag} {mg : Str → Option Value} {bs : Heap} {X : Cx} {E : En}
theorem passed_in {kept goal : PSet} {marks bars : Tab} {rs : Rows} (R : RecOk kept goal marks bars rs) {t : Trip} (ht : TripOk marks t) : ∀ x ∈ passedM rs t, x ∈ gatesM bars := fun x hx => by
  obtain ⟨s, hs, hx⟩ := List.mem_flatMap.mp hx
  exact (part_ok R.rows (spots_side R.fm ht s hs)).2 x hx
def G_is_lost (K : PySem.W.Frag) : List D → Rs → Prop := fun ds r => ∃ (kept goal : PSet) (marks bars : Tab) (rs : Rows) (t : Trip), ds = [oRec K kept goal marks bars rs, eT t] ∧ RecOk kept goal marks bars rs ∧ TripOk marks t ∧ r = .val (.bl (!keptByM goal bars (becomesM rs t.1 t.2.2) (passedM rs t)))
theorem kn_is_lost (T : Hd K mg) : Kn P w K mg bs CX0 4 "is_lost" ["recipe", "pair"] (spG K (G_is_lost K)) := by
  refine k_is_lost T ?_ ?_
  · rintro ds r ⟨_, _, _, _, _, _, rfl, _⟩; rfl
  · rintro c ds r hr ⟨kept, goal, marks, bars, rs, t, rfl, R, ht, rfl⟩
    have side := spots_side R.fm ht
    refine q_asg 2 sc_is_lost.nd (h_lst ha_nil) ?_
    rintro _ ⟨l, rfl⟩
    let ps := fun (s : Pair) => partM rs s.1 s.2
    refine q_for (fun i E' => ∃ o, E' = [some (.val (oRec K kept goal marks bars rs)), some (.val (eT t)), some (.oL l ((((spotsM t).take i).flatMap ps).map D.str)), o, none, none]) (fun E' => ∃ o, E' = [some (.val (oRec K kept goal marks bars rs)), some (.val (eT t)), some (.oL l ((passedM rs t).map D.str)), o, none, none])
      (k_list (h_settle (h_call (kn_spots T) (hr.mono (by decide)) (a1 (h_var 1)) ⟨t, rfl, rfl⟩))) (g_name 3 sc_is_lost.nd) ⟨_, rfl⟩ ?_ ?_ ?_
    · rintro i d E' hd ⟨o, rfl⟩
      obtain ⟨s, hs, rfl⟩ := map_get hd
      have hm := mem_of_get hs
      refine ⟨_, ⟨Nat.le_of_ble_eq_true rfl, rfl⟩, ?_⟩
      have l1 : (((spotsM t).take i).flatMap ps).length ≤ 300 := by
        have : ∀ l : List Pair, (∀ s ∈ l, s ∈ spotsM t) → (l.flatMap ps).length ≤ 100 * l.length := fun l => by
          induction l with
          | nil => intro _; simp
          | cons s l ih =>
            intro h
            rw [List.flatMap_cons, List.length_append, List.length_cons]
            have h1 := (part_ok R.rows (side s (h s (List.mem_cons_self ..)))).1.2
            have h2 := ih fun x hx => h x (List.mem_cons_of_mem _ hx)
            show (partM rs s.1 s.2).length + _ ≤ _
            omega
        have h1 := this ((spotsM t).take i) fun s h => List.mem_of_mem_take h
        have h2 := take_len_le (spotsM t) i
        have h3 := spots_len t
        omega
      have l2 := (part_ok R.rows (side s hm)).1.2
      refine s_one (h_extend 2 (ds := (((spotsM t).take i).flatMap ps).map D.str) (es := (partM rs s.1 s.2).map D.str) (.inl (h_call (kn_at_spot T) (hr.mono (by decide)) (a2 (h_var 0) (h_var 3)) ⟨kept, goal, marks, bars, rs, s.1, s.2, rfl, R, side s hm, rfl⟩)) (by rw [List.length_map, List.length_map]; omega) ⟨some (.val (eP s)), ?_⟩)
      rw [tkf hs, List.map_append]; rfl
    · rintro E' ⟨o, rfl⟩
      refine ⟨o, ?_⟩
      rw [List.length_map, List.take_length]; rfl
    · rintro _ ⟨o, rfl⟩
      refine q_settle 2 ?_
      refine q_unpack (h_call (kn_aim T) (hr.mono (by decide)) (a2 (h_var 0) (h_var 1)) ⟨kept, goal, marks, bars, rs, t, rfl, R, ht.pr, rfl⟩) (g_tup2 4 5 sc_is_lost.nd) ⟨Nat.le_of_ble_eq_true rfl, Nat.le_of_ble_eq_true rfl, _, _, rfl, rfl⟩ ?_
      have bp := becomes_in R.rows ht.pr
      refine s_one (h_ret (h_not (h_methK (kn_keeps T) (hr.mono (by decide)) (h_fld (h_var 0) rfl T.c_Recipe T.a_Recipe_target) rfl (a2 (h_var 4) (h_var 5)) (h_callT f_tupleL T.n_tuple PyProof.Rows.boot_tuple (a1 (h_var 2))) rfl
        ⟨goal, fullT bars, becomesM rs t.1 t.2.2, passedM rs t, rfl, R.fb.full, bp, fun n hn => by
          rw [full_keys]
          rcases gatesM_mem.mp (passed_in R ht n hn) with rfl | h
          · exact List.mem_append_right _ (List.mem_singleton.mpr rfl)
          · exact List.mem_append_left _ h, rfl⟩)) ?_)
      rintro _ rfl
      show Sl.val _ = _
      rw [keeps_eq R.hg R.fb bp (passed_in R ht)]
def G_is_due (K : PySem.W.Frag) : List D → Rs → Prop := fun ds r => ∃ (kept goal : PSet) (marks bars : Tab) (rs : Rows) (t : Trip), ds = [oRec K kept goal marks bars rs, eT t] ∧ RecOk kept goal marks bars rs ∧ TripOk marks t ∧ r = .val (.bl (wantedM kept marks t.1 t.2.1 t.2.2))
theorem kn_is_due (T : Hd K mg) : Kn P w K mg bs CX0 2 "is_due" ["recipe", "pair"] (spG K (G_is_due K)) := by
  refine k_is_due T ?_ ?_
  · rintro ds r ⟨_, _, _, _, _, _, rfl, _⟩; rfl
  · rintro c ds r hr ⟨kept, goal, marks, bars, rs, ⟨a, f, b⟩, rfl, R, ht, rfl⟩
    have pm : (a, b) ∈ pairsM := ht.pr
    have pok := pairs_ok pm
    refine q_unpack (h_var 1) (g_tup3 2 3 4 sc_is_due.nd) ⟨Nat.le_of_ble_eq_true rfl, Nat.le_of_ble_eq_true rfl, Nat.le_of_ble_eq_true rfl, _, _, _, rfl, rfl⟩ ?_
    refine q_when (t_cmp c_isN (h_var 3) h_non) (fun h => ?_) fun h => ?_
    · cases f with
      | some g => cases h
      | none =>
        refine s_one (h_ret (h_cmp2 (c_ownIn (kn_contains T) (hr.mono (by decide)) ⟨kept, (a, b), rfl, pok, rfl⟩) (h_tup (a2 (h_var 2) (h_var 4))) (h_fld (h_fld (h_var 0) rfl T.c_Recipe T.a_Recipe_source) rfl T.c_Book T.a_Book_kept)) ?_)
        rintro _ rfl
        show Sl.val (.bl _) = Sl.val (.bl (decide ((a, b) ∈ kept)))
        rw [decide_eq_decide.mpr (normS_in R.hk)]
    · cases f with
      | none => cases h
      | some g =>
        have hg := ht.fe g rfl
        have hgf : g ∈ (fullT marks).map (·.1) := by
          rw [full_keys]
          rcases gatesM_mem.mp hg with rfl | h
          · exact List.mem_append_right _ (List.mem_singleton.mpr rfl)
          · exact List.mem_append_left _ h
        refine s_one (h_ret (h_and (k1 := decide ((a, b) ∈ normS (setOf (fullT marks) g))) (k2 := !decide ((a, b) ∈ normS kept)) (h_cmp2 (c_ownIn (kn_contains T) (hr.mono (by decide)) ⟨setOf (fullT marks) g, (a, b), rfl, pok, rfl⟩) (h_tup (a2 (h_var 2) (h_var 4)))
            (h_meth (kn_fence T) (hr.mono (by decide)) (h_fld (h_var 0) rfl T.c_Recipe T.a_Recipe_source) rfl (a1 (h_var 3)) ⟨kept, fullT marks, g, rfl, R.fm.full, hgf, rfl⟩)) fun _ =>
          h_and1 (h_cmp2 (c_ownNotIn (kn_contains T) (hr.mono (by decide)) ⟨kept, (a, b), rfl, pok, rfl⟩) (h_tup (a2 (h_var 2) (h_var 4))) (h_fld (h_fld (h_var 0) rfl T.c_Recipe T.a_Recipe_source) rfl T.c_Book T.a_Book_kept))) ?_)
        rintro _ rfl
        show Sl.val (.bl _) = Sl.val (.bl (decide ((a, b) ∉ kept) && (decide (g = "full") || decide ((a, b) ∈ setOf marks g))))
        rw [show decide ((a, b) ∈ normS kept) = decide ((a, b) ∈ kept) from decide_eq_decide.mpr (normS_in R.hk), Bool.and_comm, show (!decide ((a, b) ∈ kept)) = decide ((a, b) ∉ kept) by simp]
        congr 3
        rcases gatesM_mem.mp hg with rfl | hb
        · rw [set_full R.fm, decide_eq_true (normS_mem.mpr ⟨pm, pm⟩), decide_eq_true rfl]; rfl
        · have hf : g ≠ "full" := fun e => R.fm.nofull (e ▸ hb)
          rw [set_other hb, decide_eq_false hf, Bool.false_or]
          exact decide_eq_decide.mpr (normS_in (R.fm.tab.set g))
def G_plost (K : PySem.W.Frag) : List D → Rs → Prop := fun ds r => ∃ (kept goal : PSet) (marks bars : Tab) (rs : Rows), ds = [oRec K kept goal marks bars rs] ∧ RecOk kept goal marks bars rs ∧ r = .nL ((lLostM kept marks goal bars rs).map eT)
theorem kn_lost (T : Hd K mg) : Kn P w K mg bs CX0 5 "lost" ["recipe"] (spG K (G_plost K)) := by
  refine k_lost T ?_ ?_
  · rintro ds r ⟨_, _, _, _, _, rfl, _⟩; rfl
  · rintro c ds r hr ⟨kept, goal, marks, bars, rs, rfl, R, rfl⟩
    have hu := ru1 hr
    rw [lost_eq]
    generalize hL : lLost1 kept marks goal bars rs = L
    let fs := fencesM marks
    have hgl := (gatesM_ok R.fm).ok.2
    have hlf : fs.length ≤ 101 := by
      show (none :: (gatesM marks).map some).length ≤ 101
      rw [List.length_cons, List.length_map]
      omega
    have lenA : ∀ a, (lostA L fs a).length ≤ 2727 := fun a => Nat.le_trans (flat_len (fun f => lostB_len) fs) (by omega)
    let B := fun (F : List Trip) (o2 o3 o4 o5 o6 : Option Sl) (l : Addr) => ([some (.val (oRec K kept goal marks bars rs)), some (.oL l (F.map eT)), o2, o3, o4, o5, o6] : En)
    refine q_asg 1 sc_lost.nd (h_lst ha_nil) ?_
    rintro _ ⟨l, rfl⟩
    refine q_for (fun i E' => ∃ o2 o3 o4 o5 o6, E' = B ((kinds5.take i).flatMap (lostA L fs)) o2 o3 o4 o5 o6 l) (fun E' => ∃ o2 o3 o4 o5 o6, E' = B (kinds5.flatMap (lostA L fs)) o2 o3 o4 o5 o6 l)
      (k_tup (h_KINDS T)) (g_name 2 sc_lost.nd) ⟨_, _, _, _, _, rfl⟩ ?_ ?_ ?_
    · rintro i d E' hd ⟨o2, o3, o4, o5, o6, rfl⟩
      obtain ⟨a, ha, rfl⟩ := map_get (f := D.str) (l := kinds5) hd
      refine ⟨_, ⟨Nat.le_of_ble_eq_true rfl, rfl⟩, ?_⟩
      have len1 : ((kinds5.take i).flatMap (lostA L fs)).length ≤ 13635 := Nat.le_trans (flat_len lenA _) (by
        have := take_len_le kinds5 i
        rw [show kinds5.length = 5 from rfl] at this
        omega)
      refine q_for (N := ⟨_, _, _, _⟩) (fun j E' => ∃ o3 o4 o5 o6, E' = B ((kinds5.take i).flatMap (lostA L fs) ++ (fs.take j).flatMap fun f => lostB L a f 27) (some (.val (.str a))) o3 o4 o5 o6 l) (fun E' => ∃ o3 o4 o5 o6, E' = B ((kinds5.take i).flatMap (lostA L fs) ++ lostA L fs a) (some (.val (.str a))) o3 o4 o5 o6 l)
        (k_list (ds := fs.map eO) (d_is (h_settle (h_op (o_cat (ds := [D.non]) (es := (gatesM marks).map D.str) (by
            rw [List.length_map]
            show 1 + _ ≤ 1000
            omega)) (h_settle (h_lst (a1 h_non)))
          (h_settle (h_meth0 (kn_fences T) (hr.mono (by decide)) (h_fld (h_var 0) rfl T.c_Recipe T.a_Recipe_source) rfl ⟨kept, fullT marks, rfl, by rw [gates_full R.fm]⟩)))) (by
            show D.lst ([D.non] ++ (gatesM marks).map D.str) = D.lst ((none :: (gatesM marks).map some).map eO)
            rw [List.map_cons, List.map_map]; rfl))) (g_name 3 sc_lost.nd) ⟨_, _, _, _, by rw [List.take_zero, List.flatMap_nil, List.append_nil]; rfl⟩ ?_ ?_ ?_
      · rintro j d E' hd ⟨o3, o4, o5, o6, rfl⟩
        obtain ⟨f, hf, rfl⟩ := map_get hd
        refine ⟨_, ⟨Nat.le_of_ble_eq_true rfl, rfl⟩, ?_⟩
        have len2 : ((fs.take j).flatMap fun f => lostB L a f 27).length ≤ 2727 := Nat.le_trans (flat_len (fun f => lostB_len) _) (by
          have := take_len_le fs j
          omega)
        have hfm : ∀ n, f = some n → n ∈ gatesM marks := fun n e => by
          have hm := mem_of_get hf
          subst e
          rcases List.mem_cons.mp hm with h | h
          · cases h
          · obtain ⟨m, hm1, e⟩ := List.mem_map.mp h
            cases e; exact hm1
        refine s_one (h_for (fun k E' => ∃ o4 o5 o6, E' = B (((kinds5.take i).flatMap (lostA L fs) ++ (fs.take j).flatMap fun f => lostB L a f 27) ++ lostB L a f k) (some (.val (.str a))) (some (.val (eO f))) o4 o5 o6 l)
          (k_tup (h_PAIRS T)) (g_tup2 4 5 sc_lost.nd) ⟨_, _, _, by rw [show lostB L a f 0 = [] from rfl, List.append_nil]; rfl⟩ ?_ ?_)
        · rintro k d E' hd ⟨o4, o5, o6, rfl⟩
          obtain ⟨⟨p, b⟩, hp, rfl⟩ := map_get hd
          have pm := mem_of_get hp
          refine ⟨_, ⟨Nat.le_of_ble_eq_true rfl, Nat.le_of_ble_eq_true rfl, _, _, rfl, rfl⟩, ?_⟩
          have lenK : (lostB L a f k).length ≤ 27 := lostB_len
          refine q_asg 6 sc_lost.nd (r := .val (eT (a, f, b))) (h_tup (ha_cons (h_var 2) (a2 (h_var 3) (h_var 5)))) ?_
          rintro _ rfl
          have tok : p = a → TripOk marks (a, f, b) := fun e => ⟨e ▸ pm, hfm⟩
          refine s_one (h_ifS (k := decide (p = a) && L (a, f, b)) (t_w (w_and (k1 := decide (p = a)) (k2 := L (a, f, b)) (t_cmp c_eqS (h_var 4) (h_var 2)) fun q => ?_)) (fun h => ?_) (fun h => s_nil ?_))
          · rw [← hL, lost1_passed]
            have tk := tok (of_decide_eq_true q)
            exact w_and (t_val (h_call (kn_is_due T) (hr.mono (by decide)) (a2 (h_var 0) (h_var 6)) ⟨kept, goal, marks, bars, rs, (a, f, b), rfl, R, tk, rfl⟩)) fun _ => w_and1 (t_val (h_call (kn_is_lost T) (hr.mono (by decide)) (a2 (h_var 0) (h_var 6)) ⟨kept, goal, marks, bars, rs, (a, f, b), rfl, R, tk, rfl⟩))
          · refine s_one (h_appM (L := ((kinds5.take i).flatMap (lostA L fs) ++ (fs.take j).flatMap fun f => lostB L a f 27) ++ lostB L a f k) eT 1 (a, f, b) _ rfl (h_var 6) (by rw [List.length_append, List.length_append]; omega) ⟨some (.val (.str p)), some (.val (.str b)), some (.val (eT (a, f, b))), ?_⟩)
            rw [lostB_succ hp, if_pos h, ← List.append_assoc]
            rfl
          · refine ⟨some (.val (.str p)), some (.val (.str b)), some (.val (eT (a, f, b))), ?_⟩
            rw [lostB_succ hp, if_neg (by rw [h]; decide), List.append_nil]
            rfl
        · rintro E' ⟨o4, o5, o6, rfl⟩
          refine ⟨some (.val (eO f)), o4, o5, o6, ?_⟩
          rw [tkf hf, ← List.append_assoc, show (pairsM.map eP).length = 27 from rfl]
      · rintro E' ⟨o3, o4, o5, o6, rfl⟩
        refine ⟨o3, o4, o5, o6, ?_⟩
        rw [List.length_map, List.take_length]; rfl
      · rintro _ ⟨o3, o4, o5, o6, rfl⟩
        refine s_nil ⟨some (.val (.str a)), o3, o4, o5, o6, ?_⟩
        rw [tkf ha]
    · rintro E' ⟨o2, o3, o4, o5, o6, rfl⟩
      exact ⟨o2, o3, o4, o5, o6, rfl⟩
    · rintro _ ⟨o2, o3, o4, o5, o6, rfl⟩
      exact s_one (h_retOwn 1 (hn := ⟨_, rfl⟩))
end
end K39
/-! KP10 -/
set_option maxHeartbeats 4000000
/-! ## all_spots, cures, unmet -/
namespace K39
open PySem PySem.Spec PyProof.Rows L2
def allSpotsM (names : List Str) : List Pair := names.flatMap fun n => (sidesM n).map fun s => (n, s)
def ableP (rs : Rows) (bars : Tab) (t : Trip) : List Str := (gatesM bars).filter fun f => decide (becomesM rs t.1 t.2.2 ∈ normS (setOf (fullT bars) f))
def cureM (rs : Rows) (bars : Tab) (t : Trip) : List Item := (spotsM t).flatMap fun s => (ableP rs bars t).map fun f => (s.1, s.2, f)
def hitM (need c : List Item) : Bool := need.any fun i => decide (i ∈ c)
def unmetM (needs : List (List Item)) (c : List Item) : Option (List Item) := needs.find? fun n => !hitM n c
def iOk (i : Item) : Prop := PyData.strOk i.1 = true ∧ PyData.strOk i.2.1 = true ∧ PyData.strOk i.2.2 = true
theorem sh_eI {i : Item} (h : iOk i) : D.sh 1 (eI i) := ⟨h.1, h.2.1, h.2.2, True.intro⟩
theorem eI_mem {i : Item} {L : List Item} : eI i ∈ L.map eI ↔ i ∈ L := by
  rw [List.mem_map]
  constructor
  · rintro ⟨j, hj, e⟩
    rw [← eI_inj _ _ e]; exact hj
  · exact fun h => ⟨i, h, rfl⟩
section
variable {P : Program} {w : World} {K : PySem.W.Frag} {mg : Str → Option Value} {bs : Heap} {X : Cx} {E : En}
theorem c_inIT {i : Item} {c : List Item} (hu : X.A.units + 65 < cLine) (h : iOk i) (hs : ∀ j ∈ c, iOk j) : CmpOk X .In (eI i) (eC c) (decide (i ∈ c)) :=
  c_inT (n := 1) (m := 1) hu (sh_eI h) (shs_all.mpr fun d hd => by
    obtain ⟨j, hj, rfl⟩ := List.mem_map.mp hd
    exact sh_eI (hs j hj)) (by rw [decide_eq_true_eq, eI_mem])
def G_all_spots (K : PySem.W.Frag) : List D → Rs → Prop := fun ds r => ∃ (kept goal : PSet) (marks bars : Tab) (rs : Rows), ds = [oRec K kept goal marks bars rs] ∧ RecOk kept goal marks bars rs ∧ r = .nL ((allSpotsM (namesM marks)).map eP)
theorem kn_all_spots (T : Hd K mg) : Kn P w K mg bs CX0 2 "all_spots" ["recipe"] (spG K (G_all_spots K)) := by
  refine k_all_spots T ?_ ?_
  · rintro ds r ⟨_, _, _, _, _, rfl, _⟩; rfl
  · rintro c ds r hr ⟨kept, goal, marks, bars, rs, rfl, R, rfl⟩
    have N := namesM_ok R.fm
    let sp := fun (n : Str) => (sidesM n).map fun s => ((n, s) : Pair)
    have spl : ∀ n, (sp n).length ≤ 2 := fun n => by rw [List.length_map]; exact sides_len n
    refine q_asg 1 sc_all_spots.nd (h_lst ha_nil) ?_
    rintro _ ⟨l, rfl⟩
    refine q_for (fun i E' => ∃ o, E' = [some (.val (oRec K kept goal marks bars rs)), some (.oL l ((((namesM marks).take i).flatMap sp).map eP)), o]) (fun E' => ∃ o, E' = [some (.val (oRec K kept goal marks bars rs)), some (.oL l ((allSpotsM (namesM marks)).map eP)), o])
      (k_own (it_Recipe T) (hr.mono (by decide)) (h_var 0) (ds := (namesM marks).map D.str) rfl) (g_name 2 sc_all_spots.nd) ⟨_, rfl⟩ ?_ ?_ ?_
    · rintro i d E' hd ⟨o, rfl⟩
      obtain ⟨n, hn, rfl⟩ := map_get hd
      have hok := N.ok.1 n (mem_of_get hn)
      refine ⟨_, ⟨Nat.le_of_ble_eq_true rfl, rfl⟩, ?_⟩
      have l1 : (((namesM marks).take i).flatMap sp).length ≤ 200 := Nat.le_trans (flat_len spl _) (by
        have := take_len_le (namesM marks) i
        have := N.ok.2
        omega)
      refine s_one (h_ifS (t_cmp (c_inTS (L := kinds5) (ru65 hr) hok kinds_ok) (h_var 2) (h_KINDS T)) (fun h => ?_) fun h => ?_)
      · have h1 : n ∈ kinds5 := of_decide_eq_true h
        refine s_one (h_extend 1 (ds := (((namesM marks).take i).flatMap sp).map eP) (es := [eP (n, "ahead"), eP (n, "behind")]) (.inr (h_settle (h_lst (a2 (h_tup (a2 (h_var 2) h_str)) (h_tup (a2 (h_var 2) h_str)))))) (by rw [List.length_map]; show _ + 2 ≤ 100000; omega) ⟨some (.val (.str n)), ?_⟩)
        rw [tkf hn, List.map_append, show sp n = [((n, "ahead") : Pair), (n, "behind")] by show (sidesM n).map _ = _; unfold sidesM; rw [if_pos h1]; rfl]; rfl
      · have h1 : ¬ n ∈ kinds5 := of_decide_eq_false h
        refine s_one (h_append 1 (ds := (((namesM marks).take i).flatMap sp).map eP) (d := eP (n, "row")) (h_tup (a2 (h_var 2) h_str)) (by rw [List.length_map]; omega) ⟨some (.val (.str n)), ?_⟩)
        rw [tkf hn, List.map_append, show sp n = [((n, "row") : Pair)] by show (sidesM n).map _ = _; unfold sidesM; rw [if_neg h1]; rfl]; rfl
    · rintro E' ⟨o, rfl⟩
      refine ⟨o, ?_⟩
      rw [List.length_map, List.take_length]; rfl
    · rintro _ ⟨o, rfl⟩
      exact s_one (h_retOwn 1 (hn := ⟨_, rfl⟩))
def G_cures (K : PySem.W.Frag) : List D → Rs → Prop := fun ds r => ∃ (kept goal : PSet) (marks bars : Tab) (rs : Rows) (t : Trip), ds = [oRec K kept goal marks bars rs, eT t] ∧ RecOk kept goal marks bars rs ∧ TripOk marks t ∧ r = .nL ((cureM rs bars t).map eI)
theorem kn_cures (T : Hd K mg) : Kn P w K mg bs CX0 4 "cures" ["recipe", "pair"] (spG K (G_cures K)) := by
  refine k_cures T ?_ ?_
  · rintro ds r ⟨_, _, _, _, _, _, rfl, _⟩; rfl
  · rintro c ds r hr ⟨kept, goal, marks, bars, rs, t, rfl, R, ht, rfl⟩
    have bp := becomes_in R.rows ht.pr
    have bok := pairs_ok bp
    have gl := (gatesM_ok R.fb).ok.2
    refine q_unpack (h_call (kn_aim T) (hr.mono (by decide)) (a2 (h_var 0) (h_var 1)) ⟨kept, goal, marks, bars, rs, t, rfl, R, ht.pr, rfl⟩) (g_tup2 2 3 sc_cures.nd) ⟨Nat.le_of_ble_eq_true rfl, Nat.le_of_ble_eq_true rfl, _, _, rfl, rfl⟩ ?_
    let k1 := (becomesM rs t.1 t.2.2).1
    let k2 := (becomesM rs t.1 t.2.2).2
    refine q_asg 4 sc_cures.nd (h_lcM D.str D.str (fun f => decide (becomesM rs t.1 t.2.2 ∈ normS (setOf (fullT bars) f))) (L := gatesM bars) 5 str_inj' sc_cures.nd
        (k_list (h_settle (h_meth0 (kn_fences T) (hr.mono (by decide)) (h_fld (h_var 0) rfl T.c_Recipe T.a_Recipe_target) rfl ⟨goal, fullT bars, rfl, by rw [gates_full R.fb]⟩))) (Nat.le_trans gl (by decide))
        (fun j f hf b => ⟨ts_one (t_cmp2 (c_ownIn (kn_contains T) (hr.mono (by decide)) ⟨setOf (fullT bars) f, becomesM rs t.1 t.2.2, rfl, bok, rfl⟩) (h_tup (a2 (h_var 2) (h_var 3)))
          (h_meth (kn_fence T) (hr.mono (by decide)) (h_fld (h_var 0) rfl T.c_Recipe T.a_Recipe_target) rfl (a1 (h_var 5)) ⟨goal, fullT bars, f, rfl, R.fb.full, by
            rw [full_keys]
            rcases gatesM_mem.mp (mem_of_get hf) with rfl | h
            · exact List.mem_append_right _ (List.mem_singleton.mpr rfl)
            · exact List.mem_append_left _ h, rfl⟩)), fun _ => h_var 5⟩)) ?_
    rintro _ ⟨l, rfl⟩
    refine q_settle 4 ?_
    have al : (ableP rs bars t).length ≤ 100 := Nat.le_trans (List.length_filter_le _ _) gl
    refine s_one (h_ret (r := .nL ((cureM rs bars t).map eI)) (r_is (h_lc2 6 7 5 [("name", 6), ("side", 7), ("fence", 5)] (ps := (spotsM t).map fun s => (D.str s.1, D.str s.2)) (es := fun _ => (ableP rs bars t).map D.str) (f := fun p d => .tup [p.1, p.2, d]) sc_cures.nd
      (k_list (d_is (h_settle (h_call (kn_spots T) (hr.mono (by decide)) (a1 (h_var 1)) ⟨t, rfl, rfl⟩)) (by rw [List.map_map]; rfl))) ?_ rfl (fun p hp b => ⟨k_list (h_var 4), fun d3 hd => h_tup (ha_cons (h_var 6) (a2 (h_var 7) (h_var 5)))⟩)
      (htg := fun b => pg_tup rfl (pgs_cons (pg_name sc_cures.nd rfl (.inl rfl) (.inr rfl)) (pgs_cons (pg_name sc_cures.nd rfl (.inl rfl) (.inr rfl)) pgs_nil rfl) rfl) rfl rfl)) ?_) fun s hs => hs)
    · have h1 := flat_len (f := fun p : D × D => ((ableP rs bars t).map D.str).map fun d => D.tup [p.1, p.2, d]) (n := 100) (fun p => by rw [List.length_map, List.length_map]; exact al) ((spotsM t).map fun s => (D.str s.1, D.str s.2))
      rw [List.length_map] at h1
      have := spots_len t
      omega
    · unfold cureM
      rw [List.map_flatMap, List.flatMap_map]
      congr 2
      funext s
      rw [List.map_map, List.map_map]; rfl
def eNd (n : List Item) : D := .lst (n.map eI)
def oNd : Option (List Item) → D
  | none => .non
  | some n => eNd n
def G_unmet : List D → Rs → Prop := fun ds r => ∃ (needs : List (List Item)) (c : List Item), ds = [.lst (needs.map eNd), eC c] ∧ (∀ n ∈ needs, ∀ i ∈ n, iOk i) ∧ (∀ n ∈ needs, n.length ≤ 1000) ∧ (∀ i ∈ c, iOk i) ∧ r = .val (oNd (unmetM needs c))
theorem hit_len (need c : List Item) : decide ((((need.filter fun i => decide (i ∈ c)).length : Int)) = 0) = !hitM need c := by
  unfold hitM
  induction need with
  | nil => rfl
  | cons i need ih =>
    rw [List.filter_cons, List.any_cons]
    by_cases h : i ∈ c
    · rw [if_pos (by simpa using h), decide_eq_true h, Bool.true_or, List.length_cons]
      simp
      omega
    · rw [if_neg (by simpa using h), decide_eq_false h, Bool.false_or]
      exact ih
theorem find_take {α : Type} {p : α → Bool} {l : List α} {i : Nat} {x : α} (h : l[i]? = some x) (hn : (l.take i).find? p = none) : (l.take (i + 1)).find? p = if p x = true then some x else none := by
  rw [tk h, List.find?_append, hn]
  show ([x].find? p) = _
  rw [List.find?_cons]
  cases p x <;> rfl
theorem kn_unmet (T : Hd K mg) : Kn P w K mg bs CX0 1 "unmet" ["needs", "chosen"] (spG K G_unmet) := by
  refine k_unmet T ?_ ?_
  · rintro ds r ⟨_, _, rfl, _⟩; rfl
  · rintro c ds r hr ⟨needs, ch, rfl, hN, hl, hC, rfl⟩
    refine q_for (fun i E' => ∃ o, E' = [some (.val (.lst (needs.map eNd))), some (.val (eC ch)), o, none] ∧ (needs.take i).find? (fun n => !hitM n ch) = none) (fun E' => ∃ o, E' = [some (.val (.lst (needs.map eNd))), some (.val (eC ch)), o, none] ∧ unmetM needs ch = none)
      (k_list (h_var 0)) (g_name 2 sc_unmet.nd) ⟨_, rfl, rfl⟩ ?_ ?_ ?_
    · rintro i d E' hd ⟨o, rfl, hf⟩
      obtain ⟨n, hn, rfl⟩ := map_get hd
      have hm := mem_of_get hn
      refine ⟨_, ⟨Nat.le_of_ble_eq_true rfl, rfl⟩, ?_⟩
      refine s_one (h_ifS (k := !hitM n ch) (t_is (t_cmp c_eqI (h_callB f_lenL T.n_len PySem.boot_len (a1 (h_settle (h_lcM eI eI (fun i => decide (i ∈ ch)) (L := n) 3 eI_inj sc_unmet.nd (k_list (h_var 2)) (Nat.le_trans (hl n hm) (by decide))
          (fun j i hi b => ⟨ts_one (t_cmp (c_inIT (ru65 hr) (hN n hm i (mem_of_get hi)) hC) (h_var 3) (h_var 1)), fun _ => h_var 3⟩))))) h_int) (by rw [List.length_map]; exact hit_len n ch)) (fun h => s_one (h_ret (h_var 2) ?_)) (fun h => s_nil ?_))
      · rintro _ rfl
        have e : unmetM needs ch = some n := by
          have h2 := find_take (p := fun n => !hitM n ch) hn hf
          rw [if_pos h] at h2
          unfold unmetM
          rw [← List.take_append_drop (i + 1) needs, List.find?_append, h2]; rfl
        show Sl.val _ = Sl.val _
        rw [e]; rfl
      · refine ⟨_, rfl, ?_⟩
        rw [find_take hn hf, if_neg (by rw [h]; decide)]
    · rintro E' ⟨o, rfl, hf⟩
      refine ⟨o, rfl, ?_⟩
      rw [List.length_map, List.take_length] at hf
      exact hf
    · rintro _ ⟨o, rfl, hf⟩
      refine s_one (h_ret h_non ?_)
      rintro _ rfl
      show Sl.val _ = Sl.val _
      rw [hf]; rfl
end
end K39
/-! KOrd -/
set_option maxHeartbeats 4000000
/-! ## the order of items and of sets of items -/
namespace K39
open PySem PySem.Spec PyProof.Rows L2
theorem leD_tot : PySem.W.TotalLe leD := PySem.W.sortLe_total (PyProof.Rows.listOrd PyProof.Rows.itemOrd) false fun d : D => PySem.W.keyToks d.py
theorem leD_trans (a b c : D) (h1 : leD a b = true) (h2 : leD b c = true) : leD a c = true := leD_tot.trans a b c h1 h2
theorem leD_total (a b : D) : (leD a b || leD b a) = true := by
  rw [Bool.or_eq_true]
  exact leD_tot.total a b
theorem leD_refl (a : D) : leD a a = true := by
  have := leD_total a a
  rwa [Bool.or_self] at this
theorem leD_cons_eq {x : D} {xs ys : List D} {n : Nat} (hx : D.sh n x) (al : PySem.W.alike x.py x.py = true) : leD (.tup (x :: xs)) (.tup (x :: ys)) = leD (.tup xs) (.tup ys) := by
  show (!PySem.W.dataLt (.tuple (pys (x :: ys))) (.tuple (pys (x :: xs)))) = !PySem.W.dataLt (.tuple (pys ys)) (.tuple (pys xs))
  rw [PySem.W.dataLt_tuple, PySem.W.dataLt_tuple]
  show (!PyProof.Rows.lexLt PyProof.Rows.itemOrd (PySem.W.keyToksAll (x.py :: pys ys)) (PySem.W.keyToksAll (x.py :: pys xs))) = _
  rw [PySem.W.dataLt_cons al, if_pos ((D.eqv_iff x x hx hx).mpr rfl)]
theorem leD_cons_ne {x y : D} {xs ys : List D} {n : Nat} (hx : D.sh n x) (hy : D.sh n y) (al : PySem.W.alike y.py x.py = true) (h : x ≠ y) : leD (.tup (x :: xs)) (.tup (y :: ys)) = leD x y := by
  show (!PySem.W.dataLt (.tuple (pys (y :: ys))) (.tuple (pys (x :: xs)))) = !PySem.W.dataLt y.py x.py
  rw [PySem.W.dataLt_tuple]
  show (!PyProof.Rows.lexLt PyProof.Rows.itemOrd (PySem.W.keyToksAll (y.py :: pys ys)) (PySem.W.keyToksAll (x.py :: pys xs))) = _
  rw [PySem.W.dataLt_cons al, if_neg fun e => h ((D.eqv_iff y x hy hx).mp e).symm]
theorem alike_str (a b : Str) : PySem.W.alike (D.str a).py (D.str b).py = true := by simp [D.py, PySem.W.alike]
theorem alike_eI (a b : Item) : PySem.W.alike (eI a).py (eI b).py = true := by simp [eI, D.py, pys, PySem.W.alike, PySem.W.alikeAll]
theorem alike_items : ∀ (a b : List Item), PySem.W.alikeAll (pys (a.map eI)) (pys (b.map eI)) = true
  | [], _ => by simp [pys, PySem.W.alikeAll]
  | x :: a, [] => by simp [pys, PySem.W.alikeAll]
  | x :: a, y :: b => by
    show PySem.W.alikeAll ((eI x).py :: pys (a.map eI)) ((eI y).py :: pys (b.map eI)) = true
    rw [PySem.W.alikeAll, alike_eI, alike_items a b]; rfl
theorem alike_eC (a b : List Item) : PySem.W.alike (eC a).py (eC b).py = true := by
  show PySem.W.alike (.tuple (pys (a.map eI))) (.tuple (pys (b.map eI))) = true
  rw [PySem.W.alike]
  exact alike_items a b
def leI (a b : Item) : Bool := leD (eI a) (eI b)
def leC (a b : List Item) : Bool := leD (eC a) (eC b)
theorem leI_trans (a b c : Item) (h1 : leI a b = true) (h2 : leI b c = true) : leI a c = true := leD_trans _ _ _ h1 h2
theorem leI_total (a b : Item) : (leI a b || leI b a) = true := leD_total _ _
theorem leC_trans (a b c : List Item) (h1 : leC a b = true) (h2 : leC b c = true) : leC a c = true := leD_trans _ _ _ h1 h2
theorem leC_total (a b : List Item) : (leC a b || leC b a) = true := leD_total _ _
theorem leI_name {n s f n' s' f' : Str} (h : n ≠ n') (h1 : PyData.strOk n = true) (h2 : PyData.strOk n' = true) : leI (n, s, f) (n', s', f') = leS n n' :=
  (leD_cons_ne (n := 0) (sh_str h1) (sh_str h2) (alike_str _ _) fun e => h (D.str.inj e)).trans (leD_str _ _)
theorem leI_side {n s f s' f' : Str} (h : s ≠ s') (h0 : PyData.strOk n = true) (h1 : PyData.strOk s = true) (h2 : PyData.strOk s' = true) : leI (n, s, f) (n, s', f') = leS s s' :=
  (leD_cons_eq (n := 0) (sh_str h0) (alike_str _ _)).trans ((leD_cons_ne (n := 0) (sh_str h1) (sh_str h2) (alike_str _ _) fun e => h (D.str.inj e)).trans (leD_str _ _))
theorem leI_fence {n s f f' : Str} (h : f ≠ f') (h0 : PyData.strOk n = true) (h00 : PyData.strOk s = true) (h1 : PyData.strOk f = true) (h2 : PyData.strOk f' = true) : leI (n, s, f) (n, s, f') = leS f f' :=
  (leD_cons_eq (n := 0) (sh_str h0) (alike_str _ _)).trans ((leD_cons_eq (n := 0) (sh_str h00) (alike_str _ _)).trans ((leD_cons_ne (n := 0) (sh_str h1) (sh_str h2) (alike_str _ _) fun e => h (D.str.inj e)).trans (leD_str _ _)))
theorem leI_refl (a : Item) : leI a a = true := leD_refl _
theorem leI_antis {a b : Item} (ha : iOk a) (hb : iOk b) (h1 : leI a b = true) (h2 : leI b a = true) : a = b := eI_inj _ _ (leD_antis (n := 1) (sh_eI ha) (sh_eI hb) (alike_eI _ _) h1 h2)
theorem leC_one {a b : Item} (ha : iOk a) (hb : iOk b) : leC [a] [b] = leI a b := by
  by_cases e : a = b
  · subst e
    rw [leI_refl]; exact leD_refl _
  · exact leD_cons_ne (n := 1) (sh_eI ha) (sh_eI hb) (alike_eI _ _) fun q => e (eI_inj _ _ q)
theorem leC_two {a b a' b' : Item} (ha : iOk a) (ha' : iOk a') (hb : iOk b) (hb' : iOk b') : leC [a, b] [a', b'] = if a = a' then leI b b' else leI a a' := by
  by_cases e : a = a'
  · subst e
    rw [if_pos rfl]
    exact (leD_cons_eq (n := 1) (sh_eI ha) (alike_eI _ _)).trans (leC_one hb hb')
  · rw [if_neg e]
    exact leD_cons_ne (n := 1) (sh_eI ha) (sh_eI ha') (alike_eI _ _) fun q => e (eI_inj _ _ q)
def sortI (l : List Item) : List Item := l.mergeSort leI
def ascC (l : List (List Item)) : List (List Item) := (dedup l).mergeSort leC
theorem sortI_perm (l : List Item) : (sortI l).Perm l := List.mergeSort_perm l leI
theorem sortI_ord (l : List Item) : (sortI l).Pairwise (fun a b => leI a b = true) := List.pairwise_mergeSort (le := leI) leI_trans leI_total l
theorem ascC_perm (l : List (List Item)) : (ascC l).Perm (dedup l) := List.mergeSort_perm _ leC
theorem ascC_mem {l : List (List Item)} {c : List Item} : c ∈ ascC l ↔ c ∈ l := (ascC_perm l).mem_iff.trans dedup_mem
theorem ascC_nodup (l : List (List Item)) : (ascC l).Nodup := (ascC_perm l).nodup_iff.mpr (dedup_nodup l)
theorem ascC_ord (l : List (List Item)) : (ascC l).Pairwise (fun a b => leC a b = true) := List.pairwise_mergeSort (le := leC) leC_trans leC_total _
theorem ascC_len (l : List (List Item)) : (ascC l).length ≤ l.length := by
  rw [(ascC_perm l).length_eq]
  exact dedup_len l
theorem eC_inj {a b : List Item} (h : eC a = eC b) : a = b := by
  have h2 : a.map eI = b.map eI := D.tup.inj h
  exact List.map_inj_right (fun x y e => eI_inj x y e) |>.mp h2
theorem eC_mem {c : List Item} {L : List (List Item)} : eC c ∈ L.map eC ↔ c ∈ L := by
  rw [List.mem_map]
  constructor
  · rintro ⟨j, hj, e⟩
    rw [← eC_inj e]; exact hj
  · exact fun h => ⟨c, h, rfl⟩
theorem kl_eI {n : Nat} {i : Item} (h : iOk i) : D.kl (n + 1) (eI i) := ⟨h.1, h.2.1, h.2.2, True.intro⟩
theorem kl_eC {n : Nat} {c : List Item} (h : ∀ i ∈ c, iOk i) : D.kl (n + 2) (eC c) := kls_all.mpr fun d hd => by
  obtain ⟨i, hi, rfl⟩ := List.mem_map.mp hd
  exact kl_eI (h i hi)
theorem sh_eC {c : List Item} (h : ∀ i ∈ c, iOk i) : D.sh 2 (eC c) := shs_all.mpr fun d hd => by
  obtain ⟨i, hi, rfl⟩ := List.mem_map.mp hd
  exact sh_eI (h i hi)
theorem nodup_one {α : Type} {a : α} : ∀ {l : List α}, l.Nodup → (∀ x ∈ l, x = a) → l = [] ∨ l = [a]
  | [], _, _ => .inl rfl
  | [x], _, h => .inr (by rw [h x (List.mem_cons_self ..)])
  | x :: y :: l, hn, h => by
    have e1 := h x (List.mem_cons_self ..)
    have e2 := h y (List.mem_cons_of_mem _ (List.mem_cons_self ..))
    rw [List.nodup_cons] at hn
    exact absurd (by rw [e1, e2]; exact List.mem_cons_self ..) hn.1
theorem srt_eC {es : List (List Item)} (hn : es.Nodup) (hk : (∀ c ∈ es, c ≠ []) ∨ (∀ c ∈ es, c = [])) : Srt (pys (es.map eC)) := by
  have al : PySem.W.AllAlike (pys (es.map eC)) := by
    rw [pys_map, List.map_map]
    intro d hd d' hd'
    obtain ⟨a, _, rfl⟩ := List.mem_map.mp hd
    obtain ⟨b, _, rfl⟩ := List.mem_map.mp hd'
    exact alike_eC a b
  rcases hk with hk | hk
  · refine .inl ⟨al, .inl fun d hd => ?_⟩
    rw [pys_map, List.map_map] at hd
    obtain ⟨a, ha, rfl⟩ := List.mem_map.mp hd
    cases a with
    | nil => exact absurd rfl (hk _ ha)
    | cons x a => exact ⟨_, _, rfl⟩
  · rcases nodup_one hn hk with e | e
    · subst e
      exact .inl ⟨al, .inl fun d hd => by cases hd⟩
    · subst e
      exact .inr rfl
theorem ascOk_eC {L : List (List Item)} (hok : ∀ c ∈ L, ∀ i ∈ c, iOk i) (hl : L.length ≤ 1000) (hk : (∀ c ∈ L, c ≠ []) ∨ (∀ c ∈ L, c = [])) : AscOk (L.map eC) ((ascC L).map eC) where
  kl := kls_all.mpr fun d hd => by
    obtain ⟨c, hc, rfl⟩ := List.mem_map.mp hd
    exact kl_eC (n := 2) (hok c hc)
  kind := .inr fun d hd => by
    obtain ⟨c, hc, rfl⟩ := List.mem_map.mp hd
    exact ⟨_, rfl⟩
  srt := srt_eC (ascC_nodup L) (hk.imp (fun h c hc => h c (ascC_mem.mp hc)) fun h c hc => h c (ascC_mem.mp hc))
  few := by rw [List.length_map]; exact hl
  ord := List.pairwise_map.mpr (ascC_ord L)
  nd := List.pairwise_map.mpr ((ascC_nodup L).imp fun hn e => hn (eC_inj e))
  mem := fun d => by
    constructor
    · intro h
      obtain ⟨c, hc, rfl⟩ := List.mem_map.mp h
      exact eC_mem.mpr (ascC_mem.mp hc)
    · intro h
      obtain ⟨c, hc, rfl⟩ := List.mem_map.mp h
      exact eC_mem.mpr (ascC_mem.mpr hc)
/-- sorted(a list of items) -/
theorem f_sortedI {X : Cx} {L : List Item} (hu : X.A.units + 64 < cLine) (hok : ∀ i ∈ L, iOk i) (hl : L.length ≤ 1000) : CallOk X (.builtin "sorted") [.lst (L.map eI)] (.nL ((sortI L).map eI)) := by
  refine f_sorted (n := 1) hu (shs_all.mpr fun d hd => ?_) (by decide) (.inl ⟨?_, .inl fun d hd => ?_⟩) (by rw [List.length_map]; exact hl) (List.pairwise_map.mpr (sortI_ord L)) ((sortI_perm L).map eI)
  · obtain ⟨i, hi, rfl⟩ := List.mem_map.mp hd
    exact sh_eI (hok i hi)
  · rw [pys_map, List.map_map]
    intro d hd d' hd'
    obtain ⟨a, _, rfl⟩ := List.mem_map.mp hd
    obtain ⟨b, _, rfl⟩ := List.mem_map.mp hd'
    exact alike_eI a b
  · rw [pys_map, List.map_map] at hd
    obtain ⟨a, ha, rfl⟩ := List.mem_map.mp hd
    exact ⟨_, _, rfl⟩
end K39
/-! KP11 -/
set_option maxHeartbeats 4000000
/-! ## fewest -/
namespace K39
open PySem PySem.Spec PyProof.Rows L2
def stepF (needs : List (List Item)) (c : List Item) : List (List Item) := ((unmetM needs c).getD []).map fun i => sortI (c ++ [i])
def longerM (needs : List (List Item)) (level : List (List Item)) : List (List Item) := level.flatMap (stepF needs)
def enoughM (needs : List (List Item)) (level : List (List Item)) : List (List Item) := level.filter fun c => (unmetM needs c).isNone
def fewLoop (needs : List (List Item)) : Nat → List (List Item) → List (List Item)
  | 0, _ => []
  | k + 1, level => if (enoughM needs level).length > 0 then ascC (enoughM needs level) else fewLoop needs k (ascC (longerM needs level))
def fewestM (needs : List (List Item)) (m : Nat) : List (List Item) := fewLoop needs (m + 1) [[]]
theorem lost_trip {kept goal : PSet} {marks bars : Tab} {rs : Rows} {t : Trip} (h : t ∈ lLostM kept marks goal bars rs) : TripOk marks t := by
  unfold lLostM tripsM at h
  have h1 := (List.mem_filter.mp h).1
  obtain ⟨a, ha, h2⟩ := List.mem_flatMap.mp h1
  obtain ⟨f, hf, h3⟩ := List.mem_flatMap.mp h2
  obtain ⟨p, hp, rfl⟩ := List.mem_map.mp h3
  obtain ⟨hp1, hp2⟩ := List.mem_filter.mp hp
  have e : p.1 = a := of_decide_eq_true hp2
  subst e
  refine ⟨hp1, fun n e => ?_⟩
  have e : f = some n := e
  subst e
  rcases List.mem_cons.mp hf with h | h
  · cases h
  · obtain ⟨m, hm1, e⟩ := List.mem_map.mp h
    cases e; exact hm1
theorem lost_len {kept goal : PSet} {marks bars : Tab} {rs : Rows} (F : FenOk marks) : (lLostM kept marks goal bars rs).length ≤ 540 := by
  rw [lost_eq]
  have hlf : (fencesM marks).length ≤ 4 := by
    show (none :: (gatesM marks).map some).length ≤ 4
    rw [List.length_cons, List.length_map, gatesM, sortS_len, List.length_cons, List.length_map]
    have := F.two
    omega
  have lenA : ∀ a, (lostA (lLost1 kept marks goal bars rs) (fencesM marks) a).length ≤ 108 := fun a => Nat.le_trans (flat_len (fun f => lostB_len) _) (by omega)
  refine Nat.le_trans (flat_len lenA kinds5) (by decide)
theorem side_strOk {names : List Str} {n s : Str} (hN : ∀ x ∈ names, PyData.strOk x = true) (h : SideOk names n s) : PyData.strOk n = true ∧ PyData.strOk s = true := by
  rcases h with ⟨rfl, h1, _⟩ | ⟨hk, rfl | rfl⟩
  · exact ⟨hN n h1, by decide +kernel⟩
  · exact ⟨kinds_ok n hk, by decide +kernel⟩
  · exact ⟨kinds_ok n hk, by decide +kernel⟩
theorem cure_iok {kept goal : PSet} {marks bars : Tab} {rs : Rows} (R : RecOk kept goal marks bars rs) {t : Trip} (ht : TripOk marks t) : ∀ i ∈ cureM rs bars t, iOk i := fun i hi => by
  obtain ⟨s, hs, h⟩ := List.mem_flatMap.mp hi
  obtain ⟨f, hf, rfl⟩ := List.mem_map.mp h
  have h1 := side_strOk (namesM_ok R.fm).ok.1 (spots_side R.fm ht s hs)
  exact ⟨h1.1, h1.2, (gatesM_ok R.fb).ok.1 f (List.mem_filter.mp hf).1⟩
theorem gates_three {bars : Tab} (F : FenOk bars) : (gatesM bars).length ≤ 3 := by
  rw [gatesM, sortS_len, List.length_cons, List.length_map]
  have := F.two
  omega
theorem cure_len {rs : Rows} {bars : Tab} (F : FenOk bars) (t : Trip) : (cureM rs bars t).length ≤ 9 := by
  have h1 := flat_len (f := fun s : Pair => (ableP rs bars t).map fun f => ((s.1, s.2, f) : Item)) (n := 3) (fun s => by
    rw [List.length_map]
    exact Nat.le_trans (List.length_filter_le _ _) (gates_three F)) (spotsM t)
  have := spots_len t
  show ((spotsM t).flatMap _).length ≤ 9
  omega
structure LvOk (i : Nat) (lv : List (List Item)) : Prop where
  len : lv.length ≤ 9 ^ i
  el : ∀ c ∈ lv, c.length = i ∧ ∀ j ∈ c, iOk j
theorem unmet_mem {needs : List (List Item)} {c n : List Item} (h : unmetM needs c = some n) : n ∈ needs := List.mem_of_find?_eq_some h
theorem stepF_len {needs : List (List Item)} (hl : ∀ n ∈ needs, n.length ≤ 9) (c : List Item) : (stepF needs c).length ≤ 9 := by
  unfold stepF
  rw [List.length_map]
  cases q : unmetM needs c with
  | none => exact Nat.zero_le _
  | some n => exact hl n (unmet_mem q)
theorem LvOk.next {needs : List (List Item)} (hl : ∀ n ∈ needs, n.length ≤ 9) (hi : ∀ n ∈ needs, ∀ i ∈ n, iOk i) {i : Nat} {lv : List (List Item)} (L : LvOk i lv) : LvOk (i + 1) (ascC (longerM needs lv)) where
  len := by
    have h1 := flat_len (stepF_len hl) lv
    have h2 := L.len
    refine Nat.le_trans (ascC_len _) (Nat.le_trans h1 ?_)
    rw [Nat.pow_succ, Nat.mul_comm]
    exact Nat.mul_le_mul_right 9 h2
  el := fun c hc => by
    obtain ⟨b, hb, h⟩ := List.mem_flatMap.mp (ascC_mem.mp hc)
    obtain ⟨x, hx, rfl⟩ := List.mem_map.mp h
    obtain ⟨h1, h2⟩ := L.el b hb
    refine ⟨by rw [(sortI_perm _).length_eq, List.length_append, h1]; rfl, fun j hj => ?_⟩
    rcases List.mem_append.mp ((sortI_perm _).mem_iff.mp hj) with hj | hj
    · exact h2 j hj
    · rw [List.mem_singleton.mp hj]
      cases q : unmetM needs b with
      | none => rw [q] at hx; cases hx
      | some n => rw [q] at hx; exact hi n (unmet_mem q) x hx
theorem pl_eC (c : List Item) : (eC c).pl = true := by
  show pls (c.map eI) = true
  exact pls_mapG (fun i => rfl) c
theorem pls_eC (L : List (List Item)) : pls (L.map eC) = true := pls_mapG pl_eC L
theorem eT_inj : ∀ a b : Trip, eT a = eT b → a = b := by
  rintro ⟨a, f, b⟩ ⟨a', f', b'⟩ h
  have h1 := D.tup.inj h
  simp only [List.cons.injEq, and_true] at h1
  obtain ⟨h1, h2, h3⟩ := h1
  have e1 := D.str.inj h1
  have e3 := D.str.inj h3
  have e2 : f = f' := by
    cases f <;> cases f'
    · rfl
    · cases h2
    · cases h2
    · exact congrArg some (D.str.inj h2)
  rw [e1, e2, e3]
section
variable {P : Program} {w : World} {K : PySem.W.Frag} {mg : Str → Option Value} {bs : Heap} {X : Cx} {E : En}
def G_fewest (K : PySem.W.Frag) : List D → Rs → Prop := fun ds r => ∃ (kept goal : PSet) (marks bars : Tab) (rs : Rows) (m : Nat), ds = [oRec K kept goal marks bars rs, .int (m : Int)] ∧ RecOk kept goal marks bars rs ∧ m ≤ 2 ∧ r = .nL ((fewestM ((lLostM kept marks goal bars rs).map (cureM rs bars)) m).map eC)
theorem fewest_walk (T : Hd K mg) (c : Cc) {kept goal : PSet} {marks bars : Tab} {rs : Rows} {m : Nat} (hr : Room 5 (Cc.cx P w K mg bs N_fewest "fewest" s_fewest c).A) (R : RecOk kept goal marks bars rs) (hm : m ≤ 2) :
    HasSs (Cc.cx P w K mg bs N_fewest "fewest" s_fewest c) (args [oRec K kept goal marks bars rs, .int (m : Int)] (N_fewest.length - 2)) (defBody s_fewest)
      ⟨fun _ => Rs.nL ((fewestM ((lLostM kept marks goal bars rs).map (cureM rs bars)) m).map eC) = .val .non, (Rs.nL ((fewestM ((lLostM kept marks goal bars rs).map (cureM rs bars)) m).map eC)).ok, fun _ => False, fun _ => False⟩ := by
  have hu := ru1 hr
  let L := lLostM kept marks goal bars rs
  let needs := L.map (cureM rs bars)
  have tok : ∀ t ∈ L, TripOk marks t := fun t ht => lost_trip ht
  have nl : ∀ n ∈ needs, n.length ≤ 9 := fun n hn => by
    obtain ⟨t, _, rfl⟩ := List.mem_map.mp hn
    exact cure_len R.fb t
  have ni : ∀ n ∈ needs, ∀ i ∈ n, iOk i := fun n hn => by
    obtain ⟨t, ht, rfl⟩ := List.mem_map.mp hn
    exact cure_iok R (tok t ht)
  have nl2 : ∀ n ∈ needs, n.length ≤ 1000 := fun n hn => Nat.le_trans (nl n hn) (by decide)
  refine q_when (k := false) (t_not (k := true) (t_val (d_is (h_call (kn_is_whole T) (hr.mono (by decide)) (ha_cons (h_var 1) (a2 h_int h_int)) ⟨_, _, _, rfl, rfl⟩) (by
    rw [decide_eq_true (show (0 : Int) ≤ (m : Int) by omega), decide_eq_true (show (m : Int) ≤ 2 by omega)]; rfl)))) (fun h => nomatch h) fun _ => ?_
  refine q_asg 2 sc_fewest.nd (r := .val (.lst (needs.map eNd))) (d_is (h_settle (h_lcM eT (fun t => eNd (cureM rs bars t)) (fun _ => true) (L := L) 9 eT_inj sc_fewest.nd
    (k_list (h_settle (h_call (kn_lost T) (hr.mono (by decide)) (a1 (h_var 0)) ⟨kept, goal, marks, bars, rs, rfl, R, rfl⟩))) (Nat.le_trans (lost_len R.fm) (by decide))
    (fun j t ht b => ⟨ts_nil, fun _ => h_settle (h_call (kn_cures T) (hr.mono (by decide)) (a2 (h_var 0) (h_var 9)) ⟨kept, goal, marks, bars, rs, t, rfl, R, tok t (mem_of_get ht), rfl⟩)⟩))) (by
      rw [List.filter_eq_self.mpr (fun _ _ => rfl)]
      show D.lst (L.map fun t => eNd (cureM rs bars t)) = D.lst ((L.map (cureM rs bars)).map eNd)
      rw [List.map_map]; rfl)) ?_
  rintro _ rfl
  refine q_asg 3 sc_fewest.nd (r := .val (.lst (([[]] : List (List Item)).map eC))) (h_settle (h_lst (a1 (h_tup ha_nil)))) ?_
  rintro _ rfl
  let rc := oRec K kept goal marks bars rs
  have hn1 : ((m : Int) + 1).toNat = m + 1 := by omega
  refine q_for (fun i E' => ∃ lv o4 o5 o6 o7 o8, E' = [some (.val rc), some (.val (.int (m : Int))), some (.val (.lst (needs.map eNd))), some (.val (.lst (lv.map eC))), o4, o5, o6, o7, o8, none] ∧ NoOwn o5 ∧ NoOwn o6 ∧ LvOk i lv ∧ fewLoop needs (m + 1 - i) lv = fewestM needs m)
    (fun E' => fewestM needs m = [])
    (k_range (n := (m : Int) + 1) T.n_range (h_op o_add (h_var 1) h_int) (by omega) (by omega)) (g_name 4 sc_fewest.nd) ⟨[[]], _, _, _, _, _, rfl, .inl rfl, .inl rfl, ⟨Nat.le_refl _, fun c hc => by rw [List.mem_singleton.mp hc]; exact ⟨rfl, fun j hj => by cases hj⟩⟩, rfl⟩ ?_ ?_ ?_
  · rintro i d E' hd ⟨lv, o4, o5, o6, o7, o8, rfl, n5, n6, LV, hfew⟩
    obtain ⟨hi, rfl⟩ := nums_get hd
    rw [hn1] at hi
    have h9 : lv.length ≤ 81 := by
      have := LV.len
      match i, hi, hm with
      | 0, _, _ => exact Nat.le_trans this (by decide)
      | 1, _, _ => exact Nat.le_trans this (by decide)
      | 2, _, _ => exact Nat.le_trans this (by decide)
      | i + 3, _, _ => omega
    rw [show m + 1 - i = (m - i) + 1 by omega] at hfew
    refine ⟨_, ⟨Nat.le_of_ble_eq_true rfl, rfl⟩, ?_⟩
    have own0 : ∀ {o : Option Sl}, NoOwn o → NoOwn (o.map fun s => Sl.val s.frz) := fun h => by
      rcases h with rfl | ⟨d, rfl⟩
      · exact .inl rfl
      · exact .inr ⟨_, rfl⟩
    refine s_cons (M := fun E' => ∃ l5, E' = [some (.val rc), some (.val (.int (m : Int))), some (.val (.lst (needs.map eNd))), some (.val (.lst (lv.map eC))), some (.val (.int i)), some (.oL l5 ((enoughM needs lv).map eC)), o6, o7, o8, none])
      (h_setLcL eC eC (fun c => (unmetM needs c).isNone) (L := lv) 5 7 (fun _ _ => eC_inj) sc_fewest.nd (k_list (h_var 3)) (Nat.le_trans h9 (by decide))
        (fun j ch hch b => ⟨ts_one (t_is (t_cmp c_isN (h_call (kn_unmet T) (hr.mono (by decide)) (a2 (h_var 2) (h_var 7)) ⟨needs, ch, rfl, ni, nl2, (LV.el ch (mem_of_get hch)).2, rfl⟩) h_non) (by cases unmetM needs ch <;> rfl)), fun _ => h_var 7⟩) (pls_eC _) (fun l => ⟨l, rfl⟩)) ?_
    rintro _ ⟨l5, rfl⟩
    refine q_settle 5 ?_
    have len5 : (enoughM needs lv).length ≤ 81 := Nat.le_trans (List.length_filter_le _ _) h9
    refine q_when (k := decide ((enoughM needs lv).length > 0)) (t_is (t_cmp c_gt (h_callB f_lenL T.n_len PySem.boot_len (a1 (h_var 5))) h_int) (by rw [List.length_map]; exact decide_eq_decide.mpr (by omega))) (fun h => s_one (h_ret (h_call (kn_ascending T) (hr.mono (by decide)) (a1 (h_var 5)) ⟨(enoughM needs lv).map eC, (ascC (enoughM needs lv)).map eC, rfl, ascOk_eC (fun ch hch => (LV.el ch (List.mem_filter.mp hch).1).2) (Nat.le_trans len5 (by decide)) ?_, rfl⟩) ?_)) fun h => ?_
    · cases i with
      | zero => exact .inr fun ch hch => List.length_eq_zero_iff.mp (LV.el ch (List.mem_filter.mp hch).1).1
      | succ i =>
        refine .inl fun ch hch e => ?_
        have := (LV.el ch (List.mem_filter.mp hch).1).1
        rw [e] at this
        cases this
    · intro s hs
      show Rs.ok (.nL ((fewestM needs m).map eC)) s
      rw [← hfew, fewLoop, if_pos (of_decide_eq_true h)]; exact hs
    have h0 : ¬ (enoughM needs lv).length > 0 := of_decide_eq_false h
    have some_ : ∀ ch ∈ lv, ∃ n, unmetM needs ch = some n := fun ch hch => by
      cases q : unmetM needs ch with
      | some n => exact ⟨n, rfl⟩
      | none => exact absurd (List.length_pos_of_mem (List.mem_filter.mpr ⟨hch, by rw [q]; rfl⟩)) h0
    rw [fewLoop, if_neg h0] at hfew
    refine q_asg 6 sc_fewest.nd (h_lst ha_nil) ?_
    rintro _ ⟨l6, rfl⟩
    have lenS : ∀ {l : List (List Item)}, l.length ≤ 81 → (l.flatMap (stepF needs)).length ≤ 729 := fun h => Nat.le_trans (flat_len (stepF_len nl) _) (by omega)
    have ev := (enoughM needs lv).map eC
    refine q_for (N := ⟨_, _, _, _⟩) (fun j E' => ∃ o7 o8, E' = [some (.val rc), some (.val (.int (m : Int))), some (.val (.lst (needs.map eNd))), some (.val (.lst (lv.map eC))), some (.val (.int i)), some (.val (.lst ((enoughM needs lv).map eC))), some (.oL l6 (((lv.take j).flatMap (stepF needs)).map eC)), o7, o8, none])
      (fun E' => ∃ o7 o8, E' = [some (.val rc), some (.val (.int (m : Int))), some (.val (.lst (needs.map eNd))), some (.val (.lst (lv.map eC))), some (.val (.int i)), some (.val (.lst ((enoughM needs lv).map eC))), some (.oL l6 ((longerM needs lv).map eC)), o7, o8, none])
      (k_list (h_var 3)) (g_name 7 sc_fewest.nd) ⟨_, _, rfl⟩ ?_ ?_ ?_
    · rintro j d E' hd ⟨o7, o8, rfl⟩
      obtain ⟨ch, hch, rfl⟩ := map_get hd
      have hcm := mem_of_get hch
      obtain ⟨n, hn⟩ := some_ ch hcm
      obtain ⟨clen, cok⟩ := LV.el ch hcm
      have nn := nl n (unmet_mem hn)
      refine ⟨_, ⟨Nat.le_of_ble_eq_true rfl, rfl⟩, ?_⟩
      have l1 : ((lv.take j).flatMap (stepF needs)).length ≤ 729 := lenS (Nat.le_trans (take_len_le _ _) h9)
      have ec : stepF needs ch = n.map fun i => sortI (ch ++ [i]) := by unfold stepF; rw [hn]; rfl
      refine s_one (h_for (fun k E' => ∃ o8, E' = [some (.val rc), some (.val (.int (m : Int))), some (.val (.lst (needs.map eNd))), some (.val (.lst (lv.map eC))), some (.val (.int i)), some (.val (.lst ((enoughM needs lv).map eC))), some (.oL l6 (((lv.take j).flatMap (stepF needs) ++ (n.take k).map fun i => sortI (ch ++ [i])).map eC)), some (.val (eC ch)), o8, none])
        (k_list (ds := n.map eI) (d_is (h_call (kn_unmet T) (hr.mono (by decide)) (a2 (h_var 2) (h_var 7)) ⟨needs, ch, rfl, ni, nl2, cok, rfl⟩) (by rw [hn]; rfl))) (g_name 8 sc_fewest.nd) ⟨_, by rw [List.take_zero, List.map_nil, List.append_nil]; rfl⟩ ?_ ?_)
      · rintro k d E' hd ⟨o8, rfl⟩
        obtain ⟨x, hx, rfl⟩ := map_get hd
        have hxm := mem_of_get hx
        refine ⟨_, ⟨Nat.le_of_ble_eq_true rfl, rfl⟩, ?_⟩
        have xok : ∀ y ∈ ch ++ [x], iOk y := fun y hy => by
          rcases List.mem_append.mp hy with hy | hy
          · exact cok y hy
          · rw [List.mem_singleton.mp hy]; exact ni n (unmet_mem hn) x hxm
        have tkl := take_len_le n k
        refine s_one (h_appM (L := (lv.take j).flatMap (stepF needs) ++ (n.take k).map fun i => sortI (ch ++ [i])) eC 6 (sortI (ch ++ [x])) _ rfl
          (h_callT f_tupleL T.n_tuple PyProof.Rows.boot_tuple (a1 (h_settle (h_callB (f_sortedI (L := ch ++ [x]) (ru64 hr) xok (by rw [List.length_append]; show _ + 1 ≤ 1000; omega)) T.n_sorted PyProof.Rows.boot_sorted
            (a1 (d_is (h_settle (h_op (o_cat (ds := ch.map eI) (es := [eI x]) (by rw [List.length_map]; show _ + 1 ≤ 1000; omega)) (h_settle (h_callT f_listT T.n_list PyProof.Rows.boot_list (a1 (h_var 7)))) (h_settle (h_lst (a1 (h_var 8)))))) (by rw [List.map_append]; rfl)))))))
          (by rw [List.length_append, List.length_map]; omega) ⟨some (.val (eI x)), ?_⟩)
        rw [tkm hx, ← List.append_assoc]; rfl
      · rintro E' ⟨o8, rfl⟩
        refine ⟨some (.val (eC ch)), o8, ?_⟩
        rw [List.length_map, List.take_length, tkf hch, ec]
    · rintro E' ⟨o7, o8, rfl⟩
      refine ⟨o7, o8, ?_⟩
      rw [List.length_map, List.take_length]; rfl
    · rintro _ ⟨o7, o8, rfl⟩
      refine q_settle 6 ?_
      have LN := LV.next nl ni
      refine s_one (h_asg (i := 3) sc_fewest.nd (r := .val (.lst ((ascC (longerM needs lv)).map eC))) (h_settle (h_call (kn_ascending T) (hr.mono (by decide)) (a1 (h_var 6)) ⟨(longerM needs lv).map eC, (ascC (longerM needs lv)).map eC, rfl, ascOk_eC (fun ch hch => ?_) (Nat.le_trans (lenS h9) (by decide)) (.inl fun ch hch e => ?_), rfl⟩)) ?_)
      · exact (LN.el ch (ascC_mem.mpr hch)).2
      · have := (LN.el ch (ascC_mem.mpr hch)).1
        rw [e] at this
        cases this
      · rintro _ rfl
        refine ⟨ascC (longerM needs lv), _, _, _, _, _, rfl, .inr ⟨_, rfl⟩, .inr ⟨_, rfl⟩, LN, ?_⟩
        rw [show m + 1 - (i + 1) = m - i by omega]
        exact hfew
  · rintro E' ⟨lv, o4, o5, o6, o7, o8, rfl, n5, n6, LV, hfew⟩
    rw [show (nums ((m : Int) + 1).toNat).length = m + 1 by unfold nums; rw [List.length_map, List.length_range, hn1], Nat.sub_self] at hfew
    exact hfew.symm
  · intro E' he
    refine s_one (h_ret (h_lst ha_nil) ?_)
    intro s hs
    show Rs.ok (.nL ((fewestM needs m).map eC)) s
    rw [he]; exact hs
theorem kn_fewest (T : Hd K mg) : Kn P w K mg bs CX0 6 "fewest" ["recipe", "most"] (spG K (G_fewest K)) := by
  refine k_fewest T ?_ ?_
  · rintro ds r ⟨_, _, _, _, _, _, rfl, _⟩; rfl
  · rintro c ds r hr ⟨kept, goal, marks, bars, rs, m, rfl, R, hm, rfl⟩
    exact fewest_walk T c hr R hm
end
end K39
/-! KP12 -/
set_option maxHeartbeats 4000000
/-! ## added -/
namespace K39
open PySem PySem.Spec PyProof.Rows L2
def Nrm (rs : Rows) : Prop := ∀ n x, rs.lookup n = some x → normalM x = x
theorem ascS_idem (l : List Str) : ascS (ascS l) = ascS l := ascS_of (ascS_ord l) (ascS_nodup l)
theorem normal_idem : ∀ x : Row, normalM (normalM x) = normalM x
  | .pl f => by
    show Row.pl (ascS (ascS f)) = Row.pl (ascS f)
    rw [ascS_idem]
  | .ac a k b => by
    show Row.ac (ascS (ascS a)) k (ascS (ascS b)) = Row.ac (ascS a) k (ascS b)
    rw [ascS_idem, ascS_idem]
theorem nrm_pl {f : List Str} (h : normalM (.pl f) = .pl f) : f.Nodup := by
  have e : ascS f = f := by
    unfold normalM at h
    exact Row.pl.inj h
  rw [← e]; exact ascS_nodup f
theorem nrm_ac {a b : List Str} {k : Str} (h : normalM (.ac a k b) = .ac a k b) : a.Nodup ∧ b.Nodup := by
  have e : ascS a = a ∧ ascS b = b := by
    unfold normalM at h
    have := Row.ac.inj h
    exact ⟨this.1, this.2.2⟩
  exact ⟨by rw [← e.1]; exact ascS_nodup a, by rw [← e.2]; exact ascS_nodup b⟩
theorem small_of {names gates : List Str} {rs : Rows} (R : RowsOk names gates rs) (N : Nrm rs) (hg : gates.length ≤ 50) : Small rs := fun n x h => by
  have hin := (R.row n x h).2.1
  have hn := N n x h
  cases x with
  | pl f => exact Nat.le_trans (nodup_le (nrm_pl hn) hin) hg
  | ac a k b => exact ⟨Nat.le_trans (nodup_le (nrm_ac hn).1 hin.1) hg, Nat.le_trans (nodup_le (nrm_ac hn).2 hin.2) hg⟩
structure ItemOk' (names gates : List Str) (i : Item) : Prop where
  side : SideOk names i.1 i.2.1
  fe : i.2.2 ∈ gates
/-- the row with a fence more -/
theorem add_fit {names gates : List Str} {rs : Rows} (R : RowsOk names gates rs) (S : Small rs) (hg : ∀ g ∈ gates, PyData.strOk g = true) {i : Item} (h : ItemOk' names gates i) :
    i.1 ∈ names ∧ (addTo (rowOf rs i.1) i.2.1 i.2.2).ok ∧ RowIn gates (addTo (rowOf rs i.1) i.2.1 i.2.2) ∧ RowAt i.1 (addTo (rowOf rs i.1) i.2.1 i.2.2) := by
  obtain ⟨n, s, f⟩ := i
  have hs := h.side
  have hf : f ∈ gates := h.fe
  have fok := hg f hf
  have okf : ∀ {g : List Str}, Okl g → g.length ≤ 50 → Okl (g ++ [f]) := fun h h2 => ⟨fun x hx => by
    rcases List.mem_append.mp hx with hx | hx
    · exact h.1 x hx
    · rw [List.mem_singleton.mp hx]; exact fok, by rw [List.length_append]; show _ + 1 ≤ 100; omega⟩
  have inf : ∀ {g : List Str}, (∀ x ∈ g, x ∈ gates) → ∀ x ∈ g ++ [f], x ∈ gates := fun h x hx => by
    rcases List.mem_append.mp hx with hx | hx
    · exact h x hx
    · rw [List.mem_singleton.mp hx]; exact hf
  rcases hs with ⟨e, h1, h2⟩ | ⟨hk, e⟩
  · have e : s = "row" := e
    subst e
    obtain ⟨x, lx, e1, e2, e3, e4, e5⟩ := R.at h1
    rcases e5 with ⟨q, _⟩ | ⟨_, g, rfl⟩
    · exact absurd q h2
    show n ∈ names ∧ (addTo (rowOf rs n) "row" f).ok ∧ RowIn gates (addTo (rowOf rs n) "row" f) ∧ RowAt n (addTo (rowOf rs n) "row" f)
    rw [e1]
    exact ⟨h1, okf e3 (S n _ lx), inf e4, .inr ⟨h2, _, rfl⟩⟩
  · obtain ⟨x, lx, e1, e2, e3, e4, e5⟩ := R.at (R.kin n hk)
    rcases e5 with ⟨_, a, k, b, rfl, hgk⟩ | ⟨q, _⟩
    rotate_left
    · exact absurd hk q
    have sm := S n _ lx
    show n ∈ names ∧ (addTo (rowOf rs n) s f).ok ∧ RowIn gates (addTo (rowOf rs n) s f) ∧ RowAt n (addTo (rowOf rs n) s f)
    rw [e1]
    unfold addTo
    show n ∈ names ∧ (if s = "ahead" then Row.ac (a ++ [f]) k b else Row.ac a k (b ++ [f])).ok ∧ RowIn gates (if s = "ahead" then Row.ac (a ++ [f]) k b else Row.ac a k (b ++ [f])) ∧ RowAt n (if s = "ahead" then Row.ac (a ++ [f]) k b else Row.ac a k (b ++ [f]))
    by_cases q : s = "ahead"
    · rw [if_pos q]
      exact ⟨R.kin n hk, ⟨okf e3.1 sm.1, e3.2⟩, ⟨inf e4.1, e4.2⟩, .inl ⟨hk, _, _, _, rfl, hgk⟩⟩
    · rw [if_neg q]
      exact ⟨R.kin n hk, ⟨e3.1, e3.2.1, okf e3.2.2 sm.2⟩, ⟨e4.1, inf e4.2⟩, .inl ⟨hk, _, _, _, rfl, hgk⟩⟩
theorem put_look {rs : Rows} {n m : Str} {x : Row} (h : n ∈ rs.map (·.1)) : (rput rs n x).lookup m = if m = n then some x else rs.lookup m := by
  by_cases e : m = n
  · rw [if_pos e, e, rput_eq h]
  · rw [if_neg e, rput_ne e]
theorem Nrm.put {rs : Rows} (N : Nrm rs) {n : Str} {x : Row} (h : n ∈ rs.map (·.1)) (hx : normalM x = x) : Nrm (rput rs n x) := fun m y q => by
  rw [put_look h] at q
  split at q
  · cases q; exact hx
  · exact N m y q
theorem put_ok {names gates : List Str} {rs : Rows} (R : RowsOk names gates rs) (N : Nrm rs) (S : Small rs) (hg : ∀ g ∈ gates, PyData.strOk g = true) {i : Item} (h : ItemOk' names gates i) : RowsOk names gates (putM rs i) ∧ Nrm (putM rs i) := by
  obtain ⟨h1, h2, h3, h4⟩ := add_fit R S hg h
  have nf := normal_fit ⟨h2, h3, h4⟩
  exact ⟨R.put nf.1 nf.2.1 nf.2.2, N.put (by rw [R.keys]; exact h1) (normal_idem _)⟩
theorem RecOk.nrm' {kept goal : PSet} {marks bars : Tab} {rs : Rows} (R : RecOk kept goal marks bars rs) : Nrm rs := R.nrm
theorem RecOk.small {kept goal : PSet} {marks bars : Tab} {rs : Rows} (R : RecOk kept goal marks bars rs) : Small rs := small_of R.rows R.nrm (Nat.le_trans (gates_three R.fb) (by decide))
theorem RecOk.put {kept goal : PSet} {marks bars : Tab} {rs : Rows} (R : RecOk kept goal marks bars rs) {i : Item} (h : ItemOk' (namesM marks) (gatesM bars) i) : RecOk kept goal marks bars (putM rs i) := by
  have := put_ok R.rows R.nrm R.small (gatesM_ok R.fb).ok.1 h
  exact ⟨R.fm, R.fb, R.hk, R.hg, this.1, this.2⟩
theorem RecOk.puts {kept goal : PSet} {marks bars : Tab} : ∀ (l : List Item) {rs : Rows}, RecOk kept goal marks bars rs → (∀ i ∈ l, ItemOk' (namesM marks) (gatesM bars) i) → RecOk kept goal marks bars (l.foldl putM rs)
  | [], _, R, _ => R
  | i :: l, _, R, h => RecOk.puts l (R.put (h i (List.mem_cons_self ..))) fun j hj => h j (List.mem_cons_of_mem _ hj)
theorem rows_ext : ∀ {r s : Rows}, r.map (·.1) = s.map (·.1) → (r.map (·.1)).Nodup → (∀ n ∈ r.map (·.1), r.lookup n = s.lookup n) → r = s
  | [], [], _, _, _ => rfl
  | [], _ :: _, h, _, _ => by cases h
  | _ :: _, [], h, _, _ => by cases h
  | (n, x) :: r, (m, y) :: s, h, hn, hl => by
    rw [List.map_cons, List.map_cons] at h
    obtain ⟨e1, e2⟩ := List.cons.inj h
    have e1 : n = m := e1
    subst e1
    rw [List.map_cons, List.nodup_cons] at hn
    have e3 : some x = some y := by
      have := hl n (List.mem_cons_self ..)
      rwa [List.lookup_cons, List.lookup_cons, beq_self_eq_true] at this
    cases e3
    congr 1
    refine rows_ext e2 hn.2 fun k hk => ?_
    have ne : (k == n) = false := by
      have : k ≠ n := fun e => hn.1 (e ▸ hk)
      simpa using this
    have := hl k (List.mem_cons_of_mem _ hk)
    rwa [List.lookup_cons, List.lookup_cons, ne] at this
/-- the rows laid over others, name by name -/
def overM (rs : Rows) (names : List Str) (r0 : Rows) : Rows := names.foldl (fun r n => rput r n (rowOf rs n)) r0
theorem over_keys (rs : Rows) : ∀ (l : List Str) (r0 : Rows), (overM rs l r0).map (·.1) = r0.map (·.1)
  | [], _ => rfl
  | n :: l, r0 => (over_keys rs l (rput r0 n (rowOf rs n))).trans (rput_keys ..)
theorem over_look (rs : Rows) : ∀ (l : List Str) (r0 : Rows) {m : Str}, m ∈ r0.map (·.1) → (∀ n ∈ l, n ∈ r0.map (·.1)) → (overM rs l r0).lookup m = if m ∈ l then some (rowOf rs m) else r0.lookup m
  | [], r0, m, _, _ => by rw [if_neg (by simp)]; rfl
  | n :: l, r0, m, hm, h => by
    have k := rput_keys n (rowOf rs n) r0
    show (overM rs l (rput r0 n (rowOf rs n))).lookup m = _
    rw [over_look rs l _ (by rw [k]; exact hm) (fun x hx => by rw [k]; exact h x (List.mem_cons_of_mem _ hx)), put_look (h n (List.mem_cons_self ..))]
    by_cases e : m ∈ l
    · rw [if_pos e, if_pos (List.mem_cons_of_mem _ e)]
    · rw [if_neg e]
      by_cases e2 : m = n
      · rw [if_pos e2, if_pos (by rw [e2]; exact List.mem_cons_self ..), e2]
      · rw [if_neg e2, if_neg (fun q => (List.mem_cons.mp q).elim e2 e)]
theorem over_all {names gates : List Str} {rs r0 : Rows} (R : RowsOk names gates rs) (R0 : r0.map (·.1) = names) : overM rs names r0 = rs := by
  refine rows_ext ((over_keys ..).trans (R0.trans R.keys.symm)) (by rw [over_keys, R0]; exact R.nd) fun n hn => ?_
  rw [over_keys] at hn
  rw [over_look rs names r0 hn (fun x hx => by rw [R0]; exact hx), if_pos (by rw [← R0]; exact hn)]
  obtain ⟨x, lx, e1, _⟩ := R.at (by rw [← R0]; exact hn)
  rw [e1, lx]
theorem over_ok {names gates : List Str} {rs : Rows} (R : RowsOk names gates rs) : ∀ (l : List Str) {r0 : Rows}, RowsOk names gates r0 → (∀ n ∈ l, n ∈ names) → RowsOk names gates (overM rs l r0)
  | [], _, R0, _ => R0
  | n :: l, r0, R0, h => by
    obtain ⟨x, lx, e1, e2, e3, e4, e5⟩ := R.at (h n (List.mem_cons_self ..))
    refine over_ok R l (R0.put (n := n) ?_ ?_ ?_) fun y hy => h y (List.mem_cons_of_mem _ hy)
    · rw [e1]; exact e3
    · rw [e1]; exact e4
    · rw [e1]; exact e5
theorem over_take {rs r0 : Rows} {names : List Str} {i : Nat} {n : Str} (h : names[i]? = some n) : overM rs (names.take (i + 1)) r0 = rput (overM rs (names.take i) r0) n (rowOf rs n) := by
  unfold overM
  rw [tk h, List.foldl_append]; rfl
end K39
/-! KP13 -/
set_option maxHeartbeats 4000000
/-! ## added: the walk -/
namespace K39
open PySem PySem.Spec PyProof.Rows L2
theorem spots_all {marks : Tab} {n s : Str} (h : SideOk (namesM marks) n s) (F : FenOk marks) : ((n, s) : Pair) ∈ allSpotsM (namesM marks) := by
  have aux : n ∈ namesM marks ∧ s ∈ sidesM n := by
    unfold sidesM
    rcases h with ⟨rfl, h1, h2⟩ | ⟨hk, h⟩
    · exact ⟨h1, by rw [if_neg h2]; exact List.mem_singleton.mpr rfl⟩
    · refine ⟨(namesM_ok F).kin n hk, ?_⟩
      rw [if_pos hk]
      rcases h with rfl | rfl <;> simp
  exact List.mem_flatMap.mpr ⟨n, aux.1, List.mem_map.mpr ⟨s, aux.2, rfl⟩⟩
theorem all_strOk {marks : Tab} (F : FenOk marks) : ∀ p ∈ allSpotsM (namesM marks), PyData.strOk p.1 = true ∧ PyData.strOk p.2 = true := fun p hp => by
  obtain ⟨n, hn, h⟩ := List.mem_flatMap.mp hp
  obtain ⟨s, hs, rfl⟩ := List.mem_map.mp h
  refine ⟨(namesM_ok F).ok.1 n hn, ?_⟩
  have : s = "row" ∨ s = "ahead" ∨ s = "behind" := by
    unfold sidesM at hs
    split at hs
    · rcases List.mem_cons.mp hs with rfl | hs
      · exact .inr (.inl rfl)
      · rw [List.mem_singleton.mp hs]; exact .inr (.inr rfl)
    · rw [List.mem_singleton.mp hs]; exact .inl rfl
  show PyData.strOk s = true
  rcases this with rfl | rfl | rfl <;> decide +kernel
theorem all_len {marks : Tab} (F : FenOk marks) : (allSpotsM (namesM marks)).length ≤ 200 := by
  have h1 := flat_len (f := fun n => (sidesM n).map fun s => ((n, s) : Pair)) (n := 2) (fun n => by rw [List.length_map]; exact sides_len n) (namesM marks)
  have h2 := (namesM_ok F).ok.2
  show ((namesM marks).flatMap _).length ≤ 200
  omega
section
variable {P : Program} {w : World} {K : PySem.W.Frag} {mg : Str → Option Value} {bs : Heap} {X : Cx} {E : En}
def G_added (K : PySem.W.Frag) : List D → Rs → Prop := fun ds r => ∃ (kept goal : PSet) (marks bars : Tab) (rs : Rows) (ch : List Item), ds = [oRec K kept goal marks bars rs, eNd ch] ∧ RecOk kept goal marks bars rs ∧ (∀ i ∈ ch, ItemOk' (namesM marks) (gatesM bars) i) ∧ r = .val (oRec K kept goal marks bars (ch.foldl putM rs))
theorem kn_added (T : Hd K mg) : Kn P w K mg bs CX0 5 "added" ["recipe", "chosen"] (spG K (G_added K)) := by
  refine k_added T ?_ ?_
  · rintro ds r ⟨_, _, _, _, _, _, rfl, _⟩; rfl
  · rintro c ds r hr ⟨kept, goal, marks, bars, rs, ch, rfl, R, hch, rfl⟩
    have hu := ru1 hr
    have N := namesM_ok R.fm
    have GK := gatesM_ok R.fb
    let rc := oRec K kept goal marks bars rs
    let src := oB K kept (fullT marks)
    let tgt := oB K goal (fullT bars)
    have iok : ∀ i ∈ ch, iOk i := fun i hi => by
      have := side_strOk N.ok.1 (hch i hi).side
      exact ⟨this.1, this.2, GK.ok.1 _ (hch i hi).fe⟩
    refine q_asg 2 sc_added.nd (r := .val (.lst ((allSpotsM (namesM marks)).map eP))) (h_settle (h_call (kn_all_spots T) (hr.mono (by decide)) (a1 (h_var 0)) ⟨kept, goal, marks, bars, rs, rfl, R, rfl⟩)) ?_
    rintro _ rfl
    refine q_for (fun i E' => ∃ o3 o4 o5, E' = [some (.val rc), some (.val (eNd ch)), some (.val (.lst ((allSpotsM (namesM marks)).map eP))), o3, o4, o5, none, none, none, none] ∧ NoOwn o3 ∧ NoOwn o4 ∧ NoOwn o5) (fun E' => ∃ o3 o4 o5, E' = [some (.val rc), some (.val (eNd ch)), some (.val (.lst ((allSpotsM (namesM marks)).map eP))), o3, o4, o5, none, none, none, none] ∧ NoOwn o3 ∧ NoOwn o4 ∧ NoOwn o5)
      (k_list (h_var 1)) (g_tup3 3 4 5 sc_added.nd) ⟨_, _, _, rfl, .inl rfl, .inl rfl, .inl rfl⟩ ?_ (fun _ h => h) ?_
    · rintro i d E' hd ⟨o3, o4, o5, rfl, _, _, _⟩
      obtain ⟨⟨n, s, f⟩, hx, rfl⟩ := map_get hd
      have hm := mem_of_get hx
      have ho := hch _ hm
      have hi := iok _ hm
      refine ⟨_, ⟨Nat.le_of_ble_eq_true rfl, Nat.le_of_ble_eq_true rfl, Nat.le_of_ble_eq_true rfl, _, _, _, rfl, rfl⟩, ?_⟩
      exact s_one (h_ifS (k := false) (t_w (w_or (k1 := false) (k2 := false) (t_cmp (c_ninL (n := 1) (m := 1) (d := eP (n, s)) (ds := (allSpotsM (namesM marks)).map eP) (ru65 hr) (sh_eP ⟨hi.1, hi.2.1⟩) (shs_all.mpr fun d hd => by
          obtain ⟨p, hp, rfl⟩ := List.mem_map.mp hd
          exact sh_eP (all_strOk R.fm p hp)) (by rw [eP_mem]; simp; exact spots_all ho.side R.fm)) (h_tup (a2 (h_var 3) (h_var 4))) (h_var 2)) fun _ =>
        w_or1 (t_is (t_cmp (c_ninLS (L := gatesM bars) (ru65 hr) hi.2.2 GK.ok.1) (h_var 5) (h_settle (h_meth0 (kn_fences T) (hr.mono (by decide)) (h_fld (h_var 0) rfl T.c_Recipe T.a_Recipe_target) rfl ⟨goal, fullT bars, rfl, by rw [gates_full R.fb]⟩))) (decide_eq_false fun h => h ho.fe)))) (fun h => nomatch h) fun _ => s_nil ⟨_, _, _, rfl, .inr ⟨_, rfl⟩, .inr ⟨_, rfl⟩, .inr ⟨_, rfl⟩⟩)
    rintro _ ⟨o3, o4, o5, rfl, n3, n4, n5⟩
    have hw : ∀ {o : Option Sl}, NoOwn o → ∀ {Z : En}, owns (o :: Z) = owns Z := fun h Z => by
      rcases h with rfl | ⟨d, rfl⟩ <;> rfl
    refine q_asg 6 sc_added.nd (h_Recipe T (hr.mono (by decide)) (h_fld (h_var 0) rfl T.c_Recipe T.a_Recipe_source) (h_fld (h_var 0) rfl T.c_Recipe T.a_Recipe_target) R.fm R.fb) ?_
    rintro _ ⟨y, g, rfl⟩
    let r0 := plainM (namesM marks) bars
    have R0 : RowsOk (namesM marks) (gatesM bars) r0 := plain_ok N GK (fun n hn => gatesM_mem.mpr (.inr hn))
    let sl := fun (r : Rows) => slR K y g src tgt (namesM marks) r
    have hset : ∀ {E : En} {N' : Po} {e e2 : Expr} {sp p pos : Pos} {r : Rows} {n : Str} {x : Row} (he : HasD (Cc.cx P w K mg bs N_added "added" s_added c) E e (eR x)) (hk : HasD (Cc.cx P w K mg bs N_added "added" s_added c) E e2 (.str n)) (hE : E[6]? = some (some (sl r)))
        (Rr : RowsOk (namesM marks) (gatesM bars) r) (h1 : n ∈ namesM marks) (h2 : x.ok) (h3 : RowIn (gatesM bars) x) (h4 : RowAt n x) (hn : N'.nx (E.set 6 (some (sl (rput r n (normalM x))))))
        (hs : swapsWith e (some (.Subscript (.Name "more" p) e2 sp)) pos.line (Cc.cx P w K mg bs N_added "added" s_added c).env = pure false),
        HasS (Cc.cx P w K mg bs N_added "added" s_added c) E (.Assign [.Subscript (.Name "more" p) e2 sp] e pos) N' :=
      fun he hk hE Rr h1 h2 h3 h4 hn hs => s_ownPut (s0 := sl _) (r := fun s1 => s1 = sl (rput _ _ (normalM _))) 6 (kn_setitem T) (hr.mono (by decide)) he hk rfl ⟨y, g, kept, goal, marks, bars, _, _, _, rfl, rfl, R.fb, Rr, h1, h2, h3, h4, rfl⟩ (fun s1 e => by rw [e]; exact hn) hE (hs := hs)
    refine q_for (fun i E' => ∃ o3 o4 o5, E' = [some (.val rc), some (.val (eNd ch)), some (.val (.lst ((allSpotsM (namesM marks)).map eP))), o3, o4, o5, some (sl (overM rs ((namesM marks).take i) r0)), none, none, none] ∧ NoOwn o3 ∧ NoOwn o4 ∧ NoOwn o5) (fun E' => ∃ o3 o4 o5, E' = [some (.val rc), some (.val (eNd ch)), some (.val (.lst ((allSpotsM (namesM marks)).map eP))), o3, o4, o5, some (sl rs), none, none, none] ∧ NoOwn o3 ∧ NoOwn o4 ∧ NoOwn o5)
      (k_own (it_Recipe T) (hr.mono (by decide)) (h_var 0) (ds := (namesM marks).map D.str) rfl) (g_name 3 sc_added.nd) ⟨_, _, _, rfl, n3, n4, n5⟩ ?_ ?_ ?_
    · rintro i d E' hd ⟨o3, o4, o5, rfl, n3, n4, n5⟩
      obtain ⟨n, hn, rfl⟩ := map_get hd
      have hm := mem_of_get hn
      obtain ⟨x, lx, e1, e2, e3, e4, e5⟩ := R.rows.at hm
      refine ⟨_, ⟨Nat.le_of_ble_eq_true rfl, rfl⟩, ?_⟩
      refine s_one (hset (x := rowOf rs n) (r := overM rs ((namesM marks).take i) r0) (h_row T (hr.mono (by decide)) R (h_var 0) (h_var 3) hm) (h_var 3) rfl (over_ok R.rows _ R0 (fun z hz => List.mem_of_mem_take hz)) hm (by rw [e1]; exact e3) (by rw [e1]; exact e4) (by rw [e1]; exact e5) ⟨some (.val (.str n)), o4, o5, ?_, .inr ⟨_, rfl⟩, n4, n5⟩ rfl)
      rw [over_take hn, e1, R.nrm n x lx]; rfl
    · rintro E' ⟨o3, o4, o5, rfl, n3, n4, n5⟩
      refine ⟨o3, o4, o5, ?_, n3, n4, n5⟩
      rw [List.length_map, List.take_length, over_all R.rows R0.keys]
    rintro _ ⟨o3, o4, o5, rfl, n3, n4, n5⟩
    let st := fun i => (ch.take i).foldl putM rs
    have Rst : ∀ i, RecOk kept goal marks bars (st i) := fun i => RecOk.puts _ R fun j hj => hch j (List.mem_of_mem_take hj)
    refine q_for (fun i E' => ∃ o3 o4 o5 o7 o8 o9, E' = [some (.val rc), some (.val (eNd ch)), some (.val (.lst ((allSpotsM (namesM marks)).map eP))), o3, o4, o5, some (sl (st i)), o7, o8, o9]) (fun E' => ∃ o3 o4 o5 o7 o8 o9, E' = [some (.val rc), some (.val (eNd ch)), some (.val (.lst ((allSpotsM (namesM marks)).map eP))), o3, o4, o5, some (sl (ch.foldl putM rs)), o7, o8, o9])
      (k_list (h_var 1)) (g_tup3 3 4 5 sc_added.nd) ⟨_, _, _, _, _, _, rfl⟩ ?_ ?_ ?_
    · rintro i d E' hd ⟨o3, o4, o5, o7, o8, o9, rfl⟩
      obtain ⟨⟨n, s, f⟩, hx, rfl⟩ := map_get hd
      have hm := mem_of_get hx
      have ho := hch _ hm
      have hi := iok _ hm
      refine ⟨_, ⟨Nat.le_of_ble_eq_true rfl, Nat.le_of_ble_eq_true rfl, Nat.le_of_ble_eq_true rfl, _, _, _, rfl, rfl⟩, ?_⟩
      have Ri := Rst i
      have sm := Ri.small
      obtain ⟨fit1, fit2, fit3, fit4⟩ := add_fit Ri.rows sm GK.ok.1 ho
      have st1 : st (i + 1) = putM (st i) (n, s, f) := by
        show (ch.take (i + 1)).foldl _ _ = _
        rw [tk hx, List.foldl_append]; rfl
      have fin : ∀ o7 o8 o9, (∃ p3 p4 p5 p7 p8 p9, ([some (.val rc), some (.val (eNd ch)), some (.val (.lst ((allSpotsM (namesM marks)).map eP))), some (.val (.str n)), some (.val (.str s)), some (.val (.str f)), some (sl (rput (st i) n (normalM (addTo (rowOf (st i) n) s f)))), o7, o8, o9] : En) = [some (.val rc), some (.val (eNd ch)), some (.val (.lst ((allSpotsM (namesM marks)).map eP))), p3, p4, p5, some (sl (st (i + 1))), p7, p8, p9]) := fun o7 o8 o9 => by
        refine ⟨some (.val (.str n)), some (.val (.str s)), some (.val (.str f)), o7, o8, o9, ?_⟩
        rw [st1]; rfl
      have hmore : ∀ {o7 o8 o9 : Option Sl} {e2 : Expr} {p1 p2 : Pos} (hk : HasD (Cc.cx P w K mg bs N_added "added" s_added c) (frzE [some (.val rc), some (.val (eNd ch)), some (.val (.lst ((allSpotsM (namesM marks)).map eP))), some (.val (.str n)), some (.val (.str s)), some (.val (.str f)), some (sl (st i)), o7, o8, o9]) e2 (.str n))
          (hs : ∀ (x i : Value), subscripted e2 true x i = runValue (.builtin "lifetime.subscript" ⟨[x, i], []⟩)),
          HasD (Cc.cx P w K mg bs N_added "added" s_added c) (frzE [some (.val rc), some (.val (eNd ch)), some (.val (.lst ((allSpotsM (namesM marks)).map eP))), some (.val (.str n)), some (.val (.str s)), some (.val (.str f)), some (sl (st i)), o7, o8, o9]) (.Subscript (.Name "more" p1) e2 p2) (eR (rowOf (st i) n)) :=
        fun hk hs => h_row T (hr.mono (by decide)) Ri (h_var 6) hk fit1 hs
      refine s_one (h_ifS (t_cmp c_eqS (h_var 4) h_str) (fun h => ?_) fun h => ?_)
      · have h1 : s = "row" := of_decide_eq_true h
        subst h1
        obtain ⟨g', e1, e2, e3, e4⟩ := Ri.rows.atP (n := n) (by exact fit1) (by
          rcases ho.side with ⟨_, _, q⟩ | ⟨_, q | q⟩
          · exact q
          · exact absurd (show ("row" : Str) = "ahead" from q) (by decide +kernel)
          · exact absurd (show ("row" : Str) = "behind" from q) (by decide +kernel))
        have ll := e3.2
        refine s_one (hset (x := addTo (rowOf (st i) n) "row" f) (r := st i) (h_lend (d_is (h_op (o_catT (ds := g'.map D.str) (es := [D.str f]) (by rw [List.length_map]; show _ + 1 ≤ 1000; omega)) (d_is (hmore (h_var 3) (fun _ _ => rfl)) (by rw [e1]; rfl)) (h_tup (a1 (h_var 5)))) ?_) ?_) (h_var 3) rfl Ri.rows fit1 fit2 fit3 fit4 (fin _ _ _) rfl)
        · rw [e1]
          show D.tup (g'.map D.str ++ [D.str f]) = D.tup ((g' ++ [f]).map D.str)
          rw [List.map_append]; rfl
        · rw [e1]
          exact pls_strs _
      · have h1 : ¬ s = "row" := of_decide_eq_false h
        have hk : n ∈ kinds5 := by
          rcases ho.side with ⟨q, _⟩ | ⟨q, _⟩
          · exact absurd q h1
          · exact q
        obtain ⟨a, k, b, e1, e2, e3, e4, e5⟩ := Ri.rows.atK hk
        have la := e3.1.2
        have lb := e3.2.2.2
        refine q_unpack (N := ⟨_, _, _, _⟩) (d := eR (.ac a k b)) (h_lend (d_is (hmore (h_var 3) (fun _ _ => rfl)) (by rw [e1])) (show (D.tup [eF a, .str k, eF b]).pl = true by show pls _ = true; rw [pls, pls, pls, pls, show (eF a).pl = true from pls_strs a, show (eF b).pl = true from pls_strs b]; rfl)) (g_tup3 7 8 9 sc_added.nd) ⟨Nat.le_of_ble_eq_true rfl, Nat.le_of_ble_eq_true rfl, Nat.le_of_ble_eq_true rfl, _, _, _, rfl, rfl⟩ ?_
        refine s_one (hset (x := addTo (rowOf (st i) n) s f) (r := st i) (h_if (t_cmp c_eqS (h_var 4) h_str) (fun q => d_is (h_tup (ha_cons (h_op (o_catT (ds := a.map D.str) (es := [D.str f]) (by rw [List.length_map]; show _ + 1 ≤ 1000; omega)) (h_var 7) (h_tup (a1 (h_var 5)))) (a2 (h_var 8) (h_var 9)))) ?_) (fun q => d_is (h_tup (ha_cons (h_var 7) (a2 (h_var 8) (h_op (o_catT (ds := b.map D.str) (es := [D.str f]) (by rw [List.length_map]; show _ + 1 ≤ 1000; omega)) (h_var 9) (h_tup (a1 (h_var 5))))))) ?_)) (h_var 3) rfl Ri.rows fit1 fit2 fit3 fit4 (fin _ _ _) rfl)
        · rw [e1]
          show _ = eR (if s = "ahead" then Row.ac (a ++ [f]) k b else Row.ac a k (b ++ [f]))
          rw [if_pos (of_decide_eq_true q)]
          show D.tup [D.tup (a.map D.str ++ [D.str f]), _, _] = D.tup [D.tup ((a ++ [f]).map D.str), _, _]
          rw [List.map_append]; rfl
        · rw [e1]
          show _ = eR (if s = "ahead" then Row.ac (a ++ [f]) k b else Row.ac a k (b ++ [f]))
          rw [if_neg (of_decide_eq_false q)]
          show D.tup [_, _, D.tup (b.map D.str ++ [D.str f])] = D.tup [_, _, D.tup ((b ++ [f]).map D.str)]
          rw [List.map_append]; rfl
    · rintro E' ⟨o3, o4, o5, o7, o8, o9, rfl⟩
      refine ⟨o3, o4, o5, o7, o8, o9, ?_⟩
      show _ = [_, _, _, _, _, _, some (sl (ch.foldl putM rs)), _, _, _]
      rw [List.length_map]
      show [_, _, _, _, _, _, some (sl ((ch.take ch.length).foldl putM rs)), _, _, _] = _
      rw [List.take_length]
    · rintro _ ⟨o3, o4, o5, o7, o8, o9, rfl⟩
      refine q_settle 6 ?_
      exact s_one (h_ret (h_var 6) fun s hs => hs)
end
end K39
/-! KUnl -/
set_option maxHeartbeats 4000000
/-! ## unpacking a list into names -/
namespace K39
open PySem PySem.Spec PyProof.Rows L2
section
variable {X : Cx} {p1 p2 p3 p4 pos : Pos}
def ψ2 (i j : Nat) : D → En → En → Prop := fun d E E2 => i < E.length ∧ j < E.length ∧ ∃ d1 d2, d = .lst [d1, d2] ∧ E2 = (E.set i (some (.val d1))).set j (some (.val d2))
def ψ4 (i j k l : Nat) : D → En → En → Prop := fun d E E2 => i < E.length ∧ j < E.length ∧ k < E.length ∧ l < E.length ∧ ∃ d1 d2 d3 d4, d = .lst [d1, d2, d3, d4] ∧ E2 = (((E.set i (some (.val d1))).set j (some (.val d2))).set k (some (.val d3))).set l (some (.val d4))
theorem g_lst2 (i j : Nat) {x y : Str} {kk : Nat} (hN : X.N.Nodup) (hc : X.calm = true := by rfl) (hi : X.N[i]? = some x := by rfl) (hj : X.N[j]? = some y := by rfl) (hx : Loc X.env.scope x := by first | exact Or.inl rfl | exact Or.inr rfl) (hy : Loc X.env.scope y := by first | exact Or.inl rfl | exact Or.inr rfl)
    (fx : X.fn x = true ∨ X.env.scope.names.lookup x = some .local := by first | exact .inl rfl | exact .inr rfl | assumption) (fy : X.fn y = true ∨ X.env.scope.names.lookup y = some .local := by first | exact .inl rfl | exact .inr rfl | assumption)
    (hn : (assignEach [Expr.Name x p1, Expr.Name y p2] X.env).length = 2 := by rfl) (hst : (assignEach [Expr.Name x p1, Expr.Name y p2] X.env).findIdx? (·.1) = none := by rfl)
    (hs : (assignEach [Expr.Name x p1, Expr.Name y p2] X.env).map (·.2) = assign (Expr.Name x p1) X.env :: (assignEach [Expr.Name y p2] X.env).map (·.2) := by rfl) (hs2 : (assignEach [Expr.Name y p2] X.env).map (·.2) = assign (Expr.Name y p2) X.env :: (assignEach [] X.env).map (·.2) := by rfl) :
    TgOk X (.Tuple [.Name x p1, .Name y p2] kk pos) (ψ2 i j) :=
  ⟨_, pg_unl hc (pgs_cons (pg_name hN hi hx fx) (pgs_cons (pg_name hN hj hy fy) pgs_nil hs2) hs) hn hst, fun F E E2 τ σ H v d h S r Q k => by
    obtain ⟨h1, h2, d1, d2, rfl, rfl⟩ := h
    cases r with
    | lst q rs =>
      rename_i a vs
      cases rs with
      | cons r1 rs =>
        cases rs with
        | cons r2 rs =>
          cases rs
          refine ⟨a, _, rfl, .inl (.inl (S.bex.le.lst _ _ q)), rfl, _, _, rfl, _, _, rfl, rfl, ?_⟩
          exact k _ ((S.setv r1 h1).setv (Rep.le (S.setb i d1).le r2) (by simpa using h2))⟩
theorem g_lst4 (i j l m : Nat) {x y z u : Str} {kk : Nat} (hN : X.N.Nodup) (hc : X.calm = true := by rfl) (hi : X.N[i]? = some x := by rfl) (hj : X.N[j]? = some y := by rfl) (hl : X.N[l]? = some z := by rfl) (hm : X.N[m]? = some u := by rfl)
    (hx : Loc X.env.scope x := by first | exact Or.inl rfl | exact Or.inr rfl) (hy : Loc X.env.scope y := by first | exact Or.inl rfl | exact Or.inr rfl) (hz : Loc X.env.scope z := by first | exact Or.inl rfl | exact Or.inr rfl) (hu : Loc X.env.scope u := by first | exact Or.inl rfl | exact Or.inr rfl)
    (fx : X.fn x = true ∨ X.env.scope.names.lookup x = some .local := by first | exact .inl rfl | exact .inr rfl | assumption) (fy : X.fn y = true ∨ X.env.scope.names.lookup y = some .local := by first | exact .inl rfl | exact .inr rfl | assumption) (fz : X.fn z = true ∨ X.env.scope.names.lookup z = some .local := by first | exact .inl rfl | exact .inr rfl | assumption) (fu : X.fn u = true ∨ X.env.scope.names.lookup u = some .local := by first | exact .inl rfl | exact .inr rfl | assumption)
    (hn : (assignEach [Expr.Name x p1, Expr.Name y p2, Expr.Name z p3, Expr.Name u p4] X.env).length = 4 := by rfl) (hst : (assignEach [Expr.Name x p1, Expr.Name y p2, Expr.Name z p3, Expr.Name u p4] X.env).findIdx? (·.1) = none := by rfl)
    (hs : (assignEach [Expr.Name x p1, Expr.Name y p2, Expr.Name z p3, Expr.Name u p4] X.env).map (·.2) = assign (Expr.Name x p1) X.env :: (assignEach [Expr.Name y p2, Expr.Name z p3, Expr.Name u p4] X.env).map (·.2) := by rfl)
    (hs2 : (assignEach [Expr.Name y p2, Expr.Name z p3, Expr.Name u p4] X.env).map (·.2) = assign (Expr.Name y p2) X.env :: (assignEach [Expr.Name z p3, Expr.Name u p4] X.env).map (·.2) := by rfl) (hs3 : (assignEach [Expr.Name z p3, Expr.Name u p4] X.env).map (·.2) = assign (Expr.Name z p3) X.env :: (assignEach [Expr.Name u p4] X.env).map (·.2) := by rfl)
    (hs4 : (assignEach [Expr.Name u p4] X.env).map (·.2) = assign (Expr.Name u p4) X.env :: (assignEach [] X.env).map (·.2) := by rfl) :
    TgOk X (.Tuple [.Name x p1, .Name y p2, .Name z p3, .Name u p4] kk pos) (ψ4 i j l m) :=
  ⟨_, pg_unl hc (pgs_cons (pg_name hN hi hx fx) (pgs_cons (pg_name hN hj hy fy) (pgs_cons (pg_name hN hl hz fz) (pgs_cons (pg_name hN hm hu fu) pgs_nil hs4) hs3) hs2) hs) hn hst, fun F E E2 τ σ H v d h S r Q k => by
    obtain ⟨h1, h2, h3, h4, d1, d2, d3, d4, rfl, rfl⟩ := h
    cases r with
    | lst q rs =>
      rename_i a vs
      cases rs with
      | cons r1 rs =>
        cases rs with
        | cons r2 rs =>
          cases rs with
          | cons r3 rs =>
            cases rs with
            | cons r4 rs =>
              cases rs
              refine ⟨a, _, rfl, .inl (.inl (S.bex.le.lst _ _ q)), rfl, _, _, rfl, _, _, rfl, _, _, rfl, _, _, rfl, rfl, ?_⟩
              have S1 := S.setv r1 h1
              have b1 := S.setb i d1
              have S2 := S1.setv (Rep.le b1.le r2) (by simpa using h2)
              have b2 := b1.trans (S1.setb j d2)
              have S3 := S2.setv (Rep.le b2.le r3) (by simpa using h3)
              have b3 := b2.trans (S2.setb l d3)
              exact k _ (S3.setv (Rep.le b3.le r4) (by simpa using h4))⟩
end
end K39
/-! KL22 -/
set_option maxHeartbeats 4000000
namespace K39
open PySem PySem.Spec PyProof.Rows L2
/-! ### the masks -/
/-- what a lost pair can be cured by -/
def needM (rs : Rows) (bars : Tab) (t : Trip) : List Item := (spotsM t).flatMap fun s => (ableM rs bars t).map fun f => (s.1, s.2, f)
abbrev Msk := List (List Str × Int)
def orAt (m : Msk) (i : Item) (p : Int) : Msk := tput m (kI i) (Builtin.bitOr (mkOf m i) p)
def maskPair (rs : Rows) (bars : Tab) (q : Msk × Int) (t : Trip) : Msk × Int := ((needM rs bars t).foldl (fun m i => orAt m i q.2) q.1, q.2 * 2)
def mask0 (new : List Item) : Msk := new.map fun i => (kI i, 0)
def masksM (new : List Item) (found : List Trip) (rs : Rows) (bars : Tab) : Msk × Int := found.foldl (maskPair rs bars) (mask0 new, 1)
theorem kI_inj {a b : Item} (h : kI a = kI b) : a = b := by
  obtain ⟨a1, a2, a3⟩ := a
  obtain ⟨b1, b2, b3⟩ := b
  simp only [kI, List.cons.injEq, and_true] at h
  obtain ⟨rfl, rfl, rfl⟩ := h
  rfl
theorem tl_ne {xs ys : List Str} {v : Int} (h : ys ≠ xs) : ∀ m : Msk, (m.map fun p => if p.1 = xs then (xs, v) else p).lookup ys = m.lookup ys
  | [] => rfl
  | (k, z) :: m => by
    rw [List.map_cons, List.lookup_cons, tl_ne h m]
    show (match ys == (if k = xs then (xs, v) else (k, z)).1 with | true => some (if k = xs then (xs, v) else (k, z)).2 | false => m.lookup ys) = _
    by_cases hk : k = xs
    · rw [if_pos hk, List.lookup_cons, hk, show (ys == xs) = false by simpa using h]
    · rw [if_neg hk, List.lookup_cons]; rfl
theorem tl_eq {xs : List Str} {v : Int} : ∀ {m : Msk} {z : Int}, m.lookup xs = some z → (m.map fun p => if p.1 = xs then (xs, v) else p).lookup xs = some v
  | (k, z) :: m, z', h => by
    rw [List.map_cons, List.lookup_cons]
    show (match xs == (if k = xs then (xs, v) else (k, z)).1 with | true => some (if k = xs then (xs, v) else (k, z)).2 | false => (m.map fun p : List Str × Int => if p.1 = xs then (xs, v) else p).lookup xs) = _
    by_cases hk : k = xs
    · rw [if_pos hk, beq_self_eq_true]
    · have hb : (xs == k) = false := by simpa using fun e : xs = k => hk e.symm
      rw [List.lookup_cons, hb] at h
      rw [if_neg hk, hb]
      exact tl_eq h
theorem tlook_old {m : Msk} {xs ys : List Str} {v z : Int} (h : m.lookup xs = some z) : (tput m xs v).lookup ys = if ys = xs then some v else m.lookup ys := by
  unfold tput
  rw [h]
  show (m.map _).lookup ys = _
  by_cases e : ys = xs
  · rw [if_pos e, e, tl_eq h]
  · rw [if_neg e, tl_ne e]
end K39
/-! KL23 -/
set_option maxHeartbeats 4000000
namespace K39
open PySem PySem.Spec PyProof.Rows L2
theorem kI_nodup {new : List Item} (h : new.Nodup) : (new.map kI).Nodup := List.pairwise_map.mpr (h.imp fun hn e => hn (kI_inj e))
theorem tput_new {m : Msk} {xs : List Str} {v : Int} (h : m.lookup xs = none) : tput m xs v = m ++ [(xs, v)] := by
  unfold tput
  rw [h]
/-- masks that know the new items -/
structure MOk (new : List Item) (m : Msk) : Prop where
  len : m.length = new.length
  has : ∀ a ∈ new, ∃ z, m.lookup (kI a) = some z
theorem MOk.get {new : List Item} {m : Msk} (M : MOk new m) {a : Item} (h : a ∈ new) : m.lookup (kI a) = some (mkOf m a) := by
  obtain ⟨z, hz⟩ := M.has a h
  unfold mkOf
  rw [hz]; rfl
theorem MOk.put {new : List Item} {m : Msk} (M : MOk new m) {a : Item} {v : Int} (h : a ∈ new) : MOk new (tput m (kI a) v) where
  len := by
    unfold tput
    rw [M.get h]
    show (m.map _).length = _
    rw [List.length_map, M.len]
  has := fun b hb => by
    rw [tlook_old (M.get h)]
    by_cases e : kI b = kI a
    · exact ⟨v, if_pos e⟩
    · rw [if_neg e]; exact M.has b hb
theorem mask0_look : ∀ {new : List Item} {a : Item}, a ∈ new → (mask0 new).lookup (kI a) = some 0
  | b :: new, a, h => by
    show (match kI a == kI b with | true => some 0 | false => (mask0 new).lookup (kI a)) = _
    by_cases e : kI a = kI b
    · rw [e, beq_self_eq_true]
    · rw [show (kI a == kI b) = false by simpa using e]
      rcases List.mem_cons.mp h with rfl | h
      · exact absurd rfl e
      · exact mask0_look h
theorem mask0_ok (new : List Item) : MOk new (mask0 new) := ⟨List.length_map .., fun a h => ⟨0, mask0_look h⟩⟩
theorem tput_mask0 {new : List Item} {i : Nat} {a : Item} (hn : new.Nodup) (h : new[i]? = some a) : tput (mask0 (new.take i)) (kI a) 0 = mask0 (new.take (i + 1)) := by
  rw [tput_new, tk h]
  · unfold mask0
    rw [List.map_append]; rfl
  · cases q : (mask0 (new.take i)).lookup (kI a) with
    | none => rfl
    | some z =>
      refine absurd ?_ (show a ∉ new.take i from fun hx => by
        have hnd : (new.take (i + 1)).Nodup := hn.sublist (List.take_sublist _ _)
        rw [tk h] at hnd
        exact (List.nodup_append.mp hnd).2.2 a hx a (List.mem_cons_self ..) rfl)
      refine Classical.byContradiction fun hx => ?_
      have : ∀ {l : List Item}, a ∉ l → (mask0 l).lookup (kI a) = none := fun {l} hl => by
        induction l with
        | nil => rfl
        | cons b l ih =>
          rw [List.mem_cons, not_or] at hl
          show (match kI a == kI b with | true => some 0 | false => (mask0 l).lookup (kI a)) = _
          rw [show (kI a == kI b) = false by simpa using fun e => hl.1 (kI_inj e)]
          exact ih hl.2
      rw [this hx] at q
      cases q
end K39
/-! KL24 -/
set_option maxHeartbeats 4000000
namespace K39
open PySem PySem.Spec PyProof.Rows L2
section
variable {P : Program} {w : World} {K : PySem.W.Frag} {mg : Str → Option Value} {bs : Heap} {X : Cx} {E : En}
theorem masks_fold {new : List Item} : ∀ (l : List Item) (m : Msk) (pw : Int), MOk new m → (∀ a ∈ l, a ∈ new) → MOk new (l.foldl (fun m a => orAt m a pw) m)
  | [], m, pw, M, _ => M
  | a :: l, m, pw, M, h => masks_fold l (orAt m a pw) pw (M.put (h a (List.mem_cons_self ..))) fun b hb => h b (List.mem_cons_of_mem _ hb)
def G_masks : List D → Rs → Prop := fun ds r => ∃ (names gates : List Str) (rs : Rows) (bars : Tab) (new : List Item) (found : List Trip), ds = [.lst (new.map eK), .lst (found.map eT), eRows rs, eTab bars] ∧ RowsOk names gates rs ∧ TabOk bars ∧ new.Nodup ∧ new.length ≤ 100 ∧ found.length ≤ 1000 ∧
  (∀ t ∈ found, t.1 ∈ kinds5 ∧ (t.2.2 = "return" ∨ t.2.2 ∈ kinds5) ∧ ∀ i ∈ needM rs bars t, i ∈ new) ∧ r = .nL [.dtt (masksM new found rs bars).1, .int ((masksM new found rs bars).2 - 1)]
theorem kn_masks (T : Hd K mg) : Kn P w K mg bs CX0 3 "_law_masks" ["_law_new", "_law_found", "_law_rows_here", "_law_bars"] (spG K G_masks) := by
  refine k_l_masks T ?_ ?_
  · rintro ds r ⟨_, _, _, _, _, _, rfl, _⟩; rfl
  · rintro c ds r hr ⟨names, gates, rs, bars, new, found, rfl, R, hB, hnd, hn, hf, hN, rfl⟩
    have hu := ru1 hr
    let B := fun (m : Msk) (l : Addr) (o5 o6 o7 o8 o9 o10 o11 : Option Sl) => ([some (.val (.lst (new.map eK))), some (.val (.lst (found.map eT))), some (.val (eRows rs)), some (.val (eTab bars)), some (.oT l m), o5, o6, o7, o8, o9, o10, o11] : En)
    refine q_asg 4 sc_l_masks.nd h_dictT0 ?_
    rintro _ ⟨l, rfl⟩
    refine q_for (fun i E' => ∃ o5, E' = B (mask0 (new.take i)) l o5 none none none none none none) (fun E' => ∃ o5, E' = B (mask0 new) l o5 none none none none none none)
      (k_list (h_var 0)) (g_name 5 sc_l_masks.nd) ⟨_, rfl⟩ ?_ ?_ ?_
    · rintro i d E' hd ⟨o5, rfl⟩
      obtain ⟨a, ha, rfl⟩ := map_get hd
      refine ⟨_, ⟨Nat.le_of_ble_eq_true rfl, rfl⟩, ?_⟩
      refine s_one (s_tput 4 (ru1 hr) (kvs := mask0 (new.take i)) (xs := kI a) h_int (h_var 5) ?_ ⟨some (.val (eK a)), ?_⟩)
      · unfold mask0
        rw [List.length_map]
        have := take_len_le new i
        omega
      · rw [tput_mask0 hnd ha]; rfl
    · rintro E' ⟨o5, rfl⟩
      refine ⟨o5, ?_⟩
      rw [List.length_map, List.take_length]
    · rintro _ ⟨o5, rfl⟩
      refine q_asg 6 sc_l_masks.nd h_int ?_
      rintro _ rfl
      let q := fun i => (found.take i).foldl (maskPair rs bars) (mask0 new, 1)
      refine q_for (fun i E' => ∃ o7 o8 o9 o10 o11, E' = B (q i).1 l o5 (some (.val (.int (q i).2))) o7 o8 o9 o10 o11 ∧ MOk new (q i).1) (fun E' => ∃ o7 o8 o9 o10 o11, E' = B (q found.length).1 l o5 (some (.val (.int (q found.length).2))) o7 o8 o9 o10 o11)
        (k_list (h_var 1)) (g_name 7 sc_l_masks.nd) ⟨_, _, _, _, _, rfl, mask0_ok new⟩ ?_ ?_ ?_
      · rintro i d E' hd ⟨o7, o8, o9, o10, o11, rfl, M⟩
        obtain ⟨t, ht, rfl⟩ := map_get hd
        obtain ⟨t1, t2, t3⟩ := hN t (mem_of_get ht)
        refine ⟨_, ⟨Nat.le_of_ble_eq_true rfl, rfl⟩, ?_⟩
        refine q_asg 8 sc_l_masks.nd (h_call (kn_able T) (hr.mono (by decide)) (ha_cons (h_var 2) (a2 (h_var 3) (h_var 7))) ⟨names, gates, rs, bars, t, rfl, R, hB, t1, t2, rfl⟩) ?_
        rintro _ ⟨l8, rfl⟩
        refine q_settle 8 ?_
        let ab := ableM rs bars t
        let pw := (q i).2
        let ns := fun (s : Pair) => ab.map fun f => ((s.1, s.2, f) : Item)
        let G := fun (l : List Item) => l.foldl (fun m a => orAt m a pw) (q i).1
        have hG : ∀ l : List Item, (∀ a ∈ l, a ∈ new) → MOk new (G l) := fun l hl => masks_fold l (q i).1 pw M hl
        have hin : ∀ s ∈ spotsM t, ∀ f ∈ ab, ((s.1, s.2, f) : Item) ∈ new := fun s hs f hf => t3 _ (List.mem_flatMap.mpr ⟨s, hs, List.mem_map.mpr ⟨f, hf, rfl⟩⟩)
        have qs : q (i + 1) = (G ((spotsM t).flatMap ns), pw * 2) := by
          show (found.take (i + 1)).foldl _ _ = _
          rw [tk ht, List.foldl_append]
          rfl
        refine q_for (fun j E' => ∃ o9 o10 o11, E' = B (G (((spotsM t).take j).flatMap ns)) l o5 (some (.val (.int pw))) (some (.val (eT t))) (some (.val (.lst (ab.map D.str)))) o9 o10 o11)
          (fun E' => ∃ o9 o10 o11, E' = B (G ((spotsM t).flatMap ns)) l o5 (some (.val (.int pw))) (some (.val (eT t))) (some (.val (.lst (ab.map D.str)))) o9 o10 o11)
          (k_list (h_settle (h_call (kn_lspots T) (hr.mono (by decide)) (a1 (h_var 7)) ⟨t, rfl, rfl⟩))) (g_tup2 9 10 sc_l_masks.nd) ⟨_, _, _, rfl⟩ ?_ ?_ ?_
        · rintro j d E' hd ⟨o9, o10, o11, rfl⟩
          obtain ⟨⟨sn, ss⟩, hs, rfl⟩ := map_get hd
          have hsm := mem_of_get hs
          refine ⟨_, ⟨Nat.le_of_ble_eq_true rfl, Nat.le_of_ble_eq_true rfl, _, _, rfl, rfl⟩, ?_⟩
          have sub1 : ∀ a ∈ ((spotsM t).take j).flatMap ns, a ∈ new := fun a ha => by
            obtain ⟨s, hs1, hs2⟩ := List.mem_flatMap.mp ha
            obtain ⟨f, hf, rfl⟩ := List.mem_map.mp hs2
            exact hin s (List.mem_of_mem_take hs1) f hf
          refine s_one (h_for (fun k E' => ∃ o11, E' = B (G (((spotsM t).take j).flatMap ns ++ (ab.take k).map fun f => ((sn, ss, f) : Item))) l o5 (some (.val (.int pw))) (some (.val (eT t))) (some (.val (.lst (ab.map D.str)))) (some (.val (.str sn))) (some (.val (.str ss))) o11)
            (k_list (h_var 8)) (g_name 11 sc_l_masks.nd) ⟨_, by rw [List.take_zero, List.map_nil, List.append_nil]; rfl⟩ ?_ ?_)
          · rintro k d E' hd ⟨o11, rfl⟩
            obtain ⟨f, hf, rfl⟩ := map_get hd
            have hfm := mem_of_get hf
            refine ⟨_, ⟨Nat.le_of_ble_eq_true rfl, rfl⟩, ?_⟩
            let L1 := ((spotsM t).take j).flatMap ns ++ (ab.take k).map fun f => ((sn, ss, f) : Item)
            have sub2 : ∀ a ∈ L1, a ∈ new := fun a ha => by
              rcases List.mem_append.mp ha with ha | ha
              · exact sub1 a ha
              · obtain ⟨f, hf, rfl⟩ := List.mem_map.mp ha
                exact hin _ hsm f (List.mem_of_mem_take hf)
            have M1 : MOk new (G L1) := hG L1 sub2
            have inN := hin _ hsm f hfm
            refine s_one (s_tput 4 (ru1 hr) (kvs := G L1) (xs := kI (sn, ss, f)) (z := Builtin.bitOr (mkOf (G L1) (sn, ss, f)) pw)
              (h_lend (h_op o_or (h_tget (ru1 hr) (M1.get inN) (h_var 4) (h_key (xs := kI (sn, ss, f)) (ha_cons (h_var 9) (a2 (h_var 10) (h_var 11))))) (h_var 6)) rfl) (h_key (xs := kI (sn, ss, f)) (ha_cons (h_var 9) (a2 (h_var 10) (h_var 11)))) (by rw [M1.len]; omega) ⟨some (.val (.str f)), ?_⟩)
            rw [tkm hf, ← List.append_assoc]
            show _ = B ((L1 ++ [((sn, ss, f) : Item)]).foldl (fun m a => orAt m a pw) (q i).1) _ _ _ _ _ _ _ _
            rw [List.foldl_append]
            rfl
          · rintro E' ⟨o11, rfl⟩
            refine ⟨some (.val (.str sn)), some (.val (.str ss)), o11, ?_⟩
            rw [List.length_map, List.take_length, tkf hs]
        · rintro E' ⟨o9, o10, o11, rfl⟩
          refine ⟨o9, o10, o11, ?_⟩
          rw [List.length_map, List.take_length]
        · rintro _ ⟨o9, o10, o11, rfl⟩
          refine s_one (h_asg (i := 6) sc_l_masks.nd (h_op (o_mulR (cm _ rfl)) (h_var 6) h_int) ?_)
          rintro _ rfl
          refine ⟨some (.val (eT t)), some (.val (.lst (ab.map D.str))), o9, o10, o11, ?_, ?_⟩
          · rw [qs]; rfl
          · rw [qs]
            exact hG _ fun a ha => by
              obtain ⟨s, hs1, hs2⟩ := List.mem_flatMap.mp ha
              obtain ⟨f, hf, rfl⟩ := List.mem_map.mp hs2
              exact hin s hs1 f hf
      · rintro E' ⟨o7, o8, o9, o10, o11, rfl, M⟩
        refine ⟨o7, o8, o9, o10, o11, ?_⟩
        rw [List.length_map]
      · rintro _ ⟨o7, o8, o9, o10, o11, rfl⟩
        refine q_settle 4 ?_
        refine s_one (h_ret (h_lst (a2 (h_var 4) (h_op o_sub (h_var 6) h_int))) ?_)
        intro s hs
        show Rs.ok (.nL [.dtt (masksM new found rs bars).1, .int ((masksM new found rs bars).2 - 1)]) s
        have e : q found.length = masksM new found rs bars := by
          show (found.take found.length).foldl _ _ = _
          rw [List.take_length]; rfl
        rw [← e]; exact hs
end
end K39
/-! KM1 -/
set_option maxHeartbeats 4000000
/-! ## the masks, bit by bit -/
namespace K39
open PySem PySem.Spec PyProof.Rows L2
theorem or_nat (a b : Nat) : Builtin.bitOr (a : Int) (b : Int) = ((a ||| b : Nat) : Int) := by
  rw [bitOr_nn (Int.natCast_nonneg _) (Int.natCast_nonneg _)]
  rfl
theorem mk_put {m : Msk} {i a : Item} {v z : Int} (h : m.lookup (kI i) = some z) : mkOf (tput m (kI i) v) a = if a = i then v else mkOf m a := by
  unfold mkOf
  rw [tlook_old h]
  by_cases e : a = i
  · rw [if_pos e, if_pos (by rw [e])]; rfl
  · rw [if_neg e, if_neg (fun q => e (kI_inj q))]
theorem mk_fold {new : List Item} {a : Item} (P : Nat) : ∀ (l : List Item) (m : Msk) (M : Nat), MOk new m → (∀ i ∈ l, i ∈ new) → mkOf m a = (M : Int) → mkOf (l.foldl (fun m i => orAt m i (P : Int)) m) a = ((if a ∈ l then M ||| P else M : Nat) : Int)
  | [], m, M, _, _, e => by rw [if_neg (by simp)]; exact e
  | i :: l, m, M, ok, h, e => by
    have hi := h i (List.mem_cons_self ..)
    have e1 : mkOf (orAt m i (P : Int)) a = ((if a = i then M ||| P else M : Nat) : Int) := by
      unfold orAt
      rw [mk_put (ok.get hi)]
      by_cases q : a = i
      · rw [if_pos q, if_pos q, ← q, e, or_nat]
      · rw [if_neg q, if_neg q, e]
    show mkOf (l.foldl (fun m i => orAt m i (P : Int)) (orAt m i (P : Int))) a = _
    have ih : mkOf (l.foldl (fun m i => orAt m i (P : Int)) (orAt m i (P : Int))) a = _ := mk_fold P l (orAt m i (P : Int)) _ (ok.put hi) (fun j hj => h j (List.mem_cons_of_mem _ hj)) e1
    rw [ih]
    congr 1
    by_cases q : a = i
    · rw [if_pos q, if_pos (show a ∈ i :: l by rw [q]; exact List.mem_cons_self ..)]
      split
      · rw [Nat.or_assoc, Nat.or_self]
      · rfl
    · rw [if_neg q]
      by_cases q2 : a ∈ l
      · rw [if_pos q2, if_pos (List.mem_cons_of_mem _ q2)]
      · rw [if_neg q2, if_neg (fun z => (List.mem_cons.mp z).elim q q2)]
/-- for each new item a number whose bits tell the lost pairs that it heals -/
structure Bits (new : List Item) (nd : List (List Item)) (q : Msk × Int) : Prop where
  pow : q.2 = ((2 ^ nd.length : Nat) : Int)
  ok : MOk new q.1
  bit : ∀ a ∈ new, ∃ M : Nat, mkOf q.1 a = (M : Int) ∧ ∀ j, M.testBit j = decide (∃ n, nd[j]? = some n ∧ a ∈ n)
theorem bits_step {new : List Item} {nd : List (List Item)} {rs : Rows} {bars : Tab} {q : Msk × Int} {t : Trip} (B : Bits new nd q) (h : ∀ i ∈ needM rs bars t, i ∈ new) : Bits new (nd ++ [needM rs bars t]) (maskPair rs bars q t) where
  pow := by
    show q.2 * 2 = _
    rw [B.pow, List.length_append, List.length_singleton, Nat.pow_succ]
    exact (Int.natCast_mul _ _).symm
  ok := masks_fold _ _ _ B.ok h
  bit := fun a ha => by
    obtain ⟨M, e, b⟩ := B.bit a ha
    refine ⟨if a ∈ needM rs bars t then M ||| 2 ^ nd.length else M, ?_, ?_⟩
    · show mkOf ((needM rs bars t).foldl (fun m i => orAt m i q.2) q.1) a = _
      rw [B.pow]
      exact mk_fold _ _ _ M B.ok h e
    · intro j
      have key : (if a ∈ needM rs bars t then M ||| 2 ^ nd.length else M).testBit j = (M.testBit j || (decide (nd.length = j) && decide (a ∈ needM rs bars t))) := by
        by_cases q : a ∈ needM rs bars t
        · rw [if_pos q, Nat.testBit_or, Nat.testBit_two_pow, decide_eq_true q, Bool.and_true]
        · rw [if_neg q, decide_eq_false q, Bool.and_false, Bool.or_false]
      rw [key, b j, ← Bool.decide_and, ← Bool.decide_or]
      refine decide_eq_decide.mpr ?_
      constructor
      · rintro (⟨n, h1, h2⟩ | ⟨h1, h2⟩)
        · refine ⟨n, ?_, h2⟩
          rw [List.getElem?_append_left (lt_of_get h1)]; exact h1
        · refine ⟨needM rs bars t, ?_, h2⟩
          rw [← h1, List.getElem?_append_right (Nat.le_refl _), Nat.sub_self]; rfl
      · rintro ⟨n, h1, h2⟩
        by_cases hj : j < nd.length
        · rw [List.getElem?_append_left hj] at h1
          exact .inl ⟨n, h1, h2⟩
        · rw [List.getElem?_append_right (Nat.le_of_not_lt hj)] at h1
          have h3 := lt_of_get h1
          rw [List.length_singleton] at h3
          have h4 : nd.length = j := by omega
          rw [h4, Nat.sub_self] at h1
          cases h1
          exact .inr ⟨h4, h2⟩
theorem bits_fold {new : List Item} {rs : Rows} {bars : Tab} : ∀ (l : List Trip) {nd : List (List Item)} {q : Msk × Int}, Bits new nd q → (∀ t ∈ l, ∀ i ∈ needM rs bars t, i ∈ new) → Bits new (nd ++ l.map (needM rs bars)) (l.foldl (maskPair rs bars) q)
  | [], nd, q, B, _ => by rw [List.map_nil, List.append_nil]; exact B
  | t :: l, nd, q, B, h => by
    have := bits_fold l (bits_step B (h t (List.mem_cons_self ..))) fun s hs => h s (List.mem_cons_of_mem _ hs)
    rw [List.append_assoc] at this
    exact this
theorem bits_all {new : List Item} {found : List Trip} {rs : Rows} {bars : Tab} (h : ∀ t ∈ found, ∀ i ∈ needM rs bars t, i ∈ new) : Bits new (found.map (needM rs bars)) (masksM new found rs bars) := by
  have B0 : Bits new [] (mask0 new, 1) := ⟨rfl, mask0_ok new, fun a ha => ⟨0, by
    unfold mkOf
    rw [mask0_look ha]; rfl, fun j => by
    rw [Nat.zero_testBit]
    exact (decide_eq_false (by rintro ⟨n, h, _⟩; cases h)).symm⟩⟩
  have := bits_fold found B0 h
  rw [List.nil_append] at this
  exact this
theorem pos_pow (n : Nat) : 1 ≤ 2 ^ n := Nat.one_le_two_pow
section
variable {new : List Item} {nd : List (List Item)} {q : Msk × Int} (B : Bits new nd q)
include B
theorem Bits.total : q.2 - 1 = ((2 ^ nd.length - 1 : Nat) : Int) := by
  rw [B.pow, Int.ofNat_sub (pos_pow _)]; rfl
theorem Bits.zero : q.2 - 1 = 0 ↔ nd = [] := by
  rw [B.total]
  constructor
  · intro h
    have h1 : 2 ^ nd.length - 1 = 0 := Int.ofNat.inj h
    cases nd with
    | nil => rfl
    | cons n nd =>
      have h2 : 2 ^ 1 ≤ 2 ^ (n :: nd).length := Nat.pow_le_pow_right (by decide) (by rw [List.length_cons]; omega)
      omega
  · rintro rfl
    rfl
theorem Bits.one {a : Item} (ha : a ∈ new) : mkOf q.1 a = q.2 - 1 ↔ ∀ n ∈ nd, a ∈ n := by
  obtain ⟨M, e, b⟩ := B.bit a ha
  rw [B.total, e, Int.natCast_inj]
  constructor
  · intro h n hn
    obtain ⟨j, hj, e2⟩ := List.mem_iff_getElem.mp hn
    have h1 := b j
    rw [h, Nat.testBit_two_pow_sub_one, decide_eq_true hj] at h1
    obtain ⟨n', h2, h3⟩ := of_decide_eq_true h1.symm
    rw [List.getElem?_eq_getElem hj, e2] at h2
    cases h2; exact h3
  · intro h
    refine Nat.eq_of_testBit_eq fun j => ?_
    rw [b j, Nat.testBit_two_pow_sub_one]
    refine decide_eq_decide.mpr ⟨?_, ?_⟩
    · rintro ⟨n, h1, _⟩
      exact lt_of_get h1
    · intro hj
      exact ⟨nd[j], List.getElem?_eq_getElem hj, h _ (List.getElem_mem hj)⟩
theorem Bits.two {a b : Item} (ha : a ∈ new) (hb : b ∈ new) : Builtin.bitOr (mkOf q.1 a) (mkOf q.1 b) = q.2 - 1 ↔ ∀ n ∈ nd, a ∈ n ∨ b ∈ n := by
  obtain ⟨M, e, b1⟩ := B.bit a ha
  obtain ⟨M', e', b2⟩ := B.bit b hb
  rw [B.total, e, e', or_nat, Int.natCast_inj]
  constructor
  · intro h n hn
    obtain ⟨j, hj, e2⟩ := List.mem_iff_getElem.mp hn
    have h1 : (M ||| M').testBit j = true := by rw [h, Nat.testBit_two_pow_sub_one, decide_eq_true hj]
    rw [Nat.testBit_or, b1 j, b2 j, Bool.or_eq_true, decide_eq_true_eq, decide_eq_true_eq] at h1
    rcases h1 with ⟨n', h2, h3⟩ | ⟨n', h2, h3⟩
    · rw [List.getElem?_eq_getElem hj, e2] at h2
      cases h2; exact .inl h3
    · rw [List.getElem?_eq_getElem hj, e2] at h2
      cases h2; exact .inr h3
  · intro h
    refine Nat.eq_of_testBit_eq fun j => ?_
    rw [Nat.testBit_or, b1 j, b2 j, Nat.testBit_two_pow_sub_one, ← Bool.decide_or]
    refine decide_eq_decide.mpr ⟨?_, ?_⟩
    · rintro (⟨n, h1, _⟩ | ⟨n, h1, _⟩)
      · exact lt_of_get h1
      · exact lt_of_get h1
    · intro hj
      rcases h _ (List.getElem_mem hj) with h2 | h2
      · exact .inl ⟨nd[j], List.getElem?_eq_getElem hj, h2⟩
      · exact .inr ⟨nd[j], List.getElem?_eq_getElem hj, h2⟩
theorem Bits.some {a : Item} (ha : a ∈ new) : mkOf q.1 a > 0 ↔ ∃ n ∈ nd, a ∈ n := by
  obtain ⟨M, e, b⟩ := B.bit a ha
  rw [e]
  constructor
  · intro h
    have h1 : M ≠ 0 := fun z => by rw [z] at h; exact absurd h (by decide)
    obtain ⟨j, hj⟩ := Nat.exists_testBit_of_ne_zero h1
    rw [b j] at hj
    obtain ⟨n, h2, h3⟩ := of_decide_eq_true hj
    exact ⟨n, mem_of_get h2, h3⟩
  · rintro ⟨n, hn, h⟩
    obtain ⟨j, hj, e2⟩ := List.mem_iff_getElem.mp hn
    have h1 : M.testBit j = true := by
      rw [b j]
      exact decide_eq_true ⟨n, by rw [List.getElem?_eq_getElem hj, e2], h⟩
    have h2 : M ≠ 0 := fun z => by rw [z, Nat.zero_testBit] at h1; cases h1
    omega
end
end K39
/-! KM2 -/
set_option maxHeartbeats 4000000
/-! ## the new items in order; pairs of them -/
namespace K39
open PySem PySem.Spec PyProof.Rows L2
theorem sides_ord (n : Str) : (sidesM n).Pairwise (fun a b => leS a b = true) ∧ (sidesM n).Nodup ∧ ∀ s ∈ sidesM n, PyData.strOk s = true := by
  unfold sidesM
  split <;> decide +kernel
/-- the items in order: names ascend, then sides, then fences -/
theorem known_ord {names gates : List Str} (hn : names.Pairwise (fun a b => leS a b = true)) (hnd : names.Nodup) (hok : ∀ n ∈ names, PyData.strOk n = true) (hg : gates.Pairwise (fun a b => leS a b = true)) (hgd : gates.Nodup) (gok : ∀ g ∈ gates, PyData.strOk g = true) :
    (knownM names gates).Pairwise (fun a b => leI a b = true ∧ a ≠ b) := by
  have inner : ∀ (n s : Str), PyData.strOk n = true → PyData.strOk s = true → (gates.map fun f => ((n, s, f) : Item)).Pairwise (fun a b => leI a b = true ∧ a ≠ b) := fun n s h1 h2 => by
    rw [List.pairwise_map]
    refine (List.Pairwise.and_mem.mp (hg.and hgd)).imp ?_
    rintro f f' ⟨hf, hf', h3, h4⟩
    exact ⟨by rw [leI_fence h4 h1 h2 (gok f hf) (gok f' hf')]; exact h3, fun e => h4 (by injection e with _ e; injection e)⟩
  have mid : ∀ (n : Str), PyData.strOk n = true → ∀ (ss : List Str), ss.Pairwise (fun a b => leS a b = true) → ss.Nodup → (∀ s ∈ ss, PyData.strOk s = true) → (ss.flatMap fun s => gates.map fun f => ((n, s, f) : Item)).Pairwise (fun a b => leI a b = true ∧ a ≠ b) := fun n h1 ss => by
    induction ss with
    | nil => intro _ _ _; exact .nil
    | cons s ss ih =>
      intro ho hd hk
      rw [List.flatMap_cons, List.pairwise_append]
      rw [List.pairwise_cons] at ho
      rw [List.nodup_cons] at hd
      refine ⟨inner n s h1 (hk s (List.mem_cons_self ..)), ih ho.2 hd.2 fun x hx => hk x (List.mem_cons_of_mem _ hx), fun a ha b hb => ?_⟩
      obtain ⟨f, hf, rfl⟩ := List.mem_map.mp ha
      obtain ⟨s', hs', hb⟩ := List.mem_flatMap.mp hb
      obtain ⟨f', hf', rfl⟩ := List.mem_map.mp hb
      have ne : s ≠ s' := fun e => hd.1 (e ▸ hs')
      exact ⟨by rw [leI_side ne h1 (hk s (List.mem_cons_self ..)) (hk s' (List.mem_cons_of_mem _ hs'))]; exact ho.1 s' hs', fun e => ne (by injection e with _ e; injection e)⟩
  unfold knownM
  induction names with
  | nil => exact .nil
  | cons n names ih =>
    rw [List.flatMap_cons, List.pairwise_append]
    rw [List.pairwise_cons] at hn
    rw [List.nodup_cons] at hnd
    have so := sides_ord n
    refine ⟨mid n (hok n (List.mem_cons_self ..)) _ so.1 so.2.1 so.2.2, ih hn.2 hnd.2 fun x hx => hok x (List.mem_cons_of_mem _ hx), fun a ha b hb => ?_⟩
    obtain ⟨s, hs, ha⟩ := List.mem_flatMap.mp ha
    obtain ⟨f, hf, rfl⟩ := List.mem_map.mp ha
    obtain ⟨n', hn', hb⟩ := List.mem_flatMap.mp hb
    obtain ⟨s', hs', hb⟩ := List.mem_flatMap.mp hb
    obtain ⟨f', hf', rfl⟩ := List.mem_map.mp hb
    have ne : n ≠ n' := fun e => hnd.1 (e ▸ hn')
    exact ⟨by rw [leI_name ne (hok n (List.mem_cons_self ..)) (hok n' (List.mem_cons_of_mem _ hn'))]; exact hn.1 n' hn', fun e => ne (by injection e)⟩
theorem known_mem {names gates : List Str} {i : Item} : i ∈ knownM names gates ↔ i.1 ∈ names ∧ i.2.1 ∈ sidesM i.1 ∧ i.2.2 ∈ gates := by
  obtain ⟨n, s, f⟩ := i
  constructor
  · intro h
    obtain ⟨n', hn, h⟩ := List.mem_flatMap.mp h
    obtain ⟨s', hs, h⟩ := List.mem_flatMap.mp h
    obtain ⟨f', hf, e⟩ := List.mem_map.mp h
    cases e
    exact ⟨hn, hs, hf⟩
  · rintro ⟨h1, h2, h3⟩
    exact List.mem_flatMap.mpr ⟨n, h1, List.mem_flatMap.mpr ⟨s, h2, List.mem_map.mpr ⟨f, h3, rfl⟩⟩⟩
theorem side_mem {names : List Str} {n s : Str} (hk : ∀ n ∈ kinds5, n ∈ names) : (n ∈ names ∧ s ∈ sidesM n) ↔ SideOk names n s := by
  unfold SideOk sidesM
  constructor
  · rintro ⟨h1, h2⟩
    split at h2
    · next h =>
      rcases List.mem_cons.mp h2 with rfl | h2
      · exact .inr ⟨h, .inl rfl⟩
      · exact .inr ⟨h, .inr (List.mem_singleton.mp h2)⟩
    · next h => exact .inl ⟨List.mem_singleton.mp h2, h1, h⟩
  · rintro (⟨rfl, h1, h2⟩ | ⟨h1, h2⟩)
    · exact ⟨h1, by rw [if_neg h2]; exact List.mem_singleton.mpr rfl⟩
    · refine ⟨hk n h1, ?_⟩
      rw [if_pos h1]
      rcases h2 with rfl | rfl <;> simp
/-! ### pairs -/
def twosR (mk : Item → Int) (total : Int) : List Item → List (List Item)
  | [] => []
  | a :: r => (if mk a > 0 then (r.filter fun b => Builtin.bitOr (mk a) (mk b) = total).map fun b => [a, b] else []) ++ twosR mk total r
theorem twos_eq (mk : Item → Int) (total : Int) : ∀ l : List Item, twosM l mk total = twosR mk total l
  | [] => rfl
  | a :: r => by
    unfold twosM
    rw [List.length_cons, List.range_succ_eq_map, List.flatMap_cons, List.flatMap_map]
    show twosAt (a :: r) mk total 0 a ++ _ = _
    rw [twosR, ← twos_eq mk total r]
    congr 1
theorem twosR_mem {mk : Item → Int} {total : Int} {c : List Item} : ∀ {l : List Item}, c ∈ twosR mk total l ↔ ∃ a b, c = [a, b] ∧ [a, b].Sublist l ∧ mk a > 0 ∧ Builtin.bitOr (mk a) (mk b) = total
  | [] => by
    constructor
    · intro h; cases h
    · rintro ⟨a, b, _, h, _⟩; cases h
  | x :: r => by
    rw [twosR, List.mem_append]
    constructor
    · rintro (h | h)
      · split at h
        · next hp =>
          obtain ⟨b, hb, rfl⟩ := List.mem_map.mp h
          obtain ⟨h1, h2⟩ := List.mem_filter.mp hb
          exact ⟨x, b, rfl, List.Sublist.cons_cons x (List.singleton_sublist.mpr h1), hp, of_decide_eq_true h2⟩
        · cases h
      · obtain ⟨a, b, e, h1, h2⟩ := twosR_mem.mp h
        exact ⟨a, b, e, List.Sublist.cons x h1, h2⟩
    · rintro ⟨a, b, rfl, h1, h2, h3⟩
      cases h1 with
      | cons _ h => exact .inr (twosR_mem.mpr ⟨a, b, rfl, h, h2, h3⟩)
      | cons_cons _ h =>
        left
        rw [if_pos h2]
        exact List.mem_map.mpr ⟨b, List.mem_filter.mpr ⟨List.singleton_sublist.mp h, decide_eq_true h3⟩, rfl⟩
theorem pair_sub {a b : Item} : ∀ {l : List Item}, l.Pairwise (fun a b => leI a b = true ∧ a ≠ b) → (∀ i ∈ l, iOk i) → ([a, b].Sublist l ↔ a ∈ l ∧ b ∈ l ∧ a ≠ b ∧ leI a b = true)
  | [], _, _ => by
    constructor
    · intro h; cases h
    · rintro ⟨h, _⟩; cases h
  | x :: r, hp, ho => by
    rw [List.pairwise_cons] at hp
    have ih := pair_sub (a := a) (b := b) hp.2 fun i hi => ho i (List.mem_cons_of_mem _ hi)
    constructor
    · intro h
      cases h with
      | cons _ h =>
        obtain ⟨h1, h2, h3⟩ := ih.mp h
        exact ⟨List.mem_cons_of_mem _ h1, List.mem_cons_of_mem _ h2, h3⟩
      | cons_cons _ h =>
        have hb := List.singleton_sublist.mp h
        exact ⟨List.mem_cons_self .., List.mem_cons_of_mem _ hb, (hp.1 b hb).2, (hp.1 b hb).1⟩
    · rintro ⟨h1, h2, h3, h4⟩
      rcases List.mem_cons.mp h1 with e1 | h1'
      · subst e1
        rcases List.mem_cons.mp h2 with e2 | h2'
        · exact absurd e2.symm h3
        · exact List.Sublist.cons_cons a (List.singleton_sublist.mpr h2')
      · rcases List.mem_cons.mp h2 with e2 | h2'
        · subst e2
          exact absurd (leI_antis (ho a h1) (ho b h2) h4 (hp.1 a h1').1) h3
        · exact List.Sublist.cons x (ih.mpr ⟨h1', h2', h3, h4⟩)
theorem twosR_ord {mk : Item → Int} {total : Int} : ∀ {l : List Item}, l.Pairwise (fun a b => leI a b = true ∧ a ≠ b) → (∀ i ∈ l, iOk i) → (twosR mk total l).Pairwise (fun a b => leC a b = true ∧ a ≠ b)
  | [], _, _ => .nil
  | x :: r, hp, ho => by
    rw [List.pairwise_cons] at hp
    rw [twosR, List.pairwise_append]
    have ox := ho x (List.mem_cons_self ..)
    have or_ : ∀ i ∈ r, iOk i := fun i hi => ho i (List.mem_cons_of_mem _ hi)
    refine ⟨?_, twosR_ord hp.2 or_, ?_⟩
    · split
      · rw [List.pairwise_map]
        refine (List.Pairwise.and_mem.mp (hp.2.filter _)).imp ?_
        rintro b b' ⟨hb, hb', h1, h2⟩
        have o1 := or_ b (List.mem_filter.mp hb).1
        have o2 := or_ b' (List.mem_filter.mp hb').1
        exact ⟨by rw [leC_two ox ox o1 o2, if_pos rfl]; exact h1, fun e => h2 (by simpa using e)⟩
      · exact .nil
    · intro c hc d hd
      split at hc
      · obtain ⟨b, hb, rfl⟩ := List.mem_map.mp hc
        obtain ⟨a', b', rfl, hs, _⟩ := twosR_mem.mp hd
        have ha' : a' ∈ r := hs.subset (List.mem_cons_self ..)
        have hb' : b' ∈ r := hs.subset (List.mem_cons_of_mem _ (List.mem_cons_self ..))
        have ne := (hp.1 a' ha').2
        exact ⟨by rw [leC_two ox (or_ a' ha') (or_ b (List.mem_filter.mp hb).1) (or_ b' hb'), if_neg ne]; exact (hp.1 a' ha').1, fun e => ne (by simpa using (List.cons.inj e).1)⟩
      · cases hc
/-- two sorted lists of sets with the same members are one -/
theorem lists_one {l m : List (List Item)} (hl : ∀ c ∈ l, ∀ i ∈ c, iOk i) (h1 : l.Pairwise (fun a b => leC a b = true)) (hn1 : l.Nodup) (h2 : m.Pairwise (fun a b => leC a b = true)) (hn2 : m.Nodup) (h : ∀ c, c ∈ l ↔ c ∈ m) : l = m := by
  have p : l.Perm m := (List.perm_ext_iff_of_nodup hn1 hn2).mpr h
  exact List.Perm.eq_of_pairwise (fun a b ha hb q1 q2 => eC_inj (leD_antis (n := 2) (sh_eC (hl a ha)) (sh_eC (hl b ((h b).mpr hb))) (alike_eC _ _) q1 q2)) h1 h2 p
end K39
/-! KM3 -/
set_option maxHeartbeats 4000000
/-! ## the search gives what is due -/
namespace K39
open PySem PySem.Spec PyProof.Rows L2
theorem hit_iff {n c : List Item} : hitM n c = true ↔ ∃ i ∈ n, i ∈ c := by
  unfold hitM
  rw [List.any_eq_true]
  constructor
  · rintro ⟨i, h1, h2⟩; exact ⟨i, h1, of_decide_eq_true h2⟩
  · rintro ⟨i, h1, h2⟩; exact ⟨i, h1, decide_eq_true h2⟩
theorem unmet_none {N : List (List Item)} {c : List Item} : unmetM N c = none ↔ ∀ n ∈ N, ∃ i ∈ n, i ∈ c := by
  unfold unmetM
  rw [List.find?_eq_none]
  constructor
  · intro h n hn
    have := h n hn
    refine hit_iff.mp ?_
    cases q : hitM n c with
    | true => rfl
    | false => rw [q] at this; exact absurd rfl this
  · intro h n hn
    rw [hit_iff.mpr (h n hn)]; decide
theorem unmet_some {N : List (List Item)} {c n : List Item} (h : unmetM N c = some n) : n ∈ N ∧ ∀ i ∈ n, i ∉ c := by
  have h1 := List.find?_some h
  refine ⟨unmet_mem h, fun i hi hc => ?_⟩
  rw [hit_iff.mpr ⟨i, hi, hc⟩] at h1
  cases h1
theorem enough_mem {N lv : List (List Item)} {c : List Item} : c ∈ enoughM N lv ↔ c ∈ lv ∧ ∀ n ∈ N, ∃ i ∈ n, i ∈ c := by
  unfold enoughM
  rw [List.mem_filter, Option.isNone_iff_eq_none, unmet_none]
theorem longer_mem {N lv : List (List Item)} {c : List Item} : c ∈ longerM N lv ↔ ∃ d ∈ lv, ∃ n, unmetM N d = some n ∧ ∃ x ∈ n, c = sortI (d ++ [x]) := by
  unfold longerM
  rw [List.mem_flatMap]
  constructor
  · rintro ⟨d, hd, h⟩
    unfold stepF at h
    obtain ⟨x, hx, rfl⟩ := List.mem_map.mp h
    cases q : unmetM N d with
    | none => rw [q] at hx; cases hx
    | some n => rw [q] at hx; exact ⟨d, hd, n, q, x, hx, rfl⟩
  · rintro ⟨d, hd, n, hn, x, hx, rfl⟩
    refine ⟨d, hd, ?_⟩
    unfold stepF
    rw [hn]
    exact List.mem_map.mpr ⟨x, hx, rfl⟩
theorem sortI_one (a : Item) : sortI [a] = [a] := List.perm_singleton.mp (sortI_perm [a])
theorem sortI_two {a b : Item} (ha : iOk a) (hb : iOk b) (h : leI a b = true) : sortI [a, b] = [a, b] ∧ sortI [b, a] = [a, b] := by
  have srt : [a, b].Pairwise (fun a b => leI a b = true) := by
    rw [List.pairwise_cons]
    exact ⟨fun x hx => by rw [List.mem_singleton.mp hx]; exact h, List.pairwise_singleton ..⟩
  have one : ∀ l : List Item, l.Perm [a, b] → sortI l = [a, b] := fun l p => by
    have mm : ∀ x ∈ l, iOk x := fun x hx => by
      rcases List.mem_cons.mp (p.mem_iff.mp hx) with rfl | hx
      · exact ha
      · rw [List.mem_singleton.mp hx]; exact hb
    exact List.Perm.eq_of_pairwise (fun x y hx hy q1 q2 => leI_antis (mm x ((sortI_perm l).mem_iff.mp hx)) (mm y (p.mem_iff.mpr hy)) q1 q2) (sortI_ord l) srt ((sortI_perm l).trans p)
  exact ⟨one _ (.refl _), one _ (.swap ..)⟩
section
variable {found : List Trip} {A B : Trip → List Item} {new : List Item} {q : Msk × Int}
/-- what the search meets: the law's needs and the program's agree -/
structure Agree (found : List Trip) (A B : Trip → List Item) (new : List Item) (q : Msk × Int) : Prop where
  same : ∀ t ∈ found, ∀ i, i ∈ A t ↔ i ∈ B t
  sub : ∀ t ∈ found, ∀ i ∈ A t, i ∈ new
  ord : new.Pairwise (fun a b => leI a b = true ∧ a ≠ b)
  ok : ∀ i ∈ new, iOk i
  bits : Bits new (found.map B) q
theorem Agree.all (G : Agree found A B new q) {R : List Item → Prop} (hR : ∀ n n' : List Item, (∀ i, i ∈ n ↔ i ∈ n') → (R n ↔ R n')) : (∀ n ∈ found.map B, R n) ↔ ∀ n ∈ found.map A, R n := by
  constructor
  · intro h n hn
    obtain ⟨t, ht, rfl⟩ := List.mem_map.mp hn
    exact (hR _ _ (G.same t ht)).mpr (h _ (List.mem_map.mpr ⟨t, ht, rfl⟩))
  · intro h n hn
    obtain ⟨t, ht, rfl⟩ := List.mem_map.mp hn
    exact (hR _ _ (G.same t ht)).mp (h _ (List.mem_map.mpr ⟨t, ht, rfl⟩))
theorem Agree.ones (G : Agree found A B new q) {c : List Item} : c ∈ onesM new (mkOf q.1) (q.2 - 1) ↔ ∃ a ∈ new, c = [a] ∧ ∀ n ∈ found.map A, a ∈ n := by
  unfold onesM
  rw [List.mem_map]
  constructor
  · rintro ⟨a, ha, rfl⟩
    obtain ⟨h1, h2⟩ := List.mem_filter.mp ha
    exact ⟨a, h1, rfl, (G.all (R := fun n => a ∈ n) fun n n' h => h a).mp ((G.bits.one h1).mp (of_decide_eq_true h2))⟩
  · rintro ⟨a, h1, rfl, h2⟩
    exact ⟨a, List.mem_filter.mpr ⟨h1, decide_eq_true ((G.bits.one h1).mpr ((G.all (R := fun n => a ∈ n) fun n n' h => h a).mpr h2))⟩, rfl⟩
theorem Agree.twos (G : Agree found A B new q) {c : List Item} : c ∈ twosM new (mkOf q.1) (q.2 - 1) ↔ ∃ a b, c = [a, b] ∧ a ∈ new ∧ b ∈ new ∧ a ≠ b ∧ leI a b = true ∧ (∃ n ∈ found.map A, a ∈ n) ∧ ∀ n ∈ found.map A, a ∈ n ∨ b ∈ n := by
  rw [twos_eq, twosR_mem]
  constructor
  · rintro ⟨a, b, rfl, h1, h2, h3⟩
    obtain ⟨ha, hb, ne, le⟩ := (pair_sub G.ord G.ok).mp h1
    obtain ⟨n, hn, han⟩ := (G.bits.some ha).mp h2
    obtain ⟨t, ht, rfl⟩ := List.mem_map.mp hn
    exact ⟨a, b, rfl, ha, hb, ne, le, ⟨_, List.mem_map.mpr ⟨t, ht, rfl⟩, (G.same t ht a).mpr han⟩, (G.all (R := fun n => a ∈ n ∨ b ∈ n) fun n n' h => or_congr (h a) (h b)).mp ((G.bits.two ha hb).mp h3)⟩
  · rintro ⟨a, b, rfl, ha, hb, ne, le, ⟨n, hn, han⟩, h3⟩
    obtain ⟨t, ht, rfl⟩ := List.mem_map.mp hn
    exact ⟨a, b, rfl, (pair_sub G.ord G.ok).mpr ⟨ha, hb, ne, le⟩, (G.bits.some ha).mpr ⟨_, List.mem_map.mpr ⟨t, ht, rfl⟩, (G.same t ht a).mp han⟩, (G.bits.two ha hb).mpr ((G.all (R := fun n => a ∈ n ∨ b ∈ n) fun n n' h => or_congr (h a) (h b)).mpr h3)⟩
theorem ones_ord (G : Agree found A B new q) : (onesM new (mkOf q.1) (q.2 - 1)).Pairwise (fun a b => leC a b = true ∧ a ≠ b) := by
  unfold onesM
  rw [List.pairwise_map]
  refine (List.Pairwise.and_mem.mp (G.ord.filter _)).imp ?_
  rintro a b ⟨ha, hb, h1, h2⟩
  have o1 := G.ok a (List.mem_filter.mp ha).1
  have o2 := G.ok b (List.mem_filter.mp hb).1
  exact ⟨by rw [leC_one o1 o2]; exact h1, fun e => h2 (by simpa using e)⟩
theorem Agree.level1 (G : Agree found A B new q) {n0 : List Item} {N : List (List Item)} (hN : found.map A = n0 :: N) {c : List Item} : c ∈ ascC (longerM (found.map A) [[]]) ↔ ∃ a ∈ n0, c = [a] := by
  rw [ascC_mem, longer_mem]
  have u0 : unmetM (found.map A) [] = some n0 := by
    rw [hN]
    unfold unmetM
    rw [List.find?_cons]
    have : hitM n0 [] = false := by
      cases q : hitM n0 [] with
      | false => rfl
      | true => obtain ⟨i, _, h⟩ := hit_iff.mp q; cases h
    rw [this]; rfl
  constructor
  · rintro ⟨d, hd, n, hn, x, hx, rfl⟩
    rw [List.mem_singleton.mp hd, u0] at hn
    cases hn
    rw [List.mem_singleton.mp hd]
    exact ⟨x, hx, sortI_one x⟩
  · rintro ⟨a, ha, rfl⟩
    exact ⟨[], List.mem_singleton.mpr rfl, n0, u0, a, ha, (sortI_one a).symm⟩
theorem fewest_due (G : Agree found A B new q) {m : Nat} (hm : m ≤ 2) : fewestM (found.map A) m = dueM new (mkOf q.1) (q.2 - 1) (m : Int) := by
  unfold dueM fewestM
  cases hN : found.map A with
  | nil =>
    have hB : found.map B = [] := by
      rw [List.map_eq_nil_iff] at hN ⊢
      exact hN
    rw [if_pos (G.bits.zero.mpr hB), fewLoop, if_pos]
    · exact List.perm_singleton.mp ((ascC_perm [[]]).trans (by simp [dedup]))
    · decide
  | cons n0 N =>
    have hB : found.map B ≠ [] := by
      intro h
      rw [List.map_eq_nil_iff] at h
      rw [h] at hN
      cases hN
    rw [if_neg (fun h => hB (G.bits.zero.mp h)), ← hN]
    have n0m : n0 ∈ found.map A := by rw [hN]; exact List.mem_cons_self ..
    have subA : ∀ n ∈ found.map A, ∀ i ∈ n, i ∈ new := fun n hn => by
      obtain ⟨t, ht, rfl⟩ := List.mem_map.mp hn
      exact G.sub t ht
    have e0 : ¬ (enoughM (found.map A) [[]]).length > 0 := fun h => by
      obtain ⟨c, hc⟩ := List.exists_mem_of_length_pos h
      obtain ⟨h1, h2⟩ := enough_mem.mp hc
      rw [List.mem_singleton.mp h1] at h2
      obtain ⟨i, _, h3⟩ := h2 n0 n0m
      cases h3
    rw [fewLoop, if_neg e0]
    match m, hm with
    | 0, _ => rw [if_pos (show ((0 : Nat) : Int) = 0 from rfl), fewLoop]
    | m + 1, hm =>
      rw [if_neg (by omega)]
      have lv1 := fun {c : List Item} => G.level1 hN (c := c)
      have en1 : ∀ c, c ∈ enoughM (found.map A) (ascC (longerM (found.map A) [[]])) ↔ c ∈ onesM new (mkOf q.1) (q.2 - 1) := fun c => by
        rw [enough_mem, lv1, G.ones]
        constructor
        · rintro ⟨⟨a, ha, rfl⟩, h⟩
          refine ⟨a, subA n0 n0m a ha, rfl, fun n hn => ?_⟩
          obtain ⟨i, hi, h2⟩ := h n hn
          rw [List.mem_singleton.mp h2] at hi
          exact hi
        · rintro ⟨a, ha, rfl, h⟩
          exact ⟨⟨a, h n0 n0m, rfl⟩, fun n hn => ⟨a, h n hn, List.mem_singleton.mpr rfl⟩⟩
      have oo := ones_ord G
      rw [fewLoop]
      by_cases h1 : (enoughM (found.map A) (ascC (longerM (found.map A) [[]]))).length > 0
      · rw [if_pos h1]
        have h2 : (onesM new (mkOf q.1) (q.2 - 1)).length > 0 := by
          obtain ⟨c, hc⟩ := List.exists_mem_of_length_pos h1
          exact List.length_pos_of_mem ((en1 c).mp hc)
        rw [if_pos (.inl h2)]
        refine lists_one (fun c hc i hi => ?_) (ascC_ord _) (ascC_nodup _) (oo.imp fun h => h.1) (oo.imp fun h => h.2) fun c => ascC_mem.trans (en1 c)
        obtain ⟨a, ha, rfl, _⟩ := G.ones.mp ((en1 c).mp (ascC_mem.mp hc))
        rw [List.mem_singleton.mp hi]
        exact G.ok a ha
      · rw [if_neg h1]
        have h2 : ¬ (onesM new (mkOf q.1) (q.2 - 1)).length > 0 := fun h => by
          obtain ⟨c, hc⟩ := List.exists_mem_of_length_pos h
          exact h1 (List.length_pos_of_mem ((en1 c).mpr hc))
        match m, hm with
        | 0, _ =>
          rw [if_pos (.inr (show ((0 + 1 : Nat) : Int) = 1 from rfl)), fewLoop]
          exact (List.eq_nil_of_length_eq_zero (by omega)).symm
        | 1, _ =>
          rw [if_neg (by rintro (h | h); exact h2 h; exact absurd h (by decide))]
          have noOne : ∀ a ∈ new, ¬ ∀ n ∈ found.map A, a ∈ n := fun a ha h => h2 (List.length_pos_of_mem (G.ones.mpr ⟨a, ha, rfl, h⟩))
          have en2 : ∀ c, c ∈ enoughM (found.map A) (ascC (longerM (found.map A) (ascC (longerM (found.map A) [[]])))) ↔ c ∈ twosM new (mkOf q.1) (q.2 - 1) := fun c => by
            rw [enough_mem, ascC_mem, longer_mem, G.twos]
            constructor
            · rintro ⟨⟨d, hd, n, hn, x, hx, rfl⟩, h⟩
              obtain ⟨a, ha, rfl⟩ := lv1.mp hd
              obtain ⟨hnm, hno⟩ := unmet_some hn
              have ain := subA n0 n0m a ha
              have xin := subA n hnm x hx
              have ne : a ≠ x := fun e => hno x hx (by rw [e]; exact List.mem_singleton.mpr rfl)
              have cov : ∀ k ∈ found.map A, a ∈ k ∨ x ∈ k := fun k hk => by
                obtain ⟨i, hi, hc⟩ := h k hk
                have := (sortI_perm _).mem_iff.mp hc
                rcases List.mem_cons.mp this with e | e
                · rw [e] at hi; exact .inl hi
                · rw [List.mem_singleton.mp e] at hi; exact .inr hi
              have tot := leI_total a x
              rw [Bool.or_eq_true] at tot
              rcases tot with le | le
              · exact ⟨a, x, (sortI_two (G.ok a ain) (G.ok x xin) le).1, ain, xin, ne, le, ⟨n0, n0m, ha⟩, cov⟩
              · exact ⟨x, a, (sortI_two (G.ok x xin) (G.ok a ain) le).2, xin, ain, ne.symm, le, ⟨n, hnm, hx⟩, fun k hk => (cov k hk).symm⟩
            · rintro ⟨a, b, rfl, ha, hb, ne, le, _, cov⟩
              refine ⟨?_, fun k hk => ?_⟩
              · have stepA : ∀ u v : Item, u ∈ n0 → u ∈ new → (∀ k ∈ found.map A, u ∈ k ∨ v ∈ k) → sortI ([u] ++ [v]) = [a, b] → ∃ d ∈ ascC (longerM (found.map A) [[]]), ∃ n, unmetM (found.map A) d = some n ∧ ∃ x ∈ n, [a, b] = sortI (d ++ [x]) := fun u v hu hun hc e => by
                  refine ⟨[u], lv1.mpr ⟨u, hu, rfl⟩, ?_⟩
                  cases z : unmetM (found.map A) [u] with
                  | none =>
                    refine absurd (fun n hn => ?_) (noOne u hun)
                    obtain ⟨i, hi, h3⟩ := unmet_none.mp z n hn
                    rw [List.mem_singleton.mp h3] at hi
                    exact hi
                  | some n =>
                    obtain ⟨hnm, hno⟩ := unmet_some z
                    refine ⟨n, rfl, v, ?_, e.symm⟩
                    rcases hc n hnm with h3 | h3
                    · exact absurd (List.mem_singleton.mpr rfl) (hno u h3)
                    · exact h3
                have st := sortI_two (G.ok a ha) (G.ok b hb) le
                rcases cov n0 n0m with h3 | h3
                · exact stepA a b h3 ha cov st.1
                · exact stepA b a h3 hb (fun k hk => (cov k hk).symm) st.2
              · rcases cov k hk with h3 | h3
                · exact ⟨a, h3, List.mem_cons_self ..⟩
                · exact ⟨b, h3, List.mem_cons_of_mem _ (List.mem_cons_self ..)⟩
          have to := twosR_ord (mk := mkOf q.1) (total := q.2 - 1) G.ord G.ok
          rw [← twos_eq] at to
          rw [fewLoop]
          by_cases h3 : (enoughM (found.map A) (ascC (longerM (found.map A) (ascC (longerM (found.map A) [[]]))))).length > 0
          · rw [if_pos h3]
            refine lists_one (fun c hc i hi => ?_) (ascC_ord _) (ascC_nodup _) (to.imp fun h => h.1) (to.imp fun h => h.2) fun c => ascC_mem.trans (en2 c)
            obtain ⟨a, b, rfl, ha, hb, _⟩ := G.twos.mp ((en2 c).mp (ascC_mem.mp hc))
            rcases List.mem_cons.mp hi with rfl | hi
            · exact G.ok _ ha
            · rw [List.mem_singleton.mp hi]; exact G.ok _ hb
          · rw [if_neg h3, fewLoop]
            cases z : twosM new (mkOf q.1) (q.2 - 1) with
            | nil => rfl
            | cons c l => exact absurd (List.length_pos_of_mem ((en2 c).mpr (by rw [z]; exact List.mem_cons_self ..))) h3
        | m + 2, hm => omega
end
end K39
/-! KM4 -/
set_option maxHeartbeats 4000000
/-! ## a recipe's needs; what additions do -/
namespace K39
open PySem PySem.Spec PyProof.Rows L2
def newM (marks bars : Tab) (rs : Rows) : List Item := (knownM (namesM marks) (gatesM bars)).filter fun i => decide (i.2.2 ∉ partM rs i.1 i.2.1)
section
variable {kept goal : PSet} {marks bars : Tab} {rs : Rows} (R : RecOk kept goal marks bars rs)
include R
/-- a fence that keeps the order of a pair -/
theorem keep_iff {p : Pair} (hp : p ∈ pairsM) {f : Str} (hf : f ∈ gatesM bars) : p ∈ normS (setOf (fullT bars) f) ↔ f = "full" ∨ p ∈ setOf bars f := by
  rcases gatesM_mem.mp hf with rfl | hb
  · rw [set_full R.fb]
    exact ⟨fun _ => .inl rfl, fun _ => normS_mem.mpr ⟨hp, hp⟩⟩
  · rw [set_other hb, normS_in (R.fb.tab.set f)]
    exact ⟨.inr, fun h => h.resolve_left fun e => R.fb.nofull (e ▸ hb)⟩
theorem able_iff {t : Trip} (ht : TripOk marks t) {f : Str} : f ∈ ableP rs bars t ↔ f ∈ gatesM bars ∧ (f = "full" ∨ becomesM rs t.1 t.2.2 ∈ setOf bars f) := by
  unfold ableP
  rw [List.mem_filter, decide_eq_true_eq]
  constructor
  · rintro ⟨h1, h2⟩; exact ⟨h1, (keep_iff R (becomes_in R.rows ht.pr) h1).mp h2⟩
  · rintro ⟨h1, h2⟩; exact ⟨h1, (keep_iff R (becomes_in R.rows ht.pr) h1).mpr h2⟩
theorem able_same {t : Trip} (ht : TripOk marks t) {f : Str} : f ∈ ableP rs bars t ↔ f ∈ ableM rs bars t := by
  rw [able_iff R ht]
  unfold ableM
  rw [List.mem_cons, List.mem_filter, decide_eq_true_eq, gatesM_mem]
  constructor
  · rintro ⟨h1 | h1, h2⟩
    · exact .inl h1
    · rcases h2 with h2 | h2
      · exact .inl h2
      · exact .inr ⟨h1, h2⟩
  · rintro (h | ⟨h1, h2⟩)
    · exact ⟨.inl h, .inl h⟩
    · exact ⟨.inr h1, .inr h2⟩
theorem cure_iff {t : Trip} {i : Item} : i ∈ cureM rs bars t ↔ (i.1, i.2.1) ∈ spotsM t ∧ i.2.2 ∈ ableP rs bars t := by
  obtain ⟨n, s, f⟩ := i
  constructor
  · intro h
    obtain ⟨⟨n', s'⟩, hs, h⟩ := List.mem_flatMap.mp h
    obtain ⟨f', hf, e⟩ := List.mem_map.mp h
    cases e
    exact ⟨hs, hf⟩
  · rintro ⟨h1, h2⟩
    exact List.mem_flatMap.mpr ⟨(n, s), h1, List.mem_map.mpr ⟨f, h2, rfl⟩⟩
theorem need_iff {t : Trip} {i : Item} : i ∈ needM rs bars t ↔ (i.1, i.2.1) ∈ spotsM t ∧ i.2.2 ∈ ableM rs bars t := by
  obtain ⟨n, s, f⟩ := i
  constructor
  · intro h
    obtain ⟨⟨n', s'⟩, hs, h⟩ := List.mem_flatMap.mp h
    obtain ⟨f', hf, e⟩ := List.mem_map.mp h
    cases e
    exact ⟨hs, hf⟩
  · rintro ⟨h1, h2⟩
    exact List.mem_flatMap.mpr ⟨(n, s), h1, List.mem_map.mpr ⟨f, h2, rfl⟩⟩
theorem same_needs {t : Trip} (ht : TripOk marks t) (i : Item) : i ∈ cureM rs bars t ↔ i ∈ needM rs bars t := by
  rw [cure_iff R, need_iff R, able_same R ht]
theorem cure_item {t : Trip} (ht : TripOk marks t) {i : Item} (h : i ∈ cureM rs bars t) : ItemOk' (namesM marks) (gatesM bars) i := by
  obtain ⟨h1, h2⟩ := (cure_iff R).mp h
  exact ⟨spots_side R.fm ht _ h1, ((able_iff R ht).mp h2).1⟩
theorem kept_iff {t : Trip} (ht : TripOk marks t) (g : PSet) (pd : List Str) (p : Pair) : keptByM g bars p pd = true ↔ p ∈ g ∨ ∃ f ∈ pd, f = "full" ∨ p ∈ setOf bars f := by
  unfold keptByM
  rw [Bool.or_eq_true, decide_eq_true_eq, List.any_eq_true]
  refine or_congr Iff.rfl ⟨?_, ?_⟩
  · rintro ⟨f, h1, h2⟩
    rw [Bool.or_eq_true, decide_eq_true_eq, decide_eq_true_eq] at h2
    exact ⟨f, h1, h2⟩
  · rintro ⟨f, h1, h2⟩
    exact ⟨f, h1, by rw [Bool.or_eq_true, decide_eq_true_eq, decide_eq_true_eq]; exact h2⟩
theorem lost_iff {t : Trip} (ht : TripOk marks t) : lLost1 kept marks goal bars rs t = true ↔ wantedM kept marks t.1 t.2.1 t.2.2 = true ∧ becomesM rs t.1 t.2.2 ∉ goal ∧ ∀ f ∈ passedM rs t, ¬ (f = "full" ∨ becomesM rs t.1 t.2.2 ∈ setOf bars f) := by
  rw [lost1_passed, Bool.and_eq_true, Bool.not_eq_true', ← Bool.not_eq_true, kept_iff R ht]
  refine and_congr Iff.rfl ⟨?_, ?_⟩
  · intro h
    exact ⟨fun q => h (.inl q), fun f hf q => h (.inr ⟨f, hf, q⟩)⟩
  · rintro ⟨h1, h2⟩ (q | ⟨f, hf, q⟩)
    · exact h1 q
    · exact h2 f hf q
theorem cure_new {t : Trip} (ht : t ∈ lLostM kept marks goal bars rs) {i : Item} (h : i ∈ cureM rs bars t) : i ∈ newM marks bars rs := by
  have tk := lost_trip ht
  have io := cure_item R tk h
  obtain ⟨h1, h2⟩ := (cure_iff R).mp h
  obtain ⟨h3, h4⟩ := (able_iff R tk).mp h2
  have side := (side_mem (R.rows.kin)).mpr io.side
  refine List.mem_filter.mpr ⟨known_mem.mpr ⟨side.1, side.2, io.fe⟩, decide_eq_true fun q => ?_⟩
  have l1 := ((lost_iff R tk).mp (List.mem_filter.mp ht).2).2.2
  exact l1 i.2.2 (List.mem_flatMap.mpr ⟨(i.1, i.2.1), h1, q⟩) h4
theorem new_item {i : Item} (h : i ∈ newM marks bars rs) : ItemOk' (namesM marks) (gatesM bars) i := by
  obtain ⟨h1, h2, h3⟩ := known_mem.mp (List.mem_filter.mp h).1
  exact ⟨(side_mem (R.rows.kin)).mp ⟨h1, h2⟩, h3⟩
theorem item_iok {i : Item} (h : ItemOk' (namesM marks) (gatesM bars) i) : iOk i := by
  have := side_strOk (namesM_ok R.fm).ok.1 h.side
  exact ⟨this.1, this.2, (gatesM_ok R.fb).ok.1 _ h.fe⟩
theorem agree : Agree (lLostM kept marks goal bars rs) (cureM rs bars) (needM rs bars) (newM marks bars rs) (masksM (newM marks bars rs) (lLostM kept marks goal bars rs) rs bars) where
  same := fun t ht i => same_needs R (lost_trip ht) i
  sub := fun t ht i hi => cure_new R ht hi
  ord := (known_ord (sortS_ord _) (namesM_nodup R.fm) (namesM_ok R.fm).ok.1 (sortS_ord _) (gatesM_nodup R.fb) (gatesM_ok R.fb).ok.1).filter _
  ok := fun i hi => item_iok R (new_item R hi)
  bits := bits_all fun t ht i hi => cure_new R ht ((same_needs R (lost_trip ht) i).mpr hi)
end
/-! ### additions -/
theorem row_put {rs : Rows} {n m : Str} {x : Row} (h : n ∈ rs.map (·.1)) : rowOf (rput rs n x) m = if m = n then x else rowOf rs m := by
  unfold rowOf
  rw [put_look h]
  split <;> rfl
theorem kind_add (x : Row) (s f : Str) : (normalM (addTo x s f)).kind = x.kind := by
  cases x with
  | pl g => rfl
  | ac a k b =>
    unfold addTo
    show (normalM (if s = "ahead" then Row.ac (a ++ [f]) k b else Row.ac a k (b ++ [f]))).kind = k
    split <;> rfl
section
variable {kept goal : PSet} {marks bars : Tab} {rs : Rows} (R : RecOk kept goal marks bars rs)
include R
theorem kind_put {i : Item} (h : ItemOk' (namesM marks) (gatesM bars) i) (n : Str) : (rowOf (putM rs i) n).kind = (rowOf rs n).kind := by
  have hm := (add_fit R.rows R.small (gatesM_ok R.fb).ok.1 h).1
  unfold putM
  rw [row_put (by rw [R.rows.keys]; exact hm)]
  by_cases e : n = i.1
  · rw [if_pos e, kind_add, e]
  · rw [if_neg e]
theorem becomes_put {i : Item} (h : ItemOk' (namesM marks) (gatesM bars) i) (a b : Str) : becomesM (putM rs i) a b = becomesM rs a b := by
  unfold becomesM
  rw [kind_put R h, kind_put R h]
theorem part_put {i : Item} (h : ItemOk' (namesM marks) (gatesM bars) i) {n s x : Str} (hs : SideOk (namesM marks) n s) : x ∈ partM (putM rs i) n s ↔ x ∈ partM rs n s ∨ (n, s, x) = i := by
  obtain ⟨n', s', f⟩ := i
  have hm := (add_fit R.rows R.small (gatesM_ok R.fb).ok.1 h).1
  have hm : n' ∈ namesM marks := hm
  have er : rowOf (putM rs (n', s', f)) n = if n = n' then normalM (addTo (rowOf rs n') s' f) else rowOf rs n := row_put (by rw [R.rows.keys]; exact hm)
  have hs' : SideOk (namesM marks) n' s' := h.side
  by_cases e : n = n'
  · subst e
    rw [if_pos rfl] at er
    rcases hs with ⟨rfl, h1, h2⟩ | ⟨hk, hs⟩
    · obtain ⟨g, e1, _⟩ := R.rows.atP h1 h2
      have es : s' = "row" := by
        rcases hs' with ⟨q, _⟩ | ⟨q, _⟩
        · exact q
        · exact absurd q h2
      subst es
      unfold partM
      rw [if_pos rfl, if_pos rfl, er, e1]
      show x ∈ ascS (g ++ [f]) ↔ x ∈ g ∨ _
      rw [ascS_mem, List.mem_append, List.mem_singleton]
      simp
    · obtain ⟨a, k, b, e1, _⟩ := R.rows.atK hk
      have es : s' = "ahead" ∨ s' = "behind" := by
        rcases hs' with ⟨_, _, q⟩ | ⟨_, q⟩
        · exact absurd hk q
        · exact q
      have ha : ∀ r, partM r n "ahead" = (rowOf r n).fs := fun r => by unfold partM; rw [if_neg behind_ne.2.2, if_pos rfl]
      have hb : ∀ r, partM r n "behind" = (rowOf r n).behind := fun r => by unfold partM; rw [if_neg behind_ne.1, if_neg behind_ne.2.1]
      have nab : ("ahead" : Str) ≠ "behind" := by decide +kernel
      rcases hs with rfl | rfl <;> rcases es with rfl | rfl
      · rw [ha, ha, er, e1]
        show x ∈ (normalM (if ("ahead" : Str) = "ahead" then Row.ac (a ++ [f]) k b else Row.ac a k (b ++ [f]))).fs ↔ x ∈ a ∨ _
        rw [if_pos rfl]
        show x ∈ ascS (a ++ [f]) ↔ _
        rw [ascS_mem, List.mem_append, List.mem_singleton]
        simp
      · rw [ha, ha, er, e1]
        show x ∈ (normalM (if ("behind" : Str) = "ahead" then Row.ac (a ++ [f]) k b else Row.ac a k (b ++ [f]))).fs ↔ x ∈ a ∨ _
        rw [if_neg behind_ne.2.1]
        show x ∈ ascS a ↔ _
        rw [ascS_mem]
        simp [nab]
      · rw [hb, hb, er, e1]
        show x ∈ (normalM (if ("ahead" : Str) = "ahead" then Row.ac (a ++ [f]) k b else Row.ac a k (b ++ [f]))).behind ↔ x ∈ b ∨ _
        rw [if_pos rfl]
        show x ∈ ascS b ↔ _
        rw [ascS_mem]
        simp [nab.symm]
      · rw [hb, hb, er, e1]
        show x ∈ (normalM (if ("behind" : Str) = "ahead" then Row.ac (a ++ [f]) k b else Row.ac a k (b ++ [f]))).behind ↔ x ∈ b ∨ _
        rw [if_neg behind_ne.2.1]
        show x ∈ ascS (b ++ [f]) ↔ _
        rw [ascS_mem, List.mem_append, List.mem_singleton]
        simp
  · rw [if_neg e] at er
    unfold partM
    rw [er]
    simp [e]
end
theorem puts_part {kept goal : PSet} {marks bars : Tab} : ∀ (C : List Item) {rs : Rows}, RecOk kept goal marks bars rs → (∀ i ∈ C, ItemOk' (namesM marks) (gatesM bars) i) → ∀ {n s x : Str}, SideOk (namesM marks) n s → (x ∈ partM (C.foldl putM rs) n s ↔ x ∈ partM rs n s ∨ (n, s, x) ∈ C)
  | [], rs, R, _, n, s, x, _ => by simp
  | i :: C, rs, R, h, n, s, x, hs => by
    have hi := h i (List.mem_cons_self ..)
    show x ∈ partM (C.foldl putM (putM rs i)) n s ↔ _
    rw [puts_part C (R.put hi) (fun j hj => h j (List.mem_cons_of_mem _ hj)) hs, part_put R hi hs, List.mem_cons, or_assoc]
theorem puts_becomes {kept goal : PSet} {marks bars : Tab} : ∀ (C : List Item) {rs : Rows}, RecOk kept goal marks bars rs → (∀ i ∈ C, ItemOk' (namesM marks) (gatesM bars) i) → ∀ (a b : Str), becomesM (C.foldl putM rs) a b = becomesM rs a b
  | [], rs, R, _, a, b => rfl
  | i :: C, rs, R, h, a, b => by
    have hi := h i (List.mem_cons_self ..)
    exact (puts_becomes C (R.put hi) (fun j hj => h j (List.mem_cons_of_mem _ hj)) a b).trans (becomes_put R hi a b)
section
variable {kept goal : PSet} {marks bars : Tab} {rs : Rows} (R : RecOk kept goal marks bars rs)
include R
/-- what is lost with additions -/
theorem lost_puts {C : List Item} (h : ∀ i ∈ C, ItemOk' (namesM marks) (gatesM bars) i) {t : Trip} : t ∈ lLostM kept marks goal bars (C.foldl putM rs) ↔ t ∈ lLostM kept marks goal bars rs ∧ ∀ i ∈ C, i ∉ cureM rs bars t := by
  have R2 := RecOk.puts C R h
  have key : ∀ t, TripOk marks t → (lLost1 kept marks goal bars (C.foldl putM rs) t = true ↔ lLost1 kept marks goal bars rs t = true ∧ ∀ i ∈ C, i ∉ cureM rs bars t) := fun t ht => by
    rw [lost_iff R2 ht, lost_iff R ht, puts_becomes C R h]
    constructor
    · rintro ⟨h1, h2, h3⟩
      refine ⟨⟨h1, h2, fun f hf => ?_⟩, fun i hi hc => ?_⟩
      · obtain ⟨s, hs, hf⟩ := List.mem_flatMap.mp hf
        exact h3 f (List.mem_flatMap.mpr ⟨s, hs, (puts_part C R h (spots_side R.fm ht s hs)).mpr (.inl hf)⟩)
      · obtain ⟨c1, c2⟩ := (cure_iff R).mp hc
        refine h3 i.2.2 (List.mem_flatMap.mpr ⟨(i.1, i.2.1), c1, (puts_part C R h (spots_side R.fm ht _ c1)).mpr (.inr hi)⟩) ((able_iff R ht).mp c2).2
    · rintro ⟨⟨h1, h2, h3⟩, h4⟩
      refine ⟨h1, h2, fun f hf => ?_⟩
      obtain ⟨s, hs, hf⟩ := List.mem_flatMap.mp hf
      rcases (puts_part C R h (spots_side R.fm ht s hs)).mp hf with hf | hf
      · exact h3 f (List.mem_flatMap.mpr ⟨s, hs, hf⟩)
      · exact fun q => h4 _ hf ((cure_iff R).mpr ⟨hs, (able_iff R ht).mpr ⟨(h _ hf).fe, q⟩⟩)
  constructor
  · intro ht
    have tk := lost_trip ht
    obtain ⟨h1, h2⟩ := List.mem_filter.mp ht
    obtain ⟨h3, h4⟩ := (key t tk).mp h2
    exact ⟨List.mem_filter.mpr ⟨h1, h3⟩, h4⟩
  · rintro ⟨ht, h4⟩
    have tk := lost_trip ht
    obtain ⟨h1, h2⟩ := List.mem_filter.mp ht
    exact List.mem_filter.mpr ⟨h1, (key t tk).mpr ⟨h2, h4⟩⟩
/-- each told set: none is lost, and without any one of it some is -/
theorem walk_ok {c : List Item} (hc : c ∈ fewestM ((lLostM kept marks goal bars rs).map (cureM rs bars)) 2) :
    (∀ i ∈ c, ItemOk' (namesM marks) (gatesM bars) i) ∧ lLostM kept marks goal bars (c.foldl putM rs) = [] ∧ ∀ x ∈ c, lLostM kept marks goal bars ((c.filter fun y => decide (y ≠ x)).foldl putM rs) ≠ [] := by
  have G := agree R
  rw [fewest_due G (Nat.le_refl 2)] at hc
  have none_ : ∀ {C : List Item}, (∀ i ∈ C, ItemOk' (namesM marks) (gatesM bars) i) → (∀ t ∈ lLostM kept marks goal bars rs, ∃ i ∈ C, i ∈ cureM rs bars t) → lLostM kept marks goal bars (C.foldl putM rs) = [] := fun hC h => by
    refine List.eq_nil_iff_forall_not_mem.mpr fun t ht => ?_
    obtain ⟨h1, h2⟩ := (lost_puts R hC).mp ht
    obtain ⟨i, hi, hq⟩ := h t h1
    exact h2 i hi hq
  have some_ : ∀ {C : List Item}, (∀ i ∈ C, ItemOk' (namesM marks) (gatesM bars) i) → (∃ t ∈ lLostM kept marks goal bars rs, ∀ i ∈ C, i ∉ cureM rs bars t) → lLostM kept marks goal bars (C.foldl putM rs) ≠ [] := fun hC ⟨t, ht, h⟩ e => by
    have := (lost_puts R hC).mpr ⟨ht, h⟩
    rw [e] at this
    cases this
  have inA : ∀ {t}, t ∈ lLostM kept marks goal bars rs → cureM rs bars t ∈ (lLostM kept marks goal bars rs).map (cureM rs bars) := fun h => List.mem_map.mpr ⟨_, h, rfl⟩
  unfold dueM at hc
  split at hc
  · next h =>
    have h0 := G.bits.zero.mp h
    rw [List.map_eq_nil_iff] at h0
    have ec : c = [] := List.mem_singleton.mp hc
    subst ec
    have hC : ∀ i ∈ ([] : List Item), ItemOk' (namesM marks) (gatesM bars) i := fun i hi => absurd hi (List.not_mem_nil)
    refine ⟨hC, none_ hC fun t ht => ?_, fun x hx => absurd hx (List.not_mem_nil)⟩
    rw [h0] at ht
    cases ht
  · next h =>
    rw [if_neg (by decide)] at hc
    have hne : ∃ t, t ∈ lLostM kept marks goal bars rs := by
      cases q : lLostM kept marks goal bars rs with
      | nil => exact absurd (G.bits.zero.mpr (by rw [q]; rfl)) h
      | cons t l => exact ⟨t, List.mem_cons_self ..⟩
    split at hc
    · obtain ⟨a, ha, rfl, hall⟩ := G.ones.mp hc
      have ia := new_item R ha
      have hC : ∀ i ∈ [a], ItemOk' (namesM marks) (gatesM bars) i := fun i hi => by rw [List.mem_singleton.mp hi]; exact ia
      refine ⟨hC, none_ hC fun t ht => ⟨a, List.mem_singleton.mpr rfl, hall _ (inA ht)⟩, fun x hx => ?_⟩
      have ex := List.mem_singleton.mp hx
      have e : ([a].filter fun y => decide (y ≠ x)) = [] := by rw [ex]; simp
      rw [e]
      obtain ⟨t, ht⟩ := hne
      exact some_ (C := []) (fun i hi => absurd hi (List.not_mem_nil)) ⟨t, ht, fun i hi => absurd hi (List.not_mem_nil)⟩
    · next h1 =>
      have noOne : ∀ a ∈ newM marks bars rs, ∃ t ∈ lLostM kept marks goal bars rs, a ∉ cureM rs bars t := fun a ha => by
        refine Classical.byContradiction fun q => h1 (.inl (List.length_pos_of_mem (G.ones.mpr ⟨a, ha, rfl, fun n hn => ?_⟩)))
        obtain ⟨t, ht, rfl⟩ := List.mem_map.mp hn
        exact Classical.byContradiction fun z => q ⟨t, ht, z⟩
      obtain ⟨a, b, rfl, ha, hb, ne, _, _, hall⟩ := G.twos.mp hc
      have ia := new_item R ha
      have ib := new_item R hb
      have hC : ∀ i ∈ [a, b], ItemOk' (namesM marks) (gatesM bars) i := fun i hi => by
        rcases List.mem_cons.mp hi with rfl | hi
        · exact ia
        · rw [List.mem_singleton.mp hi]; exact ib
      refine ⟨hC, none_ hC fun t ht => ?_, fun x hx => ?_⟩
      · rcases hall _ (inA ht) with q | q
        · exact ⟨a, List.mem_cons_self .., q⟩
        · exact ⟨b, List.mem_cons_of_mem _ (List.mem_cons_self ..), q⟩
      · rcases List.mem_cons.mp hx with ex | hx
        · have e : ([a, b].filter fun y => decide (y ≠ x)) = [b] := by rw [ex]; simp [ne.symm]
          rw [e]
          obtain ⟨t, ht, h2⟩ := noOne b hb
          exact some_ (fun i hi => by rw [List.mem_singleton.mp hi]; exact ib) ⟨t, ht, fun i hi => by rw [List.mem_singleton.mp hi]; exact h2⟩
        · have ex := List.mem_singleton.mp hx
          have e : ([a, b].filter fun y => decide (y ≠ x)) = [a] := by rw [ex]; simp [ne]
          rw [e]
          obtain ⟨t, ht, h2⟩ := noOne a ha
          exact some_ (fun i hi => by rw [List.mem_singleton.mp hi]; exact ia) ⟨t, ht, fun i hi => by rw [List.mem_singleton.mp hi]; exact h2⟩
end
end K39
/-! KP14 -/
set_option maxHeartbeats 4000000
/-! ## the law's told and walked -/
namespace K39
open PySem PySem.Spec PyProof.Rows L2
theorem known_len (names gates : List Str) : (knownM names gates).length ≤ 2 * gates.length * names.length :=
  flat_len (f := fun n => (sidesM n).flatMap fun s => gates.map fun f => ((n, s, f) : Item)) (n := 2 * gates.length) (fun n => by
    have h1 := flat_len (f := fun s => gates.map fun f => ((n, s, f) : Item)) (n := gates.length) (fun s => by rw [List.length_map]; exact Nat.le_refl _) (sidesM n)
    have h2 := sides_len n
    refine Nat.le_trans h1 ?_
    rw [Nat.mul_comm]
    exact Nat.mul_le_mul_right _ h2) names
theorem names_nine {marks : Tab} (F : FenOk marks) : (namesM marks).length ≤ 9 := by
  unfold namesM
  rw [sortS_len, List.length_append, List.length_map, show barred7.length = 7 from rfl]
  have := F.two
  omega
theorem known_few {marks bars : Tab} (Fm : FenOk marks) (Fb : FenOk bars) : (knownM (namesM marks) (gatesM bars)).length ≤ 54 := by
  refine Nat.le_trans (known_len _ _) ?_
  have h1 := names_nine Fm
  have h2 := gates_three Fb
  calc 2 * (gatesM bars).length * (namesM marks).length ≤ 2 * 3 * 9 := Nat.mul_le_mul (Nat.mul_le_mul_left _ h2) h1
    _ = 54 := rfl
theorem due_len {new : List Item} {mk : Item → Int} {total most : Int} (h : new.length ≤ 100) : (dueM new mk total most).length ≤ 10000 := by
  unfold dueM
  split
  · decide
  · split
    · exact Nat.zero_le _
    · split
      · unfold onesM
        rw [List.length_map]
        exact Nat.le_trans (List.length_filter_le _ _) (Nat.le_trans h (by decide))
      · unfold twosM
        refine Nat.le_trans (flat_len (n := 100) (fun k => ?_) (List.range new.length)) (by rw [List.length_range]; omega)
        split
        · unfold twosAt
          split
          · rw [List.length_map]
            exact Nat.le_trans (List.length_filter_le _ _) (by rw [List.length_drop]; omega)
          · exact Nat.zero_le _
        · exact Nat.zero_le _
theorem sh_lists {L : List (List Item)} (h : ∀ c ∈ L, ∀ i ∈ c, iOk i) : D.sh 3 (.lst (L.map eC)) := shs_all.mpr fun d hd => by
  obtain ⟨c, hc, rfl⟩ := List.mem_map.mp hd
  exact sh_eC (h c hc)
theorem sh_trips {L : List Trip} {marks : Tab} (F : FenOk marks) (h : ∀ t ∈ L, TripOk marks t) : D.sh 2 (.lst (L.map eT)) := shs_all.mpr fun d hd => by
  obtain ⟨⟨a, f, b⟩, hc, rfl⟩ := List.mem_map.mp hd
  have ht := h _ hc
  have pk := pairs_ok ht.pr
  refine ⟨pk.1, ?_, pk.2, True.intro⟩
  cases f with
  | none => exact True.intro
  | some g => exact (namesM_ok F).ok.1 g (gate_name F (ht.fe g rfl)).1
section
variable {P : Program} {w : World} {K : PySem.W.Frag} {mg : Str → Option Value} {bs : Heap} {X : Cx} {E : En}
/-- sorted(["full"] + list(t)) -/
theorem h_gates {e : Expr} {p1 p2 p3 p4 p5 p6 p7 : Pos} {j : Nat} {t : Tab} (T : Hd X.K X.mg) (hu : X.A.units + 64 < cLine) (F : FenOk t) (he : HasD X E e (eTab t))
    (HC : ∀ {L : List Str}, Hd X.K X.mg → CallOk X (.builtin "sorted") [.lst ((("full" : Str) :: L).map D.str)] (.nL ((sortS (("full" : Str) :: L)).map D.str)) → L.length ≤ 100 → HasR X E (.Call (.Name "list" p3) [e] [] p4) (.nL (L.map D.str)) → HasD X E (.Call (.Name "sorted" p1) [.BinOp (.List [.Constant (.str "full") j p2] p5) .Add (.Call (.Name "list" p3) [e] [] p4) p6] [] p7) (.lst ((sortS (("full" : Str) :: L)).map D.str)) := by
      exact fun T hc hl h => h_settle (h_callB hc T.n_sorted PyProof.Rows.boot_sorted (a1 (d_is (h_settle (h_op (o_cat (ds := [D.str "full"]) (by rw [List.length_map]; show 1 + _ ≤ 1000; omega)) (h_settle (h_lst (a1 h_str))) (h_settle h))) rfl))))
    (HL : Hd X.K X.mg → HasD X E e (eTab t) → HasR X E (.Call (.Name "list" p3) [e] [] p4) (.nL (keysD (t.map fun p => (p.1, eS p.2)))) := by exact fun T he => h_callT (f_listD rfl) T.n_list PyProof.Rows.boot_list (a1 he)) :
    HasD X E (.Call (.Name "sorted" p1) [.BinOp (.List [.Constant (.str "full") j p2] p5) .Add (.Call (.Name "list" p3) [e] [] p4) p6] [] p7) (eNs (gatesM t)) :=
  HC T (f_sortedS hu (fun x hx => by
    rcases List.mem_cons.mp hx with rfl | hx
    · exact full_strOk
    · exact F.tab.ok.1 x hx) (by rw [List.length_cons]; have := F.tab.ok.2; omega)) F.tab.ok.2 (r_is (HL T he) (by rw [keys_tab]))
def G_told (K : PySem.W.Frag) : List D → Rs → Prop := fun ds r => ∃ (kept goal : PSet) (marks bars : Tab) (rs : Rows) (sizes : List Int), ds = [oRec K kept goal marks bars rs, .lst [eS kept, eTab marks, eS goal, eTab bars], eRows rs, eNums sizes] ∧ RecOk kept goal marks bars rs ∧ (∀ z ∈ sizes, ∃ m : Nat, m ≤ 2 ∧ z = (m : Int)) ∧ r = .val (.bl true)
theorem kn_told (T : Hd K mg) : Kn P w K mg bs CX0 7 "_law_told" ["_law_made", "_law_books", "_law_rows_here", "_law_sizes"] (spG K (G_told K)) := by
  refine k_l_told T ?_ ?_
  · rintro ds r ⟨_, _, _, _, _, _, rfl, _⟩; rfl
  · rintro c ds r hr ⟨kept, goal, marks, bars, rs, sizes, rfl, R, hz, rfl⟩
    have hu := ru1 hr
    let rc := oRec K kept goal marks bars rs
    let bk := D.lst [eS kept, eTab marks, eS goal, eTab bars]
    have W := R.law
    have G := agree R
    let L := lLostM kept marks goal bars rs
    let new := newM marks bars rs
    let q := masksM new L rs bars
    have tok : ∀ t ∈ L, TripOk marks t := fun t ht => lost_trip ht
    refine q_unpack (h_var 1) (g_lst4 4 5 6 7 sc_l_told.nd) ⟨Nat.le_of_ble_eq_true rfl, Nat.le_of_ble_eq_true rfl, Nat.le_of_ble_eq_true rfl, Nat.le_of_ble_eq_true rfl, _, _, _, _, rfl, rfl⟩ ?_
    refine q_asg 8 sc_l_told.nd (h_settle (h_call (kn_llost T) (hr.mono (by decide)) (a5 (h_var 4) (h_var 5) (h_var 6) (h_var 7) (h_var 2)) ⟨_, _, kept, marks, goal, bars, rs, rfl, W, rfl⟩)) ?_
    rintro _ rfl
    refine q_asg 9 sc_l_told.nd (r := .val (.lst ((knownM (namesM marks) (gatesM bars)).map eK))) (h_settle (h_call (kn_known T) (hr.mono (by decide)) (a2 (d := eNs (namesM marks)) (d_is (h_settle (h_callT (f_listD rfl) T.n_list PyProof.Rows.boot_list (a1 (h_var 2)))) (by rw [keys_rows, ← R.rows.keys]; show D.lst _ = D.lst _; rw [List.map_map]; rfl)) (h_gates T (ru64 hr) R.fb (h_var 7))) ⟨_, _, rfl, (namesM_ok R.fm).ok, (gatesM_ok R.fb).ok, rfl⟩)) ?_
    rintro _ rfl
    let E9 := fun (o10 o11 o12 o13 o14 : Option Sl) => ([some (.val rc), some (.val bk), some (.val (eRows rs)), some (.val (eNums sizes)), some (.val (eS kept)), some (.val (eTab marks)), some (.val (eS goal)), some (.val (eTab bars)), some (.val (.lst (L.map eT))), some (.val (.lst ((knownM (namesM marks) (gatesM bars)).map eK))), o10, o11, o12, o13, o14, none] : En)
    refine s_cons (M := fun E' => ∃ l, E' = E9 (some (.oL l (new.map eK))) none none none none)
      (h_setLcL eK eK (fun i : Item => decide (i.2.2 ∉ partM rs i.1 i.2.1)) (L := knownM (namesM marks) (gatesM bars)) 10 15 eK_inj sc_l_told.nd (k_list (h_var 9)) (Nat.le_trans (known_few R.fm R.fb) (by decide))
        (fun j i hi b => ⟨ts_one ?_, fun _ => h_var 15⟩) (pls_mapG (fun a => rfl) _) (fun l => ⟨l, rfl⟩)) ?_
    · have hm := mem_of_get hi
      obtain ⟨k1, k2, k3⟩ := known_mem.mp hm
      have so := (side_mem R.rows.kin).mp ⟨k1, k2⟩
      have po := part_ok R.rows so
      exact t_cmp (c_ninTS (L := partM rs i.1 i.2.1) (ru65 hr) ((gatesM_ok R.fb).ok.1 _ k3) po.1.1) (h_ix (i_tup (j := 2) rfl) (h_item (h_var 15)) h_int) (h_call (kn_part T) (hr.mono (by decide)) (ha_cons (h_var 2) (a2 (h_ix (i_tup (j := 0) rfl) (h_item (a := i) (h_var 15)) h_int) (h_ix (i_tup (j := 1) rfl) (h_item (a := i) (h_var 15)) h_int))) ⟨_, _, rs, i.1, i.2.1, rfl, R.rows, so, rfl⟩)
    rintro _ ⟨l10, rfl⟩
    refine q_settle 10 ?_
    have newlen : new.length ≤ 54 := Nat.le_trans (List.length_filter_le _ _) (known_few R.fm R.fb)
    have newnd : new.Nodup := G.ord.imp fun h => h.2
    refine q_unpack (d := .lst [.dtt q.1, .int (q.2 - 1)]) (h_settle (h_call (kn_masks T) (hr.mono (by decide)) (ha_cons (h_var 10) (ha_cons (h_var 8) (a2 (h_var 2) (h_var 7)))) ⟨_, _, rs, bars, new, L, rfl, R.rows, R.fb.tab, newnd, Nat.le_trans newlen (by decide), Nat.le_trans (lost_len R.fm) (by decide), fun t ht => ⟨(pairs_first (tok t ht).pr).1, (pairs_first (tok t ht).pr).2, fun i hi => G.sub t ht i ((G.same t ht i).mpr hi)⟩, rfl⟩))
      (g_lst2 11 12 sc_l_told.nd) ⟨Nat.le_of_ble_eq_true rfl, Nat.le_of_ble_eq_true rfl, _, _, rfl, rfl⟩ ?_
    refine q_for (fun i E' => ∃ o13 o14, E' = E9 (some (.val (.lst (new.map eK)))) (some (.val (.dtt q.1))) (some (.val (.int (q.2 - 1)))) o13 o14) (fun E' => ∃ o13 o14, E' = E9 (some (.val (.lst (new.map eK)))) (some (.val (.dtt q.1))) (some (.val (.int (q.2 - 1)))) o13 o14)
      (k_list (h_var 3)) (g_name 13 sc_l_told.nd) ⟨_, _, rfl⟩ ?_ (fun _ h => h) ?_
    · rintro i d E' hd ⟨o13, o14, rfl⟩
      obtain ⟨z, hz1, rfl⟩ := map_get hd
      obtain ⟨m, hm, rfl⟩ := hz z (mem_of_get hz1)
      refine ⟨_, ⟨Nat.le_of_ble_eq_true rfl, rfl⟩, ?_⟩
      let fw := fewestM (L.map (cureM rs bars)) m
      have fd : fw = dueM new (mkOf q.1) (q.2 - 1) (m : Int) := fewest_due G hm
      refine q_asg 14 sc_l_told.nd (r := .nL (fw.map eC)) (h_call (kn_fewest T) (hr.mono (by decide)) (a2 (h_var 0) (h_var 13)) ⟨kept, goal, marks, bars, rs, m, rfl, R, hm, rfl⟩) ?_
      rintro _ ⟨l14, rfl⟩
      have fok : ∀ c ∈ fw, ∀ i ∈ c, iOk i := fun c hc i hi => by
        rw [fd] at hc
        have : i ∈ new := by
          unfold dueM at hc
          split at hc
          · rw [List.mem_singleton.mp hc] at hi; cases hi
          · split at hc
            · cases hc
            · split at hc
              · obtain ⟨a, ha, rfl, _⟩ := G.ones.mp hc
                rw [List.mem_singleton.mp hi]; exact ha
              · obtain ⟨a, b, rfl, ha, hb, _⟩ := G.twos.mp hc
                rcases List.mem_cons.mp hi with rfl | hi
                · exact ha
                · rw [List.mem_singleton.mp hi]; exact hb
        exact G.ok i this
      have shf := sh_lists fok
      have few : fw.length < 100000 := by
        rw [fd]
        exact Nat.lt_of_le_of_lt (due_len (Nat.le_trans newlen (by decide))) (by decide)
      refine q_when (k := false) (t_lend (t_cmp (c_neD (n := 3) (m := 3) (d := .lst (fw.map eC)) (e := .lst (fw.map eC)) (ru64 hr) shf shf (by simp)) (h_var 14) (d_is (h_settle (h_call (kn_due T) (hr.mono (by decide)) (ha_cons (h_var 10) (ha_cons (h_var 11) (a2 (h_var 12) (h_var 13)))) ⟨new, q.1, q.2 - 1, (m : Int), rfl, ⟨Nat.le_trans newlen (by decide), fun a ha => G.bits.ok.get ha⟩, rfl⟩)) (by rw [fd])))) (fun h => nomatch h) fun _ => ?_
      refine s_one (h_append 14 (ds := fw.map eC) (h_tup ha_nil) (by rw [List.length_map]; exact few) ⟨_, _, rfl⟩)
    · rintro _ ⟨o13, o14, rfl⟩
      exact s_one (h_ret h_bl fun s hs => hs)
end
end K39
/-! KP15 -/
set_option maxHeartbeats 4000000
/-! ## the law's walked -/
namespace K39
open PySem PySem.Spec PyProof.Rows L2
theorem few_len {kept goal : PSet} {marks bars : Tab} {rs : Rows} (R : RecOk kept goal marks bars rs) {c : List Item} (hc : c ∈ fewestM ((lLostM kept marks goal bars rs).map (cureM rs bars)) 2) : c.length ≤ 2 := by
  have G := agree R
  rw [fewest_due G (Nat.le_refl 2)] at hc
  unfold dueM at hc
  split at hc
  · rw [List.mem_singleton.mp hc]; decide
  · split at hc
    · cases hc
    · split at hc
      · obtain ⟨a, ha, rfl, _⟩ := G.ones.mp hc
        show 1 ≤ 2
        decide
      · obtain ⟨a, b, rfl, _⟩ := G.twos.mp hc
        exact Nat.le_refl 2
section
variable {P : Program} {w : World} {K : PySem.W.Frag} {mg : Str → Option Value} {bs : Heap} {X : Cx} {E : En}
def G_walked (K : PySem.W.Frag) : List D → Rs → Prop := fun ds r => ∃ (kept goal : PSet) (marks bars : Tab) (rs : Rows), ds = [oRec K kept goal marks bars rs, .lst ((fewestM ((lLostM kept marks goal bars rs).map (cureM rs bars)) 2).map eC)] ∧ RecOk kept goal marks bars rs ∧ r = .val (.bl true)
/-- lost(added(made, a list)) -/
theorem h_lostAdd {e1 e2 : Expr} {p1 p2 p3 p4 : Pos} {kept goal : PSet} {marks bars : Tab} {rs : Rows} {ch : List Item} (T : Hd X.K X.mg) (hr : Room 6 X.A) (R : RecOk kept goal marks bars rs) (hch : ∀ i ∈ ch, ItemOk' (namesM marks) (gatesM bars) i) (h1 : HasD X E e1 (oRec X.K kept goal marks bars rs)) (h2 : HasD X E e2 (eNd ch))
    (HA1 : HasD X E e1 (oRec X.K kept goal marks bars rs) → HasD X E e2 (eNd ch) → HA X E [e1, e2] [oRec X.K kept goal marks bars rs, eNd ch] := by exact fun a b => a2 a b)
    (HC : ∀ {rs2 : Rows}, Hd X.K X.mg → Room 6 X.A → HA X E [e1, e2] [oRec X.K kept goal marks bars rs, eNd ch] → G_added X.K [oRec X.K kept goal marks bars rs, eNd ch] (.val (oRec X.K kept goal marks bars rs2)) → RecOk kept goal marks bars rs2 → HasD X E (.Call (.Name "lost" p1) [.Call (.Name "added" p2) [e1, e2] [] p3] [] p4) (.lst ((lLostM kept marks goal bars rs2).map eT)) := by
      exact fun T hr ha hG R2 => h_settle (h_call (kn_lost T) (hr.mono (by decide)) (a1 (h_call (kn_added T) (hr.mono (by decide)) ha hG)) ⟨_, _, _, _, _, rfl, R2, rfl⟩)) :
    HasD X E (.Call (.Name "lost" p1) [.Call (.Name "added" p2) [e1, e2] [] p3] [] p4) (.lst ((lLostM kept marks goal bars (ch.foldl putM rs)).map eT)) :=
  HC T hr (HA1 h1 h2) ⟨kept, goal, marks, bars, rs, ch, rfl, R, hch, rfl⟩ (RecOk.puts ch R hch)
theorem kn_walked (T : Hd K mg) : Kn P w K mg bs CX0 7 "_law_walked" ["_law_made", "_law_told_here"] (spG K (G_walked K)) := by
  refine k_l_walked T ?_ ?_
  · rintro ds r ⟨_, _, _, _, _, rfl, _⟩; rfl
  · rintro c ds r hr ⟨kept, goal, marks, bars, rs, rfl, R, rfl⟩
    have hu := ru1 hr
    let rc := oRec K kept goal marks bars rs
    let fw := fewestM ((lLostM kept marks goal bars rs).map (cureM rs bars)) 2
    refine q_for (fun i E' => ∃ o2 o3, E' = [some (.val rc), some (.val (.lst (fw.map eC))), o2, o3, none] ∧ NoOwn o3) (fun E' => True)
      (k_list (ds := (fw.take 2).map eC) (d_is (h_settle (h_sliceL (k := 2) (h_var 1) h_int)) (by rw [List.map_take]))) (g_name 2 sc_l_walked.nd) ⟨_, _, rfl, .inl rfl⟩ ?_ (fun _ _ => True.intro) ?_
    · rintro i d E' hd ⟨o2, o3, rfl, n3⟩
      obtain ⟨ch, hch, rfl⟩ := map_get hd
      have hcm : ch ∈ fw := List.mem_of_mem_take (mem_of_get hch)
      obtain ⟨hit, hnone, hsome⟩ := walk_ok R hcm
      have iok : ∀ x ∈ ch, iOk x := fun x hx => item_iok R (hit x hx)
      refine ⟨_, ⟨Nat.le_of_ble_eq_true rfl, rfl⟩, ?_⟩
      have shN : D.sh 2 (.lst ([] : List D)) := True.intro
      refine q_when (N := ⟨_, _, _, _⟩) (k := false) (t_w (w_or (k1 := false) (k2 := false) (t_not (k := true) (t_val (h_isi (y := "") T.n_isinstance T.n_tuple PyProof.Rows.boot_tuple (h_var 2) (t := "tuple") rfl rfl))) fun _ =>
        w_or1 (t_cmp (c_neD (n := 2) (m := 2) (d := .lst []) (e := .lst []) (ru64 hr) shN shN (by simp)) (d_is (h_lostAdd T (hr.mono (by decide)) R hit (h_var 0) (h_settle (h_callT f_listT T.n_list PyProof.Rows.boot_list (a1 (h_var 2))))) (by rw [hnone]; rfl)) (h_settle (h_lst ha_nil))))) (fun h => nomatch h) fun _ => ?_
      refine s_one (h_for (fun k E' => ∃ o3, E' = [some (.val rc), some (.val (.lst (fw.map eC))), some (.val (eC ch)), o3, none] ∧ NoOwn o3)
        (k_tup (ds := ch.map eI) (h_var 2)) (g_name 3 sc_l_walked.nd) ⟨_, rfl, n3⟩ ?_ (fun E' h => ?_))
      · rintro k d E' hd ⟨o3, rfl, n3⟩
        obtain ⟨x, hx, rfl⟩ := map_get hd
        have hxm := mem_of_get hx
        refine ⟨_, ⟨Nat.le_of_ble_eq_true rfl, rfl⟩, ?_⟩
        let c2 := ch.filter fun y => decide (y ≠ x)
        have hit2 : ∀ y ∈ c2, ItemOk' (namesM marks) (gatesM bars) y := fun y hy => hit y (List.mem_filter.mp hy).1
        have ne := hsome x hxm
        have shL : D.sh 2 (.lst ((lLostM kept marks goal bars (c2.foldl putM rs)).map eT)) := sh_trips R.fm fun t ht => lost_trip ht
        refine s_one (h_ifS (k := false) (t_cmp (c_eqD (n := 2) (m := 2) (d := .lst ((lLostM kept marks goal bars (c2.foldl putM rs)).map eT)) (e := .lst []) (ru64 hr) shL shN ?_) (h_lostAdd T (hr.mono (by decide)) R hit2 (h_var 0)
          (h_settle (h_lcM eI eI (fun y => decide (y ≠ x)) (L := ch) 4 eI_inj sc_l_walked.nd (k_tup (h_var 2)) (Nat.le_trans ?_ (by decide : 2 ≤ 100000)) (fun j y hy b => ⟨ts_one (t_cmp (c_neD (n := 1) (m := 1) (d := eI y) (e := eI x) (ru64 hr) (sh_eI (iok y (mem_of_get hy))) (sh_eI (iok x hxm)) ?_) (h_var 4) (h_var 3)), fun _ => h_var 4⟩)))) (h_settle (h_lst ha_nil))) (fun h => nomatch h) fun _ => s_nil ⟨some (.val (eI x)), rfl, .inr ⟨_, rfl⟩⟩)
        · constructor
          · intro h; cases h
          · intro h
            have h2 := D.lst.inj h
            rw [List.map_eq_nil_iff] at h2
            exact absurd h2 ne
        · have := few_len R hcm
          exact this
        · rw [decide_eq_true_eq]
          exact ⟨fun h e => h (eI_inj _ _ e), fun h e => h (by rw [e])⟩
      · obtain ⟨o3, rfl, n3⟩ := h
        exact ⟨_, _, rfl, n3⟩
    · intro E' _
      exact s_one (h_ret h_bl fun s hs => hs)
end
end K39
/-! KNear0 -/
set_option maxHeartbeats 4000000
/-! ## a def that is handed an own dict -/
namespace K39
open PySem PySem.Spec PyProof.Rows L2
/-- the own dict at l, handed as the argument that reads .ptr l -/
def spN (K : PySem.W.Frag) (G : List D → Addr → List (Str × D) → Rs → Prop) : Sp := fun vs H Q _ => ∃ B ds l kvs ks r, H l = some (.dK ks) ∧ RepsD K B ks kvs ∧ Ex B (lessH H [l]) ∧ Reps K B vs ds ∧ G ds l kvs r ∧ ∀ v s H', r.ok s → Out K ⟨B, lessH H [l], []⟩ [] (lessH H [l]) H' v s → Q v H'
theorem owns_set_one {s : Sl} : ∀ {L : En} {j : Nat}, owns L = [] → j < L.length → owns (L.set j (some s)) = s.own
  | [], _, _, h => by simp at h
  | o :: L, 0, h, _ => by
    rw [owns_cons, List.append_eq_nil_iff] at h
    rw [List.set_cons_zero, owns_cons, h.2, List.append_nil]
    rfl
  | o :: L, j + 1, h, hj => by
    rw [owns_cons, List.append_eq_nil_iff] at h
    rw [List.set_cons_succ, owns_cons, h.1, List.nil_append]
    exact owns_set_one h.2 (by simpa using hj)
section
variable {P : Program} {w : World} {K : PySem.W.Frag} {mg : Str → Option Value} {bs : Heap}
theorem SR.startN {N : List Str} {H B : Hp} {l : Addr} {kvs : List (Str × D)} {ks : List (Key × V)} {vs : List V} {ds : List D} {j : Nat} (hl : H l = some (.dK ks)) (rk : RepsD K B ks kvs) (e : Ex B (lessH H [l])) (r : Reps K B vs ds) (hj : ds[j]? = some (.ptr l)) (hlen : ds.length ≤ N.length) :
    SR K ⟨B, lessH H [l], []⟩ ((args ds (N.length - ds.length)).set j (some (.oD l kvs))) [] (L2.start N vs) H := by
  have hjl : j < (args ds (N.length - ds.length)).length := by
    have := lt_of_get hj
    unfold args
    rw [List.length_append, List.length_map]
    omega
  have ho : ow ⟨B, lessH H [l], []⟩ ((args ds (N.length - ds.length)).set j (some (.oD l kvs))) = [l] := by
    show owns (_ ++ []) = _
    rw [List.append_nil, owns_set_one (args_owns _ _) hjl]
    rfl
  have hb : Ex B (base ⟨B, lessH H [l], []⟩ H [l]) := fun a o q => by
    have q2 := e a o q
    have h1 : a ∉ [l] := fun z => by rw [lessH_in z] at q2; cases q2
    rw [base_old (F := ⟨B, lessH H [l], []⟩) h1 q2]
    exact q
  refine ⟨?_, fun i s h => ?_, fun s h => (by simp at h), fun p hp => (by simp at hp), lessH_ex _ _, e, by rw [ho]; simp, fun a h => by rw [ho] at h; exact lessH_in h⟩
  · unfold L2.start args
    simp [r.len]
  · rw [ho]
    by_cases hi : i = j
    · subst hi
      rw [List.getElem?_set_self hjl] at h
      cases h
      obtain ⟨v, h1, h2⟩ := r.get hj
      cases h2
      refine ⟨.ref l, ?_, rfl, ks, hl, RepsD.le hb.le rk⟩
      unfold L2.start
      have hi' := lt_of_get h1
      rw [List.getElem?_append_left (by simpa using hi'), List.getElem?_map, h1]
      rfl
    · rw [List.getElem?_set_ne (Ne.symm hi)] at h
      unfold args at h
      by_cases hd : i < ds.length
      · rw [List.getElem?_append_left (by simpa using hd), List.getElem?_map, List.getElem?_eq_getElem hd] at h
        have h' : Sl.val ds[i] = s := by simpa using h
        subst h'
        obtain ⟨v, h1, h2⟩ := r.get (List.getElem?_eq_getElem hd)
        refine ⟨v, ?_, Rep.le hb.le h2⟩
        unfold L2.start
        have hi' := lt_of_get h1
        rw [List.getElem?_append_left (by simpa using hi'), List.getElem?_map, h1]
        rfl
      · rw [List.getElem?_append_right (by simpa using Nat.le_of_not_lt hd)] at h
        rw [List.getElem?_replicate] at h
        split at h <;> cases h
theorem fnN_ok {x qual : Str} {st : Stmt} {dvs : List V} {kws : List (Str × V)} {f : Addr} {fd : FuncData} {N ps : List Str} {k : Nat} {G : List D → Addr → List (Str × D) → Rs → Prop} (F : L2.FunD K x qual (defArgs st) (defBody st) (defScope st) dvs kws f fd) (sc : FnScope N ps (defScope st)) (hl : ps.length ≤ N.length) (j : Nat)
    (len : ∀ ds l kvs r, G ds l kvs r → ds.length = ps.length ∧ ds[j]? = some (.ptr l))
    (hb : ∀ (c : Cc) (ds : List D) (l : Addr) (kvs : List (Str × D)) (r : Rs), Room k (Cc.cx P w K mg bs N qual st c).A → G ds l kvs r → HasSs (Cc.cx P w K mg bs N qual st c) ((args ds (N.length - ds.length)).set j (some (.oD l kvs))) (defBody st) ⟨fun _ => r = .val .non, r.ok, fun _ => False, fun _ => False⟩) :
    FnOk P w K mg bs CX0 (k + 1) f fd ps (spN K G) := by
  refine L2.FunD.ok F sc (fun vs H Q E ⟨B, ds, l, kvs, ks, r, _, _, _, hr, hG, _⟩ => by rw [hr.len]; exact (len ds l kvs r hG).1) fun cdv A outer s H vs Q E hr ⟨B, ds, l, kvs, ks, r, hH, rk, eB, hR, hG, kQ⟩ => ?_
  obtain ⟨l1, l2⟩ := len ds l kvs r hG
  refine ⟨_, PSs.nox (hb ⟨cdv, A, outer, s, H, E, f⟩ ds l kvs r hr hG), ⟨B, lessH H [l], []⟩, [], SR.startN hH rk eB hR l2 (by rw [l1]; exact hl), fun E' σ' H' hn S' => ?_, fun v s H' hs ok => ?_, fun _ _ _ h => h.elim, fun _ _ _ h => h.elim⟩
  · subst hn
    exact kQ .non (.val .non) H' rfl (.val S'.ex .non)
  · refine kQ v s H' hs ⟨ok.ex, ?_, ok.new, ok.nd⟩
    rw [List.append_nil]
    exact ok.rep
theorem knN_of {x : Str} {st : Stmt} {N ps : List Str} {k : Nat} {G : List D → Addr → List (Str × D) → Rs → Prop} (F : ∃ fd, L2.FunD K x x (defArgs st) (defBody st) (defScope st) [] [] (He.ga K x) fd) (g : mg x = some (.ref (He.ga K x))) (sc : FnScope N ps (defScope st)) (hl : ps.length ≤ N.length) (j : Nat)
    (hbind : ∀ (kV doc pm : Value) (an : Option Addr) (cdv ct : Value) (us : List Value), us.length = ps.length → bindArgs (PySem.W.fnOf x x (defArgs st) (defBody st) (defScope st) .none kV doc pm an cdv ct) ⟨us, []⟩ = pure (ps.zip us))
    (len : ∀ ds l kvs r, G ds l kvs r → ds.length = ps.length ∧ ds[j]? = some (.ptr l))
    (hb : ∀ (c : Cc) (ds : List D) (l : Addr) (kvs : List (Str × D)) (r : Rs), Room k (Cc.cx P w K mg bs N x st c).A → G ds l kvs r → HasSs (Cc.cx P w K mg bs N x st c) ((args ds (N.length - ds.length)).set j (some (.oD l kvs))) (defBody st) ⟨fun _ => r = .val .non, r.ok, fun _ => False, fun _ => False⟩) :
    Kn P w K mg bs CX0 (k + 1) x ps (spN K G) := by
  obtain ⟨fd, F⟩ := F
  exact ⟨_, fd, fnN_ok F sc hl j len hb, F.bindsN hbind, F.kp, g⟩
end
/-! ### the caller -/
section
variable {K : PySem.W.Frag} {F : Fm} {E : En} {τ : List (V × D)} {σ : L2.St} {H H' : Hp}
/-- an own thing changed or gone, its name set anew -/
theorem SR.mutPut (S : SR K F E τ σ H) {i : Nat} {s s' : Sl} {v : V} (hs : E[i]? = some (some s)) (ho : ∀ l ∈ s'.own, l ∈ s.own ∨ H l = none) (hn : s'.own.Nodup) (k : ∀ a o, a ∉ s.own → H a = some o → H' a = some o)
    (hv : RepS K (base F H' (ow F (E.set i (some s')))) H' v s') : SR K F (E.set i (some s')) τ (σ.set i (some v)) H' := by
  have hiE : i < E.length := (List.getElem?_eq_some_iff.mp hs).1
  have hiS : i < σ.length := by rw [S.len]; exact hiE
  have hso : ∀ l ∈ s.own, l ∈ ow F E := fun l hl => mem_ow.mpr (.inl ⟨i, s, hs, hl⟩)
  have b1 : Ex (base F H (ow F E)) (base F H' (s'.own ++ ow F E)) := base_mono (fun a u h1 _ q => k a u (fun z => h1 (hso a z)) q) fun a ha => by
    rcases List.mem_append.mp ha with z | z
    · rcases ho a z with y | y
      · exact .inl (hso a y)
      · refine .inr ?_
        by_cases h1 : a ∈ ow F E
        · exact base_in h1
        · rw [base_new h1 (S.free y)]; exact y
    · exact .inl z
  have b2 : Ex (base F H' (s'.own ++ ow F E)) (base F H' (ow F (E.set i (some s')))) := base_sub fun a ha => by
    rcases ow_set_sub ha with z | z
    · exact .inl (List.mem_append_left _ z)
    · exact .inl (List.mem_append_right _ z)
  have b3 := b1.trans b2
  refine ⟨by simp [S.len], fun j t hj => ?_, fun t ht => ?_, fun p hp => Rep.le b3.le (S.tmp p hp), fun a o q => ?_, S.b0, ow_set_nd hn S.nd fun l hl hr => ?_, fun l hl => ?_⟩
  · by_cases e : j = i
    · subst e
      rw [List.getElem?_set_self hiE] at hj
      cases hj
      exact ⟨v, by rw [List.getElem?_set_self hiS], hv⟩
    · rw [List.getElem?_set_ne (Ne.symm e)] at hj
      obtain ⟨w, h1, h2⟩ := S.slot j t hj
      exact ⟨w, by rw [List.getElem?_set_ne (Ne.symm e)]; exact h1, h2.le b3.le fun l hl u q => k l u (fun z => e (ow_inj S.nd hj hs hl z)) q⟩
  · obtain ⟨w, h2⟩ := S.gho t ht
    exact ⟨w, h2.le b3.le fun l hl u q => k l u (fun z => ow_gho S.nd hs ht z hl) q⟩
  · refine k a o (fun z => ?_) (S.ex a o q)
    rw [S.fr a (hso a z)] at q
    cases q
  · rcases ho l hl with z | z
    · exact ⟨s, hs, z⟩
    · obtain ⟨u, q⟩ := S.there hr
      rw [z] at q; cases q
  · rcases ow_set_sub hl with z | z
    · rcases ho l z with y | y
      · exact S.fr l (hso l y)
      · exact S.free y
    · exact S.fr l z
theorem ow_set_not (S : SR K F E τ σ H) {i : Nat} {s s' : Sl} {l : Addr} (hs : E[i]? = some (some s)) (hl : l ∈ s.own) (h : l ∉ s'.own) : l ∉ ow F (E.set i (some s')) := fun z => by
  have hiE : i < E.length := (List.getElem?_eq_some_iff.mp hs).1
  rcases mem_ow.mp z with ⟨j, t, h1, h2⟩ | ⟨t, h1, h2⟩
  · by_cases e : j = i
    · subst e
      rw [List.getElem?_set_self hiE] at h1
      cases h1
      exact h h2
    · rw [List.getElem?_set_ne (Ne.symm e)] at h1
      exact e (ow_inj S.nd h1 hs h2 hl)
  · exact ow_gho S.nd hs h1 hl h2
theorem SR.backN (S : SR K F E τ σ H) {i : Nat} {l : Addr} {kvs : List (Str × D)} {v : V} {s' : Sl} (hs : E[i]? = some (some (.oD l kvs))) (o : Out K ⟨base F H (ow F E), lessH H [l], []⟩ [] (lessH H [l]) H' v s') : RepS K (base F H' (ow F (E.set i (some s')))) H' v s' := by
  refine o.rep.le (Ex.le fun a u q => ?_) fun _ _ _ q => q
  have h1 : a ∉ s'.own ++ [] := fun z => by rw [base_in z] at q; cases q
  have h1' : a ∉ s'.own := by simpa using h1
  have lo : l ∈ ow F E := mem_ow.mpr (.inl ⟨i, _, hs, List.mem_singleton.mpr rfl⟩)
  by_cases hl : a = l
  · subst hl
    have h2 : lessH H [a] a = none := lessH_in (List.mem_singleton.mpr rfl)
    rw [base_new (F := ⟨base F H (ow F E), lessH H [a], []⟩) h1 h2] at q
    rw [base_new (ow_set_not S hs (List.mem_singleton.mpr rfl) h1') (S.fr a lo)]
    exact q
  have hw1 : a ∉ [l] := fun z => hl (List.mem_singleton.mp z)
  have nin : a ∉ ow F E → a ∉ ow F (E.set i (some s')) := fun h z => (ow_set_sub z).elim h1' h
  cases h2 : H a with
  | none =>
    rw [base_new (F := ⟨base F H (ow F E), lessH H [l], []⟩) h1 (show lessH H [l] a = none by rw [lessH_out hw1]; exact h2)] at q
    rw [base_new (nin (S.nown h2)) (S.free h2)]
    exact q
  | some z =>
    have h2' : lessH H [l] a = some z := by rw [lessH_out hw1]; exact h2
    rw [base_old (F := ⟨base F H (ow F E), lessH H [l], []⟩) h1 h2'] at q
    have q' : base F H (ow F E) a = some u := q
    have h4 : a ∉ ow F E := fun z => by rw [base_in z] at q'; cases q'
    cases h5 : F.H0 a with
    | none =>
      rw [base_new h4 h5] at q'
      rw [base_new (nin h4) h5]
      refine o.ex _ _ ?_
      rw [lessH_out hw1]; exact q'
    | some z =>
      rw [base_old h4 h5] at q'
      rw [base_old (nin h4) h5]
      exact q'
end
section
variable {X : Cx} {E : En} {N : Po} {e : Expr} {es : List Expr} {p p' pos spos : Pos} {ds : List D} {k : Nat} {f x : Str} {ps : List Str} {G : List D → Addr → List (Str × D) → Rs → Prop} {r : Rs}
/-- x = f(.., x, ..), x an own dict -/
theorem h_asgN (i : Nat) {l : Addr} {kvs : List (Str × D)} (T : Kn X.prog X.w X.K X.mg X.base CX0 k f ps (spN X.K G)) (hr : Room k X.A) (hN : X.N.Nodup) (ha : HA X E (e :: es) ds) (hG : G ds l kvs r) (hn : ∀ s, r.ok s → N.nx (E.set i (some s))) (hE : E[i]? = some (some (.oD l kvs)) := by rfl) (hi : X.N[i]? = some x := by rfl) (hx : Loc X.env.scope x := by first | exact Or.inl rfl | exact Or.inr rfl) (hg : Gl X f := by rfl)
    (hs : swapsWith (.Call (.Name f p) (e :: es) [] pos) (some (.Name x p')) spos.line X.env = pure false := by rfl) (hf : X.fn x = true ∨ X.env.scope.names.lookup x = some .local := by first | exact .inl rfl | exact .inr rfl | assumption)
    (PC : ∀ {fa : Addr} {fd : FuncData} {t : TA}, Room k X.A → FnOk X.prog X.w X.K X.mg X.base CX0 k fa fd ps (spN X.K G) → L2.Binds X.K fd ps [] → PySem.W.keepIn X.K (.ref fa) = true → X.mg f = some (.ref fa) → PA X (e :: es) t → PE X (.Call (.Name f p) (e :: es) [] pos) (tCall (spN X.K G) [] E0 t) := by
      exact fun hr hF hB hK hM ha => pe_call hF hr (by rfl) hM hK hB .nil pass0 ha) : HasS X E (.Assign [.Name x p'] (.Call (.Name f p) (e :: es) [] pos) spos) N := by
  obtain ⟨fa, fd, hF, hB, hK, hM⟩ := T.ex
  refine PS.mono (ps_set hN hi hx (PC hr hF hB hK hM ha) hs hf) fun Dn σ H ⟨F, τ, S, kk, _⟩ => ⟨F, τ, S, fun vs H1 e1 rs => ?_⟩
  show spN X.K G (vs ++ []) H1 _ E0
  rw [List.append_nil]
  have S1 := S.grow e1
  obtain ⟨v0, h1, rfl, ks, h2, h3⟩ := S1.slot i _ hE
  have lo : l ∈ ow F E := mem_ow.mpr (.inl ⟨i, _, hE, List.mem_singleton.mpr rfl⟩)
  have eB : Ex (base F H1 (ow F E)) (lessH H1 [l]) := fun a o q => by
    have h9 : a ∉ [l] := fun z => by rw [List.mem_singleton.mp z, base_in lo] at q; cases q
    rw [lessH_out h9]
    exact S1.bex a o q
  refine ⟨base F H1 (ow F E), ds, l, kvs, ks, r, h2, h3, eB, rs, hG, fun v s H' hs' o => kk _ _ _ (hn s hs') ?_⟩
  refine S1.mutPut hE (fun a ha' => ?_) o.nd (fun a u ha' q => o.ex a u (by rw [lessH_out (show a ∉ [l] from ha')]; exact q)) (S1.backN hE o)
  by_cases h9 : a ∈ [l]
  · exact .inl h9
  · have h8 := o.new a ha'
    rw [lessH_out h9] at h8
    exact .inr h8
end
end K39
/-! KP16 -/
set_option maxHeartbeats 4000000
/-! ## the law's near -/
namespace K39
open PySem PySem.Spec PyProof.Rows L2
theorem asc_filter {f : List Str} {p : Str → Bool} (h : ascS f = f) : ascS (f.filter p) = f.filter p := by
  have o : f.Pairwise (fun a b => leS a b = true) := by rw [← h]; exact ascS_ord f
  have n : f.Nodup := by rw [← h]; exact ascS_nodup f
  exact ascS_of (o.filter _) (n.filter _)
theorem del_nrm {x : Row} (h : normalM x = x) (s f : Str) : normalM (delFrom x s f) = delFrom x s f := by
  cases x with
  | pl g =>
    have e : ascS g = g := Row.pl.inj h
    show Row.pl (ascS (g.filter (· ≠ f))) = Row.pl (g.filter (· ≠ f))
    rw [asc_filter e]
  | ac a k b =>
    have e := Row.ac.inj h
    have ea : ascS a = a := e.1
    have eb : ascS b = b := e.2.2
    show normalM (if s = "ahead" then Row.ac (a.filter (· ≠ f)) k b else Row.ac a k (b.filter (· ≠ f))) = if s = "ahead" then Row.ac (a.filter (· ≠ f)) k b else Row.ac a k (b.filter (· ≠ f))
    split
    · show Row.ac (ascS (a.filter (· ≠ f))) k (ascS b) = _
      rw [asc_filter ea, eb]
    · show Row.ac (ascS a) k (ascS (b.filter (· ≠ f))) = _
      rw [asc_filter eb, ea]
theorem del_fit {names gates : List Str} {rs : Rows} (R : RowsOk names gates rs) {i : Item} (h : SideOk names i.1 i.2.1) : i.1 ∈ names ∧ (delFrom (rowOf rs i.1) i.2.1 i.2.2).ok ∧ RowIn gates (delFrom (rowOf rs i.1) i.2.1 i.2.2) ∧ RowAt i.1 (delFrom (rowOf rs i.1) i.2.1 i.2.2) := by
  obtain ⟨n, s, f⟩ := i
  have okf : ∀ {g : List Str}, Okl g → Okl (g.filter (· ≠ f)) := fun h => ⟨fun x hx => h.1 x (List.mem_filter.mp hx).1, Nat.le_trans (List.length_filter_le _ _) h.2⟩
  have inf : ∀ {g : List Str}, (∀ x ∈ g, x ∈ gates) → ∀ x ∈ g.filter (· ≠ f), x ∈ gates := fun h x hx => h x (List.mem_filter.mp hx).1
  show n ∈ names ∧ (delFrom (rowOf rs n) s f).ok ∧ RowIn gates (delFrom (rowOf rs n) s f) ∧ RowAt n (delFrom (rowOf rs n) s f)
  rcases h with ⟨_, h1, h2⟩ | ⟨hk, _⟩
  · obtain ⟨g, e1, _, e3, e4⟩ := R.atP h1 h2
    rw [e1]
    exact ⟨h1, okf e3, inf e4, .inr ⟨h2, _, rfl⟩⟩
  · obtain ⟨a, k, b, e1, _, e3, e4, hgk⟩ := R.atK hk
    rw [e1]
    unfold delFrom
    show n ∈ names ∧ (if s = "ahead" then Row.ac (a.filter (· ≠ f)) k b else Row.ac a k (b.filter (· ≠ f))).ok ∧ RowIn gates (if s = "ahead" then Row.ac (a.filter (· ≠ f)) k b else Row.ac a k (b.filter (· ≠ f))) ∧ RowAt n (if s = "ahead" then Row.ac (a.filter (· ≠ f)) k b else Row.ac a k (b.filter (· ≠ f)))
    by_cases q : s = "ahead"
    · rw [if_pos q]
      exact ⟨R.kin n hk, ⟨okf e3.1, e3.2⟩, ⟨inf e4.1, e4.2⟩, .inl ⟨hk, _, _, _, rfl, hgk⟩⟩
    · rw [if_neg q]
      exact ⟨R.kin n hk, ⟨e3.1, e3.2.1, okf e3.2.2⟩, ⟨e4.1, inf e4.2⟩, .inl ⟨hk, _, _, _, rfl, hgk⟩⟩
theorem look_row {names gates : List Str} {rs : Rows} (R : RowsOk names gates rs) {n : Str} (h : n ∈ names) : rs.lookup n = some (rowOf rs n) := by
  obtain ⟨x, lx, e1, _⟩ := R.at h
  rw [e1]; exact lx
theorem RecOk.del {kept goal : PSet} {marks bars : Tab} {rs : Rows} (R : RecOk kept goal marks bars rs) {i : Item} (h : SideOk (namesM marks) i.1 i.2.1) : RecOk kept goal marks bars (takenM rs i) := by
  obtain ⟨h1, h2, h3, h4⟩ := del_fit R.rows h
  exact ⟨R.fm, R.fb, R.hk, R.hg, R.rows.put h2 h3 h4, R.nrm'.put (by rw [R.rows.keys]; exact h1) (del_nrm (R.nrm _ _ (look_row R.rows h1)) _ _)⟩
theorem mod_get {α : Type} {l : List α} (h : l ≠ []) (n : Int) (d : α) : l[(n % (l.length : Int)).toNat]? = some (l.getD (n % (l.length : Int)).toNat d) := by
  have h1 : 0 < l.length := List.length_pos_iff.mpr h
  have h2 : n % (l.length : Int) < l.length := Int.emod_lt_of_pos _ (by omega)
  have h3 : 0 ≤ n % (l.length : Int) := Int.emod_nonneg _ (by omega)
  exact getD_get (by omega)
theorem spots_ne (t : Trip) : spotsM t ≠ [] := fun h => nomatch h
theorem able_ne (rs : Rows) (bars : Tab) (t : Trip) : ableM rs bars t ≠ [] := fun h => nomatch h
theorem getD_mem {α : Type} {l : List α} (h : l ≠ []) (n : Int) (d : α) : l.getD (n % (l.length : Int)).toNat d ∈ l := mem_of_get (mod_get h n d)
theorem able_gate {rs : Rows} {bars : Tab} {t : Trip} {f : Str} (h : f ∈ ableM rs bars t) : f ∈ gatesM bars := by
  rcases List.mem_cons.mp h with rfl | h
  · exact gatesM_mem.mpr (.inl rfl)
  · exact gatesM_mem.mpr (.inr (List.mem_filter.mp h).1)
theorem near1_ok {kept goal : PSet} {marks bars : Tab} {q : Rows × Int} (R : RecOk kept goal marks bars q.1) {t : Trip} (ht : TripOk marks t) : RecOk kept goal marks bars (nearStep1 bars q t).1 :=
  R.put (i := (((spotsM t).getD (q.2 / 3 % ((spotsM t).length : Int)).toNat ("", "")).1, ((spotsM t).getD (q.2 / 3 % ((spotsM t).length : Int)).toNat ("", "")).2, (ableM q.1 bars t).getD (q.2 % ((ableM q.1 bars t).length : Int)).toNat "")) ⟨spots_side R.fm ht _ (getD_mem (spots_ne t) _ _), able_gate (getD_mem (able_ne _ _ _) _ _)⟩
theorem near1s_ok {kept goal : PSet} {marks bars : Tab} : ∀ (l : List Trip) {q : Rows × Int}, RecOk kept goal marks bars q.1 → (∀ t ∈ l, TripOk marks t) → RecOk kept goal marks bars (l.foldl (nearStep1 bars) q).1
  | [], _, R, _ => R
  | t :: l, q, R, h => near1s_ok l (near1_ok R (h t (List.mem_cons_self ..))) fun s hs => h s (List.mem_cons_of_mem _ hs)
def standM (gates : List Str) (rs : Rows) : List Item := (knownM (rs.map (·.1)) gates).filter fun i => decide (i.2.2 ∈ partM rs i.1 i.2.1)
theorem stand_side {kept goal : PSet} {marks bars : Tab} {rs : Rows} (R : RecOk kept goal marks bars rs) {i : Item} (h : i ∈ standM (gatesM bars) rs) : ItemOk' (namesM marks) (gatesM bars) i := by
  have h1 := (List.mem_filter.mp h).1
  rw [R.rows.keys] at h1
  obtain ⟨k1, k2, k3⟩ := known_mem.mp h1
  exact ⟨(side_mem R.rows.kin).mp ⟨k1, k2⟩, k3⟩
theorem near2_eq (gates : List Str) (q : Rows × Int) : nearStep2 gates q = (if (standM gates q.1).length > 0 then takenM q.1 ((standM gates q.1).getD (q.2 / 4 % ((standM gates q.1).length : Int)).toNat ("", "", "")) else q.1, q.2 / 4 / 42) := rfl
theorem near2_ok {kept goal : PSet} {marks bars : Tab} {q : Rows × Int} (R : RecOk kept goal marks bars q.1) : RecOk kept goal marks bars (nearStep2 (gatesM bars) q).1 := by
  rw [near2_eq]
  show RecOk kept goal marks bars (if (standM (gatesM bars) q.1).length > 0 then _ else _)
  split
  · next h => exact R.del (stand_side R (getD_mem (List.length_pos_iff.mp h) _ _)).side
  · exact R
theorem near2s_ok {kept goal : PSet} {marks bars : Tab} {α : Type} : ∀ (l : List α) {q : Rows × Int}, RecOk kept goal marks bars q.1 → RecOk kept goal marks bars (l.foldl (fun q _ => nearStep2 (gatesM bars) q) q).1
  | [], _, R => R
  | _ :: l, q, R => near2s_ok l (near2_ok R)
theorem near_ok {kept goal : PSet} {marks bars : Tab} {rs : Rows} (R : RecOk kept goal marks bars rs) (n : Int) : RecOk kept goal marks bars (nearM kept marks goal bars rs n) :=
  near2s_ok _ (near1s_ok _ (q := (rs, n)) R fun t ht => lost_trip ht)
theorem pl_row : ∀ x : Row, (eR x).pl = true
  | .pl f => pls_strs f
  | .ac a k b => by
    show pls [eF a, .str k, eF b] = true
    rw [pls, pls, pls, pls, show (eF a).pl = true from pls_strs a, show (eF b).pl = true from pls_strs b]; rfl
theorem pl_rows (rs : Rows) : ∀ p ∈ eRws rs, p.2.pl = true := fun p hp => by
  obtain ⟨q, _, rfl⟩ := List.mem_map.mp hp
  exact pl_row q.2
theorem pl_trips (L : List Trip) : pls (L.map eT) = true := pls_mapG (fun ⟨a, f, b⟩ => by cases f <;> rfl) L
section
variable {P : Program} {w : World} {K : PySem.W.Frag} {mg : Str → Option Value} {bs : Heap} {X : Cx} {E : En}
def G_near : List D → Addr → List (Str × D) → Rs → Prop := fun ds l kvs r => ∃ (kept goal : PSet) (marks bars : Tab) (rs : Rows) (n : Int), ds = [eS kept, eTab marks, eS goal, eTab bars, .ptr l, .int n] ∧ kvs = eRws rs ∧ RecOk kept goal marks bars rs ∧ r = .nD (eRws (nearM kept marks goal bars rs n))
theorem kn_near (T : Hd K mg) : Kn P w K mg bs CX0 3 "_law_near" ["_law_kept", "_law_marks", "_law_goal_here", "_law_bars", "_law_rows_here", "_law_number"] (spN K G_near) := by
  refine knN_of (N := N_l_near) T.f_l_near T.g_l_near sc_l_near (by decide) 4 (fun _ _ _ _ _ _ us hl => match us, hl with | [_, _, _, _, _, _], _ => rfl) ?_ ?_
  · rintro ds l kvs r ⟨_, _, _, _, _, _, rfl, _⟩; exact ⟨rfl, rfl⟩
  · rintro c ds l kvs r hr ⟨kept, goal, marks, bars, rs, n, rfl, rfl, R, rfl⟩
    have hu := ru1 hr
    let L := lLostM kept marks goal bars rs
    have tok : ∀ t ∈ L, TripOk marks t := fun t ht => lost_trip ht
    let q := fun i => (L.take i).foldl (nearStep1 bars) (rs, n)
    have qR : ∀ i, RecOk kept goal marks bars (q i).1 := fun i => near1s_ok _ (q := (rs, n)) R fun t ht => tok t (List.mem_of_mem_take ht)
    let B := fun (l4 : Addr) (r : Rows) (z : Int) (o6 o7 o8 o9 o10 o11 o12 o13 : Option Sl) => ([some (.val (eS kept)), some (.val (eTab marks)), some (.val (eS goal)), some (.val (eTab bars)), some (.oD l4 (eRws r)), some (.val (.int z)), o6, o7, o8, o9, o10, o11, o12, o13, none] : En)
    refine q_for (fun i E' => ∃ l4 o6 o7 o8 o9 o10, E' = B l4 (q i).1 (q i).2 o6 o7 o8 o9 o10 none none none) (fun E' => ∃ l4 o6 o7 o8 o9 o10, E' = B l4 (q L.length).1 (q L.length).2 o6 o7 o8 o9 o10 none none none)
      (k_list (ds := L.map eT) (h_settle (h_lend (h_call (kn_llost T) (hr.mono (by decide)) (a5 (h_var 0) (h_var 1) (h_var 2) (h_var 3) (h_var 4)) ⟨_, _, kept, marks, goal, bars, rs, rfl, R.law, rfl⟩) (pl_trips _)))) (g_name 6 sc_l_near.nd) ⟨l, _, _, _, _, _, rfl⟩ ?_ ?_ ?_
    · rintro i d E' hd ⟨l4, o6, o7, o8, o9, o10, rfl⟩
      obtain ⟨t, ht, rfl⟩ := map_get hd
      have tk' := tok t (mem_of_get ht)
      have Ri := qR i
      refine ⟨_, ⟨Nat.le_of_ble_eq_true rfl, rfl⟩, ?_⟩
      refine q_asg 7 sc_l_near.nd (h_settle (h_call (kn_lspots T) (hr.mono (by decide)) (a1 (h_var 6)) ⟨t, rfl, rfl⟩)) ?_
      rintro _ rfl
      let ab := ableM (q i).1 bars t
      refine q_asg 8 sc_l_near.nd (r := .val (.lst (ab.map D.str))) (h_settle (h_lend (h_call (kn_able T) (hr.mono (by decide)) (ha_cons (h_var 4) (a2 (h_var 3) (h_var 6))) ⟨_, _, (q i).1, bars, t, rfl, Ri.rows, Ri.fb.tab, (pairs_first tk'.pr).1, (pairs_first tk'.pr).2, rfl⟩) (pls_strs _))) ?_
      rintro _ rfl
      let sp := (spotsM t).getD ((q i).2 / 3 % ((spotsM t).length : Int)).toNat ("", "")
      have sl : (0 : Int) < ((spotsM t).map eP).length := by rw [List.length_map]; have := List.length_pos_iff.mpr (spots_ne t); omega
      have al : (0 : Int) < (ab.map D.str).length := by rw [List.length_map]; have h : 0 < ab.length := List.length_pos_iff.mpr (able_ne (q i).1 bars t); omega
      refine q_unpack (d := eP sp) (h_ix (i_lst (ds := (spotsM t).map eP) (j := ((q i).2 / 3 % ((spotsM t).length : Int)).toNat) (by rw [List.getElem?_map, mod_get (spots_ne t)]; rfl)) (h_var 7) (d_is (h_op (o_mod sl) (h_callT f_int T.n_int PyProof.Rows.boot_int (a1 (h_op (o_div (by decide)) (h_var 5) h_int))) (h_callB f_lenL T.n_len PySem.boot_len (a1 (h_var 7)))) (by rw [emod_nat sl, List.length_map]))) (g_tup2 9 10 sc_l_near.nd) ⟨Nat.le_of_ble_eq_true rfl, Nat.le_of_ble_eq_true rfl, _, _, rfl, rfl⟩ ?_
      let f := ab.getD ((q i).2 % (ab.length : Int)).toNat ""
      have io : ItemOk' (namesM marks) (gatesM bars) (sp.1, sp.2, f) := ⟨spots_side R.fm tk' _ (getD_mem (spots_ne t) _ _), able_gate (getD_mem (able_ne _ _ _) _ _)⟩
      have hf : f ∈ gatesM bars := io.fe
      refine q_asg 4 sc_l_near.nd (r := .nD (eRws (putM (q i).1 (sp.1, sp.2, f)))) (h_lend (h_call (kn_put T) (hr.mono (by decide)) (a2 (h_var 4) (d := eRows (q i).1) (d' := eI (sp.1, sp.2, f)) (h_tup (ha_cons (h_var 9) (a2 (h_var 10) (h_ix (i_lst (ds := ab.map D.str) (j := ((q i).2 % (ab.length : Int)).toNat) (by rw [List.getElem?_map, mod_get (able_ne (q i).1 bars t)]; rfl)) (h_var 8) (d_is (h_op (o_mod al) (h_callT f_int T.n_int PyProof.Rows.boot_int (a1 (h_var 5))) (h_callB f_lenL T.n_len PySem.boot_len (a1 (h_var 8)))) (by rw [emod_nat al, List.length_map]))))))) ⟨_, _, (q i).1, (sp.1, sp.2, f), rfl, Ri.rows, Ri.small, io.side, (gatesM_ok R.fb).ok.1 _ hf, rfl⟩) (pl_rows _)) ?_
      rintro _ ⟨l5, rfl⟩
      refine s_one (h_asg (i := 5) sc_l_near.nd (h_op (o_mod (by decide)) (h_callT f_int T.n_int PyProof.Rows.boot_int (a1 (h_op o_add (h_op (o_mulR (cm _ rfl)) (h_var 5) h_int) h_int))) h_int) ?_)
      rintro _ rfl
      have qs : q (i + 1) = (putM (q i).1 (sp.1, sp.2, f), ((q i).2 * 48271 + 11) % 2147483647) := by
        show (L.take (i + 1)).foldl _ _ = _
        rw [tk ht, List.foldl_append]; rfl
      refine ⟨l5, some (.val (eT t)), some (.val (.lst ((spotsM t).map eP))), some (.val (.lst (ab.map D.str))), some (.val (.str sp.1)), some (.val (.str sp.2)), ?_⟩
      rw [qs]; rfl
    · rintro E' ⟨l4, o6, o7, o8, o9, o10, rfl⟩
      refine ⟨l4, o6, o7, o8, o9, o10, ?_⟩
      rw [List.length_map]
    rintro _ ⟨l4, o6, o7, o8, o9, o10, rfl⟩
    have R1 := qR L.length
    refine q_asg 11 sc_l_near.nd (h_gates T (ru64 hr) R.fb (h_var 3)) ?_
    rintro _ rfl
    let g := fun i => (List.range i).foldl (fun z (_ : Nat) => nearStep2 (gatesM bars) z) (q L.length)
    have gR : ∀ i, RecOk kept goal marks bars (g i).1 := fun i => near2s_ok _ R1
    have m4 : 0 ≤ (q L.length).2 % 4 ∧ (q L.length).2 % 4 < 4 := ⟨Int.emod_nonneg _ (by decide), Int.emod_lt_of_pos _ (by decide)⟩
    refine q_for (fun i E' => ∃ l4 o12 o13, E' = B l4 (g i).1 (g i).2 o6 o7 o8 o9 o10 (some (.val (eNs (gatesM bars)))) o12 o13) (fun E' => ∃ l4 o12 o13 z, E' = B l4 (nearM kept marks goal bars rs n) z o6 o7 o8 o9 o10 (some (.val (eNs (gatesM bars)))) o12 o13)
      (k_range (n := (q L.length).2 % 4) T.n_range (h_op (o_mod (by decide)) (h_callT f_int T.n_int PyProof.Rows.boot_int (a1 (h_var 5))) h_int) m4.1 (by omega)) (g_name 12 sc_l_near.nd) ⟨l4, _, _, rfl⟩ ?_ ?_ ?_
    · rintro i d E' hd ⟨l4, o12, o13, rfl⟩
      obtain ⟨hi, rfl⟩ := nums_get hd
      have Ri := gR i
      refine ⟨_, ⟨Nat.le_of_ble_eq_true rfl, rfl⟩, ?_⟩
      refine q_asg 5 sc_l_near.nd (h_op (o_div (by decide)) (h_var 5) h_int) ?_
      rintro _ rfl
      let st := standM (gatesM bars) (g i).1
      refine s_cons (M := fun E' => ∃ l13, E' = B l4 (g i).1 ((g i).2 / 4) o6 o7 o8 o9 o10 (some (.val (eNs (gatesM bars)))) (some (.val (.int i))) (some (.oL l13 (st.map eK))))
        (h_setLcL eK eK (fun i' : Item => decide (i'.2.2 ∈ partM (g i).1 i'.1 i'.2.1)) (L := knownM ((g i).1.map (·.1)) (gatesM bars)) 13 14 eK_inj sc_l_near.nd
          (k_list (h_settle (h_call (kn_known T) (hr.mono (by decide)) (a2 (d := eNs ((g i).1.map (·.1))) (d_is (h_settle (h_callT (f_listD rfl) T.n_list PyProof.Rows.boot_list (a1 (h_var 4)))) (by rw [keys_rows]; show D.lst _ = D.lst _; rw [List.map_map]; rfl)) (h_var 11)) ⟨_, _, rfl, by rw [Ri.rows.keys]; exact (namesM_ok R.fm).ok, (gatesM_ok R.fb).ok, rfl⟩))) (by rw [Ri.rows.keys]; exact Nat.le_trans (known_few R.fm R.fb) (by decide))
          (fun j it hit b => ⟨ts_one ?_, fun _ => h_var 14⟩) (pls_mapG (fun a => rfl) _) (fun l => ⟨l, rfl⟩)) ?_
      · have hm := mem_of_get hit
        rw [Ri.rows.keys] at hm
        obtain ⟨k1, k2, k3⟩ := known_mem.mp hm
        have so := (side_mem Ri.rows.kin).mp ⟨k1, k2⟩
        have po := part_ok Ri.rows so
        exact t_cmp (c_inTS (L := partM (g i).1 it.1 it.2.1) (ru65 hr) ((gatesM_ok R.fb).ok.1 _ k3) po.1.1) (h_ix (i_tup (j := 2) rfl) (h_item (h_var 14)) h_int) (h_call (kn_part T) (hr.mono (by decide)) (ha_cons (h_var 4) (a2 (h_ix (i_tup (j := 0) rfl) (h_item (a := it) (h_var 14)) h_int) (h_ix (i_tup (j := 1) rfl) (h_item (a := it) (h_var 14)) h_int))) ⟨_, _, (g i).1, it.1, it.2.1, rfl, Ri.rows, so, rfl⟩)
      rintro _ ⟨l13, rfl⟩
      refine q_settle 13 ?_
      have gs : g (i + 1) = nearStep2 (gatesM bars) (g i) := by
        show (List.range (i + 1)).foldl _ _ = _
        rw [List.range_succ, List.foldl_append]; rfl
      refine q_if (N := ⟨_, _, _, _⟩) (fun E' => ∃ l4, E' = B l4 (g (i + 1)).1 ((g i).2 / 4) o6 o7 o8 o9 o10 (some (.val (eNs (gatesM bars)))) (some (.val (.int i))) (some (.val (.lst (st.map eK))))) (k := decide (st.length > 0)) (t_is (t_cmp c_gt (h_callB f_lenL T.n_len PySem.boot_len (a1 (h_var 13))) h_int) (by rw [List.length_map]; exact decide_eq_decide.mpr (by omega))) (fun h => ?_) (fun h => s_nil ?_) ?_
      · have h1 : st.length > 0 := of_decide_eq_true h
        have hne := List.length_pos_iff.mp h1
        have sl : (0 : Int) < (st.map eK).length := by rw [List.length_map]; omega
        let it := st.getD ((g i).2 / 4 % (st.length : Int)).toNat ("", "", "")
        have io := stand_side Ri (getD_mem hne ((g i).2 / 4) ("", "", ""))
        refine s_one (h_asg (i := 4) sc_l_near.nd (r := .nD (eRws (takenM (g i).1 it))) (h_lend (h_call (kn_taken T) (hr.mono (by decide)) (a2 (h_var 4) (h_item (a := it) (h_ix (i_lst (ds := st.map eK) (j := ((g i).2 / 4 % (st.length : Int)).toNat) (by rw [List.getElem?_map, mod_get hne]; rfl)) (h_var 13) (d_is (h_op (o_mod sl) (h_callT f_int T.n_int PyProof.Rows.boot_int (a1 (h_var 5))) (h_callB f_lenL T.n_len PySem.boot_len (a1 (h_var 13)))) (by rw [emod_nat sl, List.length_map]))))) ⟨_, _, (g i).1, it, rfl, Ri.rows, io.side, (gatesM_ok R.fb).ok.1 _ io.fe, rfl⟩) (pl_rows _)) ?_)
        rintro _ ⟨l5, rfl⟩
        refine ⟨l5, ?_⟩
        rw [gs, near2_eq]
        show _ = B l5 (if st.length > 0 then takenM (g i).1 it else (g i).1) _ _ _ _ _ _ _ _ _
        rw [if_pos h1]; rfl
      · have h1 : ¬ st.length > 0 := of_decide_eq_false h
        refine ⟨l4, ?_⟩
        rw [gs, near2_eq]
        show _ = B l4 (if st.length > 0 then _ else (g i).1) _ _ _ _ _ _ _ _ _
        rw [if_neg h1]; rfl
      · rintro _ ⟨l6, rfl⟩
        refine s_one (h_asg (i := 5) sc_l_near.nd (h_op (o_div (by decide)) (h_var 5) h_int) ?_)
        rintro _ rfl
        refine ⟨l6, some (.val (.int i)), some (.val (.lst (st.map eK))), ?_⟩
        have e2 : (g (i + 1)).2 = (g i).2 / 4 / 42 := by rw [gs]; rfl
        show _ = B l6 (g (i + 1)).1 (g (i + 1)).2 _ _ _ _ _ _ _ _
        rw [e2]; rfl
    · rintro E' ⟨l4, o12, o13, rfl⟩
      refine ⟨l4, o12, o13, (g ((q L.length).2 % 4).toNat).2, ?_⟩
      have e : nearM kept marks goal bars rs n = (g ((q L.length).2 % 4).toNat).1 := by
        have e0 : q L.length = L.foldl (nearStep1 bars) (rs, n) := by
          show (L.take L.length).foldl _ _ = _
          rw [List.take_length]
        show _ = ((List.range ((q L.length).2 % 4).toNat).foldl (fun z (_ : Nat) => nearStep2 (gatesM bars) z) (q L.length)).1
        rw [e0]; rfl
      rw [e, show (nums ((q L.length).2 % 4).toNat).length = ((q L.length).2 % 4).toNat by unfold nums; rw [List.length_map, List.length_range]]
    · rintro _ ⟨l4, o12, o13, z, rfl⟩
      exact s_one (h_retOwn 4 (hn := ⟨_, rfl⟩))
end
end K39
/-! KX3 -/
set_option maxHeartbeats 4000000
/-! ## fewest refuses -/
namespace K39
open PySem PySem.Spec PyProof.Rows L2
abbrev CB (K : PySem.W.Frag) : Addr := He.ga K "BadNumber"
structure BnAll (K : PySem.W.Frag) : Prop where
  bn : BnOk K (CB K) (He.ma K (CB K) "__init__")
  iC : PySem.W.findIn K (.ref (CB K)) "__init__" = some (some (.ref (He.ma K (CB K) "__init__")))
  tI : PySem.W.typeIn K (.ref (He.ma K (CB K) "__init__")) = some (.type "function")
structure PrOk (P : Program) : Prop where
  file : (P.main.file == ("/claim/cut.py" : Str)) = true
  sup : (P.main.scope.names.lookup ("super" : Str)).isSome = false
def spF (K : PySem.W.Frag) : Sp := fun vs H _ E => ∃ B ds d0 z, Ex B H ∧ Reps K B vs ds ∧ ds = [d0, .int z] ∧ ¬ (0 ≤ z ∧ z ≤ 2) ∧ ∀ dx H', Ex H H' → H dx = none → H' dx = some (.xd [("number", .int z)]) → E (.ref (CB K)) (some dx) H'
theorem fewest_raises {P : Program} {w : World} {K : PySem.W.Frag} {mg : Str → Option Value} {base : Heap} (T : Hd K mg) (B : BnAll K) (hP : PrOk P) :
    ∃ fd, FnOk P w K mg base (CX P w) 3 (He.ga K "fewest") fd ["recipe", "most"] (spF K) ∧ L2.Binds K fd ["recipe", "most"] [] := by
  obtain ⟨fd, F⟩ := T.f_fewest
  obtain ⟨fdi, Fi, Bi⟩ := bn_init (w := w) (base := base) B.bn hP.file hP.sup T.n_super
  refine ⟨fd, L2.FunD.ok F sc_fewest (fun vs H Q E ⟨B, ds, d0, z, _, hr, e, _⟩ => by rw [hr.len, e]; rfl) fun cdv A outer s H vs Q E hr hsp => ?_, F.bindsN (fun _ _ _ _ _ _ us hl => match us, hl with | [_, _], _ => rfl)⟩
  obtain ⟨B0, ds, d0, z, eB, hR, rfl, hz, hE⟩ := hsp
  let X := cxOf (CX P w) P w K mg base N_fewest "fewest" (defScope s_fewest) (He.ga K "fewest") cdv A outer s H E
  have hrX : Room 2 X.A := hr
  have tk : Takes X (fun cls d _ H' => E cls d H') := takes_of rfl rfl rfl rfl
  let E0 : En := args [d0, .int z] (N_fewest.length - 2)
  refine ⟨_, pss_cons (ps_if (tc := tTs K E0 true) ?_ (pss_one (ps_raise (t := tMkO (CB K) (spBn (CB K)) [] (tEvA K E0 [.int z])) rfl tk ?_)) pss_never) pss_never, ?_⟩
  · show HasT X E0 _ true
    refine t_not (X := X) (k := false) (t_val (d_is (h_call (X := X) (E := E0) (kn_is_whole T) (hrX.mono (by decide)) (ha_cons (h_var 1) (a2 h_int h_int)) ⟨z, 0, 2, rfl, rfl⟩) (by
      have : (decide ((0 : Int) ≤ z) && decide (z ≤ 2)) = false := by
        rw [Bool.and_eq_false_iff, decide_eq_false_iff_not, decide_eq_false_iff_not]
        omega
      rw [this])))
  · exact pmk_oex (X := X) B.bn.cls B.iC B.tI Fi hrX Bi .nil pass0 rfl T.g_BadNumber (a1 (X := X) (E := E0) (h_var 1))
  · refine ⟨⟨B0, H, []⟩, [], SR.start eB hR (Nat.le_of_ble_eq_true rfl), fun H1 e1 => ?_⟩
    refine iteT ?_
    have S1 : SR K ⟨B0, H, []⟩ E0 [] (L2.start N_fewest vs) H1 := (SR.start eB hR (Nat.le_of_ble_eq_true rfl)).grow e1
    refine ⟨⟨B0, H, []⟩, [], S1, fun ws H2 e2 rs => ?_⟩
    cases rs with
    | @cons v _ ws _ r1 rs =>
    cases rs
    cases r1
    refine ⟨Nat.le_of_ble_eq_true rfl, fun a ha => ⟨a, .int z, rfl, upd_same, fun dx hdx hne => ⟨rfl, dx, [("number", .int z)], upd_same, ?_, ?_, ?_⟩⟩⟩
    · rw [upd_ne hne, upd_same]
    · rw [← hdx, upd_ne hne]
    · have hdx2 : H2 dx = none := by rw [← hdx, upd_ne hne]
      refine hE dx _ (fun b o q => ?_) ?_ upd_same
      · have q2 := e2 b o (e1 b o q)
        have n1 : b ≠ dx := fun e => by rw [e, hdx2] at q2; cases q2
        have n2 : b ≠ a := fun e => by rw [e, ha] at q2; cases q2
        rw [upd_ne n1, del_ne n2, upd_ne n2, upd_ne n1, upd_ne n2]
        exact q2
      · cases q : H dx with
        | none => rfl
        | some o =>
          have := e2 _ _ (e1 _ _ q)
          rw [hdx2] at this; cases this
end K39
/-! KX4 -/
set_option maxHeartbeats 4000000
/-! ## the law's refusal: a caught BadNumber, asked for its class, its number read -/
namespace K39
open PySem PySem.Spec PyProof.Rows L2
/-- isinstance(e, c), e the exception that the suite holds, dd its dict -/
def rIsD (K : PySem.W.Frag) (D a : Addr) (cls : Value) (d : Option Addr) : List V → Hp → VK → Prop := fun xs H Q => ∃ (c : V) (cv : Value) (b : Bool) (dd : Addr) (fs : List (Str × V)), xs = [.ref a, c] ∧ cls = .ref D ∧ d = some dd ∧ H dd = some (.xd fs) ∧ (∀ u, RelV c u → u = cv) ∧ PySem.W.kitOne K (.ref D) cv = some b ∧ Q (.bl b) H
theorem call_isD {X : Cx} {a D : Addr} {cls : Value} {d : Option Addr} {oe : Obj} {pn : List (Addr × Obj)} (C : ExcC X.K D) (hz : Zc cls d oe) (hf : ∃ vs, oe.data = .fields vs) : CallR (X.suite a ((a, oe) :: pn)) (.builtin "isinstance") (rIsD X.K D a cls d) := by
  intro pins s σ H xs us Q I r h
  obtain ⟨c, cv, b, dd, fs, rfl, rfl, rfl, hdd, hcv, e, q⟩ := h
  cases r with
  | cons rx rr =>
    cases rr with
    | cons rt rr =>
      cases rr
      cases rx
      have ec := hcv _ rt
      subst ec
      obtain ⟨hget, _⟩ := I.pin (a, oe) (List.mem_append.mpr (.inl List.mem_cons_self))
      obtain ⟨vs, hv⟩ := hf
      have hx : ObjOk X.prog X.w H s.heap dd (.xd fs) := I.hok dd _ hdd
      obtain ⟨mA, hns, _⟩ := hx
      obtain ⟨od, ho, _⟩ := lookIn_ns hns
      have J : PySem.W.InstAt s.heap a oe D (some od) := ⟨hget, hz.1, by unfold PySem.W.notCls; rw [hv] <;> rfl, by rw [hz.2]; exact ho⟩
      obtain ⟨cd, hcl, _⟩ := PySem.W.any_some C.hd
      exact PySem.W.kia_one (PySem.W.kitx_exc (by rw [hcl]; rfl) C.hg C.hk C.hs C.ha C.hn C.ht C.hm) I.kIn J e (fun z => nomatch z) fun tk => ⟨.bl b, H, I.kept (t' := tk) fun _ _ z => z, rfl, q⟩
structure BnCat (K : PySem.W.Frag) : Prop where
  all : BnAll K
  exC : ExcC K (CB K)
  xfC : XfC K (CB K)
  core : PySem.W.exmOne K (.ref (CB K)) (.ref (He.ga K "CoreError")) = some true
  isB : PySem.W.kitOne K (.ref (CB K)) (.ref (CB K)) = some true
  isV : PySem.W.kitOne K (.ref (CB K)) (.type "ValueError") = some true
  isR : PySem.W.kitOne K (.ref (CB K)) (.ref (He.ga K "BadRow")) = some false
def G_refusal : List D → Rs → Prop := fun ds r => ∃ (d0 : D) (z : Int), ds = [d0, .int z] ∧ ¬ (0 ≤ z ∧ z ≤ 2) ∧ r = .nL [.int z]
section
variable {P : Program} {w : World} {K : PySem.W.Frag} {mg : Str → Option Value} {bs : Heap}
def tIsD (K : PySem.W.Frag) (a : Addr) (cls : Value) (d : Option Addr) (c : V) : TT := tB (tCB (rIsD K (CB K) a cls d) (tCons (tVar 2) (tCons (tC c) tNil)))
def tsR (K : PySem.W.Frag) (a : Addr) (cls : Value) (d : Option Addr) : TS :=
  tIfS (tAnd (tIsD K a cls d (.ref (CB K))) (tAnd (tIsD K a cls d (.ty "ValueError")) (tNot (tIsD K a cls d (.ref (He.ga K "BadRow")))))) (tRet (tLst (tCons (tXf a cls d (CB K) "number" (tVar 2)) tNil))) tNext
theorem isD_of {a : Addr} {d : Addr} {c : V} {cv : Value} {b : Bool} {σ : L2.St} {H : Hp} {fs : List (Str × V)} {Q : Bool → Hp → Prop} (h2 : σ[2]? = some (some (.ref a))) (hd : H d = some (.xd fs)) (hc : ∀ u, RelV c u → u = cv) (hk : PySem.W.kitOne K (.ref (CB K)) cv = some b) (hq : Q b H) : tIsD K a (.ref (CB K)) (some d) c σ H Q :=
  ⟨_, h2, c, cv, b, d, fs, rfl, rfl, rfl, hd, hc, hk, b, rfl, hq⟩
theorem kn_refusal (T : Hd K mg) (B : BnCat K) (hP : PrOk P) : Kn P w K mg bs CX0 4 "_law_refusal" ["_law_made", "_law_most"] (spG K G_refusal) := by
  obtain ⟨fd, F⟩ := T.f_l_refusal
  obtain ⟨fdf0, Ff0⟩ := T.f_fewest
  obtain ⟨fdf, Ff, Bf⟩ := fewest_raises (w := w) (base := bs) T B.all hP
  refine ⟨_, fd, L2.FunD.ok F sc_l_refusal (fun vs H Q E ⟨B, ds, r, _, hr, ⟨d0, z, e, _⟩, _⟩ => by rw [hr.len, e]; rfl) fun cdv A outer s H vs Q E hr hsp => ?_, F.bindsN (fun _ _ _ _ _ _ us hl => match us, hl with | [_, _], _ => rfl), F.kp, T.g_l_refusal⟩
  obtain ⟨B0, ds, r, eB, hR, ⟨d0, z, rfl, hz, rfl⟩, hQ⟩ := hsp
  let X := cxOf CX0 P w K mg bs N_l_refusal "_law_refusal" (defScope s_l_refusal) (He.ga K "_law_refusal") cdv A outer s H E
  have hrX : Room 3 X.A := hr
  refine ⟨_, pss_cons (ps_try_as (X := X) (i := 2) (c := .ref (He.ga K "CoreError")) (tb := fun W => tDrop (tCallS (spF K) (WE W) (tCons (tVar 0) (tCons (tVar 1) tNil)))) (ts := tsR K) (Wout := fun _ _ _ _ => False) rfl rfl sc_l_refusal.nd rfl rfl ⟨rfl, by decide, Or.inl T.g_CoreError⟩ takes0
      (fun W pn xe tk _ => pss_one (ps_expr (pe_callS Ff hrX rfl T.g_fewest Ff0.kp Bf (fun σ => passAt tk σ) (pa_cons (pe_var (i := 0) rfl (Or.inl rfl)) (pa_cons (pe_var (i := 1) rfl (Or.inl rfl)) pa_nil)))))
      (fun a oe cls d pn hzc hf => ?_)) (pss_one (ps_ret (pe_lst pa_nil))), ?_⟩
  · have hc := call_isD (X := X) (a := a) (pn := pn) B.exC hzc hf
    refine pss_one (ps_if (PW.pt (pw_and (pt_val (pe_callB hc rfl T.n_isinstance PyProof.Rows.boot_isinstance (pa_cons (pe_var (i := 2) rfl (Or.inl rfl)) (pa_cons (pe_glob (v := .ref (CB K)) rfl T.g_BadNumber rfl) pa_nil))))
      (pw_and (pt_val (pe_callB hc rfl T.n_isinstance PyProof.Rows.boot_isinstance (pa_cons (pe_var (i := 2) rfl (Or.inl rfl)) (pa_cons (pe_bltn (v := .ty "ValueError") rfl T.n_ValueError PyProof.Rows.Boot.«ValueError» rfl (by decide)) pa_nil))))
        (pw_and1 (pt_not (pt_val (pe_callB hc rfl T.n_isinstance PyProof.Rows.boot_isinstance (pa_cons (pe_var (i := 2) rfl (Or.inl rfl)) (pa_cons (pe_glob (v := .ref (He.ga K "BadRow")) rfl T.g_BadRow rfl) pa_nil)))))))))
      (pss_one (ps_ret (pe_lst (pa_cons (pe_xf B.xfC B.all.bn.num hzc hf (pe_var (i := 2) rfl (Or.inl rfl))) pa_nil)))) pss_nil)
  · have hvs : vs.length = 2 := by rw [hR.len]; rfl
    obtain ⟨v0, v1, rfl⟩ : ∃ a b, vs = [a, b] := match vs, hvs with
      | [a, b], _ => ⟨a, b, rfl⟩
    refine ⟨v0, rfl, v1, rfl, B0, _, d0, z, eB, hR, rfl, hz, fun dx H' e1 hn hdx => ?_⟩
    refine ⟨true, B.core, fun _ a ha => ?_, fun h => nomatch h⟩
    refine isD_of rfl hdx (fun u r => r) B.isB ?_
    refine isD_of rfl hdx (fun u r => r) B.isV ?_
    refine isD_of rfl hdx (fun u r => r) B.isR ?_
    refine ⟨_, rfl, rfl, rfl, dx, _, .int z, rfl, hdx, rfl, Nat.le_of_ble_eq_true rfl, fun p hp => ?_⟩
    refine hQ _ (.oL p [.int z]) _ ⟨p, rfl⟩ ⟨e1.trans (Ex.upd hp), ⟨rfl, _, upd_same, .cons (.int z) .nil⟩, fun l hl => ?_, by simp [Sl.own]⟩
    rcases List.mem_singleton.mp hl with rfl
    cases q : H l with
    | none => rfl
    | some o =>
      have := e1 _ _ q
      rw [hp] at this; cases this
end
end K39
/-! KQ1 -/
set_option maxHeartbeats 4000000
/-! ## what the law draws is fit -/
namespace K39
open PySem PySem.Spec PyProof.Rows L2
/-! ### sets -/
theorem digits_mem {way : Int} : ∀ {l : List Pair} {n : Int} {p : Pair}, p ∈ digitsM way l n → p ∈ l
  | [], _, p, h => by rw [digitsM] at h; exact h
  | q :: r, n, p, h => by
    rw [digitsM] at h
    rcases List.mem_append.mp h with h | h
    · split at h
      · rw [List.mem_singleton.mp h]; exact List.mem_cons_self ..
      · cases h
    · exact List.mem_cons_of_mem _ (digits_mem h)
theorem digits_len {way : Int} : ∀ {l : List Pair} {n : Int}, (digitsM way l n).length ≤ l.length
  | [], _ => by rw [digitsM]; exact Nat.le_refl _
  | q :: r, n => by
    rw [digitsM, List.length_append, List.length_cons]
    have := digits_len (way := way) (l := r) (n := n / 4)
    split
    · rw [List.length_singleton]; omega
    · show 0 + _ ≤ _; omega
theorem filt_ok (f : Pair → Bool) : SetOk (pairsM.filter f) := ⟨fun p h => (List.mem_filter.mp h).1, Nat.le_trans (List.length_filter_le _ _) (by rw [pairs_len]; decide)⟩
theorem setM_ok (n : Int) : SetOk (setM n) := by
  unfold setM
  dsimp only
  split
  · exact filt_ok _
  · split
    · exact filt_ok _
    · split
      · exact filt_ok _
      · split
        · exact filt_ok _
        · exact ⟨fun p h => digits_mem h, Nat.le_trans digits_len (by rw [pairs_len]; decide)⟩
theorem goalM_ok {kept : PSet} (h : SetOk kept) (n : Int) : SetOk (goalM kept n) := by
  unfold goalM
  split
  · exact setM_ok _
  · exact ⟨fun p q => h.1 p (List.mem_filter.mp q).1, Nat.le_trans (List.length_filter_le _ _) h.2⟩
/-! ### names -/
theorem last_i {w : Str} : cut7 w ++ "i" ∉ barred7 := fun h => by
  have e : (cut7 w ++ "i").cps.toList.getLast? = some 105 := by
    rw [app_list]
    exact List.getLast?_concat
  have hall : ∀ b ∈ barred7, b.cps.toList.getLast? ≠ some 105 := by decide +kernel
  exact hall _ h e
theorem signs_end : signs9 = (["a", "b", "c", "d", "e", "f", "g", "h"] : List Str) ++ [("i" : Str)] := rfl
theorem name_free (n : Int) (taken : List Str) : nameM n taken ∉ barred7 := by
  rw [name_eq, signs_end, List.foldl_append, List.foldl_cons, List.foldl_nil]
  unfold nameStep
  split
  · exact last_i
  · rename_i h
    exact fun q => h (List.mem_append_left _ q)
/-! ### tables -/
structure TabIn (t : Tab) (k : Nat) : Prop where
  nm : ∀ n ∈ t.map (·.1), Nm n ∧ n ∉ barred7
  nd : (t.map (·.1)).Nodup
  sets : ∀ n s, (n, s) ∈ t → SetOk s
  len : t.length ≤ k
theorem tput_in {t : Tab} {k : Nat} {n : Str} {s : PSet} (T : TabIn t k) (hn : Nm n ∧ n ∉ barred7) (hs : SetOk s) : TabIn (tput' t n s) (k + 1) where
  nm := fun m hm => by
    rw [tput_keys] at hm
    split at hm
    · exact T.nm m hm
    · rcases List.mem_append.mp hm with hm | hm
      · exact T.nm m hm
      · rw [List.mem_singleton.mp hm]; exact hn
  nd := by
    rw [tput_keys]
    split
    · exact T.nd
    · rename_i h
      exact List.nodup_append.mpr ⟨T.nd, (by simp), fun a ha b hb e => by
        rw [List.mem_singleton.mp hb] at e
        exact h (e ▸ ha)⟩
  sets := fun m s' h => by
    unfold tput' at h
    split at h
    · rcases List.mem_append.mp h with h | h
      · exact T.sets m s' h
      · have e := List.mem_singleton.mp h
        rw [(Prod.mk.inj e).2]; exact hs
    · obtain ⟨q, hq, e⟩ := List.mem_map.mp h
      split at e
      · rw [← (Prod.mk.inj e).2]; exact hs
      · rw [e] at hq; exact T.sets m s' hq
  len := by
    unfold tput'
    split
    · rw [List.length_append, List.length_singleton]; have := T.len; omega
    · rw [List.length_map]; have := T.len; omega
theorem step_in {number : Int} {row : List Int} {at_ : Nat} {known : List Str} (hk : ∀ n ∈ known, Nm n ∧ n ∉ barred7) {t : Tab} {k : Nat} (T : TabIn t k) (i : Nat) : TabIn (tableStep number row at_ known t i) (k + 1) := by
  unfold tableStep
  dsimp only
  refine tput_in T ?_ (setM_ok _)
  by_cases h : (known.filter fun x => decide (x ∉ t.map (·.1))).length > 0 ∧ number / (if i = 0 then 3 else 6) % 2 = 1
  · rw [if_pos h]
    cases q : known.filter (fun x => decide (x ∉ t.map (·.1))) with
    | nil =>
      rw [q] at h
      exact absurd h.1 (by decide)
    | cons x xs =>
      have hx : x ∈ known.filter (fun x => decide (x ∉ t.map (·.1))) := by rw [q]; exact List.mem_cons_self ..
      exact hk x (List.mem_filter.mp hx).1
  · rw [if_neg h]
    exact ⟨name_nm _ _, name_free _ _⟩
theorem tab0 : TabIn [] 0 := ⟨(fun _ h => by cases h), List.nodup_nil, (fun _ _ h => by cases h), Nat.le_refl _⟩
theorem steps_in {number : Int} {row : List Int} {at_ : Nat} {known : List Str} (hk : ∀ n ∈ known, Nm n ∧ n ∉ barred7) : ∀ k : Nat, TabIn ((List.range k).foldl (tableStep number row at_ known) []) k
  | 0 => tab0
  | k + 1 => by
    rw [List.range_succ, List.foldl_append]
    exact step_in hk (steps_in hk k) k
theorem table_in {number : Int} {row : List Int} {at_ : Nat} {known : List Str} (hk : ∀ n ∈ known, Nm n ∧ n ∉ barred7) : FenOk (tableM number row at_ known) := by
  have b3 : 0 ≤ number % 3 ∧ number % 3 < 3 := ⟨Int.emod_nonneg _ (by decide), Int.emod_lt_of_pos _ (by decide)⟩
  have T : TabIn (tableM number row at_ known) (number % 3).toNat := steps_in hk _
  have l2 : (tableM number row at_ known).length ≤ 2 := by have := T.len; omega
  exact ⟨⟨⟨fun x hx => (T.nm x hx).1.ok, by rw [List.length_map]; omega⟩, T.nd, fun n s h => T.sets n s (mem_look h).2⟩, T.nm, l2⟩
/-! ### rows -/
theorem asc_nil : ascS [] = [] := ascS_of List.Pairwise.nil List.nodup_nil
theorem asc_one (x : Str) : ascS [x] = [x] := ascS_of (List.pairwise_singleton _ _) (by simp)
theorem plain_nrm {names : List Str} {bars : Tab} : Nrm (plainM names bars) := fun n x h => by
  have hm := (mem_look h).2
  unfold plainM at hm
  obtain ⟨m, _, e⟩ := List.mem_map.mp hm
  rw [← (Prod.mk.inj e).2]
  split
  · show Row.ac (ascS []) _ (ascS []) = _
    rw [asc_nil]
  · split
    · show Row.pl (ascS [m]) = _
      rw [asc_one]
    · split
      · show Row.pl (ascS []) = _
        rw [asc_nil]
      · show Row.pl (ascS [("full" : Str)]) = _
        rw [asc_one]
theorem rows_nrm {row : List Int} {at_ : Nat} {names gates : List Str} {bars : Tab} : Nrm (rowsM row at_ names bars gates) := by
  unfold rowsM
  suffices h : ∀ (l : List Nat) (r : Rows), (∀ k ∈ l, k < names.length) → r.map (·.1) = names → Nrm r → Nrm (l.foldl (rowsStep row at_ names gates) r) from h _ _ (fun k hk => List.mem_range.mp hk) (by rw [plain_eq, List.map_map]; exact List.map_id' names) plain_nrm
  intro l
  induction l with
  | nil => exact fun r _ _ h => h
  | cons k l ih =>
    intro r hl hn h
    have hk := hl k (List.mem_cons_self ..)
    refine ih _ (fun j hj => hl j (List.mem_cons_of_mem _ hj)) ?_ ?_
    · unfold rowsStep
      split
      · rw [rput_keys, hn]
      · exact hn
    · unfold rowsStep
      split
      · refine h.put ?_ (normal_idem _)
        rw [hn, List.getD_eq_getElem?_getD, List.getElem?_eq_getElem hk]
        exact List.getElem_mem hk
      · exact h
end K39
/-! KP17 -/
set_option maxHeartbeats 4000000
/-! ## the law -/
namespace K39
open PySem PySem.Spec PyProof.Rows L2
def G_law : List D → Rs → Prop := fun ds r => ∃ ns : List Int, ds = [.scr ns] ∧ r = .val (.bl true)
theorem row_at (ns : List Int) {k : Nat} (h : k < 24) : ((rowM ns).map D.int)[k]? = some (.int (drawM ns k)) := by
  unfold rowM
  rw [List.map_map, List.getElem?_map, List.getElem?_range h]; rfl
theorem row_len (ns : List Int) : (rowM ns).length = 24 := by
  unfold rowM
  rw [List.length_map, List.length_range]
theorem int_inj' : ∀ a b : Nat, D.int (a : Int) = D.int (b : Int) → a = b := fun a b h => by
  have := D.int.inj h
  omega
theorem sh_eR : ∀ {x : Row}, x.ok → D.sh 2 (eR x)
  | .pl f, h => sh_strs h.1
  | .ac a k b, h => ⟨sh_strs h.1.1, h.2.1, sh_strs h.2.2.1, True.intro⟩
section
variable {P : Program} {w : World} {K : PySem.W.Frag} {mg : Str → Option Value} {bs : Heap}
theorem law_fn (T : Hd K mg) (Bn : BnCat K) (hP : PrOk P) {fd : FuncData} (F : L2.FunD K "law" "law" (defArgs s_law) (defBody s_law) (defScope s_law) [] [] (He.ga K "law") fd) : FnOk P w K mg bs CX0 8 (He.ga K "law") fd ["_law_script"] (spG K G_law) := by
  refine fn_ok (N := N_law) F sc_law (by decide) ?_ ?_
  · rintro ds r ⟨_, rfl, _⟩; rfl
  · rintro c ds r hr ⟨ns, rfl, rfl⟩
    have hu := ru1 hr
    let row := rowM ns
    let v := fun k => drawM ns k
    let kept := setM (v 0)
    let marks := tableM (v 1) row 2 []
    let goal := goalM kept (v 6)
    let bars := tableM (v 7) row 8 (marks.map (·.1))
    have hk : SetOk kept := setM_ok _
    have Fm : FenOk marks := table_in (fun _ h => by cases h)
    have hg : SetOk goal := goalM_ok hk _
    have Fb : FenOk bars := table_in (fun n h => Fm.nm n h)
    let names := namesM marks
    let gates := gatesM bars
    have N := namesM_ok Fm
    have GK := gatesM_ok Fb
    have hbg : ∀ n ∈ bars.map (·.1), n ∈ gates := fun n hn => gatesM_mem.mpr (.inr hn)
    refine s_cons (M := fun E' => ∃ l, E' = [some (.val (.scr ns)), some (.oL l (row.map D.int)), none, none, none, none, none, none, none, none, none, none, none, none])
      (h_setLcL (fun k : Nat => D.int (k : Int)) (fun k : Nat => D.int (drawM ns k)) (fun _ => true) (L := List.range 24) 1 13 int_inj' sc_law.nd (k_range (n := 24) T.n_range h_int (by decide) (by decide)) (by decide)
        (fun j k hk b => ⟨ts_nil, fun _ => h_call (kn_draw T) (hr.mono (by decide)) (a2 (h_var 0) (h_var 13)) ⟨ns, k, rfl, rfl⟩⟩) rfl (fun l => ⟨l, rfl⟩)) ?_
    rintro _ ⟨l1, rfl⟩
    refine q_settle 1 ?_
    refine q_asg 2 sc_law.nd (r := .val (eS kept)) (h_settle (h_call (kn_set T) (hr.mono (by decide)) (a1 (h_ix (i_lst (ds := row.map D.int) (j := 0) (row_at ns (by decide))) (h_var 1) h_int)) ⟨_, rfl, rfl⟩)) ?_
    rintro _ rfl
    refine q_asg 3 sc_law.nd (r := .val (eTab marks)) (h_settleD (h_call (kn_table T) (hr.mono (by decide)) (ha_cons (h_ix (i_lst (ds := row.map D.int) (j := 1) (row_at ns (by decide))) (h_var 1) h_int) (ha_cons (h_var 1) (a2 h_int (h_settle (h_lst ha_nil))))) ⟨v 1, row, 2, [], rfl, by rw [row_len]; decide, ⟨(fun _ h => by cases h), Nat.zero_le _⟩, rfl⟩)) ?_
    rintro _ rfl
    refine q_asg 4 sc_law.nd (r := .val (eS goal)) (h_settle (h_call (kn_goal T) (hr.mono (by decide)) (a2 (h_var 2) (h_ix (i_lst (ds := row.map D.int) (j := 6) (row_at ns (by decide))) (h_var 1) h_int)) ⟨kept, v 6, rfl, hk.1, hk.2, rfl⟩)) ?_
    rintro _ rfl
    refine q_asg 5 sc_law.nd (r := .val (eTab bars)) (h_settleD (h_call (kn_table T) (hr.mono (by decide)) (ha_cons (h_ix (i_lst (ds := row.map D.int) (j := 7) (row_at ns (by decide))) (h_var 1) h_int) (ha_cons (h_var 1) (a2 h_int (d' := eNs (marks.map (·.1))) (d_is (h_settle (h_callT (f_listD rfl) T.n_list PyProof.Rows.boot_list (a1 (h_var 3)))) (by rw [keys_tab]; rfl))))) ⟨v 7, row, 8, marks.map (·.1), rfl, by rw [row_len]; decide, Fm.tab.ok, rfl⟩)) ?_
    rintro _ rfl
    refine q_asg 6 sc_law.nd (h_gates T (ru64 hr) Fb (h_var 5)) ?_
    rintro _ rfl
    refine q_asg 7 sc_law.nd (r := .val (eNs names)) (h_settle (h_call (kn_names T) (hr.mono (by decide)) (a1 (h_var 3)) ⟨marks, rfl, Fm.tab.ok, rfl⟩)) ?_
    rintro _ rfl
    let E8 := fun (o8 o9 o10 o11 o12 : Option Sl) => ([some (.val (.scr ns)), some (.val (eNums row)), some (.val (eS kept)), some (.val (eTab marks)), some (.val (eS goal)), some (.val (eTab bars)), some (.val (eNs gates)), some (.val (eNs names)), o8, o9, o10, o11, o12, none] : En)
    refine q_asg 8 sc_law.nd (r := .nD (eRws (plainM names bars))) (h_call (kn_plain T) (hr.mono (by decide)) (a2 (h_var 7) (h_var 5)) ⟨names, bars, rfl, N.ok, N.nd, rfl⟩) ?_
    rintro _ ⟨l8, rfl⟩
    have R0 : RecOk kept goal marks bars (plainM names bars) := ⟨Fm, Fb, hk, hg, plain_ok N GK hbg, plain_nrm⟩
    refine q_if (M := fun E' => ∃ l rs, E' = E8 (some (.oD l (eRws rs))) none none none none ∧ RecOk kept goal marks bars rs) (t_cmp c_gt (h_op (o_mod (by decide)) (h_callT f_int T.n_int PyProof.Rows.boot_int (a1 (h_ix (i_lst (ds := row.map D.int) (j := 21) (row_at ns (by decide))) (h_var 1) h_int))) h_int) h_int) (fun _ => ?_) (fun _ => s_nil ⟨l8, _, rfl, R0⟩) ?_
    · refine s_one (h_asg (i := 8) sc_law.nd (r := .nD (eRws (rowsM row 12 names bars gates))) (h_call (kn_rows T) (hr.mono (by decide)) (ha_cons (h_var 1) (ha_cons h_int (ha_cons (h_var 7) (a2 (h_var 5) (h_var 6))))) ⟨row, 12, names, bars, gates, rfl, by rw [row_len]; have := names_nine Fm; show 12 + (namesM marks).length ≤ 24; omega, N, GK, hbg, rfl⟩) ?_)
      rintro _ ⟨l, rfl⟩
      exact ⟨l, _, rfl, Fm, Fb, hk, hg, rows_ok N GK hbg, rows_nrm⟩
    rintro _ ⟨l8, rs1, rfl, R1⟩
    refine q_if (M := fun E' => ∃ l rs, E' = E8 (some (.oD l (eRws rs))) none none none none ∧ RecOk kept goal marks bars rs) (t_cmp c_gt (h_op (o_mod (by decide)) (h_callT f_int T.n_int PyProof.Rows.boot_int (a1 (h_ix (i_lst (ds := row.map D.int) (j := 21) (row_at ns (by decide))) (h_var 1) h_int))) h_int) h_int) (fun _ => ?_) (fun _ => s_nil ⟨l8, _, rfl, R1⟩) ?_
    · refine s_one (h_asgN 8 (kn_near T) (hr.mono (by decide)) sc_law.nd (ha_cons (h_var 2) (ha_cons (h_var 3) (ha_cons (h_var 4) (ha_cons (h_var 5) (a2 (h_ptrVar 8) (h_ix (i_lst (ds := row.map D.int) (j := 22) (row_at ns (by decide))) (h_var 1) h_int)))))) ⟨kept, goal, marks, bars, rs1, v 22, rfl, rfl, R1, rfl⟩ ?_)
      rintro _ ⟨l, rfl⟩
      exact ⟨l, _, rfl, near_ok R1 _⟩
    rintro _ ⟨l8, rs, rfl, R⟩
    refine q_asg 9 sc_law.nd (h_Recipe T (hr.mono (by decide)) (h_call (kn_lbook T) (hr.mono (by decide)) (a2 (h_var 2) (h_var 3)) ⟨kept, marks, rfl, hk, Fm, rfl⟩) (h_call (kn_lbook T) (hr.mono (by decide)) (a2 (h_var 4) (h_var 5)) ⟨goal, bars, rfl, hg, Fb, rfl⟩) Fm Fb) ?_
    rintro _ ⟨y, g, rfl⟩
    let sl := fun (r : Rows) => slR K y g (oB K kept (fullT marks)) (oB K goal (fullT bars)) names r
    have hset : ∀ {E : En} {N' : Po} {e e2 : Expr} {sp p pos : Pos} {r : Rows} {n : Str} {x : Row} (he : HasD (Cc.cx P w K mg bs N_law "law" s_law c) E e (eR x)) (hk : HasD (Cc.cx P w K mg bs N_law "law" s_law c) E e2 (.str n)) (hE : E[9]? = some (some (sl r)))
        (Rr : RowsOk names gates r) (h1 : n ∈ names) (h2 : x.ok) (h3 : RowIn gates x) (h4 : RowAt n x) (hn : N'.nx (E.set 9 (some (sl (rput r n (normalM x))))))
        (hs : swapsWith e (some (.Subscript (.Name "_law_made" p) e2 sp)) pos.line (Cc.cx P w K mg bs N_law "law" s_law c).env = pure false),
        HasS (Cc.cx P w K mg bs N_law "law" s_law c) E (.Assign [.Subscript (.Name "_law_made" p) e2 sp] e pos) N' :=
      fun he hk hE Rr h1 h2 h3 h4 hn hs => s_ownPut (s0 := sl _) (r := fun s1 => s1 = sl (rput _ _ (normalM _))) 9 (kn_setitem T) (hr.mono (by decide)) he hk rfl ⟨y, g, kept, goal, marks, bars, _, _, _, rfl, rfl, Fb, Rr, h1, h2, h3, h4, rfl⟩ (fun s1 e => by rw [e]; exact hn) hE (hs := hs)
    have hgr : ∀ {r : Rows} {E : En} {e e2 : Expr} {p : Pos} {n : Str} (R : RecOk kept goal marks bars r) (hn : n ∈ names) (he : HasD (Cc.cx P w K mg bs N_law "law" s_law c) (frzE E) e (eRows r)) (h2 : HasD (Cc.cx P w K mg bs N_law "law" s_law c) (frzE E) e2 (.str n)) (hs : NoSl e2), HasD (Cc.cx P w K mg bs N_law "law" s_law c) E (.Subscript e e2 p) (eR (rowOf r n)) := fun R hn he h2 hs => by
      obtain ⟨x, lx, e1, e2, _⟩ := R.rows.at hn
      rw [e1]
      exact h_lend (h_dget (ru1 hr) e2 he h2 hs) (pl_row x)
    have R0s := R0.rows
    refine q_for (fun i E' => ∃ o10, E' = E8 (some (.oD l8 (eRws rs))) (some (sl (overM rs (names.take i) (plainM names bars)))) o10 none none ∧ NoOwn o10) (fun E' => ∃ o10, E' = E8 (some (.oD l8 (eRws rs))) (some (sl rs)) o10 none none ∧ NoOwn o10)
      (k_list (h_var 7)) (g_name 10 sc_law.nd) ⟨_, rfl, .inl rfl⟩ ?_ ?_ ?_
    · rintro i d E' hd ⟨o10, rfl, n10⟩
      obtain ⟨n, hn, rfl⟩ := map_get hd
      have hm := mem_of_get hn
      obtain ⟨x, lx, e1, e2, e3, e4, e5⟩ := R.rows.at hm
      refine ⟨_, ⟨Nat.le_of_ble_eq_true rfl, rfl⟩, ?_⟩
      refine s_one (hset (x := rowOf rs n) (r := overM rs (names.take i) (plainM names bars)) (hgr R hm (h_var 8) (h_var 10) (fun _ _ => rfl)) (h_var 10) rfl (over_ok R.rows _ R0s (fun z hz => List.mem_of_mem_take hz)) hm (by rw [e1]; exact e3) (by rw [e1]; exact e4) (by rw [e1]; exact e5) ⟨some (.val (.str n)), ?_, .inr ⟨_, rfl⟩⟩ rfl)
      rw [over_take hn, e1, R.nrm n x lx]; rfl
    · rintro E' ⟨o10, rfl, n10⟩
      refine ⟨o10, ?_, n10⟩
      rw [List.length_map, List.take_length, over_all R.rows R0s.keys]
    rintro _ ⟨o10, rfl, n10⟩
    let L := lLostM kept marks goal bars rs
    refine q_asg 11 sc_law.nd (r := .val (.lst (L.map eT))) (h_settle (h_lend (h_call (kn_llost T) (hr.mono (by decide)) (a5 (h_var 2) (h_var 3) (h_var 4) (h_var 5) (h_var 8)) ⟨_, _, kept, marks, goal, bars, rs, rfl, R.law, rfl⟩) (pl_trips _))) ?_
    rintro _ rfl
    let bk := D.lst [eS kept, eTab marks, eS goal, eTab bars]
    have sz3 : ∀ z ∈ ([2, 0, 1] : List Int), ∃ m : Nat, m ≤ 2 ∧ z = (m : Int) := fun z hz => by
      rcases List.mem_cons.mp hz with rfl | hz
      · exact ⟨2, by decide, rfl⟩
      · rcases List.mem_cons.mp hz with rfl | hz
        · exact ⟨0, by decide, rfl⟩
        · rw [List.mem_singleton.mp hz]
          exact ⟨1, by decide, rfl⟩
    refine q_when (k := false) (t_lend (t_w (w_or (k1 := false) (k2 := false) (t_not (k := true) (t_val (h_call (kn_told T) (hr.mono (by decide)) (ha_cons (h_var 9) (ha_cons (h_settle (h_lst (ha_cons (h_var 2) (ha_cons (h_var 3) (a2 (h_var 4) (h_var 5)))))) (a2 (h_var 8) (h_settle (h_lst (ha_cons h_int (a2 h_int h_int))))))) ⟨kept, goal, marks, bars, rs, [2, 0, 1], rfl, R, sz3, rfl⟩))) fun _ =>
      w_or1 (t_not (k := true) (t_val (h_call (kn_walked T) (hr.mono (by decide)) (a2 (h_var 9) (h_settle (h_call (kn_fewest T) (hr.mono (by decide)) (a2 (h_var 9) h_int) ⟨kept, goal, marks, bars, rs, 2, rfl, R, Nat.le_refl _, rfl⟩))) ⟨kept, goal, marks, bars, rs, rfl, R, rfl⟩)))))) (fun h => nomatch h) fun _ => ?_
    let zs : List Int := [3, 3 + v 23 % 1000, -1, -1 - v 23 / 1000 % 1000]
    have hzs : ∀ z ∈ zs, ¬ (0 ≤ z ∧ z ≤ 2) := fun z hz => by
      have m1 := Int.emod_nonneg (v 23) (show (1000 : Int) ≠ 0 by decide)
      have m2 := Int.emod_nonneg (v 23 / 1000) (show (1000 : Int) ≠ 0 by decide)
      rcases List.mem_cons.mp hz with rfl | hz
      · omega
      · rcases List.mem_cons.mp hz with rfl | hz
        · omega
        · rcases List.mem_cons.mp hz with rfl | hz
          · omega
          · rw [List.mem_singleton.mp hz]
            omega
    refine q_for (fun i E' => ∃ o10 o12, E' = E8 (some (.oD l8 (eRws rs))) (some (sl rs)) o10 (some (.val (.lst (L.map eT)))) o12) (fun E' => ∃ o10 o12, E' = E8 (some (.oD l8 (eRws rs))) (some (sl rs)) o10 (some (.val (.lst (L.map eT)))) o12)
      (k_list (ds := zs.map D.int) (h_settle (h_lst (ha_cons h_int (ha_cons (h_op o_add h_int (h_op (o_mod (by decide)) (h_callT f_int T.n_int PyProof.Rows.boot_int (a1 (h_ix (i_lst (ds := row.map D.int) (j := 23) (row_at ns (by decide))) (h_var 1) h_int))) h_int))
        (a2 (h_neg h_int) (h_op o_sub (h_neg h_int) (h_op (o_mod (by decide)) (h_callT f_int T.n_int PyProof.Rows.boot_int (a1 (h_op (o_div (by decide)) (h_ix (i_lst (ds := row.map D.int) (j := 23) (row_at ns (by decide))) (h_var 1) h_int) h_int))) h_int)))))))) (g_name 12 sc_law.nd) ⟨_, _, rfl⟩ ?_ (fun _ h => h) ?_
    · rintro i d E' hd ⟨o10, o12, rfl⟩
      obtain ⟨z, hz, rfl⟩ := map_get hd
      have hz2 := hzs z (mem_of_get hz)
      refine ⟨_, ⟨Nat.le_of_ble_eq_true rfl, rfl⟩, ?_⟩
      exact s_one (h_ifS (k := false) (t_lend (t_cmp (c_neD (n := 1) (m := 1) (d := .lst [.int z]) (e := .lst [.int z]) (ru64 hr) ⟨True.intro, True.intro⟩ ⟨True.intro, True.intro⟩ (by simp)) (h_settle (h_call (kn_refusal T Bn hP) (hr.mono (by decide)) (a2 (h_var 9) (h_var 12)) ⟨_, z, rfl, hz2, rfl⟩)) (h_settle (h_lst (a1 (h_var 12)))))) (fun h => nomatch h) fun _ => s_nil ⟨_, _, rfl⟩)
    rintro _ ⟨o10, o12, rfl⟩
    refine q_for (fun i E' => ∃ o10, E' = E8 (some (.oD l8 (eRws rs))) (some (sl rs)) o10 (some (.val (.lst (L.map eT)))) o12) (fun E' => ∃ o10, E' = E8 (some (.oD l8 (eRws rs))) (some (sl rs)) o10 (some (.val (.lst (L.map eT)))) o12)
      (k_list (h_var 7)) (g_name 10 sc_law.nd) ⟨_, rfl⟩ ?_ (fun _ h => h) ?_
    · rintro i d E' hd ⟨o10, rfl⟩
      obtain ⟨n, hn, rfl⟩ := map_get hd
      have hm := mem_of_get hn
      obtain ⟨x, lx, e1, e2, e3, e4, e5⟩ := R.rows.at hm
      refine ⟨_, ⟨Nat.le_of_ble_eq_true rfl, rfl⟩, ?_⟩
      have ok : (rowOf rs n).ok := by rw [e1]; exact e3
      exact s_one (h_ifS (k := false) (t_lend (t_cmp (c_neD (n := 2) (m := 2) (d := eR (rowOf rs n)) (e := eR (rowOf rs n)) (ru64 hr) (sh_eR ok) (sh_eR ok) (by simp)) (h_row T (hr.mono (by decide)) R (h_var 9) (h_var 10) hm) (h_dget (ru1 hr) (by rw [e1]; exact e2) (h_var 8) (h_var 10)))) (fun h => nomatch h) fun _ => s_nil ⟨_, rfl⟩)
    rintro _ ⟨o10, rfl⟩
    have tok : ∀ t ∈ L, TripOk marks t := fun t ht => lost_trip ht
    refine q_when (k := false) (t_lend (t_w (w_or (k1 := false) (k2 := false) (t_cmp (c_neD (n := 2) (m := 2) (d := .lst (L.map eT)) (e := .lst (L.map eT)) (ru64 hr) (sh_trips Fm tok) (sh_trips Fm tok) (by simp)) (h_settle (h_call (kn_lost T) (hr.mono (by decide)) (a1 (h_var 9)) ⟨kept, goal, marks, bars, rs, rfl, R, rfl⟩)) (h_var 11)) fun _ =>
      w_or1 (t_cmp (c_neD (n := 1) (m := 1) (d := eNs names) (e := eNs names) (ru64 hr) (sh_strs N.ok.1) (sh_strs N.ok.1) (by simp)) (h_settle (h_callT (f_listOf (it_Recipe T) rfl (hr.mono (by decide)) rfl (by rw [List.length_map]; exact Nat.lt_of_le_of_lt N.ok.2 (by decide))) T.n_list PyProof.Rows.boot_list (a1 (h_var 9)))) (h_var 7))))) (fun h => nomatch h) fun _ => ?_
    have hne : names ≠ [] := fun e => by
      have := N.full
      rw [show namesM marks = [] from e] at this
      cases this
    have sl0 : (0 : Int) < (names.map D.str).length := by
      rw [List.length_map]
      have := List.length_pos_iff.mpr hne
      omega
    let zz := v 23 / 1000000
    let n := names.getD (zz % (names.length : Int)).toNat ""
    have hn : n ∈ names := getD_mem hne zz ""
    refine q_asg 10 sc_law.nd (r := .val (.str n)) (h_ix (i_lst (ds := names.map D.str) (j := (zz % (names.length : Int)).toNat) (by rw [List.getElem?_map, mod_get hne]; rfl)) (h_var 7) (d_is (h_op (o_mod sl0) (h_callT f_int T.n_int PyProof.Rows.boot_int (a1 (h_op (o_div (by decide)) (h_ix (i_lst (ds := row.map D.int) (j := 23) (row_at ns (by decide))) (h_var 1) h_int) h_int))) (h_callB f_lenL T.n_len PySem.boot_len (a1 (h_var 7)))) (by rw [emod_nat sl0, List.length_map]))) ?_
    rintro _ rfl
    let lo := looseM n (v 23 / 9000000) gates
    have lok := loose_ok (nm := n) (n := v 23 / 9000000) GK
    have nok := normal_fit lok
    let rs2 := rput rs n (normalM lo)
    have hkn : n ∈ rs.map (·.1) := by rw [R.rows.keys]; exact hn
    have R2 : RecOk kept goal marks bars rs2 := ⟨Fm, Fb, hk, hg, R.rows.put nok.1 nok.2.1 nok.2.2, R.nrm'.put hkn (normal_idem _)⟩
    have hz : rs.length ≤ 100 := by rw [← List.length_map (f := (·.1)) (as := rs), R.rows.keys]; exact N.ok.2
    refine s_cons (M := fun E' => E' = E8 (some (.oD l8 (eRws rs2))) (some (sl rs)) (some (.val (.str n))) (some (.val (.lst (L.map eT)))) o12)
      (h_dput 8 (ru1 hr) (ds := eRws rs) (y := n) (d := eR (normalM lo)) (h_call (kn_normal T) (hr.mono (by decide)) (a1 (h_call (kn_loose T) (hr.mono (by decide)) (ha_cons (h_var 10) (a2 (h_op (o_div (by decide)) (h_ix (i_lst (ds := row.map D.int) (j := 23) (row_at ns (by decide))) (h_var 1) h_int) h_int) (h_var 6))) ⟨n, v 23 / 9000000, gates, rfl, GK.ne, Nat.le_trans GK.ok.2 (by decide), rfl⟩)) ⟨lo, rfl, lok.1, rfl⟩) (h_var 10) (by rw [eRws, List.length_map]; omega) (by rw [dput_old hkn]; rfl)) ?_
    rintro _ rfl
    obtain ⟨x, lx, e1, e2, e3, e4, e5⟩ := R2.rows.at hn
    refine s_cons (M := fun E' => E' = E8 (some (.oD l8 (eRws rs2))) (some (sl rs2)) (some (.val (.str n))) (some (.val (.lst (L.map eT)))) o12)
      (hset (x := rowOf rs2 n) (r := rs) (hgr R2 hn (h_var 8) (h_var 10) (fun _ _ => rfl)) (h_var 10) rfl R.rows hn (by rw [e1]; exact e3) (by rw [e1]; exact e4) (by rw [e1]; exact e5) (by
        have e : rowOf rs2 n = normalM lo := by
          unfold rowOf
          rw [rput_eq hkn]; rfl
        rw [e, normal_idem]; rfl) rfl) ?_
    rintro _ rfl
    have m2 : 0 ≤ v 22 % 2 ∧ v 22 % 2 < 2 := ⟨Int.emod_nonneg _ (by decide), Int.emod_lt_of_pos _ (by decide)⟩
    exact s_one (h_ret (h_lend (h_call (kn_told T) (hr.mono (by decide)) (ha_cons (h_var 9) (ha_cons (h_settle (h_lst (ha_cons (h_var 2) (ha_cons (h_var 3) (a2 (h_var 4) (h_var 5)))))) (a2 (h_var 8) (h_settle (h_lst (a1 (h_op o_add h_int (h_op (o_mod (by decide)) (h_callT f_int T.n_int PyProof.Rows.boot_int (a1 (h_ix (i_lst (ds := row.map D.int) (j := 22) (row_at ns (by decide))) (h_var 1) h_int))) h_int))))))))
      ⟨kept, goal, marks, bars, rs2, [1 + v 22 % 2], rfl, R2, (fun z hz => ⟨(1 + v 22 % 2).toNat, by omega, by rw [List.mem_singleton.mp hz]; omega⟩), rfl⟩) rfl) fun s hs => hs)
end
end K39
/-! KHead1 -/
set_option maxHeartbeats 0
/-! ## the head: what the run of the module leaves -/
namespace K39
open PySem PySem.Spec PyProof.Rows L2
abbrev FnCW : Type := Option (Str × Str × Arguments × FuncBody × Scope × Addr × List Str × Value × Addr)
def fnCW (K : PySem.W.Frag) (f : Addr) : FnCW := match K.lookup f with
  | some ⟨_, _, .func fd, _⟩ => some (fd.name, fd.qualname, fd.params, fd.body, fd.scope, fd.globals, fd.closure.map (·.1), fd.defaults, fd.builtins)
  | _ => none
def valBN : FnCW := some ("__init__", "BadNumber.__init__", defArgs s_bn, .stmts (defBody s_bn), defScope s_bn, mainGlobals, ["__class__"], .none, builtinsNs)
abbrev fBN (K : PySem.W.Frag) : Addr := He.ma K (CB K) "__init__"
def isText (x : Str) : Option Value → Bool
  | some (.str y _) => decide (y = x)
  | _ => false
def codeB (K : PySem.W.Frag) : Value → Bool
  | .ref cda => PySem.W.codeIn K (.ref cda) "BadNumber.__init__" && (match K.lookup cda with
    | some ⟨_, _, .fields vs, _⟩ => isText "/claim/cut.py" vs[2]?
    | _ => false)
  | _ => false
def closB (K : PySem.W.Frag) : List (Str × Addr) → Bool
  | [q] => (match K.lookup q.2 with
    | some ⟨_, _, .cell (some (.ref c)), _⟩ => decide (c = CB K)
    | _ => false)
  | _ => false
def exB (K : PySem.W.Frag) : Bool := match K.lookup (fBN K) with
  | some ⟨_, _, .func fd, _⟩ => codeB K fd.code && closB K fd.closure
  | _ => false
def clB (K : PySem.W.Frag) (C : Addr) : Bool := match K.lookup C with
  | some ⟨.type "type", _, .cls cd, sl⟩ => (match cd.mro, sl.toList with
    | .ref C' :: bm, [_, _, _, _, some (.builtin n), _] => C' == C && (n == "ValueError.__new__" && (!cd.hasDel && (cd.hasDict && PySem.HandSPX.refsVE bm)))
    | _, _ => false)
  | _ => false
theorem clB_ok {K : PySem.W.Frag} {C : Addr} (q : clB K C = true) : ∃ nm q N bs bm sn sub ab col dd k0 k1 k2 k3 k5, K.lookup C = some (excClassObj nm q C N bs bm true sn sub ab col dd k0 k1 k2 k3 k5 "ValueError.__new__") ∧ PySem.HandSPX.refsVE bm = true := by
  unfold clB at q
  split at q
  · rename_i dd cd sl ho
    split at q
    · rename_i C' bm k0 k1 k2 k3 n k5 hm hs
      simp only [Bool.and_eq_true, beq_iff_eq, Bool.not_eq_true'] at q
      obtain ⟨rfl, rfl, hdel, hdc, hr⟩ := q
      obtain ⟨nm, bs, mro, ns, qn, hd, sn, sub, ab, col, del⟩ := cd
      dsimp only at hm hdel hdc
      subst hm hdel hdc
      have hsl : sl = #[k0, k1, k2, k3, some (.builtin "ValueError.__new__"), k5] := by
        obtain ⟨l⟩ := sl
        simp only at hs
        rw [hs]
      subst hsl
      exact ⟨nm, qn, ns, bs, bm, sn, sub, ab, col, dd, k0, k1, k2, k3, k5, ho, hr⟩
    · cases q
  · cases q
def xB (K : PySem.W.Frag) : List Bool :=
  let C := CB K
  [exB K, clB K C,
   decide (PySem.W.findIn K (.ref C) "__setattr__" = some (some (.builtin "object.__setattr__"))), decide (PySem.W.subIn K (.ref C) (.type "BaseException") = some true), decide (PySem.W.typeIn K (.ref C) = some (.type "type")), PySem.W.keepIn K (.ref C),
   decide (PySem.W.ks_superIn K C C "__init__" = some (some (.builtin "ValueError.__init__"))), decide (PySem.W.subIn K (.ref C) (.type "ValueError") = some true), decide (PySem.W.mroIn K C (.ref C) = some true), decide (PySem.W.nsIn K cStatics "thirdparty.any" = some none), decide (PySem.W.findIn K (.ref C) "number" = some none),
   decide (PySem.W.findIn K (.ref C) "__init__" = some (some (.ref (fBN K)))), decide (PySem.W.typeIn K (.ref (fBN K)) = some (.type "function")),
   decide (PySem.W.findIn K (.ref C) "__getattribute__" = some (some (.builtin "BaseException.__getattribute__"))), decide (PySem.W.findIn K (.ref C) "__getattr__" = some none), PySem.W.hasDictIn K C, decide (PySem.W.findIn K (.ref C) "__class__" = some (some (.builtin "object.__class__"))), decide (PySem.W.specialIn K (.builtin "object.__class__") "__get__" = some (some (.builtin "getset_descriptor.__get__"))),
   decide (PySem.W.takesIn K (.builtin "object.__class__") = some true), decide (PySem.W.mroIn K C (.type "object") = some true),
   decide (PySem.W.exmOne K (.ref C) (.ref (He.ga K "CoreError")) = some true), decide (PySem.W.kitOne K (.ref C) (.ref C) = some true), decide (PySem.W.kitOne K (.ref C) (.type "ValueError") = some true), decide (PySem.W.kitOne K (.ref C) (.ref (He.ga K "BadRow")) = some false)]
theorem all_get {l : List Bool} (h : l.all id = true) (i : Nat) {b : Bool} (e : l[i]? = some b) : b = true := List.all_eq_true.mp h b (List.mem_of_getElem? e)
theorem bnCat {K : PySem.W.Frag} (h : (xB K).all id = true) (e : fnCW K (fBN K) = valBN) : BnCat K := by
  have g : ∀ (i : Nat) {b : Bool}, (xB K)[i]? = some b → b = true := fun i {b} q => all_get h i q
  have gd : ∀ (i : Nat) {p : Prop} [Decidable p], (xB K)[i]? = some (decide p) → p := fun i {p} _ q => of_decide_eq_true (g i q)
  have e0 : exB K = true := g 0 rfl
  have ex : ∃ (oc : Value) (od : Option Addr) (kV doc pm : Value) (an : Option Addr) (cda : Addr) (ct : Value) (cc : Addr) (osl : Array (Option Value)),
      K.lookup (fBN K) = some ⟨oc, od, .func (bnFn .none kV doc pm an (.ref cda) ct cc), osl⟩ ∧ PySem.W.codeIn K (.ref cda) "BadNumber.__init__" = true ∧
      (∃ ccl cdd vs ccs tf, K.lookup cda = some ⟨ccl, cdd, .fields vs, ccs⟩ ∧ vs[2]? = some (.str "/claim/cut.py" tf)) ∧ ∃ cl cld csl, K.lookup cc = some ⟨cl, cld, .cell (some (.ref (CB K))), csl⟩ := by
    unfold exB at e0
    unfold fnCW at e
    cases q : K.lookup (fBN K) with
    | none =>
      rw [q] at e0
      cases e0
    | some o =>
      obtain ⟨oc, od, dt, osl⟩ := o
      rw [q] at e0 e
      cases dt with
      | func fd =>
        obtain ⟨n1, n2, n3, n4, n5, n6, n7, n8, n9, n10, n11, n12, n13, n14, n15⟩ := fd
        have e2 : (some (n1, n2, n3, n4, n5, n6, n7.map (·.1), n8, n15) : FnCW) = (some (("__init__" : Str), ("BadNumber.__init__" : Str), defArgs s_bn, FuncBody.stmts (defBody s_bn), defScope s_bn, mainGlobals, [("__class__" : Str)], Value.none, builtinsNs) : FnCW) := e
        simp only [Option.some.injEq, Prod.mk.injEq] at e2
        obtain ⟨h1, h2, h3, h4, h5, h6, h7, h8, h9⟩ := e2
        subst h1 h2 h3 h4 h5 h6 h8 h9
        have c1 : (codeB K n13 && closB K n7) = true := e0
        obtain ⟨c2, c3⟩ := He.ba c1
        unfold codeB at c2
        split at c2
        · rename_i cda
          obtain ⟨c4, c5⟩ := He.ba c2
          unfold closB at c3
          split at c3
          · rename_i qq
            obtain ⟨q1, cc⟩ := qq
            have hq1 : q1 = "__class__" := by simpa using h7
            subst hq1
            split at c3
            · rename_i cl cld c csl hcc
              have hc := of_decide_eq_true c3
              subst hc
              split at c5
              · rename_i ccl cdd vs ccs hcda
                unfold isText at c5
                split at c5
                · rename_i y tf hy
                  have hy2 := of_decide_eq_true c5
                  subst hy2
                  exact ⟨oc, od, n9, n10, n11, n12, cda, n14, cc, osl, rfl, c4, ⟨_, _, _, _, _, hcda, hy⟩, _, _, _, hcc⟩
                · cases c5
              · cases c5
            · cases c3
          · cases c3
        · cases c2
      | _ => cases e0
  have hg := gd 13 rfl
  have hk := gd 14 rfl
  have hs := gd 3 rfl
  have hd := g 15 rfl
  exact ⟨⟨⟨ex, ⟨clB_ok (g 1 rfl), gd 2 rfl, hs, gd 4 rfl, g 5 rfl⟩, gd 6 rfl, gd 7 rfl, gd 8 rfl, gd 9 rfl, gd 10 rfl⟩, gd 11 rfl, gd 12 rfl⟩, ⟨hg, hk, hs, hd, gd 16 rfl, gd 17 rfl, gd 18 rfl, gd 19 rfl⟩, ⟨hg, hk, hs, hd⟩, gd 20 rfl, gd 21 rfl, gd 22 rfl, gd 23 rfl⟩
end K39
/-! KHead2 -/
set_option maxHeartbeats 0
/-! ## the head's run -/
namespace K39
open PySem PySem.Spec PyProof.Rows L2
abbrev R : PySem.W.OpenRow := PySem.W.OpenLaw.row PySem.Challenge.rw_coretower_k39_whole_fewest_additions
def refsK (o : Obj) : List Addr := match o.data with
  | .func fd => He.refV fd.code ++ (He.refV fd.defaults ++ (He.refV fd.kwdefaults ++ fd.closure.map (·.2)))
  | .cls cd => [cd.ns]
  | .dict es _ => es.toList.flatMap fun e => He.refV e.val
  | .seq its _ => its.toList.flatMap He.refV
  | .cell (some v) => He.refV v
  | _ => []
def goK (g : Addr → Option Obj) : Nat → List Addr → List Addr
  | 0, l => l
  | n + 1, l => l ++ goK g n (l.flatMap fun a => match g a with
    | some o => refsK o
    | none => [])
def asK (g : Addr → Option Obj) : List Addr := goK g 5 [mainGlobals] ++ [cStatics]
def frK (g : Addr → Option Obj) : PySem.W.Frag := He.frG g (asK g)
abbrev AlK : Type := He.AlD × (Bool × (Bool × FnCW))
def obK (K : PySem.W.Frag) : AlK := (He.obsD fa fn K, (extra K, ((xB K).all id, fnCW K (fBN K))))
def valK : AlK := (He.valD fn, (true, (true, valBN)))
def SaysK (K : PySem.W.Frag) : Prop := obK K = valK
def obsK (g : Addr → Option Obj) : AlK := obK (frK g)
def hookK : PySem.W.Hook where
  α := AlK
  obs := fun s => obsK s.heap.get?
  val := fun _ => valK
  says := fun _ h => ∃ K : PySem.W.Frag, K.In h ∧ SaysK K
  of := fun _ _ e => ⟨_, He.frG_in, e⟩
  keeps := fun _ _ _ ⟨K, hK, c⟩ k => ⟨K, PySem.W.Frag.In.keeps hK k, c⟩
theorem obsK_eq {g : Addr → Option Obj} {s : Shared} (h : ∀ a, g a = s.heap.get? a) : obsK g = hookK.obs s := by
  have e : g = s.heap.get? := funext h
  rw [e] <;> rfl
def ob (s : PySem.W.SharedT) : AlK := obsK (HandSHeadRun.getT s)
def nm1 : List Str := ["_wall", "CoreError", "BadNumber", "TooLarge", "BadPair", "BadFence", "NoFence", "NoRow", "BadRow", "LETTERS", "is_name", "is_whole", "ascending", "READS", "WRITES", "KINDS", "PAIRS", "is_fence", "Pairs", "Book", "group_of", "are_fences", "fits", "normal", "united", "Recipe"]
def nm2 : List Str := ["spots", "at_spot", "aim", "is_lost", "is_due", "lost", "all_spots", "added", "cures", "unmet", "fewest"]
def nm3 : List Str := ["_law_great", "_law_draw", "_law_pairs", "_law_usual", "_law_set", "_law_name", "_law_book", "_law_table", "_law_goal", "_law_names", "_law_plain", "_law_some", "_law_loose", "_law_normal", "_law_rows", "_law_kept_by", "_law_wanted", "_law_ahead", "_law_becomes", "_law_lost", "_law_spots", "_law_able", "_law_put", "_law_part", "_law_taken", "_law_known", "_law_near", "_law_masks", "_law_due", "_law_told", "_law_walked", "_law_refusal"]
def nms : List Str := nm1 ++ (nm2 ++ nm3)
theorem ob_eq (s : PySem.W.SharedT) : ob s = hookK.obs s.abs := obsK_eq (HandSHeadRun.getT_eq s)
theorem run (w : World) : HandSHeadRun.RunEq R (PySem.W.view R.prog [74]) hookK ob 20000 nms w := by
  intro os
  kernel_rfl
theorem SaysK.hd {K : PySem.W.Frag} {h : Heap} {mg : Str → Option Value} (c : SaysK K) (X : K.In h) (G : h.Ns mainGlobals mg) : Hd K mg ∧ BnCat K := by
  have c1 : He.obsD fa fn K = He.valD fn := congrArg (fun z : AlK => z.1) c
  have c2 : extra K = true := congrArg (fun z : AlK => z.2.1) c
  have c3 : (xB K).all id = true := congrArg (fun z : AlK => z.2.2.1) c
  have c4 : fnCW K (fBN K) = valBN := congrArg (fun z : AlK => z.2.2.2) c
  exact ⟨⟨c1, c2, h, X, G⟩, bnCat c3 c4⟩
end K39
/-! KEnd -/
set_option maxHeartbeats 4000000
/-! ## the end -/
namespace K39
open PySem PySem.Spec PyProof.Rows L2
theorem prOk : PrOk (PySem.Challenge.rw_coretower_k39_whole_fewest_additions).prog := ⟨by kernel_rfl, by kernel_rfl⟩
theorem facts {w : World} {K : PySem.W.Frag} {h : Heap} {mg : Str → Option Value} {f : Addr} (X : K.In h) (G : h.Ns mainGlobals mg) (hfa : mg ("law" : Str) = some (.ref f)) (c : SaysK K) :
    ∃ fd : FuncData, (∀ (s : Shared) (v : Value), BindsTo s fd ⟨[v], []⟩ [("_law_script", v)]) ∧ ∀ base : Heap, K.In base → base.Ns mainGlobals mg → FnOk (PySem.Challenge.rw_coretower_k39_whole_fewest_additions).prog w K mg base CX0 8 f fd ["_law_script"] (spG K G_law) := by
  obtain ⟨T, B⟩ := c.hd X G
  obtain ⟨fd, F⟩ := T.f_law
  have e := hfa.symm.trans T.g_law
  cases e
  have b := FunD.bindsA (ps := ["_law_script"]) F fun _ _ _ _ _ _ us hl => match us, hl with | [_], _ => rfl
  exact ⟨fd, fun s v => b s [v] rfl, fun base _ _ => law_fn T B prOk F⟩
end K39
open PySem PySem.W PySem.Calls PyProof.Rows
theorem PySem.Challenge.cw_coretower_k39_whole_fewest_additions_holds : PySem.Challenge.rw_coretower_k39_whole_fewest_additions.Holds := by
  w_on; o_law
  refine HandSHeadRun.head_any (r := K39.R) (q := view K39.R.prog [74]) (H := K39.hookK) (ob := K39.ob) (M := 20000) (loose := K39.nms) (d := HandSHeadRun.topDef K39.R.prog 74) (kwd := []) K39.ob_eq
    (by kernel_rfl) (fun s => by kernel_rfl) K39.run (by kernel_rfl) (by kernel_rfl) (by kernel_rfl) (by rfl) (by first | assumption | decide +kernel) (by decide +kernel) ⟨rfl, rfl, rfl, rfl, rfl, by decide +kernel⟩ ?hw ?hc
  case hw => w_witness2
  case hc =>
    refine L2.walk_ofE (l := PySem.Challenge.rw_coretower_k39_whole_fewest_additions) (n := 63) (k := 8) (x := "_law_script") (CX := L2.CX0) rfl (by decide) (by kernel_rfl) ⟨rfl, by decide, by decide⟩ ?F (fun _ _ _ _ z => z)
    intro w mg fa h Y G hmg0
    obtain ⟨K, KX, c⟩ := Y
    have hmg : mg ("law" : PySem.Str) = some (.ref fa) := by
      have e : (HandSHeadRun.topDef K39.R.prog 74).name = ("law" : PySem.Str) := by kernel_rfl
      rw [← e]
      exact hmg0
    obtain ⟨fd, hb, hF⟩ := K39.facts (w := w) KX G hmg c
    exact ⟨K, fd, K39.spG K K39.G_law, KX, hb, fun H a ns hl _ hS => ⟨H, [.scr ns], .val (.bl true), K39.Ex.rfl' H, .cons (.scr hS) .nil, ⟨ns, rfl, rfl⟩, fun v s H' hs o => by
      cases hs
      have r := o.rp
      cases r
      rfl⟩, hF⟩
#print axioms PySem.Challenge.cw_coretower_k39_whole_fewest_additions_holds
