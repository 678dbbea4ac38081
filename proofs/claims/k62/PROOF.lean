import PyProof.Rows.All
import Wide.All
import OpenK.AllK
import Wide.FinOn
import HandS.ForMost
import HandS.Wide
import HandS.Flow
import HandS.SortInts
import HandS.IsInst
import HandS.Iter
import HandS.Dict
import HandS.Defaults
import HandS.HeadHook2
import HandS.HeadHook4
import HandS.SortKw
import KE.DataMinMax
import HandS.Head0
import HandS.Head1
import HandS.Head2
import HandS.HeadEnd
import HandS.Words
import KE.KStateDown
import PySem.Challenge.RW_idblocks_k62_best_sizes
set_option Elab.async false
set_option linter.all false
set_option maxRecDepth 100000
/-! A layer of data over the hand layer: what a def reads is frozen data, what it writes is owned. -/
namespace Fw
open PySem L2

/-! ### data -/
inductive D where
  | non | bl (b : Bool) | int (i : Int) | str (s : Str) | raw (v : V)
  | lst (xs : List D) | tup (xs : List D)
  | fls (xs : List D)
  | dct (kvs : List (Key × D))
  | ins (C : Addr) (fs : List (Str × D))

mutual
inductive Rep (K : PySem.W.Frag) (F : Hp) : D → V → Prop
  | non : Rep K F .non .non
  | bl (b : Bool) : Rep K F (.bl b) (.bl b)
  | int (i : Int) : Rep K F (.int i) (.int i)
  | str (s : Str) : Rep K F (.str s) (.str s)
  | raw (v : V) : Rep K F (.raw v) v
  | lst {a : Addr} {vs : List V} {ds : List D} : F a = some (.lst vs) → RepL K F ds vs → Rep K F (.lst ds) (.ref a)
  | tup {a : Addr} {vs : List V} {ds : List D} : F a = some (.tup vs) → RepL K F ds vs → Rep K F (.tup ds) (.ref a)
  | fls {a : Addr} {vs : List V} {ds : List D} : SqL K F a vs → RepL K F ds vs → Rep K F (.fls ds) (.ref a)
  | dct {a : Addr} {ws : List (Key × V)} {kvs : List (Key × D)} : F a = some (.dK ws) → RepK K F kvs ws → Rep K F (.dct kvs) (.ref a)
  | ins {a C dx : Addr} {ws : List (Str × V)} {fs : List (Str × D)} : F a = some (.ins C dx ws) → RepF K F fs ws → Rep K F (.ins C fs) (.ref a)
inductive RepL (K : PySem.W.Frag) (F : Hp) : List D → List V → Prop
  | nil : RepL K F [] []
  | cons {d : D} {ds : List D} {v : V} {vs : List V} : Rep K F d v → RepL K F ds vs → RepL K F (d :: ds) (v :: vs)
inductive RepK (K : PySem.W.Frag) (F : Hp) : List (Key × D) → List (Key × V) → Prop
  | nil : RepK K F [] []
  | cons {k : Key} {d : D} {ds : List (Key × D)} {v : V} {vs : List (Key × V)} : Rep K F d v → RepK K F ds vs → RepK K F ((k, d) :: ds) ((k, v) :: vs)
inductive RepF (K : PySem.W.Frag) (F : Hp) : List (Str × D) → List (Str × V) → Prop
  | nil : RepF K F [] []
  | cons {k : Str} {d : D} {ds : List (Str × D)} {v : V} {vs : List (Str × V)} : Rep K F d v → RepF K F ds vs → RepF K F ((k, d) :: ds) ((k, v) :: vs)
end

theorem sqT_same {K : PySem.W.Frag} {H H' : Hp} {a : Addr} {xs : List V} (e : Same H H') (h : SqT K H a xs) : SqT K H' a xs := by
  rcases h with (h | ⟨o, h⟩) | h
  · exact .inl (.inl (e _ _ h))
  · exact .inl (.inr ⟨o, e _ _ h⟩)
  · exact .inr h
theorem rd_same {H H' : Hp} {a : Addr} {u : HO} (e : Same H H') (h : Rd H a u) : Rd H' a u := by
  rcases h with h | ⟨o, h⟩
  · exact .inl (e _ _ h)
  · exact .inr ⟨o, e _ _ h⟩

section
variable {K : PySem.W.Frag} {F F' : Hp} (e : Same F F')
include e
mutual
theorem Rep.mono : ∀ {d : D} {v : V}, Rep K F d v → Rep K F' d v
  | _, _, .non => .non
  | _, _, .bl b => .bl b
  | _, _, .int b => .int b
  | _, _, .str b => .str b
  | _, _, .raw b => .raw b
  | _, _, .lst h r => .lst (e _ _ h) (RepL.mono r)
  | _, _, .tup h r => .tup (e _ _ h) (RepL.mono r)
  | _, _, .fls h r => .fls (e.seq h) (RepL.mono r)
  | _, _, .dct h r => .dct (e _ _ h) (RepK.mono r)
  | _, _, .ins h r => .ins (e _ _ h) (RepF.mono r)
theorem RepL.mono : ∀ {ds : List D} {vs : List V}, RepL K F ds vs → RepL K F' ds vs
  | _, _, .nil => .nil
  | _, _, .cons h r => .cons (Rep.mono h) (RepL.mono r)
theorem RepK.mono : ∀ {ds : List (Key × D)} {vs : List (Key × V)}, RepK K F ds vs → RepK K F' ds vs
  | _, _, .nil => .nil
  | _, _, .cons h r => .cons (Rep.mono h) (RepK.mono r)
theorem RepF.mono : ∀ {ds : List (Str × D)} {vs : List (Str × V)}, RepF K F ds vs → RepF K F' ds vs
  | _, _, .nil => .nil
  | _, _, .cons h r => .cons (Rep.mono h) (RepF.mono r)
end
end

theorem RepL.length {K : PySem.W.Frag} {F : Hp} : ∀ {ds : List D} {vs : List V}, RepL K F ds vs → ds.length = vs.length
  | _, _, .nil => rfl
  | _, _, .cons _ r => by simp [RepL.length r]
theorem RepL.get {K : PySem.W.Frag} {F : Hp} : ∀ {ds : List D} {vs : List V} {i : Nat} {d : D}, RepL K F ds vs → ds[i]? = some d → ∃ v, vs[i]? = some v ∧ Rep K F d v
  | _, _, _, _, .nil, e => by simp at e
  | _, _, 0, _, .cons r _, e => by simp at e; subst e; exact ⟨_, rfl, r⟩
  | _, _, i + 1, _, .cons _ t, e => by
    obtain ⟨u, h1, h2⟩ := RepL.get (i := i) t (by simpa using e)
    exact ⟨u, by simpa using h1, h2⟩
theorem RepL.get' {K : PySem.W.Frag} {F : Hp} : ∀ {ds : List D} {vs : List V} {i : Nat} {v : V}, RepL K F ds vs → vs[i]? = some v → ∃ d, ds[i]? = some d ∧ Rep K F d v
  | _, _, _, _, .nil, e => by simp at e
  | _, _, 0, _, .cons r _, e => by simp at e; subst e; exact ⟨_, rfl, r⟩
  | _, _, i + 1, _, .cons _ t, e => by
    obtain ⟨u, h1, h2⟩ := RepL.get' (i := i) t (by simpa using e)
    exact ⟨u, by simpa using h1, h2⟩
theorem RepL.set {K : PySem.W.Frag} {F : Hp} {d : D} {v : V} (r : Rep K F d v) : ∀ {ds : List D} {vs : List V} (i : Nat), RepL K F ds vs → RepL K F (ds.set i d) (vs.set i v)
  | _, _, _, .nil => .nil
  | _, _, 0, .cons _ t => .cons r t
  | _, _, i + 1, .cons q t => .cons q (RepL.set r i t)
theorem RepL.append {K : PySem.W.Frag} {F : Hp} : ∀ {ds es : List D} {vs ws : List V}, RepL K F ds vs → RepL K F es ws → RepL K F (ds ++ es) (vs ++ ws)
  | _, _, _, _, .nil, s => s
  | _, _, _, _, .cons r t, s => .cons r (RepL.append t s)
theorem RepL.take {K : PySem.W.Frag} {F : Hp} : ∀ {ds : List D} {vs : List V} (n : Nat), RepL K F ds vs → RepL K F (ds.take n) (vs.take n)
  | _, _, 0, _ => .nil
  | _, _, _ + 1, .nil => .nil
  | _, _, n + 1, .cons r t => .cons r (RepL.take n t)
theorem RepL.drop {K : PySem.W.Frag} {F : Hp} : ∀ {ds : List D} {vs : List V} (n : Nat), RepL K F ds vs → RepL K F (ds.drop n) (vs.drop n)
  | _, _, 0, r => r
  | _, _, _ + 1, .nil => .nil
  | _, _, n + 1, .cons _ t => RepL.drop n t
theorem RepL.eraseIdx {K : PySem.W.Frag} {F : Hp} : ∀ {ds : List D} {vs : List V} (i : Nat), RepL K F ds vs → RepL K F (ds.eraseIdx i) (vs.eraseIdx i)
  | _, _, _, .nil => .nil
  | _, _, 0, .cons _ t => t
  | _, _, i + 1, .cons q t => .cons q (RepL.eraseIdx i t)
theorem RepL.reverse {K : PySem.W.Frag} {F : Hp} : ∀ {ds : List D} {vs : List V}, RepL K F ds vs → RepL K F ds.reverse vs.reverse
  | _, _, .nil => .nil
  | _, _, .cons q t => by
    rw [List.reverse_cons, List.reverse_cons]
    exact (RepL.reverse t).append (.cons q .nil)
theorem RepL.ints {K : PySem.W.Frag} {F : Hp} : ∀ {ns : List Int} {vs : List V}, RepL K F (ns.map D.int) vs → vs = ns.map V.int
  | [], _, h => by cases h; rfl
  | n :: ns, _, h => by
    cases h with
    | cons a r =>
      cases a
      rw [RepL.ints r]; rfl
theorem RepL.of_ints {K : PySem.W.Frag} {F : Hp} : ∀ (ns : List Int), RepL K F (ns.map D.int) (ns.map V.int)
  | [] => .nil
  | n :: ns => .cons (.int n) (RepL.of_ints ns)
theorem RepL.bls {K : PySem.W.Frag} {F : Hp} : ∀ {ns : List Bool} {vs : List V}, RepL K F (ns.map D.bl) vs → vs = ns.map V.bl
  | [], _, h => by cases h; rfl
  | n :: ns, _, h => by
    cases h with
    | cons a r =>
      cases a
      rw [RepL.bls r]; rfl

/-! ### owned things -/
inductive O where
  | lst (xs : List D)
  | dct (kvs : List (Key × D))
def OwnAt (K : PySem.W.Frag) (F H : Hp) (a : Addr) : O → Prop
  | .lst xs => ∃ vs, H a = some (.lst vs) ∧ RepL K F xs vs
  | .dct kvs => ∃ ws, H a = some (.dK ws) ∧ RepK K F kvs ws
def O.d : O → D
  | .lst xs => .lst xs
  | .dct kvs => .dct kvs
inductive Sl where
  | v (d : D)
  | o (a : Addr) (c : O)
abbrev Env := List (Option Sl)
def ownA : Option Sl → Option Addr
  | some (.o a _) => some a
  | _ => none
def owns (ρ : Env) : List Addr := ρ.filterMap ownA
@[simp] theorem owns_nil : owns [] = [] := rfl
@[simp] theorem owns_o {a c} {ρ : Env} : owns (some (.o a c) :: ρ) = a :: owns ρ := rfl
@[simp] theorem owns_v {d} {ρ : Env} : owns (some (.v d) :: ρ) = owns ρ := rfl
@[simp] theorem owns_n {ρ : Env} : owns (none :: ρ) = owns ρ := rfl
def RsOk (K : PySem.W.Frag) (F H : Hp) : Sl → V → Prop
  | .v d, v => Rep K F d v
  | .o a c, v => v = .ref a ∧ F a = none ∧ OwnAt K F H a c
structure Ok (K : PySem.W.Frag) (σ : St) (F H : Hp) (ρ : Env) : Prop where
  sub : Same F H
  len : ρ.length = σ.length
  at_ : ∀ (i : Nat) (s : Sl), ρ[i]? = some (some s) → ∃ v, σ[i]? = some (some v) ∧ RsOk K F H s v
  nd : (owns ρ).Nodup
structure Step (ρ : Env) (F H : Hp) (ρ' : Env) (F' H' : Hp) : Prop where
  f : Same F F'
  h : ∀ a o, H a = some o → a ∉ owns ρ → H' a = some o
  n : ∀ a o, F' a = some o → F a = some o ∨ H a = none ∨ a ∈ owns ρ
  w : ∀ a, a ∈ owns ρ' → a ∈ owns ρ ∨ H a = none

theorem mem_owns {ρ : Env} {a : Addr} : a ∈ owns ρ ↔ ∃ (i : Nat) (c : O), ρ[i]? = some (some (.o a c)) := by
  unfold owns
  rw [List.mem_filterMap]
  constructor
  · rintro ⟨x, hx, e⟩
    obtain ⟨i, hi⟩ := List.getElem?_of_mem hx
    match x, e with
    | some (.o b c), e => cases e; exact ⟨i, c, hi⟩
  · rintro ⟨i, c, h⟩
    exact ⟨_, List.mem_of_getElem? h, rfl⟩
theorem owns_inj {ρ : Env} (nd : (owns ρ).Nodup) {a : Addr} {i j : Nat} {c c' : O} (h : ρ[i]? = some (some (.o a c))) (h' : ρ[j]? = some (some (.o a c'))) : i = j := by
  induction ρ generalizing i j with
  | nil => simp at h
  | cons x r ih =>
    match i, j with
    | 0, 0 => rfl
    | 0, j + 1 =>
      simp at h h'
      subst h
      rw [owns_o, List.nodup_cons] at nd
      exact (nd.1 (mem_owns.mpr ⟨j, c', h'⟩)).elim
    | i + 1, 0 =>
      simp at h h'
      subst h'
      rw [owns_o, List.nodup_cons] at nd
      exact (nd.1 (mem_owns.mpr ⟨i, c, h⟩)).elim
    | i + 1, j + 1 =>
      simp at h h'
      have nd' : (owns r).Nodup := by
        match x with
        | none => exact nd
        | some (.v _) => exact nd
        | some (.o _ _) => rw [owns_o, List.nodup_cons] at nd; exact nd.2
      rw [ih nd' h h']
theorem OwnAt.mono {K : PySem.W.Frag} {F H F' H' : Hp} {a : Addr} {c : O} (h : OwnAt K F H a c) (e : Same F F') (q : ∀ o, H a = some o → H' a = some o) : OwnAt K F' H' a c := by
  cases c with
  | lst xs => obtain ⟨vs, x, r⟩ := h; exact ⟨vs, q _ x, RepL.mono e r⟩
  | dct xs => obtain ⟨vs, x, r⟩ := h; exact ⟨vs, q _ x, RepK.mono e r⟩
theorem OwnAt.there {K : PySem.W.Frag} {F H : Hp} {a : Addr} {c : O} (h : OwnAt K F H a c) : ∃ o, H a = some o := by
  cases c with
  | lst xs => obtain ⟨vs, x, r⟩ := h; exact ⟨_, x⟩
  | dct xs => obtain ⟨vs, x, r⟩ := h; exact ⟨_, x⟩

section
variable {K : PySem.W.Frag} {σ : St} {F H F' H' F'' H'' : Hp} {ρ ρ' ρ'' : Env}
theorem Step.refl (ρ : Env) (F H : Hp) : Step ρ F H ρ F H := ⟨Same.refl _, fun _ _ h _ => h, fun _ _ h => .inl h, fun _ h => .inl h⟩
theorem Step.none_of (s : Step ρ F H ρ' F' H') {a : Addr} (h : H' a = none) : H a = none ∨ a ∈ owns ρ := by
  by_cases m : a ∈ owns ρ
  · exact .inr m
  · cases e : H a with
    | none => exact .inl rfl
    | some o => rw [s.h a o e m] at h; cases h
theorem Step.trans (s : Step ρ F H ρ' F' H') (t : Step ρ' F' H' ρ'' F'' H'') : Step ρ F H ρ'' F'' H'' where
  f := s.f.trans t.f
  h := fun a o e m => t.h a o (s.h a o e m) fun m' => by
    rcases s.w a m' with z | z
    · exact m z
    · rw [e] at z; cases z
  n := fun a o e => by
    rcases t.n a o e with z | z | z
    · exact s.n a o z
    · rcases s.none_of z with y | y
      · exact .inr (.inl y)
      · exact .inr (.inr y)
    · rcases s.w a z with y | y
      · exact .inr (.inr y)
      · exact .inr (.inl y)
  w := fun a m => by
    rcases t.w a m with z | z
    · exact s.w a z
    · rcases s.none_of z with y | y
      · exact .inr y
      · exact .inl y
/-- a change of the environment alone -/
theorem Step.env (h : ∀ a, a ∈ owns ρ' → a ∈ owns ρ) : Step ρ F H ρ' F H := ⟨Same.refl _, fun _ _ h _ => h, fun _ _ h => .inl h, fun a m => .inl (h a m)⟩
theorem Ok.own (k : Ok K σ F H ρ) {a : Addr} (m : a ∈ owns ρ) : F a = none ∧ ∃ o, H a = some o := by
  obtain ⟨i, c, h⟩ := mem_owns.mp m
  obtain ⟨v, _, rfl, n, q⟩ := k.at_ i _ h
  exact ⟨n, q.there⟩
/-- the heap grows at new places, what is frozen grows -/
theorem Ok.grow (k : Ok K σ F H ρ) (hF : Same F F') (hH : Same H H') (sub : Same F' H') (n : ∀ a o, F' a = some o → F a = some o ∨ H a = none) : Ok K σ F' H' ρ where
  sub := sub
  len := k.len
  at_ := fun i s e => by
    obtain ⟨v, h1, h2⟩ := k.at_ i s e
    refine ⟨v, h1, ?_⟩
    cases s with
    | v d => exact Rep.mono hF h2
    | o a c =>
      obtain ⟨rfl, h3, h4⟩ := h2
      refine ⟨rfl, ?_, h4.mono hF fun o q => hH _ _ q⟩
      cases z : F' a with
      | none => rfl
      | some o =>
        obtain ⟨o', h5⟩ := h4.there
        rcases n a o z with y | y
        · rw [h3] at y; cases y
        · rw [h5] at y; cases y
  nd := k.nd
theorem Step.grow (hF : Same F F') (hH : Same H H') (n : ∀ a o, F' a = some o → F a = some o ∨ H a = none) : Step ρ F H ρ F' H' :=
  ⟨hF, fun a o e _ => hH a o e, fun a o e => (n a o e).elim .inl fun z => .inr (.inl z), fun _ m => .inl m⟩
theorem RsOk.v {d : D} {v : V} (h : RsOk K F H (.v d) v) : Rep K F d v := h
/-- frozen data stands -/
theorem Step.rep (s : Step ρ F H ρ' F' H') {d : D} {v : V} (h : Rep K F d v) : Rep K F' d v := Rep.mono s.f h
/-- an owned thing that the environment does not hold stands -/
theorem Step.free (s : Step ρ F H ρ' F' H') {a : Addr} {c : O} {v : V} (h : RsOk K F H (.o a c) v) (m : a ∉ owns ρ) : RsOk K F' H' (.o a c) v := by
  obtain ⟨rfl, n, q⟩ := h
  obtain ⟨o, e⟩ := q.there
  refine ⟨rfl, ?_, q.mono s.f fun o e => s.h a o e m⟩
  cases z : F' a with
  | none => rfl
  | some o' =>
    rcases s.n a o' z with y | y | y
    · rw [n] at y; cases y
    · rw [e] at y; cases y
    · exact (m y).elim
end

theorem same_upd {H : Hp} {p : Addr} {o : HO} (n : H p = none) : Same H (upd H p o) := fun b u e => by
  rw [upd_ne (ne_of_none e n)]; exact e
theorem same_upd2 {F H : Hp} {p : Addr} {o : HO} (s : Same F H) : Same (upd F p o) (upd H p o) := fun b u e => by
  by_cases h : b = p
  · subst h; rw [upd_same] at e ⊢; exact e
  · rw [upd_ne h] at e ⊢; exact s _ _ e
theorem same_sub {F H : Hp} {p : Addr} {o : HO} (s : Same F H) (n : H p = none) : Same F (upd H p o) := s.trans (same_upd n)

/-! ### the judgements -/
/-- q: nothing changes -/
def Qt (q : Bool) (ρ : Env) (F H : Hp) (ρ' : Env) (F' H' : Hp) : Prop := q = true → ρ' = ρ ∧ F' = F ∧ H' = H
/-- an expression gives frozen data -/
def ev (K : PySem.W.Frag) (q : Bool) (te : TE) (ρ : Env) (Φ : D → Env → Prop) : Prop :=
  ∀ (σ : St) (F H : Hp) (Q : VK), Ok K σ F H ρ → (∀ d v F' H' ρ', Ok K σ F' H' ρ' → Rep K F' d v → Step ρ F H ρ' F' H' → Qt q ρ F H ρ' F' H' → Φ d ρ' → Q v H') → te σ H Q
/-- what is borrowed: frozen data, or what a slot owns -/
def BRep (K : PySem.W.Frag) (F : Hp) (ρ : Env) (d : D) (v : V) : Prop := Rep K F d v ∨ ∃ (i : Nat) (a : Addr) (c : O), ρ[i]? = some (some (.o a c)) ∧ v = .ref a ∧ d = c.d
def evb (K : PySem.W.Frag) (q : Bool) (te : TE) (ρ : Env) (Φ : D → Env → Prop) : Prop :=
  ∀ (σ : St) (F H : Hp) (Q : VK), Ok K σ F H ρ → (∀ d v F' H' ρ', Ok K σ F' H' ρ' → BRep K F' ρ' d v → Step ρ F H ρ' F' H' → Qt q ρ F H ρ' F' H' → Φ d ρ' → Q v H') → te σ H Q
/-- an expression gives a new owned thing -/
def evo (K : PySem.W.Frag) (te : TE) (ρ : Env) (Φ : Addr → O → Env → Prop) : Prop :=
  ∀ (σ : St) (F H : Hp) (Q : VK), Ok K σ F H ρ → (∀ a c F' H' ρ', Ok K σ F' H' ρ' → RsOk K F' H' (.o a c) (.ref a) → Step ρ F H ρ' F' H' → (a ∈ owns ρ ∨ H a = none) → a ∉ owns ρ' → Φ a c ρ' → Q (.ref a) H') → te σ H Q
/-- arguments -/
inductive RsL (K : PySem.W.Frag) (F H : Hp) : List Sl → List V → Prop
  | nil : RsL K F H [] []
  | cons {s : Sl} {ss : List Sl} {v : V} {vs : List V} : RsOk K F H s v → RsL K F H ss vs → RsL K F H (s :: ss) (v :: vs)
def evs (K : PySem.W.Frag) (q : Bool) (ta : TA) (ρ : Env) (Φ : List Sl → Env → Prop) : Prop :=
  ∀ (σ : St) (F H : Hp) (Q : List V → Hp → Prop), Ok K σ F H ρ → (∀ ss vs F' H' ρ', Ok K σ F' H' ρ' → RsL K F' H' ss vs → Step ρ F H ρ' F' H' → Qt q ρ F H ρ' F' H' → Φ ss ρ' → Q vs H') → ta σ H Q
/-- arguments that are all frozen data -/
def evd (K : PySem.W.Frag) (q : Bool) (ta : TA) (ρ : Env) (Φ : List D → Env → Prop) : Prop :=
  ∀ (σ : St) (F H : Hp) (Q : List V → Hp → Prop), Ok K σ F H ρ → (∀ ds vs F' H' ρ', Ok K σ F' H' ρ' → RepL K F' ds vs → Step ρ F H ρ' F' H' → Qt q ρ F H ρ' F' H' → Φ ds ρ' → Q vs H') → ta σ H Q
def et (K : PySem.W.Frag) (q : Bool) (tt : TT) (ρ : Env) (Φ : Bool → Env → Prop) : Prop :=
  ∀ (σ : St) (F H : Hp) (Q : Bool → Hp → Prop), Ok K σ F H ρ → (∀ b F' H' ρ', Ok K σ F' H' ρ' → Step ρ F H ρ' F' H' → Qt q ρ F H ρ' F' H' → Φ b ρ' → Q b H') → tt σ H Q
structure En where
  nx : Env → Prop
  rt : Sl → Env → Prop
  bk : Env → Prop := fun _ => False
  ct : Env → Prop := fun _ => False
/-- what an end must bring -/
structure Got (K : PySem.W.Frag) (ρ : Env) (F H : Hp) (E : En) (D : Ends) : Prop where
  nx : ∀ σ' F' H' ρ', Ok K σ' F' H' ρ' → Step ρ F H ρ' F' H' → E.nx ρ' → D.nx σ' H'
  rt : ∀ s v σ' F' H' ρ', Ok K σ' F' H' ρ' → RsOk K F' H' s v → (∀ a c, s = .o a c → (a ∈ owns ρ ∨ H a = none) ∧ a ∉ owns ρ') → Step ρ F H ρ' F' H' → E.rt s ρ' → D.rt v H'
  bk : ∀ σ' F' H' ρ', Ok K σ' F' H' ρ' → Step ρ F H ρ' F' H' → E.bk ρ' → D.bk σ' H'
  ct : ∀ σ' F' H' ρ', Ok K σ' F' H' ρ' → Step ρ F H ρ' F' H' → E.ct ρ' → D.ct σ' H'
def ex (K : PySem.W.Frag) (ts : TS) (ρ : Env) (E : En) : Prop :=
  ∀ (σ : St) (F H : Hp) (D : Ends), Ok K σ F H ρ → Got K ρ F H E D → ts D σ H
/-- a target takes frozen data -/
def gt (K : PySem.W.Frag) (w : Option (List Nat)) (g : TG) (d : D) (ρ : Env) (Ψ : Env → Prop) : Prop :=
  ∀ (σ : St) (F H : Hp) (v : V) (Q : St → Hp → Prop), Ok K σ F H ρ → Rep K F d v → (∀ σ' ρ', Ok K σ' F H ρ' → (∀ a, a ∈ owns ρ' → a ∈ owns ρ) → (∀ l, w = some l → wipe σ' l = wipe σ l) → Ψ ρ' → Q σ' H) → g v σ H Q
def gts (K : PySem.W.Frag) (w : Option (List Nat)) (g : TGs) (ds : List D) (ρ : Env) (Ψ : Env → Prop) : Prop :=
  ∀ (σ : St) (F H : Hp) (xs : List V) (Q : St → Hp → Prop), Ok K σ F H ρ → RepL K F ds xs → (∀ σ' ρ', Ok K σ' F H ρ' → (∀ a, a ∈ owns ρ' → a ∈ owns ρ) → (∀ l, w = some l → wipe σ' l = wipe σ l) → Ψ ρ' → Q σ' H) → g xs σ H Q
/-- what a loop walks, as a list of data; G: what holds of the frozen heap while it is walked -/
structure ItOk (K : PySem.W.Frag) (J : It) (ds : List D) (G : Hp → Prop) : Prop where
  mono : ∀ F F', Same F F' → G F → G F'
  go : ∀ (i : Nat) d F H, ds[i]? = some d → Same F H → G F → J.go i H
  yld : ∀ (i : Nat) d F H x H', ds[i]? = some d → Same F H → G F → J.yld i H x H' → ∃ F', Same F F' ∧ Same H H' ∧ Same F' H' ∧ (∀ a o, F' a = some o → F a = some o ∨ H a = none) ∧ Rep K F' d x
  stop : ∀ F H, Same F H → G F → J.stop ds.length H
def ei (K : PySem.W.Frag) (wi : TI) (ρ : Env) (Φ : List D → Env → Prop) : Prop :=
  ∀ (σ : St) (F H : Hp) (R : It → Hp → Prop), Ok K σ F H ρ → (∀ J ds G F' H' ρ', Ok K σ F' H' ρ' → Step ρ F H ρ' F' H' → ItOk K J ds G → G F' → Φ ds ρ' → R J H') → wi σ H R

/-! ### weakening -/
section
variable {K : PySem.W.Frag} {q : Bool} {te : TE} {ta : TA} {tt : TT} {ts : TS} {ρ : Env}
theorem ev.imp {Φ Φ' : D → Env → Prop} (h : ev K q te ρ Φ) (i : ∀ d ρ', Φ d ρ' → Φ' d ρ') : ev K q te ρ Φ' := fun σ F H Q ok k =>
  h σ F H Q ok fun d v F' H' ρ' a b c e f => k d v F' H' ρ' a b c e (i _ _ f)
theorem evb.imp {Φ Φ' : D → Env → Prop} (h : evb K q te ρ Φ) (i : ∀ d ρ', Φ d ρ' → Φ' d ρ') : evb K q te ρ Φ' := fun σ F H Q ok k =>
  h σ F H Q ok fun d v F' H' ρ' a b c e f => k d v F' H' ρ' a b c e (i _ _ f)
theorem evo.imp {Φ Φ' : Addr → O → Env → Prop} (h : evo K te ρ Φ) (i : ∀ d c ρ', Φ d c ρ' → Φ' d c ρ') : evo K te ρ Φ' := fun σ F H Q ok k =>
  h σ F H Q ok fun d v F' H' ρ' a b c e e2 f => k d v F' H' ρ' a b c e e2 (i _ _ _ f)
theorem et.imp {Φ Φ' : Bool → Env → Prop} (h : et K q tt ρ Φ) (i : ∀ d ρ', Φ d ρ' → Φ' d ρ') : et K q tt ρ Φ' := fun σ F H Q ok k =>
  h σ F H Q ok fun d F' H' ρ' a c e f => k d F' H' ρ' a c e (i _ _ f)
theorem evs.imp {Φ Φ' : List Sl → Env → Prop} (h : evs K q ta ρ Φ) (i : ∀ d ρ', Φ d ρ' → Φ' d ρ') : evs K q ta ρ Φ' := fun σ F H Q ok k =>
  h σ F H Q ok fun d v F' H' ρ' a b c e f => k d v F' H' ρ' a b c e (i _ _ f)
theorem ex.imp {E E' : En} (h : ex K ts ρ E) (nx : ∀ ρ', E.nx ρ' → E'.nx ρ') (rt : ∀ s ρ', E.rt s ρ' → E'.rt s ρ') (bk : ∀ ρ', E.bk ρ' → E'.bk ρ') (ct : ∀ ρ', E.ct ρ' → E'.ct ρ') : ex K ts ρ E' := fun σ F H D ok g =>
  h σ F H D ok ⟨fun a b c d e f k => g.nx a b c d e f (nx _ k), fun a b c d e f g1 g2 g3 g4 k => g.rt a b c d e f g1 g2 g3 g4 (rt _ _ k), fun a b c d e f k => g.bk a b c d e f (bk _ k), fun a b c d e f k => g.ct a b c d e f (ct _ k)⟩
theorem Qt.refl (q : Bool) (ρ : Env) (F H : Hp) : Qt q ρ F H ρ F H := fun _ => ⟨rfl, rfl, rfl⟩
theorem Qt.trans {ρ' ρ'' : Env} {F H F' H' F'' H'' : Hp} (a : Qt q ρ F H ρ' F' H') (b : Qt q ρ' F' H' ρ'' F'' H'') : Qt q ρ F H ρ'' F'' H'' := fun e => by
  obtain ⟨rfl, rfl, rfl⟩ := a e
  exact b e
theorem ev_quiet {Φ : D → Env → Prop} (h : ev K true te ρ Φ) : ev K false te ρ Φ := fun σ F H Q ok k =>
  h σ F H Q ok fun d v F' H' ρ' a b c _ f => k d v F' H' ρ' a b c (fun z => nomatch z) f
theorem evb_of {Φ : D → Env → Prop} (h : ev K q te ρ Φ) : evb K q te ρ Φ := fun σ F H Q ok k =>
  h σ F H Q ok fun d v F' H' ρ' a b c e f => k d v F' H' ρ' a (.inl b) c e f
end

/-! ### names, constants -/
section
variable {K : PySem.W.Frag} {q : Bool} {ρ : Env}
theorem ev_var {i : Nat} {d : D} {Φ : D → Env → Prop} (h : ρ[i]? = some (some (.v d))) (k : Φ d ρ) : ev K q (tVar i) ρ Φ := fun σ F H Q ok c => by
  obtain ⟨v, e, r⟩ := ok.at_ i _ h
  exact ⟨v, e, c d v F H ρ ok r (Step.refl _ _ _) (Qt.refl _ _ _ _) k⟩
theorem evb_own {i : Nat} {a : Addr} {c : O} {Φ : D → Env → Prop} (h : ρ[i]? = some (some (.o a c))) (k : Φ c.d ρ) : evb K q (tVar i) ρ Φ := fun σ F H Q ok f => by
  obtain ⟨v, e, rfl, n, r⟩ := ok.at_ i _ h
  exact ⟨_, e, f c.d _ F H ρ ok (.inr ⟨i, a, c, h, rfl, rfl⟩) (Step.refl _ _ _) (Qt.refl _ _ _ _) k⟩
theorem ev_c {v : V} {d : D} {Φ : D → Env → Prop} (r : ∀ F : Hp, Rep K F d v) (k : Φ d ρ) : ev K q (tC v) ρ Φ := fun σ F H Q ok f =>
  f d v F H ρ ok (r F) (Step.refl _ _ _) (Qt.refl _ _ _ _) k
theorem ev_int {i : Int} {Φ : D → Env → Prop} (k : Φ (.int i) ρ) : ev K q (tC (.int i)) ρ Φ := ev_c (fun _ => .int i) k
theorem ev_bl {i : Bool} {Φ : D → Env → Prop} (k : Φ (.bl i) ρ) : ev K q (tC (.bl i)) ρ Φ := ev_c (fun _ => .bl i) k
theorem ev_str {i : Str} {Φ : D → Env → Prop} (k : Φ (.str i) ρ) : ev K q (tC (.str i)) ρ Φ := ev_c (fun _ => .str i) k
theorem ev_non {Φ : D → Env → Prop} (k : Φ .non ρ) : ev K q (tC .non) ρ Φ := ev_c (fun _ => .non) k

/-! ### operators -/
/-- two data in a row -/
theorem ev_two {ta tb : TE} {r : R2} {Φ : D → Env → Prop}
    (h : ev K q ta ρ fun d ρ1 => ev K q tb ρ1 fun e ρ2 => ∃ f : D, (∀ (x y : V) (F H : Hp) (Q : VK), Rep K F d x → Rep K F e y → Same F H → (∀ z, Rep K F f z → Q z H) → r x y H Q) ∧ Φ f ρ2) : ev K q (tOp r ta tb) ρ Φ := fun σ F H Q ok c => by
  refine h σ F H _ ok fun d v F1 H1 ρ1 ok1 r1 s1 q1 k1 => ?_
  refine k1 σ F1 H1 _ ok1 fun e w F2 H2 ρ2 ok2 r2 s2 q2 ⟨f, hr, hf⟩ => ?_
  exact hr v w F2 H2 Q (s2.rep r1) r2 ok2.sub fun z rz => c f z F2 H2 ρ2 ok2 rz (s1.trans s2) (q1.trans q2) hf
theorem ev_rI0 {g : Int → Int → V} {ta tb : TE} {Φ : D → Env → Prop}
    (h : ev K q ta ρ fun d ρ1 => ev K q tb ρ1 fun e ρ2 => ∃ i j f, d = .int i ∧ e = .int j ∧ (∀ F, Rep K F f (g i j)) ∧ Φ f ρ2) : ev K q (tOp (rI0 g) ta tb) ρ Φ :=
  ev_two (h.imp fun d ρ1 h1 => h1.imp fun e ρ2 ⟨i, j, f, e1, e2, e3, k⟩ => ⟨f, fun x y F H Q r1 r2 s c => by subst e1 e2; cases r1; cases r2; exact ⟨i, j, rfl, rfl, c _ (e3 F)⟩, k⟩)
theorem ev_rI {C : Int → Int → Prop} {g : Int → Int → V} {ta tb : TE} {Φ : D → Env → Prop}
    (h : ev K q ta ρ fun d ρ1 => ev K q tb ρ1 fun e ρ2 => ∃ i j f, d = .int i ∧ e = .int j ∧ C i j ∧ (∀ F, Rep K F f (g i j)) ∧ Φ f ρ2) : ev K q (tOp (rI C g) ta tb) ρ Φ :=
  ev_two (h.imp fun d ρ1 h1 => h1.imp fun e ρ2 ⟨i, j, f, e1, e2, e4, e3, k⟩ => ⟨f, fun x y F H Q r1 r2 s c => by subst e1 e2; cases r1; cases r2; exact ⟨i, j, rfl, rfl, e4, c _ (e3 F)⟩, k⟩)
end
end Fw

set_option Elab.async false
set_option linter.all false
set_option maxRecDepth 100000
namespace Fw
open PySem L2

/-! ### freezing -/
theorem freeze {K : PySem.W.Frag} {σ : St} {F H : Hp} {ρ : Env} {a : Addr} {c : O} {v : V} (ok : Ok K σ F H ρ) (r : RsOk K F H (.o a c) v) (m : a ∉ owns ρ) :
    ∃ F', Ok K σ F' H ρ ∧ Rep K F' c.d v ∧ Same F F' ∧ ∀ b o, F' b = some o → F b = some o ∨ b = a := by
  obtain ⟨rfl, n, q⟩ := r
  obtain ⟨o, e⟩ := q.there
  have s1 : Same F (upd F a o) := same_upd n
  refine ⟨upd F a o, ⟨fun b u hb => ?_, ok.len, fun i s hs => ?_, ok.nd⟩, ?_, s1, fun b u hb => ?_⟩
  · by_cases h : b = a
    · subst h; rw [upd_same] at hb; rw [← hb]; exact e
    · rw [upd_ne h] at hb; exact ok.sub _ _ hb
  · obtain ⟨w, h1, h2⟩ := ok.at_ i s hs
    refine ⟨w, h1, ?_⟩
    cases s with
    | v d => exact Rep.mono s1 h2
    | o b c' =>
      obtain ⟨rfl, h3, h4⟩ := h2
      have hb : b ≠ a := fun z => by subst z; exact m (mem_owns.mpr ⟨i, c', hs⟩)
      exact ⟨rfl, by rw [upd_ne hb]; exact h3, h4.mono s1 fun _ z => z⟩
  · cases c with
    | lst xs =>
      obtain ⟨vs, h1, h2⟩ := q
      rw [e] at h1; cases h1
      exact .lst upd_same (RepL.mono s1 h2)
    | dct xs =>
      obtain ⟨vs, h1, h2⟩ := q
      rw [e] at h1; cases h1
      exact .dct upd_same (RepK.mono s1 h2)
  · by_cases h : b = a
    · exact .inr h
    · rw [upd_ne h] at hb; exact .inl hb
section
variable {K : PySem.W.Frag} {q : Bool} {ρ : Env}
theorem ev_of_evo {te : TE} {Φ : D → Env → Prop} (h : evo K te ρ fun _ c ρ' => Φ c.d ρ') : ev K false te ρ Φ := fun σ F H Q ok k =>
  h σ F H Q ok fun a c F' H' ρ' ok' r s n m f => by
    obtain ⟨F2, ok2, r2, s2, n2⟩ := freeze ok' r m
    refine k c.d _ F2 H' ρ' ok2 r2 ⟨s.f.trans s2, s.h, fun b o e => ?_, s.w⟩ (fun z => nomatch z) f
    rcases n2 b o e with z | z
    · exact s.n b o z
    · subst z; exact .inr n.symm
/-- a slot's thing is frozen from here on -/
theorem freezeS {σ : St} {F H : Hp} {i : Nat} {a : Addr} {c : O} (ok : Ok K σ F H ρ) (h : ρ[i]? = some (some (.o a c))) :
    ∃ F', Ok K σ F' H (ρ.set i (some (.v c.d))) ∧ Step ρ F H (ρ.set i (some (.v c.d))) F' H := by
  obtain ⟨v, hv, r⟩ := ok.at_ i _ h
  have hlt : i < ρ.length := (List.getElem?_eq_some_iff.mp h).1
  have nd : ∀ j (b : Addr) (c' : O), (ρ.set i none)[j]? = some (some (.o b c')) → j ≠ i ∧ ρ[j]? = some (some (.o b c')) := fun j b c' e => by
    by_cases z : j = i
    · subst z; rw [List.getElem?_set_self hlt] at e; cases e
    · rw [List.getElem?_set_ne (Ne.symm z)] at e; exact ⟨z, e⟩
  have sub : ∀ b, b ∈ owns (ρ.set i none) → b ∈ owns ρ := fun b hb => by
    obtain ⟨j, c', e⟩ := mem_owns.mp hb
    exact mem_owns.mpr ⟨j, c', (nd j b c' e).2⟩
  have hset : ∀ (x : Sl), ownA (some x) = none → owns (ρ.set i (some x)) = owns (ρ.set i none) := fun x hx => by
    unfold owns
    clear nd sub hv ok h
    induction ρ generalizing i with
    | nil => rfl
    | cons y r ih =>
      cases i with
      | zero => rw [List.set_cons_zero, List.set_cons_zero, List.filterMap_cons_none hx, List.filterMap_cons_none rfl]
      | succ i => simp only [List.set_cons_succ, List.filterMap_cons]; rw [ih (by simpa using hlt)]
  have ndp : (owns (ρ.set i none)).Nodup := by
    have hs : (owns (ρ.set i none)).Sublist (owns ρ) := by
      unfold owns
      clear nd sub hv ok h hset
      induction ρ generalizing i with
      | nil => exact List.Sublist.refl _
      | cons y r ih =>
        cases i with
        | zero =>
          simp only [List.set_cons_zero, List.filterMap_cons, ownA]
          match y with
          | none => exact List.Sublist.refl _
          | some (.v _) => exact List.Sublist.refl _
          | some (.o _ _) => exact List.sublist_cons_self _ _
        | succ i =>
          simp only [List.set_cons_succ, List.filterMap_cons]
          have := ih (i := i) (by simpa using hlt)
          cases ownA y with
          | none => exact this
          | some z => exact List.Sublist.cons_cons z this
    exact hs.nodup ok.nd
  have m : a ∉ owns (ρ.set i none) := fun hm => by
    obtain ⟨j, c', e⟩ := mem_owns.mp hm
    obtain ⟨ne, e'⟩ := nd j a c' e
    exact ne (owns_inj ok.nd e' h)
  have ok1 : Ok K σ F H (ρ.set i none) := by
    refine ⟨ok.sub, by simpa using ok.len, fun j s e => ?_, ndp⟩
    by_cases z : j = i
    · subst z; rw [List.getElem?_set_self hlt] at e; cases e
    · rw [List.getElem?_set_ne (Ne.symm z)] at e; exact ok.at_ j s e
  obtain ⟨F2, ok2, r2, s2, n2⟩ := freeze ok1 r m
  refine ⟨F2, ⟨ok2.sub, by simpa using ok.len, fun j s e => ?_, by rw [hset _ rfl]; exact ndp⟩, s2, fun b o e _ => e, fun b o e => ?_, fun b hb => .inl (sub b (by rwa [hset _ rfl] at hb))⟩
  · by_cases z : j = i
    · subst z
      rw [List.getElem?_set_self hlt] at e
      cases e
      exact ⟨v, hv, r2⟩
    · rw [List.getElem?_set_ne (Ne.symm z)] at e
      exact ok2.at_ j s (by rw [List.getElem?_set_ne (Ne.symm z)]; exact e)
  · rcases n2 b o e with z | z
    · exact .inl z
    · subst z; exact .inr (.inr (mem_owns.mpr ⟨i, c, h⟩))
/-- the ends, behind a step -/
theorem Step.new {F H F' H' : Hp} {ρ' : Env} (s : Step ρ F H ρ' F' H') {a : Addr} (h : a ∈ owns ρ' ∨ H' a = none) : a ∈ owns ρ ∨ H a = none := by
  rcases h with h | h
  · exact s.w a h
  · exact (s.none_of h).symm
theorem Got.step {F H F' H' : Hp} {ρ' : Env} {E : En} {D : Ends} (g : Got K ρ F H E D) (s : Step ρ F H ρ' F' H') : Got K ρ' F' H' E D where
  nx := fun σ2 F2 H2 ρ2 ok st h => g.nx σ2 F2 H2 ρ2 ok (s.trans st) h
  rt := fun x v σ2 F2 H2 ρ2 ok r n st h => g.rt x v σ2 F2 H2 ρ2 ok r (fun a c e => ⟨s.new (n a c e).1, (n a c e).2⟩) (s.trans st) h
  bk := fun σ2 F2 H2 ρ2 ok st h => g.bk σ2 F2 H2 ρ2 ok (s.trans st) h
  ct := fun σ2 F2 H2 ρ2 ok st h => g.ct σ2 F2 H2 ρ2 ok (s.trans st) h

/-! ### arguments -/
theorem evd_nil {Φ : List D → Env → Prop} (k : Φ [] ρ) : evd K q tNil ρ Φ := fun σ F H Q ok c => c [] [] F H ρ ok .nil (Step.refl _ _ _) (Qt.refl _ _ _ _) k
theorem evd_cons {te : TE} {ta : TA} {Φ : List D → Env → Prop} (h : ev K q te ρ fun d ρ1 => evd K q ta ρ1 fun ds ρ2 => Φ (d :: ds) ρ2) : evd K q (tCons te ta) ρ Φ := fun σ F H Q ok c => by
  refine h σ F H _ ok fun d v F1 H1 ρ1 ok1 r1 s1 q1 k1 => ?_
  exact k1 σ F1 H1 _ ok1 fun ds vs F2 H2 ρ2 ok2 r2 s2 q2 k2 => c _ _ F2 H2 ρ2 ok2 (.cons (s2.rep r1) r2) (s1.trans s2) (q1.trans q2) k2
/-- an argument: data, or a slot's thing by reference -/
inductive Ar where
  | v (d : D)
  | s (i : Nat) (a : Addr) (c : O)
def Ar.sl : Ar → Sl
  | .v d => .v d
  | .s _ a c => .o a c
def Ar.ix : Ar → Option Nat
  | .v _ => none
  | .s i _ _ => some i
inductive ArL (K : PySem.W.Frag) (F : Hp) (ρ : Env) : List Ar → List V → Prop
  | nil : ArL K F ρ [] []
  | v {d : D} {v : V} {as : List Ar} {vs : List V} : Rep K F d v → ArL K F ρ as vs → ArL K F ρ (.v d :: as) (v :: vs)
  | s {i : Nat} {a : Addr} {c : O} {as : List Ar} {vs : List V} : ρ[i]? = some (some (.o a c)) → ArL K F ρ as vs → ArL K F ρ (.s i a c :: as) (.ref a :: vs)
def eva (K : PySem.W.Frag) (ta : TA) (ρ : Env) (Φ : List Ar → Env → Prop) : Prop :=
  ∀ (σ : St) (F H : Hp) (Q : List V → Hp → Prop), Ok K σ F H ρ → (∀ as vs F' H' ρ', Ok K σ F' H' ρ' → ArL K F' ρ' as vs → Step ρ F H ρ' F' H' → Φ as ρ' → Q vs H') → ta σ H Q
theorem eva_nil {Φ : List Ar → Env → Prop} (k : Φ [] ρ) : eva K tNil ρ Φ := fun σ F H Q ok c => c [] [] F H ρ ok .nil (Step.refl _ _ _) k
theorem eva_v {te : TE} {ta : TA} {Φ : List Ar → Env → Prop} (h : ev K false te ρ fun d ρ1 => eva K ta ρ1 fun as ρ2 => Φ (.v d :: as) ρ2) : eva K (tCons te ta) ρ Φ := fun σ F H Q ok c => by
  refine h σ F H _ ok fun d v F1 H1 ρ1 ok1 r1 s1 q1 k1 => ?_
  exact k1 σ F1 H1 _ ok1 fun ds vs F2 H2 ρ2 ok2 r2 s2 k2 => c _ _ F2 H2 ρ2 ok2 (.v (s2.rep r1) r2) (s1.trans s2) k2
theorem eva_s {i : Nat} {a : Addr} {c : O} {ta : TA} {Φ : List Ar → Env → Prop} (h : ρ[i]? = some (some (.o a c))) (k : eva K ta ρ fun as ρ2 => ∃ c', ρ2[i]? = some (some (.o a c')) ∧ Φ (.s i a c' :: as) ρ2) :
    eva K (tCons (tVar i) ta) ρ Φ := fun σ F H Q ok f => by
  obtain ⟨v, e, rfl, n, r⟩ := ok.at_ i _ h
  refine ⟨_, e, ?_⟩
  refine k σ F H _ ok fun as vs F2 H2 ρ2 ok2 r2 s2 ⟨c', h2, k2⟩ => ?_
  exact f _ _ F2 H2 ρ2 ok2 (.s h2 r2) s2 k2

/-! ### promises in data -/
/-- a pure promise: what the arguments are, what is wanted of the answer and of the arguments behind the call -/
abbrev Ct := List Sl → (Sl → List Sl → Prop) → Prop
def spOf (K : PySem.W.Frag) (C : Ct) : Sp := fun vs H Q _ => ∃ (F : Hp) (ss : List Sl) (Φ : Sl → List Sl → Prop), Ok K (vs.map some) F H (ss.map some) ∧ C ss Φ ∧
  ∀ s v F' H' ss', Ok K (vs.map some) F' H' (ss'.map some) → RsOk K F' H' s v → (∀ a c, s = .o a c → H a = none ∧ a ∉ owns (ss'.map some)) → Step (ss.map some) F H (ss'.map some) F' H' → Φ s ss' → Q v H'
/-- the arguments behind the body: what was owned is where it was -/
inductive Back : List Sl → Env → List Sl → Prop
  | nil {ρ : Env} : Back [] ρ []
  | v {d : D} {ss ss' : List Sl} {x : Option Sl} {ρ : Env} : Back ss ρ ss' → Back (.v d :: ss) (x :: ρ) (.v d :: ss')
  | o {a : Addr} {c c' : O} {ss ss' : List Sl} {ρ : Env} : Back ss ρ ss' → Back (.o a c :: ss) (some (.o a c') :: ρ) (.o a c' :: ss')
theorem Back.get {ss : List Sl} {ρ : Env} {ss' : List Sl} (b : Back ss ρ ss') : ss.length = ss'.length ∧ ∀ (i : Nat) (s' : Sl), ss'[i]? = some s' → (∃ d, s' = .v d ∧ ss[i]? = some (.v d)) ∨ (∃ a c c', s' = .o a c' ∧ ss[i]? = some (.o a c) ∧ ρ[i]? = some (some s')) := by
  induction b with
  | nil => exact ⟨rfl, fun i s' h => by simp at h⟩
  | v b ih =>
    refine ⟨by simp [ih.1], fun i s' h => ?_⟩
    cases i with
    | zero => simp at h; subst h; exact .inl ⟨_, rfl, rfl⟩
    | succ i =>
      have := ih.2 i s' (by simpa using h)
      simpa using this
  | o b ih =>
    refine ⟨by simp [ih.1], fun i s' h => ?_⟩
    cases i with
    | zero => simp at h; subst h; exact .inr ⟨_, _, _, rfl, rfl, rfl⟩
    | succ i =>
      have := ih.2 i s' (by simpa using h)
      simpa using this
theorem Back.own {ss : List Sl} {ρ : Env} {ss' : List Sl} (b : Back ss ρ ss') : ∀ a, a ∈ owns (ss'.map some) ↔ a ∈ owns (ss.map some) := by
  induction b with
  | nil => intro a; exact Iff.rfl
  | v b ih => exact ih
  | o b ih =>
    intro a
    simp only [List.map_cons, owns_o, List.mem_cons, ih a]
theorem Back.in_ {ss : List Sl} {ρ : Env} {ss' : List Sl} (b : Back ss ρ ss') : ∀ a, a ∈ owns (ss'.map some) → a ∈ owns ρ := fun a m => by
  obtain ⟨i, c, h⟩ := mem_owns.mp m
  rw [List.getElem?_map] at h
  cases e : ss'[i]? with
  | none => rw [e] at h; simp at h
  | some s =>
    rw [e] at h
    simp only [Option.map_some, Option.some.injEq] at h
    subst h
    rcases b.get.2 i _ e with ⟨d, h1, _⟩ | ⟨a', c1, c2, h1, h2, h3⟩
    · cases h1
    · exact mem_owns.mpr ⟨i, c, h3⟩
theorem Back.nodup {ss : List Sl} {ρ : Env} {ss' : List Sl} (b : Back ss ρ ss') (h : (owns (ss.map some)).Nodup) : (owns (ss'.map some)).Nodup := by
  have : owns (ss'.map some) = owns (ss.map some) := by
    clear h
    induction b with
    | nil => rfl
    | v b ih => exact ih
    | o b ih => simp only [List.map_cons, owns_o, ih]
  rw [this]; exact h
theorem map_get {vs : List V} {i : Nat} {x : Option V} (h : (vs.map some)[i]? = some x) : ∃ v, x = some v ∧ vs[i]? = some v := by
  rw [List.getElem?_map] at h
  cases e : vs[i]? with
  | none => rw [e] at h; simp at h
  | some v => rw [e] at h; simp at h; exact ⟨v, h.symm, rfl⟩
/-- a body keeps a promise -/
theorem fn_pure {C : Ct} {N : List Str} {t : TS} (h : ∀ ss Φ, C ss Φ → ss.length ≤ N.length ∧ ex K t (ss.map some ++ List.replicate (N.length - ss.length) none)
      { nx := fun ρ' => ∃ ss', Back ss ρ' ss' ∧ Φ (.v .non) ss', rt := fun s ρ' => ∃ ss', Back ss ρ' ss' ∧ Φ s ss' })
    (vs : List V) (H : Hp) (Q : VK) (E : XK) (hs : spOf K C vs H Q E) : t { nx := fun _ H' => Q .non H', rt := Q } (L2.start N vs) H := by
  obtain ⟨F, ss, Φ, ok, hc, k⟩ := hs
  obtain ⟨hl, hx⟩ := h ss Φ hc
  have lv : ss.length = vs.length := by simpa using ok.len
  have own0 : ∀ n, owns (ss.map some ++ List.replicate n none) = owns (ss.map some) := fun n => by
    unfold owns
    rw [List.filterMap_append]
    have : List.filterMap ownA (List.replicate n (none : Option Sl)) = [] := by
      induction n with
      | zero => rfl
      | succ n ih => rw [List.replicate_succ, List.filterMap_cons]; exact ih
    rw [this, List.append_nil]
  have ok0 : Ok K (L2.start N vs) F H (ss.map some ++ List.replicate (N.length - ss.length) none) := by
    refine ⟨ok.sub, by simp [L2.start, lv], fun i s e => ?_, by rw [own0]; exact ok.nd⟩
    have hi : i < ss.length := by
      rcases Nat.lt_or_ge i ss.length with z | z
      · exact z
      · rw [List.getElem?_append_right (by simpa using z)] at e
        rw [List.getElem?_replicate] at e
        split at e <;> simp at e
    rw [List.getElem?_append_left (by simpa using hi)] at e
    obtain ⟨v, h1, h2⟩ := ok.at_ i s e
    refine ⟨v, ?_, h2⟩
    unfold L2.start
    rw [List.getElem?_append_left (by simp; omega)]
    exact h1
  have fin : ∀ s v σ' F' H' ρ' ss', Ok K σ' F' H' ρ' → RsOk K F' H' s v → (∀ a c, s = .o a c → (a ∈ owns (ss.map some ++ List.replicate (N.length - ss.length) none) ∨ H a = none) ∧ a ∉ owns ρ') →
      Step (ss.map some ++ List.replicate (N.length - ss.length) none) F H ρ' F' H' → Back ss ρ' ss' → Φ s ss' → Q v H' := fun s v σ' F' H' ρ' ss' ok' r n st b f => by
    have e0 := own0 (N.length - ss.length)
    refine k s v F' H' ss' ⟨ok'.sub, by simp [← b.get.1, lv], fun i s' e => ?_, b.nodup ok.nd⟩ r (fun a c es => ?_) ⟨st.f, fun a o e m => st.h a o e (by rw [e0]; exact m), fun a o e => by have := st.n a o e; rwa [e0] at this, fun a m => .inl ((b.own a).mp m)⟩ f
    · rw [List.getElem?_map] at e
      cases e1 : ss'[i]? with
      | none => rw [e1] at e; simp at e
      | some s2 =>
        rw [e1] at e
        simp only [Option.map_some, Option.some.injEq] at e
        subst e
        rcases b.get.2 i _ e1 with ⟨d, rfl, h2⟩ | ⟨a, c, c', rfl, h2, h3⟩
        · obtain ⟨v', h4, h5⟩ := ok.at_ i (.v d) (by rw [List.getElem?_map, h2]; rfl)
          exact ⟨v', h4, Rep.mono st.f h5⟩
        · obtain ⟨v', h4, rfl, h6, h7⟩ := ok.at_ i (.o a c) (by rw [List.getElem?_map, h2]; rfl)
          obtain ⟨v2, h8, h9⟩ := ok'.at_ i _ h3
          obtain ⟨rfl, h10, h11⟩ := h9
          exact ⟨_, h4, rfl, h10, h11⟩
    · obtain ⟨n1, n2⟩ := n a c es
      have m2 : a ∉ owns (ss'.map some) := fun m => n2 (b.in_ a m)
      refine ⟨?_, m2⟩
      rcases n1 with z | z
      · rw [e0] at z
        exact (m2 ((b.own a).mpr z)).elim
      · exact z
  refine hx _ F H _ ok0 ⟨fun σ' F' H' ρ' ok' st ⟨ss', b, f⟩ => ?_, fun s v σ' F' H' ρ' ok' r n st ⟨ss', b, f⟩ => ?_, fun _ _ _ _ _ _ z => z, fun _ _ _ _ _ _ z => z⟩
  · exact fin (.v .non) .non σ' F' H' ρ' ss' ok' .non (fun _ _ z => nomatch z) st b f
  · exact fin s v σ' F' H' ρ' ss' ok' r n st b f
/-- the length that F.ok asks -/
theorem sp_len {C : Ct} {n : Nat} (h : ∀ ss Φ, C ss Φ → ss.length = n) (vs : List V) (H : Hp) (Q : VK) (E : XK) (hs : spOf K C vs H Q E) : vs.length = n := by
  obtain ⟨F, ss, Φ, ok, hc, _⟩ := hs
  rw [← h ss Φ hc]
  simpa using ok.len.symm
end
end Fw

set_option Elab.async false
set_option linter.all false
set_option maxRecDepth 100000
namespace Fw
open PySem L2

section
variable {K : PySem.W.Frag} {q : Bool} {ρ : Env}

/-! ### calls -/
/-- the environment behind a call -/
def bk : List Ar → List Sl → Env → Env
  | .v _ :: as, _ :: ss, ρ => bk as ss ρ
  | .s i _ _ :: as, s :: ss, ρ => (bk as ss ρ).set i (some s)
  | _, _, ρ => ρ
theorem ArL.get {F : Hp} {ρ : Env} {as : List Ar} {vs : List V} (r : ArL K F ρ as vs) : as.length = vs.length ∧ ∀ (j : Nat) (x : Ar), as[j]? = some x → ∃ v, vs[j]? = some v ∧ match x with
    | .v d => Rep K F d v
    | .s i a c => ρ[i]? = some (some (.o a c)) ∧ v = .ref a := by
  induction r with
  | nil => exact ⟨rfl, fun j x h => by simp at h⟩
  | v h r ih =>
    refine ⟨by simp [ih.1], fun j x e => ?_⟩
    cases j with
    | zero => simp at e; subst e; exact ⟨_, rfl, h⟩
    | succ j =>
      obtain ⟨v, h1, h2⟩ := ih.2 j x (by simpa using e)
      exact ⟨v, by simpa using h1, h2⟩
  | s h r ih =>
    refine ⟨by simp [ih.1], fun j x e => ?_⟩
    cases j with
    | zero => simp at e; subst e; exact ⟨_, rfl, h, rfl⟩
    | succ j =>
      obtain ⟨v, h1, h2⟩ := ih.2 j x (by simpa using e)
      exact ⟨v, by simpa using h1, h2⟩
theorem bk_len : ∀ (as : List Ar) (ss : List Sl) (ρ : Env), (bk as ss ρ).length = ρ.length
  | [], _, _ => rfl
  | .v _ :: as, [], _ => rfl
  | .s _ _ _ :: as, [], _ => rfl
  | .v _ :: as, _ :: ss, ρ => bk_len as ss ρ
  | .s _ _ _ :: as, _ :: ss, ρ => by show ((bk as ss ρ).set _ _).length = _; rw [List.length_set]; exact bk_len as ss ρ
theorem bk_get : ∀ (as : List Ar) (ss : List Sl) (ρ : Env) (i : Nat) (x : Sl), (bk as ss ρ)[i]? = some (some x) →
    ((∀ (j : Nat) a c, as[j]? = some (.s i a c) → ss.length ≤ j) ∧ ρ[i]? = some (some x)) ∨ (∃ (j : Nat) (a : Addr) (c : O), as[j]? = some (.s i a c) ∧ ss[j]? = some x)
  | [], _, _, i, x, h => .inl ⟨fun j a c z => by simp at z, h⟩
  | .v _ :: as, [], _, i, x, h => .inl ⟨fun j a c z => Nat.zero_le _, h⟩
  | .s _ _ _ :: as, [], _, i, x, h => .inl ⟨fun j a c z => Nat.zero_le _, h⟩
  | .v _ :: as, s :: ss, ρ, i, x, h => by
    rcases bk_get as ss ρ i x h with ⟨h1, h2⟩ | ⟨j, a, c, h1, h2⟩
    · refine .inl ⟨fun j a c z => ?_, h2⟩
      cases j with
      | zero => simp at z
      | succ j => have := h1 j a c (by simpa using z); simp; exact this
    · exact .inr ⟨j + 1, a, c, by simpa using h1, by simpa using h2⟩
  | .s i' a' c' :: as, s :: ss, ρ, i, x, h => by
    have h : ((bk as ss ρ).set i' (some s))[i]? = some (some x) := h
    by_cases e : i = i'
    · subst e
      have hlt : i < (bk as ss ρ).length := by
        have := (List.getElem?_eq_some_iff.mp h).1
        simpa using this
      rw [List.getElem?_set_self hlt] at h
      cases h
      exact .inr ⟨0, a', c', rfl, rfl⟩
    · rw [List.getElem?_set_ne (Ne.symm e)] at h
      rcases bk_get as ss ρ i x h with ⟨h1, h2⟩ | ⟨j, a, c, h1, h2⟩
      · refine .inl ⟨fun j a c z => ?_, h2⟩
        cases j with
        | zero => simp at z; exact (e z.1.symm).elim
        | succ j => have := h1 j a c (by simpa using z); simp; exact this
      · exact .inr ⟨j + 1, a, c, by simpa using h1, by simpa using h2⟩
theorem nodup_of_inj {ρ : Env} (h : ∀ (i j : Nat) (a : Addr) (c c' : O), ρ[i]? = some (some (.o a c)) → ρ[j]? = some (some (.o a c')) → i = j) : (owns ρ).Nodup := by
  induction ρ with
  | nil => exact List.nodup_nil
  | cons x r ih =>
    have hr := ih fun i j a c c' h1 h2 => by simpa using h (i + 1) (j + 1) a c c' (by simpa using h1) (by simpa using h2)
    match x with
    | none => exact hr
    | some (.v _) => exact hr
    | some (.o a c) =>
      rw [owns_o, List.nodup_cons]
      refine ⟨fun m => ?_, hr⟩
      obtain ⟨i, c', e⟩ := mem_owns.mp m
      have := h 0 (i + 1) a c c' rfl (by simpa using e)
      cases this
/-- the defaults: data of the top -/
inductive DfL (K : PySem.W.Frag) : List V → List D → Prop
  | nil : DfL K [] []
  | cons {v : V} {vs : List V} {d : D} {ds : List D} : (∀ F, Rep K F d v) → DfL K vs ds → DfL K (v :: vs) (d :: ds)
theorem DfL.rep {vs : List V} {ds : List D} (h : DfL K vs ds) (F : Hp) : RepL K F ds vs := by
  induction h with
  | nil => exact .nil
  | cons h _ ih => exact .cons (h F) ih
theorem ArL.app {F : Hp} {as : List Ar} {vs : List V} (h : ArL K F ρ as vs) {ds : List D} {ws : List V} (r : RepL K F ds ws) : ArL K F ρ (as ++ ds.map .v) (vs ++ ws) := by
  induction h with
  | nil =>
    induction ds generalizing ws with
    | nil => cases r; exact .nil
    | cons d ds ih => cases r with | cons a b => exact .v a (ih b)
  | v h _ ih => exact .v h ih
  | s h _ ih => exact .s h ih
/-- the callee's end, in the caller's environment -/
theorem call_core {C : Ct} {σ : St} {F H : Hp} {as : List Ar} {vs : List V} {Q : VK} {E : XK} (ok : Ok K σ F H ρ) (ar : ArL K F ρ as vs) (nd : (as.filterMap Ar.ix).Nodup)
    {Φ : Sl → List Sl → Prop} (hc : C (as.map Ar.sl) Φ)
    (k : ∀ s v F' H' ss', Ok K σ F' H' (bk as ss' ρ) → RsOk K F' H' s v → (∀ a c, s = .o a c → H a = none ∧ a ∉ owns (bk as ss' ρ)) → Step ρ F H (bk as ss' ρ) F' H' → Φ s ss' → Q v H') : spOf K C vs H Q E := by
  have lv := ar.get.1
  -- which arguments are of which slot
  have slotOf : ∀ (j : Nat) a c, (as.map Ar.sl)[j]? = some (.o a c) → ∃ i, as[j]? = some (.s i a c) := fun j a c e => by
    rw [List.getElem?_map] at e
    cases h : as[j]? with
    | none => rw [h] at e; simp at e
    | some x =>
      rw [h] at e
      match x, e with
      | .s i b c', e =>
        simp only [Option.map_some, Ar.sl, Option.some.injEq, Sl.o.injEq] at e
        obtain ⟨rfl, rfl⟩ := e
        exact ⟨i, rfl⟩
  have toSlot : ∀ (j i : Nat) a c, as[j]? = some (.s i a c) → ρ[i]? = some (some (.o a c)) ∧ vs[j]? = some (.ref a) := fun j i a c e => by
    obtain ⟨v, h1, h2⟩ := ar.get.2 j _ e
    obtain ⟨h3, rfl⟩ := h2
    exact ⟨h3, h1⟩
  have ixinj : ∀ (j j' i : Nat) a c a' c', as[j]? = some (.s i a c) → as[j']? = some (.s i a' c') → j = j' := by
    clear hc k lv slotOf toSlot ar
    induction as with
    | nil => intro j j' i a c a' c' h; simp at h
    | cons x r ih =>
      intro j j' i a c a' c' h h'
      have mem : ∀ (j : Nat) a c, r[j]? = some (.s i a c) → i ∈ r.filterMap Ar.ix := fun j a c e => List.mem_filterMap.mpr ⟨_, List.mem_of_getElem? e, rfl⟩
      have ndr : (r.filterMap Ar.ix).Nodup := by
        match x with
        | .v _ => exact nd
        | .s i' _ _ => exact (List.nodup_cons.mp (show (i' :: r.filterMap Ar.ix).Nodup from nd)).2
      match j, j' with
      | 0, 0 => rfl
      | 0, j' + 1 =>
        simp at h h'
        subst h
        exact ((List.nodup_cons.mp (show (i :: r.filterMap Ar.ix).Nodup from nd)).1 (mem _ _ _ h')).elim
      | j + 1, 0 =>
        simp at h h'
        subst h'
        exact ((List.nodup_cons.mp (show (i :: r.filterMap Ar.ix).Nodup from nd)).1 (mem _ _ _ h)).elim
      | j + 1, j' + 1 => rw [ih ndr j j' i a c a' c' (by simpa using h) (by simpa using h')]
  have ssGet : ∀ (ss : List Sl) (i : Nat) s, (ss.map some)[i]? = some (some s) → ss[i]? = some s := fun ss i s e => by
    rw [List.getElem?_map] at e
    cases h : ss[i]? with
    | none => rw [h] at e; simp at e
    | some x => rw [h] at e; simp at e; rw [e]
  have subA : ∀ a, a ∈ owns ((as.map Ar.sl).map some) → a ∈ owns ρ := fun a m => by
    obtain ⟨j, c, e⟩ := mem_owns.mp m
    obtain ⟨i, h⟩ := slotOf j a c (ssGet _ _ _ e)
    exact mem_owns.mpr ⟨i, c, (toSlot j i a c h).1⟩
  have okA : Ok K (vs.map some) F H ((as.map Ar.sl).map some) := by
    refine ⟨ok.sub, by simp [lv], fun j s e => ?_, nodup_of_inj fun j j' a c c' e e' => ?_⟩
    · have e := ssGet _ _ _ e
      rw [List.getElem?_map] at e
      cases h : as[j]? with
      | none => rw [h] at e; simp at e
      | some x =>
        rw [h] at e
        simp only [Option.map_some, Option.some.injEq] at e
        subst e
        obtain ⟨v, h1, h2⟩ := ar.get.2 j x h
        refine ⟨v, by rw [List.getElem?_map, h1]; rfl, ?_⟩
        match x, h2 with
        | .v d, h2 => exact h2
        | .s i a c, ⟨h3, h4⟩ =>
          obtain ⟨w, h5, h6⟩ := ok.at_ i _ h3
          obtain ⟨rfl, h7, h8⟩ := h6
          exact ⟨h4, h7, h8⟩
    · obtain ⟨i, h⟩ := slotOf j a c (ssGet _ _ _ e)
      obtain ⟨i', h'⟩ := slotOf j' a c' (ssGet _ _ _ e')
      obtain rfl := owns_inj ok.nd (toSlot j i a c h).1 (toSlot j' i' a c' h').1
      exact ixinj j j' i a c a c' h h'
  refine ⟨F, _, Φ, okA, hc, fun s v F' H' ss' ok' r n st f => ?_⟩
  have ls : ss'.length = as.length := by
    have := ok'.len
    simp at this
    omega
  -- what an argument's slot is behind the call
  have newAt : ∀ (j i : Nat) a c x, as[j]? = some (.s i a c) → ss'[j]? = some x → ∃ u, σ[i]? = some (some u) ∧ RsOk K F' H' x u ∧ u = .ref a := fun j i a c x e e' => by
    obtain ⟨h1, h2⟩ := toSlot j i a c e
    obtain ⟨u, h3, rfl, h4⟩ := ok.at_ i _ h1
    obtain ⟨w, h5, h6⟩ := ok'.at_ j x (by rw [List.getElem?_map, e']; rfl)
    obtain ⟨w', h7, h8⟩ := map_get h5
    cases h7
    rw [h2] at h8; cases h8
    exact ⟨_, h3, h6, rfl⟩
  have ownNew : ∀ (j i : Nat) a c b c', as[j]? = some (.s i a c) → ss'[j]? = some (.o b c') → b = a := fun j i a c b c' e e' => by
    obtain ⟨u, h1, ⟨h2, _⟩, h3⟩ := newAt j i a c _ e e'
    rw [h3] at h2; cases h2; rfl
  have bkOwn : ∀ (i : Nat) b c', (bk as ss' ρ)[i]? = some (some (.o b c')) → ((∀ (j : Nat) a c, as[j]? ≠ some (.s i a c)) ∧ ρ[i]? = some (some (.o b c'))) ∨ ∃ (j : Nat) (c : O), as[j]? = some (.s i b c) ∧ ss'[j]? = some (.o b c') := fun i b c' e => by
    rcases bk_get as ss' ρ i _ e with ⟨h1, h2⟩ | ⟨j, a, c, h1, h2⟩
    · refine .inl ⟨fun j a c z => ?_, h2⟩
      have h3 := h1 j a c z
      have h4 := (List.getElem?_eq_some_iff.mp z).1
      omega
    · obtain rfl := ownNew j i a c b c' h1 h2
      exact .inr ⟨j, c, h1, h2⟩
  have notArg : ∀ (i : Nat) b c', (∀ (j : Nat) a c, as[j]? ≠ some (.s i a c)) → ρ[i]? = some (some (.o b c')) → b ∉ owns ((as.map Ar.sl).map some) := fun i b c' h1 h2 m => by
    obtain ⟨j, c, e⟩ := mem_owns.mp m
    obtain ⟨i', h⟩ := slotOf j b c (ssGet _ _ _ e)
    obtain rfl := owns_inj ok.nd (toSlot j i' b c h).1 h2
    exact h1 j b c h
  have stepB : Step ρ F H (bk as ss' ρ) F' H' := ⟨st.f, fun a o e m => st.h a o e fun z => m (subA a z), fun a o e => by
    rcases st.n a o e with z | z | z
    · exact .inl z
    · exact .inr (.inl z)
    · exact .inr (.inr (subA a z)), fun b m => by
    obtain ⟨i, c', e⟩ := mem_owns.mp m
    rcases bkOwn i b c' e with ⟨_, h2⟩ | ⟨j, c, h1, h2⟩
    · exact .inl (mem_owns.mpr ⟨i, c', h2⟩)
    · exact .inl (mem_owns.mpr ⟨i, c, (toSlot j i b c h1).1⟩)⟩
  have okB : Ok K σ F' H' (bk as ss' ρ) := by
    refine ⟨ok'.sub, (bk_len as ss' ρ).trans ok.len, fun i x e => ?_, nodup_of_inj fun i i' b c c' e e' => ?_⟩
    · rcases bk_get as ss' ρ i x e with ⟨h1, h2⟩ | ⟨j, a, c, h1, h2⟩
      · obtain ⟨u, h3, h4⟩ := ok.at_ i x h2
        refine ⟨u, h3, ?_⟩
        cases x with
        | v d => exact Rep.mono st.f h4
        | o b c' =>
          refine st.free h4 (notArg i b c' (fun j a c z => ?_) h2)
          have h5 := h1 j a c z
          have h6 := (List.getElem?_eq_some_iff.mp z).1
          omega
      · obtain ⟨u, h3, h4, _⟩ := newAt j i a c x h1 h2
        exact ⟨u, h3, h4⟩
    · -- each stands at its old slot
      have old : ∀ (i : Nat) c, (bk as ss' ρ)[i]? = some (some (.o b c)) → ∃ c0, ρ[i]? = some (some (.o b c0)) := fun i c e => by
        rcases bkOwn i b c e with ⟨_, h2⟩ | ⟨j, c2, h1, _⟩
        · exact ⟨_, h2⟩
        · exact ⟨_, (toSlot j i b c2 h1).1⟩
      obtain ⟨c0, h0⟩ := old i c e
      obtain ⟨c1, h1⟩ := old i' c' e'
      exact owns_inj ok.nd h0 h1
  refine k s v F' H' ss' okB r (fun a c es => ?_) stepB f
  obtain ⟨n1, n2⟩ := n a c es
  refine ⟨n1, fun m => ?_⟩
  obtain ⟨i, c', e⟩ := mem_owns.mp m
  rcases bkOwn i a c' e with ⟨_, h2⟩ | ⟨j, c2, h1, h2⟩
  · obtain ⟨o, ho⟩ := (ok.own (mem_owns.mpr ⟨i, c', h2⟩)).2
    rw [n1] at ho; cases ho
  · obtain ⟨o, ho⟩ := (ok.own (mem_owns.mpr ⟨i, c2, (toSlot j i a c2 h1).1⟩)).2
    rw [n1] at ho; cases ho
theorem ix_v : ∀ ds : List D, (ds.map Ar.v).filterMap Ar.ix = []
  | [] => rfl
  | d :: ds => by rw [List.map_cons, List.filterMap_cons_none rfl]; exact ix_v ds
/-- the answer, taken as data -/
def Sl.d : Sl → D
  | .v d => d
  | .o _ c => c.d
theorem ev_call {C : Ct} {dvs : List V} {dds : List D} {E : XK} {ta : TA} {Φ : D → Env → Prop} (dd : DfL K dvs dds)
    (h : eva K ta ρ fun as ρ1 => (as.filterMap Ar.ix).Nodup ∧ C ((as ++ dds.map Ar.v).map Ar.sl) fun s ss' => Φ s.d (bk (as ++ dds.map .v) ss' ρ1)) : ev K false (tCall (spOf K C) dvs E ta) ρ Φ := fun σ F H Q ok k => by
  refine h σ F H _ ok fun as vs F1 H1 ρ1 ok1 ar st ⟨nd, hc⟩ => ?_
  have nd2 : ((as ++ dds.map Ar.v).filterMap Ar.ix).Nodup := by
    rw [List.filterMap_append]
    rw [ix_v, List.append_nil]; exact nd
  refine call_core ok1 (ar.app (dd.rep F1)) nd2 hc fun s v F2 H2 ss' ok2 r n st2 f => ?_
  cases s with
  | v d => exact k d v F2 H2 _ ok2 r (st.trans st2) (fun z => nomatch z) f
  | o a c =>
    obtain ⟨n1, n2⟩ := n a c rfl
    obtain ⟨F3, ok3, r3, s3, n3⟩ := freeze ok2 r n2
    refine k c.d v F3 H2 _ ok3 r3 (st.trans ⟨st2.f.trans s3, st2.h, fun b o e => ?_, st2.w⟩) (fun z => nomatch z) f
    rcases n3 b o e with z | z
    · exact st2.n b o z
    · subst z; exact .inr (.inl n1)
theorem evo_call {C : Ct} {dvs : List V} {dds : List D} {E : XK} {ta : TA} {Φ : Addr → O → Env → Prop} (dd : DfL K dvs dds)
    (h : eva K ta ρ fun as ρ1 => (as.filterMap Ar.ix).Nodup ∧ C ((as ++ dds.map Ar.v).map Ar.sl) fun s ss' => ∃ a c, s = .o a c ∧ (a ∉ owns (bk (as ++ dds.map .v) ss' ρ1) → Φ a c (bk (as ++ dds.map .v) ss' ρ1))) : evo K (tCall (spOf K C) dvs E ta) ρ Φ := fun σ F H Q ok k => by
  refine h σ F H _ ok fun as vs F1 H1 ρ1 ok1 ar st ⟨nd, hc⟩ => ?_
  have nd2 : ((as ++ dds.map Ar.v).filterMap Ar.ix).Nodup := by
    rw [List.filterMap_append]
    rw [ix_v, List.append_nil]; exact nd
  refine call_core ok1 (ar.app (dd.rep F1)) nd2 hc fun s v F2 H2 ss' ok2 r n st2 ⟨a, c, e, f⟩ => ?_
  subst e
  obtain ⟨rfl, r1, r2⟩ := id r
  obtain ⟨n1, n2⟩ := n a c rfl
  exact k a c F2 H2 _ ok2 r (st.trans st2) (st.new (.inr n1)) n2 (f n2)
def ndb : List Nat → Bool
  | [] => true
  | x :: xs => !xs.contains x && ndb xs
theorem ndb_ok : ∀ {l : List Nat}, ndb l = true → l.Nodup
  | [], _ => List.nodup_nil
  | x :: xs, h => by
    simp only [ndb, Bool.and_eq_true, Bool.not_eq_true', List.contains_eq_mem, decide_eq_false_iff_not] at h
    exact List.nodup_cons.mpr ⟨h.1, ndb_ok h.2⟩
theorem eva.imp {ta : TA} {Φ Φ' : List Ar → Env → Prop} (h : eva K ta ρ Φ) (i : ∀ d ρ', Φ d ρ' → Φ' d ρ') : eva K ta ρ Φ' := fun σ F H Q ok k =>
  h σ F H Q ok fun d v F' H' ρ' a b c f => k d v F' H' ρ' a b c (i _ _ f)
theorem ev_call0 {C : Ct} {E : XK} {ta : TA} {Φ : D → Env → Prop}
    (h : eva K ta ρ fun as ρ1 => ndb (as.filterMap Ar.ix) = true ∧ C (as.map Ar.sl) fun s ss' => Φ s.d (bk as ss' ρ1)) : ev K false (tCall (spOf K C) [] E ta) ρ Φ :=
  ev_call (dds := []) .nil (by simpa using h.imp fun as ρ1 k => ⟨ndb_ok k.1, k.2⟩)
theorem evo_call0 {C : Ct} {E : XK} {ta : TA} {Φ : Addr → O → Env → Prop}
    (h : eva K ta ρ fun as ρ1 => ndb (as.filterMap Ar.ix) = true ∧ C (as.map Ar.sl) fun s ss' => ∃ a c, s = .o a c ∧ (a ∉ owns (bk as ss' ρ1) → Φ a c (bk as ss' ρ1))) : evo K (tCall (spOf K C) [] E ta) ρ Φ :=
  evo_call (dds := []) .nil (by simpa using h.imp fun as ρ1 k => ⟨ndb_ok k.1, k.2⟩)
end
end Fw

set_option Elab.async false
set_option linter.all false
set_option maxRecDepth 100000
namespace Fw
open PySem L2

section
variable {K : PySem.W.Frag} {q : Bool} {ρ : Env}

/-! ### ints -/
/-- an expression gives an int -/
abbrev evI (K : PySem.W.Frag) (q : Bool) (te : TE) (ρ : Env) (Φ : Int → Env → Prop) : Prop := ev K q te ρ fun d ρ' => ∃ i, d = .int i ∧ Φ i ρ'
theorem ev_iop {g : Int → Int → V} {g' : Int → Int → D} {ta tb : TE} {Φ : D → Env → Prop} (r : ∀ i j F, Rep K F (g' i j) (g i j)) (h : evI K q ta ρ fun i ρ1 => evI K q tb ρ1 fun j ρ2 => Φ (g' i j) ρ2) : ev K q (tOp (rI0 g) ta tb) ρ Φ :=
  ev_rI0 (h.imp fun d ρ1 ⟨i, e, h1⟩ => h1.imp fun d' ρ2 ⟨j, e', k⟩ => ⟨i, j, _, e, e', r i j, k⟩)
theorem ev_iopC {C : Int → Int → Prop} {g : Int → Int → V} {g' : Int → Int → D} {ta tb : TE} {Φ : D → Env → Prop} (r : ∀ i j F, Rep K F (g' i j) (g i j)) (h : evI K q ta ρ fun i ρ1 => evI K q tb ρ1 fun j ρ2 => C i j ∧ Φ (g' i j) ρ2) : ev K q (tOp (rI C g) ta tb) ρ Φ :=
  ev_rI (h.imp fun d ρ1 ⟨i, e, h1⟩ => h1.imp fun d' ρ2 ⟨j, e', c, k⟩ => ⟨i, j, _, e, e', c, r i j, k⟩)
theorem ev_add {ta tb : TE} {Φ : D → Env → Prop} (h : evI K q ta ρ fun i ρ1 => evI K q tb ρ1 fun j ρ2 => Φ (.int (i + j)) ρ2) : ev K q (tOp (rI0 fun i j => .int (i + j)) ta tb) ρ Φ := ev_iop (fun _ _ _ => .int _) h
theorem ev_sub {ta tb : TE} {Φ : D → Env → Prop} (h : evI K q ta ρ fun i ρ1 => evI K q tb ρ1 fun j ρ2 => Φ (.int (i - j)) ρ2) : ev K q (tOp (rI0 fun i j => .int (i - j)) ta tb) ρ Φ := ev_iop (fun _ _ _ => .int _) h
theorem ev_mul {ta tb : TE} {Φ : D → Env → Prop} (h : evI K q ta ρ fun i ρ1 => evI K q tb ρ1 fun j ρ2 => CMulW i j ∧ Φ (.int (i * j)) ρ2) : ev K q (tOp (rI CMulW fun i j => .int (i * j)) ta tb) ρ Φ := ev_iopC (fun _ _ _ => .int _) h
theorem ev_mulS {ta tb : TE} {Φ : D → Env → Prop} (h : evI K q ta ρ fun i ρ1 => evI K q tb ρ1 fun j ρ2 => CMul i j ∧ Φ (.int (i * j)) ρ2) : ev K q (tOp (rI CMul fun i j => .int (i * j)) ta tb) ρ Φ := ev_iopC (fun _ _ _ => .int _) h
theorem ev_div {ta tb : TE} {Φ : D → Env → Prop} (h : evI K q ta ρ fun i ρ1 => evI K q tb ρ1 fun j ρ2 => CDivW i j ∧ Φ (.int (i / j)) ρ2) : ev K q (tOp (rI CDivW fun i j => .int (i / j)) ta tb) ρ Φ := ev_iopC (fun _ _ _ => .int _) h
theorem ev_mod {ta tb : TE} {Φ : D → Env → Prop} (h : evI K q ta ρ fun i ρ1 => evI K q tb ρ1 fun j ρ2 => 0 < j ∧ Φ (.int (i % j)) ρ2) : ev K q (tOp (rI (fun _ j => 0 < j) fun i j => .int (i % j)) ta tb) ρ Φ := ev_iopC (C := fun _ j => 0 < j) (fun _ _ _ => .int _) h
theorem ev_pow {ta tb : TE} {Φ : D → Env → Prop} (h : evI K q ta ρ fun i ρ1 => evI K q tb ρ1 fun j ρ2 => CPow i j ∧ Φ (.int (i ^ j.toNat)) ρ2) : ev K q (tOp (rI CPow fun i j => .int (i ^ j.toNat)) ta tb) ρ Φ := ev_iopC (fun _ _ _ => .int _) h
theorem ev_lt {ta tb : TE} {Φ : D → Env → Prop} (h : evI K q ta ρ fun i ρ1 => evI K q tb ρ1 fun j ρ2 => Φ (.bl (decide (i < j))) ρ2) : ev K q (tOp (rI0 fun i j => .bl (decide (i < j))) ta tb) ρ Φ := ev_iop (fun _ _ _ => .bl _) h
theorem ev_le {ta tb : TE} {Φ : D → Env → Prop} (h : evI K q ta ρ fun i ρ1 => evI K q tb ρ1 fun j ρ2 => Φ (.bl (decide (i ≤ j))) ρ2) : ev K q (tOp (rI0 fun i j => .bl (decide (i ≤ j))) ta tb) ρ Φ := ev_iop (fun _ _ _ => .bl _) h
theorem ev_gt {ta tb : TE} {Φ : D → Env → Prop} (h : evI K q ta ρ fun i ρ1 => evI K q tb ρ1 fun j ρ2 => Φ (.bl (decide (j < i))) ρ2) : ev K q (tOp (rI0 fun i j => .bl (decide (j < i))) ta tb) ρ Φ := ev_iop (fun _ _ _ => .bl _) h
theorem ev_ge {ta tb : TE} {Φ : D → Env → Prop} (h : evI K q ta ρ fun i ρ1 => evI K q tb ρ1 fun j ρ2 => Φ (.bl (decide (j ≤ i))) ρ2) : ev K q (tOp (rI0 fun i j => .bl (decide (j ≤ i))) ta tb) ρ Φ := ev_iop (fun _ _ _ => .bl _) h
theorem ev_neg {ta : TE} {Φ : D → Env → Prop} (h : evI K q ta ρ fun i ρ1 => Φ (.int (-i)) ρ1) : ev K q (tUn (rU fun i => .int (-i)) ta) ρ Φ := fun σ F H Q ok c =>
  h σ F H _ ok fun d v F1 H1 ρ1 ok1 r1 s1 q1 ⟨i, e, k⟩ => by
    subst e; cases r1
    exact ⟨i, rfl, c _ _ F1 H1 ρ1 ok1 (.int _) s1 q1 k⟩
/-! ### data that are compared -/
mutual
def D.py : D → PyData
  | .non => .none
  | .bl b => .bool b
  | .int i => .int i
  | .str s => .str s
  | .lst xs => .list (D.pys xs)
  | .tup xs => .tuple (D.pys xs)
  | .fls _ => .dict []
  | .raw _ => .dict []
  | .dct _ => .dict []
  | .ins _ _ => .dict []
def D.pys : List D → List PyData
  | [] => []
  | d :: ds => D.py d :: D.pys ds
end
/-- None, bools, ints, texts, lists and tuples of such, to a depth -/
def D.shp : Nat → D → Bool
  | _, .non => true
  | _, .bl _ => true
  | _, .int _ => true
  | _, .str s => PyData.strOk s
  | n + 1, .lst xs => xs.all (D.shp n)
  | n + 1, .tup xs => xs.all (D.shp n)
  | _, _ => false
mutual
theorem dp_of {F : Hp} : ∀ (n : Nat) (d : D) (v : V), d.shp n = true → Rep K F d v → Dp K F v d.py
  | n, .non, _, _, .non => .non
  | n, .bl _, _, _, .bl b => .bl b
  | n, .int _, _, _, .int b => .int b
  | n, .str _, _, _, .str b => .str b
  | n, .raw u, _, h, _ => by simp [D.shp] at h
  | n + 1, .lst xs, _, h, .lst a r => .lst (SqL.of a) (dps_of n xs _ (by simpa [D.shp] using h) r)
  | 0, .lst xs, _, h, .lst a r => by simp [D.shp] at h
  | n + 1, .tup xs, _, h, .tup a r => .tup (SqT.of a) (dps_of n xs _ (by simpa [D.shp] using h) r)
  | 0, .tup xs, _, h, .tup a r => by simp [D.shp] at h
  | n, .fls xs, _, h, _ => by simp [D.shp] at h
  | n, .dct xs, _, h, _ => by simp [D.shp] at h
  | n, .ins _ xs, _, h, _ => by simp [D.shp] at h
theorem dps_of {F : Hp} : ∀ (n : Nat) (ds : List D) (vs : List V), (∀ d ∈ ds, d.shp n = true) → RepL K F ds vs → DpAll K F vs (D.pys ds)
  | n, [], _, _, .nil => .nil
  | n, d :: ds, _, h, .cons a r => .cons (dp_of n d _ (h d List.mem_cons_self) a) (dps_of n ds _ (fun e he => h e (List.mem_cons_of_mem _ he)) r)
end
mutual
theorem shp_lay : ∀ (n : Nat) (d : D), d.shp n = true → d.py.canLay0 = true ∧ d.py.depth ≤ n
  | n, .non, _ => ⟨rfl, Nat.zero_le _⟩
  | n, .bl _, _ => ⟨rfl, Nat.zero_le _⟩
  | n, .int _, _ => ⟨rfl, Nat.zero_le _⟩
  | n, .str s, h => ⟨by cases n <;> simpa [D.shp, D.py, PyData.canLay0] using h, Nat.zero_le _⟩
  | n, .raw u, h => by simp [D.shp] at h
  | n + 1, .lst xs, h => by
    have := shp_lays n xs (by simpa [D.shp] using h)
    simp only [D.py, PyData.canLay0, PyData.depth]
    exact ⟨this.1, by omega⟩
  | 0, .lst xs, h => by simp [D.shp] at h
  | n + 1, .tup xs, h => by
    have := shp_lays n xs (by simpa [D.shp] using h)
    simp only [D.py, PyData.canLay0, PyData.depth]
    exact ⟨this.1, by omega⟩
  | 0, .tup xs, h => by simp [D.shp] at h
  | n, .fls xs, h => by simp [D.shp] at h
  | n, .dct xs, h => by simp [D.shp] at h
  | n, .ins _ xs, h => by simp [D.shp] at h
theorem shp_lays : ∀ (n : Nat) (ds : List D), (∀ d ∈ ds, d.shp n = true) → PyData.canLayAll0 (D.pys ds) = true ∧ PyData.depthAll (D.pys ds) ≤ n
  | n, [], _ => ⟨rfl, Nat.zero_le _⟩
  | n, d :: ds, h => by
    have h1 := shp_lay n d (h d List.mem_cons_self)
    have h2 := shp_lays n ds (fun e he => h e (List.mem_cons_of_mem _ he))
    simp only [D.pys, PyData.canLayAll0, PyData.depthAll, Bool.and_eq_true]
    exact ⟨⟨h1.1, h2.1⟩, Nat.max_le.mpr ⟨h1.2, h2.2⟩⟩
end
theorem shp_shaped {d : D} (h : d.shp 64 = true) : SeqAt.shaped d.py = true := by
  have := shp_lay 64 d h
  unfold SeqAt.shaped
  rw [this.1, decide_eq_true this.2]
  rfl
def D.eqv (d e : D) : Bool := PyData.eqv d.py e.py
/-- borrowed data, as they stand -/
theorem BRep.rep {σ : St} {F H : Hp} {d : D} {v : V} (ok : Ok K σ F H ρ) (b : BRep K F ρ d v) : Rep K H d v := by
  rcases b with b | ⟨i, a, c, h, rfl, rfl⟩
  · exact Rep.mono ok.sub b
  · obtain ⟨w, h1, rfl, h2, h3⟩ := ok.at_ i _ h
    cases c with
    | lst xs => obtain ⟨vs, h4, h5⟩ := h3; exact .lst h4 (RepL.mono ok.sub h5)
    | dct xs => obtain ⟨vs, h4, h5⟩ := h3; exact .dct h4 (RepK.mono ok.sub h5)
theorem BRep.step {F F' : Hp} {d : D} {v : V} (b : BRep K F ρ d v) (s : Same F F') : BRep K F' ρ d v := by
  rcases b with b | b
  · exact .inl (Rep.mono s b)
  · exact .inr b
theorem ev_eq {ta tb : TE} {Φ : D → Env → Prop} (h : evb K q ta ρ fun d ρ1 => evb K q tb ρ1 fun e ρ2 => ρ2 = ρ1 ∧ d.shp 64 = true ∧ e.shp 64 = true ∧ Φ (.bl (d.eqv e)) ρ2) : ev K q (tOp (rEqD K) ta tb) ρ Φ := fun σ F H Q ok c => by
  refine h σ F H _ ok fun d v F1 H1 ρ1 ok1 b1 s1 q1 h1 => ?_
  refine h1 σ F1 H1 _ ok1 fun e w F2 H2 ρ2 ok2 b2 s2 q2 ⟨er, k1, k2, k⟩ => ?_
  subst er
  have r1 := (b1.step s2.f).rep ok2
  have r2 := b2.rep ok2
  exact ⟨_, _, dp_of 64 d v k1 r1, dp_of 64 e w k2 r2, shp_shaped k1, shp_shaped k2, c _ _ F2 H2 _ ok2 (.bl _) (s1.trans s2) (q1.trans q2) k⟩
theorem ev_ne {ta tb : TE} {Φ : D → Env → Prop} (h : evb K q ta ρ fun d ρ1 => evb K q tb ρ1 fun e ρ2 => ρ2 = ρ1 ∧ d.shp 64 = true ∧ e.shp 64 = true ∧ Φ (.bl (!d.eqv e)) ρ2) : ev K q (tOp (rNeD K) ta tb) ρ Φ := fun σ F H Q ok c => by
  refine h σ F H _ ok fun d v F1 H1 ρ1 ok1 b1 s1 q1 h1 => ?_
  refine h1 σ F1 H1 _ ok1 fun e w F2 H2 ρ2 ok2 b2 s2 q2 ⟨er, k1, k2, k⟩ => ?_
  subst er
  have r1 := (b1.step s2.f).rep ok2
  have r2 := b2.rep ok2
  exact ⟨_, _, dp_of 64 d v k1 r1, dp_of 64 e w k2 r2, shp_shaped k1, shp_shaped k2, c _ _ F2 H2 _ ok2 (.bl _) (s1.trans s2) (q1.trans q2) k⟩
/-- == of two frozen data, whatever the environment becomes -/
theorem ev_eqV {ta tb : TE} {Φ : D → Env → Prop} (h : ev K q ta ρ fun d ρ1 => ev K q tb ρ1 fun e ρ2 => d.shp 64 = true ∧ e.shp 64 = true ∧ Φ (.bl (d.eqv e)) ρ2) : ev K q (tOp (rEqD K) ta tb) ρ Φ := fun σ F H Q ok c => by
  refine h σ F H _ ok fun d v F1 H1 ρ1 ok1 b1 s1 q1 h1 => ?_
  refine h1 σ F1 H1 _ ok1 fun e w F2 H2 ρ2 ok2 b2 s2 q2 ⟨k1, k2, k⟩ => ?_
  have r1 := Rep.mono ok2.sub (Rep.mono s2.f b1)
  have r2 := Rep.mono ok2.sub b2
  exact ⟨_, _, dp_of 64 d v k1 r1, dp_of 64 e w k2 r2, shp_shaped k1, shp_shaped k2, c _ _ F2 H2 _ ok2 (.bl _) (s1.trans s2) (q1.trans q2) k⟩
theorem ev_neV {ta tb : TE} {Φ : D → Env → Prop} (h : ev K q ta ρ fun d ρ1 => ev K q tb ρ1 fun e ρ2 => d.shp 64 = true ∧ e.shp 64 = true ∧ Φ (.bl (!d.eqv e)) ρ2) : ev K q (tOp (rNeD K) ta tb) ρ Φ := fun σ F H Q ok c => by
  refine h σ F H _ ok fun d v F1 H1 ρ1 ok1 b1 s1 q1 h1 => ?_
  refine h1 σ F1 H1 _ ok1 fun e w F2 H2 ρ2 ok2 b2 s2 q2 ⟨k1, k2, k⟩ => ?_
  have r1 := Rep.mono ok2.sub (Rep.mono s2.f b1)
  have r2 := Rep.mono ok2.sub b2
  exact ⟨_, _, dp_of 64 d v k1 r1, dp_of 64 e w k2 r2, shp_shaped k1, shp_shaped k2, c _ _ F2 H2 _ ok2 (.bl _) (s1.trans s2) (q1.trans q2) k⟩
/-- is None -/
def D.isN : D → Bool
  | .non => true
  | .raw v => decide (v = .non)
  | _ => false
theorem D.isN_of {F : Hp} {d : D} {v : V} (r : Rep K F d v) : decide (v = .non) = d.isN := by
  cases r <;> simp [D.isN]
abbrev rIsN : R2 := fun x y H Q => y = .non ∧ Q (.bl (decide (x = .non))) H
abbrev rNotN : R2 := fun x y H Q => y = .non ∧ Q (.bl (!decide (x = .non))) H
theorem ev_isN {ta : TE} {Φ : D → Env → Prop} (h : evb K q ta ρ fun d ρ1 => Φ (.bl d.isN) ρ1) : ev K q (tOp rIsN ta (tC .non)) ρ Φ := fun σ F H Q ok c => by
  refine h σ F H _ ok fun d v F1 H1 ρ1 ok1 b1 s1 q1 k => ?_
  refine ⟨rfl, ?_⟩
  rw [D.isN_of (b1.rep ok1)]
  exact c _ _ F1 H1 _ ok1 (.bl _) s1 q1 k
theorem ev_notN {ta : TE} {Φ : D → Env → Prop} (h : evb K q ta ρ fun d ρ1 => Φ (.bl (!d.isN)) ρ1) : ev K q (tOp rNotN ta (tC .non)) ρ Φ := fun σ F H Q ok c => by
  refine h σ F H _ ok fun d v F1 H1 ρ1 ok1 b1 s1 q1 k => ?_
  refine ⟨rfl, ?_⟩
  rw [D.isN_of (b1.rep ok1)]
  exact c _ _ F1 H1 _ ok1 (.bl _) s1 q1 k
/-! ### tests -/
theorem et_test {te : TE} {Φ : Bool → Env → Prop} (h : ev K q te ρ fun d ρ1 => ∃ b, d = .bl b ∧ Φ b ρ1) : et K q (tTest te) ρ Φ := fun σ F H Q ok c => by
  refine h σ F H _ ok fun d v F1 H1 ρ1 ok1 r1 s1 q1 ⟨b, e, k⟩ => ?_
  subst e; cases r1
  exact ⟨b, rfl, c b F1 H1 ρ1 ok1 s1 q1 k⟩
theorem et_tB {te : TE} {Φ : Bool → Env → Prop} (h : ev K q te ρ fun d ρ1 => ∃ b, d = .bl b ∧ Φ b ρ1) : et K q (tB te) ρ Φ := fun σ F H Q ok c => by
  refine h σ F H _ ok fun d v F1 H1 ρ1 ok1 r1 s1 q1 ⟨b, e, k⟩ => ?_
  subst e; cases r1
  exact ⟨b, rfl, c b F1 H1 ρ1 ok1 s1 q1 k⟩
theorem et_and {t u : TT} {Φ : Bool → Env → Prop} (h : et K q t ρ fun b ρ1 => (b = true → et K q u ρ1 Φ) ∧ (b = false → Φ false ρ1)) : et K q (tAnd t u) ρ Φ := fun σ F H Q ok c => by
  refine h σ F H _ ok fun b F1 H1 ρ1 ok1 s1 q1 ⟨k1, k2⟩ => ?_
  cases b with
  | true =>
    rw [if_pos rfl]
    exact k1 rfl σ F1 H1 _ ok1 fun b F2 H2 ρ2 ok2 s2 q2 k => c b F2 H2 ρ2 ok2 (s1.trans s2) (q1.trans q2) k
  | false =>
    rw [if_neg Bool.false_ne_true]
    exact c false F1 H1 ρ1 ok1 s1 q1 (k2 rfl)
theorem et_or {t u : TT} {Φ : Bool → Env → Prop} (h : et K q t ρ fun b ρ1 => (b = true → Φ true ρ1) ∧ (b = false → et K q u ρ1 Φ)) : et K q (tOr t u) ρ Φ := fun σ F H Q ok c => by
  refine h σ F H _ ok fun b F1 H1 ρ1 ok1 s1 q1 ⟨k1, k2⟩ => ?_
  cases b with
  | true =>
    rw [if_pos rfl]
    exact c true F1 H1 ρ1 ok1 s1 q1 (k1 rfl)
  | false =>
    rw [if_neg Bool.false_ne_true]
    exact k2 rfl σ F1 H1 _ ok1 fun b F2 H2 ρ2 ok2 s2 q2 k => c b F2 H2 ρ2 ok2 (s1.trans s2) (q1.trans q2) k
theorem et_not {t : TT} {Φ : Bool → Env → Prop} (h : et K q t ρ fun b ρ1 => Φ (!b) ρ1) : et K q (tNot t) ρ Φ := fun σ F H Q ok c =>
  h σ F H _ ok fun b F1 H1 ρ1 ok1 s1 q1 k => c (!b) F1 H1 ρ1 ok1 s1 q1 k
theorem ev_and {ta tb : TE} {Φ : D → Env → Prop} (h : ev K q ta ρ fun d ρ1 => ∃ b, d = .bl b ∧ (b = true → ev K q tb ρ1 Φ) ∧ (b = false → Φ (.bl false) ρ1)) : ev K q (tAndV ta tb) ρ Φ := fun σ F H Q ok c => by
  refine h σ F H _ ok fun d v F1 H1 ρ1 ok1 r1 s1 q1 ⟨b, e, k1, k2⟩ => ?_
  subst e; cases r1
  refine ⟨b, rfl, ?_⟩
  cases b with
  | true =>
    rw [if_pos rfl]
    exact k1 rfl σ F1 H1 _ ok1 fun b w F2 H2 ρ2 ok2 r2 s2 q2 k => c b w F2 H2 ρ2 ok2 r2 (s1.trans s2) (q1.trans q2) k
  | false =>
    rw [if_neg Bool.false_ne_true]
    exact c _ _ F1 H1 ρ1 ok1 (.bl false) s1 q1 (k2 rfl)
theorem ev_or {ta tb : TE} {Φ : D → Env → Prop} (h : ev K q ta ρ fun d ρ1 => ∃ b, d = .bl b ∧ (b = true → Φ (.bl true) ρ1) ∧ (b = false → ev K q tb ρ1 Φ)) : ev K q (tOrV ta tb) ρ Φ := fun σ F H Q ok c => by
  refine h σ F H _ ok fun d v F1 H1 ρ1 ok1 r1 s1 q1 ⟨b, e, k1, k2⟩ => ?_
  subst e; cases r1
  refine ⟨b, rfl, ?_⟩
  cases b with
  | true =>
    rw [if_pos rfl]
    exact c _ _ F1 H1 ρ1 ok1 (.bl true) s1 q1 (k1 rfl)
  | false =>
    rw [if_neg Bool.false_ne_true]
    exact k2 rfl σ F1 H1 _ ok1 fun b w F2 H2 ρ2 ok2 r2 s2 q2 k => c b w F2 H2 ρ2 ok2 r2 (s1.trans s2) (q1.trans q2) k
theorem ev_not {ta : TE} {Φ : D → Env → Prop} (h : ev K q ta ρ fun d ρ1 => ∃ b, d = .bl b ∧ Φ (.bl (!b)) ρ1) : ev K q (tNotV ta) ρ Φ := fun σ F H Q ok c => by
  refine h σ F H _ ok fun d v F1 H1 ρ1 ok1 r1 s1 q1 ⟨b, e, k⟩ => ?_
  subst e; cases r1
  exact ⟨b, rfl, c _ _ F1 H1 ρ1 ok1 (.bl _) s1 q1 k⟩
theorem ev_if {t : TT} {ta tb : TE} {Φ : D → Env → Prop} (h : et K q t ρ fun b ρ1 => (b = true → ev K q ta ρ1 Φ) ∧ (b = false → ev K q tb ρ1 Φ)) : ev K q (tIf t ta tb) ρ Φ := fun σ F H Q ok c => by
  refine h σ F H _ ok fun b F1 H1 ρ1 ok1 s1 q1 ⟨k1, k2⟩ => ?_
  cases b with
  | true =>
    rw [if_pos rfl]
    exact k1 rfl σ F1 H1 _ ok1 fun b w F2 H2 ρ2 ok2 r2 s2 q2 k => c b w F2 H2 ρ2 ok2 r2 (s1.trans s2) (q1.trans q2) k
  | false =>
    rw [if_neg Bool.false_ne_true]
    exact k2 rfl σ F1 H1 _ ok1 fun b w F2 H2 ρ2 ok2 r2 s2 q2 k => c b w F2 H2 ρ2 ok2 r2 (s1.trans s2) (q1.trans q2) k
end
end Fw

set_option Elab.async false
set_option linter.all false
set_option maxRecDepth 100000
namespace Fw
open PySem L2

/-! ### slots that are stored -/
theorem owns_set_sub {ρ : Env} {i : Nat} {x : Option Sl} {b : Addr} (h : b ∈ owns (ρ.set i x)) : b ∈ owns ρ ∨ ownA x = some b := by
  obtain ⟨j, c, e⟩ := mem_owns.mp h
  by_cases z : j = i
  · subst z
    have hlt : j < ρ.length := by simpa using (List.getElem?_eq_some_iff.mp e).1
    rw [List.getElem?_set_self hlt] at e
    cases e
    exact .inr rfl
  · rw [List.getElem?_set_ne (Ne.symm z)] at e
    exact .inl (mem_owns.mpr ⟨j, c, e⟩)
section
variable {K : PySem.W.Frag} {q : Bool} {ρ : Env} {σ : St} {F H : Hp} {i : Nat}
theorem Ok.slot (ok : Ok K σ F H ρ) {s : Sl} {v : V} (r : RsOk K F H s v) (hs : ∀ a c, s = .o a c → ∀ j c', j ≠ i → ρ[j]? ≠ some (some (.o a c'))) : Ok K (σ.set i (some v)) F H (ρ.set i (some s)) := by
  have gt : ∀ (j : Nat) (x : Sl), (ρ.set i (some s))[j]? = some (some x) → (j = i ∧ j < ρ.length ∧ x = s) ∨ (j ≠ i ∧ ρ[j]? = some (some x)) := fun j x e => by
    by_cases z : j = i
    · subst z
      have hlt : j < ρ.length := by simpa using (List.getElem?_eq_some_iff.mp e).1
      rw [List.getElem?_set_self hlt] at e
      cases e
      exact .inl ⟨rfl, hlt, rfl⟩
    · rw [List.getElem?_set_ne (Ne.symm z)] at e
      exact .inr ⟨z, e⟩
  refine ⟨ok.sub, by simpa using ok.len, fun j x e => ?_, nodup_of_inj fun j j' a c c' e e' => ?_⟩
  · rcases gt j x e with ⟨rfl, h1, rfl⟩ | ⟨z, e⟩
    · exact ⟨v, by rw [List.getElem?_set_self (by rw [← ok.len]; exact h1)], r⟩
    · obtain ⟨u, h1, h2⟩ := ok.at_ j x e
      exact ⟨u, by rw [List.getElem?_set_ne (Ne.symm z)]; exact h1, h2⟩
  · rcases gt j _ e with ⟨h1, _, h2⟩ | ⟨z, e⟩
    · rcases gt j' _ e' with ⟨h1', _, _⟩ | ⟨z', e'⟩
      · rw [h1, h1']
      · exact (hs a c h2.symm j' c' z' e').elim
    · rcases gt j' _ e' with ⟨h1', _, h2'⟩ | ⟨z', e'⟩
      · exact (hs a c' h2'.symm j c z e).elim
      · exact owns_inj ok.nd e e'
theorem Ok.setv (ok : Ok K σ F H ρ) {d : D} {v : V} (r : Rep K F d v) : Ok K (σ.set i (some v)) F H (ρ.set i (some (.v d))) := ok.slot (s := .v d) r fun _ _ z => nomatch z
theorem Ok.seto (ok : Ok K σ F H ρ) {a : Addr} {c : O} {v : V} (r : RsOk K F H (.o a c) v) (n : a ∉ owns ρ) : Ok K (σ.set i (some v)) F H (ρ.set i (some (.o a c))) := ok.slot (s := .o a c) r fun b c' z j c2 _ e => by
  cases z
  exact n (mem_owns.mpr ⟨j, _, e⟩)
theorem owns_setv {d : D} {a : Addr} (h : a ∈ owns (ρ.set i (some (.v d)))) : a ∈ owns ρ := (owns_set_sub h).elim id fun z => by simp [ownA] at z
theorem Ok.setn (ok : Ok K σ F H ρ) : Ok K σ F H (ρ.set i none) := by
  refine ⟨ok.sub, by simpa using ok.len, fun j x e => ?_, nodup_of_inj fun j j' a c c' e e' => ?_⟩
  · by_cases z : j = i
    · subst z
      have hlt : j < ρ.length := by simpa using (List.getElem?_eq_some_iff.mp e).1
      rw [List.getElem?_set_self hlt] at e; cases e
    · rw [List.getElem?_set_ne (Ne.symm z)] at e; exact ok.at_ j x e
  · have g : ∀ (j : Nat) (x : Sl), (ρ.set i none)[j]? = some (some x) → ρ[j]? = some (some x) := fun j x e => by
      by_cases z : j = i
      · subst z
        have hlt : j < ρ.length := by simpa using (List.getElem?_eq_some_iff.mp e).1
        rw [List.getElem?_set_self hlt] at e; cases e
      · rw [List.getElem?_set_ne (Ne.symm z)] at e; exact e
    exact owns_inj ok.nd (g _ _ e) (g _ _ e')
/-- the thing of a slot is changed -/
theorem Ok.mut (ok : Ok K σ F H ρ) {a : Addr} {c c' : O} {o : HO} (h : ρ[i]? = some (some (.o a c))) (r : OwnAt K F (upd H a o) a c') :
    Ok K σ F (upd H a o) (ρ.set i (some (.o a c'))) ∧ Step ρ F H (ρ.set i (some (.o a c'))) F (upd H a o) := by
  obtain ⟨v, h1, rfl, h2, h3⟩ := ok.at_ i _ h
  have ha : a ∈ owns ρ := mem_owns.mpr ⟨i, c, h⟩
  have hlt : i < ρ.length := (List.getElem?_eq_some_iff.mp h).1
  have gt : ∀ (j : Nat) (x : Sl), (ρ.set i (some (.o a c')))[j]? = some (some x) → (j = i ∧ x = .o a c') ∨ (j ≠ i ∧ ρ[j]? = some (some x)) := fun j x e => by
    by_cases z : j = i
    · subst z
      rw [List.getElem?_set_self hlt] at e
      cases e
      exact .inl ⟨rfl, rfl⟩
    · rw [List.getElem?_set_ne (Ne.symm z)] at e
      exact .inr ⟨z, e⟩
  refine ⟨⟨fun b u e => ?_, by simpa using ok.len, fun j x e => ?_, nodup_of_inj fun j j' b c1 c2 e e' => ?_⟩, ⟨Same.refl _, fun b u e m => ?_, fun _ _ e => .inl e, fun b m => ?_⟩⟩
  · have hb : b ≠ a := fun z => by subst z; rw [h2] at e; cases e
    rw [upd_ne hb]; exact ok.sub _ _ e
  · rcases gt j x e with ⟨rfl, rfl⟩ | ⟨z, e9⟩
    · exact ⟨_, h1, rfl, h2, r⟩
    · obtain ⟨u, h4, h5⟩ := ok.at_ j x e9
      refine ⟨u, h4, ?_⟩
      cases x with
      | v d => exact h5
      | o b c2 =>
        obtain ⟨rfl, h6, h7⟩ := h5
        have hb : b ≠ a := fun y => by subst y; exact z (owns_inj ok.nd e9 h)
        exact ⟨rfl, h6, h7.mono (Same.refl _) fun o e => by rw [upd_ne hb]; exact e⟩
  · rcases gt j _ e with ⟨y, h6⟩ | ⟨z, e8⟩
    · rcases gt j' _ e' with ⟨y', _⟩ | ⟨z', e9⟩
      · rw [y, y']
      · cases h6; exact (z' (owns_inj ok.nd e9 h)).elim
    · rcases gt j' _ e' with ⟨y', h6⟩ | ⟨z', e9⟩
      · cases h6; exact (z (owns_inj ok.nd e8 h)).elim
      · exact owns_inj ok.nd e8 e9
  · have hb : b ≠ a := fun z => by subst z; exact m ha
    rw [upd_ne hb]; exact e
  · rcases owns_set_sub m with z | z
    · exact .inl z
    · simp [ownA] at z; subst z; exact .inl ha
/-- a new thing is laid, and is owned -/
theorem lay (ok : Ok K σ F H ρ) {p : Addr} {o : HO} {c : O} (n : H p = none) (r : OwnAt K F (upd H p o) p c) : Ok K σ F (upd H p o) ρ ∧ Step ρ F H ρ F (upd H p o) ∧ RsOk K F (upd H p o) (.o p c) (.ref p) ∧ p ∉ owns ρ := by
  have s := same_upd (o := o) n
  have fn : F p = none := by
    cases z : F p with
    | none => rfl
    | some u => rw [ok.sub _ _ z] at n; cases n
  refine ⟨ok.grow (Same.refl _) s (ok.sub.trans s) fun a u e => .inl e, Step.grow (Same.refl _) s fun a u e => .inl e, ⟨rfl, fn, r⟩, fun m => ?_⟩
  obtain ⟨_, u, e⟩ := ok.own m
  rw [n] at e; cases e
/-- a new thing is laid, and is frozen -/
theorem layF (ok : Ok K σ F H ρ) {p : Addr} {o : HO} (n : H p = none) : Ok K σ (upd F p o) (upd H p o) ρ ∧ Step ρ F H ρ (upd F p o) (upd H p o) ∧ Same F (upd F p o) := by
  have s := same_upd (o := o) n
  have fn : F p = none := by
    cases z : F p with
    | none => rfl
    | some u => rw [ok.sub _ _ z] at n; cases n
  have nn : ∀ a u, upd F p o a = some u → F a = some u ∨ H a = none := fun a u e => by
    by_cases z : a = p
    · subst z; exact .inr n
    · rw [upd_ne z] at e; exact .inl e
  exact ⟨ok.grow (same_upd fn) s (same_upd2 ok.sub) nn, Step.grow (same_upd fn) s nn, same_upd fn⟩

/-! ### targets -/
theorem gt_name {w : Option (List Nat)} {d : D} {Ψ : Env → Prop} (hw : ∀ l, w = some l → i ∈ l) (k : Ψ (ρ.set i (some (.v d)))) : gt K w (gName i) d ρ Ψ := fun σ F H v Q ok r c => by
  refine c _ _ (ok.setv r) (fun a m => owns_setv m) (fun l e => ?_) k
  have hi := hw l e
  clear hw e c k
  induction l with
  | nil => cases hi
  | cons j l ih =>
    show (wipe _ l).set j none = (wipe _ l).set j none
    by_cases z : i ∈ l
    · rw [ih z]
    · have : i = j := by
        rcases List.mem_cons.mp hi with y | y
        · exact y
        · exact (z y).elim
      subst this
      have : ∀ (l : List Nat), i ∉ l → wipe (σ.set i (some v)) l = (wipe σ l).set i (some v) := fun l => by
        induction l with
        | nil => intro _; rfl
        | cons j l ih =>
          intro hn
          show (wipe _ l).set j none = ((wipe σ l).set j none).set i _
          rw [ih (fun y => hn (List.mem_cons_of_mem _ y)), List.set_comm _ _ (fun y => hn (by rw [y]; exact List.mem_cons_self))]
      rw [this l z, List.set_set]
theorem gts_nil {w : Option (List Nat)} {Ψ : Env → Prop} (k : Ψ ρ) : gts K w gNil [] ρ Ψ := fun σ F H vs Q ok r c => by
  cases r
  exact ⟨rfl, c _ _ ok (fun _ m => m) (fun _ _ => rfl) k⟩
theorem gts_cons {w : Option (List Nat)} {g : TG} {gs : TGs} {d : D} {ds : List D} {Ψ : Env → Prop} (k : gt K w g d ρ fun ρ1 => gts K w gs ds ρ1 Ψ) : gts K w (gCons g gs) (d :: ds) ρ Ψ := fun σ F H vs Q ok r c => by
  cases r with
  | cons a b =>
    refine ⟨_, _, rfl, k σ F H _ _ ok a fun σ1 ρ1 ok1 n1 w1 k1 => ?_⟩
    exact k1 σ1 F H _ _ ok1 b fun σ2 ρ2 ok2 n2 w2 k2 => c _ _ ok2 (fun a m => n1 a (n2 a m)) (fun l e => (w2 l e).trans (w1 l e)) k2
theorem gt_tup {w : Option (List Nat)} {n : Nat} {gs : TGs} {ds : List D} {Ψ : Env → Prop} (hl : ds.length = n) (k : gts K w gs ds ρ Ψ) : gt K w (gTup K n gs) (.tup ds) ρ Ψ := fun σ F H v Q ok r c => by
  cases r with
  | tup h r => exact ⟨_, _, rfl, SqT.of (ok.sub _ _ h), by rw [← r.length]; exact hl, k σ F H _ _ ok r c⟩

/-! ### statements -/
variable {E : En} {t u : TS}
theorem ex_seq (h : ex K t ρ { E with nx := fun ρ' => ex K u ρ' E }) : ex K (tSeq t u) ρ E := fun σ F H D ok g =>
  h σ F H { D with nx := u D } ok ⟨fun σ' F' H' ρ' ok' st k => k σ' F' H' D ok' (g.step st), g.rt, g.bk, g.ct⟩
theorem ex_next (k : E.nx ρ) : ex K tNext ρ E := fun σ F H D ok g => g.nx σ F H ρ ok (Step.refl _ _ _) k
theorem ex_break (k : E.bk ρ) : ex K tBreak ρ E := fun σ F H D ok g => g.bk σ F H ρ ok (Step.refl _ _ _) k
theorem ex_cont (k : E.ct ρ) : ex K tCont ρ E := fun σ F H D ok g => g.ct σ F H ρ ok (Step.refl _ _ _) k
theorem ex_never (k : False) : ex K tNever ρ E := k.elim
theorem ex_drop {te : TE} (h : ev K q te ρ fun _ ρ1 => E.nx ρ1) : ex K (tDrop te) ρ E := fun σ F H D ok g =>
  h σ F H _ ok fun d v F1 H1 ρ1 ok1 r st _ k => g.nx σ F1 H1 ρ1 ok1 st k
theorem ex_asg {te : TE} {g : TG} (h : ev K q te ρ fun d ρ1 => gt K none g d ρ1 E.nx) : ex K (tAsg te g) ρ E := fun σ F H D ok gg =>
  h σ F H _ ok fun d v F1 H1 ρ1 ok1 r st _ k => k σ F1 H1 v _ ok1 r fun σ2 ρ2 ok2 n2 _ k2 => gg.nx σ2 F1 H1 ρ2 ok2 (st.trans (Step.env n2)) k2
theorem ex_set {te : TE} (h : ev K q te ρ fun d ρ1 => E.nx (ρ1.set i (some (.v d)))) : ex K (tAsg te (gName i)) ρ E := ex_asg (h.imp fun d ρ1 k => gt_name (fun _ z => nomatch z) k)
theorem ex_setO {te : TE} (h : evo K te ρ fun a c ρ1 => E.nx (ρ1.set i (some (.o a c)))) : ex K (tAsg te (gName i)) ρ E := fun σ F H D ok g =>
  h σ F H _ ok fun a c F1 H1 ρ1 ok1 r st n m k => g.nx _ F1 H1 _ (ok1.seto r m) ⟨st.f, st.h, st.n, fun b hb => by
    rcases owns_set_sub hb with z | z
    · exact st.w b z
    · simp [ownA] at z; subst z; exact n⟩ k
theorem ex_if {tc : TT} (h : et K q tc ρ fun b ρ1 => (b = true → ex K t ρ1 E) ∧ (b = false → ex K u ρ1 E)) : ex K (tIfS tc t u) ρ E := fun σ F H D ok g => by
  refine h σ F H _ ok fun b F1 H1 ρ1 ok1 st _ ⟨k1, k2⟩ => ?_
  cases b with
  | true => rw [if_pos rfl]; exact k1 rfl σ F1 H1 D ok1 (g.step st)
  | false => rw [if_neg Bool.false_ne_true]; exact k2 rfl σ F1 H1 D ok1 (g.step st)
theorem ex_ret {te : TE} (h : ev K q te ρ fun d ρ1 => E.rt (.v d) ρ1) : ex K (tRet te) ρ E := fun σ F H D ok g =>
  h σ F H _ ok fun d v F1 H1 ρ1 ok1 r st _ k => g.rt (.v d) v σ F1 H1 ρ1 ok1 r (fun _ _ z => nomatch z) st k
theorem ex_retO {te : TE} (h : evo K te ρ fun a c ρ1 => E.rt (.o a c) ρ1) : ex K (tRet te) ρ E := fun σ F H D ok g =>
  h σ F H _ ok fun a c F1 H1 ρ1 ok1 r st n m k => g.rt (.o a c) _ σ F1 H1 ρ1 ok1 r (fun _ _ z => by cases z; exact ⟨n, m⟩) st k
theorem ex_retS {a : Addr} {c : O} (h : ρ[i]? = some (some (.o a c))) (k : E.rt (.o a c) (ρ.set i none)) : ex K (tRet (tVar i)) ρ E := fun σ F H D ok g => by
  obtain ⟨v, e, r⟩ := ok.at_ i _ h
  have hlt : i < ρ.length := (List.getElem?_eq_some_iff.mp h).1
  refine ⟨v, e, g.rt (.o a c) v σ F H _ ok.setn r (fun _ _ z => ?_) (Step.env fun b m => (owns_set_sub m).elim id fun z => by simp [ownA] at z) k⟩
  cases z
  refine ⟨.inl (mem_owns.mpr ⟨i, c, h⟩), fun m => ?_⟩
  obtain ⟨j, c', e'⟩ := mem_owns.mp m
  by_cases z : j = i
  · subst z; rw [List.getElem?_set_self hlt] at e'; cases e'
  · rw [List.getElem?_set_ne (Ne.symm z)] at e'
    exact z (owns_inj ok.nd e' h)
theorem ex_retN (k : E.rt (.v .non) ρ) : ex K tRetN ρ E := fun σ F H D ok g => g.rt (.v .non) .non σ F H ρ ok .non (fun _ _ z => nomatch z) (Step.refl _ _ _) k
theorem ex_frz {a : Addr} {c : O} (h : ρ[i]? = some (some (.o a c))) (k : ex K t (ρ.set i (some (.v c.d))) E) : ex K t ρ E := fun σ F H D ok g => by
  obtain ⟨F1, ok1, st⟩ := freezeS ok h
  exact k σ F1 H D ok1 (g.step st)
theorem ex_par {j : Nat} {ta : TA} (h : evd K q ta ρ fun ds ρ1 => ∃ d e, ds = [d, e] ∧ E.nx ((ρ1.set i (some (.v d))).set j (some (.v e)))) : ex K (tPar i j ta) ρ E := fun σ F H D ok g =>
  h σ F H _ ok fun ds vs F1 H1 ρ1 ok1 r st _ ⟨d, e, z, k⟩ => by
    subst z
    cases r with
    | cons r1 r => cases r with
      | cons r2 r =>
        cases r
        exact ⟨_, _, rfl, g.nx _ F1 H1 _ ((ok1.setv r1).setv r2) (st.trans (Step.env fun a m => owns_setv (owns_setv m))) k⟩
/-- two new owned things -/
theorem ex_parO {j : Nat} {t1 t2 : TE} (h : evo K t1 ρ fun a c ρ1 => evo K t2 ρ1 fun b c' ρ2 => ρ2 = ρ1 ∧ (a ≠ b → a ∉ owns ρ2 → b ∉ owns ρ2 → E.nx ((ρ2.set i (some (.o a c))).set j (some (.o b c'))))) : ex K (tPar i j (tCons t1 (tCons t2 tNil))) ρ E := fun σ F H D ok g =>
  h σ F H _ ok fun a c F1 H1 ρ1 ok1 r1 st1 n1 m1 k1 => k1 σ F1 H1 _ ok1 fun b c' F2 H2 ρ2 ok2 r2 st2 n2 m2 ⟨er, k⟩ => by
    subst er
    have r1' := st2.free r1 m1
    have ne : a ≠ b := fun z => by
      subst z
      obtain ⟨_, _, q1⟩ := r1
      obtain ⟨o, e⟩ := q1.there
      rcases n2 with y | y
      · exact m1 y
      · rw [e] at y; cases y
    refine ⟨_, _, rfl, g.nx _ F2 H2 _ ((ok2.seto r1' m1).seto r2 fun m => ?_) ?_ (k ne m1 m2)⟩
    · rcases owns_set_sub m with z | z
      · exact m2 z
      · simp [ownA] at z; exact ne z
    · refine ⟨(st1.trans st2).f, (st1.trans st2).h, (st1.trans st2).n, fun x m => ?_⟩
      rcases owns_set_sub m with z | z
      · rcases owns_set_sub z with y | y
        · exact (st1.trans st2).w x y
        · simp [ownA] at y; subst y; exact n1
      · simp [ownA] at z; subst z; exact st1.new n2

/-! ### loops -/
theorem ex_for {wi : TI} {g : TG} {tb : TS} (h : ei K wi ρ fun ds ρ1 => ∃ I : Nat → Env → Prop, I 0 ρ1 ∧
      (∀ k d ρ', ds[k]? = some d → I k ρ' → gt K none g d ρ' fun ρ2 => ex K tb ρ2 { nx := I (k + 1), rt := E.rt, bk := E.nx, ct := I (k + 1) }) ∧ ∀ ρ', I ds.length ρ' → E.nx ρ') : ex K (tFor wi g tb) ρ E := fun σ F H D ok gg => by
  refine h σ F H _ ok fun J ds G F1 H1 ρ1 ok1 st1 it g1 ⟨I, h0, hs, hd⟩ => ?_
  refine ⟨fun i m σ' H' => m = ds.length - i ∧ i ≤ ds.length ∧ ∃ F' ρ', Ok K σ' F' H' ρ' ∧ Step ρ F H ρ' F' H' ∧ G F' ∧ I i ρ', ⟨ds.length, by simp, Nat.zero_le _, F1, ρ1, ok1, st1, g1, h0⟩, ?_⟩
  rintro i m σ' H' ⟨rfl, hi, F', ρ', ok', st', g', h'⟩
  by_cases hlt : i < ds.length
  · have hd' : ds[i]? = some ds[i] := by simp [hlt]
    refine .inr ⟨it.go i _ F' H' hd' ok'.sub g', fun σ2 H2 => ∃ F2 ρ2, Ok K σ2 F2 H2 ρ2 ∧ Step ρ F H ρ2 F2 H2 ∧ G F2 ∧ I (i + 1) ρ2, fun σ2 H2 ⟨F2, ρ2, a, b, c, d⟩ => ⟨ds.length - (i + 1), by omega, rfl, hlt, F2, ρ2, a, b, c, d⟩, fun x H2 y => ?_⟩
    obtain ⟨F2, e1, e2, e3, e4, e5⟩ := it.yld i _ F' H' x H2 hd' ok'.sub g' y
    have ok2 := ok'.grow e1 e2 e3 e4
    have st2 : Step ρ' F' H' ρ' F2 H2 := Step.grow e1 e2 e4
    refine hs i _ ρ' hd' h' σ' F2 H2 x _ ok2 e5 fun σ3 ρ3 ok3 n3 _ k3 => ?_
    have st3 : Step ρ F H ρ3 F2 H2 := (st'.trans st2).trans (Step.env n3)
    have g3 := it.mono _ _ e1 g'
    refine k3 σ3 F2 H2 _ ok3 ⟨fun σ4 F4 H4 ρ4 ok4 st4 k4 => ⟨F4, ρ4, ok4, st3.trans st4, it.mono _ _ st4.f g3, k4⟩, fun s v σ4 F4 H4 ρ4 ok4 r4 n4 st4 k4 => (gg.step st3).rt s v σ4 F4 H4 ρ4 ok4 r4 n4 st4 k4, fun σ4 F4 H4 ρ4 ok4 st4 k4 => (gg.step st3).nx σ4 F4 H4 ρ4 ok4 st4 k4,
      fun σ4 F4 H4 ρ4 ok4 st4 k4 => ⟨F4, ρ4, ok4, st3.trans st4, it.mono _ _ st4.f g3, k4⟩⟩
  · have e : i = ds.length := by omega
    subst e
    exact .inl ⟨it.stop F' H' ok'.sub g', gg.nx σ' F' H' ρ' ok' st' (hd ρ' h')⟩
theorem ex_while {tc : TT} {tb : TS} (I : Env → Prop) (μ : Env → Nat) (h0 : I ρ)
    (h : ∀ ρ', I ρ' → et K false tc ρ' fun b ρ1 => (b = true → ex K tb ρ1 { nx := fun ρ2 => I ρ2 ∧ μ ρ2 < μ ρ', rt := E.rt, bk := E.nx, ct := fun ρ2 => I ρ2 ∧ μ ρ2 < μ ρ' }) ∧ (b = false → E.nx ρ1)) : ex K (tWhile tc tb) ρ E := fun σ F H D ok gg => by
  refine ⟨fun m σ' H' => ∃ F' ρ', m = μ ρ' ∧ Ok K σ' F' H' ρ' ∧ Step ρ F H ρ' F' H' ∧ I ρ', ⟨_, F, ρ, rfl, ok, Step.refl _ _ _, h0⟩, ?_⟩
  rintro m σ' H' ⟨F', ρ', rfl, ok', st', h'⟩
  refine h ρ' h' σ' F' H' _ ok' fun b F1 H1 ρ1 ok1 st1 _ ⟨k1, k2⟩ => ?_
  cases b with
  | true =>
    rw [if_pos rfl]
    refine ⟨fun σ2 H2 => ∃ F2 ρ2, Ok K σ2 F2 H2 ρ2 ∧ Step ρ F H ρ2 F2 H2 ∧ I ρ2 ∧ μ ρ2 < μ ρ', fun σ2 H2 ⟨F2, ρ2, a, b, c, d⟩ => ⟨μ ρ2, d, F2, ρ2, rfl, a, b, c⟩, ?_⟩
    have st := st'.trans st1
    exact k1 rfl σ' F1 H1 _ ok1 ⟨fun σ4 F4 H4 ρ4 ok4 st4 k4 => ⟨F4, ρ4, ok4, st.trans st4, k4.1, k4.2⟩, (gg.step st).rt, (gg.step st).nx, fun σ4 F4 H4 ρ4 ok4 st4 k4 => ⟨F4, ρ4, ok4, st.trans st4, k4.1, k4.2⟩⟩
  | false =>
    rw [if_neg Bool.false_ne_true]
    exact gg.nx σ' F1 H1 ρ1 ok1 (st'.trans st1) (k2 rfl)
end
end Fw

set_option Elab.async false
set_option linter.all false
set_option maxRecDepth 100000
namespace Fw
open PySem L2

def D.ls : D → Option (List D)
  | .lst ds => some ds
  | .fls ds => some ds
  | _ => none
def D.sq : D → Option (List D)
  | .lst ds => some ds
  | .fls ds => some ds
  | .tup ds => some ds
  | _ => none
@[simp] theorem D.ls_lst {ds} : (D.lst ds).ls = some ds := rfl
@[simp] theorem D.sq_lst {ds} : (D.lst ds).sq = some ds := rfl
@[simp] theorem D.sq_tup {ds} : (D.tup ds).sq = some ds := rfl

section
variable {K : PySem.W.Frag} {q : Bool} {ρ : Env} {σ : St} {F H : Hp} {i : Nat}
theorem rep_ls {d : D} {ds : List D} {v : V} (h : d.ls = some ds) (r : Rep K F d v) : ∃ a vs, v = .ref a ∧ SqL K F a vs ∧ RepL K F ds vs := by
  cases r <;> simp only [D.ls, Option.some.injEq, reduceCtorEq] at h
  · subst h; rename_i a vs ds' h1 h2; exact ⟨_, _, rfl, SqL.of h1, h2⟩
  · subst h; rename_i a vs ds' h1 h2; exact ⟨_, _, rfl, h1, h2⟩
theorem rep_sq {d : D} {ds : List D} {v : V} (h : d.sq = some ds) (r : Rep K F d v) : ∃ a vs, v = .ref a ∧ (SqL K F a vs ∨ SqT K F a vs) ∧ RepL K F ds vs := by
  cases r <;> simp only [D.sq, Option.some.injEq, reduceCtorEq] at h
  · subst h; rename_i a vs ds' h1 h2; exact ⟨_, _, rfl, .inl (SqL.of h1), h2⟩
  · subst h; rename_i a vs ds' h1 h2; exact ⟨_, _, rfl, .inr (SqT.of h1), h2⟩
  · subst h; rename_i a vs ds' h1 h2; exact ⟨_, _, rfl, .inl h1, h2⟩
/-- borrowed: the items are frozen -/
theorem brep_ls (ok : Ok K σ F H ρ) {d : D} {ds : List D} {v : V} (h : d.ls = some ds) (r : BRep K F ρ d v) : ∃ a vs, v = .ref a ∧ SqL K H a vs ∧ RepL K F ds vs := by
  rcases r with r | ⟨j, a, c, e, rfl, rfl⟩
  · obtain ⟨a, vs, e, h1, h2⟩ := rep_ls h r
    exact ⟨a, vs, e, ok.sub.seq h1, h2⟩
  · obtain ⟨w, h1, rfl, h2, h3⟩ := ok.at_ j _ e
    cases c with
    | lst xs =>
      obtain ⟨vs, h4, h5⟩ := h3
      simp [O.d, D.ls] at h; subst h
      exact ⟨_, _, rfl, SqL.of h4, h5⟩
    | dct xs => simp [O.d, D.ls] at h
theorem brep_sq (ok : Ok K σ F H ρ) {d : D} {ds : List D} {v : V} (h : d.sq = some ds) (r : BRep K F ρ d v) : ∃ a vs, v = .ref a ∧ (SqL K H a vs ∨ SqT K H a vs) ∧ RepL K F ds vs := by
  rcases r with r | ⟨j, a, c, e, rfl, rfl⟩
  · obtain ⟨a, vs, e, h1, h2⟩ := rep_sq h r
    exact ⟨a, vs, e, h1.imp (fun z => ok.sub.seq z) (fun z => sqT_same ok.sub z), h2⟩
  · obtain ⟨w, h1, rfl, h2, h3⟩ := ok.at_ j _ e
    cases c with
    | lst xs =>
      obtain ⟨vs, h4, h5⟩ := h3
      simp [O.d, D.sq] at h; subst h
      exact ⟨_, _, rfl, .inl (SqL.of h4), h5⟩
    | dct xs => simp [O.d, D.sq] at h
theorem brep_dct (ok : Ok K σ F H ρ) {kvs : List (Key × D)} {v : V} (r : BRep K F ρ (.dct kvs) v) : ∃ a ws, v = .ref a ∧ H a = some (.dK ws) ∧ RepK K F kvs ws := by
  rcases r with r | ⟨j, a, c, e, rfl, h⟩
  · cases r with
    | dct h1 h2 => exact ⟨_, _, rfl, ok.sub _ _ h1, h2⟩
  · obtain ⟨w, h1, rfl, h2, h3⟩ := ok.at_ j _ e
    cases c with
    | lst xs => simp [O.d] at h
    | dct xs =>
      obtain ⟨vs, h4, h5⟩ := h3
      simp [O.d] at h; subst h
      exact ⟨_, _, rfl, h4, h5⟩

/-! ### len, an item, sums -/
abbrev rLenS (K : PySem.W.Frag) : List V → Hp → VK → Prop := fun xs H Q => ∃ p ys, xs = [.ref p] ∧ (SqL K H p ys ∨ SqT K H p ys) ∧ Q (.int ys.length) H
theorem c_len {X : Cx} : CallR X (.builtin "len") (rLenS X.K) := call_len_seq
/-- one borrowed argument to a built-in -/
theorem ev_cb {r : List V → Hp → VK → Prop} {te : TE} {Φ : D → Env → Prop}
    (h : evb K q te ρ fun d ρ1 => ∃ f : D, (∀ (σ : St) (F H : Hp) (v : V) (Q : VK), Ok K σ F H ρ1 → BRep K F ρ1 d v → (∀ z, Rep K F f z → Q z H) → r [v] H Q) ∧ Φ f ρ1) : ev K q (tCB r (tCons te tNil)) ρ Φ := fun σ F H Q ok c => by
  refine h σ F H _ ok fun d v F1 H1 ρ1 ok1 b1 s1 q1 ⟨f, hr, k⟩ => ?_
  exact hr σ F1 H1 v Q ok1 b1 fun z rz => c f z F1 H1 ρ1 ok1 rz s1 q1 k
theorem ev_len {te : TE} {Φ : D → Env → Prop} (h : evb K q te ρ fun d ρ1 => ∃ ds, d.sq = some ds ∧ Φ (.int ds.length) ρ1) : ev K q (tCB (rLenS K) (tCons te tNil)) ρ Φ :=
  ev_cb (h.imp fun d ρ1 ⟨ds, e, k⟩ => ⟨_, fun σ F H v Q ok b c => by
    obtain ⟨a, vs, rfl, h1, h2⟩ := brep_sq ok e b
    exact ⟨a, vs, rfl, h1, c _ (by rw [← h2.length]; exact .int _)⟩, k⟩)
theorem ev_sum {te : TE} {Φ : D → Env → Prop} (h : evb K q te ρ fun d ρ1 => ∃ ns : List Int, d.ls = some (ns.map .int) ∧ Φ (.int ns.sum) ρ1) : ev K q (tCB (rSum K) (tCons te tNil)) ρ Φ :=
  ev_cb (h.imp fun d ρ1 ⟨ns, e, k⟩ => ⟨_, fun σ F H v Q ok b c => by
    obtain ⟨a, vs, rfl, h1, h2⟩ := brep_ls ok e b
    rw [h2.ints] at h1
    exact ⟨a, ns, rfl, h1, c _ (.int _)⟩, k⟩)
theorem ev_all {te : TE} {Φ : D → Env → Prop} (h : evb K q te ρ fun d ρ1 => ∃ ns : List Bool, d.ls = some (ns.map .bl) ∧ Φ (.bl (ns.all id)) ρ1) : ev K q (tCB (rAll K) (tCons te tNil)) ρ Φ :=
  ev_cb (h.imp fun d ρ1 ⟨ns, e, k⟩ => ⟨_, fun σ F H v Q ok b c => by
    obtain ⟨a, vs, rfl, h1, h2⟩ := brep_ls ok e b
    rw [h2.bls] at h1
    exact ⟨a, ns, rfl, h1, c _ (.bl _)⟩, k⟩)
theorem ev_any {te : TE} {Φ : D → Env → Prop} (h : evb K q te ρ fun d ρ1 => ∃ ns : List Bool, d.ls = some (ns.map .bl) ∧ Φ (.bl (ns.any id)) ρ1) : ev K q (tCB (rAny K) (tCons te tNil)) ρ Φ :=
  ev_cb (h.imp fun d ρ1 ⟨ns, e, k⟩ => ⟨_, fun σ F H v Q ok b c => by
    obtain ⟨a, vs, rfl, h1, h2⟩ := brep_ls ok e b
    rw [h2.bls] at h1
    exact ⟨a, ns, rfl, h1, c _ (.bl _)⟩, k⟩)
theorem ev_max {te : TE} {Φ : D → Env → Prop} (h : evb K q te ρ fun d ρ1 => ∃ ns : List Int, d.ls = some (ns.map .int) ∧ 0 < ns.length ∧ ∀ m, m ∈ ns → (∀ y ∈ ns, y ≤ m) → Φ (.int m) ρ1) : ev K q (tCB (rMax K) (tCons te tNil)) ρ Φ := fun σ F H Q ok c => by
  refine h σ F H _ ok fun d v F1 H1 ρ1 ok1 b1 s1 q1 ⟨ns, e, hn, k⟩ => ?_
  obtain ⟨a, vs, rfl, h1, h2⟩ := brep_ls ok1 e b1
  rw [h2.ints] at h1
  exact ⟨a, ns, rfl, h1, hn, fun m h3 h4 => c _ _ F1 H1 ρ1 ok1 (.int m) s1 q1 (k m h3 h4)⟩
theorem ev_min {te : TE} {Φ : D → Env → Prop} (h : evb K q te ρ fun d ρ1 => ∃ ns : List Int, d.ls = some (ns.map .int) ∧ 0 < ns.length ∧ ∀ m, m ∈ ns → (∀ y ∈ ns, m ≤ y) → Φ (.int m) ρ1) : ev K q (tCB (rMin K) (tCons te tNil)) ρ Φ := fun σ F H Q ok c => by
  refine h σ F H _ ok fun d v F1 H1 ρ1 ok1 b1 s1 q1 ⟨ns, e, hn, k⟩ => ?_
  obtain ⟨a, vs, rfl, h1, h2⟩ := brep_ls ok1 e b1
  rw [h2.ints] at h1
  exact ⟨a, ns, rfl, h1, hn, fun m h3 h4 => c _ _ F1 H1 ρ1 ok1 (.int m) s1 q1 (k m h3 h4)⟩
theorem atI_rep {ds : List D} {vs : List V} {k : Int} {e : D} (r : RepL K F ds vs) (h : atI ds k = some e) : ∃ v, atI vs k = some v ∧ Rep K F e v := by
  unfold atI at h ⊢
  rw [r.length] at h
  cases z : ixN vs.length k with
  | none => rw [z] at h; cases h
  | some j =>
    rw [z] at h
    obtain ⟨v, h1, h2⟩ := r.get h
    exact ⟨v, h1, h2⟩
/-- xs[k], the index quiet -/
theorem ev_ix {ta tb : TE} {Φ : D → Env → Prop} (h : evb K q ta ρ fun d ρ1 => evI K true tb ρ1 fun k ρ2 => ∃ ds e, d.sq = some ds ∧ atI ds k = some e ∧ Φ e ρ1) : ev K q (tOp (rIx K) ta tb) ρ Φ := fun σ F H Q ok c => by
  refine h σ F H _ ok fun d v F1 H1 ρ1 ok1 b1 s1 q1 h1 => ?_
  refine h1 σ F1 H1 _ ok1 fun e w F2 H2 ρ2 ok2 r2 s2 q2 ⟨k, er, ds, e', h2, h3, kk⟩ => ?_
  obtain ⟨rfl, rfl, rfl⟩ := q2 rfl
  subst er; cases r2
  obtain ⟨a, vs, rfl, h4, h5⟩ := brep_sq ok1 h2 b1
  obtain ⟨u, h6, h7⟩ := atI_rep h5 h3
  rcases h4 with h4 | h4
  · exact .inl ⟨a, vs, k, u, rfl, rfl, h4, h6, c _ _ _ _ _ ok1 h7 s1 q1 kk⟩
  · exact .inr (.inl ⟨a, vs, k, u, rfl, rfl, h4, h6, c _ _ _ _ _ ok1 h7 s1 q1 kk⟩)
/-- xs[k], xs frozen -/
theorem ev_ixV {ta tb : TE} {Φ : D → Env → Prop} (h : ev K q ta ρ fun d ρ1 => evI K q tb ρ1 fun k ρ2 => ∃ ds e, d.sq = some ds ∧ atI ds k = some e ∧ Φ e ρ2) : ev K q (tOp (rIx K) ta tb) ρ Φ := fun σ F H Q ok c => by
  refine h σ F H _ ok fun d v F1 H1 ρ1 ok1 b1 s1 q1 h1 => ?_
  refine h1 σ F1 H1 _ ok1 fun e w F2 H2 ρ2 ok2 r2 s2 q2 ⟨k, er, ds, e', h2, h3, kk⟩ => ?_
  subst er; cases r2
  obtain ⟨a, vs, rfl, h4, h5⟩ := brep_sq ok2 h2 (.inl (Rep.mono s2.f b1))
  obtain ⟨u, h6, h7⟩ := atI_rep h5 h3
  rcases h4 with h4 | h4
  · exact .inl ⟨a, vs, k, u, rfl, rfl, h4, h6, c _ _ _ _ _ ok2 h7 (s1.trans s2) (q1.trans q2) kk⟩
  · exact .inr (.inl ⟨a, vs, k, u, rfl, rfl, h4, h6, c _ _ _ _ _ ok2 h7 (s1.trans s2) (q1.trans q2) kk⟩)

/-! ### what is new -/
theorem evo_lst {ta : TA} {Φ : Addr → O → Env → Prop} (h : evd K q ta ρ fun ds ρ1 => ds.length ≤ sizeLine ∧ ∀ a, a ∉ owns ρ1 → Φ a (.lst ds) ρ1) : evo K (tLst ta) ρ Φ := fun σ F H Q ok c =>
  h σ F H _ ok fun ds vs F1 H1 ρ1 ok1 r1 s1 _ ⟨hl, k⟩ => ⟨by rw [← r1.length]; exact hl, fun p hp => by
    obtain ⟨ok2, s2, r2, n2⟩ := lay (o := .lst vs) (c := .lst ds) ok1 hp ⟨vs, upd_same, r1⟩
    exact c p _ F1 _ ρ1 ok2 r2 (s1.trans s2) (s1.new (.inr hp)) n2 (k p n2)⟩
theorem evo_dnew {Φ : Addr → O → Env → Prop} (k : ∀ a, a ∉ owns ρ → Φ a (.dct []) ρ) : evo K tDNewK ρ Φ := fun σ F H Q ok c p hp => by
  obtain ⟨ok2, s2, r2, n2⟩ := lay (o := .dK []) (c := .dct []) ok hp ⟨[], upd_same, .nil⟩
  exact c p _ F _ ρ ok2 r2 s2 (.inr hp) n2 (k p n2)
theorem ev_tup {ta : TA} {Φ : D → Env → Prop} (h : evd K false ta ρ fun ds ρ1 => ds.length ≤ sizeLine ∧ Φ (.tup ds) ρ1) : ev K false (tTup ta) ρ Φ := fun σ F H Q ok c =>
  h σ F H _ ok fun ds vs F1 H1 ρ1 ok1 r1 s1 _ ⟨hl, k⟩ => ⟨by rw [← r1.length]; exact hl, fun p hp => by
    obtain ⟨ok2, s2, s3⟩ := layF (o := .tup vs) ok1 hp
    exact c _ _ _ _ ρ1 ok2 (.tup upd_same (RepL.mono s3 r1)) (s1.trans s2) (fun z => nomatch z) k⟩
abbrev rListOf (K : PySem.W.Frag) : List V → Hp → VK → Prop := fun xs H Q => ∃ p ys, xs = [.ref p] ∧ (SqL K H p ys ∨ SqT K H p ys) ∧ ∀ l, H l = none → Q (.ref l) (upd H l (.lst ys))
theorem c_list {X : Cx} : CallR X (.type "list") (rListOf X.K) := call_list_of
theorem evo_list {te : TE} {Φ : Addr → O → Env → Prop} (h : evb K q te ρ fun d ρ1 => ∃ ds, d.sq = some ds ∧ ∀ a, a ∉ owns ρ1 → Φ a (.lst ds) ρ1) : evo K (tCB (rListOf K) (tCons te tNil)) ρ Φ := fun σ F H Q ok c =>
  h σ F H _ ok fun d v F1 H1 ρ1 ok1 b1 s1 _ ⟨ds, e, k⟩ => by
    obtain ⟨a, vs, rfl, h1, h2⟩ := brep_sq ok1 e b1
    refine ⟨a, vs, rfl, h1, fun p hp => ?_⟩
    obtain ⟨ok2, s2, r2, n2⟩ := lay (o := .lst vs) (c := .lst ds) ok1 hp ⟨vs, upd_same, h2⟩
    exact c p _ F1 _ ρ1 ok2 r2 (s1.trans s2) (s1.new (.inr hp)) n2 (k p n2)
/-- the parts of a slice -/
def eo (K : PySem.W.Frag) (q : Bool) (to : TO) (ρ : Env) (Φ : Option Int → Env → Prop) : Prop :=
  ∀ (σ : St) (F H : Hp) (Q : Option Int → Hp → Prop), Ok K σ F H ρ → (∀ o F' H' ρ', Ok K σ F' H' ρ' → Step ρ F H ρ' F' H' → Qt q ρ F H ρ' F' H' → Φ o ρ' → Q o H') → to σ H Q
theorem eo_none {Φ : Option Int → Env → Prop} (k : Φ none ρ) : eo K q tNoPart ρ Φ := fun σ F H Q ok c => c none F H ρ ok (Step.refl _ _ _) (Qt.refl _ _ _ _) k
theorem eo_some {te : TE} {Φ : Option Int → Env → Prop} (h : evI K q te ρ fun i ρ1 => Φ (some i) ρ1) : eo K q (tPart te) ρ Φ := fun σ F H Q ok c =>
  h σ F H _ ok fun d v F1 H1 ρ1 ok1 r s1 q1 ⟨i, e, k⟩ => by subst e; cases r; exact ⟨i, rfl, c _ F1 H1 ρ1 ok1 s1 q1 k⟩
def cutD (xs : List D) (lo hi : Option Int) : List D := (xs.drop (HT.sIx xs.length 0 lo)).take (HT.sIx xs.length xs.length hi - HT.sIx xs.length 0 lo)
/-- xs[a:b], the bounds quiet -/
theorem evo_slice {te : TE} {tl th : TO} {Φ : Addr → O → Env → Prop} (h : evb K q te ρ fun d ρ1 => eo K true tl ρ1 fun lo ρ2 => eo K true th ρ1 fun hi ρ3 => ∃ ds, d.ls = some ds ∧ ∀ a, a ∉ owns ρ1 → Φ a (.lst (cutD ds lo hi)) ρ1) : evo K (tSl (rSlL K) te tl th) ρ Φ := fun σ F H Q ok c => by
  refine h σ F H _ ok fun d v F1 H1 ρ1 ok1 b1 s1 _ h1 => ?_
  refine h1 σ F1 H1 _ ok1 fun lo F2 H2 ρ2 ok2 s2 q2 h2 => ?_
  obtain ⟨rfl, rfl, rfl⟩ := q2 rfl
  refine h2 σ _ _ _ ok1 fun hi F3 H3 ρ3 ok3 s3 q3 ⟨ds, e, k⟩ => ?_
  obtain ⟨rfl, rfl, rfl⟩ := q3 rfl
  obtain ⟨a, vs, rfl, h4, h5⟩ := brep_ls ok1 e b1
  refine ⟨a, vs, rfl, h4, fun p hp => ?_⟩
  have hc : RepL K F3 (cutD ds lo hi) (cutV vs lo hi) := by
    unfold cutD cutV
    rw [h5.length]
    exact (h5.drop _).take _
  obtain ⟨ok2, s2, r2, n2⟩ := lay (o := .lst (cutV vs lo hi)) (c := .lst (cutD ds lo hi)) ok1 hp ⟨_, upd_same, hc⟩
  exact c p _ _ _ _ ok2 r2 (s1.trans s2) (s1.new (.inr hp)) n2 (k p n2)
theorem brep_lst (ok : Ok K σ F H ρ) {ds : List D} {v : V} (r : BRep K F ρ (.lst ds) v) : ∃ a vs, v = .ref a ∧ H a = some (.lst vs) ∧ RepL K F ds vs := by
  rcases r with r | ⟨j, a, c, e, rfl, h⟩
  · cases r with
    | lst h1 h2 => exact ⟨_, _, rfl, ok.sub _ _ h1, h2⟩
  · obtain ⟨w, h1, rfl, h2, h3⟩ := ok.at_ j _ e
    cases c with
    | lst xs =>
      obtain ⟨vs, h4, h5⟩ := h3
      simp [O.d] at h; subst h
      exact ⟨_, _, rfl, h4, h5⟩
    | dct xs => simp [O.d] at h
/-- xs + ys -/
theorem evo_cat {ta tb : TE} {Φ : Addr → O → Env → Prop} (h : evb K q ta ρ fun d ρ1 => evb K q tb ρ1 fun e ρ2 => ρ2 = ρ1 ∧ ∃ xs ys, d = .lst xs ∧ e = .lst ys ∧ xs.length + ys.length ≤ sizeLine ∧ ∀ a, a ∉ owns ρ2 → Φ a (.lst (xs ++ ys)) ρ2) : evo K (tOp rCat ta tb) ρ Φ := fun σ F H Q ok c => by
  refine h σ F H _ ok fun d v F1 H1 ρ1 ok1 b1 s1 _ h1 => ?_
  refine h1 σ F1 H1 _ ok1 fun e w F2 H2 ρ2 ok2 b2 s2 _ ⟨er, xs, ys, e1, e2, hl, k⟩ => ?_
  subst er e1 e2
  obtain ⟨a, vs, rfl, h3, h4⟩ := brep_lst ok2 (b1.step s2.f)
  obtain ⟨b, ws, rfl, h5, h6⟩ := brep_lst ok2 b2
  refine ⟨a, b, vs, ws, rfl, rfl, h3, h5, by rw [← h4.length, ← h6.length]; exact hl, fun p hp => ?_⟩
  obtain ⟨ok3, s3, r3, n3⟩ := lay (o := .lst (vs ++ ws)) (c := .lst (xs ++ ys)) ok2 hp ⟨_, upd_same, h4.append h6⟩
  exact c p _ _ _ _ ok3 r3 ((s1.trans s2).trans s3) ((s1.trans s2).new (.inr hp)) n3 (k p n3)
/-- xs + ys, both frozen -/
theorem evo_catV {ta tb : TE} {Φ : Addr → O → Env → Prop} (h : ev K q ta ρ fun d ρ1 => ev K q tb ρ1 fun e ρ2 => ∃ xs ys, d = .lst xs ∧ e = .lst ys ∧ xs.length + ys.length ≤ sizeLine ∧ ∀ a, a ∉ owns ρ2 → Φ a (.lst (xs ++ ys)) ρ2) : evo K (tOp rCat ta tb) ρ Φ := fun σ F H Q ok c => by
  refine h σ F H _ ok fun d v F1 H1 ρ1 ok1 b1 s1 _ h1 => ?_
  refine h1 σ F1 H1 _ ok1 fun e w F2 H2 ρ2 ok2 b2 s2 _ ⟨xs, ys, e1, e2, hl, k⟩ => ?_
  subst e1 e2
  obtain ⟨a, vs, rfl, h3, h4⟩ := brep_lst ok2 (.inl (Rep.mono s2.f b1))
  obtain ⟨b, ws, rfl, h5, h6⟩ := brep_lst ok2 (.inl b2)
  refine ⟨a, b, vs, ws, rfl, rfl, h3, h5, by rw [← h4.length, ← h6.length]; exact hl, fun p hp => ?_⟩
  obtain ⟨ok3, s3, r3, n3⟩ := lay (o := .lst (vs ++ ws)) (c := .lst (xs ++ ys)) ok2 hp ⟨_, upd_same, h4.append h6⟩
  exact c p _ _ _ _ ok3 r3 ((s1.trans s2).trans s3) ((s1.trans s2).new (.inr hp)) n3 (k p n3)
theorem RepL.rep {ds : List D} {vs : List V} (r : RepL K F ds vs) : ∀ k : Nat, RepL K F (List.replicate k ds).flatten (List.replicate k vs).flatten
  | 0 => .nil
  | k + 1 => by
    rw [List.replicate_succ, List.replicate_succ, List.flatten_cons, List.flatten_cons]
    exact r.append (RepL.rep r k)
/-- xs * k -/
theorem evo_rep {ta tb : TE} {Φ : Addr → O → Env → Prop} (h : ev K q ta ρ fun d ρ1 => evI K q tb ρ1 fun k ρ2 => ∃ xs, d = .lst xs ∧ -(2 ^ 63) ≤ k ∧ k < 2 ^ 63 ∧ xs.length * k.toNat ≤ sizeLine ∧ ∀ a, a ∉ owns ρ2 → Φ a (.lst (List.replicate k.toNat xs).flatten) ρ2) : evo K (tOp rRep ta tb) ρ Φ := fun σ F H Q ok c => by
  refine h σ F H _ ok fun d v F1 H1 ρ1 ok1 b1 s1 _ h1 => ?_
  refine h1 σ F1 H1 _ ok1 fun e w F2 H2 ρ2 ok2 b2 s2 _ ⟨k, e2, xs, e1, k1, k2, hl, kk⟩ => ?_
  subst e1 e2
  cases b2
  obtain ⟨a, vs, rfl, h3, h4⟩ := brep_lst ok2 (.inl (Rep.mono s2.f b1))
  refine ⟨a, k, vs, rfl, rfl, h3, k1, k2, by rw [← h4.length]; exact hl, fun p hp => ?_⟩
  obtain ⟨ok3, s3, r3, n3⟩ := lay (o := .lst (List.replicate k.toNat vs).flatten) (c := .lst (List.replicate k.toNat xs).flatten) ok2 hp ⟨_, upd_same, h4.rep _⟩
  exact c p _ _ _ _ ok3 r3 ((s1.trans s2).trans s3) ((s1.trans s2).new (.inr hp)) n3 (kk p n3)
/-- sorted(xs), ints -/
theorem evo_sortedI {te : TE} {Φ : Addr → O → Env → Prop} (h : evb K q te ρ fun d ρ1 => ∃ ns : List Int, d.ls = some (ns.map .int) ∧ ∀ (a : Addr) (ms : List Int), a ∉ owns ρ1 → ms.Perm ns → ms.Pairwise (· ≤ ·) → Φ a (.lst (ms.map .int)) ρ1) : evo K (tCB (rSortedI K) (tCons te tNil)) ρ Φ := fun σ F H Q ok c =>
  h σ F H _ ok fun d v F1 H1 ρ1 ok1 b1 s1 _ ⟨ns, e, k⟩ => by
    obtain ⟨a, vs, rfl, h1, h2⟩ := brep_ls ok1 e b1
    rw [h2.ints] at h1
    refine ⟨a, ns, rfl, h1, fun ms p hm hs hp => ?_⟩
    obtain ⟨ok2, s2, r2, n2⟩ := lay (o := .lst (ms.map V.int)) (c := .lst (ms.map D.int)) ok1 hp ⟨_, upd_same, .of_ints ms⟩
    exact c p _ F1 _ ρ1 ok2 r2 (s1.trans s2) (s1.new (.inr hp)) n2 (k p ms n2 hm hs)

/-! ### what a loop walks -/
theorem it_list {a : Addr} {vs : List V} {ds : List D} : ItOk K (Itl K a) ds fun F => SqL K F a vs ∧ RepL K F ds vs where
  mono := fun F F' s ⟨h1, h2⟩ => ⟨s.seq h1, RepL.mono s h2⟩
  go := fun i d F H e s ⟨h1, h2⟩ => by
    obtain ⟨v, e1, _⟩ := h2.get e
    exact ⟨vs, v, s.seq h1, e1⟩
  yld := fun i d F H x H' e s ⟨h1, h2⟩ ⟨y1, y2⟩ => by
    subst y1
    obtain ⟨v, e1, r⟩ := h2.get e
    have e2 := y2 vs (s.seq h1)
    rw [e1] at e2; cases e2
    exact ⟨F, Same.refl _, Same.refl _, s, fun a o z => .inl z, r⟩
  stop := fun F H s ⟨h1, h2⟩ => ⟨vs, s.seq h1, by rw [h2.length]; exact Nat.le_refl _⟩
theorem it_tup {a : Addr} {vs : List V} {ds : List D} : ItOk K (Itt K a) ds fun F => SqT K F a vs ∧ RepL K F ds vs where
  mono := fun F F' s ⟨h1, h2⟩ => ⟨sqT_same s h1, RepL.mono s h2⟩
  go := fun i d F H e s ⟨h1, h2⟩ => by
    obtain ⟨v, e1, _⟩ := h2.get e
    exact ⟨vs, v, sqT_same s h1, e1⟩
  yld := fun i d F H x H' e s ⟨h1, h2⟩ ⟨y1, y2⟩ => by
    subst y1
    obtain ⟨v, e1, r⟩ := h2.get e
    have e2 := y2 vs (sqT_same s h1)
    rw [e1] at e2; cases e2
    exact ⟨F, Same.refl _, Same.refl _, s, fun a o z => .inl z, r⟩
  stop := fun F H s ⟨h1, h2⟩ => ⟨vs, sqT_same s h1, by rw [h2.length]; exact Nat.le_refl _⟩
theorem ei_list {te : TE} {Φ : List D → Env → Prop} (h : ev K q te ρ fun d ρ1 => ∃ ds, d.ls = some ds ∧ Φ ds ρ1) : ei K (iList K te) ρ Φ := fun σ F H R ok c =>
  h σ F H _ ok fun d v F1 H1 ρ1 ok1 r s1 _ ⟨ds, e, k⟩ => by
    obtain ⟨a, vs, rfl, h1, h2⟩ := rep_ls e r
    exact ⟨a, rfl, ⟨vs, ok1.sub.seq h1⟩, c _ ds _ F1 H1 ρ1 ok1 s1 it_list ⟨h1, h2⟩ k⟩
theorem ei_tup {te : TE} {Φ : List D → Env → Prop} (h : ev K q te ρ fun d ρ1 => ∃ ds, d = .tup ds ∧ Φ ds ρ1) : ei K (iTup K te) ρ Φ := fun σ F H R ok c =>
  h σ F H _ ok fun d v F1 H1 ρ1 ok1 r s1 _ ⟨ds, e, k⟩ => by
    subst e
    cases r with
    | tup h1 h2 => exact ⟨_, rfl, ⟨_, SqT.of (ok1.sub _ _ h1)⟩, c _ ds _ F1 H1 ρ1 ok1 s1 it_tup ⟨SqT.of h1, h2⟩ k⟩
def rangeD (lo : Int) (n : Nat) : List D := (List.range n).map fun (i : Nat) => D.int (lo + (i : Int))
@[simp] theorem rangeD_len {lo : Int} {n : Nat} : (rangeD lo n).length = n := by simp [rangeD]
theorem rangeD_get {lo : Int} {n i : Nat} {d : D} (h : (rangeD lo n)[i]? = some d) : i < n ∧ d = .int (lo + i) := by
  unfold rangeD at h
  rw [List.getElem?_map] at h
  cases e : (List.range n)[i]? with
  | none => rw [e] at h; simp at h
  | some j =>
    rw [e] at h
    obtain ⟨h1, h2⟩ := List.getElem?_eq_some_iff.mp e
    simp at h1 h2 h
    subst h2
    exact ⟨h1, h.symm⟩
theorem it_range {lo : Int} {n : Nat} : ItOk K (Itr lo n) (rangeD lo n) fun _ => True where
  mono := fun _ _ _ _ => trivial
  go := fun i d F H e _ _ => (rangeD_get e).1
  yld := fun i d F H x H' e s _ ⟨y1, y2⟩ => by
    subst y1 y2
    obtain ⟨_, rfl⟩ := rangeD_get e
    exact ⟨F, Same.refl _, Same.refl _, s, fun a o z => .inl z, .int _⟩
  stop := fun F H _ _ => by show n ≤ (rangeD lo n).length; simp
theorem ei_range1 {ta : TA} {Φ : List D → Env → Prop} (h : evd K q ta ρ fun ds ρ1 => ∃ j : Int, ds = [.int j] ∧ -(2 ^ 62) ≤ j ∧ j < 2 ^ 62 ∧ Φ (rangeD 0 j.toNat) ρ1) : ei K (iRng1 ta) ρ Φ := fun σ F H R ok c =>
  h σ F H _ ok fun ds vs F1 H1 ρ1 ok1 r s1 _ ⟨j, e, h1, h2, k⟩ => by
    subst e
    cases r with
    | cons a b =>
      cases a; cases b
      exact ⟨j, rfl, h1, h2, c _ _ _ F1 H1 ρ1 ok1 s1 it_range trivial k⟩
theorem ei_range2 {ta : TA} {Φ : List D → Env → Prop} (h : evd K q ta ρ fun ds ρ1 => ∃ i j : Int, ds = [.int i, .int j] ∧ (-(2 ^ 62) ≤ i ∧ i < 2 ^ 62 ∧ -(2 ^ 62) ≤ j ∧ j < 2 ^ 62) ∧ Φ (rangeD i (j - i).toNat) ρ1) : ei K (iRng2 ta) ρ Φ := fun σ F H R ok c =>
  h σ F H _ ok fun ds vs F1 H1 ρ1 ok1 r s1 _ ⟨i, j, e, h1, k⟩ => by
    subst e
    cases r with
    | cons a b =>
      cases b with
      | cons b r =>
        cases a; cases b; cases r
        exact ⟨i, j, rfl, h1, c _ _ _ F1 H1 ρ1 ok1 s1 it_range trivial k⟩
/-- a new pair at a new place -/
theorem yld_new {F H : Hp} {T : Addr} {d e : D} {x y : V} (s : Same F H) (n : H T = none) (r1 : Rep K F d x) (r2 : Rep K F e y) :
    ∃ F', Same F F' ∧ Same H (upd H T (.tup [x, y])) ∧ Same F' (upd H T (.tup [x, y])) ∧ (∀ a o, F' a = some o → F a = some o ∨ H a = none) ∧ Rep K F' (.tup [d, e]) (.ref T) := by
  have fn : F T = none := by
    cases z : F T with
    | none => rfl
    | some u => rw [s _ _ z] at n; cases n
  refine ⟨upd F T (.tup [x, y]), same_upd fn, same_upd n, same_upd2 s, fun a u e => ?_, .tup upd_same (.cons (Rep.mono (same_upd fn) r1) (.cons (Rep.mono (same_upd fn) r2) .nil))⟩
  by_cases z : a = T
  · subst z; exact .inr n
  · rw [upd_ne z] at e; exact .inl e
def enumD (ds : List D) : List D := ds.mapIdx fun i d => .tup [.int (i : Nat), d]
@[simp] theorem enumD_len {ds : List D} : (enumD ds).length = ds.length := by simp [enumD]
theorem enumD_get {ds : List D} {i : Nat} {e : D} (h : (enumD ds)[i]? = some e) : ∃ d, ds[i]? = some d ∧ e = .tup [.int (i : Nat), d] := by
  unfold enumD at h
  rw [List.getElem?_mapIdx] at h
  cases z : ds[i]? with
  | none => rw [z] at h; simp at h
  | some d => rw [z] at h; simp at h; exact ⟨d, rfl, h.symm⟩
theorem it_enum {a : Addr} {vs : List V} {ds : List D} : ItOk K (Ite K a) (enumD ds) fun F => SqL K F a vs ∧ RepL K F ds vs where
  mono := fun F F' s ⟨h1, h2⟩ => ⟨s.seq h1, RepL.mono s h2⟩
  go := fun i d F H e s ⟨h1, h2⟩ => by
    obtain ⟨d', e1, _⟩ := enumD_get e
    obtain ⟨v, e2, _⟩ := h2.get e1
    exact ⟨vs, v, s.seq h1, e2⟩
  yld := fun i d F H x H' e s ⟨h1, h2⟩ ⟨T, y, y1, y2, y3, y4⟩ => by
    subst y1 y3
    obtain ⟨d', e1, rfl⟩ := enumD_get e
    obtain ⟨v, e2, r⟩ := h2.get e1
    have e3 := y4 vs (s.seq h1)
    rw [e2] at e3; cases e3
    exact yld_new s y2 (.int _) r
  stop := fun F H s ⟨h1, h2⟩ => ⟨vs, s.seq h1, by rw [enumD_len, h2.length]; exact Nat.le_refl _⟩
theorem ei_enum {ta : TA} {Φ : List D → Env → Prop} (h : evd K q ta ρ fun ds ρ1 => ∃ d xs, ds = [d] ∧ d.ls = some xs ∧ Φ (enumD xs) ρ1) : ei K (iEnum K ta) ρ Φ := fun σ F H R ok c =>
  h σ F H _ ok fun ds vs F1 H1 ρ1 ok1 r s1 _ ⟨d, xs, e, e1, k⟩ => by
    subst e
    cases r with
    | cons a b =>
      cases b
      obtain ⟨p, vs, rfl, h1, h2⟩ := rep_ls e1 a
      exact ⟨p, vs, rfl, ok1.sub.seq h1, c _ _ _ F1 H1 ρ1 ok1 s1 it_enum ⟨h1, h2⟩ k⟩
def zipD (ds es : List D) : List D := ds.zipWith (fun d e => .tup [d, e]) es
theorem zipD_get {ds es : List D} {i : Nat} {e : D} (h : (zipD ds es)[i]? = some e) : ∃ x y, ds[i]? = some x ∧ es[i]? = some y ∧ e = .tup [x, y] := by
  unfold zipD at h
  rw [List.getElem?_zipWith] at h
  cases z : ds[i]? with
  | none => rw [z] at h; simp at h
  | some d =>
    cases z2 : es[i]? with
    | none => rw [z, z2] at h; simp at h
    | some d2 => rw [z, z2] at h; simp at h; exact ⟨d, d2, rfl, rfl, h.symm⟩
theorem it_zip {a b : Addr} {vs ws : List V} {ds es : List D} : ItOk K (Itz K a b) (zipD ds es) fun F => (SqL K F a vs ∧ RepL K F ds vs) ∧ SqL K F b ws ∧ RepL K F es ws where
  mono := fun F F' s ⟨⟨h1, h2⟩, h3, h4⟩ => ⟨⟨s.seq h1, RepL.mono s h2⟩, s.seq h3, RepL.mono s h4⟩
  go := fun i d F H e s ⟨⟨h1, h2⟩, h3, h4⟩ => by
    obtain ⟨x, y, e1, e2, _⟩ := zipD_get e
    obtain ⟨v, e3, _⟩ := h2.get e1
    obtain ⟨w, e4, _⟩ := h4.get e2
    exact ⟨vs, ws, v, w, s.seq h1, s.seq h3, e3, e4⟩
  yld := fun i d F H x H' e s ⟨⟨h1, h2⟩, h3, h4⟩ ⟨T, y, z, y1, y2, y3, y4, y5⟩ => by
    subst y1 y3
    obtain ⟨d1, d2, e1, e2, rfl⟩ := zipD_get e
    obtain ⟨v, e3, r1⟩ := h2.get e1
    obtain ⟨w, e4, r2⟩ := h4.get e2
    have e5 := y4 vs (s.seq h1)
    rw [e3] at e5; cases e5
    have e6 := y5 ws (s.seq h3)
    rw [e4] at e6; cases e6
    exact yld_new s y2 r1 r2
  stop := fun F H s ⟨⟨h1, h2⟩, h3, h4⟩ => ⟨vs, ws, s.seq h1, s.seq h3, by
    have : (zipD ds es).length = min ds.length es.length := by simp [zipD]
    rw [this, h2.length, h4.length]
    omega⟩
theorem ei_zip {ta : TA} {Φ : List D → Env → Prop} (h : evd K q ta ρ fun ds ρ1 => ∃ d e xs ys, ds = [d, e] ∧ d.ls = some xs ∧ e.ls = some ys ∧ Φ (zipD xs ys) ρ1) : ei K (iZip K ta) ρ Φ := fun σ F H R ok c =>
  h σ F H _ ok fun ds vs F1 H1 ρ1 ok1 r s1 _ ⟨d, e, xs, ys, e1, e2, e3, k⟩ => by
    subst e1
    cases r with
    | cons a b =>
      cases b with
      | cons b r =>
        cases r
        obtain ⟨p, vs, rfl, h1, h2⟩ := rep_ls e2 a
        obtain ⟨p2, vs2, rfl, h3, h4⟩ := rep_ls e3 b
        exact ⟨p, p2, vs, vs2, rfl, ok1.sub.seq h1, ok1.sub.seq h3, c _ _ _ F1 H1 ρ1 ok1 s1 it_zip ⟨⟨h1, h2⟩, h3, h4⟩ k⟩
end
end Fw

set_option Elab.async false
set_option linter.all false
set_option maxRecDepth 100000
namespace Fw
open PySem L2
section
variable {K : PySem.W.Frag} {q : Bool} {ρ : Env} {σ : St} {F H : Hp} {i : Nat}
/-! ### a comprehension -/
def wipeE (ρ : Env) : List Nat → Env
  | [] => ρ
  | v :: vs => (wipeE ρ vs).set v none
theorem Ok.wipe (ok : Ok K σ F H ρ) : ∀ vs : List Nat, Ok K (L2.wipe σ vs) F H (wipeE ρ vs)
  | [] => ok
  | v :: vs => by
    have := (Ok.wipe ok vs).setn (i := v)
    refine ⟨this.sub, by simpa [wipeE, L2.wipe] using this.len, fun j s e => ?_, this.nd⟩
    obtain ⟨w, h1, h2⟩ := this.at_ j s e
    refine ⟨w, ?_, h2⟩
    show ((L2.wipe σ vs).set v none)[j]? = _
    by_cases z : j = v
    · subst z
      have e : ((wipeE ρ vs).set j none)[j]? = some (some s) := e
      have hlt : j < (wipeE ρ vs).length := by simpa using (List.getElem?_eq_some_iff.mp e).1
      rw [List.getElem?_set_self hlt] at e; cases e
    · rw [List.getElem?_set_ne (Ne.symm z)]; exact h1
theorem wipe_in {σ : St} {j : Nat} : ∀ {vs : List Nat}, j ∈ vs → j < σ.length → (L2.wipe σ vs)[j]? = some none
  | [], h, _ => by cases h
  | v :: vs, h, hl => by
    show ((L2.wipe σ vs).set v none)[j]? = _
    by_cases e : j = v
    · subst e; rw [List.getElem?_set_self (by rw [wipe_length]; exact hl)]
    · rw [List.getElem?_set_ne (Ne.symm e)]
      exact wipe_in ((List.mem_cons.mp h).resolve_left e) hl
theorem wipe_wipe (σ : St) (vs : List Nat) : L2.wipe (L2.wipe σ vs) vs = L2.wipe σ vs := by
  apply List.ext_getElem?
  intro j
  by_cases h : j ∈ vs
  · by_cases hl : j < σ.length
    · rw [wipe_in h (by rw [wipe_length]; exact hl), wipe_in h hl]
    · rw [List.getElem?_eq_none (by rw [wipe_length, wipe_length]; omega), List.getElem?_eq_none (by rw [wipe_length]; omega)]
  · rw [wipe_out h]
/-- the environment within a comprehension is ahead of its own names: the slots vs are let go -/
theorem owns_wipe : ∀ (vs : List Nat) {a : Addr}, a ∈ owns (wipeE ρ vs) → a ∈ owns ρ
  | [], _, h => h
  | v :: vs, a, h => by
    rcases owns_set_sub (ρ := wipeE ρ vs) h with z | z
    · exact owns_wipe vs z
    · simp [ownA] at z
/-- [elt for target in iter if test], nothing but frozen data are changed: the elements are f of the items -/
theorem evo_lc {wi : TI} {g : TG} {tt : TT} {te : TE} {vs : List Nat} {Φ : Addr → O → Env → Prop}
    (h : ei K wi ρ fun ds ρ1 => ds.length ≤ sizeLine ∧ ∃ I : Nat → List D → Env → Prop, I 0 [] ρ1 ∧
      (∀ k acc d ρ', ds[k]? = some d → I k acc ρ' → acc.length ≤ k → gt K (some vs) g d (wipeE ρ' vs) fun ρ2 => et K false tt ρ2 fun b ρ3 =>
        (b = true → ev K false te ρ3 fun e ρ4 => ∃ ρ5, (∀ j s, ρ5[j]? = some (some s) → (j ∉ vs ∧ ρ4[j]? = some (some s)) ∨ (j ∈ vs ∧ ∃ d, s = .v d ∧ ρ'[j]? = some (some s))) ∧ ρ5.length = ρ'.length ∧ I (k + 1) (acc ++ [e]) ρ5) ∧
        (b = false → ∃ ρ5, (∀ j s, ρ5[j]? = some (some s) → (j ∉ vs ∧ ρ3[j]? = some (some s)) ∨ (j ∈ vs ∧ ∃ d, s = .v d ∧ ρ'[j]? = some (some s))) ∧ ρ5.length = ρ'.length ∧ I (k + 1) acc ρ5)) ∧
      ∀ acc ρ', I ds.length acc ρ' → ∀ a, a ∉ owns ρ' → Φ a (.lst acc) ρ') : evo K (tLc wi g tt te vs) ρ Φ := fun σ F H Q ok c => by
  refine h σ F H _ ok fun J ds G F1 H1 ρ1 ok1 st1 it g1 ⟨hz, I, h0, hs, hd⟩ => ?_
  intro A hA
  refine ⟨fun i m H' => m = ds.length - i ∧ i ≤ ds.length ∧ ∃ F' ρ' acc, Ok K σ F' H' ρ' ∧ Step ρ F H ρ' F' H' ∧ G F' ∧ RsOk K F' H' (.o A (.lst acc)) (.ref A) ∧ A ∉ owns ρ' ∧ acc.length ≤ i ∧ I i acc ρ', ⟨ds.length, ?_⟩, ?_⟩
  · obtain ⟨ok2, s2, r2, n2⟩ := lay (o := .lst []) (c := .lst []) ok1 hA ⟨[], upd_same, .nil⟩
    exact ⟨by simp, Nat.zero_le _, F1, ρ1, [], ok2, st1.trans s2, g1, r2, n2, Nat.le_refl _, h0⟩
  rintro i m H' ⟨rfl, hi, F', ρ', acc, ok', st', g', rA, nA, hl, h'⟩
  by_cases hlt : i < ds.length
  · have hd' : ds[i]? = some ds[i] := by simp [hlt]
    refine .inr ⟨it.go i _ F' H' hd' ok'.sub g', fun H2 => ∃ F2 ρ2 acc, Ok K σ F2 H2 ρ2 ∧ Step ρ F H ρ2 F2 H2 ∧ G F2 ∧ RsOk K F2 H2 (.o A (.lst acc)) (.ref A) ∧ A ∉ owns ρ2 ∧ acc.length ≤ i + 1 ∧ I (i + 1) acc ρ2, fun H2 ⟨F2, ρ2, acc, a, b, c, d, e, f, g⟩ => ⟨ds.length - (i + 1), by omega, rfl, hlt, F2, ρ2, acc, a, b, c, d, e, f, g⟩, fun x H2 y => ?_⟩
    obtain ⟨F2, e1, e2, e3, e4, e5⟩ := it.yld i _ F' H' x H2 hd' ok'.sub g' y
    have ok2 := ok'.grow e1 e2 e3 e4
    have st2 : Step ρ' F' H' ρ' F2 H2 := Step.grow e1 e2 e4
    have rA2 := st2.free rA nA
    have okw := ok2.wipe vs
    have nw : A ∉ owns (wipeE ρ' vs) := fun z => nA (owns_wipe vs z)
    refine hs i acc _ ρ' hd' h' hl _ F2 H2 x _ okw e5 fun σ3 ρ3 ok3 n3 w3 k3 => ?_
    refine ⟨(w3 vs rfl).trans (wipe_wipe σ vs), ?_⟩
    have n3A : A ∉ owns ρ3 := fun z => nw (n3 A z)
    refine k3 σ3 F2 H2 _ ok3 fun b F4 H4 ρ4 ok4 st4 _ ⟨kT, kF⟩ => ?_
    have rA4 := st4.free rA2 n3A
    have n4A : A ∉ owns ρ4 := fun z => by
      rcases st4.w A z with y | y
      · exact n3A y
      · obtain ⟨_, _, vs', hv, _⟩ := rA2
        rw [hv] at y; cases y
    -- back in the def's own environment
    have back : ∀ {F5 H5 : Hp} {ρ5 ρr : Env}, Ok K σ3 F5 H5 ρ5 → Step ρ3 F2 H2 ρ5 F5 H5 → (∀ j s, ρr[j]? = some (some s) → (j ∉ vs ∧ ρ5[j]? = some (some s)) ∨ (j ∈ vs ∧ ∃ d, s = .v d ∧ ρ'[j]? = some (some s))) → ρr.length = ρ'.length →
        Ok K σ F5 H5 ρr ∧ Step ρ F H ρr F5 H5 := fun {F5 H5 ρ5 ρr} ok5 st5 hr hlen => by
      have own : ∀ a, a ∈ owns ρr → a ∈ owns ρ5 := fun a m => by
        obtain ⟨j, c, e⟩ := mem_owns.mp m
        rcases hr j _ e with ⟨_, z⟩ | ⟨_, d, z, _⟩
        · exact mem_owns.mpr ⟨j, c, z⟩
        · cases z
      refine ⟨⟨ok5.sub, hlen.trans ok'.len, fun j s e => ?_, nodup_of_inj fun j j' a c c' e e' => ?_⟩, ?_⟩
      · rcases hr j s e with ⟨hj, z⟩ | ⟨hj, d, rfl, z⟩
        · obtain ⟨v, h1, h2⟩ := ok5.at_ j s z
          refine ⟨v, ?_, h2⟩
          have w := w3 vs rfl
          have : (L2.wipe σ3 vs)[j]? = (L2.wipe (L2.wipe σ vs) vs)[j]? := by rw [w]
          rw [wipe_out hj, wipe_out hj, wipe_out hj] at this
          rw [← this]; exact h1
        · obtain ⟨v, h1, h2⟩ := ok2.at_ j _ z
          exact ⟨v, h1, Rep.mono st5.f h2⟩
      · rcases hr j _ e with ⟨_, z⟩ | ⟨_, d, z, _⟩
        · rcases hr j' _ e' with ⟨_, z'⟩ | ⟨_, d, z', _⟩
          · exact owns_inj ok5.nd z z'
          · cases z'
        · cases z
      · have sA : Step ρ F H (wipeE ρ' vs) F2 H2 := (st'.trans st2).trans (Step.env fun a m => owns_wipe vs m)
        have sB : Step ρ F H ρ5 F5 H5 := sA.trans ((Step.env n3).trans st5)
        exact sB.trans (Step.env own)
    cases b with
    | true =>
      rw [if_pos rfl]
      refine kT rfl σ3 F4 H4 _ ok4 fun e v F5 H5 ρ5 ok5 r5 st5 _ ⟨ρr, hr, hlen, kI⟩ => ?_
      have rA5 := st5.free rA4 n4A
      obtain ⟨_, fA, xs, hx, rx⟩ := rA5
      have n5A : A ∉ owns ρ5 := fun z => by
        rcases st5.w A z with y | y
        · exact n4A y
        · obtain ⟨_, _, vs', hv, _⟩ := rA4
          rw [hv] at y; cases y
      obtain ⟨okr, str⟩ := back ok5 (st4.trans st5) hr hlen
      have nrA : A ∉ owns ρr := fun m => by
        obtain ⟨j, c, e⟩ := mem_owns.mp m
        rcases hr j _ e with ⟨_, z⟩ | ⟨_, d, z, _⟩
        · exact n5A (mem_owns.mpr ⟨j, c, z⟩)
        · cases z
      refine ⟨xs, hx, by rw [← rx.length]; omega, F5, ρr, acc ++ [e], ?_, ?_, it.mono _ _ ((e1.trans st4.f).trans st5.f) g', ⟨rfl, fA, _, upd_same, rx.append (.cons r5 .nil)⟩, nrA, by simp; omega, kI⟩
      · refine ⟨fun b u hb => ?_, okr.len, fun j s es => ?_, okr.nd⟩
        · have hb' : b ≠ A := fun z => by subst z; rw [fA] at hb; cases hb
          rw [upd_ne hb']; exact okr.sub _ _ hb
        · obtain ⟨v, h1, h2⟩ := okr.at_ j s es
          refine ⟨v, h1, ?_⟩
          cases s with
          | v d => exact h2
          | o b c =>
            obtain ⟨h3, h4, h5⟩ := h2
            have hb' : b ≠ A := fun z => by subst z; exact nrA (mem_owns.mpr ⟨j, c, es⟩)
            exact ⟨h3, h4, h5.mono (Same.refl _) fun o e => by rw [upd_ne hb']; exact e⟩
      · refine ⟨str.f, fun b u hb m => ?_, str.n, str.w⟩
        have hb' : b ≠ A := fun z => by
          subst z
          rcases st1.new (.inr hA) with y | y
          · exact m y
          · rw [y] at hb; cases hb
        rw [upd_ne hb']; exact str.h b u hb m
    | false =>
      rw [if_neg Bool.false_ne_true]
      obtain ⟨ρr, hr, hlen, kI⟩ := kF rfl
      obtain ⟨okr, str⟩ := back ok4 st4 hr hlen
      have nrA : A ∉ owns ρr := fun m => by
        obtain ⟨j, c, e⟩ := mem_owns.mp m
        rcases hr j _ e with ⟨_, z⟩ | ⟨_, d, z, _⟩
        · exact n4A (mem_owns.mpr ⟨j, c, z⟩)
        · cases z
      exact ⟨F4, ρr, acc, okr, str, it.mono _ _ (e1.trans st4.f) g', rA4, nrA, by omega, kI⟩
  · have e : i = ds.length := by omega
    subst e
    refine .inl ⟨it.stop F' H' ok'.sub g', c A (.lst acc) F' H' ρ' ok' rA st' (st1.new (.inr hA)) nA (hd acc ρ' h' A nA)⟩
/-- the environment behind a turn: the comprehension's own slots as they were, if they hold data -/
def keepv : Option Sl → Option Sl
  | some (.v d) => some (.v d)
  | _ => none
def unw : Nat → List Nat → Env → Env → Env
  | n, vs, x :: ρ', y :: ρ4 => (if vs.contains n = true then keepv x else y) :: unw (n + 1) vs ρ' ρ4
  | _, _, _, _ => []
theorem unw_len : ∀ (n : Nat) (vs : List Nat) (ρ' ρ4 : Env), ρ4.length = ρ'.length → (unw n vs ρ' ρ4).length = ρ'.length
  | _, _, [], [], _ => rfl
  | n, vs, x :: ρ', y :: ρ4, h => by
    show (unw (n + 1) vs ρ' ρ4).length + 1 = ρ'.length + 1
    rw [unw_len (n + 1) vs ρ' ρ4 (by simpa using h)]
  | _, _, [], _ :: _, h => by simp at h
  | _, _, _ :: _, [], h => by simp at h
theorem unw_get : ∀ (n : Nat) (vs : List Nat) (ρ' ρ4 : Env) (j : Nat) (s : Sl), (unw n vs ρ' ρ4)[j]? = some (some s) → (n + j ∉ vs ∧ ρ4[j]? = some (some s)) ∨ (n + j ∈ vs ∧ ∃ d, s = .v d ∧ ρ'[j]? = some (some s))
  | n, vs, x :: ρ', y :: ρ4, 0, s, h => by
    have h : (if vs.contains n = true then keepv x else y) = some s := by simpa [unw] using h
    by_cases hc : vs.contains n = true
    · rw [if_pos hc] at h
      match x, h with
      | some (.v d), h => cases h; exact .inr ⟨by simpa using hc, d, rfl, rfl⟩
    · rw [if_neg hc] at h
      exact .inl ⟨by simpa using hc, by simp [h]⟩
  | n, vs, x :: ρ', y :: ρ4, j + 1, s, h => by
    have := unw_get (n + 1) vs ρ' ρ4 j s (by simpa [unw] using h)
    have e : n + (j + 1) = n + 1 + j := by omega
    rw [e]
    simpa using this
  | _, _, [], ρ4, j, s, h => by cases ρ4 <;> simp [unw] at h
  | _, _, _ :: _, [], j, s, h => by simp [unw] at h
theorem Ok.len2 {σ' : St} {ρ' : Env} {F' H' : Hp} (a : Ok K σ F H ρ) (b : Ok K σ' F' H' ρ') (h : σ'.length = σ.length) : ρ'.length = ρ.length := by
  rw [a.len, b.len, h]
/-- a comprehension by an invariant over the turns -/
theorem evo_lcI {wi : TI} {g : TG} {tt : TT} {te : TE} {vs : List Nat} {Φ : Addr → O → Env → Prop}
    (h : ei K wi ρ fun ds ρ1 => ds.length ≤ sizeLine ∧ ∃ I : Nat → List D → Env → Prop, I 0 [] ρ1 ∧
      (∀ k acc d ρ', ds[k]? = some d → I k acc ρ' → acc.length ≤ k → gt K (some vs) g d (wipeE ρ' vs) fun ρ2 => et K false tt ρ2 fun b ρ3 =>
        (b = true → ev K false te ρ3 fun e ρ4 => ρ4.length = ρ'.length ∧ I (k + 1) (acc ++ [e]) (unw 0 vs ρ' ρ4)) ∧ (b = false → ρ3.length = ρ'.length ∧ I (k + 1) acc (unw 0 vs ρ' ρ3))) ∧
      ∀ acc ρ', I ds.length acc ρ' → ∀ a, a ∉ owns ρ' → Φ a (.lst acc) ρ') : evo K (tLc wi g tt te vs) ρ Φ := by
  refine evo_lc fun σ F H R ok c => h σ F H R ok fun J ds G F1 H1 ρ1 ok1 st it g1 ⟨hz, I, h0, hs, hd⟩ => c J ds G F1 H1 ρ1 ok1 st it g1 ⟨hz, I, h0, fun k acc d ρ' e1 e2 e3 => ?_, hd⟩
  refine fun σ F H v Q ok r c => hs k acc d ρ' e1 e2 e3 σ F H v Q ok r fun σ' ρ2 ok2 n w h2 => c σ' ρ2 ok2 n w ?_
  refine h2.imp fun b ρ3 ⟨k1, k2⟩ => ⟨fun hb => (k1 hb).imp fun e ρ4 ⟨hl, k3⟩ => ⟨_, fun j s hj => ?_, unw_len 0 vs ρ' ρ4 hl, k3⟩, fun hb => ⟨_, fun j s hj => ?_, unw_len 0 vs ρ' ρ3 (k2 hb).1, (k2 hb).2⟩⟩
  · simpa using unw_get 0 vs ρ' ρ4 j s hj
  · simpa using unw_get 0 vs ρ' ρ3 j s hj
theorem wipeE_len : ∀ vs : List Nat, (wipeE ρ vs).length = ρ.length
  | [] => rfl
  | v :: vs => by show ((wipeE ρ vs).set v none).length = _; rw [List.length_set, wipeE_len vs]
/-- each item that passes gives one, nothing is changed -/
theorem evo_fmap {α : Type} {wi : TI} {g : TG} {tt : TT} {te : TE} {vs : List Nat} {Φ : Addr → O → Env → Prop}
    (h : ei K wi ρ fun ds ρ1 => ∃ (xs : List α) (emb : α → D) (p : α → Bool) (f : α → D), ds = xs.map emb ∧ xs.length ≤ sizeLine ∧ unw 0 vs ρ1 ρ1 = ρ1 ∧
      (∀ x ∈ xs, gt K (some vs) g (emb x) (wipeE ρ1 vs) fun ρ2 => et K false tt ρ2 fun b ρ3 => b = p x ∧
        (p x = true → ev K false te ρ3 fun e ρ4 => e = f x ∧ ρ4.length = ρ1.length ∧ unw 0 vs ρ1 ρ4 = ρ1) ∧ (p x = false → ρ3.length = ρ1.length ∧ unw 0 vs ρ1 ρ3 = ρ1)) ∧
      ∀ a, a ∉ owns ρ1 → Φ a (.lst ((xs.filter p).map f)) ρ1) : evo K (tLc wi g tt te vs) ρ Φ := by
  refine evo_lcI fun σ F H R ok c => h σ F H R ok fun J ds G F1 H1 ρ1 ok1 st it g1 ⟨xs, emb, p, f, e, hz, hu, hs, hd⟩ => c J ds G F1 H1 ρ1 ok1 st it g1 ?_
  subst e
  refine ⟨by simpa using hz, fun k acc ρ' => ρ' = ρ1 ∧ acc = ((xs.take k).filter p).map f, ⟨rfl, by simp⟩, fun k acc d ρ' e1 ⟨e2, e3⟩ _ => ?_, fun acc ρ' ⟨e1, e2⟩ a na => ?_⟩
  · subst e2 e3
    rw [List.getElem?_map] at e1
    cases hx : xs[k]? with
    | none => rw [hx] at e1; simp at e1
    | some x =>
      rw [hx] at e1
      simp only [Option.map_some, Option.some.injEq] at e1
      subst e1
      have hm : x ∈ xs := List.mem_of_getElem? hx
      have ht : xs.take (k + 1) = xs.take k ++ [x] := by
        rw [List.take_add_one, hx]; rfl
      refine fun σ F H v Q ok r c => hs x hm σ F H v Q ok r fun σ' ρ2 ok2 n w h2 => c σ' ρ2 ok2 n w ?_
      refine h2.imp fun b ρ3 ⟨hb, k1, k2⟩ => ⟨fun e => (k1 (by rw [← hb, e])).imp fun y ρ4 ⟨e1, e2, e3⟩ => ⟨e2, e3, ?_⟩, fun e => ⟨(k2 (by rw [← hb, e])).1, (k2 (by rw [← hb, e])).2, ?_⟩⟩
      · have hp : p x = true := by rw [← hb, e]
        rw [ht, List.filter_append, List.map_append, List.filter_cons_of_pos hp, e1]; rfl
      · have hp : ¬ p x = true := by rw [← hb, e]; simp
        rw [ht, List.filter_append, List.map_append, List.filter_cons_of_neg hp]; simp
  · subst e1 e2
    rw [List.take_of_length_le (by simp)]
    exact hd a na
/-- each item gives one, nothing is changed -/
theorem evo_map {α : Type} {wi : TI} {g : TG} {te : TE} {vs : List Nat} {Φ : Addr → O → Env → Prop}
    (h : ei K wi ρ fun ds ρ1 => ∃ (xs : List α) (emb : α → D) (f : α → D), ds = xs.map emb ∧ xs.length ≤ sizeLine ∧ unw 0 vs ρ1 ρ1 = ρ1 ∧
      (∀ x ∈ xs, gt K (some vs) g (emb x) (wipeE ρ1 vs) fun ρ2 => ev K false te ρ2 fun e ρ3 => e = f x ∧ ρ3.length = ρ1.length ∧ unw 0 vs ρ1 ρ3 = ρ1) ∧
      ∀ a, a ∉ owns ρ1 → Φ a (.lst (xs.map f)) ρ1) : evo K (tLc wi g tYes te vs) ρ Φ := by
  refine evo_fmap (α := α) fun σ F H R ok c => h σ F H R ok fun J ds G F1 H1 ρ1 ok1 st it g1 ⟨xs, emb, f, e, hz, hu, hs, hd⟩ => c J ds G F1 H1 ρ1 ok1 st it g1 ?_
  refine ⟨xs, emb, fun _ => true, f, e, hz, hu, fun x hx => ?_, fun a na => by rw [List.filter_eq_self.mpr (by simp)]; exact hd a na⟩
  refine fun σ F H v Q ok r c => hs x hx σ F H v Q ok r fun σ' ρ2 ok2 n w h2 => c σ' ρ2 ok2 n w ?_
  exact fun σ F H Q ok c => c true F H ρ2 ok (Step.refl _ _ _) (Qt.refl _ _ _ _) ⟨rfl, fun _ => h2, fun z => nomatch z⟩
end
end Fw

set_option Elab.async false
set_option linter.all false
set_option maxRecDepth 100000
namespace Fw
open PySem L2
section
variable {K : PySem.W.Frag} {q : Bool} {ρ : Env} {σ : St} {F H : Hp} {i : Nat} {E : En}
/-! ### lists that are changed -/
theorem ex_append {te : TE} (h : ev K q te ρ fun d ρ1 => ∃ a xs, ρ1[i]? = some (some (.o a (.lst xs))) ∧ xs.length < sizeLine ∧ E.nx (ρ1.set i (some (.o a (.lst (xs ++ [d])))))) (h0 : ∃ a xs, ρ[i]? = some (some (.o a (.lst xs)))) :
    ex K (tDrop (tBM K "list" rAppend (tVar i) (tCons te tNil))) ρ E := fun σ F H D ok g => by
  obtain ⟨a0, xs0, e0⟩ := h0
  obtain ⟨w, e1, rfl, _, vs0, h3, _⟩ := ok.at_ i _ e0
  refine ⟨_, e1, .inl ⟨rfl, _, SqL.of h3⟩, ?_⟩
  refine h σ F H _ ok fun d v F1 H1 ρ1 ok1 r1 s1 _ ⟨a, xs, e2, hl, k⟩ => ?_
  obtain ⟨w, e3, rfl, h4, vs, h5, h6⟩ := ok1.at_ i _ e2
  rw [e1] at e3; cases e3
  obtain ⟨ok2, s2⟩ := ok1.mut (o := .lst (vs ++ [v])) (c' := .lst (xs ++ [d])) e2 ⟨_, upd_same, h6.append (.cons r1 .nil)⟩
  exact ⟨a0, vs, v, rfl, rfl, h5, by rw [← h6.length]; exact hl, g.nx _ _ _ _ ok2 (s1.trans s2) k⟩
/-- xs[k] = e, the list a slot's -/
theorem ex_setL {te ti : TE} (h : ev K q te ρ fun d ρ1 => ∃ a xs, ρ1[i]? = some (some (.o a (.lst xs))) ∧ evI K true ti ρ1 fun k ρ2 => ∃ j, ixN xs.length k = some j ∧ E.nx (ρ1.set i (some (.o a (.lst (xs.set j d)))))) :
    ex K (tAsg te (gSub (tVar i) ti rSetL)) ρ E := fun σ F H D ok g => by
  refine h σ F H _ ok fun d v F1 H1 ρ1 ok1 r1 s1 _ ⟨a, xs, e2, k1⟩ => ?_
  obtain ⟨w, e3, rfl, h4, vs, h5, h6⟩ := ok1.at_ i _ e2
  refine ⟨_, e3, ?_⟩
  refine k1 σ F1 H1 _ ok1 fun e w F2 H2 ρ2 ok2 r2 s2 q2 ⟨k, ek, j, hj, kk⟩ => ?_
  obtain ⟨rfl, rfl, rfl⟩ := q2 rfl
  subst ek; cases r2
  obtain ⟨ok3, s3⟩ := ok1.mut (o := .lst (vs.set j v)) (c' := .lst (xs.set j d)) e2 ⟨_, upd_same, RepL.set r1 j h6⟩
  exact ⟨a, vs, k, j, rfl, rfl, h5, by rw [← h6.length]; exact hj, g.nx _ _ _ _ ok3 (s1.trans s3) kk⟩
/-- xs.pop(k) -/
theorem ev_popAt {te : TE} {Φ : D → Env → Prop} (h0 : ∃ a xs, ρ[i]? = some (some (.o a (.lst xs))))
    (h : evI K false te ρ fun k ρ1 => ∃ a xs n d, ρ1[i]? = some (some (.o a (.lst xs))) ∧ -(2 ^ 63) ≤ k ∧ k < 2 ^ 63 ∧ seqIndex? k xs.length = some n ∧ xs[n]? = some d ∧ Φ d (ρ1.set i (some (.o a (.lst (xs.eraseIdx n)))))) :
    ev K false (tBM K "list" rPopAt (tVar i) (tCons te tNil)) ρ Φ := fun σ F H Q ok c => by
  obtain ⟨a0, xs0, e0⟩ := h0
  obtain ⟨w, e1, rfl, _, vs0, h3, _⟩ := ok.at_ i _ e0
  refine ⟨_, e1, .inl ⟨rfl, _, SqL.of h3⟩, ?_⟩
  refine h σ F H _ ok fun d v F1 H1 ρ1 ok1 r1 s1 _ ⟨k, ek, a, xs, n, d, e2, hk1, hk2, hn, hd, kk⟩ => ?_
  subst ek; cases r1
  obtain ⟨w, e3, rfl, h4, vs, h5, h6⟩ := ok1.at_ i _ e2
  rw [e1] at e3; cases e3
  obtain ⟨y, hy, ry⟩ := h6.get hd
  obtain ⟨ok2, s2⟩ := ok1.mut (o := .lst (vs.eraseIdx n)) (c' := .lst (xs.eraseIdx n)) e2 ⟨_, upd_same, h6.eraseIdx n⟩
  exact ⟨a0, vs, k, n, y, rfl, rfl, h5, hk1, hk2, by rw [← h6.length]; exact hn, hy, c _ _ _ _ _ ok2 ry (s1.trans s2) (fun z => nomatch z) kk⟩

/-! ### dicts -/
def keyD : Key → D
  | .inl i => .int i
  | .inr s => .str s
theorem keyD_rep {k : Key} {v : V} (r : Rep K F (keyD k) v) : v = kV k := by
  cases k <;> cases r <;> rfl
def lookD : List (Key × D) → Key → Option D
  | [], _ => none
  | (k', d) :: r, k => if k' = k then some d else lookD r k
def putD : List (Key × D) → Key → D → List (Key × D)
  | [], k, d => [(k, d)]
  | (k', e) :: r, k, d => if k' = k then (k', d) :: r else (k', e) :: putD r k d
def dropD : List (Key × D) → Key → List (Key × D)
  | [], _ => []
  | (k', e) :: r, k => if k' = k then dropD r k else (k', e) :: dropD r k
theorem RepK.val {kvs : List (Key × D)} {ws : List (Key × V)} (r : RepK K F kvs ws) (k : Key) : (valV ws k = none ∧ lookD kvs k = none) ∨ ∃ d v, lookD kvs k = some d ∧ valV ws k = some v ∧ Rep K F d v := by
  match r with
  | .nil => exact .inl ⟨rfl, rfl⟩
  | .cons (k := k') (v := v) (d := d) h t =>
    by_cases e : k' = k
    · exact .inr ⟨d, v, by simp [lookD, e], valV_pos (p := (k', v)) e, h⟩
    · rw [valV_neg (p := (k', v)) e]
      rcases RepK.val t k with ⟨x, y⟩ | ⟨a, b, x, y, z⟩
      · exact .inl ⟨x, by simp only [lookD, if_neg e]; exact y⟩
      · exact .inr ⟨a, b, by simp only [lookD, if_neg e]; exact x, y, z⟩
theorem RepK.length {kvs : List (Key × D)} {ws : List (Key × V)} (r : RepK K F kvs ws) : kvs.length = ws.length := by
  match r with
  | .nil => rfl
  | .cons h t => simp [RepK.length t]
theorem RepK.keys {kvs : List (Key × D)} {ws : List (Key × V)} (r : RepK K F kvs ws) : kvs.map (·.1) = ws.map (·.1) := by
  match r with
  | .nil => rfl
  | .cons h t => simp [RepK.keys t]
theorem RepK.append {kvs ks : List (Key × D)} {ws us : List (Key × V)} (r : RepK K F kvs ws) (t : RepK K F ks us) : RepK K F (kvs ++ ks) (ws ++ us) := by
  match r with
  | .nil => exact t
  | .cons h r => exact .cons h (RepK.append r t)
theorem putK_cons {k' k : Key} {e v : V} {r : List (Key × V)} (nd : (((k', e) :: r).map (·.1)).Nodup) : putK ((k', e) :: r) k v = if k' = k then (k', v) :: r else (k', e) :: putK r k v := by
  by_cases h : k' = k
  · subst h
    rw [if_pos rfl]
    unfold putK
    rw [if_pos (by simp)]
    rw [List.map_cons, if_pos rfl]
    congr 1
    have nk : k' ∉ r.map (·.1) := (List.nodup_cons.mp nd).1
    have : ∀ x ∈ r, (if x.1 = k' then (x.1, v) else x) = x := fun x hx => if_neg fun (e : x.1 = k') => nk (by rw [← e]; exact List.mem_map_of_mem hx)
    rw [List.map_congr_left this, List.map_id']
  · rw [if_neg h]
    unfold putK
    have e1 : (((k', e) :: r).any fun kv => decide (kv.1 = k)) = (r.any fun kv => decide (kv.1 = k)) := by simp [h]
    rw [e1]
    split
    · rw [List.map_cons, if_neg h]
    · rfl
theorem RepK.put {kvs : List (Key × D)} {ws : List (Key × V)} (r : RepK K F kvs ws) {k : Key} {d : D} {v : V} (rd : Rep K F d v) (nd : (ws.map (·.1)).Nodup) : RepK K F (putD kvs k d) (putK ws k v) := by
  match r with
  | .nil => exact .cons rd .nil
  | .cons (k := k') (v := v') (d := d') h t =>
    rw [putK_cons nd]
    show RepK K F (if k' = k then _ else _) _
    by_cases e : k' = k
    · rw [if_pos e, if_pos e]; exact .cons rd t
    · rw [if_neg e, if_neg e]; exact .cons h (RepK.put t rd (List.nodup_cons.mp nd).2)
theorem RepK.drop {kvs : List (Key × D)} {ws : List (Key × V)} (r : RepK K F kvs ws) (k : Key) : RepK K F (dropD kvs k) (dropK ws k) := by
  match r with
  | .nil => exact .nil
  | .cons (k := k') (d := d) (v := v) h t =>
    unfold dropK
    show RepK K F (if k' = k then _ else _) _
    by_cases e : k' = k
    · rw [if_pos e, List.filter_cons_of_neg (by simp [e])]
      exact RepK.drop t k
    · rw [if_neg e, List.filter_cons_of_pos (by simp [e])]
      exact .cons h (RepK.drop t k)
theorem putD_mem (kvs : List (Key × D)) (k : Key) (d : D) : ∀ x, x ∈ (putD kvs k d).map (·.1) ↔ x = k ∨ x ∈ kvs.map (·.1) := by
  induction kvs with
  | nil => intro x; simp [putD]
  | cons a r ih =>
    obtain ⟨k', e⟩ := a
    intro x
    by_cases h : k' = k
    · subst h; simp [putD]
    · simp only [putD, if_neg h, List.map_cons, List.mem_cons, ih x]
      exact ⟨fun z => by rcases z with z | z | z <;> simp [z], fun z => by rcases z with z | z | z <;> simp [z]⟩
theorem putD_nodup {kvs : List (Key × D)} (h : (kvs.map (·.1)).Nodup) (k : Key) (d : D) : ((putD kvs k d).map (·.1)).Nodup := by
  induction kvs with
  | nil => simp [putD]
  | cons a r ih =>
    obtain ⟨k', e⟩ := a
    obtain ⟨h1, h2⟩ := List.nodup_cons.mp h
    by_cases hk : k' = k
    · subst hk; simpa [putD] using ⟨by simpa using h1, h2⟩
    · simp only [putD, if_neg hk, List.map_cons]
      refine List.nodup_cons.mpr ⟨fun m => ?_, ih h2⟩
      rcases (putD_mem r k d k').mp m with z | z
      · exact hk z
      · exact h1 z
theorem dropD_mem {kvs : List (Key × D)} {k x : Key} (h : x ∈ (dropD kvs k).map (·.1)) : x ≠ k ∧ x ∈ kvs.map (·.1) := by
  induction kvs with
  | nil => simp [dropD] at h
  | cons a r ih =>
    obtain ⟨k', e⟩ := a
    by_cases hk : k' = k
    · simp only [dropD, if_pos hk] at h
      have := ih h
      exact ⟨this.1, List.mem_cons_of_mem _ this.2⟩
    · simp only [dropD, if_neg hk, List.map_cons, List.mem_cons] at h
      rcases h with h | h
      · subst h; exact ⟨hk, List.mem_cons_self⟩
      · have := ih h
        exact ⟨this.1, List.mem_cons_of_mem _ this.2⟩
theorem dropD_nodup {kvs : List (Key × D)} (h : (kvs.map (·.1)).Nodup) (k : Key) : ((dropD kvs k).map (·.1)).Nodup := by
  induction kvs with
  | nil => simp [dropD]
  | cons a r ih =>
    obtain ⟨k', e⟩ := a
    obtain ⟨h1, h2⟩ := List.nodup_cons.mp h
    by_cases hk : k' = k
    · simpa only [dropD, if_pos hk] using ih h2
    · simp only [dropD, if_neg hk, List.map_cons]
      exact List.nodup_cons.mpr ⟨fun m => h1 (dropD_mem m).2, ih h2⟩
/-- d[k] = e, the dict a slot's -/
theorem ex_dput {te ti : TE} (h : ev K q te ρ fun d ρ1 => ∃ a kvs, ρ1[i]? = some (some (.o a (.dct kvs))) ∧ ev K true ti ρ1 fun kd ρ2 => ∃ k, kd = keyD k ∧ kvs.length < sizeLine ∧ (kvs.map (·.1)).Nodup ∧ E.nx (ρ1.set i (some (.o a (.dct (putD kvs k d)))))) :
    ex K (sDPut (tVar i) ti te) ρ E := fun σ F H D ok g => by
  refine h σ F H _ ok fun d v F1 H1 ρ1 ok1 r1 s1 _ ⟨a, kvs, e2, k1⟩ => ?_
  obtain ⟨w, e3, rfl, h4, vs, h5, h6⟩ := ok1.at_ i _ e2
  refine ⟨_, e3, ?_⟩
  refine k1 σ F1 H1 _ ok1 fun e w F2 H2 ρ2 ok2 r2 s2 q2 ⟨k, ek, hl, hnd, kk⟩ => ?_
  obtain ⟨rfl, rfl, rfl⟩ := q2 rfl
  subst ek
  rw [keyD_rep r2]
  obtain ⟨ok3, s3⟩ := ok1.mut (o := .dK (putK vs k v)) (c' := .dct (putD kvs k d)) e2 ⟨_, upd_same, h6.put r1 (by rw [← h6.keys]; exact hnd)⟩
  exact ⟨a, _, rfl, DPut.k h5 (by rw [← h6.length]; exact hl), g.nx _ _ _ _ ok3 (s1.trans s3) kk⟩
/-- k in d, k not in d: what stands in the way of the key is quiet -/
theorem ev_din {ty td : TE} {Φ : D → Env → Prop} (h : ev K q ty ρ fun kd ρ1 => evb K q td ρ1 fun d ρ2 => ∃ k kvs, kd = keyD k ∧ d = .dct kvs ∧ Φ (.bl (lookD kvs k).isSome) ρ2) : ev K q (tDIn ty td) ρ Φ := fun σ F H Q ok c => by
  refine h σ F H _ ok fun d v F1 H1 ρ1 ok1 r1 s1 q1 k1 => ?_
  refine k1 σ F1 H1 _ ok1 fun e w F2 H2 ρ2 ok2 b2 s2 q2 ⟨k, kvs, ek, ed, kk⟩ => ?_
  subst ek ed
  obtain ⟨a, ws, rfl, h3, h4⟩ := brep_dct ok2 b2
  rw [keyD_rep r1]
  refine ⟨a, _, rfl, DGet.k h3, ?_⟩
  have : (valV ws k).isSome = (lookD kvs k).isSome := by
    rcases h4.val k with ⟨x, y⟩ | ⟨_, _, x, y, _⟩ <;> rw [x, y] <;> rfl
  rw [this]
  exact c _ _ _ _ _ ok2 (.bl _) (s1.trans s2) (q1.trans q2) kk
theorem ev_dnotin {ty td : TE} {Φ : D → Env → Prop} (h : ev K q ty ρ fun kd ρ1 => evb K q td ρ1 fun d ρ2 => ∃ k kvs, kd = keyD k ∧ d = .dct kvs ∧ Φ (.bl (!(lookD kvs k).isSome)) ρ2) : ev K q (tDNotIn ty td) ρ Φ := fun σ F H Q ok c => by
  refine h σ F H _ ok fun d v F1 H1 ρ1 ok1 r1 s1 q1 k1 => ?_
  refine k1 σ F1 H1 _ ok1 fun e w F2 H2 ρ2 ok2 b2 s2 q2 ⟨k, kvs, ek, ed, kk⟩ => ?_
  subst ek ed
  obtain ⟨a, ws, rfl, h3, h4⟩ := brep_dct ok2 b2
  rw [keyD_rep r1]
  refine ⟨a, _, rfl, DGet.k h3, ?_⟩
  have : (valV ws k).isSome = (lookD kvs k).isSome := by
    rcases h4.val k with ⟨x, y⟩ | ⟨_, _, x, y, _⟩ <;> rw [x, y] <;> rfl
  rw [this]
  exact c _ _ _ _ _ ok2 (.bl _) (s1.trans s2) (q1.trans q2) kk
/-- d[k], the key quiet -/
theorem ev_dget {td ty : TE} {Φ : D → Env → Prop} (h : evb K q td ρ fun d ρ1 => ev K true ty ρ1 fun kd ρ2 => ∃ k kvs e, kd = keyD k ∧ d = .dct kvs ∧ lookD kvs k = some e ∧ Φ e ρ1) : ev K q (tDGet td ty) ρ Φ := fun σ F H Q ok c => by
  refine h σ F H _ ok fun d v F1 H1 ρ1 ok1 b1 s1 q1 k1 => ?_
  refine k1 σ F1 H1 _ ok1 fun e w F2 H2 ρ2 ok2 r2 s2 q2 ⟨k, kvs, e', ek, ed, hv, kk⟩ => ?_
  obtain ⟨rfl, rfl, rfl⟩ := q2 rfl
  subst ek ed
  obtain ⟨a, ws, rfl, h3, h4⟩ := brep_dct ok1 b1
  rw [keyD_rep r2]
  rcases h4.val k with ⟨x, y⟩ | ⟨d, u, x, y, r⟩
  · rw [y] at hv; cases hv
  · rw [x] at hv; cases hv
    exact ⟨a, u, rfl, by have := DGet.k (k := k) h3; rw [y] at this; exact this, c _ _ _ _ _ ok1 r s1 q1 kk⟩
/-- d.get(k, x), the key and the default quiet -/
theorem ev_dget2 {td ty tx : TE} {Φ : D → Env → Prop} (h : evb K q td ρ fun d ρ1 => ∃ kvs, d = .dct kvs ∧ ev K true ty ρ1 fun kd ρ2 => ev K true tx ρ1 fun x ρ3 => ∃ k, kd = keyD k ∧ Φ ((lookD kvs k).getD x) ρ1) : ev K q (tDGet2 td ty tx) ρ Φ := fun σ F H Q ok c => by
  refine h σ F H _ ok fun d v F1 H1 ρ1 ok1 b1 s1 q1 ⟨kvs, ed, k1⟩ => ?_
  subst ed
  obtain ⟨a, ws, rfl, h3, h4⟩ := brep_dct ok1 b1
  refine ⟨a, rfl, .inl ⟨ws, .inl h3⟩, ?_⟩
  refine k1 σ F1 H1 _ ok1 fun kd w F2 H2 ρ2 ok2 r2 s2 q2 k2 => ?_
  obtain ⟨rfl, rfl, rfl⟩ := q2 rfl
  refine k2 σ _ _ _ ok1 fun x w2 F3 H3 ρ3 ok3 r3 s3 q3 ⟨k, ek, kk⟩ => ?_
  obtain ⟨rfl, rfl, rfl⟩ := q3 rfl
  subst ek
  rw [keyD_rep r2]
  refine ⟨_, DGet.k h3, ?_⟩
  rcases h4.val k with ⟨x1, y1⟩ | ⟨d, u, x1, y1, r⟩
  · rw [x1]
    rw [y1] at kk
    exact c _ _ _ _ _ ok1 r3 s1 q1 kk
  · rw [y1]
    rw [x1] at kk
    exact c _ _ _ _ _ ok1 r s1 q1 kk
/-! ### isinstance -/
def D.tyn : D → Option String
  | .non => some "NoneType"
  | .bl _ => some "bool"
  | .int _ => some "int"
  | .str _ => some "str"
  | .lst _ => some "list"
  | .tup _ => some "tuple"
  | .dct _ => some "dict"
  | _ => none
theorem D.tyn_of {d : D} {v : V} {t : String} (h : d.tyn = some t) (r : Rep K H d v) : TyX K H v (.type t) := by
  cases r <;> simp only [D.tyn, Option.some.injEq, reduceCtorEq] at h <;> subst h
  · exact .base .non
  · exact .base (.bl _)
  · exact .base (.int _)
  · exact .base (.str _)
  · rename_i h1 _; exact .base (.lst h1)
  · rename_i h1 _; exact .base (.tup h1)
  · rename_i h1 _; exact .base (.dK h1)
theorem ev_isi {te : TE} {n : String} {Φ : D → Env → Prop} (h : evb K q te ρ fun d ρ1 => ∃ t b, d.tyn = some t ∧ kitB t n = some b ∧ Φ (.bl b) ρ1) : ev K q (tCB (rIsi K) (tCons te (tCons (tC (.ty n)) tNil))) ρ Φ := fun σ F H Q ok c => by
  refine h σ F H _ ok fun d v F1 H1 ρ1 ok1 b1 s1 q1 ⟨t, b, ht, hb, k⟩ => ?_
  exact ⟨v, .ty n, .type t, .type n, b, rfl, .ty n, D.tyn_of ht (b1.rep ok1), kit_ty hb, c _ _ F1 H1 ρ1 ok1 (.bl b) s1 q1 k⟩
/-! ### fields, methods -/
theorem RepF.look {fs : List (Str × D)} {ws : List (Str × V)} (r : RepF K F fs ws) (f : Str) : (fs.lookup f = none ∧ ws.lookup f = none) ∨ ∃ d v, fs.lookup f = some d ∧ ws.lookup f = some v ∧ Rep K F d v := by
  match r with
  | .nil => exact .inl ⟨rfl, rfl⟩
  | .cons (k := k') h t =>
    rw [List.lookup_cons, List.lookup_cons]
    cases f == k' with
    | true => exact .inr ⟨_, _, rfl, rfl, h⟩
    | false => exact RepF.look t f
theorem ev_fld {ta : TE} {f : Str} {Φ : D → Env → Prop} (h : ev K q ta ρ fun d ρ1 => ∃ C fs e, d = .ins C fs ∧ Cls K C ∧ NoAttr K C f ∧ fs.lookup f = some e ∧ Φ e ρ1) : ev K q (tFld K ta f) ρ Φ := fun σ F H Q ok c => by
  refine h σ F H _ ok fun d v F1 H1 ρ1 ok1 r1 s1 q1 ⟨C, fs, e, ed, hc, hn, hl, k⟩ => ?_
  subst ed
  cases r1 with
  | ins h1 h2 =>
    rcases h2.look f with ⟨x, _⟩ | ⟨d, v, x, y, r⟩
    · rw [x] at hl; cases hl
    · rw [x] at hl; cases hl
      exact ⟨_, C, _, _, v, rfl, ok1.sub _ _ h1, hc, hn, y, c _ _ F1 H1 ρ1 ok1 r s1 q1 k⟩
end
end Fw

set_option Elab.async false
set_option linter.all false
set_option maxRecDepth 100000
namespace Fw
open PySem L2
/-! ### a def, as its callers see it -/
structure Cal (P : Program) (w : World) (K : PySem.W.Frag) (mg : Str → Option Value) (base : Heap) (k : Nat) (x : Str) (ps : List Str) (sp : Sp) : Prop where
  ok : ∃ fd, FnOk P w K mg base CX0 k (He.ga K x) fd ps sp ∧ Binds K fd ps []
  g : mg x = some (.ref (He.ga K x))
  kp : PySem.W.keepIn K (.ref (He.ga K x)) = true
section
variable {X : Cx} {k : Nat} {ps : List Str} {sp : Sp} {x : Str} {p pos : Pos} {e : Expr} {es : List Expr} {t : TA}
theorem pe_callC (c : Cal X.prog X.w X.K X.mg X.base k x ps sp) (hr : Room k X.A) (hg : Gl X x) (ha : PA X (e :: es) t) (hdb : (x == ("__debug__" : Str)) = false := by decide)
    (he : starEach (e :: es) X.env = (false, eval e X.env) :: starEach es X.env := by rfl) (hpl : (backTo pos (starEach es X.env)).any (·.1) = false := by rfl) :
    PE X (.Call (.Name x p) (e :: es) [] pos) (tCall sp [] E0 t) := by
  obtain ⟨fd, F, b⟩ := c.ok
  exact pe_call F hr hg c.g c.kp b .nil pass0 ha hdb he hpl
theorem pe_callC0 (c : Cal X.prog X.w X.K X.mg X.base k x ps sp) (hr : Room k X.A) (hg : Gl X x) (hdb : (x == ("__debug__" : Str)) = false := by decide) :
    PE X (.Call (.Name x p) [] [] pos) (tCall sp [] E0 tNil) := by
  obtain ⟨fd, F, b⟩ := c.ok
  exact pe_call0 F hr hg c.g c.kp b .nil pass0 hdb
/-- a module's whole number -/
theorem pe_globI {i : Int} (hg : Gl X x) (hm : ∃ t, X.mg x = some (.int i t)) (hd : (x == ("__debug__" : Str)) = false := by decide) : PE X (.Name x pos) (tC (.int i)) := by
  obtain ⟨t, hm⟩ := hm
  exact pe_glob hg hm ⟨t, rfl⟩ hd
/-- a built-in class as a value -/
theorem pe_ty {n : String} (hg : Gl X x) (hm : X.mg x = none) (hv : bootBuiltins x = some (.type n)) (hn : x ≠ "__name__" := by decide) (hd : (x == ("__debug__" : Str)) = false := by decide) : PE X (.Name x pos) (tC (.ty n)) :=
  pe_bltn hg hm hv rfl hn hd
end
/-! ### max, min, int of one or two -/
abbrev rMax2 : List V → Hp → VK → Prop := fun xs H Q => ∃ i j, xs = [.int i, .int j] ∧ Q (.int (if j > i then j else i)) H
abbrev rMin2 : List V → Hp → VK → Prop := fun xs H Q => ∃ i j, xs = [.int i, .int j] ∧ Q (.int (if j < i then j else i)) H
abbrev rInt1 : List V → Hp → VK → Prop := fun xs H Q => (∃ i, xs = [.int i] ∧ Q (.int i) H) ∨ ∃ k, xs = [.bl k] ∧ Q (.int (if k then 1 else 0)) H
section
variable {K : PySem.W.Frag} {q : Bool} {ρ : Env}
theorem ev_max2 {ta tb : TE} {Φ : D → Env → Prop} (h : evI K q ta ρ fun i ρ1 => evI K q tb ρ1 fun j ρ2 => Φ (.int (max i j)) ρ2) : ev K q (tCB rMax2 (tCons ta (tCons tb tNil))) ρ Φ := fun σ F H Q ok c => by
  refine h σ F H _ ok fun d v F1 H1 ρ1 ok1 r1 s1 q1 ⟨i, e, h1⟩ => ?_
  refine h1 σ F1 H1 _ ok1 fun d2 v2 F2 H2 ρ2 ok2 r2 s2 q2 ⟨j, e2, k⟩ => ?_
  subst e e2; cases r1; cases r2
  refine ⟨i, j, rfl, ?_⟩
  have : (if j > i then j else i) = max i j := by rw [Int.max_def]; split <;> split <;> omega
  rw [this]
  exact c _ _ _ _ _ ok2 (.int _) (s1.trans s2) (q1.trans q2) k
theorem ev_min2 {ta tb : TE} {Φ : D → Env → Prop} (h : evI K q ta ρ fun i ρ1 => evI K q tb ρ1 fun j ρ2 => Φ (.int (min i j)) ρ2) : ev K q (tCB rMin2 (tCons ta (tCons tb tNil))) ρ Φ := fun σ F H Q ok c => by
  refine h σ F H _ ok fun d v F1 H1 ρ1 ok1 r1 s1 q1 ⟨i, e, h1⟩ => ?_
  refine h1 σ F1 H1 _ ok1 fun d2 v2 F2 H2 ρ2 ok2 r2 s2 q2 ⟨j, e2, k⟩ => ?_
  subst e e2; cases r1; cases r2
  refine ⟨i, j, rfl, ?_⟩
  have : (if j < i then j else i) = min i j := by rw [Int.min_def]; split <;> split <;> omega
  rw [this]
  exact c _ _ _ _ _ ok2 (.int _) (s1.trans s2) (q1.trans q2) k
/-- int(b) -/
theorem ev_intB {ta : TE} {Φ : D → Env → Prop} (h : ev K q ta ρ fun d ρ1 => ∃ b, d = .bl b ∧ Φ (.int (if b then 1 else 0)) ρ1) : ev K q (tCB rInt1 (tCons ta tNil)) ρ Φ := fun σ F H Q ok c => by
  refine h σ F H _ ok fun d v F1 H1 ρ1 ok1 r1 s1 q1 ⟨b, e, k⟩ => ?_
  subst e; cases r1
  exact .inr ⟨b, rfl, c _ _ _ _ _ ok1 (.int _) s1 q1 k⟩
/-- the chain a < b < c, ints -/
theorem ev_chainI {g g' : Int → Int → Bool} {ta tb tc : TE} {Φ : D → Env → Prop}
    (h : evI K q ta ρ fun i ρ1 => evI K q tb ρ1 fun j ρ2 => (g i j = true → evI K q tc ρ2 fun k ρ3 => Φ (.bl (g' j k)) ρ3) ∧ (g i j = false → Φ (.bl false) ρ2)) :
    ev K q (tChain (rI0 fun i j => .bl (g i j)) (rI0 fun i j => .bl (g' i j)) ta tb tc) ρ Φ := fun σ F H Q ok c => by
  refine h σ F H _ ok fun d v F1 H1 ρ1 ok1 r1 s1 q1 ⟨i, e, h1⟩ => ?_
  refine h1 σ F1 H1 _ ok1 fun d2 v2 F2 H2 ρ2 ok2 r2 s2 q2 ⟨j, e2, k1, k2⟩ => ?_
  subst e e2; cases r1; cases r2
  refine ⟨i, j, rfl, rfl, g i j, rfl, ?_⟩
  cases hb : g i j with
  | true =>
    rw [if_pos rfl]
    refine k1 hb σ F2 H2 _ ok2 fun d3 v3 F3 H3 ρ3 ok3 r3 s3 q3 ⟨k, e3, kk⟩ => ?_
    subst e3; cases r3
    exact ⟨j, k, rfl, rfl, c _ _ _ _ _ ok3 (.bl _) ((s1.trans s2).trans s3) ((q1.trans q2).trans q3) kk⟩
  | false =>
    rw [if_neg Bool.false_ne_true]
    exact c _ _ _ _ _ ok2 (.bl false) (s1.trans s2) (q1.trans q2) (k2 hb)
end
end Fw
namespace Fw
open PySem L2
theorem cxOf_K {CX : CXT} {P : Program} {w : World} {K : PySem.W.Frag} {mg : Str → Option Value} {base : Heap} {N : List Str} {qual : Str} {scope : Scope} {f : Addr} {cd : Value} {A : Around} {outer : List PySem.Env} {s : Shared} {H : Hp} {E : XK} :
    (cxOf CX P w K mg base N qual scope f cd A outer s H E).K = K := rfl
def fnE (ss : List Sl) (Φ : Sl → List Sl → Prop) : En where
  nx := fun ρ' => ∃ ss', Back ss ρ' ss' ∧ Φ (.v .non) ss'
  rt := fun s ρ' => ∃ ss', Back ss ρ' ss' ∧ Φ s ss'
theorem fnE_rt {ss ss' : List Sl} {Φ : Sl → List Sl → Prop} {s : Sl} {ρ' : Env} (b : Back ss ρ' ss') (k : Φ s ss') : (fnE ss Φ).rt s ρ' := ⟨ss', b, k⟩
theorem fnE_nx {ss ss' : List Sl} {Φ : Sl → List Sl → Prop} {ρ' : Env} (b : Back ss ρ' ss') (k : Φ (.v .non) ss') : (fnE ss Φ).nx ρ' := ⟨ss', b, k⟩
theorem fn_pureB {K : PySem.W.Frag} {C : Ct} {N : List Str} {t : TS} (bl : List (Option Sl)) (h : ∀ ss Φ, C ss Φ → (ss.length ≤ N.length ∧ List.replicate (N.length - ss.length) none = bl) ∧ ex K t (ss.map some ++ bl) (fnE ss Φ))
    (vs : List V) (H : Hp) (Q : VK) (E : XK) (hs : spOf K C vs H Q E) : t { nx := fun _ H' => Q .non H', rt := Q } (L2.start N vs) H :=
  fn_pure (fun ss Φ hc => ⟨(h ss Φ hc).1.1, by rw [(h ss Φ hc).1.2]; exact (h ss Φ hc).2⟩) vs H Q E hs
theorem et_yes {K : PySem.W.Frag} {q : Bool} {ρ : Env} {Φ : Bool → Env → Prop} (k : Φ true ρ) : et K q tYes ρ Φ := fun σ F H Q ok c => c true F H ρ ok (Step.refl _ _ _) (Qt.refl _ _ _ _) k
theorem bT {b : Bool} {A B : Prop} (h : b = true) (k : A) : (b = true → A) ∧ (b = false → B) := ⟨fun _ => k, fun z => (nomatch (h.symm.trans z))⟩
theorem bF {b : Bool} {A B : Prop} (h : b = false) (k : B) : (b = true → A) ∧ (b = false → B) := ⟨fun z => (nomatch (h.symm.trans z)), fun _ => k⟩
/-- the law's own call: the script is frozen data -/
theorem law_sp {K : PySem.W.Frag} {H : Hp} {a : Addr} {ns : List Int} {C : Ct} {E : XK} (h63 : ns.length ≤ 63) (hS : SqL K H a (ns.map V.int)) (hC : ∀ ns : List Int, ns.length ≤ 63 → C [.v (.fls (ns.map D.int))] fun s _ => s = .v (.bl true)) :
    spOf K C [.ref a] H (fun v _ => v = .bl true) E := by
  refine ⟨H, [.v (.fls (ns.map D.int))], _, ⟨Same.refl _, rfl, fun i s e => ?_, List.nodup_nil⟩, hC ns h63, fun s v F' H' ss' ok r n st f => ?_⟩
  · match i, e with
    | 0, e => cases e; exact ⟨_, rfl, Rep.fls hS (RepL.of_ints ns)⟩
    | i + 1, e => simp at e
  · subst f
    cases (show Rep K F' (.bl true) v from r)
    rfl
/-- a, if it holds, is refuted by what is behind 'and': one way goes on -/
theorem joinF {K : PySem.W.Frag} {q : Bool} {ρ : Env} {b : Bool} {t : TT} {Φ : Bool → Env → Prop} (h : b = true → et K q t ρ fun b' ρ' => b' = false ∧ ρ' = ρ) (k : Φ false ρ) : (b = true → et K q t ρ Φ) ∧ (b = false → Φ false ρ) :=
  ⟨fun e => (h e).imp fun _ _ ⟨e1, e2⟩ => by subst e1 e2; exact k, fun _ => k⟩
theorem eqv_int (i j : Int) : D.eqv (.int i) (.int j) = decide (i = j) := by
  show (i == j) = _
  exact Bool.beq_eq_decide_eq i j
theorem eqv_bl (i j : Bool) : D.eqv (.bl i) (.bl j) = decide (i = j) := by
  show (i == j) = _
  exact Bool.beq_eq_decide_eq i j
theorem eqvAll_ints : ∀ ns ms : List Int, PyData.eqvAll (D.pys (ns.map D.int)) (D.pys (ms.map D.int)) = decide (ns = ms)
  | [], [] => rfl
  | [], _ :: _ => rfl
  | _ :: _, [] => rfl
  | n :: ns, m :: ms => by
    show ((n == m) && PyData.eqvAll (D.pys (ns.map D.int)) (D.pys (ms.map D.int))) = _
    rw [eqvAll_ints ns ms, Bool.beq_eq_decide_eq]
    by_cases h : n = m <;> by_cases h2 : ns = ms <;> simp [h, h2]
theorem eqv_ints (ns ms : List Int) : D.eqv (.lst (ns.map D.int)) (.lst (ms.map D.int)) = decide (ns = ms) := eqvAll_ints ns ms
theorem eqv_nil (ns : List Int) : D.eqv (.lst (ns.map D.int)) (.lst []) = decide (ns = []) := eqvAll_ints ns []
theorem shp_ints (ns : List Int) : (D.lst (ns.map D.int)).shp 64 = true := by simp [D.shp]
theorem seq_nat {r : Int} {n : Nat} (h0 : 0 ≤ r) (h1 : r < n) : seqIndex? r n = some r.toNat := by
  have : ixN n r = some r.toNat := by
    unfold ixN
    rw [if_pos h0, if_pos h1]
  exact (ixN_seq this).1
theorem map_eraseIdx' {α β : Type} (f : α → β) : ∀ (l : List α) (n : Nat), (l.map f).eraseIdx n = (l.eraseIdx n).map f
  | [], _ => rfl
  | _ :: _, 0 => rfl
  | a :: l, n + 1 => by
    show f a :: (l.map f).eraseIdx n = f a :: (l.eraseIdx n).map f
    rw [map_eraseIdx' f l n]
end Fw

set_option Elab.async false
set_option linter.all false
set_option maxRecDepth 100000
namespace Fw
open PySem L2
/-! ### min, max with default=; < of tuples of ints -/
abbrev rDfl (g : PyData → List PyData → PyData) (K : PySem.W.Frag) : List V → List V → Hp → VK → Prop := fun vs zs H Q => ∃ (a : Addr) (xs : List V) (ds : List PyData) (z : V),
  vs = [V.ref a] ∧ zs = [z] ∧ SqL K H a xs ∧ DpAll K H xs ds ∧ PySem.W.AlikeAll ds ∧ PyData.depthAll ds ≤ 60 ∧ (ds = [] → Q z H) ∧
  ∀ (y : PyData) (ys : List PyData) (i : Nat) (v : V), ds = y :: ys → xs[i]? = some v → ds[i]? = some (g y ys) → Q v H
theorem vals_at {xs : List V} {us : List Value} {i : Nat} {u : Value} (r : Vals xs us) (h : us[i]? = some u) : ∃ v, xs[i]? = some v ∧ RelV v u := by
  induction r generalizing i with
  | nil => simp at h
  | cons r rs ih =>
    cases i with
    | zero => simp at h; subst h; exact ⟨_, rfl, r⟩
    | succ i => obtain ⟨v, h1, h2⟩ := ih (by simpa using h); exact ⟨v, by simpa using h1, h2⟩
theorem reads_at {h : Heap} : ∀ {vs : List Value} {xs : List PyData} {as : List Addr}, ReadsAll h vs xs as → ∀ (i : Nat) (v : Value), vs[i]? = some v → ∃ bs d, xs[i]? = some d ∧ Reads h v d bs
  | _, _, _, .nil, _, _, hv => by simp at hv
  | _, _, _, .cons (d := d) r rs, 0, v, hv => by
    have e := Option.some.inj (show some _ = some v from hv)
    subst e
    exact ⟨_, d, rfl, r⟩
  | _, _, _, .cons r rs, i + 1, v, hv => by
    obtain ⟨bs, d, h1, h2⟩ := reads_at rs i v (by simpa using hv)
    exact ⟨bs, d, by simpa using h1, h2⟩
section
variable {X : Cx}
theorem cr_minDef (hc : X.calm = true) (hu : X.A.units + 64 < cLine) : CallRK X (.builtin "min") [Str.ofString "default"] (rDfl PySem.W.minD X.K) := by
  intro pins s σ H vs zs us ws Q I r rz h
  obtain ⟨a, xs, ds, z, rfl, rfl, hs, hd, ha, hp, h0, h1⟩ := h
  rw [Vals.ref1 r]
  obtain ⟨w1, rfl, e1⟩ := vals1 rz
  obtain ⟨its, rv, hl, hz⟩ := I.list hs
  obtain ⟨as, ra⟩ := Dp.readsAll I ds xs its hd rv
  refine PySem.W.min_list_default (I.ok.hd hc) hl.isList ra ha (by omega) (fun e h' tk hk => ?_) fun y ys i v h' tk bs e hv rd hk => ?_
  · exact ⟨z, H, I.kept hk, e1, h0 e⟩
  · have hv' : its[i]? = some v := by simpa using hv
    obtain ⟨v', q1, q2⟩ := vals_at rv hv'
    obtain ⟨bs', d, q3, q4⟩ := reads_at ra i v hv'
    have := (PySem.Reads.unique (PySem.W.reads_keeps hk q4) _ _ rd).1
    subst this
    exact ⟨v', H, I.kept hk, q2, h1 y ys i v' e q1 q3⟩
theorem cr_maxDef (hc : X.calm = true) (hu : X.A.units + 64 < cLine) : CallRK X (.builtin "max") [Str.ofString "default"] (rDfl PySem.W.maxD X.K) := by
  intro pins s σ H vs zs us ws Q I r rz h
  obtain ⟨a, xs, ds, z, rfl, rfl, hs, hd, ha, hp, h0, h1⟩ := h
  rw [Vals.ref1 r]
  obtain ⟨w1, rfl, e1⟩ := vals1 rz
  obtain ⟨its, rv, hl, hz⟩ := I.list hs
  obtain ⟨as, ra⟩ := Dp.readsAll I ds xs its hd rv
  refine PySem.W.max_list_default (I.ok.hd hc) hl.isList ra ha (by omega) (fun e h' tk hk => ?_) fun y ys i v h' tk bs e hv rd hk => ?_
  · exact ⟨z, H, I.kept hk, e1, h0 e⟩
  · have hv' : its[i]? = some v := by simpa using hv
    obtain ⟨v', q1, q2⟩ := vals_at rv hv'
    obtain ⟨bs', d, q3, q4⟩ := reads_at ra i v hv'
    have := (PySem.Reads.unique (PySem.W.reads_keeps hk q4) _ _ rd).1
    subst this
    exact ⟨v', H, I.kept hk, q2, h1 y ys i v' e q1 q3⟩
end
section
variable {K : PySem.W.Frag} {q : Bool} {ρ : Env}
theorem pys_at : ∀ {ds : List D} {i : Nat} {x : PyData}, (D.pys ds)[i]? = some x → ∃ d, ds[i]? = some d ∧ d.py = x
  | [], _, _, h => by simp [D.pys] at h
  | d :: ds, 0, x, h => by simp [D.pys] at h; exact ⟨d, rfl, h⟩
  | d :: ds, i + 1, x, h => by
    simp [D.pys] at h
    obtain ⟨e, h1, h2⟩ := pys_at h
    exact ⟨e, by simpa using h1, h2⟩
theorem ev_dfl {g : PyData → List PyData → PyData} {te td : TE} {Φ : D → Env → Prop}
    (h : evb K q te ρ fun d ρ1 => ∃ xs, d.ls = some xs ∧ ev K true td ρ1 fun z ρ2 => (∀ x ∈ xs, x.shp 60 = true) ∧ PySem.W.AlikeAll (D.pys xs) ∧ (xs = [] → Φ z ρ1) ∧ ∀ y ys e, D.pys xs = y :: ys → e ∈ xs → e.py = g y ys → Φ e ρ1) :
    ev K q (tCKw (rDfl g K) (tCons te tNil) (tCons td tNil)) ρ Φ := fun σ F H Q ok c => by
  refine h σ F H _ ok fun d v F1 H1 ρ1 ok1 b1 s1 q1 ⟨xs, e, h1⟩ => ?_
  refine h1 σ F1 H1 _ ok1 fun z w F2 H2 ρ2 ok2 r2 s2 q2 ⟨k1, k2, k3, k4⟩ => ?_
  obtain ⟨rfl, rfl, rfl⟩ := q2 rfl
  obtain ⟨a, vs, rfl, h3, h4⟩ := brep_ls ok1 e b1
  refine ⟨a, vs, D.pys xs, w, rfl, rfl, h3, dps_of 60 xs vs k1 (RepL.mono ok1.sub h4), k2, (shp_lays 60 xs k1).2, fun z0 => ?_, fun y ys i u e1 e2 e3 => ?_⟩
  · have : xs = [] := by cases xs with
      | nil => rfl
      | cons a b => simp [D.pys] at z0
    exact c _ _ _ _ _ ok1 r2 s1 q1 (k3 this)
  · obtain ⟨e', m1, m2⟩ := pys_at e3
    obtain ⟨u', m3, m4⟩ := h4.get m1
    rw [e2] at m3
    cases m3
    exact c _ _ _ _ _ ok1 m4 s1 q1 (k4 y ys e' e1 (List.mem_of_getElem? m1) m2)
theorem rep_tup {F : Hp} {ns : List Int} {v : V} (r : Rep K F (.tup (ns.map D.int)) v) : ∃ a, v = .ref a ∧ F a = some (.tup (ns.map V.int)) := by
  cases r with
  | tup h1 h2 => exact ⟨_, rfl, by rw [← h2.ints]; exact h1⟩
theorem ev_ltT {ta tb : TE} {Φ : D → Env → Prop} (h : ev K q ta ρ fun d ρ1 => ev K q tb ρ1 fun e ρ2 => ∃ (ns ms : List Int), d = .tup (ns.map .int) ∧ e = .tup (ms.map .int) ∧ Φ (.bl (HT.lexLt ns ms)) ρ2) : ev K q (tOp (rLtT K) ta tb) ρ Φ := fun σ F H Q ok c => by
  refine h σ F H _ ok fun d v F1 H1 ρ1 ok1 b1 s1 q1 h1 => ?_
  refine h1 σ F1 H1 _ ok1 fun e w F2 H2 ρ2 ok2 b2 s2 q2 ⟨ns, ms, e1, e2, k⟩ => ?_
  subst e1 e2
  obtain ⟨a, rfl, h3⟩ := rep_tup (Rep.mono ok2.sub (Rep.mono s2.f b1))
  obtain ⟨b, rfl, h4⟩ := rep_tup (Rep.mono ok2.sub b2)
  exact ⟨a, b, ns, ms, rfl, rfl, SqT.of h3, SqT.of h4, c _ _ F2 H2 _ ok2 (.bl _) (s1.trans s2) (q1.trans q2) k⟩
end
/-! ### pairs of ints, as data -/
def prD (p : Int × Int) : D := .tup [.int p.1, .int p.2]
def prY (p : Int × Int) : PyData := .tuple [.int p.1, .int p.2]
def ltP (p q : Int × Int) : Bool := decide (p.1 < q.1) || (decide (p.1 = q.1) && decide (p.2 < q.2))
theorem pys_pairs : ∀ ps : List (Int × Int), D.pys (ps.map prD) = ps.map prY
  | [] => rfl
  | p :: ps => by rw [List.map_cons, List.map_cons, D.pys, pys_pairs ps]; rfl
theorem dataLt_pair (p q : Int × Int) : PySem.W.dataLt (prY p) (prY q) = ltP p q := by
  have ha : ∀ x y : Int, PySem.W.alike (.int x) (.int y) = true := fun x y => by simp only [PySem.W.alike]
  have he : ∀ x y : Int, PyData.eqv (.int x) (.int y) = decide (x = y) := eqv_int
  unfold prY ltP
  rw [PySem.W.dataLt_tuple]
  cases e1 : PyData.eqv (.int p.1) (.int q.1) with
  | false =>
    rw [PySem.W.dataLt_all_no (ha _ _) e1, PySem.W.dataLt_int]
    rw [he] at e1
    rw [e1]; simp
  | true =>
    rw [PySem.W.dataLt_all_yes (ha _ _) e1]
    rw [he] at e1
    have e1' := of_decide_eq_true e1
    cases e2 : PyData.eqv (.int p.2) (.int q.2) with
    | false =>
      rw [PySem.W.dataLt_all_no (ha _ _) e2, PySem.W.dataLt_int]
      simp [e1']
    | true =>
      rw [PySem.W.dataLt_all_yes (ha _ _) e2]
      rw [he] at e2
      have e2' := of_decide_eq_true e2
      simp [e1', e2']
      exact PyProof.Rows.lex_irrefl _
theorem prY_inj {p q : Int × Int} (h : prY p = prY q) : p = q := by
  unfold prY at h
  simp only [PyData.tuple.injEq, List.cons.injEq, PyData.int.injEq, and_true] at h
  exact Prod.ext h.1 h.2
/-- the least pair -/
theorem minD_pairs (p : Int × Int) : ∀ ps : List (Int × Int), ∃ m ∈ p :: ps, PySem.W.minD (prY p) (ps.map prY) = prY m ∧ ∀ x ∈ p :: ps, ltP x m = false := by
  intro ps
  unfold PySem.W.minD
  induction ps generalizing p with
  | nil =>
    refine ⟨p, List.mem_cons_self, rfl, fun x hx => ?_⟩
    rw [List.mem_singleton.mp hx]
    simp [ltP]
  | cons k r ih =>
    rw [List.map_cons, List.foldl_cons, dataLt_pair]
    cases hk : ltP k p with
    | true =>
      rw [if_pos rfl]
      obtain ⟨m, h1, h2, h3⟩ := ih k
      refine ⟨m, List.mem_cons_of_mem _ h1, h2, fun x hx => ?_⟩
      rcases List.mem_cons.mp hx with rfl | hx
      · have h4 := h3 k List.mem_cons_self
        simp only [ltP, Bool.or_eq_true, Bool.and_eq_true, decide_eq_true_eq, Bool.or_eq_false_iff, Bool.and_eq_false_iff, decide_eq_false_iff_not] at h4 hk ⊢
        omega
      · exact h3 x hx
    | false =>
      rw [if_neg Bool.false_ne_true]
      obtain ⟨m, h1, h2, h3⟩ := ih p
      refine ⟨m, ?_, h2, fun x hx => ?_⟩
      · rcases List.mem_cons.mp h1 with rfl | h1
        · exact List.mem_cons_self
        · exact List.mem_cons_of_mem _ (List.mem_cons_of_mem _ h1)
      · rcases List.mem_cons.mp hx with rfl | hx
        · exact h3 _ List.mem_cons_self
        · rcases List.mem_cons.mp hx with rfl | hx
          · have h4 := h3 p List.mem_cons_self
            simp only [ltP, Bool.or_eq_true, Bool.and_eq_true, decide_eq_true_eq, Bool.or_eq_false_iff, Bool.and_eq_false_iff, decide_eq_false_iff_not] at h4 hk ⊢
            omega
          · exact h3 x (List.mem_cons_of_mem _ hx)
theorem alike_pairs (ps : List (Int × Int)) : PySem.W.AlikeAll (D.pys (ps.map prD)) := by
  rw [pys_pairs]
  refine ⟨fun x hx y hy => ?_, fun x hx e => ?_⟩
  · obtain ⟨p, _, rfl⟩ := List.mem_map.mp hx
    obtain ⟨q, _, rfl⟩ := List.mem_map.mp hy
    simp only [prY, PySem.W.alike, PySem.W.alikeAll, Bool.and_self]
  · obtain ⟨p, _, rfl⟩ := List.mem_map.mp hx
    simp [prY] at e
theorem shp_pair (p : Int × Int) : (prD p).shp 60 = true := by simp [prD, D.shp]
/-- min of pairs with a default -/
theorem ev_minP {K : PySem.W.Frag} {q : Bool} {ρ : Env} {te td : TE} {Φ : D → Env → Prop}
    (h : evb K q te ρ fun d ρ1 => ∃ ps : List (Int × Int), d.ls = some (ps.map prD) ∧ ev K true td ρ1 fun z ρ2 => (ps = [] → Φ z ρ1) ∧ ∀ m ∈ ps, (∀ x ∈ ps, ltP x m = false) → Φ (prD m) ρ1) :
    ev K q (tCKw (rDfl PySem.W.minD K) (tCons te tNil) (tCons td tNil)) ρ Φ := by
  refine ev_dfl (h.imp fun d ρ1 ⟨ps, h1, h2⟩ => ⟨_, h1, h2.imp fun z ρ2 ⟨h3, h4⟩ => ⟨fun x hx => ?_, alike_pairs ps, fun e => ?_, fun y ys e e1 e2 e3 => ?_⟩⟩)
  · obtain ⟨p, _, rfl⟩ := List.mem_map.mp hx
    exact shp_pair p
  · exact h3 (by cases ps with
      | nil => rfl
      | cons a b => simp at e)
  · rw [pys_pairs] at e1
    cases ps with
    | nil => simp at e1
    | cons p ps =>
      rw [List.map_cons, List.cons.injEq] at e1
      obtain ⟨rfl, rfl⟩ := e1
      obtain ⟨m, m1, m2, m3⟩ := minD_pairs p ps
      obtain ⟨p', p1, rfl⟩ := List.mem_map.mp e2
      rw [m2] at e3
      have : p' = m := prY_inj e3
      subst this
      exact h4 _ m1 m3
end Fw

set_option Elab.async false
set_option linter.all false
set_option maxRecDepth 100000
set_option maxHeartbeats 4000000
namespace Fw
open PySem L2
def topS (i : Nat) : Stmt := PySem.Challenge.pw_idblocks_k62_best_sizes.main.body.getD i (.Pass ⟨0, 0, 0, 0⟩)
abbrev s_is_integer : Stmt := topS 5
abbrev s_is_between : Stmt := topS 6
abbrev s_check_between : Stmt := topS 7
abbrev s_check_size : Stmt := topS 9
abbrev s_check_demands : Stmt := topS 12
abbrev s_fetched : Stmt := topS 13
abbrev s_fetches : Stmt := topS 14
abbrev s_leftover : Stmt := topS 15
abbrev s_size_for : Stmt := topS 16
abbrev s_least_size : Stmt := topS 17
abbrev s_best_size : Stmt := topS 18
abbrev s__law_cell_at : Stmt := topS 20
abbrev s__law_source_of : Stmt := topS 21
abbrev s__law_draw : Stmt := topS 22
abbrev s__law_choice : Stmt := topS 23
abbrev s__law_tried : Stmt := topS 24
abbrev s__law_far_right : Stmt := topS 25
abbrev s_law : Stmt := topS 26
structure Tx (K : PySem.W.Frag) (mg : Str → Option Value) : Prop where
  n_all : mg "all" = none
  n_bool : mg "bool" = none
  n_int : mg "int" = none
  n_isinstance : mg "isinstance" = none
  n_len : mg "len" = none
  n_list : mg "list" = none
  n_max : mg "max" = none
  n_min : mg "min" = none
  n_range : mg "range" = none
  n_sum : mg "sum" = none
  k_MOST_DEMANDS : ∃ t, mg "MOST_DEMANDS" = some (.int 100 t)
  d_is_integer : ∃ fd, FunD K "is_integer" "is_integer" (defArgs s_is_integer) (defBody s_is_integer) (defScope s_is_integer) [] [] (He.ga K "is_integer") fd
  g_is_integer : mg "is_integer" = some (.ref (He.ga K "is_integer"))
  d_is_between : ∃ fd, FunD K "is_between" "is_between" (defArgs s_is_between) (defBody s_is_between) (defScope s_is_between) [] [] (He.ga K "is_between") fd
  g_is_between : mg "is_between" = some (.ref (He.ga K "is_between"))
  d_check_between : ∃ fd, FunD K "check_between" "check_between" (defArgs s_check_between) (defBody s_check_between) (defScope s_check_between) [] [] (He.ga K "check_between") fd
  g_check_between : mg "check_between" = some (.ref (He.ga K "check_between"))
  d_check_size : ∃ fd, FunD K "check_size" "check_size" (defArgs s_check_size) (defBody s_check_size) (defScope s_check_size) [] [] (He.ga K "check_size") fd
  g_check_size : mg "check_size" = some (.ref (He.ga K "check_size"))
  d_check_demands : ∃ fd, FunD K "check_demands" "check_demands" (defArgs s_check_demands) (defBody s_check_demands) (defScope s_check_demands) [] [] (He.ga K "check_demands") fd
  g_check_demands : mg "check_demands" = some (.ref (He.ga K "check_demands"))
  d_fetched : ∃ fd, FunD K "fetched" "fetched" (defArgs s_fetched) (defBody s_fetched) (defScope s_fetched) [] [] (He.ga K "fetched") fd
  g_fetched : mg "fetched" = some (.ref (He.ga K "fetched"))
  d_fetches : ∃ fd, FunD K "fetches" "fetches" (defArgs s_fetches) (defBody s_fetches) (defScope s_fetches) [] [] (He.ga K "fetches") fd
  g_fetches : mg "fetches" = some (.ref (He.ga K "fetches"))
  d_leftover : ∃ fd, FunD K "leftover" "leftover" (defArgs s_leftover) (defBody s_leftover) (defScope s_leftover) [] [] (He.ga K "leftover") fd
  g_leftover : mg "leftover" = some (.ref (He.ga K "leftover"))
  d_size_for : ∃ fd, FunD K "size_for" "size_for" (defArgs s_size_for) (defBody s_size_for) (defScope s_size_for) [] [] (He.ga K "size_for") fd
  g_size_for : mg "size_for" = some (.ref (He.ga K "size_for"))
  d_least_size : ∃ fd, FunD K "least_size" "least_size" (defArgs s_least_size) (defBody s_least_size) (defScope s_least_size) [] [] (He.ga K "least_size") fd
  g_least_size : mg "least_size" = some (.ref (He.ga K "least_size"))
  d_best_size : ∃ fd, FunD K "best_size" "best_size" (defArgs s_best_size) (defBody s_best_size) (defScope s_best_size) [] [] (He.ga K "best_size") fd
  g_best_size : mg "best_size" = some (.ref (He.ga K "best_size"))
  d__law_cell_at : ∃ fd, FunD K "_law_cell_at" "_law_cell_at" (defArgs s__law_cell_at) (defBody s__law_cell_at) (defScope s__law_cell_at) [] [] (He.ga K "_law_cell_at") fd
  g__law_cell_at : mg "_law_cell_at" = some (.ref (He.ga K "_law_cell_at"))
  d__law_source_of : ∃ fd, FunD K "_law_source_of" "_law_source_of" (defArgs s__law_source_of) (defBody s__law_source_of) (defScope s__law_source_of) [] [] (He.ga K "_law_source_of") fd
  g__law_source_of : mg "_law_source_of" = some (.ref (He.ga K "_law_source_of"))
  d__law_draw : ∃ fd, FunD K "_law_draw" "_law_draw" (defArgs s__law_draw) (defBody s__law_draw) (defScope s__law_draw) [] [] (He.ga K "_law_draw") fd
  g__law_draw : mg "_law_draw" = some (.ref (He.ga K "_law_draw"))
  d__law_choice : ∃ fd, FunD K "_law_choice" "_law_choice" (defArgs s__law_choice) (defBody s__law_choice) (defScope s__law_choice) [] [] (He.ga K "_law_choice") fd
  g__law_choice : mg "_law_choice" = some (.ref (He.ga K "_law_choice"))
  d__law_tried : ∃ fd, FunD K "_law_tried" "_law_tried" (defArgs s__law_tried) (defBody s__law_tried) (defScope s__law_tried) [] [] (He.ga K "_law_tried") fd
  g__law_tried : mg "_law_tried" = some (.ref (He.ga K "_law_tried"))
  d__law_far_right : ∃ fd, FunD K "_law_far_right" "_law_far_right" (defArgs s__law_far_right) (defBody s__law_far_right) (defScope s__law_far_right) [] [] (He.ga K "_law_far_right") fd
  g__law_far_right : mg "_law_far_right" = some (.ref (He.ga K "_law_far_right"))
  d_law : ∃ fd, FunD K "law" "law" (defArgs s_law) (defBody s_law) (defScope s_law) [] [] (He.ga K "law") fd
  g_law : mg "law" = some (.ref (He.ga K "law"))
end Fw

set_option maxRecDepth 100000
set_option exponentiation.threshold 9000
set_option linter.all false
namespace Fw
open PySem L2
/-! ### promises -/
def big (i : Int) : Prop := i.natAbs < 2 ^ 8000
theorem bigDiv {i j : Int} (h : 0 < j) (b : big j) : CDivW i j := wide_div h b (by decide) (by decide)
theorem big_of {i : Int} (h0 : -(10 ^ 60) ≤ i) (h1 : i ≤ 10 ^ 60) : big i := by
  have h : i.natAbs ≤ 10 ^ 60 := by omega
  exact Nat.lt_of_le_of_lt h (by decide)
theorem bigMul {i j : Int} (h : big i) (b : big j) : CMulW i j := wide_mul h b (by decide) (by decide) (by decide)
theorem mulR {i j : Int} (h : -(2 ^ 64) < j ∧ j < 2 ^ 64) : CMul i j := .inr h
theorem mulL {i j : Int} (h : -(2 ^ 64) < i ∧ i < 2 ^ 64) : CMul i j := .inl h
/-- is_integer -/
def cIsInt : Ct := fun ss Φ => ∃ d t, ss = [.v d] ∧ d.tyn = some t ∧ Φ (.v (.bl (decide (t = "int")))) ss
theorem cIsInt_len : ∀ ss Φ, cIsInt ss Φ → ss.length = 1 := by rintro ss Φ ⟨d, t, rfl, _⟩; rfl
/-- check_size -/
def cChkSize : Ct := fun ss Φ => ∃ s : Int, ss = [.v (.int s)] ∧ 1 ≤ s ∧ Φ (.v .non) ss
theorem cChkSize_len : ∀ ss Φ, cChkSize ss Φ → ss.length = 1 := by rintro ss Φ ⟨d, rfl, _⟩; rfl
/-- demands -/
def Dem (ds : List Int) : Prop := ds.length ≤ 100 ∧ ∀ d ∈ ds, 0 ≤ d ∧ d ≤ 10 ^ 28
def cChkDem : Ct := fun ss Φ => ∃ ds, ss = [.v (.lst (ds.map D.int))] ∧ Dem ds ∧ Φ (.v .non) ss
theorem cChkDem_len : ∀ ss Φ, cChkDem ss Φ → ss.length = 1 := by rintro ss Φ ⟨d, rfl, _⟩; rfl
/-- fetched -/
def fetchedM (ds : List Int) (s : Int) : Int := (ds.map fun d => (d + s - 1) / s).sum
def cFetched : Ct := fun ss Φ => ∃ ds s, ss = [.v (.lst (ds.map D.int)), .v (.int s)] ∧ ds.length ≤ 101 ∧ 0 < s ∧ big s ∧ Φ (.v (.int (fetchedM ds s))) ss
theorem cFetched_len : ∀ ss Φ, cFetched ss Φ → ss.length = 2 := by rintro ss Φ ⟨ds, s, rfl, _⟩; rfl
def cFetches : Ct := fun ss Φ => ∃ ds s, ss = [.v (.lst (ds.map D.int)), .v (.int s)] ∧ Dem ds ∧ 0 < s ∧ big s ∧ Φ (.v (.int (fetchedM ds s))) ss
theorem cFetches_len : ∀ ss Φ, cFetches ss Φ → ss.length = 2 := by rintro ss Φ ⟨ds, s, rfl, _⟩; rfl
def cLeftover : Ct := fun ss Φ => ∃ ds s, ss = [.v (.lst (ds.map D.int)), .v (.int s)] ∧ Dem ds ∧ 0 < s ∧ s ≤ 10 ^ 29 ∧ Φ (.v (.int (s * fetchedM ds s - ds.sum))) ss
theorem cLeftover_len : ∀ ss Φ, cLeftover ss Φ → ss.length = 2 := by rintro ss Φ ⟨ds, s, rfl, _⟩; rfl
/-- the least size -/
def posM (ds : List Int) : Int := ((ds.filter fun d => decide (0 < d)).length : Int)
def SzOk (ds : List Int) (m : Int) (r : D) : Prop :=
  (m < posM ds ∧ r = .non) ∨ (posM ds ≤ m ∧ ∃ L : Int, r = .int L ∧ 1 ≤ L ∧ L ≤ 10 ^ 28 ∧ fetchedM ds L ≤ m ∧ (1 < L → m < fetchedM ds (L - 1)))
def cSizeFor : Ct := fun ss Φ => ∃ ds m, ss = [.v (.lst (ds.map D.int)), .v (.int m)] ∧ Dem ds ∧ ∀ r, SzOk ds m r → Φ (.v r) ss
theorem cSizeFor_len : ∀ ss Φ, cSizeFor ss Φ → ss.length = 2 := by rintro ss Φ ⟨ds, s, rfl, _⟩; rfl
def cLeastSize : Ct := fun ss Φ => ∃ ds m, ss = [.v (.lst (ds.map D.int)), .v (.int m)] ∧ Dem ds ∧ 0 ≤ m ∧ ∀ r, SzOk ds m r → Φ (.v r) ss
theorem cLeastSize_len : ∀ ss Φ, cLeastSize ss Φ → ss.length = 2 := by rintro ss Φ ⟨ds, s, rfl, _⟩; rfl
theorem fetchedM_le {s : Int} (h0 : 0 < s) : ∀ {ds : List Int}, (∀ d ∈ ds, 0 ≤ d ∧ d ≤ 10 ^ 28) → 0 ≤ fetchedM ds s ∧ fetchedM ds s ≤ ds.length * 10 ^ 28
  | [], _ => by simp [fetchedM]
  | d :: ds, h => by
    have ih := fetchedM_le h0 (ds := ds) fun x hx => h x (List.mem_cons_of_mem _ hx)
    obtain ⟨h1, h2⟩ := h d List.mem_cons_self
    have e : fetchedM (d :: ds) s = (d + s - 1) / s + fetchedM ds s := by simp [fetchedM]
    have a1 : 0 ≤ (d + s - 1) / s := Int.ediv_nonneg (by omega) (by omega)
    have a2 : (d + s - 1) / s ≤ d := by
      by_cases z : d = 0
      · subst z; rw [Int.ediv_eq_zero_of_lt (by omega) (by omega)]; omega
      · refine Int.lt_add_one_iff.mp (Int.ediv_lt_of_lt_mul h0 ?_)
        have : 0 ≤ d * (s - 1) := Int.mul_nonneg (by omega) (by omega)
        rw [Int.mul_sub] at this
        rw [Int.add_mul]; omega
    rw [e, List.length_cons]
    push_cast
    omega
theorem fetchedM_big {ds : List Int} {s : Int} (hd : Dem ds) (h0 : 0 < s) (hs : s ≤ 10 ^ 29) : big (fetchedM ds s) := by
  obtain ⟨a, b⟩ := fetchedM_le h0 hd.2
  have : (ds.length : Int) ≤ 100 := by have := hd.1; omega
  exact big_of (by omega) (by omega)
/-! ### the source of draws -/
def Src (b x y z : Int) : Prop := 0 ≤ x ∧ 0 ≤ y ∧ y < 2147483647 ∧ 0 ≤ z ∧ z ≤ b
def oS (a : Addr) (x y z : Int) : Sl := .o a (.lst [.int x, .int y, .int z])
def cDraw : Ct := fun ss Φ => ∃ a x y z m b, ss = [.o a (.lst [.int x, .int y, .int z]), .v (.int m)] ∧ Src b x y z ∧ b ≤ 2 ^ 40 ∧ 0 < m ∧ m ≤ 10 ^ 30 ∧
  ∀ r x' y' z', 0 ≤ r → r < m → Src (b + 4) x' y' z' → Φ (.v (.int r)) [.o a (.lst [.int x', .int y', .int z']), .v (.int m)]
theorem cDraw_len : ∀ ss Φ, cDraw ss Φ → ss.length = 2 := by rintro ss Φ ⟨a, x, y, z, m, b, rfl, _⟩; rfl
def cChoice : Ct := fun ss Φ => ∃ a x y z os b, ss = [.o a (.lst [.int x, .int y, .int z]), .v (.lst os)] ∧ Src b x y z ∧ b ≤ 2 ^ 40 ∧ 0 < os.length ∧ os.length ≤ 1000 ∧
  ∀ r x' y' z', r ∈ os → Src (b + 4) x' y' z' → Φ (.v r) [.o a (.lst [.int x', .int y', .int z']), .v (.lst os)]
theorem cChoice_len : ∀ ss Φ, cChoice ss Φ → ss.length = 2 := by rintro ss Φ ⟨a, x, y, z, m, b, rfl, _⟩; rfl

theorem mem_get {α : Type} {os : List α} {r : Int} (h0 : 0 ≤ r) (h1 : r < os.length) : ∃ e, atI os r = some e ∧ e ∈ os := by
  have hlt : r.toNat < os.length := by omega
  refine ⟨os[r.toNat], ?_, List.getElem_mem hlt⟩
  have : os[r.toNat]? = some os[r.toNat] := by simp [hlt]
  have := atI_nat this
  rwa [Int.toNat_of_nonneg h0] at this
def primesD : List D := [.int 2147483647, .int 2147483629, .int 2147483587, .int 2147483579, .int 2147483563, .int 2147483549, .int 2147483543]
theorem prime_at {k : Int} (h0 : 0 ≤ k) (h1 : k < 7) : ∃ p : Int, atI primesD k = some (.int p) ∧ 2147483543 ≤ p ∧ p ≤ 2147483647 := by
  obtain ⟨e, h2, h3⟩ := mem_get (os := primesD) h0 (by simpa [primesD] using h1)
  simp only [primesD, List.mem_cons, List.not_mem_nil, or_false] at h3
  rcases h3 with h | h | h | h | h | h | h <;> subst h <;> exact ⟨_, h2, by decide, by decide⟩
/-- how far the draws have come: the reach, the counter -/
def RZ (r z z' : Int) : Prop := (r = 1 ∧ z' = z) ∨ (r = 300000007 ∧ z' = z + 1) ∨ (r = 90000004200000049 ∧ z' = z + 2) ∨ (r = 27000001890000044100000343 ∧ z' = z + 3) ∨ (r = 8100000756000026460000411600002401 ∧ z' = z + 4)
theorem RZ.next {r z z' m : Int} (h : RZ r z z') (hr : r < m) (hm : m ≤ 10 ^ 30) : RZ (r * 300000007) z (z' + 1) := by
  unfold RZ at h ⊢
  rcases h with ⟨h1, h2⟩ | ⟨h1, h2⟩ | ⟨h1, h2⟩ | ⟨h1, h2⟩ | ⟨h1, h2⟩ <;> subst h1 h2 <;> omega
theorem RZ.pos {r z z' : Int} (h : RZ r z z') : 1 ≤ r ∧ z ≤ z' ∧ z' ≤ z + 4 := by
  unfold RZ at h
  omega
theorem fetchedM_max {M : Int} (hM : 1 ≤ M) : ∀ {ds : List Int}, (∀ d ∈ ds, 0 ≤ d ∧ d ≤ M) → fetchedM ds M = posM ds
  | [], _ => by simp [fetchedM, posM]
  | d :: ds, h => by
    have ih := fetchedM_max hM (ds := ds) fun x hx => h x (List.mem_cons_of_mem _ hx)
    obtain ⟨h1, h2⟩ := h d List.mem_cons_self
    have e : fetchedM (d :: ds) M = (d + M - 1) / M + fetchedM ds M := by simp [fetchedM]
    rw [e, ih]
    unfold posM
    by_cases z : 0 < d
    · rw [List.filter_cons_of_pos (by simpa using z), List.length_cons]
      have : (d + M - 1) / M = 1 := by
        have e2 : d + M - 1 = (d - 1) + 1 * M := by omega
        rw [e2, Int.add_mul_ediv_right _ _ (by omega), Int.ediv_eq_zero_of_lt (by omega) (by omega)]; omega
      rw [this]; push_cast; omega
    · rw [List.filter_cons_of_neg (by simpa using z)]
      have : d = 0 := by omega
      subst this
      have : (0 + M - 1) / M = 0 := Int.ediv_eq_zero_of_lt (by omega) (by omega)
      rw [this]; omega

def cCellAt : Ct := fun ss Φ => ∃ (ns : List Int) (i : Int), ss = [.v (.fls (ns.map D.int)), .v (.int i)] ∧ 0 ≤ i ∧ ∀ j : Int, Φ (.v (.int j)) ss
theorem cCellAt_len : ∀ ss Φ, cCellAt ss Φ → ss.length = 2 := by rintro ss Φ ⟨ds, s, rfl, _⟩; rfl
def cSourceOf : Ct := fun ss Φ => ∃ c : Int, ss = [.v (.int c)] ∧ ∀ a x y, Src 0 x y 0 → Φ (.o a (.lst [.int x, .int y, .int 0])) ss
theorem cSourceOf_len : ∀ ss Φ, cSourceOf ss Φ → ss.length = 1 := by rintro ss Φ ⟨ds, rfl, _⟩; rfl

def cShuffled : Ct := fun ss Φ => ∃ a x y z, ∃ (ds : List Int) (b : Int), ss = [.o a (.lst [.int x, .int y, .int z]), .v (.lst (ds.map D.int))] ∧ Src b x y z ∧ b ≤ 2 ^ 39 ∧ ds.length ≤ 100 ∧
  ∀ p (es : List Int) x' y' z', es.Perm ds → Src (b + 4 * ds.length) x' y' z' → Φ (.o p (.lst (es.map D.int))) [.o a (.lst [.int x', .int y', .int z']), .v (.lst (ds.map D.int))]
theorem cShuffled_len : ∀ ss Φ, cShuffled ss Φ → ss.length = 2 := by rintro ss Φ ⟨a, x, y, z, m, b, rfl, _⟩; rfl
def cDemands : Ct := fun ss Φ => ∃ a x y z b, ss = [.o a (.lst [.int x, .int y, .int z])] ∧ Src b x y z ∧ b ≤ 2 ^ 39 ∧
  ∀ (ds : List Int) x' y' z', Dem ds → Src (b + 2000) x' y' z' → Φ (.v (.lst (ds.map D.int))) [.o a (.lst [.int x', .int y', .int z'])]
theorem cDemands_len : ∀ ss Φ, cDemands ss Φ → ss.length = 1 := by rintro ss Φ ⟨a, x, y, z, b, rfl, _⟩; rfl

theorem Src.mono {b b' x y z : Int} (h : Src b x y z) (hb : b ≤ b') : Src b' x y z := ⟨h.1, h.2.1, h.2.2.1, h.2.2.2.1, Int.le_trans h.2.2.2.2 hb⟩

theorem perm_erase {α : Type} : ∀ (l : List α) (n : Nat) (h : n < l.length), (l[n] :: l.eraseIdx n).Perm l
  | a :: l, 0, _ => .refl _
  | a :: l, n + 1, h => by
    have ih := perm_erase l n (by simpa using h)
    show (l[n]'(by simpa using h) :: a :: l.eraseIdx n).Perm (a :: l)
    exact (List.Perm.swap _ _ _).trans (ih.cons a)
theorem ceil_eq {d a : Int} (h : 0 < a) : 0 - (0 - d) / a = (d + a - 1) / a := by
  have e1 := Int.emod_nonneg (0 - d) (show a ≠ 0 by omega)
  have e2 := Int.emod_lt_of_pos (0 - d) h
  have e3 := Int.mul_ediv_add_emod (0 - d) a
  generalize (0 - d) / a = q at *
  generalize (0 - d) % a = r at *
  have e4 : d + a - 1 = (a - 1 - r) + (0 - q) * a := by
    rw [Int.sub_mul, Int.zero_mul, Int.mul_comm q a]; omega
  rw [e4, Int.add_mul_ediv_right _ _ (by omega), Int.ediv_eq_zero_of_lt (by omega) (by omega)]
  omega
def cLaw : Ct := fun ss Φ => ∃ ns : List Int, ss = [.v (.fls (ns.map D.int))] ∧ ns.length ≤ 63 ∧ Φ (.v (.bl true)) ss
theorem cLaw_len : ∀ ss Φ, cLaw ss Φ → ss.length = 1 := by rintro ss Φ ⟨ns, rfl, _⟩; rfl
theorem sum_perm {xs ys : List Int} (h : xs.Perm ys) : xs.sum = ys.sum := by
  induction h with
  | nil => rfl
  | cons x _ ih => simp [ih]
  | swap x y l => simp; omega
  | trans _ _ a b => exact a.trans b
theorem fetchedM_perm {ds es : List Int} (h : es.Perm ds) (s : Int) : fetchedM es s = fetchedM ds s := by
  unfold fetchedM
  exact sum_perm (h.map _)
theorem posM_perm {ds es : List Int} (h : es.Perm ds) : posM es = posM ds := by
  unfold posM
  rw [(h.filter _).length_eq]
theorem Dem.perm {ds es : List Int} (h : es.Perm ds) (d : Dem ds) : Dem es := ⟨by rw [h.length_eq]; exact d.1, fun x hx => d.2 x (h.mem_iff.mp hx)⟩
theorem fetchedM_anti {s t : Int} (h0 : 0 < s) (h : s ≤ t) : ∀ {ds : List Int}, (∀ d ∈ ds, 0 ≤ d) → fetchedM ds t ≤ fetchedM ds s
  | [], _ => by simp [fetchedM]
  | d :: ds, hd => by
    have ih := fetchedM_anti h0 h (ds := ds) fun x hx => hd x (List.mem_cons_of_mem _ hx)
    have h1 := hd d List.mem_cons_self
    have e : ∀ u, fetchedM (d :: ds) u = (d + u - 1) / u + fetchedM ds u := fun u => by simp [fetchedM]
    rw [e, e]
    have : (d + t - 1) / t ≤ (d + s - 1) / s := by
      refine Int.le_ediv_of_mul_le h0 ?_
      have e1 := Int.mul_ediv_add_emod (d + t - 1) t
      have e2 := Int.emod_nonneg (d + t - 1) (show t ≠ 0 by omega)
      have q0 : 0 ≤ (d + t - 1) / t := Int.ediv_nonneg (by omega) (by omega)
      generalize (d + t - 1) / t = q at *
      generalize (d + t - 1) % t = r at *
      -- (q - 1) * t ≤ d - 1
      have e3 : t * q ≤ d + t - 1 := by omega
      by_cases z : q = 0
      · subst z; omega
      · have q1 : 0 ≤ q - 1 := by omega
        have e4 : (q - 1) * s ≤ (q - 1) * t := Int.mul_le_mul_of_nonneg_left h q1
        have e5 : t * q = (q - 1) * t + t := by rw [Int.sub_mul, Int.one_mul, Int.mul_comm]; omega
        have e6 : q * s = (q - 1) * s + s := by rw [Int.sub_mul, Int.one_mul]; omega
        omega
    omega
theorem SzOk.le {ds : List Int} {m m' L L' : Int} (hd : Dem ds) (h : SzOk ds m (.int L)) (h' : SzOk ds m' (.int L')) (hm : m ≤ m') : L' ≤ L := by
  rcases h with ⟨_, z⟩ | ⟨_, L1, z, h1, h2, h3, h4⟩
  · cases z
  cases z
  rcases h' with ⟨_, z⟩ | ⟨_, L2, z, k1, k2, k3, k4⟩
  · cases z
  cases z
  by_cases c : L' ≤ L
  · exact c
  · have := k4 (by omega)
    have := fetchedM_anti (s := L) (t := L' - 1) (by omega) (by omega) fun d hx => (hd.2 d hx).1
    omega
theorem SzOk.perm {ds es : List Int} {m : Int} {r : D} (hp : es.Perm ds) (h : SzOk es m r) : SzOk ds m r := by
  unfold SzOk at h ⊢
  rw [posM_perm hp] at h
  simp only [fetchedM_perm hp] at h
  exact h
theorem SzOk.eq {ds : List Int} {m L : Int} {r : D} (hd : Dem ds) (h : SzOk ds m (.int L)) (h' : SzOk ds m r) : r = .int L := by
  rcases id h' with ⟨z1, z⟩ | ⟨_, L2, z, k1, k2, k3, k4⟩
  · rcases h with ⟨_, z⟩ | ⟨z2, _⟩
    · cases z
    · omega
  · subst z
    have a := SzOk.le hd h h' (Int.le_refl _)
    have b := SzOk.le hd h' h (Int.le_refl _)
    rw [show L2 = L by omega]

theorem cutD_len (xs : List D) (lo hi : Option Int) : (cutD xs lo hi).length ≤ xs.length := by
  unfold cutD
  rw [List.length_take, List.length_drop]
  omega
theorem cutD_mem {xs : List D} {lo hi : Option Int} {d : D} (h : d ∈ cutD xs lo hi) : d ∈ xs := List.mem_of_mem_drop (List.mem_of_mem_take h)

def cBtw : Ct := fun ss Φ => ∃ v lo hi : Int, ss = [.v (.int v), .v (.int lo), .v (.int hi)] ∧ Φ (.v (.bl (decide (lo ≤ v) && decide (v ≤ hi)))) ss
theorem cBtw_len : ∀ ss Φ, cBtw ss Φ → ss.length = 3 := by rintro ss Φ ⟨v, lo, hi, rfl, _⟩; rfl
def cChkBtw : Ct := fun ss Φ => ∃ (d : D) (v lo hi : Int), ss = [.v d, .v (.int v), .v (.int lo), .v (.int hi)] ∧ lo ≤ v ∧ v ≤ hi ∧ Φ (.v .non) ss
theorem cChkBtw_len : ∀ ss Φ, cChkBtw ss Φ → ss.length = 4 := by rintro ss Φ ⟨d, v, lo, hi, rfl, _⟩; rfl
/-- what is left unused -/
def wst (ds : List Int) (a : Int) : Int := a * fetchedM ds a - ds.sum
theorem ltP_ge {x y : Int × Int} : ltP x y = false ↔ y.1 < x.1 ∨ (y.1 = x.1 ∧ y.2 ≤ x.2) := by
  unfold ltP
  rw [Bool.or_eq_false_iff, Bool.and_eq_false_iff, decide_eq_false_iff_not, decide_eq_false_iff_not, decide_eq_false_iff_not]
  omega
theorem ltP_trans {x y z : Int × Int} (h : ltP x y = false) (k : ltP y z = false) : ltP x z = false := by
  rw [ltP_ge] at *
  omega
theorem posM_le {a : Int} (h0 : 0 < a) : ∀ {ds : List Int}, (∀ d ∈ ds, 0 ≤ d) → posM ds ≤ fetchedM ds a
  | [], _ => by simp [fetchedM, posM]
  | d :: ds, h => by
    have ih := posM_le h0 (ds := ds) fun x hx => h x (List.mem_cons_of_mem _ hx)
    have h1 := h d List.mem_cons_self
    have e : fetchedM (d :: ds) a = (d + a - 1) / a + fetchedM ds a := by simp [fetchedM]
    rw [e]
    unfold posM at ih ⊢
    by_cases z : 0 < d
    · rw [List.filter_cons_of_pos (by simpa using z), List.length_cons]
      have : 1 ≤ (d + a - 1) / a := Int.le_ediv_of_mul_le h0 (by omega)
      push_cast; omega
    · rw [List.filter_cons_of_neg (by simpa using z)]
      have : 0 ≤ (d + a - 1) / a := Int.ediv_nonneg (by omega) (by omega)
      omega
def Feas (ds : List Int) (m a : Int) : Prop := 1 ≤ a ∧ fetchedM ds a ≤ m
def BestOk (ds : List Int) (m : Int) (r : D) : Prop :=
  (m < posM ds ∧ r = .non) ∨ (posM ds ≤ m ∧ ∃ L, r = prD (wst ds L, L) ∧ L ≤ 10 ^ 28 ∧ Feas ds m L ∧ ∀ a, Feas ds m a → ltP (wst ds a, a) (wst ds L, L) = false)
theorem BestOk.eq {ds : List Int} {m : Int} {r r' : D} (h : BestOk ds m r) (h' : BestOk ds m r') : r = r' := by
  rcases h with ⟨a, rfl⟩ | ⟨a, L, rfl, b, c, d⟩ <;> rcases h' with ⟨a', rfl⟩ | ⟨a', L', rfl, b', c', d'⟩
  · rfl
  · omega
  · omega
  · have e1 := d L' c'
    have e2 := d' L c
    rw [ltP_ge] at e1 e2
    have : L = L' := by omega
    subst this; rfl
theorem BestOk.of {ds : List Int} {m : Int} (hd : Dem ds) {ps : List (Int × Int)} {q : Int × Int} (h1 : ∀ p ∈ ps, ∃ L, p = (wst ds L, L) ∧ L ≤ 10 ^ 28 ∧ Feas ds m L)
    (h2 : ∀ a, Feas ds m a → ∃ p ∈ ps, ltP (wst ds a, a) p = false) (hq : q ∈ ps) (h3 : ∀ x ∈ ps, ltP x q = false) : BestOk ds m (prD q) := by
  obtain ⟨L, rfl, h4, h5⟩ := h1 q hq
  have := posM_le (a := L) (by have := h5.1; omega) fun d hx => (hd.2 d hx).1
  refine .inr ⟨by have := h5.2; omega, L, rfl, h4, h5, fun a ha => ?_⟩
  obtain ⟨p, hp, h6⟩ := h2 a ha
  exact ltP_trans h6 (h3 p hp)
theorem BestOk.eqv {ds : List Int} {m : Int} {r : D} (h : BestOk ds m r) : D.eqv r r = true := by
  rcases h with ⟨_, rfl⟩ | ⟨_, L, rfl, _⟩
  · rfl
  · simp [D.eqv, prD, D.py, D.pys, PyData.eqv, PyData.eqvAll]
theorem BestOk.shp {ds : List Int} {m : Int} {r : D} (h : BestOk ds m r) : r.shp 64 = true := by
  rcases h with ⟨_, rfl⟩ | ⟨_, L, rfl, _⟩
  · rfl
  · simp [prD, D.shp]
def cBest : Ct := fun ss Φ => ∃ (ds : List Int) (m : Int), ss = [.v (.lst (ds.map D.int)), .v (.int m)] ∧ Dem ds ∧ 0 ≤ m ∧ m ≤ 100 ∧ ∀ r, BestOk ds m r → Φ (.v r) ss
theorem cBest_len : ∀ ss Φ, cBest ss Φ → ss.length = 2 := by rintro ss Φ ⟨ds, m, rfl, _⟩; rfl
def cTried : Ct := fun ss Φ => ∃ (ds : List Int) (m : Int), ss = [.v (.lst (ds.map D.int)), .v (.int m)] ∧ ds.length ≤ 8 ∧ (∀ d ∈ ds, 0 ≤ d ∧ d ≤ 200) ∧ 0 ≤ m ∧ ∀ r, BestOk ds m r → Φ (.v r) ss
theorem cTried_len : ∀ ss Φ, cTried ss Φ → ss.length = 2 := by rintro ss Φ ⟨ds, m, rfl, _⟩; rfl
def cFar : Ct := fun ss Φ => ∃ a x y z, ∃ (ds : List Int) (m b : Int), ss = [.o a (.lst [.int x, .int y, .int z]), .v (.lst (ds.map D.int)), .v (.int m)] ∧ Src b x y z ∧ b ≤ 2 ^ 39 ∧ Dem ds ∧ 0 ≤ m ∧ m ≤ 40 ∧
  ∀ x' y' z', Src (b + 1000) x' y' z' → Φ (.v (.bl true)) [.o a (.lst [.int x', .int y', .int z']), .v (.lst (ds.map D.int)), .v (.int m)]
theorem cFar_len : ∀ ss Φ, cFar ss Φ → ss.length = 3 := by rintro ss Φ ⟨a, x, y, z, ds, m, b, rfl, _⟩; rfl
/-- how the sizes are found, one after the other -/
structure Chn (ds : List Int) (m : Int) (ps : List (Int × Int)) (c : Int) : Prop where
  le : c ≤ m
  ge : -1 ≤ c
  len : (ps.length : Int) + c ≤ m
  nil : ps = [] → c = m
  of : ∀ p ∈ ps, ∃ L, p = (wst ds L, L) ∧ L ≤ 10 ^ 28 ∧ Feas ds m L
  cov : ∀ a, Feas ds m a → fetchedM ds a ≤ c ∨ ∃ p ∈ ps, ltP (wst ds a, a) p = false
theorem Chn.next {ds : List Int} {m c L : Int} {ps : List (Int × Int)} (hd : Dem ds) (h : Chn ds m ps c) (hz : SzOk ds c (.int L)) :
    1 ≤ L ∧ L ≤ 10 ^ 28 ∧ 0 ≤ fetchedM ds L ∧ ps.length ≤ 100 + 1 + (m.toNat - 100) ∧ Chn ds m (ps ++ [(wst ds L, L)]) (fetchedM ds L - 1) := by
  rcases hz with ⟨_, z⟩ | ⟨h1, L1, z, h2, h3, h4, h5⟩
  · cases z
  cases z
  have h0 := (fetchedM_le (s := L) (by omega) hd.2).1
  have a1 := h.le
  have a2 := h.len
  refine ⟨h2, h3, h0, by omega, ⟨by omega, by omega, by rw [List.length_append, List.length_singleton]; push_cast; omega, fun z => by simp at z, fun p hp => ?_, fun a ha => ?_⟩⟩
  · rcases List.mem_append.mp hp with hp | hp
    · exact h.of p hp
    · rw [List.mem_singleton.mp hp]
      exact ⟨L, rfl, h3, h2, by omega⟩
  · rcases h.cov a ha with k | ⟨p, hp, k⟩
    · by_cases e : fetchedM ds a ≤ fetchedM ds L - 1
      · exact .inl e
      · refine .inr ⟨_, List.mem_append_right _ List.mem_cons_self, ?_⟩
        have hLa : L ≤ a := by
          by_cases g : L ≤ a
          · exact g
          · have q1 := h5 (by have := ha.1; omega)
            have q2 := fetchedM_anti (s := a) (t := L - 1) (by have := ha.1; omega) (by omega) (ds := ds) fun d hx => (hd.2 d hx).1
            omega
        have q3 := fetchedM_anti (s := L) (t := a) (by omega) hLa (ds := ds) fun d hx => (hd.2 d hx).1
        have q4 : fetchedM ds a = fetchedM ds L := by omega
        rw [ltP_ge]
        unfold wst
        rw [q4]
        have q5 : L * fetchedM ds L ≤ a * fetchedM ds L := Int.mul_le_mul_of_nonneg_right hLa h0
        show L * fetchedM ds L - ds.sum < a * fetchedM ds L - ds.sum ∨ (L * fetchedM ds L - ds.sum = a * fetchedM ds L - ds.sum ∧ L ≤ a)
        omega
    · exact .inr ⟨p, List.mem_append_left _ hp, k⟩
theorem Chn.done {ds : List Int} {m c : Int} {ps : List (Int × Int)} (hd : Dem ds) (h : Chn ds m ps c) (hz : c < posM ds) :
    (ps = [] → BestOk ds m .non) ∧ ∀ q ∈ ps, (∀ x ∈ ps, ltP x q = false) → BestOk ds m (prD q) := by
  refine ⟨fun e => .inl ⟨by have := h.nil e; omega, rfl⟩, fun q hq hm => BestOk.of hd h.of (fun a ha => ?_) hq hm⟩
  rcases h.cov a ha with k | k
  · have := posM_le (a := a) (by have := ha.1; omega) (ds := ds) fun d hx => (hd.2 d hx).1
    omega
  · exact k
/-- all amounts up to k are tried -/
structure Trd (ds : List Int) (m : Int) (ps : List (Int × Int)) (k : Int) : Prop where
  of : ∀ p ∈ ps, ∃ L, p = (wst ds L, L) ∧ L ≤ 10 ^ 28 ∧ Feas ds m L
  cov : ∀ a, a ≤ k → Feas ds m a → ∃ p ∈ ps, ltP (wst ds a, a) p = false
theorem Trd.done {ds : List Int} {m k M : Int} {ps : List (Int × Int)} (hd : Dem ds) (h : Trd ds m ps k) (h1 : 1 ≤ M) (hM : ∀ d ∈ ds, d ≤ M) (hk : M ≤ k) :
    (ps = [] → BestOk ds m .non) ∧ ∀ q ∈ ps, (∀ x ∈ ps, ltP x q = false) → BestOk ds m (prD q) := by
  have em : ∀ a, M ≤ a → fetchedM ds a = posM ds := fun a ha => fetchedM_max (by omega) fun d hx => ⟨(hd.2 d hx).1, by have := hM d hx; omega⟩
  refine ⟨fun e => .inl ⟨?_, rfl⟩, fun q hq hm => BestOk.of hd h.of (fun a ha => ?_) hq hm⟩
  · by_cases g : m < posM ds
    · exact g
    · obtain ⟨p, hp, _⟩ := h.cov M hk ⟨h1, by rw [em M (Int.le_refl _)]; omega⟩
      rw [e] at hp; cases hp
  · by_cases g : a ≤ k
    · exact h.cov a g ha
    · have e1 := em a (by omega)
      have e2 := em M (Int.le_refl _)
      obtain ⟨p, hp, h6⟩ := h.cov M hk ⟨h1, by have := ha.2; omega⟩
      refine ⟨p, hp, ltP_trans ?_ h6⟩
      rw [ltP_ge]
      unfold wst
      rw [e1, e2]
      have q0 : 0 ≤ posM ds := by unfold posM; omega
      have q5 : M * posM ds ≤ a * posM ds := Int.mul_le_mul_of_nonneg_right (by omega) q0
      show M * posM ds - ds.sum < a * posM ds - ds.sum ∨ (M * posM ds - ds.sum = a * posM ds - ds.sum ∧ M ≤ a)
      omega
theorem Trd.next {ds : List Int} {m k : Int} {ps : List (Int × Int)} (h : Trd ds m ps k) (h0 : 0 ≤ k) (hk : k ≤ 1000) :
    (fetchedM ds (k + 1) ≤ m → Trd ds m (ps ++ [(wst ds (k + 1), k + 1)]) (k + 1)) ∧ (m < fetchedM ds (k + 1) → Trd ds m ps (k + 1)) := by
  refine ⟨fun e => ⟨fun p hp => ?_, fun a ha hf => ?_⟩, fun e => ⟨h.of, fun a ha hf => ?_⟩⟩
  · rcases List.mem_append.mp hp with hp | hp
    · exact h.of p hp
    · rw [List.mem_singleton.mp hp]
      exact ⟨k + 1, rfl, by omega, by omega, e⟩
  · by_cases g : a ≤ k
    · obtain ⟨p, hp, q⟩ := h.cov a g hf
      exact ⟨p, List.mem_append_left _ hp, q⟩
    · have : a = k + 1 := by omega
      subst this
      exact ⟨_, List.mem_append_right _ List.mem_cons_self, by rw [ltP_ge]; exact .inr ⟨rfl, Int.le_refl _⟩⟩
  · by_cases g : a ≤ k
    · exact h.cov a g hf
    · have : a = k + 1 := by omega
      subst this
      have := hf.2
      omega
theorem prD_inj {p q : Int × Int} (h : prD p = prD q) : p = q := by
  unfold prD at h
  simp only [D.tup.injEq, List.cons.injEq, D.int.injEq, and_true] at h
  exact Prod.ext h.1 h.2
theorem BestOk.mono {ds : List Int} {m m' w L : Int} {r : D} (hm : m ≤ m') (h : BestOk ds m (prD (w, L))) (h' : BestOk ds m' r) : ∃ w' L', r = prD (w', L') ∧ w' ≤ w := by
  rcases h with ⟨_, z⟩ | ⟨a, L1, z, b, c, d⟩
  · cases z
  have z := prD_inj z
  cases z
  rcases h' with ⟨z, _⟩ | ⟨a', L', rfl, b', c', d'⟩
  · omega
  · refine ⟨_, _, rfl, ?_⟩
    have := d' L ⟨c.1, by have := c.2; omega⟩
    rw [ltP_ge] at this
    dsimp only at this
    omega
theorem lexLt_pair (a b c d : Int) : HT.lexLt [a, b] [c, d] = ltP (a, b) (c, d) := by
  unfold ltP
  simp only [HT.lexLt]
  by_cases h : a = c
  · subst h
    by_cases k : b = d
    · subst k; simp
    · simp [k]
  · simp [h]
end Fw

set_option Elab.async false
set_option linter.all false
set_option maxRecDepth 100000
set_option maxHeartbeats 4000000
namespace Fw
open PySem L2
local macro_rules | `(tactic| walk_at "fwx") => `(tactic| first
  | (with_reducible refine ex_seq ?_)
  | (with_reducible refine ex_next ?_)
  | (with_reducible refine ex_if (q := false) ?_)
  | (with_reducible refine ex_retN ?_)
  | (with_reducible refine ex_break ?_)
  | (with_reducible refine ex_cont ?_)
  | (with_reducible refine ex_setL (q := false) ?_)
  | (with_reducible refine ex_setO (evo_lst (q := false) ?_))
  | (with_reducible refine ex_setO (evo_dnew ?_))
  | (with_reducible refine ex_set (q := false) ?_)
  | (with_reducible refine ex_asg (q := false) ?_)
  | (with_reducible refine ex_dput (q := false) ?_)
  | (with_reducible refine ex_par (q := false) ?_)
  | (with_reducible refine ex_append (q := false) ?_ ⟨_, _, rfl⟩)
  | (with_reducible refine ex_drop (q := false) ?_)
  | ((with_reducible refine' ex_retS ?h ?_); (case h => rfl))
  | (with_reducible refine ex_ret (q := false) ?_)
  | ((with_reducible refine gt_name ?h ?_); (case h => (intro l z; first | (cases z; done) | (cases z; decide))))
  | ((with_reducible refine' gt_tup ?h ?_); (case h => rfl))
  | (with_reducible refine gts_cons ?_)
  | (with_reducible refine gts_nil ?_))
local macro_rules | `(tactic| walk_at "fwt") => `(tactic| first
  | (with_reducible refine et_test ?_)
  | (with_reducible refine et_tB ?_)
  | (with_reducible refine et_and ?_)
  | (with_reducible refine et_or ?_)
  | (with_reducible refine et_not ?_)
  | (with_reducible refine et_yes ?_))
local macro_rules | `(tactic| walk_at "fwe") => `(tactic| first
  | ((with_reducible refine' ev_var ?h ?_); (case h => rfl))
  | (with_reducible refine ev_int ?_)
  | (with_reducible refine ev_bl ?_)
  | (with_reducible refine ev_str ?_)
  | (with_reducible refine ev_non ?_)
  | ((with_reducible refine' evb_own ?h ?_); (case h => rfl))
  | (with_reducible refine evb_of ?_)
  | (with_reducible refine ev_add ?_)
  | (with_reducible refine ev_sub ?_)
  | (with_reducible refine ev_mulS ?_)
  | (with_reducible refine ev_mul ?_)
  | (with_reducible refine ev_div ?_)
  | (with_reducible refine ev_mod ?_)
  | (with_reducible refine ev_pow ?_)
  | (with_reducible refine ev_lt ?_)
  | (with_reducible refine ev_le ?_)
  | (with_reducible refine ev_gt ?_)
  | (with_reducible refine ev_ge ?_)
  | (with_reducible refine ev_neg ?_)
  | (with_reducible refine ev_ltT ?_)
  | (with_reducible refine ev_chainI ?_)
  | (with_reducible refine ev_minP ?_)
  | (with_reducible refine ev_eq ?_)
  | (with_reducible refine ev_ne ?_)
  | (with_reducible refine ev_isN ?_)
  | (with_reducible refine ev_notN ?_)
  | (with_reducible refine ev_and ?_)
  | (with_reducible refine ev_or ?_)
  | (with_reducible refine ev_not ?_)
  | (with_reducible refine ev_if ?_)
  | (with_reducible refine ev_len ?_)
  | (with_reducible refine ev_sum ?_)
  | (with_reducible refine ev_all ?_)
  | (with_reducible refine ev_any ?_)
  | (with_reducible refine ev_max2 ?_)
  | (with_reducible refine ev_min2 ?_)
  | (with_reducible refine ev_intB ?_)
  | (with_reducible refine ev_isi ?_)
  | (with_reducible refine ev_ix ?_)
  | (with_reducible refine ev_tup ?_)
  | (with_reducible refine ev_popAt ⟨_, _, rfl⟩ ?_)
  | (with_reducible refine ev_max ?_)
  | (with_reducible refine ev_min ?_)
  | (with_reducible refine ev_of_evo (evo_catV (q := false) ?_))
  | (with_reducible refine ev_of_evo (evo_list (q := false) ?_))
  | (with_reducible refine ev_of_evo (evo_slice (q := false) ?_))
  | (with_reducible refine ev_dget ?_)
  | (with_reducible refine ev_dget2 ?_)
  | (with_reducible refine ev_din ?_)
  | (with_reducible refine ev_dnotin ?_)
  | (with_reducible refine ev_fld ?_)
  | (with_reducible refine ev_of_evo (evo_lst (q := false) ?_))
  | (with_reducible refine ev_call0 ?_)
  | (with_reducible refine evd_nil ?_)
  | (with_reducible refine evd_cons ?_)
  | (with_reducible refine eva_nil ?_)
  | ((with_reducible refine' eva_s ?h ?_); (case h => rfl))
  | (with_reducible refine eva_v ?_)
  | (with_reducible refine eo_none ?_)
  | (with_reducible refine eo_some ?_))
local macro_rules | `(tactic| walk_at "fw1") => `(tactic| first
  | walk_at "fwe" | walk_at "fwt" | walk_at "fwx" | (refine ⟨_, rfl, ?_⟩) | (refine ⟨_, _, rfl, rfl, ?_⟩) | (refine ⟨_, _, rfl, ?_⟩) | walk_at "fwb" | (refine And.intro rfl ?_) | (refine And.intro (by walk_at "side") ?_) | (with_reducible refine (fun (a : Addr) (na : a ∉ owns _) => ?_ : ∀ a : Addr, a ∉ owns _ → _)))
local macro_rules | `(tactic| walk_at "fwb") => `(tactic| first
  | (refine bT rfl ?_)
  | (refine bF rfl ?_)
  | (refine And.intro (fun hb => absurd hb (by decide)) (fun _ => ?_))
  | (refine And.intro (fun _ => ?_) (fun hb => absurd hb (by decide)))
  | (refine And.intro (fun hb => absurd (of_decide_eq_true hb) (by omega)) (fun _ => ?_))
  | (refine And.intro (fun _ => ?_) (fun hb => absurd (of_decide_eq_false hb) (by omega)))
  | (refine And.intro (fun hb => absurd (of_decide_eq_true hb) (by (simp only [List.length_map]; omega))) (fun _ => ?_)))
local macro_rules | `(tactic| walk_at "side") => `(tactic| first
  | assumption
  | omega
  | decide
  | (exact ⟨by decide, by decide +kernel⟩)
  | (exact Or.inr ⟨by omega, by omega⟩)
  | (exact Or.inl ⟨by omega, by omega⟩)
  | (exact ⟨by decide, by decide, by omega⟩)
  | ((with_reducible show _ < sizeLine); (simp only [List.length_cons, List.length_nil, List.length_map, List.length_append, sizeLine_eq]; omega))
  | ((with_reducible show _ ≤ sizeLine); (simp only [List.length_cons, List.length_nil, List.length_map, List.length_append, sizeLine_eq]; omega)))
local macro_rules | `(tactic| walk_at "fw") => `(tactic| repeat walk_at "fw1")
local macro_rules | `(tactic| walk_at "fwn") => `(tactic| (try dsimp only [List.map, List.set, wipeE, List.cons_append, List.nil_append, bk, Ar.sl, O.d, Sl.d]))
local macro_rules | `(tactic| walk_at "go") => `(tactic| (walk_at "fwn"; walk_at "fw"))
local macro_rules | `(tactic| walk_at "fn0") => `(tactic| (refine ⟨⟨Nat.le_of_ble_eq_true rfl, rfl⟩, ?_⟩; dsimp only [List.map, cxOf_K, Cx.wish, List.cons_append, List.nil_append]))
local macro_rules | `(tactic| walk_at "bk1") => `(tactic| first | exact Back.nil | (with_reducible apply Back.v) | (with_reducible apply Back.o))
local macro_rules | `(tactic| walk_at "back") => `(tactic| (walk_at "fwn"; (first | refine' fnE_rt ?b ?_ | refine' fnE_nx ?b ?_); (case b => repeat walk_at "bk1")))

section
variable {P : Program} {w : World} {K : PySem.W.Frag} {mg : Str → Option Value} {base : Heap}
abbrev N_is_integer : List Str := ["value"]
theorem sc_is_integer : FnScope N_is_integer ["value"] (defScope s_is_integer) := ⟨rfl, rfl, rfl, by decide +kernel, rfl, by decide +kernel, by decide +kernel⟩
theorem f_is_integer (T : Tx K mg) {fd : FuncData} (F : FunD K "is_integer" "is_integer" (defArgs s_is_integer) (defBody s_is_integer) (defScope s_is_integer) [] [] (He.ga K "is_integer") fd) : FnOk P w K mg base CX0 1 (He.ga K "is_integer") fd ["value"] (spOf K cIsInt) := by
  have nd := (sc_is_integer).nd
  refine F.ok sc_is_integer (sp_len (by first | exact cIsInt_len | exact cIsInt_len _)) (fun cdv A outer s H vs Q E hr h => ?_)
  refine ⟨_, PSs.nox ((pss_one (ps_ret (pe_and (pe_callB call_isi rfl T.n_isinstance (by decide +kernel) (pa_cons (pv 0) (pa_cons (pe_ty (n := "int") rfl T.n_int (by decide +kernel)) pa_nil))) (pe_one (pe_not (pe_callB call_isi rfl T.n_isinstance (by decide +kernel) (pa_cons (pv 0) (pa_cons (pe_ty (n := "bool") rfl T.n_bool (by decide +kernel)) pa_nil))))))))), ?_⟩
  refine fn_pureB [] (fun ss Φ hc => ?_) vs H Q E h
  clear h
  obtain ⟨d, t, rfl, ht, k⟩ := hc
  walk_at "fn0"
  walk_at "fw"
  have kit : ∀ d : D, ∀ t, d.tyn = some t → (∃ b, kitB t "int" = some b ∧ (b = true → ∃ c, kitB t "bool" = some c ∧ decide (t = "int") = !c) ∧ (b = false → decide (t = "int") = false)) := by
    intro d t h
    cases d <;> simp only [D.tyn, Option.some.injEq, reduceCtorEq] at h <;> subst h <;> first
      | exact ⟨true, by decide +kernel, fun _ => ⟨true, by decide +kernel, by decide⟩, fun z => nomatch z⟩
      | exact ⟨true, by decide +kernel, fun _ => ⟨false, by decide +kernel, by decide⟩, fun z => nomatch z⟩
      | exact ⟨false, by decide +kernel, (fun z => nomatch z), fun _ => by decide⟩
  obtain ⟨b, k1, k2, k3⟩ := kit d t ht
  refine ⟨t, b, ht, k1, b, rfl, fun e => ?_, fun e => ?_⟩
  · obtain ⟨c, k4, k5⟩ := k2 e
    walk_at "fw"
    refine ⟨t, c, ht, k4, c, rfl, ?_⟩
    walk_at "back"
    rw [← k5]; exact k
  · walk_at "back"
    rw [← k3 e]; exact k
theorem c_is_integer (T : Tx K mg) : Cal P w K mg base 1 "is_integer" ["value"] (spOf K cIsInt) := by
  obtain ⟨fd, F⟩ := T.d_is_integer
  exact ⟨⟨fd, f_is_integer T F, F.bindsN fun _ _ _ _ _ _ us hl => match us, hl with | [_], _ => rfl⟩, T.g_is_integer, F.kp⟩
abbrev N_is_between : List Str := ["value", "low", "high"]
theorem sc_is_between : FnScope N_is_between ["value", "low", "high"] (defScope s_is_between) := ⟨rfl, rfl, rfl, by decide +kernel, rfl, by decide +kernel, by decide +kernel⟩
theorem f_is_between (T : Tx K mg) {fd : FuncData} (F : FunD K "is_between" "is_between" (defArgs s_is_between) (defBody s_is_between) (defScope s_is_between) [] [] (He.ga K "is_between") fd) : FnOk P w K mg base CX0 2 (He.ga K "is_between") fd ["value", "low", "high"] (spOf K cBtw) := by
  have nd := (sc_is_between).nd
  refine F.ok sc_is_between (sp_len (by first | exact cBtw_len | exact cBtw_len _)) (fun cdv A outer s H vs Q E hr h => ?_)
  refine ⟨_, PSs.nox ((pss_one (ps_ret (pe_and (pe_callC (c_is_integer T) (hr.mono (by decide)) rfl (pa_cons (pv 0) pa_nil)) (pe_one (pe_chain op_le op_le (pv 1) (pv 0) (pv 2))))))), ?_⟩
  refine fn_pureB [] (fun ss Φ hc => ?_) vs H Q E h
  clear h
  obtain ⟨v, lo, hi, rfl, k⟩ := hc
  walk_at "fn0"
  walk_at "fw"
  refine ⟨fun hb => ?_, fun hb => ?_⟩
  · rw [hb] at k
    walk_at "go"
    walk_at "back"
    exact k
  · rw [hb] at k
    walk_at "back"
    exact k
theorem c_is_between (T : Tx K mg) : Cal P w K mg base 2 "is_between" ["value", "low", "high"] (spOf K cBtw) := by
  obtain ⟨fd, F⟩ := T.d_is_between
  exact ⟨⟨fd, f_is_between T F, F.bindsN fun _ _ _ _ _ _ us hl => match us, hl with | [_, _, _], _ => rfl⟩, T.g_is_between, F.kp⟩
abbrev N_check_between : List Str := ["part", "value", "low", "high"]
theorem sc_check_between : FnScope N_check_between ["part", "value", "low", "high"] (defScope s_check_between) := ⟨rfl, rfl, rfl, by decide +kernel, rfl, by decide +kernel, by decide +kernel⟩
theorem f_check_between (T : Tx K mg) {fd : FuncData} (F : FunD K "check_between" "check_between" (defArgs s_check_between) (defBody s_check_between) (defScope s_check_between) [] [] (He.ga K "check_between") fd) : FnOk P w K mg base CX0 3 (He.ga K "check_between") fd ["part", "value", "low", "high"] (spOf K cChkBtw) := by
  have nd := (sc_check_between).nd
  refine F.ok sc_check_between (sp_len (by first | exact cChkBtw_len | exact cChkBtw_len _)) (fun cdv A outer s H vs Q E hr h => ?_)
  refine ⟨_, PSs.nox ((pss_one (ps_if (pt_not (pt_val (pe_callC (c_is_between T) (hr.mono (by decide)) rfl (pa_cons (pv 1) (pa_cons (pv 2) (pa_cons (pv 3) pa_nil)))))) (pss_one ps_never) pss_nil))), ?_⟩
  refine fn_pureB [] (fun ss Φ hc => ?_) vs H Q E h
  clear h
  obtain ⟨d, v, lo, hi, rfl, h1, h2, k⟩ := hc
  walk_at "fn0"
  walk_at "fw"
  refine ⟨v, lo, hi, rfl, ?_⟩
  rw [decide_eq_true h1, decide_eq_true h2]
  walk_at "fw"
  walk_at "back"
  exact k
theorem c_check_between (T : Tx K mg) : Cal P w K mg base 3 "check_between" ["part", "value", "low", "high"] (spOf K cChkBtw) := by
  obtain ⟨fd, F⟩ := T.d_check_between
  exact ⟨⟨fd, f_check_between T F, F.bindsN fun _ _ _ _ _ _ us hl => match us, hl with | [_, _, _, _], _ => rfl⟩, T.g_check_between, F.kp⟩
abbrev N_check_size : List Str := ["value"]
theorem sc_check_size : FnScope N_check_size ["value"] (defScope s_check_size) := ⟨rfl, rfl, rfl, by decide +kernel, rfl, by decide +kernel, by decide +kernel⟩
theorem f_check_size (T : Tx K mg) {fd : FuncData} (F : FunD K "check_size" "check_size" (defArgs s_check_size) (defBody s_check_size) (defScope s_check_size) [] [] (He.ga K "check_size") fd) : FnOk P w K mg base CX0 2 (He.ga K "check_size") fd ["value"] (spOf K cChkSize) := by
  have nd := (sc_check_size).nd
  refine F.ok sc_check_size (sp_len (by first | exact cChkSize_len | exact cChkSize_len _)) (fun cdv A outer s H vs Q E hr h => ?_)
  refine ⟨_, PSs.nox ((pss_one (ps_if (PW.pt (pw_or (pt_not (pt_val (pe_callC (c_is_integer T) (hr.mono (by decide)) rfl (pa_cons (pv 0) pa_nil)))) (pw_or1 (pt_cmpR op_lt (pv 0) pe_int (nomark _))))) (pss_one ps_never) pss_nil))), ?_⟩
  refine fn_pureB [] (fun ss Φ hc => ?_) vs H Q E h
  clear h
  obtain ⟨s, rfl, h1, k⟩ := hc
  walk_at "fn0"
  walk_at "fw"
  walk_at "back"
  exact k
theorem c_check_size (T : Tx K mg) : Cal P w K mg base 2 "check_size" ["value"] (spOf K cChkSize) := by
  obtain ⟨fd, F⟩ := T.d_check_size
  exact ⟨⟨fd, f_check_size T F, F.bindsN fun _ _ _ _ _ _ us hl => match us, hl with | [_], _ => rfl⟩, T.g_check_size, F.kp⟩
abbrev N_check_demands : List Str := ["demands", "demand"]
theorem sc_check_demands : FnScope N_check_demands ["demands"] (defScope s_check_demands) := ⟨rfl, rfl, rfl, by decide +kernel, rfl, by decide +kernel, by decide +kernel⟩
theorem f_check_demands (T : Tx K mg) {fd : FuncData} (F : FunD K "check_demands" "check_demands" (defArgs s_check_demands) (defBody s_check_demands) (defScope s_check_demands) [] [] (He.ga K "check_demands") fd) : FnOk P w K mg base CX0 2 (He.ga K "check_demands") fd ["demands"] (spOf K cChkDem) := by
  have nd := (sc_check_demands).nd
  refine F.ok sc_check_demands (sp_len (by first | exact cChkDem_len | exact cChkDem_len _)) (fun cdv A outer s H vs Q E hr h => ?_)
  refine ⟨_, PSs.nox ((pss_cons (ps_if (PW.pt (pw_or (pt_not (pt_val (pe_callB call_isi rfl T.n_isinstance (by decide +kernel) (pa_cons (pv 0) (pa_cons (pe_ty (n := "list") rfl T.n_list (by decide +kernel)) pa_nil))))) (pw_or1 (pt_cmpR op_gt (pe_callB c_len rfl T.n_len (by decide +kernel) (pa_cons (pv 0) pa_nil)) (pe_globI rfl T.k_MOST_DEMANDS) (nomark _))))) (pss_one ps_never) pss_nil)
    (pss_one (ps_if (pt_not (pt_val (pe_callB (cr_all rfl) rfl T.n_all (by decide +kernel) (pa_cons (pe_lc (own := [("demand", 1)]) (g := gName 1) (tt := tYes) rfl nd (pi_list (pv 0)) (blkOk_by (own := [("demand", 1)]) (N := N_check_demands) (sc := (defScope s_check_demands)) (by decide +kernel)) (fun _ _ _ _ _ => (pg_name (i := 1) nd rfl (Or.inl rfl))) (fun _ _ _ _ _ => pts_nil) (fun _ _ _ _ _ => (pe_and (pe_callC (c_is_integer T) (hr.mono (by decide)) rfl (pa_cons (pv 1) pa_nil)) (pe_one (pe_cmpR op_ge (pv 1) pe_int (nomark _)))))) pa_nil)))) (pss_one ps_never) pss_nil)))), ?_⟩
  refine fn_pureB [none] (fun ss Φ hc => ?_) vs H Q E h
  clear h
  obtain ⟨ds, rfl, hd, k⟩ := hc
  have hl := hd.1
  walk_at "fn0"
  walk_at "fw"
  refine ev_of_evo (evo_map (α := Int) (ei_list (q := false) ?_))
  walk_at "fw"
  refine ⟨ds, D.int, fun _ => D.bl true, rfl, by rw [sizeLine_eq]; omega, rfl, fun x hx => ?_, fun a na => ?_⟩
  · walk_at "go"
    walk_at "go"
    have h0 := (hd.2 x hx).1
    walk_at "fw"
    exact ⟨congrArg D.bl (decide_eq_true h0), rfl, rfl⟩
  · refine ⟨ds.map fun _ => true, by simp [O.d, D.ls, Function.comp_def], ?_⟩
    have e : (ds.map fun _ => true).all id = true := by simp
    rw [e]
    walk_at "fw"
    walk_at "back"
    exact k
theorem c_check_demands (T : Tx K mg) : Cal P w K mg base 2 "check_demands" ["demands"] (spOf K cChkDem) := by
  obtain ⟨fd, F⟩ := T.d_check_demands
  exact ⟨⟨fd, f_check_demands T F, F.bindsN fun _ _ _ _ _ _ us hl => match us, hl with | [_], _ => rfl⟩, T.g_check_demands, F.kp⟩
abbrev N_fetched : List Str := ["demands", "size", "demand"]
theorem sc_fetched : FnScope N_fetched ["demands", "size"] (defScope s_fetched) := ⟨rfl, rfl, rfl, by decide +kernel, rfl, by decide +kernel, by decide +kernel⟩
theorem f_fetched (T : Tx K mg) {fd : FuncData} (F : FunD K "fetched" "fetched" (defArgs s_fetched) (defBody s_fetched) (defScope s_fetched) [] [] (He.ga K "fetched") fd) : FnOk P w K mg base CX0 1 (He.ga K "fetched") fd ["demands", "size"] (spOf K cFetched) := by
  have nd := (sc_fetched).nd
  refine F.ok sc_fetched (sp_len (by first | exact cFetched_len | exact cFetched_len _)) (fun cdv A outer s H vs Q E hr h => ?_)
  refine ⟨_, PSs.nox ((pss_one (ps_ret (pe_callB (cr_sum rfl) rfl T.n_sum (by decide +kernel) (pa_cons (pe_lc (own := [("demand", 2)]) (g := gName 2) (tt := tYes) rfl nd (pi_list (pv 0)) (blkOk_by (own := [("demand", 2)]) (N := N_fetched) (sc := (defScope s_fetched)) (by decide +kernel)) (fun _ _ _ _ _ => (pg_name (i := 2) nd rfl (Or.inl rfl))) (fun _ _ _ _ _ => pts_nil) (fun _ _ _ _ _ => (pe_op op_fdivW (pe_op op_sub (pe_op op_add (pv 2) (pv 1)) pe_int) (pv 1)))) pa_nil))))), ?_⟩
  refine fn_pureB [none] (fun ss Φ hc => ?_) vs H Q E h
  clear h
  obtain ⟨ds, s, rfl, hl, h0, hb, k⟩ := hc
  walk_at "fn0"
  walk_at "fw"
  refine ev_of_evo (evo_map (α := Int) (ei_list (q := false) ?_))
  walk_at "fw"
  refine ⟨ds, D.int, fun d => D.int ((d + s - 1) / s), rfl, by rw [sizeLine_eq]; omega, rfl, fun x hx => ?_, fun a na => ?_⟩
  · walk_at "go"
    walk_at "go"
    exact ⟨bigDiv h0 hb, rfl, rfl, rfl⟩
  · refine ⟨ds.map fun d => (d + s - 1) / s, by simp [O.d, D.ls, Function.comp_def], ?_⟩
    walk_at "back"
    exact k
theorem c_fetched (T : Tx K mg) : Cal P w K mg base 1 "fetched" ["demands", "size"] (spOf K cFetched) := by
  obtain ⟨fd, F⟩ := T.d_fetched
  exact ⟨⟨fd, f_fetched T F, F.bindsN fun _ _ _ _ _ _ us hl => match us, hl with | [_, _], _ => rfl⟩, T.g_fetched, F.kp⟩
abbrev N_fetches : List Str := ["demands", "size"]
theorem sc_fetches : FnScope N_fetches ["demands", "size"] (defScope s_fetches) := ⟨rfl, rfl, rfl, by decide +kernel, rfl, by decide +kernel, by decide +kernel⟩
theorem f_fetches (T : Tx K mg) {fd : FuncData} (F : FunD K "fetches" "fetches" (defArgs s_fetches) (defBody s_fetches) (defScope s_fetches) [] [] (He.ga K "fetches") fd) : FnOk P w K mg base CX0 3 (He.ga K "fetches") fd ["demands", "size"] (spOf K cFetches) := by
  have nd := (sc_fetches).nd
  refine F.ok sc_fetches (sp_len (by first | exact cFetches_len | exact cFetches_len _)) (fun cdv A outer s H vs Q E hr h => ?_)
  refine ⟨_, PSs.nox ((pss_cons (ps_expr (pe_callC (c_check_demands T) (hr.mono (by decide)) rfl (pa_cons (pv 0) pa_nil)))
    (pss_cons (ps_expr (pe_callC (c_check_size T) (hr.mono (by decide)) rfl (pa_cons (pv 1) pa_nil)))
    (pss_one (ps_ret (pe_callC (c_fetched T) (hr.mono (by decide)) rfl (pa_cons (pv 0) (pa_cons (pv 1) pa_nil)))))))), ?_⟩
  refine fn_pureB [] (fun ss Φ hc => ?_) vs H Q E h
  clear h
  obtain ⟨ds, s, rfl, hd, h0, hb, k⟩ := hc
  have hl := hd.1
  have hl1 : ds.length ≤ 101 := by omega
  have h1 : 1 ≤ s := h0
  walk_at "fn0"
  walk_at "fw"
  walk_at "back"
  exact k
theorem c_fetches (T : Tx K mg) : Cal P w K mg base 3 "fetches" ["demands", "size"] (spOf K cFetches) := by
  obtain ⟨fd, F⟩ := T.d_fetches
  exact ⟨⟨fd, f_fetches T F, F.bindsN fun _ _ _ _ _ _ us hl => match us, hl with | [_, _], _ => rfl⟩, T.g_fetches, F.kp⟩
abbrev N_leftover : List Str := ["demands", "size"]
theorem sc_leftover : FnScope N_leftover ["demands", "size"] (defScope s_leftover) := ⟨rfl, rfl, rfl, by decide +kernel, rfl, by decide +kernel, by decide +kernel⟩
theorem f_leftover (T : Tx K mg) {fd : FuncData} (F : FunD K "leftover" "leftover" (defArgs s_leftover) (defBody s_leftover) (defScope s_leftover) [] [] (He.ga K "leftover") fd) : FnOk P w K mg base CX0 4 (He.ga K "leftover") fd ["demands", "size"] (spOf K cLeftover) := by
  have nd := (sc_leftover).nd
  refine F.ok sc_leftover (sp_len (by first | exact cLeftover_len | exact cLeftover_len _)) (fun cdv A outer s H vs Q E hr h => ?_)
  refine ⟨_, PSs.nox ((pss_one (ps_ret (pe_op op_sub (pe_op op_mulW (pv 1) (pe_callC (c_fetches T) (hr.mono (by decide)) rfl (pa_cons (pv 0) (pa_cons (pv 1) pa_nil)))) (pe_callB (cr_sum rfl) rfl T.n_sum (by decide +kernel) (pa_cons (pv 0) pa_nil)))))), ?_⟩
  refine fn_pureB [] (fun ss Φ hc => ?_) vs H Q E h
  clear h
  obtain ⟨ds, s, rfl, hd, h0, hs, k⟩ := hc
  have hb : big s := big_of (by omega) (by omega)
  walk_at "fn0"
  walk_at "fw"
  refine ⟨bigMul hb (fetchedM_big hd h0 hs), ?_⟩
  walk_at "fw"
  walk_at "back"
  exact k
theorem c_leftover (T : Tx K mg) : Cal P w K mg base 4 "leftover" ["demands", "size"] (spOf K cLeftover) := by
  obtain ⟨fd, F⟩ := T.d_leftover
  exact ⟨⟨fd, f_leftover T F, F.bindsN fun _ _ _ _ _ _ us hl => match us, hl with | [_, _], _ => rfl⟩, T.g_leftover, F.kp⟩
end
end Fw

set_option Elab.async false
set_option linter.all false
set_option maxRecDepth 100000
set_option maxHeartbeats 4000000
namespace Fw
open PySem L2
local macro_rules | `(tactic| walk_at "fwx") => `(tactic| first
  | (with_reducible refine ex_seq ?_)
  | (with_reducible refine ex_next ?_)
  | (with_reducible refine ex_if (q := false) ?_)
  | (with_reducible refine ex_retN ?_)
  | (with_reducible refine ex_break ?_)
  | (with_reducible refine ex_cont ?_)
  | (with_reducible refine ex_setL (q := false) ?_)
  | (with_reducible refine ex_setO (evo_lst (q := false) ?_))
  | (with_reducible refine ex_setO (evo_dnew ?_))
  | (with_reducible refine ex_set (q := false) ?_)
  | (with_reducible refine ex_asg (q := false) ?_)
  | (with_reducible refine ex_dput (q := false) ?_)
  | (with_reducible refine ex_par (q := false) ?_)
  | (with_reducible refine ex_append (q := false) ?_ ⟨_, _, rfl⟩)
  | (with_reducible refine ex_drop (q := false) ?_)
  | ((with_reducible refine' ex_retS ?h ?_); (case h => rfl))
  | (with_reducible refine ex_ret (q := false) ?_)
  | ((with_reducible refine gt_name ?h ?_); (case h => (intro l z; first | (cases z; done) | (cases z; decide))))
  | ((with_reducible refine' gt_tup ?h ?_); (case h => rfl))
  | (with_reducible refine gts_cons ?_)
  | (with_reducible refine gts_nil ?_))
local macro_rules | `(tactic| walk_at "fwt") => `(tactic| first
  | (with_reducible refine et_test ?_)
  | (with_reducible refine et_tB ?_)
  | (with_reducible refine et_and ?_)
  | (with_reducible refine et_or ?_)
  | (with_reducible refine et_not ?_)
  | (with_reducible refine et_yes ?_))
local macro_rules | `(tactic| walk_at "fwe") => `(tactic| first
  | ((with_reducible refine' ev_var ?h ?_); (case h => rfl))
  | (with_reducible refine ev_int ?_)
  | (with_reducible refine ev_bl ?_)
  | (with_reducible refine ev_str ?_)
  | (with_reducible refine ev_non ?_)
  | ((with_reducible refine' evb_own ?h ?_); (case h => rfl))
  | (with_reducible refine evb_of ?_)
  | (with_reducible refine ev_add ?_)
  | (with_reducible refine ev_sub ?_)
  | (with_reducible refine ev_mulS ?_)
  | (with_reducible refine ev_mul ?_)
  | (with_reducible refine ev_div ?_)
  | (with_reducible refine ev_mod ?_)
  | (with_reducible refine ev_pow ?_)
  | (with_reducible refine ev_lt ?_)
  | (with_reducible refine ev_le ?_)
  | (with_reducible refine ev_gt ?_)
  | (with_reducible refine ev_ge ?_)
  | (with_reducible refine ev_neg ?_)
  | (with_reducible refine ev_ltT ?_)
  | (with_reducible refine ev_chainI ?_)
  | (with_reducible refine ev_minP ?_)
  | (with_reducible refine ev_eq ?_)
  | (with_reducible refine ev_ne ?_)
  | (with_reducible refine ev_isN ?_)
  | (with_reducible refine ev_notN ?_)
  | (with_reducible refine ev_and ?_)
  | (with_reducible refine ev_or ?_)
  | (with_reducible refine ev_not ?_)
  | (with_reducible refine ev_if ?_)
  | (with_reducible refine ev_len ?_)
  | (with_reducible refine ev_sum ?_)
  | (with_reducible refine ev_all ?_)
  | (with_reducible refine ev_any ?_)
  | (with_reducible refine ev_max2 ?_)
  | (with_reducible refine ev_min2 ?_)
  | (with_reducible refine ev_intB ?_)
  | (with_reducible refine ev_isi ?_)
  | (with_reducible refine ev_ix ?_)
  | (with_reducible refine ev_tup ?_)
  | (with_reducible refine ev_popAt ⟨_, _, rfl⟩ ?_)
  | (with_reducible refine ev_max ?_)
  | (with_reducible refine ev_min ?_)
  | (with_reducible refine ev_of_evo (evo_catV (q := false) ?_))
  | (with_reducible refine ev_of_evo (evo_list (q := false) ?_))
  | (with_reducible refine ev_of_evo (evo_slice (q := false) ?_))
  | (with_reducible refine ev_dget ?_)
  | (with_reducible refine ev_dget2 ?_)
  | (with_reducible refine ev_din ?_)
  | (with_reducible refine ev_dnotin ?_)
  | (with_reducible refine ev_fld ?_)
  | (with_reducible refine ev_of_evo (evo_lst (q := false) ?_))
  | (with_reducible refine ev_call0 ?_)
  | (with_reducible refine evd_nil ?_)
  | (with_reducible refine evd_cons ?_)
  | (with_reducible refine eva_nil ?_)
  | ((with_reducible refine' eva_s ?h ?_); (case h => rfl))
  | (with_reducible refine eva_v ?_)
  | (with_reducible refine eo_none ?_)
  | (with_reducible refine eo_some ?_))
local macro_rules | `(tactic| walk_at "fw1") => `(tactic| first
  | walk_at "fwe" | walk_at "fwt" | walk_at "fwx" | (refine ⟨_, rfl, ?_⟩) | (refine ⟨_, _, rfl, rfl, ?_⟩) | (refine ⟨_, _, rfl, ?_⟩) | walk_at "fwb" | (refine And.intro rfl ?_) | (refine And.intro (by walk_at "side") ?_) | (with_reducible refine (fun (a : Addr) (na : a ∉ owns _) => ?_ : ∀ a : Addr, a ∉ owns _ → _)))
local macro_rules | `(tactic| walk_at "fwb") => `(tactic| first
  | (refine bT rfl ?_)
  | (refine bF rfl ?_)
  | (refine And.intro (fun hb => absurd hb (by decide)) (fun _ => ?_))
  | (refine And.intro (fun _ => ?_) (fun hb => absurd hb (by decide)))
  | (refine And.intro (fun hb => absurd (of_decide_eq_true hb) (by omega)) (fun _ => ?_))
  | (refine And.intro (fun _ => ?_) (fun hb => absurd (of_decide_eq_false hb) (by omega)))
  | (refine And.intro (fun hb => absurd (of_decide_eq_true hb) (by (simp only [List.length_map]; omega))) (fun _ => ?_)))
local macro_rules | `(tactic| walk_at "side") => `(tactic| first
  | assumption
  | omega
  | decide
  | (exact ⟨by decide, by decide +kernel⟩)
  | (exact Or.inr ⟨by omega, by omega⟩)
  | (exact Or.inl ⟨by omega, by omega⟩)
  | (exact ⟨by decide, by decide, by omega⟩)
  | ((with_reducible show _ < sizeLine); (simp only [List.length_cons, List.length_nil, List.length_map, List.length_append, sizeLine_eq]; omega))
  | ((with_reducible show _ ≤ sizeLine); (simp only [List.length_cons, List.length_nil, List.length_map, List.length_append, sizeLine_eq]; omega)))
local macro_rules | `(tactic| walk_at "fw") => `(tactic| repeat walk_at "fw1")
local macro_rules | `(tactic| walk_at "fwn") => `(tactic| (try dsimp only [List.map, List.set, wipeE, List.cons_append, List.nil_append, bk, Ar.sl, O.d, Sl.d]))
local macro_rules | `(tactic| walk_at "go") => `(tactic| (walk_at "fwn"; walk_at "fw"))
local macro_rules | `(tactic| walk_at "fn0") => `(tactic| (refine ⟨⟨Nat.le_of_ble_eq_true rfl, rfl⟩, ?_⟩; dsimp only [List.map, cxOf_K, Cx.wish, List.cons_append, List.nil_append]))
local macro_rules | `(tactic| walk_at "bk1") => `(tactic| first | exact Back.nil | (with_reducible apply Back.v) | (with_reducible apply Back.o))
local macro_rules | `(tactic| walk_at "back") => `(tactic| (walk_at "fwn"; (first | refine' fnE_rt ?b ?_ | refine' fnE_nx ?b ?_); (case b => repeat walk_at "bk1")))

section
variable {P : Program} {w : World} {K : PySem.W.Frag} {mg : Str → Option Value} {base : Heap}
abbrev N_size_for : List Str := ["demands", "most", "low", "high", "middle", "demand"]
theorem sc_size_for : FnScope N_size_for ["demands", "most"] (defScope s_size_for) := ⟨rfl, rfl, rfl, by decide +kernel, rfl, by decide +kernel, by decide +kernel⟩
theorem f_size_for (T : Tx K mg) {fd : FuncData} (F : FunD K "size_for" "size_for" (defArgs s_size_for) (defBody s_size_for) (defScope s_size_for) [] [] (He.ga K "size_for") fd) : FnOk P w K mg base CX0 2 (He.ga K "size_for") fd ["demands", "most"] (spOf K cSizeFor) := by
  have nd := (sc_size_for).nd
  refine F.ok sc_size_for (sp_len (by first | exact cSizeFor_len | exact cSizeFor_len _)) (fun cdv A outer s H vs Q E hr h => ?_)
  refine ⟨_, PSs.nox ((pss_cons (ps_if (pt_cmpR op_gt (pe_callB c_len rfl T.n_len (by decide +kernel) (pa_cons (pe_lc (own := [("demand", 5)]) (g := gName 5) rfl nd (pi_list (pv 0)) (blkOk_by (own := [("demand", 5)]) (N := N_size_for) (sc := (defScope s_size_for)) (by decide +kernel)) (fun _ _ _ _ _ => (pg_name (i := 5) nd rfl (Or.inl rfl))) (fun _ _ _ _ _ => (pts_one (pt_cmpR op_gt (pv 5) pe_int (nomark _)))) (fun _ _ _ _ _ => (pv 5))) pa_nil)) (pv 1) (nomark _)) (pss_one (ps_ret pe_non)) pss_nil)
    (pss_cons (ps_par (i := 2) (j := 3) rfl nd rfl rfl (by decide) rfl rfl (pa_cons pe_int (pa_cons (pe_callB (cr_max rfl) rfl T.n_max (by decide +kernel) (pa_cons (pe_op op_cat (pv 0) (pe_lst (pa_cons pe_int pa_nil))) pa_nil)) pa_nil)) (by rfl))
    (pss_cons (ps_while PassesOwn.never (pt_cmpR op_lt (pv 2) (pv 3) (nomark _)) (pss_cons (ps_set (i := 4) nd rfl (Or.inl rfl) (pe_op op_fdivW (pe_op op_add (pv 2) (pv 3)) pe_int))
    (pss_one (ps_if (pt_cmpR op_le (pe_callC (c_fetched T) (hr.mono (by decide)) rfl (pa_cons (pv 0) (pa_cons (pv 4) pa_nil))) (pv 1) (nomark _)) (pss_one (ps_set (i := 3) nd rfl (Or.inl rfl) (pv 4))) (pss_one (ps_set (i := 2) nd rfl (Or.inl rfl) (pe_op op_add (pv 4) pe_int)))))))
    (pss_one (ps_ret (pv 2))))))), ?_⟩
  refine fn_pureB [none, none, none, none] (fun ss Φ hc => ?_) vs H Q E h
  clear h
  obtain ⟨ds, m, rfl, hd, k⟩ := hc
  have hl := hd.1
  have hl1 : ds.length ≤ 101 := by omega
  walk_at "fn0"
  walk_at "fw"
  refine ev_of_evo (evo_fmap (α := Int) (ei_list (q := false) ?_))
  walk_at "fw"
  refine ⟨ds, D.int, fun d => decide (0 < d), D.int, rfl, by rw [sizeLine_eq]; omega, rfl, fun x hx => ?_, fun a na => ?_⟩
  · walk_at "go"
    walk_at "go"
    refine ⟨fun _ => ?_, fun _ => ⟨rfl, rfl⟩⟩
    walk_at "go"
    exact rfl
  walk_at "fw"
  have ep : (((ds.filter fun d => decide (0 < d)).map D.int).length : Int) = posM ds := by unfold posM; rw [List.length_map]
  rw [ep]
  refine ⟨fun hp => ?_, fun hp => ?_⟩
  · have hp := of_decide_eq_true hp
    walk_at "fw"
    walk_at "back"
    exact k _ (.inl ⟨hp, rfl⟩)
  have hp := of_decide_eq_false hp
  walk_at "fw"
  refine ⟨ds ++ [1], by simp [O.d, D.ls], by simp, fun M hM1 hM2 => ?_⟩
  have hM3 : 1 ≤ M := hM2 1 (by simp)
  have hM4 : M ≤ 10 ^ 28 := by
    rcases List.mem_append.mp hM1 with h | h
    · exact (hd.2 M h).2
    · simp at h; omega
  have hM5 : fetchedM ds M ≤ m := by
    rw [fetchedM_max hM3 fun d h => ⟨(hd.2 d h).1, hM2 d (List.mem_append_left _ h)⟩]; omega
  walk_at "fw"
  walk_at "fwn"
  refine ex_while (fun ρ' => ∃ lo hi x, ρ' = [some (.v (.lst (ds.map D.int))), some (.v (.int m)), some (.v (.int lo)), some (.v (.int hi)), x, none] ∧ 1 ≤ lo ∧ lo ≤ hi ∧ hi ≤ 10 ^ 28 ∧ fetchedM ds hi ≤ m ∧ (1 < lo → m < fetchedM ds (lo - 1)))
    (fun ρ' => match ρ' with | [_, _, some (.v (.int lo)), some (.v (.int hi)), _, _] => (hi - lo).toNat | _ => 0) ⟨1, M, none, rfl, by omega, hM3, hM4, hM5, by omega⟩ ?_
  rintro ρ' ⟨lo, hi, x, rfl, h1, h2, h3, h4, h5⟩
  walk_at "fw"
  refine ⟨fun hb => ?_, fun hb => ?_⟩
  · have hb := of_decide_eq_true hb
    walk_at "fw"
    have hq : big ((lo + hi) / 2) := big_of (by omega) (by omega)
    walk_at "go"
    refine ⟨fun hc => ?_, fun hc => ?_⟩
    · have hc := of_decide_eq_true hc
      walk_at "go"
      refine ⟨⟨lo, (lo + hi) / 2, _, rfl, h1, by omega, by omega, hc, h5⟩, ?_⟩
      show ((lo + hi) / 2 - lo).toNat < (hi - lo).toNat
      omega
    · have hc := of_decide_eq_false hc
      walk_at "go"
      refine ⟨⟨(lo + hi) / 2 + 1, hi, _, rfl, by omega, by omega, h3, h4, fun _ => ?_⟩, ?_⟩
      · rw [Int.add_sub_cancel]; omega
      · show (hi - ((lo + hi) / 2 + 1)).toNat < (hi - lo).toNat
        omega
  · have hb := of_decide_eq_false hb
    walk_at "fw"
    walk_at "back"
    have e : lo = hi := by omega
    subst e
    exact k _ (.inr ⟨by omega, lo, rfl, h1, h3, h4, h5⟩)
theorem c_size_for (T : Tx K mg) : Cal P w K mg base 2 "size_for" ["demands", "most"] (spOf K cSizeFor) := by
  obtain ⟨fd, F⟩ := T.d_size_for
  exact ⟨⟨fd, f_size_for T F, F.bindsN fun _ _ _ _ _ _ us hl => match us, hl with | [_, _], _ => rfl⟩, T.g_size_for, F.kp⟩
abbrev N_least_size : List Str := ["demands", "most"]
theorem sc_least_size : FnScope N_least_size ["demands", "most"] (defScope s_least_size) := ⟨rfl, rfl, rfl, by decide +kernel, rfl, by decide +kernel, by decide +kernel⟩
theorem f_least_size (T : Tx K mg) {fd : FuncData} (F : FunD K "least_size" "least_size" (defArgs s_least_size) (defBody s_least_size) (defScope s_least_size) [] [] (He.ga K "least_size") fd) : FnOk P w K mg base CX0 3 (He.ga K "least_size") fd ["demands", "most"] (spOf K cLeastSize) := by
  have nd := (sc_least_size).nd
  refine F.ok sc_least_size (sp_len (by first | exact cLeastSize_len | exact cLeastSize_len _)) (fun cdv A outer s H vs Q E hr h => ?_)
  refine ⟨_, PSs.nox ((pss_cons (ps_expr (pe_callC (c_check_demands T) (hr.mono (by decide)) rfl (pa_cons (pv 0) pa_nil)))
    (pss_cons (ps_if (PW.pt (pw_or (pt_not (pt_val (pe_callC (c_is_integer T) (hr.mono (by decide)) rfl (pa_cons (pv 1) pa_nil)))) (pw_or1 (pt_cmpR op_lt (pv 1) pe_int (nomark _))))) (pss_one ps_never) pss_nil)
    (pss_one (ps_ret (pe_callC (c_size_for T) (hr.mono (by decide)) rfl (pa_cons (pv 0) (pa_cons (pv 1) pa_nil)))))))), ?_⟩
  refine fn_pureB [] (fun ss Φ hc => ?_) vs H Q E h
  clear h
  obtain ⟨ds, m, rfl, hd, h0, k⟩ := hc
  walk_at "fn0"
  walk_at "fw"
  intro r hr
  walk_at "back"
  exact k r hr
theorem c_least_size (T : Tx K mg) : Cal P w K mg base 3 "least_size" ["demands", "most"] (spOf K cLeastSize) := by
  obtain ⟨fd, F⟩ := T.d_least_size
  exact ⟨⟨fd, f_least_size T F, F.bindsN fun _ _ _ _ _ _ us hl => match us, hl with | [_, _], _ => rfl⟩, T.g_least_size, F.kp⟩
abbrev N__law_cell_at : List Str := ["_law_script", "_law_place"]
theorem sc__law_cell_at : FnScope N__law_cell_at ["_law_script", "_law_place"] (defScope s__law_cell_at) := ⟨rfl, rfl, rfl, by decide +kernel, rfl, by decide +kernel, by decide +kernel⟩
theorem f__law_cell_at (T : Tx K mg) {fd : FuncData} (F : FunD K "_law_cell_at" "_law_cell_at" (defArgs s__law_cell_at) (defBody s__law_cell_at) (defScope s__law_cell_at) [] [] (He.ga K "_law_cell_at") fd) : FnOk P w K mg base CX0 1 (He.ga K "_law_cell_at") fd ["_law_script", "_law_place"] (spOf K cCellAt) := by
  have nd := (sc__law_cell_at).nd
  refine F.ok sc__law_cell_at (sp_len (by first | exact cCellAt_len | exact cCellAt_len _)) (fun cdv A outer s H vs Q E hr h => ?_)
  refine ⟨_, PSs.nox ((pss_cons (ps_if (pt_cmpR op_lt (pv 1) (pe_callB c_len rfl T.n_len (by decide +kernel) (pa_cons (pv 0) pa_nil)) (nomark _)) (pss_one (ps_ret (pe_ix ix_seq (pv 0) (pv 1) (fun _ _ => rfl)))) pss_nil)
    (pss_one (ps_ret pe_int)))), ?_⟩
  refine fn_pureB [] (fun ss Φ hc => ?_) vs H Q E h
  clear h
  obtain ⟨ns, i, rfl, h0, k⟩ := hc
  walk_at "fn0"
  walk_at "fw"
  refine ⟨fun hb => ?_, fun hb => ?_⟩
  · have hb := of_decide_eq_true hb
    rw [List.length_map] at hb
    obtain ⟨e, h1, h2⟩ := mem_get h0 (show i < ((ns.map D.int).length : Int) by rw [List.length_map]; exact hb)
    walk_at "fw"
    refine ⟨_, e, rfl, h1, ?_⟩
    obtain ⟨j, _, rfl⟩ := List.mem_map.mp h2
    walk_at "back"
    exact k j
  · walk_at "fw"
    walk_at "back"
    exact k 0
theorem c__law_cell_at (T : Tx K mg) : Cal P w K mg base 1 "_law_cell_at" ["_law_script", "_law_place"] (spOf K cCellAt) := by
  obtain ⟨fd, F⟩ := T.d__law_cell_at
  exact ⟨⟨fd, f__law_cell_at T F, F.bindsN fun _ _ _ _ _ _ us hl => match us, hl with | [_, _], _ => rfl⟩, T.g__law_cell_at, F.kp⟩
abbrev N__law_source_of : List Str := ["_law_cell"]
theorem sc__law_source_of : FnScope N__law_source_of ["_law_cell"] (defScope s__law_source_of) := ⟨rfl, rfl, rfl, by decide +kernel, rfl, by decide +kernel, by decide +kernel⟩
theorem f__law_source_of (T : Tx K mg) {fd : FuncData} (F : FunD K "_law_source_of" "_law_source_of" (defArgs s__law_source_of) (defBody s__law_source_of) (defScope s__law_source_of) [] [] (He.ga K "_law_source_of") fd) : FnOk P w K mg base CX0 1 (He.ga K "_law_source_of") fd ["_law_cell"] (spOf K cSourceOf) := by
  have nd := (sc__law_source_of).nd
  refine F.ok sc__law_source_of (sp_len (by first | exact cSourceOf_len | exact cSourceOf_len _)) (fun cdv A outer s H vs Q E hr h => ?_)
  refine ⟨_, PSs.nox ((pss_one (ps_ret (pe_lst (pa_cons (pe_op op_mul (pv 0) (pe_callTy call_int1 rfl T.n_int (by decide +kernel) (pa_cons (pe_cmpR op_ge (pv 0) (pe_op op_pow pe_int pe_int) (nomark _)) pa_nil))) (pa_cons (pe_op op_mod (pv 0) pe_int) (pa_cons pe_int pa_nil))))))), ?_⟩
  refine fn_pureB [] (fun ss Φ hc => ?_) vs H Q E h
  clear h
  obtain ⟨c, rfl, k⟩ := hc
  have hm : 0 ≤ c % 2147483647 ∧ c % 2147483647 < 2147483647 := by omega
  walk_at "fn0"
  refine ex_retO (evo_lst (q := false) ?_)
  walk_at "fw"
  walk_at "back"
  have hp : (0 : Int) < 10 ^ Int.toNat 18 := by decide
  refine k _ _ _ ⟨?_, by omega, by omega, by omega, by omega⟩
  by_cases h : (10 : Int) ^ Int.toNat 18 ≤ c
  · rw [decide_eq_true h, if_pos rfl]; omega
  · rw [decide_eq_false h, if_neg Bool.false_ne_true]; omega
theorem c__law_source_of (T : Tx K mg) : Cal P w K mg base 1 "_law_source_of" ["_law_cell"] (spOf K cSourceOf) := by
  obtain ⟨fd, F⟩ := T.d__law_source_of
  exact ⟨⟨fd, f__law_source_of T F, F.bindsN fun _ _ _ _ _ _ us hl => match us, hl with | [_], _ => rfl⟩, T.g__law_source_of, F.kp⟩
abbrev N__law_draw : List Str := ["_law_source", "_law_bound", "_law_result", "_law_reach", "_law_prime", "_law_mixed"]
theorem sc__law_draw : FnScope N__law_draw ["_law_source", "_law_bound"] (defScope s__law_draw) := ⟨rfl, rfl, rfl, by decide +kernel, rfl, by decide +kernel, by decide +kernel⟩
theorem f__law_draw (T : Tx K mg) {fd : FuncData} (F : FunD K "_law_draw" "_law_draw" (defArgs s__law_draw) (defBody s__law_draw) (defScope s__law_draw) [] [] (He.ga K "_law_draw") fd) : FnOk P w K mg base CX0 1 (He.ga K "_law_draw") fd ["_law_source", "_law_bound"] (spOf K cDraw) := by
  have nd := (sc__law_draw).nd
  refine F.ok sc__law_draw (sp_len (by first | exact cDraw_len | exact cDraw_len _)) (fun cdv A outer s H vs Q E hr h => ?_)
  refine ⟨_, PSs.nox ((pss_cons (ps_if (pt_cmpR op_gt (pe_ix ix_seq (pv 0) pe_int (fun _ _ => rfl)) pe_int (nomark _)) (pss_cons (ps_set (i := 2) nd rfl (Or.inl rfl) (pe_op op_mod (pe_ix ix_seq (pv 0) pe_int (fun _ _ => rfl)) (pv 1)))
    (pss_cons (ps_asg (pe_op op_fdivW (pe_ix ix_seq (pv 0) pe_int (fun _ _ => rfl)) (pv 1)) (pg_sub (pv 0) pe_int set_list))
    (pss_one (ps_ret (pv 2))))) pss_nil)
    (pss_cons (ps_asg (pe_tup (pa_cons pe_int (pa_cons pe_int pa_nil))) (pg_tup rfl (pgs_cons (pg_name (i := 2) nd rfl (Or.inl rfl)) (pgs_cons (pg_name (i := 3) nd rfl (Or.inl rfl)) pgs_nil))))
    (pss_cons (ps_while PassesOwn.never (pt_cmpR op_lt (pv 3) (pv 1) (nomark _)) (pss_cons (ps_asg (pe_op op_add (pe_ix ix_seq (pv 0) pe_int (fun _ _ => rfl)) pe_int) (pg_sub (pv 0) pe_int set_list))
    (pss_cons (ps_set (i := 4) nd rfl (Or.inl rfl) (pe_ix ix_seq (pe_lst (pa_cons pe_int (pa_cons pe_int (pa_cons pe_int (pa_cons pe_int (pa_cons pe_int (pa_cons pe_int (pa_cons pe_int pa_nil)))))))) (pe_op op_mod (pe_ix ix_seq (pv 0) pe_int (fun _ _ => rfl)) pe_int) (fun _ _ => rfl)))
    (pss_cons (ps_set (i := 5) nd rfl (Or.inl rfl) (pe_op op_mod (pe_op op_pow (pe_op op_add (pe_op op_add (pe_ix ix_seq (pv 0) pe_int (fun _ _ => rfl)) (pe_op op_mul pe_int (pe_ix ix_seq (pv 0) pe_int (fun _ _ => rfl)))) pe_int) pe_int) (pv 4)))
    (pss_cons (ps_set (i := 5) nd rfl (Or.inl rfl) (pe_op op_mod (pe_op op_mul (pe_op op_add (pv 5) (pe_ix ix_seq (pv 0) pe_int (fun _ _ => rfl))) (pe_op op_add (pe_op op_fdivW (pv 5) pe_int) pe_int)) (pv 4)))
    (pss_one (ps_par (i := 2) (j := 3) rfl nd rfl rfl (by decide) rfl rfl (pa_cons (pe_op op_add (pe_op op_mul (pv 2) pe_int) (pe_op op_fdivW (pv 5) pe_int)) (pa_cons (pe_op op_mul (pv 3) pe_int) pa_nil)) (by rfl))))))))
    (pss_one (ps_ret (pe_op op_mod (pv 2) (pv 1)))))))), ?_⟩
  refine fn_pureB [none, none, none, none] (fun ss Φ hc => ?_) vs H Q E h
  clear h
  obtain ⟨a, x, y, z, m, b, rfl, ⟨hx, hy, hy2, hz, hzb⟩, hb, h0, hm, k⟩ := hc
  have hbig : CDivW x m := bigDiv h0 (big_of (by omega) (by omega))
  walk_at "fn0"
  walk_at "fw"
  refine ⟨fun hp => ?_, fun hp => ?_⟩
  · have hp := of_decide_eq_true hp
    walk_at "fw"
    walk_at "back"
    exact k _ _ _ _ (Int.emod_nonneg _ (by omega)) (Int.emod_lt_of_pos _ h0) ⟨Int.ediv_nonneg hx (by omega), hy, hy2, hz, by omega⟩
  have hp := of_decide_eq_false hp
  walk_at "fw"
  walk_at "fwn"
  refine ex_while (fun ρ' => ∃ z' res rch p1 p2, ρ' = [some (.o a (.lst [.int x, .int y, .int z'])), some (.v (.int m)), some (.v (.int res)), some (.v (.int rch)), p1, p2] ∧ RZ rch z z')
    (fun ρ' => match ρ' with | [_, _, _, some (.v (.int r)), _, _] => (m - r).toNat | _ => 0) ⟨z, 0, 1, none, none, rfl, .inl ⟨rfl, rfl⟩⟩ ?_
  rintro ρ' ⟨z', res, rch, p1, p2, rfl, hR⟩
  obtain ⟨hR1, hR2, hR3⟩ := hR.pos
  walk_at "fw"
  refine ⟨fun hb => ?_, fun hb => ?_⟩
  · have hb := of_decide_eq_true hb
    have hN := hR.next hb hm
    obtain ⟨p, hp1, hp2, hp3⟩ := prime_at (show 0 ≤ (z' + 1) % 7 by omega) (show (z' + 1) % 7 < 7 by omega)
    have hp0 : 0 < p := by omega
    have e1 := Int.emod_nonneg ((y + 7919 * (z' + 1) + 1) ^ (Int.toNat 5)) (show p ≠ 0 by omega)
    have e2 := Int.emod_lt_of_pos ((y + 7919 * (z' + 1) + 1) ^ (Int.toNat 5)) hp0
    walk_at "fw"
    refine ⟨_, _, rfl, hp1, ?_⟩
    walk_at "fw"
    refine ⟨⟨z' + 1, _, _, _, _, rfl, hN⟩, ?_⟩
    show (m - rch * 300000007).toNat < (m - rch).toNat
    omega
  · have hb := of_decide_eq_false hb
    walk_at "fw"
    walk_at "back"
    exact k _ _ _ _ (Int.emod_nonneg _ (by omega)) (Int.emod_lt_of_pos _ h0) ⟨hx, hy, hy2, by omega, by omega⟩
theorem c__law_draw (T : Tx K mg) : Cal P w K mg base 1 "_law_draw" ["_law_source", "_law_bound"] (spOf K cDraw) := by
  obtain ⟨fd, F⟩ := T.d__law_draw
  exact ⟨⟨fd, f__law_draw T F, F.bindsN fun _ _ _ _ _ _ us hl => match us, hl with | [_, _], _ => rfl⟩, T.g__law_draw, F.kp⟩
abbrev N__law_choice : List Str := ["_law_source", "_law_options"]
theorem sc__law_choice : FnScope N__law_choice ["_law_source", "_law_options"] (defScope s__law_choice) := ⟨rfl, rfl, rfl, by decide +kernel, rfl, by decide +kernel, by decide +kernel⟩
theorem f__law_choice (T : Tx K mg) {fd : FuncData} (F : FunD K "_law_choice" "_law_choice" (defArgs s__law_choice) (defBody s__law_choice) (defScope s__law_choice) [] [] (He.ga K "_law_choice") fd) : FnOk P w K mg base CX0 2 (He.ga K "_law_choice") fd ["_law_source", "_law_options"] (spOf K cChoice) := by
  have nd := (sc__law_choice).nd
  refine F.ok sc__law_choice (sp_len (by first | exact cChoice_len | exact cChoice_len _)) (fun cdv A outer s H vs Q E hr h => ?_)
  refine ⟨_, PSs.nox ((pss_one (ps_ret (pe_ix ix_seq (pv 1) (pe_callC (c__law_draw T) (hr.mono (by decide)) rfl (pa_cons (pv 0) (pa_cons (pe_callB c_len rfl T.n_len (by decide +kernel) (pa_cons (pv 1) pa_nil)) pa_nil))) (fun _ _ => rfl))))), ?_⟩
  refine fn_pureB [] (fun ss Φ hc => ?_) vs H Q E h
  clear h
  obtain ⟨a, x, y, z, os, b, rfl, hS, hb, h0, h1, k⟩ := hc
  walk_at "fn0"
  refine ex_ret (q := false) (ev_ixV ?_)
  walk_at "fw"
  refine ⟨_, _, _, _, _, b, rfl, hS, hb, by omega, by omega, fun r x' y' z' h2 h3 h4 => ?_⟩
  obtain ⟨e, h5, h6⟩ := mem_get h2 h3
  walk_at "go"
  refine ⟨_, _, rfl, h5, ?_⟩
  walk_at "back"
  exact k e _ _ _ h6 h4
theorem c__law_choice (T : Tx K mg) : Cal P w K mg base 2 "_law_choice" ["_law_source", "_law_options"] (spOf K cChoice) := by
  obtain ⟨fd, F⟩ := T.d__law_choice
  exact ⟨⟨fd, f__law_choice T F, F.bindsN fun _ _ _ _ _ _ us hl => match us, hl with | [_, _], _ => rfl⟩, T.g__law_choice, F.kp⟩
end
end Fw

set_option Elab.async false
set_option linter.all false
set_option maxRecDepth 100000
set_option maxHeartbeats 4000000
namespace Fw
open PySem L2
local macro_rules | `(tactic| walk_at "fwx") => `(tactic| first
  | (with_reducible refine ex_seq ?_)
  | (with_reducible refine ex_next ?_)
  | (with_reducible refine ex_if (q := false) ?_)
  | (with_reducible refine ex_retN ?_)
  | (with_reducible refine ex_break ?_)
  | (with_reducible refine ex_cont ?_)
  | (with_reducible refine ex_setL (q := false) ?_)
  | (with_reducible refine ex_setO (evo_lst (q := false) ?_))
  | (with_reducible refine ex_setO (evo_dnew ?_))
  | (with_reducible refine ex_set (q := false) ?_)
  | (with_reducible refine ex_asg (q := false) ?_)
  | (with_reducible refine ex_dput (q := false) ?_)
  | (with_reducible refine ex_par (q := false) ?_)
  | (with_reducible refine ex_append (q := false) ?_ ⟨_, _, rfl⟩)
  | (with_reducible refine ex_drop (q := false) ?_)
  | ((with_reducible refine' ex_retS ?h ?_); (case h => rfl))
  | (with_reducible refine ex_ret (q := false) ?_)
  | ((with_reducible refine gt_name ?h ?_); (case h => (intro l z; first | (cases z; done) | (cases z; decide))))
  | ((with_reducible refine' gt_tup ?h ?_); (case h => rfl))
  | (with_reducible refine gts_cons ?_)
  | (with_reducible refine gts_nil ?_))
local macro_rules | `(tactic| walk_at "fwt") => `(tactic| first
  | (with_reducible refine et_test ?_)
  | (with_reducible refine et_tB ?_)
  | (with_reducible refine et_and ?_)
  | (with_reducible refine et_or ?_)
  | (with_reducible refine et_not ?_)
  | (with_reducible refine et_yes ?_))
local macro_rules | `(tactic| walk_at "fwe") => `(tactic| first
  | ((with_reducible refine' ev_var ?h ?_); (case h => rfl))
  | (with_reducible refine ev_int ?_)
  | (with_reducible refine ev_bl ?_)
  | (with_reducible refine ev_str ?_)
  | (with_reducible refine ev_non ?_)
  | ((with_reducible refine' evb_own ?h ?_); (case h => rfl))
  | (with_reducible refine evb_of ?_)
  | (with_reducible refine ev_add ?_)
  | (with_reducible refine ev_sub ?_)
  | (with_reducible refine ev_mulS ?_)
  | (with_reducible refine ev_mul ?_)
  | (with_reducible refine ev_div ?_)
  | (with_reducible refine ev_mod ?_)
  | (with_reducible refine ev_pow ?_)
  | (with_reducible refine ev_lt ?_)
  | (with_reducible refine ev_le ?_)
  | (with_reducible refine ev_gt ?_)
  | (with_reducible refine ev_ge ?_)
  | (with_reducible refine ev_neg ?_)
  | (with_reducible refine ev_ltT ?_)
  | (with_reducible refine ev_chainI ?_)
  | (with_reducible refine ev_minP ?_)
  | (with_reducible refine ev_eq ?_)
  | (with_reducible refine ev_ne ?_)
  | (with_reducible refine ev_isN ?_)
  | (with_reducible refine ev_notN ?_)
  | (with_reducible refine ev_and ?_)
  | (with_reducible refine ev_or ?_)
  | (with_reducible refine ev_not ?_)
  | (with_reducible refine ev_if ?_)
  | (with_reducible refine ev_len ?_)
  | (with_reducible refine ev_sum ?_)
  | (with_reducible refine ev_all ?_)
  | (with_reducible refine ev_any ?_)
  | (with_reducible refine ev_max2 ?_)
  | (with_reducible refine ev_min2 ?_)
  | (with_reducible refine ev_intB ?_)
  | (with_reducible refine ev_isi ?_)
  | (with_reducible refine ev_ix ?_)
  | (with_reducible refine ev_tup ?_)
  | (with_reducible refine ev_popAt ⟨_, _, rfl⟩ ?_)
  | (with_reducible refine ev_max ?_)
  | (with_reducible refine ev_min ?_)
  | (with_reducible refine ev_of_evo (evo_catV (q := false) ?_))
  | (with_reducible refine ev_of_evo (evo_list (q := false) ?_))
  | (with_reducible refine ev_of_evo (evo_slice (q := false) ?_))
  | (with_reducible refine ev_dget ?_)
  | (with_reducible refine ev_dget2 ?_)
  | (with_reducible refine ev_din ?_)
  | (with_reducible refine ev_dnotin ?_)
  | (with_reducible refine ev_fld ?_)
  | (with_reducible refine ev_of_evo (evo_lst (q := false) ?_))
  | (with_reducible refine ev_call0 ?_)
  | (with_reducible refine evd_nil ?_)
  | (with_reducible refine evd_cons ?_)
  | (with_reducible refine eva_nil ?_)
  | ((with_reducible refine' eva_s ?h ?_); (case h => rfl))
  | (with_reducible refine eva_v ?_)
  | (with_reducible refine eo_none ?_)
  | (with_reducible refine eo_some ?_))
local macro_rules | `(tactic| walk_at "fw1") => `(tactic| first
  | walk_at "fwe" | walk_at "fwt" | walk_at "fwx" | (refine ⟨_, rfl, ?_⟩) | (refine ⟨_, _, rfl, rfl, ?_⟩) | (refine ⟨_, _, rfl, ?_⟩) | walk_at "fwb" | (refine And.intro rfl ?_) | (refine And.intro (by walk_at "side") ?_) | (with_reducible refine (fun (a : Addr) (na : a ∉ owns _) => ?_ : ∀ a : Addr, a ∉ owns _ → _)))
local macro_rules | `(tactic| walk_at "fwb") => `(tactic| first
  | (refine bT rfl ?_)
  | (refine bF rfl ?_)
  | (refine And.intro (fun hb => absurd hb (by decide)) (fun _ => ?_))
  | (refine And.intro (fun _ => ?_) (fun hb => absurd hb (by decide)))
  | (refine And.intro (fun hb => absurd (of_decide_eq_true hb) (by omega)) (fun _ => ?_))
  | (refine And.intro (fun _ => ?_) (fun hb => absurd (of_decide_eq_false hb) (by omega)))
  | (refine And.intro (fun hb => absurd (of_decide_eq_true hb) (by (simp only [List.length_map]; omega))) (fun _ => ?_)))
local macro_rules | `(tactic| walk_at "side") => `(tactic| first
  | assumption
  | omega
  | decide
  | (exact ⟨by decide, by decide +kernel⟩)
  | (exact Or.inr ⟨by omega, by omega⟩)
  | (exact Or.inl ⟨by omega, by omega⟩)
  | (exact ⟨by decide, by decide, by omega⟩)
  | ((with_reducible show _ < sizeLine); (simp only [List.length_cons, List.length_nil, List.length_map, List.length_append, sizeLine_eq]; omega))
  | ((with_reducible show _ ≤ sizeLine); (simp only [List.length_cons, List.length_nil, List.length_map, List.length_append, sizeLine_eq]; omega)))
local macro_rules | `(tactic| walk_at "fw") => `(tactic| repeat walk_at "fw1")
local macro_rules | `(tactic| walk_at "fwn") => `(tactic| (try dsimp only [List.map, List.set, wipeE, List.cons_append, List.nil_append, bk, Ar.sl, O.d, Sl.d]))
local macro_rules | `(tactic| walk_at "go") => `(tactic| (walk_at "fwn"; walk_at "fw"))
local macro_rules | `(tactic| walk_at "fn0") => `(tactic| (refine ⟨⟨Nat.le_of_ble_eq_true rfl, rfl⟩, ?_⟩; dsimp only [List.map, cxOf_K, Cx.wish, List.cons_append, List.nil_append]))
local macro_rules | `(tactic| walk_at "bk1") => `(tactic| first | exact Back.nil | (with_reducible apply Back.v) | (with_reducible apply Back.o))
local macro_rules | `(tactic| walk_at "back") => `(tactic| (walk_at "fwn"; (first | refine' fnE_rt ?b ?_ | refine' fnE_nx ?b ?_); (case b => repeat walk_at "bk1")))

section
variable {P : Program} {w : World} {K : PySem.W.Frag} {mg : Str → Option Value} {base : Heap}
abbrev N_best_size : List Str := ["demands", "most", "found", "size", "count"]
theorem sc_best_size : FnScope N_best_size ["demands", "most"] (defScope s_best_size) := ⟨rfl, rfl, rfl, by decide +kernel, rfl, by decide +kernel, by decide +kernel⟩
theorem f_best_size (T : Tx K mg) {fd : FuncData} (F : FunD K "best_size" "best_size" (defArgs s_best_size) (defBody s_best_size) (defScope s_best_size) [] [] (He.ga K "best_size") fd) : FnOk P w K mg base CX0 4 (He.ga K "best_size") fd ["demands", "most"] (spOf K cBest) := by
  have nd := (sc_best_size).nd
  refine F.ok sc_best_size (sp_len (by first | exact cBest_len | exact cBest_len _)) (fun cdv A outer s H vs Q E hr h => ?_)
  refine ⟨_, PSs.nox ((pss_cons (ps_expr (pe_callC (c_check_demands T) (hr.mono (by decide)) rfl (pa_cons (pv 0) pa_nil)))
    (pss_cons (ps_expr (pe_callC (c_check_between T) (hr.mono (by decide)) rfl (pa_cons pe_str (pa_cons (pv 1) (pa_cons pe_int (pa_cons (pe_globI rfl T.k_MOST_DEMANDS) pa_nil))))))
    (pss_cons (ps_set (i := 2) nd rfl (Or.inl rfl) (pe_lst pa_nil))
    (pss_cons (ps_set (i := 3) nd rfl (Or.inl rfl) (pe_callC (c_size_for T) (hr.mono (by decide)) rfl (pa_cons (pv 0) (pa_cons (pv 1) pa_nil))))
    (pss_cons (ps_while PassesOwn.never (pt_cmpR op_notN (pv 3) pe_non (nomark _)) (pss_cons (ps_set (i := 4) nd rfl (Or.inl rfl) (pe_callC (c_fetched T) (hr.mono (by decide)) rfl (pa_cons (pv 0) (pa_cons (pv 3) pa_nil))))
    (pss_cons (ps_expr (pe_bm PySem.F.plainAttrs_list PySem.F.slot_list_append PySem.F.type_list_append mt_append (pv 2) (pa_cons (pe_tup (pa_cons (pe_op op_sub (pe_op op_mulW (pv 3) (pv 4)) (pe_callB (cr_sum rfl) rfl T.n_sum (by decide +kernel) (pa_cons (pv 0) pa_nil))) (pa_cons (pv 3) pa_nil))) pa_nil)))
    (pss_one (ps_set (i := 3) nd rfl (Or.inl rfl) (pe_ifExp (pt_cmpR op_gt (pv 4) pe_int (nomark _)) (pe_callC (c_size_for T) (hr.mono (by decide)) rfl (pa_cons (pv 0) (pa_cons (pe_op op_sub (pv 4) pe_int) pa_nil))) pe_non))))))
    (pss_one (ps_ret (pe_callBK (cr_minDef rfl hr.units) rfl T.n_min (by decide +kernel) (pa_cons (pv 2) pa_nil) (pk_cons pe_non pk_nil)))))))))), ?_⟩
  refine fn_pureB [none, none, none] (fun ss Φ hc => ?_) vs H Q E h
  clear h
  obtain ⟨ds, m, rfl, hd, h0, h1, k⟩ := hc
  have hl := hd.1
  have hl1 : ds.length ≤ 101 := by omega
  walk_at "fn0"
  walk_at "fw"
  refine ⟨_, m, 0, 100, rfl, h0, h1, ?_⟩
  walk_at "go"
  rename_i a na
  intro r hr
  walk_at "go"
  refine ex_while (fun ρ' => ∃ ps c r x, ρ' = [some (.v (.lst (ds.map D.int))), some (.v (.int m)), some (.o a (.lst (ps.map prD))), some (.v r), x] ∧ Chn ds m ps c ∧ SzOk ds c r)
    (fun ρ' => match ρ' with | [_, _, some (.o _ (.lst ps)), _, _] => 102 - ps.length | _ => 0) ⟨[], m, r, none, rfl, ⟨Int.le_refl _, by omega, by simp, fun _ => rfl, by simp, fun a ha => .inl ha.2⟩, hr⟩ ?_
  rintro ρ' ⟨ps, c, r, x, rfl, hC, hz⟩
  walk_at "fw"
  refine ⟨fun hb => ?_, fun hb => ?_⟩
  · rcases id hz with ⟨_, rfl⟩ | ⟨_, L, rfl, _⟩
    · exact absurd hb (by decide)
    obtain ⟨h2, h3, h4, h5, hC'⟩ := hC.next hd hz
    have hq : big L := big_of (by omega) (by omega)
    walk_at "go"
    refine ⟨bigMul hq (fetchedM_big hd (by omega) (by omega)), ?_⟩
    walk_at "go"
    have hps : (ps.map prD ++ [D.tup [D.int (L * fetchedM ds L - ds.sum), D.int L]]) = (ps ++ [(wst ds L, L)]).map prD := by simp [prD, wst]
    have hms : 102 - (ps.map prD ++ [D.tup [D.int (L * fetchedM ds L - ds.sum), D.int L]]).length < 102 - (ps.map prD).length := by
      rw [List.length_append, List.length_map, List.length_singleton]; omega
    refine ⟨fun hc => ?_, fun hc => ?_⟩
    · walk_at "go"
      intro r2 hr2
      walk_at "go"
      exact ⟨⟨ps ++ [(wst ds L, L)], fetchedM ds L - 1, r2, some (.v (.int (fetchedM ds L))), by rw [hps], hC', hr2⟩, hms⟩
    · have hc := of_decide_eq_false hc
      walk_at "go"
      exact ⟨⟨ps ++ [(wst ds L, L)], fetchedM ds L - 1, .non, some (.v (.int (fetchedM ds L))), by rw [hps]; rfl, hC', .inl ⟨by unfold posM; omega, rfl⟩⟩, hms⟩
  · rcases id hz with ⟨hz1, rfl⟩ | ⟨_, L, rfl, _⟩
    · obtain ⟨k1, k2⟩ := hC.done hd hz1
      walk_at "go"
      refine ⟨fun e => ?_, fun q hq hm => ?_⟩
      · walk_at "back"
        exact k _ (k1 e)
      · walk_at "back"
        exact k _ (k2 q hq hm)
    · exact absurd hb (by simp [D.isN])
theorem c_best_size (T : Tx K mg) : Cal P w K mg base 4 "best_size" ["demands", "most"] (spOf K cBest) := by
  obtain ⟨fd, F⟩ := T.d_best_size
  exact ⟨⟨fd, f_best_size T F, F.bindsN fun _ _ _ _ _ _ us hl => match us, hl with | [_, _], _ => rfl⟩, T.g_best_size, F.kp⟩
abbrev N__law_tried : List Str := ["_law_demands", "_law_most", "_law_found", "_law_amount", "_law_many", "_law_demand"]
theorem sc__law_tried : FnScope N__law_tried ["_law_demands", "_law_most"] (defScope s__law_tried) := ⟨rfl, rfl, rfl, by decide +kernel, rfl, by decide +kernel, by decide +kernel⟩
theorem f__law_tried (T : Tx K mg) {fd : FuncData} (F : FunD K "_law_tried" "_law_tried" (defArgs s__law_tried) (defBody s__law_tried) (defScope s__law_tried) [] [] (He.ga K "_law_tried") fd) : FnOk P w K mg base CX0 1 (He.ga K "_law_tried") fd ["_law_demands", "_law_most"] (spOf K cTried) := by
  have nd := (sc__law_tried).nd
  refine F.ok sc__law_tried (sp_len (by first | exact cTried_len | exact cTried_len _)) (fun cdv A outer s H vs Q E hr h => ?_)
  refine ⟨_, PSs.nox ((pss_cons (ps_set (i := 2) nd rfl (Or.inl rfl) (pe_lst pa_nil))
    (pss_cons (ps_for PassesOwn.never rfl (pi_range2 rfl T.n_range (pa_cons pe_int (pa_cons (pe_op op_add (pe_callB (cr_max rfl) rfl T.n_max (by decide +kernel) (pa_cons (pe_op op_cat (pv 0) (pe_lst (pa_cons pe_int pa_nil))) pa_nil)) pe_int) pa_nil))) (pg_name (i := 3) nd rfl (Or.inr rfl)) (pss_cons (ps_set (i := 4) nd rfl (Or.inl rfl) (pe_callB (cr_sum rfl) rfl T.n_sum (by decide +kernel) (pa_cons (pe_lc (own := [("_law_demand", 5)]) (g := gName 5) (tt := tYes) rfl nd (pi_list (pv 0)) (blkOk_by (own := [("_law_demand", 5)]) (N := N__law_tried) (sc := (defScope s__law_tried)) (by decide +kernel)) (fun _ _ _ _ _ => (pg_name (i := 5) nd rfl (Or.inl rfl))) (fun _ _ _ _ _ => pts_nil) (fun _ _ _ _ _ => (pe_op op_sub pe_int (pe_op op_fdivW (pe_op op_sub pe_int (pv 5)) (pv 3))))) pa_nil)))
    (pss_one (ps_if (pt_cmpR op_le (pv 4) (pv 1) (nomark _)) (pss_one (ps_expr (pe_bm PySem.F.plainAttrs_list PySem.F.slot_list_append PySem.F.type_list_append mt_append (pv 2) (pa_cons (pe_tup (pa_cons (pe_op op_sub (pe_op op_mul (pv 3) (pv 4)) (pe_callB (cr_sum rfl) rfl T.n_sum (by decide +kernel) (pa_cons (pv 0) pa_nil))) (pa_cons (pv 3) pa_nil))) pa_nil)))) pss_nil))))
    (pss_one (ps_ret (pe_callBK (cr_minDef rfl hr.units) rfl T.n_min (by decide +kernel) (pa_cons (pv 2) pa_nil) (pk_cons pe_non pk_nil))))))), ?_⟩
  refine fn_pureB [none, none, none, none] (fun ss Φ hc => ?_) vs H Q E h
  clear h
  obtain ⟨ds, m, rfl, hl, hdd, h0, k⟩ := hc
  have hd : Dem ds := ⟨by omega, fun d hx => by have := hdd d hx; omega⟩
  walk_at "fn0"
  walk_at "fw"
  rename_i a na
  walk_at "fwn"
  refine ex_seq (ex_for (ei_range2 (q := false) ?_))
  walk_at "fw"
  refine ⟨ds ++ [1], by simp [O.d, D.ls], by simp, fun M hM1 hM2 => ?_⟩
  have hM3 : 1 ≤ M := hM2 1 (by simp)
  have hM4 : M ≤ 200 := by
    rcases List.mem_append.mp hM1 with h | h
    · exact (hdd M h).2
    · simp at h; omega
  walk_at "fw"
  refine ⟨fun k' ρ' => ∃ ps y3 y4, ρ' = [some (.v (.lst (ds.map D.int))), some (.v (.int m)), some (.o a (.lst (ps.map prD))), y3, y4, none] ∧ ps.length ≤ k' ∧ Trd ds m ps k', ⟨[], none, none, rfl, by simp, ⟨by simp, fun a ha hf => absurd hf.1 (by omega)⟩⟩, ?_, ?_⟩
  · rintro k' d ρ' hk ⟨ps, y3, y4, rfl, hp, hT⟩
    obtain ⟨hk1, rfl⟩ := rangeD_get hk
    have hA : 1 + (k' : Int) = (k' : Int) + 1 := by omega
    rw [hA]
    have hk2 : (k' : Int) ≤ 201 := by omega
    obtain ⟨t1, t2⟩ := hT.next (by omega) (by omega)
    have ha0 : 0 < (k' : Int) + 1 := by omega
    have hab : big ((k' : Int) + 1) := big_of (by omega) (by omega)
    walk_at "go"
    refine ev_of_evo (evo_map (α := Int) (ei_list (q := false) ?_))
    walk_at "fw"
    refine ⟨ds, D.int, fun d => D.int ((d + ((k' : Int) + 1) - 1) / ((k' : Int) + 1)), rfl, by rw [sizeLine_eq]; omega, rfl, fun x hx => ?_, fun a' na' => ?_⟩
    · walk_at "go"
      walk_at "go"
      refine ⟨bigDiv ha0 hab, ?_⟩
      walk_at "fw"
      exact ⟨congrArg D.int (ceil_eq ha0), rfl, rfl⟩
    refine ⟨ds.map fun d => (d + ((k' : Int) + 1) - 1) / ((k' : Int) + 1), by simp [O.d, D.ls, Function.comp_def], ?_⟩
    have es : (ds.map fun d => (d + ((k' : Int) + 1) - 1) / ((k' : Int) + 1)).sum = fetchedM ds ((k' : Int) + 1) := rfl
    rw [es]
    walk_at "go"
    refine ⟨fun hb => ?_, fun hb => ?_⟩
    · have hb := of_decide_eq_true hb
      walk_at "go"
      exact ⟨ps ++ [(wst ds ((k' : Int) + 1), (k' : Int) + 1)], some (.v (.int ((k' : Int) + 1))), some (.v (.int (fetchedM ds ((k' : Int) + 1)))), by simp [prD, wst], by simp; omega, by push_cast; exact t1 hb⟩
    · have hb := of_decide_eq_false hb
      walk_at "go"
      exact ⟨ps, _, _, rfl, by omega, by push_cast; exact t2 (by omega)⟩
  · rintro ρ' ⟨ps, y3, y4, rfl, hp, hT⟩
    obtain ⟨k1, k2⟩ := hT.done hd hM3 (fun d hx => hM2 d (by simp [hx])) (by rw [rangeD_len]; omega)
    refine ex_next ?_
    walk_at "go"
    refine ⟨fun e => ?_, fun q hq hm => ?_⟩
    · walk_at "back"
      exact k _ (k1 e)
    · walk_at "back"
      exact k _ (k2 q hq hm)
theorem c__law_tried (T : Tx K mg) : Cal P w K mg base 1 "_law_tried" ["_law_demands", "_law_most"] (spOf K cTried) := by
  obtain ⟨fd, F⟩ := T.d__law_tried
  exact ⟨⟨fd, f__law_tried T F, F.bindsN fun _ _ _ _ _ _ us hl => match us, hl with | [_, _], _ => rfl⟩, T.g__law_tried, F.kp⟩
end
end Fw

set_option Elab.async false
set_option linter.all false
set_option maxRecDepth 100000
set_option maxHeartbeats 4000000
namespace Fw
open PySem L2
local macro_rules | `(tactic| walk_at "fwx") => `(tactic| first
  | (with_reducible refine ex_seq ?_)
  | (with_reducible refine ex_next ?_)
  | (with_reducible refine ex_if (q := false) ?_)
  | (with_reducible refine ex_retN ?_)
  | (with_reducible refine ex_break ?_)
  | (with_reducible refine ex_cont ?_)
  | (with_reducible refine ex_setL (q := false) ?_)
  | (with_reducible refine ex_setO (evo_lst (q := false) ?_))
  | (with_reducible refine ex_setO (evo_dnew ?_))
  | (with_reducible refine ex_set (q := false) ?_)
  | (with_reducible refine ex_asg (q := false) ?_)
  | (with_reducible refine ex_dput (q := false) ?_)
  | (with_reducible refine ex_par (q := false) ?_)
  | (with_reducible refine ex_append (q := false) ?_ ⟨_, _, rfl⟩)
  | (with_reducible refine ex_drop (q := false) ?_)
  | ((with_reducible refine' ex_retS ?h ?_); (case h => rfl))
  | (with_reducible refine ex_ret (q := false) ?_)
  | ((with_reducible refine gt_name ?h ?_); (case h => (intro l z; first | (cases z; done) | (cases z; decide))))
  | ((with_reducible refine' gt_tup ?h ?_); (case h => rfl))
  | (with_reducible refine gts_cons ?_)
  | (with_reducible refine gts_nil ?_))
local macro_rules | `(tactic| walk_at "fwt") => `(tactic| first
  | (with_reducible refine et_test ?_)
  | (with_reducible refine et_tB ?_)
  | (with_reducible refine et_and ?_)
  | (with_reducible refine et_or ?_)
  | (with_reducible refine et_not ?_)
  | (with_reducible refine et_yes ?_))
local macro_rules | `(tactic| walk_at "fwe") => `(tactic| first
  | ((with_reducible refine' ev_var ?h ?_); (case h => rfl))
  | (with_reducible refine ev_int ?_)
  | (with_reducible refine ev_bl ?_)
  | (with_reducible refine ev_str ?_)
  | (with_reducible refine ev_non ?_)
  | ((with_reducible refine' evb_own ?h ?_); (case h => rfl))
  | (with_reducible refine evb_of ?_)
  | (with_reducible refine ev_add ?_)
  | (with_reducible refine ev_sub ?_)
  | (with_reducible refine ev_mulS ?_)
  | (with_reducible refine ev_mul ?_)
  | (with_reducible refine ev_div ?_)
  | (with_reducible refine ev_mod ?_)
  | (with_reducible refine ev_pow ?_)
  | (with_reducible refine ev_lt ?_)
  | (with_reducible refine ev_le ?_)
  | (with_reducible refine ev_gt ?_)
  | (with_reducible refine ev_ge ?_)
  | (with_reducible refine ev_neg ?_)
  | (with_reducible refine ev_ltT ?_)
  | (with_reducible refine ev_chainI ?_)
  | (with_reducible refine ev_minP ?_)
  | (with_reducible refine ev_eq ?_)
  | (with_reducible refine ev_ne ?_)
  | (with_reducible refine ev_isN ?_)
  | (with_reducible refine ev_notN ?_)
  | (with_reducible refine ev_and ?_)
  | (with_reducible refine ev_or ?_)
  | (with_reducible refine ev_not ?_)
  | (with_reducible refine ev_if ?_)
  | (with_reducible refine ev_len ?_)
  | (with_reducible refine ev_sum ?_)
  | (with_reducible refine ev_all ?_)
  | (with_reducible refine ev_any ?_)
  | (with_reducible refine ev_max2 ?_)
  | (with_reducible refine ev_min2 ?_)
  | (with_reducible refine ev_intB ?_)
  | (with_reducible refine ev_isi ?_)
  | (with_reducible refine ev_ix ?_)
  | (with_reducible refine ev_tup ?_)
  | (with_reducible refine ev_popAt ⟨_, _, rfl⟩ ?_)
  | (with_reducible refine ev_max ?_)
  | (with_reducible refine ev_min ?_)
  | (with_reducible refine ev_of_evo (evo_catV (q := false) ?_))
  | (with_reducible refine ev_of_evo (evo_list (q := false) ?_))
  | (with_reducible refine ev_of_evo (evo_slice (q := false) ?_))
  | (with_reducible refine ev_dget ?_)
  | (with_reducible refine ev_dget2 ?_)
  | (with_reducible refine ev_din ?_)
  | (with_reducible refine ev_dnotin ?_)
  | (with_reducible refine ev_fld ?_)
  | (with_reducible refine ev_of_evo (evo_lst (q := false) ?_))
  | (with_reducible refine ev_call0 ?_)
  | (with_reducible refine evd_nil ?_)
  | (with_reducible refine evd_cons ?_)
  | (with_reducible refine eva_nil ?_)
  | ((with_reducible refine' eva_s ?h ?_); (case h => rfl))
  | (with_reducible refine eva_v ?_)
  | (with_reducible refine eo_none ?_)
  | (with_reducible refine eo_some ?_))
local macro_rules | `(tactic| walk_at "fw1") => `(tactic| first
  | walk_at "fwe" | walk_at "fwt" | walk_at "fwx" | (refine ⟨_, rfl, ?_⟩) | (refine ⟨_, _, rfl, rfl, ?_⟩) | (refine ⟨_, _, rfl, ?_⟩) | walk_at "fwb" | (refine And.intro rfl ?_) | (refine And.intro (by walk_at "side") ?_) | (with_reducible refine (fun (a : Addr) (na : a ∉ owns _) => ?_ : ∀ a : Addr, a ∉ owns _ → _)))
local macro_rules | `(tactic| walk_at "fwb") => `(tactic| first
  | (refine bT rfl ?_)
  | (refine bF rfl ?_)
  | (refine And.intro (fun hb => absurd hb (by decide)) (fun _ => ?_))
  | (refine And.intro (fun _ => ?_) (fun hb => absurd hb (by decide)))
  | (refine And.intro (fun hb => absurd (of_decide_eq_true hb) (by omega)) (fun _ => ?_))
  | (refine And.intro (fun _ => ?_) (fun hb => absurd (of_decide_eq_false hb) (by omega)))
  | (refine And.intro (fun hb => absurd (of_decide_eq_true hb) (by (simp only [List.length_map]; omega))) (fun _ => ?_)))
local macro_rules | `(tactic| walk_at "side") => `(tactic| first
  | assumption
  | omega
  | decide
  | (exact ⟨by decide, by decide +kernel⟩)
  | (exact Or.inr ⟨by omega, by omega⟩)
  | (exact Or.inl ⟨by omega, by omega⟩)
  | (exact ⟨by decide, by decide, by omega⟩)
  | ((with_reducible show _ < sizeLine); (simp only [List.length_cons, List.length_nil, List.length_map, List.length_append, sizeLine_eq]; omega))
  | ((with_reducible show _ ≤ sizeLine); (simp only [List.length_cons, List.length_nil, List.length_map, List.length_append, sizeLine_eq]; omega)))
local macro_rules | `(tactic| walk_at "fw") => `(tactic| repeat walk_at "fw1")
local macro_rules | `(tactic| walk_at "fwn") => `(tactic| (try dsimp only [List.map, List.set, wipeE, List.cons_append, List.nil_append, bk, Ar.sl, O.d, Sl.d]))
local macro_rules | `(tactic| walk_at "go") => `(tactic| (walk_at "fwn"; walk_at "fw"))
local macro_rules | `(tactic| walk_at "fn0") => `(tactic| (refine ⟨⟨Nat.le_of_ble_eq_true rfl, rfl⟩, ?_⟩; dsimp only [List.map, cxOf_K, Cx.wish, List.cons_append, List.nil_append]))
local macro_rules | `(tactic| walk_at "bk1") => `(tactic| first | exact Back.nil | (with_reducible apply Back.v) | (with_reducible apply Back.o))
local macro_rules | `(tactic| walk_at "back") => `(tactic| (walk_at "fwn"; (first | refine' fnE_rt ?b ?_ | refine' fnE_nx ?b ?_); (case b => repeat walk_at "bk1")))

section
variable {P : Program} {w : World} {K : PySem.W.Frag} {mg : Str → Option Value} {base : Heap}
abbrev N__law_far_right : List Str := ["_law_source", "_law_demands", "_law_most", "_law_told", "_law_least", "_law_repeat", "_law_amount"]
theorem sc__law_far_right : FnScope N__law_far_right ["_law_source", "_law_demands", "_law_most"] (defScope s__law_far_right) := ⟨rfl, rfl, rfl, by decide +kernel, rfl, by decide +kernel, by decide +kernel⟩
theorem f__law_far_right (T : Tx K mg) {fd : FuncData} (F : FunD K "_law_far_right" "_law_far_right" (defArgs s__law_far_right) (defBody s__law_far_right) (defScope s__law_far_right) [] [] (He.ga K "_law_far_right") fd) : FnOk P w K mg base CX0 5 (He.ga K "_law_far_right") fd ["_law_source", "_law_demands", "_law_most"] (spOf K cFar) := by
  have nd := (sc__law_far_right).nd
  refine F.ok sc__law_far_right (sp_len (by first | exact cFar_len | exact cFar_len _)) (fun cdv A outer s H vs Q E hr h => ?_)
  refine ⟨_, PSs.nox ((pss_cons (ps_set (i := 3) nd rfl (Or.inl rfl) (pe_callC (c_best_size T) (hr.mono (by decide)) rfl (pa_cons (pv 1) (pa_cons (pv 2) pa_nil))))
    (pss_cons (ps_if (pt_cmpR op_isN (pv 3) pe_non (nomark _)) (pss_one (ps_ret (pe_cmpR op_isN (pe_callC (c_least_size T) (hr.mono (by decide)) rfl (pa_cons (pv 1) (pa_cons (pv 2) pa_nil))) pe_non (nomark _)))) pss_nil)
    (pss_cons (ps_if (PW.pt (pw_or (pt_cmpR (op_neD hr.units) (pe_callC (c_leftover T) (hr.mono (by decide)) rfl (pa_cons (pv 1) (pa_cons (pe_ix ix_seq (pv 3) pe_int (fun _ _ => rfl)) pa_nil))) (pe_ix ix_seq (pv 3) pe_int (fun _ _ => rfl)) (nomark _)) (pw_or1 (pt_cmpR op_gt (pe_callC (c_fetches T) (hr.mono (by decide)) rfl (pa_cons (pv 1) (pa_cons (pe_ix ix_seq (pv 3) pe_int (fun _ _ => rfl)) pa_nil))) (pv 2) (nomark _))))) (pss_one (ps_ret pe_bl)) pss_nil)
    (pss_cons (ps_set (i := 4) nd rfl (Or.inl rfl) (pe_callC (c_least_size T) (hr.mono (by decide)) rfl (pa_cons (pv 1) (pa_cons (pv 2) pa_nil))))
    (pss_cons (ps_for PassesOwn.never rfl (pi_range1 rfl T.n_range (pa_cons pe_int pa_nil)) (pg_name (i := 5) nd rfl (Or.inl rfl)) (pss_cons (ps_set (i := 6) nd rfl (Or.inl rfl) (pe_op op_add (pv 4) (pe_callC (c__law_choice T) (hr.mono (by decide)) rfl (pa_cons (pv 0) (pa_cons (pe_lst (pa_cons pe_int (pa_cons (pe_callC (c__law_draw T) (hr.mono (by decide)) rfl (pa_cons (pv 0) (pa_cons pe_int pa_nil))) (pa_cons (pe_callC (c__law_draw T) (hr.mono (by decide)) rfl (pa_cons (pv 0) (pa_cons (pe_op op_pow pe_int pe_int) pa_nil))) pa_nil)))) pa_nil)))))
    (pss_one (ps_if (pt_cmpR (op_ltT (Nat.lt_of_le_of_lt (Nat.le_add_right _ _) hr.units)) (pe_tup (pa_cons (pe_callC (c_leftover T) (hr.mono (by decide)) rfl (pa_cons (pv 1) (pa_cons (pv 6) pa_nil))) (pa_cons (pv 6) pa_nil))) (pv 3) (nomark _)) (pss_one (ps_ret pe_bl)) pss_nil))))
    (pss_one (ps_ret (pe_cmpR op_le (pe_ix ix_seq (pe_callC (c_best_size T) (hr.mono (by decide)) rfl (pa_cons (pv 1) (pa_cons (pe_callB (call_min2 rfl) rfl T.n_min (by decide +kernel) (pa_cons pe_int (pa_cons (pe_op op_add (pv 2) (pe_callC (c__law_draw T) (hr.mono (by decide)) rfl (pa_cons (pv 0) (pa_cons pe_int pa_nil)))) pa_nil))) pa_nil))) pe_int (fun _ _ => rfl)) (pe_ix ix_seq (pv 3) pe_int (fun _ _ => rfl)) (nomark _)))))))))), ?_⟩
  refine fn_pureB [none, none, none, none] (fun ss Φ hc => ?_) vs H Q E h
  clear h
  obtain ⟨a, x, y, z, ds, m, b, rfl, hS, hb, hd, h0, h1, k⟩ := hc
  have h100 : m ≤ 100 := by omega
  walk_at "fn0"
  walk_at "fw"
  intro r hr
  walk_at "go"
  rcases id hr with ⟨h2, rfl⟩ | ⟨h2, L, rfl, hL, hF, hB⟩
  · refine bT (by simp [D.isN]) ?_
    walk_at "go"
    intro r2 hr2
    rcases hr2 with ⟨_, rfl⟩ | ⟨h3, _⟩
    · walk_at "back"
      exact k _ _ _ (hS.mono (by omega))
    · omega
  refine bF (by simp [D.isN, prD]) ?_
  have hL0 : 0 < L := hF.1
  have hLs : L ≤ 10 ^ 29 := by omega
  have hLb : big L := big_of (by omega) (by omega)
  walk_at "go"
  refine bF (by simp [eqv_int, Sl.d, wst]) ?_
  walk_at "go"
  refine bF (decide_eq_false (Int.not_lt.mpr hF.2)) ?_
  walk_at "go"
  intro r2 hr2
  rcases hr2 with ⟨h3, _⟩ | ⟨_, L0, rfl, hM1, hM2, hM3, _⟩
  · omega
  walk_at "go"
  refine ex_seq (ex_for (ei_range1 (q := false) ?_))
  walk_at "fw"
  refine ⟨fun k' ρ' => ∃ x y z w5 w6, ρ' = [some (.o a (.lst [.int x, .int y, .int z])), some (.v (.lst (ds.map D.int))), some (.v (.int m)), some (.v (prD (wst ds L, L))), some (.v (.int L0)), w5, w6] ∧ Src (b + 12 * k') x y z,
    ⟨_, _, _, _, _, rfl, hS.mono (by omega)⟩, ?_, ?_⟩
  · rintro k' d ρ' hk ⟨x, y, z, w5, w6, rfl, hS2⟩
    obtain ⟨hk1, rfl⟩ := rangeD_get hk
    have hk2 : k' < 6 := hk1
    walk_at "fwx"
    walk_at "go"
    refine ⟨_, _, _, _, _, _, rfl, hS2, by omega, by decide, by decide, fun v1 x3 y3 z3 hv1 hv2 hS3 => ?_⟩
    walk_at "go"
    refine ⟨_, _, _, _, _, _, rfl, hS3, by omega, by decide, by decide, fun v2 x4 y4 z4 hv3 hv4 hS4 => ?_⟩
    have hv4 : v2 < 10 ^ 28 := hv4
    walk_at "go"
    refine ⟨_, _, _, _, _, _, rfl, hS4, by omega, by simp, by simp, fun r x5 y5 z5 hr5 hS5 => ?_⟩
    have hr5 : ∃ v : Int, r = .int v ∧ 0 ≤ v ∧ v ≤ 10 ^ 28 := by
      simp only [List.mem_cons, List.not_mem_nil, or_false] at hr5
      rcases hr5 with h | h | h <;> subst h <;> exact ⟨_, rfl, by omega, by omega⟩
    obtain ⟨v, rfl, hv5, hv6⟩ := hr5
    have hA0 : 0 < L0 + v := by omega
    have hA1 : L0 + v ≤ 10 ^ 29 := by omega
    have hA2 : Feas ds m (L0 + v) := ⟨by omega, Int.le_trans (fetchedM_anti (by omega) (by omega) fun d hx => (hd.2 d hx).1) hM3⟩
    walk_at "go"
    refine ⟨[_, _], [_, _], rfl, rfl, ?_⟩
    walk_at "go"
    refine bF (by rw [lexLt_pair]; exact hB _ hA2) ?_
    walk_at "go"
    exact ⟨x5, y5, z5, _, _, rfl, hS5.mono (by push_cast; omega)⟩
  · rintro ρ' ⟨x, y, z, w5, w6, rfl, hS2⟩
    have hS2 : Src (b + 72) x y z := hS2.mono (by rw [rangeD_len]; show b + 12 * ((6 : Nat) : Int) ≤ b + 72; omega)
    refine ex_next ?_
    walk_at "go"
    refine ⟨_, _, _, _, _, _, rfl, hS2, by omega, by decide, by decide, fun v x3 y3 z3 hv1 hv2 hS3 => ?_⟩
    have hm1 : m ≤ min 100 (m + v) := by omega
    have hm2 : 0 ≤ min 100 (m + v) := by omega
    have hm3 : min 100 (m + v) ≤ 100 := by omega
    walk_at "go"
    intro r3 hr3
    obtain ⟨w', L', rfl, hw⟩ := BestOk.mono hm1 hr hr3
    walk_at "go"
    walk_at "back"
    have e : decide ((w', L').fst ≤ (wst ds L, L).fst) = true := decide_eq_true hw
    rw [e]
    exact k _ _ _ (hS3.mono (by omega))
theorem c__law_far_right (T : Tx K mg) : Cal P w K mg base 5 "_law_far_right" ["_law_source", "_law_demands", "_law_most"] (spOf K cFar) := by
  obtain ⟨fd, F⟩ := T.d__law_far_right
  exact ⟨⟨fd, f__law_far_right T F, F.bindsN fun _ _ _ _ _ _ us hl => match us, hl with | [_, _, _], _ => rfl⟩, T.g__law_far_right, F.kp⟩
abbrev N_law : List Str := ["_law_script", "_law_cell", "_law_source", "_law_top", "_law_demands", "_law_repeat", "_law_most", "_law_kept"]
theorem sc_law : FnScope N_law ["_law_script"] (defScope s_law) := ⟨rfl, rfl, rfl, by decide +kernel, rfl, by decide +kernel, by decide +kernel⟩
theorem f_law (T : Tx K mg) {fd : FuncData} (F : FunD K "law" "law" (defArgs s_law) (defBody s_law) (defScope s_law) [] [] (He.ga K "law") fd) : FnOk P w K mg base CX0 6 (He.ga K "law") fd ["_law_script"] (spOf K cLaw) := by
  have nd := (sc_law).nd
  refine F.ok sc_law (sp_len (by first | exact cLaw_len | exact cLaw_len _)) (fun cdv A outer s H vs Q E hr h => ?_)
  refine ⟨_, PSs.nox ((pss_cons (ps_for PassesOwn.never rfl (pi_list (pe_op op_cat (pe_lst (pa_cons (pe_callC (c__law_cell_at T) (hr.mono (by decide)) rfl (pa_cons (pv 0) (pa_cons pe_int pa_nil))) pa_nil)) (pe_slice sl_list (pv 0) (po_some pe_int) (po_some pe_int)))) (pg_name (i := 1) nd rfl (Or.inl rfl)) (pss_cons (ps_set (i := 2) nd rfl (Or.inr rfl) (pe_callC (c__law_source_of T) (hr.mono (by decide)) rfl (pa_cons (pv 1) pa_nil)))
    (pss_cons (ps_set (i := 3) nd rfl (Or.inr rfl) (pe_callC (c__law_choice T) (hr.mono (by decide)) rfl (pa_cons (pv 2) (pa_cons (pe_lst (pa_cons pe_int (pa_cons pe_int (pa_cons pe_int pa_nil)))) pa_nil))))
    (pss_cons (ps_setLc (i := 4) (own := [("_law_repeat", 5)]) (g := gName 5) (tt := tYes) rfl nd rfl rfl (sw_true rfl rfl rfl (by decide +kernel)) (pi_range1 rfl T.n_range (pa_cons (pe_callC (c__law_draw T) (hr.mono (by decide)) rfl (pa_cons (pv 2) (pa_cons pe_int pa_nil))) pa_nil)) (blkOk_by (own := [("_law_repeat", 5)]) (N := N_law) (sc := (defScope s_law)) (by decide +kernel)) (fun _ _ _ _ _ => (pg_name (i := 5) nd rfl (Or.inl rfl))) (fun _ _ _ _ _ => pts_nil) (fun _ _ _ _ _ => (pe_callC (c__law_draw T) (hr.mono (by decide)) rfl (pa_cons (pv 2) (pa_cons (pv 3) pa_nil)))))
    (pss_cons (ps_for PassesOwn.never rfl (pi_range1 rfl T.n_range (pa_cons pe_int pa_nil)) (pg_name (i := 5) nd rfl (Or.inl rfl)) (pss_cons (ps_set (i := 6) nd rfl (Or.inl rfl) (pe_callC (c__law_choice T) (hr.mono (by decide)) rfl (pa_cons (pv 2) (pa_cons (pe_lst (pa_cons (pe_callC (c__law_draw T) (hr.mono (by decide)) rfl (pa_cons (pv 2) (pa_cons pe_int pa_nil))) (pa_cons (pe_callC (c__law_draw T) (hr.mono (by decide)) rfl (pa_cons (pv 2) (pa_cons pe_int pa_nil))) pa_nil))) pa_nil))))
    (pss_cons (ps_set (i := 7) nd rfl (Or.inl rfl) (pe_callTy c_list rfl T.n_list (by decide +kernel) (pa_cons (pv 4) pa_nil)))
    (pss_one (ps_if (PW.pt (pw_or (pt_cmpR (op_neD hr.units) (pe_callC (c_best_size T) (hr.mono (by decide)) rfl (pa_cons (pv 4) (pa_cons (pv 6) pa_nil))) (pe_callC (c__law_tried T) (hr.mono (by decide)) rfl (pa_cons (pv 7) (pa_cons (pv 6) pa_nil))) (nomark _)) (pw_or1 (pt_cmpR (op_neD hr.units) (pv 4) (pv 7) (nomark _))))) (pss_one (ps_ret pe_bl)) pss_nil)))))
    (pss_cons (ps_setLc (i := 4) (own := [("_law_repeat", 5)]) (g := gName 5) (tt := tYes) rfl nd rfl rfl (sw_true rfl rfl rfl (by decide +kernel)) (pi_range1 rfl T.n_range (pa_cons (pe_callC (c__law_draw T) (hr.mono (by decide)) rfl (pa_cons (pv 2) (pa_cons pe_int pa_nil))) pa_nil)) (blkOk_by (own := [("_law_repeat", 5)]) (N := N_law) (sc := (defScope s_law)) (by decide +kernel)) (fun _ _ _ _ _ => (pg_name (i := 5) nd rfl (Or.inl rfl))) (fun _ _ _ _ _ => pts_nil) (fun _ _ _ _ _ => (pe_callC (c__law_draw T) (hr.mono (by decide)) rfl (pa_cons (pv 2) (pa_cons (pe_op op_pow pe_int pe_int) pa_nil)))))
    (pss_one (ps_if (pt_not (pt_val (pe_callC (c__law_far_right T) (hr.mono (by decide)) rfl (pa_cons (pv 2) (pa_cons (pv 4) (pa_cons (pe_callC (c__law_draw T) (hr.mono (by decide)) rfl (pa_cons (pv 2) (pa_cons pe_int pa_nil))) pa_nil)))))) (pss_one (ps_ret pe_bl)) pss_nil))))))))
    (pss_one (ps_ret pe_bl)))), ?_⟩
  refine fn_pureB [none, none, none, none, none, none, none] (fun ss Φ hc => ?_) vs H Q E h
  clear h
  obtain ⟨ns, rfl, hn, k⟩ := hc
  have hcl := cutD_len (ns.map D.int) (some 1) (some 4)
  rw [List.length_map] at hcl
  walk_at "fn0"
  refine ex_seq (ex_for (ei_list (q := false) ?_))
  walk_at "fw"
  intro j
  walk_at "go"
  refine ⟨fun k' ρ' => ∃ y1 y2 y3 y4 y5 y6 y7, ρ' = [some (.v (.fls (ns.map D.int))), y1, y2, y3, y4, y5, y6, y7], ⟨_, _, _, _, _, _, _, rfl⟩, ?_, ?_⟩
  · rintro k' d ρ' hd ⟨y1, y2, y3, y4, y5, y6, y7, rfl⟩
    have hm := List.mem_of_getElem? hd
    obtain ⟨c, rfl⟩ : ∃ c, d = .int c := by
      rcases List.mem_append.mp hm with h | h
      · simp at h; exact ⟨_, h⟩
      · obtain ⟨c, _, h⟩ := List.mem_map.mp (cutD_mem h); exact ⟨c, h.symm⟩
    walk_at "fwx"
    walk_at "fwn"
    refine ex_seq (ex_setO (evo_call0 ?_))
    walk_at "fw"
    intro a x y hS
    refine ⟨_, _, rfl, fun na => ?_⟩
    walk_at "go"
    refine ⟨_, _, _, _, _, _, rfl, hS, by omega, by decide, by decide, fun r x1 y1' z1 hr hS1 => ?_⟩
    have hr : ∃ m : Int, r = .int m ∧ 0 < m ∧ m ≤ 200 := by
      simp only [List.mem_cons, List.not_mem_nil, or_false] at hr
      rcases hr with h | h | h <;> subst h <;> exact ⟨_, rfl, by decide, by decide⟩
    obtain ⟨top, rfl, ht0, ht1⟩ := hr
    walk_at "go"
    refine ev_of_evo (evo_lcI (ei_range1 (q := false) ?_))
    walk_at "fw"
    refine ⟨_, _, _, _, _, _, rfl, hS1, by omega, by decide, by decide, fun n0 x2 y2 z2 hn1 hn2 hS2 => ?_⟩
    walk_at "go"
    refine ⟨by rw [rangeD_len, sizeLine_eq]; omega, fun (k' : Nat) (acc : List D) (ρ' : Fw.Env) => ∃ (x y z : Int) (ds : List Int) (w5 : Option Sl), ρ' = [some (.v (.fls (ns.map D.int))), some (.v (.int c)), some (.o a (.lst [.int x, .int y, .int z])), some (.v (.int top)), y4, w5, y6, y7] ∧ Src (8 + 4 * k') x y z ∧ acc = ds.map D.int ∧ ds.length = k' ∧ ∀ d ∈ ds, 0 ≤ d ∧ d ≤ 200, ⟨x2, y2, z2, [], _, rfl, hS2.mono (by omega), rfl, rfl, by simp⟩, ?_, ?_⟩
    · rintro k' acc d ρ' hd ⟨x, y, z, ds, w5, rfl, hS4, rfl, hdn, hds⟩ hacc
      obtain ⟨hk1, rfl⟩ := rangeD_get hd
      walk_at "go"
      walk_at "go"
      refine ⟨_, _, _, _, _, _, rfl, hS4, by omega, ht0, by omega, fun v x5 y5 z5 h5 h6 hS5 => ?_⟩
      refine ⟨rfl, _, _, _, ds ++ [v], _, rfl, hS5.mono (by push_cast; omega), by simp, by simp [hdn], fun n hn' => ?_⟩
      rcases List.mem_append.mp hn' with h | h
      · exact hds n h
      · simp at h; subst h; omega
    rintro acc ρ' ⟨x, y, z, ds, w5, rfl, hS4, rfl, hdn, hds⟩ p hp
    have hdn8 : ds.length ≤ 8 := by rw [hdn, rangeD_len]; omega
    have hS4 : Src 100 x y z := hS4.mono (by rw [rangeD_len]; omega)
    have hD : Dem ds := ⟨by omega, fun d hx => by have := hds d hx; omega⟩
    walk_at "go"
    refine ex_seq (ex_for (ei_range1 (q := false) ?_))
    walk_at "fw"
    refine ⟨fun k2 ρ' => ∃ x y z w5 w6 w7, ρ' = [some (.v (.fls (ns.map D.int))), some (.v (.int c)), some (.o a (.lst [.int x, .int y, .int z])), some (.v (.int top)), some (.v (.lst (ds.map D.int))), w5, w6, w7] ∧ Src (100 + 12 * k2) x y z, ⟨_, _, _, _, _, _, rfl, hS4.mono (by omega)⟩, ?_, ?_⟩
    · rintro k2 d ρ' hd2 ⟨x, y, z, w5, w6, w7, rfl, hS2⟩
      obtain ⟨hk2, rfl⟩ := rangeD_get hd2
      have hk3 : k2 < 4 := hk2
      walk_at "fwx"
      walk_at "go"
      refine ⟨_, _, _, _, _, _, rfl, hS2, by omega, by decide, by decide, fun v1 x3 y3 z3 hv1 hv2 hS3 => ?_⟩
      walk_at "go"
      refine ⟨_, _, _, _, _, _, rfl, hS3, by omega, by decide, by decide, fun v2 x4 y4 z4 hv3 hv4 hS4 => ?_⟩
      walk_at "go"
      refine ⟨_, _, _, _, _, _, rfl, hS4, by omega, by simp, by simp, fun r x5 y5 z5 hr5 hS5 => ?_⟩
      have hr5 : ∃ v : Int, r = .int v ∧ 0 ≤ v ∧ v ≤ 100 := by
        simp only [List.mem_cons, List.not_mem_nil, or_false] at hr5
        rcases hr5 with h | h <;> subst h <;> exact ⟨_, rfl, by omega, by omega⟩
      obtain ⟨m, rfl, hm0, hm1⟩ := hr5
      walk_at "go"
      intro r hr
      walk_at "go"
      intro r2 hr2
      obtain rfl := hr.eq hr2
      refine ⟨rfl, hr.shp, hr.shp, ?_⟩
      walk_at "go"
      refine bF (by show (!D.eqv r r) = false; rw [hr.eqv]; rfl) ?_
      walk_at "go"
      refine ⟨shp_ints _, shp_ints _, ?_⟩
      walk_at "go"
      refine bF (by rw [eqv_ints]; simp) ?_
      walk_at "go"
      exact ⟨x5, y5, z5, _, _, _, rfl, hS5.mono (by push_cast; omega)⟩
    · rintro ρ' ⟨x, y, z, w5, w6, w7, rfl, hS2⟩
      have hS2 : Src 148 x y z := hS2.mono (by rw [rangeD_len]; decide)
      refine ex_next ?_
      walk_at "go"
      refine ev_of_evo (evo_lcI (ei_range1 (q := false) ?_))
      walk_at "fw"
      refine ⟨_, _, _, _, _, _, rfl, hS2, by omega, by decide, by decide, fun n0 x2 y2 z2 hn1 hn2 hS3 => ?_⟩
      walk_at "go"
      refine ⟨by rw [rangeD_len, sizeLine_eq]; omega, fun (k' : Nat) (acc : List D) (ρ' : Fw.Env) => ∃ (x y z : Int) (ds2 : List Int) (w5 : Option Sl), ρ' = [some (.v (.fls (ns.map D.int))), some (.v (.int c)), some (.o a (.lst [.int x, .int y, .int z])), some (.v (.int top)), some (.v (.lst (ds.map D.int))), w5, w6, w7] ∧ Src (152 + 4 * k') x y z ∧ acc = ds2.map D.int ∧ ds2.length = k' ∧ ∀ d ∈ ds2, 0 ≤ d ∧ d ≤ 10 ^ 28, ⟨x2, y2, z2, [], _, rfl, hS3.mono (by omega), rfl, rfl, by simp⟩, ?_, ?_⟩
      · rintro k' acc d ρ' hd ⟨x, y, z, ds2, w5, rfl, hS4, rfl, hdn, hds⟩ hacc
        obtain ⟨hk1, rfl⟩ := rangeD_get hd
        walk_at "go"
        walk_at "go"
        refine ⟨_, _, _, _, _, _, rfl, hS4, by omega, by decide, by decide, fun v x5 y5 z5 h5 h6 hS5 => ?_⟩
        have h6 : v < 10 ^ 28 := h6
        refine ⟨rfl, _, _, _, ds2 ++ [v], _, rfl, hS5.mono (by push_cast; omega), by simp, by simp [hdn], fun n hn' => ?_⟩
        rcases List.mem_append.mp hn' with h | h
        · exact hds n h
        · simp at h; subst h; omega
      rintro acc ρ' ⟨x, y, z, ds2, w5, rfl, hS4, rfl, hdn, hds⟩ p hp
      have hdn8 : ds2.length ≤ 12 := by rw [hdn, rangeD_len]; omega
      have hS4 : Src 300 x y z := hS4.mono (by rw [rangeD_len]; omega)
      have hD : Dem ds2 := ⟨by omega, hds⟩
      walk_at "go"
      refine ⟨_, _, _, _, _, _, rfl, hS4, by omega, by decide, by decide, fun m x5 y5 z5 hm1 hm2 hS5 => ?_⟩
      walk_at "go"
      refine ⟨_, _, _, _, _, _, _, rfl, hS5, by omega, hD, hm1, by omega, fun x6 y6 z6 hS6 => ?_⟩
      walk_at "go"
      exact ⟨_, _, _, _, _, _, _, rfl⟩
  · rintro ρ' ⟨y1, y2, y3, y4, y5, y6, y7, rfl⟩
    walk_at "fw"
    walk_at "back"
    exact k
theorem c_law (T : Tx K mg) : Cal P w K mg base 6 "law" ["_law_script"] (spOf K cLaw) := by
  obtain ⟨fd, F⟩ := T.d_law
  exact ⟨⟨fd, f_law T F, F.bindsN fun _ _ _ _ _ _ us hl => match us, hl with | [_], _ => rfl⟩, T.g_law, F.kp⟩
end
end Fw

set_option Elab.async false
set_option linter.all false
set_option maxRecDepth 100000
set_option maxHeartbeats 4000000
namespace Fw
open PySem L2
def e_is_integer : He.DefD := ⟨("is_integer", none), "is_integer", "is_integer", defArgs s_is_integer, defBody s_is_integer, defScope s_is_integer, [], []⟩
def e_is_between : He.DefD := ⟨("is_between", none), "is_between", "is_between", defArgs s_is_between, defBody s_is_between, defScope s_is_between, [], []⟩
def e_check_between : He.DefD := ⟨("check_between", none), "check_between", "check_between", defArgs s_check_between, defBody s_check_between, defScope s_check_between, [], []⟩
def e_check_size : He.DefD := ⟨("check_size", none), "check_size", "check_size", defArgs s_check_size, defBody s_check_size, defScope s_check_size, [], []⟩
def e_check_demands : He.DefD := ⟨("check_demands", none), "check_demands", "check_demands", defArgs s_check_demands, defBody s_check_demands, defScope s_check_demands, [], []⟩
def e_fetched : He.DefD := ⟨("fetched", none), "fetched", "fetched", defArgs s_fetched, defBody s_fetched, defScope s_fetched, [], []⟩
def e_fetches : He.DefD := ⟨("fetches", none), "fetches", "fetches", defArgs s_fetches, defBody s_fetches, defScope s_fetches, [], []⟩
def e_leftover : He.DefD := ⟨("leftover", none), "leftover", "leftover", defArgs s_leftover, defBody s_leftover, defScope s_leftover, [], []⟩
def e_size_for : He.DefD := ⟨("size_for", none), "size_for", "size_for", defArgs s_size_for, defBody s_size_for, defScope s_size_for, [], []⟩
def e_least_size : He.DefD := ⟨("least_size", none), "least_size", "least_size", defArgs s_least_size, defBody s_least_size, defScope s_least_size, [], []⟩
def e_best_size : He.DefD := ⟨("best_size", none), "best_size", "best_size", defArgs s_best_size, defBody s_best_size, defScope s_best_size, [], []⟩
def e__law_cell_at : He.DefD := ⟨("_law_cell_at", none), "_law_cell_at", "_law_cell_at", defArgs s__law_cell_at, defBody s__law_cell_at, defScope s__law_cell_at, [], []⟩
def e__law_source_of : He.DefD := ⟨("_law_source_of", none), "_law_source_of", "_law_source_of", defArgs s__law_source_of, defBody s__law_source_of, defScope s__law_source_of, [], []⟩
def e__law_draw : He.DefD := ⟨("_law_draw", none), "_law_draw", "_law_draw", defArgs s__law_draw, defBody s__law_draw, defScope s__law_draw, [], []⟩
def e__law_choice : He.DefD := ⟨("_law_choice", none), "_law_choice", "_law_choice", defArgs s__law_choice, defBody s__law_choice, defScope s__law_choice, [], []⟩
def e__law_tried : He.DefD := ⟨("_law_tried", none), "_law_tried", "_law_tried", defArgs s__law_tried, defBody s__law_tried, defScope s__law_tried, [], []⟩
def e__law_far_right : He.DefD := ⟨("_law_far_right", none), "_law_far_right", "_law_far_right", defArgs s__law_far_right, defBody s__law_far_right, defScope s__law_far_right, [], []⟩
def e_law : He.DefD := ⟨("law", none), "law", "law", defArgs s_law, defBody s_law, defScope s_law, [], []⟩
def fn : List He.DefD := [e_is_integer, e_is_between, e_check_between, e_check_size, e_check_demands, e_fetched, e_fetches, e_leftover, e_size_for, e_least_size, e_best_size, e__law_cell_at, e__law_source_of, e__law_draw, e__law_choice, e__law_tried, e__law_far_right, e_law]
def fa : List He.Fa := [.free "all", .free "bool", .free "int", .free "isinstance", .free "len", .free "list", .free "max", .free "min", .free "range", .free "sum", .int "MOST_DEMANDS" 100, .glo "is_integer", .glo "is_between", .glo "check_between", .glo "check_size", .glo "check_demands", .glo "fetched", .glo "fetches", .glo "leftover", .glo "size_for", .glo "least_size", .glo "best_size", .glo "_law_cell_at", .glo "_law_source_of", .glo "_law_draw", .glo "_law_choice", .glo "_law_tried", .glo "_law_far_right", .glo "law"]
abbrev hR : PySem.W.OpenRow := PySem.W.OpenLaw.row PySem.Challenge.rw_idblocks_k62_best_sizes
abbrev hk : PySem.W.Hook := He.hookD 5 fa fn
def ob (s : PySem.W.SharedT) : He.AlD := He.obsDG 5 fa fn (HandSHeadRun.getT s)
theorem ob_eq (s : PySem.W.SharedT) : ob s = hk.obs s.abs := He.obsDG_eq (HandSHeadRun.getT_eq s)
def loose0 : List PySem.Str := ["IdError", "InvalidSize", "InvalidBound", "is_integer", "is_between", "check_between", "check_size", "MOST_DEMANDS", "check_demands", "fetched", "fetches", "leftover", "size_for", "least_size", "best_size", "_law_cell_at", "_law_source_of", "_law_draw", "_law_choice", "_law_tried", "_law_far_right"]
def looseN : List PySem.Str := loose0
set_option maxHeartbeats 0 in
theorem run (w : World) : HandSHeadRun.RunEq hR (PySem.W.view hR.prog [26]) hk ob 4000 looseN w := by
  intro os
  kernel_rfl
theorem facts {K : PySem.W.Frag} {h : Heap} {mg : Str → Option Value} (X : K.In h) (G : h.Ns mainGlobals mg) (c : He.SaysD fa fn K) : Tx K mg where
  n_all := He.free_ok X G (c.fact 0 (f := .free "all") rfl)
  n_bool := He.free_ok X G (c.fact 1 (f := .free "bool") rfl)
  n_int := He.free_ok X G (c.fact 2 (f := .free "int") rfl)
  n_isinstance := He.free_ok X G (c.fact 3 (f := .free "isinstance") rfl)
  n_len := He.free_ok X G (c.fact 4 (f := .free "len") rfl)
  n_list := He.free_ok X G (c.fact 5 (f := .free "list") rfl)
  n_max := He.free_ok X G (c.fact 6 (f := .free "max") rfl)
  n_min := He.free_ok X G (c.fact 7 (f := .free "min") rfl)
  n_range := He.free_ok X G (c.fact 8 (f := .free "range") rfl)
  n_sum := He.free_ok X G (c.fact 9 (f := .free "sum") rfl)
  k_MOST_DEMANDS := He.int_ok X G (c.fact 10 (f := .int "MOST_DEMANDS" 100) rfl)
  d_is_integer := c.def_ 0 (d := e_is_integer) rfl
  g_is_integer := He.glo_ok X G (c.fact 11 (f := .glo "is_integer") rfl)
  d_is_between := c.def_ 1 (d := e_is_between) rfl
  g_is_between := He.glo_ok X G (c.fact 12 (f := .glo "is_between") rfl)
  d_check_between := c.def_ 2 (d := e_check_between) rfl
  g_check_between := He.glo_ok X G (c.fact 13 (f := .glo "check_between") rfl)
  d_check_size := c.def_ 3 (d := e_check_size) rfl
  g_check_size := He.glo_ok X G (c.fact 14 (f := .glo "check_size") rfl)
  d_check_demands := c.def_ 4 (d := e_check_demands) rfl
  g_check_demands := He.glo_ok X G (c.fact 15 (f := .glo "check_demands") rfl)
  d_fetched := c.def_ 5 (d := e_fetched) rfl
  g_fetched := He.glo_ok X G (c.fact 16 (f := .glo "fetched") rfl)
  d_fetches := c.def_ 6 (d := e_fetches) rfl
  g_fetches := He.glo_ok X G (c.fact 17 (f := .glo "fetches") rfl)
  d_leftover := c.def_ 7 (d := e_leftover) rfl
  g_leftover := He.glo_ok X G (c.fact 18 (f := .glo "leftover") rfl)
  d_size_for := c.def_ 8 (d := e_size_for) rfl
  g_size_for := He.glo_ok X G (c.fact 19 (f := .glo "size_for") rfl)
  d_least_size := c.def_ 9 (d := e_least_size) rfl
  g_least_size := He.glo_ok X G (c.fact 20 (f := .glo "least_size") rfl)
  d_best_size := c.def_ 10 (d := e_best_size) rfl
  g_best_size := He.glo_ok X G (c.fact 21 (f := .glo "best_size") rfl)
  d__law_cell_at := c.def_ 11 (d := e__law_cell_at) rfl
  g__law_cell_at := He.glo_ok X G (c.fact 22 (f := .glo "_law_cell_at") rfl)
  d__law_source_of := c.def_ 12 (d := e__law_source_of) rfl
  g__law_source_of := He.glo_ok X G (c.fact 23 (f := .glo "_law_source_of") rfl)
  d__law_draw := c.def_ 13 (d := e__law_draw) rfl
  g__law_draw := He.glo_ok X G (c.fact 24 (f := .glo "_law_draw") rfl)
  d__law_choice := c.def_ 14 (d := e__law_choice) rfl
  g__law_choice := He.glo_ok X G (c.fact 25 (f := .glo "_law_choice") rfl)
  d__law_tried := c.def_ 15 (d := e__law_tried) rfl
  g__law_tried := He.glo_ok X G (c.fact 26 (f := .glo "_law_tried") rfl)
  d__law_far_right := c.def_ 16 (d := e__law_far_right) rfl
  g__law_far_right := He.glo_ok X G (c.fact 27 (f := .glo "_law_far_right") rfl)
  d_law := c.def_ 17 (d := e_law) rfl
  g_law := He.glo_ok X G (c.fact 28 (f := .glo "law") rfl)
end Fw
open PySem PySem.W PySem.Calls PyProof.Rows
set_option maxHeartbeats 0 in
theorem PySem.Challenge.cw_idblocks_k62_best_sizes_holds : PySem.Challenge.rw_idblocks_k62_best_sizes.Holds := by
  w_on; o_law
  refine HandSHeadRun.head_any (r := OpenLaw.row PySem.Challenge.rw_idblocks_k62_best_sizes) (q := view (OpenLaw.row PySem.Challenge.rw_idblocks_k62_best_sizes).prog [26]) (H := Fw.hk) (ob := Fw.ob) (M := 4000) (loose := Fw.looseN) (d := HandSHeadRun.topDef (OpenLaw.row PySem.Challenge.rw_idblocks_k62_best_sizes).prog 26) (kwd := []) Fw.ob_eq
    (by kernel_rfl) (fun s => by kernel_rfl) Fw.run (by kernel_rfl) (by kernel_rfl) (by kernel_rfl) (by rfl) (by first | assumption | decide +kernel) (by decide +kernel) ⟨rfl, rfl, rfl, rfl, rfl, by decide +kernel⟩ ?hw ?hc
  case hw => w_witness2
  case hc =>
    refine L2.walk_ofE (l := PySem.Challenge.rw_idblocks_k62_best_sizes) (n := 63) (k := 6) (x := "_law_script") (CX := L2.CX0) rfl (by decide) (by kernel_rfl) ⟨rfl, by decide, by decide⟩ ?F (fun _ _ _ _ z => z)
    intro w mg fa h Y G hmg0
    obtain ⟨K, KX, c⟩ := Y
    have hmg : mg ("law" : PySem.Str) = some (.ref fa) := by
      have e : (HandSHeadRun.topDef (OpenLaw.row PySem.Challenge.rw_idblocks_k62_best_sizes).prog 26).name = ("law" : PySem.Str) := by kernel_rfl
      rw [← e]
      exact hmg0
    have T := Fw.facts KX G c
    have e := hmg.symm.trans T.g_law
    cases e
    obtain ⟨fd, F⟩ := T.d_law
    have b := L2.FunD.bindsA (ps := ["_law_script"]) F fun _ _ _ _ _ _ us hl => match us, hl with | [_], _ => rfl
    exact ⟨K, fd, Fw.spOf K Fw.cLaw, KX, fun s v => b s [v] rfl, fun H a ns hl _ hS => Fw.law_sp hl hS fun ns h => ⟨ns, rfl, h, rfl⟩, fun base _ _ => Fw.f_law T F⟩

