import PyProof.Rows.All
import Wide.All
import OpenK.AllK
import Wide.FinOn
import HandS.ForMost
import HandS.Wide
import HandS.Flow
import HandS.Lambda
import HandS.SortInts
import HandS.IsInst
import HandS.Iter
import HandS.Dict
import HandS.WordsExc
import HandS.Defaults
import HandS.HeadHook2
import HandS.HeadHook4
import HandS.CallSlots
import HandS.MakeKwOnly
import PyProof.ReprRoads
import PyProof.ReprReads
import HandS.SortKw
import KE.DataMinMax
import HandS.More
import HandS.Conv
import HandS.SortOrd
import HandS.SetKeys
import KE.GoesEnum
import HandS.MakeKw
import HandS.Style
import HandS.DictComp
import HandS.SetFor
import HandS.Strs
import HandS.TryOnly
import KE.KEqDict
import HandS.ExcInit
import HandS.FStr
import HandS.ClsMeth
import KE.KExcInit
import HandS.Head0
import HandS.SortRule
import HandS.Finally
import HandS.TupLe
import HandS.Deep
import KE.GoesZip
import KE.KDictZip
import KE.DataFind
import HandS.NoneIn
import KE.KDictWalk
import HandS.Sort
import HandS.OwnEq
import HandS.TryMany
import KE.KTupSum
import HandS.ExcOwn
import HandS.HeadWalk
import HandS.EndBits
import HandS.EndTab
import KE.KExcIs
import KE.SortKeyHeap
import KE.KSortKey
import PyProof.NeKinds
import PyProof.Rows.EqBoolInt
import HandS.Exc
import HandS.Head1
import HandS.Head2
import HandS.HeadEnd
import HandS.Words
import KE.KStateDown
import PySem.Challenge.RW_idblocks_k64_a_house_step_by_step
set_option Elab.async false
set_option linter.all false
set_option maxRecDepth 100000
/-! A layer of data over the hand layer: what a def reads is frozen data, what it writes is owned. -/
namespace Fw
open PySem L2

/-! ### data -/
inductive D where
  | non | bl (b : Bool) | int (i : Int) | str (s : Str) | raw (v : V)
  | lst (xs : List D) | tup (xs : List D)
  | fls (xs : List D)
  | dct (kvs : List (Key × D))
  | ins (C : Addr) (fs : List (Str × D))
  | exc (C a dx : Addr) (f : Str) (d : D)
  | fn (q : Str) (dv : Option (List V)) (φ : Addr → Addr → Addr → Heap → Prop)
  /-- told by what holds of it, whatever is laid later -/
  | ob (R : Hp → Addr → Prop)

mutual
inductive Rep (K : PySem.W.Frag) (F : Hp) : D → V → Prop
  | non : Rep K F .non .non
  | bl (b : Bool) : Rep K F (.bl b) (.bl b)
  | int (i : Int) : Rep K F (.int i) (.int i)
  | str (s : Str) : Rep K F (.str s) (.str s)
  | raw (v : V) : Rep K F (.raw v) v
  | lst {a : Addr} {vs : List V} {ds : List D} : F a = some (.lst vs) → RepL K F ds vs → Rep K F (.lst ds) (.ref a)
  | tup {a : Addr} {vs : List V} {ds : List D} : F a = some (.tup vs) → RepL K F ds vs → Rep K F (.tup ds) (.ref a)
  | fls {a : Addr} {vs : List V} {ds : List D} : SqL K F a vs → RepL K F ds vs → Rep K F (.fls ds) (.ref a)
  | dct {a : Addr} {ws : List (Key × V)} {kvs : List (Key × D)} : Rd F a (.dK ws) → RepK K F kvs ws → Rep K F (.dct kvs) (.ref a)
  | ins {a C dx : Addr} {ws : List (Str × V)} {fs : List (Str × D)} : F a = some (.ins C dx ws) → RepF K F fs ws → Rep K F (.ins C fs) (.ref a)
  | exc {C a dx : Addr} {f : Str} {v : V} {d : D} : F dx = some (.xd [(f, v)]) → Rep K F d v → Rep K F (.exc C a dx f d) (.ref a)
  | fn {a c d : Addr} {q : Str} {dv : Option (List V)} {φ : Addr → Addr → Addr → Heap → Prop} : F a = some (.ext (φ a c d)) → F c = some (LamX.CodeO c q) → (∀ vs, dv = some vs → F d = some (.tup vs)) → Rep K F (.fn q dv φ) (.ref a)
  | ob {R : Hp → Addr → Prop} {a : Addr} : (∀ F', L2.Same F F' → R F' a) → Rep K F (.ob R) (.ref a)
inductive RepL (K : PySem.W.Frag) (F : Hp) : List D → List V → Prop
  | nil : RepL K F [] []
  | cons {d : D} {ds : List D} {v : V} {vs : List V} : Rep K F d v → RepL K F ds vs → RepL K F (d :: ds) (v :: vs)
inductive RepK (K : PySem.W.Frag) (F : Hp) : List (Key × D) → List (Key × V) → Prop
  | nil : RepK K F [] []
  | cons {k : Key} {d : D} {ds : List (Key × D)} {v : V} {vs : List (Key × V)} : Rep K F d v → RepK K F ds vs → RepK K F ((k, d) :: ds) ((k, v) :: vs)
inductive RepF (K : PySem.W.Frag) (F : Hp) : List (Str × D) → List (Str × V) → Prop
  | nil : RepF K F [] []
  | cons {k : Str} {d : D} {ds : List (Str × D)} {v : V} {vs : List (Str × V)} : Rep K F d v → RepF K F ds vs → RepF K F ((k, d) :: ds) ((k, v) :: vs)
end

theorem sqT_same {K : PySem.W.Frag} {H H' : Hp} {a : Addr} {xs : List V} (e : Same H H') (h : SqT K H a xs) : SqT K H' a xs := by
  rcases h with (h | ⟨o, h⟩) | h
  · exact .inl (.inl (e _ _ h))
  · exact .inl (.inr ⟨o, e _ _ h⟩)
  · exact .inr h
theorem rd_same {H H' : Hp} {a : Addr} {u : HO} (e : Same H H') (h : Rd H a u) : Rd H' a u := by
  rcases h with h | ⟨o, h⟩
  · exact .inl (e _ _ h)
  · exact .inr ⟨o, e _ _ h⟩

section
variable {K : PySem.W.Frag} {F F' : Hp} (e : Same F F')
include e
mutual
theorem Rep.mono : ∀ {d : D} {v : V}, Rep K F d v → Rep K F' d v
  | _, _, .non => .non
  | _, _, .bl b => .bl b
  | _, _, .int b => .int b
  | _, _, .str b => .str b
  | _, _, .raw b => .raw b
  | _, _, .lst h r => .lst (e _ _ h) (RepL.mono r)
  | _, _, .tup h r => .tup (e _ _ h) (RepL.mono r)
  | _, _, .fls h r => .fls (e.seq h) (RepL.mono r)
  | _, _, .dct h r => .dct (rd_same e h) (RepK.mono r)
  | _, _, .ins h r => .ins (e _ _ h) (RepF.mono r)
  | _, _, .exc h r => .exc (e _ _ h) (Rep.mono r)
  | _, _, .fn h r g => .fn (e _ _ h) (e _ _ r) fun vs z => e _ _ (g vs z)
  | _, _, .ob h => .ob fun F' s => h F' fun b o z => s b o (e b o z)
theorem RepL.mono : ∀ {ds : List D} {vs : List V}, RepL K F ds vs → RepL K F' ds vs
  | _, _, .nil => .nil
  | _, _, .cons h r => .cons (Rep.mono h) (RepL.mono r)
theorem RepK.mono : ∀ {ds : List (Key × D)} {vs : List (Key × V)}, RepK K F ds vs → RepK K F' ds vs
  | _, _, .nil => .nil
  | _, _, .cons h r => .cons (Rep.mono h) (RepK.mono r)
theorem RepF.mono : ∀ {ds : List (Str × D)} {vs : List (Str × V)}, RepF K F ds vs → RepF K F' ds vs
  | _, _, .nil => .nil
  | _, _, .cons h r => .cons (Rep.mono h) (RepF.mono r)
end
end

theorem RepL.length {K : PySem.W.Frag} {F : Hp} : ∀ {ds : List D} {vs : List V}, RepL K F ds vs → ds.length = vs.length
  | _, _, .nil => rfl
  | _, _, .cons _ r => by simp [RepL.length r]
theorem RepL.get {K : PySem.W.Frag} {F : Hp} : ∀ {ds : List D} {vs : List V} {i : Nat} {d : D}, RepL K F ds vs → ds[i]? = some d → ∃ v, vs[i]? = some v ∧ Rep K F d v
  | _, _, _, _, .nil, e => by simp at e
  | _, _, 0, _, .cons r _, e => by simp at e; subst e; exact ⟨_, rfl, r⟩
  | _, _, i + 1, _, .cons _ t, e => by
    obtain ⟨u, h1, h2⟩ := RepL.get (i := i) t (by simpa using e)
    exact ⟨u, by simpa using h1, h2⟩
theorem RepL.set {K : PySem.W.Frag} {F : Hp} {d : D} {v : V} (r : Rep K F d v) : ∀ {ds : List D} {vs : List V} (i : Nat), RepL K F ds vs → RepL K F (ds.set i d) (vs.set i v)
  | _, _, _, .nil => .nil
  | _, _, 0, .cons _ t => .cons r t
  | _, _, i + 1, .cons q t => .cons q (RepL.set r i t)
theorem RepL.append {K : PySem.W.Frag} {F : Hp} : ∀ {ds es : List D} {vs ws : List V}, RepL K F ds vs → RepL K F es ws → RepL K F (ds ++ es) (vs ++ ws)
  | _, _, _, _, .nil, s => s
  | _, _, _, _, .cons r t, s => .cons r (RepL.append t s)
theorem RepL.take {K : PySem.W.Frag} {F : Hp} : ∀ {ds : List D} {vs : List V} (n : Nat), RepL K F ds vs → RepL K F (ds.take n) (vs.take n)
  | _, _, 0, _ => .nil
  | _, _, _ + 1, .nil => .nil
  | _, _, n + 1, .cons r t => .cons r (RepL.take n t)
theorem RepL.drop {K : PySem.W.Frag} {F : Hp} : ∀ {ds : List D} {vs : List V} (n : Nat), RepL K F ds vs → RepL K F (ds.drop n) (vs.drop n)
  | _, _, 0, r => r
  | _, _, _ + 1, .nil => .nil
  | _, _, n + 1, .cons _ t => RepL.drop n t
theorem RepL.eraseIdx {K : PySem.W.Frag} {F : Hp} : ∀ {ds : List D} {vs : List V} (i : Nat), RepL K F ds vs → RepL K F (ds.eraseIdx i) (vs.eraseIdx i)
  | _, _, _, .nil => .nil
  | _, _, 0, .cons _ t => t
  | _, _, i + 1, .cons q t => .cons q (RepL.eraseIdx i t)
theorem RepL.reverse {K : PySem.W.Frag} {F : Hp} : ∀ {ds : List D} {vs : List V}, RepL K F ds vs → RepL K F ds.reverse vs.reverse
  | _, _, .nil => .nil
  | _, _, .cons q t => by
    rw [List.reverse_cons, List.reverse_cons]
    exact (RepL.reverse t).append (.cons q .nil)
theorem RepL.ints {K : PySem.W.Frag} {F : Hp} : ∀ {ns : List Int} {vs : List V}, RepL K F (ns.map D.int) vs → vs = ns.map V.int
  | [], _, h => by cases h; rfl
  | n :: ns, _, h => by
    cases h with
    | cons a r =>
      cases a
      rw [RepL.ints r]; rfl
theorem RepL.of_ints {K : PySem.W.Frag} {F : Hp} : ∀ (ns : List Int), RepL K F (ns.map D.int) (ns.map V.int)
  | [] => .nil
  | n :: ns => .cons (.int n) (RepL.of_ints ns)
/-! ### owned things -/
/-- what hangs on an owned thing: lists, dicts -/
inductive Ch where
  | l (xs : List D)
  | d (kvs : List (Key × D))
/-- a field: data, or what hangs on the thing -/
inductive Fl where
  | v (d : D)
  | c (p : Addr) (x : Ch)
inductive O where
  | lst (xs : List D)
  | dct (kvs : List (Key × D))
  | ldct (o : Obj) (ws : List (Key × V)) (kvs : List (Key × D))
  | ins (C dx : Addr) (fs : List (Str × D))
  | dcl (kvs : List (Key × Addr × List D))
  | inl (C dx : Addr) (fs : List (Str × Fl))
  | tpl (fs : List (Str × Fl))
  /-- a list of one's own things -/
  | lcl (fs : List (Str × Fl))
  /-- a dict with texts as keys -/
  | rcd (fs : List (Str × Fl))
def ChAt (K : PySem.W.Frag) (F H : Hp) (p : Addr) : Ch → Prop
  | .l xs => ∃ vs, H p = some (.lst vs) ∧ RepL K F xs vs
  | .d kvs => ∃ ws, H p = some (.dK ws) ∧ RepK K F kvs ws
def FlAt (K : PySem.W.Frag) (F H : Hp) : Fl → V → Prop
  | .v d, v => Rep K F d v
  | .c p x, v => v = .ref p ∧ ChAt K F H p x
inductive FlsAt (K : PySem.W.Frag) (F H : Hp) : List (Str × Fl) → List (Str × V) → Prop
  | nil : FlsAt K F H [] []
  | cons {k : Str} {x : Fl} {v : V} {fs : List (Str × Fl)} {ws : List (Str × V)} : FlAt K F H x v → FlsAt K F H fs ws → FlsAt K F H ((k, x) :: fs) ((k, v) :: ws)
inductive DclAt (K : PySem.W.Frag) (F H : Hp) : List (Key × Addr × List D) → List (Key × V) → Prop
  | nil : DclAt K F H [] []
  | cons {k : Key} {p : Addr} {xs : List D} {kvs : List (Key × Addr × List D)} {ws : List (Key × V)} : ChAt K F H p (.l xs) → DclAt K F H kvs ws → DclAt K F H ((k, p, xs) :: kvs) ((k, .ref p) :: ws)
def OwnAt (K : PySem.W.Frag) (F H : Hp) (a : Addr) : O → Prop
  | .lst xs => ∃ vs, H a = some (.lst vs) ∧ RepL K F xs vs
  | .dct kvs => ∃ ws, H a = some (.dK ws) ∧ RepK K F kvs ws
  | .ldct o ws kvs => H a = some (.frz o (.dK ws)) ∧ RepK K F kvs ws
  | .ins C dx fs => ∃ ws, H a = some (.ins C dx ws) ∧ RepF K F fs ws
  | .dcl kvs => ∃ ws, H a = some (.dK ws) ∧ DclAt K F H kvs ws
  | .inl C dx fs => ∃ ws, H a = some (.ins C dx ws) ∧ FlsAt K F H fs ws
  | .tpl fs => ∃ ws : List (Str × V), H a = some (.tup (ws.map (·.2))) ∧ FlsAt K F H fs ws
  | .lcl fs => ∃ ws : List (Str × V), H a = some (.lst (ws.map (·.2))) ∧ FlsAt K F H fs ws
  | .rcd fs => ∃ ws : List (Str × V), H a = some (.dK (ws.map fun w => ((.inr w.1 : Key), w.2))) ∧ FlsAt K F H fs ws
def Ch.d' : Ch → D
  | .l xs => .lst xs
  | .d kvs => .dct kvs
def Fl.d : Fl → D
  | .v d => d
  | .c _ x => x.d'
def dclD (kvs : List (Key × Addr × List D)) : List (Key × D) := kvs.map fun kv => (kv.1, .lst kv.2.2)
def inlD (fs : List (Str × Fl)) : List (Str × D) := fs.map fun f => (f.1, f.2.d)
def O.d : O → D
  | .lst xs => .lst xs
  | .dct kvs => .dct kvs
  | .ldct _ _ kvs => .dct kvs
  | .ins C _ fs => .ins C fs
  | .dcl kvs => .dct (dclD kvs)
  | .inl C _ fs => .ins C (inlD fs)
  | .tpl fs => .tup ((inlD fs).map (·.2))
  | .lcl fs => .lst ((inlD fs).map (·.2))
  | .rcd fs => .dct ((inlD fs).map fun f => (.inr f.1, f.2))
def Fl.ad : Fl → List Addr
  | .v _ => []
  | .c p _ => [p]
/-- nothing hangs on it -/
def O.flat : O → Prop
  | .dcl _ => False
  | .inl _ _ _ => False
  | .tpl _ => False
  | .lcl _ => False
  | .rcd _ => False
  | _ => True
/-- what hangs on it -/
def O.inn : O → List Addr
  | .dcl kvs => kvs.map fun kv => kv.2.1
  | .inl _ _ fs => fs.flatMap fun f => f.2.ad
  | .tpl fs => fs.flatMap fun f => f.2.ad
  | .lcl fs => fs.flatMap fun f => f.2.ad
  | .rcd fs => fs.flatMap fun f => f.2.ad
  | _ => []
/-- the fields or items on which its things hang -/
def O.hang : O → List (Str × Fl)
  | .inl _ _ fs => fs
  | .tpl fs => fs
  | .lcl fs => fs
  | .rcd fs => fs
  | _ => []
inductive Sl where
  | v (d : D)
  | o (a : Addr) (c : O)
abbrev Env := List (Option Sl)
def ownA : Option Sl → List Addr
  | some (.o a c) => a :: c.inn
  | _ => []
def owns (ρ : Env) : List Addr := ρ.flatMap ownA
@[simp] theorem owns_nil : owns [] = [] := rfl
theorem owns_cons {x : Option Sl} {ρ : Env} : owns (x :: ρ) = ownA x ++ owns ρ := rfl
@[simp] theorem owns_o {a c} {ρ : Env} : owns (some (.o a c) :: ρ) = a :: (c.inn ++ owns ρ) := rfl
@[simp] theorem owns_v {d} {ρ : Env} : owns (some (.v d) :: ρ) = owns ρ := rfl
@[simp] theorem owns_n {ρ : Env} : owns (none :: ρ) = owns ρ := rfl
def RsOk (K : PySem.W.Frag) (F H : Hp) : Sl → V → Prop
  | .v d, v => Rep K F d v
  | .o a c, v => v = .ref a ∧ (∀ x ∈ a :: c.inn, F x = none) ∧ OwnAt K F H a c
/-- the tables of code objects that the text's lambdas are kept in, each with the name of its code -/
class TbC where
  T : List (Addr × Str)
variable [TbC]
def tA : List Addr := TbC.T.map (·.1)
/-- what stood at a stands; of a table: a table stands there -/
def Kp (H' : Hp) (a : Addr) (o : HO) : Prop := (∃ o', H' a = some o') ∧ (a ∉ tA → H' a = some o)
theorem Kp.of {H' : Hp} {a : Addr} {o : HO} (h : H' a = some o) : Kp H' a o := ⟨⟨o, h⟩, fun _ => h⟩
structure Ok (K : PySem.W.Frag) (σ : St) (F H : Hp) (ρ : Env) : Prop where
  sub : Same F H
  len : ρ.length = σ.length
  at_ : ∀ (i : Nat) (s : Sl), ρ[i]? = some (some s) → ∃ v, σ[i]? = some (some v) ∧ RsOk K F H s v
  nd : (owns ρ).Nodup
  tb : LamX.Tabs TbC.T H
  nf : ∀ p ∈ TbC.T, F p.1 = none
/-- it was frozen, or stood (a code object) -/
def Was (F H : Hp) (a : Addr) (o : HO) : Prop := F a = some o ∨ (a ∉ tA ∧ ∃ φ, o = .ext φ ∧ H a = some o)
structure Step (ρ : Env) (F H : Hp) (ρ' : Env) (F' H' : Hp) : Prop where
  f : Same F F'
  h : ∀ a o, H a = some o → a ∉ owns ρ → Kp H' a o
  n : ∀ a o, F' a = some o → Was F H a o ∨ H a = none ∨ a ∈ owns ρ
  w : ∀ a, a ∈ owns ρ' → a ∈ owns ρ ∨ H a = none

theorem mem_owns {ρ : Env} {x : Addr} : x ∈ owns ρ ↔ ∃ (i : Nat) (a : Addr) (c : O), ρ[i]? = some (some (.o a c)) ∧ x ∈ a :: c.inn := by
  unfold owns
  rw [List.mem_flatMap]
  constructor
  · rintro ⟨y, hy, e⟩
    obtain ⟨i, hi⟩ := List.getElem?_of_mem hy
    match y, e, hi with
    | some (.o b c), e, hi => exact ⟨i, b, c, hi, e⟩
  · rintro ⟨i, a, c, h, e⟩
    exact ⟨_, List.mem_of_getElem? h, e⟩
theorem mem_root {ρ : Env} {a : Addr} {i : Nat} {c : O} (h : ρ[i]? = some (some (.o a c))) : a ∈ owns ρ := mem_owns.mpr ⟨i, a, c, h, List.mem_cons_self⟩
theorem mem_in {ρ : Env} {x a : Addr} {i : Nat} {c : O} (h : ρ[i]? = some (some (.o a c))) (m : x ∈ a :: c.inn) : x ∈ owns ρ := mem_owns.mpr ⟨i, a, c, h, m⟩
theorem nd_tail {x : Option Sl} {r : Env} (nd : (owns (x :: r)).Nodup) : (owns r).Nodup := by
  rw [owns_cons] at nd
  exact (List.nodup_append.mp nd).2.1
/-- things of two slots are apart -/
theorem owns_inj {ρ : Env} (nd : (owns ρ).Nodup) {x a b : Addr} {i j : Nat} {c c' : O} (h : ρ[i]? = some (some (.o a c))) (h' : ρ[j]? = some (some (.o b c'))) (m : x ∈ a :: c.inn) (m' : x ∈ b :: c'.inn) : i = j := by
  induction ρ generalizing i j with
  | nil => simp at h
  | cons y r ih =>
    have apart : ∀ z, z ∈ ownA y → z ∉ owns r := fun z hz hr => (List.nodup_append.mp (by rw [← owns_cons]; exact nd)).2.2 z hz z hr rfl
    match i, j with
    | 0, 0 => rfl
    | 0, j + 1 =>
      simp at h h'
      subst h
      exact (apart x m (mem_owns.mpr ⟨j, b, c', h', m'⟩)).elim
    | i + 1, 0 =>
      simp at h h'
      subst h'
      exact (apart x m' (mem_owns.mpr ⟨i, a, c, h, m⟩)).elim
    | i + 1, j + 1 =>
      simp at h h'
      rw [ih (nd_tail nd) h h']
theorem owns_nd1 {ρ : Env} (nd : (owns ρ).Nodup) {a : Addr} {i : Nat} {c : O} (h : ρ[i]? = some (some (.o a c))) : (a :: c.inn).Nodup := by
  induction ρ generalizing i with
  | nil => simp at h
  | cons y r ih =>
    match i with
    | 0 =>
      simp at h
      subst h
      exact (List.nodup_append.mp (show ((a :: c.inn) ++ owns r).Nodup from nd)).1
    | i + 1 => exact ih (nd_tail nd) (by simpa using h)
section
variable {K : PySem.W.Frag} {F H F' H' : Hp} {a : Addr} {c : O}
theorem ChAt.mono {p : Addr} {x : Ch} (h : ChAt K F H p x) (e : Same F F') (q : ∀ o, H p = some o → H' p = some o) : ChAt K F' H' p x := by
  cases x with
  | l xs => obtain ⟨vs, x, r⟩ := h; exact ⟨vs, q _ x, RepL.mono e r⟩
  | d xs => obtain ⟨vs, x, r⟩ := h; exact ⟨vs, q _ x, RepK.mono e r⟩
/-- no table, no thing told by a property -/
def Pl (o : HO) : Prop := (∀ ps, o ≠ .tbl ps) ∧ ∀ φ, o ≠ .ext φ
theorem pl_lst {xs : List V} : Pl (.lst xs) := ⟨fun _ => nofun, fun _ => nofun⟩
theorem pl_tup {xs : List V} : Pl (.tup xs) := ⟨fun _ => nofun, fun _ => nofun⟩
theorem pl_dK {xs : List (Key × V)} : Pl (.dK xs) := ⟨fun _ => nofun, fun _ => nofun⟩
theorem pl_frz {o : Obj} {u : HO} : Pl (.frz o u) := ⟨fun _ => nofun, fun _ => nofun⟩
theorem pl_ins {C dx : Addr} {fs : List (Str × V)} : Pl (.ins C dx fs) := ⟨fun _ => nofun, fun _ => nofun⟩
theorem ChAt.kind {p : Addr} {x : Ch} (h : ChAt K F H p x) : ∃ o, H p = some o ∧ Pl o := by
  cases x with
  | l xs => obtain ⟨vs, x, r⟩ := h; exact ⟨_, x, pl_lst⟩
  | d xs => obtain ⟨vs, x, r⟩ := h; exact ⟨_, x, pl_dK⟩
theorem DclAt.kind {kvs : List (Key × Addr × List D)} {ws : List (Key × V)} (h : DclAt K F H kvs ws) : ∀ x ∈ kvs.map (fun kv => kv.2.1), ∃ o, H x = some o ∧ Pl o := by
  induction h with
  | nil => intro x hx; cases hx
  | cons a _ ih =>
    intro x hx
    rcases List.mem_cons.mp hx with rfl | hx
    · exact a.kind
    · exact ih x hx
theorem FlsAt.kind {fs : List (Str × Fl)} {ws : List (Str × V)} (h : FlsAt K F H fs ws) : ∀ x ∈ fs.flatMap (fun f => f.2.ad), ∃ o, H x = some o ∧ Pl o := by
  induction h with
  | nil => intro x hx; cases hx
  | @cons k x v fs ws a _ ih =>
    intro y hy
    rw [List.flatMap_cons] at hy
    rcases List.mem_append.mp hy with hy | hy
    · cases x with
      | v d => cases hy
      | c p x => rw [List.mem_singleton.mp hy]; exact a.2.kind
    · exact ih y hy
theorem OwnAt.kind (h : OwnAt K F H a c) : ∀ x ∈ a :: c.inn, ∃ o, H x = some o ∧ Pl o := by
  intro x hx
  rcases List.mem_cons.mp hx with rfl | hx
  · cases c with
    | lst xs => obtain ⟨vs, x, r⟩ := h; exact ⟨_, x, pl_lst⟩
    | dct xs => obtain ⟨vs, x, r⟩ := h; exact ⟨_, x, pl_dK⟩
    | ldct o ws xs => exact ⟨_, h.1, pl_frz⟩
    | ins C dx xs => obtain ⟨vs, x, r⟩ := h; exact ⟨_, x, pl_ins⟩
    | dcl kvs => obtain ⟨ws, x, r⟩ := h; exact ⟨_, x, pl_dK⟩
    | inl C dx fs => obtain ⟨ws, x, r⟩ := h; exact ⟨_, x, pl_ins⟩
    | tpl fs => obtain ⟨ws, x, r⟩ := h; exact ⟨_, x, pl_tup⟩
    | lcl fs => obtain ⟨ws, x, r⟩ := h; exact ⟨_, x, pl_lst⟩
    | rcd fs => obtain ⟨ws, x, r⟩ := h; exact ⟨_, x, pl_dK⟩
  · cases c with
    | lst xs => cases hx
    | dct xs => cases hx
    | ldct o ws xs => cases hx
    | ins C dx xs => cases hx
    | dcl kvs => obtain ⟨ws, _, r⟩ := h; exact r.kind x hx
    | inl C dx fs => obtain ⟨ws, _, r⟩ := h; exact r.kind x hx
    | tpl fs => obtain ⟨ws, _, r⟩ := h; exact r.kind x hx
    | lcl fs => obtain ⟨ws, _, r⟩ := h; exact r.kind x hx
    | rcd fs => obtain ⟨ws, _, r⟩ := h; exact r.kind x hx
theorem ChAt.there {p : Addr} {x : Ch} (h : ChAt K F H p x) : ∃ o, H p = some o := by
  cases x with
  | l xs => obtain ⟨vs, x, r⟩ := h; exact ⟨_, x⟩
  | d xs => obtain ⟨vs, x, r⟩ := h; exact ⟨_, x⟩
theorem DclAt.mono {kvs : List (Key × Addr × List D)} {ws : List (Key × V)} (h : DclAt K F H kvs ws) (e : Same F F') (q : ∀ x ∈ kvs.map (fun kv => kv.2.1), ∀ o, H x = some o → H' x = some o) : DclAt K F' H' kvs ws := by
  induction h with
  | nil => exact .nil
  | cons a _ ih => exact .cons (a.mono e (q _ List.mem_cons_self)) (ih fun x hx => q x (List.mem_cons_of_mem _ hx))
theorem DclAt.there {kvs : List (Key × Addr × List D)} {ws : List (Key × V)} (h : DclAt K F H kvs ws) : ∀ x ∈ kvs.map (fun kv => kv.2.1), ∃ o, H x = some o := by
  induction h with
  | nil => intro x hx; cases hx
  | cons a _ ih =>
    intro x hx
    rcases List.mem_cons.mp hx with rfl | hx
    · exact a.there
    · exact ih x hx
theorem FlsAt.mono {fs : List (Str × Fl)} {ws : List (Str × V)} (h : FlsAt K F H fs ws) (e : Same F F') (q : ∀ x ∈ fs.flatMap (fun f => f.2.ad), ∀ o, H x = some o → H' x = some o) : FlsAt K F' H' fs ws := by
  induction h with
  | nil => exact .nil
  | @cons k x v fs ws a _ ih =>
    rw [List.flatMap_cons] at q
    refine .cons ?_ (ih fun y hy => q y (List.mem_append_right _ hy))
    cases x with
    | v d => exact Rep.mono e a
    | c p x => exact ⟨a.1, a.2.mono e (q _ (List.mem_append_left _ List.mem_cons_self))⟩
theorem FlsAt.there {fs : List (Str × Fl)} {ws : List (Str × V)} (h : FlsAt K F H fs ws) : ∀ x ∈ fs.flatMap (fun f => f.2.ad), ∃ o, H x = some o := by
  induction h with
  | nil => intro x hx; cases hx
  | @cons k x v fs ws a _ ih =>
    intro y hy
    rw [List.flatMap_cons] at hy
    rcases List.mem_append.mp hy with hy | hy
    · cases x with
      | v d => cases hy
      | c p x => rw [List.mem_singleton.mp hy]; exact a.2.there
    · exact ih y hy
theorem OwnAt.mono (h : OwnAt K F H a c) (e : Same F F') (q : ∀ x ∈ a :: c.inn, ∀ o, H x = some o → H' x = some o) : OwnAt K F' H' a c := by
  have qa := q a List.mem_cons_self
  have qi := fun x hx => q x (List.mem_cons_of_mem _ hx)
  cases c with
  | lst xs => obtain ⟨vs, x, r⟩ := h; exact ⟨vs, qa _ x, RepL.mono e r⟩
  | dct xs => obtain ⟨vs, x, r⟩ := h; exact ⟨vs, qa _ x, RepK.mono e r⟩
  | ldct o ws xs => obtain ⟨x, r⟩ := h; exact ⟨qa _ x, RepK.mono e r⟩
  | ins C dx xs => obtain ⟨vs, x, r⟩ := h; exact ⟨vs, qa _ x, RepF.mono e r⟩
  | dcl kvs => obtain ⟨ws, x, r⟩ := h; exact ⟨ws, qa _ x, r.mono e qi⟩
  | inl C dx fs => obtain ⟨ws, x, r⟩ := h; exact ⟨ws, qa _ x, r.mono e qi⟩
  | tpl fs => obtain ⟨ws, x, r⟩ := h; exact ⟨ws, qa _ x, r.mono e qi⟩
  | lcl fs => obtain ⟨ws, x, r⟩ := h; exact ⟨ws, qa _ x, r.mono e qi⟩
  | rcd fs => obtain ⟨ws, x, r⟩ := h; exact ⟨ws, qa _ x, r.mono e qi⟩
theorem OwnAt.there (h : OwnAt K F H a c) : ∀ x ∈ a :: c.inn, ∃ o, H x = some o := by
  intro x hx
  rcases List.mem_cons.mp hx with rfl | hx
  · cases c with
    | lst xs => obtain ⟨vs, x, r⟩ := h; exact ⟨_, x⟩
    | dct xs => obtain ⟨vs, x, r⟩ := h; exact ⟨_, x⟩
    | ldct o ws xs => exact ⟨_, h.1⟩
    | ins C dx xs => obtain ⟨vs, x, r⟩ := h; exact ⟨_, x⟩
    | dcl kvs => obtain ⟨ws, x, r⟩ := h; exact ⟨_, x⟩
    | inl C dx fs => obtain ⟨ws, x, r⟩ := h; exact ⟨_, x⟩
    | tpl fs => obtain ⟨ws, x, r⟩ := h; exact ⟨_, x⟩
    | lcl fs => obtain ⟨ws, x, r⟩ := h; exact ⟨_, x⟩
    | rcd fs => obtain ⟨ws, x, r⟩ := h; exact ⟨_, x⟩
  · cases c with
    | lst xs => cases hx
    | dct xs => cases hx
    | ldct o ws xs => cases hx
    | ins C dx xs => cases hx
    | dcl kvs => obtain ⟨ws, _, r⟩ := h; exact r.there x hx
    | inl C dx fs => obtain ⟨ws, _, r⟩ := h; exact r.there x hx
    | tpl fs => obtain ⟨ws, _, r⟩ := h; exact r.there x hx
    | lcl fs => obtain ⟨ws, _, r⟩ := h; exact r.there x hx
    | rcd fs => obtain ⟨ws, _, r⟩ := h; exact r.there x hx
end

section
variable {K : PySem.W.Frag} {σ : St} {F H F' H' F'' H'' : Hp} {ρ ρ' ρ'' : Env}
theorem Step.refl (ρ : Env) (F H : Hp) : Step ρ F H ρ F H := ⟨Same.refl _, fun _ _ h _ => .of h, fun _ _ h => .inl (.inl h), fun _ h => .inl h⟩
theorem Step.none_of (s : Step ρ F H ρ' F' H') {a : Addr} (h : H' a = none) : H a = none ∨ a ∈ owns ρ := by
  by_cases m : a ∈ owns ρ
  · exact .inr m
  · cases e : H a with
    | none => exact .inl rfl
    | some o =>
      obtain ⟨o', z⟩ := (s.h a o e m).1
      rw [z] at h; cases h
theorem Step.trans (s : Step ρ F H ρ' F' H') (t : Step ρ' F' H' ρ'' F'' H'') : Step ρ F H ρ'' F'' H'' where
  f := s.f.trans t.f
  h := fun a o e m => by
    have nm : a ∉ owns ρ' := fun m' => by
      rcases s.w a m' with z | z
      · exact m z
      · rw [e] at z; cases z
    obtain ⟨⟨o1, h1⟩, h2⟩ := s.h a o e m
    exact ⟨(t.h a o1 h1 nm).1, fun nt => (t.h a o (h2 nt) nm).2 nt⟩
  n := fun a o e => by
    rcases t.n a o e with (z | ⟨nt, φ, z1, z2⟩) | z | z
    · exact s.n a o z
    · by_cases m : a ∈ owns ρ
      · exact .inr (.inr m)
      · cases q : H a with
        | none => exact .inr (.inl rfl)
        | some o' =>
          have := (s.h a o' q m).2 nt
          rw [z2] at this
          cases this
          exact .inl (.inr ⟨nt, φ, z1, q⟩)
    · rcases s.none_of z with y | y
      · exact .inr (.inl y)
      · exact .inr (.inr y)
    · rcases s.w a z with y | y
      · exact .inr (.inr y)
      · exact .inr (.inl y)
  w := fun a m => by
    rcases t.w a m with z | z
    · exact s.w a z
    · rcases s.none_of z with y | y
      · exact .inr y
      · exact .inl y
/-- a change of the environment alone -/
theorem Step.env (h : ∀ a, a ∈ owns ρ' → a ∈ owns ρ) : Step ρ F H ρ' F H := ⟨Same.refl _, fun _ _ h _ => .of h, fun _ _ h => .inl (.inl h), fun a m => .inl (h a m)⟩
theorem Ok.own (k : Ok K σ F H ρ) {a : Addr} (m : a ∈ owns ρ) : F a = none ∧ ∃ o, H a = some o := by
  obtain ⟨i, b, c, h, hm⟩ := mem_owns.mp m
  obtain ⟨v, _, rfl, n, q⟩ := k.at_ i _ h
  exact ⟨n a hm, q.there a hm⟩
theorem Ok.ownK (k : Ok K σ F H ρ) {a : Addr} (m : a ∈ owns ρ) : ∃ o, H a = some o ∧ Pl o := by
  obtain ⟨i, b, c, h, hm⟩ := mem_owns.mp m
  obtain ⟨v, _, rfl, n, q⟩ := k.at_ i _ h
  exact q.kind a hm
theorem mem_tA {a : Addr} (m : a ∈ tA) : ∃ p ∈ TbC.T, p.1 = a := List.mem_map.mp m
theorem Pl.nt {o : HO} {a : Addr} (p : Pl o) (tb : LamX.Tabs TbC.T H) (e : H a = some o) : a ∉ tA := fun m => by
  obtain ⟨q, hq, rfl⟩ := mem_tA m
  obtain ⟨ps, h, _⟩ := tb q hq
  rw [h] at e
  exact p.1 ps (Option.some.inj e).symm
/-- the tables are not owned -/
theorem Ok.nt (k : Ok K σ F H ρ) {a : Addr} (m : a ∈ owns ρ) : a ∉ tA := let ⟨_, e, p⟩ := k.ownK m; p.nt k.tb e
/-- the tables stand where all but plain things stand -/
theorem tabs_pl (tb : LamX.Tabs TbC.T H) (h : ∀ b o, H b = some o → ¬ Pl o → H' b = some o) : LamX.Tabs TbC.T H' := fun p hp => by
  obtain ⟨ps, h1, h2, h3⟩ := tb p hp
  refine ⟨ps, h _ _ h1 fun z => z.1 ps rfl, h2, fun pos cv hc => ?_⟩
  obtain ⟨c, e1, e2⟩ := h3 pos cv hc
  exact ⟨c, e1, h _ _ e2 fun z => z.2 _ rfl⟩
/-- all but what is owned stands -/
theorem Ok.tb' (k : Ok K σ F H ρ) (h : ∀ b o, H b = some o → b ∉ owns ρ → H' b = some o) : LamX.Tabs TbC.T H' := tabs_pl k.tb fun b o e n => h b o e fun m => by
  obtain ⟨o', e', p⟩ := k.ownK m
  rw [e] at e'
  cases e'
  exact n p
theorem Ok.tbH (k : Ok K σ F H ρ) {p : Addr × Str} (hp : p ∈ TbC.T) : ∃ o, H p.1 = some o := let ⟨_, h, _⟩ := k.tb p hp; ⟨_, h⟩
theorem Ok.nf' (k : Ok K σ F H ρ) (n : ∀ a o, F' a = some o → F a = some o ∨ H a = none) : ∀ p ∈ TbC.T, F' p.1 = none := fun p hp => by
  cases z : F' p.1 with
  | none => rfl
  | some o =>
    rcases n _ o z with y | y
    · rw [k.nf p hp] at y; cases y
    · obtain ⟨_, h⟩ := k.tbH hp
      rw [h] at y; cases y
/-- the heap grows at new places, what is frozen grows -/
theorem Ok.grow (k : Ok K σ F H ρ) (hF : Same F F') (hH : Same H H') (sub : Same F' H') (n : ∀ a o, F' a = some o → F a = some o ∨ H a = none) : Ok K σ F' H' ρ where
  sub := sub
  len := k.len
  at_ := fun i s e => by
    obtain ⟨v, h1, h2⟩ := k.at_ i s e
    refine ⟨v, h1, ?_⟩
    cases s with
    | v d => exact Rep.mono hF h2
    | o a c =>
      obtain ⟨rfl, h3, h4⟩ := h2
      refine ⟨rfl, fun x hx => ?_, h4.mono hF fun x _ o q => hH _ _ q⟩
      cases z : F' x with
      | none => rfl
      | some o =>
        obtain ⟨o', h5⟩ := h4.there x hx
        rcases n x o z with y | y
        · rw [h3 x hx] at y; cases y
        · rw [h5] at y; cases y
  nd := k.nd
  tb := k.tb.ext hH
  nf := k.nf' n
theorem Step.grow (hF : Same F F') (hH : Same H H') (n : ∀ a o, F' a = some o → F a = some o ∨ H a = none) : Step ρ F H ρ F' H' :=
  ⟨hF, fun a o e _ => .of (hH a o e), fun a o e => (n a o e).elim (fun z => .inl (.inl z)) fun z => .inr (.inl z), fun _ m => .inl m⟩
theorem RsOk.v {d : D} {v : V} (h : RsOk K F H (.v d) v) : Rep K F d v := h
/-- frozen data stands -/
theorem Step.rep (s : Step ρ F H ρ' F' H') {d : D} {v : V} (h : Rep K F d v) : Rep K F' d v := Rep.mono s.f h
/-- an owned thing that the environment does not hold stands -/
theorem Step.free (s : Step ρ F H ρ' F' H') (tb : LamX.Tabs TbC.T H) {a : Addr} {c : O} {v : V} (h : RsOk K F H (.o a c) v) (m : ∀ x ∈ a :: c.inn, x ∉ owns ρ) : RsOk K F' H' (.o a c) v := by
  obtain ⟨rfl, n, q⟩ := h
  refine ⟨rfl, fun x hx => ?_, q.mono s.f fun x hx o e => (s.h x o e (m x hx)).2 ?_⟩
  rotate_left
  · obtain ⟨o', e', p⟩ := q.kind x hx
    rw [e] at e'
    cases e'
    exact p.nt tb e
  obtain ⟨o, e⟩ := q.there x hx
  cases z : F' x with
  | none => rfl
  | some o' =>
    rcases s.n x o' z with (y | ⟨_, φ, y1, y2⟩) | y | y
    · rw [n x hx] at y; cases y
    · obtain ⟨o2, e2, p2⟩ := q.kind x hx
      rw [y2] at e2; cases e2
      exact absurd y1 (p2.2 φ)
    · rw [e] at y; cases y
    · exact (m x hx y).elim
end

theorem same_upd {H : Hp} {p : Addr} {o : HO} (n : H p = none) : Same H (upd H p o) := fun b u e => by
  rw [upd_ne (ne_of_none e n)]; exact e
theorem same_upd2 {F H : Hp} {p : Addr} {o : HO} (s : Same F H) : Same (upd F p o) (upd H p o) := fun b u e => by
  by_cases h : b = p
  · subst h; rw [upd_same] at e ⊢; exact e
  · rw [upd_ne h] at e ⊢; exact s _ _ e
theorem tabs_upd {H : Hp} {a : Addr} {u : HO} (tb : LamX.Tabs TbC.T H) (h : H a = none ∨ ∃ o, H a = some o ∧ Pl o) : LamX.Tabs TbC.T (upd H a u) := tabs_pl tb fun b o e n => by
  rw [upd_ne fun z => ?_]
  · exact e
  · subst z
    rcases h with h | ⟨o', h, p⟩
    · rw [h] at e; cases e
    · rw [h] at e; cases e; exact n p
theorem Kp.far {H H' : Hp} {b : Addr} {o : HO} (k : Kp H b o) (h : ∀ o, H b = some o → H' b = some o) : Kp H' b o := ⟨let ⟨o', e⟩ := k.1; ⟨o', h _ e⟩, fun n => h _ (k.2 n)⟩
theorem Kp.then {H H' : Hp} {b : Addr} {o : HO} (k : Kp H b o) (h : ∀ o, H b = some o → Kp H' b o) : Kp H' b o := ⟨let ⟨o', e⟩ := k.1; (h o' e).1, fun n => (h o (k.2 n)).2 n⟩
theorem Ok.ntN {K : PySem.W.Frag} {σ : St} {F H : Hp} {ρ : Env} (k : Ok K σ F H ρ) {p : Addr} (h : H p = none) : p ∉ tA := fun m => by
  obtain ⟨q, hq, rfl⟩ := mem_tA m
  obtain ⟨o, e⟩ := k.tbH hq
  rw [h] at e; cases e
theorem Kp.upd {H : Hp} {b A : Addr} {o u : HO} (k : Kp H b o) (h : b ≠ A) : Kp (upd H A u) b o := by
  unfold Kp
  rw [upd_ne h]
  exact k
/-! ### the judgements -/
/-- q: nothing changes -/
def Qt (q : Bool) (ρ : Env) (F H : Hp) (ρ' : Env) (F' H' : Hp) : Prop := q = true → ρ' = ρ ∧ F' = F ∧ H' = H
/-- an expression gives frozen data -/
def ev (K : PySem.W.Frag) (q : Bool) (te : TE) (ρ : Env) (Φ : D → Env → Prop) : Prop :=
  ∀ (σ : St) (F H : Hp) (Q : VK), Ok K σ F H ρ → (∀ d v F' H' ρ', Ok K σ F' H' ρ' → Rep K F' d v → Step ρ F H ρ' F' H' → Qt q ρ F H ρ' F' H' → Φ d ρ' → Q v H') → te σ H Q
/-- what is borrowed: frozen data, or what a slot owns -/
def BRep (K : PySem.W.Frag) (F : Hp) (ρ : Env) (d : D) (v : V) : Prop := Rep K F d v ∨ (∃ (i : Nat) (a : Addr) (c : O), ρ[i]? = some (some (.o a c)) ∧ v = .ref a ∧ d = c.d ∧ c.flat) ∨
  ∃ (i : Nat) (a : Addr) (c : O) (f : Str) (p : Addr) (x : Ch), ρ[i]? = some (some (.o a c)) ∧ (f, Fl.c p x) ∈ c.hang ∧ v = .ref p ∧ d = x.d'
theorem FlsAt.mem {K : PySem.W.Frag} {F H : Hp} {fs : List (Str × Fl)} {ws : List (Str × V)} (h : FlsAt K F H fs ws) {f : Str} {p : Addr} {x : Ch} (m : (f, Fl.c p x) ∈ fs) : ChAt K F H p x := by
  induction h with
  | nil => cases m
  | cons a _ ih =>
    rcases List.mem_cons.mp m with e | m
    · cases e; exact a.2
    · exact ih m
/-- what hangs on a slot's thing -/
theorem Ok.chat {K : PySem.W.Frag} {σ : St} {F H : Hp} {ρ : Env} (ok : Ok K σ F H ρ) {i : Nat} {a : Addr} {c : O} {f : Str} {p : Addr} {x : Ch} (h : ρ[i]? = some (some (.o a c))) (m : (f, Fl.c p x) ∈ c.hang) : ChAt K F H p x := by
  obtain ⟨_, _, rfl, _, h3⟩ := ok.at_ i _ h
  cases c with
  | inl C dx fs => obtain ⟨ws, _, h3⟩ := h3; exact h3.mem m
  | tpl fs => obtain ⟨ws, _, h3⟩ := h3; exact h3.mem m
  | lcl fs => obtain ⟨ws, _, h3⟩ := h3; exact h3.mem m
  | rcd fs => obtain ⟨ws, _, h3⟩ := h3; exact h3.mem m
  | lst _ => cases m
  | dct _ => cases m
  | ldct _ _ _ => cases m
  | ins _ _ _ => cases m
  | dcl _ => cases m
def evb (K : PySem.W.Frag) (q : Bool) (te : TE) (ρ : Env) (Φ : D → Env → Prop) : Prop :=
  ∀ (σ : St) (F H : Hp) (Q : VK), Ok K σ F H ρ → (∀ d v F' H' ρ', Ok K σ F' H' ρ' → BRep K F' ρ' d v → Step ρ F H ρ' F' H' → Qt q ρ F H ρ' F' H' → Φ d ρ' → Q v H') → te σ H Q
/-- an expression gives a new owned thing -/
def evo (K : PySem.W.Frag) (te : TE) (ρ : Env) (Φ : Addr → O → Env → Prop) : Prop :=
  ∀ (σ : St) (F H : Hp) (Q : VK), Ok K σ F H ρ → (∀ a c F' H' ρ', Ok K σ F' H' ρ' → RsOk K F' H' (.o a c) (.ref a) → Step ρ F H ρ' F' H' → (∀ x ∈ a :: c.inn, x ∈ owns ρ ∨ H x = none) → (a :: c.inn).Nodup → (∀ x ∈ a :: c.inn, x ∉ owns ρ') → Φ a c ρ' → Q (.ref a) H') → te σ H Q
/-- arguments -/
inductive RsL (K : PySem.W.Frag) (F H : Hp) : List Sl → List V → Prop
  | nil : RsL K F H [] []
  | cons {s : Sl} {ss : List Sl} {v : V} {vs : List V} : RsOk K F H s v → RsL K F H ss vs → RsL K F H (s :: ss) (v :: vs)
def evs (K : PySem.W.Frag) (q : Bool) (ta : TA) (ρ : Env) (Φ : List Sl → Env → Prop) : Prop :=
  ∀ (σ : St) (F H : Hp) (Q : List V → Hp → Prop), Ok K σ F H ρ → (∀ ss vs F' H' ρ', Ok K σ F' H' ρ' → RsL K F' H' ss vs → Step ρ F H ρ' F' H' → Qt q ρ F H ρ' F' H' → Φ ss ρ' → Q vs H') → ta σ H Q
/-- arguments that are all frozen data -/
def evd (K : PySem.W.Frag) (q : Bool) (ta : TA) (ρ : Env) (Φ : List D → Env → Prop) : Prop :=
  ∀ (σ : St) (F H : Hp) (Q : List V → Hp → Prop), Ok K σ F H ρ → (∀ ds vs F' H' ρ', Ok K σ F' H' ρ' → RepL K F' ds vs → Step ρ F H ρ' F' H' → Qt q ρ F H ρ' F' H' → Φ ds ρ' → Q vs H') → ta σ H Q
def et (K : PySem.W.Frag) (q : Bool) (tt : TT) (ρ : Env) (Φ : Bool → Env → Prop) : Prop :=
  ∀ (σ : St) (F H : Hp) (Q : Bool → Hp → Prop), Ok K σ F H ρ → (∀ b F' H' ρ', Ok K σ F' H' ρ' → Step ρ F H ρ' F' H' → Qt q ρ F H ρ' F' H' → Φ b ρ' → Q b H') → tt σ H Q
structure En where
  nx : Env → Prop
  rt : Sl → Env → Prop
  bk : Env → Prop := fun _ => False
  ct : Env → Prop := fun _ => False
/-- what an end must bring -/
structure Got (K : PySem.W.Frag) (ρ : Env) (F H : Hp) (E : En) (D : Ends) : Prop where
  nx : ∀ σ' F' H' ρ', Ok K σ' F' H' ρ' → Step ρ F H ρ' F' H' → E.nx ρ' → D.nx σ' H'
  rt : ∀ s v σ' F' H' ρ', Ok K σ' F' H' ρ' → RsOk K F' H' s v → (∀ a c, s = .o a c → (∀ x ∈ a :: c.inn, (x ∈ owns ρ ∨ H x = none) ∧ x ∉ owns ρ') ∧ (a :: c.inn).Nodup) → Step ρ F H ρ' F' H' → E.rt s ρ' → D.rt v H'
  bk : ∀ σ' F' H' ρ', Ok K σ' F' H' ρ' → Step ρ F H ρ' F' H' → E.bk ρ' → D.bk σ' H'
  ct : ∀ σ' F' H' ρ', Ok K σ' F' H' ρ' → Step ρ F H ρ' F' H' → E.ct ρ' → D.ct σ' H'
def ex (K : PySem.W.Frag) (ts : TS) (ρ : Env) (E : En) : Prop :=
  ∀ (σ : St) (F H : Hp) (D : Ends), Ok K σ F H ρ → Got K ρ F H E D → ts D σ H
/-- a target takes frozen data -/
def gt (K : PySem.W.Frag) (w : Option (List Nat)) (g : TG) (d : D) (ρ : Env) (Ψ : Env → Prop) : Prop :=
  ∀ (σ : St) (F H : Hp) (v : V) (Q : St → Hp → Prop), Ok K σ F H ρ → Rep K F d v → (∀ σ' ρ', Ok K σ' F H ρ' → (∀ a, a ∈ owns ρ' → a ∈ owns ρ) → (∀ l, w = some l → wipe σ' l = wipe σ l) → Ψ ρ' → Q σ' H) → g v σ H Q
def gts (K : PySem.W.Frag) (w : Option (List Nat)) (g : TGs) (ds : List D) (ρ : Env) (Ψ : Env → Prop) : Prop :=
  ∀ (σ : St) (F H : Hp) (xs : List V) (Q : St → Hp → Prop), Ok K σ F H ρ → RepL K F ds xs → (∀ σ' ρ', Ok K σ' F H ρ' → (∀ a, a ∈ owns ρ' → a ∈ owns ρ) → (∀ l, w = some l → wipe σ' l = wipe σ l) → Ψ ρ' → Q σ' H) → g xs σ H Q
/-- what a loop walks, as a list of data; G: what holds of the frozen heap while it is walked -/
structure ItOk (K : PySem.W.Frag) (J : It) (ds : List D) (G : Hp → Prop) (S : Env → Prop) : Prop where
  mono : ∀ F F', Same F F' → G F → G F'
  go : ∀ (i : Nat) d σ F H ρ, ds[i]? = some d → Ok K σ F H ρ → S ρ → G F → J.go i H
  yld : ∀ (i : Nat) d σ F H ρ x H', ds[i]? = some d → Ok K σ F H ρ → S ρ → G F → J.yld i H x H' → ∃ F', Same F F' ∧ Same H H' ∧ Same F' H' ∧ (∀ a o, F' a = some o → F a = some o ∨ H a = none) ∧ Rep K F' d x
  stop : ∀ σ F H ρ, Ok K σ F H ρ → S ρ → G F → J.stop ds.length H
/-- S: what holds of the slots while it is walked -/
def eiS (K : PySem.W.Frag) (S : Env → Prop) (wi : TI) (ρ : Env) (Φ : List D → Env → Prop) : Prop :=
  ∀ (σ : St) (F H : Hp) (R : It → Hp → Prop), Ok K σ F H ρ → (∀ J ds G F' H' ρ', Ok K σ F' H' ρ' → Step ρ F H ρ' F' H' → ItOk K J ds G S → G F' → Φ ds ρ' → R J H') → wi σ H R
abbrev noS : Env → Prop := fun _ => True
abbrev ei (K : PySem.W.Frag) (wi : TI) (ρ : Env) (Φ : List D → Env → Prop) : Prop := eiS K noS wi ρ Φ

/-! ### weakening -/
section
variable {K : PySem.W.Frag} {q : Bool} {te : TE} {ta : TA} {tt : TT} {ts : TS} {ρ : Env}
theorem ev.imp {Φ Φ' : D → Env → Prop} (h : ev K q te ρ Φ) (i : ∀ d ρ', Φ d ρ' → Φ' d ρ') : ev K q te ρ Φ' := fun σ F H Q ok k =>
  h σ F H Q ok fun d v F' H' ρ' a b c e f => k d v F' H' ρ' a b c e (i _ _ f)
theorem evb.imp {Φ Φ' : D → Env → Prop} (h : evb K q te ρ Φ) (i : ∀ d ρ', Φ d ρ' → Φ' d ρ') : evb K q te ρ Φ' := fun σ F H Q ok k =>
  h σ F H Q ok fun d v F' H' ρ' a b c e f => k d v F' H' ρ' a b c e (i _ _ f)
theorem evo.imp {Φ Φ' : Addr → O → Env → Prop} (h : evo K te ρ Φ) (i : ∀ d c ρ', Φ d c ρ' → Φ' d c ρ') : evo K te ρ Φ' := fun σ F H Q ok k =>
  h σ F H Q ok fun d v F' H' ρ' a b c e e2 e3 f => k d v F' H' ρ' a b c e e2 e3 (i _ _ _ f)
theorem et.imp {Φ Φ' : Bool → Env → Prop} (h : et K q tt ρ Φ) (i : ∀ d ρ', Φ d ρ' → Φ' d ρ') : et K q tt ρ Φ' := fun σ F H Q ok k =>
  h σ F H Q ok fun d F' H' ρ' a c e f => k d F' H' ρ' a c e (i _ _ f)
theorem evs.imp {Φ Φ' : List Sl → Env → Prop} (h : evs K q ta ρ Φ) (i : ∀ d ρ', Φ d ρ' → Φ' d ρ') : evs K q ta ρ Φ' := fun σ F H Q ok k =>
  h σ F H Q ok fun d v F' H' ρ' a b c e f => k d v F' H' ρ' a b c e (i _ _ f)
theorem ex.imp {E E' : En} (h : ex K ts ρ E) (nx : ∀ ρ', E.nx ρ' → E'.nx ρ') (rt : ∀ s ρ', E.rt s ρ' → E'.rt s ρ') (bk : ∀ ρ', E.bk ρ' → E'.bk ρ') (ct : ∀ ρ', E.ct ρ' → E'.ct ρ') : ex K ts ρ E' := fun σ F H D ok g =>
  h σ F H D ok ⟨fun a b c d e f k => g.nx a b c d e f (nx _ k), fun a b c d e f g1 g2 g3 g4 k => g.rt a b c d e f g1 g2 g3 g4 (rt _ _ k), fun a b c d e f k => g.bk a b c d e f (bk _ k), fun a b c d e f k => g.ct a b c d e f (ct _ k)⟩
theorem Qt.refl (q : Bool) (ρ : Env) (F H : Hp) : Qt q ρ F H ρ F H := fun _ => ⟨rfl, rfl, rfl⟩
theorem Qt.trans {ρ' ρ'' : Env} {F H F' H' F'' H'' : Hp} (a : Qt q ρ F H ρ' F' H') (b : Qt q ρ' F' H' ρ'' F'' H'') : Qt q ρ F H ρ'' F'' H'' := fun e => by
  obtain ⟨rfl, rfl, rfl⟩ := a e
  exact b e
theorem ev_quiet {Φ : D → Env → Prop} (h : ev K true te ρ Φ) : ev K false te ρ Φ := fun σ F H Q ok k =>
  h σ F H Q ok fun d v F' H' ρ' a b c _ f => k d v F' H' ρ' a b c (fun z => nomatch z) f
theorem evb_of {Φ : D → Env → Prop} (h : ev K q te ρ Φ) : evb K q te ρ Φ := fun σ F H Q ok k =>
  h σ F H Q ok fun d v F' H' ρ' a b c e f => k d v F' H' ρ' a (.inl b) c e f
end

/-! ### names, constants -/
section
variable {K : PySem.W.Frag} {q : Bool} {ρ : Env}
theorem ev_var {i : Nat} {d : D} {Φ : D → Env → Prop} (h : ρ[i]? = some (some (.v d))) (k : Φ d ρ) : ev K q (tVar i) ρ Φ := fun σ F H Q ok c => by
  obtain ⟨v, e, r⟩ := ok.at_ i _ h
  exact ⟨v, e, c d v F H ρ ok r (Step.refl _ _ _) (Qt.refl _ _ _ _) k⟩
theorem evb_own {i : Nat} {a : Addr} {c : O} {Φ : D → Env → Prop} (h : ρ[i]? = some (some (.o a c))) (k : Φ c.d ρ) (hc : c.flat := by trivial) : evb K q (tVar i) ρ Φ := fun σ F H Q ok f => by
  obtain ⟨v, e, rfl, n, r⟩ := ok.at_ i _ h
  exact ⟨_, e, f c.d _ F H ρ ok (.inr (.inl ⟨i, a, c, h, rfl, rfl, hc⟩)) (Step.refl _ _ _) (Qt.refl _ _ _ _) k⟩
theorem ev_c {v : V} {d : D} {Φ : D → Env → Prop} (r : ∀ F : Hp, Rep K F d v) (k : Φ d ρ) : ev K q (tC v) ρ Φ := fun σ F H Q ok f =>
  f d v F H ρ ok (r F) (Step.refl _ _ _) (Qt.refl _ _ _ _) k
/-! ### operators -/
/-- two data in a row -/
theorem ev_two {ta tb : TE} {r : R2} {Φ : D → Env → Prop}
    (h : ev K q ta ρ fun d ρ1 => ev K q tb ρ1 fun e ρ2 => ∃ f : D, (∀ (x y : V) (F H : Hp) (Q : VK), Rep K F d x → Rep K F e y → Same F H → (∀ z, Rep K F f z → Q z H) → r x y H Q) ∧ Φ f ρ2) : ev K q (tOp r ta tb) ρ Φ := fun σ F H Q ok c => by
  refine h σ F H _ ok fun d v F1 H1 ρ1 ok1 r1 s1 q1 k1 => ?_
  refine k1 σ F1 H1 _ ok1 fun e w F2 H2 ρ2 ok2 r2 s2 q2 ⟨f, hr, hf⟩ => ?_
  exact hr v w F2 H2 Q (s2.rep r1) r2 ok2.sub fun z rz => c f z F2 H2 ρ2 ok2 rz (s1.trans s2) (q1.trans q2) hf
theorem ev_rI0 {g : Int → Int → V} {ta tb : TE} {Φ : D → Env → Prop}
    (h : ev K q ta ρ fun d ρ1 => ev K q tb ρ1 fun e ρ2 => ∃ i j f, d = .int i ∧ e = .int j ∧ (∀ F, Rep K F f (g i j)) ∧ Φ f ρ2) : ev K q (tOp (rI0 g) ta tb) ρ Φ :=
  ev_two (h.imp fun d ρ1 h1 => h1.imp fun e ρ2 ⟨i, j, f, e1, e2, e3, k⟩ => ⟨f, fun x y F H Q r1 r2 s c => by subst e1 e2; cases r1; cases r2; exact ⟨i, j, rfl, rfl, c _ (e3 F)⟩, k⟩)
theorem ev_rI {C : Int → Int → Prop} {g : Int → Int → V} {ta tb : TE} {Φ : D → Env → Prop}
    (h : ev K q ta ρ fun d ρ1 => ev K q tb ρ1 fun e ρ2 => ∃ i j f, d = .int i ∧ e = .int j ∧ C i j ∧ (∀ F, Rep K F f (g i j)) ∧ Φ f ρ2) : ev K q (tOp (rI C g) ta tb) ρ Φ :=
  ev_two (h.imp fun d ρ1 h1 => h1.imp fun e ρ2 ⟨i, j, f, e1, e2, e4, e3, k⟩ => ⟨f, fun x y F H Q r1 r2 s c => by subst e1 e2; cases r1; cases r2; exact ⟨i, j, rfl, rfl, e4, c _ (e3 F)⟩, k⟩)
end
end Fw

set_option Elab.async false
set_option linter.all false
set_option maxRecDepth 100000
namespace Fw
variable [TbC]
open PySem L2

/-! ### freezing -/
open Classical in
/-- F, and what stands at the places l -/
noncomputable def addF (F H : Hp) (l : List Addr) : Hp := fun x => if x ∈ l then H x else F x
theorem addF_in {F H : Hp} {l : List Addr} {x : Addr} (h : x ∈ l) : addF F H l x = H x := if_pos h
theorem addF_out {F H : Hp} {l : List Addr} {x : Addr} (h : x ∉ l) : addF F H l x = F x := if_neg h
theorem addF_same {F H : Hp} {l : List Addr} (n : ∀ x ∈ l, F x = none) : Same F (addF F H l) := fun b u e => by
  by_cases h : b ∈ l
  · rw [n b h] at e; cases e
  · rw [addF_out h]; exact e
theorem ChAt.frz {K : PySem.W.Frag} {F H F' : Hp} {p : Addr} {x : Ch} (h : ChAt K F H p x) (s : Same F F') (e : F' p = H p) : Rep K F' x.d' (.ref p) := by
  cases x with
  | l xs => obtain ⟨vs, h1, h2⟩ := h; exact .lst (by rw [e]; exact h1) (RepL.mono s h2)
  | d xs => obtain ⟨vs, h1, h2⟩ := h; exact .dct (.inl (by rw [e]; exact h1)) (RepK.mono s h2)
theorem DclAt.frz {K : PySem.W.Frag} {F H F' : Hp} {kvs : List (Key × Addr × List D)} {ws : List (Key × V)} (h : DclAt K F H kvs ws) (s : Same F F') (e : ∀ x ∈ kvs.map (fun kv => kv.2.1), F' x = H x) : RepK K F' (dclD kvs) ws := by
  induction h with
  | nil => exact .nil
  | cons a _ ih => exact .cons (a.frz s (e _ List.mem_cons_self)) (ih fun x hx => e x (List.mem_cons_of_mem _ hx))
theorem FlsAt.frz {K : PySem.W.Frag} {F H F' : Hp} {fs : List (Str × Fl)} {ws : List (Str × V)} (h : FlsAt K F H fs ws) (s : Same F F') (e : ∀ x ∈ fs.flatMap (fun f => f.2.ad), F' x = H x) : RepF K F' (inlD fs) ws := by
  induction h with
  | nil => exact .nil
  | @cons k x v fs ws a _ ih =>
    rw [List.flatMap_cons] at e
    refine .cons ?_ (ih fun y hy => e y (List.mem_append_right _ hy))
    cases x with
    | v d => exact Rep.mono s a
    | c p x =>
      obtain ⟨rfl, a2⟩ := a
      exact a2.frz s (e _ (List.mem_append_left _ List.mem_cons_self))
theorem RepF.snd {K : PySem.W.Frag} {F : Hp} {fs : List (Str × D)} {ws : List (Str × V)} (h : RepF K F fs ws) : RepL K F (fs.map (·.2)) (ws.map (·.2)) := by
  induction fs generalizing ws with
  | nil => cases h; exact .nil
  | cons f fs ih => cases h with
    | cons a r => exact .cons a (ih r)
theorem RepF.keyS {K : PySem.W.Frag} {F : Hp} {fs : List (Str × D)} {ws : List (Str × V)} (h : RepF K F fs ws) : RepK K F (fs.map fun f => ((.inr f.1 : Key), f.2)) (ws.map fun w => ((.inr w.1 : Key), w.2)) := by
  induction fs generalizing ws with
  | nil => cases h; exact .nil
  | cons f fs ih => cases h with
    | cons a r => exact .cons a (ih r)
theorem OwnAt.frz {K : PySem.W.Frag} {F H F' : Hp} {a : Addr} {c : O} (h : OwnAt K F H a c) (s : Same F F') (e : ∀ x ∈ a :: c.inn, F' x = H x) : Rep K F' c.d (.ref a) := by
  have ea := e a List.mem_cons_self
  have ei := fun x hx => e x (List.mem_cons_of_mem _ hx)
  cases c with
  | lst xs => obtain ⟨vs, h1, h2⟩ := h; exact .lst (by rw [ea]; exact h1) (RepL.mono s h2)
  | dct xs => obtain ⟨vs, h1, h2⟩ := h; exact .dct (.inl (by rw [ea]; exact h1)) (RepK.mono s h2)
  | ldct ob ws xs => obtain ⟨h1, h2⟩ := h; exact .dct (.inr ⟨_, by rw [ea]; exact h1⟩) (RepK.mono s h2)
  | ins C dx xs => obtain ⟨vs, h1, h2⟩ := h; exact .ins (by rw [ea]; exact h1) (RepF.mono s h2)
  | dcl kvs => obtain ⟨ws, h1, h2⟩ := h; exact .dct (.inl (by rw [ea]; exact h1)) (h2.frz s ei)
  | inl C dx fs => obtain ⟨ws, h1, h2⟩ := h; exact .ins (by rw [ea]; exact h1) (h2.frz s ei)
  | tpl fs => obtain ⟨ws, h1, h2⟩ := h; exact .tup (by rw [ea]; exact h1) (h2.frz s ei).snd
  | lcl fs => obtain ⟨ws, h1, h2⟩ := h; exact .lst (by rw [ea]; exact h1) (h2.frz s ei).snd
  | rcd fs => obtain ⟨ws, h1, h2⟩ := h; exact .dct (.inl (by rw [ea]; exact h1)) (h2.frz s ei).keyS
theorem freeze {K : PySem.W.Frag} {σ : St} {F H : Hp} {ρ : Env} {a : Addr} {c : O} {v : V} (ok : Ok K σ F H ρ) (r : RsOk K F H (.o a c) v) (m : ∀ x ∈ a :: c.inn, x ∉ owns ρ) :
    ∃ F', Ok K σ F' H ρ ∧ Rep K F' c.d v ∧ Same F F' ∧ ∀ b o, F' b = some o → F b = some o ∨ b ∈ a :: c.inn := by
  obtain ⟨rfl, n, q⟩ := r
  have s1 : Same F (addF F H (a :: c.inn)) := addF_same n
  refine ⟨addF F H (a :: c.inn), ⟨fun b u hb => ?_, ok.len, fun i s hs => ?_, ok.nd, ok.tb, fun p hp => ?_⟩, q.frz s1 fun x hx => addF_in hx, s1, fun b u hb => ?_⟩
  · by_cases h : b ∈ a :: c.inn
    · rw [addF_in h] at hb; exact hb
    · rw [addF_out h] at hb; exact ok.sub _ _ hb
  · obtain ⟨w, h1, h2⟩ := ok.at_ i s hs
    refine ⟨w, h1, ?_⟩
    cases s with
    | v d => exact Rep.mono s1 h2
    | o b c' =>
      obtain ⟨rfl, h3, h4⟩ := h2
      refine ⟨rfl, fun x hx => ?_, h4.mono s1 fun _ _ _ z => z⟩
      have hb : x ∉ a :: c.inn := fun z => m x z (mem_in hs hx)
      rw [addF_out hb]; exact h3 x hx
  · rw [addF_out fun z => by
      obtain ⟨o, e, k⟩ := q.kind _ z
      exact k.nt ok.tb e (List.mem_map_of_mem hp)]
    exact ok.nf p hp
  · by_cases h : b ∈ a :: c.inn
    · exact .inr h
    · rw [addF_out h] at hb; exact .inl hb
section
variable {K : PySem.W.Frag} {q : Bool} {ρ : Env}
theorem ev_of_evo {te : TE} {Φ : D → Env → Prop} (h : evo K te ρ fun _ c ρ' => Φ c.d ρ') : ev K false te ρ Φ := fun σ F H Q ok k =>
  h σ F H Q ok fun a c F' H' ρ' ok' r s n _ m f => by
    obtain ⟨F2, ok2, r2, s2, n2⟩ := freeze ok' r m
    refine k c.d _ F2 H' ρ' ok2 r2 ⟨s.f.trans s2, s.h, fun b o e => ?_, s.w⟩ (fun z => nomatch z) f
    rcases n2 b o e with z | z
    · exact s.n b o z
    · exact .inr (n b z).symm
/-- a slot's thing is frozen from here on -/
theorem owns_sublist {x : Option Sl} (hx : ownA x = []) : ∀ (ρ : Env) (i : Nat), (owns (ρ.set i x)).Sublist (owns ρ)
  | [], _ => List.Sublist.refl _
  | y :: r, 0 => by
    show (ownA x ++ owns r).Sublist (ownA y ++ owns r)
    rw [hx]; exact List.sublist_append_right _ _
  | y :: r, i + 1 => by
    show (ownA y ++ owns (r.set i x)).Sublist (ownA y ++ owns r)
    exact (owns_sublist hx r i).append_left _
theorem freezeS {σ : St} {F H : Hp} {i : Nat} {a : Addr} {c : O} (ok : Ok K σ F H ρ) (h : ρ[i]? = some (some (.o a c))) :
    ∃ F', Ok K σ F' H (ρ.set i (some (.v c.d))) ∧ Step ρ F H (ρ.set i (some (.v c.d))) F' H := by
  obtain ⟨v, hv, r⟩ := ok.at_ i _ h
  have hlt : i < ρ.length := (List.getElem?_eq_some_iff.mp h).1
  have nd : ∀ j (s : Sl), (ρ.set i none)[j]? = some (some s) → j ≠ i ∧ ρ[j]? = some (some s) := fun j s e => by
    by_cases z : j = i
    · subst z; rw [List.getElem?_set_self hlt] at e; cases e
    · rw [List.getElem?_set_ne (Ne.symm z)] at e; exact ⟨z, e⟩
  have m : ∀ x ∈ a :: c.inn, x ∉ owns (ρ.set i none) := fun x hx hm => by
    obtain ⟨j, b, c', e, hx'⟩ := mem_owns.mp hm
    obtain ⟨ne, e'⟩ := nd j _ e
    exact ne (owns_inj ok.nd e' h hx' hx)
  have ok1 : Ok K σ F H (ρ.set i none) := ⟨ok.sub, by simpa using ok.len, fun j s e => ok.at_ j s (nd j s e).2, (owns_sublist rfl ρ i).nodup ok.nd, ok.tb, ok.nf⟩
  obtain ⟨F2, ok2, r2, s2, n2⟩ := freeze ok1 r m
  refine ⟨F2, ⟨ok2.sub, by simpa using ok.len, fun j s e => ?_, (owns_sublist rfl ρ i).nodup ok.nd, ok2.tb, ok2.nf⟩, s2, fun b o e _ => .of e, fun b o e => ?_, fun b hb => .inl ((owns_sublist rfl ρ i).subset hb)⟩
  · by_cases z : j = i
    · subst z
      rw [List.getElem?_set_self hlt] at e
      cases e
      exact ⟨v, hv, r2⟩
    · rw [List.getElem?_set_ne (Ne.symm z)] at e
      exact ok2.at_ j s (by rw [List.getElem?_set_ne (Ne.symm z)]; exact e)
  · rcases n2 b o e with z | z
    · exact .inl (.inl z)
    · exact .inr (.inr (mem_in h z))
/-- the ends, behind a step -/
theorem Step.new {F H F' H' : Hp} {ρ' : Env} (s : Step ρ F H ρ' F' H') {a : Addr} (h : a ∈ owns ρ' ∨ H' a = none) : a ∈ owns ρ ∨ H a = none := by
  rcases h with h | h
  · exact s.w a h
  · exact (s.none_of h).symm
theorem Got.step {F H F' H' : Hp} {ρ' : Env} {E : En} {D : Ends} (g : Got K ρ F H E D) (s : Step ρ F H ρ' F' H') : Got K ρ' F' H' E D where
  nx := fun σ2 F2 H2 ρ2 ok st h => g.nx σ2 F2 H2 ρ2 ok (s.trans st) h
  rt := fun x v σ2 F2 H2 ρ2 ok r n st h => g.rt x v σ2 F2 H2 ρ2 ok r (fun a c e => ⟨fun y hy => ⟨s.new ((n a c e).1 y hy).1, ((n a c e).1 y hy).2⟩, (n a c e).2⟩) (s.trans st) h
  bk := fun σ2 F2 H2 ρ2 ok st h => g.bk σ2 F2 H2 ρ2 ok (s.trans st) h
  ct := fun σ2 F2 H2 ρ2 ok st h => g.ct σ2 F2 H2 ρ2 ok (s.trans st) h

/-! ### arguments -/
theorem evd_nil {Φ : List D → Env → Prop} (k : Φ [] ρ) : evd K q tNil ρ Φ := fun σ F H Q ok c => c [] [] F H ρ ok .nil (Step.refl _ _ _) (Qt.refl _ _ _ _) k
theorem evd_cons {te : TE} {ta : TA} {Φ : List D → Env → Prop} (h : ev K q te ρ fun d ρ1 => evd K q ta ρ1 fun ds ρ2 => Φ (d :: ds) ρ2) : evd K q (tCons te ta) ρ Φ := fun σ F H Q ok c => by
  refine h σ F H _ ok fun d v F1 H1 ρ1 ok1 r1 s1 q1 k1 => ?_
  exact k1 σ F1 H1 _ ok1 fun ds vs F2 H2 ρ2 ok2 r2 s2 q2 k2 => c _ _ F2 H2 ρ2 ok2 (.cons (s2.rep r1) r2) (s1.trans s2) (q1.trans q2) k2
/-- an argument: data, or a slot's thing by reference -/
inductive Ar where
  | v (d : D)
  | s (i : Nat) (a : Addr) (c : O)
def Ar.sl : Ar → Sl
  | .v d => .v d
  | .s _ a c => .o a c
def Ar.ix : Ar → Option Nat
  | .v _ => none
  | .s i _ _ => some i
inductive ArL (K : PySem.W.Frag) (F : Hp) (ρ : Env) : List Ar → List V → Prop
  | nil : ArL K F ρ [] []
  | v {d : D} {v : V} {as : List Ar} {vs : List V} : Rep K F d v → ArL K F ρ as vs → ArL K F ρ (.v d :: as) (v :: vs)
  | s {i : Nat} {a : Addr} {c : O} {as : List Ar} {vs : List V} : ρ[i]? = some (some (.o a c)) → ArL K F ρ as vs → ArL K F ρ (.s i a c :: as) (.ref a :: vs)
def eva (K : PySem.W.Frag) (ta : TA) (ρ : Env) (Φ : List Ar → Env → Prop) : Prop :=
  ∀ (σ : St) (F H : Hp) (Q : List V → Hp → Prop), Ok K σ F H ρ → (∀ as vs F' H' ρ', Ok K σ F' H' ρ' → ArL K F' ρ' as vs → Step ρ F H ρ' F' H' → Φ as ρ' → Q vs H') → ta σ H Q
theorem eva_nil {Φ : List Ar → Env → Prop} (k : Φ [] ρ) : eva K tNil ρ Φ := fun σ F H Q ok c => c [] [] F H ρ ok .nil (Step.refl _ _ _) k
theorem eva_v {te : TE} {ta : TA} {Φ : List Ar → Env → Prop} (h : ev K false te ρ fun d ρ1 => eva K ta ρ1 fun as ρ2 => Φ (.v d :: as) ρ2) : eva K (tCons te ta) ρ Φ := fun σ F H Q ok c => by
  refine h σ F H _ ok fun d v F1 H1 ρ1 ok1 r1 s1 q1 k1 => ?_
  exact k1 σ F1 H1 _ ok1 fun ds vs F2 H2 ρ2 ok2 r2 s2 k2 => c _ _ F2 H2 ρ2 ok2 (.v (s2.rep r1) r2) (s1.trans s2) k2
/-! ### promises in data -/
/-- an error: its class, its one field -/
structure Xc where
  C : Addr
  f : Str
  dv : D
/-- ok: what the answer is; er: which error is let out (told as an answer: its field) -/
structure Ct where
  ok : List Sl → (Sl → List Sl → Prop) → Prop
  er : Xc → List Sl → (Sl → List Sl → Prop) → Prop
instance : CoeFun Ct (fun _ => List Sl → (Sl → List Sl → Prop) → Prop) := ⟨Ct.ok⟩
def spO (K : PySem.W.Frag) (C : List Sl → (Sl → List Sl → Prop) → Prop) : Sp := fun vs H Q _ => ∃ (F : Hp) (ss : List Sl) (Φ : Sl → List Sl → Prop), Ok K (vs.map some) F H (ss.map some) ∧ C ss Φ ∧
  ∀ s v F' H' ss', Ok K (vs.map some) F' H' (ss'.map some) → RsOk K F' H' s v → (∀ a c, s = .o a c → (∀ x ∈ a :: c.inn, (x ∈ owns (ss.map some) ∨ H x = none) ∧ x ∉ owns (ss'.map some)) ∧ (a :: c.inn).Nodup) → Step (ss.map some) F H (ss'.map some) F' H' → Φ s ss' → Q v H'
/-- an error is let out -/
def spE (K : PySem.W.Frag) (C : Xc → List Sl → (Sl → List Sl → Prop) → Prop) (vs : List V) (H : Hp) (E : XK) : Prop := ∃ x : Xc, spO K (C x) vs H (fun v H' => ∀ dx, H' dx = none → E (.ref x.C) (some dx) (upd H' dx (.xd [(x.f, v)]))) E
def spOf (K : PySem.W.Frag) (C : Ct) : Sp := fun vs H Q E => spO K C.ok vs H Q E ∨ spE K C.er vs H E
/-- the arguments behind the body: what was owned is where it was -/
inductive Back : List Sl → Env → List Sl → Prop
  | nil {ρ : Env} : Back [] ρ []
  | v {d : D} {ss ss' : List Sl} {x : Option Sl} {ρ : Env} : Back ss ρ ss' → Back (.v d :: ss) (x :: ρ) (.v d :: ss')
  | o {a : Addr} {c c' : O} {ss ss' : List Sl} {ρ : Env} : Back ss ρ ss' → Back (.o a c :: ss) (some (.o a c') :: ρ) (.o a c' :: ss')
theorem Back.get {ss : List Sl} {ρ : Env} {ss' : List Sl} (b : Back ss ρ ss') : ss.length = ss'.length ∧ ∀ (i : Nat) (s' : Sl), ss'[i]? = some s' → (∃ d, s' = .v d ∧ ss[i]? = some (.v d)) ∨ (∃ a c c', s' = .o a c' ∧ ss[i]? = some (.o a c) ∧ ρ[i]? = some (some s')) := by
  induction b with
  | nil => exact ⟨rfl, fun i s' h => by simp at h⟩
  | v b ih =>
    refine ⟨by simp [ih.1], fun i s' h => ?_⟩
    cases i with
    | zero => simp at h; subst h; exact .inl ⟨_, rfl, rfl⟩
    | succ i =>
      have := ih.2 i s' (by simpa using h)
      simpa using this
  | o b ih =>
    refine ⟨by simp [ih.1], fun i s' h => ?_⟩
    cases i with
    | zero => simp at h; subst h; exact .inr ⟨_, _, _, rfl, rfl, rfl⟩
    | succ i =>
      have := ih.2 i s' (by simpa using h)
      simpa using this
theorem Back.sub {ss : List Sl} {ρ : Env} {ss' : List Sl} (b : Back ss ρ ss') : (owns (ss'.map some)).Sublist (owns ρ) := by
  induction b with
  | nil => exact List.nil_sublist _
  | v b ih => exact ih.trans (List.sublist_append_right _ _)
  | @o a c c' ss ss' ρ b ih =>
    show ((a :: c'.inn) ++ owns (ss'.map some)).Sublist ((a :: c'.inn) ++ owns ρ)
    exact ih.append_left _
theorem Back.in_ {ss : List Sl} {ρ : Env} {ss' : List Sl} (b : Back ss ρ ss') : ∀ a, a ∈ owns (ss'.map some) → a ∈ owns ρ := fun a m => b.sub.subset m
theorem Back.nodup {ss : List Sl} {ρ : Env} {ss' : List Sl} (b : Back ss ρ ss') (h : (owns ρ).Nodup) : (owns (ss'.map some)).Nodup := b.sub.nodup h
theorem map_get {vs : List V} {i : Nat} {x : Option V} (h : (vs.map some)[i]? = some x) : ∃ v, x = some v ∧ vs[i]? = some v := by
  rw [List.getElem?_map] at h
  cases e : vs[i]? with
  | none => rw [e] at h; simp at h
  | some v => rw [e] at h; simp at h; exact ⟨v, h.symm, rfl⟩
/-- a body's start and end -/
theorem fn_start {C : List Sl → (Sl → List Sl → Prop) → Prop} {N : List Str} (h : ∀ ss Φ, C ss Φ → ss.length ≤ N.length) (vs : List V) (H : Hp) (Q : VK) (E : XK) (hs : spO K C vs H Q E) :
    ∃ (F : Hp) (ss : List Sl) (Φ : Sl → List Sl → Prop), C ss Φ ∧ Ok K (L2.start N vs) F H (ss.map some ++ List.replicate (N.length - ss.length) none) ∧
      ∀ s v σ' F' H' ρ' ss', Ok K σ' F' H' ρ' → RsOk K F' H' s v → (∀ a c, s = .o a c → (∀ x ∈ a :: c.inn, (x ∈ owns (ss.map some ++ List.replicate (N.length - ss.length) none) ∨ H x = none) ∧ x ∉ owns ρ') ∧ (a :: c.inn).Nodup) →
      Step (ss.map some ++ List.replicate (N.length - ss.length) none) F H ρ' F' H' → Back ss ρ' ss' → Φ s ss' → Q v H' := by
  obtain ⟨F, ss, Φ, ok, hc, k⟩ := hs
  have hl := h ss Φ hc
  have lv : ss.length = vs.length := by simpa using ok.len
  have own0 : ∀ n, owns (ss.map some ++ List.replicate n none) = owns (ss.map some) := fun n => by
    unfold owns
    rw [List.flatMap_append]
    have : List.flatMap ownA (List.replicate n (none : Option Sl)) = [] := by
      induction n with
      | zero => rfl
      | succ n ih => rw [List.replicate_succ, List.flatMap_cons]; exact ih
    rw [this, List.append_nil]
  have ok0 : Ok K (L2.start N vs) F H (ss.map some ++ List.replicate (N.length - ss.length) none) := by
    refine ⟨ok.sub, by simp [L2.start, lv], fun i s e => ?_, by rw [own0]; exact ok.nd, ok.tb, ok.nf⟩
    have hi : i < ss.length := by
      rcases Nat.lt_or_ge i ss.length with z | z
      · exact z
      · rw [List.getElem?_append_right (by simpa using z)] at e
        rw [List.getElem?_replicate] at e
        split at e <;> simp at e
    rw [List.getElem?_append_left (by simpa using hi)] at e
    obtain ⟨v, h1, h2⟩ := ok.at_ i s e
    refine ⟨v, ?_, h2⟩
    unfold L2.start
    rw [List.getElem?_append_left (by simp; omega)]
    exact h1
  have fin : ∀ s v σ' F' H' ρ' ss', Ok K σ' F' H' ρ' → RsOk K F' H' s v → (∀ a c, s = .o a c → (∀ x ∈ a :: c.inn, (x ∈ owns (ss.map some ++ List.replicate (N.length - ss.length) none) ∨ H x = none) ∧ x ∉ owns ρ') ∧ (a :: c.inn).Nodup) →
      Step (ss.map some ++ List.replicate (N.length - ss.length) none) F H ρ' F' H' → Back ss ρ' ss' → Φ s ss' → Q v H' := fun s v σ' F' H' ρ' ss' ok' r n st b f => by
    have e0 := own0 (N.length - ss.length)
    refine k s v F' H' ss' ⟨ok'.sub, by simp [← b.get.1, lv], fun i s' e => ?_, b.nodup ok'.nd, ok'.tb, ok'.nf⟩ r (fun a c es => ⟨fun x hx => ⟨by have := ((n a c es).1 x hx).1; rwa [e0] at this, fun m => ((n a c es).1 x hx).2 (b.in_ x m)⟩, (n a c es).2⟩) ⟨st.f, fun a o e m => st.h a o e (by rw [e0]; exact m), fun a o e => by have := st.n a o e; rwa [e0] at this, fun a m => by have := st.w a (b.in_ a m); rwa [e0] at this⟩ f
    · rw [List.getElem?_map] at e
      cases e1 : ss'[i]? with
      | none => rw [e1] at e; simp at e
      | some s2 =>
        rw [e1] at e
        simp only [Option.map_some, Option.some.injEq] at e
        subst e
        rcases b.get.2 i _ e1 with ⟨d, rfl, h2⟩ | ⟨a, c, c', rfl, h2, h3⟩
        · obtain ⟨v', h4, h5⟩ := ok.at_ i (.v d) (by rw [List.getElem?_map, h2]; rfl)
          exact ⟨v', h4, Rep.mono st.f h5⟩
        · obtain ⟨v', h4, rfl, h6, h7⟩ := ok.at_ i (.o a c) (by rw [List.getElem?_map, h2]; rfl)
          obtain ⟨v2, h8, h9⟩ := ok'.at_ i _ h3
          obtain ⟨rfl, h10, h11⟩ := h9
          exact ⟨_, h4, rfl, h10, h11⟩
  exact ⟨F, ss, Φ, hc, ok0, fin⟩
/-- a body keeps a promise -/
theorem fn_pure {C : List Sl → (Sl → List Sl → Prop) → Prop} {N : List Str} {t : TS} (h : ∀ ss Φ, C ss Φ → ss.length ≤ N.length ∧ ex K t (ss.map some ++ List.replicate (N.length - ss.length) none)
      { nx := fun ρ' => ∃ ss', Back ss ρ' ss' ∧ Φ (.v .non) ss', rt := fun s ρ' => ∃ ss', Back ss ρ' ss' ∧ Φ s ss' })
    (vs : List V) (H : Hp) (Q : VK) (E : XK) (hs : spO K C vs H Q E) : t { nx := fun _ H' => Q .non H', rt := Q } (L2.start N vs) H := by
  obtain ⟨F, ss, Φ, hc, ok0, fin⟩ := fn_start (fun ss Φ z => (h ss Φ z).1) vs H Q E hs
  obtain ⟨hl, hx⟩ := h ss Φ hc
  refine hx _ F H _ ok0 ⟨fun σ' F' H' ρ' ok' st ⟨ss', b, f⟩ => ?_, fun s v σ' F' H' ρ' ok' r n st ⟨ss', b, f⟩ => ?_, fun _ _ _ _ _ _ z => z, fun _ _ _ _ _ _ z => z⟩
  · exact fin (.v .non) .non σ' F' H' ρ' ss' ok' .non (fun _ _ z => nomatch z) st b f
  · exact fin s v σ' F' H' ρ' ss' ok' r n st b f
/-- the length that F.ok asks -/
theorem sp_len {C : Ct} {n : Nat} (h : (∀ ss Φ, C ss Φ → ss.length = n) ∧ ∀ x ss Φ, C.er x ss Φ → ss.length = n) (vs : List V) (H : Hp) (Q : VK) (E : XK) (hs : spOf K C vs H Q E) : vs.length = n := by
  rcases hs with ⟨F, ss, Φ, ok, hc, _⟩ | ⟨x, F, ss, Φ, ok, hc, _⟩
  · rw [← h.1 ss Φ hc]
    simpa using ok.len.symm
  · rw [← h.2 x ss Φ hc]
    simpa using ok.len.symm
end
end Fw

set_option Elab.async false
set_option linter.all false
set_option maxRecDepth 100000
namespace Fw
variable [TbC]
open PySem L2

section
variable {K : PySem.W.Frag} {q : Bool} {ρ : Env}

/-! ### calls -/
/-- the environment behind a call -/
def bk : List Ar → List Sl → Env → Env
  | .v _ :: as, _ :: ss, ρ => bk as ss ρ
  | .s i _ _ :: as, s :: ss, ρ => (bk as ss ρ).set i (some s)
  | _, _, ρ => ρ
theorem ArL.get {F : Hp} {ρ : Env} {as : List Ar} {vs : List V} (r : ArL K F ρ as vs) : as.length = vs.length ∧ ∀ (j : Nat) (x : Ar), as[j]? = some x → ∃ v, vs[j]? = some v ∧ match x with
    | .v d => Rep K F d v
    | .s i a c => ρ[i]? = some (some (.o a c)) ∧ v = .ref a := by
  induction r with
  | nil => exact ⟨rfl, fun j x h => by simp at h⟩
  | v h r ih =>
    refine ⟨by simp [ih.1], fun j x e => ?_⟩
    cases j with
    | zero => simp at e; subst e; exact ⟨_, rfl, h⟩
    | succ j =>
      obtain ⟨v, h1, h2⟩ := ih.2 j x (by simpa using e)
      exact ⟨v, by simpa using h1, h2⟩
  | s h r ih =>
    refine ⟨by simp [ih.1], fun j x e => ?_⟩
    cases j with
    | zero => simp at e; subst e; exact ⟨_, rfl, h, rfl⟩
    | succ j =>
      obtain ⟨v, h1, h2⟩ := ih.2 j x (by simpa using e)
      exact ⟨v, by simpa using h1, h2⟩
theorem bk_len : ∀ (as : List Ar) (ss : List Sl) (ρ : Env), (bk as ss ρ).length = ρ.length
  | [], _, _ => rfl
  | .v _ :: as, [], _ => rfl
  | .s _ _ _ :: as, [], _ => rfl
  | .v _ :: as, _ :: ss, ρ => bk_len as ss ρ
  | .s _ _ _ :: as, _ :: ss, ρ => by show ((bk as ss ρ).set _ _).length = _; rw [List.length_set]; exact bk_len as ss ρ
theorem bk_get : ∀ (as : List Ar) (ss : List Sl) (ρ : Env) (i : Nat) (x : Sl), (bk as ss ρ)[i]? = some (some x) →
    ((∀ (j : Nat) a c, as[j]? = some (.s i a c) → ss.length ≤ j) ∧ ρ[i]? = some (some x)) ∨ (∃ (j : Nat) (a : Addr) (c : O), as[j]? = some (.s i a c) ∧ ss[j]? = some x)
  | [], _, _, i, x, h => .inl ⟨fun j a c z => by simp at z, h⟩
  | .v _ :: as, [], _, i, x, h => .inl ⟨fun j a c z => Nat.zero_le _, h⟩
  | .s _ _ _ :: as, [], _, i, x, h => .inl ⟨fun j a c z => Nat.zero_le _, h⟩
  | .v _ :: as, s :: ss, ρ, i, x, h => by
    rcases bk_get as ss ρ i x h with ⟨h1, h2⟩ | ⟨j, a, c, h1, h2⟩
    · refine .inl ⟨fun j a c z => ?_, h2⟩
      cases j with
      | zero => simp at z
      | succ j => have := h1 j a c (by simpa using z); simp; exact this
    · exact .inr ⟨j + 1, a, c, by simpa using h1, by simpa using h2⟩
  | .s i' a' c' :: as, s :: ss, ρ, i, x, h => by
    have h : ((bk as ss ρ).set i' (some s))[i]? = some (some x) := h
    by_cases e : i = i'
    · subst e
      have hlt : i < (bk as ss ρ).length := by
        have := (List.getElem?_eq_some_iff.mp h).1
        simpa using this
      rw [List.getElem?_set_self hlt] at h
      cases h
      exact .inr ⟨0, a', c', rfl, rfl⟩
    · rw [List.getElem?_set_ne (Ne.symm e)] at h
      rcases bk_get as ss ρ i x h with ⟨h1, h2⟩ | ⟨j, a, c, h1, h2⟩
      · refine .inl ⟨fun j a c z => ?_, h2⟩
        cases j with
        | zero => simp at z; exact (e z.1.symm).elim
        | succ j => have := h1 j a c (by simpa using z); simp; exact this
      · exact .inr ⟨j + 1, a, c, by simpa using h1, by simpa using h2⟩
theorem nodup_of_inj {ρ : Env} (h1 : ∀ (i : Nat) (a : Addr) (c : O), ρ[i]? = some (some (.o a c)) → (a :: c.inn).Nodup)
    (h : ∀ (i j : Nat) (a b : Addr) (c c' : O) (x : Addr), ρ[i]? = some (some (.o a c)) → ρ[j]? = some (some (.o b c')) → x ∈ a :: c.inn → x ∈ b :: c'.inn → i = j) : (owns ρ).Nodup := by
  induction ρ with
  | nil => exact List.nodup_nil
  | cons x r ih =>
    have hr := ih (fun i a c e => h1 (i + 1) a c (by simpa using e)) fun i j a b c c' y e1 e2 m1 m2 => by simpa using h (i + 1) (j + 1) a b c c' y (by simpa using e1) (by simpa using e2) m1 m2
    match x with
    | none => exact hr
    | some (.v _) => exact hr
    | some (.o a c) =>
      show ((a :: c.inn) ++ owns r).Nodup
      refine List.nodup_append.mpr ⟨h1 0 a c rfl, hr, fun y hy z hz e => ?_⟩
      subst e
      obtain ⟨i, b, c', e, m⟩ := mem_owns.mp hz
      have := h 0 (i + 1) a b c c' y rfl (by simpa using e) hy m
      cases this
/-- the defaults: data of the top -/
inductive DfL (K : PySem.W.Frag) : List V → List D → Prop
  | nil : DfL K [] []
  | cons {v : V} {vs : List V} {d : D} {ds : List D} : (∀ F, Rep K F d v) → DfL K vs ds → DfL K (v :: vs) (d :: ds)
theorem DfL.rep {vs : List V} {ds : List D} (h : DfL K vs ds) (F : Hp) : RepL K F ds vs := by
  induction h with
  | nil => exact .nil
  | cons h _ ih => exact .cons (h F) ih
theorem ArL.app {F : Hp} {as : List Ar} {vs : List V} (h : ArL K F ρ as vs) {ds : List D} {ws : List V} (r : RepL K F ds ws) : ArL K F ρ (as ++ ds.map .v) (vs ++ ws) := by
  induction h with
  | nil =>
    induction ds generalizing ws with
    | nil => cases r; exact .nil
    | cons d ds ih => cases r with | cons a b => exact .v a (ih b)
  | v h _ ih => exact .v h ih
  | s h _ ih => exact .s h ih
/-- the callee's end, in the caller's environment -/
theorem call_core {C : Ct} {σ : St} {F H : Hp} {as : List Ar} {vs : List V} {Q : VK} {E : XK} (ok : Ok K σ F H ρ) (ar : ArL K F ρ as vs) (nd : (as.filterMap Ar.ix).Nodup)
    {Φ : Sl → List Sl → Prop} (hc : C (as.map Ar.sl) Φ)
    (k : ∀ s v F' H' ss', Ok K σ F' H' (bk as ss' ρ) → RsOk K F' H' s v → (∀ a c, s = .o a c → (∀ x ∈ a :: c.inn, (x ∈ owns ρ ∨ H x = none) ∧ x ∉ owns (bk as ss' ρ)) ∧ (a :: c.inn).Nodup) → Step ρ F H (bk as ss' ρ) F' H' → Φ s ss' → Q v H') : spOf K C vs H Q E := by
  have lv := ar.get.1
  -- which arguments are of which slot
  have slotOf : ∀ (j : Nat) a c, (as.map Ar.sl)[j]? = some (.o a c) → ∃ i, as[j]? = some (.s i a c) := fun j a c e => by
    rw [List.getElem?_map] at e
    cases h : as[j]? with
    | none => rw [h] at e; simp at e
    | some x =>
      rw [h] at e
      match x, e with
      | .s i b c', e =>
        simp only [Option.map_some, Ar.sl, Option.some.injEq, Sl.o.injEq] at e
        obtain ⟨rfl, rfl⟩ := e
        exact ⟨i, rfl⟩
  have toSlot : ∀ (j i : Nat) a c, as[j]? = some (.s i a c) → ρ[i]? = some (some (.o a c)) ∧ vs[j]? = some (.ref a) := fun j i a c e => by
    obtain ⟨v, h1, h2⟩ := ar.get.2 j _ e
    obtain ⟨h3, rfl⟩ := h2
    exact ⟨h3, h1⟩
  have ixinj : ∀ (j j' i : Nat) a c a' c', as[j]? = some (.s i a c) → as[j']? = some (.s i a' c') → j = j' := by
    clear hc k lv slotOf toSlot ar
    induction as with
    | nil => intro j j' i a c a' c' h; simp at h
    | cons x r ih =>
      intro j j' i a c a' c' h h'
      have mem : ∀ (j : Nat) a c, r[j]? = some (.s i a c) → i ∈ r.filterMap Ar.ix := fun j a c e => List.mem_filterMap.mpr ⟨_, List.mem_of_getElem? e, rfl⟩
      have ndr : (r.filterMap Ar.ix).Nodup := by
        match x with
        | .v _ => exact nd
        | .s i' _ _ => exact (List.nodup_cons.mp (show (i' :: r.filterMap Ar.ix).Nodup from nd)).2
      match j, j' with
      | 0, 0 => rfl
      | 0, j' + 1 =>
        simp at h h'
        subst h
        exact ((List.nodup_cons.mp (show (i :: r.filterMap Ar.ix).Nodup from nd)).1 (mem _ _ _ h')).elim
      | j + 1, 0 =>
        simp at h h'
        subst h'
        exact ((List.nodup_cons.mp (show (i :: r.filterMap Ar.ix).Nodup from nd)).1 (mem _ _ _ h)).elim
      | j + 1, j' + 1 => rw [ih ndr j j' i a c a' c' (by simpa using h) (by simpa using h')]
  have ssGet : ∀ (ss : List Sl) (i : Nat) s, (ss.map some)[i]? = some (some s) → ss[i]? = some s := fun ss i s e => by
    rw [List.getElem?_map] at e
    cases h : ss[i]? with
    | none => rw [h] at e; simp at e
    | some x => rw [h] at e; simp at e; rw [e]
  have ssPut : ∀ (ss : List Sl) (i : Nat) s, ss[i]? = some s → (ss.map some)[i]? = some (some s) := fun ss i s e => by rw [List.getElem?_map, e]; rfl
  have subA : ∀ x, x ∈ owns ((as.map Ar.sl).map some) → ∃ (j i : Nat) (a : Addr) (c : O), as[j]? = some (.s i a c) ∧ ρ[i]? = some (some (.o a c)) ∧ x ∈ a :: c.inn := fun x m => by
    obtain ⟨j, a, c, e, hx⟩ := mem_owns.mp m
    obtain ⟨i, h⟩ := slotOf j a c (ssGet _ _ _ e)
    exact ⟨j, i, a, c, h, (toSlot j i a c h).1, hx⟩
  have subA' : ∀ x, x ∈ owns ((as.map Ar.sl).map some) → x ∈ owns ρ := fun x m => by
    obtain ⟨_, i, a, c, _, h, hx⟩ := subA x m
    exact mem_in h hx
  have okA : Ok K (vs.map some) F H ((as.map Ar.sl).map some) := by
    refine ⟨ok.sub, by simp [lv], fun j s e => ?_, nodup_of_inj (fun j a c e => ?_) fun j j' a b c c' x e e' m m' => ?_, ok.tb, ok.nf⟩
    · have e := ssGet _ _ _ e
      rw [List.getElem?_map] at e
      cases h : as[j]? with
      | none => rw [h] at e; simp at e
      | some x =>
        rw [h] at e
        simp only [Option.map_some, Option.some.injEq] at e
        subst e
        obtain ⟨v, h1, h2⟩ := ar.get.2 j x h
        refine ⟨v, by rw [List.getElem?_map, h1]; rfl, ?_⟩
        match x, h2 with
        | .v d, h2 => exact h2
        | .s i a c, ⟨h3, h4⟩ =>
          obtain ⟨w, h5, h6⟩ := ok.at_ i _ h3
          obtain ⟨rfl, h7, h8⟩ := h6
          exact ⟨h4, h7, h8⟩
    · obtain ⟨i, h⟩ := slotOf j a c (ssGet _ _ _ e)
      exact owns_nd1 ok.nd (toSlot j i a c h).1
    · obtain ⟨i, h⟩ := slotOf j a c (ssGet _ _ _ e)
      obtain ⟨i', h'⟩ := slotOf j' b c' (ssGet _ _ _ e')
      obtain rfl := owns_inj ok.nd (toSlot j i a c h).1 (toSlot j' i' b c' h').1 m m'
      exact ixinj j j' i a c b c' h h'
  refine .inl ⟨F, _, Φ, okA, hc, fun s v F' H' ss' ok' r n st f => ?_⟩
  have ls : ss'.length = as.length := by
    have := ok'.len
    simp at this
    omega
  -- what an argument's slot is behind the call
  have newAt : ∀ (j i : Nat) a c x, as[j]? = some (.s i a c) → ss'[j]? = some x → ∃ u, σ[i]? = some (some u) ∧ RsOk K F' H' x u ∧ u = .ref a := fun j i a c x e e' => by
    obtain ⟨h1, h2⟩ := toSlot j i a c e
    obtain ⟨u, h3, rfl, h4⟩ := ok.at_ i _ h1
    obtain ⟨w, h5, h6⟩ := ok'.at_ j x (ssPut _ _ _ e')
    obtain ⟨w', h7, h8⟩ := map_get h5
    cases h7
    rw [h2] at h8; cases h8
    exact ⟨_, h3, h6, rfl⟩
  have ownNew : ∀ (j i : Nat) a c b c', as[j]? = some (.s i a c) → ss'[j]? = some (.o b c') → b = a := fun j i a c b c' e e' => by
    obtain ⟨u, h1, ⟨h2, _⟩, h3⟩ := newAt j i a c _ e e'
    rw [h3] at h2; cases h2; rfl
  have bkOwn : ∀ (i : Nat) b c', (bk as ss' ρ)[i]? = some (some (.o b c')) → ((∀ (j : Nat) a c, as[j]? ≠ some (.s i a c)) ∧ ρ[i]? = some (some (.o b c'))) ∨ ∃ (j : Nat) (c : O), as[j]? = some (.s i b c) ∧ ss'[j]? = some (.o b c') := fun i b c' e => by
    rcases bk_get as ss' ρ i _ e with ⟨h1, h2⟩ | ⟨j, a, c, h1, h2⟩
    · refine .inl ⟨fun j a c z => ?_, h2⟩
      have h3 := h1 j a c z
      have h4 := (List.getElem?_eq_some_iff.mp z).1
      omega
    · obtain rfl := ownNew j i a c b c' h1 h2
      exact .inr ⟨j, c, h1, h2⟩
  have notArg : ∀ (i : Nat) b c' x, (∀ (j : Nat) a c, as[j]? ≠ some (.s i a c)) → ρ[i]? = some (some (.o b c')) → x ∈ b :: c'.inn → x ∉ owns ((as.map Ar.sl).map some) := fun i b c' x h1 h2 hx m => by
    obtain ⟨j, i', a, c, h, h3, hx'⟩ := subA x m
    obtain rfl := owns_inj ok.nd h3 h2 hx' hx
    exact h1 j a c h
  -- what a callee holds is no thing of a slot that it was not handed
  have apart : ∀ (i : Nat) b c' x, (∀ (j : Nat) a c, as[j]? ≠ some (.s i a c)) → ρ[i]? = some (some (.o b c')) → x ∈ b :: c'.inn → ¬ (x ∈ owns ((as.map Ar.sl).map some) ∨ H x = none) := fun i b c' x h1 h2 hx z => by
    rcases z with z | z
    · exact notArg i b c' x h1 h2 hx z
    · obtain ⟨_, o, ho⟩ := ok.own (mem_in h2 hx)
      rw [z] at ho; cases ho
  have stepB : Step ρ F H (bk as ss' ρ) F' H' := ⟨st.f, fun a o e m => st.h a o e fun z => m (subA' a z), fun a o e => by
    rcases st.n a o e with z | z | z
    · exact .inl z
    · exact .inr (.inl z)
    · exact .inr (.inr (subA' a z)), fun y m => by
    obtain ⟨i, b, c', e, hy⟩ := mem_owns.mp m
    rcases bkOwn i b c' e with ⟨_, h2⟩ | ⟨j, c, h1, h2⟩
    · exact .inl (mem_in h2 hy)
    · exact (st.w y (mem_in (ssPut _ _ _ h2) hy)).imp (subA' y) id⟩
  have okB : Ok K σ F' H' (bk as ss' ρ) := by
    refine ⟨ok'.sub, (bk_len as ss' ρ).trans ok.len, fun i x e => ?_, nodup_of_inj (fun i b c e => ?_) fun i i' b b' c c' x e e' m m' => ?_, ok'.tb, ok'.nf⟩
    · rcases bk_get as ss' ρ i x e with ⟨h1, h2⟩ | ⟨j, a, c, h1, h2⟩
      · obtain ⟨u, h3, h4⟩ := ok.at_ i x h2
        refine ⟨u, h3, ?_⟩
        cases x with
        | v d => exact Rep.mono st.f h4
        | o b c' =>
          refine st.free ok.tb h4 fun y hy => notArg i b c' y (fun j a c z => ?_) h2 hy
          have h5 := h1 j a c z
          have h6 := (List.getElem?_eq_some_iff.mp z).1
          omega
      · obtain ⟨u, h3, h4, _⟩ := newAt j i a c x h1 h2
        exact ⟨u, h3, h4⟩
    · rcases bkOwn i b c e with ⟨_, h2⟩ | ⟨j, c2, h1, h2⟩
      · exact owns_nd1 ok.nd h2
      · exact owns_nd1 ok'.nd (ssPut _ _ _ h2)
    · rcases bkOwn i b c e with ⟨g1, h2⟩ | ⟨j, c2, h1, h2⟩
      · rcases bkOwn i' b' c' e' with ⟨g1', h2'⟩ | ⟨j', c2', h1', h2'⟩
        · exact owns_inj ok.nd h2 h2' m m'
        · exact (apart i b c x g1 h2 m (st.w x (mem_in (ssPut _ _ _ h2') m'))).elim
      · rcases bkOwn i' b' c' e' with ⟨g1', h2'⟩ | ⟨j', c2', h1', h2'⟩
        · exact (apart i' b' c' x g1' h2' m' (st.w x (mem_in (ssPut _ _ _ h2) m))).elim
        · obtain rfl := owns_inj ok'.nd (ssPut _ _ _ h2) (ssPut _ _ _ h2') m m'
          rw [h1] at h1'; cases h1'; rfl
  refine k s v F' H' ss' okB r (fun a c es => ⟨fun x hx => ⟨((n a c es).1 x hx).1.imp (subA' x) id, fun m => ?_⟩, (n a c es).2⟩) stepB f
  obtain ⟨n1, n2⟩ := (n a c es).1 x hx
  obtain ⟨i, b, c', e, hx'⟩ := mem_owns.mp m
  rcases bkOwn i b c' e with ⟨g1, h2⟩ | ⟨j, c2, h1, h2⟩
  · exact apart i b c' x g1 h2 hx' n1
  · exact n2 (mem_in (ssPut _ _ _ h2) hx')
theorem ix_v : ∀ ds : List D, (ds.map Ar.v).filterMap Ar.ix = []
  | [] => rfl
  | d :: ds => by rw [List.map_cons, List.filterMap_cons_none rfl]; exact ix_v ds
/-- the answer, taken as data -/
def Sl.d : Sl → D
  | .v d => d
  | .o _ c => c.d
theorem ev_call {C : Ct} {dvs : List V} {dds : List D} {E : XK} {ta : TA} {Φ : D → Env → Prop} (dd : DfL K dvs dds)
    (h : eva K ta ρ fun as ρ1 => (as.filterMap Ar.ix).Nodup ∧ C ((as ++ dds.map Ar.v).map Ar.sl) fun s ss' => Φ s.d (bk (as ++ dds.map .v) ss' ρ1)) : ev K false (tCall (spOf K C) dvs E ta) ρ Φ := fun σ F H Q ok k => by
  refine h σ F H _ ok fun as vs F1 H1 ρ1 ok1 ar st ⟨nd, hc⟩ => ?_
  have nd2 : ((as ++ dds.map Ar.v).filterMap Ar.ix).Nodup := by
    rw [List.filterMap_append]
    rw [ix_v, List.append_nil]; exact nd
  refine call_core ok1 (ar.app (dd.rep F1)) nd2 hc fun s v F2 H2 ss' ok2 r n st2 f => ?_
  cases s with
  | v d => exact k d v F2 H2 _ ok2 r (st.trans st2) (fun z => nomatch z) f
  | o a c =>
    obtain ⟨n1, _⟩ := n a c rfl
    obtain ⟨F3, ok3, r3, s3, n3⟩ := freeze ok2 r fun x hx => (n1 x hx).2
    refine k c.d v F3 H2 _ ok3 r3 (st.trans ⟨st2.f.trans s3, st2.h, fun b o e => ?_, st2.w⟩) (fun z => nomatch z) f
    rcases n3 b o e with z | z
    · exact st2.n b o z
    · exact .inr (n1 b z).1.symm
theorem evo_call {C : Ct} {dvs : List V} {dds : List D} {E : XK} {ta : TA} {Φ : Addr → O → Env → Prop} (dd : DfL K dvs dds)
    (h : eva K ta ρ fun as ρ1 => (as.filterMap Ar.ix).Nodup ∧ C ((as ++ dds.map Ar.v).map Ar.sl) fun s ss' => ∃ a c, s = .o a c ∧ (a ∉ owns (bk (as ++ dds.map .v) ss' ρ1) → Φ a c (bk (as ++ dds.map .v) ss' ρ1))) : evo K (tCall (spOf K C) dvs E ta) ρ Φ := fun σ F H Q ok k => by
  refine h σ F H _ ok fun as vs F1 H1 ρ1 ok1 ar st ⟨nd, hc⟩ => ?_
  have nd2 : ((as ++ dds.map Ar.v).filterMap Ar.ix).Nodup := by
    rw [List.filterMap_append]
    rw [ix_v, List.append_nil]; exact nd
  refine call_core ok1 (ar.app (dd.rep F1)) nd2 hc fun s v F2 H2 ss' ok2 r n st2 ⟨a, c, e, f⟩ => ?_
  subst e
  obtain ⟨rfl, r1, r2⟩ := id r
  obtain ⟨n1, n2⟩ := n a c rfl
  exact k a c F2 H2 _ ok2 r (st.trans st2) (fun x hx => st.new (n1 x hx).1) n2 (fun x hx => (n1 x hx).2) (f (n1 a List.mem_cons_self).2)
def ndb : List Nat → Bool
  | [] => true
  | x :: xs => !xs.contains x && ndb xs
theorem ndb_ok : ∀ {l : List Nat}, ndb l = true → l.Nodup
  | [], _ => List.nodup_nil
  | x :: xs, h => by
    simp only [ndb, Bool.and_eq_true, Bool.not_eq_true', List.contains_eq_mem, decide_eq_false_iff_not] at h
    exact List.nodup_cons.mpr ⟨h.1, ndb_ok h.2⟩
theorem eva.imp {ta : TA} {Φ Φ' : List Ar → Env → Prop} (h : eva K ta ρ Φ) (i : ∀ d ρ', Φ d ρ' → Φ' d ρ') : eva K ta ρ Φ' := fun σ F H Q ok k =>
  h σ F H Q ok fun d v F' H' ρ' a b c f => k d v F' H' ρ' a b c (i _ _ f)
theorem ev_call0 {C : Ct} {E : XK} {ta : TA} {Φ : D → Env → Prop}
    (h : eva K ta ρ fun as ρ1 => ndb (as.filterMap Ar.ix) = true ∧ C (as.map Ar.sl) fun s ss' => Φ s.d (bk as ss' ρ1)) : ev K false (tCall (spOf K C) [] E ta) ρ Φ :=
  ev_call (dds := []) .nil (by simpa using h.imp fun as ρ1 k => ⟨ndb_ok k.1, k.2⟩)
theorem evo_call0 {C : Ct} {E : XK} {ta : TA} {Φ : Addr → O → Env → Prop}
    (h : eva K ta ρ fun as ρ1 => ndb (as.filterMap Ar.ix) = true ∧ C (as.map Ar.sl) fun s ss' => ∃ a c, s = .o a c ∧ (a ∉ owns (bk as ss' ρ1) → Φ a c (bk as ss' ρ1))) : evo K (tCall (spOf K C) [] E ta) ρ Φ :=
  evo_call (dds := []) .nil (by simpa using h.imp fun as ρ1 k => ⟨ndb_ok k.1, k.2⟩)
end
end Fw

set_option Elab.async false
set_option linter.all false
set_option maxRecDepth 100000
namespace Fw
variable [TbC]
open PySem L2

section
variable {K : PySem.W.Frag} {q : Bool} {ρ : Env}

/-! ### ints -/
/-- an expression gives an int -/
abbrev evI (K : PySem.W.Frag) (q : Bool) (te : TE) (ρ : Env) (Φ : Int → Env → Prop) : Prop := ev K q te ρ fun d ρ' => ∃ i, d = .int i ∧ Φ i ρ'
theorem ev_iop {g : Int → Int → V} {g' : Int → Int → D} {ta tb : TE} {Φ : D → Env → Prop} (r : ∀ i j F, Rep K F (g' i j) (g i j)) (h : evI K q ta ρ fun i ρ1 => evI K q tb ρ1 fun j ρ2 => Φ (g' i j) ρ2) : ev K q (tOp (rI0 g) ta tb) ρ Φ :=
  ev_rI0 (h.imp fun d ρ1 ⟨i, e, h1⟩ => h1.imp fun d' ρ2 ⟨j, e', k⟩ => ⟨i, j, _, e, e', r i j, k⟩)
theorem ev_iopC {C : Int → Int → Prop} {g : Int → Int → V} {g' : Int → Int → D} {ta tb : TE} {Φ : D → Env → Prop} (r : ∀ i j F, Rep K F (g' i j) (g i j)) (h : evI K q ta ρ fun i ρ1 => evI K q tb ρ1 fun j ρ2 => C i j ∧ Φ (g' i j) ρ2) : ev K q (tOp (rI C g) ta tb) ρ Φ :=
  ev_rI (h.imp fun d ρ1 ⟨i, e, h1⟩ => h1.imp fun d' ρ2 ⟨j, e', c, k⟩ => ⟨i, j, _, e, e', c, r i j, k⟩)
theorem ev_neg {ta : TE} {Φ : D → Env → Prop} (h : evI K q ta ρ fun i ρ1 => Φ (.int (-i)) ρ1) : ev K q (tUn (rU fun i => .int (-i)) ta) ρ Φ := fun σ F H Q ok c =>
  h σ F H _ ok fun d v F1 H1 ρ1 ok1 r1 s1 q1 ⟨i, e, k⟩ => by
    subst e; cases r1
    exact ⟨i, rfl, c _ _ F1 H1 ρ1 ok1 (.int _) s1 q1 k⟩
/-! ### data that are compared -/
mutual
def D.py : D → PyData
  | .non => .none
  | .bl b => .bool b
  | .int i => .int i
  | .str s => .str s
  | .lst xs => .list (D.pys xs)
  | .tup xs => .tuple (D.pys xs)
  | .fls _ => .dict []
  | .raw _ => .dict []
  | .dct _ => .dict []
  | .ins _ _ => .dict []
  | .exc _ _ _ _ _ => .dict []
  | .fn _ _ _ => .dict []
  | .ob _ => .dict []
def D.pys : List D → List PyData
  | [] => []
  | d :: ds => D.py d :: D.pys ds
end
/-- None, bools, ints, texts, lists and tuples of such, to a depth -/
def D.shp : Nat → D → Bool
  | _, .non => true
  | _, .bl _ => true
  | _, .int _ => true
  | _, .str s => PyData.strOk s
  | n + 1, .lst xs => xs.all (D.shp n)
  | n + 1, .tup xs => xs.all (D.shp n)
  | _, _ => false
mutual
theorem dp_of {F : Hp} : ∀ (n : Nat) (d : D) (v : V), d.shp n = true → Rep K F d v → Dp K F v d.py
  | n, .non, _, _, .non => .non
  | n, .bl _, _, _, .bl b => .bl b
  | n, .int _, _, _, .int b => .int b
  | n, .str _, _, _, .str b => .str b
  | n, .raw u, _, h, _ => by simp [D.shp] at h
  | n + 1, .lst xs, _, h, .lst a r => .lst (SqL.of a) (dps_of n xs _ (by simpa [D.shp] using h) r)
  | 0, .lst xs, _, h, .lst a r => by simp [D.shp] at h
  | n + 1, .tup xs, _, h, .tup a r => .tup (SqT.of a) (dps_of n xs _ (by simpa [D.shp] using h) r)
  | 0, .tup xs, _, h, .tup a r => by simp [D.shp] at h
  | n, .fls xs, _, h, _ => by simp [D.shp] at h
  | n, .dct xs, _, h, _ => by simp [D.shp] at h
  | n, .ins _ xs, _, h, _ => by simp [D.shp] at h
  | n, .exc _ _ _ _ _, _, h, _ => by simp [D.shp] at h
  | n, .fn _ _ _, _, h, _ => by simp [D.shp] at h
  | n, .ob _, _, h, _ => by simp [D.shp] at h
theorem dps_of {F : Hp} : ∀ (n : Nat) (ds : List D) (vs : List V), (∀ d ∈ ds, d.shp n = true) → RepL K F ds vs → DpAll K F vs (D.pys ds)
  | n, [], _, _, .nil => .nil
  | n, d :: ds, _, h, .cons a r => .cons (dp_of n d _ (h d List.mem_cons_self) a) (dps_of n ds _ (fun e he => h e (List.mem_cons_of_mem _ he)) r)
end
mutual
theorem shp_lay : ∀ (n : Nat) (d : D), d.shp n = true → d.py.canLay0 = true ∧ d.py.depth ≤ n
  | n, .non, _ => ⟨rfl, Nat.zero_le _⟩
  | n, .bl _, _ => ⟨rfl, Nat.zero_le _⟩
  | n, .int _, _ => ⟨rfl, Nat.zero_le _⟩
  | n, .str s, h => ⟨by cases n <;> simpa [D.shp, D.py, PyData.canLay0] using h, Nat.zero_le _⟩
  | n, .raw u, h => by simp [D.shp] at h
  | n + 1, .lst xs, h => by
    have := shp_lays n xs (by simpa [D.shp] using h)
    simp only [D.py, PyData.canLay0, PyData.depth]
    exact ⟨this.1, by omega⟩
  | 0, .lst xs, h => by simp [D.shp] at h
  | n + 1, .tup xs, h => by
    have := shp_lays n xs (by simpa [D.shp] using h)
    simp only [D.py, PyData.canLay0, PyData.depth]
    exact ⟨this.1, by omega⟩
  | 0, .tup xs, h => by simp [D.shp] at h
  | n, .fls xs, h => by simp [D.shp] at h
  | n, .dct xs, h => by simp [D.shp] at h
  | n, .ins _ xs, h => by simp [D.shp] at h
  | n, .exc _ _ _ _ _, h => by simp [D.shp] at h
  | n, .fn _ _ _, h => by simp [D.shp] at h
  | n, .ob _, h => by simp [D.shp] at h
theorem shp_lays : ∀ (n : Nat) (ds : List D), (∀ d ∈ ds, d.shp n = true) → PyData.canLayAll0 (D.pys ds) = true ∧ PyData.depthAll (D.pys ds) ≤ n
  | n, [], _ => ⟨rfl, Nat.zero_le _⟩
  | n, d :: ds, h => by
    have h1 := shp_lay n d (h d List.mem_cons_self)
    have h2 := shp_lays n ds (fun e he => h e (List.mem_cons_of_mem _ he))
    simp only [D.pys, PyData.canLayAll0, PyData.depthAll, Bool.and_eq_true]
    exact ⟨⟨h1.1, h2.1⟩, Nat.max_le.mpr ⟨h1.2, h2.2⟩⟩
end
theorem shp_shaped {d : D} (h : d.shp 64 = true) : SeqAt.shaped d.py = true := by
  have := shp_lay 64 d h
  unfold SeqAt.shaped
  rw [this.1, decide_eq_true this.2]
  rfl
def D.eqv (d e : D) : Bool := PyData.eqv d.py e.py
/-- borrowed data, as they stand -/
theorem BRep.rep {σ : St} {F H : Hp} {d : D} {v : V} (ok : Ok K σ F H ρ) (b : BRep K F ρ d v) : Rep K H d v := by
  rcases b with b | ⟨i, a, c, h, rfl, rfl, _⟩ | ⟨i, a, c, f, p, x, h, m, rfl, rfl⟩
  · exact Rep.mono ok.sub b
  · obtain ⟨w, h1, rfl, h2, h3⟩ := ok.at_ i _ h
    exact OwnAt.frz h3 ok.sub fun _ _ => rfl
  · exact (ok.chat h m).frz ok.sub rfl
theorem BRep.step {F F' : Hp} {d : D} {v : V} (b : BRep K F ρ d v) (s : Same F F') : BRep K F' ρ d v := by
  rcases b with b | b
  · exact .inl (Rep.mono s b)
  · exact .inr b
theorem ev_eq {ta tb : TE} {Φ : D → Env → Prop} (h : evb K q ta ρ fun d ρ1 => evb K q tb ρ1 fun e ρ2 => ρ2 = ρ1 ∧ d.shp 64 = true ∧ e.shp 64 = true ∧ Φ (.bl (d.eqv e)) ρ2) : ev K q (tOp (rEqD K) ta tb) ρ Φ := fun σ F H Q ok c => by
  refine h σ F H _ ok fun d v F1 H1 ρ1 ok1 b1 s1 q1 h1 => ?_
  refine h1 σ F1 H1 _ ok1 fun e w F2 H2 ρ2 ok2 b2 s2 q2 ⟨er, k1, k2, k⟩ => ?_
  subst er
  have r1 := (b1.step s2.f).rep ok2
  have r2 := b2.rep ok2
  exact ⟨_, _, dp_of 64 d v k1 r1, dp_of 64 e w k2 r2, shp_shaped k1, shp_shaped k2, c _ _ F2 H2 _ ok2 (.bl _) (s1.trans s2) (q1.trans q2) k⟩
theorem ev_ne {ta tb : TE} {Φ : D → Env → Prop} (h : evb K q ta ρ fun d ρ1 => evb K q tb ρ1 fun e ρ2 => ρ2 = ρ1 ∧ d.shp 64 = true ∧ e.shp 64 = true ∧ Φ (.bl (!d.eqv e)) ρ2) : ev K q (tOp (rNeD K) ta tb) ρ Φ := fun σ F H Q ok c => by
  refine h σ F H _ ok fun d v F1 H1 ρ1 ok1 b1 s1 q1 h1 => ?_
  refine h1 σ F1 H1 _ ok1 fun e w F2 H2 ρ2 ok2 b2 s2 q2 ⟨er, k1, k2, k⟩ => ?_
  subst er
  have r1 := (b1.step s2.f).rep ok2
  have r2 := b2.rep ok2
  exact ⟨_, _, dp_of 64 d v k1 r1, dp_of 64 e w k2 r2, shp_shaped k1, shp_shaped k2, c _ _ F2 H2 _ ok2 (.bl _) (s1.trans s2) (q1.trans q2) k⟩
/-- == of two frozen data, whatever the environment becomes -/
theorem ev_eqV {ta tb : TE} {Φ : D → Env → Prop} (h : ev K q ta ρ fun d ρ1 => ev K q tb ρ1 fun e ρ2 => d.shp 64 = true ∧ e.shp 64 = true ∧ Φ (.bl (d.eqv e)) ρ2) : ev K q (tOp (rEqD K) ta tb) ρ Φ := fun σ F H Q ok c => by
  refine h σ F H _ ok fun d v F1 H1 ρ1 ok1 b1 s1 q1 h1 => ?_
  refine h1 σ F1 H1 _ ok1 fun e w F2 H2 ρ2 ok2 b2 s2 q2 ⟨k1, k2, k⟩ => ?_
  have r1 := Rep.mono ok2.sub (Rep.mono s2.f b1)
  have r2 := Rep.mono ok2.sub b2
  exact ⟨_, _, dp_of 64 d v k1 r1, dp_of 64 e w k2 r2, shp_shaped k1, shp_shaped k2, c _ _ F2 H2 _ ok2 (.bl _) (s1.trans s2) (q1.trans q2) k⟩
theorem ev_neV {ta tb : TE} {Φ : D → Env → Prop} (h : ev K q ta ρ fun d ρ1 => ev K q tb ρ1 fun e ρ2 => d.shp 64 = true ∧ e.shp 64 = true ∧ Φ (.bl (!d.eqv e)) ρ2) : ev K q (tOp (rNeD K) ta tb) ρ Φ := fun σ F H Q ok c => by
  refine h σ F H _ ok fun d v F1 H1 ρ1 ok1 b1 s1 q1 h1 => ?_
  refine h1 σ F1 H1 _ ok1 fun e w F2 H2 ρ2 ok2 b2 s2 q2 ⟨k1, k2, k⟩ => ?_
  have r1 := Rep.mono ok2.sub (Rep.mono s2.f b1)
  have r2 := Rep.mono ok2.sub b2
  exact ⟨_, _, dp_of 64 d v k1 r1, dp_of 64 e w k2 r2, shp_shaped k1, shp_shaped k2, c _ _ F2 H2 _ ok2 (.bl _) (s1.trans s2) (q1.trans q2) k⟩
/-- is None -/
def D.isN : D → Bool
  | .non => true
  | .raw v => decide (v = .non)
  | _ => false
theorem D.isN_of {F : Hp} {d : D} {v : V} (r : Rep K F d v) : decide (v = .non) = d.isN := by
  cases r <;> simp [D.isN]
abbrev rIsN : R2 := fun x y H Q => y = .non ∧ Q (.bl (decide (x = .non))) H
abbrev rNotN : R2 := fun x y H Q => y = .non ∧ Q (.bl (!decide (x = .non))) H
theorem ev_isN {ta : TE} {Φ : D → Env → Prop} (h : evb K q ta ρ fun d ρ1 => Φ (.bl d.isN) ρ1) : ev K q (tOp rIsN ta (tC .non)) ρ Φ := fun σ F H Q ok c => by
  refine h σ F H _ ok fun d v F1 H1 ρ1 ok1 b1 s1 q1 k => ?_
  refine ⟨rfl, ?_⟩
  rw [D.isN_of (b1.rep ok1)]
  exact c _ _ F1 H1 _ ok1 (.bl _) s1 q1 k
/-! ### tests -/
theorem et_test {te : TE} {Φ : Bool → Env → Prop} (h : ev K q te ρ fun d ρ1 => ∃ b, d = .bl b ∧ Φ b ρ1) : et K q (tTest te) ρ Φ := fun σ F H Q ok c => by
  refine h σ F H _ ok fun d v F1 H1 ρ1 ok1 r1 s1 q1 ⟨b, e, k⟩ => ?_
  subst e; cases r1
  exact ⟨b, rfl, c b F1 H1 ρ1 ok1 s1 q1 k⟩
theorem et_tB {te : TE} {Φ : Bool → Env → Prop} (h : ev K q te ρ fun d ρ1 => ∃ b, d = .bl b ∧ Φ b ρ1) : et K q (tB te) ρ Φ := fun σ F H Q ok c => by
  refine h σ F H _ ok fun d v F1 H1 ρ1 ok1 r1 s1 q1 ⟨b, e, k⟩ => ?_
  subst e; cases r1
  exact ⟨b, rfl, c b F1 H1 ρ1 ok1 s1 q1 k⟩
theorem et_and {t u : TT} {Φ : Bool → Env → Prop} (h : et K q t ρ fun b ρ1 => (b = true → et K q u ρ1 Φ) ∧ (b = false → Φ false ρ1)) : et K q (tAnd t u) ρ Φ := fun σ F H Q ok c => by
  refine h σ F H _ ok fun b F1 H1 ρ1 ok1 s1 q1 ⟨k1, k2⟩ => ?_
  cases b with
  | true =>
    rw [if_pos rfl]
    exact k1 rfl σ F1 H1 _ ok1 fun b F2 H2 ρ2 ok2 s2 q2 k => c b F2 H2 ρ2 ok2 (s1.trans s2) (q1.trans q2) k
  | false =>
    rw [if_neg Bool.false_ne_true]
    exact c false F1 H1 ρ1 ok1 s1 q1 (k2 rfl)
theorem et_or {t u : TT} {Φ : Bool → Env → Prop} (h : et K q t ρ fun b ρ1 => (b = true → Φ true ρ1) ∧ (b = false → et K q u ρ1 Φ)) : et K q (tOr t u) ρ Φ := fun σ F H Q ok c => by
  refine h σ F H _ ok fun b F1 H1 ρ1 ok1 s1 q1 ⟨k1, k2⟩ => ?_
  cases b with
  | true =>
    rw [if_pos rfl]
    exact c true F1 H1 ρ1 ok1 s1 q1 (k1 rfl)
  | false =>
    rw [if_neg Bool.false_ne_true]
    exact k2 rfl σ F1 H1 _ ok1 fun b F2 H2 ρ2 ok2 s2 q2 k => c b F2 H2 ρ2 ok2 (s1.trans s2) (q1.trans q2) k
theorem et_not {t : TT} {Φ : Bool → Env → Prop} (h : et K q t ρ fun b ρ1 => Φ (!b) ρ1) : et K q (tNot t) ρ Φ := fun σ F H Q ok c =>
  h σ F H _ ok fun b F1 H1 ρ1 ok1 s1 q1 k => c (!b) F1 H1 ρ1 ok1 s1 q1 k
theorem ev_and {ta tb : TE} {Φ : D → Env → Prop} (h : ev K q ta ρ fun d ρ1 => ∃ b, d = .bl b ∧ (b = true → ev K q tb ρ1 Φ) ∧ (b = false → Φ (.bl false) ρ1)) : ev K q (tAndV ta tb) ρ Φ := fun σ F H Q ok c => by
  refine h σ F H _ ok fun d v F1 H1 ρ1 ok1 r1 s1 q1 ⟨b, e, k1, k2⟩ => ?_
  subst e; cases r1
  refine ⟨b, rfl, ?_⟩
  cases b with
  | true =>
    rw [if_pos rfl]
    exact k1 rfl σ F1 H1 _ ok1 fun b w F2 H2 ρ2 ok2 r2 s2 q2 k => c b w F2 H2 ρ2 ok2 r2 (s1.trans s2) (q1.trans q2) k
  | false =>
    rw [if_neg Bool.false_ne_true]
    exact c _ _ F1 H1 ρ1 ok1 (.bl false) s1 q1 (k2 rfl)
theorem ev_not {ta : TE} {Φ : D → Env → Prop} (h : ev K q ta ρ fun d ρ1 => ∃ b, d = .bl b ∧ Φ (.bl (!b)) ρ1) : ev K q (tNotV ta) ρ Φ := fun σ F H Q ok c => by
  refine h σ F H _ ok fun d v F1 H1 ρ1 ok1 r1 s1 q1 ⟨b, e, k⟩ => ?_
  subst e; cases r1
  exact ⟨b, rfl, c _ _ F1 H1 ρ1 ok1 (.bl _) s1 q1 k⟩
theorem ev_if {t : TT} {ta tb : TE} {Φ : D → Env → Prop} (h : et K q t ρ fun b ρ1 => (b = true → ev K q ta ρ1 Φ) ∧ (b = false → ev K q tb ρ1 Φ)) : ev K q (tIf t ta tb) ρ Φ := fun σ F H Q ok c => by
  refine h σ F H _ ok fun b F1 H1 ρ1 ok1 s1 q1 ⟨k1, k2⟩ => ?_
  cases b with
  | true =>
    rw [if_pos rfl]
    exact k1 rfl σ F1 H1 _ ok1 fun b w F2 H2 ρ2 ok2 r2 s2 q2 k => c b w F2 H2 ρ2 ok2 r2 (s1.trans s2) (q1.trans q2) k
  | false =>
    rw [if_neg Bool.false_ne_true]
    exact k2 rfl σ F1 H1 _ ok1 fun b w F2 H2 ρ2 ok2 r2 s2 q2 k => c b w F2 H2 ρ2 ok2 r2 (s1.trans s2) (q1.trans q2) k
end
end Fw

set_option Elab.async false
set_option linter.all false
set_option maxRecDepth 100000
namespace Fw
variable [TbC]
open PySem L2

/-! ### slots that are stored -/
theorem owns_set_sub {ρ : Env} {i : Nat} {x : Option Sl} {b : Addr} (h : b ∈ owns (ρ.set i x)) : b ∈ owns ρ ∨ b ∈ ownA x := by
  obtain ⟨j, a, c, e, m⟩ := mem_owns.mp h
  by_cases z : j = i
  · subst z
    have hlt : j < ρ.length := by simpa using (List.getElem?_eq_some_iff.mp e).1
    rw [List.getElem?_set_self hlt] at e
    cases e
    exact .inr m
  · rw [List.getElem?_set_ne (Ne.symm z)] at e
    exact .inl (mem_in e m)
theorem one {P : Addr → Prop} {a : Addr} (h : P a) : ∀ x ∈ [a], P x := fun x hx => by rw [List.mem_singleton.mp hx]; exact h
theorem nd1 {a : Addr} : [a].Nodup := by simp
section
variable {K : PySem.W.Frag} {q : Bool} {ρ : Env} {σ : St} {F H : Hp} {i : Nat}
theorem set_get {s : Sl} {j : Nat} {x : Sl} (e : (ρ.set i (some s))[j]? = some (some x)) : (j = i ∧ j < ρ.length ∧ x = s) ∨ (j ≠ i ∧ ρ[j]? = some (some x)) := by
  by_cases z : j = i
  · subst z
    have hlt : j < ρ.length := by simpa using (List.getElem?_eq_some_iff.mp e).1
    rw [List.getElem?_set_self hlt] at e
    cases e
    exact .inl ⟨rfl, hlt, rfl⟩
  · rw [List.getElem?_set_ne (Ne.symm z)] at e
    exact .inr ⟨z, e⟩
theorem Ok.slot (ok : Ok K σ F H ρ) {s : Sl} {v : V} (r : RsOk K F H s v) (hs : ∀ a c, s = .o a c → (a :: c.inn).Nodup ∧ ∀ x ∈ a :: c.inn, ∀ j b c', j ≠ i → ρ[j]? = some (some (.o b c')) → x ∉ b :: c'.inn) : Ok K (σ.set i (some v)) F H (ρ.set i (some s)) := by
  refine ⟨ok.sub, by simpa using ok.len, fun j x e => ?_, nodup_of_inj (fun j a c e => ?_) fun j j' a b c c' x e e' m m' => ?_, ok.tb, ok.nf⟩
  · rcases set_get e with ⟨rfl, h1, rfl⟩ | ⟨z, e⟩
    · exact ⟨v, by rw [List.getElem?_set_self (by rw [← ok.len]; exact h1)], r⟩
    · obtain ⟨u, h1, h2⟩ := ok.at_ j x e
      exact ⟨u, by rw [List.getElem?_set_ne (Ne.symm z)]; exact h1, h2⟩
  · rcases set_get e with ⟨h1, _, h2⟩ | ⟨z, e⟩
    · exact (hs a c h2.symm).1
    · exact owns_nd1 ok.nd e
  · rcases set_get e with ⟨h1, _, h2⟩ | ⟨z, e⟩
    · rcases set_get e' with ⟨h1', _, _⟩ | ⟨z', e'⟩
      · rw [h1, h1']
      · exact ((hs a c h2.symm).2 x m j' b c' z' e' m').elim
    · rcases set_get e' with ⟨h1', _, h2'⟩ | ⟨z', e'⟩
      · exact ((hs b c' h2'.symm).2 x m' j a c z e m).elim
      · exact owns_inj ok.nd e e' m m'
theorem Ok.setv (ok : Ok K σ F H ρ) {d : D} {v : V} (r : Rep K F d v) : Ok K (σ.set i (some v)) F H (ρ.set i (some (.v d))) := ok.slot (s := .v d) r fun _ _ z => nomatch z
theorem Ok.seto (ok : Ok K σ F H ρ) {a : Addr} {c : O} {v : V} (r : RsOk K F H (.o a c) v) (nd : (a :: c.inn).Nodup) (n : ∀ x ∈ a :: c.inn, x ∉ owns ρ) : Ok K (σ.set i (some v)) F H (ρ.set i (some (.o a c))) := ok.slot (s := .o a c) r fun b c' z => by
  cases z
  exact ⟨nd, fun x hx j b c2 _ e m => n x hx (mem_in e m)⟩
theorem owns_setv {d : D} {a : Addr} (h : a ∈ owns (ρ.set i (some (.v d)))) : a ∈ owns ρ := (owns_set_sub h).elim id fun z => by simp [ownA] at z
theorem Ok.setn (ok : Ok K σ F H ρ) : Ok K σ F H (ρ.set i none) := by
  refine ⟨ok.sub, by simpa using ok.len, fun j x e => ?_, (owns_sublist rfl ρ i).nodup ok.nd, ok.tb, ok.nf⟩
  by_cases z : j = i
  · subst z
    have hlt : j < ρ.length := by simpa using (List.getElem?_eq_some_iff.mp e).1
    rw [List.getElem?_set_self hlt] at e; cases e
  · rw [List.getElem?_set_ne (Ne.symm z)] at e; exact ok.at_ j x e
/-- the thing of a slot is changed, with what hangs on it -/
theorem Ok.mutG (ok : Ok K σ F H ρ) {a : Addr} {c c' : O} {H' : Hp} (h : ρ[i]? = some (some (.o a c))) (r : OwnAt K F H' a c') (same : ∀ x o, H x = some o → x ∉ a :: c.inn → H' x = some o)
    (inn : ∀ x ∈ c'.inn, x ∈ a :: c.inn ∨ H x = none) (nd : (a :: c'.inn).Nodup) : Ok K σ F H' (ρ.set i (some (.o a c'))) ∧ Step ρ F H (ρ.set i (some (.o a c'))) F H' := by
  obtain ⟨v, h1, rfl, h2, h3⟩ := ok.at_ i _ h
  have inn' : ∀ x ∈ a :: c'.inn, x ∈ a :: c.inn ∨ H x = none := fun x hx => by
    rcases List.mem_cons.mp hx with rfl | hx
    · exact .inl List.mem_cons_self
    · exact inn x hx
  have fnone : ∀ x ∈ a :: c'.inn, F x = none := fun x hx => by
    rcases inn' x hx with z | z
    · exact h2 x z
    · cases y : F x with
      | none => rfl
      | some u => rw [ok.sub _ _ y] at z; cases z
  have far : ∀ j b c2 x, j ≠ i → ρ[j]? = some (some (.o b c2)) → x ∈ b :: c2.inn → x ∉ a :: c.inn := fun j b c2 x hj e hx hx' => hj (owns_inj ok.nd e h hx hx')
  have far' : ∀ j b c2 x, j ≠ i → ρ[j]? = some (some (.o b c2)) → x ∈ b :: c2.inn → x ∉ a :: c'.inn := fun j b c2 x hj e hx hx' => by
    rcases inn' x hx' with z | z
    · exact far j b c2 x hj e hx z
    · obtain ⟨_, o, ho⟩ := ok.own (mem_in e hx)
      rw [z] at ho; cases ho
  refine ⟨⟨fun b u e => ?_, by simpa using ok.len, fun j x e => ?_, nodup_of_inj (fun j b c2 e => ?_) fun j j' b b' c1 c2 x e e' m m' => ?_, ok.tb' fun b u e m => same b u e fun z => m (mem_in h z), ok.nf⟩, ⟨Same.refl _, fun b u e m => .of ?_, fun _ _ e => .inl (.inl e), fun b m => ?_⟩⟩
  · exact same b u (ok.sub _ _ e) fun z => by rw [h2 b z] at e; cases e
  · rcases set_get e with ⟨rfl, _, rfl⟩ | ⟨z, e9⟩
    · exact ⟨_, h1, rfl, fnone, r⟩
    · obtain ⟨u, h4, h5⟩ := ok.at_ j x e9
      refine ⟨u, h4, ?_⟩
      cases x with
      | v d => exact h5
      | o b c2 =>
        obtain ⟨rfl, h6, h7⟩ := h5
        exact ⟨rfl, h6, h7.mono (Same.refl _) fun y hy o e => same y o e (far j b c2 y z e9 hy)⟩
  · rcases set_get e with ⟨_, _, h6⟩ | ⟨z, e9⟩
    · cases h6; exact nd
    · exact owns_nd1 ok.nd e9
  · rcases set_get e with ⟨y, _, h6⟩ | ⟨z, e8⟩
    · rcases set_get e' with ⟨y', _, _⟩ | ⟨z', e9⟩
      · rw [y, y']
      · cases h6; exact (far' j' b' c2 x z' e9 m' m).elim
    · rcases set_get e' with ⟨y', _, h6⟩ | ⟨z', e9⟩
      · cases h6; exact (far' j b c1 x z e8 m m').elim
      · exact owns_inj ok.nd e8 e9 m m'
  · exact same b u e fun z => m (mem_in h z)
  · rcases owns_set_sub m with z | z
    · exact .inl z
    · exact (inn' b z).imp (fun z => mem_in h z) id
/-- the thing of a slot is changed -/
theorem Ok.mut (ok : Ok K σ F H ρ) {a : Addr} {c c' : O} {o : HO} (h : ρ[i]? = some (some (.o a c))) (r : OwnAt K F (upd H a o) a c') (hc : c'.inn = c.inn := by rfl) :
    Ok K σ F (upd H a o) (ρ.set i (some (.o a c'))) ∧ Step ρ F H (ρ.set i (some (.o a c'))) F (upd H a o) :=
  ok.mutG h r (fun x u e hx => by rw [upd_ne (fun z : x = a => hx (by rw [z]; exact List.mem_cons_self))]; exact e) (fun x hx => .inl (List.mem_cons_of_mem _ (hc ▸ hx))) (by rw [hc]; exact owns_nd1 ok.nd h)
/-- a new thing is laid, and is owned -/
theorem lay (ok : Ok K σ F H ρ) {p : Addr} {o : HO} {c : O} (n : H p = none) (r : OwnAt K F (upd H p o) p c) (hc : c.inn = [] := by rfl) : Ok K σ F (upd H p o) ρ ∧ Step ρ F H ρ F (upd H p o) ∧ RsOk K F (upd H p o) (.o p c) (.ref p) ∧ p ∉ owns ρ := by
  have s := same_upd (o := o) n
  have fn : F p = none := by
    cases z : F p with
    | none => rfl
    | some u => rw [ok.sub _ _ z] at n; cases n
  refine ⟨ok.grow (Same.refl _) s (ok.sub.trans s) fun a u e => .inl e, Step.grow (Same.refl _) s fun a u e => .inl e, ⟨rfl, by rw [hc]; exact one fn, r⟩, fun m => ?_⟩
  obtain ⟨_, u, e⟩ := ok.own m
  rw [n] at e; cases e
/-- a new thing is laid, and is frozen -/
theorem layF (ok : Ok K σ F H ρ) {p : Addr} {o : HO} (n : H p = none) : Ok K σ (upd F p o) (upd H p o) ρ ∧ Step ρ F H ρ (upd F p o) (upd H p o) ∧ Same F (upd F p o) := by
  have s := same_upd (o := o) n
  have fn : F p = none := by
    cases z : F p with
    | none => rfl
    | some u => rw [ok.sub _ _ z] at n; cases n
  have nn : ∀ a u, upd F p o a = some u → F a = some u ∨ H a = none := fun a u e => by
    by_cases z : a = p
    · subst z; exact .inr n
    · rw [upd_ne z] at e; exact .inl e
  exact ⟨ok.grow (same_upd fn) s (same_upd2 ok.sub) nn, Step.grow (same_upd fn) s nn, same_upd fn⟩

/-! ### targets -/
theorem gt_name {w : Option (List Nat)} {d : D} {Ψ : Env → Prop} (hw : ∀ l, w = some l → i ∈ l) (k : Ψ (ρ.set i (some (.v d)))) : gt K w (gName i) d ρ Ψ := fun σ F H v Q ok r c => by
  refine c _ _ (ok.setv r) (fun a m => owns_setv m) (fun l e => ?_) k
  have hi := hw l e
  clear hw e c k
  induction l with
  | nil => cases hi
  | cons j l ih =>
    show (wipe _ l).set j none = (wipe _ l).set j none
    by_cases z : i ∈ l
    · rw [ih z]
    · have : i = j := by
        rcases List.mem_cons.mp hi with y | y
        · exact y
        · exact (z y).elim
      subst this
      have : ∀ (l : List Nat), i ∉ l → wipe (σ.set i (some v)) l = (wipe σ l).set i (some v) := fun l => by
        induction l with
        | nil => intro _; rfl
        | cons j l ih =>
          intro hn
          show (wipe _ l).set j none = ((wipe σ l).set j none).set i _
          rw [ih (fun y => hn (List.mem_cons_of_mem _ y)), List.set_comm _ _ (fun y => hn (by rw [y]; exact List.mem_cons_self))]
      rw [this l z, List.set_set]
theorem gts_nil {w : Option (List Nat)} {Ψ : Env → Prop} (k : Ψ ρ) : gts K w gNil [] ρ Ψ := fun σ F H vs Q ok r c => by
  cases r
  exact ⟨rfl, c _ _ ok (fun _ m => m) (fun _ _ => rfl) k⟩
theorem gts_cons {w : Option (List Nat)} {g : TG} {gs : TGs} {d : D} {ds : List D} {Ψ : Env → Prop} (k : gt K w g d ρ fun ρ1 => gts K w gs ds ρ1 Ψ) : gts K w (gCons g gs) (d :: ds) ρ Ψ := fun σ F H vs Q ok r c => by
  cases r with
  | cons a b =>
    refine ⟨_, _, rfl, k σ F H _ _ ok a fun σ1 ρ1 ok1 n1 w1 k1 => ?_⟩
    exact k1 σ1 F H _ _ ok1 b fun σ2 ρ2 ok2 n2 w2 k2 => c _ _ ok2 (fun a m => n1 a (n2 a m)) (fun l e => (w2 l e).trans (w1 l e)) k2
theorem gt_tup {w : Option (List Nat)} {n : Nat} {gs : TGs} {ds : List D} {Ψ : Env → Prop} (hl : ds.length = n) (k : gts K w gs ds ρ Ψ) : gt K w (gTup K n gs) (.tup ds) ρ Ψ := fun σ F H v Q ok r c => by
  cases r with
  | tup h r => exact ⟨_, _, rfl, SqT.of (ok.sub _ _ h), by rw [← r.length]; exact hl, k σ F H _ _ ok r c⟩

/-! ### statements -/
variable {E : En} {t u : TS}
theorem ex_seq (h : ex K t ρ { E with nx := fun ρ' => ex K u ρ' E }) : ex K (tSeq t u) ρ E := fun σ F H D ok g =>
  h σ F H { D with nx := u D } ok ⟨fun σ' F' H' ρ' ok' st k => k σ' F' H' D ok' (g.step st), g.rt, g.bk, g.ct⟩
theorem ex_next (k : E.nx ρ) : ex K tNext ρ E := fun σ F H D ok g => g.nx σ F H ρ ok (Step.refl _ _ _) k
theorem ex_drop {te : TE} (h : ev K q te ρ fun _ ρ1 => E.nx ρ1) : ex K (tDrop te) ρ E := fun σ F H D ok g =>
  h σ F H _ ok fun d v F1 H1 ρ1 ok1 r st _ k => g.nx σ F1 H1 ρ1 ok1 st k
theorem ex_asg {te : TE} {g : TG} (h : ev K q te ρ fun d ρ1 => gt K none g d ρ1 E.nx) : ex K (tAsg te g) ρ E := fun σ F H D ok gg =>
  h σ F H _ ok fun d v F1 H1 ρ1 ok1 r st _ k => k σ F1 H1 v _ ok1 r fun σ2 ρ2 ok2 n2 _ k2 => gg.nx σ2 F1 H1 ρ2 ok2 (st.trans (Step.env n2)) k2
theorem ex_set {te : TE} (h : ev K q te ρ fun d ρ1 => E.nx (ρ1.set i (some (.v d)))) : ex K (tAsg te (gName i)) ρ E := ex_asg (h.imp fun d ρ1 k => gt_name (fun _ z => nomatch z) k)
theorem ex_setO {te : TE} (h : evo K te ρ fun a c ρ1 => E.nx (ρ1.set i (some (.o a c)))) : ex K (tAsg te (gName i)) ρ E := fun σ F H D ok g =>
  h σ F H _ ok fun a c F1 H1 ρ1 ok1 r st n nd m k => g.nx _ F1 H1 _ (ok1.seto r nd m) ⟨st.f, st.h, st.n, fun b hb => by
    rcases owns_set_sub hb with z | z
    · exact st.w b z
    · exact n b z⟩ k
theorem ex_if {tc : TT} (h : et K q tc ρ fun b ρ1 => (b = true → ex K t ρ1 E) ∧ (b = false → ex K u ρ1 E)) : ex K (tIfS tc t u) ρ E := fun σ F H D ok g => by
  refine h σ F H _ ok fun b F1 H1 ρ1 ok1 st _ ⟨k1, k2⟩ => ?_
  cases b with
  | true => rw [if_pos rfl]; exact k1 rfl σ F1 H1 D ok1 (g.step st)
  | false => rw [if_neg Bool.false_ne_true]; exact k2 rfl σ F1 H1 D ok1 (g.step st)
theorem ex_ret {te : TE} (h : ev K q te ρ fun d ρ1 => E.rt (.v d) ρ1) : ex K (tRet te) ρ E := fun σ F H D ok g =>
  h σ F H _ ok fun d v F1 H1 ρ1 ok1 r st _ k => g.rt (.v d) v σ F1 H1 ρ1 ok1 r (fun _ _ z => nomatch z) st k
theorem ex_retO {te : TE} (h : evo K te ρ fun a c ρ1 => E.rt (.o a c) ρ1) : ex K (tRet te) ρ E := fun σ F H D ok g =>
  h σ F H _ ok fun a c F1 H1 ρ1 ok1 r st n nd m k => g.rt (.o a c) _ σ F1 H1 ρ1 ok1 r (fun _ _ z => by cases z; exact ⟨fun x hx => ⟨n x hx, m x hx⟩, nd⟩) st k
theorem ex_retS {a : Addr} {c : O} (h : ρ[i]? = some (some (.o a c))) (k : E.rt (.o a c) (ρ.set i none)) : ex K (tRet (tVar i)) ρ E := fun σ F H D ok g => by
  obtain ⟨v, e, r⟩ := ok.at_ i _ h
  have hlt : i < ρ.length := (List.getElem?_eq_some_iff.mp h).1
  refine ⟨v, e, g.rt (.o a c) v σ F H _ ok.setn r (fun _ _ z => ?_) (Step.env fun b m => (owns_sublist rfl ρ i).subset m) k⟩
  cases z
  refine ⟨fun x hx => ⟨.inl (mem_in h hx), fun m => ?_⟩, owns_nd1 ok.nd h⟩
  obtain ⟨j, b, c', e', m'⟩ := mem_owns.mp m
  by_cases z : j = i
  · subst z; rw [List.getElem?_set_self hlt] at e'; cases e'
  · rw [List.getElem?_set_ne (Ne.symm z)] at e'
    exact z (owns_inj ok.nd e' h m' hx)
/-! ### loops -/
theorem ex_forS {S : Env → Prop} {wi : TI} {g : TG} {tb : TS} (h : eiS K S wi ρ fun ds ρ1 => ∃ I : Nat → Env → Prop, I 0 ρ1 ∧ (∀ k ρ', I k ρ' → S ρ') ∧
      (∀ k d ρ', ds[k]? = some d → I k ρ' → gt K none g d ρ' fun ρ2 => ex K tb ρ2 { nx := I (k + 1), rt := E.rt, bk := E.nx, ct := I (k + 1) }) ∧ ∀ ρ', I ds.length ρ' → E.nx ρ') : ex K (tFor wi g tb) ρ E := fun σ F H D ok gg => by
  refine h σ F H _ ok fun J ds G F1 H1 ρ1 ok1 st1 it g1 ⟨I, h0, hI, hs, hd⟩ => ?_
  refine ⟨fun i m σ' H' => m = ds.length - i ∧ i ≤ ds.length ∧ ∃ F' ρ', Ok K σ' F' H' ρ' ∧ Step ρ F H ρ' F' H' ∧ G F' ∧ I i ρ', ⟨ds.length, by simp, Nat.zero_le _, F1, ρ1, ok1, st1, g1, h0⟩, ?_⟩
  rintro i m σ' H' ⟨rfl, hi, F', ρ', ok', st', g', h'⟩
  by_cases hlt : i < ds.length
  · have hd' : ds[i]? = some ds[i] := by simp [hlt]
    refine .inr ⟨it.go i _ σ' F' H' ρ' hd' ok' (hI i ρ' h') g', fun σ2 H2 => ∃ F2 ρ2, Ok K σ2 F2 H2 ρ2 ∧ Step ρ F H ρ2 F2 H2 ∧ G F2 ∧ I (i + 1) ρ2, fun σ2 H2 ⟨F2, ρ2, a, b, c, d⟩ => ⟨ds.length - (i + 1), by omega, rfl, hlt, F2, ρ2, a, b, c, d⟩, fun x H2 y => ?_⟩
    obtain ⟨F2, e1, e2, e3, e4, e5⟩ := it.yld i _ σ' F' H' ρ' x H2 hd' ok' (hI i ρ' h') g' y
    have ok2 := ok'.grow e1 e2 e3 e4
    have st2 : Step ρ' F' H' ρ' F2 H2 := Step.grow e1 e2 e4
    refine hs i _ ρ' hd' h' σ' F2 H2 x _ ok2 e5 fun σ3 ρ3 ok3 n3 _ k3 => ?_
    have st3 : Step ρ F H ρ3 F2 H2 := (st'.trans st2).trans (Step.env n3)
    have g3 := it.mono _ _ e1 g'
    refine k3 σ3 F2 H2 _ ok3 ⟨fun σ4 F4 H4 ρ4 ok4 st4 k4 => ⟨F4, ρ4, ok4, st3.trans st4, it.mono _ _ st4.f g3, k4⟩, fun s v σ4 F4 H4 ρ4 ok4 r4 n4 st4 k4 => (gg.step st3).rt s v σ4 F4 H4 ρ4 ok4 r4 n4 st4 k4, fun σ4 F4 H4 ρ4 ok4 st4 k4 => (gg.step st3).nx σ4 F4 H4 ρ4 ok4 st4 k4,
      fun σ4 F4 H4 ρ4 ok4 st4 k4 => ⟨F4, ρ4, ok4, st3.trans st4, it.mono _ _ st4.f g3, k4⟩⟩
  · have e : i = ds.length := by omega
    subst e
    exact .inl ⟨it.stop σ' F' H' ρ' ok' (hI _ ρ' h') g', gg.nx σ' F' H' ρ' ok' st' (hd ρ' h')⟩
end
end Fw

set_option Elab.async false
set_option linter.all false
set_option maxRecDepth 100000
namespace Fw
variable [TbC]
open PySem L2

def D.ls : D → Option (List D)
  | .lst ds => some ds
  | .fls ds => some ds
  | _ => none
def D.sq : D → Option (List D)
  | .lst ds => some ds
  | .fls ds => some ds
  | .tup ds => some ds
  | _ => none
@[simp] theorem D.ls_lst {ds} : (D.lst ds).ls = some ds := rfl
@[simp] theorem D.sq_lst {ds} : (D.lst ds).sq = some ds := rfl
@[simp] theorem D.sq_tup {ds} : (D.tup ds).sq = some ds := rfl

section
variable {K : PySem.W.Frag} {q : Bool} {ρ : Env} {σ : St} {F H : Hp} {i : Nat}
theorem rep_ls {d : D} {ds : List D} {v : V} (h : d.ls = some ds) (r : Rep K F d v) : ∃ a vs, v = .ref a ∧ SqL K F a vs ∧ RepL K F ds vs := by
  cases r <;> simp only [D.ls, Option.some.injEq, reduceCtorEq] at h
  · subst h; rename_i a vs ds' h1 h2; exact ⟨_, _, rfl, SqL.of h1, h2⟩
  · subst h; rename_i a vs ds' h1 h2; exact ⟨_, _, rfl, h1, h2⟩
theorem rep_sq {d : D} {ds : List D} {v : V} (h : d.sq = some ds) (r : Rep K F d v) : ∃ a vs, v = .ref a ∧ (SqL K F a vs ∨ SqT K F a vs) ∧ RepL K F ds vs := by
  cases r <;> simp only [D.sq, Option.some.injEq, reduceCtorEq] at h
  · subst h; rename_i a vs ds' h1 h2; exact ⟨_, _, rfl, .inl (SqL.of h1), h2⟩
  · subst h; rename_i a vs ds' h1 h2; exact ⟨_, _, rfl, .inr (SqT.of h1), h2⟩
  · subst h; rename_i a vs ds' h1 h2; exact ⟨_, _, rfl, .inl h1, h2⟩
/-- borrowed: the items are frozen -/
theorem brep_ls (ok : Ok K σ F H ρ) {d : D} {ds : List D} {v : V} (h : d.ls = some ds) (r : BRep K F ρ d v) : ∃ a vs, v = .ref a ∧ SqL K H a vs ∧ RepL K F ds vs := by
  rcases r with r | ⟨j, a, c, e, rfl, rfl, hfl⟩ | ⟨j, a, c, f, p, x, e, m, rfl, rfl⟩
  rotate_right
  · have z := ok.chat e m
    cases x with
    | l xs =>
      obtain ⟨vs, h4, h5⟩ := z
      have h : some xs = some ds := h
      cases h
      exact ⟨_, _, rfl, SqL.of h4, h5⟩
    | d kvs => cases h
  · obtain ⟨a, vs, e, h1, h2⟩ := rep_ls h r
    exact ⟨a, vs, e, ok.sub.seq h1, h2⟩
  · obtain ⟨w, h1, rfl, h2, h3⟩ := ok.at_ j _ e
    cases c with
    | lst xs =>
      obtain ⟨vs, h4, h5⟩ := h3
      simp [O.d, D.ls] at h; subst h
      exact ⟨_, _, rfl, SqL.of h4, h5⟩
    | dct xs => simp [O.d, D.ls] at h
    | ldct o ws xs => simp [O.d, D.ls] at h
    | ins C dx xs => simp [O.d, D.ls] at h
    | dcl _ => cases hfl
    | tpl _ => cases hfl
    | lcl _ => cases hfl
    | rcd _ => cases hfl
    | inl _ _ _ => cases hfl
theorem brep_sq (ok : Ok K σ F H ρ) {d : D} {ds : List D} {v : V} (h : d.sq = some ds) (r : BRep K F ρ d v) : ∃ a vs, v = .ref a ∧ (SqL K H a vs ∨ SqT K H a vs) ∧ RepL K F ds vs := by
  rcases r with r | ⟨j, a, c, e, rfl, rfl, hfl⟩ | ⟨j, a, c, f, p, x, e, m, rfl, rfl⟩
  rotate_right
  · have z := ok.chat e m
    cases x with
    | l xs =>
      obtain ⟨vs, h4, h5⟩ := z
      have h : some xs = some ds := h
      cases h
      exact ⟨_, _, rfl, .inl (SqL.of h4), h5⟩
    | d kvs => cases h
  · obtain ⟨a, vs, e, h1, h2⟩ := rep_sq h r
    exact ⟨a, vs, e, h1.imp (fun z => ok.sub.seq z) (fun z => sqT_same ok.sub z), h2⟩
  · obtain ⟨w, h1, rfl, h2, h3⟩ := ok.at_ j _ e
    cases c with
    | lst xs =>
      obtain ⟨vs, h4, h5⟩ := h3
      simp [O.d, D.sq] at h; subst h
      exact ⟨_, _, rfl, .inl (SqL.of h4), h5⟩
    | dct xs => simp [O.d, D.sq] at h
    | ldct o ws xs => simp [O.d, D.sq] at h
    | ins C dx xs => simp [O.d, D.sq] at h
    | dcl _ => cases hfl
    | tpl _ => cases hfl
    | lcl _ => cases hfl
    | rcd _ => cases hfl
    | inl _ _ _ => cases hfl
theorem brep_dct (ok : Ok K σ F H ρ) {kvs : List (Key × D)} {v : V} (r : BRep K F ρ (.dct kvs) v) : ∃ a ws, v = .ref a ∧ Rd H a (.dK ws) ∧ RepK K F kvs ws := by
  rcases r with r | ⟨j, a, c, e, rfl, h, hfl⟩ | ⟨j, a, c, f, p, x, e, m, rfl, h⟩
  rotate_right
  · have z := ok.chat e m
    cases x with
    | l xs => cases h
    | d ks =>
      obtain ⟨vs, h4, h5⟩ := z
      cases h
      exact ⟨_, _, rfl, .inl h4, h5⟩
  · cases r with
    | dct h1 h2 => exact ⟨_, _, rfl, rd_same ok.sub h1, h2⟩
  · obtain ⟨w, h1, rfl, h2, h3⟩ := ok.at_ j _ e
    cases c with
    | lst xs => simp [O.d] at h
    | dct xs =>
      obtain ⟨vs, h4, h5⟩ := h3
      simp [O.d] at h; subst h
      exact ⟨_, _, rfl, .inl h4, h5⟩
    | ldct o ws xs =>
      obtain ⟨h4, h5⟩ := h3
      simp [O.d] at h; subst h
      exact ⟨_, _, rfl, .inr ⟨_, h4⟩, h5⟩
    | ins C dx xs => simp [O.d] at h
    | dcl _ => cases hfl
    | tpl _ => cases hfl
    | lcl _ => cases hfl
    | rcd _ => cases hfl
    | inl _ _ _ => cases hfl

/-! ### len, an item, sums -/
abbrev rLenS (K : PySem.W.Frag) : List V → Hp → VK → Prop := fun xs H Q => ∃ p ys, xs = [.ref p] ∧ (SqL K H p ys ∨ SqT K H p ys) ∧ Q (.int ys.length) H
theorem c_len {X : Cx} : CallR X (.builtin "len") (rLenS X.K) := call_len_seq
/-- one borrowed argument to a built-in -/
theorem ev_cb {r : List V → Hp → VK → Prop} {te : TE} {Φ : D → Env → Prop}
    (h : evb K q te ρ fun d ρ1 => ∃ f : D, (∀ (σ : St) (F H : Hp) (v : V) (Q : VK), Ok K σ F H ρ1 → BRep K F ρ1 d v → (∀ z, Rep K F f z → Q z H) → r [v] H Q) ∧ Φ f ρ1) : ev K q (tCB r (tCons te tNil)) ρ Φ := fun σ F H Q ok c => by
  refine h σ F H _ ok fun d v F1 H1 ρ1 ok1 b1 s1 q1 ⟨f, hr, k⟩ => ?_
  exact hr σ F1 H1 v Q ok1 b1 fun z rz => c f z F1 H1 ρ1 ok1 rz s1 q1 k
theorem ev_len {te : TE} {Φ : D → Env → Prop} (h : evb K q te ρ fun d ρ1 => ∃ ds, d.sq = some ds ∧ Φ (.int ds.length) ρ1) : ev K q (tCB (rLenS K) (tCons te tNil)) ρ Φ :=
  ev_cb (h.imp fun d ρ1 ⟨ds, e, k⟩ => ⟨_, fun σ F H v Q ok b c => by
    obtain ⟨a, vs, rfl, h1, h2⟩ := brep_sq ok e b
    exact ⟨a, vs, rfl, h1, c _ (by rw [← h2.length]; exact .int _)⟩, k⟩)
theorem atI_rep {ds : List D} {vs : List V} {k : Int} {e : D} (r : RepL K F ds vs) (h : atI ds k = some e) : ∃ v, atI vs k = some v ∧ Rep K F e v := by
  unfold atI at h ⊢
  rw [r.length] at h
  cases z : ixN vs.length k with
  | none => rw [z] at h; cases h
  | some j =>
    rw [z] at h
    obtain ⟨v, h1, h2⟩ := r.get h
    exact ⟨v, h1, h2⟩
/-- xs[k], the index quiet -/
theorem ev_ix {ta tb : TE} {Φ : D → Env → Prop} (h : evb K q ta ρ fun d ρ1 => evI K true tb ρ1 fun k ρ2 => ∃ ds e, d.sq = some ds ∧ atI ds k = some e ∧ Φ e ρ1) : ev K q (tOp (rIx K) ta tb) ρ Φ := fun σ F H Q ok c => by
  refine h σ F H _ ok fun d v F1 H1 ρ1 ok1 b1 s1 q1 h1 => ?_
  refine h1 σ F1 H1 _ ok1 fun e w F2 H2 ρ2 ok2 r2 s2 q2 ⟨k, er, ds, e', h2, h3, kk⟩ => ?_
  obtain ⟨rfl, rfl, rfl⟩ := q2 rfl
  subst er; cases r2
  obtain ⟨a, vs, rfl, h4, h5⟩ := brep_sq ok1 h2 b1
  obtain ⟨u, h6, h7⟩ := atI_rep h5 h3
  rcases h4 with h4 | h4
  · exact .inl ⟨a, vs, k, u, rfl, rfl, h4, h6, c _ _ _ _ _ ok1 h7 s1 q1 kk⟩
  · exact .inr (.inl ⟨a, vs, k, u, rfl, rfl, h4, h6, c _ _ _ _ _ ok1 h7 s1 q1 kk⟩)
/-- xs[k], xs frozen -/
theorem ev_ixV {ta tb : TE} {Φ : D → Env → Prop} (h : ev K q ta ρ fun d ρ1 => evI K q tb ρ1 fun k ρ2 => ∃ ds e, d.sq = some ds ∧ atI ds k = some e ∧ Φ e ρ2) : ev K q (tOp (rIx K) ta tb) ρ Φ := fun σ F H Q ok c => by
  refine h σ F H _ ok fun d v F1 H1 ρ1 ok1 b1 s1 q1 h1 => ?_
  refine h1 σ F1 H1 _ ok1 fun e w F2 H2 ρ2 ok2 r2 s2 q2 ⟨k, er, ds, e', h2, h3, kk⟩ => ?_
  subst er; cases r2
  obtain ⟨a, vs, rfl, h4, h5⟩ := brep_sq ok2 h2 (.inl (Rep.mono s2.f b1))
  obtain ⟨u, h6, h7⟩ := atI_rep h5 h3
  rcases h4 with h4 | h4
  · exact .inl ⟨a, vs, k, u, rfl, rfl, h4, h6, c _ _ _ _ _ ok2 h7 (s1.trans s2) (q1.trans q2) kk⟩
  · exact .inr (.inl ⟨a, vs, k, u, rfl, rfl, h4, h6, c _ _ _ _ _ ok2 h7 (s1.trans s2) (q1.trans q2) kk⟩)

/-! ### what is new -/
theorem evo_lst {ta : TA} {Φ : Addr → O → Env → Prop} (h : evd K q ta ρ fun ds ρ1 => ds.length ≤ sizeLine ∧ ∀ a, a ∉ owns ρ1 → Φ a (.lst ds) ρ1) : evo K (tLst ta) ρ Φ := fun σ F H Q ok c =>
  h σ F H _ ok fun ds vs F1 H1 ρ1 ok1 r1 s1 _ ⟨hl, k⟩ => ⟨by rw [← r1.length]; exact hl, fun p hp => by
    obtain ⟨ok2, s2, r2, n2⟩ := lay (o := .lst vs) (c := .lst ds) ok1 hp ⟨vs, upd_same, r1⟩
    exact c p _ F1 _ ρ1 ok2 r2 (s1.trans s2) (one (s1.new (.inr hp))) nd1 (one n2) (k p n2)⟩
theorem evo_dnew {Φ : Addr → O → Env → Prop} (k : ∀ a, a ∉ owns ρ → Φ a (.dct []) ρ) : evo K tDNewK ρ Φ := fun σ F H Q ok c p hp => by
  obtain ⟨ok2, s2, r2, n2⟩ := lay (o := .dK []) (c := .dct []) ok hp ⟨[], upd_same, .nil⟩
  exact c p _ F _ ρ ok2 r2 s2 (one (.inr hp)) nd1 (one n2) (k p n2)
theorem ev_tup {ta : TA} {Φ : D → Env → Prop} (h : evd K false ta ρ fun ds ρ1 => ds.length ≤ sizeLine ∧ Φ (.tup ds) ρ1) : ev K false (tTup ta) ρ Φ := fun σ F H Q ok c =>
  h σ F H _ ok fun ds vs F1 H1 ρ1 ok1 r1 s1 _ ⟨hl, k⟩ => ⟨by rw [← r1.length]; exact hl, fun p hp => by
    obtain ⟨ok2, s2, s3⟩ := layF (o := .tup vs) ok1 hp
    exact c _ _ _ _ ρ1 ok2 (.tup upd_same (RepL.mono s3 r1)) (s1.trans s2) (fun z => nomatch z) k⟩
abbrev rListOf (K : PySem.W.Frag) : List V → Hp → VK → Prop := fun xs H Q => ∃ p ys, xs = [.ref p] ∧ (SqL K H p ys ∨ SqT K H p ys) ∧ ∀ l, H l = none → Q (.ref l) (upd H l (.lst ys))
theorem c_list {X : Cx} : CallR X (.type "list") (rListOf X.K) := call_list_of
theorem evo_list {te : TE} {Φ : Addr → O → Env → Prop} (h : evb K q te ρ fun d ρ1 => ∃ ds, d.sq = some ds ∧ ∀ a, a ∉ owns ρ1 → Φ a (.lst ds) ρ1) : evo K (tCB (rListOf K) (tCons te tNil)) ρ Φ := fun σ F H Q ok c =>
  h σ F H _ ok fun d v F1 H1 ρ1 ok1 b1 s1 _ ⟨ds, e, k⟩ => by
    obtain ⟨a, vs, rfl, h1, h2⟩ := brep_sq ok1 e b1
    refine ⟨a, vs, rfl, h1, fun p hp => ?_⟩
    obtain ⟨ok2, s2, r2, n2⟩ := lay (o := .lst vs) (c := .lst ds) ok1 hp ⟨vs, upd_same, h2⟩
    exact c p _ F1 _ ρ1 ok2 r2 (s1.trans s2) (one (s1.new (.inr hp))) nd1 (one n2) (k p n2)
/-- the parts of a slice -/
def eo (K : PySem.W.Frag) (q : Bool) (to : TO) (ρ : Env) (Φ : Option Int → Env → Prop) : Prop :=
  ∀ (σ : St) (F H : Hp) (Q : Option Int → Hp → Prop), Ok K σ F H ρ → (∀ o F' H' ρ', Ok K σ F' H' ρ' → Step ρ F H ρ' F' H' → Qt q ρ F H ρ' F' H' → Φ o ρ' → Q o H') → to σ H Q
theorem eo_none {Φ : Option Int → Env → Prop} (k : Φ none ρ) : eo K q tNoPart ρ Φ := fun σ F H Q ok c => c none F H ρ ok (Step.refl _ _ _) (Qt.refl _ _ _ _) k
theorem eo_some {te : TE} {Φ : Option Int → Env → Prop} (h : evI K q te ρ fun i ρ1 => Φ (some i) ρ1) : eo K q (tPart te) ρ Φ := fun σ F H Q ok c =>
  h σ F H _ ok fun d v F1 H1 ρ1 ok1 r s1 q1 ⟨i, e, k⟩ => by subst e; cases r; exact ⟨i, rfl, c _ F1 H1 ρ1 ok1 s1 q1 k⟩
def cutD (xs : List D) (lo hi : Option Int) : List D := (xs.drop (HT.sIx xs.length 0 lo)).take (HT.sIx xs.length xs.length hi - HT.sIx xs.length 0 lo)
/-- xs[a:b], the bounds quiet -/
theorem evo_slice {te : TE} {tl th : TO} {Φ : Addr → O → Env → Prop} (h : evb K q te ρ fun d ρ1 => eo K true tl ρ1 fun lo ρ2 => eo K true th ρ1 fun hi ρ3 => ∃ ds, d.ls = some ds ∧ ∀ a, a ∉ owns ρ1 → Φ a (.lst (cutD ds lo hi)) ρ1) : evo K (tSl (rSlL K) te tl th) ρ Φ := fun σ F H Q ok c => by
  refine h σ F H _ ok fun d v F1 H1 ρ1 ok1 b1 s1 _ h1 => ?_
  refine h1 σ F1 H1 _ ok1 fun lo F2 H2 ρ2 ok2 s2 q2 h2 => ?_
  obtain ⟨rfl, rfl, rfl⟩ := q2 rfl
  refine h2 σ _ _ _ ok1 fun hi F3 H3 ρ3 ok3 s3 q3 ⟨ds, e, k⟩ => ?_
  obtain ⟨rfl, rfl, rfl⟩ := q3 rfl
  obtain ⟨a, vs, rfl, h4, h5⟩ := brep_ls ok1 e b1
  refine ⟨a, vs, rfl, h4, fun p hp => ?_⟩
  have hc : RepL K F3 (cutD ds lo hi) (cutV vs lo hi) := by
    unfold cutD cutV
    rw [h5.length]
    exact (h5.drop _).take _
  obtain ⟨ok2, s2, r2, n2⟩ := lay (o := .lst (cutV vs lo hi)) (c := .lst (cutD ds lo hi)) ok1 hp ⟨_, upd_same, hc⟩
  exact c p _ _ _ _ ok2 r2 (s1.trans s2) (one (s1.new (.inr hp))) nd1 (one n2) (k p n2)
theorem brep_lst (ok : Ok K σ F H ρ) {ds : List D} {v : V} (r : BRep K F ρ (.lst ds) v) : ∃ a vs, v = .ref a ∧ H a = some (.lst vs) ∧ RepL K F ds vs := by
  rcases r with r | ⟨j, a, c, e, rfl, h, hfl⟩ | ⟨j, a, c, f, p, x, e, m, rfl, h⟩
  rotate_right
  · have z := ok.chat e m
    cases x with
    | l xs =>
      obtain ⟨vs, h4, h5⟩ := z
      cases h
      exact ⟨_, _, rfl, h4, h5⟩
    | d ks => cases h
  · cases r with
    | lst h1 h2 => exact ⟨_, _, rfl, ok.sub _ _ h1, h2⟩
  · obtain ⟨w, h1, rfl, h2, h3⟩ := ok.at_ j _ e
    cases c with
    | lst xs =>
      obtain ⟨vs, h4, h5⟩ := h3
      simp [O.d] at h; subst h
      exact ⟨_, _, rfl, h4, h5⟩
    | dct xs => simp [O.d] at h
    | ldct o ws xs => simp [O.d] at h
    | ins C dx xs => simp [O.d] at h
    | dcl _ => cases hfl
    | tpl _ => cases hfl
    | lcl _ => cases hfl
    | rcd _ => cases hfl
    | inl _ _ _ => cases hfl
/-- xs + ys, both frozen -/
theorem evo_catV {ta tb : TE} {Φ : Addr → O → Env → Prop} (h : ev K q ta ρ fun d ρ1 => ev K q tb ρ1 fun e ρ2 => ∃ xs ys, d = .lst xs ∧ e = .lst ys ∧ xs.length + ys.length ≤ sizeLine ∧ ∀ a, a ∉ owns ρ2 → Φ a (.lst (xs ++ ys)) ρ2) : evo K (tOp rCat ta tb) ρ Φ := fun σ F H Q ok c => by
  refine h σ F H _ ok fun d v F1 H1 ρ1 ok1 b1 s1 _ h1 => ?_
  refine h1 σ F1 H1 _ ok1 fun e w F2 H2 ρ2 ok2 b2 s2 _ ⟨xs, ys, e1, e2, hl, k⟩ => ?_
  subst e1 e2
  obtain ⟨a, vs, rfl, h3, h4⟩ := brep_lst ok2 (.inl (Rep.mono s2.f b1))
  obtain ⟨b, ws, rfl, h5, h6⟩ := brep_lst ok2 (.inl b2)
  refine ⟨a, b, vs, ws, rfl, rfl, h3, h5, by rw [← h4.length, ← h6.length]; exact hl, fun p hp => ?_⟩
  obtain ⟨ok3, s3, r3, n3⟩ := lay (o := .lst (vs ++ ws)) (c := .lst (xs ++ ys)) ok2 hp ⟨_, upd_same, h4.append h6⟩
  exact c p _ _ _ _ ok3 r3 ((s1.trans s2).trans s3) (one ((s1.trans s2).new (.inr hp))) nd1 (one n3) (k p n3)
theorem RepL.rep {ds : List D} {vs : List V} (r : RepL K F ds vs) : ∀ k : Nat, RepL K F (List.replicate k ds).flatten (List.replicate k vs).flatten
  | 0 => .nil
  | k + 1 => by
    rw [List.replicate_succ, List.replicate_succ, List.flatten_cons, List.flatten_cons]
    exact r.append (RepL.rep r k)
/-! ### what a loop walks -/
theorem it_list {a : Addr} {vs : List V} {ds : List D} : ItOk K (Itl K a) ds (fun F => SqL K F a vs ∧ RepL K F ds vs) noS where
  mono := fun F F' s ⟨h1, h2⟩ => ⟨s.seq h1, RepL.mono s h2⟩
  go := fun i d _ F H ρ e ok _ ⟨h1, h2⟩ => by
    obtain ⟨v, e1, _⟩ := h2.get e
    exact ⟨vs, v, ok.sub.seq h1, e1⟩
  yld := fun i d _ F H ρ x H' e ok _ ⟨h1, h2⟩ ⟨y1, y2⟩ => by
    subst y1
    obtain ⟨v, e1, r⟩ := h2.get e
    have e2 := y2 vs (ok.sub.seq h1)
    rw [e1] at e2; cases e2
    exact ⟨F, Same.refl _, Same.refl _, ok.sub, fun a o z => .inl z, r⟩
  stop := fun _ F H ρ ok _ ⟨h1, h2⟩ => ⟨vs, ok.sub.seq h1, by rw [h2.length]; exact Nat.le_refl _⟩
theorem ei_list {te : TE} {Φ : List D → Env → Prop} (h : ev K q te ρ fun d ρ1 => ∃ ds, d.ls = some ds ∧ Φ ds ρ1) : ei K (iList K te) ρ Φ := fun σ F H R ok c =>
  h σ F H _ ok fun d v F1 H1 ρ1 ok1 r s1 _ ⟨ds, e, k⟩ => by
    obtain ⟨a, vs, rfl, h1, h2⟩ := rep_ls e r
    exact ⟨a, rfl, ⟨vs, ok1.sub.seq h1⟩, c _ ds _ F1 H1 ρ1 ok1 s1 it_list ⟨h1, h2⟩ k⟩
def rangeD (lo : Int) (n : Nat) : List D := (List.range n).map fun (i : Nat) => D.int (lo + (i : Int))
@[simp] theorem rangeD_len {lo : Int} {n : Nat} : (rangeD lo n).length = n := by simp [rangeD]
theorem rangeD_get {lo : Int} {n i : Nat} {d : D} (h : (rangeD lo n)[i]? = some d) : i < n ∧ d = .int (lo + i) := by
  unfold rangeD at h
  rw [List.getElem?_map] at h
  cases e : (List.range n)[i]? with
  | none => rw [e] at h; simp at h
  | some j =>
    rw [e] at h
    obtain ⟨h1, h2⟩ := List.getElem?_eq_some_iff.mp e
    simp at h1 h2 h
    subst h2
    exact ⟨h1, h.symm⟩
theorem it_range {lo : Int} {n : Nat} : ItOk K (Itr lo n) (rangeD lo n) (fun _ => True) noS where
  mono := fun _ _ _ _ => trivial
  go := fun i d _ F H _ e _ _ _ => (rangeD_get e).1
  yld := fun i d _ F H ρ x H' e ok _ _ ⟨y1, y2⟩ => by
    subst y1 y2
    obtain ⟨_, rfl⟩ := rangeD_get e
    exact ⟨F, Same.refl _, Same.refl _, ok.sub, fun a o z => .inl z, .int _⟩
  stop := fun _ F H _ _ _ _ => by show n ≤ (rangeD lo n).length; simp
theorem ei_range1 {ta : TA} {Φ : List D → Env → Prop} (h : evd K q ta ρ fun ds ρ1 => ∃ j : Int, ds = [.int j] ∧ -(2 ^ 62) ≤ j ∧ j < 2 ^ 62 ∧ Φ (rangeD 0 j.toNat) ρ1) : ei K (iRng1 ta) ρ Φ := fun σ F H R ok c =>
  h σ F H _ ok fun ds vs F1 H1 ρ1 ok1 r s1 _ ⟨j, e, h1, h2, k⟩ => by
    subst e
    cases r with
    | cons a b =>
      cases a; cases b
      exact ⟨j, rfl, h1, h2, c _ _ _ F1 H1 ρ1 ok1 s1 it_range trivial k⟩
/-- a new pair at a new place -/
theorem yld_new {F H : Hp} {T : Addr} {d e : D} {x y : V} (s : Same F H) (n : H T = none) (r1 : Rep K F d x) (r2 : Rep K F e y) :
    ∃ F', Same F F' ∧ Same H (upd H T (.tup [x, y])) ∧ Same F' (upd H T (.tup [x, y])) ∧ (∀ a o, F' a = some o → F a = some o ∨ H a = none) ∧ Rep K F' (.tup [d, e]) (.ref T) := by
  have fn : F T = none := by
    cases z : F T with
    | none => rfl
    | some u => rw [s _ _ z] at n; cases n
  refine ⟨upd F T (.tup [x, y]), same_upd fn, same_upd n, same_upd2 s, fun a u e => ?_, .tup upd_same (.cons (Rep.mono (same_upd fn) r1) (.cons (Rep.mono (same_upd fn) r2) .nil))⟩
  by_cases z : a = T
  · subst z; exact .inr n
  · rw [upd_ne z] at e; exact .inl e
def enumD (ds : List D) : List D := ds.mapIdx fun i d => .tup [.int (i : Nat), d]
@[simp] theorem enumD_len {ds : List D} : (enumD ds).length = ds.length := by simp [enumD]
theorem enumD_get {ds : List D} {i : Nat} {e : D} (h : (enumD ds)[i]? = some e) : ∃ d, ds[i]? = some d ∧ e = .tup [.int (i : Nat), d] := by
  unfold enumD at h
  rw [List.getElem?_mapIdx] at h
  cases z : ds[i]? with
  | none => rw [z] at h; simp at h
  | some d => rw [z] at h; simp at h; exact ⟨d, rfl, h.symm⟩
theorem it_enum {a : Addr} {vs : List V} {ds : List D} : ItOk K (Ite K a) (enumD ds) (fun F => SqL K F a vs ∧ RepL K F ds vs) noS where
  mono := fun F F' s ⟨h1, h2⟩ => ⟨s.seq h1, RepL.mono s h2⟩
  go := fun i d _ F H ρ e ok _ ⟨h1, h2⟩ => by
    obtain ⟨d', e1, _⟩ := enumD_get e
    obtain ⟨v, e2, _⟩ := h2.get e1
    exact ⟨vs, v, ok.sub.seq h1, e2⟩
  yld := fun i d _ F H ρ x H' e ok _ ⟨h1, h2⟩ ⟨T, y, y1, y2, y3, y4⟩ => by
    subst y1 y3
    obtain ⟨d', e1, rfl⟩ := enumD_get e
    obtain ⟨v, e2, r⟩ := h2.get e1
    have e3 := y4 vs (ok.sub.seq h1)
    rw [e2] at e3; cases e3
    exact yld_new ok.sub y2 (.int _) r
  stop := fun _ F H ρ ok _ ⟨h1, h2⟩ => ⟨vs, ok.sub.seq h1, by rw [enumD_len, h2.length]; exact Nat.le_refl _⟩
theorem ei_enum {ta : TA} {Φ : List D → Env → Prop} (h : evd K q ta ρ fun ds ρ1 => ∃ d xs, ds = [d] ∧ d.ls = some xs ∧ Φ (enumD xs) ρ1) : ei K (iEnum K ta) ρ Φ := fun σ F H R ok c =>
  h σ F H _ ok fun ds vs F1 H1 ρ1 ok1 r s1 _ ⟨d, xs, e, e1, k⟩ => by
    subst e
    cases r with
    | cons a b =>
      cases b
      obtain ⟨p, vs, rfl, h1, h2⟩ := rep_ls e1 a
      exact ⟨p, vs, rfl, ok1.sub.seq h1, c _ _ _ F1 H1 ρ1 ok1 s1 it_enum ⟨h1, h2⟩ k⟩
def zipD (ds es : List D) : List D := ds.zipWith (fun d e => .tup [d, e]) es
end
end Fw

set_option Elab.async false
set_option linter.all false
set_option maxRecDepth 100000
namespace Fw
variable [TbC]
open PySem L2
section
variable {K : PySem.W.Frag} {q : Bool} {ρ : Env} {σ : St} {F H : Hp} {i : Nat}
/-! ### a comprehension -/
def wipeE (ρ : Env) : List Nat → Env
  | [] => ρ
  | v :: vs => (wipeE ρ vs).set v none
theorem Ok.wipe (ok : Ok K σ F H ρ) : ∀ vs : List Nat, Ok K (L2.wipe σ vs) F H (wipeE ρ vs)
  | [] => ok
  | v :: vs => by
    have := (Ok.wipe ok vs).setn (i := v)
    refine ⟨this.sub, by simpa [wipeE, L2.wipe] using this.len, fun j s e => ?_, this.nd, this.tb, this.nf⟩
    obtain ⟨w, h1, h2⟩ := this.at_ j s e
    refine ⟨w, ?_, h2⟩
    show ((L2.wipe σ vs).set v none)[j]? = _
    by_cases z : j = v
    · subst z
      have e : ((wipeE ρ vs).set j none)[j]? = some (some s) := e
      have hlt : j < (wipeE ρ vs).length := by simpa using (List.getElem?_eq_some_iff.mp e).1
      rw [List.getElem?_set_self hlt] at e; cases e
    · rw [List.getElem?_set_ne (Ne.symm z)]; exact h1
/-- the environment within a comprehension is ahead of its own names: the slots vs are let go -/
theorem owns_wipe : ∀ (vs : List Nat) {a : Addr}, a ∈ owns (wipeE ρ vs) → a ∈ owns ρ
  | [], _, h => h
  | v :: vs, a, h => by
    rcases owns_set_sub (ρ := wipeE ρ vs) h with z | z
    · exact owns_wipe vs z
    · simp [ownA] at z
/-- the environment behind a turn: the comprehension's own slots as they were, if they hold data -/
def keepv : Option Sl → Option Sl
  | some (.v d) => some (.v d)
  | _ => none
def unw : Nat → List Nat → Env → Env → Env
  | n, vs, x :: ρ', y :: ρ4 => (if vs.contains n = true then keepv x else y) :: unw (n + 1) vs ρ' ρ4
  | _, _, _, _ => []
theorem wipeE_len : ∀ vs : List Nat, (wipeE ρ vs).length = ρ.length
  | [] => rfl
  | v :: vs => by show ((wipeE ρ vs).set v none).length = _; rw [List.length_set, wipeE_len vs]
end
end Fw

set_option Elab.async false
set_option linter.all false
set_option maxRecDepth 100000
namespace Fw
variable [TbC]
open PySem L2
section
variable {K : PySem.W.Frag} {q : Bool} {ρ : Env} {σ : St} {F H : Hp} {i : Nat} {E : En}
/-! ### lists that are changed -/
theorem ex_append {te : TE} (h : ev K q te ρ fun d ρ1 => ∃ a xs, ρ1[i]? = some (some (.o a (.lst xs))) ∧ xs.length < sizeLine ∧ E.nx (ρ1.set i (some (.o a (.lst (xs ++ [d])))))) (h0 : ∃ a xs, ρ[i]? = some (some (.o a (.lst xs)))) :
    ex K (tDrop (tBM K "list" rAppend (tVar i) (tCons te tNil))) ρ E := fun σ F H D ok g => by
  obtain ⟨a0, xs0, e0⟩ := h0
  obtain ⟨w, e1, rfl, _, vs0, h3, _⟩ := ok.at_ i _ e0
  refine ⟨_, e1, .inl ⟨rfl, _, SqL.of h3⟩, ?_⟩
  refine h σ F H _ ok fun d v F1 H1 ρ1 ok1 r1 s1 _ ⟨a, xs, e2, hl, k⟩ => ?_
  obtain ⟨w, e3, rfl, h4, vs, h5, h6⟩ := ok1.at_ i _ e2
  rw [e1] at e3; cases e3
  obtain ⟨ok2, s2⟩ := ok1.mut (o := .lst (vs ++ [v])) (c' := .lst (xs ++ [d])) e2 ⟨_, upd_same, h6.append (.cons r1 .nil)⟩
  exact ⟨a0, vs, v, rfl, rfl, h5, by rw [← h6.length]; exact hl, g.nx _ _ _ _ ok2 (s1.trans s2) k⟩
/-- xs[k] = e, the list a slot's -/
theorem ex_setL {te ti : TE} (h : ev K q te ρ fun d ρ1 => ∃ a xs, ρ1[i]? = some (some (.o a (.lst xs))) ∧ evI K true ti ρ1 fun k ρ2 => ∃ j, ixN xs.length k = some j ∧ E.nx (ρ1.set i (some (.o a (.lst (xs.set j d)))))) :
    ex K (tAsg te (gSub (tVar i) ti rSetL)) ρ E := fun σ F H D ok g => by
  refine h σ F H _ ok fun d v F1 H1 ρ1 ok1 r1 s1 _ ⟨a, xs, e2, k1⟩ => ?_
  obtain ⟨w, e3, rfl, h4, vs, h5, h6⟩ := ok1.at_ i _ e2
  refine ⟨_, e3, ?_⟩
  refine k1 σ F1 H1 _ ok1 fun e w F2 H2 ρ2 ok2 r2 s2 q2 ⟨k, ek, j, hj, kk⟩ => ?_
  obtain ⟨rfl, rfl, rfl⟩ := q2 rfl
  subst ek; cases r2
  obtain ⟨ok3, s3⟩ := ok1.mut (o := .lst (vs.set j v)) (c' := .lst (xs.set j d)) e2 ⟨_, upd_same, RepL.set r1 j h6⟩
  exact ⟨a, vs, k, j, rfl, rfl, h5, by rw [← h6.length]; exact hj, g.nx _ _ _ _ ok3 (s1.trans s3) kk⟩
/-! ### dicts -/
def keyD : Key → D
  | .inl i => .int i
  | .inr s => .str s
theorem keyD_rep {k : Key} {v : V} (r : Rep K F (keyD k) v) : v = kV k := by
  cases k <;> cases r <;> rfl
def lookD : List (Key × D) → Key → Option D
  | [], _ => none
  | (k', d) :: r, k => if k' = k then some d else lookD r k
def putD : List (Key × D) → Key → D → List (Key × D)
  | [], k, d => [(k, d)]
  | (k', e) :: r, k, d => if k' = k then (k', d) :: r else (k', e) :: putD r k d
def dropD : List (Key × D) → Key → List (Key × D)
  | [], _ => []
  | (k', e) :: r, k => if k' = k then dropD r k else (k', e) :: dropD r k
theorem RepK.val {kvs : List (Key × D)} {ws : List (Key × V)} (r : RepK K F kvs ws) (k : Key) : (valV ws k = none ∧ lookD kvs k = none) ∨ ∃ d v, lookD kvs k = some d ∧ valV ws k = some v ∧ Rep K F d v := by
  match r with
  | .nil => exact .inl ⟨rfl, rfl⟩
  | .cons (k := k') (v := v) (d := d) h t =>
    by_cases e : k' = k
    · exact .inr ⟨d, v, by simp [lookD, e], valV_pos (p := (k', v)) e, h⟩
    · rw [valV_neg (p := (k', v)) e]
      rcases RepK.val t k with ⟨x, y⟩ | ⟨a, b, x, y, z⟩
      · exact .inl ⟨x, by simp only [lookD, if_neg e]; exact y⟩
      · exact .inr ⟨a, b, by simp only [lookD, if_neg e]; exact x, y, z⟩
theorem RepK.length {kvs : List (Key × D)} {ws : List (Key × V)} (r : RepK K F kvs ws) : kvs.length = ws.length := by
  match r with
  | .nil => rfl
  | .cons h t => simp [RepK.length t]
theorem RepK.keys {kvs : List (Key × D)} {ws : List (Key × V)} (r : RepK K F kvs ws) : kvs.map (·.1) = ws.map (·.1) := by
  match r with
  | .nil => rfl
  | .cons h t => simp [RepK.keys t]
theorem RepK.append {kvs ks : List (Key × D)} {ws us : List (Key × V)} (r : RepK K F kvs ws) (t : RepK K F ks us) : RepK K F (kvs ++ ks) (ws ++ us) := by
  match r with
  | .nil => exact t
  | .cons h r => exact .cons h (RepK.append r t)
theorem putK_cons {k' k : Key} {e v : V} {r : List (Key × V)} (nd : (((k', e) :: r).map (·.1)).Nodup) : putK ((k', e) :: r) k v = if k' = k then (k', v) :: r else (k', e) :: putK r k v := by
  by_cases h : k' = k
  · subst h
    rw [if_pos rfl]
    unfold putK
    rw [if_pos (by simp)]
    rw [List.map_cons, if_pos rfl]
    congr 1
    have nk : k' ∉ r.map (·.1) := (List.nodup_cons.mp nd).1
    have : ∀ x ∈ r, (if x.1 = k' then (x.1, v) else x) = x := fun x hx => if_neg fun (e : x.1 = k') => nk (by rw [← e]; exact List.mem_map_of_mem hx)
    rw [List.map_congr_left this, List.map_id']
  · rw [if_neg h]
    unfold putK
    have e1 : (((k', e) :: r).any fun kv => decide (kv.1 = k)) = (r.any fun kv => decide (kv.1 = k)) := by simp [h]
    rw [e1]
    split
    · rw [List.map_cons, if_neg h]
    · rfl
theorem RepK.put {kvs : List (Key × D)} {ws : List (Key × V)} (r : RepK K F kvs ws) {k : Key} {d : D} {v : V} (rd : Rep K F d v) (nd : (ws.map (·.1)).Nodup) : RepK K F (putD kvs k d) (putK ws k v) := by
  match r with
  | .nil => exact .cons rd .nil
  | .cons (k := k') (v := v') (d := d') h t =>
    rw [putK_cons nd]
    show RepK K F (if k' = k then _ else _) _
    by_cases e : k' = k
    · rw [if_pos e, if_pos e]; exact .cons rd t
    · rw [if_neg e, if_neg e]; exact .cons h (RepK.put t rd (List.nodup_cons.mp nd).2)
theorem RepK.drop {kvs : List (Key × D)} {ws : List (Key × V)} (r : RepK K F kvs ws) (k : Key) : RepK K F (dropD kvs k) (dropK ws k) := by
  match r with
  | .nil => exact .nil
  | .cons (k := k') (d := d) (v := v) h t =>
    unfold dropK
    show RepK K F (if k' = k then _ else _) _
    by_cases e : k' = k
    · rw [if_pos e, List.filter_cons_of_neg (by simp [e])]
      exact RepK.drop t k
    · rw [if_neg e, List.filter_cons_of_pos (by simp [e])]
      exact .cons h (RepK.drop t k)
theorem dget_rd {H : Hp} {a : Addr} {kvs : List (Key × V)} {k : Key} (e : Rd H a (.dK kvs)) : DGet H a (kV k) (valV kvs k) := .inl ⟨kvs, k, e, rfl, rfl⟩
/-- k in d, k not in d: what stands in the way of the key is quiet -/
theorem ev_din {ty td : TE} {Φ : D → Env → Prop} (h : ev K q ty ρ fun kd ρ1 => evb K q td ρ1 fun d ρ2 => ∃ k kvs, kd = keyD k ∧ d = .dct kvs ∧ Φ (.bl (lookD kvs k).isSome) ρ2) : ev K q (tDIn ty td) ρ Φ := fun σ F H Q ok c => by
  refine h σ F H _ ok fun d v F1 H1 ρ1 ok1 r1 s1 q1 k1 => ?_
  refine k1 σ F1 H1 _ ok1 fun e w F2 H2 ρ2 ok2 b2 s2 q2 ⟨k, kvs, ek, ed, kk⟩ => ?_
  subst ek ed
  obtain ⟨a, ws, rfl, h3, h4⟩ := brep_dct ok2 b2
  rw [keyD_rep r1]
  refine ⟨a, _, rfl, dget_rd h3, ?_⟩
  have : (valV ws k).isSome = (lookD kvs k).isSome := by
    rcases h4.val k with ⟨x, y⟩ | ⟨_, _, x, y, _⟩ <;> rw [x, y] <;> rfl
  rw [this]
  exact c _ _ _ _ _ ok2 (.bl _) (s1.trans s2) (q1.trans q2) kk
theorem ev_dnotin {ty td : TE} {Φ : D → Env → Prop} (h : ev K q ty ρ fun kd ρ1 => evb K q td ρ1 fun d ρ2 => ∃ k kvs, kd = keyD k ∧ d = .dct kvs ∧ Φ (.bl (!(lookD kvs k).isSome)) ρ2) : ev K q (tDNotIn ty td) ρ Φ := fun σ F H Q ok c => by
  refine h σ F H _ ok fun d v F1 H1 ρ1 ok1 r1 s1 q1 k1 => ?_
  refine k1 σ F1 H1 _ ok1 fun e w F2 H2 ρ2 ok2 b2 s2 q2 ⟨k, kvs, ek, ed, kk⟩ => ?_
  subst ek ed
  obtain ⟨a, ws, rfl, h3, h4⟩ := brep_dct ok2 b2
  rw [keyD_rep r1]
  refine ⟨a, _, rfl, dget_rd h3, ?_⟩
  have : (valV ws k).isSome = (lookD kvs k).isSome := by
    rcases h4.val k with ⟨x, y⟩ | ⟨_, _, x, y, _⟩ <;> rw [x, y] <;> rfl
  rw [this]
  exact c _ _ _ _ _ ok2 (.bl _) (s1.trans s2) (q1.trans q2) kk
/-- d[k], the key quiet -/
theorem ev_dget {td ty : TE} {Φ : D → Env → Prop} (h : evb K q td ρ fun d ρ1 => ev K true ty ρ1 fun kd ρ2 => ∃ k kvs e, kd = keyD k ∧ d = .dct kvs ∧ lookD kvs k = some e ∧ Φ e ρ1) : ev K q (tDGet td ty) ρ Φ := fun σ F H Q ok c => by
  refine h σ F H _ ok fun d v F1 H1 ρ1 ok1 b1 s1 q1 k1 => ?_
  refine k1 σ F1 H1 _ ok1 fun e w F2 H2 ρ2 ok2 r2 s2 q2 ⟨k, kvs, e', ek, ed, hv, kk⟩ => ?_
  obtain ⟨rfl, rfl, rfl⟩ := q2 rfl
  subst ek ed
  obtain ⟨a, ws, rfl, h3, h4⟩ := brep_dct ok1 b1
  rw [keyD_rep r2]
  rcases h4.val k with ⟨x, y⟩ | ⟨d, u, x, y, r⟩
  · rw [y] at hv; cases hv
  · rw [x] at hv; cases hv
    exact ⟨a, u, rfl, by have := dget_rd (k := k) h3; rw [y] at this; exact this, c _ _ _ _ _ ok1 r s1 q1 kk⟩
/-- d.get(k, x), the key and the default quiet -/
theorem ev_dget2 {td ty tx : TE} {Φ : D → Env → Prop} (h : evb K q td ρ fun d ρ1 => ∃ kvs, d = .dct kvs ∧ ev K true ty ρ1 fun kd ρ2 => ev K true tx ρ1 fun x ρ3 => ∃ k, kd = keyD k ∧ Φ ((lookD kvs k).getD x) ρ1) : ev K q (tDGet2 td ty tx) ρ Φ := fun σ F H Q ok c => by
  refine h σ F H _ ok fun d v F1 H1 ρ1 ok1 b1 s1 q1 ⟨kvs, ed, k1⟩ => ?_
  subst ed
  obtain ⟨a, ws, rfl, h3, h4⟩ := brep_dct ok1 b1
  refine ⟨a, rfl, .inl ⟨ws, h3⟩, ?_⟩
  refine k1 σ F1 H1 _ ok1 fun kd w F2 H2 ρ2 ok2 r2 s2 q2 k2 => ?_
  obtain ⟨rfl, rfl, rfl⟩ := q2 rfl
  refine k2 σ _ _ _ ok1 fun x w2 F3 H3 ρ3 ok3 r3 s3 q3 ⟨k, ek, kk⟩ => ?_
  obtain ⟨rfl, rfl, rfl⟩ := q3 rfl
  subst ek
  rw [keyD_rep r2]
  refine ⟨_, dget_rd h3, ?_⟩
  rcases h4.val k with ⟨x1, y1⟩ | ⟨d, u, x1, y1, r⟩
  · rw [x1]
    rw [y1] at kk
    exact c _ _ _ _ _ ok1 r3 s1 q1 kk
  · rw [y1]
    rw [x1] at kk
    exact c _ _ _ _ _ ok1 r s1 q1 kk
/-! ### isinstance -/
def D.tyn : D → Option String
  | .non => some "NoneType"
  | .bl _ => some "bool"
  | .int _ => some "int"
  | .str _ => some "str"
  | .lst _ => some "list"
  | .tup _ => some "tuple"
  | _ => none
theorem D.tyn_of {d : D} {v : V} {t : String} (h : d.tyn = some t) (r : Rep K H d v) : TyX K H v (.type t) := by
  cases r <;> simp only [D.tyn, Option.some.injEq, reduceCtorEq] at h <;> subst h
  · exact .base .non
  · exact .base (.bl _)
  · exact .base (.int _)
  · exact .base (.str _)
  · rename_i h1 _; exact .base (.lst h1)
  · rename_i h1 _; exact .base (.tup h1)
theorem ev_isi {te : TE} {n : String} {Φ : D → Env → Prop} (h : evb K q te ρ fun d ρ1 => ∃ t b, d.tyn = some t ∧ kitB t n = some b ∧ Φ (.bl b) ρ1) : ev K q (tCB (rIsi K) (tCons te (tCons (tC (.ty n)) tNil))) ρ Φ := fun σ F H Q ok c => by
  refine h σ F H _ ok fun d v F1 H1 ρ1 ok1 b1 s1 q1 ⟨t, b, ht, hb, k⟩ => ?_
  exact ⟨v, .ty n, .type t, .type n, b, rfl, .ty n, D.tyn_of ht (b1.rep ok1), kit_ty hb, c _ _ F1 H1 ρ1 ok1 (.bl b) s1 q1 k⟩
/-! ### fields, methods -/
theorem RepF.look {fs : List (Str × D)} {ws : List (Str × V)} (r : RepF K F fs ws) (f : Str) : (fs.lookup f = none ∧ ws.lookup f = none) ∨ ∃ d v, fs.lookup f = some d ∧ ws.lookup f = some v ∧ Rep K F d v := by
  match r with
  | .nil => exact .inl ⟨rfl, rfl⟩
  | .cons (k := k') h t =>
    rw [List.lookup_cons, List.lookup_cons]
    cases f == k' with
    | true => exact .inr ⟨_, _, rfl, rfl, h⟩
    | false => exact RepF.look t f
theorem ev_fld {ta : TE} {f : Str} {Φ : D → Env → Prop} (h : ev K q ta ρ fun d ρ1 => ∃ C fs e, d = .ins C fs ∧ Cls K C ∧ NoAttr K C f ∧ fs.lookup f = some e ∧ Φ e ρ1) : ev K q (tFld K ta f) ρ Φ := fun σ F H Q ok c => by
  refine h σ F H _ ok fun d v F1 H1 ρ1 ok1 r1 s1 q1 ⟨C, fs, e, ed, hc, hn, hl, k⟩ => ?_
  subst ed
  cases r1 with
  | ins h1 h2 =>
    rcases h2.look f with ⟨x, _⟩ | ⟨d, v, x, y, r⟩
    · rw [x] at hl; cases hl
    · rw [x] at hl; cases hl
      exact ⟨_, C, _, _, v, rfl, ok1.sub _ _ h1, hc, hn, y, c _ _ F1 H1 ρ1 ok1 r s1 q1 k⟩
end
end Fw

set_option Elab.async false
set_option linter.all false
set_option maxRecDepth 100000
/-! Room in which nothing is being shown (no guard stands), and defs that are called there alone. -/
namespace L2
open PySem PySem.Spec PyProof.Rows
structure Rg (k : Nat) (A : Around) : Prop extends Room k A where
  gd : A.guards = some []
section
variable {j k : Nat} {A : Around}
theorem Rg.mono (r : Rg k A) (h : j ≤ k) : Rg j A := ⟨r.toRoom.mono h, r.gd⟩
theorem Rg.deeper (r : Rg (k + 1) A) (env : Env) : Rg k (A.deeper env) := ⟨r.toRoom.deeper env, r.gd⟩
theorem Rg.in1 (r : Rg (k + 1) A) : Rg k A.in1 := ⟨r.toRoom.in1, r.gd⟩
theorem make_guards {C : Addr} {us : List Value} {kw : List (Str × Value)} : (A.under (.builtin "type.__call__" ⟨.ref C :: us, kw⟩)).guards = A.guards := by
  first | rfl | simp [Around.under, Code.weight, Code.isCreation, Code.isGuard, Code.isCaller, Code.frames, Code.isFrame, guardIds]
theorem Rg.make (r : Rg (k + 1) A) (C : Addr) (us : List Value) (kw : List (Str × Value)) : Rg k (A.under (.builtin "type.__call__" ⟨.ref C :: us, kw⟩)) := ⟨r.toRoom.make C us kw, make_guards.trans r.gd⟩
theorem Rg.depth (r : Rg k A) : A.depth < recursionLimit := r.toRoom.depth
theorem Rg.units (r : Rg k A) : A.units + 64 < cLine := r.toRoom.units
theorem Rg.units0 (r : Rg k A) : A.units < cLine := r.toRoom.units0
end
/-- what a def promises where nothing is being shown -/
structure FnG (P : Program) (w : World) (K : PySem.W.Frag) (mg : Str → Option Value) (base : Heap) (CX : CXT) (k : Nat) (f : Addr) (fd : FuncData) (ps : List Str) (sp : Sp) : Prop where
  len : ∀ vs H Q E, sp vs H Q E → vs.length = ps.length
  run : ∀ (A : Around) (outer : List Env) (s : Shared) (H : Hp) (args : Args) (us : List Value) (vs : List V) (Q : VK) (E : XK), Rg k A → Env0 P w K mg base A outer s H → BindsTo s fd args (ps.zip us) → Vals vs us → sp vs H Q E → codeAny (model P w) A (.call (.ref f) args) (CR CX outer P w H s Q E) s
section
variable {P : Program} {w : World} {K : PySem.W.Frag} {mg : Str → Option Value} {base : Heap} {CX : CXT} {j k : Nat} {f : Addr} {fd : FuncData} {ps : List Str} {sp sp' : Sp}
theorem FnG.mono (F : FnG P w K mg base CX j f fd ps sp) (h : j ≤ k) : FnG P w K mg base CX k f fd ps sp := ⟨F.len, fun A outer s H args us vs Q E hr => F.run A outer s H args us vs Q E (hr.mono h)⟩
theorem FnG.imp (F : FnG P w K mg base CX k f fd ps sp) (h : ∀ vs H Q E, sp' vs H Q E → sp vs H Q E) : FnG P w K mg base CX k f fd ps sp' :=
  ⟨fun vs H Q E q => F.len vs H Q E (h _ _ _ _ q), fun A outer s H args us vs Q E hr he hb hv hs => F.run A outer s H args us vs Q E hr he hb hv (h _ _ _ _ hs)⟩
end
section
variable {P : Program} {w : World} {K : PySem.W.Frag} {mg : Str → Option Value} {base : Heap} {x qual : Str} {params : Arguments} {body : List Stmt} {scope : Scope} {dvs : List V} {kws : List (Str × V)} {f : Addr} {fd : FuncData}
/-- a def's body keeps its promise there -/
theorem FunD.okG {CX : CXT} {N ps : List Str} {k : Nat} {sp : Sp} (F : FunD K x qual params body scope dvs kws f fd) (S : FnScope N ps scope) (len : ∀ vs H Q E, sp vs H Q E → vs.length = ps.length)
    (hbody : ∀ (cdv : Value) (A : Around) (outer : List Env) (s : Shared) (H : Hp) (vs : List V) (Q : VK) (E : XK), Rg k (A.deeper (envOfC qual scope s.heap.objs.size f cdv)) → sp vs H Q E →
      ∃ t, PSs (cxOf CX P w K mg base N qual scope f cdv A outer s H E) body t ∧ t { nx := fun _ H' => Q .non H', rt := Q } (start N vs) H) : FnG P w K mg base CX (k + 1) f fd ps sp := by
  obtain ⟨oc, od, dV, kV, doc, pm, an, cdv, ct, osl, rfl, lk, hcd, _, _⟩ := F.ex
  exact ⟨len, fun A outer s H args us vs Q E hr e0 hb r hsp => LamX.run_ofS lk hcd S hr.toRoom e0 hb r (len _ _ _ _ hsp) fun h => hbody cdv A outer s H vs Q E ⟨h, hr.gd⟩ hsp⟩
end
section
variable {X : Cx} {CX : CXT} {k n : Nat} {f C : Addr} {fd : FuncData} {ps ks : List Str} {sp : Sp} {dvs : List V} {ds : List Value} {E : XK} {ES : St → XK} {x m : Str} {p pos apos : Pos} {e o : Expr} {es : List Expr} {kws : List Keyword} {ta : TE} {t tk : TA}
  {g : List Value → List Value → List Value} {gV : List V → List V → List V} {pins : List (Addr × Obj)} {σ : St} {H : Hp} {s : Shared} {Q : VK} {us ws : List Value} {vs zs : List V}
/-- the callee runs, however its parameters are bound -/
theorem goes (F : FnG X.prog X.w X.K X.mg X.base CX k f fd ps sp) (hr : Rg k X.A) (hx : PassesAt CX X σ E) (I : Inv X pins σ H s) {kw : List (Str × Value)} (hb : BindsTo s fd ⟨us, kw⟩ (ps.zip ws)) (r : Vals vs ws) (h : sp vs H Q E) :
    wpAny (model X.prog X.w) X.A (call (.ref f) us kw) (EP X pins σ Q) X.xe s := by
  have run := F.run X.A X.stack s H ⟨us, kw⟩ ws vs Q E hr I.env0 hb r h
  refine wpAny_call (codeAny_mono run ?_)
  rintro (⟨v⟩ | _ | _ | _ | e) s' q
  all_goals first
    | exact I.after q
    | exact hx pins H s _ s' I q
    | exact False.elim q
theorem goesD (F : FnG X.prog X.w X.K X.mg X.base CX k f fd ps sp) (hr : Rg k X.A) (hb : Binds X.K fd ps ds) (hd : Vals dvs ds) (hx : PassesAt CX X σ E) (I : Inv X pins σ H s) (r : Vals vs us) (h : sp (vs ++ dvs) H Q E) :
    wpAny (model X.prog X.w) X.A (call (.ref f) us) (EP X pins σ Q) X.xe s :=
  goes F hr hx I (hb s us I.kIn ((r.append hd).length.symm.trans (F.len _ _ _ _ h))) (r.append hd) h
theorem pg_callS (F : FnG X.prog X.w X.K X.mg X.base CX k f fd ps sp) (hr : Rg k X.A) (hg : Gl X x) (hm : X.mg x = some (.ref f)) (hk : PySem.W.keepIn X.K (.ref f) = true) (hb : Binds X.K fd ps ds) (hd : Vals dvs ds) (hx : ∀ σ, PassesAt CX X σ (ES σ))
    (ha : PA X (e :: es) t) (hdb : (x == ("__debug__" : Str)) = false := by decide) (he : starEach (e :: es) X.env = (false, eval e X.env) :: starEach es X.env := by rfl)
    (hpl : (backTo pos (starEach es X.env)).any (·.1) = false := by rfl) : PE X (.Call (.Name x p) (e :: es) [] pos) (tCallSD sp dvs ES t) :=
  ⟨fun pins s σ H Q I h => wpAny_Call_Name_kw (ld_glob I hg hm (PySem.W.callWith_K (h₀ := X.base) I.ok.mod.kin hk (thn (ha.run pos pins s σ H _ I h) fun us s1 ⟨vs, H1, I1, r, q⟩ => ⟨I1.kIn, goesD F hr hb hd (hx σ) I1 r q⟩) he hpl) hdb)⟩
theorem Passes.at (h : Passes CX X E) (σ : St) : PassesAt CX X σ E := fun pins H s e s' => h pins σ H s e s'
theorem pg_call (F : FnG X.prog X.w X.K X.mg X.base CX k f fd ps sp) (hr : Rg k X.A) (hg : Gl X x) (hm : X.mg x = some (.ref f)) (hk : PySem.W.keepIn X.K (.ref f) = true) (hb : Binds X.K fd ps ds) (hd : Vals dvs ds) (hx : Passes CX X E)
    (ha : PA X (e :: es) t) (hdb : (x == ("__debug__" : Str)) = false := by decide) (he : starEach (e :: es) X.env = (false, eval e X.env) :: starEach es X.env := by rfl)
    (hpl : (backTo pos (starEach es X.env)).any (·.1) = false := by rfl) : PE X (.Call (.Name x p) (e :: es) [] pos) (tCall sp dvs E t) :=
  pg_callS (ES := fun _ => E) F hr hg hm hk hb hd (fun σ => hx.at σ) ha hdb he hpl
theorem goesN (F : FnG X.prog X.w X.K X.mg X.base CX k f fd ps sp) (hr : Rg k X.A) (hb : KBn X.K fd ps n ks g gV) (hx : PassesAt CX X σ E) (I : Inv X pins σ H s) (r : Vals vs us) (rz : Vals zs ws) (l1 : vs.length = n) (l2 : zs.length = ks.length) (h : sp (gV vs zs) H Q E) :
    wpAny (model X.prog X.w) X.A (call (.ref f) us (ks.zip ws)) (EP X pins σ Q) X.xe s :=
  goes F hr hx I (hb.to s us ws I.kIn (r.length.symm.trans l1) (rz.length.symm.trans l2)) (hb.rel r rz) h
/-- C(..): the new instance and its dict, then __init__ -/
theorem goes_mk (M : Mk X.K C f) (F : FnG X.prog X.w X.K X.mg X.base CX k f fd ps sp) (hr : Rg (k + 1) X.A) (hx : PassesAt CX X σ E) (I : Inv X pins σ H s) {kw : List (Str × Value)} {vs : List V} {ws : List Value}
    (hb : ∀ s1 : Shared, X.K.In s1.heap → BindsTo s1 fd ⟨.ref (s.heap.objs.size + 1) :: us, kw⟩ (ps.zip ws)) (r : Vals vs ws)
    (h : sp vs (upd (upd H s.heap.objs.size (.own (s.heap.objs.size + 1))) (s.heap.objs.size + 1) (.ins C s.heap.objs.size [])) (fun v H2 => v = .non ∧ Q (.ref (s.heap.objs.size + 1)) H2) E) :
    wpAny (model X.prog X.w) X.A (call (.ref C) us kw) (EP X pins σ Q) X.xe s := by
  have J := Inv.made (C := C) I
  have run := F.run _ X.stack _ _ ⟨.ref (s.heap.objs.size + 1) :: us, kw⟩ ws vs _ E (hr.make C us kw) (J.env0.make C us kw) (hb _ J.kIn) r h
  refine wpAny_call (make_map (f := f) I.kIn M.makes M.init (beq_iff_eq.mp M.fn) (codeAny_mono run ?_))
  rintro (e | _ | _ | _ | u) s' q
  all_goals first
    | exact hx pins _ _ _ s' J q
    | exact False.elim q
    | (obtain ⟨z, G, J2, rz, ez, q2⟩ := J.after q; subst ez; exact ⟨rz, V.ref (s.heap.objs.size + 1), G, J2, rfl, q2⟩)
theorem new2 (I : Inv X pins σ H s) : H (s.heap.objs.size + 1) = none ∧ H s.heap.objs.size = none ∧ s.heap.objs.size ≠ s.heap.objs.size + 1 := ⟨I.hok.fresh (Nat.le_succ _), I.hok.fresh (Nat.le_refl _), Nat.ne_of_lt (Nat.lt_succ_self _)⟩
theorem goes_mkD (M : Mk X.K C f) (F : FnG X.prog X.w X.K X.mg X.base CX k f fd ps sp) (hr : Rg (k + 1) X.A) (hb : Binds X.K fd ps ds) (hd : Vals dvs ds) (hx : PassesAt CX X σ E) (I : Inv X pins σ H s) (r : Vals vs us)
    (h : ∀ x dx, H x = none → H dx = none → dx ≠ x → sp (.ref x :: (vs ++ dvs)) (upd (upd H dx (.own x)) x (.ins C dx [])) (fun v H2 => v = .non ∧ Q (.ref x) H2) E) : wpAny (model X.prog X.w) X.A (call (.ref C) us) (EP X pins σ Q) X.xe s := by
  obtain ⟨n1, n2, n3⟩ := new2 I
  have q := h _ _ n1 n2 n3
  have r2 : Vals (.ref (s.heap.objs.size + 1) :: (vs ++ dvs)) (.ref (s.heap.objs.size + 1) :: us ++ ds) := .cons rfl (r.append hd)
  exact goes_mk M F hr hx I (fun s1 X1 => hb s1 _ X1 (r2.length.symm.trans (F.len _ _ _ _ q))) r2 q
theorem goes_mkN (M : Mk X.K C f) (F : FnG X.prog X.w X.K X.mg X.base CX k f fd ps sp) (hr : Rg (k + 1) X.A) (hb : KBn X.K fd ps (n + 1) ks g gV) (hx : PassesAt CX X σ E) (I : Inv X pins σ H s) (r : Vals vs us) (rz : Vals zs ws) (l1 : vs.length = n) (l2 : zs.length = ks.length)
    (h : ∀ x dx, H x = none → H dx = none → dx ≠ x → sp (gV (.ref x :: vs) zs) (upd (upd H dx (.own x)) x (.ins C dx [])) (fun v H2 => v = .non ∧ Q (.ref x) H2) E) : wpAny (model X.prog X.w) X.A (call (.ref C) us (ks.zip ws)) (EP X pins σ Q) X.xe s := by
  obtain ⟨n1, n2, n3⟩ := new2 I
  have r1 : Vals (V.ref (s.heap.objs.size + 1) :: vs) (.ref (s.heap.objs.size + 1) :: us) := .cons rfl r
  exact goes_mk M F hr hx I (fun s1 X1 => hb.to s1 _ ws X1 (r1.length.symm.trans (congrArg (· + 1) l1)) (rz.length.symm.trans l2)) (hb.rel r1 rz) (h _ _ n1 n2 n3)
def tCallNS (n m : Nat) (sp : Sp) (gV : List V → List V → List V) (E : St → XK) (t tk : TA) : TE := fun σ H Q => tCallN n m sp gV (E σ) t tk σ H Q
def tMakeKS (C : Addr) (n m : Nat) (sp : Sp) (gV : List V → List V → List V) (E : St → XK) (t tk : TA) : TE := fun σ H Q => tMakeK C n m sp gV (E σ) t tk σ H Q
def tMakeS (C : Addr) (sp : Sp) (dvs : List V) (E : St → XK) (t : TA) : TE := fun σ H Q => tMake C sp dvs (E σ) t σ H Q
theorem pg_makeK0 (M : Mk X.K C f) (F : FnG X.prog X.w X.K X.mg X.base CX k f fd ps sp) (hr : Rg (k + 1) X.A) (hg : Gl X x) (hm : X.mg x = some (.ref C)) (hb : KBn X.K fd ps 1 ks g gV) (hx : Passes CX X E) (hkw : PK X kws tk)
    (hall : (backToKw pos (keywordEach kws X.env)).all (·.1.isSome) = true := by rfl) (hks : (backToKw pos (keywordEach kws X.env)).filterMap (·.1) = ks := by rfl)
    (hdb : (x == ("__debug__" : Str)) = false := by decide) (hpl : ((backTo pos (starEach [] X.env)).any (·.1) || (backToKw pos (keywordEach kws X.env)).any (·.1.isNone)) = false := by rfl) :
    PE X (.Call (.Name x p) [] kws pos) (tMakeK C 0 ks.length sp gV E tNil tk) :=
  ⟨fun pins s σ H Q I h => wpAny_Call_Name_kw (ld_glob I hg hm (PySem.W.callWith_KW0 (h₀ := X.base) I.ok.mod.kin M.kp hall (thn (hkw.run pos pins s σ H _ I h) fun ws s2 ⟨zs, H2, I2, rz, l1, l2, q2⟩ =>
    ⟨I2.kIn, by rw [hks]; exact goes_mkN (us := []) (vs := []) M F hr hb (hx.at σ) I2 .nil rz rfl l2 q2⟩) hpl) hdb)⟩
theorem pg_makeS (M : Mk X.K C f) (F : FnG X.prog X.w X.K X.mg X.base CX k f fd ps sp) (hr : Rg (k + 1) X.A) (hg : Gl X x) (hm : X.mg x = some (.ref C)) (hb : Binds X.K fd ps ds) (hd : Vals dvs ds) (hx : ∀ σ, PassesAt CX X σ (ES σ))
    (ha : PA X (e :: es) t) (hdb : (x == ("__debug__" : Str)) = false := by decide) (he : starEach (e :: es) X.env = (false, eval e X.env) :: starEach es X.env := by rfl)
    (hpl : (backTo pos (starEach es X.env)).any (·.1) = false := by rfl) : PE X (.Call (.Name x p) (e :: es) [] pos) (tMakeS C sp dvs ES t) :=
  ⟨fun pins s σ H Q I h => wpAny_Call_Name_kw (ld_glob I hg hm (PySem.W.callWith_K (h₀ := X.base) I.ok.mod.kin M.kp (thn (ha.run pos pins s σ H _ I h) fun us s1 ⟨vs, H1, I1, r, q⟩ => ⟨I1.kIn, goes_mkD M F hr hb hd (hx σ) I1 r q⟩) he hpl) hdb)⟩
theorem pg_make (M : Mk X.K C f) (F : FnG X.prog X.w X.K X.mg X.base CX k f fd ps sp) (hr : Rg (k + 1) X.A) (hg : Gl X x) (hm : X.mg x = some (.ref C)) (hb : Binds X.K fd ps ds) (hd : Vals dvs ds) (hx : Passes CX X E)
    (ha : PA X (e :: es) t) (hdb : (x == ("__debug__" : Str)) = false := by decide) (he : starEach (e :: es) X.env = (false, eval e X.env) :: starEach es X.env := by rfl)
    (hpl : (backTo pos (starEach es X.env)).any (·.1) = false := by rfl) : PE X (.Call (.Name x p) (e :: es) [] pos) (tMake C sp dvs E t) := pg_makeS (ES := fun _ => E) M F hr hg hm hb hd (fun σ => hx.at σ) ha hdb he hpl
/-- o.m(e, ..), o.m() -/
theorem pg_meth {pl : Sem Bool} (he : PE X o ta) (c : Cls X.K C) (hm : Meth X.K C m f) (F : FnG X.prog X.w X.K X.mg X.base CX k f fd ps sp) (hr : Rg k X.A) (hb : Binds X.K fd ps ds) (hd : Vals dvs ds) (hx : Passes CX X E) (ha : PA X (e :: es) t)
    (hst : starEach (e :: es) X.env = (false, eval e X.env) :: starEach es X.env := by rfl) (hpl : (backTo pos (starEach es X.env)).any (·.1) = false := by rfl)
    (ht : eval (.Call (.Attribute o m apos) (e :: es) [] pos) X.env = (do
      let ov ← eval o X.env
      standAt apos.atName
      let (h, self) ← holding [ov] (getMethod ov m pl)
      callWith pos h self (backTo pos (starEach (e :: es) X.env)) (backToKw pos (keywordEach [] X.env))) := by rfl) : PE X (.Call (.Attribute o m apos) (e :: es) [] pos) (tMeth C m sp dvs E ta t) := by
  constructor
  intro pins s σ H Q I h
  refine PySem.W.methodCall_KW (pl := pl) (thn (he.run pins s σ H _ I h) ?_) ht
  rintro u s1 ⟨y, H1, I1, rx, a, dx, fs, rfl, ea, l, q⟩
  cases (show u = Value.ref a from rx)
  exact getmeth_ok I1 ea c hm l (PySem.W.callWith_K (first := [.ref a]) (h₀ := X.base) I.ok.mod.kin hm.kp (thn (ha.run pos pins s1 σ H1 _ I1 q) fun us s2 ⟨vs, H2, I2, r, q2⟩ => ⟨I2.kIn, goesD (us := .ref a :: us) (vs := .ref a :: vs) F hr hb hd (hx.at σ) I2 (.cons rfl r) q2⟩) hst hpl)
theorem pg_meth0 {pl : Sem Bool} (he : PE X o ta) (c : Cls X.K C) (hm : Meth X.K C m f) (F : FnG X.prog X.w X.K X.mg X.base CX k f fd ps sp) (hr : Rg k X.A) (hb : Binds X.K fd ps ds) (hd : Vals dvs ds) (hx : Passes CX X E)
    (ht : eval (.Call (.Attribute o m apos) [] [] pos) X.env = (do
      let ov ← eval o X.env
      standAt apos.atName
      let (h, self) ← holding [ov] (getMethod ov m pl)
      callWith pos h self (backTo pos (starEach [] X.env)) (backToKw pos (keywordEach [] X.env))) := by rfl) : PE X (.Call (.Attribute o m apos) [] [] pos) (tMeth C m sp dvs E ta tNil) := by
  constructor
  intro pins s σ H Q I h
  refine PySem.W.methodCall_KW (pl := pl) (thn (he.run pins s σ H _ I h) ?_) ht
  rintro u s1 ⟨y, H1, I1, rx, a, dx, fs, rfl, ea, l, q⟩
  cases (show u = Value.ref a from rx)
  exact getmeth_ok I1 ea c hm l (PySem.W.callWith_K0 (first := [.ref a]) I1.kIn hm.kp (goesD (us := [.ref a]) (vs := [.ref a]) F hr hb hd (hx.at σ) I1 (.cons rfl .nil) q))
end
end L2

set_option Elab.async false
set_option linter.all false
set_option maxRecDepth 100000
/-! What is shown: repr(x), {x!r}, x of any kind. -/
namespace L2
open PySem PySem.Spec PyProof.Rows
/-- K holds the dict of the modules, so that it is met by no list -/
def SysD (K : PySem.W.Frag) : Prop := ∃ (o : Obj) (es : Array DictEntry) (ep : Nat), K.lookup sysModules = some o ∧ o.data = .dict es ep
mutual
/-- data of any depth, the empty dict among it -/
inductive Dq (K : PySem.W.Frag) (H : Hp) : V → PyData → Prop
  | non : Dq K H .non .none
  | bl (b : Bool) : Dq K H (.bl b) (.bool b)
  | int (i : Int) : Dq K H (.int i) (.int i)
  | str (x : Str) : Dq K H (.str x) (.str x)
  | lst {a : Addr} {xs : List V} {ds : List PyData} : SqL K H a xs → DqAll K H xs ds → Dq K H (.ref a) (.list ds)
  | tup {a : Addr} {xs : List V} {ds : List PyData} : SqT K H a xs → DqAll K H xs ds → Dq K H (.ref a) (.tuple ds)
  | dct {a : Addr} : Rd H a (.dK []) → Dq K H (.ref a) (.dict [])
inductive DqAll (K : PySem.W.Frag) (H : Hp) : List V → List PyData → Prop
  | nil : DqAll K H [] []
  | cons {v : V} {vs : List V} {d : PyData} {ds : List PyData} : Dq K H v d → DqAll K H vs ds → DqAll K H (v :: vs) (d :: ds)
end
section
variable {X : Cx} {pins : List (Addr × Obj)} {σ : St} {H : Hp} {s : Shared} (I : Inv X pins σ H s) (S : SysD X.K)
include I S
mutual
theorem Dq.reads : ∀ {d : PyData} {v : V} {u : Value}, Dq X.K H v d → RelV v u → ∃ as, Reads s.heap u d as ∧ sysModules ∉ as
  | _, _, _, .non, r => by
    cases r
    exact ⟨_, .none, List.not_mem_nil⟩
  | _, _, _, .bl b, r => by
    cases r
    exact ⟨_, .bool b, List.not_mem_nil⟩
  | _, _, _, .int i, r => by
    obtain ⟨t, rfl⟩ := r
    exact ⟨_, .int i t, List.not_mem_nil⟩
  | _, _, _, .str x, r => by
    obtain ⟨t, rfl⟩ := r
    exact ⟨_, .str x t, List.not_mem_nil⟩
  | _, _, _, .lst hs ha, r => by
    cases r
    obtain ⟨its, rv, ⟨o, n, ho, hc, _, hd⟩, _⟩ := I.list hs
    obtain ⟨as, q, m⟩ := DqAll.reads ha rv
    refine ⟨_, .list ho hc hd q, fun z => ?_⟩
    rcases List.mem_cons.mp z with z | z
    · obtain ⟨o2, es, ep, e2, d2⟩ := S
      have e := I.kIn _ _ e2
      rw [z, ho] at e
      cases e
      rw [hd] at d2
      cases d2
    · exact m z
  | _, _, _, .tup hs ha, r => by
    cases r
    obtain ⟨its, rv, ⟨o, ho, hc, n, hd⟩, _⟩ := I.tuple hs
    obtain ⟨as, q, m⟩ := DqAll.reads ha rv
    exact ⟨_, .tuple ho hc hd q, m⟩
  | _, _, _, .dct e, r => by
    cases r
    obtain ⟨_, hsys, vs, kv, o, es, ep, ho, ⟨hc, _⟩, hd, _, hp, _⟩ := dk_rd I.hok e
    cases kv
    have en : es.toList = [] := by
      generalize es.toList = l at hp
      cases hp
      rfl
    refine ⟨_, Reads.dict (kvs := []) ho hc hd (by rw [en]; exact .nil) (by rw [en]; exact .nil), fun m => ?_⟩
    have e2 := List.mem_singleton.mp m
    rw [← e2] at hsys
    simp at hsys
theorem DqAll.reads : ∀ {ds : List PyData} {vs : List V} {us : List Value}, DqAll X.K H vs ds → Vals vs us → ∃ as, ReadsAll s.heap us ds as ∧ sysModules ∉ as
  | _, _, _, .nil, r => by
    cases r
    exact ⟨_, .nil, List.not_mem_nil⟩
  | _, _, _, .cons h1 h2, r => by
    cases r with
    | cons r1 r2 =>
      obtain ⟨as, q1, m1⟩ := Dq.reads h1 r1
      obtain ⟨bs, q2, m2⟩ := DqAll.reads h2 r2
      exact ⟨_, .cons q1 q2, fun z => (List.mem_append.mp z).elim m1 m2⟩
end
end
/-- v, that may be shown -/
structure Shw (K : PySem.W.Frag) (H : Hp) (v : V) (d : PyData) : Prop where
  at_ : Dq K H v d
  vis : d.showable = true
  deep : d.depth ≤ 60
section
variable {X : Cx} {pins : List (Addr × Obj)} {σ : St} {H : Hp} {s : Shared} {v : V} {u : Value} {d : PyData}
end
/-- {x!r} -/
def tFmtRG (K : PySem.W.Frag) (te : TE) : TE := fun σ H Q => te σ H fun x H1 => ∃ d, Shw K H1 x d ∧ d.shown.length ≤ sizeLine ∧ Q (.str d.shown) H1
/-- repr(x) -/
def rRepr (K : PySem.W.Frag) : List V → Hp → VK → Prop := fun xs H Q => ∃ x d, xs = [x] ∧ Shw K H x d ∧ d.shown.length ≤ sizeLine ∧ Q (.str d.shown) H
end L2

set_option Elab.async false
set_option linter.all false
set_option maxRecDepth 100000
namespace Fw
variable [TbC]
open PySem L2
/-! ### a def, as its callers see it -/
structure Cal (P : Program) (w : World) (K : PySem.W.Frag) (mg : Str → Option Value) (base : Heap) (k : Nat) (x : Str) (ps : List Str) (sp : Sp) : Prop where
  ok : ∃ fd, FnG P w K mg base (L2.CX P w) k (He.ga K x) fd ps sp ∧ Binds K fd ps []
  g : mg x = some (.ref (He.ga K x))
  kp : PySem.W.keepIn K (.ref (He.ga K x)) = true
section
variable {X : Cx} {k : Nat} {ps : List Str} {sp : Sp} {x : Str} {p pos : Pos} {e : Expr} {es : List Expr} {t : TA}
theorem pe_callC (c : Cal X.prog X.w X.K X.mg X.base k x ps sp) (hr : Rg k X.A) (hg : Gl X x) (ha : PA X (e :: es) t) (hdb : (x == ("__debug__" : Str)) = false := by decide)
    (he : starEach (e :: es) X.env = (false, eval e X.env) :: starEach es X.env := by rfl) (hpl : (backTo pos (starEach es X.env)).any (·.1) = false := by rfl) :
    PE X (.Call (.Name x p) (e :: es) [] pos) (tCall sp [] E0 t) := by
  obtain ⟨fd, F, b⟩ := c.ok
  exact pg_call F hr hg c.g c.kp b .nil passL ha hdb he hpl
/-- a module's whole number -/
theorem pe_globI {i : Int} (hg : Gl X x) (hm : ∃ t, X.mg x = some (.int i t)) (hd : (x == ("__debug__" : Str)) = false := by decide) : PE X (.Name x pos) (tC (.int i)) := by
  obtain ⟨t, hm⟩ := hm
  exact pe_glob hg hm ⟨t, rfl⟩ hd
/-- a built-in class as a value -/
theorem pe_ty {n : String} (hg : Gl X x) (hm : X.mg x = none) (hv : bootBuiltins x = some (.type n)) (hn : x ≠ "__name__" := by decide) (hd : (x == ("__debug__" : Str)) = false := by decide) : PE X (.Name x pos) (tC (.ty n)) :=
  pe_bltn hg hm hv rfl hn hd
end
/-! ### max, min, int of one or two -/
abbrev rMax2 : List V → Hp → VK → Prop := fun xs H Q => ∃ i j, xs = [.int i, .int j] ∧ Q (.int (if j > i then j else i)) H
abbrev rMin2 : List V → Hp → VK → Prop := fun xs H Q => ∃ i j, xs = [.int i, .int j] ∧ Q (.int (if j < i then j else i)) H
abbrev rInt1 : List V → Hp → VK → Prop := fun xs H Q => (∃ i, xs = [.int i] ∧ Q (.int i) H) ∨ ∃ k, xs = [.bl k] ∧ Q (.int (if k then 1 else 0)) H
section
variable {K : PySem.W.Frag} {q : Bool} {ρ : Env}
theorem ev_min2 {ta tb : TE} {Φ : D → Env → Prop} (h : evI K q ta ρ fun i ρ1 => evI K q tb ρ1 fun j ρ2 => Φ (.int (min i j)) ρ2) : ev K q (tCB rMin2 (tCons ta (tCons tb tNil))) ρ Φ := fun σ F H Q ok c => by
  refine h σ F H _ ok fun d v F1 H1 ρ1 ok1 r1 s1 q1 ⟨i, e, h1⟩ => ?_
  refine h1 σ F1 H1 _ ok1 fun d2 v2 F2 H2 ρ2 ok2 r2 s2 q2 ⟨j, e2, k⟩ => ?_
  subst e e2; cases r1; cases r2
  refine ⟨i, j, rfl, ?_⟩
  have : (if j < i then j else i) = min i j := by rw [Int.min_def]; split <;> split <;> omega
  rw [this]
  exact c _ _ _ _ _ ok2 (.int _) (s1.trans s2) (q1.trans q2) k
/-- int(b) -/
theorem ev_intB {ta : TE} {Φ : D → Env → Prop} (h : ev K q ta ρ fun d ρ1 => ∃ b, d = .bl b ∧ Φ (.int (if b then 1 else 0)) ρ1) : ev K q (tCB rInt1 (tCons ta tNil)) ρ Φ := fun σ F H Q ok c => by
  refine h σ F H _ ok fun d v F1 H1 ρ1 ok1 r1 s1 q1 ⟨b, e, k⟩ => ?_
  subst e; cases r1
  exact .inr ⟨b, rfl, c _ _ _ _ _ ok1 (.int _) s1 q1 k⟩
/-- the chain a < b < c, ints -/
theorem ev_chainI {g g' : Int → Int → Bool} {ta tb tc : TE} {Φ : D → Env → Prop}
    (h : evI K q ta ρ fun i ρ1 => evI K q tb ρ1 fun j ρ2 => (g i j = true → evI K q tc ρ2 fun k ρ3 => Φ (.bl (g' j k)) ρ3) ∧ (g i j = false → Φ (.bl false) ρ2)) :
    ev K q (tChain (rI0 fun i j => .bl (g i j)) (rI0 fun i j => .bl (g' i j)) ta tb tc) ρ Φ := fun σ F H Q ok c => by
  refine h σ F H _ ok fun d v F1 H1 ρ1 ok1 r1 s1 q1 ⟨i, e, h1⟩ => ?_
  refine h1 σ F1 H1 _ ok1 fun d2 v2 F2 H2 ρ2 ok2 r2 s2 q2 ⟨j, e2, k1, k2⟩ => ?_
  subst e e2; cases r1; cases r2
  refine ⟨i, j, rfl, rfl, g i j, rfl, ?_⟩
  cases hb : g i j with
  | true =>
    rw [if_pos rfl]
    refine k1 hb σ F2 H2 _ ok2 fun d3 v3 F3 H3 ρ3 ok3 r3 s3 q3 ⟨k, e3, kk⟩ => ?_
    subst e3; cases r3
    exact ⟨j, k, rfl, rfl, c _ _ _ _ _ ok3 (.bl _) ((s1.trans s2).trans s3) ((q1.trans q2).trans q3) kk⟩
  | false =>
    rw [if_neg Bool.false_ne_true]
    exact c _ _ _ _ _ ok2 (.bl false) (s1.trans s2) (q1.trans q2) (k2 hb)
end
end Fw
namespace Fw
variable [TbC]
open PySem L2
def fnE (ss : List Sl) (Φ : Sl → List Sl → Prop) : En where
  nx := fun ρ' => ∃ ss', Back ss ρ' ss' ∧ Φ (.v .non) ss'
  rt := fun s ρ' => ∃ ss', Back ss ρ' ss' ∧ Φ s ss'
theorem fn_pureB {K : PySem.W.Frag} {C : List Sl → (Sl → List Sl → Prop) → Prop} {N : List Str} {t : TS} (bl : List (Option Sl)) (h : ∀ ss Φ, C ss Φ → (ss.length ≤ N.length ∧ List.replicate (N.length - ss.length) none = bl) ∧ ex K t (ss.map some ++ bl) (fnE ss Φ))
    (vs : List V) (H : Hp) (Q : VK) (E : XK) (hs : spO K C vs H Q E) : t { nx := fun _ H' => Q .non H', rt := Q } (L2.start N vs) H :=
  fn_pure (fun ss Φ hc => ⟨(h ss Φ hc).1.1, by rw [(h ss Φ hc).1.2]; exact (h ss Φ hc).2⟩) vs H Q E hs
/-- the law's own call: the script is frozen data -/
theorem law_sp {K : PySem.W.Frag} {H : Hp} {a : Addr} {ns : List Int} {C : Ct} {E : XK} (tb : LamX.Tabs TbC.T H) (h63 : ns.length ≤ 63) (hS : SqL K H a (ns.map V.int)) (hC : ∀ ns : List Int, ns.length ≤ 63 → C [.v (.fls (ns.map D.int))] fun s _ => s = .v (.bl true)) :
    spOf K C [.ref a] H (fun v _ => v = .bl true) E := by
  have hF : SqL K (fun b => if b ∈ tA then none else H b) a (ns.map V.int) := by
    have nt : ∀ o, Pl o → H a = some o → (if a ∈ tA then none else H a) = some o := fun o p e => by rw [if_neg (p.nt tb e)]; exact e
    rcases hS with (h | ⟨o, h⟩) | h
    · exact .inl (.inl (nt _ pl_lst h))
    · exact .inl (.inr ⟨o, nt _ pl_frz h⟩)
    · exact .inr h
  refine .inl ⟨fun b => if b ∈ tA then none else H b, [.v (.fls (ns.map D.int))], _, ⟨fun b o e => ?_, rfl, fun i s e => ?_, List.nodup_nil, tb, fun p hp => if_pos (List.mem_map_of_mem hp)⟩, hC ns h63, fun s v F' H' ss' ok r n st f => ?_⟩
  · by_cases m : b ∈ tA
    · rw [if_pos m] at e; cases e
    · rw [if_neg m] at e; exact e
  · match i, e with
    | 0, e => cases e; exact ⟨_, rfl, Rep.fls hF (RepL.of_ints ns)⟩
    | i + 1, e => simp at e
  · subst f
    cases (show Rep K F' (.bl true) v from r)
    rfl
theorem eqv_int (i j : Int) : D.eqv (.int i) (.int j) = decide (i = j) := by
  show (i == j) = _
  exact Bool.beq_eq_decide_eq i j
theorem eqv_bl (i j : Bool) : D.eqv (.bl i) (.bl j) = decide (i = j) := by
  show (i == j) = _
  exact Bool.beq_eq_decide_eq i j
end Fw
namespace Fw
variable [TbC]
open PySem L2
/-- a def that lets nothing out -/
theorem calm_fn {P : Program} {w : World} {K : PySem.W.Frag} {mg : Str → Option Value} {base : Heap} {k : Nat} {f : Addr} {fd : FuncData} {ps : List Str} {sp : Sp} (F : FnG P w K mg base (L2.CX P w) k f fd ps sp) (h : ∀ vs H Q E, sp vs H Q E → sp vs H Q E0) : FnG P w K mg base CX0 k f fd ps sp :=
  ⟨F.len, fun A outer s H args us vs Q E hr he hb hv hs => codeAny_mono (F.run A outer s H args us vs Q E0 hr he hb hv (h _ _ _ _ hs)) fun r s' hq => by
    cases r with
    | ok fl => cases fl <;> exact hq
    | error e =>
      obtain ⟨_, _, _, _, _, _, _, _, _, _, _, _, z⟩ := hq
      exact z.elim⟩
end Fw

set_option linter.all false
/-! Plain answers: what a def gives, or an error, or nothing that is told. No program here. -/
namespace Fw
/-- values of any type -/
inductive Av where
  | non | bl (b : Bool) | int (i : Int) | str (s : String) | lst (xs : List Av) | tup (xs : List Av) | dct
  /-- the text that repr gives -/
  | txt (a : Av)
abbrev Pv := Av
inductive R (α : Type) where
  | ok (a : α)
  | err (c : String) (v : Pv)
  | bad
namespace R
def bind {α β : Type} : R α → (α → R β) → R β
  | .ok a, f => f a
  | .err c v, _ => .err c v
  | .bad, _ => .bad
@[simp] theorem bind_ok {α β : Type} (a : α) (f : α → R β) : (R.ok a).bind f = f a := rfl
@[simp] theorem bind_err {α β : Type} (c : String) (v : Pv) (f : α → R β) : (R.err c v).bind f = .err c v := rfl
@[simp] theorem bind_bad {α β : Type} (f : α → R β) : (R.bad : R α).bind f = .bad := rfl
theorem inv {α β : Type} {m : R α} {f : α → R β} {b : β} (h : m.bind f = .ok b) : ∃ a, m = .ok a ∧ f a = .ok b := by
  cases m with
  | ok a => exact ⟨a, rfl, h⟩
  | err c v => cases h
  | bad => cases h
end R
theorem R.ifT {α : Type} {c : Bool} {a b : R α} {r : α} (h : c = true) (k : (if c = true then a else b) = .ok r) : a = .ok r := by rw [if_pos h] at k; exact k
theorem R.ifF {α : Type} {c : Bool} {a b : R α} {r : α} (h : c = false) (k : (if c = true then a else b) = .ok r) : b = .ok r := by rw [if_neg (by simp [h])] at k; exact k
inductive Ctl (σ ρ : Type) where
  | nx (s : σ)
  | rt (r : ρ)
/-- for, with return -/
def forC {α σ ρ : Type} (body : σ → α → R (Ctl σ ρ)) : List α → σ → R (Ctl σ ρ)
  | [], s => .ok (.nx s)
  | x :: xs, s => (body s x).bind fun c => match c with | .nx s' => forC body xs s' | .rt r => .ok (.rt r)
/-- for -/
def forR {α σ : Type} (body : σ → α → R σ) : List α → σ → R σ
  | [], s => .ok s
  | x :: xs, s => (body s x).bind fun s' => forR body xs s'
def whileN {σ ρ : Type} (c : σ → R Bool) (b : σ → R (Ctl σ ρ)) : Nat → σ → R (Ctl σ ρ)
  | 0, _ => .bad
  | n + 1, s => (c s).bind fun t => if t = true then (b s).bind fun k => match k with | .nx s' => whileN c b n s' | .rt r => .ok (.rt r) else .ok (.nx s)
def whileNR {σ : Type} (c : σ → R Bool) (b : σ → R σ) : Nat → σ → R σ
  | 0, _ => .bad
  | n + 1, s => (c s).bind fun t => if t = true then (b s).bind fun s' => whileNR c b n s' else .ok s
@[irreducible] def fuel : Nat := 10 ^ 60
/-- while, with return -/
@[irreducible] def whileC {σ ρ : Type} (c : σ → R Bool) (b : σ → R (Ctl σ ρ)) (s : σ) : R (Ctl σ ρ) := whileN c b fuel s
/-- while -/
@[irreducible] def whileR {σ : Type} (c : σ → R Bool) (b : σ → R σ) (s : σ) : R σ := whileNR c b fuel s
/-- [.. for x in xs if ..], with a state -/
def compS {α β σ : Type} (body : σ → α → R (Option β × σ)) : List α → σ → R (List β × σ)
  | [], s => .ok ([], s)
  | x :: xs, s => (body s x).bind fun p => (compS body xs p.2).bind fun q => .ok (match p.1 with | some y => (y :: q.1, q.2) | none => q)
/-- [f x for x in xs if p x] -/
def compR {α β : Type} (p : α → R Bool) (f : α → R β) : List α → R (List β)
  | [] => .ok []
  | x :: xs => (p x).bind fun b => if b = true then (f x).bind fun y => (compR p f xs).bind fun ys => .ok (y :: ys) else compR p f xs
/-- the place of xs[k] -/
def ixZ (n : Nat) (i : Int) : Option Nat := if 0 ≤ i then (if i < n then some i.toNat else none) else if -(n : Int) ≤ i then some (i + n).toNat else none
def atZ {α : Type} (xs : List α) (i : Int) : Option α := (ixZ xs.length i).bind fun j => xs[j]?
def ofO {α : Type} : Option α → R α
  | some a => .ok a
  | none => .bad
def idx {α : Type} (xs : List α) (i : Int) : R α := ofO (atZ xs i)
def setR {α : Type} (xs : List α) (i : Int) (x : α) : R (List α) := (ofO (ixZ xs.length i)).bind fun j => .ok (xs.set j x)
def most : Nat := 2 ^ 24
/-- a guard -/
def need (p : Prop) [Decidable p] : R Unit := if p then .ok () else .bad
def appR {α : Type} (xs : List α) (x : α) : R (List α) := if xs.length < most then .ok (xs ++ [x]) else .bad
def catR {α : Type} (xs ys : List α) : R (List α) := if xs.length + ys.length ≤ most then .ok (xs ++ ys) else .bad
def repR {α : Type} (xs : List α) (k : Int) : R (List α) := if k < 2 ^ 63 ∧ -(2 ^ 63) ≤ k ∧ xs.length * k.toNat ≤ most then .ok (List.replicate k.toNat xs).flatten else .bad
def mulR (i j : Int) : R Int := if i.natAbs.log2 + j.natAbs.log2 < 1000000 ∨ (-(2 ^ 64) < j ∧ j < 2 ^ 64) ∨ (-(2 ^ 64) < i ∧ i < 2 ^ 64) then .ok (i * j) else .bad
def divR (i j : Int) : R Int := if 0 < j ∧ j.natAbs.log2 < 9000 then .ok (i / j) else .bad
def modR (i j : Int) : R Int := if 0 < j then .ok (i % j) else .bad
def powR (i j : Int) : R Int := if 0 ≤ j ∧ j ≤ 1000000 ∧ i.natAbs < 2 ^ 64 then .ok (i ^ j.toNat) else .bad
/-- range -/
def rng (lo hi : Int) : List Int := (List.range (hi - lo).toNat).map fun (k : Nat) => lo + (k : Int)
def rngR (lo hi : Int) : R (List Int) := if -(2 ^ 62) ≤ lo ∧ lo < 2 ^ 62 ∧ -(2 ^ 62) ≤ hi ∧ hi < 2 ^ 62 then .ok (rng lo hi) else .bad
def enm {α : Type} (xs : List α) : List (Int × α) := xs.mapIdx fun i x => ((i : Int), x)
def sixZ (n d : Nat) : Option Int → Nat
  | none => d
  | some v => if v < 0 then (v + (n : Int)).toNat else min v.toNat n
/-- xs[lo:hi] -/
def cut {α : Type} (xs : List α) (lo hi : Option Int) : List α := (xs.drop (sixZ xs.length 0 lo)).take (sixZ xs.length xs.length hi - sixZ xs.length 0 lo)
/-- xs.pop(k) -/
def popR {α : Type} (xs : List α) (k : Int) : R (α × List α) := if -(2 ^ 63) ≤ k ∧ k < 2 ^ 63 then (ofO (ixZ xs.length k)).bind fun j => (ofO xs[j]?).bind fun x => .ok (x, xs.eraseIdx j) else .bad
/-- dicts -/
def lookZ {α : Type} : List (Int × α) → Int → Option α
  | [], _ => none
  | (k', d) :: r, k => if k' = k then some d else lookZ r k
def hasZ {α : Type} (kvs : List (Int × α)) (k : Int) : Bool := (lookZ kvs k).isSome
def putZ {α : Type} (kvs : List (Int × α)) (k : Int) (d : α) : List (Int × α) := if (kvs.any fun kv => decide (kv.1 = k)) = true then kvs.map (fun kv => if kv.1 = k then (kv.1, d) else kv) else kvs ++ [(k, d)]
def dropZ {α : Type} : List (Int × α) → Int → List (Int × α)
  | [], _ => []
  | (k', e) :: r, k => if k' = k then dropZ r k else (k', e) :: dropZ r k
def keysZ {α : Type} (kvs : List (Int × α)) : List Int := kvs.map (·.1)
def putR {α : Type} (kvs : List (Int × α)) (k : Int) (d : α) : R (List (Int × α)) := if kvs.length < most then .ok (putZ kvs k d) else .bad
def getR {α : Type} (kvs : List (Int × α)) (k : Int) : R α := ofO (lookZ kvs k)
/-- max, min of whole numbers -/
def maxL : List Int → Option Int
  | [] => none
  | x :: xs => some (xs.foldl max x)
def minL : List Int → Option Int
  | [] => none
  | x :: xs => some (xs.foldl min x)
/-- the least pair -/
def ltP (p q : Int × Int) : Bool := decide (p.1 < q.1) || (decide (p.1 = q.1) && decide (p.2 < q.2))
def minP : List (Int × Int) → Option (Int × Int)
  | [] => none
  | x :: xs => some (xs.foldl (fun a y => if ltP y a = true then y else a) x)
/-- sorted whole numbers -/
def insI (x : Int) : List Int → List Int
  | [] => [x]
  | y :: ys => if x ≤ y then x :: y :: ys else y :: insI x ys
def srt : List Int → List Int
  | [] => []
  | x :: xs => insI x (srt xs)
end Fw

set_option Elab.async false
set_option linter.all false
set_option maxRecDepth 100000
/-! What repr gives of a value of any type, and when that is told. -/
namespace Fw
open PySem
mutual
def pdA : Av → PyData
  | .non => .none
  | .bl b => .bool b
  | .int i => .int i
  | .str s => .str (Str.ofString s)
  | .lst xs => .list (pdAs xs)
  | .tup xs => .tuple (pdAs xs)
  | .dct => .dict []
  | .txt a => .str (pdA a).shown
def pdAs : List Av → List PyData
  | [] => []
  | x :: xs => pdA x :: pdAs xs
end
/-- it may be shown -/
def Av.fit (a : Av) : Bool := (pdA a).showable && (decide ((pdA a).depth ≤ 60) && (decide ((pdA a).shown.length ≤ 3000) && PyData.strOk (pdA a).shown))
/-- raise C(x), x of any type -/
def raA {α : Type} (c : String) (a : Av) : R α := if a.fit = true then .err c a else .bad
end Fw

set_option Elab.async false
set_option linter.all false
set_option maxRecDepth 100000
namespace Fw
variable [TbC]
open PySem L2
/-! ### min, max with default=; < of tuples of ints -/
abbrev rDfl (g : PyData → List PyData → PyData) (K : PySem.W.Frag) : List V → List V → Hp → VK → Prop := fun vs zs H Q => ∃ (a : Addr) (xs : List V) (ds : List PyData) (z : V),
  vs = [V.ref a] ∧ zs = [z] ∧ SqL K H a xs ∧ DpAll K H xs ds ∧ PySem.W.AlikeAll ds ∧ PyData.depthAll ds ≤ 60 ∧ (ds = [] → Q z H) ∧
  ∀ (y : PyData) (ys : List PyData) (i : Nat) (v : V), ds = y :: ys → xs[i]? = some v → ds[i]? = some (g y ys) → Q v H
section
variable {X : Cx}
end
section
variable {K : PySem.W.Frag} {q : Bool} {ρ : Env}
end
/-! ### pairs of ints, as data -/
def prD (p : Int × Int) : D := .tup [.int p.1, .int p.2]
def prY (p : Int × Int) : PyData := .tuple [.int p.1, .int p.2]
end Fw

set_option Elab.async false
set_option linter.all false
set_option maxRecDepth 100000
namespace Fw
variable [TbC]
open PySem L2
/-! ### defs with keyword-only arguments -/
/-- n positional arguments, the keyword-only ones ks (all of them have defaults dvs) -/
structure CalK (P : Program) (w : World) (K : PySem.W.Frag) (mg : Str → Option Value) (base : Heap) (k : Nat) (x : Str) (n : Nat) (ks : List Str) (dvs : List V) (ps : List Str) (sp : Sp) : Prop where
  ok : ∃ fd, FnG P w K mg base (L2.CX P w) k (He.ga K x) fd ps sp ∧ (∃ ds, Vals dvs ds ∧ Binds K fd ps ds) ∧ KBn K fd ps n ks (fun us ws => us ++ ws) (fun vs zs => vs ++ zs)
  g : mg x = some (.ref (He.ga K x))
  kp : PySem.W.keepIn K (.ref (He.ga K x)) = true
theorem vals_app {vs zs : List V} {us ws : List Value} (r : Vals vs us) (q : Vals zs ws) : Vals (vs ++ zs) (us ++ ws) := by
  induction r with
  | nil => exact q
  | cons a _ ih => exact .cons a ih
/-- every keyword is written -/
theorem kbn_all {K : PySem.W.Frag} {x qual : Str} {params : Arguments} {body : List Stmt} {scope : Scope} {kws : List (Str × V)} {f : Addr} {fd : FuncData} {ps ks : List Str} (n : Nat) (F : FunD K x qual params body scope [] kws f fd)
    (h : ∀ (kV doc pm : Value) (an : Option Addr) (cdv ct : Value) (us ws : List Value), us.length = n → ws.length = ks.length → bindArgs (PySem.W.fnOf x qual params body scope .none kV doc pm an cdv ct) ⟨us, ks.zip ws⟩ = pure (ps.zip (us ++ ws))) : KBn K fd ps n ks (fun us ws => us ++ ws) (fun vs zs => vs ++ zs) := by
  obtain ⟨oc, od, dV, kV, doc, pm, an, cdv, ct, osl, rfl, lk, hcd, hD, hK⟩ := F.ex
  rcases hD with ⟨_, rfl⟩ | ⟨e, _⟩
  · exact ⟨fun s us ws X l1 l2 => .of_eq (h kV doc pm an cdv ct us ws l1 l2), fun r1 r2 => vals_app r1 r2⟩
  · exact absurd rfl e
section
variable {X : Cx} {k n : Nat} {ps ks : List Str} {dvs : List V} {sp : Sp} {x : Str} {p pos : Pos} {e : Expr} {es : List Expr} {kws : List Keyword} {t tk : TA}
end
section
variable {K : PySem.W.Frag} {q : Bool} {ρ : Env}
end
end Fw

set_option Elab.async false
set_option linter.all false
set_option maxRecDepth 100000
namespace Fw
variable [TbC]
open PySem L2
section
variable {K : PySem.W.Frag} {q : Bool} {ρ : Env} {σ : St} {F H : Hp} {i : Nat} {E : En} {a : Addr} {kvs : List (Key × D)}
/-! ### a dict of a slot, locked while it is walked -/
theorem ex_lock {t : TS} (hi : ρ[i]? = some (some (.o a (.dct kvs))))
    (h : ∀ o ws, ex K t (ρ.set i (some (.o a (.ldct o ws kvs)))) { nx := fun ρ' => ρ'[i]? = some (some (.o a (.ldct o ws kvs))) ∧ E.nx (ρ'.set i (some (.o a (.dct kvs)))), rt := fun s ρ' => ρ'[i]? = some (some (.o a (.ldct o ws kvs))) ∧ E.rt s (ρ'.set i (some (.o a (.dct kvs)))), bk := fun ρ' => ρ'[i]? = some (some (.o a (.ldct o ws kvs))) ∧ E.bk (ρ'.set i (some (.o a (.dct kvs)))), ct := fun ρ' => ρ'[i]? = some (some (.o a (.ldct o ws kvs))) ∧ E.ct (ρ'.set i (some (.o a (.dct kvs)))) }) : ex K (tLock t) ρ E := fun σ F H D ok g => by
  obtain ⟨v, h1, rfl, h2, ws, h3, h4⟩ := ok.at_ i _ hi
  refine ⟨a, .dK ws, h3, trivial, fun od => ?_⟩
  obtain ⟨ok1, s1⟩ := ok.mut (o := .frz od (.dK ws)) (c' := .ldct od ws kvs) hi ⟨upd_same, h4⟩
  have un : ∀ σ' F' H' ρ', Ok K σ' F' H' ρ' → Step _ F _ ρ' F' H' → ρ'[i]? = some (some (.o a (.ldct od ws kvs))) → H' a = some (.frz od (.dK ws)) ∧ Ok K σ' F' (upd H' a (.dK ws)) (ρ'.set i (some (.o a (.dct kvs)))) ∧ Step ρ F H (ρ'.set i (some (.o a (.dct kvs)))) F' (upd H' a (.dK ws)) := fun σ' F' H' ρ' ok' st e' => by
    obtain ⟨v', g1, rfl, g2, g3, g4⟩ := ok'.at_ i _ e'
    obtain ⟨ok2, s2⟩ := ok'.mut (o := .dK ws) (c' := .dct kvs) e' ⟨ws, upd_same, g4⟩
    exact ⟨g3, ok2, (s1.trans st).trans s2⟩
  refine h od ws σ F _ _ ok1 ⟨fun σ' F' H' ρ' ok' st ⟨e', k⟩ => ?_, fun s v σ' F' H' ρ' ok' r n st ⟨e', k⟩ => ?_, fun σ' F' H' ρ' ok' st ⟨e', k⟩ => ?_, fun σ' F' H' ρ' ok' st ⟨e', k⟩ => ?_⟩
  · obtain ⟨u1, u2, u3⟩ := un σ' F' H' ρ' ok' st e'
    exact ⟨u1, g.nx _ _ _ _ u2 u3 k⟩
  · obtain ⟨u1, u2, u3⟩ := un σ' F' H' ρ' ok' st e'
    cases s with
    | v d => exact ⟨u1, g.rt (.v d) v σ' F' _ _ u2 r (fun _ _ z => (nomatch z)) u3 k⟩
    | o p c =>
      obtain ⟨n1, n3⟩ := n p c rfl
      have pa : ∀ x ∈ p :: c.inn, x ≠ a := fun x hx z => (n1 x hx).2 (z ▸ mem_root e')
      obtain ⟨r0, r1, r2⟩ := r
      refine ⟨u1, g.rt (.o p c) _ _ _ _ _ u2 ⟨r0, r1, r2.mono (Same.refl _) fun x hx o z => by rw [upd_ne (pa x hx)]; exact z⟩ (fun p' c' z => ?_) u3 k⟩
      cases z
      exact ⟨fun x hx => ⟨s1.new (n1 x hx).1, fun z => (owns_set_sub z).elim (n1 x hx).2 fun y => pa x hx (by simpa [ownA, O.inn] using y)⟩, n3⟩
  · obtain ⟨u1, u2, u3⟩ := un σ' F' H' ρ' ok' st e'
    exact ⟨u1, g.bk _ _ _ _ u2 u3 k⟩
  · obtain ⟨u1, u2, u3⟩ := un σ' F' H' ρ' ok' st e'
    exact ⟨u1, g.ct _ _ _ _ u2 u3 k⟩
theorem rep_keyD {F : Hp} : ∀ k : Key, Rep K F (keyD k) (kV k)
  | .inl i => .int i
  | .inr s => .str s
def keysD (kvs : List (Key × D)) : List D := kvs.map fun kv => keyD kv.1
theorem keysD_rep {kvs : List (Key × D)} {ws : List (Key × V)} (r : RepK K F kvs ws) (F' : Hp) : RepL K F' (keysD kvs) (ws.map fun kv => kV kv.1) := by
  induction kvs generalizing ws with
  | nil => cases r; exact .nil
  | cons x xs ih => cases r with | cons h t => exact .cons (rep_keyD _) (ih t)
/-- list(d) -/
abbrev rListDK : List V → Hp → VK → Prop := fun xs H Q => ∃ (a : Addr) (kvs : List (Key × V)), xs = [.ref a] ∧ Rd H a (.dK kvs) ∧ ∀ p, H p = none → Q (.ref p) (upd H p (.lst (kvs.map fun kv => kV kv.1)))
end
end Fw

set_option Elab.async false
set_option linter.all false
set_option maxRecDepth 100000
namespace Fw
variable [TbC]
open PySem L2
/-! ### a range whose numbers are too long for a machine word -/
abbrev IsLR (h : Heap) (it : Addr) (x left step : Int) : Prop := h.get? it = some ⟨.type "longrange_iterator", none, .fields #[rawInt x, rawInt left, rawInt step], #[]⟩
section
variable {prog : Program} {w : World} {A : Around} {E : Value → Shared → Prop} {s : Shared}
end
def iRng2W (ta : TA) : TI := fun σ H R => ta σ H fun vs H1 => ∃ i j : Int, vs = [.int i, .int j] ∧ R (Itr i (j - i).toNat) H1
section
variable {X : Cx} {tg : Expr}
end
section
variable {K : PySem.W.Frag} {q : Bool} {ρ : Env}
end
/-! ### the rules once more, the fragment named (within a comprehension) -/
section
variable {X : Cx} {K : PySem.W.Frag}
end
end Fw

set_option Elab.async false
set_option linter.all false
set_option maxRecDepth 100000
/-! A layer without places over Fw: what a part gives, and the slots behind it, are told as data. -/
namespace Fw
variable [TbC]
open PySem L2
/-! ### slots without places -/
/-- a field, without places -/
inductive MFl where
  | v (d : D)
  | c (x : Ch)
def MFl.d : MFl → D
  | .v d => d
  | .c x => x.d'
inductive MO where
  | lst (xs : List D)
  | dct (kvs : List (Key × D))
  | ldct (o : Obj) (ws : List (Key × V)) (kvs : List (Key × D))
  | ins (C : Addr) (fs : List (Str × D))
  | dcl (kvs : List (Key × List D))
  | inl (C : Addr) (fs : List (Str × MFl))
  | tpl (fs : List MFl)
  | lcl (fs : List MFl)
  | rcd (fs : List (Str × MFl))
def Fl.m : Fl → MFl
  | .v d => .v d
  | .c _ x => .c x
def O.m : O → MO
  | .lst xs => .lst xs
  | .dct k => .dct k
  | .ldct o ws k => .ldct o ws k
  | .ins C _ fs => .ins C fs
  | .dcl kvs => .dcl (kvs.map fun kv => (kv.1, kv.2.2))
  | .inl C _ fs => .inl C (fs.map fun f => (f.1, f.2.m))
  | .tpl fs => .tpl (fs.map fun f => f.2.m)
  | .lcl fs => .lcl (fs.map fun f => f.2.m)
  | .rcd fs => .rcd (fs.map fun f => (f.1, f.2.m))
def MO.d : MO → D
  | .lst xs => .lst xs
  | .dct k => .dct k
  | .ldct _ _ k => .dct k
  | .ins C fs => .ins C fs
  | .dcl kvs => .dct (kvs.map fun kv => (kv.1, .lst kv.2))
  | .inl C fs => .ins C (fs.map fun f => (f.1, f.2.d))
  | .tpl fs => .tup (fs.map fun f => f.d)
  | .lcl fs => .lst (fs.map fun f => f.d)
  | .rcd fs => .dct (fs.map fun f => (.inr f.1, f.2.d))
theorem O.md (c : O) : c.m.d = c.d := by
  cases c with
  | dcl kvs => show D.dct _ = D.dct _; rw [List.map_map]; rfl
  | inl C dx fs =>
    show D.ins _ _ = D.ins _ _
    rw [List.map_map]
    congr 1
    apply List.map_congr_left
    rintro ⟨k, f⟩ _
    cases f <;> rfl
  | tpl fs =>
    show D.tup _ = D.tup _
    unfold inlD
    rw [List.map_map, List.map_map]
    congr 1
    apply List.map_congr_left
    rintro ⟨k, f⟩ _
    cases f <;> rfl
  | lcl fs =>
    show D.lst _ = D.lst _
    unfold inlD
    rw [List.map_map, List.map_map]
    congr 1
    apply List.map_congr_left
    rintro ⟨k, f⟩ _
    cases f <;> rfl
  | rcd fs =>
    show D.dct _ = D.dct _
    unfold inlD
    rw [List.map_map, List.map_map]
    congr 1
    apply List.map_congr_left
    rintro ⟨k, f⟩ _
    cases f <;> rfl
  | _ => rfl
def MO.flat : MO → Prop
  | .dcl _ => False
  | .inl _ _ => False
  | .tpl _ => False
  | .lcl _ => False
  | .rcd _ => False
  | _ => True
theorem O.flat_of {c : O} (h : c.m.flat) : c.flat := by cases c <;> first | trivial | exact h
/-- a slot: data, or an owned thing (its place may be told) -/
inductive MSl where
  | v (d : D)
  | o (t : Option Addr) (c : MO)
abbrev MEnv := List (Option MSl)
def MSl.d : MSl → D
  | .v d => d
  | .o _ c => c.d
inductive AbS : Option Sl → Option MSl → Prop
  | any {x : Option Sl} : AbS x none
  | v {d : D} : AbS (some (.v d)) (some (.v d))
  | o {a : Addr} {c : O} : AbS (some (.o a c)) (some (.o none c.m))
  | t {a : Addr} {c : O} : AbS (some (.o a c)) (some (.o (some a) c.m))
inductive Ab : Env → MEnv → Prop
  | nil : Ab [] []
  | cons {x : Option Sl} {y : Option MSl} {ρ : Env} {μ : MEnv} : AbS x y → Ab ρ μ → Ab (x :: ρ) (y :: μ)
theorem Ab.len {ρ : Env} {μ : MEnv} (h : Ab ρ μ) : ρ.length = μ.length := by
  induction h with
  | nil => rfl
  | cons _ _ ih => simp [ih]
theorem Ab.get {ρ : Env} {μ : MEnv} (h : Ab ρ μ) {i : Nat} {y : Option MSl} (e : μ[i]? = some y) : ∃ x, ρ[i]? = some x ∧ AbS x y := by
  induction h generalizing i with
  | nil => simp at e
  | cons a _ ih =>
    cases i with
    | zero => simp at e; subst e; exact ⟨_, rfl, a⟩
    | succ i => simpa using ih (i := i) (by simpa using e)
theorem Ab.getv {ρ : Env} {μ : MEnv} (h : Ab ρ μ) {i : Nat} {d : D} (e : μ[i]? = some (some (.v d))) : ρ[i]? = some (some (.v d)) := by
  obtain ⟨x, h1, h2⟩ := h.get e
  cases h2; exact h1
theorem Ab.geto {ρ : Env} {μ : MEnv} (h : Ab ρ μ) {i : Nat} {t : Option Addr} {c : MO} (e : μ[i]? = some (some (.o t c))) : ∃ a c', ρ[i]? = some (some (.o a c')) ∧ c'.m = c ∧ (∀ b, t = some b → b = a) := by
  obtain ⟨x, h1, h2⟩ := h.get e
  cases h2 with
  | o => exact ⟨_, _, h1, rfl, fun _ z => by cases z⟩
  | t => exact ⟨_, _, h1, rfl, fun _ z => by cases z; rfl⟩
theorem Ab.set {ρ : Env} {μ : MEnv} (h : Ab ρ μ) {x : Option Sl} {y : Option MSl} (s : AbS x y) : ∀ i, Ab (ρ.set i x) (μ.set i y) := by
  induction h with
  | nil => intro i; exact .nil
  | cons a b ih =>
    intro i
    cases i with
    | zero => exact .cons s b
    | succ i => exact .cons a (ih i)
theorem AbS.mk {a : Addr} {c : O} {t : Option Addr} (h : ∀ b, t = some b → b = a) : AbS (some (.o a c)) (some (.o t c.m)) := by
  cases t with
  | none => exact .o
  | some b => rw [h b rfl]; exact .t
/-- less is known -/
inductive WkS : Option MSl → Option MSl → Prop
  | any {x : Option MSl} : WkS x none
  | same {x : Option MSl} : WkS x x
  | un {t : Option Addr} {c : MO} : WkS (some (.o t c)) (some (.o none c))
  | frz {t : Option Addr} {c : MO} : WkS (some (.o t c)) (some (.v c.d))
inductive Wk : MEnv → MEnv → Prop
  | nil : Wk [] []
  | cons {x y : Option MSl} {ρ μ : MEnv} : WkS x y → Wk ρ μ → Wk (x :: ρ) (y :: μ)
theorem Wk.refl : ∀ μ : MEnv, Wk μ μ
  | [] => .nil
  | _ :: μ => .cons .same (Wk.refl μ)
theorem WkS.trans {x y z : Option MSl} (a : WkS x y) (b : WkS y z) : WkS x z := by
  cases a with
  | any => cases b <;> exact .any
  | same => exact b
  | un => cases b with
    | any => exact .any
    | same => exact .un
    | un => exact .un
    | frz => exact .frz
  | frz => cases b with
    | any => exact .any
    | same => exact .frz
theorem Wk.trans {x y z : MEnv} (a : Wk x y) (b : Wk y z) : Wk x z := by
  induction a generalizing z with
  | nil => exact b
  | cons h _ ih => cases b with
    | cons h2 b => exact .cons (h.trans h2) (ih b)
/-! ### the judgements -/
section
variable (K : PySem.W.Frag)
def EV (q : Bool) (te : TE) (μ : MEnv) (d : D) (μ' : MEnv) : Prop := ∀ ρ, Ab ρ μ → ev K q te ρ fun d' ρ' => d' = d ∧ Ab ρ' μ'
def EB (q : Bool) (te : TE) (μ : MEnv) (d : D) (μ' : MEnv) : Prop := ∀ ρ, Ab ρ μ → evb K q te ρ fun d' ρ' => d' = d ∧ Ab ρ' μ'
def EO (te : TE) (μ : MEnv) (c : MO) (μ' : MEnv) : Prop := ∀ ρ, Ab ρ μ → evo K te ρ fun _ c' ρ' => c'.m = c ∧ Ab ρ' μ'
def ET (q : Bool) (tt : TT) (μ : MEnv) (b : Bool) (μ' : MEnv) : Prop := ∀ ρ, Ab ρ μ → et K q tt ρ fun b' ρ' => b' = b ∧ Ab ρ' μ'
def ED (q : Bool) (ta : TA) (μ : MEnv) (ds : List D) (μ' : MEnv) : Prop := ∀ ρ, Ab ρ μ → evd K q ta ρ fun ds' ρ' => ds' = ds ∧ Ab ρ' μ'
inductive MAr where
  | v (d : D)
  | s (i : Nat) (c : MO)
def Ar.m : Ar → MAr
  | .v d => .v d
  | .s i _ c => .s i c.m
def EA (ta : TA) (μ : MEnv) (as : List MAr) (μ' : MEnv) : Prop := ∀ ρ, Ab ρ μ → eva K ta ρ fun as' ρ' => as'.map Ar.m = as ∧ (∀ (j i : Nat) a c, as'[j]? = some (.s i a c) → ρ'[i]? = some (some (.o a c))) ∧ Ab ρ' μ'
def EP (to : TO) (μ : MEnv) (o : Option Int) : Prop := ∀ ρ, Ab ρ μ → eo K true to ρ fun o' _ => o' = o
def EI (S : Env → Prop) (wi : TI) (μ : MEnv) (ds : List D) (μ' : MEnv) : Prop := ∀ ρ, Ab ρ μ → eiS K S wi ρ fun ds' ρ' => ds' = ds ∧ Ab ρ' μ'
def GT (w : Option (List Nat)) (g : TG) (d : D) (μ μ' : MEnv) : Prop := ∀ ρ, Ab ρ μ → gt K w g d ρ fun ρ' => Ab ρ' μ'
def GS (w : Option (List Nat)) (g : TGs) (ds : List D) (μ μ' : MEnv) : Prop := ∀ ρ, Ab ρ μ → gts K w g ds ρ fun ρ' => Ab ρ' μ'
end
inductive MOut where
  | nx (μ : MEnv)
  | ct (μ : MEnv)
  | rt (s : MSl) (μ : MEnv)
def Sl.is (s : Sl) : MSl → Prop
  | .v d => s = .v d
  | .o _ c => ∃ a c', s = .o a c' ∧ c'.m = c
def MOut.En : MOut → Fw.En
  | .nx μ => { nx := fun ρ' => Ab ρ' μ, rt := fun _ _ => False }
  | .ct μ => { nx := fun _ => False, rt := fun _ _ => False, ct := fun ρ' => Ab ρ' μ }
  | .rt s μ => { nx := fun _ => False, rt := fun s' ρ' => s'.is s ∧ Ab ρ' μ }
def XS (K : PySem.W.Frag) (ts : TS) (μ : MEnv) (o : MOut) : Prop := ∀ ρ, Ab ρ μ → ex K ts ρ o.En
section
variable {K : PySem.W.Frag} {q : Bool} {μ μ1 μ2 μ3 : MEnv} {ρ : Env} {i : Nat}
theorem ev_q {te : TE} {Φ : D → Env → Prop} (h : ev K true te ρ Φ) : ev K true te ρ fun d ρ' => Φ d ρ' ∧ ρ' = ρ := fun σ F H Q ok k =>
  h σ F H Q ok fun d v F' H' ρ' a b c e f => k d v F' H' ρ' a b c e ⟨f, (e rfl).1⟩
theorem evb_q {te : TE} {Φ : D → Env → Prop} (h : evb K true te ρ Φ) : evb K true te ρ fun d ρ' => Φ d ρ' ∧ ρ' = ρ := fun σ F H Q ok k =>
  h σ F H Q ok fun d v F' H' ρ' a b c e f => k d v F' H' ρ' a b c e ⟨f, (e rfl).1⟩
theorem EV.cast {te : TE} {d d' : D} (h : EV K q te μ d μ1) (e : d = d') : EV K q te μ d' μ1 := e ▸ h
/-! ### leaves -/
theorem e_var {d : D} (h : μ[i]? = some (some (.v d))) : EV K q (tVar i) μ d μ := fun ρ ab => ev_var (ab.getv h) ⟨rfl, ab⟩
theorem b_own {t : Option Addr} {c : MO} (h : μ[i]? = some (some (.o t c))) (hf : c.flat := by trivial) : EB K q (tVar i) μ c.d μ := fun ρ ab => by
  obtain ⟨a, c', h1, h2, _⟩ := ab.geto h
  subst h2
  exact evb_own h1 ⟨(O.md c').symm, ab⟩ (O.flat_of hf)
theorem b_of {te : TE} {d : D} (h : EV K q te μ d μ1) : EB K q te μ d μ1 := fun ρ ab => evb_of (h ρ ab)
theorem e_c {v : V} {d : D} (r : ∀ F : Hp, Rep K F d v) : EV K q (tC v) μ d μ := fun ρ ab => ev_c r ⟨rfl, ab⟩
theorem e_int {n : Int} : EV K q (tC (.int n)) μ (.int n) μ := e_c fun _ => .int n
theorem e_bl {b : Bool} : EV K q (tC (.bl b)) μ (.bl b) μ := e_c fun _ => .bl b
theorem e_str {s : Str} : EV K q (tC (.str s)) μ (.str s) μ := e_c fun _ => .str s
theorem e_non : EV K q (tC .non) μ .non μ := e_c fun _ => .non
theorem e_frz {te : TE} {c : MO} (h : EO K te μ c μ1) : EV K false te μ c.d μ1 := fun ρ ab => ev_of_evo ((h ρ ab).imp fun a c' ρ' ⟨e, k⟩ => ⟨by rw [← e, O.md], k⟩)
theorem b_frz {te : TE} {c : MO} (h : EO K te μ c μ1) : EB K false te μ c.d μ1 := b_of (e_frz h)
/-! ### whole numbers -/
theorem e_two {g : Int → Int → V} {f : Int → Int → D} {ta tb : TE} {a b : Int} (r : ∀ i j F, Rep K F (f i j) (g i j)) (ha : EV K q ta μ (.int a) μ1) (hb : EV K q tb μ1 (.int b) μ2) : EV K q (tOp (rI0 g) ta tb) μ (f a b) μ2 := fun ρ ab =>
  ev_iop (g' := f) r ((ha ρ ab).imp fun d ρ1 ⟨e, k⟩ => ⟨a, e, (hb ρ1 k).imp fun d' ρ2 ⟨e', k'⟩ => ⟨b, e', rfl, k'⟩⟩)
theorem e_twoC {C : Int → Int → Prop} {g : Int → Int → V} {f : Int → Int → D} {ta tb : TE} {a b : Int} (r : ∀ i j F, Rep K F (f i j) (g i j)) (ha : EV K q ta μ (.int a) μ1) (hb : EV K q tb μ1 (.int b) μ2) (hc : C a b) : EV K q (tOp (rI C g) ta tb) μ (f a b) μ2 := fun ρ ab =>
  ev_iopC (g' := f) r ((ha ρ ab).imp fun d ρ1 ⟨e, k⟩ => ⟨a, e, (hb ρ1 k).imp fun d' ρ2 ⟨e', k'⟩ => ⟨b, e', hc, rfl, k'⟩⟩)
variable {ta tb tc : TE} {a b c : Int}
theorem e_add (ha : EV K q ta μ (.int a) μ1) (hb : EV K q tb μ1 (.int b) μ2) : EV K q (tOp (rI0 fun i j => .int (i + j)) ta tb) μ (.int (a + b)) μ2 := e_two (f := fun i j => .int (i + j)) (fun _ _ _ => .int _) ha hb
theorem e_sub (ha : EV K q ta μ (.int a) μ1) (hb : EV K q tb μ1 (.int b) μ2) : EV K q (tOp (rI0 fun i j => .int (i - j)) ta tb) μ (.int (a - b)) μ2 := e_two (f := fun i j => .int (i - j)) (fun _ _ _ => .int _) ha hb
theorem e_lt (ha : EV K q ta μ (.int a) μ1) (hb : EV K q tb μ1 (.int b) μ2) : EV K q (tOp (rI0 fun i j => .bl (decide (i < j))) ta tb) μ (.bl (decide (a < b))) μ2 := e_two (f := fun i j => .bl (decide (i < j))) (fun _ _ _ => .bl _) ha hb
theorem e_gt (ha : EV K q ta μ (.int a) μ1) (hb : EV K q tb μ1 (.int b) μ2) : EV K q (tOp (rI0 fun i j => .bl (decide (j < i))) ta tb) μ (.bl (decide (b < a))) μ2 := e_two (f := fun i j => .bl (decide (j < i))) (fun _ _ _ => .bl _) ha hb
theorem e_ge (ha : EV K q ta μ (.int a) μ1) (hb : EV K q tb μ1 (.int b) μ2) : EV K q (tOp (rI0 fun i j => .bl (decide (j ≤ i))) ta tb) μ (.bl (decide (b ≤ a))) μ2 := e_two (f := fun i j => .bl (decide (j ≤ i))) (fun _ _ _ => .bl _) ha hb
theorem e_neg (ha : EV K q ta μ (.int a) μ1) : EV K q (tUn (rU fun i => .int (-i)) ta) μ (.int (-a)) μ1 := fun ρ ab => ev_neg ((ha ρ ab).imp fun d ρ1 ⟨e, k⟩ => ⟨a, e, rfl, k⟩)
theorem e_min2 (ha : EV K q ta μ (.int a) μ1) (hb : EV K q tb μ1 (.int b) μ2) : EV K q (tCB rMin2 (tCons ta (tCons tb tNil))) μ (.int (min a b)) μ2 := fun ρ ab =>
  ev_min2 ((ha ρ ab).imp fun d ρ1 ⟨e, k⟩ => ⟨a, e, (hb ρ1 k).imp fun d' ρ2 ⟨e', k'⟩ => ⟨b, e', rfl, k'⟩⟩)
theorem e_intB {p : Bool} (ha : EV K q ta μ (.bl p) μ1) : EV K q (tCB rInt1 (tCons ta tNil)) μ (.int (if p then 1 else 0)) μ1 := fun ρ ab =>
  ev_intB ((ha ρ ab).imp fun d ρ1 ⟨e, k⟩ => ⟨p, e, rfl, k⟩)
theorem e_chain {g g' : Int → Int → Bool} (ha : EV K q ta μ (.int a) μ1) (hb : EV K q tb μ1 (.int b) μ2) (hc : EV K q tc μ2 (.int c) μ2) :
    EV K q (tChain (rI0 fun i j => .bl (g i j)) (rI0 fun i j => .bl (g' i j)) ta tb tc) μ (.bl (g a b && g' b c)) μ2 := fun ρ ab =>
  ev_chainI ((ha ρ ab).imp fun d ρ1 ⟨e, k⟩ => ⟨a, e, (hb ρ1 k).imp fun d' ρ2 ⟨e', k'⟩ => ⟨b, e', fun hg => (hc ρ2 k').imp fun d3 ρ3 ⟨e3, k3⟩ => ⟨c, e3, by rw [hg]; exact ⟨rfl, k3⟩⟩, fun hg => by rw [hg]; exact ⟨rfl, k'⟩⟩⟩)
/-! ### truth -/
variable {p r : Bool} {tt uu : TT}
theorem t_test (h : EV K q ta μ (.bl p) μ1) : ET K q (tTest ta) μ p μ1 := fun ρ ab => et_test ((h ρ ab).imp fun d ρ1 ⟨e, k⟩ => ⟨p, e, rfl, k⟩)
theorem t_tB (h : EV K q ta μ (.bl p) μ1) : ET K q (tB ta) μ p μ1 := fun ρ ab => et_tB ((h ρ ab).imp fun d ρ1 ⟨e, k⟩ => ⟨p, e, rfl, k⟩)
theorem t_not (h : ET K q tt μ p μ1) : ET K q (tNot tt) μ (!p) μ1 := fun ρ ab => et_not ((h ρ ab).imp fun d ρ1 ⟨e, k⟩ => ⟨by rw [e], k⟩)
/-- a and b: b is asked only if a holds -/
theorem t_and (h : ET K q tt μ p μ1) (k : p = true → ET K q uu μ1 r μ2) (e : p = false → r = false ∧ μ2 = μ1) : ET K q (tAnd tt uu) μ r μ2 := fun ρ ab =>
  et_and ((h ρ ab).imp fun b ρ1 ⟨eb, k1⟩ => by subst eb; exact ⟨fun hb => k hb ρ1 k1, fun hb => ⟨(e hb).1.symm, (e hb).2 ▸ k1⟩⟩)
theorem t_or (h : ET K q tt μ p μ1) (k : p = false → ET K q uu μ1 r μ2) (e : p = true → r = true ∧ μ2 = μ1) : ET K q (tOr tt uu) μ r μ2 := fun ρ ab =>
  et_or ((h ρ ab).imp fun b ρ1 ⟨eb, k1⟩ => by subst eb; exact ⟨fun hb => ⟨(e hb).1.symm, (e hb).2 ▸ k1⟩, fun hb => k hb ρ1 k1⟩)
theorem e_and {d : D} (h : EV K q ta μ (.bl p) μ1) (k : p = true → EV K q tb μ1 d μ2) (e : p = false → d = .bl false ∧ μ2 = μ1) : EV K q (tAndV ta tb) μ d μ2 := fun ρ ab =>
  ev_and ((h ρ ab).imp fun b ρ1 ⟨eb, k1⟩ => ⟨p, eb, fun hb => k hb ρ1 k1, fun hb => ⟨(e hb).1.symm, (e hb).2 ▸ k1⟩⟩)
theorem e_not (h : EV K q ta μ (.bl p) μ1) : EV K q (tNotV ta) μ (.bl (!p)) μ1 := fun ρ ab => ev_not ((h ρ ab).imp fun b ρ1 ⟨eb, k1⟩ => ⟨p, eb, rfl, k1⟩)
theorem e_if {d : D} (h : ET K q tt μ p μ1) (k1 : p = true → EV K q ta μ1 d μ2) (k2 : p = false → EV K q tb μ1 d μ2) : EV K q (tIf tt ta tb) μ d μ2 := fun ρ ab =>
  ev_if ((h ρ ab).imp fun b ρ1 ⟨eb, k⟩ => by subst eb; exact ⟨fun hb => k1 hb ρ1 k, fun hb => k2 hb ρ1 k⟩)
/-! ### comparisons of data -/
theorem e_eq {d e : D} (ha : EB K q ta μ d μ1) (hb : EB K true tb μ1 e μ1) (h1 : d.shp 64 = true) (h2 : e.shp 64 = true) : EV K q (tOp (rEqD K) ta tb) μ (.bl (d.eqv e)) μ1 := fun ρ ab => by
  refine ev_eq ((ha ρ ab).imp fun d' ρ1 ⟨e1, k1⟩ => ?_)
  have := evb_q (hb ρ1 k1)
  refine evb_mono (this.imp fun e' ρ2 ⟨⟨e2, k2⟩, e3⟩ => ?_)
  subst e1 e2 e3
  exact ⟨rfl, h1, h2, rfl, k2⟩
where
  evb_mono {q : Bool} {te : TE} {ρ : Env} {Φ : D → Env → Prop} (h : evb K true te ρ Φ) : evb K q te ρ Φ := fun σ F H Q ok k =>
    h σ F H Q ok fun d v F' H' ρ' a b c e f => k d v F' H' ρ' a b c (fun _ => e rfl) f
end
end Fw

set_option Elab.async false
set_option linter.all false
set_option maxRecDepth 100000
namespace Fw
variable [TbC]
open PySem L2
/-! ### data of plain types -/
def eL {α : Type} (e : α → D) (xs : List α) : D := .lst (xs.map e)
def oL {α : Type} (e : α → D) (xs : List α) : MO := .lst (xs.map e)
def eF {α : Type} (e : α → D) (xs : List α) : D := .fls (xs.map e)
def eT2 {α β : Type} (e : α → D) (f : β → D) (p : α × β) : D := .tup [e p.1, f p.2]
def eT3 {α β γ : Type} (e : α → D) (f : β → D) (g : γ → D) (p : α × β × γ) : D := .tup [e p.1, f p.2.1, g p.2.2]
def eO {α : Type} (e : α → D) : Option α → D
  | none => .non
  | some a => e a
def eN (_ : Unit) : D := .non
def kvD {α : Type} (e : α → D) (kv : Int × α) : Key × D := (.inl kv.1, e kv.2)
def eDc {α : Type} (e : α → D) (kvs : List (Int × α)) : D := .dct (kvs.map (kvD e))
def oDc {α : Type} (e : α → D) (kvs : List (Int × α)) : MO := .dct (kvs.map (kvD e))
def olDc {α : Type} (o : Obj) (ws : List (Key × V)) (e : α → D) (kvs : List (Int × α)) : MO := .ldct o ws (kvs.map (kvD e))
section
variable {α β γ : Type} {e : α → D}
theorem atI_atZ (xs : List α) (k : Int) : atI (xs.map e) k = (atZ xs k).map e := by
  unfold atI atZ
  rw [List.length_map]
  show ((ixZ xs.length k).bind fun j => (xs.map e)[j]?) = _
  cases ixZ xs.length k with
  | none => rfl
  | some j => simp
theorem idx_at {xs : List α} {k : Int} {t : α} (h : idx xs k = .ok t) : atZ xs k = some t := by
  unfold idx at h
  cases e : atZ xs k with
  | none => rw [e] at h; cases h
  | some a => rw [e] at h; cases h; rfl
theorem lookD_lookZ (kvs : List (Int × α)) (k : Int) : lookD (kvs.map (kvD e)) (.inl k) = (lookZ kvs k).map e := by
  induction kvs with
  | nil => rfl
  | cons a r ih =>
    obtain ⟨k', d⟩ := a
    show (if (Sum.inl k' : Key) = Sum.inl k then some (e d) else lookD (r.map (kvD e)) (.inl k)) = _
    by_cases h : k' = k
    · subst h; simp [lookZ]
    · rw [if_neg (fun z => h (Sum.inl.inj z)), ih]; simp [lookZ, h]
theorem getR_look {kvs : List (Int × α)} {k : Int} {t : α} (h : getR kvs k = .ok t) : lookZ kvs k = some t := by
  unfold getR at h
  cases e : lookZ kvs k with
  | none => rw [e] at h; cases h
  | some a => rw [e] at h; cases h; rfl
theorem cutD_cut (xs : List α) (lo hi : Option Int) : cutD (xs.map e) lo hi = (cut xs lo hi).map e := by
  have hs : ∀ n d o, HT.sIx n d o = sixZ n d o := fun n d o => by cases o <;> rfl
  unfold cutD cut
  rw [List.length_map, hs, hs, List.map_take, List.map_drop]
theorem rangeD_rng (lo : Int) (hi : Int) : rangeD lo (hi - lo).toNat = (rng lo hi).map D.int := by
  unfold rangeD rng
  rw [List.map_map]; rfl
theorem enumD_enm (xs : List α) : enumD (xs.map e) = (enm xs).map (eT2 D.int e) := by
  unfold enumD enm
  apply List.ext_getElem? ; intro i
  simp only [List.getElem?_mapIdx, List.getElem?_map, Option.map_map]
  rfl
/-! sorted -/
end
/-! ### data that == tells apart as Lean does -/
structure EqT {α : Type} [DecidableEq α] (n : Nat) (e : α → D) : Prop where
  shp : ∀ m, n ≤ m → ∀ x, (e x).shp m = true
  eqv : ∀ x y, D.eqv (e x) (e y) = decide (x = y)
theorem EqT.int : EqT 0 D.int := ⟨fun m _ x => by simp [D.shp], fun x y => eqv_int x y⟩
theorem EqT.bl : EqT 0 D.bl := ⟨fun m _ x => by simp [D.shp], fun x y => eqv_bl x y⟩
theorem EqT.lst {α : Type} [DecidableEq α] {n : Nat} {e : α → D} (h : EqT n e) : EqT (n + 1) (eL e) where
  shp := fun m hm x => by
    cases m with
    | zero => omega
    | succ m =>
      show (x.map e).all (D.shp m) = true
      rw [List.all_eq_true]
      intro d hd
      obtain ⟨y, _, rfl⟩ := List.mem_map.mp hd
      exact h.shp m (by omega) y
  eqv := fun x y => by
    show PyData.eqvAll (D.pys (x.map e)) (D.pys (y.map e)) = _
    induction x generalizing y with
    | nil => cases y <;> rfl
    | cons a x ih => cases y with
      | nil => rfl
      | cons b y =>
        show (D.eqv (e a) (e b) && PyData.eqvAll (D.pys (x.map e)) (D.pys (y.map e))) = _
        rw [ih y, h.eqv]
        by_cases h1 : a = b <;> by_cases h2 : x = y <;> simp [h1, h2]
theorem EqT.tup2 {α β : Type} [DecidableEq α] [DecidableEq β] {n m : Nat} {e : α → D} {f : β → D} (h : EqT n e) (k : EqT m f) : EqT (max n m + 1) (eT2 e f) where
  shp := fun l hl x => by
    cases l with
    | zero => omega
    | succ l =>
      show [e x.1, f x.2].all (D.shp l) = true
      simp [h.shp l (by omega), k.shp l (by omega)]
  eqv := fun x y => by
    show (D.eqv (e x.1) (e y.1) && (D.eqv (f x.2) (f y.2) && true)) = _
    rw [h.eqv, k.eqv, Bool.and_true]
    by_cases h1 : x.1 = y.1 <;> by_cases h2 : x.2 = y.2 <;> simp [h1, h2, Prod.ext_iff]
theorem EqT.tup3 {α β γ : Type} [DecidableEq α] [DecidableEq β] [DecidableEq γ] {n m l : Nat} {e : α → D} {f : β → D} {g : γ → D} (h : EqT n e) (k : EqT m f) (j : EqT l g) : EqT (max n (max m l) + 1) (eT3 e f g) where
  shp := fun i hi x => by
    cases i with
    | zero => omega
    | succ i =>
      show [e x.1, f x.2.1, g x.2.2].all (D.shp i) = true
      simp [h.shp i (by omega), k.shp i (by omega), j.shp i (by omega)]
  eqv := fun x y => by
    show (D.eqv (e x.1) (e y.1) && (D.eqv (f x.2.1) (f y.2.1) && (D.eqv (g x.2.2) (g y.2.2) && true))) = _
    rw [h.eqv, k.eqv, j.eqv, Bool.and_true]
    by_cases h1 : x.1 = y.1 <;> by_cases h2 : x.2.1 = y.2.1 <;> by_cases h3 : x.2.2 = y.2.2 <;> simp [h1, h2, h3, Prod.ext_iff]
theorem EqT.optI : EqT 0 (eO D.int) where
  shp := fun m _ x => by cases x <;> simp [eO, D.shp]
  eqv := fun x y => by
    cases x with
    | none => cases y <;> rfl
    | some a => cases y with
      | none => rfl
      | some b => show D.eqv (.int a) (.int b) = _; rw [eqv_int]; simp
end Fw

set_option Elab.async false
set_option linter.all false
set_option maxRecDepth 100000
namespace Fw
variable [TbC]
open PySem L2
section
variable {K : PySem.W.Frag} {q : Bool} {μ μ1 μ2 μ3 : MEnv} {i : Nat} {α β γ : Type} {e : α → D} {f : β → D} {g : γ → D} {te ta tb tc : TE} {ts : TA} {d : D} {a b c k : Int}
/-! ### guarded numbers -/
theorem e_div (ha : EV K q ta μ (.int a) μ1) (hb : EV K q tb μ1 (.int b) μ2) (h : divR a b = .ok c) : EV K q (tOp (rI CDivW fun i j => .int (i / j)) ta tb) μ (.int c) μ2 := by
  unfold divR at h
  split at h
  · rename_i hc; cases h
    exact e_twoC (f := fun i j => .int (i / j)) (fun _ _ _ => .int _) ha hb hc
  · cases h
theorem e_mod (ha : EV K q ta μ (.int a) μ1) (hb : EV K q tb μ1 (.int b) μ2) (h : modR a b = .ok c) : EV K q (tOp (rI (fun _ j => 0 < j) fun i j => .int (i % j)) ta tb) μ (.int c) μ2 := by
  unfold modR at h
  split at h
  · rename_i hc; cases h
    exact e_twoC (C := fun _ j => 0 < j) (f := fun i j => .int (i % j)) (fun _ _ _ => .int _) ha hb hc
  · cases h
theorem e_pow (ha : EV K q ta μ (.int a) μ1) (hb : EV K q tb μ1 (.int b) μ2) (h : powR a b = .ok c) : EV K q (tOp (rI CPow fun i j => .int (i ^ j.toNat)) ta tb) μ (.int c) μ2 := by
  unfold powR at h
  split at h
  · rename_i hc; cases h
    exact e_twoC (f := fun i j => .int (i ^ j.toNat)) (fun _ _ _ => .int _) ha hb hc
  · cases h
abbrev CMulA (i j : Int) : Prop := i.natAbs.log2 + j.natAbs.log2 < 1000000 ∨ (-(2 ^ 64) < j ∧ j < 2 ^ 64) ∨ (-(2 ^ 64) < i ∧ i < 2 ^ 64)
theorem e_mul (ha : EV K q ta μ (.int a) μ1) (hb : EV K q tb μ1 (.int b) μ2) (h : mulR a b = .ok c) : EV K q (tOp (rI CMulA fun i j => .int (i * j)) ta tb) μ (.int c) μ2 := by
  unfold mulR at h
  split at h
  · rename_i hc; cases h
    exact e_twoC (f := fun i j => .int (i * j)) (fun _ _ _ => .int _) ha hb hc
  · cases h
/-! ### comparisons -/
theorem e_ne {d e : D} (ha : EB K q ta μ d μ1) (hb : EB K true tb μ1 e μ1) (h1 : d.shp 64 = true) (h2 : e.shp 64 = true) : EV K q (tOp (rNeD K) ta tb) μ (.bl (!d.eqv e)) μ1 := fun ρ ab => by
  refine ev_ne ((ha ρ ab).imp fun d' ρ1 ⟨e1, k1⟩ => ?_)
  refine e_eq.evb_mono ((evb_q (hb ρ1 k1)).imp fun e' ρ2 ⟨⟨e2, k2⟩, e3⟩ => ?_)
  subst e1 e2 e3
  exact ⟨rfl, h1, h2, rfl, k2⟩
theorem e_eqT [DecidableEq α] {n : Nat} {x y : α} (hq : EqT n e) (hn : n ≤ 64) (ha : EB K q ta μ (e x) μ1) (hb : EB K true tb μ1 (e y) μ1) : EV K q (tOp (rEqD K) ta tb) μ (.bl (decide (x = y))) μ1 :=
  (e_eq ha hb (hq.shp _ hn x) (hq.shp _ hn y)).cast (by rw [hq.eqv])
theorem e_neT [DecidableEq α] {n : Nat} {x y : α} (hq : EqT n e) (hn : n ≤ 64) (ha : EB K q ta μ (e x) μ1) (hb : EB K true tb μ1 (e y) μ1) : EV K q (tOp (rNeD K) ta tb) μ (.bl (!decide (x = y))) μ1 :=
  (e_ne ha hb (hq.shp _ hn x) (hq.shp _ hn y)).cast (by rw [hq.eqv])
theorem e_eqV [DecidableEq α] {n : Nat} {x y : α} (hq : EqT n e) (hn : n ≤ 64) (ha : EV K q ta μ (e x) μ1) (hb : EV K q tb μ1 (e y) μ2) : EV K q (tOp (rEqD K) ta tb) μ (.bl (decide (x = y))) μ2 := fun ρ ab =>
  ev_eqV ((ha ρ ab).imp fun d' ρ1 ⟨e1, k1⟩ => (hb ρ1 k1).imp fun e' ρ2 ⟨e2, k2⟩ => by subst e1 e2; exact ⟨hq.shp _ hn x, hq.shp _ hn y, by rw [hq.eqv], k2⟩)
theorem e_neV [DecidableEq α] {n : Nat} {x y : α} (hq : EqT n e) (hn : n ≤ 64) (ha : EV K q ta μ (e x) μ1) (hb : EV K q tb μ1 (e y) μ2) : EV K q (tOp (rNeD K) ta tb) μ (.bl (!decide (x = y))) μ2 := fun ρ ab =>
  ev_neV ((ha ρ ab).imp fun d' ρ1 ⟨e1, k1⟩ => (hb ρ1 k1).imp fun e' ρ2 ⟨e2, k2⟩ => by subst e1 e2; exact ⟨hq.shp _ hn x, hq.shp _ hn y, by rw [hq.eqv], k2⟩)
theorem e_isN (h : EB K q ta μ d μ1) : EV K q (tOp rIsN ta (tC .non)) μ (.bl d.isN) μ1 := fun ρ ab => ev_isN ((h ρ ab).imp fun d' ρ1 ⟨e, k⟩ => ⟨by rw [e], k⟩)
theorem isN_O {x : Option α} (h : ∀ a, (e a).isN = false) : (eO e x).isN = x.isNone := by cases x with
  | none => rfl
  | some a => exact h a
theorem e_isNO {x : Option α} (h : EB K q ta μ (eO e x) μ1) (he : ∀ a, (e a).isN = false := by intro _; rfl) : EV K q (tOp rIsN ta (tC .non)) μ (.bl x.isNone) μ1 := (e_isN h).cast (by rw [isN_O he])
/-- what is there -/
theorem e_some {x : Option α} {t : α} (h : EV K q ta μ (eO e x) μ1) (hx : ofO x = .ok t) : EV K q ta μ (e t) μ1 := by
  cases x with
  | none => cases hx
  | some y => cases hx; exact h
/-! ### lists -/
theorem d_nil : ED K q tNil μ [] μ := fun ρ ab => evd_nil ⟨rfl, ab⟩
theorem d_cons {ds : List D} (h : EV K q te μ d μ1) (k : ED K q ts μ1 ds μ2) : ED K q (tCons te ts) μ (d :: ds) μ2 := fun ρ ab => evd_cons ((h ρ ab).imp fun d' ρ1 ⟨e1, k1⟩ => by
  subst e1
  exact fun σ F H Q ok c => (k ρ1 k1) σ F H Q ok fun ds' vs F' H' ρ' x y z w ⟨e2, k2⟩ => c ds' vs F' H' ρ' x y z w ⟨by rw [e2], k2⟩)
theorem ED.imp {Φ Φ' : List D → Env → Prop} {ρ : Env} (h : evd K q ts ρ Φ) (i : ∀ d ρ', Φ d ρ' → Φ' d ρ') : evd K q ts ρ Φ' := fun σ F H Q ok k =>
  h σ F H Q ok fun d v F' H' ρ' a b c e f => k d v F' H' ρ' a b c e (i _ _ f)
theorem e_lst (e : α → D) (xs : List α) (h : ED K false ts μ (xs.map e) μ1) (hl : xs.length ≤ sizeLine := by decide) : EO K (tLst ts) μ (oL e xs) μ1 := fun ρ ab =>
  evo_lst (ED.imp (h ρ ab) fun ds ρ1 ⟨e1, k1⟩ => ⟨by rw [e1, List.length_map]; exact hl, fun a _ => ⟨by rw [e1]; rfl, k1⟩⟩)
theorem e_dnew (e : α → D) : EO K tDNewK μ (oDc e []) μ := fun ρ ab => evo_dnew fun a _ => ⟨rfl, ab⟩
theorem e_tup2 {x : α} {y : β} (h : ED K false ts μ [e x, f y] μ1) : EV K false (tTup ts) μ (eT2 e f (x, y)) μ1 := fun ρ ab =>
  ev_tup (ED.imp (h ρ ab) fun ds ρ1 ⟨e1, k1⟩ => ⟨by rw [e1]; exact (by decide : (2 : Nat) ≤ sizeLine), by rw [e1]; rfl, k1⟩)
theorem e_tup3 {x : α} {y : β} {z : γ} (h : ED K false ts μ [e x, f y, g z] μ1) : EV K false (tTup ts) μ (eT3 e f g (x, y, z)) μ1 := fun ρ ab =>
  ev_tup (ED.imp (h ρ ab) fun ds ρ1 ⟨e1, k1⟩ => ⟨by rw [e1]; exact (by decide : (3 : Nat) ≤ sizeLine), by rw [e1]; rfl, k1⟩)
theorem e_len {xs : List α} (h : EB K q te μ d μ1) (hd : d.sq = some (xs.map e)) : EV K q (tCB (rLenS K) (tCons te tNil)) μ (.int xs.length) μ1 := fun ρ ab =>
  ev_len ((h ρ ab).imp fun d' ρ1 ⟨e1, k1⟩ => ⟨xs.map e, by rw [e1]; exact hd, by rw [List.length_map], k1⟩)
theorem e_ix {xs : List α} {t : α} (ha : EB K q ta μ d μ1) (hd : d.sq = some (xs.map e)) (hb : EV K true tb μ1 (.int k) μ1) (hx : idx xs k = .ok t) : EV K q (tOp (rIx K) ta tb) μ (e t) μ1 := fun ρ ab =>
  ev_ix ((ha ρ ab).imp fun d' ρ1 ⟨e1, k1⟩ => (hb ρ1 k1).imp fun i' ρ2 ⟨e2, k2⟩ => ⟨k, e2, xs.map e, e t, by rw [e1]; exact hd, by rw [atI_atZ, idx_at hx]; rfl, rfl, k1⟩)
theorem e_ixV {xs : List α} {t : α} (ha : EV K q ta μ d μ1) (hd : d.sq = some (xs.map e)) (hb : EV K q tb μ1 (.int k) μ2) (hx : idx xs k = .ok t) : EV K q (tOp (rIx K) ta tb) μ (e t) μ2 := fun ρ ab =>
  ev_ixV ((ha ρ ab).imp fun d' ρ1 ⟨e1, k1⟩ => (hb ρ1 k1).imp fun i' ρ2 ⟨e2, k2⟩ => ⟨k, e2, xs.map e, e t, by rw [e1]; exact hd, by rw [atI_atZ, idx_at hx]; rfl, rfl, k2⟩)
/-- t[k], t a tuple, k written -/
theorem e_ixT {ds : List D} {y : D} (ha : EB K q ta μ d μ1) (hd : d.sq = some ds) (hb : EV K true tb μ1 (.int k) μ1) (hx : atI ds k = some y) : EV K q (tOp (rIx K) ta tb) μ y μ1 := fun ρ ab =>
  ev_ix ((ha ρ ab).imp fun d' ρ1 ⟨e1, k1⟩ => (hb ρ1 k1).imp fun i' ρ2 ⟨e2, k2⟩ => ⟨k, e2, ds, y, by rw [e1]; exact hd, hx, rfl, k1⟩)
theorem e_p20 {p : α × β} (ha : EB K q ta μ (eT2 e f p) μ1) (hb : EV K true tb μ1 (.int 0) μ1) : EV K q (tOp (rIx K) ta tb) μ (e p.1) μ1 := e_ixT ha rfl hb rfl
theorem e_p21 {p : α × β} (ha : EB K q ta μ (eT2 e f p) μ1) (hb : EV K true tb μ1 (.int 1) μ1) : EV K q (tOp (rIx K) ta tb) μ (f p.2) μ1 := e_ixT ha rfl hb rfl
theorem p_none : EP K tNoPart μ none := fun ρ ab => eo_none rfl
theorem p_some (h : EV K true te μ (.int k) μ) : EP K (tPart te) μ (some k) := fun ρ ab => eo_some ((h ρ ab).imp fun d ρ1 ⟨e1, _⟩ => ⟨k, e1, rfl⟩)
theorem e_slice {xs : List α} {lo hi : Option Int} {tl th : TO} (h : EB K false te μ d μ1) (hd : d.ls = some (xs.map e)) (hl : EP K tl μ1 lo) (hh : EP K th μ1 hi) : EO K (tSl (rSlL K) te tl th) μ (oL e (cut xs lo hi)) μ1 := fun ρ ab =>
  evo_slice ((h ρ ab).imp fun d' ρ1 ⟨e1, k1⟩ => imp_o (hl ρ1 k1) fun lo' _ e2 => imp_o (hh ρ1 k1) fun hi' _ e3 => ⟨xs.map e, by rw [e1]; exact hd, fun a _ => ⟨by rw [e2, e3, cutD_cut]; rfl, k1⟩⟩)
where
  imp_o {to : TO} {ρ : Env} {Φ Φ' : Option Int → Env → Prop} (h : eo K true to ρ Φ) (i : ∀ d ρ', Φ d ρ' → Φ' d ρ') : eo K true to ρ Φ' := fun σ F H Q ok k =>
    h σ F H Q ok fun d F' H' ρ' a c e f => k d F' H' ρ' a c e (i _ _ f)
theorem catR_ok {xs ys zs : List α} (h : catR xs ys = .ok zs) : xs.length + ys.length ≤ sizeLine ∧ zs = xs ++ ys := by
  unfold catR at h
  split at h
  · rename_i hl; cases h; exact ⟨hl, rfl⟩
  · cases h
theorem e_catV {xs ys zs : List α} (ha : EV K false ta μ (eL e xs) μ1) (hb : EV K false tb μ1 (eL e ys) μ2) (h : catR xs ys = .ok zs) : EO K (tOp rCat ta tb) μ (oL e zs) μ2 := fun ρ ab => by
  obtain ⟨hl, rfl⟩ := catR_ok h
  refine evo_catV ((ha ρ ab).imp fun d' ρ1 ⟨e1, k1⟩ => (hb ρ1 k1).imp fun e' ρ2 ⟨e2, k2⟩ => ⟨xs.map e, ys.map e, e1, e2, by rw [List.length_map, List.length_map]; exact hl, fun a _ => ⟨?_, k2⟩⟩)
  show MO.lst _ = MO.lst _
  rw [List.map_append]
theorem e_list {xs : List α} (h : EB K false te μ d μ1) (hd : d.sq = some (xs.map e)) : EO K (tCB (rListOf K) (tCons te tNil)) μ (oL e xs) μ1 := fun ρ ab =>
  evo_list ((h ρ ab).imp fun d' ρ1 ⟨e1, k1⟩ => ⟨xs.map e, by rw [e1]; exact hd, fun a _ => ⟨rfl, k1⟩⟩)
/-! ### dicts -/
theorem keysD_map (kvs : List (Int × α)) : keysD (kvs.map (kvD e)) = (keysZ kvs).map D.int := by
  unfold keysD keysZ
  rw [List.map_map, List.map_map]; rfl
theorem e_din {kvs : List (Int × α)} (ha : EV K q ta μ (.int k) μ1) (hb : EB K q tb μ1 d μ2) (hd : d = .dct (kvs.map (kvD e))) : EV K q (tDIn ta tb) μ (.bl (hasZ kvs k)) μ2 := fun ρ ab =>
  ev_din ((ha ρ ab).imp fun d' ρ1 ⟨e1, k1⟩ => (hb ρ1 k1).imp fun e' ρ2 ⟨e2, k2⟩ => ⟨.inl k, _, e1, e2.trans hd, by rw [lookD_lookZ]; unfold hasZ; rw [Option.isSome_map], k2⟩)
theorem e_dnotin {kvs : List (Int × α)} (ha : EV K q ta μ (.int k) μ1) (hb : EB K q tb μ1 d μ2) (hd : d = .dct (kvs.map (kvD e))) : EV K q (tDNotIn ta tb) μ (.bl (!hasZ kvs k)) μ2 := fun ρ ab =>
  ev_dnotin ((ha ρ ab).imp fun d' ρ1 ⟨e1, k1⟩ => (hb ρ1 k1).imp fun e' ρ2 ⟨e2, k2⟩ => ⟨.inl k, _, e1, e2.trans hd, by rw [lookD_lookZ]; unfold hasZ; rw [Option.isSome_map], k2⟩)
theorem e_dget {kvs : List (Int × α)} {t : α} (ha : EB K q ta μ d μ1) (hd : d = .dct (kvs.map (kvD e))) (hb : EV K true tb μ1 (.int k) μ1) (hx : getR kvs k = .ok t) : EV K q (tDGet ta tb) μ (e t) μ1 := fun ρ ab =>
  ev_dget ((ha ρ ab).imp fun d' ρ1 ⟨e1, k1⟩ => (hb ρ1 k1).imp fun e' ρ2 ⟨e2, k2⟩ => ⟨.inl k, _, e t, e2, e1.trans hd, by rw [lookD_lookZ, getR_look hx]; rfl, rfl, k1⟩)
theorem e_dget2 {kvs : List (Int × α)} {z : α} (ha : EB K q ta μ d μ1) (hd : d = .dct (kvs.map (kvD e))) (hb : EV K true tb μ1 (.int k) μ1) (hc : EV K true tc μ1 (e z) μ1) : EV K q (tDGet2 ta tb tc) μ (e ((lookZ kvs k).getD z)) μ1 := fun ρ ab =>
  ev_dget2 ((ha ρ ab).imp fun d' ρ1 ⟨e1, k1⟩ => ⟨_, e1.trans hd, (hb ρ1 k1).imp fun e' ρ2 ⟨e2, k2⟩ => (hc ρ1 k1).imp fun e3 ρ3 ⟨e4, k3⟩ => ⟨.inl k, e2, by rw [lookD_lookZ, e4]; cases lookZ kvs k <;> rfl, k1⟩⟩)
/-! ### in -/
/-! ### isinstance, fields -/
theorem e_isi {n : String} {t : String} {p : Bool} (h : EB K q te μ d μ1) (ht : d.tyn = some t) (hb : kitB t n = some p := by decide +kernel) : EV K q (tCB (rIsi K) (tCons te (tCons (tC (.ty n)) tNil))) μ (.bl p) μ1 := fun ρ ab =>
  ev_isi ((h ρ ab).imp fun d' ρ1 ⟨e1, k1⟩ => ⟨t, p, by rw [e1]; exact ht, hb, rfl, k1⟩)
theorem e_fld {C : Addr} {fs : List (Str × D)} {x : Str} {y : D} (h : EV K q ta μ (.ins C fs) μ1) (hc : Cls K C) (hn : NoAttr K C x) (hl : fs.lookup x = some y) : EV K q (tFld K ta x) μ y μ1 := fun ρ ab =>
  ev_fld ((h ρ ab).imp fun d' ρ1 ⟨e1, k1⟩ => ⟨C, fs, y, e1, hc, hn, hl, rfl, k1⟩)
/-! ### what is walked -/
theorem i_list {xs : List α} (h : EV K false te μ d μ1) (hd : d.ls = some (xs.map e)) : EI K noS (iList K te) μ (xs.map e) μ1 := fun ρ ab =>
  ei_list ((h ρ ab).imp fun d' ρ1 ⟨e1, k1⟩ => ⟨xs.map e, by rw [e1]; exact hd, rfl, k1⟩)
theorem rngR_ok {lo hi : Int} {xs : List Int} (h : rngR lo hi = .ok xs) : (-(2 ^ 62) ≤ lo ∧ lo < 2 ^ 62 ∧ -(2 ^ 62) ≤ hi ∧ hi < 2 ^ 62) ∧ xs = rng lo hi := by
  unfold rngR at h
  split at h
  · rename_i hc; cases h; exact ⟨hc, rfl⟩
  · cases h
theorem i_rng1 {hi : Int} {xs : List Int} (h : ED K false ts μ [.int hi] μ1) (hx : rngR 0 hi = .ok xs) : EI K noS (iRng1 ts) μ (xs.map D.int) μ1 := fun ρ ab => by
  obtain ⟨hb, rfl⟩ := rngR_ok hx
  exact ei_range1 (ED.imp (h ρ ab) fun ds ρ1 ⟨e1, k1⟩ => ⟨hi, e1, hb.2.2.1, hb.2.2.2, by rw [← rangeD_rng, Int.sub_zero], k1⟩)
theorem i_enum {xs : List α} (h : ED K false ts μ [d] μ1) (hd : d.ls = some (xs.map e)) : EI K noS (iEnum K ts) μ ((enm xs).map (eT2 D.int e)) μ1 := fun ρ ab =>
  ei_enum (ED.imp (h ρ ab) fun ds ρ1 ⟨e1, k1⟩ => ⟨d, _, e1, hd, by rw [enumD_enm], k1⟩)
/-! ### targets -/
variable {w : Option (List Nat)} {G : TG}
theorem g_name (hw : ∀ l, w = some l → i ∈ l := by intro l z; first | (cases z; done) | (cases z; decide)) : GT K w (gName i) d μ (μ.set i (some (.v d))) := fun ρ ab => gt_name hw (ab.set .v i)
theorem gs_nil : GS K w gNil [] μ μ := fun ρ ab => gts_nil ab
theorem gs_cons {gs : TGs} {ds : List D} (h : GT K w G d μ μ1) (k : GS K w gs ds μ1 μ2) : GS K w (gCons G gs) (d :: ds) μ μ2 := fun ρ ab =>
  gts_cons fun σ F H v Q ok r c => h ρ ab σ F H v Q ok r fun σ' ρ' ok' n ww k1 => c σ' ρ' ok' n ww (k ρ' k1)
theorem g_tup {n : Nat} {gs : TGs} {ds : List D} (hl : ds.length = n) (h : GS K w gs ds μ μ1) : GT K w (gTup K n gs) (.tup ds) μ μ1 := fun ρ ab => gt_tup hl (h ρ ab)
theorem g_tup2 {g1 g2 : TG} {p : α × β} (h : GT K w g1 (e p.1) μ μ1) (k : GT K w g2 (f p.2) μ1 μ2) : GT K w (gTup K 2 (gCons g1 (gCons g2 gNil))) (eT2 e f p) μ μ2 := g_tup rfl (gs_cons h (gs_cons k gs_nil))
end
end Fw

set_option Elab.async false
set_option linter.all false
set_option maxRecDepth 100000
namespace Fw
variable [TbC]
open PySem L2
/-! ### arguments, calls -/
def MAr.sl : MAr → MSl
  | .v d => .v d
  | .s _ c => .o none c
def MAr.ix : MAr → Option Nat
  | .v _ => none
  | .s i _ => some i
/-- slot i's thing becomes c -/
def setS : Option MSl → MSl → Option MSl
  | some (.o t _), .o _ c => some (.o t c)
  | _, _ => none
def setC : MEnv → Nat → MSl → MEnv
  | [], _, _ => []
  | x :: μ, 0, c => setS x c :: μ
  | x :: μ, i + 1, c => x :: setC μ i c
def bkM : List MAr → List MSl → MEnv → MEnv
  | .v _ :: as, _ :: cs, μ => bkM as cs μ
  | .s i _ :: as, c :: cs, μ => setC (bkM as cs μ) i c
  | _, _, μ => μ
theorem Ab.setC {ρ : Env} {μ : MEnv} (h : Ab ρ μ) {i : Nat} {a : Addr} {c0 : O} (hi : ρ[i]? = some (some (.o a c0))) {s : Sl} {y : MSl} (hs : (∃ c', s = .o a c' ∧ ∃ t, y = .o t c'.m) ∨ (∃ d, y = .v d)) : Ab (ρ.set i (some s)) (Fw.setC μ i y) := by
  induction h generalizing i with
  | nil => exact .nil
  | @cons x z ρ μ a1 b ih =>
    cases i with
    | zero =>
      simp at hi
      subst hi
      rcases hs with ⟨c', rfl, t, rfl⟩ | ⟨d, rfl⟩
      · cases a1 with
        | any => exact .cons .any b
        | o => exact .cons .o b
        | t => exact .cons .t b
      · cases z with
        | none => exact .cons .any b
        | some z => cases z <;> exact .cons .any b
    | succ i => exact .cons a1 (ih (i := i) (by simpa using hi))
/-- what a def is worth: the arguments, the answer, the arguments behind the call -/
abbrev FC := List MSl → MSl → List MSl → Prop
/-- which error a def lets out -/
abbrev FX := Xc → FC
abbrev noX : FX := fun _ _ _ _ => False
inductive Cs : List Sl → List MSl → Prop
  | nil : Cs [] []
  | cons {s : Sl} {c : MSl} {ss : List Sl} {cs : List MSl} : s.is c → Cs ss cs → Cs (s :: ss) (c :: cs)
/-- behind the call: what was handed by place is where it was -/
inductive Cs2 : List Sl → List Sl → List MSl → Prop
  | nil : Cs2 [] [] []
  | v {d : D} {ss ss' : List Sl} {cs : List MSl} : Cs2 ss ss' cs → Cs2 (.v d :: ss) (.v d :: ss') (.v d :: cs)
  | o {a : Addr} {c c' : O} {t : Option Addr} {ss ss' : List Sl} {cs : List MSl} : Cs2 ss ss' cs → Cs2 (.o a c :: ss) (.o a c' :: ss') (.o t c'.m :: cs)
def ctO (C : FC) : List Sl → (Sl → List Sl → Prop) → Prop := fun ss Φ => ∃ cs r cs', Cs ss cs ∧ C cs r cs' ∧ ∀ s ss', s.is r → Cs2 ss ss' cs' → Φ s ss'
def ctOf (C : FC) (CE : FX) : Ct := ⟨ctO C, fun x => ctO (CE x)⟩
theorem Sl.is_d {s : Sl} {r : MSl} (h : s.is r) : s.d = r.d := by
  cases r with
  | v d => cases h; rfl
  | o t c => obtain ⟨a, c', rfl, rfl⟩ := h; exact (O.md c').symm
section
variable {K : PySem.W.Frag} {q : Bool} {μ μ1 μ2 μ3 : MEnv} {i : Nat} {te : TE} {ta tk : TA}
theorem a_nil : EA K tNil μ [] μ := fun ρ ab => eva_nil ⟨rfl, fun _ _ _ _ z => by simp at z, ab⟩
theorem a_v {d : D} {as : List MAr} (h : EV K false te μ d μ1) (k : EA K ta μ1 as μ2) : EA K (tCons te ta) μ (.v d :: as) μ2 := fun ρ ab =>
  eva_v ((h ρ ab).imp fun d' ρ1 ⟨e1, k1⟩ => (k ρ1 k1).imp fun as' ρ2 ⟨e2, e3, k2⟩ => ⟨by subst e1 e2; rfl, fun j i a c z => by
    cases j with
    | zero => simp at z
    | succ j => exact e3 j i a c (by simpa using z), k2⟩)
theorem a_s {t0 t : Option Addr} {c0 c : MO} {as : List MAr} (h : μ[i]? = some (some (.o t0 c0))) (k : EA K ta μ as μ1) (h2 : μ1[i]? = some (some (.o t c))) : EA K (tCons (tVar i) ta) μ (.s i c :: as) μ1 := fun ρ ab => by
  obtain ⟨a, c', h3, h4, _⟩ := ab.geto h
  refine evaS h3 ((k ρ ab).imp fun as' ρ2 ⟨e2, e3, k2⟩ => ?_)
  intro hk
  obtain ⟨a2, c2, h5, h6, _⟩ := k2.geto h2
  have : a2 = a := hk a2 c2 h5
  subst this
  refine ⟨c2, h5, ?_, fun j i' a c z => ?_, k2⟩
  · subst e2
    show (_ :: _ : List MAr) = _
    rw [← h6]; rfl
  · cases j with
    | zero => simp at z; obtain ⟨rfl, rfl, rfl⟩ := z; exact h5
    | succ j => exact e3 j i' a c (by simpa using z)
where
  evaS {i : Nat} {a : Addr} {c : O} {ta : TA} {ρ : Env} {Φ : List Ar → Env → Prop} (h : ρ[i]? = some (some (.o a c))) (k : eva K ta ρ fun as ρ2 => (∀ a2 c2, ρ2[i]? = some (some (.o a2 c2)) → a2 = a) → ∃ c', ρ2[i]? = some (some (.o a c')) ∧ Φ (.s i a c' :: as) ρ2) :
      eva K (tCons (tVar i) ta) ρ Φ := fun σ F H Q ok f => by
    obtain ⟨v, e, rfl, n, r⟩ := ok.at_ i _ h
    refine ⟨_, e, ?_⟩
    refine k σ F H _ ok fun as vs F2 H2 ρ2 ok2 r2 s2 k2 => ?_
    obtain ⟨c', h2, k3⟩ := k2 fun a2 c2 h9 => by
      obtain ⟨v2, e2, e3, _⟩ := ok2.at_ i _ h9
      rw [e] at e2; cases e2; cases e3; rfl
    exact f _ _ F2 H2 ρ2 ok2 (.s h2 r2) s2 k3
theorem cs_of {as : List Ar} : Cs (as.map Ar.sl) ((as.map Ar.m).map MAr.sl) := by
  induction as with
  | nil => exact .nil
  | cons a as ih => cases a with
    | v d => exact .cons rfl ih
    | s i a c => exact .cons ⟨a, c, rfl, rfl⟩ ih
theorem ix_of : ∀ as : List Ar, as.filterMap Ar.ix = (as.map Ar.m).filterMap MAr.ix
  | [] => rfl
  | .v d :: as => by
    show as.filterMap Ar.ix = (as.map Ar.m).filterMap MAr.ix
    exact ix_of as
  | .s i a c :: as => by
    show i :: as.filterMap Ar.ix = i :: (as.map Ar.m).filterMap MAr.ix
    rw [ix_of as]
theorem bk_ab {ρ : Env} {μ : MEnv} (ab : Ab ρ μ) : ∀ {as : List Ar} {ss' : List Sl} {cs' : List MSl}, (∀ (j i : Nat) a c, as[j]? = some (.s i a c) → ρ[i]? = some (some (.o a c))) → (as.filterMap Ar.ix).Nodup → Cs2 (as.map Ar.sl) ss' cs' → Ab (bk as ss' ρ) (bkM (as.map Ar.m) cs' μ)
  | [], ss', cs', h, nd, c2 => by cases c2; exact ab
  | .v d :: as, _, _, h, nd, .v c2 => bk_ab (as := as) ab (fun j i a c z => h (j + 1) i a c (by simpa using z)) (show (as.filterMap Ar.ix).Nodup from nd) c2
  | .s i a c :: as, _, _, h, nd, .o (c' := c') c2 => by
    have nd' : (i :: as.filterMap Ar.ix).Nodup := nd
    have ih := bk_ab (as := as) ab (fun j i a c z => h (j + 1) i a c (by simpa using z)) (List.nodup_cons.mp nd').2 c2
    have h0 := h 0 i a c rfl
    have : ∀ (as : List Ar) (ss : List Sl), i ∉ as.filterMap Ar.ix → (bk as ss ρ)[i]? = ρ[i]? := by
      intro as
      induction as with
      | nil => intro ss _; rfl
      | cons x as ih2 =>
        intro ss hn
        match x, ss with
        | .v _, [] => rfl
        | .s _ _ _, [] => rfl
        | .v _, _ :: ss => exact ih2 ss (by simpa [Ar.ix] using hn)
        | .s j _ _, s :: ss =>
          have hn' : i ∉ j :: as.filterMap Ar.ix := hn
          show ((bk as ss ρ).set j (some s))[i]? = _
          rw [List.getElem?_set_ne (fun z : j = i => hn' (by rw [z]; exact List.mem_cons_self)), ih2 ss fun z => hn' (List.mem_cons_of_mem _ z)]
    exact ih.setC (by rw [this _ _ (List.nodup_cons.mp nd').1]; exact h0) (.inl ⟨c', rfl, _, rfl⟩)
theorem call_ct {C : FC} {as : List Ar} {ρ : Env} {ds : List D} {am : List MAr} {r : MSl} {cs' : List MSl} (e1 : as.map Ar.m = am) (hp : ∀ (j i : Nat) a c, as[j]? = some (.s i a c) → ρ[i]? = some (some (.o a c))) (ab : Ab ρ μ)
    (hC : C (am.map MAr.sl ++ ds.map .v) r (cs' ++ ds.map .v)) (hl : am.length = cs'.length) (nd : ndb (am.filterMap MAr.ix) = true) {Φ : Sl → Env → Prop} (k : ∀ s ρ', s.is r → Ab ρ' (bkM am cs' μ) → Φ s ρ') :
    ctO C ((as ++ ds.map Ar.v).map Ar.sl) fun s ss' => Φ s (bk (as ++ ds.map .v) ss' ρ) := by
  refine ⟨am.map MAr.sl ++ ds.map .v, r, cs' ++ ds.map .v, ?_, hC, fun s ss' h1 h2 => ?_⟩
  · rw [List.map_append]
    subst e1
    clear hC
    induction as with
    | nil =>
      clear hp hl nd
      induction ds with
      | nil => exact .nil
      | cons d ds ih => exact .cons rfl ih
    | cons x as ih =>
      cases x with
      | v d => exact .cons rfl (app_cs ds cs_of)
      | s i a c => exact .cons ⟨a, c, rfl, rfl⟩ (app_cs ds cs_of)
  · refine k s _ h1 ?_
    subst e1
    have nd' : (as.filterMap Ar.ix).Nodup := by rw [ix_of]; exact ndb_ok nd
    have hl' : as.length = cs'.length := by simpa using hl
    clear hC nd k h1
    -- the data behind the arguments
    have key : ∀ (as : List Ar) (cs' : List MSl) (ss' : List Sl), as.length = cs'.length → Cs2 ((as ++ ds.map Ar.v).map Ar.sl) ss' (cs' ++ ds.map .v) → ∃ s1, Cs2 (as.map Ar.sl) s1 cs' ∧ bk (as ++ ds.map .v) ss' ρ = bk as s1 ρ := by
      intro as
      induction as with
      | nil =>
        intro cs' ss' hl h2
        cases cs' with
        | cons _ _ => simp at hl
        | nil =>
          exact ⟨[], .nil, bk_ds ds ss'⟩
      | cons x as ih =>
        intro cs' ss' hl h2
        cases cs' with
        | nil => simp at hl
        | cons c cs' =>
          cases x with
          | v d =>
            cases h2 with
            | v h2 => obtain ⟨s1, a1, a2⟩ := ih cs' _ (by simpa using hl) h2; exact ⟨_ :: s1, .v a1, a2⟩
          | s i a c0 =>
            cases h2 with
            | o h2 =>
              obtain ⟨s1, a1, a2⟩ := ih cs' _ (by simpa using hl) h2
              refine ⟨_ :: s1, .o a1, ?_⟩
              show (bk (as ++ ds.map .v) _ ρ).set _ _ = (bk as s1 ρ).set _ _
              rw [a2]
    obtain ⟨s1, a1, a2⟩ := key as cs' ss' hl' h2
    rw [a2]
    exact bk_ab ab hp nd' a1
where
  bk_ds {ρ : Env} : ∀ (ds : List D) (ss' : List Sl), bk (ds.map .v) ss' ρ = ρ
    | [], [] => rfl
    | [], _ :: _ => rfl
    | _ :: _, [] => rfl
    | _ :: ds, _ :: ss' => bk_ds ds ss'
  app_cs {ss : List Sl} {cs : List MSl} (ds : List D) (h : Cs ss cs) : Cs (ss ++ (ds.map Ar.v).map Ar.sl) (cs ++ ds.map .v) := by
    induction h with
    | nil =>
      induction ds with
      | nil => exact .nil
      | cons d ds ih => exact .cons rfl ih
    | cons a _ ih => exact .cons a ih
end
end Fw

set_option Elab.async false
set_option linter.all false
set_option maxRecDepth 100000
namespace Fw
variable [TbC]
open PySem L2
section
variable {K : PySem.W.Frag} {q : Bool} {μ μ1 μ2 μ3 : MEnv} {i j : Nat} {te : TE} {ta tk : TA} {C : FC} {CE : FX} {as : List MAr} {r : MSl} {cs' : List MSl} {E : XK}
theorem e_call (h : EA K ta μ as μ1) (hC : C (as.map MAr.sl) r cs') (hl : as.length = cs'.length := by rfl) (nd : ndb (as.filterMap MAr.ix) = true := by rfl) : EV K false (tCall (spOf K (ctOf C CE)) [] E ta) μ r.d (bkM as cs' μ1) := fun ρ ab =>
  ev_call0 ((h ρ ab).imp fun as' ρ1 ⟨e1, hp, k1⟩ => ⟨by rw [ix_of, e1]; exact nd, by
    have := call_ct (C := C) (ds := []) e1 hp k1 (by simpa using hC) hl nd (Φ := fun s ρ' => s.d = r.d ∧ Ab ρ' (bkM as cs' μ1)) fun s ρ' h1 h2 => ⟨Sl.is_d h1, h2⟩
    show ctO C _ _
    simpa using this⟩)
theorem o_call {t : Option Addr} {c : MO} (h : EA K ta μ as μ1) (hC : C (as.map MAr.sl) (.o t c) cs') (hl : as.length = cs'.length := by rfl) (nd : ndb (as.filterMap MAr.ix) = true := by rfl) : EO K (tCall (spOf K (ctOf C CE)) [] E ta) μ c (bkM as cs' μ1) := fun ρ ab =>
  evo_call0 ((h ρ ab).imp fun as' ρ1 ⟨e1, hp, k1⟩ => ⟨by rw [ix_of, e1]; exact nd, by
    have := call_ct (C := C) (ds := []) (r := .o t c) e1 hp k1 (by simpa using hC) hl nd (Φ := fun s ρ' => ∃ a c', s = .o a c' ∧ (a ∉ owns ρ' → c'.m = c ∧ Ab ρ' (bkM as cs' μ1))) fun s ρ' hi h2 => by obtain ⟨a, c', h1, h3⟩ := hi; exact ⟨a, c', h1, fun _ => ⟨h3, h2⟩⟩
    show ctO C _ _
    simpa using this⟩)
/-! ### statements -/
variable {t u : TS} {o : MOut} {d d' : D} {α : Type} {e : α → D}
/-- less is known from here on -/
theorem Wk.real (h : Wk μ μ1) {σ : St} {F H : Hp} {ρ : Env} (ab : Ab ρ μ) (ok : Ok K σ F H ρ) : ∃ F' ρ', Ok K σ F' H ρ' ∧ Step ρ F H ρ' F' H ∧ Ab ρ' μ1 := by
  have key : ∀ {x y : MEnv}, Wk x y → ∀ {ρ1 ρ2 : Env} {F : Hp}, Ab ρ2 x → Ok K σ F H (ρ1 ++ ρ2) → ∃ F' ρ2', Ok K σ F' H (ρ1 ++ ρ2') ∧ Step (ρ1 ++ ρ2) F H (ρ1 ++ ρ2') F' H ∧ Ab ρ2' y := by
    intro x y h
    induction h with
    | nil => intro ρ1 ρ2 F ab ok; exact ⟨F, ρ2, ok, Step.refl _ _ _, ab⟩
    | @cons x1 y1 ρ μ hs _ ih =>
      intro ρ1 ρ2 F ab ok
      cases ab with
      | @cons z _ ρ2 _ a b =>
        have app : ∀ (z' : Option Sl) ρ2, ρ1 ++ z' :: ρ2 = (ρ1 ++ [z']) ++ ρ2 := fun z' ρ2 => by simp
        have done : ∀ (z' : Option Sl) (F : Hp), AbS z' y1 → Ok K σ F H (ρ1 ++ z' :: ρ2) → ∃ F' ρ2', Ok K σ F' H (ρ1 ++ ρ2') ∧ Step (ρ1 ++ z' :: ρ2) F H (ρ1 ++ ρ2') F' H ∧ Ab ρ2' (y1 :: μ) := fun z' F hz ok => by
          have ok2 := ok
          rw [app z' ρ2] at ok2
          obtain ⟨F', ρ2', h1, h2, h3⟩ := ih b ok2
          rw [← app z' ρ2, ← app z' ρ2'] at h2
          rw [← app z' ρ2'] at h1
          exact ⟨F', z' :: ρ2', h1, h2, .cons hz h3⟩
        cases hs with
        | any => exact done z F .any ok
        | same => exact done z F a ok
        | un => cases a with
          | o => exact done _ F .o ok
          | t => exact done _ F .o ok
        | @frz t0 c =>
          have fr : ∀ a c', AbS (some (Sl.v (O.d c'))) (some (.v c.d)) → Ok K σ F H (ρ1 ++ some (Sl.o a c') :: ρ2) → ∃ F' ρ2', Ok K σ F' H (ρ1 ++ ρ2') ∧ Step (ρ1 ++ some (Sl.o a c') :: ρ2) F H (ρ1 ++ ρ2') F' H ∧ Ab ρ2' (some (.v c.d) :: μ) := fun a c' hz ok => by
            obtain ⟨F1, h1, h2⟩ := freezeS (i := ρ1.length) (a := a) (c := c') ok (by simp)
            have e : (ρ1 ++ some (Sl.o a c') :: ρ2).set ρ1.length (some (Sl.v c'.d)) = ρ1 ++ some (Sl.v c'.d) :: ρ2 := by simp
            rw [e] at h1 h2
            obtain ⟨F2, ρ2', h3, h4, h5⟩ := done _ F1 hz h1
            exact ⟨F2, ρ2', h3, h2.trans h4, h5⟩
          cases a with
          | o => exact fr _ _ (by rw [← O.md]; exact .v) ok
          | t => exact fr _ _ (by rw [← O.md]; exact .v) ok
  exact key (ρ1 := []) h ab ok
theorem x_wk (h : Wk μ μ1) (k : XS K t μ1 o) : XS K t μ o := fun ρ ab σ F H D ok g => by
  obtain ⟨F', ρ', h1, h2, h3⟩ := h.real ab ok
  exact k ρ' h3 σ F' H D h1 (g.step h2)
theorem x_out (k : XS K t μ (.nx μ1)) (h : Wk μ1 μ2) : XS K t μ (.nx μ2) := fun ρ ab σ F H D ok g => k ρ ab σ F H D ok
  ⟨fun σ' F' H' ρ' ok' st ab' => by
    obtain ⟨F2, ρ2, h1, h2, h3⟩ := h.real ab' ok'
    exact g.nx σ' F2 H' ρ2 h1 (st.trans h2) h3, fun _ _ _ _ _ _ _ _ _ _ z => z.elim, fun _ _ _ _ _ _ z => z.elim, fun _ _ _ _ _ _ z => z.elim⟩
/-- what is only let go -/
inductive WdS : Option MSl → Option MSl → Prop
  | any {x : Option MSl} : WdS x none
  | same {x : Option MSl} : WdS x x
  | un {t : Option Addr} {c : MO} : WdS (some (.o t c)) (some (.o none c))
inductive Wd : MEnv → MEnv → Prop
  | nil : Wd [] []
  | cons {x y : Option MSl} {ρ μ : MEnv} : WdS x y → Wd ρ μ → Wd (x :: ρ) (y :: μ)
theorem Wd.ab (h : Wd μ μ1) : ∀ {ρ : Env}, Ab ρ μ → Ab ρ μ1 := by
  induction h with
  | nil => intro ρ ab; exact ab
  | cons s _ ih =>
    intro ρ ab
    cases ab with
    | cons a b =>
      refine .cons ?_ (ih b)
      cases s with
      | any => exact .any
      | same => exact a
      | un => cases a <;> exact .o
theorem Wd.refl : ∀ μ : MEnv, Wd μ μ
  | [] => .nil
  | _ :: μ => .cons .same (Wd.refl μ)
theorem x_outR {s : MSl} (k : XS K t μ (.rt s μ1)) (h : Wd μ1 μ2) : XS K t μ (.rt s μ2) := fun ρ ab =>
  (k ρ ab).imp (fun _ z => z) (fun _ ρ' ⟨z, a⟩ => ⟨z, h.ab a⟩) (fun _ z => z) fun _ z => z
theorem x_seq (h : XS K t μ (.nx μ1)) (k : XS K u μ1 o) : XS K (tSeq t u) μ o := fun ρ ab =>
  ex_seq ((h ρ ab).imp (fun ρ' a => k ρ' a) (fun _ _ z => z.elim) (fun _ z => z.elim) fun _ z => z.elim)
theorem x_seqR {s : MSl} (h : XS K t μ (.rt s μ1)) : XS K (tSeq t u) μ (.rt s μ1) := fun ρ ab =>
  ex_seq ((h ρ ab).imp (fun ρ' z => z.elim) (fun _ _ z => z) (fun _ z => z) fun _ z => z)
theorem x_next : XS K tNext μ (.nx μ) := fun ρ ab => ex_next ab
theorem x_set (h : EV K false te μ d μ1) : XS K (tAsg te (gName i)) μ (.nx (μ1.set i (some (.v d)))) := fun ρ ab =>
  ex_set ((h ρ ab).imp fun d' ρ1 ⟨e1, k1⟩ => by subst e1; exact k1.set .v i)
theorem x_setO {c : MO} (h : EO K te μ c μ1) : XS K (tAsg te (gName i)) μ (.nx (μ1.set i (some (.o none c)))) := fun ρ ab =>
  ex_setO ((h ρ ab).imp fun a c' ρ1 ⟨e1, k1⟩ => by subst e1; exact k1.set .o i)
theorem x_asg {g : TG} (h : EV K false te μ d μ1) (k : GT K none g d μ1 μ2) : XS K (tAsg te g) μ (.nx μ2) := fun ρ ab =>
  ex_asg ((h ρ ab).imp fun d' ρ1 ⟨e1, k1⟩ => by
    subst e1
    exact fun σ F H v Q ok r c => k ρ1 k1 σ F H v Q ok r fun σ' ρ' ok' n w k2 => c σ' ρ' ok' n w k2)
theorem x_drop (h : EV K false te μ d μ1) : XS K (tDrop te) μ (.nx μ1) := fun ρ ab => ex_drop ((h ρ ab).imp fun d' ρ1 ⟨_, k1⟩ => k1)
theorem x_if {tc : TT} {b : Bool} (h : ET K false tc μ b μ1) (k1 : b = true → XS K t μ1 o) (k2 : b = false → XS K u μ1 o) : XS K (tIfS tc t u) μ o := fun ρ ab =>
  ex_if ((h ρ ab).imp fun b' ρ1 ⟨e1, k⟩ => by subst e1; exact ⟨fun hb => k1 hb ρ1 k, fun hb => k2 hb ρ1 k⟩)
/-- an if whose branches are walked with what follows -/
theorem x_seqIf {tc : TT} {b : Bool} {v : TS} (h : ET K false tc μ b μ1) (k1 : b = true → XS K (tSeq t v) μ1 o) (k2 : b = false → XS K (tSeq u v) μ1 o) : XS K (tSeq (tIfS tc t u) v) μ o := by
  show XS K (tIfS tc (tSeq t v) (tSeq u v)) μ o
  exact x_if h k1 k2
theorem x_ret (h : EV K false te μ d μ1) : XS K (tRet te) μ (.rt (.v d) μ1) := fun ρ ab => ex_ret ((h ρ ab).imp fun d' ρ1 ⟨e1, k1⟩ => ⟨by rw [e1]; rfl, k1⟩)
theorem x_retO {c : MO} (h : EO K te μ c μ1) : XS K (tRet te) μ (.rt (.o none c) μ1) := fun ρ ab => ex_retO ((h ρ ab).imp fun a c' ρ1 ⟨e1, k1⟩ => ⟨⟨a, c', rfl, e1⟩, k1⟩)
theorem x_retS {t : Option Addr} {c : MO} (h : μ[i]? = some (some (.o t c))) : XS K (tRet (tVar i)) μ (.rt (.o none c) (μ.set i none)) := fun ρ ab => by
  obtain ⟨a, c', h1, h2, _⟩ := ab.geto h
  exact ex_retS h1 ⟨⟨a, c', rfl, h2⟩, ab.set .any i⟩
end
end Fw

set_option Elab.async false
set_option linter.all false
set_option maxRecDepth 100000
namespace Fw
variable [TbC]
open PySem L2
/-- what stands behind a loop or a branch that may return -/
def outC {σ ρτ : Type} (J : σ → MEnv) (JR : ρτ → MSl × MEnv) : Ctl σ ρτ → MOut
  | .nx s => .nx (J s)
  | .rt r => .rt (JR r).1 (JR r).2
def Turn {σ ρτ : Type} (J : σ → MEnv) (JR : ρτ → MSl × MEnv) (c : Ctl σ ρτ) (o : MOut) : Prop := o = outC J JR c ∨ ∃ s, c = .nx s ∧ o = .ct (J s)
section
variable {K : PySem.W.Frag} {q : Bool} {μ μ1 μ2 μ3 : MEnv} {i j : Nat} {te ti tc : TE} {t u : TS} {o : MOut} {d d' : D} {α β σ ρτ : Type} {e : α → D} {x : α} {xs ys zs : List α} {k : Int} {tg t0 : Option Addr}
theorem x_append (h : EV K false te μ (e x) μ1) (h0 : μ[i]? = some (some (.o t0 (oL e ys)))) (h1 : μ1[i]? = some (some (.o tg (oL e xs)))) (ha : appR xs x = .ok zs) :
    XS K (tDrop (tBM K "list" rAppend (tVar i) (tCons te tNil))) μ (.nx (μ1.set i (some (.o tg (oL e zs))))) := fun ρ ab => by
  unfold appR at ha
  split at ha
  · rename_i hl; cases ha
    refine ex_append ((h ρ ab).imp fun d' ρ1 ⟨e1, k1⟩ => ?_) ?_
    · obtain ⟨a, c', h2, h3, h4⟩ := k1.geto h1
      subst e1
      cases c' with
      | lst zs =>
        have h5 : zs = xs.map e := by
          have : MO.lst zs = MO.lst (xs.map e) := h3
          injection this
        subst h5
        refine ⟨a, _, h2, by rw [List.length_map]; exact hl, ?_⟩
        have := k1.set (AbS.mk (c := .lst (xs.map e ++ [e x])) h4) i
        have e2 : O.m (.lst (xs.map e ++ [e x])) = oL e (xs ++ [x]) := by simp [O.m, oL]
        rw [e2] at this
        exact this
      | dct z => cases h3
      | ldct _ _ z => cases h3
      | ins _ _ z => cases h3
      | dcl _ => cases h3
      | tpl _ => cases h3
      | lcl _ => cases h3
      | rcd _ => cases h3
      | inl _ _ _ => cases h3
    · obtain ⟨a, c', h2, h3, h4⟩ := ab.geto h0
      cases c' with
      | lst zs => exact ⟨a, zs, h2⟩
      | dct z => cases h3
      | ldct _ _ z => cases h3
      | ins _ _ z => cases h3
      | dcl _ => cases h3
      | tpl _ => cases h3
      | lcl _ => cases h3
      | rcd _ => cases h3
      | inl _ _ _ => cases h3
  · cases ha
theorem lst_of {ρ : Env} (ab : Ab ρ μ) (h : μ[i]? = some (some (.o tg (oL e xs)))) : ∃ a, ρ[i]? = some (some (.o a (.lst (xs.map e)))) ∧ ∀ b, tg = some b → b = a := by
  obtain ⟨a, c', h2, h3, h4⟩ := ab.geto h
  cases c' with
  | lst zs => cases h3; exact ⟨a, h2, h4⟩
  | dct z => cases h3
  | ldct _ _ z => cases h3
  | ins _ _ z => cases h3
  | dcl _ => cases h3
  | tpl _ => cases h3
  | lcl _ => cases h3
  | rcd _ => cases h3
  | inl _ _ _ => cases h3
theorem dct_of {ρ : Env} {kvs : List (Int × α)} (ab : Ab ρ μ) (h : μ[i]? = some (some (.o tg (oDc e kvs)))) : ∃ a, ρ[i]? = some (some (.o a (.dct (kvs.map (kvD e))))) ∧ ∀ b, tg = some b → b = a := by
  obtain ⟨a, c', h2, h3, h4⟩ := ab.geto h
  cases c' with
  | dct zs => cases h3; exact ⟨a, h2, h4⟩
  | lst z => cases h3
  | ldct _ _ z => cases h3
  | ins _ _ z => cases h3
  | dcl _ => cases h3
  | tpl _ => cases h3
  | lcl _ => cases h3
  | rcd _ => cases h3
  | inl _ _ _ => cases h3
theorem ldct_of {ρ : Env} {kvs : List (Int × α)} {a : Addr} {o : Obj} {ws : List (Key × V)} (ab : Ab ρ μ) (h : μ[i]? = some (some (.o (some a) (olDc o ws e kvs)))) : ρ[i]? = some (some (.o a (.ldct o ws (kvs.map (kvD e))))) := by
  obtain ⟨a', c', h2, h3, h4⟩ := ab.geto h
  cases c' with
  | ldct o ws zs => cases h3; rw [h4 a rfl]; exact h2
  | lst z => cases h3
  | dct z => cases h3
  | ins _ _ z => cases h3
  | dcl _ => cases h3
  | tpl _ => cases h3
  | lcl _ => cases h3
  | rcd _ => cases h3
  | inl _ _ _ => cases h3
theorem Ab.mutL {ρ : Env} (ab : Ab ρ μ) {a : Addr} {zs : List D} (h : ∀ b, tg = some b → b = a) (i : Nat) (e1 : zs = xs.map e) : Ab (ρ.set i (some (.o a (.lst zs)))) (μ.set i (some (.o tg (oL e xs)))) := by
  subst e1
  exact ab.set (AbS.mk (c := .lst (xs.map e)) h) i
theorem Ab.mutD {ρ : Env} {kvs : List (Int × α)} (ab : Ab ρ μ) {a : Addr} {zs : List (Key × D)} (h : ∀ b, tg = some b → b = a) (i : Nat) (e1 : zs = kvs.map (kvD e)) : Ab (ρ.set i (some (.o a (.dct zs)))) (μ.set i (some (.o tg (oDc e kvs)))) := by
  subst e1
  exact ab.set (AbS.mk (c := .dct (kvs.map (kvD e))) h) i
theorem setR_ok (h : setR xs k x = .ok zs) : ∃ j, ixN xs.length k = some j ∧ zs = xs.set j x := by
  unfold setR at h
  obtain ⟨j, h1, h2⟩ := R.inv h
  cases h2
  cases e : ixZ xs.length k with
  | none => rw [e] at h1; cases h1
  | some j' => rw [e] at h1; cases h1; exact ⟨_, e, rfl⟩
theorem x_setL (h : EV K false te μ (e x) μ1) (h1 : μ1[i]? = some (some (.o tg (oL e xs)))) (hi : EV K true ti μ1 (.int k) μ1) (hs : setR xs k x = .ok zs) :
    XS K (tAsg te (gSub (tVar i) ti rSetL)) μ (.nx (μ1.set i (some (.o tg (oL e zs))))) := fun ρ ab => by
  obtain ⟨j, hj, rfl⟩ := setR_ok hs
  refine ex_setL ((h ρ ab).imp fun d' ρ1 ⟨e1, k1⟩ => ?_)
  obtain ⟨a, h2, h3⟩ := lst_of k1 h1
  subst e1
  refine ⟨a, _, h2, (hi ρ1 k1).imp fun d2 ρ2 ⟨e2, k2⟩ => ⟨k, e2, j, by rw [List.length_map]; exact hj, k1.mutL h3 i (by rw [List.map_set])⟩⟩
/-! dicts that are changed -/
theorem RepK.put' {F : Hp} {kvs : List (Key × D)} {ws : List (Key × V)} (r : RepK K F kvs ws) {k : Key} {d : D} {v : V} (rd : Rep K F d v) :
    RepK K F (if (kvs.any fun kv => decide (kv.1 = k)) = true then kvs.map (fun kv => if kv.1 = k then (kv.1, d) else kv) else kvs ++ [(k, d)]) (putK ws k v) := by
  have e : (kvs.any fun kv => decide (kv.1 = k)) = (ws.any fun kv => decide (kv.1 = k)) := by
    have := r.keys
    have h1 : ∀ {γ : Type} (l : List (Key × γ)), (l.any fun kv => decide (kv.1 = k)) = (l.map (·.1)).any fun x => decide (x = k) := fun l => by rw [List.any_map]; rfl
    rw [h1, h1, this]
  unfold putK
  rw [e]
  split
  · rename_i hh
    clear e hh
    induction kvs generalizing ws with
    | nil => cases r; exact .nil
    | cons a kvs ih => cases r with
      | @cons k' d' _ v' ws h t =>
        rw [List.map_cons, List.map_cons]
        by_cases hk : k' = k
        · simp only [if_pos hk]; exact .cons rd (ih t)
        · simp only [if_neg hk]; exact .cons h (ih t)
  · exact r.append (.cons rd .nil)
theorem ex_dput' {E : En} {ρ : Env} (h : ev K q te ρ fun d ρ1 => ∃ a kvs, ρ1[i]? = some (some (.o a (.dct kvs))) ∧ ev K true ti ρ1 fun kd ρ2 => ∃ k, kd = keyD k ∧ kvs.length < sizeLine ∧ E.nx (ρ1.set i (some (.o a (.dct (if (kvs.any fun kv => decide (kv.1 = k)) = true then kvs.map (fun kv => if kv.1 = k then (kv.1, d) else kv) else kvs ++ [(k, d)])))))) :
    ex K (sDPut (tVar i) ti te) ρ E := fun σ F H D ok g => by
  refine h σ F H _ ok fun d v F1 H1 ρ1 ok1 r1 s1 _ ⟨a, kvs, e2, k1⟩ => ?_
  obtain ⟨w, e3, rfl, h4, vs, h5, h6⟩ := ok1.at_ i _ e2
  refine ⟨_, e3, ?_⟩
  refine k1 σ F1 H1 _ ok1 fun e w F2 H2 ρ2 ok2 r2 s2 q2 ⟨k, ek, hl, kk⟩ => ?_
  obtain ⟨rfl, rfl, rfl⟩ := q2 rfl
  subst ek
  rw [keyD_rep r2]
  obtain ⟨ok3, s3⟩ := ok1.mut (o := .dK (putK vs k v)) (c' := .dct _) e2 ⟨_, upd_same, h6.put' r1⟩
  exact ⟨a, _, rfl, DPut.k h5 (by rw [← h6.length]; exact hl), g.nx _ _ _ _ ok3 (s1.trans s3) kk⟩
theorem putD_map (kvs : List (Int × α)) (k : Int) (x : α) : (if ((kvs.map (kvD e)).any fun kv => decide (kv.1 = (Sum.inl k : Key))) = true then (kvs.map (kvD e)).map (fun kv => if kv.1 = Sum.inl k then (kv.1, e x) else kv) else kvs.map (kvD e) ++ [(Sum.inl k, e x)]) = (putZ kvs k x).map (kvD e) := by
  have h1 : ((kvs.map (kvD e)).any fun kv => decide (kv.1 = (Sum.inl k : Key))) = (kvs.any fun kv => decide (kv.1 = k)) := by
    rw [List.any_map]
    congr 1
    funext kv
    show decide ((Sum.inl kv.1 : Key) = Sum.inl k) = _
    by_cases h : kv.1 = k
    · simp [h]
    · rw [decide_eq_false h, decide_eq_false (fun z => h (Sum.inl.inj z))]
  unfold putZ
  rw [h1]
  split
  · rw [List.map_map, List.map_map]
    apply List.map_congr_left
    intro kv _
    show (if (Sum.inl kv.1 : Key) = Sum.inl k then _ else _) = kvD e (if kv.1 = k then _ else _)
    by_cases h : kv.1 = k
    · rw [if_pos h, if_pos (by rw [h])]; rfl
    · rw [if_neg h, if_neg (fun z => h (Sum.inl.inj z))]
  · rw [List.map_append]; rfl
theorem x_dput {kvs kvs' : List (Int × α)} (h : EV K false te μ (e x) μ1) (h1 : μ1[i]? = some (some (.o tg (oDc e kvs)))) (hi : EV K true ti μ1 (.int k) μ1) (hs : putR kvs k x = .ok kvs') :
    XS K (sDPut (tVar i) ti te) μ (.nx (μ1.set i (some (.o tg (oDc e kvs'))))) := fun ρ ab => by
  unfold putR at hs
  split at hs
  · rename_i hl; cases hs
    refine ex_dput' ((h ρ ab).imp fun d' ρ1 ⟨e1, k1⟩ => ?_)
    obtain ⟨a, h2, h3⟩ := dct_of k1 h1
    subst e1
    exact ⟨a, _, h2, (hi ρ1 k1).imp fun d2 ρ2 ⟨e2, k2⟩ => ⟨.inl k, e2, by rw [List.length_map]; exact hl, k1.mutD h3 i (putD_map kvs k x)⟩⟩
  · cases hs
theorem dropD_map (kvs : List (Int × α)) (k : Int) : dropD (kvs.map (kvD e)) (.inl k) = (dropZ kvs k).map (kvD e) := by
  induction kvs with
  | nil => rfl
  | cons a r ih =>
    obtain ⟨k', d⟩ := a
    show (if (Sum.inl k' : Key) = Sum.inl k then dropD (r.map (kvD e)) (.inl k) else _) = (if k' = k then dropZ r k else (k', d) :: dropZ r k).map (kvD e)
    by_cases h : k' = k
    · rw [if_pos h, if_pos (by rw [h]), ih]
    · rw [if_neg h, if_neg (fun z => h (Sum.inl.inj z)), ih]; rfl
/-- d.pop(k), d.pop(k, x): the dict a slot's; what stands in the brackets is quiet -/
theorem e_dpop1 {kvs : List (Int × α)} (h1 : μ[i]? = some (some (.o tg (oDc e kvs)))) (hi : EV K true ti μ (.int k) μ) (hx : getR kvs k = .ok x) : EV K false (tDPop1 (tVar i) ti) μ (e x) (μ.set i (some (.o tg (oDc e (dropZ kvs k))))) := fun ρ ab σ F H Q ok c => by
  obtain ⟨a, h2, h3⟩ := dct_of ab h1
  obtain ⟨w, e3, rfl, h4, vs, h5, h6⟩ := ok.at_ i _ h2
  refine ⟨_, e3, a, rfl, .inl ⟨vs, .inl h5⟩, ?_⟩
  refine hi ρ ab σ F H _ ok fun d2 v2 F2 H2 ρ2 ok2 r2 s2 q2 ⟨e2, _⟩ => ?_
  obtain ⟨rfl, rfl, rfl⟩ := q2 rfl
  subst e2; cases r2
  rcases h6.val (.inl k) with ⟨z1, z2⟩ | ⟨d, v, z1, z2, z3⟩
  · rw [lookD_lookZ, getR_look hx] at z2; cases z2
  · rw [lookD_lookZ, getR_look hx] at z1; cases z1
    obtain ⟨ok3, s3⟩ := ok.mut (o := .dK (dropK vs (.inl k))) (c' := .dct _) h2 ⟨_, upd_same, h6.drop (.inl k)⟩
    exact ⟨vs, .inl k, v, h5, rfl, z2, c _ _ _ _ _ ok3 z3 s3 (fun z => nomatch z) ⟨rfl, ab.mutD h3 i (dropD_map kvs k)⟩⟩
theorem e_dpop2 {kvs : List (Int × α)} {tx : TE} {z : D} (h1 : μ[i]? = some (some (.o tg (oDc e kvs)))) (hi : EV K true ti μ (.int k) μ) (hz : EV K true tx μ z μ) : EV K false (tDPop2 (tVar i) ti tx) μ (((lookZ kvs k).map e).getD z) (μ.set i (some (.o tg (oDc e (dropZ kvs k))))) := fun ρ ab σ F H Q ok c => by
  obtain ⟨a, h2, h3⟩ := dct_of ab h1
  obtain ⟨w, e3, rfl, h4, vs, h5, h6⟩ := ok.at_ i _ h2
  refine ⟨_, e3, a, rfl, .inl ⟨vs, .inl h5⟩, ?_⟩
  refine hi ρ ab σ F H _ ok fun d2 v2 F2 H2 ρ2 ok2 r2 s2 q2 ⟨e2, _⟩ => ?_
  obtain ⟨rfl, rfl, rfl⟩ := q2 rfl
  subst e2; cases r2
  refine hz ρ2 ab σ F2 H2 _ ok fun d3 v3 F3 H3 ρ3 ok3 r3 s3 q3 ⟨e3, _⟩ => ?_
  obtain ⟨rfl, rfl, rfl⟩ := q3 rfl
  subst e3
  refine ⟨vs, .inl k, h5, rfl, fun v hv => ?_, fun hv => ?_⟩
  · rcases h6.val (.inl k) with ⟨z1, z2⟩ | ⟨d, v', z1, z2, z3⟩
    · rw [z1] at hv; cases hv
    · rw [z2] at hv; cases hv
      rw [lookD_lookZ] at z1
      rw [z1] at c
      obtain ⟨ok3, s3⟩ := ok.mut (o := .dK (dropK vs (.inl k))) (c' := .dct _) h2 ⟨_, upd_same, h6.drop (.inl k)⟩
      exact c _ _ _ _ _ ok3 z3 s3 (fun z => nomatch z) ⟨rfl, ab.mutD h3 i (dropD_map kvs k)⟩
  · rcases h6.val (.inl k) with ⟨z1, z2⟩ | ⟨d, v', z1, z2, z3⟩
    · rw [lookD_lookZ] at z2
      rw [z2] at c
      have e1 : lookZ kvs k = none := by
        cases h9 : lookZ kvs k with
        | none => rfl
        | some y => rw [h9] at z2; cases z2
      refine c _ _ _ _ _ ok r3 (Step.refl _ _ _) (fun z => nomatch z) ⟨rfl, ?_⟩
      rw [dropZ_none e1, set_same h1]
      exact ab
    · rw [z2] at hv; cases hv
where
  dropZ_none {kvs : List (Int × α)} {k : Int} (h : lookZ kvs k = none) : dropZ kvs k = kvs := by
    induction kvs with
    | nil => rfl
    | cons a r ih =>
      obtain ⟨k', d⟩ := a
      simp only [lookZ] at h
      split at h
      · cases h
      · rename_i hk
        simp only [dropZ, if_neg hk, ih h]
  set_same {y : Option MSl} : ∀ {μ : MEnv} {i : Nat}, μ[i]? = some y → μ.set i y = μ
    | [], _, h => by simp at h
    | _ :: _, 0, h => by simp at h; simp [h]
    | _ :: μ, i + 1, h => by simp at h; simp [set_same (μ := μ) (i := i) h]
end
end Fw

set_option Elab.async false
set_option linter.all false
set_option maxRecDepth 100000
namespace Fw
variable [TbC]
open PySem L2
section
variable {K : PySem.W.Frag} {q : Bool} {μ μ1 μ2 μ3 : MEnv} {i j : Nat} {wi : TI} {g : TG} {tb : TS} {α β σ ρτ : Type} {e : α → D} {xs : List α} {J : σ → MEnv} {JR : ρτ → MSl × MEnv}
theorem forC_drop {body : σ → α → R (Ctl σ ρτ)} {k : Nat} {x : α} {s : σ} {c : Ctl σ ρτ} (hx : xs[k]? = some x) (h : forC body (xs.drop k) s = .ok c) :
    ∃ c1, body s x = .ok c1 ∧ (match c1 with | .nx s' => forC body (xs.drop (k + 1)) s' = .ok c | .rt r => c = .rt r) := by
  have hd : xs.drop k = x :: xs.drop (k + 1) := by
    obtain ⟨h1, h2⟩ := List.getElem?_eq_some_iff.mp hx
    rw [List.drop_eq_getElem_cons h1, h2]
  rw [hd] at h
  obtain ⟨c1, h1, h2⟩ := R.inv (show (body s x).bind _ = .ok c from h)
  refine ⟨c1, h1, ?_⟩
  cases c1 with
  | nx s' => exact h2
  | rt r => cases h2; rfl
/-- for, the walked thing asks something of the slots -/
theorem x_forS {S : Env → Prop} {body : σ → α → R (Ctl σ ρτ)} {s0 : σ} {c : Ctl σ ρτ} (hi : EI K S wi μ (xs.map e) μ1) (h0 : Wd μ1 (J s0)) (hS : ∀ s ρ', Ab ρ' (J s) → S ρ')
    (hm : forC body xs s0 = .ok c) (hb : ∀ s x c, x ∈ xs → body s x = .ok c → ∃ μ2 o, GT K none g (e x) (J s) μ2 ∧ XS K tb μ2 o ∧ Turn J JR c o) : XS K (tFor wi g tb) μ (outC J JR c) := fun ρ ab => by
  refine ex_forS (S := S) fun σ0 F H R ok k => hi ρ ab σ0 F H R ok fun J' ds G F1 H1 ρ1 ok1 st it g1 ⟨e1, k1⟩ => k J' ds G F1 H1 ρ1 ok1 st it g1 ?_
  subst e1
  refine ⟨fun k ρ' => ∃ s, Ab ρ' (J s) ∧ forC body (xs.drop k) s = .ok c, ⟨s0, h0.ab k1, by rw [List.drop_zero]; exact hm⟩, fun _ ρ' ⟨s, a, _⟩ => hS s ρ' a, fun k d ρ' hd ⟨s, a, hk⟩ => ?_, fun ρ' ⟨s, a, hk⟩ => ?_⟩
  · rw [List.getElem?_map] at hd
    cases hx : xs[k]? with
    | none => rw [hx] at hd; simp at hd
    | some x =>
      rw [hx] at hd
      simp only [Option.map_some, Option.some.injEq] at hd
      subst hd
      obtain ⟨c1, h1, h2⟩ := forC_drop hx hk
      obtain ⟨μ2, o, h3, h4, h5⟩ := hb s x c1 (List.mem_of_getElem? hx) h1
      refine fun σ0 F H v Q ok r cc => h3 ρ' a σ0 F H v Q ok r fun σ' ρ2 ok2 n w k2 => cc σ' ρ2 ok2 n w ?_
      rcases h5 with rfl | ⟨s', rfl, rfl⟩
      · cases c1 with
        | nx s' => exact (h4 ρ2 k2).imp (fun ρ3 z => ⟨s', z, h2⟩) (fun _ _ z => z.elim) (fun _ z => z.elim) fun _ z => z.elim
        | rt r =>
          have h2 : c = .rt r := h2
          subst h2
          exact (h4 ρ2 k2).imp (fun ρ3 z => z.elim) (fun _ _ z => z) (fun _ z => z.elim) fun _ z => z.elim
      · exact (h4 ρ2 k2).imp (fun ρ3 z => z.elim) (fun _ _ z => z.elim) (fun _ z => z.elim) fun ρ3 z => ⟨s', z, h2⟩
  · have : xs.drop (xs.map e).length = [] := by rw [List.length_map, List.drop_length]
    rw [this] at hk
    cases hk
    exact a
theorem x_forC {body : σ → α → R (Ctl σ ρτ)} {s0 : σ} {c : Ctl σ ρτ} (hi : EI K noS wi μ (xs.map e) μ1) (h0 : Wd μ1 (J s0))
    (hm : forC body xs s0 = .ok c) (hb : ∀ s x c, x ∈ xs → body s x = .ok c → ∃ μ2 o, GT K none g (e x) (J s) μ2 ∧ XS K tb μ2 o ∧ Turn J JR c o) : XS K (tFor wi g tb) μ (outC J JR c) :=
  x_forS hi h0 (fun _ _ _ => trivial) hm hb
theorem forR_C {body : σ → α → R σ} {s0 s1 : σ} (hm : forR body xs s0 = .ok s1) : forC (ρ := Unit) (fun s x => (body s x).bind fun s' => .ok (.nx s')) xs s0 = .ok (.nx s1) := by
  induction xs generalizing s0 with
  | nil => cases hm; rfl
  | cons x xs ih =>
    obtain ⟨s', h1, h2⟩ := R.inv (show (body s0 x).bind _ = .ok s1 from hm)
    show R.bind (R.bind _ _) _ = _
    rw [h1]
    exact ih h2
theorem whileNR_C {cond : σ → R Bool} {body : σ → R σ} {s1 : σ} : ∀ {n : Nat} {s0 : σ}, whileNR cond body n s0 = .ok s1 → whileN (ρ := Unit) cond (fun s => (body s).bind fun s' => .ok (.nx s')) n s0 = .ok (.nx s1)
  | 0, _, hm => by cases hm
  | n + 1, s0, hm => by
    obtain ⟨b, h1, h2⟩ := R.inv (show (cond s0).bind _ = .ok s1 from hm)
    show R.bind _ _ = _
    rw [h1]
    show (if b = true then _ else _) = _
    split at h2
    · rename_i hb'
      rw [if_pos hb']
      obtain ⟨s', h3, h4⟩ := R.inv h2
      show R.bind (R.bind _ _) _ = _
      rw [h3]
      exact whileNR_C h4
    · rename_i hb'
      rw [if_neg hb']
      cases h2; rfl
def Turn1 (J : σ → MEnv) (s : σ) (o : MOut) : Prop := o = .nx (J s) ∨ o = .ct (J s)
theorem Turn1.turn {s : σ} {o : MOut} {JR : ρτ → MSl × MEnv} (h : Turn1 J s o) : Turn J JR (.nx s) o := by
  rcases h with h | h
  · exact .inl h
  · exact .inr ⟨s, rfl, h⟩
theorem x_forRS {S : Env → Prop} {body : σ → α → R σ} {s0 s1 : σ} (hi : EI K S wi μ (xs.map e) μ1) (h0 : Wd μ1 (J s0)) (hS : ∀ s ρ', Ab ρ' (J s) → S ρ')
    (hm : forR body xs s0 = .ok s1) (hb : ∀ s x s', x ∈ xs → body s x = .ok s' → ∃ μ2 o, GT K none g (e x) (J s) μ2 ∧ XS K tb μ2 o ∧ Turn1 J s' o) : XS K (tFor wi g tb) μ (.nx (J s1)) :=
  x_forS (ρτ := Unit) (JR := fun _ => (.v .non, [])) hi h0 hS (forR_C hm) fun s x c hx h => by
    obtain ⟨s', h1, h2⟩ := R.inv h
    cases h2
    obtain ⟨μ2, o, a, b, c⟩ := hb s x s' hx h1
    exact ⟨μ2, o, a, b, c.turn⟩
theorem x_forR {body : σ → α → R σ} {s0 s1 : σ} (hi : EI K noS wi μ (xs.map e) μ1) (h0 : Wd μ1 (J s0))
    (hm : forR body xs s0 = .ok s1) (hb : ∀ s x s', x ∈ xs → body s x = .ok s' → ∃ μ2 o, GT K none g (e x) (J s) μ2 ∧ XS K tb μ2 o ∧ Turn1 J s' o) : XS K (tFor wi g tb) μ (.nx (J s1)) :=
  x_forRS hi h0 (fun _ _ _ => trivial) hm hb
/-! while -/
variable {tc : TT}
theorem x_whileC {cond : σ → R Bool} {body : σ → R (Ctl σ ρτ)} {s0 : σ} {c : Ctl σ ρτ} (h0 : Wk μ (J s0)) (hm : whileC cond body s0 = .ok c)
    (hc : ∀ s b, cond s = .ok b → ET K false tc (J s) b (J s)) (hb : ∀ s c, cond s = .ok true → body s = .ok c → ∃ o, XS K tb (J s) o ∧ Turn J JR c o) : XS K (tWhile tc tb) μ (outC J JR c) := by
  refine x_wk h0 fun ρ ab => ?_
  unfold whileC at hm
  refine ex_whileN (fun n ρ' => ∃ s, Ab ρ' (J s) ∧ whileN cond body n s = .ok c) fuel ⟨s0, ab, hm⟩ fun n ρ' ⟨s, a, hk⟩ => ?_
  cases n with
  | zero => cases hk
  | succ n =>
    obtain ⟨b, h1, h2⟩ := R.inv (show (cond s).bind _ = .ok c from hk)
    refine (hc s b h1 ρ' a).imp fun b' ρ1 ⟨e1, k1⟩ => ?_
    subst e1
    refine ⟨fun hb' => ?_, fun hb' => ?_⟩
    · subst hb'
      rw [if_pos rfl] at h2
      obtain ⟨c1, h3, h4⟩ := R.inv h2
      obtain ⟨o, h5, h6⟩ := hb s c1 h1 h3
      rcases h6 with rfl | ⟨s', rfl, rfl⟩
      · cases c1 with
        | nx s' => exact (h5 ρ1 k1).imp (fun ρ3 z => ⟨n, Nat.lt_succ_self n, s', z, h4⟩) (fun _ _ z => z.elim) (fun _ z => z.elim) fun _ z => z.elim
        | rt r =>
          cases h4
          exact (h5 ρ1 k1).imp (fun ρ3 z => z.elim) (fun _ _ z => z) (fun _ z => z.elim) fun _ z => z.elim
      · exact (h5 ρ1 k1).imp (fun ρ3 z => z.elim) (fun _ _ z => z.elim) (fun _ z => z.elim) fun ρ3 z => ⟨n, Nat.lt_succ_self n, s', z, h4⟩
    · subst hb'
      rw [if_neg Bool.false_ne_true] at h2
      cases h2
      exact k1
where
  ex_whileN {ρ : Env} {E : En} (I : Nat → Env → Prop) (n0 : Nat) (h0 : I n0 ρ)
    (h : ∀ n ρ', I n ρ' → et K false tc ρ' fun b ρ1 => (b = true → ex K tb ρ1 { nx := fun ρ2 => ∃ m, m < n ∧ I m ρ2, rt := E.rt, bk := E.nx, ct := fun ρ2 => ∃ m, m < n ∧ I m ρ2 }) ∧ (b = false → E.nx ρ1)) : ex K (tWhile tc tb) ρ E := fun σ F H D ok gg => by
    refine ⟨fun m σ' H' => ∃ F' ρ', Ok K σ' F' H' ρ' ∧ Step ρ F H ρ' F' H' ∧ I m ρ', ⟨n0, F, ρ, ok, Step.refl _ _ _, h0⟩, ?_⟩
    rintro m σ' H' ⟨F', ρ', ok', st', h'⟩
    refine h m ρ' h' σ' F' H' _ ok' fun b F1 H1 ρ1 ok1 st1 _ ⟨k1, k2⟩ => ?_
    cases b with
    | true =>
      rw [if_pos rfl]
      refine ⟨fun σ2 H2 => ∃ F2 ρ2, Ok K σ2 F2 H2 ρ2 ∧ Step ρ F H ρ2 F2 H2 ∧ ∃ m', m' < m ∧ I m' ρ2, fun σ2 H2 ⟨F2, ρ2, a, b, m', hm', hI⟩ => ⟨m', hm', F2, ρ2, a, b, hI⟩, ?_⟩
      have st := st'.trans st1
      exact k1 rfl σ' F1 H1 _ ok1 ⟨fun σ4 F4 H4 ρ4 ok4 st4 k4 => ⟨F4, ρ4, ok4, st.trans st4, k4⟩, (gg.step st).rt, (gg.step st).nx, fun σ4 F4 H4 ρ4 ok4 st4 k4 => ⟨F4, ρ4, ok4, st.trans st4, k4⟩⟩
    | false =>
      rw [if_neg Bool.false_ne_true]
      exact gg.nx σ' F1 H1 ρ1 ok1 (st'.trans st1) (k2 rfl)
theorem x_whileR {cond : σ → R Bool} {body : σ → R σ} {s0 s1 : σ} (h0 : Wk μ (J s0)) (hm : whileR cond body s0 = .ok s1)
    (hc : ∀ s b, cond s = .ok b → ET K false tc (J s) b (J s)) (hb : ∀ s s', cond s = .ok true → body s = .ok s' → ∃ o, XS K tb (J s) o ∧ Turn1 J s' o) : XS K (tWhile tc tb) μ (.nx (J s1)) := by
  refine x_whileC (ρτ := Unit) (body := fun s => (body s).bind fun s' => .ok (.nx s')) (c := .nx s1) (JR := fun _ => (.v .non, [])) h0 ?_ hc fun s c h1 h => ?_
  · unfold whileR at hm
    unfold whileC
    exact whileNR_C hm
  · obtain ⟨s', h2, h3⟩ := R.inv h
    cases h3
    obtain ⟨o, a, b⟩ := hb s s' h1 h2
    exact ⟨o, a, b.turn⟩
end
end Fw

set_option Elab.async false
set_option linter.all false
set_option maxRecDepth 100000
namespace Fw
variable [TbC]
open PySem L2
def wipeM (μ : MEnv) : List Nat → MEnv
  | [] => μ
  | v :: vs => (wipeM μ vs).set v none
theorem Ab.wipe {ρ : Env} {μ : MEnv} (h : Ab ρ μ) : ∀ vs, Ab (wipeE ρ vs) (wipeM μ vs)
  | [] => h
  | v :: vs => (Ab.wipe h vs).set .any v
def keepM : Option MSl → Option MSl
  | some (.v d) => some (.v d)
  | _ => none
def unwM : Nat → List Nat → MEnv → MEnv → MEnv
  | n, vs, x :: μ', y :: μ4 => (if vs.contains n = true then keepM x else y) :: unwM (n + 1) vs μ' μ4
  | _, _, _, _ => []
theorem Ab.unw {ρ' ρ4 : Env} {μ' μ4 : MEnv} (h : Ab ρ' μ') (k : Ab ρ4 μ4) (vs : List Nat) : ∀ n, Ab (Fw.unw n vs ρ' ρ4) (unwM n vs μ' μ4) := by
  induction h generalizing ρ4 μ4 with
  | nil => intro n; cases k <;> exact .nil
  | cons a b ih => cases k with
    | nil => intro n; exact .nil
    | cons c d =>
      intro n
      refine .cons ?_ (ih d (n + 1))
      split
      · cases a with
        | any => exact .any
        | v => exact .v
        | o => exact .any
        | t => exact .any
      · exact c
section
variable {K : PySem.W.Frag} {q : Bool} {μ μ1 μ2 μ3 : MEnv} {i j : Nat} {wi : TI} {g : TG} {tt : TT} {te : TE} {vs : List Nat} {α β σ : Type} {e : α → D} {f : β → D} {xs : List α} {zs : List β} {J : σ → MEnv} {S : Env → Prop}
/-! ### a def's end -/
def tagE (ad : Nat → Addr) : Nat → List MSl → MEnv
  | _, [] => []
  | n, .v d :: cs => some (.v d) :: tagE ad (n + 1) cs
  | n, .o _ c :: cs => some (.o (some (ad n)) c) :: tagE ad (n + 1) cs
def tagP (ad : Nat → Addr) : Nat → List MSl → MEnv
  | _, [] => []
  | n, .v _ :: cs => none :: tagP ad (n + 1) cs
  | n, .o _ c :: cs => some (.o (some (ad n)) c) :: tagP ad (n + 1) cs
inductive Shp : List MSl → List MSl → Prop
  | nil : Shp [] []
  | v {d : D} {cs cs' : List MSl} : Shp cs cs' → Shp (.v d :: cs) (.v d :: cs')
  | o {t t' : Option Addr} {c c' : MO} {cs cs' : List MSl} : Shp cs cs' → Shp (.o t c :: cs) (.o t' c' :: cs')
def adOf : List Sl → Nat → Addr
  | .o a _ :: _, 0 => a
  | _ :: ss, n + 1 => adOf ss n
  | _, _ => 0
theorem tag_ab {ad : Nat → Addr} {bl : List (Option Sl)} {bm : MEnv} (hb : Ab bl bm) : ∀ {ss : List Sl} {cs : List MSl}, Cs ss cs → ∀ n, (∀ j a c, ss[j]? = some (.o a c) → ad (n + j) = a) → Ab (ss.map some ++ bl) (tagE ad n cs ++ bm) := by
  intro ss cs h
  induction h with
  | nil => intro n _; exact hb
  | @cons s c ss cs hs _ ih =>
    intro n hn
    have ih' := ih (n + 1) fun j a c e => by
      have := hn (j + 1) a c (by simpa using e)
      rwa [show n + (j + 1) = n + 1 + j by omega] at this
    cases c with
    | v d => cases hs; exact .cons .v ih'
    | o t c =>
      obtain ⟨a, c', rfl, rfl⟩ := hs
      have := hn 0 a c' rfl
      rw [Nat.add_zero] at this
      subst this
      exact .cons .t ih'
theorem tag_end {ad : Nat → Addr} {bm : MEnv} : ∀ {ss : List Sl} {cs cs' : List MSl} {ρ' : Env} (n : Nat), Cs ss cs → Shp cs cs' → (∀ j a c, ss[j]? = some (.o a c) → ad (n + j) = a) → Ab ρ' (tagP ad n cs' ++ bm) → ∃ ss', Back ss ρ' ss' ∧ Cs2 ss ss' cs' := by
  intro ss cs cs' ρ' n h
  induction h generalizing cs' ρ' n with
  | nil => intro hs _ _; cases hs; exact ⟨[], .nil, .nil⟩
  | @cons s c ss cs hs _ ih =>
    intro hsh hn ab
    have hn' : ∀ j a c, ss[j]? = some (.o a c) → ad (n + 1 + j) = a := fun j a c e => by
      have := hn (j + 1) a c (by simpa using e)
      rwa [show n + (j + 1) = n + 1 + j by omega] at this
    cases hsh with
    | v hsh =>
      cases hs
      cases ab with
      | cons _ ab =>
        obtain ⟨ss', h1, h2⟩ := ih (n + 1) hsh hn' ab
        exact ⟨_ :: ss', .v h1, .v h2⟩
    | o hsh =>
      obtain ⟨a, c', rfl, rfl⟩ := hs
      cases ab with
      | cons x ab =>
        obtain ⟨ss', h1, h2⟩ := ih (n + 1) hsh hn' ab
        have e := hn 0 a c' rfl
        rw [Nat.add_zero] at e
        subst e
        cases x with
        | t => exact ⟨_ :: ss', .o h1, .o h2⟩
theorem adOf_ok : ∀ {ss : List Sl} {j : Nat} {a : Addr} {c : O}, ss[j]? = some (.o a c) → adOf ss j = a
  | [], _, _, _, h => by simp at h
  | .o a _ :: _, 0, _, _, h => by simp at h; exact h.1
  | .v _ :: _, 0, _, _, h => by simp at h
  | .v _ :: ss, j + 1, _, _, h => adOf_ok (ss := ss) (j := j) (by simpa using h)
  | .o _ _ :: ss, j + 1, _, _, h => adOf_ok (ss := ss) (j := j) (by simpa using h)
theorem any_ab : ∀ bl : List (Option Sl), Ab bl (bl.map fun _ => none)
  | [] => .nil
  | _ :: bl => .cons .any (any_ab bl)
theorem Cs.len {ss : List Sl} {cs : List MSl} (h : Cs ss cs) : ss.length = cs.length := by
  induction h with
  | nil => rfl
  | cons _ _ ih => simp [ih]
/-- a body keeps a promise told without places -/
theorem fn_xO {C : FC} {N : List Str} {t : TS} (bl : List (Option Sl)) (bm : MEnv) (hbm : bl.map (fun _ => none) = bm) (h : ∀ cs r cs', C cs r cs' → (cs.length ≤ N.length ∧ List.replicate (N.length - cs.length) none = bl) ∧ Shp cs cs' ∧
      ∀ ad : Nat → Addr, XS K t (tagE ad 0 cs ++ bm) (.rt r (tagP ad 0 cs' ++ bm)) ∨ (r = .v .non ∧ XS K t (tagE ad 0 cs ++ bm) (.nx (tagP ad 0 cs' ++ bm))))
    (vs : List V) (H : Hp) (Q : VK) (E : XK) (hs : spO K (ctO C) vs H Q E) : t { nx := fun _ H' => Q .non H', rt := Q } (L2.start N vs) H := by
  refine fn_pureB bl (fun ss Φ hc => ?_) vs H Q E hs
  obtain ⟨cs, r, cs', h1, h2, h3⟩ := hc
  obtain ⟨⟨h4, h5⟩, h6, h7⟩ := h cs r cs' h2
  have hl : ss.length = cs.length := h1.len
  rw [hl]
  refine ⟨⟨h4, h5⟩, ?_⟩
  have hb : Ab bl bm := by
    subst hbm
    exact any_ab bl
  have ab := tag_ab (ad := adOf ss) hb h1 0 fun j a c e => by rw [Nat.zero_add]; exact adOf_ok e
  have fin := fun {ρ' : Env} (k : Ab ρ' (tagP (adOf ss) 0 cs' ++ bm)) => tag_end (ad := adOf ss) 0 h1 h6 (fun j a c e => by rw [Nat.zero_add]; exact adOf_ok e) k
  rcases h7 (adOf ss) with h8 | ⟨rfl, h8⟩
  · exact (h8 _ ab).imp (fun _ z => z.elim) (fun s ρ' ⟨z1, z2⟩ => by
      obtain ⟨ss', h9, h10⟩ := fin z2
      exact ⟨ss', h9, h3 s ss' z1 h10⟩) (fun _ z => z.elim) fun _ z => z.elim
  · exact (h8 _ ab).imp (fun ρ' z => by
      obtain ⟨ss', h9, h10⟩ := fin z
      exact ⟨ss', h9, h3 (.v .non) ss' rfl h10⟩) (fun _ _ z => z.elim) (fun _ z => z.elim) fun _ z => z.elim
theorem fn_x {C : FC} {N : List Str} {t : TS} (bl : List (Option Sl)) (bm : MEnv) (hbm : bl.map (fun _ => none) = bm) (h : ∀ cs r cs', C cs r cs' → (cs.length ≤ N.length ∧ List.replicate (N.length - cs.length) none = bl) ∧ Shp cs cs' ∧
      ∀ ad : Nat → Addr, XS K t (tagE ad 0 cs ++ bm) (.rt r (tagP ad 0 cs' ++ bm)) ∨ (r = .v .non ∧ XS K t (tagE ad 0 cs ++ bm) (.nx (tagP ad 0 cs' ++ bm))))
    (vs : List V) (H : Hp) (Q : VK) (E : XK) (hs : spOf K (ctOf C noX) vs H Q E) : t { nx := fun _ H' => Q .non H', rt := Q } (L2.start N vs) H := by
  rcases hs with hs | ⟨_, _, _, _, _, z, _⟩
  · exact fn_xO bl bm hbm h vs H Q E hs
  · obtain ⟨_, _, _, _, z, _⟩ := z
    exact z.elim
theorem ctOf_len {C : FC} {n : Nat} (h : ∀ cs r cs', C cs r cs' → cs.length = n) : (∀ ss Φ, (ctOf C noX).ok ss Φ → ss.length = n) ∧ ∀ x ss Φ, (ctOf C noX).er x ss Φ → ss.length = n := by
  refine ⟨?_, fun _ _ _ ⟨_, _, _, _, z, _⟩ => z.elim⟩
  rintro ss Φ ⟨cs, r, cs', h1, h2, _⟩
  rw [← h cs r cs' h2]
  exact h1.len
end
end Fw

set_option Elab.async false
set_option linter.all false
set_option maxRecDepth 100000
namespace Fw
variable [TbC]
open PySem L2
theorem need_ok {p : Prop} [Decidable p] {u : Unit} (h : need p = .ok u) : p := by
  unfold need at h
  split at h
  · assumption
  · cases h
section
variable {K : PySem.W.Frag} {q : Bool} {μ μ1 μ2 μ3 : MEnv} {i j : Nat} {te ta tb tc : TE} {ts : TA} {tt uu : TT} {t u : TS} {d : D} {p r : Bool} {o : MOut} {α β γ σ ρτ : Type} {e : α → D} {f : β → D} {J : σ → MEnv} {JR : ρτ → MSl × MEnv}
/-! ### both sides plain -/
theorem t_orP (h : ET K q tt μ p μ1) (k : ET K q uu μ1 r μ1) : ET K q (tOr tt uu) μ (p || r) μ1 := by
  cases p with
  | false => exact t_or h (fun _ => k) (fun z => nomatch z)
  | true => exact t_or h (fun z => nomatch z) (fun _ => ⟨rfl, rfl⟩)
theorem e_andP (h : EV K q ta μ (.bl p) μ1) (k : EV K q tb μ1 (.bl r) μ1) : EV K q (tAndV ta tb) μ (.bl (p && r)) μ1 := by
  cases p with
  | true => exact e_and h (fun _ => k) (fun z => nomatch z)
  | false => exact e_and h (fun z => nomatch z) (fun _ => ⟨rfl, rfl⟩)
/-! ### the slots stand as they are -/
def ES (K : PySem.W.Frag) (te : TE) (μ : MEnv) (d : D) : Prop := ∀ ρ, Ab ρ μ → evb K false te ρ fun d' ρ' => d' = d ∧ ρ' = ρ
theorem evd_q {ρ : Env} {Φ : List D → Env → Prop} (h : evd K true ts ρ Φ) : evd K true ts ρ fun d ρ' => Φ d ρ' ∧ ρ' = ρ := fun σ F H Q ok k =>
  h σ F H Q ok fun d v F' H' ρ' a b c e f => k d v F' H' ρ' a b c e ⟨f, (e rfl).1⟩
theorem s_lst (e : α → D) (xs : List α) (h : ED K true ts μ (xs.map e) μ) (hl : xs.length ≤ sizeLine := by decide) : ES K (tLst ts) μ (eL e xs) := fun ρ ab =>
  evb_of (ev_of_evo (evo_lst (ED.imp (evd_q (h ρ ab)) fun ds ρ1 ⟨⟨e1, _⟩, e2⟩ => ⟨by rw [e1, List.length_map]; exact hl, fun a _ => ⟨by rw [e1]; rfl, e2⟩⟩)))
theorem e_neS [DecidableEq α] {n : Nat} {x y : α} (hq : EqT n e) (hn : n ≤ 64) (ha : EB K false ta μ (e x) μ1) (hb : ES K tb μ1 (e y)) : EV K false (tOp (rNeD K) ta tb) μ (.bl (!decide (x = y))) μ1 := fun ρ ab =>
  ev_ne ((ha ρ ab).imp fun d' ρ1 ⟨e1, k1⟩ => (hb ρ1 k1).imp fun e' ρ2 ⟨e2, e3⟩ => by
    subst e1 e2 e3
    exact ⟨rfl, hq.shp _ hn x, hq.shp _ hn y, by rw [hq.eqv], k1⟩)
/-! ### behind a loop or a branch -/
theorem x_seqB {c : Ctl σ ρτ} (h : XS K t μ (outC J JR c)) (k1 : ∀ s, c = .nx s → XS K u (J s) o) (k2 : ∀ r, c = .rt r → o = .rt (JR r).1 (JR r).2) : XS K (tSeq t u) μ o := by
  cases c with
  | nx s => exact x_seq h (k1 s rfl)
  | rt r => rw [k2 r rfl]; exact x_seqR h
/-! ### keys of a dict of a slot, walked -/
abbrev SL (i : Nat) (a : Addr) (o : Obj) (ws : List (Key × V)) (kvs : List (Key × D)) : Env → Prop := fun ρ' => ρ'[i]? = some (some (.o a (.ldct o ws kvs)))
theorem x_lock {kvs : List (Int × α)} {tg : Option Addr} {M : Addr → Obj → List (Key × V) → MEnv} (hi : μ[i]? = some (some (.o tg (oDc e kvs)))) (h : ∀ a o ws, XS K t (μ.set i (some (.o (some a) (olDc o ws e kvs)))) (.nx (M a o ws)))
    (hk : ∀ a o ws, (M a o ws)[i]? = some (some (.o (some a) (olDc o ws e kvs)))) (he : ∀ a o ws, (M a o ws).set i (some (.o tg (oDc e kvs))) = μ1) : XS K (tLock t) μ (.nx μ1) := fun ρ ab => by
  obtain ⟨a, h2, h3⟩ := dct_of ab hi
  refine ex_lock h2 fun o ws => ?_
  have ab1 : Ab (ρ.set i (some (.o a (.ldct o ws (kvs.map (kvD e)))))) (μ.set i (some (.o (some a) (olDc o ws e kvs)))) := ab.set (AbS.t (c := .ldct o ws (kvs.map (kvD e)))) i
  refine (h a o ws _ ab1).imp (fun ρ' z => ⟨ldct_of z (hk a o ws), ?_⟩) (fun _ _ z => z.elim) (fun _ z => z.elim) fun _ z => z.elim
  rw [← he a o ws]
  exact z.mutD h3 i rfl
theorem sl_ok {kvs : List (Int × α)} {a : Addr} {o : Obj} {ws : List (Key × V)} (hi : μ[i]? = some (some (.o (some a) (olDc o ws e kvs)))) : ∀ ρ, Ab ρ μ → SL i a o ws (kvs.map (kvD e)) ρ := fun ρ ab => ldct_of ab hi
end
end Fw

set_option Elab.async false
set_option linter.all false
set_option maxRecDepth 100000
namespace Fw
variable [TbC]
open PySem L2
theorem hl_ {α : Type} {xs : List α} {n : Nat} (h : xs.length = n) (k : n ≤ sizeLine) : xs.length ≤ sizeLine := h ▸ k
section
variable {X : Cx}
theorem op_mulA : OpR X (binaryOp .Mult) (rI CMulA fun i j => .int (i * j)) := opI fun i j t u s Q E hc q => by
  rcases hc with hc | hc | hc
  · exact PyProof.Rows.mul_int q (CMulW.ok hc)
  · exact PyProof.Rows.mul_int q (CMul.ok (.inr hc))
  · exact PyProof.Rows.mul_int q (CMul.ok (.inl hc))
end
section
variable {K : PySem.W.Frag} {q : Bool} {μ μ1 μ2 μ3 : MEnv} {i j : Nat} {te ta tb tc td ti : TE} {d : D} {wi : TI} {g : TG} {vs : List Nat} {α β σ : Type} {e : α → D} {f : β → D} {xs : List α} {k : Int} {tg : Option Addr}
theorem b_ownL (h : μ[i]? = some (some (.o tg (oL e xs)))) : EB K q (tVar i) μ (eL e xs) μ := b_own h
theorem b_ownD {kvs : List (Int × α)} (h : μ[i]? = some (some (.o tg (oDc e kvs)))) : EB K q (tVar i) μ (eDc e kvs) μ := b_own h
theorem x_assoc {t u v : TS} {o : MOut} (h : XS K (tSeq t (tSeq u v)) μ o) : XS K (tSeq (tSeq t u) v) μ o := h
/-! texts, lengths of tuples, extend -/
def eS (s : String) : D := .str (Str.ofString s)
theorem e_strS {s : String} : EV K q (tC (.str (Str.ofString s))) μ (eS s) μ := e_str
theorem e_lenT {ds : List D} {n : Nat} (h : EB K q te μ d μ1) (hd : d.sq = some ds) (hn : ds.length = n) : EV K q (tCB (rLenS K) (tCons te tNil)) μ (.int n) μ1 := fun ρ ab =>
  ev_len ((h ρ ab).imp fun d' ρ1 ⟨e1, k1⟩ => ⟨ds, by rw [e1]; exact hd, by rw [hn], k1⟩)
/-! max, min with a default -/
/-! dicts -/
theorem e_dpopN {kvs : List (Int × α)} {tx : TE} (h1 : μ[i]? = some (some (.o tg (oDc e kvs)))) (hi : EV K true ti μ (.int k) μ) (hz : EV K true tx μ .non μ := by exact e_non) : EV K false (tDPop2 (tVar i) ti tx) μ (eO e (lookZ kvs k)) (μ.set i (some (.o tg (oDc e (dropZ kvs k))))) :=
  (e_dpop2 h1 hi hz).cast (by cases lookZ kvs k <;> rfl)
end
end Fw

set_option Elab.async false
set_option linter.all false
set_option maxRecDepth 100000
namespace Fw
variable [TbC]
open PySem L2
section
open PySem.Spec PyProof.Rows
variable {X : Cx}
/-- sorted(d), the keys whole numbers, any number of them -/
abbrev rSrtD : List V → Hp → VK → Prop := fun xs H Q => ∃ (a : Addr) (kvs : List (Key × V)) (ks : List Int), xs = [.ref a] ∧ Rd H a (.dK kvs) ∧ kvs.map (·.1) = ks.map Sum.inl ∧ ∀ (ys : List Int) (p : Addr), ys.Perm ks → ys.Pairwise (· ≤ ·) → H p = none → Q (.ref p) (upd H p (.lst (ys.map V.int)))
end
abbrev rLenD : List V → Hp → VK → Prop := fun xs H Q => ∃ a kvs, xs = [V.ref a] ∧ Rd H a (.dK kvs) ∧ Q (.int kvs.length) H
section
variable {K : PySem.W.Frag} {q : Bool} {μ μ1 : MEnv} {ρ : Env} {te : TE} {d : D} {α : Type} {e : α → D}
/-! len(d), d a slot's -/
end
end Fw

set_option Elab.async false
set_option linter.all false
set_option maxRecDepth 100000
namespace Fw
variable [TbC]
open PySem L2
section
variable {K : PySem.W.Frag} {q : Bool} {ρ : Env} {σ : St} {F H H' : Hp} {i : Nat} {E : En}
/-- the slot of a thing that is being changed, let go meanwhile -/
theorem Ok.dropG (ok : Ok K σ F H ρ) {a : Addr} {c : O} (h : ρ[i]? = some (some (.o a c))) (same : ∀ x o, H x = some o → x ∉ a :: c.inn → H' x = some o) : Ok K σ F H' (ρ.set i none) := by
  obtain ⟨v, h1, rfl, h2, h3⟩ := ok.at_ i _ h
  have hlt : i < ρ.length := (List.getElem?_eq_some_iff.mp h).1
  refine ⟨fun b u e => same b u (ok.sub _ _ e) (fun z => by rw [h2 b z] at e; cases e), by simpa using ok.len, fun j s e => ?_, (owns_sublist rfl ρ i).nodup ok.nd, ok.tb' fun b o e m => same b o e fun z => m (mem_in h z), ok.nf⟩
  by_cases z : j = i
  · subst z; rw [List.getElem?_set_self hlt] at e; cases e
  · rw [List.getElem?_set_ne (Ne.symm z)] at e
    obtain ⟨u, h4, h5⟩ := ok.at_ j s e
    refine ⟨u, h4, ?_⟩
    cases s with
    | v d => exact h5
    | o b c2 =>
      obtain ⟨rfl, h6, h7⟩ := h5
      exact ⟨rfl, h6, h7.mono (Same.refl _) fun y hy o eo => same y o eo fun hy' => z (owns_inj ok.nd e h hy hy')⟩
/-- setdefault(k, []).append(x) -/
def sdA : List (Key × Addr × List D) → Key → Addr → D → List (Key × Addr × List D)
  | [], k, q, x => [(k, q, [x])]
  | (k', p, xs) :: r, k, q, x => if k' = k then (k', p, xs ++ [x]) :: r else (k', p, xs) :: sdA r k q x
theorem DclAt.look {kvs : List (Key × Addr × List D)} {ws : List (Key × V)} (h : DclAt K F H kvs ws) (k : Key) :
    (valV ws k = none ∧ (∀ kv ∈ kvs, kv.1 ≠ k)) ∨ ∃ p xs vs, valV ws k = some (.ref p) ∧ (k, p, xs) ∈ kvs ∧ H p = some (.lst vs) ∧ RepL K F xs vs := by
  induction h with
  | nil => exact .inl ⟨rfl, fun kv hkv => by cases hkv⟩
  | @cons k' p xs kvs ws a _ ih =>
    by_cases e : k' = k
    · subst e
      obtain ⟨vs, h1, h2⟩ := a
      exact .inr ⟨p, xs, vs, valV_pos (p := (k', V.ref p)) rfl, List.mem_cons_self, h1, h2⟩
    · rw [valV_neg (p := (k', V.ref p)) e]
      rcases ih with ⟨h1, h2⟩ | ⟨p', xs', vs, h1, h2, h3⟩
      · refine .inl ⟨h1, fun kv hkv => ?_⟩
        rcases List.mem_cons.mp hkv with rfl | hkv
        · exact e
        · exact h2 kv hkv
      · exact .inr ⟨p', xs', vs, h1, List.mem_cons_of_mem _ h2, h3⟩
theorem DclAt.length {kvs : List (Key × Addr × List D)} {ws : List (Key × V)} (h : DclAt K F H kvs ws) : kvs.length = ws.length := by
  induction h with
  | nil => rfl
  | cons _ _ ih => simp [ih]
theorem sdA_new : ∀ {kvs : List (Key × Addr × List D)} {k : Key} (q : Addr) (x : D), (∀ kv ∈ kvs, kv.1 ≠ k) → sdA kvs k q x = kvs ++ [(k, q, [x])]
  | [], _, _, _, _ => rfl
  | (k', p, xs) :: r, k, q, x, h => by
    have h1 : k' ≠ k := h _ List.mem_cons_self
    show (if k' = k then _ else _) = _
    rw [if_neg h1, sdA_new q x fun kv hkv => h kv (List.mem_cons_of_mem _ hkv)]
    rfl
theorem DclAt.append {kvs ks : List (Key × Addr × List D)} {ws us : List (Key × V)} (h : DclAt K F H kvs ws) (t : DclAt K F H ks us) : DclAt K F H (kvs ++ ks) (ws ++ us) := by
  induction h with
  | nil => exact t
  | cons a _ ih => exact .cons a ih
/-- one of the lists grows -/
theorem DclAt.grow {kvs : List (Key × Addr × List D)} {ws : List (Key × V)} (h : DclAt K F H kvs ws) {k : Key} {p q : Addr} {x : D} {v : V} (rx : Rep K F x v) (hv : valV ws k = some (.ref p)) {vs : List V} (hp : H p = some (.lst vs)) (nd : (kvs.map fun kv => kv.2.1).Nodup) :
    DclAt K F (upd H p (.lst (vs ++ [v]))) (sdA kvs k q x) ws ∧ (sdA kvs k q x).map (fun kv => kv.2.1) = kvs.map fun kv => kv.2.1 := by
  induction h with
  | nil => cases hv
  | @cons k' p' xs kvs ws a t ih =>
    have nd' := List.nodup_cons.mp (show (p' :: kvs.map fun kv => kv.2.1).Nodup from nd)
    by_cases e : k' = k
    · subst e
      rw [valV_pos (p := (k', V.ref p')) rfl] at hv
      have hpp : p' = p := by injection (Option.some.inj hv)
      subst hpp
      obtain ⟨vs', h1, h2⟩ := a
      rw [hp] at h1; cases h1
      have es : sdA ((k', p', xs) :: kvs) k' q x = (k', p', xs ++ [x]) :: kvs := if_pos rfl
      rw [es]
      refine ⟨.cons ⟨_, upd_same, h2.append (.cons rx .nil)⟩ (t.mono (Same.refl _) fun y hy o ho => ?_), rfl⟩
      rw [upd_ne fun z : y = p' => nd'.1 (by rw [← z]; exact hy)]; exact ho
    · rw [valV_neg (p := (k', V.ref p')) e] at hv
      have es : sdA ((k', p', xs) :: kvs) k q x = (k', p', xs) :: sdA kvs k q x := if_neg e
      obtain ⟨h1, h2⟩ := ih hv nd'.2
      rw [es]
      refine ⟨.cons (a.mono (Same.refl _) fun o ho => ?_) h1, by rw [List.map_cons, List.map_cons, h2]⟩
      have hne : p' ≠ p := fun z => by
        subst z
        rcases t.look k with ⟨g1, _⟩ | ⟨p2, xs2, vs2, g1, g2, _⟩
        · rw [g1] at hv; cases hv
        · rw [g1] at hv
          have : p2 = p' := by injection (Option.some.inj hv)
          subst this
          exact nd'.1 (List.mem_map.mpr ⟨_, g2, rfl⟩)
      rw [upd_ne hne]; exact ho
theorem ex_sdapp {ty te : TE} {a : Addr} {kvs : List (Key × Addr × List D)} {k : Key} {x : D} (h0 : ρ[i]? = some (some (.o a (.dcl kvs)))) (hk : ev K true ty ρ fun kd _ => kd = keyD k) (he : ev K true te (ρ.set i none) fun d _ => d = x)
    (hl : kvs.length < sizeLine) (hx : ∀ kv ∈ kvs, kv.2.2.length < sizeLine) (hn : ∀ q, E.nx (ρ.set i (some (.o a (.dcl (sdA kvs k q x)))))) :
    ex K (tDrop (tBM K "list" rAppend (tDSetd (tVar i) ty (tLst tNil)) (tCons te tNil))) ρ E := fun σ F H D ok g => by
  obtain ⟨w, e1, rfl, hF, ws, h3, h4⟩ := ok.at_ i _ h0
  have ndk := owns_nd1 ok.nd h0
  refine ⟨_, e1, a, rfl, .inl ⟨ws, .inl h3⟩, ?_⟩
  refine hk σ F H _ ok fun kd y F1 H1 ρ1 ok1 r1 s1 q1 ek => ?_
  obtain ⟨rfl, rfl, rfl⟩ := q1 rfl
  subst ek
  rw [keyD_rep r1]
  refine ⟨by decide, fun p hp => ?_⟩
  have lw : kvs.length = ws.length := h4.length
  have pa : p ≠ a := fun z => by subst z; rw [h3] at hp; cases hp
  have pinn : ∀ y ∈ (O.dcl kvs).inn, y ≠ p := fun y hy z => by
    subst z
    obtain ⟨o, ho⟩ := h4.there y hy
    rw [hp] at ho; cases ho
  refine ⟨ws, k, by rw [upd_ne (Ne.symm pa)]; exact h3, rfl, by rw [← lw]; exact hl, fun v hv => ?_, fun hv => ?_⟩
  · -- the key is there
    rcases h4.look k with ⟨g1, _⟩ | ⟨p1, xs, vs, g1, g2, g3, g4⟩
    · rw [g1] at hv; cases hv
    rw [g1] at hv
    cases hv
    have p1in : p1 ∈ (O.dcl kvs).inn := List.mem_map.mpr ⟨_, g2, rfl⟩
    have p1p : p1 ≠ p := pinn p1 p1in
    have p1a : p1 ≠ a := fun z => (List.nodup_cons.mp ndk).1 (z ▸ p1in)
    have hp1 : upd H1 p (.lst []) p1 = some (.lst vs) := by rw [upd_ne p1p]; exact g3
    refine ⟨.inl ⟨rfl, vs, SqL.of hp1⟩, ?_⟩
    have okd : Ok K σ F1 (upd H1 p (.lst [])) (ρ1.set i none) := ok.dropG h0 fun y o e _ => by
      rw [upd_ne fun z : y = p => by subst z; rw [hp] at e; cases e]; exact e
    refine he σ F1 _ _ okd fun d z F2 H2 ρ2 ok2 r2 s2 q2 ed => ?_
    obtain ⟨rfl, rfl, rfl⟩ := q2 rfl
    subst ed
    refine ⟨p1, vs, z, rfl, rfl, hp1, by rw [← g4.length]; exact hx _ g2, ?_⟩
    obtain ⟨d1, d2⟩ := (h4.mono (H' := upd H1 p (.lst [])) (Same.refl _) fun y hy o e => by rw [upd_ne (pinn y hy)]; exact e).grow (q := p) r2 g1 hp1 (List.nodup_cons.mp ndk).2
    obtain ⟨ok3, s3⟩ := ok.mutG (c' := .dcl (sdA kvs k p d)) (H' := upd (upd H1 p (.lst [])) p1 (.lst (vs ++ [z]))) h0 ⟨ws, by rw [upd_ne (Ne.symm p1a), upd_ne (Ne.symm pa)]; exact h3, d1⟩ (fun y o e hy => by
      have hy1 : y ≠ p1 := fun z => hy (by rw [z]; exact List.mem_cons_of_mem _ p1in)
      rw [upd_ne hy1, upd_ne fun z : y = p => by subst z; rw [hp] at e; cases e]; exact e) (fun y hy => .inl (List.mem_cons_of_mem _ (by
        have : y ∈ (sdA kvs k p d).map (fun kv => kv.2.1) := hy
        rw [d2] at this; exact this))) (by
        show (a :: (sdA kvs k p d).map (fun kv => kv.2.1)).Nodup
        rw [d2]; exact ndk)
    exact g.nx _ _ _ _ ok3 s3 (hn p)
  · -- a new key
    have g2 : ∀ kv ∈ kvs, kv.1 ≠ k := by
      rcases h4.look k with ⟨_, g2⟩ | ⟨p1, xs, vs, g1, _⟩
      · exact g2
      · rw [g1] at hv; cases hv
    have eput : putK ws k (V.ref p) = ws ++ [(k, V.ref p)] := by
      unfold putK
      rw [if_neg]
      rw [valV_any, hv]; simp
    have hH : ∀ y o, H1 y = some o → y ∉ a :: (O.dcl kvs).inn → upd (upd H1 p (.lst [])) a (.dK (putK ws k (.ref p))) y = some o := fun y o e hy => by
      rw [upd_ne fun z : y = a => hy (by rw [z]; exact List.mem_cons_self), upd_ne fun z : y = p => by subst z; rw [hp] at e; cases e]; exact e
    have hpl : upd (upd H1 p (.lst [])) a (.dK (putK ws k (.ref p))) p = some (.lst []) := by rw [upd_ne pa, upd_same]
    refine ⟨.inl ⟨rfl, [], SqL.of hpl⟩, ?_⟩
    have okd : Ok K σ F1 (upd (upd H1 p (.lst [])) a (.dK (putK ws k (.ref p)))) (ρ1.set i none) := ok.dropG h0 hH
    refine he σ F1 _ _ okd fun d z F2 H2 ρ2 ok2 r2 s2 q2 ed => ?_
    obtain ⟨rfl, rfl, rfl⟩ := q2 rfl
    subst ed
    refine ⟨p, [], z, rfl, rfl, hpl, by decide, ?_⟩
    have einn : (sdA kvs k p d).map (fun kv => kv.2.1) = kvs.map (fun kv => kv.2.1) ++ [p] := by rw [sdA_new p d g2, List.map_append]; rfl
    obtain ⟨ok3, s3⟩ := ok.mutG (c' := .dcl (sdA kvs k p d)) (H' := upd (upd (upd H1 p (.lst [])) a (.dK (putK ws k (.ref p)))) p (.lst ([] ++ [z]))) h0 ⟨ws ++ [(k, .ref p)], by rw [upd_ne (Ne.symm pa), upd_same, eput], by
        rw [sdA_new p d g2]
        refine DclAt.append (h4.mono (Same.refl _) fun y hy o e => ?_) (.cons ⟨_, upd_same, .cons r2 .nil⟩ .nil)
        have ya : y ≠ a := fun z => (List.nodup_cons.mp ndk).1 (z ▸ hy)
        rw [upd_ne (pinn y hy), upd_ne ya, upd_ne (pinn y hy)]; exact e⟩ (fun y o e hy => by
        rw [upd_ne fun z : y = p => by subst z; rw [hp] at e; cases e]; exact hH y o e hy) (fun y hy => by
        have hy : y ∈ (sdA kvs k p d).map (fun kv => kv.2.1) := hy
        rw [einn] at hy
        rcases List.mem_append.mp hy with hy | hy
        · exact .inl (List.mem_cons_of_mem _ hy)
        · rw [List.mem_singleton.mp hy]; exact .inr hp) (by
        show (a :: (sdA kvs k p d).map (fun kv => kv.2.1)).Nodup
        rw [einn]
        refine List.nodup_cons.mpr ⟨fun m => ?_, List.nodup_append.mpr ⟨(List.nodup_cons.mp ndk).2, nd1, fun y hy z hz e => ?_⟩⟩
        · rcases List.mem_append.mp m with m | m
          · exact (List.nodup_cons.mp ndk).1 m
          · exact pa (List.mem_singleton.mp m).symm
        · rw [List.mem_singleton.mp hz] at e; exact pinn y hy e)
    exact g.nx _ _ _ _ ok3 s3 (hn p)
end
end Fw

set_option Elab.async false
set_option linter.all false
set_option maxRecDepth 100000
namespace Fw
variable [TbC]
open PySem L2
/-! ### enumerate(dict) -/
section
variable {prog : Program} {w : World} {A : Around} {E : Value → Shared → Prop} {s : Shared}
set_option maxHeartbeats 1000000 in
theorem meets_enum1B {v : Value} {o : Obj} {H : Heap → Prop} (B : Begins v o H) :
    Meets (Builtin.«enumerate.__new__» ⟨[.type "enumerate", v], []⟩) (fun _ R s => H s.heap ∧
      R (.ok (.ret (.ref (s.heap.push o).objs.size))) { s with heap := (s.heap.push o).push { cls := .type "enumerate", data := .fields #[.none, .bool false, .ref s.heap.objs.size, rawInt 0, .none, .none] } }) :=
  .of_wp fun prog w A R s h => by
    obtain ⟨hp, g, d, tk, os⟩ := s; obtain ⟨h1, h⟩ := h
    have hsub := sub_enumerate
    have q1 : ∀ {A' : Around} {E : Value → Shared → Prop} {Q : Value → Shared → Prop}, Q (.ref hp.objs.size) ⟨hp.push o, g, d, tk, os⟩ → wpAny (model prog w) A' (pyIter v) Q E ⟨hp, g, d, tk, os⟩ :=
      fun q => B.iter prog w _ _ ⟨hp, g, d, tk, os⟩ _ h1 q
    wp_walk using q1
    refine wpAny_stack_any fun st => wpAny_pure ?_
    split
    · rename_i c _ _ _ _ _
      cases (c == Value.type "enumerate")
      · wp_walk using q1
        exact ⟨_, rfl, h⟩
      · wp_walk using q1
        exact ⟨_, rfl, h⟩
    · wp_walk using q1
      exact ⟨_, rfl, h⟩
theorem enum1_begins {v : Value} {o : Obj} {H : Heap → Prop} {Q : Value → Shared → Prop} (B : Begins v o H) (h1 : H s.heap)
    (h : ∀ h', IsEnum h' (s.heap.objs.size + 1) s.heap.objs.size 0 .none → h'.get? s.heap.objs.size = some o → h'.objs.size = s.heap.objs.size + 2 →
      (∀ b o, s.heap.get? b = some o → h'.get? b = some o) → Q (.ref (s.heap.objs.size + 1)) { s with heap := h' }) :
    wpAny (model prog w) A (call (.type "enumerate") [v]) Q E s := by
  refine callType_new F.called_enumerate (by decide) (F.typeCall_enumerate_1 _) (F.newCall_enumerate_1 _) (fun obj => F.args_object_init_2 obj _) F.entry_enumerate_new
    (meets_enum1B B) ⟨h1, ?_⟩
  have hz : (s.heap.push o).objs.size = s.heap.objs.size + 1 := Heap.size_push ..
  show _ ∧ _
  rw [hz]
  have he : IsEnum ((s.heap.push o).push { cls := .type "enumerate", data := .fields #[.none, .bool false, .ref s.heap.objs.size, rawInt 0, .none, .none] }) (s.heap.objs.size + 1) s.heap.objs.size 0 .none := by
    have := Heap.get?_push_size (s.heap.push o) (o := { cls := .type "enumerate", data := .fields #[.none, .bool false, .ref s.heap.objs.size, rawInt 0, .none, .none] }) rfl
    rw [hz] at this; exact this
  refine ⟨⟨_, he, rfl⟩, h _ he (Heap.get?_push_of_some _ (Heap.get?_push_size _ B.free)) (by rw [Heap.size_push, hz]) fun b o x => Heap.get?_push_of_some _ (Heap.get?_push_of_some _ x)⟩
theorem begins_keys {d : Addr} {o : Obj} {es : Array DictEntry} {ep : Nat} (hd : (d == sysModules) = false) (hc : o.ExactDict) (hdat : o.data = .dict es ep) :
    Begins (.ref d) { cls := .type "dict_keyiterator", data := .fields #[.ref d, .int 0 0, .int es.size 0, .int ep 0] } fun h => h.get? d = some o where
  iter := fun prog w A E s Q ho h => iter_keys hd ho hc hdat h
  keeps := fun h h' x hk => hk d o x
  free := rfl
theorem nextOf_key_item {it d : Addr} {i n ep : Nat} {od : Obj} {es : Array DictEntry} {en : DictEntry} {Q : Value → Shared → Prop} (hit : s.heap.IsKeyIter it d i n ep) (hod : s.heap.get? d = some od) (hdd : od.data = .dict es ep)
    (hsz : es.size = n) (hx : es[i]? = some en) (hQ : ∀ h', h'.IsKeyIter it d (i + 1) n ep → Heap.SameBut it s.heap h' → Q en.key { s with heap := h' }) : wpAny (model prog w) A (Builtin.SmallTypes.nextOf (.ref it)) Q E s := by
  obtain ⟨o, ho, hc, hd⟩ := id hit
  unfold Builtin.SmallTypes.nextOf
  refine wpAny_bind (wpAny_callSpecial?_slot (name := Str.ofString "__next__") hit.typeIs F.slot_dict_keyiterator_next
    (wpAny_call_entry F.slot_dict_keyiterator_next hit.typeIs F.entry_dict_keyiterator_next ?_ (F.args_dict_keyiterator_next_1 _)))
  refine wpAny_bind (wpAny_pure ?_)
  refine wpAny_bind ?_
  refine wpAny_bind ?_
  first | refine wpAny_bind (wpAny_typeNameOfWhole_keyiter hit.typeIs (wpAny_pure ?_)) | refine wpAny_bind (wpAny_typeNameOf_keyiter hit.typeIs (wpAny_pure ?_))
  refine wpAny_bind (wpAny_fieldsOf ho hd ?_)
  have hown : Builtin.Dict_items.ownsTuple "dict_keyiterator" = false := by decide
  simp only [hown, Bool.false_eq_true, if_false]
  show wpAny _ _ (if (Value.ref d == Value.none) = true then _ else _) _ _ s
  rw [if_neg (show ¬ ((Value.ref d == Value.none) = true) from Bool.false_ne_true)]
  refine wpAny_bind (wpAny_pure ?_)
  refine wpAny_bind (wpAny_dictEntries hod hdd ?_)
  rw [if_neg (by rw [hsz]; simp)]
  refine wpAny_bind (wpAny_pure ?_)
  refine wpAny_bind (wpAny_dictEpoch hod hdd ?_)
  rw [if_neg (by simp)]
  refine wpAny_pure ?_
  obtain ⟨hlt', hen⟩ := Array.getElem?_eq_some_iff.mp hx
  simp only [show ¬ ((i : Int) < 0) from by omega, if_false, Int.toNat_natCast, Array.getElem?_eq_getElem hlt']
  refine wpAny_bind ?_
  first | refine wpAny_bind (wpAny_typeNameOfWhole_keyiter hit.typeIs (wpAny_pure ?_)) | refine wpAny_bind (wpAny_typeNameOf_keyiter hit.typeIs (wpAny_pure ?_))
  refine wpAny_bind (wpAny_isOneOf_keyiter hit.typeIs ?_)
  show wpAny _ _ (setField (.ref it) 1 (rawInt ((i : Int) + 1)) >>= _) _ _ s
  refine wpAny_bind (wpAny_setField ho hd (by simp) ?_)
  have hit' : (s.heap.update it (Obj.mapFields (·.setIfInBounds 1 (rawInt ((i : Int) + 1))))).IsKeyIter it d (i + 1) n ep :=
    ⟨_, Heap.get?_update_self _ ho (Obj.isFreed_of_fields (Obj.data_mapFields hd _)), (Obj.cls_mapFields ..).trans hc, by rw [Obj.data_mapFields hd]; simp [rawInt]⟩
  refine wpAny_bind (wpAny_holding ?_)
  refine wpAny_bind (wpAny_isOneOf_keyiter (s := { s with heap := s.heap.update it (Obj.mapFields (·.setIfInBounds 1 (rawInt ((i : Int) + 1)))) }) hit'.typeIs ?_)
  show wpAny _ _ (pure es[i].key) _ _ _
  rw [hen]
  exact wpAny_pure (wpAny_pure ⟨_, rfl, wpAny_pure (hQ _ hit' (Heap.SameBut.update ..))⟩)
theorem nextOf_key_end {it d : Addr} {i n ep : Nat} {od : Obj} {es : Array DictEntry} {Q : Value → Shared → Prop} (hh : A.handled = none) (hit : s.heap.IsKeyIter it d i n ep) (hod : s.heap.get? d = some od) (hdd : od.data = .dict es ep)
    (hsz : es.size = n) (hge : n ≤ i) (hE : ∀ h' e, Heap.ExtBut it s.heap h' → (∃ o, h'.get? e = some o ∧ o.cls = .type "StopIteration") → E (.ref e) { s with heap := h' }) : wpAny (model prog w) A (Builtin.SmallTypes.nextOf (.ref it)) Q E s := by
  obtain ⟨o, ho, hc, hd⟩ := id hit
  unfold Builtin.SmallTypes.nextOf
  refine wpAny_bind (wpAny_callSpecial?_slot (name := Str.ofString "__next__") hit.typeIs F.slot_dict_keyiterator_next
    (wpAny_call_entry F.slot_dict_keyiterator_next hit.typeIs F.entry_dict_keyiterator_next ?_ (F.args_dict_keyiterator_next_1 _)))
  refine wpAny_bind (wpAny_pure ?_)
  refine wpAny_bind ?_
  refine wpAny_bind ?_
  first | refine wpAny_bind (wpAny_typeNameOfWhole_keyiter hit.typeIs (wpAny_pure ?_)) | refine wpAny_bind (wpAny_typeNameOf_keyiter hit.typeIs (wpAny_pure ?_))
  refine wpAny_bind (wpAny_fieldsOf ho hd ?_)
  have hown : Builtin.Dict_items.ownsTuple "dict_keyiterator" = false := by decide
  simp only [hown, Bool.false_eq_true, if_false]
  show wpAny _ _ (if (Value.ref d == Value.none) = true then _ else _) _ _ s
  rw [if_neg (show ¬ ((Value.ref d == Value.none) = true) from Bool.false_ne_true)]
  refine wpAny_bind (wpAny_pure ?_)
  refine wpAny_bind (wpAny_dictEntries hod hdd ?_)
  rw [if_neg (by rw [hsz]; simp)]
  refine wpAny_bind (wpAny_pure ?_)
  refine wpAny_bind (wpAny_dictEpoch hod hdd ?_)
  rw [if_neg (by simp)]
  refine wpAny_pure ?_
  have hge' : es.size ≤ i := by rw [hsz]; exact hge
  simp only [show ¬ ((i : Int) < 0) from by omega, if_false, Int.toNat_natCast, Array.getElem?_eq_none hge']
  refine wpAny_bind ?_
  first | refine wpAny_bind (wpAny_typeNameOfWhole_keyiter hit.typeIs (wpAny_pure ?_)) | refine wpAny_bind (wpAny_typeNameOf_keyiter hit.typeIs (wpAny_pure ?_))
  show wpAny _ _ (setField (.ref it) 0 .none >>= _) _ _ s
  refine wpAny_bind (wpAny_setField ho hd (by simp) ?_)
  show wpAny _ _ (newExc (.type "StopIteration") [] >>= _) _ _ _
  refine wpAny_bind ?_
  simp only [newExc, newTuple]
  refine wpAny_bind (wpAny_newObj_type ?_ (by size_fits))
  refine wpAny_bind (m := firstArgMember _ _) (wpAny_of_eq (a := Value.none) (by first | rfl | (simp only [firstArgMember]; rfl)) ?_)
  refine wpAny_newObj_type ?_ (by size_fits)
  simp only [raiseNew]
  refine wpAny_bind (wpAny_handled ?_)
  first | rw [show A.in1.handled = none from hh] | rw [hh]
  refine wpAny_bind (wpAny_pure (wpAny_throw ?_))
  exact hE _ _ (((Heap.SameBut.update ..).extBut.push _).push _) ⟨_, Heap.get?_push_size _ rfl, rfl⟩
end
theorem draws_keys {prog : Program} {w : World} {A : Around} (hh : A.handled = none) {it d : Addr} {o : Obj} {es : Array DictEntry} {n ep : Nat} (hne : d ≠ it) (hdd : o.data = .dict es ep) (hsz : es.size = n) :
    Draws prog w A it [it, d] n (fun i v => ∃ en, es[i]? = some en ∧ v = en.key) (fun i h => h.IsKeyIter it d i n ep ∧ h.get? d = some o) where
  live := fun _ _ st => let ⟨o, ho, _⟩ := st.1; ⟨o, ho⟩
  frame := fun _ _ _ st hk => ⟨st.1.at fun o e => hk it (by simp) o e, hk d (by simp) o st.2⟩
  item := fun i s Q E hi st hQ => by
    have hx : es[i]? = some es[i] := by simp [hsz, hi]
    refine nextOf_key_item st.1 st.2 hdd hsz hx fun h' hit' hs' => ?_
    exact hQ _ h' s.toks ⟨_, hx, rfl⟩ ⟨hit', (hs'.2 d hne).trans st.2⟩ hs'
  done := fun s Q E st hE => nextOf_key_end hh st.1 st.2 hdd hsz (Nat.le_refl _) hE
/-- the keys of the locked dict at d, each in a new pair -/
def Itke (d : Addr) (o : Obj) (kvs : List (Key × V)) : It :=
  ⟨fun i H => H d = some (.frz o (.dK kvs)) ∧ i < kvs.length, fun i H x H' => ∃ T k v, kvs[i]? = some (k, v) ∧ x = .ref T ∧ H T = none ∧ H' = upd H T (.tup [.int (i : Nat), kV k]), fun i H => H d = some (.frz o (.dK kvs)) ∧ kvs.length ≤ i⟩
theorem turn_enumK {P : Program} {w : World} {K : PySem.W.Frag} {elts : List Expr} {kk : Nat} {tpos : Pos} {d e it : Addr} {o : Obj} {es : Array DictEntry} {ep : Nat} {kvs : List (Key × V)} (hod : o.data = .dict es ep) :
    L2.Turn P w K (.Tuple elts kk tpos) (Itke d o kvs) [e, it] e (fun i h => (∃ old, IsEnum h e it ((i : Nat) : Int) old) ∧ h.IsKeyIter it d i kvs.length ep ∧ e ≠ it) where
  mem := by simp
  obj := fun i h st b hb => by
    obtain ⟨⟨old, he⟩, ⟨o, ho, hc, hd⟩, _⟩ := st
    have e' : b = e ∨ b = it := by simpa using hb
    rcases e' with z | z
    · rw [z]; exact ⟨_, he, fun v q => nomatch q⟩
    · rw [z]; exact ⟨o, ho, fun v q => by rw [hd] at q; cases q⟩
  keep := fun i h h' st k => let ⟨⟨old, he⟩, hi, hne⟩ := st; ⟨⟨old, k e (by simp) _ he⟩, hi.at fun o q => k it (by simp) o q, hne⟩
  item := by
    intro X hP hw hK hc i pins s σ H E I hf st hg
    subst hP hw hK
    obtain ⟨⟨old, he⟩, hit, hne⟩ := st
    obtain ⟨hd, hi⟩ := hg
    obtain ⟨f0, _⟩ := hf it (by simp)
    obtain ⟨g0, _⟩ := hf e (by simp)
    have hdit : d ≠ it := fun z => by rw [z, f0] at hd; cases hd
    have hde : d ≠ e := fun z => by rw [z, g0] at hd; cases hd
    obtain ⟨hs, hgd, hx, es', ep', vs, hdt, hsz, kv, hm⟩ := I.frzK hd
    obtain ⟨rfl, rfl⟩ := dict_ep hod hdt
    obtain ⟨⟨k, v⟩, hkv⟩ : ∃ p, kvs[i]? = some p := ⟨kvs[i], List.getElem?_eq_getElem hi⟩
    obtain ⟨u, hu, ru⟩ := kv_get kv hkv
    have hl : kvs.length = vs.length := Paired.length kv
    have hel : e < s.heap.objs.size := Heap.lt_size he
    have hil : it < s.heap.objs.size := by obtain ⟨_, q, _⟩ := hit; exact Heap.lt_size q
    obtain ⟨od, es2, hod2, hcd2, hdd2, hk2, hp2, hn2⟩ := id hm
    have : od = o := by rw [hgd] at hod2; exact (Option.some.inj hod2).symm
    subst this
    obtain ⟨rfl, _⟩ := dict_ep hdt hdd2
    have hsz' : es2.size = kvs.length := by rw [hsz]
    refine wpAny_pyNext_enum_itemD (draws_keys (A := X.A.in1) (I.ok.hd hc) hdit hdt hsz') he ⟨hit, hgd⟩ hi hne (by
      intro z
      rcases List.mem_cons.mp z with z | z
      · exact hne z
      · exact hde (List.mem_singleton.mp z).symm) fun x h' tk hP ho hst hT hsz2 hk => ?_
    obtain ⟨en, hen, rfl⟩ := hP
    have rkey : RelV (kV k) en.key := by
      have := (hp2.get? (e := en) (by simpa using hen) hu).1
      exact relV_key this
    refine ⟨_, rfl, wpAny_letOwnedTupleGo_enum (s := { s with heap := h', toks := tk + 1 }) ho fun h'' he' sb => ?_⟩
    have hT2 : h''.get? s.heap.objs.size = some { cls := .type "tuple", data := .seq #[.int i tk, en.key] } := (sb.2 _ (Nat.ne_of_gt hel)).trans hT
    have new : ObjOk X.prog X.w (upd H s.heap.objs.size (.tup [.int (i : Nat), kV k])) h'' s.heap.objs.size (.tup [.int (i : Nat), kV k]) :=
      ⟨by show 2 ≤ sizeLine; decide, [.int i tk, en.key], .cons ⟨_, rfl⟩ (.cons rkey .nil), ⟨_, hT2, rfl, _, rfl⟩⟩
    have I1 : Inv X pins σ (upd H s.heap.objs.size (.tup [.int (i : Nat), kV k])) { s with heap := h'', toks := tk + 1 } :=
      I.turnedNew (ch := [e, it]) (fun b ob hb q => (sb.2 b (fun z => hb (by simp [z]))).trans (hk b ob (fun z => hb (by simp [z])) (fun z => hb (by simp [z])) q)) hf (Nat.le_refl _) new
    refine ⟨.ref s.heap.objs.size, _, I1, rfl, ⟨_, k, v, hkv, rfl, I.hok.fresh (Nat.le_refl _), rfl⟩, ⟨⟨en.key, ?_⟩, hst.1.at fun o q => (sb.2 it (Ne.symm hne)).trans q, hne⟩, fun b hb => ?_⟩
    · have e1 : ((i + 1 : Nat) : Int) = (i : Int) + 1 := by omega
      rw [e1]; exact he'
    · have hb' : b < s.heap.objs.size := by
        have e' : b = e ∨ b = it := by simpa using hb
        rcases e' with z | z
        · rw [z]; exact hel
        · rw [z]; exact hil
      rw [upd_ne (Nat.ne_of_lt hb')]
      exact (hf b hb).1
  done := by
    intro X hP hw hK hc i pins s σ H E I hf st hg
    subst hP hw hK
    obtain ⟨⟨old, he⟩, hit, hne⟩ := st
    obtain ⟨hd, hi⟩ := hg
    obtain ⟨f0, f1, f2, f3, f4, f5⟩ := hf it (by simp)
    have hdit : d ≠ it := fun z => by rw [z, f0] at hd; cases hd
    obtain ⟨hs, hgd, hx, es', ep', vs, hdt, hsz, kv, hm⟩ := I.frzK hd
    obtain ⟨rfl, rfl⟩ := dict_ep hod hdt
    refine wpAny_pyNext_enum_endD (n := i) (St := fun j h => j = i ∧ h.IsKeyIter it d i kvs.length ep' ∧ h.get? d = some o) (P := fun _ _ => True) (fp := [it, d]) ?_ he ⟨rfl, hit, hgd⟩ fun h' eb => ⟨rfl, I.turned (t' := s.toks) (fun b o hb q => eb b o hb q) f0 f1 f3 f4 f5⟩
    exact {
      live := fun _ _ st => let ⟨o, ho, _⟩ := st.2.1; ⟨o, ho⟩
      frame := fun _ _ _ st hk => ⟨st.1, st.2.1.at fun o e => hk it (by simp) o e, hk d (by simp) o st.2.2⟩
      item := fun j s Q E hj st hQ => absurd st.1 (Nat.ne_of_lt hj)
      done := fun s Q E st hE => nextOf_key_end (I.ok.hd hc) st.2.1 st.2.2 hdt hsz hi hE }
  self := fun A i s Q E st h => let ⟨⟨_, he⟩, _⟩ := st; wpAny_pyIter_enum he h
end Fw
namespace Fw
variable [TbC]
open PySem L2
open PyProof.Rows
def iEnumK (ta : TA) : TI := fun σ H R => ta σ H fun vs H1 => ∃ d o kvs, vs = [.ref d] ∧ H1 d = some (.frz o (.dK kvs)) ∧ R (Itke d o kvs) H1
theorem pi_enumK {X : Cx} {e : Expr} {ta : TA} {p pos tpos : Pos} {elts : List Expr} {kk : Nat} (hg : Gl X "enumerate") (hm : X.mg "enumerate" = none) (ha : PA X [e] ta) (hs : starEach [e] X.env = [(false, eval e X.env)] := by rfl) :
    PI X (.Tuple elts kk tpos) (.Call (.Name "enumerate" p) [e] [] pos) (iEnumK ta) := by
  refine ⟨fun pins s σ H R I h => ?_⟩
  refine PyProof.Rows.Call_ (ld_blt I hg hm boot_enumerate (PyProof.Rows.callWith_type1 (thn (ha.run pos pins s σ H _ I h) fun us s1 ⟨vs, H1, I1, r1, q1⟩ => ?_) hs rfl))
  obtain ⟨d, o, kvs, ex, hd, q⟩ := q1
  subst ex
  cases r1 with
  | cons r rr =>
    cases rr
    cases r
    obtain ⟨hs2, hgd, hx, es, ep, vs, hdt, hsz, kv, hm2⟩ := I1.frzK hd
    refine enum1_begins (begins_keys hs2 hx hdt) hgd fun h' he hit hsz2 hk => wpAny_pyIter_enum he ?_
    have I2 : Inv X pins σ H1 { s1 with heap := h' } := I1.kept (t' := s1.toks) hk
    refine ⟨s1.heap.objs.size + 1, [s1.heap.objs.size + 1, s1.heap.objs.size], _, _, H1, rfl, I2, turn_enumK (d := d) (e := s1.heap.objs.size + 1) (it := s1.heap.objs.size) hdt, ⟨⟨.none, he⟩, ⟨_, hit, rfl, ?_⟩, Nat.succ_ne_self _⟩, fun b hb => ?_, q⟩
    · rw [hsz]; rfl
    · have e' : b = s1.heap.objs.size + 1 ∨ b = s1.heap.objs.size := by simpa using hb
      have hle : s1.heap.objs.size ≤ b := by
        rcases e' with z | z
        · rw [z]; exact Nat.le_add_right _ _
        · rw [z]; exact Nat.le_refl _
      exact I1.fpOk hle (I1.hok.fresh hle)
section
variable {K : PySem.W.Frag} {q : Bool} {ρ : Env} {i : Nat} {a : Addr} {kvs : List (Key × D)} {μ : MEnv} {α : Type} {e : α → D}
theorem it_enumK {o : Obj} {ws : List (Key × V)} : ItOk K (Itke a o ws) (enumD (keysD kvs)) (fun _ => True) (fun ρ' => ρ'[i]? = some (some (.o a (.ldct o ws kvs)))) where
  mono := fun _ _ _ _ => trivial
  go := fun j d σ F H ρ e ok hs _ => by
    obtain ⟨v, h1, rfl, h2, h3, h4⟩ := ok.at_ i _ hs
    have hl := (keysD_rep h4 F).length
    have := (List.getElem?_eq_some_iff.mp e).1
    rw [enumD_len] at this
    exact ⟨h3, by rw [hl, List.length_map] at this; exact this⟩
  yld := fun j d σ F H ρ x H' e ok hs _ ⟨T, k, v, y2, y1, y3, y4⟩ => by
    obtain ⟨v', h1, rfl, h2, h3, h4⟩ := ok.at_ i _ hs
    subst y1 y4
    obtain ⟨d', e1, rfl⟩ := enumD_get e
    obtain ⟨u, m1, m2⟩ := (keysD_rep h4 F).get e1
    rw [List.getElem?_map, y2] at m1
    cases m1
    exact yld_new ok.sub y3 (.int _) m2
  stop := fun σ F H ρ ok hs _ => by
    obtain ⟨v, h1, rfl, h2, h3, h4⟩ := ok.at_ i _ hs
    have hl := (keysD_rep h4 F).length
    exact ⟨h3, by rw [enumD_len, hl, List.length_map]; exact Nat.le_refl _⟩
theorem ei_enumK {o : Obj} {ws : List (Key × V)} {Φ : List D → Env → Prop} (hi : ρ[i]? = some (some (.o a (.ldct o ws kvs)))) (k : Φ (enumD (keysD kvs)) ρ) : eiS K (fun ρ' => ρ'[i]? = some (some (.o a (.ldct o ws kvs)))) (iEnumK (tCons (tVar i) tNil)) ρ Φ := fun σ F H R ok c => by
  obtain ⟨v, h1, rfl, h2, h3, h4⟩ := ok.at_ i _ hi
  exact ⟨_, h1, a, o, ws, rfl, h3, c _ _ (fun _ => True) F H ρ ok (Step.refl _ _ _) it_enumK trivial k⟩
theorem i_enumK {kvs : List (Int × α)} {o : Obj} {ws : List (Key × V)} (hi : μ[i]? = some (some (.o (some a) (olDc o ws e kvs)))) : EI K (SL i a o ws (kvs.map (kvD e))) (iEnumK (tCons (tVar i) tNil)) μ ((enm (keysZ kvs)).map (eT2 D.int D.int)) μ := fun ρ ab =>
  ei_enumK (ldct_of ab hi) ⟨by rw [keysD_map kvs, enumD_enm], ab⟩
end
end Fw

set_option linter.all false
namespace Fw
/-- d.setdefault(k, []).append(x) -/
def sdZ {α : Type} : List (Int × List α) → Int → α → List (Int × List α)
  | [], k, x => [(k, [x])]
  | (k', xs) :: r, k, x => if k' = k then (k', xs ++ [x]) :: r else (k', xs) :: sdZ r k x
def sdapR {α : Type} (kvs : List (Int × List α)) (k : Int) (x : α) : R (List (Int × List α)) := if kvs.length < most ∧ (kvs.all fun p => decide (p.2.length < most)) = true then .ok (sdZ kvs k x) else .bad
/-- instances of the program's class -/
structure LogM where
  width : Int
  listed : List (Int × Int)
  fetches_early : Bool
  indices : List (Int × List Int)
  positions : List Int
deriving DecidableEq
end Fw

set_option Elab.async false
set_option linter.all false
set_option maxRecDepth 100000
namespace Fw
variable [TbC]
open PySem L2
section
variable {K : PySem.W.Frag} {q : Bool} {ρ : Env} {σ : St} {F H : Hp} {a : Addr} {te ty : TE} {μ μ1 : MEnv} {i : Nat} {α : Type} {e : α → D} {x : α} {k : Int} {tg : Option Addr}
theorem freezeIn {ks : List (Key × Addr × List D)} {v : V} (ok : Ok K σ F H ρ) (r : RsOk K F H (.o a (.dcl ks)) v) (nd : (a :: (O.dcl ks).inn).Nodup) (m : ∀ x ∈ a :: (O.dcl ks).inn, x ∉ owns ρ) :
    ∃ F', Ok K σ F' H ρ ∧ RsOk K F' H (.o a (.dct (dclD ks))) v ∧ Same F F' ∧ ∀ b o, F' b = some o → F b = some o ∨ b ∈ (O.dcl ks).inn := by
  obtain ⟨rfl, n, ws, h1, h2⟩ := r
  have an : a ∉ (O.dcl ks).inn := (List.nodup_cons.mp nd).1
  have n' : ∀ x ∈ (O.dcl ks).inn, F x = none := fun x hx => n x (List.mem_cons_of_mem _ hx)
  have s1 : Same F (addF F H (O.dcl ks).inn) := addF_same n'
  refine ⟨addF F H (O.dcl ks).inn, ⟨fun b u hb => ?_, ok.len, fun i s hs => ?_, ok.nd, ok.tb, fun p hp => ?_⟩, ⟨rfl, fun x hx => ?_, ws, h1, h2.frz s1 fun x hx => addF_in hx⟩, s1, fun b u hb => ?_⟩
  · by_cases h : b ∈ (O.dcl ks).inn
    · rw [addF_in h] at hb; exact hb
    · rw [addF_out h] at hb; exact ok.sub _ _ hb
  · obtain ⟨w, g1, g2⟩ := ok.at_ i s hs
    refine ⟨w, g1, ?_⟩
    cases s with
    | v d => exact Rep.mono s1 g2
    | o b c' =>
      obtain ⟨rfl, g3, g4⟩ := g2
      refine ⟨rfl, fun x hx => ?_, g4.mono s1 fun _ _ _ z => z⟩
      have hb : x ∉ (O.dcl ks).inn := fun z => m x (List.mem_cons_of_mem _ z) (mem_in hs hx)
      rw [addF_out hb]; exact g3 x hx
  · rw [addF_out fun z => by
      obtain ⟨o, e, k⟩ := OwnAt.kind (c := .dcl ks) ⟨ws, h1, h2⟩ _ (List.mem_cons_of_mem _ z)
      exact k.nt ok.tb e (List.mem_map_of_mem hp)]
    exact ok.nf p hp
  · have : x = a := by simpa [O.inn] using hx
    subst this
    rw [addF_out an]; exact n _ List.mem_cons_self
  · by_cases h : b ∈ (O.dcl ks).inn
    · exact .inr h
    · rw [addF_out h] at hb; exact .inl hb
/-- what hangs on it is frozen -/
theorem evo_inF {Φ : Addr → O → Env → Prop} (h : evo K te ρ fun a c ρ' => ∃ ks, c = .dcl ks ∧ (a ∉ owns ρ' → Φ a (.dct (dclD ks)) ρ')) : evo K te ρ Φ := fun σ F H Q ok c =>
  h σ F H Q ok fun a cc F' H' ρ' ok' r s nn nd m ⟨ks, e, k⟩ => by
    subst e
    obtain ⟨F2, ok2, r2, s2, n2⟩ := freezeIn ok' r nd m
    refine c a _ F2 H' ρ' ok2 r2 ⟨s.f.trans s2, s.h, fun b o e => ?_, s.w⟩ (fun x hx => ?_) nd1 (fun x hx => ?_) (k (m a List.mem_cons_self))
    · rcases n2 b o e with z | z
      · exact s.n b o z
      · exact .inr (nn b (List.mem_cons_of_mem _ z)).symm
    · have : x = a := by simpa [O.inn] using hx
      subst this
      exact nn _ List.mem_cons_self
    · have : x = a := by simpa [O.inn] using hx
      subst this
      exact m _ List.mem_cons_self
def dcD (e : α → D) (p : Int × List α) : Key × List D := (.inl p.1, p.2.map e)
def oDcl (e : α → D) (kvs : List (Int × List α)) : MO := .dcl (kvs.map (dcD e))
theorem o_inF {kvs : List (Int × List α)} (h : EO K te μ (oDcl e kvs) μ1) : EO K te μ (oDc (eL e) kvs) μ1 := fun ρ ab =>
  evo_inF ((h ρ ab).imp fun a c ρ' ⟨e1, k1⟩ => by
    cases c with
    | dcl ks =>
      have e1 : ks.map (fun kv => (kv.1, kv.2.2)) = kvs.map (dcD e) := by
        have : MO.dcl (ks.map fun kv => (kv.1, kv.2.2)) = MO.dcl (kvs.map (dcD e)) := e1
        injection this
      refine ⟨ks, rfl, fun _ => ⟨?_, k1⟩⟩
      show MO.dct (dclD ks) = MO.dct (kvs.map (kvD (eL e)))
      have : dclD ks = (ks.map (fun kv => (kv.1, kv.2.2))).map fun kv => (kv.1, D.lst kv.2) := by rw [List.map_map]; rfl
      rw [this, e1, List.map_map]; rfl
    | lst _ => cases e1
    | dct _ => cases e1
    | ldct _ _ _ => cases e1
    | ins _ _ _ => cases e1
    | tpl _ => cases e1
    | lcl _ => cases e1
    | rcd _ => cases e1
    | inl _ _ _ => cases e1)
theorem evo_dnewL {Φ : Addr → O → Env → Prop} (k : ∀ a, a ∉ owns ρ → Φ a (.dcl []) ρ) : evo K tDNewK ρ Φ := fun σ F H Q ok c p hp => by
  obtain ⟨ok2, s2, r2, n2⟩ := lay (o := .dK []) (c := .dct []) ok hp ⟨[], upd_same, .nil⟩
  have r2' : RsOk K F (upd H p (.dK [])) (.o p (.dcl [])) (.ref p) := ⟨rfl, r2.2.1, [], upd_same, .nil⟩
  exact c p _ F _ ρ ok2 r2' s2 (one (.inr hp)) nd1 (one n2) (k p n2)
theorem e_dnewL (e : α → D) : EO K tDNewK μ (oDcl e []) μ := fun ρ ab => evo_dnewL fun a _ => ⟨rfl, ab⟩
theorem dcl_of {kvs : List (Int × List α)} (ab : Ab ρ μ) (h : μ[i]? = some (some (.o tg (oDcl e kvs)))) : ∃ a ks, ρ[i]? = some (some (.o a (.dcl ks))) ∧ ks.map (fun kv => (kv.1, kv.2.2)) = kvs.map (dcD e) ∧ ∀ b, tg = some b → b = a := by
  obtain ⟨a, c', h2, h3, h4⟩ := ab.geto h
  cases c' with
  | dcl ks =>
    refine ⟨a, ks, h2, ?_, h4⟩
    have : MO.dcl (ks.map fun kv => (kv.1, kv.2.2)) = MO.dcl (kvs.map (dcD e)) := h3
    injection this
  | dct zs => cases h3
  | lst z => cases h3
  | ldct _ _ z => cases h3
  | ins _ _ z => cases h3
  | tpl _ => cases h3
  | lcl _ => cases h3
  | rcd _ => cases h3
  | inl _ _ _ => cases h3
theorem sdA_map {ks : List (Key × Addr × List D)} {kvs : List (Int × List α)} (h : ks.map (fun kv => (kv.1, kv.2.2)) = kvs.map (dcD e)) (k : Int) (p : Addr) (x : α) :
    (sdA ks (.inl k) p (e x)).map (fun kv => (kv.1, kv.2.2)) = (sdZ kvs k x).map (dcD e) := by
  induction ks generalizing kvs with
  | nil =>
    cases kvs with
    | nil => rfl
    | cons a b => cases h
  | cons a r ih =>
    obtain ⟨k', p', xs⟩ := a
    cases kvs with
    | nil => cases h
    | cons b s =>
      obtain ⟨k2, ys⟩ := b
      rw [List.map_cons, List.map_cons, List.cons.injEq] at h
      obtain ⟨h1, h2⟩ := h
      have h1 : ((k', xs) : Key × List D) = (.inl k2, ys.map e) := h1
      cases h1
      show List.map _ (if (Sum.inl k2 : Key) = Sum.inl k then _ else _) = List.map _ (if k2 = k then _ else _)
      by_cases c : k2 = k
      · rw [if_pos c, if_pos (by rw [c]), List.map_cons, List.map_cons, h2]
        congr 1
        show ((Sum.inl k2 : Key), ys.map e ++ [e x]) = (Sum.inl k2, (ys ++ [x]).map e)
        rw [List.map_append]; rfl
      · rw [if_neg c, if_neg (fun z => c (Sum.inl.inj z)), List.map_cons, List.map_cons, ih h2]; rfl
theorem x_sdapp {kvs kvs' : List (Int × List α)} (h0 : μ[i]? = some (some (.o tg (oDcl e kvs)))) (hk : EV K true ty μ (.int k) μ) (he : EV K true te (μ.set i none) (e x) (μ.set i none)) (hs : sdapR kvs k x = .ok kvs') :
    XS K (tDrop (tBM K "list" rAppend (tDSetd (tVar i) ty (tLst tNil)) (tCons te tNil))) μ (.nx (μ.set i (some (.o tg (oDcl e kvs'))))) := fun ρ ab => by
  unfold sdapR at hs
  split at hs
  · rename_i hl; cases hs
    obtain ⟨a, ks, h1, h2, h3⟩ := dcl_of ab h0
    have hlen : ks.length = kvs.length := by
      have := congrArg List.length h2
      simpa using this
    refine ex_sdapp (k := .inl k) (x := e x) h1 ((hk ρ ab).imp fun d ρ1 ⟨e1, _⟩ => e1) ((he _ (ab.set .any i)).imp fun d ρ1 ⟨e1, _⟩ => e1) (by rw [hlen]; exact hl.1) (fun kv hkv => ?_) fun p => ?_
    · have hm : (kv.1, kv.2.2) ∈ kvs.map (dcD e) := by rw [← h2]; exact List.mem_map.mpr ⟨kv, hkv, rfl⟩
      obtain ⟨b, hb, eb⟩ := List.mem_map.mp hm
      have := List.all_eq_true.mp hl.2 b hb
      rw [decide_eq_true_eq] at this
      have e2 : kv.2.2 = b.2.map e := (congrArg Prod.snd eb).symm
      rw [e2, List.length_map]; exact this
    · show Ab _ _
      have e3 : O.m (.dcl (sdA ks (.inl k) p (e x))) = oDcl e (sdZ kvs k x) := by
        show MO.dcl _ = MO.dcl _
        rw [sdA_map h2 k p x]
      have := ab.set (AbS.mk (c := .dcl (sdA ks (.inl k) p (e x))) h3) i
      rw [e3] at this
      exact this
  · cases hs
end
end Fw

set_option Elab.async false
set_option linter.all false
set_option maxRecDepth 100000
namespace Fw
variable [TbC]
open PySem L2
section
variable {K : PySem.W.Frag} {q : Bool} {ρ : Env} {σ : St} {F H H' : Hp} {i : Nat} {E : En} {te ti ta : TE} {f : Str}
/-- the thing of a slot is changed, a new thing hangs on it -/
theorem Ok.mutA (ok : Ok K σ F H ρ) {a : Addr} {c c' : O} (h : ρ[i]? = some (some (.o a c))) (r : OwnAt K F H' a c') (same : ∀ x o, H x = some o → x ∉ a :: c.inn → H' x = some o)
    (inn : ∀ x ∈ c'.inn, x ∈ a :: c.inn ∨ (F x = none ∧ x ∉ owns ρ)) (nd : (a :: c'.inn).Nodup) : Ok K σ F H' (ρ.set i (some (.o a c'))) := by
  obtain ⟨v, h1, rfl, h2, h3⟩ := ok.at_ i _ h
  have inn' : ∀ x ∈ a :: c'.inn, x ∈ a :: c.inn ∨ (F x = none ∧ x ∉ owns ρ) := fun x hx => by
    rcases List.mem_cons.mp hx with rfl | hx
    · exact .inl List.mem_cons_self
    · exact inn x hx
  have fnone : ∀ x ∈ a :: c'.inn, F x = none := fun x hx => by
    rcases inn' x hx with z | z
    · exact h2 x z
    · exact z.1
  have far : ∀ j b c2 x, j ≠ i → ρ[j]? = some (some (.o b c2)) → x ∈ b :: c2.inn → x ∉ a :: c.inn := fun j b c2 x hj e hx hx' => hj (owns_inj ok.nd e h hx hx')
  have far' : ∀ j b c2 x, j ≠ i → ρ[j]? = some (some (.o b c2)) → x ∈ b :: c2.inn → x ∉ a :: c'.inn := fun j b c2 x hj e hx hx' => by
    rcases inn' x hx' with z | z
    · exact far j b c2 x hj e hx z
    · exact z.2 (mem_in e hx)
  refine ⟨fun b u e => ?_, by simpa using ok.len, fun j x e => ?_, nodup_of_inj (fun j b c2 e => ?_) fun j j' b b' c1 c2 x e e' m m' => ?_, ok.tb' fun b u e m => same b u e fun z => m (mem_in h z), ok.nf⟩
  · exact same b u (ok.sub _ _ e) fun z => by rw [h2 b z] at e; cases e
  · rcases set_get e with ⟨rfl, _, rfl⟩ | ⟨z, e9⟩
    · exact ⟨_, h1, rfl, fnone, r⟩
    · obtain ⟨u, h4, h5⟩ := ok.at_ j x e9
      refine ⟨u, h4, ?_⟩
      cases x with
      | v d => exact h5
      | o b c2 =>
        obtain ⟨rfl, h6, h7⟩ := h5
        exact ⟨rfl, h6, h7.mono (Same.refl _) fun y hy o e => same y o e (far j b c2 y z e9 hy)⟩
  · rcases set_get e with ⟨_, _, h6⟩ | ⟨z, e9⟩
    · cases h6; exact nd
    · exact owns_nd1 ok.nd e9
  · rcases set_get e with ⟨y, _, h6⟩ | ⟨z, e8⟩
    · rcases set_get e' with ⟨y', _, _⟩ | ⟨z', e9⟩
      · rw [y, y']
      · cases h6; exact (far' j' b' c2 x z' e9 m' m).elim
    · rcases set_get e' with ⟨y', _, h6⟩ | ⟨z', e9⟩
      · cases h6; exact (far' j b c1 x z e8 m m').elim
      · exact owns_inj ok.nd e8 e9 m m'
/-! ### an instance whose fields are laid one after the other -/
theorem FlsAt.app {fs gs : List (Str × Fl)} {ws us : List (Str × V)} (h : FlsAt K F H fs ws) (t : FlsAt K F H gs us) : FlsAt K F H (fs ++ gs) (ws ++ us) := by
  induction h with
  | nil => exact t
  | cons a _ ih => exact .cons a ih
theorem FlsAt.length {fs : List (Str × Fl)} {ws : List (Str × V)} (h : FlsAt K F H fs ws) : ws.length = fs.length := by
  induction h with
  | nil => rfl
  | cons _ _ ih => simp [ih]
theorem FlsAt.put {fs : List (Str × Fl)} {ws : List (Str × V)} (h : FlsAt K F H fs ws) (v : V) (n : ∀ x ∈ fs, x.1 ≠ f) : putF f v ws = ws ++ [(f, v)] := by
  induction h with
  | nil => rfl
  | @cons k x v' fs ws a _ ih =>
    show (if k = f then _ else _) = _
    rw [if_neg (n _ List.mem_cons_self), ih fun x hx => n x (List.mem_cons_of_mem _ hx)]; rfl
theorem FlsAt.look {fs : List (Str × Fl)} {ws : List (Str × V)} (h : FlsAt K F H fs ws) {x : Fl} (e : fs.lookup f = some x) : ∃ v, ws.lookup f = some v ∧ FlAt K F H x v ∧ ∀ y ∈ x.ad, y ∈ fs.flatMap (fun f => f.2.ad) := by
  induction h with
  | nil => cases e
  | @cons k x' v fs ws a _ ih =>
    rw [List.lookup_cons] at e ⊢
    cases c : f == k with
    | true =>
      rw [c] at e
      cases e
      exact ⟨v, rfl, a, fun y hy => by rw [List.flatMap_cons]; exact List.mem_append_left _ hy⟩
    | false =>
      rw [c] at e
      obtain ⟨v, h1, h2, h3⟩ := ih e
      exact ⟨v, h1, h2, fun y hy => by rw [List.flatMap_cons]; exact List.mem_append_right _ (h3 y hy)⟩
abbrev innF (fs : List (Str × Fl)) : List Addr := fs.flatMap fun f => f.2.ad
theorem innF_app (fs gs : List (Str × Fl)) : innF (fs ++ gs) = innF fs ++ innF gs := by unfold innF; rw [List.flatMap_append]
/-- self.f = e -/
theorem ex_fldN (h : ev K false te ρ fun d ρ1 => ∃ a C dx fs, ρ1[i]? = some (some (.o a (.inl C dx fs))) ∧ Cls K C ∧ NoAttr K C f ∧ fs.length < 1000 ∧ (∀ x ∈ fs, x.1 ≠ f) ∧ E.nx (ρ1.set i (some (.o a (.inl C dx (fs ++ [(f, .v d)])))))) : ex K (sFld K (tVar i) te f) ρ E := fun σ F H D ok g => by
  refine h σ F H _ ok fun d v F1 H1 ρ1 ok1 r1 s1 _ ⟨a, C, dx, fs, e2, hc, hn, hl, hf, k⟩ => ?_
  obtain ⟨w, e3, rfl, h4, ws, h5, h6⟩ := ok1.at_ i _ e2
  refine ⟨_, e3, a, C, dx, ws, rfl, h5, hc, hn, by rw [h6.length]; exact hl, ?_⟩
  have nd := owns_nd1 ok1.nd e2
  have an : a ∉ innF fs := (List.nodup_cons.mp nd).1
  have ei : innF (fs ++ [(f, .v d)]) = innF fs := by rw [innF_app]; simp [innF, Fl.ad]
  obtain ⟨ok2, s2⟩ := ok1.mutG (c' := .inl C dx (fs ++ [(f, .v d)])) (H' := upd H1 a (.ins C dx (putF f v ws))) e2
    ⟨ws ++ [(f, v)], by rw [upd_same, h6.put v hf], (h6.mono (Same.refl _) fun y hy o e => by rw [upd_ne fun z : y = a => an (z ▸ hy)]; exact e).app (.cons (x := .v d) r1 .nil)⟩
    (fun y o e hy => by rw [upd_ne fun z : y = a => hy (by rw [z]; exact List.mem_cons_self)]; exact e)
    (fun y hy => .inl (List.mem_cons_of_mem _ (by
      have : y ∈ innF (fs ++ [(f, .v d)]) := hy
      rw [ei] at this; exact this)))
    (by show (a :: innF (fs ++ [(f, .v d)])).Nodup; rw [ei]; exact nd)
  exact g.nx _ _ _ _ ok2 (s1.trans s2) k
/-- self.f = a new list -/
theorem ex_fldL (h : evo K te ρ fun p c ρ1 => ∃ xs, c = .lst xs ∧ ∃ a C dx fs, ρ1[i]? = some (some (.o a (.inl C dx fs))) ∧ Cls K C ∧ NoAttr K C f ∧ fs.length < 1000 ∧ (∀ x ∈ fs, x.1 ≠ f) ∧ (p ∉ owns ρ1 → E.nx (ρ1.set i (some (.o a (.inl C dx (fs ++ [(f, .c p (.l xs))]))))))) : ex K (sFld K (tVar i) te f) ρ E := fun σ F H D ok g => by
  refine h σ F H _ ok fun p c F1 H1 ρ1 ok1 r1 s1 nn ndp mm ⟨xs, ec, a, C, dx, fs, e2, hc, hn, hl, hf, k⟩ => ?_
  subst ec
  obtain ⟨w, e3, rfl, h4, ws, h5, h6⟩ := ok1.at_ i _ e2
  obtain ⟨_, pF, vs, hp, hr⟩ := r1
  have pno : p ∉ owns ρ1 := mm p List.mem_cons_self
  have pa : p ≠ a := fun z => pno (z ▸ mem_root e2)
  refine ⟨_, e3, a, C, dx, ws, rfl, h5, hc, hn, by rw [h6.length]; exact hl, ?_⟩
  have nd := owns_nd1 ok1.nd e2
  have an : a ∉ innF fs := (List.nodup_cons.mp nd).1
  have ei : innF (fs ++ [(f, .c p (.l xs))]) = innF fs ++ [p] := by rw [innF_app]; simp [innF, Fl.ad]
  have pin : p ∉ innF fs := fun z => pno (mem_in e2 (List.mem_cons_of_mem _ z))
  have hH : ∀ y o, H1 y = some o → y ∉ a :: (O.inl C dx fs).inn → upd H1 a (.ins C dx (putF f (.ref p) ws)) y = some o := fun y o e hy => by rw [upd_ne fun z : y = a => hy (by rw [z]; exact List.mem_cons_self)]; exact e
  have ok2 := ok1.mutA (c' := .inl C dx (fs ++ [(f, .c p (.l xs))])) (H' := upd H1 a (.ins C dx (putF f (.ref p) ws))) e2
    ⟨ws ++ [(f, .ref p)], by rw [upd_same, h6.put (.ref p) hf], (h6.mono (Same.refl _) fun y hy o e => by rw [upd_ne fun z : y = a => an (z ▸ hy)]; exact e).app (.cons (x := .c p (.l xs)) ⟨rfl, vs, by rw [upd_ne pa]; exact hp, hr⟩ .nil)⟩ hH
    (fun y hy => by
      have hy : y ∈ innF (fs ++ [(f, .c p (.l xs))]) := hy
      rw [ei] at hy
      rcases List.mem_append.mp hy with hy | hy
      · exact .inl (List.mem_cons_of_mem _ hy)
      · rw [List.mem_singleton.mp hy]; exact .inr ⟨pF p List.mem_cons_self, pno⟩)
    (by
      show (a :: innF (fs ++ [(f, .c p (.l xs))])).Nodup
      rw [ei]
      refine List.nodup_cons.mpr ⟨fun m => ?_, List.nodup_append.mpr ⟨(List.nodup_cons.mp nd).2, nd1, fun y hy z hz e => ?_⟩⟩
      · rcases List.mem_append.mp m with m | m
        · exact an m
        · exact pa (List.mem_singleton.mp m).symm
      · rw [List.mem_singleton.mp hz] at e; exact pin (e ▸ hy))
  refine g.nx _ _ _ _ ok2 ⟨s1.f, fun b o e m => (s1.h b o e m).far fun o' e' => hH b o' e' fun z => ?_, s1.n, fun b m => ?_⟩ (k pno)
  · rcases s1.w b (mem_in e2 z) with y | y
    · exact m y
    · rw [y] at e; cases e
  · obtain ⟨j, b', c', e', m'⟩ := mem_owns.mp m
    rcases set_get e' with ⟨_, _, h7⟩ | ⟨z, e9⟩
    · cases h7
      rcases List.mem_cons.mp m' with rfl | m'
      · exact s1.w _ (mem_root e2)
      · have hy : b ∈ innF (fs ++ [(f, .c p (.l xs))]) := m'
        rw [ei] at hy
        rcases List.mem_append.mp hy with hy | hy
        · exact s1.w _ (mem_in e2 (List.mem_cons_of_mem _ hy))
        · rw [List.mem_singleton.mp hy]; exact nn p List.mem_cons_self
    · exact s1.w _ (mem_in e9 m')
/-- the list of a field grows -/
def flG : List (Str × Fl) → Str → List D → List (Str × Fl)
  | [], _, _ => []
  | (k, x) :: r, f, ys => if k = f then (match x with | .c p _ => (k, .c p (.l ys)) :: r | .v d => (k, .v d) :: r) else (k, x) :: flG r f ys
theorem flG_inn : ∀ (fs : List (Str × Fl)) (f : Str) (ys : List D), innF (flG fs f ys) = innF fs
  | [], _, _ => rfl
  | (k, x) :: r, f, ys => by
    unfold flG
    by_cases c : k = f
    · rw [if_pos c]
      cases x <;> simp [innF, Fl.ad]
    · rw [if_neg c]
      show x.ad ++ innF (flG r f ys) = x.ad ++ innF r
      rw [flG_inn r f ys]
theorem FlsAt.grow {fs : List (Str × Fl)} {ws : List (Str × V)} (h : FlsAt K F H fs ws) {p : Addr} {xs ys : List D} {vs us : List V} (e : fs.lookup f = some (.c p (.l xs))) (nd : (innF fs).Nodup) (r : RepL K F ys us) :
    FlsAt K F (upd H p (.lst us)) (flG fs f ys) ws := by
  induction h with
  | nil => cases e
  | @cons k x v fs ws a t ih =>
    rw [List.lookup_cons] at e
    have nd2 : (x.ad ++ innF fs).Nodup := nd
    obtain ⟨n1, n2, n3⟩ := List.nodup_append.mp nd2
    unfold flG
    by_cases c : k = f
    · subst c
      rw [beq_self_eq_true] at e
      cases e
      rw [if_pos rfl]
      refine .cons ⟨a.1, us, upd_same, r⟩ (t.mono (Same.refl _) fun y hy o eo => ?_)
      rw [upd_ne fun z : y = p => n3 p List.mem_cons_self p (z ▸ hy) rfl]; exact eo
    · have c' : (f == k) = false := beq_eq_false_iff_ne.mpr fun z => c z.symm
      rw [c'] at e
      rw [if_neg c]
      obtain ⟨v', _, _, hin⟩ := t.look e
      have pin : p ∈ innF fs := hin p List.mem_cons_self
      refine .cons ?_ (ih e n2)
      cases x with
      | v d => exact a
      | c p' x =>
        refine ⟨a.1, a.2.mono (Same.refl _) fun o eo => ?_⟩
        rw [upd_ne fun z : p' = p => n3 p' List.mem_cons_self p pin z]; exact eo
/-- self.f.append(e), e quiet -/
theorem ex_fapp {C : Addr} {a dx : Addr} {fs : List (Str × Fl)} {p : Addr} {xs : List D} {d : D} (h0 : ρ[i]? = some (some (.o a (.inl C dx fs)))) (hf : fs.lookup f = some (.c p (.l xs))) (hc : Cls K C) (hn : NoAttr K C f)
    (he : ev K true te ρ fun d' _ => d' = d) (hl : xs.length < sizeLine) (k : E.nx (ρ.set i (some (.o a (.inl C dx (flG fs f (xs ++ [d]))))))) :
    ex K (tDrop (tBM K "list" rAppend (tFld K (tVar i) f) (tCons te tNil))) ρ E := fun σ F H D ok g => by
  obtain ⟨w, e1, rfl, h4, ws, h5, h6⟩ := ok.at_ i _ h0
  obtain ⟨v, l1, ⟨rfl, vs, l2, l3⟩, l4⟩ := h6.look hf
  have nd := owns_nd1 ok.nd h0
  have pin : p ∈ innF fs := l4 p List.mem_cons_self
  have pa : p ≠ a := fun z => (List.nodup_cons.mp nd).1 (z ▸ pin)
  refine ⟨_, e1, a, C, dx, ws, .ref p, rfl, h5, hc, hn, l1, .inl ⟨rfl, vs, SqL.of l2⟩, ?_⟩
  refine he σ F H _ ok fun d' y F1 H1 ρ1 ok1 r1 s1 q1 ed => ?_
  obtain ⟨rfl, rfl, rfl⟩ := q1 rfl
  subst ed
  refine ⟨p, vs, y, rfl, rfl, l2, by rw [← l3.length]; exact hl, ?_⟩
  obtain ⟨ok2, s2⟩ := ok.mutG (c' := .inl C dx (flG fs f (xs ++ [d']))) (H' := upd H1 p (.lst (vs ++ [y]))) h0 ⟨ws, by rw [upd_ne (Ne.symm pa)]; exact h5, h6.grow (vs := vs) hf (List.nodup_cons.mp nd).2 (l3.append (.cons r1 .nil))⟩
    (fun y o e hy => by rw [upd_ne fun z : y = p => hy (by rw [z]; exact List.mem_cons_of_mem _ pin)]; exact e)
    (fun y hy => .inl (List.mem_cons_of_mem _ (by
      have : y ∈ innF (flG fs f (xs ++ [d'])) := hy
      rw [flG_inn] at this; exact this)))
    (by show (a :: innF (flG fs f (xs ++ [d']))).Nodup; rw [flG_inn]; exact nd)
  exact g.nx _ _ _ _ ok2 s2 k
/-- self.f[k], the list of a field -/
theorem ev_fix {C : Addr} {a dx : Addr} {fs : List (Str × Fl)} {p : Addr} {xs : List D} {Φ : D → Env → Prop} (h0 : ρ[i]? = some (some (.o a (.inl C dx fs)))) (hf : fs.lookup f = some (.c p (.l xs))) (hc : Cls K C) (hn : NoAttr K C f)
    (hi : evI K true ti ρ fun k _ => ∃ e, atI xs k = some e ∧ Φ e ρ) : ev K q (tOp (rIx K) (tFld K (tVar i) f) ti) ρ Φ := fun σ F H Q ok c => by
  obtain ⟨w, e1, rfl, h4, ws, h5, h6⟩ := ok.at_ i _ h0
  obtain ⟨v, l1, ⟨rfl, vs, l2, l3⟩, l4⟩ := h6.look hf
  refine ⟨_, e1, a, C, dx, ws, .ref p, rfl, h5, hc, hn, l1, ?_⟩
  refine hi σ F H _ ok fun e w F2 H2 ρ2 ok2 r2 s2 q2 ⟨k, er, e', h3, kk⟩ => ?_
  obtain ⟨rfl, rfl, rfl⟩ := q2 rfl
  subst er; cases r2
  obtain ⟨u, h7, h8⟩ := atI_rep l3 h3
  exact .inl ⟨p, vs, k, u, rfl, rfl, SqL.of l2, h7, c _ _ _ _ _ ok h8 (Step.refl _ _ _) (Qt.refl _ _ _ _) kk⟩
end
end Fw

set_option Elab.async false
set_option linter.all false
set_option maxRecDepth 100000
namespace Fw
variable [TbC]
open PySem L2
section
variable {K : PySem.W.Frag} {q : Bool} {ρ : Env} {σ : St} {F H H' : Hp} {i : Nat}
theorem owns_snoc (ρ : Env) (y : Option Sl) : owns (ρ ++ [y]) = owns ρ ++ ownA y := by
  unfold owns; rw [List.flatMap_append]; simp
theorem ArL.ext {as : List Ar} {vs : List V} (r : ArL K F ρ as vs) (y : Option Sl) : ArL K F (ρ ++ [y]) as vs ∧ ∀ n ∈ as.filterMap Ar.ix, n < ρ.length := by
  induction r with
  | nil => exact ⟨.nil, fun n h => by cases h⟩
  | v a _ ih => exact ⟨.v a ih.1, ih.2⟩
  | @s i a c as vs h _ ih =>
    have hlt := (List.getElem?_eq_some_iff.mp h).1
    refine ⟨.s (by rw [List.getElem?_append_left hlt]; exact h) ih.1, fun n hn => ?_⟩
    rcases List.mem_cons.mp (show n ∈ i :: as.filterMap Ar.ix from hn) with rfl | hn
    · exact hlt
    · exact ih.2 n hn
theorem bk_length : ∀ (as : List Ar) (ss : List Sl) (ρ : Env), (bk as ss ρ).length = ρ.length
  | [], ss, ρ => by cases ss <;> rfl
  | .v _ :: as, [], ρ => rfl
  | .s _ _ _ :: as, [], ρ => rfl
  | .v _ :: as, _ :: ss, ρ => bk_length as ss ρ
  | .s i _ _ :: as, s :: ss, ρ => by
    show ((bk as ss ρ).set i (some s)).length = _
    rw [List.length_set]; exact bk_length as ss ρ
theorem bk_ext : ∀ (as : List Ar) (ss : List Sl) (ρ : Env) (y : Option Sl), (∀ n ∈ as.filterMap Ar.ix, n < ρ.length) → bk as ss (ρ ++ [y]) = bk as ss ρ ++ [y]
  | [], ss, ρ, y, _ => by cases ss <;> rfl
  | .v _ :: as, [], ρ, y, _ => rfl
  | .s _ _ _ :: as, [], ρ, y, _ => rfl
  | .v _ :: as, _ :: ss, ρ, y, h => bk_ext as ss ρ y h
  | .s i _ _ :: as, s :: ss, ρ, y, h => by
    show (bk as ss (ρ ++ [y])).set i (some s) = (bk as ss ρ).set i (some s) ++ [y]
    rw [bk_ext as ss ρ y fun n hn => h n (List.mem_cons_of_mem _ hn), List.set_append_left _ _ (by rw [bk_length]; exact h i List.mem_cons_self)]
theorem make_core {CT : Ct} {C x dx : Addr} {as : List Ar} {vs : List V} {Q : VK} {E : XK} (ok : Ok K σ F H ρ) (ar : ArL K F ρ as vs) (nd : (as.filterMap Ar.ix).Nodup) (hx : H x = none) (hdx : H dx = none) (hne : dx ≠ x)
    {Φ : O → Env → Prop} (hc : CT (.o x (.inl C dx []) :: as.map Ar.sl) fun s ss' => s = .v .non ∧ ∃ c' t, ss' = .o x c' :: t ∧ Φ c' (bk as t ρ))
    (k : ∀ c' F' H' ρ', Ok K σ F' H' ρ' → RsOk K F' H' (.o x c') (.ref x) → Step ρ F H ρ' F' H' → (∀ y ∈ x :: c'.inn, y ∈ owns ρ ∨ H y = none) → (x :: c'.inn).Nodup → (∀ y ∈ x :: c'.inn, y ∉ owns ρ') → Φ c' ρ' → Q (.ref x) H') :
    spOf K CT (.ref x :: vs) (upd (upd H dx (.own x)) x (.ins C dx [])) (fun v H2 => v = .non ∧ Q (.ref x) H2) E := by
  have far : ∀ y o, H y = some o → upd (upd H dx (.own x)) x (.ins C dx []) y = some o := fun y o e => by
    have n1 : y ≠ x := fun z => by rw [z, hx] at e; cases e
    have n2 : y ≠ dx := fun z => by rw [z, hdx] at e; cases e
    rw [upd_ne n1, upd_ne n2]; exact e
  have near : ∀ y, upd (upd H dx (.own x)) x (.ins C dx []) y = none → H y = none := fun y e => by
    cases z : H y with
    | none => rfl
    | some o => rw [far y o z] at e; cases e
  have fx : F x = none := by
    cases z : F x with
    | none => rfl
    | some o => rw [ok.sub _ _ z] at hx; cases hx
  have xo : x ∉ owns ρ := fun m => by
    obtain ⟨_, o, ho⟩ := ok.own m
    rw [hx] at ho; cases ho
  have ok1 : Ok K (σ ++ [some (.ref x)]) F (upd (upd H dx (.own x)) x (.ins C dx [])) (ρ ++ [some (.o x (.inl C dx []))]) := by
    refine ⟨fun b u e => far b u (ok.sub _ _ e), by rw [List.length_append, List.length_append, ok.len]; rfl, fun j s e => ?_, ?_, ok.tb.ext far, ok.nf⟩
    · by_cases c : j < ρ.length
      · rw [List.getElem?_append_left c] at e
        obtain ⟨v, h1, h2⟩ := ok.at_ j s e
        refine ⟨v, by rw [List.getElem?_append_left (by rw [← ok.len]; exact c)]; exact h1, ?_⟩
        cases s with
        | v d => exact h2
        | o b c' =>
          obtain ⟨rfl, h3, h4⟩ := h2
          exact ⟨rfl, h3, h4.mono (Same.refl _) fun y hy o eo => far y o eo⟩
      · have hj : j = ρ.length := by
          have := (List.getElem?_eq_some_iff.mp e).1
          rw [List.length_append, List.length_singleton] at this
          omega
        subst hj
        rw [List.getElem?_append_right (Nat.le_refl _), Nat.sub_self] at e
        have e : s = .o x (.inl C dx []) := by simpa using e.symm
        subst e
        refine ⟨.ref x, by rw [ok.len, List.getElem?_append_right (Nat.le_refl _), Nat.sub_self]; rfl, rfl, fun y hy => ?_, [], upd_same, .nil⟩
        have : y = x := by simpa [O.inn] using hy
        rw [this]; exact fx
    · rw [owns_snoc]
      refine List.nodup_append.mpr ⟨ok.nd, ?_, fun y hy z hz e => ?_⟩
      · show (x :: (O.inl C dx []).inn).Nodup
        simp [O.inn]
      · have : z = x := by simpa [ownA, O.inn] using hz
        subst this e; exact xo hy
  obtain ⟨ar1, hix⟩ := ar.ext (some (.o x (.inl C dx [])))
  have ar2 : ArL K F (ρ ++ [some (.o x (.inl C dx []))]) (.s ρ.length x (.inl C dx []) :: as) (.ref x :: vs) := .s (by rw [List.getElem?_append_right (Nat.le_refl _), Nat.sub_self]; rfl) ar1
  have nd2 : ((Ar.s ρ.length x (.inl C dx []) :: as).filterMap Ar.ix).Nodup := by
    show (ρ.length :: as.filterMap Ar.ix).Nodup
    exact List.nodup_cons.mpr ⟨fun m => Nat.lt_irrefl _ (hix _ m), nd⟩
  refine call_core ok1 ar2 nd2 hc fun s v F' H' ss' ok' r n st ⟨es, c', t, et, f⟩ => ?_
  subst es et
  have ebk : bk (.s ρ.length x (.inl C dx []) :: as) (.o x c' :: t) (ρ ++ [some (.o x (.inl C dx []))]) = bk as t ρ ++ [some (.o x c')] := by
    show (bk as t (ρ ++ [some (.o x (.inl C dx []))])).set ρ.length (some (.o x c')) = _
    rw [bk_ext as t ρ _ hix, List.set_append_right _ _ (by rw [bk_length]; exact Nat.le_refl _), bk_length, Nat.sub_self]; rfl
  rw [ebk] at ok' st
  refine ⟨by cases r; rfl, ?_⟩
  have hlast : (bk as t ρ ++ [some (.o x c')])[ρ.length]? = some (some (.o x c')) := by
    rw [List.getElem?_append_right (by rw [bk_length]; exact Nat.le_refl _), bk_length, Nat.sub_self]; rfl
  obtain ⟨v', h1, hr⟩ := ok'.at_ _ _ hlast
  have nd' := ok'.nd
  rw [owns_snoc] at nd'
  obtain ⟨n1, n2, n3⟩ := List.nodup_append.mp nd'
  have okp : Ok K σ F' H' (bk as t ρ) := by
    refine ⟨ok'.sub, by rw [bk_length]; exact ok.len, fun j s e => ?_, n1, ok'.tb, ok'.nf⟩
    have hj := (List.getElem?_eq_some_iff.mp e).1
    obtain ⟨v, g1, g2⟩ := ok'.at_ j s (by rw [List.getElem?_append_left hj]; exact e)
    rw [bk_length] at hj
    exact ⟨v, by rw [List.getElem?_append_left (by rw [← ok.len]; exact hj)] at g1; exact g1, g2⟩
  have wm : ∀ y, y ∈ owns (bk as t ρ ++ [some (.o x c')]) → y ∈ owns ρ ∨ H y = none := fun y hy => by
    rcases st.w y hy with z | z
    · rw [owns_snoc] at z
      rcases List.mem_append.mp z with z | z
      · exact .inl z
      · have : y = x := by simpa [ownA, O.inn] using z
        rw [this]; exact .inr hx
    · exact .inr (near y z)
  refine k c' F' H' _ okp ⟨rfl, hr.2.1, hr.2.2⟩ ⟨st.f, fun b o e m => ?_, fun b o e => ?_, fun b m => wm b (by rw [owns_snoc]; exact List.mem_append_left _ m)⟩ (fun y hy => wm y (by rw [owns_snoc]; exact List.mem_append_right _ hy)) n2 (fun y hy m => n3 y m y hy rfl) f
  · refine st.h b o (far b o e) fun z => ?_
    rw [owns_snoc] at z
    rcases List.mem_append.mp z with z | z
    · exact m z
    · have : b = x := by simpa [ownA, O.inn] using z
      rw [this, hx] at e; cases e
  · rcases st.n b o e with (z | ⟨nt, φ, z1, z2⟩) | z | z
    · exact .inl (.inl z)
    · refine .inl (.inr ⟨nt, φ, z1, ?_⟩)
      by_cases q1 : b = x
      · rw [q1, upd_same, z1] at z2; cases z2
      · rw [upd_ne q1] at z2
        by_cases q2 : b = dx
        · rw [q2, upd_same, z1] at z2; cases z2
        · rw [upd_ne q2] at z2; exact z2
    · exact .inr (.inl (near b z))
    · rw [owns_snoc] at z
      rcases List.mem_append.mp z with z | z
      · exact .inr (.inr z)
      · have : b = x := by simpa [ownA, O.inn] using z
        rw [this]; exact .inr (.inl hx)
end
end Fw

set_option Elab.async false
set_option linter.all false
set_option maxRecDepth 100000
namespace Fw
variable [TbC]
open PySem L2
section
variable {K : PySem.W.Frag} {q : Bool} {ρ : Env} {i : Nat} {ta tk t : TA} {te : TE} {C : Addr} {E : XK} {CT : Ct} {m : Str}
theorem evo_make {dvs : List V} {dds : List D} {Φ : Addr → O → Env → Prop} (dd : DfL K dvs dds)
    (h : eva K ta ρ fun as ρ1 => (as.filterMap Ar.ix).Nodup ∧ ∀ x dx, CT (.o x (.inl C dx []) :: (as ++ dds.map Ar.v).map Ar.sl) fun s ss' => s = .v .non ∧ ∃ c' t, ss' = .o x c' :: t ∧ Φ x c' (bk (as ++ dds.map .v) t ρ1)) :
    evo K (tMake C (spOf K CT) dvs E ta) ρ Φ := fun σ F H Q ok k => by
  refine h σ F H _ ok fun as vs F1 H1 ρ1 ok1 ar st ⟨nd, hc⟩ x dx hx hdx hne => ?_
  have nd2 : ((as ++ dds.map Ar.v).filterMap Ar.ix).Nodup := by
    rw [List.filterMap_append, ix_v, List.append_nil]; exact nd
  exact make_core (Φ := Φ x) ok1 (ar.app (dd.rep F1)) nd2 hx hdx hne (hc x dx) fun c' F' H' ρ' ok' r st' n1 n2 n3 f => k x c' F' H' ρ' ok' r (st.trans st') (fun y hy => st.new (n1 y hy)) n2 n3 f
/-- o.m(..), o frozen -/
theorem ev_meth {dvs : List V} {dds : List D} {Φ : D → Env → Prop} (dd : DfL K dvs dds)
    (h : ev K false te ρ fun d ρ1 => ∃ fs, d = .ins C fs ∧ fs.lookup m = none ∧ eva K t ρ1 fun as ρ2 => (as.filterMap Ar.ix).Nodup ∧ CT ((.v d :: (as ++ dds.map Ar.v)).map Ar.sl) fun s ss' => Φ s.d (bk (.v d :: (as ++ dds.map .v)) ss' ρ2)) :
    ev K false (tMeth C m (spOf K CT) dvs E te t) ρ Φ := fun σ F H Q ok k => by
  refine h σ F H _ ok fun d v F0 H0 ρ0 ok0 r0 s0 _ ⟨fs, ed, hl, h'⟩ => ?_
  subst ed
  obtain ⟨a, dx, ws, ev', ha, hw⟩ : ∃ a dx ws, v = .ref a ∧ F0 a = some (.ins C dx ws) ∧ ws.lookup m = none := by
    cases r0 with
    | ins h1 h2 =>
      rcases h2.look m with ⟨_, y⟩ | ⟨d, v, x, _⟩
      · exact ⟨_, _, _, rfl, h1, y⟩
      · rw [hl] at x; cases x
  subst ev'
  refine ⟨a, dx, ws, rfl, ok0.sub _ _ ha, hw, ?_⟩
  refine h' σ F0 H0 _ ok0 fun as vs F1 H1 ρ1 ok1 ar st ⟨nd, hc⟩ => ?_
  have nd2 : ((.v (.ins C fs) :: (as ++ dds.map Ar.v)).filterMap Ar.ix).Nodup := by
    show ((as ++ dds.map Ar.v).filterMap Ar.ix).Nodup
    rw [List.filterMap_append]
    rw [ix_v, List.append_nil]; exact nd
  refine call_core (as := .v (.ins C fs) :: (as ++ dds.map Ar.v)) ok1 (.v (Rep.mono st.f r0) (ar.app (dd.rep F1))) nd2 hc fun s v F2 H2 ss' ok2 r n st2 f => ?_
  cases s with
  | v d => exact k d v F2 H2 _ ok2 r ((s0.trans st).trans st2) (fun z => nomatch z) f
  | o a c =>
    obtain ⟨n1, _⟩ := n a c rfl
    obtain ⟨F3, ok3, r3, s3, n3⟩ := freeze ok2 r fun x hx => (n1 x hx).2
    refine k c.d v F3 H2 _ ok3 r3 ((s0.trans st).trans ⟨st2.f.trans s3, st2.h, fun b o e => ?_, st2.w⟩) (fun z => nomatch z) f
    rcases n3 b o e with z | z
    · exact st2.n b o z
    · exact .inr (n1 b z).1.symm
/-! ### told without places -/
variable {μ μ1 μ2 : MEnv} {CF : FC} {CE : FX} {r : MSl} {as : List MAr} {cs' : List MSl}
theorem make_ct {x dx A : Addr} {ss0 : List Sl} {c : MO} {Φ1 Φ : Sl → List Sl → Prop} (h : ctO (fun cs r cs' => CF (.o none (.inl A []) :: cs) r (.o none c :: cs')) ss0 Φ1) (k : ∀ s c' t, Φ1 s t → c'.m = c → Φ s (.o x c' :: t)) : ctO CF (.o x (.inl A dx []) :: ss0) Φ := by
  obtain ⟨cs, r, cs', h1, h2, h3⟩ := h
  refine ⟨_, r, _, .cons (c := .o none (.inl A [])) ⟨x, _, rfl, rfl⟩ h1, h2, fun s ss' g1 g2 => ?_⟩
  generalize hm : MSl.o none c = y at g2
  cases g2 with
  | @o a c0 c' t ss ss' cs g2 =>
    cases hm
    exact k s c' _ (h3 s _ g1 g2) rfl
theorem o_make {dvs : List V} {ds : List D} {c : MO} (dd : DfL K dvs ds) (h : EA K ta μ as μ1) (hC : CF (.o none (.inl C []) :: (as.map MAr.sl ++ ds.map .v)) (.v .non) (.o none c :: (cs' ++ ds.map .v))) (hl : as.length = cs'.length := by rfl) (nd : ndb (as.filterMap MAr.ix) = true := by rfl) :
    EO K (tMake C (spOf K (ctOf CF CE)) dvs E ta) μ c (bkM as cs' μ1) := fun ρ ab =>
  evo_make dd ((h ρ ab).imp fun as' ρ1 ⟨e1, hp, k1⟩ => ⟨by rw [ix_of, e1]; exact ndb_ok nd, fun x dx =>
    make_ct (call_ct (C := fun cs r cs' => CF (.o none (.inl C []) :: cs) r (.o none c :: cs')) (ds := ds) (r := .v .non) e1 hp k1 hC hl nd (Φ := fun s ρ' => s = .v .non ∧ Ab ρ' (bkM as cs' μ1)) fun s ρ' h1 h2 => ⟨h1, h2⟩) fun s c' t h1 h2 => ⟨h1.1, c', t, rfl, h2, h1.2⟩⟩)
/-- o.m(..), o frozen -/
theorem e_meth {dvs : List V} {ds : List D} {d : D} {fs : List (Str × D)} (dd : DfL K dvs ds) (hs : EV K false te μ d μ1) (hd : d = .ins C fs) (hm : fs.lookup m = none) (h : EA K t μ1 as μ2) (hC : CF (.v d :: (as.map MAr.sl ++ ds.map .v)) r (.v d :: (cs' ++ ds.map .v))) (hl : as.length = cs'.length := by rfl) (nd : ndb (as.filterMap MAr.ix) = true := by rfl) :
    EV K false (tMeth C m (spOf K (ctOf CF CE)) dvs E te t) μ r.d (bkM as cs' μ2) := fun ρ ab =>
  ev_meth dd ((hs ρ ab).imp fun d' ρ1 ⟨e0, k0⟩ => ⟨fs, e0.trans hd, hm, (h ρ1 k0).imp fun as' ρ2 ⟨e1, hp, k1⟩ => ⟨by rw [ix_of, e1]; exact ndb_ok nd, by
    subst e0
    have e2 : (Ar.v d' :: as').map Ar.m = MAr.v d' :: as := by rw [List.map_cons, e1]; rfl
    exact call_ct (C := CF) (as := Ar.v d' :: as') (am := MAr.v d' :: as) (cs' := .v d' :: cs') (ds := ds) (r := r) e2 (fun j i a c z => by
      cases j with
      | zero => cases z
      | succ j => exact hp j i a c z) k1 hC (congrArg Nat.succ hl) nd (Φ := fun s ρ' => s.d = r.d ∧ Ab ρ' (bkM as cs' μ2)) fun s ρ' h1 h2 => ⟨Sl.is_d h1, h2⟩⟩⟩)
end
end Fw

set_option Elab.async false
set_option linter.all false
set_option maxRecDepth 100000
namespace Fw
variable [TbC]
open PySem L2
section
variable {K : PySem.W.Frag} {q : Bool} {ρ : Env} {i : Nat} {te ti : TE} {C : Addr} {f : Str} {μ μ1 : MEnv} {d : D} {tg : Option Addr} {fs : List (Str × MFl)} {α : Type} {e : α → D} {xs zs : List α} {x : α} {k : Int}
theorem inl_of (ab : Ab ρ μ) (h : μ[i]? = some (some (.o tg (.inl C fs)))) : ∃ a dx gs, ρ[i]? = some (some (.o a (.inl C dx gs))) ∧ gs.map (fun f => (f.1, f.2.m)) = fs ∧ ∀ b, tg = some b → b = a := by
  obtain ⟨a, c', h2, h3, h4⟩ := ab.geto h
  cases c' with
  | inl C' dx gs =>
    have h3 : MO.inl C' (gs.map fun f => (f.1, f.2.m)) = MO.inl C fs := h3
    cases h3
    exact ⟨a, dx, gs, h2, rfl, h4⟩
  | dct zs => cases h3
  | lst z => cases h3
  | ldct _ _ z => cases h3
  | ins _ _ z => cases h3
  | dcl _ => cases h3
  | tpl _ => cases h3
  | lcl _ => cases h3
  | rcd _ => cases h3
theorem Ab.mutI (ab : Ab ρ μ) {a dx : Addr} {gs : List (Str × Fl)} (h : ∀ b, tg = some b → b = a) (i : Nat) (e1 : gs.map (fun f => (f.1, f.2.m)) = fs) : Ab (ρ.set i (some (.o a (.inl C dx gs)))) (μ.set i (some (.o tg (.inl C fs)))) := by
  subst e1
  exact ab.set (AbS.mk (c := .inl C dx gs) h) i
def newF (f : Str) (fs : List (Str × MFl)) : Bool := fs.all fun x => x.1 != f
theorem newF_ok {gs : List (Str × Fl)} (e : gs.map (fun f => (f.1, f.2.m)) = fs) (h : newF f fs = true) : ∀ x ∈ gs, x.1 ≠ f := fun x hx => by
  have := List.all_eq_true.mp h (x.1, x.2.m) (by rw [← e]; exact List.mem_map.mpr ⟨x, hx, rfl⟩)
  simpa using this
theorem x_fldN (h : EV K false te μ d μ1) (h1 : μ1[i]? = some (some (.o tg (.inl C fs)))) (hc : Cls K C) (hn : NoAttr K C f) (hf : newF f fs = true) (hm : fs ++ [(f, .v d)] = fs') (hl : Nat.blt fs.length 1000 = true := by rfl) :
    XS K (sFld K (tVar i) te f) μ (.nx (μ1.set i (some (.o tg (.inl C fs'))))) := fun ρ ab =>
  ex_fldN ((h ρ ab).imp fun d' ρ1 ⟨e1, k1⟩ => by
    obtain ⟨a, dx, gs, h2, h3, h4⟩ := inl_of k1 h1
    have hlen : gs.length = fs.length := by rw [← h3, List.length_map]
    subst e1
    exact ⟨a, C, dx, gs, h2, hc, hn, by rw [hlen]; exact Nat.le_of_ble_eq_true hl, newF_ok h3 hf, k1.mutI h4 i (by rw [List.map_append, h3, ← hm]; rfl)⟩)
theorem x_fldL (h : EO K te μ (.lst (xs.map e)) μ1) (h1 : μ1[i]? = some (some (.o tg (.inl C fs)))) (hc : Cls K C) (hn : NoAttr K C f) (hf : newF f fs = true) (hm : fs ++ [(f, .c (.l (xs.map e)))] = fs') (hl : Nat.blt fs.length 1000 = true := by rfl) :
    XS K (sFld K (tVar i) te f) μ (.nx (μ1.set i (some (.o tg (.inl C fs'))))) := fun ρ ab =>
  ex_fldL ((h ρ ab).imp fun p c' ρ1 ⟨e1, k1⟩ => by
    obtain ⟨a, dx, gs, h2, h3, h4⟩ := inl_of k1 h1
    have hlen : gs.length = fs.length := by rw [← h3, List.length_map]
    cases c' with
    | lst ys =>
      have : MO.lst ys = MO.lst (xs.map e) := e1
      cases this
      exact ⟨_, rfl, a, C, dx, gs, h2, hc, hn, by rw [hlen]; exact Nat.le_of_ble_eq_true hl, newF_ok h3 hf, fun _ => k1.mutI h4 i (by rw [List.map_append, h3, ← hm]; rfl)⟩
    | dct zs => cases e1
    | ldct _ _ z => cases e1
    | ins _ _ z => cases e1
    | dcl _ => cases e1
    | tpl _ => cases e1
    | lcl _ => cases e1
    | rcd _ => cases e1
    | inl _ _ _ => cases e1)
def mflG : List (Str × MFl) → Str → List D → List (Str × MFl)
  | [], _, _ => []
  | (k, x) :: r, f, ys => if k = f then (match x with | .c _ => (k, .c (.l ys)) :: r | .v d => (k, .v d) :: r) else (k, x) :: mflG r f ys
theorem mflG_map (gs : List (Str × Fl)) (f : Str) (ys : List D) : (flG gs f ys).map (fun f => (f.1, f.2.m)) = mflG (gs.map fun f => (f.1, f.2.m)) f ys := by
  induction gs with
  | nil => rfl
  | cons a r ih =>
    obtain ⟨k, x⟩ := a
    show List.map _ (if k = f then _ else _) = (if k = f then _ else _)
    by_cases c : k = f
    · rw [if_pos c, if_pos c]
      cases x <;> rfl
    · rw [if_neg c, if_neg c, List.map_cons, ih]
theorem lookF {gs : List (Str × Fl)} (e : gs.map (fun f => (f.1, f.2.m)) = fs) {ys : List D} (h : fs.lookup f = some (.c (.l ys))) : ∃ p, gs.lookup f = some (.c p (.l ys)) := by
  subst e
  induction gs with
  | nil => cases h
  | cons a r ih =>
    obtain ⟨k, x⟩ := a
    rw [List.map_cons, List.lookup_cons] at h
    rw [List.lookup_cons]
    cases c : f == k with
    | true =>
      rw [c] at h
      cases x with
      | v d => cases h
      | c p x => cases h; exact ⟨p, rfl⟩
    | false => rw [c] at h; exact ih h
theorem x_fapp (h1 : μ[i]? = some (some (.o tg (.inl C fs)))) (hf : fs.lookup f = some (.c (.l (xs.map e)))) (he : EV K true te μ (e x) μ) (hc : Cls K C) (hn : NoAttr K C f) (ha : appR xs x = .ok zs) (hm : mflG fs f (zs.map e) = fs') :
    XS K (tDrop (tBM K "list" rAppend (tFld K (tVar i) f) (tCons te tNil))) μ (.nx (μ.set i (some (.o tg (.inl C fs'))))) := fun ρ ab => by
  unfold appR at ha
  split at ha
  · rename_i hl; cases ha
    obtain ⟨a, dx, gs, h2, h3, h4⟩ := inl_of ab h1
    obtain ⟨p, h5⟩ := lookF h3 hf
    refine ex_fapp (d := e x) h2 h5 hc hn ((he ρ ab).imp fun d ρ1 ⟨e1, _⟩ => e1) (by rw [List.length_map]; exact hl) ?_
    show Ab _ _
    refine ab.mutI h4 i ?_
    rw [mflG_map, h3, ← hm, List.map_append]; rfl
  · cases ha
theorem e_fix (h1 : μ[i]? = some (some (.o tg (.inl C fs)))) (hf : fs.lookup f = some (.c (.l (xs.map e)))) (hi : EV K true ti μ (.int k) μ) (hc : Cls K C) (hn : NoAttr K C f) (hx : idx xs k = .ok x) :
    EV K q (tOp (rIx K) (tFld K (tVar i) f) ti) μ (e x) μ := fun ρ ab => by
  obtain ⟨a, dx, gs, h2, h3, h4⟩ := inl_of ab h1
  obtain ⟨p, h5⟩ := lookF h3 hf
  refine ev_fix h2 h5 hc hn ((hi ρ ab).imp fun d ρ1 ⟨e1, _⟩ => ⟨k, e1, e x, ?_, rfl, ab⟩)
  rw [atI_atZ]
  unfold idx at hx
  cases z : atZ xs k with
  | none => rw [z] at hx; cases hx
  | some y => rw [z] at hx; cases hx; rfl
end
/-! ### the log -/
section
variable (A : Addr)
def fLog (v : LogM) : List (Str × D) := [("width", .int v.width), ("listed", eL (eT2 D.int D.int) v.listed), ("fetches_early", .bl v.fetches_early), ("indices", eDc (eL D.int) v.indices), ("positions", eL D.int v.positions)]
def eLog (v : LogM) : D := .ins A (fLog v)
def iLog (v : LogM) : MO := .inl A [("width", .v (.int v.width)), ("listed", .v (eL (eT2 D.int D.int) v.listed)), ("fetches_early", .v (.bl v.fetches_early)), ("indices", .v (eDc (eL D.int) v.indices)), ("positions", .c (.l (v.positions.map D.int)))]
end
section
variable {K : PySem.W.Frag} {q : Bool} {te : TE} {μ μ1 : MEnv} {A : Addr} {v : LogM}
theorem e_Log_width (h : EV K q te μ (eLog A v) μ1) (hc : Cls K A) (hn : NoAttr K A "width") : EV K q (tFld K te "width") μ (.int v.width) μ1 := e_fld h hc hn rfl
theorem e_Log_listed (h : EV K q te μ (eLog A v) μ1) (hc : Cls K A) (hn : NoAttr K A "listed") : EV K q (tFld K te "listed") μ (eL (eT2 D.int D.int) v.listed) μ1 := e_fld h hc hn rfl
theorem e_Log_fetches_early (h : EV K q te μ (eLog A v) μ1) (hc : Cls K A) (hn : NoAttr K A "fetches_early") : EV K q (tFld K te "fetches_early") μ (.bl v.fetches_early) μ1 := e_fld h hc hn rfl
end
end Fw

set_option Elab.async false
set_option linter.all false
set_option maxRecDepth 100000
namespace Fw
variable [TbC]
open PySem L2
/-- a method of an own class -/
structure CalO (P : Program) (w : World) (K : PySem.W.Frag) (mg : Str → Option Value) (base : Heap) (k : Nat) (x m : Str) (ps : List Str) (sp : Sp) : Prop where
  ok : ∃ fd, FnG P w K mg base (L2.CX P w) k (He.ma K (He.ga K x) m) fd ps sp ∧ Binds K fd ps []
  meth : Meth K (He.ga K x) m (He.ma K (He.ga K x) m)
  cls : Cls K (He.ga K x)
/-- an own class, made -/
structure CalN (P : Program) (w : World) (K : PySem.W.Frag) (mg : Str → Option Value) (base : Heap) (k : Nat) (x : Str) (n : Nat) (ks : List Str) (dvs : List V) (ps : List Str) (sp : Sp) : Prop where
  ok : ∃ fd, FnG P w K mg base (L2.CX P w) k (He.ma K (He.ga K x) "__init__") fd ps sp ∧ (∃ ds, Vals dvs ds ∧ Binds K fd ps ds) ∧ KBn K fd ps (n + 1) ks (fun us ws => us ++ ws) (fun vs zs => vs ++ zs)
  mkr : L2.Mk K (He.ga K x) (He.ma K (He.ga K x) "__init__")
  g : mg x = some (.ref (He.ga K x))
section
variable {X : Cx} {k n : Nat} {ps ks : List Str} {dvs : List V} {sp : Sp} {x m : Str} {p pos apos : Pos} {e o : Expr} {es : List Expr} {kws : List Keyword} {t tk : TA} {ta : TE} {K : PySem.W.Frag} {f : Str}
theorem pe_methC {pl : Sem Bool} (c : CalO X.prog X.w X.K X.mg X.base k x m ps sp) (hr : Rg k X.A) (he : PE X o ta) (ha : PA X (e :: es) t)
    (hst : starEach (e :: es) X.env = (false, eval e X.env) :: starEach es X.env := by rfl) (hpl : (backTo pos (starEach es X.env)).any (·.1) = false := by rfl)
    (ht : eval (.Call (.Attribute o m apos) (e :: es) [] pos) X.env = (do
      let ov ← eval o X.env
      standAt apos.atName
      let (f, first) ← holding [ov] (getMethod ov m pl)
      callWith pos f first (backTo pos (starEach (e :: es) X.env)) (backToKw pos (keywordEach [] X.env))) := by rfl) :
    PE X (.Call (.Attribute o m apos) (e :: es) [] pos) (tMeth (He.ga X.K x) m sp [] E0 ta t) := by
  obtain ⟨fd, F, b⟩ := c.ok
  exact pg_meth he c.cls c.meth F hr b .nil passL ha hst hpl ht
theorem pe_methC0 {pl : Sem Bool} (c : CalO X.prog X.w X.K X.mg X.base k x m ps sp) (hr : Rg k X.A) (he : PE X o ta)
    (ht : eval (.Call (.Attribute o m apos) [] [] pos) X.env = (do
      let ov ← eval o X.env
      standAt apos.atName
      let (f, first) ← holding [ov] (getMethod ov m pl)
      callWith pos f first (backTo pos (starEach [] X.env)) (backToKw pos (keywordEach [] X.env))) := by rfl) :
    PE X (.Call (.Attribute o m apos) [] [] pos) (tMeth (He.ga X.K x) m sp [] E0 ta tNil) := by
  obtain ⟨fd, F, b⟩ := c.ok
  exact pg_meth0 he c.cls c.meth F hr b .nil passL ht
theorem pe_makeC (c : CalN X.prog X.w X.K X.mg X.base k x n ks dvs ps sp) (hr : Rg (k + 1) X.A) (hg : Gl X x) (ha : PA X (e :: es) t) (hdb : (x == ("__debug__" : Str)) = false := by decide)
    (he : starEach (e :: es) X.env = (false, eval e X.env) :: starEach es X.env := by rfl) (hpl : (backTo pos (starEach es X.env)).any (·.1) = false := by rfl) :
    PE X (.Call (.Name x p) (e :: es) [] pos) (tMake (He.ga X.K x) sp dvs E0 t) := by
  obtain ⟨fd, F, ⟨ds, r, b⟩, _⟩ := c.ok
  exact pg_make c.mkr F hr hg c.g b r passL ha hdb he hpl
end
end Fw

set_option Elab.async false
set_option linter.all false
set_option maxRecDepth 100000
namespace Fw
variable [TbC]
open PySem L2
section
variable {K : PySem.W.Frag} {q : Bool} {ρ : Env} {te : TE} {μ μ1 : MEnv} {α : Type} {e : α → D} {xs : List α} {d : D}
end
end Fw
namespace Fw
variable [TbC]
open PySem L2
section
variable {K : PySem.W.Frag} {q : Bool} {te : TE} {μ μ1 : MEnv} {d d' : D}
theorem e_as (h : EV K q te μ d μ1) (e : d = d') : EV K q te μ d' μ1 := e ▸ h
end
end Fw
namespace Fw
variable [TbC]
open PySem L2
section
variable {K : PySem.W.Frag} {q : Bool} {ta tb tc : TE} {μ μ1 μ2 μ3 : MEnv} {a b : Int}
end
end Fw

set_option Elab.async false
set_option linter.all false
set_option maxRecDepth 100000
namespace Fw
variable [TbC]
open PySem L2
section
variable {K : PySem.W.Frag} {q : Bool} {ρ : Env} {ts : TA} {μ μ1 : MEnv} {α : Type} {e : α → D} {xs : List α} {d : D}
end
end Fw
namespace Fw
variable [TbC]
open PySem L2
/-! ### tuples of four -/
def eT4 {α β γ δ : Type} (e : α → D) (f : β → D) (g : γ → D) (h : δ → D) (p : α × β × γ × δ) : D := .tup [e p.1, f p.2.1, g p.2.2.1, h p.2.2.2]
section
variable {K : PySem.W.Frag} {q : Bool} {ts : TA} {ta tb : TE} {μ μ1 μ2 μ3 μ4 : MEnv} {α β γ δ : Type} {e : α → D} {f : β → D} {g : γ → D} {u : δ → D} {p : α × β × γ × δ} {w : Option (List Nat)}
end
end Fw
namespace Fw
variable [TbC]
open PySem L2
section
variable {K : PySem.W.Frag} {q : Bool} {ρ : Env} {ts : TA} {ta tb : TE} {μ μ1 μ2 : MEnv} {α β γ δ : Type} {e : α → D} {f : β → D} {g : γ → D} {u : δ → D}
end
end Fw

set_option Elab.async false
set_option linter.all false
set_option maxRecDepth 100000
namespace Fw
variable [TbC]
open PySem L2
section
variable {K : PySem.W.Frag} {ρ : Env} {ts : TA} {te : TE} {μ : MEnv} {E : En}
def adr (ss : List Sl) : List Addr := ss.flatMap fun s => ownA (some s)
/-- new things and quiet data, side by side -/
def Fr (K : PySem.W.Frag) (ta : TA) (ρ : Env) (Φ : List Sl → Prop) : Prop :=
  ∀ (σ : St) (F H : Hp) (Q : List V → Hp → Prop), Ok K σ F H ρ → (∀ ss vs H', Ok K σ F H' ρ → Step ρ F H ρ F H' → RsL K F H' ss vs → (adr ss).Nodup → (∀ a ∈ adr ss, H a = none ∧ ∃ o, H' a = some o) → Φ ss → Q vs H') → ta σ H Q
theorem fr_nil {Φ : List Sl → Prop} (k : Φ []) : Fr K tNil ρ Φ := fun σ F H Q ok c => c [] [] H ok (Step.refl _ _ _) .nil List.nodup_nil (fun a h => by cases h) k
theorem RsOk.keep {F H H' : Hp} {s : Sl} {v : V} (r : RsOk K F H s v) (q : ∀ x ∈ ownA (some s), ∀ o, H x = some o → H' x = some o) : RsOk K F H' s v := by
  cases s with
  | v d => exact r
  | o a c => obtain ⟨r0, r1, r2⟩ := r; exact ⟨r0, r1, r2.mono (Same.refl _) q⟩
theorem fr_new {c : O} {ho : HO} {Φ : List Sl → Prop} (ht : te = fun _ H Q => ∀ p, H p = none → Q (.ref p) (upd H p ho)) (hc : c.inn = []) (ha : ∀ (F H : Hp) (p : Addr), OwnAt K F (upd H p ho) p c)
    (h : Fr K ts ρ fun ss => ∀ p, Φ (.o p c :: ss)) : Fr K (tCons te ts) ρ Φ := fun σ F H Q ok cc => by
  subst ht
  intro p hp
  obtain ⟨ok1, s1, r1, n1⟩ := lay ok hp (ha F H p) hc
  refine h σ F _ _ ok1 fun ss vs H' ok' st r nd fr k => ?_
  have pH : H' p = some ho := (st.h p ho upd_same n1).2 (ok.ntN hp)
  have far : ∀ a ∈ adr ss, a ≠ p := fun a m z => by
    have := (fr a m).1
    rw [z, upd_same] at this; cases this
  refine cc (.o p c :: ss) (.ref p :: vs) H' ok' (s1.trans st) (.cons (RsOk.keep r1 fun x hx o e => ?_) r) ?_ (fun a m => ?_) (k p)
  · have : x = p := by simpa [ownA, hc] using hx
    subst this
    rw [upd_same] at e; cases e; exact pH
  · show (ownA (some (.o p c)) ++ adr ss).Nodup
    have : ownA (some (Sl.o p c)) = [p] := by simp [ownA, hc]
    rw [this]
    exact List.nodup_cons.mpr ⟨fun m => far p m rfl, nd⟩
  · have : a ∈ p :: adr ss := by
      have h2 : adr (.o p c :: ss) = ownA (some (Sl.o p c)) ++ adr ss := rfl
      have h3 : ownA (some (Sl.o p c)) = [p] := by simp [ownA, hc]
      rw [h2, h3] at m; exact m
    rcases List.mem_cons.mp this with rfl | m
    · exact ⟨hp, _, pH⟩
    · obtain ⟨f1, f2⟩ := fr a m
      refine ⟨?_, f2⟩
      rw [upd_ne (far a m)] at f1; exact f1
theorem fr_lst {Φ : List Sl → Prop} (h : Fr K ts ρ fun ss => ∀ p, Φ (.o p (.lst []) :: ss)) : Fr K (tCons (tLst tNil) ts) ρ Φ := fun σ F H Q ok cc => by
  have := fr_new (te := fun _ H Q => ∀ p, H p = none → Q (.ref p) (upd H p (.lst []))) (ho := .lst []) (c := .lst []) rfl rfl (fun F H p => ⟨[], upd_same, .nil⟩) h σ F H Q ok cc
  exact ⟨by decide, this⟩
theorem fr_dct {Φ : List Sl → Prop} (h : Fr K ts ρ fun ss => ∀ p, Φ (.o p (.dct []) :: ss)) : Fr K (tCons tDNewK ts) ρ Φ :=
  fr_new (ho := .dK []) (c := .dct []) rfl rfl (fun F H p => ⟨[], upd_same, .nil⟩) h
theorem RsL.len {F H : Hp} {ss : List Sl} {vs : List V} (r : RsL K F H ss vs) : ss.length = vs.length := by
  induction r with
  | nil => rfl
  | cons _ _ ih => simp [ih]
theorem RsL.keep {F H H' : Hp} {ss : List Sl} {vs : List V} (r : RsL K F H ss vs) (sm : Same H H') : RsL K F H' ss vs := by
  induction r with
  | nil => exact .nil
  | cons a _ ih => exact .cons (RsOk.keep a fun x hx o e => sm x o e) ih
/-- names, set one after the other -/
def gNames : List Nat → TGs
  | [] => gNil
  | i :: is => gCons (gName i) (gNames is)
def setAll : Env → List Nat → List Sl → Env
  | ρ, i :: is, s :: ss => setAll (ρ.set i (some s)) is ss
  | ρ, _, _ => ρ
theorem gnames_ok {F H : Hp} {Q : St → Hp → Prop} : ∀ {is : List Nat} {ss : List Sl} {vs : List V} {σ : St} {ρ : Env}, Ok K σ F H ρ → RsL K F H ss vs → (adr ss).Nodup → (∀ a ∈ adr ss, a ∉ owns ρ) → is.length = ss.length →
    (∀ σ', Ok K σ' F H (setAll ρ is ss) → (∀ b ∈ owns (setAll ρ is ss), b ∈ owns ρ ∨ b ∈ adr ss) → Q σ' H) → gNames is vs σ H Q
  | [], ss, vs, σ, ρ, ok, r, nd, n, hl, k => by
    cases ss with
    | cons _ _ => cases hl
    | nil => cases r; exact ⟨rfl, k σ ok fun b hb => .inl hb⟩
  | i :: is, ss, vs, σ, ρ, ok, r, nd, n, hl, k => by
    cases ss with
    | nil => cases hl
    | cons s ss =>
      cases r with
      | @cons _ _ v vs r1 r2 =>
        have nd2 : (ownA (some s) ++ adr ss).Nodup := nd
        obtain ⟨n1, n2, n3⟩ := List.nodup_append.mp nd2
        refine ⟨v, vs, rfl, ?_⟩
        have ok1 : Ok K (σ.set i (some v)) F H (ρ.set i (some s)) := by
          cases s with
          | v d => exact ok.setv r1
          | o a c => exact ok.seto r1 n1 fun x hx => n x (List.mem_append_left _ hx)
        refine gnames_ok ok1 r2 n2 (fun a m z => ?_) (by simpa using hl) fun σ' ok' w => k σ' ok' fun b hb => ?_
        · rcases owns_set_sub z with y | y
          · exact n a (List.mem_append_right _ m) y
          · exact n3 a y a m rfl
        · rcases w b hb with y | y
          · rcases owns_set_sub y with y | y
            · exact .inl y
            · exact .inr (List.mem_append_left _ y)
          · exact .inr (List.mem_append_right _ y)
end
end Fw
namespace Fw
variable [TbC]
open PySem L2
section
variable {K : PySem.W.Frag} {ts : TA} {te : TE} {μ : MEnv} {α : Type} {d : D} {cs : List MSl}
def FR (K : PySem.W.Frag) (ts : TA) (μ : MEnv) (cs : List MSl) : Prop := ∀ ρ, Ab ρ μ → Fr K ts ρ fun ss => Cs ss cs
theorem Fr.imp {ρ : Env} {Φ Ψ : List Sl → Prop} (h : Fr K ts ρ Φ) (i : ∀ ss, Φ ss → Ψ ss) : Fr K ts ρ Ψ := fun σ F H Q ok c => h σ F H Q ok fun ss vs H' a b r n f k => c ss vs H' a b r n f (i ss k)
theorem f_nil : FR K tNil μ [] := fun ρ ab => fr_nil .nil
theorem f_lst (e : α → D) (h : FR K ts μ cs) : FR K (tCons (tLst tNil) ts) μ (.o none (oL e []) :: cs) := fun ρ ab => fr_lst ((h ρ ab).imp fun ss c p => .cons ⟨p, _, rfl, rfl⟩ c)
theorem f_dct (e : α → D) (h : FR K ts μ cs) : FR K (tCons tDNewK ts) μ (.o none (oDc e []) :: cs) := fun ρ ab => fr_dct ((h ρ ab).imp fun ss c p => .cons ⟨p, _, rfl, rfl⟩ c)
def setM : MEnv → List Nat → List MSl → MEnv
  | μ, i :: is, c :: cs => setM (μ.set i (some c)) is cs
  | μ, _, _ => μ
theorem set_ab {ss : List Sl} (c : Cs ss cs) : ∀ {ρ : Env} {μ : MEnv}, Ab ρ μ → (∀ x ∈ cs, ∀ a o, x ≠ .o (some a) o) → ∀ is : List Nat, Ab (setAll ρ is ss) (setM μ is cs) := by
  induction c with
  | nil => intro ρ μ ab _ is; cases is <;> exact ab
  | @cons s c ss cs h _ ih =>
    intro ρ μ ab hn is
    cases is with
    | nil => exact ab
    | cons i is =>
      refine ih (ab.set ?_ i) (fun x hx => hn x (List.mem_cons_of_mem _ hx)) is
      cases c with
      | v d => cases h; exact .v
      | o t c =>
        obtain ⟨a, c', rfl, rfl⟩ := h
        cases t with
        | none => exact .o
        | some b => exact absurd rfl (hn _ List.mem_cons_self b c'.m)
def untag (cs : List MSl) : Bool := cs.all fun c => match c with | .o (some _) _ => false | _ => true
end
end Fw

set_option linter.all false
namespace Fw
/-- {k: v for x in xs} -/
def dcompR {α β : Type} (f : α → R (Int × β)) : List α → List (Int × β) → R (List (Int × β))
  | [], acc => .ok acc
  | x :: xs, acc => (f x).bind fun p => dcompR f xs (putZ acc p.1 p.2)
/-- each number once, as set(xs) meets them -/
def ddup (xs : List Int) : List Int := xs.foldl (fun acc x => if acc.contains x = true then acc else acc ++ [x]) []
/-- dict(pairs) -/
def dictL {β : Type} (ps : List (Int × β)) : List (Int × β) := ps.foldl (fun acc p => putZ acc p.1 p.2) []
end Fw
namespace Fw
/-- xs.index(y), xs.count(y) -/
def idxOfR (xs : List Int) (y : Int) : R Int := ofO ((xs.findIdx? fun x => decide (x = y)).map fun (k : Nat) => (k : Int))
def cntI (xs : List Int) (y : Int) : Int := (xs.count y : Nat)
/-- xs.remove(y) -/
def remR (xs : List Int) (y : Int) : R (List Int) := (ofO (xs.findIdx? fun x => decide (x = y))).bind fun k => .ok (xs.eraseIdx k)
end Fw

set_option Elab.async false
set_option linter.all false
set_option maxRecDepth 100000
namespace Fw
variable [TbC]
open PySem L2
def putDD (kvs : List (Key × D)) (k : Key) (d : D) : List (Key × D) := if (kvs.any fun kv => decide (kv.1 = k)) = true then kvs.map (fun kv => if kv.1 = k then (kv.1, d) else kv) else kvs ++ [(k, d)]
section
variable {K : PySem.W.Frag} {q : Bool} {ρ : Env} {σ : St} {F H : Hp} {i : Nat}
end
section
variable {K : PySem.W.Frag} {q : Bool} {μ μ1 μ2 μ3 : MEnv} {i j : Nat} {wi : TI} {g : TG} {tk tv : TE} {vs : List Nat} {α β σ : Type} {e : α → D} {f : β → D} {xs : List α} {zs : List (Int × β)} {S : Env → Prop}
end
end Fw

set_option Elab.async false
set_option linter.all false
set_option maxRecDepth 100000
namespace Fw
variable [TbC]
open PySem L2
section
variable {K : PySem.W.Frag} {ts : TA} {te : TE} {μ μ1 : MEnv} {d : D} {c c2 : MSl} {i j : Nat}
end
end Fw

set_option Elab.async false
set_option linter.all false
set_option maxRecDepth 100000
namespace Fw
variable [TbC]
open PySem L2 PySem.Spec
/-! ### set(list of whole numbers), then sorted or len -/
section
variable {P : Program} {w : World} {A : Around} {E : Value → Shared → Prop} {s : Shared}
abbrev emptySet (w : World) : Obj := { cls := .type "set", dict := none, data := .set #[] 0 (.fresh 0 0 (!w.params.followText "set-order")) }
set_option maxRecDepth 100000 in
set_option maxHeartbeats 3200000 in
end
def tSSet (K : PySem.W.Frag) (ta : TE) : TE := fun σ H Q => ta σ H fun x H1 => ∃ (l : Addr) (ns : List Int), x = .ref l ∧ SqL K H1 l (ns.map V.int) ∧ ns.length ≤ 4000 ∧ (ddup ns).length < 64 ∧ ∀ p, H1 p = none → Q (.ref p) (upd H1 p (.lst ((srt (ddup ns)).map V.int)))
def tLSet (K : PySem.W.Frag) (ta : TE) : TE := fun σ H Q => ta σ H fun x H1 => ∃ (l : Addr) (ns : List Int), x = .ref l ∧ SqL K H1 l (ns.map V.int) ∧ ns.length ≤ 4000 ∧ Q (.int ((ddup ns).length : Nat)) H1
end Fw
namespace Fw
variable [TbC]
open PySem L2
section
variable {K : PySem.W.Frag} {q : Bool} {μ μ1 : MEnv} {ρ : Env} {te : TE} {d : D}
end
end Fw

set_option Elab.async false
set_option linter.all false
set_option maxRecDepth 100000
namespace Fw
variable [TbC]
open PySem L2
section
variable {K : PySem.W.Frag} {μ : MEnv} {i : Nat} {ti te : TE} {tg : Option Addr} {xs zs : List Int} {k a b : Int}
end
end Fw

set_option Elab.async false
set_option linter.all false
set_option maxRecDepth 100000
namespace Fw
variable [TbC]
open PySem L2
section
variable {K : PySem.W.Frag} {q : Bool} {μ μ1 : MEnv} {ρ : Env} {te tb : TE} {d : D} {ns : List Int} {y t : Int}
end
end Fw
namespace Fw
variable [TbC]
open PySem L2
section
variable {K : PySem.W.Frag} {q : Bool} {μ μ1 μ2 μ3 : MEnv} {ρ : Env} {te : TE} {d : D} {α : Type} {e : α → D} {k : Int}
def EPV (K : PySem.W.Frag) (to : TO) (μ : MEnv) (o : Option Int) (μ' : MEnv) : Prop := ∀ ρ, Ab ρ μ → eo K false to ρ fun o' ρ' => o' = o ∧ Ab ρ' μ'
end
end Fw
namespace Fw
variable [TbC]
open PySem L2
end Fw

set_option Elab.async false
set_option linter.all false
set_option maxRecDepth 100000
namespace Fw
variable [TbC]
open PySem L2
section
variable {X : Cx} {k n : Nat} {ps ks : List Str} {dvs : List V} {sp : Sp} {x : Str} {p pos : Pos} {e : Expr} {es : List Expr} {kws : List Keyword} {t tk : TA} {K : PySem.W.Frag}
end
end Fw

set_option linter.all false
namespace Fw
/-- == of dicts -/
def eqDZ {α : Type} [DecidableEq α] (xs ys : List (Int × α)) : Bool := decide (xs.length = ys.length) && xs.all fun kv => decide (lookZ ys kv.1 = some kv.2)
/-- d.setdefault(k, x) -/
def setdR {α : Type} (kvs : List (Int × α)) (k : Int) (x : α) : R (List (Int × α)) := if kvs.length < most then .ok (if hasZ kvs k = true then kvs else putZ kvs k x) else .bad
/-- the greatest pair -/
def maxP : List (Int × Int) → Option (Int × Int)
  | [] => none
  | x :: xs => some (xs.foldl (fun a y => if ltP a y = true then y else a) x)
end Fw

set_option Elab.async false
set_option linter.all false
set_option maxRecDepth 100000
namespace Fw
variable [TbC]
open PySem L2
/-! ### max of a dict's keys -/
section
open PySem.Spec PyProof.Rows
variable {X : Cx} {K : PySem.W.Frag}
abbrev rMaxD : List V → Hp → VK → Prop := fun xs H Q => ∃ (a : Addr) (kvs : List (Key × V)) (ks : List Int) (m : Int), xs = [.ref a] ∧ Rd H a (.dK kvs) ∧ kvs.map (·.1) = ks.map Sum.inl ∧ maxL ks = some m ∧ Q (.int m) H
end
/-! ### == of dicts -/
def eqKD (kvs lvs : List (Key × D)) : Bool := decide (kvs.length = lvs.length) && kvs.all fun kv => match lookD lvs kv.1 with | none => false | some d => kv.2.eqv d
abbrev rEqDD (K : PySem.W.Frag) : R2 := fun x y H Q => ∃ (a b : Addr) (ws us : List (Key × V)) (kvs lvs : List (Key × D)), x = .ref a ∧ y = .ref b ∧ Rd H a (.dK ws) ∧ Rd H b (.dK us) ∧ RepK K H kvs ws ∧ RepK K H lvs us ∧ (∀ p ∈ kvs, p.2.shp 60 = true) ∧ (∀ k d, lookD lvs k = some d → d.shp 60 = true) ∧ Q (.bl (eqKD kvs lvs)) H
abbrev rNeDD (K : PySem.W.Frag) : R2 := fun x y H Q => ∃ (a b : Addr) (ws us : List (Key × V)) (kvs lvs : List (Key × D)), x = .ref a ∧ y = .ref b ∧ Rd H a (.dK ws) ∧ Rd H b (.dK us) ∧ RepK K H kvs ws ∧ RepK K H lvs us ∧ (∀ p ∈ kvs, p.2.shp 60 = true) ∧ (∀ k d, lookD lvs k = some d → d.shp 60 = true) ∧ Q (.bl (!eqKD kvs lvs)) H
section
open PySem.Spec PyProof.Rows
variable {X : Cx} {K : PySem.W.Frag} {pins : List (Addr × Obj)} {σ : L2.St} {H : Hp} {s : Shared}
end
section
variable {K : PySem.W.Frag} {q : Bool} {ρ : Env} {te ta tb : TE} {μ μ1 μ2 : MEnv} {d : D} {α : Type} {e : α → D}
end
end Fw

set_option Elab.async false
set_option linter.all false
set_option maxRecDepth 100000
namespace Fw
variable [TbC]
open PySem L2
/-! ### calls by names alone: the values stand in the call's order, π tells each parameter's place -/
def permL {α : Type} (π : List Nat) (xs : List α) : List α := π.filterMap fun i => xs[i]?
def tPerm (π : List Nat) (m : Nat) (tk : TA) : TA := fun σ H Q => tk σ H fun zs H2 => zs.length = m ∧ Q (permL π zs) H2
theorem vals_get {vs : List V} {us : List Value} (r : Vals vs us) : ∀ i : Nat, (vs[i]? = none ∧ us[i]? = none) ∨ ∃ v u, vs[i]? = some v ∧ us[i]? = some u ∧ RelV v u := by
  induction r with
  | nil => intro i; exact .inl ⟨rfl, rfl⟩
  | cons a _ ih =>
    intro i
    cases i with
    | zero => exact .inr ⟨_, _, rfl, rfl, a⟩
    | succ i => simpa using ih i
theorem vals_perm {vs : List V} {us : List Value} (r : Vals vs us) : ∀ π : List Nat, Vals (permL π vs) (permL π us)
  | [] => .nil
  | i :: π => by
    have ih := vals_perm r π
    unfold permL at ih ⊢
    rcases vals_get r i with ⟨e1, e2⟩ | ⟨v, u, e1, e2, h⟩
    · rw [List.filterMap_cons_none e1, List.filterMap_cons_none e2]; exact ih
    · rw [List.filterMap_cons_some e1, List.filterMap_cons_some e2]; exact .cons h ih
theorem RepL.get2 {K : PySem.W.Frag} {F : Hp} : ∀ {ds : List D} {vs : List V}, RepL K F ds vs → ∀ i : Nat, (ds[i]? = none ∧ vs[i]? = none) ∨ ∃ d v, ds[i]? = some d ∧ vs[i]? = some v ∧ Rep K F d v
  | _, _, .nil, i => .inl ⟨rfl, rfl⟩
  | _, _, .cons a _, 0 => .inr ⟨_, _, rfl, rfl, a⟩
  | _, _, .cons _ r, i + 1 => by simpa using RepL.get2 r i
theorem RepL.perm {K : PySem.W.Frag} {F : Hp} {ds : List D} {vs : List V} (r : RepL K F ds vs) : ∀ π : List Nat, RepL K F (permL π ds) (permL π vs)
  | [] => .nil
  | i :: π => by
    have ih := RepL.perm r π
    unfold permL at ih ⊢
    rcases r.get2 i with ⟨e1, e2⟩ | ⟨d, v, e1, e2, h⟩
    · rw [List.filterMap_cons_none e1, List.filterMap_cons_none e2]; exact ih
    · rw [List.filterMap_cons_some e1, List.filterMap_cons_some e2]; exact .cons h ih
theorem kbn_perm {K : PySem.W.Frag} {x qual : Str} {params : Arguments} {body : List Stmt} {scope : Scope} {kws : List (Str × V)} {f : Addr} {fd : FuncData} {ps ks : List Str} (n : Nat) (π : List Nat) (F : FunD K x qual params body scope [] kws f fd)
    (h : ∀ (kV doc pm : Value) (an : Option Addr) (cdv ct : Value) (us ws : List Value), us.length = n → ws.length = ks.length → bindArgs (PySem.W.fnOf x qual params body scope .none kV doc pm an cdv ct) ⟨us, ks.zip ws⟩ = pure (ps.zip (us ++ permL π ws))) : KBn K fd ps n ks (fun us ws => us ++ permL π ws) (fun vs zs => vs ++ permL π zs) := by
  obtain ⟨oc, od, dV, kV, doc, pm, an, cdv, ct, osl, rfl, lk, hcd, hD, hK⟩ := F.ex
  rcases hD with ⟨_, rfl⟩ | ⟨e, _⟩
  · exact ⟨fun s us ws X l1 l2 => .of_eq (h kV doc pm an cdv ct us ws l1 l2), fun r1 r2 => vals_app r1 (vals_perm r2 π)⟩
  · exact absurd rfl e
structure CalG (P : Program) (w : World) (K : PySem.W.Frag) (mg : Str → Option Value) (base : Heap) (k : Nat) (x : Str) (ks : List Str) (π : List Nat) (ps : List Str) (sp : Sp) : Prop where
  ok : ∃ fd, FnG P w K mg base (L2.CX P w) k (He.ga K x) fd ps sp ∧ KBn K fd ps 0 ks (fun us ws => us ++ permL π ws) (fun vs zs => vs ++ permL π zs)
  g : mg x = some (.ref (He.ga K x))
  kp : PySem.W.keepIn K (.ref (He.ga K x)) = true
structure CalOG (P : Program) (w : World) (K : PySem.W.Frag) (mg : Str → Option Value) (base : Heap) (k : Nat) (x m : Str) (ks : List Str) (π : List Nat) (ps : List Str) (sp : Sp) : Prop where
  ok : ∃ fd, FnG P w K mg base (L2.CX P w) k (He.ma K (He.ga K x) m) fd ps sp ∧ KBn K fd ps 1 ks (fun us ws => us ++ permL π ws) (fun vs zs => vs ++ permL π zs)
  meth : Meth K (He.ga K x) m (He.ma K (He.ga K x) m)
  cls : Cls K (He.ga K x)
section
variable {X : Cx} {k : Nat} {ps ks : List Str} {sp : Sp} {x m : Str} {p pos apos : Pos} {o : Expr} {kws : List Keyword} {tk : TA} {ta : TE} {K : PySem.W.Frag} {π : List Nat}
theorem pe_methG {pl : Sem Bool} (c : CalOG X.prog X.w X.K X.mg X.base k x m ks π ps sp) (hr : Rg k X.A) (he : PE X o ta) (hkw : PK X kws tk) (hall : (backToKw pos (keywordEach kws X.env)).all (·.1.isSome) = true := by rfl) (hks : (backToKw pos (keywordEach kws X.env)).filterMap (·.1) = ks := by rfl)
    (hpl : ((backTo pos (starEach [] X.env)).any (·.1) || (backToKw pos (keywordEach kws X.env)).any (·.1.isNone)) = false := by rfl)
    (ht : eval (.Call (.Attribute o m apos) [] kws pos) X.env = (do
      let ov ← eval o X.env
      standAt apos.atName
      let (f, first) ← holding [ov] (getMethod ov m pl)
      callWith pos f first (backTo pos (starEach [] X.env)) (backToKw pos (keywordEach kws X.env))) := by rfl) :
    PE X (.Call (.Attribute o m apos) [] kws pos) (tMeth (He.ga X.K x) m sp [] E0 ta (tPerm π ks.length tk)) := by
  obtain ⟨fd, F, hb⟩ := c.ok
  refine ⟨fun pins s σ H Q I h => ?_⟩
  refine PySem.W.methodCall_KW (pl := pl) (thn (he.run pins s σ H _ I h) fun u s1 ⟨x, H1, I1, rx, a, dx, fs, ex, ea, l, q⟩ => ?_) ht
  subst ex
  obtain rfl : u = Value.ref a := rx
  refine getmeth_ok I1 ea c.cls c.meth l ?_
  refine PySem.W.callWith_KW0 (first := [.ref a]) (h₀ := X.base) I.ok.mod.kin c.meth.kp hall (thn (hkw.run pos pins s1 σ H1 _ I1 q) fun ws s2 ⟨zs, H2, I2, rz, l2, q2⟩ => ⟨I2.kIn, ?_⟩) hpl
  rw [hks]
  exact goesN (us := [.ref a]) (vs := [.ref a]) F hr hb (passL.at _) I2 (.cons rfl .nil) rz rfl l2 (by simpa using q2)
end
section
variable {K : PySem.W.Frag} {μ μ1 : MEnv} {tk : TA} {π : List Nat} {m : Nat} {ds ds' : List D}
theorem a_perm (hk : ED K true tk μ ds μ1) (hp : permL π ds = ds' := by rfl) (hm : ds.length = m := by rfl) : EA K (tPerm π m tk) μ (ds'.map MAr.v) μ1 := fun ρ ab σ F H Q ok c =>
  hk ρ ab σ F H _ ok fun es zs F2 H2 ρ2 ok2 r2 s2 q2 ⟨e2, k2⟩ => by
    subst e2
    refine ⟨by rw [← r2.length]; exact hm, c ((permL π es).map Ar.v) (permL π zs) F2 H2 ρ2 ok2 ?_ s2 ⟨?_, fun j i a c' z => ?_, k2⟩⟩
    · have := (ArL.nil (K := K) (F := F2) (ρ := ρ2)).app (r2.perm π)
      simpa using this
    · rw [List.map_map, ← hp]; rfl
    · rw [List.getElem?_map] at z
      cases e : (permL π es)[j]? with
      | none => rw [e] at z; cases z
      | some d => rw [e] at z; cases z
end
end Fw

set_option Elab.async false
set_option linter.all false
set_option maxRecDepth 100000
namespace Fw
variable [TbC]
open PySem L2
section
variable {K : PySem.W.Frag} {q : Bool} {ρ : Env} {i : Nat} {ty te : TE} {μ μ1 : MEnv} {tg : Option Addr} {α : Type} {e : α → D} {E : En}
end
end Fw

set_option Elab.async false
set_option linter.all false
set_option maxRecDepth 100000
namespace Fw
variable [TbC]
open PySem L2
/-! ### max, min of pairs, no default -/
abbrev rBst (g : PyData → List PyData → PyData) (K : PySem.W.Frag) : List V → Hp → VK → Prop := fun vs H Q => ∃ (a : Addr) (xs : List V) (y : PyData) (ys : List PyData),
  vs = [V.ref a] ∧ SqL K H a xs ∧ DpAll K H xs (y :: ys) ∧ PySem.W.AlikeAll (y :: ys) ∧ PyData.depthAll (y :: ys) ≤ 60 ∧
  ∀ (i : Nat) (v : V), xs[i]? = some v → (y :: ys)[i]? = some (g y ys) → Q v H
section
variable {X : Cx} {K : PySem.W.Frag}
end
section
variable {K : PySem.W.Frag} {q : Bool} {ρ : Env} {te : TE} {μ μ1 : MEnv} {d : D}
end
end Fw

set_option Elab.async false
set_option linter.all false
set_option maxRecDepth 100000
namespace Fw
variable [TbC]
open PySem L2
theorem EqT.opt {α : Type} [DecidableEq α] {n : Nat} {e : α → D} (h : EqT n e) (hn : ∀ x, D.eqv .non (e x) = false ∧ D.eqv (e x) .non = false) : EqT n (eO e) where
  shp := fun m hm x => by
    cases x with
    | none => show D.shp m .non = true; cases m <;> rfl
    | some a => exact h.shp m hm a
  eqv := fun x y => by
    cases x with
    | none => cases y with
      | none => rfl
      | some b => show D.eqv .non (e b) = _; rw [(hn b).1]; rfl
    | some a => cases y with
      | none => show D.eqv (e a) .non = _; rw [(hn a).2]; rfl
      | some b => show D.eqv (e a) (e b) = _; rw [h.eqv]; exact decide_eq_decide.mpr ⟨fun z => by rw [z], fun z => Option.some.inj z⟩
end Fw

set_option Elab.async false
set_option linter.all false
set_option maxRecDepth 100000
namespace Fw
variable [TbC]
open PySem L2
section
variable {K : PySem.W.Frag} {ts : TA} {te : TE} {μ μ1 : MEnv} {d : D} {cs : List MSl}
end
end Fw

set_option Elab.async false
set_option linter.all false
set_option maxRecDepth 100000
namespace Fw
variable [TbC]
open PySem L2
section
variable {K : PySem.W.Frag} {ρ : Env}
end
section
variable {K : PySem.W.Frag} {μ μ1 : MEnv} {te : TE} {c : MO} {C : FC} {CE : FX} {r : MSl} {cs' : List MSl} {E : XK}
end
end Fw

set_option Elab.async false
set_option linter.all false
set_option maxRecDepth 100000
namespace Fw
variable [TbC]
open PySem L2
section
variable {K : PySem.W.Frag} {ts : TA} {te : TE} {μ μ1 : MEnv} {d d2 d3 : D} {c c2 c3 : MSl} {i j l : Nat}
theorem par_three {F H : Hp} {σ : St} {ρ : Env} {s t u : Sl} {vs : List V} {Q : St → Hp → Prop} (ok : Ok K σ F H ρ) (r : RsL K F H [s, t, u] vs) (nd : (adr [s, t, u]).Nodup) (na : ∀ a ∈ adr [s, t, u], a ∉ owns ρ)
    (k : ∀ σ', Ok K σ' F H (setAll ρ [i, j, l] [s, t, u]) → (∀ b ∈ owns (setAll ρ [i, j, l] [s, t, u]), b ∈ owns ρ ∨ b ∈ adr [s, t, u]) → Q σ' H) : ∃ v w x, vs = [v, w, x] ∧ Q (((σ.set i (some v)).set j (some w)).set l (some x)) H := by
  cases r with
  | @cons _ _ v _ r1 r =>
    cases r with
    | @cons _ _ w _ r2 r =>
      cases r with
      | @cons _ _ x _ r3 r =>
        cases r
        obtain ⟨v', vs', e, w', vs'', e2, x', vs3, e3, _, q⟩ := gnames_ok (is := [i, j, l]) ok (.cons r1 (.cons r2 (.cons r3 .nil))) nd na rfl k
        cases e; cases e2; cases e3
        exact ⟨v, w, x, rfl, q⟩
end
end Fw

set_option linter.all false
namespace Fw
/-- range(lo, hi, -1) -/
def rngD (lo hi : Int) : R (List Int) := if -(2 ^ 62) ≤ lo ∧ lo < 2 ^ 62 ∧ -(2 ^ 62) ≤ hi ∧ hi < 2 ^ 62 then .ok ((List.range (lo - hi).toNat).map fun (i : Nat) => lo - (i : Int)) else .bad
end Fw

set_option Elab.async false
set_option linter.all false
set_option maxRecDepth 100000
namespace Fw
variable [TbC]
open PySem L2
section
variable {K : PySem.W.Frag} {q : Bool} {ρ : Env}
/-! range(lo, hi, -1) -/
def rangeCD (lo c : Int) (n : Nat) : List D := (List.range n).map fun (i : Nat) => D.int (lo + (i : Int) * c)
variable {ts : TA} {μ μ1 : MEnv}
end
end Fw

set_option Elab.async false
set_option linter.all false
set_option maxRecDepth 100000
namespace Fw
variable [TbC]
open PySem L2
section
variable {K : PySem.W.Frag} {q : Bool} {ρ : Env} {te ta tb : TE} {ts : TA} {μ μ1 μ2 : MEnv} {i : Nat}
/-! list(range(..)) -/
/-! dict(pairs) -/
abbrev rDictP (K : PySem.W.Frag) : List V → Hp → VK → Prop := fun xs H Q => ∃ (a : Addr) (ps : List Addr) (kvs : List (Key × V)), xs = [.ref a] ∧ SqL K H a (ps.map V.ref) ∧ Paired (fun p kv => SqT K H p [kV kv.1, kv.2]) ps kvs ∧
    ∀ p, H p = none → Q (.ref p) (upd H p (.dK (mergeK [] kvs)))
def mergeDD (kvs more : List (Key × D)) : List (Key × D) := more.foldl (fun acc kv => putDD acc kv.1 kv.2) kvs
/-! for k, v in d.items() -/
def itemsD (kvs : List (Key × D)) : List D := kvs.map fun kv => .tup [keyD kv.1, kv.2]
theorem RepK.len {kvs : List (Key × D)} {ws : List (Key × V)} {F : Hp} (r : RepK K F kvs ws) : kvs.length = ws.length := by
  have := congrArg List.length r.keys
  rw [List.length_map, List.length_map] at this; exact this
end
end Fw

set_option Elab.async false
set_option linter.all false
set_option maxRecDepth 100000
namespace Fw
variable [TbC]
open PySem L2
/-! defs with positional defaults, called without them -/
structure CalP (P : Program) (w : World) (K : PySem.W.Frag) (mg : Str → Option Value) (base : Heap) (k : Nat) (x : Str) (dvs : List V) (ps : List Str) (sp : Sp) : Prop where
  ok : ∃ fd, FnG P w K mg base (L2.CX P w) k (He.ga K x) fd ps sp ∧ ∃ ds, Vals dvs ds ∧ Binds K fd ps ds
  g : mg x = some (.ref (He.ga K x))
  kp : PySem.W.keepIn K (.ref (He.ga K x)) = true
section
variable {X : Cx} {k : Nat} {ps : List Str} {dvs : List V} {sp : Sp} {x : Str} {p pos : Pos} {e : Expr} {es : List Expr} {t : TA}
end
section
variable {K : PySem.W.Frag} {x qual : Str} {params : Arguments} {body : List Stmt} {scope : Scope} {dvs : List V} {kws : List (Str × V)} {f : Addr} {fd : FuncData} {ps : List Str}
end
end Fw

set_option Elab.async false
set_option linter.all false
set_option maxRecDepth 100000
namespace Fw
variable [TbC]
open PySem L2
section
variable {K : PySem.W.Frag} {μ μ1 μ2 : MEnv} {te te2 : TE} {ts : TA} {d d2 : D} {c : MSl} {i j l : Nat}
end
end Fw

set_option linter.all false
namespace Fw
/-- try .. except -/
def tryC {α : Type} (m : R α) (h : String → Pv → Option (R α)) : R α := match m with
  | .ok a => .ok a
  | .bad => .bad
  | .err c v => match h c v with
    | some r => r
    | none => .err c v
/-- raise C(i), raise C(s) -/
def raI {α : Type} (c : String) (i : Int) : R α := if i.natAbs.log2 < 1920 then .err c (.int i) else .bad
def parts : List String := ["position", "entries", "early", "low", "high", "size", "demands", "most", "calm", "count", "width", "limit"]
def raS {α : Type} (c : String) (s : String) : R α := if s ∈ parts then .err c (.str s) else .bad
/-- a list of which none is none -/
def unsR {α : Type} : List (Option α) → R (List α)
  | [] => .ok []
  | none :: _ => .bad
  | some x :: r => (unsR r).bind fun ys => .ok (x :: ys)
def Pv.toI : Pv → R Int
  | .int i => .ok i
  | _ => .bad
def Pv.toS : Pv → R String
  | .str s => .ok s
  | _ => .bad
end Fw

set_option Elab.async false
set_option linter.all false
set_option maxRecDepth 100000
set_option maxHeartbeats 4000000
/-! Own errors that stand over an own class over ArithmeticError: __init__ hands a text to the base's, then keeps one field. -/
namespace PySem
namespace AX
open PySem.W PySem.Calls PyProof.Rows PySem.HandSPX Builtin Builtin.ObjectAttr
abbrev tl : List Value := [.type "ArithmeticError", .type "Exception", .type "BaseException", .type "object"]
/-- what the text has of the class at C -/
structure Aec (K : Frag) (C : Addr) : Prop where
  ini : excInitIn K C tl "ArithmeticError.__new__" = true
  hd : hasDictIn K C = true
  sa : findIn K (.ref C) "__setattr__" = some (some (.builtin "object.__setattr__"))
  ga : findIn K (.ref C) "__getattribute__" = some (some (.builtin "BaseException.__getattribute__"))
  gg : findIn K (.ref C) "__getattr__" = some none
  exC : subIn K (.ref C) (.type "BaseException") = some true
  tyC : typeIn K (.ref C) = some (.type "type")
  kC : keepIn K (.ref C) = true
theorem Aec.cls {K : Frag} {C : Addr} (T : Aec K C) : ∃ nm q N bs bm sn sub ab col dd k0 k1 k2 k3 k5,
    K.lookup C = some (excClassObj nm q C N bs bm true sn sub ab col dd k0 k1 k2 k3 k5 "ArithmeticError.__new__") ∧ excTail tl bm = true := by
  have q := T.ini
  have hd := T.hd
  unfold excInitIn at q
  split at q
  · rename_i dd cd sl ho
    split at q
    · rename_i C' bm k0 k1 k2 k3 n k5 hm hs
      simp only [Bool.and_eq_true, beq_iff_eq, Bool.not_eq_true'] at q
      obtain ⟨⟨⟨rfl, rfl⟩, hdel⟩, ht⟩ := q
      unfold hasDictIn clsIn at hd
      rw [ho] at hd
      obtain ⟨nm, bs, mro, ns, qn, hdd, sn, sub, ab, col, del⟩ := cd
      have hd' : hdd = true := by simpa using hd
      dsimp only at hm hdel
      subst hm hdel hd'
      have hsl : sl = #[k0, k1, k2, k3, some (.builtin "ArithmeticError.__new__"), k5] := by
        obtain ⟨l⟩ := sl
        simp only at hs
        rw [hs]
      subst hsl
      exact ⟨nm, qn, ns, bs, bm, sn, sub, ab, col, dd, k0, k1, k2, k3, k5, ho, ht⟩
    · cases q
  · cases q
section
variable {prog : Program} {w : World} {A : Around} {E : Value → Shared → Prop} {R : Result → Shared → Prop} {hp : Heap} {g : Array GenState} {d : Drawn} {t : Nat} {os : OsState}
end
end AX
end PySem

namespace L2
open PySem PySem.Spec PyProof.Rows PySem.AX
section
variable {X : Cx} {pins : List (Addr × Obj)} {σ : St} {H : Hp} {s : Shared} {a C dx : Addr} {f : Str} {y : V} {u : Value} {Q : Unit → Shared → Prop} {E : Value → Shared → Prop} {A : Around}
end

/-! ### readings, rules -/
/-- B.__init__(self, ..), B an own class that has it from ArithmeticError -/
def tAeI (K : PySem.W.Frag) (ta : TA) : TE := fun σ H Q => ta σ H fun vs H1 => ∃ (a C : Addr) (ws : List V), vs = .ref a :: ws ∧ ws.length ≤ 1000 ∧ Aec K C ∧ H1 a = some (exo a C none) ∧ Q .non H1
/-- self.f = e -/
def tAst (K : PySem.W.Frag) (f : Str) (to te : TE) : TS := fun D σ H => te σ H fun y H1 => to σ H1 fun x H2 => ∃ a C : Addr, x = .ref a ∧ Aec K C ∧ PySem.W.findIn K (.ref C) f = some none ∧
  H2 a = some (exo a C none) ∧ ∀ dx, H2 dx = none → dx ≠ a → D.nx σ (upd (upd H2 dx (exd dx [(f, y)])) a (exo a C (some dx)))
/-- C(e, ..), its __init__ keeping sp -/
def tMkA (C : Addr) (sp : Sp) (ta : TA) : St → Hp → XK → Prop := fun σ H Q => ta σ H fun vs H1 => vs.length ≤ 1000 ∧ ∀ a, H1 a = none → sp (.ref a :: vs) (upd H1 a (exo a C none))
  (fun v H2 => v = .non ∧ ∃ (d : Addr) (fs : List (Str × V)), H2 a = some (exo a C (some d)) ∧ H2 d = some (exd d fs) ∧ H1 d = none ∧ Q (.ref C) (some d) (upd (del H2 a) d (.xd fs))) (fun _ _ _ => False)
/-- x.f, x the error that the suite holds (at a; its class cls, its dict d) -/
def tByA (K : PySem.W.Frag) (f : Str) (a : Addr) (cls : Value) (d : Option Addr) (te : TE) : TE := fun σ H Q => te σ H fun x H1 => x = .ref a ∧ ∃ C, cls = .ref C ∧ Aec K C ∧ PySem.W.findIn K (.ref C) f = some none ∧ ∃ (dd : Addr) (v : V), d = some dd ∧ H1 dd = some (.xd [(f, v)]) ∧ Q v H1
section
variable {X : Cx} {o e : Expr} {es : List Expr} {to te : TE} {ta : TA} {f x : Str} {p p' p1 p2 pos : Pos}
end
end L2

set_option Elab.async false
set_option linter.all false
set_option maxRecDepth 100000
/-! Errors that are let out, told without places: XR, ER, AR, TR. -/
namespace Fw
variable [TbC]
open PySem L2 PySem.AX
/-! ### __init__ of an own error -/
def FitR (K : PySem.W.Frag) (H : Hp) (v : V) : Prop := ∃ d, Shw K H v d ∧ d.shown.length ≤ 3000
def spAI (K : PySem.W.Frag) (f : Str) : Sp := fun vs H Q _ => ∃ (a C : Addr) (y : V), vs = [.ref a, y] ∧ Aec K C ∧ PySem.W.findIn K (.ref C) f = some none ∧ H a = some (exo a C none) ∧ FitR K H y ∧
  ∀ dx, H dx = none → dx ≠ a → Q .non (upd (upd H dx (exd dx [(f, y)])) a (exo a C (some dx)))
def tAI (K : PySem.W.Frag) (m f : Str) : TS := tSeq (tDrop (tAeI K (tCons (tVar 0) (tCons (fun σ H Q => tJs [tC (.str m), tFmtRG K (tVar 1)] Str.empty σ H fun out H1 => Q (.str out) H1) tNil)))) (tAst K f (tVar 0) (tVar 1))
/-! ### the judgements -/
/-- what is wished of an error, behind a step -/
def Out (K : PySem.W.Frag) (x : Xc) (W : WX) (σ : St) (ρ : Env) (F H : Hp) (Ψ : Env → Prop) (S : St → Prop) : Prop :=
  ∀ σ' F' H' ρ' dx v, S σ' → Ok K σ' F' H' ρ' → Ψ ρ' → Step ρ F H ρ' F' H' → H' dx = none → Rep K F' x.dv v → W (.ref x.C) (some dx) σ' (upd H' dx (.xd [(x.f, v)]))
def exr (K : PySem.W.Frag) (ts : TS) (x : Xc) (W : WX) (ρ : Env) (Ψ : Env → Prop) : Prop := ∀ σ F H D, Ok K σ F H ρ → Out K x W σ ρ F H Ψ (fun _ => True) → ts D σ H
def evr (K : PySem.W.Frag) (te : TE) (x : Xc) (W : WX) (ρ : Env) (Ψ : Env → Prop) : Prop := ∀ σ F H Q, Ok K σ F H ρ → Out K x W σ ρ F H Ψ (fun σ' => σ' = σ) → te σ H Q
def ear (K : PySem.W.Frag) (ta : TA) (x : Xc) (W : WX) (ρ : Env) (Ψ : Env → Prop) : Prop := ∀ σ F H Q, Ok K σ F H ρ → Out K x W σ ρ F H Ψ (fun σ' => σ' = σ) → ta σ H Q
def etr (K : PySem.W.Frag) (tt : TT) (x : Xc) (W : WX) (ρ : Env) (Ψ : Env → Prop) : Prop := ∀ σ F H Q, Ok K σ F H ρ → Out K x W σ ρ F H Ψ (fun σ' => σ' = σ) → tt σ H Q
def eir (K : PySem.W.Frag) (wi : TI) (x : Xc) (W : WX) (ρ : Env) (Ψ : Env → Prop) : Prop := ∀ σ F H R, Ok K σ F H ρ → Out K x W σ ρ F H Ψ (fun σ' => σ' = σ) → wi σ H R
section
variable (K : PySem.W.Frag)
def XR (ts : TS) (x : Xc) (W : WX) (μ μw : MEnv) : Prop := ∀ ρ, Ab ρ μ → exr K ts x W ρ fun ρ' => Ab ρ' μw
def ER (te : TE) (x : Xc) (W : WX) (μ μw : MEnv) : Prop := ∀ ρ, Ab ρ μ → evr K te x W ρ fun ρ' => Ab ρ' μw
def AR (ta : TA) (x : Xc) (W : WX) (μ μw : MEnv) : Prop := ∀ ρ, Ab ρ μ → ear K ta x W ρ fun ρ' => Ab ρ' μw
def TR (tt : TT) (x : Xc) (W : WX) (μ μw : MEnv) : Prop := ∀ ρ, Ab ρ μ → etr K tt x W ρ fun ρ' => Ab ρ' μw
def IR (wi : TI) (x : Xc) (W : WX) (μ μw : MEnv) : Prop := ∀ ρ, Ab ρ μ → eir K wi x W ρ fun ρ' => Ab ρ' μw
end
section
variable {K : PySem.W.Frag} {x : Xc} {W : WX} {σ : St} {ρ ρ' : Env} {F H F' H' : Hp} {Ψ : Env → Prop} {S S' : St → Prop}
theorem Out.step (h : Out K x W σ ρ F H Ψ S) (s : Step ρ F H ρ' F' H') : Out K x W σ ρ' F' H' Ψ S := fun σ2 F2 H2 ρ2 dx v h0 ok p st n r => h σ2 F2 H2 ρ2 dx v h0 ok p (s.trans st) n r
theorem Out.of {σ' : St} (h : Out K x W σ ρ F H Ψ S) (i : ∀ σ, S' σ → S σ) : Out K x W σ' ρ F H Ψ S' := fun σ2 F2 H2 ρ2 dx v h0 ok p st n r => h σ2 F2 H2 ρ2 dx v (i _ h0) ok p st n r
theorem Out.imp {Ψ' : Env → Prop} (h : Out K x W σ ρ F H Ψ S) (i : ∀ ρ, Ψ' ρ → Ψ ρ) : Out K x W σ ρ F H Ψ' S := fun σ2 F2 H2 ρ2 dx v h0 ok p st n r => h σ2 F2 H2 ρ2 dx v h0 ok (i _ p) st n r
end
section
variable {K : PySem.W.Frag} {x : Xc} {W : WX} {μ μ1 μ2 μw μw' : MEnv} {t u : TS} {te ta tb : TE} {as : TA} {tc : TT} {q b : Bool} {d : D} {i : Nat}
/-! ### statements -/
/-! ### expressions -/
end
end Fw

set_option Elab.async false
set_option linter.all false
set_option maxRecDepth 100000
/-! A call that lets an error out. -/
namespace Fw
variable [TbC]
open PySem L2 PySem.AX
section
variable {K : PySem.W.Frag} {σ : St} {F H F' H' : Hp} {ρ : Env} {as : List Ar} {vs : List V}
theorem wipeE_get {i : Nat} {s : Sl} : ∀ (l : List Nat), (wipeE ρ l)[i]? = some (some s) → i ∉ l ∧ ρ[i]? = some (some s)
  | [], h => ⟨List.not_mem_nil, h⟩
  | j :: l, h => by
    have h : ((wipeE ρ l).set j none)[i]? = some (some s) := h
    by_cases e : i = j
    · subst e
      rw [List.getElem?_set] at h
      simp at h
    · rw [List.getElem?_set_ne (Ne.symm e)] at h
      obtain ⟨h1, h2⟩ := wipeE_get l h
      exact ⟨fun m => (List.mem_cons.mp m).elim e h1, h2⟩
/-- what was handed by place is lost -/
theorem Ok.lost (ok : Ok K σ F H ρ) (l : List Nat) {L : List Addr} (hL : ∀ x ∈ L, ∃ (i : Nat) (a : Addr) (c : O), i ∈ l ∧ ρ[i]? = some (some (.o a c)) ∧ x ∈ a :: c.inn)
    (sub : Same F' H') (f : Same F F') (tb : LamX.Tabs TbC.T H') (nf : ∀ p ∈ TbC.T, F' p.1 = none) (h : ∀ a o, H a = some o → a ∉ L → Kp H' a o) (n : ∀ a o, F' a = some o → Was F H a o ∨ H a = none ∨ a ∈ L) : Ok K σ F' H' (wipeE ρ l) ∧ Step ρ F H (wipeE ρ l) F' H' := by
  have inO : ∀ x ∈ L, x ∈ owns ρ := fun x hx => by
    obtain ⟨i, a, c, _, e, m⟩ := hL x hx
    exact mem_in e m
  have nin : ∀ (i : Nat) (a : Addr) (c : O) (x : Addr), i ∉ l → ρ[i]? = some (some (.o a c)) → x ∈ a :: c.inn → x ∉ L := fun i a c x hi e m hx => by
    obtain ⟨j, b, c', hj, e', m'⟩ := hL x hx
    obtain rfl := owns_inj ok.nd e e' m m'
    exact hi hj
  refine ⟨⟨sub, (wipeE_len l).trans ok.len, fun i s e => ?_, nodup_of_inj (fun i a c e => owns_nd1 ok.nd (wipeE_get l e).2) fun i j a b c c' x e e' m m' => owns_inj ok.nd (wipeE_get l e).2 (wipeE_get l e').2 m m', tb, nf⟩, f, fun a o e m => h a o e fun z => m (inO a z), fun a o e => ?_, fun a m => .inl (owns_wipe l m)⟩
  · obtain ⟨hi, e⟩ := wipeE_get l e
    obtain ⟨v, h1, h2⟩ := ok.at_ i s e
    refine ⟨v, h1, ?_⟩
    cases s with
    | v d => exact Rep.mono f h2
    | o a c =>
      obtain ⟨rfl, h3, h4⟩ := h2
      refine ⟨rfl, fun x hx => ?_, h4.mono f fun x hx o eo => (h x o eo (nin i a c x hi e hx)).2 (ok.nt (mem_in e hx))⟩
      cases z : F' x with
      | none => rfl
      | some o =>
        rcases n x o z with (y | ⟨_, φ, y1, y2⟩) | y | y
        · rw [h3 x hx] at y; cases y
        · obtain ⟨o2, e2, p2⟩ := h4.kind x hx
          rw [y2] at e2; cases e2
          exact absurd y1 (p2.2 φ)
        · obtain ⟨o', e'⟩ := h4.there x hx
          rw [y] at e'; cases e'
        · exact (nin i a c x hi e hx y).elim
  · rcases n a o e with z | z | z
    · exact .inl z
    · exact .inr (.inl z)
    · exact .inr (.inr (inO a z))
end
section
variable {K : PySem.W.Frag} {x : Xc} {W : WX} {E : XK} {μ μ1 μ2 μw : MEnv} {te : TE} {ta tk : TA} {C : FC} {CE : FX} {as : List MAr} {d : D} {A : Addr} {m : Str}
variable {cs' : List MSl} {r : MSl}
/-- slots handed by place -/
def lostM (μ : MEnv) (as : List MAr) : MEnv := wipeM μ (as.filterMap MAr.ix)
end
end Fw

set_option Elab.async false
set_option linter.all false
set_option maxRecDepth 100000
/-! Bodies, loops and tries with errors. -/
namespace Fw
variable [TbC]
open PySem L2 PySem.AX
theorem R.invX {α β : Type} {m : R α} {f : α → R β} {c : String} {v : Pv} (h : m.bind f = .err c v) : m = .err c v ∨ ∃ a, m = .ok a ∧ f a = .err c v := by
  cases m with
  | ok a => exact .inr ⟨a, rfl, h⟩
  | err c' v' =>
    injection (show (R.err c' v' : R β) = .err c v from h) with h1 h2
    subst h1 h2
    exact .inl rfl
  | bad => cases h
/-- never an error -/
class NE {α : Type} (m : R α) : Prop where
  ne : ∀ c v, m ≠ .err c v
theorem R.invN {α β : Type} {m : R α} {f : α → R β} {c : String} {v : Pv} (h : m.bind f = .err c v) (n : NE m) : ∃ a, m = .ok a ∧ f a = .err c v := by
  rcases R.invX h with h | h
  · exact (n.ne _ _ h).elim
  · exact h
section
variable {K : PySem.W.Frag} {x : Xc} {W : WX} {E : XK} {ρ : Env} {μ μ1 μ2 μw : MEnv} {t tb : TS} {wi : TI} {g : TG} {P : Env → Prop}
/-! ### bodies -/
/-! ### loops -/
/-- a statement that may end and may let an error out -/
def exx (K : PySem.W.Frag) (ts : TS) (x : Xc) (W : WX) (ρ : Env) (E : En) (P : Env → Prop) : Prop := ∀ σ F H D, Ok K σ F H ρ → Got K ρ F H E D → Out K x W σ ρ F H P (fun _ => True) → ts D σ H
section
variable {α σ ρτ : Type} {e : α → D} {xs : List α} {J : σ → MEnv} {c : String} {v : Pv}
end
/-! ### try -/
def dropO (i : Nat) : MOut → MOut
  | .nx μ => .nx (μ.set i none)
  | .ct μ => .ct (μ.set i none)
  | .rt s μ => .rt s μ
section
variable {tw : WX → TS} {ts : Addr → Value → Option Addr → TS} {Wout : WX} {c : Value} {i : Nat} {o : MOut}
theorem held (i : Nat) {σ : St} {F H : Hp} {dx a : Addr} {v : V} (hi : i < ρ.length) (ok : Ok K σ F H ρ) (hn : H dx = none) (r : Rep K F x.dv v) :
    Ok K (σ.set i (some (.ref a))) (upd F dx (.xd [(x.f, v)])) (upd H dx (.xd [(x.f, v)])) (ρ.set i (some (.v (.exc x.C a dx x.f x.dv)))) ∧
    Step ρ F H (ρ.set i (some (.v (.exc x.C a dx x.f x.dv)))) (upd F dx (.xd [(x.f, v)])) (upd H dx (.xd [(x.f, v)])) := by
  have fn : F dx = none := by
    cases z : F dx with
    | none => rfl
    | some o => rw [ok.sub _ _ z] at hn; cases hn
  have nn : ∀ b o, upd F dx (.xd [(x.f, v)]) b = some o → F b = some o ∨ H b = none := fun b o e => by
    by_cases hb : b = dx
    · subst hb; exact .inr hn
    · rw [upd_ne hb] at e; exact .inl e
  have ok2 : Ok K σ (upd F dx (.xd [(x.f, v)])) (upd H dx (.xd [(x.f, v)])) ρ := ok.grow (same_upd fn) (same_upd hn) (same_upd2 ok.sub) nn
  exact ⟨ok2.setv (.exc upd_same (Rep.mono (same_upd fn) r)), (Step.grow (same_upd fn) (same_upd hn) nn).trans (Step.env fun b m => (owns_sublist rfl ρ i).subset m)⟩
end
/-! ### readings where what is raised is wished for at the slots -/
end
end Fw

set_option Elab.async false
set_option linter.all false
set_option maxRecDepth 100000
/-! What is never an error; errors by name; calls that let errors through. -/
namespace Fw
variable [TbC]
open PySem L2 PySem.AX
/-! ### never an error -/
theorem ne_bind {α β : Type} {m : R α} {f : α → R β} (h : NE m) (k : ∀ a, NE (f a)) : NE (m.bind f) := ⟨fun c v z => by
  obtain ⟨a, _, z⟩ := R.invN z h
  exact (k a).ne _ _ z⟩
instance ne_ok {α : Type} {a : α} : NE (R.ok a) := ⟨fun _ _ z => nomatch z⟩
instance ne_bad {α : Type} : NE (R.bad : R α) := ⟨fun _ _ z => nomatch z⟩
theorem ne_ite {α : Type} {c : Prop} [Decidable c] {a b : R α} (h : NE a) (k : NE b) : NE (if c then a else b) := by split <;> assumption
theorem ne_forR {α σ : Type} {body : σ → α → R σ} (h : ∀ s x, NE (body s x)) : ∀ (xs : List α) (s : σ), NE (forR body xs s)
  | [], s => ne_ok
  | x :: xs, s => ne_bind (h s x) fun s' => ne_forR h xs s'
theorem ne_forC {α σ ρ : Type} {body : σ → α → R (Ctl σ ρ)} (h : ∀ s x, NE (body s x)) : ∀ (xs : List α) (s : σ), NE (forC body xs s)
  | [], s => ne_ok
  | x :: xs, s => ne_bind (h s x) fun c => by
    cases c with
    | nx s' => exact ne_forC h xs s'
    | rt r => exact ne_ok
theorem ne_compR {α β : Type} {p : α → R Bool} {f : α → R β} (h : ∀ x, NE (p x)) (k : ∀ x, NE (f x)) : ∀ (xs : List α), NE (compR p f xs)
  | [] => ne_ok
  | x :: xs => ne_bind (h x) fun b => ne_ite (ne_bind (k x) fun y => ne_bind (ne_compR h k xs) fun ys => ne_ok) (ne_compR h k xs)
theorem ne_compS {α β σ : Type} {body : σ → α → R (Option β × σ)} (h : ∀ s x, NE (body s x)) : ∀ (xs : List α) (s : σ), NE (compS body xs s)
  | [], s => ne_ok
  | x :: xs, s => ne_bind (h s x) fun p => ne_bind (ne_compS h xs p.2) fun q => ne_ok
theorem ne_whileN {σ ρ : Type} {c : σ → R Bool} {b : σ → R (Ctl σ ρ)} (h : ∀ s, NE (c s)) (k : ∀ s, NE (b s)) : ∀ (n : Nat) (s : σ), NE (whileN c b n s)
  | 0, s => ne_bad
  | n + 1, s => ne_bind (h s) fun t => ne_ite (ne_bind (k s) fun q => by
    cases q with
    | nx s' => exact ne_whileN h k n s'
    | rt r => exact ne_ok) ne_ok
theorem ne_whileNR {σ : Type} {c : σ → R Bool} {b : σ → R σ} (h : ∀ s, NE (c s)) (k : ∀ s, NE (b s)) : ∀ (n : Nat) (s : σ), NE (whileNR c b n s)
  | 0, s => ne_bad
  | n + 1, s => ne_bind (h s) fun t => ne_ite (ne_bind (k s) fun s' => ne_whileNR h k n s') ne_ok
theorem ne_whileC {σ ρ : Type} {c : σ → R Bool} {b : σ → R (Ctl σ ρ)} (h : ∀ s, NE (c s)) (k : ∀ s, NE (b s)) (s : σ) : NE (whileC c b s) := by unfold whileC; exact ne_whileN h k _ s
theorem ne_whileR {σ : Type} {c : σ → R Bool} {b : σ → R σ} (h : ∀ s, NE (c s)) (k : ∀ s, NE (b s)) (s : σ) : NE (whileR c b s) := by unfold whileR; exact ne_whileNR h k _ s
instance ne_ofO {α : Type} {o : Option α} : NE (ofO o) := by cases o <;> (unfold ofO; infer_instance)
local macro_rules | `(tactic| walk_at "ne") => `(tactic| repeat' (first
  | with_reducible infer_instance
  | refine ne_bind ?_ (fun _ => ?_)
  | refine ne_ite ?_ ?_
  | refine ne_forR (fun _ _ => ?_) _ _
  | refine ne_forC (fun _ _ => ?_) _ _
  | refine ne_compR (fun _ => ?_) (fun _ => ?_) _
  | refine ne_compS (fun _ _ => ?_) _ _
  | refine ne_whileR (fun _ => ?_) (fun _ => ?_) _
  | refine ne_whileC (fun _ => ?_) (fun _ => ?_) _
  | split))
instance {α : Type} {xs : List α} {i : Int} : NE (idx xs i) := by unfold idx; infer_instance
instance {α : Type} {xs : List α} {i : Int} {x : α} : NE (setR xs i x) := by unfold setR; walk_at "ne"
instance {p : Prop} [Decidable p] : NE (need p) := by unfold need; walk_at "ne"
instance {α : Type} {xs : List α} {x : α} : NE (appR xs x) := by unfold appR; walk_at "ne"
instance {α : Type} {xs ys : List α} : NE (catR xs ys) := by unfold catR; walk_at "ne"
instance {α : Type} {xs : List α} {k : Int} : NE (repR xs k) := by unfold repR; walk_at "ne"
instance {i j : Int} : NE (mulR i j) := by unfold mulR; walk_at "ne"
instance {i j : Int} : NE (divR i j) := by unfold divR; walk_at "ne"
instance {i j : Int} : NE (modR i j) := by unfold modR; walk_at "ne"
instance {i j : Int} : NE (powR i j) := by unfold powR; walk_at "ne"
instance {i j : Int} : NE (rngR i j) := by unfold rngR; walk_at "ne"
instance {α : Type} {xs : List α} {k : Int} : NE (popR xs k) := by unfold popR; walk_at "ne"
instance {α : Type} {kvs : List (Int × α)} {k : Int} {d : α} : NE (putR kvs k d) := by unfold putR; walk_at "ne"
instance {α : Type} {kvs : List (Int × α)} {k : Int} : NE (getR kvs k) := by unfold getR; infer_instance
instance {xs : List Int} {y : Int} : NE (idxOfR xs y) := by unfold idxOfR; infer_instance
instance {xs : List Int} {y : Int} : NE (remR xs y) := by unfold remR; walk_at "ne"
instance {v : Pv} : NE v.toI := by unfold Pv.toI; walk_at "ne"
instance {v : Pv} : NE v.toS := by unfold Pv.toS; walk_at "ne"
/-! ### errors by name -/
mutual
def eA : Av → D
  | .non => .non
  | .bl b => .bl b
  | .int i => .int i
  | .str s => eS s
  | .lst xs => .lst (eAs xs)
  | .tup xs => .tup (eAs xs)
  | .dct => .dct []
  | .txt a => .str (pdA a).shown
def eAs : List Av → List D
  | [] => []
  | x :: xs => eA x :: eAs xs
end
abbrev Pv.d (v : Pv) : D := eA v
/-- the one field of an error's class -/
def fldOf (c : String) : Str :=
  if c = "InvalidSize" then "size" else if c = "InvalidLog" then "at" else if c = "InvalidBlock" then "block" else if c = "InvalidNumber" then "number" else if c = "InvalidRun" then "run" else
  if c = "InvalidClients" then "clients" else if c = "InvalidAssignment" then "at" else if c = "InvalidBound" then "part" else "limit"
def xc (K : PySem.W.Frag) (c : String) (v : Pv) : Xc := ⟨He.ga K (Str.ofString c), fldOf c, v.d⟩
section
variable {K : PySem.W.Frag} {W : WX} {μ μ1 μw : MEnv} {te : TE} {t : TS} {c : String} {i : Int} {s : String} {v : Pv} {x : Xc}
end
section
variable {K : PySem.W.Frag} {x : Xc} {W : WX} {μ μ1 μw : MEnv} {d : D} {c : MO} {q : Bool} {sp : Sp} {dvs : List V} {E : St → XK} {ta tk : TA}
end
end Fw

set_option Elab.async false
set_option linter.all false
set_option maxRecDepth 100000
/-! Calls that let errors through: in a body (E), in a try (W, at the slots). -/
namespace Fw
variable [TbC]
open PySem L2 PySem.AX
/-- an own error, as those see it that raise it -/
structure CalE (P : Program) (w : World) (K : PySem.W.Frag) (mg : Str → Option Value) (base : Heap) (c : String) : Prop where
  T : Aec K (He.ga K (Str.ofString c))
  iC : PySem.W.findIn K (.ref (He.ga K (Str.ofString c))) "__init__" = some (some (.ref (He.ma K (He.ga K (Str.ofString c)) "__init__")))
  tI : PySem.W.typeIn K (.ref (He.ma K (He.ga K (Str.ofString c)) "__init__")) = some (.type "function")
  no : PySem.W.findIn K (.ref (He.ga K (Str.ofString c))) (fldOf c) = some none
  g : mg (Str.ofString c) = some (.ref (He.ga K (Str.ofString c)))
  ok : ∃ fd, FnG P w K mg base (L2.CX P w) 1 (He.ma K (He.ga K (Str.ofString c)) "__init__") fd ["self", fldOf c] (spAI K (fldOf c)) ∧ Binds K fd ["self", fldOf c] []
/-- what is let through in a body -/
def passE {X : Cx} {E : XK} (tk : Takes X (fun cls d _ H => E cls d H)) : Passes (L2.CX X.prog X.w) X E := passes_call tk fun _ _ _ _ z => z
section
variable {X : Cx} {K : PySem.W.Frag} {c : String} {W : WX} {E : XK} {k n : Nat} {ps ks : List Str} {dvs : List V} {sp : Sp} {x m : Str} {p pos pos2 apos : Pos} {e o : Expr} {es : List Expr} {kws : List Keyword} {te : TE} {t tk ta : TA}
/-! in a try -/
end
section
variable {K : PySem.W.Frag} {x : Xc} {W : WX} {μ μ1 μw : MEnv} {d : D} {c : MO} {q : Bool} {sp : Sp} {dvs : List V} {E : St → XK} {ta tk : TA} {n m : Nat} {gV : List V → List V → List V} {A : Addr}
end
end Fw

set_option Elab.async false
set_option linter.all false
set_option maxRecDepth 100000
/-! What the head must tell of own errors. -/
namespace Fw
variable [TbC]
open PySem L2 PySem.AX PySem.W
theorem andb {a b : Bool} (h : (a && b) = true) : a = true ∧ b = true := by simpa using h
def aecB (K : Frag) (C : Addr) : Bool :=
  excInitIn K C tl "ArithmeticError.__new__" && (hasDictIn K C && ((findIn K (.ref C) "__setattr__" == some (some (.builtin "object.__setattr__"))) && ((findIn K (.ref C) "__getattribute__" == some (some (.builtin "BaseException.__getattribute__"))) &&
  ((findIn K (.ref C) "__getattr__" == some none) && ((subIn K (.ref C) (.type "BaseException") == some true) && ((typeIn K (.ref C) == some (.type "type")) && keepIn K (.ref C)))))))
def errB (K : Frag) (c : String) : Bool := aecB K (He.ga K (Str.ofString c)) && ((findIn K (.ref (He.ga K (Str.ofString c))) "__init__" == some (some (.ref (He.ma K (He.ga K (Str.ofString c)) "__init__")))) &&
  ((typeIn K (.ref (He.ma K (He.ga K (Str.ofString c)) "__init__")) == some (.type "function")) && (findIn K (.ref (He.ga K (Str.ofString c))) (fldOf c) == some none)))
/-- an own error's class -/
structure ErrT (K : Frag) (c : String) : Prop where
  T : Aec K (He.ga K (Str.ofString c))
  iC : findIn K (.ref (He.ga K (Str.ofString c))) "__init__" = some (some (.ref (He.ma K (He.ga K (Str.ofString c)) "__init__")))
  tI : typeIn K (.ref (He.ma K (He.ga K (Str.ofString c)) "__init__")) = some (.type "function")
  no : findIn K (.ref (He.ga K (Str.ofString c))) (fldOf c) = some none
def idB (K : Frag) (x : Str) : Bool := readsIn K (He.ga K x) (.type "type") && ((specialIn K (.ref (He.ga K x)) "__getattribute__" == some (some (.builtin "type.__getattribute__"))) &&
  (match findCls K (.ref (He.ga K x)) (.type "type") "__init__" with | some (.val (.builtin n)) => n == "ArithmeticError.__init__" | _ => false))
structure IdT (K : Frag) (x : Str) : Prop where
  r : ClX.CRead K (He.ga K x) (.type "type")
  v : findCls K (.ref (He.ga K x)) (.type "type") "__init__" = some (.val (.builtin "ArithmeticError.__init__"))
def exmB (K : Frag) (a b : Str) : Bool := exmOne K (.ref (He.ga K a)) (.ref (He.ga K b)) == some true
/-- K holds the dict of the modules -/
def sysB (K : Frag) : Bool := match K.lookup sysModules with
  | some o => (match o.data with
    | .dict _ _ => true
    | _ => false)
  | none => false
/-- He.hookD over a fragment that has the model's own marks, and something more -/
def asE (g : Addr → Option Obj) (n : Nat) : List Addr := cStatics :: sysModules :: He.asD g n
def obE (n : Nat) (fa : List He.Fa) (fn : List He.DefD) (ex : Frag → Bool) (g : Addr → Option Obj) : He.AlD × Bool := (He.obsD fa fn (He.frG g (asE g n)), ex (He.frG g (asE g n)))
def hookE (n : Nat) (fa : List He.Fa) (fn : List He.DefD) (ex : Frag → Bool) : Hook where
  α := He.AlD × Bool
  obs := fun s => obE n fa fn ex s.heap.get?
  val := fun _ => (He.valD fn, true)
  says := fun _ h => ∃ K : Frag, K.In h ∧ He.SaysD fa fn K ∧ ex K = true
  of := fun _ _ e => ⟨_, He.frG_in, congrArg (fun z : He.AlD × Bool => z.1) e, congrArg (fun z : He.AlD × Bool => z.2) e⟩
  keeps := fun _ _ _ ⟨K, hK, c⟩ k => ⟨K, Frag.In.keeps hK k, c⟩
theorem obE_eq {n : Nat} {fa : List He.Fa} {fn : List He.DefD} {ex : Frag → Bool} {g : Addr → Option Obj} {s : Shared} (h : ∀ a, g a = s.heap.get? a) : obE n fa fn ex g = (hookE n fa fn ex).obs s := by
  have e : g = s.heap.get? := funext h
  rw [e] <;> rfl
end Fw

set_option Elab.async false
set_option linter.all false
set_option maxRecDepth 100000
/-! Errors in printed walks. -/
namespace Fw
variable [TbC]
open PySem L2 PySem.AX
section
variable {K : PySem.W.Frag} {x : Xc} {W : WX} {μ μ1 μ2 μw : MEnv} {t u v tb : TS} {wi : TI} {g : TG} {α σ ρτ : Type} {e : α → D} {xs : List α} {J : σ → MEnv} {JR : ρτ → MSl × MEnv} {ce : String} {ve : Pv}
end
section
variable {K : PySem.W.Frag} {x : Xc} {μ μw : MEnv} {tw : WX → TS} {ts : Addr → Value → Option Addr → TS} {Wout : WX} {c : Value} {i : Nat} {o : MOut} {σ ρτ : Type} {J : σ → MEnv} {JR : ρτ → MSl × MEnv}
end
/-- try .. except X as n: | except X: -/
def tTryA (K : PySem.W.Frag) (c : Value) (i : Nat) (tw : WX → TS) (ts : Addr → Value → Option Addr → TS) (Wout : WX) : TS := fun D σ H => tw (wAs K c i ts Wout D) D σ H
def tTryO (K : PySem.W.Frag) (c : Value) (tw : WX → TS) (ts : Addr → Value → Option Addr → TS) (Wout : WX) : TS := fun D σ H => tw (wOnly K c ts Wout D) D σ H
section
variable {X : Cx} {K : PySem.W.Frag} {x n : Str} {c : Value} {i : Nat} {body suite : List Stmt} {b₀ : Stmt} {np pos pos' : Pos} {tb : WX → TS} {ts : Addr → Value → Option Addr → TS} {Wout : WX}
end
section
variable {K : PySem.W.Frag} {x : Xc} {μ μw : MEnv} {tw : WX → TS} {ts : Addr → Value → Option Addr → TS} {Wout : WX} {c : Value} {i : Nat} {o : MOut}
end
section
variable {K : PySem.W.Frag} {x : Xc} {W : WX} {μ μw : MEnv} {te : TE} {ta t : TA} {A : Addr} {m : Str} {sp : Sp} {dvs : List V} {E : XK} {r : List V → Hp → VK → Prop}
end
section
variable {K : PySem.W.Frag} {W : WX} {μ μ1 : MEnv} {te : TE} {c c' : String} {v : Pv} {i : Int} {s : String}
end
end Fw

set_option Elab.async false
set_option linter.all false
set_option maxRecDepth 100000
/-! A dict that is walked while errors may leave the walk. -/
namespace Fw
variable [TbC]
open PySem L2 PySem.AX
/-- the dict at d stands again when the error is out -/
def lockW (d : Addr) (od : Obj) (u : HO) (W : WX) : WX := fun cls dx σ H => H d = some (.frz od u) ∧ W cls dx σ (upd H d u)
def tLockX (t : WX → TS) (W : WX) : TS := fun D σ H => ∃ d u, H d = some u ∧ Mut (some u) ∧ ∀ od, t (lockW d od u W) ⟨fun σ' H' => H' d = some (.frz od u) ∧ D.nx σ' (upd H' d u), fun v H' => H' d = some (.frz od u) ∧ D.rt v (upd H' d u), fun σ' H' => H' d = some (.frz od u) ∧ D.bk σ' (upd H' d u), fun σ' H' => H' d = some (.frz od u) ∧ D.ct σ' (upd H' d u)⟩ σ (upd H d (.frz od u))
section
variable {X : Cx} {W : WX} {d : Addr} {od : Obj} {u : HO}
end
section
variable {K : PySem.W.Frag} {ρ : Env} {i : Nat} {a : Addr} {kvs : List (Key × D)} {E : En}
end
section
variable {K : PySem.W.Frag} {μ μ1 μw : MEnv} {i : Nat} {α : Type} {e : α → D} {t : WX → TS} {W : WX} {x : Xc}
end
/-! ### values that may be None -/
theorem ne_uns {α : Type} : ∀ (xs : List (Option α)), NE (unsR xs)
  | [] => ne_ok
  | none :: r => ne_bad
  | some x :: r => ne_bind (ne_uns r) fun _ => ne_ok
instance {α : Type} {xs : List (Option α)} : NE (unsR xs) := ne_uns xs
section
variable {K : PySem.W.Frag} {q : Bool} {te : TE} {μ μ1 : MEnv} {o : Option Int}
theorem o_as {c c' : MO} (h : EO K te μ c μ1) (e : c = c') : EO K te μ c' μ1 := e ▸ h
end
end Fw

set_option Elab.async false
set_option linter.all false
set_option maxRecDepth 100000
namespace Fw
variable [TbC]
open PySem L2
section
variable {K : PySem.W.Frag} {q1 q2 : Bool} {μ μ1 μ2 : MEnv} {ta tk : TA} {CF : FC} {CE : FX} {r : MSl} {E : XK} {C : Addr}
/-! ### keywords that are no quiet ones: all arguments are data -/
end
end Fw

set_option linter.all false
namespace Fw
/-! sorted pairs, list.remove -/
def insP (x : Int × Int) : List (Int × Int) → List (Int × Int)
  | [] => [x]
  | y :: ys => if ltP y x = true then y :: insP x ys else x :: y :: ys
def srtP : List (Int × Int) → List (Int × Int)
  | [] => []
  | x :: xs => insP x (srtP xs)
/-- xs.remove(k) -/
def rmvR (xs : List Int) (k : Int) : R (List Int) := if k ∈ xs then .ok (xs.erase k) else .bad
/-- x in xs -/
def memb {α : Type} [DecidableEq α] (xs : List α) (x : α) : Bool := xs.any fun y => decide (y = x)
/-- a loop's body that may go on at once -/
def ctl {σ ρ : Type} (r : R (Bool × Ctl σ ρ)) : R (Ctl σ ρ) := r.bind fun p => .ok p.2
end Fw

set_option Elab.async false
set_option linter.all false
set_option maxRecDepth 100000
namespace Fw
variable [TbC]
open PySem L2
/-! ### sorted pairs -/
/-- which pair a reference says -/
def kP (H : Hp) : V → Int × Int
  | .ref t => match H t with
    | some (.tup [.int a, .int b]) => (a, b)
    | _ => (0, 0)
  | _ => (0, 0)
section
variable {K : PySem.W.Frag} {F H : Hp}
end
/-- sorted(xs, reverse=True), pairs -/
def rSortedPR (K : PySem.W.Frag) : List V → List V → Hp → VK → Prop := fun vs zs H Q => ∃ (a : Addr) (xs : List V) (k : V → Int × Int), vs = [V.ref a] ∧ zs = [.bl true] ∧ SqL K H a xs ∧ (∀ x ∈ xs, ∃ t, x = V.ref t ∧ H t = some (.tup [.int (k x).1, .int (k x).2])) ∧
  ∀ ys p, SrtO.Srtd (L2.ltP k) ys → ys.Perm xs → H p = none → Q (.ref p) (upd H p (.lst ys.reverse))
section
variable {X : Cx} {K : PySem.W.Frag}
end
section
variable {K : PySem.W.Frag} {q : Bool} {ρ : Env} {te td ti : TE} {μ μ1 : MEnv} {d : D} {i : Nat} {t0 tg : Option Addr}
/-! ### xs.remove(k) -/
end
/-! ### continue -/
section
variable {σ ρτ : Type}
/-- the end of a loop's body that may go on at once -/
def outK (J : σ → MEnv) (JR : ρτ → MSl × MEnv) : Bool × Ctl σ ρτ → MOut
  | (false, c) => outC J JR c
  | (true, .nx s) => .ct (J s)
  | (true, .rt r) => .rt (JR r).1 (JR r).2
end
/-! ### x is True -/
abbrev rIsBl : V → V → Hp → VK → Prop := fun x y H Q => ∃ a b, x = .bl a ∧ y = .bl b ∧ Q (.bl (decide (a = b))) H
abbrev rNotBl : V → V → Hp → VK → Prop := fun x y H Q => ∃ a b, x = .bl a ∧ y = .bl b ∧ Q (.bl (!decide (a = b))) H
section
variable {K : PySem.W.Frag} {q : Bool} {ta tb : TE} {μ μ1 μ2 : MEnv} {a b : Bool}
end
end Fw

set_option Elab.async false
set_option linter.all false
set_option maxRecDepth 100000
namespace Fw
variable [TbC]
open PySem L2
/-! ### x in xs, data of any depth -/
section
variable {K : PySem.W.Frag} {q : Bool} {ta tb : TE} {μ μ1 μ2 : MEnv} {d : D} {α : Type} {e : α → D}
end
end Fw

set_option linter.all false
namespace Fw
/-! values of any type -/
def Av.tyn : Av → String
  | .non => "NoneType"
  | .bl _ => "bool"
  | .int _ => "int"
  | .str _ => "str"
  | .lst _ => "list"
  | .tup _ => "tuple"
  | .dct => "dict"
  | .txt _ => "str"
/-- isinstance -/
def Av.isInt : Av → Bool
  | .bl _ => true
  | .int _ => true
  | _ => false
def Av.isBool : Av → Bool
  | .bl _ => true
  | _ => false
def Av.isList : Av → Bool
  | .lst _ => true
  | _ => false
def Av.isTuple : Av → Bool
  | .tup _ => true
  | _ => false
def Av.isStr : Av → Bool
  | .str _ => true
  | .txt _ => true
  | _ => false
def Av.isNone : Av → Bool
  | .non => true
  | _ => false
def Av.toI : Av → R Int
  | .int i => .ok i
  | _ => .bad
def Av.toB : Av → R Bool
  | .bl i => .ok i
  | _ => .bad
def Av.toL : Av → R (List Av)
  | .lst xs => .ok xs
  | _ => .bad
def Av.toT : Av → R (List Av)
  | .tup xs => .ok xs
  | _ => .bad
@[simp] theorem Av.isInt_int {i : Int} : (Av.int i).isInt = true := rfl
@[simp] theorem Av.isBool_int {i : Int} : (Av.int i).isBool = false := rfl
@[simp] theorem Av.toI_int {i : Int} : (Av.int i).toI = .ok i := rfl
end Fw

set_option Elab.async false
set_option linter.all false
set_option maxRecDepth 100000
namespace Fw
variable [TbC]
open PySem L2
/-! values of any type -/
section
variable {K : PySem.W.Frag} {q : Bool} {te : TE} {μ μ1 : MEnv} {a : Av} {ρ : Env}
theorem tyA_of {H : Hp} {v : V} (r : Rep K H (eA a) v) : TyX K H v (.type a.tyn) := by
  cases a with
  | non => cases r; exact .base .non
  | bl b => cases r; exact .base (.bl _)
  | int b => cases r; exact .base (.int _)
  | str b => cases r; exact .base (.str _)
  | txt b => cases r; exact .base (.str _)
  | lst b => cases r with | lst h1 _ => exact .base (.lst h1)
  | tup b => cases r with | tup h1 _ => exact .base (.tup h1)
  | dct =>
    cases r with
    | dct h1 _ =>
      rcases h1 with h1 | ⟨o, h1⟩
      · exact .base (.dK h1)
      · exact .fDict h1
end
theorem ofString_inj {a b : String} (h : Str.ofString a = Str.ofString b) : a = b := by
  rw [Str.ofString_eq_toList, Str.ofString_eq_toList] at h
  injection h with h
  have h2 : a.toList.map Char.toNat = b.toList.map Char.toNat := by simpa using h
  have h3 : a.toList = b.toList := by
    generalize a.toList = x at h2
    generalize b.toList = y at h2
    induction x generalizing y with
    | nil => cases y with
      | nil => rfl
      | cons _ _ => simp at h2
    | cons c x ih => cases y with
      | nil => simp at h2
      | cons d y =>
        rw [List.map_cons, List.map_cons, List.cons.injEq] at h2
        obtain ⟨e1, e2⟩ := h2
        have : c = d := Char.ext (UInt32.toNat_inj.mp e1)
        rw [this, ih y e2]
  exact String.toList_injective h3
theorem EqT.str : EqT 0 eS where
  shp := fun m _ x => by
    have h : PyData.strOk (Str.ofString x) = true := by
      unfold PyData.strOk
      rw [Str.ofString_eq_toList]
      simp only [List.size_toArray, List.all_toArray', List.all_map, List.all_eq_true, Function.comp_apply, decide_eq_true_eq]
      intro c _
      have := c.valid
      rcases this with h | h
      · show c.val.toNat < _
        have : c.val.toNat < 0xD800 := h
        omega
      · show c.val.toNat < _
        have : c.val.toNat < 0x110000 := h.2
        omega
    unfold eS
    cases m <;> simpa [D.shp] using h
  eqv := fun x y => by
    show (Str.ofString x == Str.ofString y) = _
    by_cases c : x = y
    · subst c; simp
    · rw [decide_eq_false c]
      exact beq_eq_false_iff_ne.mpr fun z => c (ofString_inj z)
instance {a : Av} : NE a.toI := by cases a <;> (unfold Av.toI; infer_instance)
instance {a : Av} : NE a.toB := by cases a <;> (unfold Av.toB; infer_instance)
instance {a : Av} : NE a.toL := by cases a <;> (unfold Av.toL; infer_instance)
end Fw

set_option Elab.async false
set_option linter.all false
set_option maxRecDepth 100000
namespace Fw
variable [TbC]
open PySem L2
section
variable {K : PySem.W.Frag} {μ μ1 μ2 : MEnv} {i j : Nat}
end
end Fw

set_option Elab.async false
set_option linter.all false
set_option maxRecDepth 100000
namespace L2
open PySem PySem.Spec PyProof.Rows
/-- the lists at a, b and c as they stand at each turn, the items in new tuples -/
def Itz3 (K : PySem.W.Frag) (a b c : Addr) : It :=
  ⟨fun i H => ∃ (xs ys zs : List V) (x y z : V), SqL K H a xs ∧ SqL K H b ys ∧ SqL K H c zs ∧ xs[i]? = some x ∧ ys[i]? = some y ∧ zs[i]? = some z,
    fun i H v H' => ∃ T x y z, v = .ref T ∧ H T = none ∧ H' = upd H T (.tup [x, y, z]) ∧ (∀ xs, SqL K H a xs → xs[i]? = some x) ∧ (∀ ys, SqL K H b ys → ys[i]? = some y) ∧ ∀ zs, SqL K H c zs → zs[i]? = some z,
    fun i H => ∃ xs ys zs : List V, SqL K H a xs ∧ SqL K H b ys ∧ SqL K H c zs ∧ i ≤ xs.length ∧ i ≤ ys.length ∧ i ≤ zs.length ∧ (i = xs.length ∨ i = ys.length ∨ i = zs.length)⟩
def iZip3 (K : PySem.W.Frag) (ta : TA) : TI := fun σ H R => ta σ H fun vs H1 => ∃ a b c xs ys zs, vs = [.ref a, .ref b, .ref c] ∧ SqL K H1 a xs ∧ SqL K H1 b ys ∧ SqL K H1 c zs ∧ R (Itz3 K a b c) H1
end L2
namespace Fw
variable [TbC]
open PySem L2
section
variable {K : PySem.W.Frag} {q : Bool} {ρ : Env} {μ μ1 : MEnv}
def zipD3 (ds es fs : List D) : List D := ds.zipWith (fun d g => match g with | (e, f) => .tup [d, e, f]) (es.zip fs)
end
end Fw

set_option Elab.async false
set_option linter.all false
set_option maxRecDepth 100000
namespace Fw
variable [TbC]
open PySem L2
section
variable {K : PySem.W.Frag} {μ μ1 : MEnv} {α : Type} {e : α → D} {xs : List α} {i : Nat} {te : TE} {tg : Option Addr}
/-- a slot's list, walked, while the slot keeps it -/
def SO (i : Nat) (a : Addr) (ds : List D) : Env → Prop := fun ρ' => ρ'[i]? = some (some (.o a (.lst ds)))
theorem it_listO {a : Addr} {ds : List D} : ItOk K (Itl K a) ds (fun _ => True) (SO i a ds) where
  mono := fun _ _ _ _ => trivial
  go := fun j d σ F H ρ e ok hs _ => by
    obtain ⟨v, h1, rfl, h2, vs, h3, h4⟩ := ok.at_ i _ hs
    obtain ⟨u, e1, _⟩ := h4.get e
    exact ⟨vs, u, SqL.of h3, e1⟩
  yld := fun j d σ F H ρ x H' e ok hs _ ⟨y1, y2⟩ => by
    subst y1
    obtain ⟨v, h1, rfl, h2, vs, h3, h4⟩ := ok.at_ i _ hs
    obtain ⟨u, e1, r⟩ := h4.get e
    have e2 := y2 vs (SqL.of h3)
    rw [e1] at e2; cases e2
    exact ⟨F, Same.refl _, Same.refl _, ok.sub, fun a o z => .inl z, r⟩
  stop := fun σ F H ρ ok hs _ => by
    obtain ⟨v, h1, rfl, h2, vs, h3, h4⟩ := ok.at_ i _ hs
    exact ⟨vs, SqL.of h3, by rw [h4.length]; exact Nat.le_refl _⟩
theorem i_listO {a : Addr} (hi : μ[i]? = some (some (.o (some a) (oL e xs)))) : EI K (SO i a (xs.map e)) (iList K (tVar i)) μ (xs.map e) μ := fun ρ ab σ F H R ok c => by
  obtain ⟨b, h2, h3⟩ := lst_of ab hi
  have := h3 a rfl
  subst this
  obtain ⟨v, h1, rfl, _, vs, h4, h5⟩ := ok.at_ i _ h2
  exact ⟨_, h1, a, rfl, ⟨vs, SqL.of h4⟩, c _ _ (fun _ => True) F H ρ ok (Step.refl _ _ _) it_listO trivial ⟨rfl, ab⟩⟩
theorem so_ok {a : Addr} (hi : μ[i]? = some (some (.o (some a) (oL e xs)))) : ∀ ρ, Ab ρ μ → SO i a (xs.map e) ρ := fun ρ ab => by
  obtain ⟨b, h2, h3⟩ := lst_of ab hi
  have := h3 a rfl
  subst this
  exact h2
theorem set_same {β : Type} {l : List β} {x : β} (h : l[i]? = some x) : l.set i x = l := by
  refine List.ext_getElem? fun j => ?_
  by_cases z : i = j
  · subst z; rw [List.getElem?_set_self (List.getElem?_eq_some_iff.mp h).1, h]
  · rw [List.getElem?_set_ne z]
end
end Fw

set_option Elab.async false
set_option linter.all false
set_option maxRecDepth 100000
/-! tuples of things of one's own: built at a return, taken apart by the caller -/
namespace Fw
variable [TbC]
open PySem L2
section
variable {K : PySem.W.Frag} {σ : St} {F H : Hp} {ρ : Env} {μ μ1 : MEnv}
def innT (fs : List (Str × Fl)) : List Addr := fs.flatMap fun f => f.2.ad
def argV : List Nat → TA
  | [] => tNil
  | i :: is => tCons (tVar i) (argV is)
/-- what the slots hold, and the slots behind -/
def tkS : MEnv → List Nat → Option (List MFl × MEnv)
  | μ, [] => some ([], μ)
  | μ, i :: is => match μ[i]? with
    | some (some (.o _ (.lst xs))) => (tkS (μ.set i none) is).map fun p => (.c (.l xs) :: p.1, p.2)
    | some (some (.o _ (.dct xs))) => (tkS (μ.set i none) is).map fun p => (.c (.d xs) :: p.1, p.2)
    | some (some (.v d)) => (tkS μ is).map fun p => (.v d :: p.1, p.2)
    | _ => none
theorem dropped (ok : Ok K σ F H ρ) {i : Nat} {a : Addr} {c : O} (h : ρ[i]? = some (some (.o a c))) : ∀ x ∈ a :: c.inn, x ∉ owns (ρ.set i none) := fun x hx m => by
  obtain ⟨j, b, c', e', m'⟩ := mem_owns.mp m
  by_cases z : j = i
  · subst z
    have hlt : j < ρ.length := by simpa using (List.getElem?_eq_some_iff.mp e').1
    rw [List.getElem?_set_self hlt] at e'; cases e'
  · rw [List.getElem?_set_ne (Ne.symm z)] at e'
    exact z (owns_inj ok.nd e' h m' hx)
theorem owns_setn {i : Nat} {x : Addr} (h : x ∈ owns (ρ.set i none)) : x ∈ owns ρ := (owns_set_sub h).elim id fun z => by cases z
theorem tk_ok : ∀ {is : List Nat} {cs : List MFl} {μ μ' : MEnv} {ρ : Env}, tkS μ is = some (cs, μ') → Ab ρ μ → Ok K σ F H ρ →
    ∃ fs ws ρ', Ok K σ F H ρ' ∧ Ab ρ' μ' ∧ FlsAt K F H fs ws ∧ fs.map (fun f => f.2.m) = cs ∧ (∀ Q : List V → Hp → Prop, Q (ws.map (·.2)) H → argV is σ H Q) ∧ (∀ x ∈ innT fs, F x = none ∧ x ∈ owns ρ ∧ x ∉ owns ρ') ∧ (innT fs).Nodup ∧ ∀ x, x ∈ owns ρ' → x ∈ owns ρ
  | [], cs, μ, μ', ρ, h, ab, ok => by
    cases h
    exact ⟨[], [], ρ, ok, ab, .nil, rfl, fun Q q => q, fun x hx => (by cases hx), List.nodup_nil, fun x h => h⟩
  | i :: is, cs, μ, μ', ρ, h, ab, ok => by
    have own : ∀ (a : Addr) (c : O) (x : Ch) (p : List MFl × MEnv), ρ[i]? = some (some (.o a c)) → c.inn = [] → ChAt K F H a x → tkS (μ.set i none) is = some p → p.2 = μ' → (MFl.c x :: p.1 = cs) →
        ∃ fs ws ρ', Ok K σ F H ρ' ∧ Ab ρ' μ' ∧ FlsAt K F H fs ws ∧ fs.map (fun f => f.2.m) = cs ∧ (∀ Q : List V → Hp → Prop, Q (ws.map (·.2)) H → argV (i :: is) σ H Q) ∧ (∀ x ∈ innT fs, F x = none ∧ x ∈ owns ρ ∧ x ∉ owns ρ') ∧ (innT fs).Nodup ∧ ∀ x, x ∈ owns ρ' → x ∈ owns ρ := fun a c x p hi hc hx hp e1 e2 => by
      obtain ⟨v, g1, rfl, g2, _⟩ := ok.at_ i _ hi
      have hd := dropped ok hi
      have ok1 := ok.setn (i := i)
      obtain ⟨fs, ws, ρ', k1, k2, k3, k4, k5, k6, k7, k8⟩ := tk_ok hp (ab.set .any i) ok1
      have ha : a ∉ owns (ρ.set i none) := hd a List.mem_cons_self
      refine ⟨("", .c a x) :: fs, ("", .ref a) :: ws, ρ', k1, e1 ▸ k2, .cons ⟨rfl, hx⟩ k3, ?_, fun Q q => ⟨_, g1, k5 _ q⟩, fun y hy => ?_, ?_, fun y hy => owns_setn (k8 y hy)⟩
      · rw [← e2, ← k4]; rfl
      · rcases List.mem_append.mp (show y ∈ [a] ++ innT fs from hy) with z | z
        · rw [List.mem_singleton.mp z]
          exact ⟨g2 a List.mem_cons_self, mem_root hi, fun m => ha (k8 a m)⟩
        · obtain ⟨y1, y2, y3⟩ := k6 y z
          exact ⟨y1, owns_setn y2, y3⟩
      · exact List.nodup_cons.mpr ⟨fun m => ha (k6 a m).2.1, k7⟩
    unfold tkS at h
    split at h
    · rename_i t xs e
      obtain ⟨p, hp, e2⟩ := Option.map_eq_some_iff.mp h
      obtain ⟨a, c, g1, g2, _⟩ := ab.geto e
      cases c with
      | lst ys =>
        cases g2
        obtain ⟨v, _, rfl, _, q⟩ := ok.at_ i _ g1
        exact own a _ (.l xs) p g1 rfl q hp (congrArg Prod.snd e2) (congrArg Prod.fst e2)
      | _ => cases g2
    · rename_i t xs e
      obtain ⟨p, hp, e2⟩ := Option.map_eq_some_iff.mp h
      obtain ⟨a, c, g1, g2, _⟩ := ab.geto e
      cases c with
      | dct ys =>
        cases g2
        obtain ⟨v, _, rfl, _, q⟩ := ok.at_ i _ g1
        exact own a _ (.d xs) p g1 rfl q hp (congrArg Prod.snd e2) (congrArg Prod.fst e2)
      | _ => cases g2
    · rename_i d e
      obtain ⟨p, hp, e2⟩ := Option.map_eq_some_iff.mp h
      obtain ⟨v, g1, g2⟩ := ok.at_ i _ (ab.getv e)
      obtain ⟨fs, ws, ρ', k1, k2, k3, k4, k5, k6, k7, k8⟩ := tk_ok hp ab ok
      cases e2
      exact ⟨("", .v d) :: fs, ("", v) :: ws, ρ', k1, k2, .cons g2 k3, by rw [← k4]; rfl, fun Q q => ⟨_, g1, k5 _ q⟩, k6, k7, k8⟩
    · cases h
theorem FlsAt.len {fs : List (Str × Fl)} {ws : List (Str × V)} (h : FlsAt K F H fs ws) : ws.length = fs.length := by
  induction h with
  | nil => rfl
  | cons _ _ ih => simp [ih]
def slF : MFl → MSl
  | .v d => .v d
  | .c (.l xs) => .o none (.lst xs)
  | .c (.d xs) => .o none (.dct xs)
def slO : Fl → Sl
  | .v d => .v d
  | .c p (.l xs) => .o p (.lst xs)
  | .c p (.d xs) => .o p (.dct xs)
theorem slO_ad (f : Fl) : ownA (some (slO f)) = f.ad := by
  rcases f with d | ⟨p, xs | xs⟩ <;> rfl
theorem slO_adr : ∀ fs : List (Str × Fl), adr (fs.map fun f => slO f.2) = innT fs
  | [] => rfl
  | f :: fs => by
    show ownA (some (slO f.2)) ++ adr (fs.map fun f => slO f.2) = _
    rw [slO_ad, slO_adr fs]; rfl
theorem slO_rs : ∀ {fs : List (Str × Fl)} {ws : List (Str × V)}, FlsAt K F H fs ws → (∀ x ∈ innT fs, F x = none) → RsL K F H (fs.map fun f => slO f.2) (ws.map (·.2)) := by
  intro fs ws h
  induction h with
  | nil => intro _; exact .nil
  | @cons k x v fs ws a _ ih =>
    intro n
    refine .cons ?_ (ih fun y hy => n y (List.mem_append_right _ hy))
    rcases x with d | ⟨p, xs | xs⟩
    · exact a
    · obtain ⟨rfl, q⟩ := a
      exact ⟨rfl, fun y hy => n y (List.mem_append_left _ hy), q⟩
    · obtain ⟨rfl, q⟩ := a
      exact ⟨rfl, fun y hy => n y (List.mem_append_left _ hy), q⟩
theorem slO_cs : ∀ fs : List (Str × Fl), Cs (fs.map fun f => slO f.2) ((fs.map fun f => f.2.m).map slF)
  | [] => .nil
  | f :: fs => by
    refine .cons ?_ (slO_cs fs)
    rcases f with ⟨_, d | ⟨p, xs | xs⟩⟩
    · rfl
    · exact ⟨p, _, rfl, rfl⟩
    · exact ⟨p, _, rfl, rfl⟩
/-- a, b, .. = f(..), the answer a tuple of one's own things -/
theorem x_unpk {te : TE} {n : Nat} {G : TGs} {cs : List MFl} (is : List Nat) (h : EO K te μ (.tpl cs) μ1) (hg : gNames is = G := by rfl) (hn : cs.length = n := by rfl) (hl : is.length = cs.length := by rfl) :
    XS K (tAsg te (gTup K n G)) μ (.nx (setM μ1 is (cs.map slF))) := fun ρ ab σ F H D ok g => by
  subst hg
  refine (h ρ ab) σ F H _ ok fun p c F1 H1 ρ1 ok1 r st n1 nd no ⟨e1, k1⟩ => ?_
  cases c with
  | tpl fs =>
    have e1 : fs.map (fun f => f.2.m) = cs := by
      have : MO.tpl (fs.map fun f => f.2.m) = MO.tpl cs := e1
      injection this
    obtain ⟨_, r1, ws, r2, r3⟩ := r
    have hfl : fs.length = cs.length := by rw [← e1, List.length_map]
    refine ⟨p, _, rfl, .inl (.inl r2), by rw [List.length_map, r3.len, hfl]; exact hn, ?_⟩
    have nd2 : (innT fs).Nodup := (List.nodup_cons.mp nd).2
    refine gnames_ok (is := is) ok1 (slO_rs r3 fun x hx => r1 x (List.mem_cons_of_mem _ hx)) (by rw [slO_adr]; exact nd2) (fun a m => ?_) (by rw [List.length_map, hfl]; exact hl) fun σ' ok3 w => g.nx _ F1 _ _ ok3 ⟨st.f, st.h, st.n, fun b hb => ?_⟩ ?_
    · rw [slO_adr] at m
      exact no a (List.mem_cons_of_mem _ m)
    · rcases w b hb with y | y
      · exact st.w b y
      · rw [slO_adr] at y
        exact n1 b (List.mem_cons_of_mem _ y)
    · show Ab _ (setM μ1 is (cs.map slF))
      rw [← e1]
      refine set_ab (slO_cs fs) k1 (fun x hx a o z => ?_) is
      obtain ⟨y, _, rfl⟩ := List.mem_map.mp hx
      rcases y with d | ⟨xs | xs⟩ <;> cases z
  | _ => cases e1
end
end Fw

set_option Elab.async false
set_option linter.all false
set_option maxRecDepth 100000
namespace L2
open PySem PySem.Spec PyProof.Rows
/-- dict(zip(ks, ys)), the keys whole numbers -/
def tDictZip (K : PySem.W.Frag) (ta : TA) : TE := fun σ H Q => ta σ H fun vs H1 => ∃ (a b : Addr) (ks : List Int) (ys : List V), vs = [.ref a, .ref b] ∧ SqL K H1 a (ks.map V.int) ∧ SqL K H1 b ys ∧
  ∀ p, H1 p = none → Q (.ref p) (upd H1 p (.dK (mergeK [] ((List.zip ks ys).map fun q => ((.inl q.1 : Key), q.2)))))
end L2
namespace Fw
variable [TbC]
open PySem L2
section
variable {K : PySem.W.Frag} {q : Bool} {ρ : Env} {μ μ1 : MEnv}
end
end Fw

set_option Elab.async false
set_option linter.all false
set_option maxRecDepth 100000
namespace Fw
variable [TbC]
open PySem L2
section
variable {K : PySem.W.Frag} {μ μ1 : MEnv} {α : Type} {e : α → D} {xs zs : List α} {x : α} {i l : Nat} {ts : TA} {ti : TE} {tg : Option Addr} {k : Int} {d2 : D}
end
end Fw

set_option Elab.async false
set_option linter.all false
set_option maxRecDepth 100000
namespace Fw
variable [TbC]
open PySem L2
section
variable {K : PySem.W.Frag} {μ μ1 μ2 : MEnv} {i j : Nat} {te te2 : TE} {c c2 : MO}
end
end Fw

set_option Elab.async false
set_option linter.all false
set_option maxRecDepth 100000
namespace Fw
variable [TbC]
open PySem L2
section
variable {K : PySem.W.Frag} {q : Bool} {μ : MEnv} {i : Nat} {tb : TE} {α : Type} {e : α → D} {tg : Option Addr}
end
end Fw

set_option Elab.async false
set_option linter.all false
set_option maxRecDepth 100000
namespace Fw
variable [TbC]
open PySem L2
section
variable {K : PySem.W.Frag} {μ μ2 : MEnv} {i n : Nat} {tb : TE} {α : Type} [DecidableEq α] {e : α → D} {t0 tg : Option Addr} {c0 : MO} {xs ys : List α}
end
end Fw

set_option Elab.async false
set_option linter.all false
set_option maxRecDepth 100000
set_option maxHeartbeats 4000000
/-! Instances that change: fields put, lists and dicts that hang on them. -/
namespace L2
open PySem PySem.Spec PyProof.Rows
section
variable {X : Cx}
/-- l.remove(x): the first equal one goes -/
def rRemD (K : PySem.W.Frag) : V → List V → Hp → VK → Prop := fun x xs H Q => ∃ (a : Addr) (ws : List V) (y : V) (d : PyData) (ds : List PyData) (j : Nat) (z : PyData), x = V.ref a ∧ xs = [y] ∧ H a = some (.lst ws) ∧ DpAll K H ws ds ∧ Dp K H y d ∧
  SeqAt.shaped (.list ds) = true ∧ SeqAt.shaped d = true ∧ ds[j]? = some z ∧ PyData.eqv z d = true ∧ (∀ (m : Nat) (z' : PyData), m < j → ds[m]? = some z' → PyData.eqv z' d = false) ∧ Q .non (upd H a (.lst (ws.eraseIdx j)))
end
end L2
namespace Fw
variable [TbC]
open PySem L2
section
variable {K : PySem.W.Frag} {q : Bool} {ρ : Env} {σ : St} {F H H' : Hp} {i : Nat} {E : En} {te ti ta : TE} {f : Str}
/-! ### fields -/
def putFl (f : Str) (x : Fl) : List (Str × Fl) → List (Str × Fl)
  | [] => [(f, x)]
  | (k, y) :: r => if k = f then (k, x) :: r else (k, y) :: putFl f x r
theorem FlsAt.putFl {fs : List (Str × Fl)} {ws : List (Str × V)} (h : FlsAt K F H fs ws) {x : Fl} {v : V} (hx : FlAt K F H x v) : FlsAt K F H (putFl f x fs) (putF f v ws) := by
  induction h with
  | nil => exact .cons hx .nil
  | @cons k y u fs ws a t ih =>
    show FlsAt K F H (if k = f then _ else _) (if k = f then _ else _)
    by_cases c : k = f
    · rw [if_pos c, if_pos c]; exact .cons hx t
    · rw [if_neg c, if_neg c]; exact .cons a ih
theorem putFl_inn {x : Fl} : ∀ (fs : List (Str × Fl)) {y : Addr}, y ∈ innF (putFl f x fs) → y ∈ innF fs ∨ y ∈ x.ad
  | [], y, h => by
    have h : y ∈ innF [(f, x)] := h
    right; simpa [innF] using h
  | (k, z) :: r, y, h => by
    have h : y ∈ innF (if k = f then (k, x) :: r else (k, z) :: putFl f x r) := h
    by_cases c : k = f
    · rw [if_pos c] at h
      rcases List.mem_append.mp (show y ∈ x.ad ++ innF r from h) with h | h
      · exact .inr h
      · exact .inl (List.mem_append_right _ h)
    · rw [if_neg c] at h
      rcases List.mem_append.mp (show y ∈ z.ad ++ innF (putFl f x r) from h) with h | h
      · exact .inl (List.mem_append_left _ h)
      · exact (putFl_inn r h).imp (fun h => List.mem_append_right _ h) id
theorem putFl_nd {x : Fl} (hx : x.ad.Nodup) : ∀ (fs : List (Str × Fl)), (innF fs).Nodup → (∀ y ∈ x.ad, y ∉ innF fs) → (innF (putFl f x fs)).Nodup
  | [], _, _ => by
    show (innF [(f, x)]).Nodup
    simpa [innF] using hx
  | (k, z) :: r, nd, d => by
    show (innF (if k = f then (k, x) :: r else (k, z) :: putFl f x r)).Nodup
    obtain ⟨n1, n2, n3⟩ := List.nodup_append.mp (show (z.ad ++ innF r).Nodup from nd)
    have dr : ∀ y ∈ x.ad, y ∉ innF r := fun y hy m => d y hy (List.mem_append_right _ m)
    by_cases c : k = f
    · rw [if_pos c]
      exact List.nodup_append.mpr ⟨hx, n2, fun y hy w hw e => dr y hy (e ▸ hw)⟩
    · rw [if_neg c]
      refine List.nodup_append.mpr ⟨n1, putFl_nd hx r n2 dr, fun y hy w hw e => ?_⟩
      rcases putFl_inn r hw with hw | hw
      · exact n3 y hy w hw e
      · exact d w hw (List.mem_append_left _ (e ▸ hy))
theorem inn_mem {fs : List (Str × Fl)} {p : Addr} {x : Ch} (h : fs.lookup f = some (.c p x)) : (f, Fl.c p x) ∈ fs := by
  induction fs with
  | nil => cases h
  | cons a r ih =>
    obtain ⟨k, y⟩ := a
    rw [List.lookup_cons] at h
    cases c : f == k with
    | true =>
      rw [c] at h
      cases h
      have : f = k := eq_of_beq c
      rw [this]; exact List.mem_cons_self
    | false => rw [c] at h; exact List.mem_cons_of_mem _ (ih h)
/-- a field of a slot's instance is read -/
theorem fld_at {C a dx : Addr} {fs : List (Str × Fl)} {x : Fl} {Q : VK} (ok : Ok K σ F H ρ) (h0 : ρ[i]? = some (some (.o a (.inl C dx fs)))) (hf : fs.lookup f = some x) (hc : Cls K C) (hn : NoAttr K C f) (k : ∀ v, FlAt K F H x v → Q v H) : tFld K (tVar i) f σ H Q := by
  obtain ⟨w, e1, rfl, h4, ws, h5, h6⟩ := ok.at_ i _ h0
  obtain ⟨v, l1, l2, l4⟩ := h6.look hf
  exact ⟨_, e1, a, C, dx, ws, v, rfl, h5, hc, hn, l1, k v l2⟩
theorem ev_fldO {C a dx : Addr} {fs : List (Str × Fl)} {d : D} {Φ : D → Env → Prop} (h0 : ρ[i]? = some (some (.o a (.inl C dx fs)))) (hf : fs.lookup f = some (.v d)) (hc : Cls K C) (hn : NoAttr K C f) (k : Φ d ρ) : ev K q (tFld K (tVar i) f) ρ Φ := fun σ F H Q ok c =>
  fld_at ok h0 hf hc hn fun v r => c d v F H ρ ok r (Step.refl _ _ _) (Qt.refl _ _ _ _) k
theorem evb_fldC {C a dx : Addr} {fs : List (Str × Fl)} {p : Addr} {x : Ch} {Φ : D → Env → Prop} (h0 : ρ[i]? = some (some (.o a (.inl C dx fs)))) (hf : fs.lookup f = some (.c p x)) (hc : Cls K C) (hn : NoAttr K C f) (k : Φ x.d' ρ) : evb K q (tFld K (tVar i) f) ρ Φ := fun σ F H Q ok c =>
  fld_at ok h0 hf hc hn fun v r => by
    obtain rfl : v = .ref p := r.1
    exact c x.d' _ F H ρ ok (.inr (.inr ⟨i, a, .inl C dx fs, f, p, x, h0, inn_mem hf, rfl, rfl⟩)) (Step.refl _ _ _) (Qt.refl _ _ _ _) k
def Ch.o : Ch → O
  | .l xs => .lst xs
  | .d kvs => .dct kvs
theorem Ch.own {p : Addr} {x : Ch} (h : OwnAt K F H p x.o) : ChAt K F H p x := by cases x <;> exact h
/-- self.f = a new thing -/
theorem ex_fldC (h : evo K te ρ fun p c ρ1 => ∃ x : Ch, c = x.o ∧ ∃ a C dx fs, ρ1[i]? = some (some (.o a (.inl C dx fs))) ∧ Cls K C ∧ NoAttr K C f ∧ fs.length < 1000 ∧ (p ∉ owns ρ1 → E.nx (ρ1.set i (some (.o a (.inl C dx (putFl f (.c p x) fs))))))) : ex K (sFld K (tVar i) te f) ρ E := fun σ F H D ok g => by
  refine h σ F H _ ok fun p c F1 H1 ρ1 ok1 r1 s1 nn ndp mm ⟨x, ec, a, C, dx, fs, e2, hc, hn, hl, k⟩ => ?_
  subst ec
  obtain ⟨w, e3, rfl, h4, ws, h5, h6⟩ := ok1.at_ i _ e2
  obtain ⟨_, pF, hp⟩ := r1
  have hp := Ch.own hp
  have pno : p ∉ owns ρ1 := mm p List.mem_cons_self
  have pa : p ≠ a := fun z => pno (z ▸ mem_root e2)
  refine ⟨_, e3, a, C, dx, ws, rfl, h5, hc, hn, by rw [h6.length]; exact hl, ?_⟩
  have nd := owns_nd1 ok1.nd e2
  have an : a ∉ innF fs := (List.nodup_cons.mp nd).1
  have pin : p ∉ innF fs := fun z => pno (mem_in e2 (List.mem_cons_of_mem _ z))
  have hH : ∀ y o, H1 y = some o → y ∉ a :: (O.inl C dx fs).inn → upd H1 a (.ins C dx (putF f (.ref p) ws)) y = some o := fun y o e hy => by rw [upd_ne fun z : y = a => hy (by rw [z]; exact List.mem_cons_self)]; exact e
  have sub : ∀ y ∈ innF (putFl f (.c p x) fs), y ∈ innF fs ∨ y = p := fun y hy => (putFl_inn fs hy).imp id fun z => List.mem_singleton.mp z
  have ok2 := ok1.mutA (c' := .inl C dx (putFl f (.c p x) fs)) (H' := upd H1 a (.ins C dx (putF f (.ref p) ws))) e2
    ⟨_, upd_same, FlsAt.putFl (h6.mono (Same.refl _) fun y hy o e => by rw [upd_ne fun z : y = a => an (z ▸ hy)]; exact e) (x := .c p x) ⟨rfl, hp.mono (Same.refl _) fun o e => by rw [upd_ne pa]; exact e⟩⟩ hH
    (fun y hy => (sub y hy).elim (fun z => .inl (List.mem_cons_of_mem _ z)) fun z => .inr (by rw [z]; exact ⟨pF p List.mem_cons_self, pno⟩))
    (List.nodup_cons.mpr ⟨fun m => (sub a m).elim an fun z => pa z.symm, putFl_nd (by simp [Fl.ad]) fs (List.nodup_cons.mp nd).2 (fun y hy => by rw [List.mem_singleton.mp hy]; exact pin)⟩)
  refine g.nx _ _ _ _ ok2 ⟨s1.f, fun b o e m => (s1.h b o e m).far fun o' e' => hH b o' e' fun z => ?_, s1.n, fun b m => ?_⟩ (k pno)
  · rcases s1.w b (mem_in e2 z) with y | y
    · exact m y
    · rw [y] at e; cases e
  · obtain ⟨j, b', c', e', m'⟩ := mem_owns.mp m
    rcases set_get e' with ⟨_, _, h7⟩ | ⟨z, e9⟩
    · cases h7
      rcases List.mem_cons.mp m' with rfl | m'
      · exact s1.w _ (mem_root e2)
      · rcases sub b m' with hy | hy
        · exact s1.w _ (mem_in e2 (List.mem_cons_of_mem _ hy))
        · rw [hy]; exact nn p List.mem_cons_self
    · exact s1.w _ (mem_in e9 m')
/-- what hangs on a field is changed in place -/
def flC (f : Str) (y : Ch) : List (Str × Fl) → List (Str × Fl)
  | [] => []
  | (k, x) :: r => if k = f then (match x with | .c p _ => (k, .c p y) :: r | .v d => (k, .v d) :: r) else (k, x) :: flC f y r
theorem flC_inn (y : Ch) : ∀ (fs : List (Str × Fl)), innF (flC f y fs) = innF fs
  | [] => rfl
  | (k, x) :: r => by
    show innF (if k = f then _ else _) = _
    by_cases c : k = f
    · rw [if_pos c]
      cases x <;> simp [innF, Fl.ad]
    · rw [if_neg c]
      show x.ad ++ innF (flC f y r) = x.ad ++ innF r
      rw [flC_inn y r]
theorem FlsAt.growC {fs : List (Str × Fl)} {ws : List (Str × V)} (h : FlsAt K F H fs ws) {p : Addr} {x y : Ch} {o : HO} (e : fs.lookup f = some (.c p x)) (nd : (innF fs).Nodup) (r : ChAt K F (upd H p o) p y) :
    FlsAt K F (upd H p o) (flC f y fs) ws := by
  induction h with
  | nil => cases e
  | @cons k z v fs ws a t ih =>
    rw [List.lookup_cons] at e
    obtain ⟨n1, n2, n3⟩ := List.nodup_append.mp (show (z.ad ++ innF fs).Nodup from nd)
    show FlsAt K F _ (if k = f then _ else _) _
    by_cases c : k = f
    · subst c
      rw [beq_self_eq_true] at e
      cases e
      rw [if_pos rfl]
      refine .cons ⟨a.1, r⟩ (t.mono (Same.refl _) fun y hy o' eo => ?_)
      rw [upd_ne fun z : y = p => n3 p List.mem_cons_self p (z ▸ hy) rfl]; exact eo
    · have c' : (f == k) = false := beq_eq_false_iff_ne.mpr fun z => c z.symm
      rw [c'] at e
      rw [if_neg c]
      obtain ⟨v', _, _, hin⟩ := t.look e
      have pin : p ∈ innF fs := hin p List.mem_cons_self
      refine .cons ?_ (ih e n2)
      cases z with
      | v d => exact a
      | c p' x =>
        refine ⟨a.1, a.2.mono (Same.refl _) fun o' eo => ?_⟩
        rw [upd_ne fun z : p' = p => n3 p' List.mem_cons_self p pin z]; exact eo
theorem Ok.mutF (ok : Ok K σ F H ρ) {C a dx : Addr} {fs : List (Str × Fl)} {p : Addr} {x y : Ch} {o : HO} (h0 : ρ[i]? = some (some (.o a (.inl C dx fs)))) (hf : fs.lookup f = some (.c p x)) (hy : ChAt K F (upd H p o) p y) :
    Ok K σ F (upd H p o) (ρ.set i (some (.o a (.inl C dx (flC f y fs))))) ∧ Step ρ F H (ρ.set i (some (.o a (.inl C dx (flC f y fs))))) F (upd H p o) := by
  obtain ⟨w, e1, rfl, h4, ws, h5, h6⟩ := ok.at_ i _ h0
  obtain ⟨v, l1, l2, l4⟩ := h6.look hf
  have nd := owns_nd1 ok.nd h0
  have pin : p ∈ innF fs := l4 p List.mem_cons_self
  have pa : p ≠ a := fun z => (List.nodup_cons.mp nd).1 (z ▸ pin)
  exact ok.mutG (c' := .inl C dx (flC f y fs)) (H' := upd H p o) h0 ⟨ws, by rw [upd_ne (Ne.symm pa)]; exact h5, h6.growC hf (List.nodup_cons.mp nd).2 hy⟩
    (fun y o e hy => by rw [upd_ne fun z : y = p => hy (by rw [z]; exact List.mem_cons_of_mem _ pin)]; exact e)
    (fun z hz => .inl (List.mem_cons_of_mem _ (by
      have : z ∈ innF (flC f y fs) := hz
      rw [flC_inn] at this; exact this)))
    (by show (a :: innF (flC f y fs)).Nodup; rw [flC_inn]; exact nd)
section
variable {C a dx : Addr} {fs : List (Str × Fl)} {p : Addr} {xs : List D}
/-- self.f.append(e), the slots stand -/
theorem ex_fappK (h0 : ρ[i]? = some (some (.o a (.inl C dx fs)))) (hf : fs.lookup f = some (.c p (.l xs))) (hc : Cls K C) (hn : NoAttr K C f)
    (he : ev K false te ρ fun d ρ' => ρ' = ρ ∧ E.nx (ρ.set i (some (.o a (.inl C dx (flC f (.l (xs ++ [d])) fs)))))) (hl : xs.length < sizeLine) :
    ex K (tDrop (tBM K "list" rAppend (tFld K (tVar i) f) (tCons te tNil))) ρ E := fun σ F H D ok g => by
    obtain ⟨w, e1, rfl, h4, ws, h5, h6⟩ := ok.at_ i _ h0
    obtain ⟨v, l1, ⟨rfl, vs, l2, l3⟩, l4⟩ := h6.look hf
    refine ⟨_, e1, a, C, dx, ws, .ref p, rfl, h5, hc, hn, l1, .inl ⟨rfl, vs, SqL.of l2⟩, ?_⟩
    refine he σ F H _ ok fun d y F1 H1 ρ1 ok1 r1 s1 _ ⟨eρ, k⟩ => ?_
    subst eρ
    obtain ⟨vs', l2', l3'⟩ := ok1.chat (c := .inl C dx fs) h0 (inn_mem hf)
    obtain ⟨ok2, s2⟩ := ok1.mutF (y := .l (xs ++ [d])) (o := .lst (vs' ++ [y])) h0 hf ⟨_, upd_same, l3'.append (.cons r1 .nil)⟩
    exact ⟨p, vs', y, rfl, rfl, l2', by rw [← l3'.length]; exact hl, g.nx _ _ _ _ ok2 (s1.trans s2) k⟩
/-! ### a method of a slot's instance -/
theorem ev_methO {t : TA} {CT : Ct} {m : Str} {X : XK} {dvs : List V} {dds : List D} {Φ : D → Env → Prop} (dd : DfL K dvs dds) (h0 : ρ[i]? = some (some (.o a (.inl C dx fs)))) (hm : fs.lookup m = none)
    (h : eva K t ρ fun as ρ2 => (∀ a2 c2, ρ2[i]? = some (some (.o a2 c2)) → a2 = a) → ∃ c2, ρ2[i]? = some (some (.o a c2)) ∧ ((Ar.s i a c2 :: as).filterMap Ar.ix).Nodup ∧ CT ((Ar.s i a c2 :: (as ++ dds.map Ar.v)).map Ar.sl) fun s ss' => Φ s.d (bk (.s i a c2 :: (as ++ dds.map .v)) ss' ρ2)) :
    ev K false (tMeth C m (spOf K CT) dvs X (tVar i) t) ρ Φ := fun σ F H Q ok k => by
  obtain ⟨w, e1, rfl, h4, ws, h5, h6⟩ := ok.at_ i _ h0
  have hw : ws.lookup m = none := by
    clear h5 e1 h h0 h4
    induction h6 with
    | nil => rfl
    | @cons k' x v fs ws a' t' ih =>
      rw [List.lookup_cons] at hm ⊢
      cases z : m == k' with
      | true => rw [z] at hm; cases hm
      | false => rw [z] at hm; exact ih hm
  refine ⟨_, e1, a, dx, ws, rfl, h5, hw, ?_⟩
  refine h σ F H _ ok fun as vs F1 H1 ρ1 ok1 ar st h' => ?_
  obtain ⟨c2, g2, nd, hc⟩ := h' fun a2 c2 h9 => by
    obtain ⟨v2, e2, e3, _⟩ := ok1.at_ i _ h9
    rw [e1] at e2; cases e2; cases e3; rfl
  have nd2 : ((Ar.s i a c2 :: (as ++ dds.map Ar.v)).filterMap Ar.ix).Nodup := by
    have e : (Ar.s i a c2 :: (as ++ dds.map Ar.v)).filterMap Ar.ix = (Ar.s i a c2 :: as).filterMap Ar.ix := by
      show i :: (as ++ dds.map Ar.v).filterMap Ar.ix = i :: as.filterMap Ar.ix
      rw [List.filterMap_append, ix_v, List.append_nil]
    rw [e]; exact nd
  refine call_core (as := .s i a c2 :: (as ++ dds.map Ar.v)) ok1 (.s g2 (ar.app (dd.rep F1))) nd2 hc fun s v F2 H2 ss' ok2 r n st2 f => ?_
  cases s with
  | v d => exact k d v F2 H2 _ ok2 r (st.trans st2) (fun z => nomatch z) f
  | o a' c' =>
    obtain ⟨n1, _⟩ := n a' c' rfl
    obtain ⟨F3, ok3, r3, s3, n3⟩ := freeze ok2 r fun x hx => (n1 x hx).2
    refine k c'.d v F3 H2 _ ok3 r3 (st.trans ⟨st2.f.trans s3, st2.h, fun b o e => ?_, st2.w⟩) (fun z => nomatch z) f
    rcases n3 b o e with z | z
    · exact st2.n b o z
    · exact .inr (n1 b z).1.symm
theorem evo_methO {t : TA} {CT : Ct} {m : Str} {X : XK} {dvs : List V} {dds : List D} {Φ : Addr → O → Env → Prop} (dd : DfL K dvs dds) (h0 : ρ[i]? = some (some (.o a (.inl C dx fs)))) (hm : fs.lookup m = none)
    (h : eva K t ρ fun as ρ2 => (∀ a2 c2, ρ2[i]? = some (some (.o a2 c2)) → a2 = a) → ∃ c2, ρ2[i]? = some (some (.o a c2)) ∧ ((Ar.s i a c2 :: as).filterMap Ar.ix).Nodup ∧ CT ((Ar.s i a c2 :: (as ++ dds.map Ar.v)).map Ar.sl) fun s ss' => ∃ a' c', s = .o a' c' ∧ (a' ∉ owns (bk (.s i a c2 :: (as ++ dds.map .v)) ss' ρ2) → Φ a' c' (bk (.s i a c2 :: (as ++ dds.map .v)) ss' ρ2))) :
    evo K (tMeth C m (spOf K CT) dvs X (tVar i) t) ρ Φ := fun σ F H Q ok k => by
  obtain ⟨w, e1, rfl, h4, ws, h5, h6⟩ := ok.at_ i _ h0
  have hw : ws.lookup m = none := by
    clear h5 e1 h h0 h4
    induction h6 with
    | nil => rfl
    | @cons k' x v fs ws a' t' ih =>
      rw [List.lookup_cons] at hm ⊢
      cases z : m == k' with
      | true => rw [z] at hm; cases hm
      | false => rw [z] at hm; exact ih hm
  refine ⟨_, e1, a, dx, ws, rfl, h5, hw, ?_⟩
  refine h σ F H _ ok fun as vs F1 H1 ρ1 ok1 ar st h' => ?_
  obtain ⟨c2, g2, nd, hc⟩ := h' fun a2 c2 h9 => by
    obtain ⟨v2, e2, e3, _⟩ := ok1.at_ i _ h9
    rw [e1] at e2; cases e2; cases e3; rfl
  have nd2 : ((Ar.s i a c2 :: (as ++ dds.map Ar.v)).filterMap Ar.ix).Nodup := by
    have e : (Ar.s i a c2 :: (as ++ dds.map Ar.v)).filterMap Ar.ix = (Ar.s i a c2 :: as).filterMap Ar.ix := by
      show i :: (as ++ dds.map Ar.v).filterMap Ar.ix = i :: as.filterMap Ar.ix
      rw [List.filterMap_append, ix_v, List.append_nil]
    rw [e]; exact nd
  refine call_core (as := .s i a c2 :: (as ++ dds.map Ar.v)) ok1 (.s g2 (ar.app (dd.rep F1))) nd2 hc fun s v F2 H2 ss' ok2 r n st2 ⟨a2, c, e, f⟩ => ?_
  subst e
  obtain ⟨rfl, r1, r2⟩ := id r
  obtain ⟨n1, n2⟩ := n a2 c rfl
  exact k a2 c F2 H2 _ ok2 r (st.trans st2) (fun x hx => st.new (n1 x hx).1) n2 (fun x hx => (n1 x hx).2) (f (n1 a2 List.mem_cons_self).2)
/-! ### what is walked: the list of a field, the turns quiet -/
def SF (i : Nat) (x : Option Sl) : Env → Prop := fun ρ' => ρ'[i]? = some x
end
end
end Fw

set_option Elab.async false
set_option linter.all false
set_option maxRecDepth 100000
/-! Instances that change, as plain records. -/
namespace Fw
def rmvG {α : Type} [DecidableEq α] (xs : List α) (x : α) : R (List α) := if x ∈ xs then .ok (xs.erase x) else .bad
structure SweepM where
  log : LogM
  spare : Int
  named : Int
  takers : List (Int × Int)
  free : List Int
  left : List (Int × Int)
  waiting : List (Int × Int)
  lost : Int
structure FollowerM where
  some : List (Int × Int)
  spare : List Int
  holders : List Int
  can_be_free : Bool
structure StateM where
  issues : List (Int × Int)
  takers : List Int
  held : List (Int × Int)
  lost_count : Int
end Fw

set_option Elab.async false
set_option linter.all false
set_option maxRecDepth 100000
set_option maxHeartbeats 4000000
namespace Fw
variable [TbC]
open PySem L2
section
variable {K : PySem.W.Frag} {q : Bool} {ρ : Env} {i j : Nat} {te ti ta tb : TE} {ts : TA} {tt : TT} {C : Addr} {f m : Str} {μ μ1 μ2 : MEnv} {d : D} {tg t0 : Option Addr} {fs fs' : List (Str × MFl)} {α β : Type} {e : α → D} {e2 : β → D} {xs zs : List α} {kvs kvs' : List (Int × α)} {x : α} {k : Int}
def mputF (f : Str) (x : MFl) : List (Str × MFl) → List (Str × MFl)
  | [] => [(f, x)]
  | (k, y) :: r => if k = f then (k, x) :: r else (k, y) :: mputF f x r
theorem mputF_map (x : Fl) : ∀ gs : List (Str × Fl), (putFl f x gs).map (fun f => (f.1, f.2.m)) = mputF f x.m (gs.map fun f => (f.1, f.2.m))
  | [] => rfl
  | (k, y) :: r => by
    show List.map _ (if k = f then _ else _) = (if k = f then _ else _)
    by_cases c : k = f
    · rw [if_pos c, if_pos c]; rfl
    · rw [if_neg c, if_neg c, List.map_cons, mputF_map x r]
def mflC (f : Str) (y : Ch) : List (Str × MFl) → List (Str × MFl)
  | [] => []
  | (k, x) :: r => if k = f then (match x with | .c _ => (k, .c y) :: r | .v d => (k, .v d) :: r) else (k, x) :: mflC f y r
theorem mflC_map (y : Ch) : ∀ gs : List (Str × Fl), (flC f y gs).map (fun f => (f.1, f.2.m)) = mflC f y (gs.map fun f => (f.1, f.2.m))
  | [] => rfl
  | (k, x) :: r => by
    show List.map _ (if k = f then _ else _) = (if k = f then _ else _)
    by_cases c : k = f
    · rw [if_pos c, if_pos c]
      cases x <;> rfl
    · rw [if_neg c, if_neg c, List.map_cons, mflC_map y r]
theorem lookM {gs : List (Str × Fl)} (e : gs.map (fun f => (f.1, f.2.m)) = fs) {y : MFl} (h : fs.lookup f = some y) : ∃ x, gs.lookup f = some x ∧ x.m = y := by
  subst e
  induction gs with
  | nil => cases h
  | cons a r ih =>
    obtain ⟨k, x⟩ := a
    rw [List.map_cons, List.lookup_cons] at h
    rw [List.lookup_cons]
    cases c : f == k with
    | true => rw [c] at h; cases h; exact ⟨x, rfl, rfl⟩
    | false => rw [c] at h; exact ih h
theorem lookV {gs : List (Str × Fl)} (e : gs.map (fun f => (f.1, f.2.m)) = fs) (h : fs.lookup f = some (.v d)) : gs.lookup f = some (.v d) := by
  obtain ⟨x, h1, h2⟩ := lookM e h
  cases x with
  | v d => cases h2; exact h1
  | c p x => cases h2
theorem lookC {gs : List (Str × Fl)} (e : gs.map (fun f => (f.1, f.2.m)) = fs) {y : Ch} (h : fs.lookup f = some (.c y)) : ∃ p, gs.lookup f = some (.c p y) := by
  obtain ⟨x, h1, h2⟩ := lookM e h
  cases x with
  | v d => cases h2
  | c p x => cases h2; exact ⟨p, h1⟩
theorem lookN {gs : List (Str × Fl)} (e : gs.map (fun f => (f.1, f.2.m)) = fs) (h : fs.lookup m = none) : gs.lookup m = none := by
  subst e
  induction gs with
  | nil => rfl
  | cons a r ih =>
    obtain ⟨k, x⟩ := a
    rw [List.map_cons, List.lookup_cons] at h
    rw [List.lookup_cons]
    cases c : m == k with
    | true => rw [c] at h; cases h
    | false => rw [c] at h; exact ih h
/-! ### fields read -/
theorem e_fldO (h1 : μ[i]? = some (some (.o tg (.inl C fs)))) (hf : fs.lookup f = some (.v d)) (hc : Cls K C) (hn : NoAttr K C f) : EV K q (tFld K (tVar i) f) μ d μ := fun ρ ab => by
  obtain ⟨a, dx, gs, h2, h3, h4⟩ := inl_of ab h1
  exact ev_fldO h2 (lookV h3 hf) hc hn ⟨rfl, ab⟩
theorem b_fldC {y : Ch} (h1 : μ[i]? = some (some (.o tg (.inl C fs)))) (hf : fs.lookup f = some (.c y)) (hc : Cls K C) (hn : NoAttr K C f) : EB K q (tFld K (tVar i) f) μ y.d' μ := fun ρ ab => by
  obtain ⟨a, dx, gs, h2, h3, h4⟩ := inl_of ab h1
  obtain ⟨p, h5⟩ := lookC h3 hf
  exact evb_fldC h2 h5 hc hn ⟨rfl, ab⟩
theorem b_fldL (h1 : μ[i]? = some (some (.o tg (.inl C fs)))) (hf : fs.lookup f = some (.c (.l (xs.map e)))) (hc : Cls K C) (hn : NoAttr K C f) : EB K q (tFld K (tVar i) f) μ (eL e xs) μ := b_fldC h1 hf hc hn
/-! ### fields put -/
theorem x_fldCL (h : EO K te μ (oL e xs) μ1) (h1 : μ1[i]? = some (some (.o tg (.inl C fs)))) (hc : Cls K C) (hn : NoAttr K C f) (hm : mputF f (.c (.l (xs.map e))) fs = fs') (hl : Nat.blt fs.length 1000 = true := by rfl) :
    XS K (sFld K (tVar i) te f) μ (.nx (μ1.set i (some (.o tg (.inl C fs'))))) := fun ρ ab =>
  ex_fldC ((h ρ ab).imp fun p c' ρ1 ⟨e1, k1⟩ => by
    obtain ⟨a, dx, gs, h2, h3, h4⟩ := inl_of k1 h1
    have hlen : gs.length = fs.length := by rw [← h3, List.length_map]
    cases c' with
    | lst ys =>
      have : MO.lst ys = MO.lst (xs.map e) := e1
      cases this
      exact ⟨.l (xs.map e), rfl, a, C, dx, gs, h2, hc, hn, by rw [hlen]; exact Nat.le_of_ble_eq_true hl, fun _ => k1.mutI h4 i (by rw [mputF_map, h3, ← hm]; rfl)⟩
    | dct zs => cases e1
    | ldct _ _ z => cases e1
    | ins _ _ z => cases e1
    | dcl _ => cases e1
    | tpl _ => cases e1
    | lcl _ => cases e1
    | rcd _ => cases e1
    | inl _ _ _ => cases e1)
/-! ### values, the slots standing as they are -/
def KV (K : PySem.W.Frag) (te : TE) (μ : MEnv) (d : D) : Prop := ∀ ρ, Ab ρ μ → ev K false te ρ fun d' ρ' => d' = d ∧ ρ' = ρ
def KD (K : PySem.W.Frag) (ts : TA) (μ : MEnv) (ds : List D) : Prop := ∀ ρ, Ab ρ μ → evd K false ts ρ fun ds' ρ' => ds' = ds ∧ ρ' = ρ
theorem k_q (h : EV K true te μ d μ1) : KV K te μ d := fun ρ ab => ev_quiet ((ev_q (h ρ ab)).imp fun d' ρ' ⟨⟨e1, _⟩, e2⟩ => ⟨e1, e2⟩)
theorem k_as {d' : D} (h : KV K te μ d) (e : d = d') : KV K te μ d' := e ▸ h
theorem kd_nil : KD K tNil μ [] := fun ρ ab => evd_nil ⟨rfl, rfl⟩
theorem kd_cons {ds : List D} (h : KV K te μ d) (t : KD K ts μ ds) : KD K (tCons te ts) μ (d :: ds) := fun ρ ab =>
  evd_cons ((h ρ ab).imp fun d' ρ1 ⟨e1, e2⟩ => by subst e1 e2; exact ED.imp (t ρ1 ab) fun ds' ρ2 ⟨e3, e4⟩ => ⟨by rw [e3], e4⟩)
theorem k_tup {ds : List D} (h : KD K ts μ ds) (hl : ds.length ≤ sizeLine := by decide) : KV K (tTup ts) μ (.tup ds) := fun ρ ab =>
  ev_tup (ED.imp (h ρ ab) fun ds' ρ1 ⟨e1, e2⟩ => ⟨by rw [e1]; exact hl, by rw [e1], e2⟩)
/-! ### lists and dicts of fields, changed -/
theorem x_fappK (h1 : μ[i]? = some (some (.o tg (.inl C fs)))) (hf : fs.lookup f = some (.c (.l (xs.map e)))) (he : KV K te μ (e x)) (hc : Cls K C) (hn : NoAttr K C f) (ha : appR xs x = .ok zs) (hm : mflC f (.l (zs.map e)) fs = fs') :
    XS K (tDrop (tBM K "list" rAppend (tFld K (tVar i) f) (tCons te tNil))) μ (.nx (μ.set i (some (.o tg (.inl C fs'))))) := fun ρ ab => by
  unfold appR at ha
  split at ha
  · rename_i hl; cases ha
    obtain ⟨a, dx, gs, h2, h3, h4⟩ := inl_of ab h1
    obtain ⟨p, h5⟩ := lookC h3 hf
    refine ex_fappK h2 h5 hc hn ((he ρ ab).imp fun d ρ1 ⟨e1, e2⟩ => ⟨e2, ?_⟩) (by rw [List.length_map]; exact hl)
    show Ab _ _
    refine ab.mutI h4 i ?_
    rw [mflC_map, h3, ← hm, List.map_append, e1]; rfl
  · cases ha
/-! ### methods of a slot's instance -/
variable {CF : FC} {CE : FX} {E : XK} {as : List MAr} {cs' : List MSl} {r c' : MSl} {c : MO}
theorem e_methO {dvs : List V} {ds : List D} (dd : DfL K dvs ds) (h1 : μ[i]? = some (some (.o t0 (.inl C fs)))) (hm : fs.lookup m = none) (h : EA K ts μ as μ1) (h2 : μ1[i]? = some (some (.o tg c))) (hC : CF (.o none c :: (as.map MAr.sl ++ ds.map .v)) r (c' :: (cs' ++ ds.map .v)))
    (hl : as.length = cs'.length := by rfl) (nd : ndb ((MAr.s i c :: as).filterMap MAr.ix) = true := by rfl) : EV K false (tMeth C m (spOf K (ctOf CF CE)) dvs E (tVar i) ts) μ r.d (bkM (.s i c :: as) (c' :: cs') μ1) := fun ρ ab => by
  obtain ⟨a, dx, gs, g2, g3, g4⟩ := inl_of ab h1
  refine ev_methO dd g2 (lookN g3 hm) ((h ρ ab).imp fun as' ρ2 ⟨e1, hp, k1⟩ hk => ?_)
  obtain ⟨a2, c2, h5, h6, _⟩ := k1.geto h2
  obtain rfl : a2 = a := hk a2 c2 h5
  have e2 : (Ar.s i a2 c2 :: as').map Ar.m = MAr.s i c :: as := by rw [List.map_cons, e1, ← h6]; rfl
  refine ⟨c2, h5, by rw [ix_of, e2]; exact ndb_ok nd, ?_⟩
  exact call_ct (C := CF) (as := Ar.s i a2 c2 :: as') (am := MAr.s i c :: as) (cs' := c' :: cs') (ds := ds) (r := r) e2 (fun j i' a c z => by
    cases j with
    | zero => simp at z; obtain ⟨rfl, rfl, rfl⟩ := z; exact h5
    | succ j => exact hp j i' a c (by simpa using z)) k1 hC (congrArg Nat.succ hl) nd (Φ := fun s ρ' => s.d = r.d ∧ Ab ρ' (bkM (.s i c :: as) (c' :: cs') μ1)) fun s ρ' h1 h2 => ⟨Sl.is_d h1, h2⟩
theorem o_methO {dvs : List V} {ds : List D} {tr : Option Addr} {co : MO} (dd : DfL K dvs ds) (h1 : μ[i]? = some (some (.o t0 (.inl C fs)))) (hm : fs.lookup m = none) (h : EA K ts μ as μ1) (h2 : μ1[i]? = some (some (.o tg c))) (hC : CF (.o none c :: (as.map MAr.sl ++ ds.map .v)) (.o tr co) (c' :: (cs' ++ ds.map .v)))
    (hl : as.length = cs'.length := by rfl) (nd : ndb ((MAr.s i c :: as).filterMap MAr.ix) = true := by rfl) : EO K (tMeth C m (spOf K (ctOf CF CE)) dvs E (tVar i) ts) μ co (bkM (.s i c :: as) (c' :: cs') μ1) := fun ρ ab => by
  obtain ⟨a, dx, gs, g2, g3, g4⟩ := inl_of ab h1
  refine evo_methO dd g2 (lookN g3 hm) ((h ρ ab).imp fun as' ρ2 ⟨e1, hp, k1⟩ hk => ?_)
  obtain ⟨a2, c2, h5, h6, _⟩ := k1.geto h2
  obtain rfl : a2 = a := hk a2 c2 h5
  have e2 : (Ar.s i a2 c2 :: as').map Ar.m = MAr.s i c :: as := by rw [List.map_cons, e1, ← h6]; rfl
  refine ⟨c2, h5, by rw [ix_of, e2]; exact ndb_ok nd, ?_⟩
  exact call_ct (C := CF) (as := Ar.s i a2 c2 :: as') (am := MAr.s i c :: as) (cs' := c' :: cs') (ds := ds) (r := .o tr co) e2 (fun j i' a c z => by
    cases j with
    | zero => simp at z; obtain ⟨rfl, rfl, rfl⟩ := z; exact h5
    | succ j => exact hp j i' a c (by simpa using z)) k1 hC (congrArg Nat.succ hl) nd (Φ := fun s ρ' => ∃ a c', s = .o a c' ∧ (a ∉ owns ρ' → c'.m = co ∧ Ab ρ' (bkM (.s i c :: as) (_ :: cs') μ1))) fun s ρ' hi h2 => by obtain ⟨a, c3, h1, h3⟩ := hi; exact ⟨a, c3, h1, fun _ => ⟨h3, h2⟩⟩
/-! ### [x for x in self.f if ..], all quiet -/
/-! ### d.get(k) -/
theorem ev_dget1 {td ty : TE} {Φ : D → Env → Prop} (h : evb K q td ρ fun d ρ1 => ∃ kvs, d = .dct kvs ∧ ev K true ty ρ1 fun kd ρ2 => ∃ k, kd = keyD k ∧ Φ ((lookD kvs k).getD .non) ρ1) : ev K q (tDGet1 td ty) ρ Φ := fun σ F H Q ok c => by
  refine h σ F H _ ok fun d v F1 H1 ρ1 ok1 b1 s1 q1 ⟨kvs, ed, k1⟩ => ?_
  subst ed
  obtain ⟨a, ws, rfl, h3, h4⟩ := brep_dct ok1 b1
  refine ⟨a, rfl, (by rcases h3 with h3 | ⟨o, h3⟩ <;> first | exact .inl ⟨ws, h3⟩ | exact .inr ⟨_, h3⟩ | exact .inl ⟨ws, .inl h3⟩ | exact .inl ⟨ws, .inr ⟨o, h3⟩⟩), ?_⟩
  refine k1 σ F1 H1 _ ok1 fun kd w F2 H2 ρ2 ok2 r2 s2 q2 ⟨k, ek, kk⟩ => ?_
  obtain ⟨rfl, rfl, rfl⟩ := q2 rfl
  subst ek
  rw [keyD_rep r2]
  refine ⟨_, dget_rd h3, ?_⟩
  rcases h4.val k with ⟨x1, y1⟩ | ⟨d, u, x1, y1, r⟩
  · rw [x1]
    rw [y1] at kk
    exact c _ _ _ _ _ ok1 .non s1 q1 kk
  · rw [y1]
    rw [x1] at kk
    exact c _ _ _ _ _ ok1 r s1 q1 kk
theorem e_dget1 (ha : EB K q ta μ d μ1) (hd : d = .dct (kvs.map (kvD e))) (hb : EV K true tb μ1 (.int k) μ1) : EV K q (tDGet1 ta tb) μ (eO e (lookZ kvs k)) μ1 := fun ρ ab =>
  ev_dget1 ((ha ρ ab).imp fun d' ρ1 ⟨e1, k1⟩ => ⟨_, e1.trans hd, (hb ρ1 k1).imp fun e' ρ2 ⟨e2, k2⟩ => ⟨.inl k, e2, by rw [lookD_lookZ]; cases lookZ kvs k <;> rfl, k1⟩⟩)
end
end Fw
namespace Fw
variable [TbC]
open PySem L2
/-- an own class, made, its __init__ without keywords -/
structure CalN0 (P : Program) (w : World) (K : PySem.W.Frag) (mg : Str → Option Value) (base : Heap) (k : Nat) (x : Str) (ps : List Str) (sp : Sp) : Prop where
  ok : ∃ fd, FnG P w K mg base (L2.CX P w) k (He.ma K (He.ga K x) "__init__") fd ps sp ∧ Binds K fd ps []
  mkr : L2.Mk K (He.ga K x) (He.ma K (He.ga K x) "__init__")
  g : mg x = some (.ref (He.ga K x))
section
variable {X : Cx} {k n : Nat} {ps ks : List Str} {sp : Sp} {x m : Str} {p pos apos : Pos} {e o : Expr} {es : List Expr} {t tk : TA} {ta : TE} {K : PySem.W.Frag}
theorem pe_makeC0 (c : CalN0 X.prog X.w X.K X.mg X.base k x ps sp) (hr : Rg (k + 1) X.A) (hg : Gl X x) (ha : PA X (e :: es) t) (hdb : (x == ("__debug__" : Str)) = false := by decide)
    (he : starEach (e :: es) X.env = (false, eval e X.env) :: starEach es X.env := by rfl) (hpl : (backTo pos (starEach es X.env)).any (·.1) = false := by rfl) :
    PE X (.Call (.Name x p) (e :: es) [] pos) (tMake (He.ga X.K x) sp [] E0 t) := by
  obtain ⟨fd, F, b⟩ := c.ok
  exact pg_make c.mkr F hr hg c.g b .nil passL ha hdb he hpl
end
end Fw

set_option Elab.async false
set_option linter.all false
set_option maxRecDepth 100000
namespace Fw
variable [TbC]
open PySem L2
section
variable (A B : Addr)
def iSweep' (lg : Addr) (v : SweepM) : MO := .inl A [("log", .v (eLog lg v.log)), ("spare", .v (.int v.spare)), ("named", .v (.int v.named)), ("takers", .c (.d (v.takers.map (kvD D.int)))), ("free", .c (.l (v.free.map D.int))), ("left", .c (.l (v.left.map (eT2 D.int D.int)))), ("waiting", .c (.l (v.waiting.map (eT2 D.int D.int)))), ("lost", .v (.int v.lost))]
def eSweep' (lg : Addr) (v : SweepM) : D := .ins A [("log", eLog lg v.log), ("spare", .int v.spare), ("named", .int v.named), ("takers", eDc D.int v.takers), ("free", eL D.int v.free), ("left", eL (eT2 D.int D.int) v.left), ("waiting", eL (eT2 D.int D.int) v.waiting), ("lost", .int v.lost)]
def iFollower (v : FollowerM) : MO := .inl A [("some", .v (eL (eT2 D.int D.int) v.some)), ("spare", .v (eL D.int v.spare)), ("holders", .v (eL D.int v.holders)), ("can_be_free", .v (.bl v.can_be_free))]
def eFollower (v : FollowerM) : D := .ins A [("some", eL (eT2 D.int D.int) v.some), ("spare", eL D.int v.spare), ("holders", eL D.int v.holders), ("can_be_free", .bl v.can_be_free)]
def iState (v : StateM) : MO := .inl A [("issues", .v (eL (eT2 D.int D.int) v.issues)), ("takers", .v (eL D.int v.takers)), ("held", .v (eDc D.int v.held)), ("lost_count", .v (.int v.lost_count))]
def eState (v : StateM) : D := .ins A [("issues", eL (eT2 D.int D.int) v.issues), ("takers", eL D.int v.takers), ("held", eDc D.int v.held), ("lost_count", .int v.lost_count)]
end
abbrev iSweep (K : PySem.W.Frag) (v : SweepM) : MO := iSweep' (He.ga K "Sweep") (He.ga K "Log") v
abbrev eSweep (K : PySem.W.Frag) (v : SweepM) : D := eSweep' (He.ga K "Sweep") (He.ga K "Log") v
end Fw

set_option Elab.async false
set_option linter.all false
set_option maxRecDepth 100000
/-! A dict display {k: v, ..} of quiet keys and values. -/
namespace Fw
variable [TbC]
open PySem L2
section
variable {K : PySem.W.Frag} {q : Bool} {ρ : Env} {μ μ1 μ2 : MEnv} {tk tv : TE} {trs : List (TE × TE)}
/-- the pairs of a display, the slots standing as they are -/
def DQ (K : PySem.W.Frag) (trs : List (TE × TE)) (μ : MEnv) (kvs : List (Key × D)) : Prop :=
  ∀ ρ, Ab ρ μ → ∀ (σ : St) (F H : Hp) (Q : List (V × V) → Hp → Prop), Ok K σ F H ρ → (∀ ws, RepK K F kvs ws → Q (ws.map fun kv => (kV kv.1, kv.2)) H) → tPairs trs σ H Q
end
end Fw

set_option Elab.async false
set_option linter.all false
namespace Fw
/-- a, b = a list -/
def unl2 {α : Type} : List α → R (α × α)
  | [a, b] => .ok (a, b)
  | _ => .bad
def unl3 {α : Type} : List α → R (α × α × α)
  | [a, b, c] => .ok (a, b, c)
  | _ => .bad
/-- xs.index(y) -/
def idxG {α : Type} [DecidableEq α] (xs : List α) (y : α) : R Int := ofO ((xs.findIdx? fun x => decide (x = y)).map fun (k : Nat) => (k : Int))
/-- the text that repr gives of a digit -/
def Av.digit : Av → Option String
  | .int i => if i = 0 then some "0" else if i = 1 then some "1" else if i = 2 then some "2" else if i = 3 then some "3" else if i = 4 then some "4" else if i = 5 then some "5" else if i = 6 then some "6" else if i = 7 then some "7" else if i = 8 then some "8" else if i = 9 then some "9" else none
  | _ => none
def Av.digIs (a : Av) (s : String) : Bool := match a.digit with
  | some t => t == s
  | none => false
/-! values of any type, compared -/
mutual
def Av.eqv : Av → Av → Bool
  | .non, y => y.isNone
  | .bl a, y => match y with
    | .bl b => a == b
    | .int j => (if a then 1 else 0) == j
    | _ => false
  | .int i, y => match y with
    | .bl b => i == (if b then 1 else 0)
    | .int j => i == j
    | _ => false
  | .str x, y => match y with
    | .str z => x == z
    | .txt a => Av.digIs a x
    | _ => false
  | .lst xs, y => match y with
    | .lst ys => Av.eqvs xs ys
    | _ => false
  | .tup xs, y => match y with
    | .tup ys => Av.eqvs xs ys
    | _ => false
  | .dct, y => match y with
    | .dct => true
    | _ => false
  | .txt x, y => match y with
    | .txt _ => true
    | .str z => Av.digIs x z
    | _ => false
def Av.eqvs : List Av → List Av → Bool
  | [], ys => ys.isEmpty
  | x :: xs, ys => match ys with
    | y :: ys => Av.eqv x y && Av.eqvs xs ys
    | [] => false
end
mutual
/-- the same value -/
def Av.same : Av → Av → Bool
  | .non, y => y.isNone
  | .bl a, y => match y with
    | .bl b => a == b
    | _ => false
  | .int i, y => match y with
    | .int j => i == j
    | _ => false
  | .str x, y => match y with
    | .str z => x == z
    | _ => false
  | .lst xs, y => match y with
    | .lst ys => Av.sames xs ys
    | _ => false
  | .tup xs, y => match y with
    | .tup ys => Av.sames xs ys
    | _ => false
  | .dct, y => match y with
    | .dct => true
    | _ => false
  | .txt x, y => match y with
    | .txt z => Av.same x z
    | _ => false
def Av.sames : List Av → List Av → Bool
  | [], ys => ys.isEmpty
  | x :: xs, ys => match ys with
    | y :: ys => Av.same x y && Av.sames xs ys
    | [] => false
end
mutual
theorem Av.same_self : ∀ a : Av, Av.same a a = true
  | .non => rfl
  | .bl b => by simp [Av.same]
  | .int b => by simp [Av.same]
  | .str b => by simp [Av.same]
  | .lst xs => by simpa [Av.same] using Av.sames_self xs
  | .tup xs => by simpa [Av.same] using Av.sames_self xs
  | .dct => by simp [Av.same]
  | .txt x => by simpa [Av.same] using Av.same_self x
theorem Av.sames_self : ∀ xs : List Av, Av.sames xs xs = true
  | [] => by simp [Av.sames]
  | x :: xs => by simp [Av.sames, Av.same_self x, Av.sames_self xs]
end
mutual
theorem Av.same_eq : ∀ {a b : Av}, Av.same a b = true → a = b
  | .non, y, h => by cases y <;> simp [Av.same, Av.isNone] at h; rfl
  | .bl _, y, h => by cases y <;> simp [Av.same] at h; subst h; rfl
  | .int _, y, h => by cases y <;> simp [Av.same] at h; subst h; rfl
  | .str _, y, h => by cases y <;> simp [Av.same] at h; subst h; rfl
  | .lst xs, y, h => by cases y <;> simp [Av.same] at h; rw [Av.sames_eq h]
  | .tup xs, y, h => by cases y <;> simp [Av.same] at h; rw [Av.sames_eq h]
  | .dct, y, h => by cases y <;> simp [Av.same] at h; rfl
  | .txt x, y, h => by cases y <;> simp [Av.same] at h; rw [Av.same_eq h]
theorem Av.sames_eq : ∀ {xs ys : List Av}, Av.sames xs ys = true → xs = ys
  | [], ys, h => by cases ys <;> simp [Av.sames] at h; rfl
  | x :: xs, ys, h => by
    cases ys with
    | nil => simp [Av.sames] at h
    | cons y ys =>
      simp only [Av.sames, Bool.and_eq_true] at h
      rw [Av.same_eq h.1, Av.sames_eq h.2]
end
mutual
/-- two values whose comparison is told: the texts of repr are the same, or met by no text -/
def Av.cmpb : Av → Av → Bool
  | .txt x, y => match y with
    | .txt z => Av.same x z
    | .str _ => x.digit.isSome
    | _ => true
  | .str _, y => match y with
    | .txt x => x.digit.isSome
    | _ => true
  | .lst xs, y => match y with
    | .lst ys => Av.cmpbs xs ys
    | _ => true
  | .tup xs, y => match y with
    | .tup ys => Av.cmpbs xs ys
    | _ => true
  | .dct, y => match y with
    | .dct => false
    | _ => true
  | .non, _ => true
  | .bl _, _ => true
  | .int _, _ => true
def Av.cmpbs : List Av → List Av → Bool
  | x :: xs, ys => match ys with
    | y :: ys => Av.cmpb x y && Av.cmpbs xs ys
    | [] => true
  | [], _ => true
end
/-- no dict in it, and not too deep -/
def Av.okd : Nat → Av → Bool
  | _, .non => true
  | _, .bl _ => true
  | _, .int _ => true
  | _, .str _ => true
  | n + 1, .lst xs => xs.all (Av.okd n)
  | n + 1, .tup xs => xs.all (Av.okd n)
  | _, _ => false
end Fw

set_option Elab.async false
set_option linter.all false
set_option maxRecDepth 100000
/-! a, b = a list. -/
namespace Fw
variable [TbC]
open PySem L2
section
variable {X : Cx} {x : Str} {pos : Pos}
end
section
variable {K : PySem.W.Frag} {ρ : Env} {α : Type} {e : α → D} {w : Option (List Nat)} {μ μ1 μ2 μ3 : MEnv}
end
end Fw

set_option Elab.async false
set_option linter.all false
set_option maxRecDepth 100000
/-! x in d.values(), the values whole numbers. -/
namespace L2
open PySem PySem.Spec PyProof.Rows
section
variable {prog : Program} {w : World} {A : Around} {R : Result → Shared → Prop} {I : Addr} {fp wr : List Addr} {n : Nat} {P : Nat → Value → Prop} {St : Nat → Heap → Prop}
end
section
variable {X : Cx} {pos : Pos} {o x : Expr} {apos mpos : Pos} {td tx : TE}
/-- x in o.values() -/
def tInVals (b0 : Bool) (tx td : TE) : TE := fun σ H Q => tx σ H fun y H1 => ∃ j, y = .int j ∧ td σ H1 fun u H2 => ∃ (a : Addr) (kvs : List (Key × V)) (is : List Int), u = V.ref a ∧ H2 a = some (.dK kvs) ∧ kvs.map (·.2) = is.map V.int ∧ ∀ b : Bool, (b = true ↔ j ∈ is) → Q (.bl (b != b0)) H2
end
end L2

set_option Elab.async false
set_option linter.all false
set_option maxRecDepth 100000
namespace Fw
variable [TbC]
open PySem L2
section
variable {K : PySem.W.Frag} {q : Bool} {ρ : Env} {μ μ1 : MEnv} {tx : TE} {i : Nat} {j : Int} {b0 : Bool} {tg : Option Addr}
end
end Fw
namespace Fw
variable [TbC]
open PySem L2
section
variable {K : PySem.W.Frag} {q : Bool} {μ μ1 : MEnv} {ρ : Env} {te tb : TE} {d : D} {ns : List String} {y : String} {t : Int}
end
end Fw

set_option Elab.async false
set_option linter.all false
set_option maxRecDepth 100000
/-! Values of any type compared. -/
namespace Fw
variable [TbC]
open PySem L2
theorem digit_shown {a : Av} {s : String} (h : a.digit = some s) : (pdA a).shown = Str.ofString s := by
  unfold Av.digit at h
  split at h
  · rename_i i
    split at h
    · rename_i e; cases h; subst e; decide +kernel
    split at h
    · rename_i e; cases h; subst e; decide +kernel
    split at h
    · rename_i e; cases h; subst e; decide +kernel
    split at h
    · rename_i e; cases h; subst e; decide +kernel
    split at h
    · rename_i e; cases h; subst e; decide +kernel
    split at h
    · rename_i e; cases h; subst e; decide +kernel
    split at h
    · rename_i e; cases h; subst e; decide +kernel
    split at h
    · rename_i e; cases h; subst e; decide +kernel
    split at h
    · rename_i e; cases h; subst e; decide +kernel
    split at h
    · rename_i e; cases h; subst e; decide +kernel
    cases h
  · cases h
theorem digIs_eq {a : Av} {x : String} (h : a.digit.isSome = true) : ((pdA a).shown == Str.ofString x) = Av.digIs a x ∧ (Str.ofString x == (pdA a).shown) = Av.digIs a x := by
  obtain ⟨t, e⟩ := Option.isSome_iff_exists.mp h
  rw [digit_shown e]
  unfold Av.digIs
  rw [e]
  by_cases c : t = x
  · subst c; simp
  · have n1 : ¬ Str.ofString t = Str.ofString x := fun z => c (ofString_inj z)
    rw [beq_eq_false_iff_ne.mpr n1, beq_eq_false_iff_ne.mpr fun z => n1 z.symm]
    simp [c]
mutual
theorem eqvA : ∀ a b : Av, Av.cmpb a b = true → PyData.eqv (eA a).py (eA b).py = Av.eqv a b
  | .non, b, _ => by cases b <;> rfl
  | .bl _, b, _ => by cases b <;> rfl
  | .int _, b, _ => by cases b <;> rfl
  | .str x, b, h => by
    cases b with
    | str y =>
      show (Str.ofString x == Str.ofString y) = Av.eqv (.str x) (.str y)
      simp only [Av.eqv]
      by_cases c : x = y
      · subst c; simp
      · rw [beq_eq_false_iff_ne.mpr c]
        exact beq_eq_false_iff_ne.mpr fun z => c (ofString_inj z)
    | txt y =>
      have h' : y.digit.isSome = true := by simpa [Av.cmpb] using h
      show (Str.ofString x == (pdA y).shown) = Av.eqv (.str x) (.txt y)
      simp only [Av.eqv]
      exact (digIs_eq h').2
    | _ => rfl
  | .lst xs, b, h => by
    cases b with
    | lst ys =>
      have h' : Av.cmpbs xs ys = true := by simpa [Av.cmpb] using h
      show PyData.eqvAll (D.pys (eAs xs)) (D.pys (eAs ys)) = Av.eqv (.lst xs) (.lst ys)
      simp only [Av.eqv]
      exact eqvAs xs ys h'
    | _ => rfl
  | .tup xs, b, h => by
    cases b with
    | tup ys =>
      have h' : Av.cmpbs xs ys = true := by simpa [Av.cmpb] using h
      show PyData.eqvAll (D.pys (eAs xs)) (D.pys (eAs ys)) = Av.eqv (.tup xs) (.tup ys)
      simp only [Av.eqv]
      exact eqvAs xs ys h'
    | _ => rfl
  | .dct, b, h => by
    cases b with
    | dct => simp [Av.cmpb] at h
    | _ => rfl
  | .txt x, b, h => by
    cases b with
    | txt y =>
      have e : x = y := Av.same_eq (by simpa [Av.cmpb] using h)
      subst e
      show ((pdA x).shown == (pdA x).shown) = Av.eqv (.txt x) (.txt x)
      simp [Av.eqv]
    | str y =>
      have h' : x.digit.isSome = true := by simpa [Av.cmpb] using h
      show ((pdA x).shown == Str.ofString y) = Av.eqv (.txt x) (.str y)
      simp only [Av.eqv]
      exact (digIs_eq h').1
    | _ => rfl
theorem eqvAs : ∀ a b : List Av, Av.cmpbs a b = true → PyData.eqvAll (D.pys (eAs a)) (D.pys (eAs b)) = Av.eqvs a b
  | [], b, _ => by cases b <;> rfl
  | x :: xs, b, h => by
    cases b with
    | nil => rfl
    | cons y ys =>
      have h' : Av.cmpb x y = true ∧ Av.cmpbs xs ys = true := by simpa [Av.cmpbs] using h
      show (PyData.eqv (eA x).py (eA y).py && PyData.eqvAll (D.pys (eAs xs)) (D.pys (eAs ys))) = Av.eqvs (x :: xs) (y :: ys)
      simp only [Av.eqvs]
      rw [eqvA x y h'.1, eqvAs xs ys h'.2]
end
mutual
theorem cmp_okd : ∀ (n m : Nat) (a b : Av), Av.okd n a = true → Av.okd m b = true → Av.cmpb a b = true
  | n, m, .non, b, _, _ => by simp [Av.cmpb]
  | n, m, .bl _, b, _, _ => by simp [Av.cmpb]
  | n, m, .int _, b, _, _ => by simp [Av.cmpb]
  | n, m, .str _, b, _, h => by
    cases b with
    | txt y => cases m <;> cases h
    | _ => simp [Av.cmpb]
  | n + 1, m, .lst xs, b, h, k => by
    cases b with
    | lst ys =>
      cases m with
      | zero => cases k
      | succ m =>
        have h : xs.all (Av.okd n) = true := h
        have k : ys.all (Av.okd m) = true := k
        simp only [Av.cmpb]
        exact cmps_okd n m xs ys (List.all_eq_true.mp h) (List.all_eq_true.mp k)
    | _ => simp [Av.cmpb]
  | n + 1, m, .tup xs, b, h, k => by
    cases b with
    | tup ys =>
      cases m with
      | zero => cases k
      | succ m =>
        have h : xs.all (Av.okd n) = true := h
        have k : ys.all (Av.okd m) = true := k
        simp only [Av.cmpb]
        exact cmps_okd n m xs ys (List.all_eq_true.mp h) (List.all_eq_true.mp k)
    | _ => simp [Av.cmpb]
  | 0, m, .lst xs, b, h, _ => by cases h
  | 0, m, .tup xs, b, h, _ => by cases h
  | n, m, .dct, b, h, _ => by cases n <;> cases h
  | n, m, .txt _, b, h, _ => by cases n <;> cases h
theorem cmps_okd : ∀ (n m : Nat) (xs ys : List Av), (∀ x ∈ xs, Av.okd n x = true) → (∀ y ∈ ys, Av.okd m y = true) → Av.cmpbs xs ys = true
  | n, m, [], ys, _, _ => by simp [Av.cmpbs]
  | n, m, x :: xs, [], _, _ => by simp [Av.cmpbs]
  | n, m, x :: xs, y :: ys, h, k => by
    simp only [Av.cmpbs, Bool.and_eq_true]
    exact ⟨cmp_okd n m x y (h x List.mem_cons_self) (k y List.mem_cons_self), cmps_okd n m xs ys (fun z hz => h z (List.mem_cons_of_mem _ hz)) fun z hz => k z (List.mem_cons_of_mem _ hz)⟩
end
section
variable {K : PySem.W.Frag} {q : Bool} {μ μ1 μ2 : MEnv} {ta tb : TE} {a b : Av}
end
end Fw

set_option Elab.async false
set_option linter.all false
set_option maxRecDepth 100000
namespace Fw
variable [TbC]
open PySem L2
variable {K : PySem.W.Frag} {ρ : Env} {E : En}
/-- a new list gets None, and nobody keeps it -/
theorem ex_dropApp {te : TE} (h : evo K te ρ fun _ c ρ1 => ∃ xs, c = .lst xs ∧ xs.length < sizeLine ∧ E.nx ρ1) :
    ex K (tDrop (tBM K "list" rAppend te (tCons (tC .non) tNil))) ρ E := fun σ F H D ok g => by
  refine h σ F H _ ok fun a c F1 H1 ρ1 ok1 r1 s1 n1 nd1 a1 ⟨xs, ec, hl, k⟩ => ?_
  subst ec
  obtain ⟨_, hF, vs, h5, h6⟩ := r1
  have fa := hF a List.mem_cons_self
  have na := a1 a List.mem_cons_self
  refine ⟨.inl ⟨rfl, _, SqL.of h5⟩, a, vs, .non, rfl, rfl, h5, by rw [← h6.length]; exact hl, ?_⟩
  refine g.nx σ F1 _ ρ1 ⟨fun b o e => ?_, ok1.len, fun i s e => ?_, ok1.nd, tabs_upd ok1.tb (.inr ⟨_, h5, pl_lst⟩), ok1.nf⟩ ⟨s1.f, fun b o e m => ?_, s1.n, s1.w⟩ k
  · rw [upd_ne fun z : b = a => by rw [z, fa] at e; cases e]; exact ok1.sub b o e
  · obtain ⟨v, e1, e2⟩ := ok1.at_ i s e
    refine ⟨v, e1, ?_⟩
    cases s with
    | v d => exact e2
    | o b c =>
      obtain ⟨e3, e4, e5⟩ := e2
      exact ⟨e3, e4, e5.mono (Same.refl _) fun x hx o eo => by
        rw [upd_ne fun z : x = a => na (by rw [← z]; exact mem_in e hx)]; exact eo⟩
  · have hb : b ≠ a := fun z => by
      rcases n1 a List.mem_cons_self with y | y
      · exact m (by rw [z]; exact y)
      · rw [z, y] at e; cases e
    exact (s1.h b o e m).upd hb
theorem x_dropApp {α : Type} {e : α → D} {te : TE} {μ μ' : MEnv} {xs : List α} (h : EO K te μ (oL e xs) μ') (hl : xs.length < most) :
    XS K (tDrop (tBM K "list" rAppend te (tCons (tC .non) tNil))) μ (.nx μ') := fun ρ ab => ex_dropApp ((h ρ ab).imp fun _ c ρ1 ⟨e1, e2⟩ => by
  cases c with
  | lst ys =>
    have e3 : MO.lst ys = MO.lst (xs.map e) := e1
    cases e3
    exact ⟨_, rfl, by rw [List.length_map]; exact hl, e2⟩
  | dct _ => cases e1
  | ldct _ _ _ => cases e1
  | ins _ _ _ => cases e1
  | dcl _ => cases e1
  | inl _ _ _ => cases e1
  | tpl _ => cases e1
  | lcl _ => cases e1
  | rcd _ => cases e1)
section
variable {α : Type} {e : α → D} {xs : List α} {i : Nat} {μ : MEnv}
/-- a slot's list, walked with its places, while the slot keeps it -/
theorem it_enumO {a : Addr} {ds : List D} : ItOk K (Ite K a) (enumD ds) (fun _ => True) (SO i a ds) where
  mono := fun _ _ _ _ => trivial
  go := fun j d σ F H ρ e ok hs _ => by
    obtain ⟨v, h1, rfl, h2, vs, h3, h4⟩ := ok.at_ i _ hs
    obtain ⟨d', e1, _⟩ := enumD_get e
    obtain ⟨u, e2, _⟩ := h4.get e1
    exact ⟨vs, u, SqL.of h3, e2⟩
  yld := fun j d σ F H ρ x H' e ok hs _ ⟨T, y, y1, y2, y3, y4⟩ => by
    subst y1 y3
    obtain ⟨v, h1, rfl, h2, vs, h3, h4⟩ := ok.at_ i _ hs
    obtain ⟨d', e1, rfl⟩ := enumD_get e
    obtain ⟨u, e2, r⟩ := h4.get e1
    have e3 := y4 vs (SqL.of h3)
    rw [e2] at e3; cases e3
    exact yld_new ok.sub y2 (.int _) r
  stop := fun σ F H ρ ok hs _ => by
    obtain ⟨v, h1, rfl, h2, vs, h3, h4⟩ := ok.at_ i _ hs
    exact ⟨vs, SqL.of h3, by rw [enumD_len, h4.length]; exact Nat.le_refl _⟩
theorem i_enumO {a : Addr} (hi : μ[i]? = some (some (.o (some a) (oL e xs)))) : EI K (SO i a (xs.map e)) (iEnum K (tCons (tVar i) tNil)) μ ((enm xs).map (eT2 D.int e)) μ := fun ρ ab σ F H R ok c => by
  obtain ⟨b, h2, h3⟩ := lst_of ab hi
  have := h3 a rfl
  subst this
  obtain ⟨v, h1, rfl, _, vs, h4, h5⟩ := ok.at_ i _ h2
  exact ⟨_, h1, a, vs, rfl, SqL.of h4, c _ _ (fun _ => True) F H ρ ok (Step.refl _ _ _) it_enumO trivial ⟨enumD_enm _, ab⟩⟩
end
/-! ### C(k = v, ..), by names alone -/
def tPerm0 (π : List Nat) (m : Nat) (tk : TA) : TA := fun σ H Q => tk σ H fun zs H2 => ([] : List V).length = 0 ∧ zs.length = m ∧ Q (permL π zs) H2
structure CalNG (P : Program) (w : World) (K : PySem.W.Frag) (mg : Str → Option Value) (base : Heap) (k : Nat) (x : Str) (ks : List Str) (π : List Nat) (ps : List Str) (sp : Sp) : Prop where
  ok : ∃ fd, FnG P w K mg base (L2.CX P w) k (He.ma K (He.ga K x) "__init__") fd ps sp ∧ KBn K fd ps 1 ks (fun us ws => us ++ permL π ws) (fun vs zs => vs ++ permL π zs)
  mkr : L2.Mk K (He.ga K x) (He.ma K (He.ga K x) "__init__")
  g : mg x = some (.ref (He.ga K x))
theorem pe_makeCG {X : Cx} {k : Nat} {ps ks : List Str} {sp : Sp} {x : Str} {p pos : Pos} {kws : List Keyword} {tk : TA} {π : List Nat} (c : CalNG X.prog X.w X.K X.mg X.base k x ks π ps sp) (hr : Rg (k + 1) X.A) (hg : Gl X x) (hkw : PK X kws tk)
    (hall : (backToKw pos (keywordEach kws X.env)).all (·.1.isSome) = true := by rfl) (hks : (backToKw pos (keywordEach kws X.env)).filterMap (·.1) = ks := by rfl) (hdb : (x == ("__debug__" : Str)) = false := by decide)
    (hpl : ((backTo pos (starEach [] X.env)).any (·.1) || (backToKw pos (keywordEach kws X.env)).any (·.1.isNone)) = false := by rfl) :
    PE X (.Call (.Name x p) [] kws pos) (tMake (He.ga X.K x) sp [] E0 (tPerm0 π ks.length tk)) := by
  obtain ⟨fd, F, b⟩ := c.ok
  have e1 : (fun (vs zs : List V) => vs ++ permL π zs) = fun vs zs => vs ++ (permL π zs ++ []) := by funext vs zs; rw [List.append_nil]
  rw [e1] at b
  exact pg_makeK0 c.mkr F hr hg c.g b passL hkw hall hks hdb hpl
theorem a_perm0 {μ μ1 : MEnv} {tk : TA} {π : List Nat} {m : Nat} {ds ds' : List D} (hk : ED K true tk μ ds μ1) (hp : permL π ds = ds' := by rfl) (hm : ds.length = m := by rfl) : EA K (tPerm0 π m tk) μ (ds'.map MAr.v) μ1 := fun ρ ab σ F H Q ok c =>
  hk ρ ab σ F H _ ok fun es zs F2 H2 ρ2 ok2 r2 s2 q2 ⟨e2, k2⟩ => by
    subst e2
    refine ⟨rfl, by rw [← r2.length]; exact hm, c ((permL π es).map Ar.v) (permL π zs) F2 H2 ρ2 ok2 ?_ s2 ⟨?_, fun j i a c' z => ?_, k2⟩⟩
    · have := (ArL.nil (K := K) (F := F2) (ρ := ρ2)).app (r2.perm π)
      simpa using this
    · rw [List.map_map, ← hp]; rfl
    · rw [List.getElem?_map] at z
      cases e : (permL π es)[j]? with
      | none => rw [e] at z; cases z
      | some d => rw [e] at z; cases z
end Fw

set_option Elab.async false
set_option linter.all false
set_option maxRecDepth 100000
namespace Fw
variable [TbC]
open PySem PySem.Spec PyProof.Rows L2
/-! ### == and != by a text's own __eq__ -/
structure EqC (K : PySem.W.Frag) (C f : Addr) : Prop where
  hs : PySem.W.findIn K (.ref C) "__eq__" = some (some (.ref f))
  hf : PySem.W.isFn K (.ref f) = true
  hn : PySem.W.findIn K (.ref C) "__ne__" = some (some (.builtin "object.__ne__"))
  hm : PySem.W.mroIn K C (.type "object") = some true
section
variable {X : Cx} {CX : CXT} {k : Nat} {ps : List Str} {sp : Sp} {fd : FuncData} {C f : Addr} {E : XK}
/-- the answer is a bool -/
def rOwn (K : PySem.W.Frag) (C : Addr) (sp : Sp) (E : XK) (neg : Bool) : R2 := fun x y H Q => ∃ a dx fs t, x = .ref a ∧ H a = some (.ins C dx fs) ∧ TyX K H y t ∧ PySem.W.notFirst K C t = true ∧
  sp [x, y] H (fun v H' => ∃ b, v = .bl b ∧ Q (.bl (b != neg)) H') E
theorem run_own (G : FnG X.prog X.w X.K X.mg X.base CX k f fd ps sp) (hb : Binds X.K fd ps []) (hx : Passes CX X E) {A : Around} (sb : Rg k A ∧ A.frames = X.A.frames) {pins : List (Addr × Obj)} {s : Shared} {σ : L2.St} {H : Hp} {a : Addr} {y : V} {u : Value} {Q : VK} (I : Inv X pins σ H s) (ry : RelV y u)
    (hsp : sp [.ref a, y] H (fun v H' => ∃ b, v = .bl b ∧ Q (.bl b) H') E) :
    wpAny (model X.prog X.w) A (call (.ref f) [.ref a, u]) (fun v s' => ∃ b, v = .bool b ∧ ∃ H', Inv X pins σ H' s' ∧ Q (.bl b) H') X.xe s := by
  have e0 : Env0 X.prog X.w X.K X.mg X.base A X.stack s H := by
    have e := I.env0
    exact ⟨by rw [sb.2]; exact e.frames, e.mod, e.bs, e.bsz, e.funs, e.frf, e.hok, e.bare⟩
  have hl := G.len _ _ _ _ hsp
  have r2 : Vals [V.ref a, y] [Value.ref a, u] := .cons rfl (.cons ry .nil)
  refine wpAny_call (codeAny_mono (G.run A X.stack s H ⟨[.ref a, u], []⟩ [.ref a, u] [.ref a, y] _ E sb.1 e0 (by
    have := hb s [.ref a, u] I.kIn (by simpa using hl)
    simpa using this) r2 hsp) fun r s' hq => ?_)
  cases r with
  | error e => exact hx pins σ H s e s' I hq
  | ok fl =>
    cases fl with
    | ret w =>
      obtain ⟨z, H', I', rz, b, ez, q⟩ := I.after hq
      subst ez
      cases rz
      exact ⟨b, rfl, H', I', q⟩
    | next => exact False.elim hq
    | brk => exact False.elim hq
    | cont => exact False.elim hq
theorem op_own (G : FnG X.prog X.w X.K X.mg X.base CX k f fd ps sp) (c : EqC X.K C f) (hb : Binds X.K fd ps []) (hx : Passes CX X E) (hr : Rg k X.A) : OpR X (compareOp .Eq) (rOwn X.K C sp E false) := by
  intro pins s σ H x y v u Q I rx ry h
  obtain ⟨a, dx, fs, t, rfl, ha, ty, hn, hsp⟩ := h
  cases rx
  obtain ⟨mA, J, _⟩ := ins_get I.hok ha
  obtain ⟨od, J, _⟩ := J.look
  obtain ⟨P, Z, p, _⟩ := kit_of I ry ty
  obtain ⟨m, hF⟩ := I.fr
  show wpAny (model X.prog X.w) X.A (richCompare .Eq (.ref a) u) (L2.EP X pins σ Q) X.xe s
  refine PySem.W.cmp_K (op := .Eq) (tb := t) hr.units0 hF I.ok.mod.kin J (Z.ty _ _ I.kIn p) hn c.hs c.hf ?_
  refine wpAny_mono (run_own G hb hx ⟨hr, rfl⟩ I ry (Q := fun v H' => ∃ b, v = .bl b ∧ Q (.bl (b != false)) H') ?_) (fun r s' z => ?_) fun _ _ x => x
  · exact (by
      have := hsp
      refine cast (congrArg (fun Z => sp [.ref a, y] H Z E) ?_) this
      funext v H'
      refine propext ⟨fun ⟨b, e, q⟩ => ⟨b, e, b, rfl, q⟩, fun ⟨b, e, b', e', q⟩ => ⟨b, e, by cases e'; exact q⟩⟩)
  · obtain ⟨b, rfl, H', I', b', e', q⟩ := z
    cases e'
    exact ⟨.bl b, H', I', rfl, by simpa using q⟩
theorem bound_ne {M : Model} {A : Around} {E : Value → Shared → Prop} {s : Shared} {K : PySem.W.Frag} {x : Addr} {ox : Obj} {od : Option Obj} {args : List Value} {Q : Option Value → Shared → Prop} (X : K.In s.heap) (I : PySem.W.InstAt s.heap x ox C od) (hs : PySem.W.findIn K (.ref C) "__ne__" = some (some (.builtin "object.__ne__")))
    (h : wpAny M A (call (.builtin "object.__ne__") (.ref x :: args)) (fun v => Q (some v)) E s) : wpAny M A (callSpecialIfBound? (.ref x) "__ne__" args) Q E s := by
  simp only [callSpecialIfBound?, bindSpecialIfBound?]
  refine wpAny_holding (wpAny_bind (wpAny_bind (wpAny_bind (I.type.here ((PySem.W.looks_findIn X hs).here ?_)))))
  refine wpAny_bind (wpAny_askSetting (wpAny_ite ?_))
  have fin : wpAny M A (call (.builtin "object.__ne__") ([.ref x] ++ args) >>= fun v => pure (some v)) Q E s := wpAny_bind (wpAny_mono h (fun v s' h' => wpAny_pure h') fun _ _ h' => h')
  split
  · exact wpAny_bind (wpAny_of_eq (F.cmp_object.ne.bind _) (wpAny_pure (by exact fin)))
  · exact wpAny_tryCatch (wpAny_bind (wpAny_of_eq (F.cmp_object.ne.bind _) (wpAny_pure (by exact fin))))
theorem entry_ne {prog : Program} {w : World} {A : Around} {E : Value → Shared → Prop} {s : Shared} {K : PySem.W.Frag} {x : Addr} {ox : Obj} {od : Option Obj} {u : Value} {Q : Fin → Shared → Prop} (hu : A.units < cLine) (X : K.In s.heap) (I : PySem.W.InstAt s.heap x ox C od) (c : EqC K C f)
    (hcall : wpAny (model prog w) A (call (.ref f) [.ref x, u]) (fun v s' => ∃ b, v = .bool b ∧ Q (.done (.ret (.bool (!b)))) s') E s) :
    wpAny (model prog w) A (Builtin.«object.__ne__» ⟨[.ref x, u], []⟩) Q E s := by
  unfold Builtin.«object.__ne__»
  repeat (first
    | with_reducible refine wpAny_cRoomFor hu ?_
    | (refine wpAny_bind (m := callSpecialIfBound? (.ref x) (Str.ofString "__eq__") [u])
        (PySem.W.ifBound_K X I c.hs c.hf (wpAny_mono hcall (fun r s' hr => by
          obtain ⟨b, rfl, hq⟩ := hr
          repeat (first | exact hq | exact wpAny_pure hq | exact wpAny_truthy_bool hq | (refine wpAny_bind (m := truthy (.bool _)) (wpAny_truthy_bool ?_)) | wp_step)) fun _ _ e => e)))
    | wp_step)
theorem op_ownNe (G : FnG X.prog X.w X.K X.mg X.base CX k f fd ps sp) (c : EqC X.K C f) (hb : Binds X.K fd ps []) (hx : Passes CX X E) (hr : Rg (k + 1) X.A) : OpR X (compareOp .NotEq) (rOwn X.K C sp E true) := by
  intro pins s σ H x y v u Q I rx ry h
  obtain ⟨a, dx, fs, t, rfl, ha, ty, hn, hsp⟩ := h
  cases rx
  obtain ⟨mA, J, _⟩ := ins_get I.hok ha
  obtain ⟨od, J, _⟩ := J.look
  obtain ⟨P, Z, p, _⟩ := kit_of I ry ty
  have hu := hr.units0
  have hrun : wpAny (model X.prog X.w) X.A.in1 (call (.ref f) [.ref a, u]) (fun v s' => ∃ b, v = .bool b ∧ ∃ H', Inv X pins σ H' s' ∧ Q (.bl (!b)) H') X.xe s := by
    refine wpAny_mono (run_own G hb hx ⟨hr.in1, rfl⟩ I ry (Q := fun v H' => ∃ b, v = .bl b ∧ Q (.bl (b != true)) H') ?_) (fun r s' z => ?_) fun _ _ x => x
    · refine cast (congrArg (fun Z => sp [.ref a, y] H Z E) ?_) hsp
      funext v H'
      refine propext ⟨fun ⟨b, e, q⟩ => ⟨b, e, b, rfl, q⟩, fun ⟨b, e, b', e', q⟩ => ⟨b, e, by cases e'; exact q⟩⟩
    · obtain ⟨b, rfl, H', I', b', e', q⟩ := z
      cases e'
      exact ⟨b, rfl, H', I', by cases b <;> exact q⟩
  have one : wpAny (model X.prog X.w) X.A (tryCompare (.ref a) "__ne__" u) (fun r s' => ∃ b, r = some (.bool b) ∧ ∃ H', Inv X pins σ H' s' ∧ Q (.bl b) H') X.xe s := by
    unfold tryCompare
    refine wpAny_bind (bound_ne I.kIn J c.hn (wpAny_call (codeAny_call_builtin F.cmp_object.ne.plain F.cmpEntry_ne (PySem.W.check_slot F.cmpKind_ne F.cmpSplit_ne (J.type.andThen (PySem.W.looks_mroIn I.kIn c.hm)) (F.cmpArgs_ne _ _)
      (entry_ne (by have := hr.un; show X.A.units + 1 < cLine; omega) I.kIn J c (wpAny_mono hrun (fun v s' hv => ?_) fun _ _ e => e))))))
    obtain ⟨b, rfl, H', I', q⟩ := hv
    first
      | exact ⟨b, rfl, wpAny_pure ⟨!b, rfl, H', I', q⟩⟩
      | exact ⟨b, rfl, wpAny_pure (wpAny_pure ⟨!b, rfl, H', I', q⟩)⟩
      | exact ⟨b, rfl, ⟨!b, rfl, H', I', q⟩⟩
  show wpAny (model X.prog X.w) X.A (richCompare .NotEq (.ref a) u) (L2.EP X pins σ Q) X.xe s
  simp only [richCompare, cmpInfo_NotEq, oneThing_ref]
  refine wpAny_holding (wpAny_bind (wpAny_cRoomFor hu ?_))
  refine wpAny_bind (J.type.here (wpAny_bind ((Z.ty _ _ I.kIn p).here ?_)))
  split
  · rename_i q
    have e : PySem.W.subIn X.K t (.ref C) = some false := by
      rcases Bool.or_eq_true_iff.mp hn with e | e
      · rw [beq_iff_eq.mp e] at q; simp at q
      · exact beq_iff_eq.mp e
    refine wpAny_bind ((PySem.W.looks_subIn I.kIn e).here ?_)
    simp only [Bool.false_eq_true, if_false]
    refine wpAny_bind (wpAny_mono one (fun r s' z => ?_) fun _ _ e => e)
    obtain ⟨b, rfl, H', I', q⟩ := z
    exact wpAny_pure ⟨.bl b, H', I', rfl, q⟩
  · refine wpAny_bind (wpAny_pure ?_)
    simp only [Bool.false_eq_true, if_false]
    refine wpAny_bind (wpAny_mono one (fun r s' z => ?_) fun _ _ e => e)
    obtain ⟨b, rfl, H', I', q⟩ := z
    exact wpAny_pure ⟨.bl b, H', I', rfl, q⟩
end
/-! ### what the class must be -/
structure IsC (K : PySem.W.Frag) (C : Addr) : Prop where
  cl : Cls K C
  ha : PySem.W.findIn K (.ref C) "__class__" = some (some (.builtin "object.__class__"))
  hn : PySem.W.specialIn K (.builtin "object.__class__") "__get__" = some (some (.builtin "getset_descriptor.__get__"))
  htk : PySem.W.takesIn K (.builtin "object.__class__") = some true
  hm : PySem.W.mroIn K C (.type "object") = some true
  no : ∀ a : Av, PySem.W.kitOne K (.type a.tyn) (.ref C) = some false ∧ PySem.W.notFirst K C (.type a.tyn) = true
structure OwnT (K : PySem.W.Frag) (x : Str) : Prop where
  q : EqC K (He.ga K x) (He.ma K (He.ga K x) "__eq__")
  i : IsC K (He.ga K x)
def avTys : List String := ["NoneType", "bool", "int", "str", "list", "tuple", "dict"]
def ownB (K : PySem.W.Frag) (x : Str) : Bool :=
  He.eqO (PySem.W.findIn K (.ref (He.ga K x)) "__ne__") (some (some (.builtin "object.__ne__"))) && (He.eqO (PySem.W.findIn K (.ref (He.ga K x)) "__class__") (some (some (.builtin "object.__class__"))) &&
  (He.eqO (PySem.W.specialIn K (.builtin "object.__class__") "__get__") (some (some (.builtin "getset_descriptor.__get__"))) && (PySem.W.takesIn K (.builtin "object.__class__") == some true && (PySem.W.mroIn K (He.ga K x) (.type "object") == some true &&
  (avTys.all fun n => PySem.W.kitOne K (.type n) (.ref (He.ga K x)) == some false && PySem.W.notFirst K (He.ga K x) (.type n))))))
theorem ownB_ok {K : PySem.W.Frag} {x : Str} (h : ownB K x = true) (c : Cls K (He.ga K x)) (m : Meth K (He.ga K x) "__eq__" (He.ma K (He.ga K x) "__eq__")) : OwnT K x := by
  unfold ownB at h
  simp only [Bool.and_eq_true] at h
  obtain ⟨h1, h2, h3, h4, h5, h6⟩ := h
  refine ⟨⟨m.at_, m.fn, He.eqO_ok h1, beq_iff_eq.mp h5⟩, ⟨c, He.eqO_ok h2, He.eqO_ok h3, beq_iff_eq.mp h4, beq_iff_eq.mp h5, fun a => ?_⟩⟩
  have h7 := List.all_eq_true.mp h6 a.tyn (by cases a <;> simp [avTys, Av.tyn])
  rw [Bool.and_eq_true] at h7
  exact ⟨beq_iff_eq.mp h7.1, h7.2⟩
structure CalQ (P : Program) (w : World) (K : PySem.W.Frag) (mg : Str → Option Value) (base : Heap) (k : Nat) (x : Str) (ps : List Str) (sp : Sp) : Prop where
  ok : ∃ fd, FnG P w K mg base (L2.CX P w) k (He.ma K (He.ga K x) "__eq__") fd ps sp ∧ Binds K fd ps []
  t : OwnT K x
section
variable {X : Cx} {k : Nat} {ps : List Str} {sp : Sp} {K : PySem.W.Frag} {x : Str}
theorem op_ownEq (h : X.K = K) (c : CalQ X.prog X.w K X.mg X.base k x ps sp) (hr : Rg (k + 1) X.A) : OpR X (compareOp .Eq) (rOwn K (He.ga K x) sp E0 false) := by
  subst h
  obtain ⟨fd, G, b⟩ := c.ok
  exact op_own G c.t.q b passL (hr.mono (Nat.le_succ _))
theorem op_ownNeq (h : X.K = K) (c : CalQ X.prog X.w K X.mg X.base k x ps sp) (hr : Rg (k + 1) X.A) : OpR X (compareOp .NotEq) (rOwn K (He.ga K x) sp E0 true) := by
  subst h
  obtain ⟨fd, G, b⟩ := c.ok
  exact op_ownNe G c.t.q b passL hr
/-- a class by its name -/
theorem pe_globC {p : Pos} {C : Addr} (hg : Gl X x) (hm : X.mg x = some (.ref C)) (hd : (x == ("__debug__" : Str)) = false := by decide) : PE X (.Name x p) (tC (.ref C)) := pe_glob hg hm rfl hd
end
section
variable {K : PySem.W.Frag} {q : Bool} {ta tb te : TE} {μ μ1 μ2 : MEnv} {C : Addr} {fs gs : List (Str × D)} {d e : D} {CF : FC} {CE : FX} {E : XK} {neg b : Bool} {a : Av}
theorem tyI {F : Hp} {v : V} (c : IsC K C) (r : Rep K F (.ins C fs) v) : TyX K F v (.ref C) := by
  cases r with
  | ins h1 h2 => exact .base (.ins h1 c.cl c.ha c.hn c.htk c.hm)
theorem e_isiC (c : IsC K C) (h : EV K q te μ d μ1) (hd : d = .ins C fs) : EV K q (tCB (rIsi K) (tCons te (tCons (tC (.ref C)) tNil))) μ (.bl true) μ1 := fun ρ ab σ F H Q ok k => by
  refine h ρ ab σ F H _ ok fun d v F1 H1 ρ1 ok1 r1 s1 q1 ⟨e1, k1⟩ => ?_
  subst e1 hd
  exact ⟨v, .ref C, .ref C, .ref C, true, rfl, .own C, tyI c (Rep.mono ok1.sub r1), by simp [PySem.W.kitOne], k _ _ F1 H1 ρ1 ok1 (.bl true) s1 q1 ⟨rfl, k1⟩⟩
theorem e_isiCA (c : IsC K C) (h : EV K q te μ (eA a) μ1) : EV K q (tCB (rIsi K) (tCons te (tCons (tC (.ref C)) tNil))) μ (.bl false) μ1 := fun ρ ab σ F H Q ok k => by
  refine h ρ ab σ F H _ ok fun d v F1 H1 ρ1 ok1 r1 s1 q1 ⟨e1, k1⟩ => ?_
  subst e1
  exact ⟨v, .ref C, .type a.tyn, .ref C, false, rfl, .own C, tyA_of (Rep.mono ok1.sub r1), (c.no a).1, k _ _ F1 H1 ρ1 ok1 (.bl false) s1 q1 ⟨rfl, k1⟩⟩
theorem e_ownD (ha : EV K false ta μ d μ1) (hd : d = .ins C fs) (hb : EV K false tb μ1 e μ2) (ht : ∀ F y, Rep K F e y → ∃ t, TyX K F y t ∧ PySem.W.notFirst K C t = true)
    (hC : CF [.v d, .v e] (.v (.bl b)) [.v d, .v e]) : EV K false (tOp (rOwn K C (spOf K (ctOf CF CE)) E neg) ta tb) μ (.bl (b != neg)) μ2 := fun ρ ab σ F H Q ok k =>
  ha ρ ab σ F H _ ok fun d' v F1 H1 ρ1 ok1 r1 s1 _ ⟨e1, ab1⟩ => hb ρ1 ab1 σ F1 H1 _ ok1 fun e' y F2 H2 ρ2 ok2 r2 s2 _ ⟨e2, ab2⟩ => by
    subst e1 e2
    have r1' := Rep.mono s2.f r1
    obtain ⟨p, dx, ws, rfl, hp⟩ : ∃ p dx ws, v = .ref p ∧ F2 p = some (.ins C dx ws) := by
      rw [hd] at r1'
      cases r1' with
      | ins h1 h2 => exact ⟨_, _, _, rfl, h1⟩
    obtain ⟨t, ht1, ht2⟩ := ht H2 y (Rep.mono ok2.sub r2)
    refine ⟨p, dx, ws, t, rfl, ok2.sub _ _ hp, ht1, ht2, ?_⟩
    have hc := call_ct (C := CF) (as := [Ar.v d', Ar.v e']) (am := [.v d', .v e']) (cs' := [.v d', .v e']) (ds := []) (r := .v (.bl b)) rfl (fun j i a c z => by
      match j, z with
      | 0, z => cases z
      | 1, z => cases z
      | j + 2, z => simp at z) ab2 hC rfl rfl (Φ := fun s ρ' => s.is (.v (.bl b)) ∧ Ab ρ' μ2) fun s ρ' h1 h2 => ⟨h1, h2⟩
    refine call_core (C := ctOf CF CE) (as := [Ar.v d', Ar.v e']) ok2 (.v r1' (.v r2 .nil)) List.nodup_nil hc fun s v F3 H3 ss' ok3 r n st f => ?_
    obtain ⟨f1, f2⟩ := f
    have f1 : s = .v (.bl b) := f1
    subst f1
    have r : Rep K F3 (.bl b) v := r
    cases r
    exact ⟨b, rfl, k _ _ F3 H3 _ ok3 (.bl _) ((s1.trans s2).trans st) (fun z => nomatch z) ⟨rfl, f2⟩⟩
theorem e_ownI (c : IsC K C) (ha : EV K false ta μ d μ1) (hd : d = .ins C fs) (hb : EV K false tb μ1 e μ2) (he : e = .ins C gs)
    (hC : CF [.v d, .v e] (.v (.bl b)) [.v d, .v e]) : EV K false (tOp (rOwn K C (spOf K (ctOf CF CE)) E neg) ta tb) μ (.bl (b != neg)) μ2 :=
  e_ownD ha hd hb (fun F y r => ⟨.ref C, tyI c (by rw [he] at r; exact r), by simp [PySem.W.notFirst]⟩) hC
theorem e_ownA (c : IsC K C) (ha : EV K false ta μ d μ1) (hd : d = .ins C fs) (hb : EV K false tb μ1 (eA a) μ2)
    (hC : CF [.v d, .v (eA a)] (.v (.bl b)) [.v d, .v (eA a)]) : EV K false (tOp (rOwn K C (spOf K (ctOf CF CE)) E neg) ta tb) μ (.bl (b != neg)) μ2 :=
  e_ownD ha hd hb (fun F y r => ⟨.type a.tyn, tyA_of r, (c.no a).2⟩) hC
theorem e_ownIn (c : IsC K C) (ha : EV K false ta μ d μ1) (hd : d = .ins C fs) (hb : EV K false tb μ1 e μ2) (he : e = .ins C gs)
    (hC : CF [.v d, .v e] (.v (.bl b)) [.v d, .v e]) : EV K false (tOp (rOwn K C (spOf K (ctOf CF CE)) E true) ta tb) μ (.bl (!b)) μ2 := (e_ownI c ha hd hb he hC).cast (by cases b <;> rfl)
theorem e_ownAe (c : IsC K C) (ha : EV K false ta μ d μ1) (hd : d = .ins C fs) (hb : EV K false tb μ1 (eA a) μ2)
    (hC : CF [.v d, .v (eA a)] (.v (.bl b)) [.v d, .v (eA a)]) : EV K false (tOp (rOwn K C (spOf K (ctOf CF CE)) E false) ta tb) μ (.bl b) μ2 := (e_ownA c ha hd hb hC).cast (by simp)
end
end Fw

set_option Elab.async false
set_option linter.all false
namespace Fw
/-- the items of a list or a tuple -/
def Av.toQ : Av → R (List Av)
  | .tup xs => .ok xs
  | .lst xs => .ok xs
  | _ => .bad
def asP1 : Av → R (Int × Int)
  | .tup [.int a, .int b] => .ok (a, b)
  | _ => .bad
/-- a list of pairs, as such -/
def asPairs : List Av → R (List (Int × Int))
  | [] => .ok []
  | x :: xs => (asP1 x).bind fun p => (asPairs xs).bind fun ps => .ok (p :: ps)
end Fw

set_option Elab.async false
set_option linter.all false
set_option maxRecDepth 100000
namespace Fw
variable [TbC]
open PySem L2
instance {a : Av} : NE a.toQ := by cases a <;> (unfold Av.toQ; infer_instance)
instance {a : Av} : NE (asP1 a) := by unfold asP1; split <;> infer_instance
instance neAsPairs : ∀ {xs : List Av}, NE (asPairs xs)
  | [] => by unfold asPairs; infer_instance
  | x :: xs => by
    unfold asPairs
    exact ne_bind inferInstance fun _ => ne_bind neAsPairs fun _ => inferInstance
def eT1 {α : Type} (e : α → D) (x : α) : D := .tup [e x]
end Fw

set_option Elab.async false
set_option linter.all false
set_option maxRecDepth 100000
set_option maxHeartbeats 2000000
/-! several except clauses, with names or without -/
namespace Fw
variable [TbC]
open PySem PySem.Spec L2
open PyProof.Rows hiding St
structure Hd where
  c : Value
  i : Option Nat
  ts : Addr → Value → Option Addr → TS
/-- what the clauses wish, one behind the other -/
def wManyA (K : PySem.W.Frag) (Wout : WX) (D : Ends) : List Hd → WX
  | [] => Wout
  | ⟨c, some i, ts⟩ :: r => wAs K c i ts (wManyA K Wout D r) D
  | ⟨c, none, ts⟩ :: r => wOnly K c ts (wManyA K Wout D r) D
def tTryM (K : PySem.W.Frag) (l : List Hd) (tw : WX → TS) (Wout : WX) : TS := fun D σ H => tw (wManyA K Wout D l) D σ H
abbrev Suit (X : Cx) (b : List Stmt) (ts : Addr → Value → Option Addr → TS) : Prop :=
  ∀ (a : Addr) (oe : Obj) (cls : Value) (d : Option Addr) (pn : List (Addr × Obj)), Zc cls d oe → (∃ vs, oe.data = .fields vs) → PSs (X.suite a ((a, oe) :: pn)) b (ts a cls d)
inductive HdsA (X : Cx) : List ExceptHandler → List Hd → Prop
  | nil : HdsA X [] []
  | one {x : Str} {c : Value} {ts : Addr → Value → Option Addr → TS} {b₀ : Stmt} {b : List Stmt} {p p' : Pos} {hs : List ExceptHandler} {l : List Hd} (hc : Names X x c) (hsu : Suit X (b₀ :: b) ts) (r : HdsA X hs l) :
      HdsA X (.ExceptHandler (some (.Name x p)) none (b₀ :: b) p' :: hs) (⟨c, none, ts⟩ :: l)
  | as {x n : Str} {i : Nat} {c : Value} {ts : Addr → Value → Option Addr → TS} {b₀ : Stmt} {b : List Stmt} {p p' : Pos} {hs : List ExceptHandler} {l : List Hd} (hi : X.N[i]? = some n) (hn : X.env.kindOf n = some .local) (hc : Names X x c) (hsu : Suit X (b₀ :: b) ts) (r : HdsA X hs l) :
      HdsA X (.ExceptHandler (some (.Name x p)) (some n) (b₀ :: b) p' :: hs) (⟨c, some i, ts⟩ :: l)
/-- an error that has landed in X's frame: sI is the state without it -/
structure Lnd (X : Cx) (pins : List (Addr × Obj)) (a : Addr) (B : Heap) (cls : Value) (d : Option Addr) (sI : Shared) (σ : L2.St) (H : Hp) (s : Shared) : Prop where
  I : Inv X pins σ H sI
  nb : ∀ b o, sI.heap.get? b = some o → b ∉ frs X.stack → B.get? b = some o
  up : sI.heap.UpToSlots s.heap
  fl : HandSPX.FlyingZ B (X.env :: X.outer) a (Zc cls d) s.heap
  na : H a = none
  os : s.os = sI.os
  ag : AllBare s.gens
section
variable {X : Cx} {pins : List (Addr × Obj)} {a : Addr} {B : Heap} {cls : Value} {d : Option Addr} {sI s : Shared} {σ : L2.St} {H : Hp}
theorem Lnd.inv (L : Lnd X pins a B cls d sI σ H s) : Inv X pins σ H s := L.I.landed L.nb L.fl.1 L.up L.os L.ag
/-- the error stands in the heap, the suite may begin -/
theorem Lnd.there (L : Lnd X pins a B cls d sI σ H s) (hf : X.env.frame = some X.env.locals) : ∃ oe, s.heap.get? a = some oe ∧ Zc cls d oe ∧ (∃ vs, oe.data = .fields vs) ∧ Inv (X.suite a ((a, oe) :: (X.pn ++ pins))) [] σ H s := by
  obtain ⟨oe, vs, h1, h2, h3⟩ := L.fl.there
  have far : a ∉ frs (X.env :: X.outer) := fun hm => by
    obtain ⟨_, o, e, hn⟩ := L.fl.2.2.1.mem hm
    rw [h1] at e; cases e
    exact hn _ h3
  have nl : a ≠ X.env.locals := fun z => far (List.mem_filterMap.mpr ⟨X.env, List.mem_cons_self, by rw [hf, z]⟩)
  have nf : a ∉ X.fs := fun hm => by
    obtain ⟨e, he, q⟩ := List.mem_filterMap.mp hm
    exact far (List.mem_filterMap.mpr ⟨e, List.mem_cons_of_mem _ he, q⟩)
  exact ⟨oe, h1, h2, ⟨vs, h3⟩, L.inv.suite h1 h3 L.na nl nf⟩
/-- what a clause names, and whether the error is one of it -/
theorem Lnd.test (L : Lnd X pins a B cls d sI σ H s) (hf : X.env.frame = some X.env.locals) {x : Str} {c : Value} {p : Pos} {b : Bool} (hc : Names X x c) (hb : PySem.W.exmOne X.K cls c = some b) {Q : Value → Shared → Prop} {E : Value → Shared → Prop}
    (k : PySem.W.Looks (model X.prog X.w) s.heap (excMatches (.ref a) c) b → Q c s) : wpAny (model X.prog X.w) (X.A.mark (some (.ref a))) (eval (.Name x p) X.env) Q E s := by
  obtain ⟨oe, h1, h2, _, S⟩ := L.there hf
  have lt : PySem.W.Looks (model X.prog X.w) s.heap (typeOf (.ref a)) cls := fun A Q E s' kk q => wpAny_typeOf_ref (kk _ _ h1) (by rw [h2.1]; exact q)
  have q := k (PySem.W.exm_one (M := model X.prog X.w) L.inv.kIn lt hb)
  obtain ⟨hg, hd, hm | ⟨hm, hv, hn⟩⟩ := hc
  · exact ld_glob (X := X.suite a ((a, oe) :: (X.pn ++ pins))) S hg hm q hd
  · exact ld_blt (X := X.suite a ((a, oe) :: (X.pn ++ pins))) S hg hm hv q hn hd
/-- a suite behind a landing, in a state that has landed once more -/
theorem Lnd.again (L : Lnd X pins a B cls d sI σ H s) {Q : Unit → Shared → Prop} {M : Model} {A : Around} {E : Value → Shared → Prop} (k : ∀ h, Lnd X pins a B cls d sI σ H { s with heap := h } → Q () { s with heap := h }) : wpAny M A (setFlight (.ref a) none) Q E s :=
  HandSPX.lands_againZ L.fl fun h f u => k h ⟨L.I, L.nb, L.up.trans u, f, L.na, L.os, L.ag⟩
variable {D : Ends} {Wout : WX}
/-- no clause is left -/
theorem Lnd.none (L : Lnd X pins a B cls d sI σ H s) (hs : X.stack = X.env :: X.outer) (hf : X.env.frame = some X.env.locals) (tk : Takes X Wout) (h : Wout cls d σ H) : wpAny (model X.prog X.w) X.A (handleBy (.ref a) X.env []) (SP X pins D) X.xe s := by
  refine wpAny_handleBy_nil ?_
  obtain ⟨_, _, _, oe, vs, T, _, _, he, _, hd, h1, _⟩ := id L.fl
  have fin : wpAny (model X.prog X.w) X.A (setFlight (.ref a) X.env.frame) (fun _ s4 => wpAny (model X.prog X.w) X.A (throw (.ref a) : Sem Flow) (SP X pins D) X.xe s4) X.xe s := by
    rw [hf]
    exact HandSPX.setFlight_upZ L.fl fun h4 hh up4 => wpAny_throw (tk _ _ ⟨a, B, sI, pins, σ, H, cls, d, rfl, L.I, L.nb, L.up.trans up4, .inr (.inr (by rw [hs]; exact hh)), L.na, L.os, L.ag, h⟩)
  unfold PySem.passOn
  refine wpAny_bind (wpAny_field he hd h1 ?_)
  rw [if_neg (show ¬ ((Value.ref T == Value.none) = true) from by simp)]
  first
    | exact wpAny_bind (wpAny_pure (wpAny_bind fin))
    | exact wpAny_bind fin
theorem clauses (hs : X.stack = X.env :: X.outer) (hf : X.env.frame = some X.env.locals) (hN : X.N.Nodup) (ok : X.Ok) (tk : Takes X Wout) {hds : List ExceptHandler} {l : List Hd} (hh : HdsA X hds l) : ∀ s, Lnd X pins a B cls d sI σ H s → wManyA X.K Wout D l cls d σ H →
    wpAny (model X.prog X.w) X.A (handleBy (.ref a) X.env hds) (SP X pins D) X.xe s := by
  induction hh with
  | nil => exact fun s L w => L.none hs hf tk w
  | @one x c ts b₀ b p p' hs' l hc hsu r ih =>
    intro s L ⟨t, e, yes, no⟩
    refine wpAny_handleBy_cons (codeAny_handlers_test (L.test hf hc e fun lk => lk.here ?_)) (by intro q; cases q)
    cases t with
    | false => exact ih s L (no rfl)
    | true =>
      refine codeAny_handlers_suite (L.again fun h4 L4 => ?_)
      obtain ⟨oe, _, z, v, S⟩ := L4.there hf
      refine wpAny_mono ((hsu a oe cls d (X.pn ++ pins) z v).run [] _ _ H _ S (yes rfl a L.na)) (fun f s6 q => ?_) fun _ _ z => z.elim
      cases f with
      | next => obtain ⟨σ6, H6, S6, q⟩ := q; exact ⟨_, _, S6.unsuite ok, q⟩
      | brk => obtain ⟨σ6, H6, S6, q⟩ := q; exact ⟨_, _, S6.unsuite ok, q⟩
      | cont => obtain ⟨σ6, H6, S6, q⟩ := q; exact ⟨_, _, S6.unsuite ok, q⟩
      | ret u => obtain ⟨v6, σ6, H6, S6, r6, q⟩ := q; exact ⟨_, _, _, S6.unsuite ok, r6, q⟩
  | @as x n i c ts b₀ b p p' hs' l hi hn hc hsu r ih =>
    intro s L ⟨t, e, yes, no⟩
    refine wpAny_handleBy_cons (codeAny_handlers_test (L.test hf hc e fun lk => lk.here ?_)) (by intro q; cases q)
    cases t with
    | false => exact ih s L (no rfl)
    | true =>
      refine codeAny_handlers_suite_as (L.again fun h4 L4 => ?_)
      obtain ⟨oe, _, z, v, S⟩ := L4.there hf
      refine store_ok (X := X.suite a ((a, oe) :: (X.pn ++ pins))) (v := .ref a) S hN hi (.inl hn) rfl (fun s5 S5 => ?_) (.inr hn)
      refine wpAny_mono ((hsu a oe cls d (X.pn ++ pins) z v).run [] _ _ H _ S5 (yes rfl a L.na)) (fun f s6 q => ?_) fun _ _ z => z.elim
      have gone : ∀ {σ6 : L2.St} {H6 : Hp} {Q : Shared → Prop}, Inv (X.suite a ((a, oe) :: (X.pn ++ pins))) [] σ6 H6 s6 → (∀ s7, Inv X pins (σ6.set i Option.none) H6 s7 → Q s7) →
          wpAny (model X.prog X.w) X.A (do bindName X.env n .none; unbindBehindTheSuite X.env n p') (fun _ s7 => Q s7) X.xe s6 := fun S6 hq => gone_ok (S6.unsuite ok) hN hi hn hq
      cases f with
      | next => obtain ⟨σ6, H6, S6, q⟩ := q; exact gone S6 fun s7 J => ⟨_, _, J, q⟩
      | brk => obtain ⟨σ6, H6, S6, q⟩ := q; exact gone S6 fun s7 J => ⟨_, _, J, q⟩
      | cont => obtain ⟨σ6, H6, S6, q⟩ := q; exact gone S6 fun s7 J => ⟨_, _, J, q⟩
      | ret u => obtain ⟨v6, σ6, H6, S6, r6, q⟩ := q; exact gone S6 fun s7 J => ⟨_, _, _, J, r6, q⟩
end
/-! told without places -/
section
variable {K : PySem.W.Frag} {x : Xc} {μ μw : MEnv} {o : MOut} {tw : WX → TS} {ts : Addr → Value → Option Addr → TS} {Wout : WX} {c : Value} {i : Nat} {l : List Hd}
/-- an error x that leaves μw at the slots is caught by the clauses -/
def Catch (K : PySem.W.Frag) (x : Xc) (Wout : WX) (μw : MEnv) (o : MOut) (l : List Hd) : Prop := ∀ (ρ : Env) (F H : Hp) (D : Ends), Got K ρ F H o.En D → ∀ σ' F' H' ρ' dx v, Ok K σ' F' H' ρ' → Ab ρ' μw → Step ρ F H ρ' F' H' → H' dx = none → Rep K F' x.dv v →
  wManyA K Wout D l (.ref x.C) (some dx) σ' (upd H' dx (.xd [(x.f, v)]))
end
def exmF (K : PySem.W.Frag) (a b : Str) : Bool := PySem.W.exmOne K (.ref (He.ga K a)) (.ref (He.ga K b)) == some false
end Fw

set_option Elab.async false
set_option linter.all false
namespace Fw
/-- an instance, a number, a text, or None -/
inductive Uv (α : Type) where
  | obj (a : α) | int (i : Int) | str (s : String) | non
def Uv.ofO {α : Type} : Option α → Uv α
  | some a => .obj a
  | none => .non
/-- == of two that are alike -/
def Uv.eqR {α : Type} (f : α → α → R Bool) : Uv α → Uv α → R Bool
  | .obj a, .obj b => f a b
  | .int i, .int j => .ok (decide (i = j))
  | .str s, .str t => .ok (decide (s = t))
  | .non, .non => .ok true
  | _, _ => .bad
end Fw

set_option Elab.async false
set_option linter.all false
set_option maxRecDepth 100000
namespace Fw
variable [TbC]
open PySem PySem.Spec L2
open PyProof.Rows hiding St
/-! an instance, or a number, a text, None: told, and compared -/
def eU {α : Type} (e : α → D) : Uv α → D
  | .obj a => e a
  | .int i => .int i
  | .str s => eS s
  | .non => .non
def rOr (r1 r2 : R2) : R2 := fun x y H Q => r1 x y H Q ∨ r2 x y H Q
section
variable {K : PySem.W.Frag} {q : Bool} {ta tb : TE} {μ μ1 μ2 : MEnv} {C : Addr} {fs : List (Str × D)} {d e : D} {CF : FC} {CE : FX} {E : XK} {neg b u : Bool} {r r1 r2 : R2} {α : Type} {ee : α → D}
/-- the relation gives the bool u for the data d and e -/
def RB (K : PySem.W.Frag) (r : R2) (d e : D) (u : Bool) (μ2 : MEnv) : Prop := ∀ σ F H ρ x y Q, Ok K σ F H ρ → Ab ρ μ2 → Rep K F d x → Rep K F e y → (∀ F' H' ρ', Ok K σ F' H' ρ' → Step ρ F H ρ' F' H' → Ab ρ' μ2 → Q (.bl u) H') → r x y H Q
end
/-! sum of a pair -/
def rSumT (K : PySem.W.Frag) : List V → Hp → VK → Prop := fun vs H Q => ∃ (a : Addr) (ns : List Int), vs = [V.ref a] ∧ SqT K H a (ns.map V.int) ∧ Q (.int ns.sum) H
end Fw

set_option Elab.async false
set_option linter.all false
set_option maxRecDepth 100000
set_option maxHeartbeats 2000000
/-! Lambdas handed to a def that catches. -/
namespace Fw
open PySem L2
variable [TbC]
section
variable {X : Cx} {A : Around} {outer : List PySem.Env} {s : Shared} {H : Hp} {E : XK} {scope : Scope} {f c' : Addr}
end
section
variable {K : PySem.W.Frag} {σ σf σf' : St} {F H F' H' : Hp} {ρ ρf ρf' : Env}
/-- a step of other slots, whose things are apart, keeps these -/
theorem frame (ok : Ok K σ F H ρ) (ap : ∀ x ∈ owns ρ, x ∉ owns ρf) (st : Step ρf F H ρf' F' H') (okf : Ok K σf' F' H' ρf') : Ok K σ F' H' ρ ∧ ∀ x ∈ owns ρ, x ∉ owns ρf' := by
  refine ⟨⟨okf.sub, ok.len, fun i s e => ?_, ok.nd, okf.tb, okf.nf⟩, fun x hx m => ?_⟩
  · obtain ⟨v, h1, h2⟩ := ok.at_ i s e
    refine ⟨v, h1, ?_⟩
    cases s with
    | v d => exact Rep.mono st.f h2
    | o a c => exact st.free ok.tb h2 fun x hx => ap x (mem_in e hx)
  · rcases st.w x m with z | z
    · exact ap x hx z
    · obtain ⟨_, o, ho⟩ := ok.own hx
      rw [z] at ho; cases ho
end
/-! ### the call of a lambda, in the def that got it: what it lets out may look at the slots -/
section
open LamX PySem.Spec PyProof.Rows
variable {X : Cx} {pins : List (Addr × Obj)} {σ : L2.St} {H : Hp} {s : Shared} {scope sg : Scope} {f g c' : Addr} {cdg pm ctv : Value} {params : Arguments} {body : Expr} {k i : Nat} {Ng : List Str} {a qg : Str} {Eg : XK} {CXg : CXT} {pn : List (Addr × Obj)} {xe : Value → Shared → Prop} {W : WX} {tb : XK → TE} {p1 p2 : Pos}
/-- the code's name of the lambdas that X makes -/
abbrev lamQ (X : Cx) : Str := X.env.qual ++ "<lambda>"
abbrev gCx (X : Cx) (CXg : CXT) (Ng : List Str) (qg : Str) (sg : Scope) (g : Addr) (cdg : Value) (s : Shared) (H : Hp) (Eg : XK) (pn : List (Addr × Obj)) (xe : Value → Shared → Prop) : Cx := (cxOf CXg X.prog X.w X.K X.mg X.base Ng qg sg g cdg X.A X.stack s H Eg).tr pn xe
abbrev lamObj (X : Cx) (scope : Scope) (params : Arguments) (body : Expr) (pm : Value) (c' : Addr) (ctv : Value) : Obj := PySem.W.kla_obj "<lambda>" (lamQ X) params body scope (cloFrom X.env.cells scope.names []) pm c' ctv
end
end Fw

set_option Elab.async false
set_option linter.all false
set_option maxRecDepth 100000
set_option maxHeartbeats 2000000
/-! A def that catches, walked beside the slots of the one that handed it a lambda. -/
namespace Fw
open PySem L2
variable [TbC]
/-! ### a walk beside what stands in other slots -/
abbrev Gho := Hp → Hp → List Addr → Prop
/-- it stands while slots change -/
def GSt (K : PySem.W.Frag) (G : Gho) : Prop := ∀ {τ τ' : St} {ρ ρ' : Env} {F H F' H' : Hp}, Ok K τ F H ρ → G F H (owns ρ) → Step ρ F H ρ' F' H' → Ok K τ' F' H' ρ' → G F' H' (owns ρ')
structure GotG (K : PySem.W.Frag) (E : En) (G : Gho) (D : Ends) : Prop where
  nx : ∀ σ' F' H' ρ', Ok K σ' F' H' ρ' → G F' H' (owns ρ') → E.nx ρ' → D.nx σ' H'
  rt : ∀ s v σ' F' H' ρ', Ok K σ' F' H' ρ' → RsOk K F' H' s v → G F' H' (owns ρ') → E.rt s ρ' → D.rt v H'
  bk : ∀ σ' F' H' ρ', Ok K σ' F' H' ρ' → G F' H' (owns ρ') → E.bk ρ' → D.bk σ' H'
  ct : ∀ σ' F' H' ρ', Ok K σ' F' H' ρ' → G F' H' (owns ρ') → E.ct ρ' → D.ct σ' H'
section
variable {K : PySem.W.Frag} {σ : St} {ρ : Env} {F H : Hp} {E : En} {G G' G1 G2 : Gho} {t u : TS} {μ μ1 μw : MEnv} {o : MOut} {x : Xc} {W : WX}
def XG (K : PySem.W.Frag) (ts : TS) (μ : MEnv) (o : MOut) (G G' : Gho) : Prop := ∀ ρ, Ab ρ μ → ∀ (σ : St) (F H : Hp) (D : Ends), Ok K σ F H ρ → G F H (owns ρ) → GotG K o.En G' D → ts D σ H
def XRG (K : PySem.W.Frag) (ts : TS) (x : Xc) (W : WX) (μ μw : MEnv) (G G' : Gho) : Prop := ∀ ρ, Ab ρ μ → ∀ (σ : St) (F H : Hp) (D : Ends), Ok K σ F H ρ → G F H (owns ρ) →
  (∀ σ' F' H' ρ' dx v, Ok K σ' F' H' ρ' → Ab ρ' μw → G' F' H' (owns ρ') → H' dx = none → Rep K F' x.dv v → W (.ref x.C) (some dx) σ' (upd H' dx (.xd [(x.f, v)]))) → ts D σ H
variable {tw : WX → TS} {l : List Hd} {Wout : WX}
/-! ### the maker's slots -/
def MGho (K : PySem.W.Frag) (σ : St) (ρ0 : Env) (F0 H0 : Hp) (c' : Addr) (q : Str) (μ : MEnv) : Gho := fun F H A => ∃ ρ, Ok K σ F H ρ ∧ Ab ρ μ ∧ Step ρ0 F0 H0 ρ F H ∧ (∀ x ∈ owns ρ, x ∉ A) ∧ (∀ x ∈ A, H0 x = none ∨ x ∈ owns ρ0) ∧ H c' = some (LamX.CodeO c' q)
/-! ### the lambda's call -/
def tAct (i : Nat) (f c' : Addr) (q : Str) (tl : XK → Hp → VK → Prop) (W : WX) : TE := fun τ G Q => τ[i]? = some (some (.ref f)) ∧ G c' = some (LamX.CodeO c' q) ∧ tl (WE W τ) G Q
/-- the call gives something -/
def LOk (K : PySem.W.Frag) (σ : St) (tl : XK → Hp → VK → Prop) (μ μ' : MEnv) : Prop := ∀ (E : XK) (ρ : Env) (F H : Hp) (Q : VK), Ab ρ μ → Ok K σ F H ρ → (∀ v F' H' ρ', Ok K σ F' H' ρ' → Step ρ F H ρ' F' H' → Ab ρ' μ' → Q v H') → tl E H Q
/-- the call lets x out -/
def LEr (K : PySem.W.Frag) (σ : St) (tl : XK → Hp → VK → Prop) (x : Xc) (μ μ' : MEnv) : Prop := ∀ (E : XK) (ρ : Env) (F H : Hp) (Q : VK), Ab ρ μ → Ok K σ F H ρ →
  (∀ F' H' ρ' dx v, Ok K σ F' H' ρ' → Step ρ F H ρ' F' H' → Ab ρ' μ' → H' dx = none → Rep K F' x.dv v → E (.ref x.C) (some dx) (upd H' dx (.xd [(x.f, v)]))) → tl E H Q
variable {ρ0 : Env} {F0 H0 : Hp} {f c' : Addr} {q : Str} {tl : XK → Hp → VK → Prop} {μm μm' : MEnv} {i : Nat}
/-! ### the def's promise -/
/-- what the call of the lambda gives: r -/
def LTold (K : PySem.W.Frag) (σ : St) (tl : XK → Hp → VK → Prop) (r : R Unit) (μ μ' : MEnv) : Prop := (r = .ok () ∧ LOk K σ tl μ μ') ∨ ∃ c v, r = .err c v ∧ LEr K σ tl (xc K c v) μ μ'
/-- C r d: the def answers d to a lambda whose call gives r -/
def LamSp (K : PySem.W.Frag) (C : R Unit → D → Prop) (c' : Addr) (q : Str) (tl : XK → Hp → VK → Prop) (H : Hp) (Q : VK) : Prop := H c' = some (LamX.CodeO c' q) ∧ ∃ (σ : St) (ρ : Env) (F : Hp) (μ μ' : MEnv) (r : R Unit) (d : D), Ok K σ F H ρ ∧ Ab ρ μ ∧ LTold K σ tl r μ μ' ∧ C r d ∧
  ∀ F' H' ρ' v, Ok K σ F' H' ρ' → Step ρ F H ρ' F' H' → Ab ρ' μ' → Rep K F' d v → Q v H'
/-! ### the call with a lambda -/
def tLamC (q : Str) (C : R Unit → D → Prop) (K : PySem.W.Frag) (t : XK → TE) : TE := fun σ H Q => LamX.Tabs TbC.T H ∧ ∀ (c' : Addr) (H1 : Hp), (∀ b o, H b = some o → Kp H1 b o) → LamX.Tabs TbC.T H1 → H1 c' = some (LamX.CodeO c' q) → LamSp K C c' q (fun E H' Q' => t E σ H' Q') H1 Q
end
/-! ### in the text -/
section
open LamX PySem.Spec PyProof.Rows
/-- a def that catches what the lambda lets out: body, run over what is told of the lambda -/
def Gives (P : Program) (w : World) (K : PySem.W.Frag) (mg : Str → Option Value) (base : Heap) (k : Nat) (Ng : List Str) (x a : Str) (sg : Scope) (g : Addr) (bg : List Stmt) (C : R Unit → D → Prop) : Prop :=
  ∀ (cdg : Value) (A : Around) (outer : List PySem.Env) (s : Shared) (H : Hp) (f c' : Addr) (q : Str) (tl : XK → Hp → VK → Prop) (Q : VK), Rg k (A.deeper (envOfC x sg s.heap.objs.size g cdg)) →
    (∀ (W : WX) (pn : List (Addr × Obj)) (xe : Value → Shared → Prop) (p1 p2 : Pos), Takes ((cxOf C8.CX0 P w K mg base Ng x sg g cdg A outer s H C8.E0).tr pn xe) W → PE ((cxOf C8.CX0 P w K mg base Ng x sg g cdg A outer s H C8.E0).tr pn xe) (.Call (.Name a p1) [] [] p2) (tAct 0 f c' q tl W)) →
    LamSp K C c' q tl H Q → ∃ t, PSs (cxOf C8.CX0 P w K mg base Ng x sg g cdg A outer s H C8.E0).nox bg t ∧ t { nx := fun _ H' => Q .non H', rt := Q } (L2.start Ng [.ref f]) H
/-- what is known of a def that is handed a lambda -/
structure CalL (P : Program) (w : World) (K : PySem.W.Frag) (mg : Str → Option Value) (base : Heap) (k : Nat) (x a : Str) (C : R Unit → D → Prop) : Prop where
  g : mg x = some (.ref (He.ga K x))
  kp : PySem.W.keepIn K (.ref (He.ga K x)) = true
  ok : ∃ (pg : Arguments) (bg : List Stmt) (sg : Scope) (dV kV doc pm cdv ct oc : Value) (an od : Option Addr) (osl : Array (Option Value)) (Ng : List Str) (x0 : Str),
    K.lookup (He.ga K x) = some ⟨oc, od, .func (PySem.W.fnOf x0 x0 pg bg sg dV kV doc pm an cdv ct), osl⟩ ∧ PySem.W.codeIn K cdv x0 = true ∧ L2.Binds K (PySem.W.fnOf x0 x0 pg bg sg dV kV doc pm an cdv ct) [a] [] ∧ FnScope Ng [a] sg ∧ Ng[0]? = some a ∧ Vis sg a ∧ Gives P w K mg base k Ng x0 a sg (He.ga K x) bg C
section
variable {X : Cx} {k kb : Nat} {x a : Str} {c P : Addr} {C : R Unit → D → Prop} {params : Arguments} {body : Expr} {scope : Scope} {t : XK → TE} {p lpos pos : Pos}
end
end
end Fw

set_option Elab.async false
set_option linter.all false
set_option maxRecDepth 100000
set_option maxHeartbeats 2000000
/-! Lambdas: what the head must tell, what the printed walks need. -/
namespace L2
open PySem PySem.Spec PyProof.Rows
section
variable {P : Program} {w : World} {K : PySem.W.Frag} {mg : Str → Option Value} {base : Heap} {x qual : Str} {params : Arguments} {body : List Stmt} {scope : Scope} {dvs : List V} {kws : List (Str × V)} {f : Addr} {fd : FuncData}
end
end L2
namespace Fw
open PySem L2
/-- a def's table, and the name of the lambdas that it makes -/
def tbOf (K : PySem.W.Frag) (tf : List (He.Defn × Str)) : List (Addr × Str) := tf.map fun p => ((He.cT K p.1).2, p.2)
def ndA (l : List Addr) : Bool := decide l.Nodup
section
open PySem.W
/-- hookE, empty tables left out -/
structure SaysL (fa : List He.Fa) (fn : List He.DefD) (tf : List He.Defn) (ex : Frag → Bool) (h : Heap) (K : Frag) : Prop where
  d : He.SaysD fa fn K
  more : ex K = true
  hd : ∀ p ∈ tf, codeHdIn K (He.cT K p).1 (He.cT K p).2 = true
  out : ∀ p ∈ tf, K.lookup (He.cT K p).2 = none
  empty : ∀ p ∈ tf, h.get? (He.cT K p).2 = some { cls := .none, data := .fields #[] }
def obL (n : Nat) (fa : List He.Fa) (fn : List He.DefD) (tf : List He.Defn) (ex : Frag → Bool) (g : Addr → Option Obj) : He.AlD × Bool := (He.obsD fa fn (He.frT g (asE g n)), ex (He.frT g (asE g n)) && He.tabsB g tf (He.frT g (asE g n)))
theorem saysL_of {n : Nat} {fa : List He.Fa} {fn : List He.DefD} {tf : List He.Defn} {ex : Frag → Bool} {h : Heap} (e : obL n fa fn tf ex h.get? = (He.valD fn, true)) : SaysL fa fn tf ex h (He.frT h.get? (asE h.get? n)) := by
  have e1 : He.obsD fa fn (He.frT h.get? (asE h.get? n)) = He.valD fn := congrArg (fun z : He.AlD × Bool => z.1) e
  have e2 : (ex (He.frT h.get? (asE h.get? n)) && He.tabsB h.get? tf (He.frT h.get? (asE h.get? n))) = true := congrArg (fun z : He.AlD × Bool => z.2) e
  obtain ⟨h1, h2⟩ := He.ba e2
  have key : ∀ p ∈ tf, codeHdIn (He.frT h.get? (asE h.get? n)) (He.cT (He.frT h.get? (asE h.get? n)) p).1 (He.cT (He.frT h.get? (asE h.get? n)) p).2 = true ∧ ∃ o, h.get? (He.cT (He.frT h.get? (asE h.get? n)) p).2 = some o ∧ He.emptyTab o = true := fun p hp => by
    obtain ⟨h3, h4⟩ := He.ba (List.all_eq_true.mp h2 p hp)
    refine ⟨h3, ?_⟩
    cases q : h.get? (He.cT (He.frT h.get? (asE h.get? n)) p).2 with
    | none => rw [q] at h4; cases h4
    | some o => rw [q] at h4; exact ⟨o, rfl, h4⟩
  exact ⟨e1, h1, fun p hp => (key p hp).1, fun p hp => by
    obtain ⟨_, o, q, z⟩ := key p hp
    exact He.frT_none q z, fun p hp => by
    obtain ⟨_, o, q, z⟩ := key p hp
    rw [q, He.emptyTab_eq z]⟩
def hookL (n : Nat) (fa : List He.Fa) (fn : List He.DefD) (tf : List He.Defn) (ex : Frag → Bool) : Hook where
  α := He.AlD × Bool
  obs := fun s => obL n fa fn tf ex s.heap.get?
  val := fun _ => (He.valD fn, true)
  says := fun _ h => ∃ K : Frag, K.In h ∧ SaysL fa fn tf ex h K
  of := fun _ _ e => ⟨_, He.frT_in, saysL_of e⟩
  keeps := fun _ _ _ ⟨K, hK, c⟩ k => ⟨K, Frag.In.keeps hK k, ⟨c.d, c.more, c.hd, c.out, fun p hp => k _ _ (c.empty p hp)⟩⟩
end
variable [TbC]
section
variable {K : PySem.W.Frag} {σ : St} {tl : XK → Hp → VK → Prop} {r : R Unit} {μ μ' : MEnv} {c : String} {v : Pv}
theorem LTold.ok (h : LTold K σ tl r μ μ') (e : r = .ok ()) : LOk K σ tl μ μ' := by
  subst e
  rcases h with ⟨_, h⟩ | ⟨_, _, z, _⟩
  · exact h
  · cases z
theorem LTold.er (h : LTold K σ tl r μ μ') (e : r = .err c v) : LEr K σ tl (xc K c v) μ μ' := by
  subst e
  rcases h with ⟨z, _⟩ | ⟨_, _, z, h⟩
  · cases z
  · cases z; exact h
end
/-! ### errors of calls with keywords that are no quiet ones -/
section
variable {K : PySem.W.Frag} {x : Xc} {W : WX} {E : XK} {μ μ1 μ2 : MEnv} {q1 q2 : Bool} {ta tk : TA} {C : FC} {CE : FX} {A : Addr}
end
end Fw

set_option Elab.async false
set_option linter.all false
set_option maxRecDepth 100000
set_option maxHeartbeats 2000000
/-! The end of a law whose defs are told where nothing is being shown. -/
namespace Fw
open PySem PySem.Spec PyProof.Rows L2 LamX
/-- what is tracked at the law's call: the tables, and the script (its object of) if K does not know it -/
def lawH (K : PySem.W.Frag) (ts : List Addr) (a : Addr) (of : Obj) (xs : List V) : Hp := fun b => if b ∈ ts then some (.tbl #[]) else if b = a ∧ K.lookup a = none then some (.frz of (.lst xs)) else none
section
variable {K : PySem.W.Frag} {ts : List Addr} {a b : Addr} {of : Obj} {xs : List V}
theorem lawH_tab (h : b ∈ ts) : lawH K ts a of xs b = some (.tbl #[]) := if_pos h
theorem lawH_scr (h : a ∉ ts) (hk : K.lookup a = none) : lawH K ts a of xs a = some (.frz of (.lst xs)) := (if_neg h).trans (if_pos ⟨rfl, hk⟩)
theorem lawH_cases {u : HO} (h : lawH K ts a of xs b = some u) : (b ∈ ts ∧ u = .tbl #[]) ∨ (b = a ∧ K.lookup a = none ∧ u = .frz of (.lst xs)) := by
  unfold lawH at h
  split at h
  · rename_i m
    exact .inl ⟨m, (Option.some.inj h).symm⟩
  · split at h
    · rename_i m
      exact .inr ⟨m.1, m.2, (Option.some.inj h).symm⟩
    · cases h
theorem lawH_none (h1 : b ∉ ts) (h2 : b = a → K.lookup a ≠ none) : lawH K ts a of xs b = none := (if_neg h1).trans (if_neg fun z => h2 z.1 z.2)
end
abbrev emptyT : Obj := { cls := .none, data := .fields #[] }
abbrev scrO (vs : List Value) : Obj := { cls := .type "list", data := .seq vs.toArray }
/-- the law's def, called by the claim -/
theorem callG {P : Program} {w : World} {K : PySem.W.Frag} {mg mb : Str → Option Value} {k : Nat} {fa a : Addr} {cs : List (Addr × Addr)} {fd : FuncData} {x : Str} {sp : Sp} {s : Shared} {vs : List Value} {ns : List Int}
    (KX : K.In s.heap) (ng : s.heap.Ns mainGlobals mg) (nb : s.heap.Ns builtinsNs mb) (bb : ∀ x : Str, x ≠ "__name__" → mb x = bootBuiltins x) (lim : s.heap.NoLimit) (hgen : s.gens = #[])
    (isT : ∀ p ∈ cs, s.heap.get? p.2 = some emptyT) (nT : ∀ p ∈ cs, K.lookup p.2 = none) (hC : ∀ p ∈ cs, PySem.W.CodeHd s.heap p.1 p.2)
    (bm : ∃ (m : Addr) (o : Obj), mg "__builtins__" = some (.ref m) ∧ m ≠ builtinsNs ∧ s.heap.get? m = some o ∧ o.cls = .type "module" ∧ o.dict = some builtinsNs ∧ o.data = .plain)
    (ha : s.heap.get? a = some (scrO vs)) (hi : IntsAre vs ns) (hl : ns.length ≤ sizeLine) (hr : Rg k callerA)
    (F : ∀ base : Heap, K.In base → base.Ns mainGlobals mg → (∀ p ∈ cs, TabB base mg p.1 p.2) → FnG P w K mg base L2.CX0 k fa fd [x] sp) (bind : ∀ (s : Shared) (u : Value), BindsTo s fd ⟨[u], []⟩ [(x, u)])
    (hsp : ∀ H : Hp, (∀ p ∈ cs, H p.2 = some (.tbl #[])) → SqL K H a (ns.map V.int) → sp [.ref a] H (fun v _ => v = .bl true) fun _ _ _ => False) :
    codeAny (model P w) callerA (.call (.ref fa) ⟨[.ref a], []⟩) (fun r s' => r = .ok (.ret (.bool true)) ∧ OldK s.heap s'.heap ∧ s'.os = s.os ∧ AllBare s'.gens) s := by
  have rv := vals_ints hi
  have inT : ∀ {b : Addr}, b ∈ cs.map (·.2) → s.heap.get? b = some emptyT ∧ K.lookup b = none ∧ ∃ p ∈ cs, p.2 = b := by
    intro b hb
    obtain ⟨p, hp, rfl⟩ := List.mem_map.mp hb
    exact ⟨isT p hp, nT p hp, p, hp, rfl⟩
  have aT : a ∉ cs.map (·.2) := by
    intro m
    have e := (inT m).1
    rw [ha] at e
    cases e
  obtain ⟨H, eH⟩ : ∃ H, H = lawH K (cs.map (·.2)) a (scrO vs) (ns.map V.int) := ⟨_, rfl⟩
  have memT : ∀ p ∈ cs, H p.2 = some (.tbl #[]) := fun p hp => by
    rw [eH]
    exact lawH_tab (List.mem_map_of_mem hp)
  -- nothing of another kind is tracked
  have off : ∀ {b : Addr} {o : Obj}, s.heap.get? b = some o → o ≠ emptyT → o ≠ scrO vs → H b = none := by
    intro b o e h1 h2
    rw [eH]
    refine lawH_none (fun m => h1 ?_) fun z _ => h2 ?_
    · exact Option.some.inj (e.symm.trans (inT m).1)
    · rw [z, ha] at e
      exact (Option.some.inj e).symm
  have keep : ∀ {b : Addr} {o : Obj}, s.heap.get? b = some o → o ≠ emptyT → o ≠ scrO vs → (hidT s.heap H).get? b = some o := fun e h1 h2 => hidT_get e (off e h1 h2)
  have keepN : ∀ {b : Addr} {m : Str → Option Value}, s.heap.Ns b m → (hidT s.heap H).Ns b m := by
    rintro b m ⟨o, es, ep, e, d, r⟩
    exact ⟨o, es, ep, keep e (fun z => by rw [z] at d; cases d) (fun z => by rw [z] at d; cases d), d, r⟩
  have KB : K.In (hidT s.heap H) := by
    intro b o e
    refine hidT_get (KX b o e) ?_
    rw [eH]
    refine lawH_none (fun m => ?_) fun z hz => ?_
    · rw [(inT m).2.1] at e; cases e
    · rw [z, hz] at e; cases e
  obtain ⟨mc, l1, l2⟩ := lim
  have MM : L2.Mod K mg (hidT s.heap H) := ⟨KB, keepN ng, ⟨mb, keepN nb, bb⟩, mc, keepN l1, l2⟩
  have notG : ∀ {b : Addr} {o : Obj}, s.heap.get? b = some o → (∀ es ep, o.data ≠ .dict es ep) → b ≠ mainGlobals := by
    rintro b o e h rfl
    obtain ⟨o2, es, ep, e2, d, _⟩ := ng
    rw [e] at e2
    cases e2
    exact h _ _ d
  have TB : ∀ p ∈ cs, TabB (hidT s.heap H) mg p.1 p.2 := by
    intro p hp
    have ep := isT p hp
    refine ⟨?_, ?_, fun z => notG ep (fun _ _ z => by cases z) z.symm⟩
    · obtain ⟨o, us, fl, tf, gs, tg, iF, tx, tt, g1, g2, rest⟩ := hC p hp
      exact ⟨o, us, fl, tf, gs, tg, iF, tx, tt, keep g1 (fun z => by rw [z] at g2; cases g2) (fun z => by rw [z] at g2; exact absurd (Value.type.inj g2) (by decide)), g2, rest⟩
    · obtain ⟨m, o, b1, b2, b3, b4, b5, b6⟩ := bm
      have k3 := keep b3 (fun z => by rw [z] at b4; cases b4) (fun z => by rw [z] at b4; exact absurd (Value.type.inj b4) (by decide))
      exact ⟨m, o, b1, b2, notG b3 (fun _ _ z => by rw [b6] at z; cases z), (fun z => by rw [z, ep] at b3; cases b3; cases b4), k3, b4, b5, b6⟩
  have HK : HOk P w H s.heap := by
    intro b u e
    rw [eH] at e
    rcases lawH_cases e with ⟨m, rfl⟩ | ⟨rfl, _, rfl⟩
    · exact (inT m).1
    · exact ⟨ha, by rw [List.length_map]; exact hl, vs, _, rv, ha⟩
  have SQ : SqL K H a (ns.map V.int) := by
    cases hk : K.lookup a with
    | none => exact .inl (.inr ⟨_, by rw [eH]; exact lawH_scr aT hk⟩)
    | some o =>
      have e := KX a o hk
      rw [ha] at e
      cases e
      exact .inr ⟨_, vs.toArray, _, hk, rfl, rfl, rfl, by rw [List.size_toArray, hi.length]; exact hl, by simpa using rv⟩
  have E : Env0 P w K mg (hidT s.heap H) callerA [] s H := ⟨rfl, MM, fun b o e => of_hidT e, Nat.le_of_eq (hidT_size _ _), trivial, fun b hb => absurd (show b ∈ ([] : List Addr) from hb) List.not_mem_nil, HK, .of_eq hgen⟩
  have run := (F _ KB MM.glob TB).run callerA [] s H ⟨[.ref a], []⟩ [.ref a] [.ref a] _ _ hr E (bind s (.ref a)) (.cons rfl .nil) (hsp H memT SQ)
  refine codeAny_mono run ?_
  rintro (e | _ | _ | _ | u) s' q
  · exact False.elim q
  · exact False.elim q
  · exact False.elim q
  · exact False.elim q
  obtain ⟨v, H', os, bare, un, hok, r, ev⟩ := q
  subst ev
  cases (show u = Value.bool true from r)
  have tabs : ∀ {b : Addr}, b ∈ cs.map (·.2) → ∃ more : Array Value, s'.heap.get? b = some { cls := .none, data := .fields more } := by
    intro b m
    obtain ⟨_, _, p, hp, rfl⟩ := inT m
    obtain ⟨more, z⟩ := un.tbls p.2 #[] (memT p hp)
    exact ⟨_, hok p.2 _ z⟩
  have same : ∀ {b : Addr} {o : Obj}, b ∉ cs.map (·.2) → s.heap.get? b = some o → s'.heap.get? b = some o := by
    intro b o m e
    cases z : H b with
    | none => exact un.keep b o e z (fun h => absurd (show b ∈ ([] : List Addr) from h) List.not_mem_nil) (by simp)
    | some u =>
      have z2 := z
      rw [eH] at z2
      rcases lawH_cases z2 with ⟨h, _⟩ | ⟨rfl, _, rfl⟩
      · exact (m h).elim
      · rw [ha] at e
        cases e
        exact (hok b _ (un.frzs b _ _ z)).1
  refine ⟨rfl, ⟨fun b o e => ?_, fun b o e => ?_⟩, os, bare⟩ <;> by_cases m : b ∈ cs.map (·.2)
  · obtain ⟨e0, _, p, hp, rfl⟩ := inT m
    obtain ⟨more, g⟩ := tabs m
    rw [e] at e0
    cases e0
    exact .inr (.inl ⟨((hC p hp).tab (isT p hp)).isCodeTable, rfl, #[], more, rfl, by rw [Array.empty_append]; exact g⟩)
  · exact .inl (same m e)
  · exact (tabs m).elim fun _ g => ⟨_, g⟩
  · exact ⟨o, same m e⟩
/-- what is known of the law's promise at the head's heap h -/
def LawG (l : PySem.W.OpenLaw) (w : World) (K : PySem.W.Frag) (k n : Nat) (x : Str) (mg : Str → Option Value) (fa : Addr) (h : Heap) : Prop :=
  ∃ (fd : FuncData) (cs : List (Addr × Addr)) (sp : Sp), (∀ p ∈ cs, h.get? p.2 = some emptyT) ∧ (∀ p ∈ cs, K.lookup p.2 = none) ∧ (∀ p ∈ cs, PySem.W.CodeHd h p.1 p.2) ∧ (∀ (s : Shared) (u : Value), BindsTo s fd ⟨[u], []⟩ [(x, u)]) ∧
    (∀ (H : Hp) (a : Addr) (ns : List Int), ns.length ≤ n → (∀ p ∈ cs, H p.2 = some (.tbl #[])) → SqL K H a (ns.map V.int) → sp [.ref a] H (fun v _ => v = .bl true) fun _ _ _ => False) ∧
    ∀ base : Heap, K.In base → base.Ns mainGlobals mg → (∀ p ∈ cs, TabB base mg p.1 p.2) → FnG l.prog w K mg base L2.CX0 k fa fd [x] sp
theorem walkG {l : PySem.W.OpenLaw} {n k : Nat} {q : Program} {loose : List Str} {XP : (Str → Option Value) → Heap → Prop} {YP : World → Heap → Prop} {d : DefRec} {x : Str}
    (hn : l.most = some n) (hn2 : n ≤ sizeLine) (hdf : d.params.defaults = []) (hr : Room k callerA)
    (F : ∀ (w : World) (mg : Str → Option Value) (fa : Addr) (h : Heap), YP w h → h.Ns mainGlobals mg → mg d.name = some (.ref fa) → ∃ K : PySem.W.Frag, K.In h ∧ LawG l w K k n x mg fa h) :
    PySem.W.WalkO q loose XP YP l.row.toRowW d [] (fun f vs => PySem.call f vs) := by
  refine Att.attach_callB hn hdf ?_
  intro w _ s mg mb fa _ _ _ _ a vs ns G Y _ _ _ hmg ho hi hl _ hg
  obtain ⟨K, KX, fd, cs, sp, isT, nT, hC, hb, hsp, hF⟩ := F w mg fa _ Y G.T.g hmg
  exact callG KX G.T.g G.T.b G.T.builtins G.T.nolimit hg isT nT hC G.T.bmain ho hi (Nat.le_trans hl hn2) ⟨hr, rfl⟩ hF hb fun H h1 h2 => hsp H a ns hl h1 h2
end Fw

set_option Elab.async false
set_option linter.all false
namespace Fw
/-- no dict in it, the texts of repr fit, and not too deep -/
def Av.okx : Nat → Av → Bool
  | _, .non => true
  | _, .bl _ => true
  | _, .int _ => true
  | _, .str _ => true
  | _, .txt a => a.fit
  | n + 1, .lst xs => xs.all (Av.okx n)
  | n + 1, .tup xs => xs.all (Av.okx n)
  | _, _ => false
def Av.ofO {α : Type} (f : α → Av) : Option α → Av
  | some y => f y
  | none => .non
@[simp] theorem Av.ofO_some {α : Type} (f : α → Av) (y : α) : Av.ofO f (some y) = f y := rfl
@[simp] theorem Av.ofO_none {α : Type} (f : α → Av) : Av.ofO f none = .non := rfl
/-- the comparison is told -/
def Av.okt (a b : Av) : Bool := a.okx 64 && (b.okx 64 && Av.cmpb a b)
/-- what the call of the one at x gives -/
def selR {α : Type} (x : Int) : List (R α) → R α
  | [] => .bad
  | a :: l => if x = 0 then a else selR (x - 1) l
end Fw

set_option Elab.async false
set_option linter.all false
set_option maxRecDepth 100000
/-! repr of a value of any type, errors that hold one, comparisons with such texts. -/
namespace Fw
variable [TbC]
open PySem L2 PySem.AX
section
variable {K : PySem.W.Frag} {G : Hp}
mutual
theorem dqA : ∀ {a : Av} {v : V}, Rep K G (eA a) v → Dq K G v (pdA a)
  | .non, _, .non => .non
  | .bl _, _, .bl b => .bl b
  | .int _, _, .int i => .int i
  | .str _, _, r => by
    unfold eA eS at r
    cases r
    exact .str _
  | .lst xs, _, .lst e r => .lst (SqL.of e) (dqAs r)
  | .tup xs, _, .tup e r => .tup (SqT.of e) (dqAs r)
  | .dct, _, .dct e r => by
    cases r
    exact .dct e
  | .txt _, _, r => by
    unfold eA at r
    cases r
    exact .str _
theorem dqAs : ∀ {xs : List Av} {vs : List V}, RepL K G (eAs xs) vs → DqAll K G vs (pdAs xs)
  | [], _, .nil => .nil
  | x :: xs, _, .cons a r => .cons (dqA a) (dqAs r)
end
end
section
variable {K : PySem.W.Frag} {q : Bool} {μ μ1 μ2 : MEnv} {te ta tb : TE} {a b : Av} {W : WX} {c : String}
end
end Fw

set_option Elab.async false
set_option linter.all false
set_option maxRecDepth 100000
/-! isinstance(e, C), e the own error that the suite holds; the rest of raising any value. -/
namespace L2
open PySem PySem.Spec PyProof.Rows PySem.AX
/-- what isinstance asks of an own error's class, beside Aec -/
structure XisT (K : PySem.W.Frag) (D : Addr) : Prop where
  ae : Aec K D
  ha : PySem.W.findIn K (.ref D) "__class__" = some (some (.builtin "object.__class__"))
  hn : PySem.W.specialIn K (.builtin "object.__class__") "__get__" = some (some (.builtin "getset_descriptor.__get__"))
  ht : PySem.W.takesIn K (.builtin "object.__class__") = some true
  hm : PySem.W.mroIn K D (.type "object") = some true
def rIsX (K : PySem.W.Frag) (a : Addr) (cls : Value) (d : Option Addr) : List V → Hp → VK → Prop := fun xs H Q => ∃ (c D dd : Addr) (fv : List (Str × V)) (b : Bool), xs = [.ref a, .ref c] ∧ cls = .ref D ∧ d = some dd ∧ H dd = some (.xd fv) ∧ XisT K D ∧
  PySem.W.kitOne K (.ref D) (.ref c) = some b ∧ Q (.bl b) H
end L2
namespace Fw
variable [TbC]
open PySem L2 PySem.AX
def xisB (K : PySem.W.Frag) (c : String) : Bool :=
  He.eqO (PySem.W.findIn K (.ref (He.ga K (Str.ofString c))) "__class__") (some (some (.builtin "object.__class__"))) && (He.eqO (PySem.W.specialIn K (.builtin "object.__class__") "__get__") (some (some (.builtin "getset_descriptor.__get__"))) &&
  (PySem.W.takesIn K (.builtin "object.__class__") == some true && PySem.W.mroIn K (He.ga K (Str.ofString c)) (.type "object") == some true))
def kitXB (K : PySem.W.Frag) (c x : String) (b : Bool) : Bool := PySem.W.kitOne K (.ref (He.ga K (Str.ofString c))) (.ref (He.ga K (Str.ofString x))) == some b
section
variable {K : PySem.W.Frag} {q : Bool} {μ μ1 : MEnv} {te : TE} {G C a dx : Addr} {f : Str} {b : Bool} {α : Type} {v : Av} {c c' : String}
end
/-! ### tuple(xs) -/
def rTupO (K : PySem.W.Frag) : List V → Hp → VK → Prop := fun xs H Q => ∃ p ys, xs = [.ref p] ∧ ((SqL K H p ys ∧ ∀ l, H l = none → Q (.ref l) (upd H l (.tup ys))) ∨ (SqT K H p ys ∧ Q (.ref p) H))
section
variable {K : PySem.W.Frag} {q : Bool} {μ μ1 : MEnv} {te : TE} {d : D} {ds : List D} {xs : List Av}
end
end Fw

set_option Elab.async false
set_option linter.all false
set_option maxRecDepth 100000
/-! A name that holds one of several defs, called in the body of a lambda. -/
namespace Fw
open PySem L2
variable [TbC]
/-- the i-th slot holds the def at f -/
def tAtV (i : Nat) (f : Addr) (t : TE) : TE := fun σ H Q => σ[i]? = some (some (.ref f)) ∧ t σ H Q
def tEi (ta tb : TE) : TE := fun σ H Q => ta σ H Q ∨ tb σ H Q
section
open PySem.Spec PyProof.Rows
variable {X : Cx} {K : PySem.W.Frag} {W : WX} {k i n : Nat} {ps ks : List Str} {sp : Sp} {x y : Str} {p pos : Pos} {e : Expr} {es : List Expr} {t tk : TA} {ta tb : TE} {dvs : List V} {kws : List Keyword}
end
/-- one of the defs, by its place -/
def eFV (K : PySem.W.Frag) (l : List Str) (x : Int) : D := .raw (.ref (He.ga K (l.getD x.toNat "")))
section
variable {K : PySem.W.Frag} {q : Bool} {ta tb te : TE} {μ μ1 μw : MEnv} {d : D} {i : Nat} {f : Addr} {x : Xc} {W : WX} {l : List Str} {y : Str} {z : Int}
end
end Fw

set_option Elab.async false
set_option linter.all false
set_option maxRecDepth 100000
set_option maxHeartbeats 2000000
/-! Tuples of any length: enumerate, zip, max, +; xs.count(k), xs.reverse(), xs.clear(). -/
namespace L2
open PySem PySem.Spec PyProof.Rows
/-- the tuple at a as it stands at each turn, each item in a new pair -/
def IteT (K : PySem.W.Frag) (a : Addr) : It :=
  ⟨fun i H => ∃ (xs : List V) (x : V), SqT K H a xs ∧ xs[i]? = some x, fun i H v H' => ∃ T x, v = .ref T ∧ H T = none ∧ H' = upd H T (.tup [.int (i : Nat), x]) ∧ ∀ xs, SqT K H a xs → xs[i]? = some x, fun i H => ∃ xs : List V, SqT K H a xs ∧ xs.length = i⟩
def iEnumT (K : PySem.W.Frag) (ta : TA) : TI := fun σ H R => ta σ H fun vs H1 => ∃ a xs, vs = [.ref a] ∧ SqT K H1 a xs ∧ R (IteT K a) H1
variable [Fw.TbC] in
/-- t + u, u not empty -/
def rCatQ (K : PySem.W.Frag) : R2 := fun x y H Q => ∃ a b xs ys, x = .ref a ∧ y = .ref b ∧ SqT K H a xs ∧ SqT K H b ys ∧ ys ≠ [] ∧ xs.length + ys.length ≤ sizeLine ∧ (xs = [] → Q (.ref b) H) ∧ (xs ≠ [] → ∀ p, H p = none → Q (.ref p) (upd H p (.tup (xs ++ ys))))
end L2
namespace Fw
open PySem L2
variable [TbC]
/-- tuples of any length -/
def eQ {α : Type} (e : α → D) (xs : List α) : D := .tup (xs.map e)
section
variable {K : PySem.W.Frag} {q : Bool} {ρ : Env} {μ μ1 μ2 : MEnv} {ts : TA} {ta tb te td : TE} {α β : Type} {e : α → D} {f : β → D} {xs zs : List α} {x : α} {d : D}
end
end Fw

set_option Elab.async false
set_option linter.all false
set_option maxRecDepth 100000
set_option maxHeartbeats 2000000
/-! zip of a list and a tuple, max of a tuple, xs.count(k), tuple(xs). -/
namespace L2
open PySem PySem.Spec PyProof.Rows
/-- the list at a and the tuple at b as they stand at each turn, the items in new pairs -/
def ItzM (K : PySem.W.Frag) (a b : Addr) : It :=
  ⟨fun i H => ∃ (xs ys : List V) (x y : V), SqL K H a xs ∧ SqT K H b ys ∧ xs[i]? = some x ∧ ys[i]? = some y,
    fun i H v H' => ∃ T x y, v = .ref T ∧ H T = none ∧ H' = upd H T (.tup [x, y]) ∧ (∀ xs, SqL K H a xs → xs[i]? = some x) ∧ (∀ ys, SqT K H b ys → ys[i]? = some y),
    fun i H => ∃ xs ys : List V, SqL K H a xs ∧ SqT K H b ys ∧ i ≤ xs.length ∧ i ≤ ys.length ∧ (i = xs.length ∨ i = ys.length)⟩
def iZipM (K : PySem.W.Frag) (ta : TA) : TI := fun σ H R => ta σ H fun vs H1 => ∃ a b xs ys, vs = [.ref a, .ref b] ∧ SqL K H1 a xs ∧ SqT K H1 b ys ∧ R (ItzM K a b) H1
end L2
namespace Fw
open PySem L2
variable [TbC]
/-! ### max(tuple, default=z) -/
abbrev rDflT (g : PyData → List PyData → PyData) (K : PySem.W.Frag) : List V → List V → Hp → VK → Prop := fun vs zs H Q => ∃ (a : Addr) (xs : List V) (ds : List PyData) (z : V),
  vs = [V.ref a] ∧ zs = [z] ∧ SqT K H a xs ∧ DpAll K H xs ds ∧ PySem.W.AlikeAll ds ∧ PyData.depthAll ds ≤ 60 ∧ (ds = [] → Q z H) ∧
  ∀ (y : PyData) (ys : List PyData) (i : Nat) (v : V), ds = y :: ys → xs[i]? = some v → ds[i]? = some (g y ys) → Q v H
section
variable {K : PySem.W.Frag} {q : Bool} {ρ : Env} {μ μ1 μ2 : MEnv} {ts : TA} {ta tb te td : TE} {α β : Type} {e : α → D} {f : β → D} {d : D}
/-! ### xs.count(k) -/
/-! ### tuple(xs) -/
/-! ### zip(list, tuple) -/
end
end Fw

set_option Elab.async false
set_option linter.all false
set_option maxRecDepth 100000
set_option maxHeartbeats 2000000
/-! Calls by names alone while keyword-only parameters lack; xs.reverse(), xs.clear(). -/
namespace Fw
open PySem L2
variable [TbC]
structure CalGD (P : Program) (w : World) (K : PySem.W.Frag) (mg : Str → Option Value) (base : Heap) (k : Nat) (x : Str) (ks : List Str) (π : List Nat) (dvs : List V) (ps : List Str) (sp : Sp) : Prop where
  ok : ∃ (fd : FuncData) (mv : List Value), FnG P w K mg base (L2.CX P w) k (He.ga K x) fd ps sp ∧ KBn K fd ps 0 ks (fun us ws => us ++ (permL π ws ++ mv)) (fun vs zs => vs ++ (permL π zs ++ dvs))
  g : mg x = some (.ref (He.ga K x))
  kp : PySem.W.keepIn K (.ref (He.ga K x)) = true
section
variable {X : Cx} {k : Nat} {ps ks : List Str} {sp : Sp} {x m : Str} {p pos apos : Pos} {o : Expr} {kws : List Keyword} {tk : TA} {ta : TE} {K : PySem.W.Frag} {π : List Nat} {dvs : List V}
end
section
variable {K : PySem.W.Frag} {μ : MEnv} {i : Nat} {α : Type} {e : α → D} {xs : List α} {tg : Option Addr}
end
end Fw

set_option Elab.async false
set_option linter.all false
namespace Fw
def lookK (kvs : List (Int × Int)) (k : Int) : Int := (lookZ kvs k).getD 0
/-- sorted(d, key=lambda o: d[o]) -/
def srtK (kvs : List (Int × Int)) : List Int := (keysZ kvs).mergeSort fun x y => decide (lookK kvs x ≤ lookK kvs y)
end Fw

set_option Elab.async false
set_option linter.all false
set_option maxRecDepth 100000
set_option maxHeartbeats 2000000
/-! sorted(d, key=lambda o: d[o]), d a dict of whole numbers to whole numbers. -/
namespace L2
open PySem PySem.Spec PyProof.Rows LamX
/-- the lambda's names: o its own, d captured -/
structure LamKey (sc scope : Scope) (d o : Str) : Prop where
  kind : scope.kind = .function
  co : scope.isCoroutine = false
  gen : scope.isGenerator = false
  loc : scope.names.lookup o = some .local
  fre : scope.names.lookup d = some .free
  nc : ∀ y ∈ scope.names, y.2 ≠ .cell
  frs : ∀ y ∈ scope.names, y.2 = .free → sc.names.lookup y.1 = some .cell ∨ sc.names.lookup y.1 = some .free
  cell : sc.names.lookup d = some .cell ∨ sc.names.lookup d = some .free
def lamKeyB (sc scope : Scope) (d o : Str) : Bool :=
  decide (scope.kind = .function) && !scope.isCoroutine && !scope.isGenerator && decide (scope.names.lookup o = some .local) && decide (scope.names.lookup d = some .free) && (scope.names.all fun y => !decide (y.2 = .cell) && (!decide (y.2 = .free) || decide (sc.names.lookup y.1 = some .cell) || decide (sc.names.lookup y.1 = some .free))) && (decide (sc.names.lookup d = some .cell) || decide (sc.names.lookup d = some .free))
section
variable {X : Cx} {pins : List (Addr × Obj)} {σ : L2.St} {H : Hp} {s : Shared} {params : Arguments} {scope : Scope} {f c' a : Addr} {pm ctv : Value} {d o : Str} {i : Nat} {p1 p2 p3 : Pos}
end
end L2
namespace L2
open PySem PySem.Spec PyProof.Rows LamX
section
variable [Fw.TbC]
def tSrtKey (te : TE) : TE := fun σ H Q => te σ H fun v H0 => Tabs Fw.TbC.T H0 ∧ ∃ (a : Addr) (ws : List (Key × V)) (ks : List Int) (g : Int → Int), v = .ref a ∧ Rd H0 a (.dK ws) ∧ ws.map (·.1) = ks.map Sum.inl ∧ (∀ x ∈ ks, valV ws (.inl x) = some (.int (g x))) ∧
  ∀ (H1 : Hp) (p : Addr), (∀ b o, H0 b = some o → Fw.Kp H1 b o) → Tabs Fw.TbC.T H1 → H1 p = none → Q (.ref p) (upd H1 p (.lst ((ks.mergeSort fun x y => decide (g x ≤ g y)).map V.int)))
end
end L2

set_option Elab.async false
set_option linter.all false
set_option maxRecDepth 100000
set_option maxHeartbeats 2000000
namespace Fw
open PySem L2
variable [TbC]
section
variable {K : PySem.W.Frag} {q : Bool} {μ μ1 : MEnv} {ρ : Env} {te : TE} {d : D}
end
end Fw

set_option Elab.async false
set_option linter.all false
namespace Fw
/-- an error that never comes there -/
def muteR {α : Type} (m : R α) : R α := match m with
  | .ok a => .ok a
  | .bad => .bad
  | .err _ _ => .bad
theorem mute_err {α : Type} {m : R α} {c : String} {v : Pv} (h : muteR m = .err c v) : False := by cases m <;> cases h
end Fw
namespace Fw
def Av.isDct : Av → Bool
  | .dct => true
  | _ => false
def okMs : List Av → List Av → Bool
  | [], [] => true
  | x :: xs, y :: ys => (x.okd 60 && y.okd 60 || x.isDct && y.isDct) && okMs xs ys
  | _, _ => false
/-- a comparison that is told: data without dicts, or two lists, alike in length, of such and of empty dicts -/
def Av.okM (a b : Av) : Bool := match a, b with
  | .lst xs, .lst ys => okMs xs ys
  | _, _ => a.okd 64 && b.okd 64
def Av.isI : Av → Bool
  | .int _ => true
  | _ => false
/-- beside: an empty dict and a number -/
def Av.okN (a b : Av) : Bool := Av.okM a b || a.isDct && b.isI
end Fw

set_option Elab.async false
set_option linter.all false
set_option maxRecDepth 100000
namespace L2
open PySem PySem.Spec PyProof.Rows PySem.AX
/-- isinstance(e, T), T a type of the language -/
def rIsXb (K : PySem.W.Frag) (a : Addr) (cls : Value) (d : Option Addr) : List V → Hp → VK → Prop := fun xs H Q => ∃ (D dd : Addr) (n : String) (fv : List (Str × V)) (b : Bool), xs = [.ref a, .ty n] ∧ cls = .ref D ∧ d = some dd ∧ H dd = some (.xd fv) ∧ XisT K D ∧
  PySem.W.kitOne K (.ref D) (.type n) = some b ∧ Q (.bl b) H
end L2
namespace Fw
variable [TbC]
open PySem L2 PySem.AX
instance ne_mute {α : Type} {m : R α} : NE (muteR m) := ⟨fun _ _ z => mute_err z⟩
theorem ne_dcompR {α β : Type} {f : α → R (Int × β)} (h : ∀ x, NE (f x)) : ∀ (xs : List α) (acc : List (Int × β)), NE (dcompR f xs acc)
  | [], _ => ne_ok
  | x :: xs, acc => ne_bind (h x) fun p => ne_dcompR h xs _
def kitYB (K : PySem.W.Frag) (c x : String) (b : Bool) : Bool := PySem.W.kitOne K (.ref (He.ga K (Str.ofString c))) (.type x) == some b
end Fw

set_option Elab.async false
set_option linter.all false
set_option maxRecDepth 100000
/-! xs != ys, lists some of whose items are empty dicts. -/
namespace L2
open PySem PySem.Spec PyProof.Rows PySem.AX
inductive IT1 (K : PySem.W.Frag) (H : Hp) : V → V → Bool → Prop
  | dat {x y : V} {d e : PyData} : Dp K H x d → Dp K H y e → d.canLay0 = true → e.canLay0 = true → d.depth ≤ 60 → IT1 K H x y (PyData.eqv d e)
  | dct {a b : Addr} : Rd H a (.dK []) → Rd H b (.dK []) → IT1 K H (.ref a) (.ref b) true
inductive ITs (K : PySem.W.Frag) (H : Hp) : List V → List V → List Bool → Prop
  | nil : ITs K H [] [] []
  | cons {x y : V} {c : Bool} {xs ys : List V} {cs : List Bool} : IT1 K H x y c → ITs K H xs ys cs → ITs K H (x :: xs) (y :: ys) (c :: cs)
def rNeM (K : PySem.W.Frag) : R2 := fun x y H Q => ∃ (a b : Addr) (xs ys : List V) (es : List Bool), x = .ref a ∧ y = .ref b ∧ SqL K H a xs ∧ SqL K H b ys ∧ ITs K H xs ys es ∧ Q (.bl (!(es.all id))) H
section
variable {X : Cx} {pins : List (Addr × Obj)} {σ : St} {H : Hp} {s : Shared}
end
end L2
namespace Fw
variable [TbC]
open PySem L2 PySem.AX
mutual
theorem okd_mono : ∀ (n : Nat) (a : Av), Av.okd n a = true → Av.okd (n + 1) a = true
  | _, .non, _ => rfl
  | _, .bl _, _ => rfl
  | _, .int _, _ => rfl
  | _, .str _, _ => rfl
  | n + 1, .lst xs, h => okds_mono n xs h
  | n + 1, .tup xs, h => okds_mono n xs h
  | 0, .lst xs, h => by cases h
  | 0, .tup xs, h => by cases h
  | n, .dct, h => by cases n <;> cases h
  | n, .txt _, h => by cases n <;> cases h
theorem okds_mono : ∀ (n : Nat) (xs : List Av), xs.all (Av.okd n) = true → xs.all (Av.okd (n + 1)) = true
  | n, [], _ => rfl
  | n, x :: xs, h => by
    rw [List.all_cons, Bool.and_eq_true] at h ⊢
    exact ⟨okd_mono n x h.1, okds_mono n xs h.2⟩
end
section
variable {K : PySem.W.Frag} {μ μ1 μ2 : MEnv} {ta tb : TE} {a b : Av}
end
end Fw

set_option Elab.async false
set_option linter.all false
set_option maxRecDepth 100000
namespace L2
open PySem PySem.Spec PyProof.Rows PySem.AX
/-- isinstance(e, (C, D)), own classes -/
def rIsT (K : PySem.W.Frag) (a : Addr) (cls : Value) (d : Option Addr) : List V → Hp → VK → Prop := fun xs H Q => ∃ (tp G1 G2 D dd : Addr) (fv : List (Str × V)) (b : Bool), xs = [.ref a, .ref tp] ∧ SqT K H tp [.ref G1, .ref G2] ∧ cls = .ref D ∧ d = some dd ∧ H dd = some (.xd fv) ∧ XisT K D ∧
  PySem.W.kitAny K (.ref D) [.ref G1, .ref G2] = some b ∧ Q (.bl b) H
def rNeDI : R2 := fun x y H Q => ∃ (a : Addr) (i : Int), x = .ref a ∧ y = .int i ∧ Rd H a (.dK []) ∧ Q (.bl true) H
end L2
namespace Fw
variable [TbC]
open PySem L2 PySem.AX
def kitTB (K : PySem.W.Frag) (c x y : String) (b : Bool) : Bool := PySem.W.kitAny K (.ref (He.ga K (Str.ofString c))) [.ref (He.ga K (Str.ofString x)), .ref (He.ga K (Str.ofString y))] == some b
section
variable {K : PySem.W.Frag} {μ μ1 μ2 : MEnv} {ta tb : TE} {α : Type} {e : α → D}
end
section
variable {K : PySem.W.Frag} {μ μ1 : MEnv} {te : TE} {G1 G2 C a dx : Addr} {f : Str} {b : Bool}
end
section
variable {K : PySem.W.Frag} {μ μ1 μ2 : MEnv} {ta tb : TE} {a b : Av}
end
end Fw

set_option Elab.async false
set_option linter.all false
set_option maxRecDepth 100000
set_option maxHeartbeats 2000000
/-! Lambdas as data: the making. -/
namespace L2
open PySem PySem.Spec PySem.Calls PyProof.Rows PySem.W
/-- the object of a lambda whose defaults are dV -/
def lamFn (q : Str) (params : Arguments) (body : Expr) (scope : Scope) (cl : List (Str × Addr)) (pm : Value) (c' : Addr) (ctv dV : Value) : Obj :=
  { cls := .type "function", data := .func { kla_fn "<lambda>" q params body scope cl pm (.ref c') ctv with defaults := dV } }
/-- what is true of it: at f, its code at c, its defaults at d -/
def lamPhi (q : Str) (params : Arguments) (body : Expr) (scope : Scope) (cl : List (Str × Addr)) (dv : Addr → Value) : Addr → Addr → Addr → Heap → Prop := fun f c d h => ∃ pm ctv, h.get? f = some (lamFn q params body scope cl pm c ctv (dv d))
section
variable {M : Model} {A : Around} {E : Value → Shared → Prop} {s : Shared} {qual : Str} {params : Arguments} {body : Expr} {scope : Scope} {env : PySem.Env} {c P : Addr} {ps : Array Value} {pos : Pos} {firstLine : Nat} {mg : Str → Option Value}
  {clos : List (Str × Addr)} {Q : Value → Shared → Prop} {dV : Value}
end
end L2
namespace Fw
open PySem L2
variable [TbC]
section
open LamX PySem.Spec PyProof.Rows
variable {X : Cx} {pins : List (Addr × Obj)} {σ : L2.St} {H : Hp} {s : Shared} {scope : Scope} {params : Arguments} {body : Expr}
abbrev phiX (X : Cx) (params : Arguments) (body : Expr) (scope : Scope) (dv : Addr → Value) : Addr → Addr → Addr → Heap → Prop := lamPhi (lamQ X) params body scope (cloFrom X.env.cells scope.names []) dv
/-- the making of a lambda, as data -/
def tLam (q : Str) (dv : Option (List V)) (φ : Addr → Addr → Addr → Heap → Prop) : TE := fun _ H Q => Tabs TbC.T H ∧ ∀ (f c' d : Addr) (H1 : Hp), (∀ b o, H b = some o → Kp H1 b o) → Tabs TbC.T H1 → H1 f = some (.ext (φ f c' d)) → H f = none →
  H1 c' = some (CodeO c' q) → (H c' = none ∨ H c' = some (CodeO c' q)) → (∀ vs, dv = some vs → H1 d = some (.tup vs) ∧ H d = none) → Q (.ref f) H1
/-- a lambda's scope that may hold a parameter that is no slot of its maker's -/
structure LamP (sc scope : Scope) (N : List Str) : Prop where
  kind : scope.kind = .function
  co : scope.isCoroutine = false
  gen : scope.isGenerator = false
  own : ∀ y ∈ scope.names, y.2 ≠ .cell ∧ (y.2 = .local → y.1 ∉ N)
  free : ∀ y ∈ scope.names, y.2 = .free → sc.names.lookup y.1 = some .cell ∨ sc.names.lookup y.1 = some .free
theorem LamP.has {X : Cx} {scope : Scope} {N : List Str} (L : LamP X.env.scope scope N) (ok : X.Ok) : ∀ y ∈ scope.names, y.2 = .free → ∃ c, X.env.cells.lookup y.1 = some c := fun y hy e => by
  rcases L.free y hy e with k | k
  · exact ok.has _ (.inl k)
  · exact ok.has _ (.inr k)
/-- the n-th lambda of a def: its code's name, what is told of it (named, so that a walk may generalize them) -/
def qN (n : Nat) (X : Cx) : Str := lamQ X
def phiN (n : Nat) (X : Cx) (params : Arguments) (body : Expr) (scope : Scope) (dv : Addr → Value) : Addr → Addr → Addr → Heap → Prop := phiX X params body scope dv
end
/-! ### as frozen data -/
section
variable {K : PySem.W.Frag} {σ : St} {F H : Hp} {ρ : Env} {μ : MEnv}
end
/-! ### the call of a lambda that a name holds, in the def that got it -/
section
open LamX PySem.Spec PyProof.Rows
variable {X : Cx} {pins : List (Addr × Obj)} {σ : L2.St} {H : Hp} {s : Shared} {scope sg : Scope} {g : Addr} {cdg : Value} {params : Arguments} {body : Expr} {k i : Nat} {Ng : List Str} {a qg : Str} {Eg : XK} {CXg : CXT} {pn : List (Addr × Obj)} {xe : Value → Shared → Prop} {W : WX} {tb : XK → TE} {p1 p2 : Pos}
/-- the lambda f, its code and what its call does -/
def tActV (q : Str) (dvs : Option (List V)) (φ : Addr → Addr → Addr → Heap → Prop) (f : Addr) (tl : XK → Hp → VK → Prop) : XK → Hp → VK → Prop := fun E G Q => ∃ c' d, G f = some (.ext (φ f c' d)) ∧ G c' = some (CodeO c' q) ∧ (∀ vs, dvs = some vs → G d = some (.tup vs)) ∧ tl E G Q
/-- f(x), x a name that holds a lambda, f a def that catches -/
def tLamV (j : Nat) (q : Str) (dvs : Option (List V)) (φ : Addr → Addr → Addr → Heap → Prop) (C : R Unit → D → Prop) (K : PySem.W.Frag) (t : XK → TE) : TE := fun σ H Q => ∃ (f c' : Addr), σ[j]? = some (some (.ref f)) ∧ LamSp K C c' q (tActV q dvs φ f fun E H' Q' => t E σ H' Q') H Q
end
section
variable {K : PySem.W.Frag} {μ μ' : MEnv}
end
end Fw
namespace Fw
open PySem L2
variable [TbC]
section
variable {K : PySem.W.Frag} {μ μ' : MEnv}
/-- one of several lambdas, by its number -/
def eFW (ls : List D) (z : Int) : D := ls.getD z.toNat .non
end
end Fw
namespace Fw
open PySem L2
variable [TbC]
end Fw
namespace Fw
open PySem L2
variable [TbC]
def lamPB (sc scope : PySem.Scope) (N : List Str) : Bool :=
  decide (scope.kind = .function) && !scope.isCoroutine && !scope.isGenerator && scope.names.all fun y => !decide (y.2 = .cell) && (!decide (y.2 = .local) || !decide (y.1 ∈ N)) && (!decide (y.2 = .free) || decide (sc.names.lookup y.1 = some .cell) || decide (sc.names.lookup y.1 = some .free))
section
variable {K : PySem.W.Frag} {μ : MEnv}
end
end Fw
namespace Fw
open PySem L2
end Fw
namespace Fw
open PySem L2
/-! pieces of a text: where a lambda of a list that is walked stands -/
def atB (n : Nat) (b : List Stmt) : List Stmt := match b[n]? with
  | some (.For _ _ c _ _) => c
  | some (.While _ c _ _) => c
  | some (.If _ c _ _) => c
  | _ => []
def atE (n : Nat) (b : List Stmt) : List Stmt := match b[n]? with
  | some (.If _ _ c _) => c
  | _ => []
def eltsOf : Expr → List Expr
  | .List es _ => es
  | .Tuple es _ _ => es
  | _ => []
def lamOf (n i : Nat) (b : List Stmt) : Expr := match b[n]? with
  | some (.For _ it _ _ _) => (eltsOf it).getD i it
  | _ => .List [] ⟨0, 0, 0, 0⟩
def lamA : Expr → Arguments
  | .Lambda a _ _ _ => a
  | _ => ⟨[], [], none, [], [], none, []⟩
def lamB : Expr → Expr
  | .Lambda _ e _ _ => e
  | e => e
def lamS0 (s0 : PySem.Scope) : Expr → PySem.Scope
  | .Lambda _ _ sc _ => sc
  | _ => s0
end Fw

set_option Elab.async false
set_option linter.all false
set_option maxRecDepth 100000
/-! lists of one's own lists: built, handed back, compared, and their lists grown -/
namespace Fw
variable [TbC]
open PySem L2
section
variable {K : PySem.W.Frag} {q : Bool} {ρ : Env} {σ : St} {F H H' : Hp} {a : Addr} {te tb : TE} {μ μ1 μ2 : MEnv} {i j : Nat} {α : Type} {e : α → D} {x : List α} {xss : List (List α)} {tg t0 : Option Addr} {E : En} {c0 : MO}
def flL (e : α → D) (xs : List α) : MFl := .c (.l (xs.map e))
def oLcl (e : α → D) (xss : List (List α)) : MO := .lcl (xss.map (flL e))
abbrev fl1 (p : Addr) (xs : List D) : Str × Fl := ("", .c p (.l xs))
abbrev fv1 (p : Addr) : Str × V := ("", .ref p)
end
end Fw

set_option Elab.async false
set_option linter.all false
set_option maxRecDepth 100000
/-! None is appended to each list of a list of one's own lists -/
namespace Fw
variable [TbC]
open PySem L2
section
variable {K : PySem.W.Frag} {q : Bool} {ρ : Env} {σ : St} {F H H' G : Hp} {a : Addr} {te tb : TE} {μ μ1 μ2 : MEnv} {i j : Nat} {α : Type} {e : α → D} {x : List α} {xss : List (List α)} {tg t0 : Option Addr} {E : En} {c0 : MO}
def addM : MFl → MFl
  | .c (.l ds) => .c (.l (ds ++ [.non]))
  | f => f
def addL : Str × Fl → Str × Fl
  | (k, .c p (.l ds)) => (k, .c p (.l (ds ++ [.non])))
  | f => f
def bumpTo (n : Nat) (fs : List (Str × Fl)) : List (Str × Fl) := (fs.take n).map addL ++ fs.drop n
end
end Fw

set_option Elab.async false
set_option linter.all false
set_option maxRecDepth 100000
set_option maxHeartbeats 2000000
/-! A list comprehension whose parts are told with the state at which its block began: lambdas of the def are called in it. -/
namespace L2
open PySem PySem.Spec PyProof.Rows
/-- the def's state when a block of it begins, and what the block may turn -/
structure MkAt (X : Cx) (σ : St) (s : Shared) (H : Hp) (fp : List Addr) : Prop where
  inv : ∃ pins, Inv X pins σ H s ∧ ∀ b ∈ fp, FpOk X pins H b
/-- the block's context, with a way for errors -/
abbrev Cx.bl (X : Cx) (xf : Shared → Env → Value → Shared → Prop) (s : Shared) (H : Hp) (scope : Scope) (ce : Env) (fp : List Addr) : Cx := { X.blk s H scope ce fp with xe := xf s ce }
section
variable {X : Cx} {pins : List (Addr × Obj)} {σ : St} {H : Hp} {s : Shared}
/-- what an invariant asks of a context but its errors -/
theorem Inv.xf {Y : Cx} {xe' : Value → Shared → Prop} (I : Inv Y pins σ H s) : Inv { Y with xe := xe' } pins σ H s :=
  ⟨⟨I.ok.mod, I.ok.kind, I.ok.glob, I.ok.blt, I.ok.above, I.ok.inj, I.ok.has, I.ok.cab, I.ok.hd, I.ok.frames, I.ok.stk, I.ok.exf, I.ok.bs, I.ok.bsz, I.ok.noex, I.ok.exfs, I.ok.funs, I.ok.frf⟩, I.os, I.bare, I.base, I.loc, I.cell, I.free, I.freeC, I.pin, I.hok, I.len⟩
variable {elt tg iter : Expr} {ifs : List Expr} {scope : Scope} {own : List (Str × Nat)} {pos pos' : Pos} {wi : TI} {g : TG} {tt : St → TT} {te : St → TE} {use : Option (Value → Sem Unit)} {Qf : Value → Shared → Prop}
  {xf : Shared → Env → Value → Shared → Prop}
end
end L2

set_option Elab.async false
set_option linter.all false
set_option maxRecDepth 100000
set_option maxHeartbeats 2000000
/-! lambdas of a def called in its comprehensions, and in its own suites -/
namespace Fw
open PySem L2
variable [TbC]
/-- f(x) in a block, x a name of the block's that holds a lambda of the def: its body is told with the def's slots -/
def tLamB (σM : L2.St) (j : Nat) (q : Str) (dvs : Option (List V)) (φ : Addr → Addr → Addr → Heap → Prop) (C : R Unit → D → Prop) (K : PySem.W.Frag) (t : XK → TE) : TE := fun σ H Q => ∃ (f c' : Addr), σ[j]? = some (some (.ref f)) ∧ LamSp K C c' q (tActV q dvs φ f fun E H' Q' => t E (σM.set j (some (.ref f))) H' Q') H Q
section
open LamX PySem.Spec PyProof.Rows
variable {X : Cx} {pins : List (Addr × Obj)} {σ : L2.St} {H : Hp} {s : Shared} {scope sg : Scope} {g : Addr} {cdg : Value} {params : Arguments} {body : Expr} {k i : Nat} {Ng : List Str} {a qg : Str} {Eg : XK} {CXg : CXT} {pn : List (Addr × Obj)} {xe : Value → Shared → Prop} {W : WX} {tb : XK → TE} {p1 p2 : Pos}
end
/-! ### told with the slots at which the block began -/
/-- where the slots are the def's but for the block's own -/
def rel (σM : St) (vs : List Nat) (te : TE) : TE := fun σ H Q => L2.wipe σ vs = L2.wipe σM vs → te σ H Q
def relT (σM : St) (vs : List Nat) (tt : TT) : TT := fun σ H R => L2.wipe σ vs = L2.wipe σM vs → tt σ H R
section
variable {K : PySem.W.Frag} {q : Bool} {μ μ1 μ' : MEnv} {σM : St} {vs : List Nat} {te ta tb : TE} {tt : TT} {d : D} {b : Bool}
/-! the call of a lambda -/
/-- the block's own slots as they were, if they hold data -/
def putV : List Nat → MEnv → Env → Env → Env
  | [], _, _, ρ' => ρ'
  | i :: is, μ, ρ, ρ' => (putV is μ ρ ρ').set i (match μ[i]? with | some (some (.v d)) => some (.v d) | _ => none)
def putM : List Nat → MEnv → MEnv → MEnv
  | [], _, μ' => μ'
  | i :: is, μ, μ' => (putM is μ μ').set i (match μ[i]? with | some (some (.v d)) => some (.v d) | _ => none)
end
end Fw

set_option Elab.async false
set_option linter.all false
set_option maxRecDepth 100000
/-! pieces of a text; lambdas in lists -/
namespace Fw
open PySem L2
/-- the value of a statement -/
def valOf (n : Nat) (b : List Stmt) : Expr := match b[n]? with
  | some (.Assign _ e _) => e
  | some (.Expr e _) => e
  | some (.Return (some e) _) => e
  | _ => .List [] ⟨0, 0, 0, 0⟩
def eltOf (i : Nat) (e : Expr) : Expr := (eltsOf e).getD i e
def opR : Expr → Expr
  | .BinOp _ _ r _ => r
  | e => e
def argOf (i : Nat) : Expr → Expr
  | .Call f as ks p => as.getD i f
  | e => e
def atT (n : Nat) (b : List Stmt) : List Stmt := match b[n]? with
  | some (.Try c _ _ _ _) => c
  | _ => []
variable [TbC]
def ghB (sc : PySem.Scope) (N : List Str) (j : Nat) : Bool := match N[j]? with
  | some y => (match sc.names.lookup y with
    | some .local => false
    | some .cell => false
    | some .free => false
    | _ => true)
  | none => true
section
variable {K : PySem.W.Frag} {q : Bool} {μ μ1 : MEnv} {σM : St} {vs : List Nat} {ta tb : TE} {d : D}
end
end Fw

set_option Elab.async false
set_option linter.all false
set_option maxRecDepth 100000
/-! A house's record. -/
namespace Fw
structure HouseM where
  width : Int
  crowd : Int
  states : List StateM
  done : List Av
def asInts : List Av → R (List Int)
  | [] => .ok []
  | x :: xs => (x.toI).bind fun p => (asInts xs).bind fun ps => .ok (p :: ps)
/-- compared by !=; an empty dict and a tuple too -/
def Av.okT (a b : Av) : Bool := Av.okN a b || a.isDct && b.isTuple
end Fw

set_option Elab.async false
set_option linter.all false
set_option maxRecDepth 100000
/-! a dict's copy; houses -/
namespace L2
open PySem PySem.Spec PyProof.Rows PySem.AX
def rIsT4 (K : PySem.W.Frag) (a : Addr) (cls : Value) (d : Option Addr) : List V → Hp → VK → Prop := fun xs H Q => ∃ (tp G1 G2 G3 G4 D dd : Addr) (fv : List (Str × V)) (b : Bool), xs = [.ref a, .ref tp] ∧ SqT K H tp [.ref G1, .ref G2, .ref G3, .ref G4] ∧ cls = .ref D ∧ d = some dd ∧ H dd = some (.xd fv) ∧ XisT K D ∧
  PySem.W.kitAny K (.ref D) [.ref G1, .ref G2, .ref G3, .ref G4] = some b ∧ Q (.bl b) H
/-! xs.count(b): a list of truths -/
def bqk (k : Bool) (v : Value) : Bool := match v with
  | .bool n => n == k
  | _ => false
def rCntB (K : PySem.W.Frag) : V → List V → Hp → VK → Prop := fun x xs H Q => ∃ (p : Addr) (ns : List Bool) (k : Bool), x = .ref p ∧ xs = [.bl k] ∧ SqL K H p (ns.map V.bl) ∧ Q (.int (ns.count k : Nat)) H
end L2
namespace Fw
open PySem L2
variable [TbC]
section
variable {K : PySem.W.Frag} {q : Bool} {ρ : Env} {te : TE} {μ μ1 : MEnv} {α : Type} {e : α → D} {d : D}
/-- dict(d) -/
abbrev rDictD : List V → Hp → VK → Prop := fun xs H Q => ∃ (a : Addr) (kvs : List (Key × V)), xs = [.ref a] ∧ Rd H a (.dK kvs) ∧ ∀ p, H p = none → Q (.ref p) (upd H p (.dK kvs))
theorem c_dictD {X : Cx} : CallR X (.type "dict") rDictD := call_dictD
theorem evo_dictD {Φ : Addr → O → Env → Prop} (h : evb K q te ρ fun d ρ1 => ∃ kvs, d = .dct kvs ∧ ∀ p, p ∉ owns ρ1 → Φ p (.dct kvs) ρ1) : evo K (tCB rDictD (tCons te tNil)) ρ Φ := fun σ F H Q ok c => by
  refine h σ F H _ ok fun d v F1 H1 ρ1 ok1 b1 s1 _ ⟨kvs, e, k⟩ => ?_
  subst e
  obtain ⟨a, ws, rfl, h3, h4⟩ := brep_dct ok1 b1
  refine ⟨a, ws, rfl, h3, fun p hp => ?_⟩
  obtain ⟨ok2, s2, r2, n2⟩ := lay (o := .dK ws) (c := .dct kvs) ok1 hp ⟨_, upd_same, h4⟩
  exact c p _ F1 _ ρ1 ok2 r2 (s1.trans s2) (one (s1.new (.inr hp))) nd1 (one n2) (k p n2)
theorem e_dictD {kvs : List (Int × α)} (h : EB K false te μ d μ1) (hd : d = .dct (kvs.map (kvD e))) : EO K (tCB rDictD (tCons te tNil)) μ (oDc e kvs) μ1 := fun ρ ab =>
  evo_dictD ((h ρ ab).imp fun d' ρ1 ⟨e1, k1⟩ => ⟨_, e1.trans hd, fun a _ => ⟨rfl, k1⟩⟩)
end
section
variable {K : PySem.W.Frag} {μ μ1 μ2 μ3 : MEnv} {i j l : Nat} {te te2 te3 : TE} {c c2 c3 : MO}
/-- x, y, z = f(..), g(..), h(..), all one's own -/
theorem x_par3OO (h : EO K te μ c μ1) (h2 : EO K te2 μ1 c2 μ2) (h3 : EO K te3 μ2 c3 μ3) : XS K (tPar3 i j l (tCons te (tCons te2 (tCons te3 tNil)))) μ (.nx (((μ3.set i (some (.o none c))).set j (some (.o none c2))).set l (some (.o none c3)))) := fun ρ ab σ F H D ok g => by
  refine (h ρ ab) σ F H _ ok fun a ca F1 H1 ρ1 ok1 r1 s1 f1 n1 o1 ⟨e1, ab1⟩ => ?_
  refine (h2 ρ1 ab1) σ F1 H1 _ ok1 fun b cb F2 H2 ρ2 ok2 r2 s2 f2 n2 o2 ⟨e2, ab2⟩ => ?_
  refine (h3 ρ2 ab2) σ F2 H2 _ ok2 fun d cd F3 H3 ρ3 ok3 r3 s3 f3 n3 o3 ⟨e3, ab3⟩ => ?_
  have r1' := s2.free ok1.tb r1 o1
  have th : ∀ x ∈ a :: ca.inn, ∃ o, H1 x = some o := r1.2.2.there
  have th' : ∀ x ∈ a :: ca.inn, ∃ o, H2 x = some o := r1'.2.2.there
  have th2 : ∀ x ∈ b :: cb.inn, ∃ o, H2 x = some o := r2.2.2.there
  have a2 : ∀ x ∈ a :: ca.inn, x ∉ owns ρ2 := fun x hx m => by
    rcases s2.w x m with y | y
    · exact o1 x hx y
    · obtain ⟨o, ho⟩ := th x hx
      rw [ho] at y; cases y
  have a3 : ∀ x ∈ a :: ca.inn, x ∉ owns ρ3 := fun x hx m => by
    rcases s3.w x m with y | y
    · exact a2 x hx y
    · obtain ⟨o, ho⟩ := th' x hx
      rw [ho] at y; cases y
  have b3 : ∀ x ∈ b :: cb.inn, x ∉ owns ρ3 := fun x hx m => by
    rcases s3.w x m with y | y
    · exact o2 x hx y
    · obtain ⟨o, ho⟩ := th2 x hx
      rw [ho] at y; cases y
  have ap : ∀ x ∈ a :: ca.inn, x ∉ b :: cb.inn := fun x hx m => by
    rcases f2 x m with y | y
    · exact o1 x hx y
    · obtain ⟨o, ho⟩ := th x hx
      rw [ho] at y; cases y
  have ap2 : ∀ x ∈ a :: ca.inn, x ∉ d :: cd.inn := fun x hx m => by
    rcases f3 x m with y | y
    · exact a2 x hx y
    · obtain ⟨o, ho⟩ := th' x hx
      rw [ho] at y; cases y
  have ap3 : ∀ x ∈ b :: cb.inn, x ∉ d :: cd.inn := fun x hx m => by
    rcases f3 x m with y | y
    · exact o2 x hx y
    · obtain ⟨o, ho⟩ := th2 x hx
      rw [ho] at y; cases y
  have r1'' := s3.free ok2.tb r1' a2
  have r2' := s3.free ok2.tb r2 o2
  have ead : adr [.o a ca, .o b cb, .o d cd] = (a :: ca.inn) ++ ((b :: cb.inn) ++ (d :: cd.inn)) := by simp [adr, ownA]
  refine par_three (Q := D.nx) ok3 (.cons (s := .o a ca) r1'' (.cons (s := .o b cb) r2' (.cons (s := .o d cd) r3 .nil))) ?_ ?_ fun σ' ok4 w => g.nx _ F3 _ _ ok4 ⟨((s1.trans s2).trans s3).f, ((s1.trans s2).trans s3).h, ((s1.trans s2).trans s3).n, fun x hx => ?_⟩ ?_
  · rw [ead]
    refine List.nodup_append.mpr ⟨n1, List.nodup_append.mpr ⟨n2, n3, fun x hx y hy e => ap3 x hx (e ▸ hy)⟩, fun x hx y hy e => ?_⟩
    rcases List.mem_append.mp hy with z | z
    · exact ap x hx (e ▸ z)
    · exact ap2 x hx (e ▸ z)
  · intro x hx
    rw [ead] at hx
    rcases List.mem_append.mp hx with y | y
    · exact a3 x y
    rcases List.mem_append.mp y with y | y
    · exact b3 x y
    · exact o3 x y
  · rcases w x hx with y | y
    · exact ((s1.trans s2).trans s3).w x y
    rw [ead] at y
    rcases List.mem_append.mp y with y | y
    · exact f1 x y
    rcases List.mem_append.mp y with y | y
    · exact s1.new (f2 x y)
    · exact (s1.trans s2).new (f3 x y)
  · subst e1 e2 e3
    exact ((ab3.set (AbS.o (a := a) (c := ca)) i).set (AbS.o (a := b) (c := cb)) j).set (AbS.o (a := d) (c := cd)) l
end
instance {α : Type} [DecidableEq α] {xs : List α} {x : α} : NE (idxG xs x) := by unfold idxG; infer_instance
instance neAsInts : ∀ {xs : List Av}, NE (asInts xs)
  | [] => by unfold asInts; infer_instance
  | x :: xs => by
    unfold asInts
    exact ne_bind inferInstance fun _ => ne_bind neAsInts fun _ => inferInstance
def iHouse' (A S : Addr) (v : HouseM) : MO := .inl A [("width", .v (.int v.width)), ("crowd", .v (.int v.crowd)), ("states", .c (.l (v.states.map (eState S)))), ("done", .c (.l (v.done.map eA)))]
def eHouse' (A S : Addr) (v : HouseM) : D := .ins A [("width", .int v.width), ("crowd", .int v.crowd), ("states", eL (eState S) v.states), ("done", eL eA v.done)]
abbrev iHouse (K : PySem.W.Frag) (v : HouseM) : MO := iHouse' (He.ga K "House") (He.ga K "State") v
abbrev eHouse (K : PySem.W.Frag) (v : HouseM) : D := eHouse' (He.ga K "House") (He.ga K "State") v
section
open PySem.AX
def kitTB4 (K : PySem.W.Frag) (c x y z u : String) (b : Bool) : Bool := PySem.W.kitAny K (.ref (He.ga K (Str.ofString c))) [.ref (He.ga K (Str.ofString x)), .ref (He.ga K (Str.ofString y)), .ref (He.ga K (Str.ofString z)), .ref (He.ga K (Str.ofString u))] == some b
variable {K : PySem.W.Frag} {μ μ1 : MEnv} {te : TE} {G1 G2 G3 G4 C a dx : Addr} {f : Str} {b : Bool}
end
section
variable {K : PySem.W.Frag} {q : Bool} {μ μ1 : MEnv} {te tb : TE} {d : D}
end
end Fw

set_option Elab.async false
set_option linter.all false
set_option maxRecDepth 100000
set_option maxHeartbeats 2000000
/-! Exceptions as values: made by hand. -/
namespace PySem.HandSPX
open PySem
section
variable {M : Model} {A : Around} {E : Value → Shared → Prop} {h : Heap} {g : Array GenState} {d : Drawn} {t : Nat} {os : OsState}
variable {nm q : Str} {C N : Addr} {bs bm bmB : List Value} {hdct : Bool} {sn : List Str} {sub : List Value} {ab : Bool} {col : Option Bool} {dd : Option Addr} {k0 k1 k2 k3 k5 : Option Value} {B newId initId : String}
end
section
variable {prog : Program} {w : World} {A : Around} {E : Value → Shared → Prop} {R : Result → Shared → Prop} {h : Heap} {g : Array GenState} {d : Drawn} {t : Nat} {os : OsState}
variable {nm q : Str} {C N : Addr} {bs bm bmB : List Value} {hdct : Bool} {sn : List Str} {sub : List Value} {ab : Bool} {col : Option Bool} {dd : Option Addr} {k0 k1 k2 k3 k5 : Option Value} {B newId initId : String}
end
end PySem.HandSPX
namespace L2
open PySem PySem.Spec PyProof.Rows PySem.AX Fw
/-- C(e), its instance as a value -/
def tMkE (K : PySem.W.Frag) (C : Addr) (f : Str) (te : TE) : TE := fun σ H Q => te σ H fun y H1 => (∀ H2, Same H1 H2 → FitR K H2 y) ∧ ∀ a d, H1 a = none → H1 d = none → d ≠ a → Q (.ref a) (upd (upd H1 d (exd d [(f, y)])) a (exo a C (some d)))
section
variable {X : Cx} {K : PySem.W.Frag} {c : String} {p pos : Pos} {e : Expr} {te : TE}
end
end L2

namespace L2
open PySem PySem.Spec PyProof.Rows PySem.AX Fw
/-- isinstance(e, C), e an error made by hand -/
def rIsE (K : PySem.W.Frag) : List V → Hp → VK → Prop := fun xs H Q => ∃ (a D dd : Addr) (t : V) (tv : Value) (fs : List (Str × V)) (b : Bool), xs = [.ref a, t] ∧ (∀ u, RelV t u → u = tv) ∧ H a = some (exo a D (some dd)) ∧ H dd = some (exd dd fs) ∧ XisT K D ∧
  PySem.W.kitOne K (.ref D) tv = some b ∧ Q (.bl b) H
/-- e.f, e an error made by hand -/
def tByE (K : PySem.W.Frag) (f : Str) (te : TE) : TE := fun σ H Q => te σ H fun x H1 => ∃ (a C dd : Addr) (v : V), x = .ref a ∧ Aec K C ∧ PySem.W.findIn K (.ref C) f = some none ∧ H1 a = some (exo a C (some dd)) ∧ H1 dd = some (exd dd [(f, v)]) ∧ Q v H1
end L2
namespace Fw
open PySem L2 PySem.AX
variable [TbC]
/-- an error made by hand: of class C, its field f holds d -/
def eX (K : PySem.W.Frag) (C : Addr) (f : Str) (d : D) : D := .ob fun F a => ∃ dx v, F a = some (exo a C (some dx)) ∧ F dx = some (exd dx [(f, v)]) ∧ Rep K F d v
section
variable {K : PySem.W.Frag} {q : Bool} {μ μ1 : MEnv} {te : TE} {C : Addr} {f : Str} {d : D}
end
end Fw

set_option Elab.async false
set_option linter.all false
set_option maxRecDepth 100000
set_option maxHeartbeats 2000000
/-! x in (a, b), truths; x of any kind, an empty dict too. -/
namespace L2
open PySem PySem.Spec PyProof.Rows PySem.AX
/-- x in (a, b), shaped data; x not in (a, b) -/
def rInTD (K : PySem.W.Frag) : R2 := fun x y H Q => ∃ d ds, Dp K H x d ∧ Dp K H y (.tuple ds) ∧ SeqAt.shaped d = true ∧ SeqAt.shaped (.tuple ds) = true ∧ Q (.bl (ds.any fun z => PyData.eqv z d)) H
def rNotInTD (K : PySem.W.Frag) : R2 := fun x y H Q => ∃ d ds, Dp K H x d ∧ Dp K H y (.tuple ds) ∧ SeqAt.shaped d = true ∧ SeqAt.shaped (.tuple ds) = true ∧ Q (.bl (!ds.any fun z => PyData.eqv z d)) H
/-- an empty dict in truths -/
def rInTZ (K : PySem.W.Frag) : R2 := fun x y H Q => ∃ (l p : Addr) (bs : List Bool), x = .ref l ∧ y = .ref p ∧ Rd H l (.dK []) ∧ SqT K H p (bs.map V.bl) ∧ Q (.bl false) H
def rNotInTZ (K : PySem.W.Frag) : R2 := fun x y H Q => ∃ (l p : Addr) (bs : List Bool), x = .ref l ∧ y = .ref p ∧ Rd H l (.dK []) ∧ SqT K H p (bs.map V.bl) ∧ Q (.bl true) H
section
variable {X : Cx} {K : PySem.W.Frag}
end
def rNeDT (K : PySem.W.Frag) : R2 := fun x y H Q => ∃ (a p : Addr) (xs : List V), x = .ref a ∧ y = .ref p ∧ Rd H a (.dK []) ∧ SqT K H p xs ∧ Q (.bl true) H
end L2
namespace Fw
open PySem L2 PySem.AX
variable [TbC]
section
variable {X : Cx} {K : PySem.W.Frag}
end
section
variable {K : PySem.W.Frag} {μ μ1 μ2 : MEnv} {ta tb : TE} {a a' : Av} {b c : Bool}
end
end Fw

set_option Elab.async false
set_option linter.all false
set_option maxRecDepth 100000
set_option maxHeartbeats 2000000
/-! A list comprehension that lets an error of a call out. -/
namespace L2
open PySem PySem.Spec PyProof.Rows
/-- what is asked behind a comprehension's block; an error goes on in the frame fr -/
def cPost (M : Model) (A : Around) (E : Value → Shared → Prop) (fr : Option Addr) (Q : Value → Shared → Prop) (acc : Value) (C : Addr) (r : Result) (sz : Shared) : Prop :=
  match r with
  | .ok _ => ∃ m, sz.heap.Ns C m ∧ ∀ hz, Heap.SameBut C sz.heap hz → Q acc { sz with heap := hz }
  | .error x => ∃ m, sz.heap.Ns C m ∧ ∀ hz, Heap.SameBut C sz.heap hz → ∀ ce : Env, ce.frame = fr →
      wpAny M A (passOn "comprehension.variables-let-go" x ce : Sem Value) (fun _ _ => False) E { sz with heap := hz }
section
variable {M : Model} {A : Around} {E : Value → Shared → Prop} {s : Shared} {env : Env}
end
/-- an error that a call of the block lets out -/
def xfX (X : Cx) (E : XK) (s : Shared) (ce : Env) (u : Value) (s1 : Shared) : Prop :=
  ∃ (σ : St) (H : Hp) (fp : List Addr) (Y : Cx) (pb : List (Addr × Obj)) (σb : St) (Hb : Hp) (sb : Shared), MkAt X σ s H fp ∧ Inv Y pb σb Hb sb ∧ (Y.s_0 = s ∧ Y.H_0 = H ∧ Y.env = ce ∧ Y.ex = fp ∧ Y.outer = X.stack) ∧ CX X.prog X.w X.stack Hb sb E u s1
section
variable {X : Cx} {pins : List (Addr × Obj)} {σ : St} {H : Hp} {s : Shared} {E : XK}
theorem MkAt.passes {scope : Scope} {ce : Env} {fp : List Addr} (M : MkAt X σ s H fp) : Passes (L2.CX X.prog X.w) (X.bl (xfX X E) s H scope ce fp) E := fun pb σb Hb sb e s' J c =>
  ⟨σ, H, fp, _, pb, σb, Hb, sb, M, J, ⟨rfl, rfl, rfl, rfl, rfl⟩, c⟩
end
end L2

set_option Elab.async false
set_option linter.all false
set_option maxRecDepth 100000
set_option maxHeartbeats 2000000
/-! The comprehension whose element may let an error out: the block. -/
namespace L2
open PySem PySem.Spec PyProof.Rows
section
variable {X : Cx} {pins : List (Addr × Obj)} {σ : St} {H : Hp} {s : Shared} {E : XK} {W : WX}
variable {elt tg iter : Expr} {ifs : List Expr} {scope : Scope} {own : List (Str × Nat)} {pos pos' : Pos} {wi : TI} {g : TG} {tt : St → TT} {te : St → TE} {Qf : Value → Shared → Prop}
end
end L2

set_option Elab.async false
set_option linter.all false
set_option maxRecDepth 100000
set_option maxHeartbeats 2000000
/-! A comprehension whose element lets an error out, told without places. -/
namespace Fw
variable [TbC]
open PySem L2 PySem.AX
section
variable {K : PySem.W.Frag} {ρ : Env}
/-- an expression that has a value or lets an error out -/
def evx (K : PySem.W.Frag) (te : TE) (x : Xc) (W : WX) (ρ : Env) (Φ : D → Env → Prop) (P : Env → Prop) : Prop := ∀ σ F H Q, Ok K σ F H ρ →
  (∀ d v F' H' ρ', Ok K σ F' H' ρ' → Rep K F' d v → Step ρ F H ρ' F' H' → Φ d ρ' → Q v H') → Out K x W σ ρ F H P (fun σ' => σ' = σ) → te σ H Q
end
section
variable {K : PySem.W.Frag} {X : Xc} {W : WX} {μ μ1 : MEnv} {wi : TI} {g : TG} {tt : TT} {te : TE} {vs : List Nat} {α β : Type} {e : α → D} {f : β → D} {xs : List α} {S : Env → Prop}
end
end Fw

set_option Elab.async false
set_option linter.all false
set_option maxRecDepth 100000
/-! Closed lambdas: what each of them does is known. -/
namespace Fw
/-- none of them is unknown -/
def nbs (l : List (R Unit)) : Bool := l.all fun r => match r with
  | .bad => false
  | _ => true
end Fw

set_option Elab.async false
set_option linter.all false
set_option maxRecDepth 100000
set_option maxHeartbeats 2000000
/-! A lambda whose maker has ended: its cells are told beside it. -/
namespace L2
open PySem PySem.Spec PySem.Calls PyProof.Rows PySem.W LamX
/-- a cell that nobody writes any more -/
def CelO (H : Hp) (c : Addr) (u : Value) : Prop := ∃ o, H c = some (.frz o (.own 0)) ∧ o.data = .cell (some u)
def delC (cs : List Addr) (H : Hp) : Hp := fun b => if b ∈ cs then none else H b
def addC (cs : List Addr) (G H : Hp) : Hp := fun b => if b ∈ cs then G b else H b
structure CloS (scope : Scope) (N : List Str) : Prop where
  kind : scope.kind = .function
  co : scope.isCoroutine = false
  gen : scope.isGenerator = false
  own : ∀ y ∈ scope.names, y.2 ≠ .cell ∧ (y.2 = .local → y.1 ∉ N)
/-- the lambda at f: its code, its defaults, its cells and what they hold -/
structure CloAt (H : Hp) (q : Str) (params : Arguments) (body : Expr) (scope : Scope) (dvF : Addr → Value) (dv : Option (List V)) (N : List Str) (σ : St) (f c' d : Addr) (cl : List (Str × Addr)) : Prop where
  fn : H f = some (.ext (lamPhi q params body scope cl dvF f c' d))
  code : H c' = some (CodeO c' q)
  dfl : ∀ vs, dv = some vs → H d = some (.tup vs)
  has : ∀ y ∈ scope.names, y.2 = .free → ∃ c, cl.lookup y.1 = some c
  cel : ∀ p ∈ cl, ∃ u, CelO H p.2 u ∧ ∀ (i : Nat) (v : V), N[i]? = some p.1 → σ[i]? = some (some v) → RelV v u
  inj : ∀ x y c, cl.lookup x = some c → cl.lookup y = some c → x = y
  len : σ.length = N.length
abbrev cloEnv (q : Str) (scope : Scope) (L f c' : Addr) (cl : List (Str × Addr)) : Env := PySem.W.envX q scope L f (.ref c') cl
def cloCx (P : Program) (w : World) (K : PySem.W.Frag) (mg : Str → Option Value) (base : Heap) (A : Around) (outer : List Env) (s : Shared) (H : Hp) (E : XK) (N : List Str) (q : Str) (scope : Scope) (f c' : Addr) (cl : List (Str × Addr)) : Cx where
  prog := P
  w := w
  K := K
  mg := mg
  base := base
  A := A.deeper (cloEnv q scope s.heap.objs.size f c' cl)
  N := N
  s_0 := s
  H_0 := H
  env := cloEnv q scope s.heap.objs.size f c' cl
  outer := outer
  stack := cloEnv q scope s.heap.objs.size f c' cl :: outer
  ex := []
  fn := fun _ => false
  calm := true
  pn := []
  xe := fun e s' => wpAny (model P w) (A.deeper (cloEnv q scope s.heap.objs.size f c' cl)) (leaving (cloEnv q scope s.heap.objs.size f c' cl) e) (fun _ s'' => L2.CX P w outer H s E e s'') (fun e' s'' => L2.CX P w outer H s E e' s'') s'
section
variable {P : Program} {w : World} {K : PySem.W.Frag} {mg : Str → Option Value} {base : Heap} {A : Around} {outer : List Env} {s1 : Shared} {G : Hp} {q : Str} {params : Arguments} {body : Expr} {scope : Scope} {dvF : Addr → Value} {dv : Option (List V)} {N : List Str} {σ : St} {f c' d : Addr} {cl : List (Str × Addr)}
  {E : XK} {Q : VK}
theorem CloAt.cell (C : CloAt G q params body scope dvF dv N σ f c' d cl) {b : Addr} (h : b ∈ cl.map (·.2)) : ∃ o u, G b = some (.frz o (.own 0)) ∧ o.data = .cell (some u) := by
  obtain ⟨p, hp, rfl⟩ := List.mem_map.mp h
  obtain ⟨u, ⟨o, e1, e2⟩, _⟩ := C.cel p hp
  exact ⟨o, u, e1, e2⟩
end
end L2
namespace Fw
variable [TbC]
open PySem PySem.Spec PySem.Calls PyProof.Rows PySem.W LamX L2
section
variable {P : Program} {w : World} {K : PySem.W.Frag} {mg : Str → Option Value} {base : Heap} {A : Around} {outer : List PySem.Env} {s1 : Shared} {G : Hp} {q : Str} {params : Arguments} {body : Expr} {scope : Scope} {dvF : Addr → Value} {dv : Option (List V)} {N : List Str} {σ : L2.St} {f c' d : Addr} {cl : List (Str × Addr)}
  {E : XK} {Q : VK} {tb : XK → TE} {kb : Nat} {bs : List (Str × Value)} {pm ctv : Value}
end
end Fw

set_option Elab.async false
set_option linter.all false
set_option maxRecDepth 100000
set_option maxHeartbeats 2000000
/-! A def that hands back what leans on its cells: they are told behind its end. -/
namespace L2
open PySem PySem.Spec PySem.Calls PyProof.Rows PySem.W LamX
/-- a text that ends by return, told with the slots at its end -/
structure PSm (X : Cx) (st : List Stmt) (t : (St → V → Hp → Prop) → St → Hp → Prop) : Prop where
  go : ∀ (pins : List (Addr × Obj)) (s : Shared) (σ : St) (H : Hp) (D : St → V → Hp → Prop), Inv X pins σ H s → t D σ H → wpAny (model X.prog X.w) X.A (execs st X.env) (fun f sz => ∃ u σz v Hz, f = .ret u ∧ Inv X pins σz Hz sz ∧ RelV v u ∧ D σz v Hz) X.xe s
section
variable {X : Cx} {st : Stmt} {rest : List Stmt} {t : TS} {u : (St → V → Hp → Prop) → St → Hp → Prop}
end
/-- the cells of a def that has ended -/
structure Cels (cells : List (Str × Addr)) (N : List Str) (σ : St) (H H2 : Hp) : Prop where
  out : ∀ b, (∀ y, cells.lookup y ≠ some b) → H2 b = H b
  new : ∀ y b, cells.lookup y = some b → H b = none
  cel : ∀ y b, cells.lookup y = some b → ∃ o, H2 b = some (.frz o (.own 0))
  at_ : ∀ y b (j : Nat) (v : V), cells.lookup y = some b → N[j]? = some y → σ[j]? = some (some v) → ∃ u, CelO H2 b u ∧ RelV v u
  inj : ∀ x y c, cells.lookup x = some c → cells.lookup y = some c → x = y
open Classical in
noncomputable def layC (cells : List (Str × Addr)) (h : Heap) (H : Hp) : Hp := fun b => if ∃ y, cells.lookup y = some b then (h.get? b).map (fun o => .frz o (.own 0)) else H b
section
variable {X : Cx} {pins : List (Addr × Obj)} {σ : St} {H : Hp} {s : Shared}
end
end L2
namespace Fw
variable [TbC]
open PySem PySem.Spec PySem.Calls PyProof.Rows PySem.W LamX L2
section
variable {P : Program} {w : World} {K : PySem.W.Frag} {mg : Str → Option Value} {base : Heap} {x qual : Str} {params : Arguments} {body : List Stmt} {scope : Scope} {dvs : List V} {kws : List (Str × V)} {f : Addr} {fd : FuncData}
end
end Fw

set_option Elab.async false
set_option linter.all false
set_option maxRecDepth 100000
set_option maxHeartbeats 2000000
/-! Lambdas that stand by themselves, as data. -/
namespace Fw
variable [TbC]
open PySem PySem.Spec PySem.Calls PyProof.Rows PySem.W LamX L2
/-- the call of what stands at f does tl -/
def ActP (P : Program) (w : World) (K : PySem.W.Frag) (mg : Str → Option Value) (base : Heap) (kb : Nat) (f : Addr) (tl : XK → Hp → VK → Prop) : Prop :=
  ∀ (A : Around) (outer : List PySem.Env) (s1 : Shared) (G : Hp) (Q : VK) (E : XK), Env0 P w K mg base A outer s1 G → s1.heap.NoLimit → Rg (kb + 1) A → tl E G Q →
    (∃ oc od fd osl, s1.heap.get? f = some ⟨oc, od, .func fd, osl⟩) ∧ codeAny (model P w) A (.call (.ref f) ⟨[], []⟩) (CR (L2.CX P w) outer P w G s1 Q E) s1
/-- told over the frozen heap F1: it gives r -/
def LTc (K : PySem.W.Frag) (F1 : Hp) (tl : XK → Hp → VK → Prop) (r : R Unit) : Prop :=
  (r = .ok () ∧ ∀ (E : XK) (σ : L2.St) (ρ : Env) (F H : Hp) (Q : VK), Same F1 F → Ok K σ F H ρ → (∀ v F' H', Ok K σ F' H' ρ → Step ρ F H ρ F' H' → Q v H') → tl E H Q) ∨
  ∃ c v, r = .err c v ∧ ∀ (E : XK) (σ : L2.St) (ρ : Env) (F H : Hp) (Q : VK), Same F1 F → Ok K σ F H ρ →
    (∀ F' H' dx u, Ok K σ F' H' ρ → Step ρ F H ρ F' H' → H' dx = none → Rep K F' (xc K c v).dv u → E (.ref (xc K c v).C) (some dx) (upd H' dx (.xd [((xc K c v).f, u)]))) → tl E H Q
def cloR (P : Program) (w : World) (K : PySem.W.Frag) (mg : Str → Option Value) (base : Heap) (kb : Nat) (r : R Unit) : Hp → Addr → Prop := fun F1 f => ∃ (c' : Addr) (q : Str) (tl : XK → Hp → VK → Prop), F1 c' = some (CodeO c' q) ∧ ActP P w K mg base kb f tl ∧ LTc K F1 tl r
def eClo (P : Program) (w : World) (K : PySem.W.Frag) (mg : Str → Option Value) (base : Heap) (kb : Nat) (r : R Unit) : D := .ob (cloR P w K mg base kb r)
/-- its call, told of whatever it is -/
def actC (P : Program) (w : World) (K : PySem.W.Frag) (mg : Str → Option Value) (base : Heap) (kb : Nat) (f : Addr) : XK → Hp → VK → Prop := fun E G Q => ∃ tl, ActP P w K mg base kb f tl ∧ tl E G Q
def tCallC (j : Nat) (C : R Unit → D → Prop) (P : Program) (w : World) (K : PySem.W.Frag) (mg : Str → Option Value) (base : Heap) (kb : Nat) : TE := fun σ H Q => ∃ f c' q, σ[j]? = some (some (.ref f)) ∧ LamSp K C c' q (actC P w K mg base kb f) H Q
section
variable {X : Cx} {k kb j : Nat} {a : Str}
end
section
variable {P : Program} {w : World} {K : PySem.W.Frag} {mg : Str → Option Value} {base : Heap} {kb : Nat} {μ : MEnv}
end
end Fw

set_option Elab.async false
set_option linter.all false
set_option maxRecDepth 100000
set_option maxHeartbeats 2000000
/-! A def that hands back lambdas that lean on its parameters. -/
namespace Fw
variable [TbC]
open PySem PySem.Spec PySem.Calls PyProof.Rows PySem.W LamX L2
section
variable {P : Program} {w : World} {K : PySem.W.Frag} {mg : Str → Option Value} {base : Heap} {kb : Nat} {μ μ' : MEnv} {σ : L2.St} {ρ : Env} {F H F2 H2 : Hp} {cells : List (Str × Addr)} {N : List Str}
  {q : Str} {params : Arguments} {body : Expr} {scope : Scope} {dvF : Addr → Value} {dv : Option (List V)} {f c' d : Addr} {cl : List (Str × Addr)} {tb : XK → TE} {r : R Unit}
/-- the reading of such a lambda's call -/
def tlB (N : List Str) (σ : L2.St) (q : Str) (params : Arguments) (body : Expr) (scope : Scope) (dvF : Addr → Value) (dv : Option (List V)) (f c' d : Addr) (cl : List (Str × Addr)) (tb : XK → TE) : XK → Hp → VK → Prop := fun E G Q => CloAt G q params body scope dvF dv N σ f c' d cl ∧
  tb (fun cls dx H' => (∀ b ∈ cl.map (·.2), H' b = none) → E cls dx (addC (cl.map (·.2)) G H')) σ (delC (cl.map (·.2)) G) (fun v H' => (∀ b ∈ cl.map (·.2), H' b = none) → Q v (addC (cl.map (·.2)) G H'))
end
end Fw

set_option Elab.async false
set_option linter.all false
set_option maxRecDepth 100000
set_option maxHeartbeats 2000000
namespace L2
open PySem PySem.Spec PySem.Calls PyProof.Rows PySem.W LamX
def tM (i : Nat) (t : TS) : (St → V → Hp → Prop) → St → Hp → Prop := fun D σ H => t { nx := fun σ H => ∃ v, σ[i]? = some (some v) ∧ D σ v H, rt := fun _ _ => False } σ H
section
variable {X : Cx} {st : Stmt} {rest : List Stmt} {t u : TS} {i : Nat}
end
end L2
namespace Fw
variable [TbC]
open PySem PySem.Spec PySem.Calls PyProof.Rows PySem.W LamX L2
section
variable {P : Program} {w : World} {K : PySem.W.Frag} {mg : Str → Option Value} {base : Heap} {kb : Nat} {μ μ' : MEnv} {σ : L2.St} {ρ : Env} {F H F2 H2 : Hp} {cells : List (Str × Addr)} {N : List Str}
  {q : Str} {params : Arguments} {body : Expr} {scope : Scope} {dvF : Addr → Value} {dv : Option (List V)} {f c' d : Addr} {cl : List (Str × Addr)} {tb : XK → TE} {r : R Unit}
/-- what is told of a lambda in its maker becomes what is told of it by itself -/
def LamC (P : Program) (w : World) (K : PySem.W.Frag) (mg : Str → Option Value) (base : Heap) (kb : Nat) (N : List Str) (μ : MEnv) (cells : List (Str × Addr)) (e : D) (r : R Unit) : Prop := ∀ (σ : L2.St) (ρ : Env) (F H H2 F2 : Hp) (v : V), Ok K σ F H ρ → Ab ρ μ → Cels cells N σ H H2 → Same F F2 →
  (∀ y b, cells.lookup y = some b → F b = none ∧ F2 b = H2 b) → Rep K F e v → Rep K F2 (eClo P w K mg base kb r) v
/-- all slots hold data -/
def allV (μ : MEnv) : Bool := μ.all fun x => match x with
  | some (.o _ _) => false
  | _ => true
/-- the slots that are told hold data: the others are let go -/
def keepE : Env → MEnv → Env
  | x :: ρ, some y :: μ => x :: keepE ρ μ
  | _ :: ρ, none :: μ => none :: keepE ρ μ
  | ρ, _ => ρ
/-- lists of lambdas -/
inductive LamCs (P : Program) (w : World) (K : PySem.W.Frag) (mg : Str → Option Value) (base : Heap) (kb : Nat) (N : List Str) (μ : MEnv) (cells : List (Str × Addr)) : List D → List (R Unit) → Prop
  | nil : LamCs P w K mg base kb N μ cells [] []
  | cons {e : D} {r : R Unit} {es : List D} {rs : List (R Unit)} : LamC P w K mg base kb N μ cells e r → LamCs P w K mg base kb N μ cells es rs → LamCs P w K mg base kb N μ cells (e :: es) (r :: rs)
end
end Fw

set_option Elab.async false
set_option linter.all false
set_option maxRecDepth 100000
set_option maxHeartbeats 2000000
namespace Fw
variable [TbC]
open PySem PySem.Spec PySem.Calls PyProof.Rows PySem.W LamX L2
section
variable {P : Program} {w : World} {K : PySem.W.Frag} {mg : Str → Option Value} {base : Heap} {x qual : Str} {params : Arguments} {body : List Stmt} {scope : Scope} {dvs : List V} {kws : List (Str × V)} {fd : FuncData}
/-- every cell of a def is one of its own names -/
def celB (sc : Scope) : Bool := sc.names.all fun y => (!decide (y.2 = .cell) || decide (sc.names.lookup y.1 = some .cell)) && !decide (y.2 = .free)
/-- what a lambda leans on: parameters of its maker -/
def capB (scM scope : Scope) (N : List Str) : Bool := scope.names.all fun y => !decide (y.2 = .free) || (decide (scM.names.lookup y.1 = some .cell) && decide (y.1 ∈ N))
end
section
variable {X : Cx} {P : Program} {w : World} {K : PySem.W.Frag} {mg : Str → Option Value} {base : Heap} {k kb j : Nat} {a x y : Str} {C : R Unit → D → Prop} {p py pos : Pos}
end
section
variable {K : PySem.W.Frag} {x : Xc} {W : WX} {μ μw : MEnv} {ta : TE}
end
instance ne_rmvG {α : Type} [DecidableEq α] {xs : List α} {x : α} : NE (rmvG xs x) := by unfold rmvG; split <;> infer_instance
end Fw

set_option Elab.async false
set_option linter.all false
/-! A record of clients that crash: a dict with texts as keys. -/
namespace Fw
structure CrashM where
  held : List (Option Int × Int)
  owners : List Int
  falls : Int
  gone : Int
  runs : List (Int × Int)
end Fw

set_option Elab.async false
set_option linter.all false
set_option maxRecDepth 100000
set_option maxHeartbeats 4000000
/-! A dict with texts as keys, that owns its lists. -/
namespace Fw
variable [TbC]
open PySem L2
section
variable {K : PySem.W.Frag} {q : Bool} {ρ : Env} {σ : St} {F H H' : Hp} {i : Nat} {E : En} {te ty ti : TE} {f : Str} {a p : Addr} {fs : List (Str × Fl)}
/-- the keys of a dict with texts -/
def keyR (ws : List (Str × V)) : List (Key × V) := ws.map fun w => ((.inr w.1 : Key), w.2)
theorem FlsAt.keys {ws : List (Str × V)} (h : FlsAt K F H fs ws) : ws.map (·.1) = fs.map (·.1) := by
  induction h with
  | nil => rfl
  | cons _ _ ih => rw [List.map_cons, List.map_cons, ih]
/-- the key: a text, quiet -/
abbrev KyT (K : PySem.W.Frag) (ty : TE) (ρ : Env) (f : Str) : Prop := ev K true ty ρ fun d _ => d = .str f
section
variable {xs : List D}
end
end
end Fw

set_option Elab.async false
set_option linter.all false
set_option maxRecDepth 100000
set_option maxHeartbeats 4000000
/-! A dict with texts as keys: its rules; its display. -/
namespace Fw
variable [TbC]
open PySem L2
section
variable {K : PySem.W.Frag} {q : Bool} {ρ : Env} {σ : St} {F H H' : Hp} {i : Nat} {te ty ti ta tb : TE} {f : Str} {μ μ1 μ2 : MEnv} {d : D} {tg t0 : Option Addr} {fs fs' : List (Str × MFl)} {α β : Type} {e : α → D} {xs zs : List α} {x : α} {k : Int}
/-- a quiet text -/
abbrev KyM (K : PySem.W.Frag) (ty : TE) (μ : MEnv) (f : Str) : Prop := EV K true ty μ (.str f) μ
theorem KyM.at (h : KyM K ty μ f) (ab : Ab ρ μ) : KyT K ty ρ f := (h ρ ab).imp fun d ρ1 ⟨e1, _⟩ => e1
/-- no key stands twice -/
def ndK (fs : List (Str × MFl)) : Bool := decide ((fs.map (·.1)).Nodup)
end
/-! ### the display -/
section
variable {K : PySem.W.Frag} {ρ : Env} {σ : St} {F H : Hp} {μ μ1 μ2 : MEnv} {tk tv : TE} {trs : List (TE × TE)} {f : Str} {d : D} {mfs : List (Str × MFl)} {α : Type} {e : α → D} {xs : List α}
/-- a thing that nobody has -/
structure Lone (F H : Hp) (ρ : Env) (p : Addr) (ws : List (Key × V)) : Prop where
  no : p ∉ owns ρ
  nf : F p = none
  at_ : H p = some (.dK ws)
theorem Lone.step {F' H' : Hp} {ρ' : Env} {p : Addr} {ws : List (Key × V)} (l : Lone F H ρ p ws) (ok : Ok K σ F H ρ) (s : Step ρ F H ρ' F' H') : Lone F' H' ρ' p ws where
  no := fun z => by
    rcases s.w p z with y | y
    · exact l.no y
    · rw [l.at_] at y; cases y
  nf := by
    cases z : F' p with
    | none => rfl
    | some o =>
      rcases s.n p o z with (y | ⟨_, φ, y1, y2⟩) | y | y
      · rw [l.nf] at y; cases y
      · rw [l.at_] at y2; subst y1; cases y2
      · rw [l.at_] at y; cases y
      · exact (l.no y).elim
  at_ := (s.h p _ l.at_ l.no).2 (pl_dK.nt ok.tb l.at_)
/-- the pairs of a display, from the left -/
def RQ (K : PySem.W.Frag) (trs : List (TE × TE)) (μ : MEnv) (mfs : List (Str × MFl)) (μe : MEnv) : Prop :=
  ∀ (p : Addr) (ρ : Env) (σ : St) (F H : Hp) (Q : List (V × V) → Hp → Prop), Ab ρ μ → Ok K σ F H ρ → Lone F H ρ p [] →
    (∀ fs ws F' H' ρ', fs.map (fun f => (f.1, f.2.m)) = mfs → Ab ρ' μe → Ok K σ F' H' ρ' → FlsAt K F' H' fs ws → Step ρ F H ρ' F' H' →
      (∀ x ∈ innF fs, H x = none ∨ x ∈ owns ρ) → (innF fs).Nodup → (∀ x ∈ innF fs, F' x = none ∧ x ∉ owns ρ') → Lone F' H' ρ' p [] → Q (ws.map fun w => (kV (.inr w.1), w.2)) H') → tPairs trs σ H Q
end
def iCrash (K : PySem.W.Frag) (v : CrashM) : MO := .rcd [("held", .c (.l (v.held.map (eT2 (eO D.int) D.int)))), ("owners", .c (.l (v.owners.map D.int))), ("falls", .v (.int v.falls)), ("gone", .v (.int v.gone)), ("runs", .c (.l (v.runs.map (eT2 D.int D.int))))]
def eCrash (K : PySem.W.Frag) (v : CrashM) : D := .dct [(.inr "held", eL (eT2 (eO D.int) D.int) v.held), (.inr "owners", eL D.int v.owners), (.inr "falls", .int v.falls), (.inr "gone", .int v.gone), (.inr "runs", eL (eT2 D.int D.int) v.runs)]
example (K : PySem.W.Frag) (v : CrashM) : (iCrash K v).d = eCrash K v := rfl
end Fw

set_option Elab.async false
set_option linter.all false
set_option maxRecDepth 100000
set_option maxHeartbeats 2000000
/-! A lambda of one's own, called in one's own frame: x(), x a name. -/
namespace Fw
variable [TbC]
section
open PySem L2 LamX PySem.Spec PyProof.Rows
variable {X : Cx} {scope : Scope} {params : Arguments} {body : Expr} {kb j n : Nat} {y : Str} {t : XK → TE} {py pos : Pos} {W : WX}
def tActO (j : Nat) (q : Str) (dvs : Option (List V)) (φ : Addr → Addr → Addr → Heap → Prop) (W : WX) (t : XK → TE) : TE := fun σ H Q => ∃ f, σ[j]? = some (some (.ref f)) ∧ tActV q dvs φ f (fun E G Q => t E σ G Q) (WE W σ) H Q
end
section
open PySem L2
variable {K : PySem.W.Frag} {μ μ' : MEnv} {tb : XK → TE} {d d0 : D} {j : Nat} {q : Str} {φ : Addr → Addr → Addr → Heap → Prop} {W : WX} {x : Xc}
end
end Fw
namespace Fw
variable [TbC]
open PySem L2
end Fw

set_option Elab.async false
set_option linter.all false
set_option maxRecDepth 100000
/-! A tuple of one's own things, taken apart by a def that has it from its caller, and put together again at the end. -/
namespace Fw
variable [TbC]
open PySem L2
section
variable {K : PySem.W.Frag} {σ : St} {F H : Hp} {ρ : Env} {μ μ1 : MEnv}
def chO : Ch → MO
  | .l xs => .lst xs
  | .d xs => .dct xs
def chW : Ch → O
  | .l xs => .lst xs
  | .d xs => .dct xs
theorem chW_inn (x : Ch) : (chW x).inn = [] := by cases x <;> rfl
theorem chW_m (x : Ch) : (chW x).m = chO x := by cases x <;> rfl
theorem chO_of {c : O} {x : Ch} (h : c.m = chO x) : c = chW x := by
  cases x with
  | l xs => cases c <;> first | (cases h; rfl) | (cases h; done)
  | d xs => cases c <;> first | (cases h; rfl) | (cases h; done)
theorem chW_at {p : Addr} {x : Ch} : OwnAt K F H p (chW x) ↔ ChAt K F H p x := by cases x <;> exact Iff.rfl
def rawM (p : Addr) : MFl := .v (.raw (.ref p))
def rawL (p : Addr) : Fl := .v (.raw (.ref p))
/-- the slots behind the taking apart -/
def unpM (μ : MEnv) (i j0 j1 j2 : Nat) (a p q r : Addr) (x0 x1 x2 : Ch) : MEnv :=
  (((μ.set i (some (.o (some a) (.tpl [rawM p, rawM q, rawM r])))).set j0 (some (.o (some p) (chO x0)))).set j1 (some (.o (some q) (chO x1)))).set j2 (some (.o (some r) (chO x2)))
theorem raw_of {c : O} {p q r : Addr} (h : c.m = .tpl [rawM p, rawM q, rawM r]) : ∃ k0 k1 k2, c = .tpl [(k0, rawL p), (k1, rawL q), (k2, rawL r)] := by
  cases c with
  | tpl fs =>
    have h : fs.map (fun f => f.2.m) = [rawM p, rawM q, rawM r] := by injection h
    have hl : fs.length = 3 := by have := congrArg List.length h; simpa using this
    match fs, hl, h with
    | [(k0, f0), (k1, f1), (k2, f2)], _, h =>
      have e : ∀ {f : Fl} {p : Addr}, f.m = rawM p → f = rawL p := fun {f p} h => by
        cases f with
        | v d => have : MFl.v d = .v _ := h; injection this with h; subst h; rfl
        | c a x => cases h
      simp only [List.map_cons, List.map_nil, List.cons.injEq, and_true] at h
      exact ⟨k0, k1, k2, by rw [e h.1, e h.2.1, e h.2.2]⟩
  | _ => cases h
theorem own_of {c : O} {x0 x1 x2 : Ch} (h : c.m = .tpl [.c x0, .c x1, .c x2]) : ∃ k0 k1 k2 p q r, c = .tpl [(k0, .c p x0), (k1, .c q x1), (k2, .c r x2)] := by
  cases c with
  | tpl fs =>
    have h : fs.map (fun f => f.2.m) = [.c x0, .c x1, .c x2] := by injection h
    have hl : fs.length = 3 := by have := congrArg List.length h; simpa using this
    match fs, hl, h with
    | [(k0, f0), (k1, f1), (k2, f2)], _, h =>
      have e : ∀ {f : Fl} {x : Ch}, f.m = .c x → ∃ p, f = .c p x := fun {f x} h => by
        cases f with
        | v d => cases h
        | c a y => have : MFl.c y = .c x := h; injection this with h; subst h; exact ⟨a, rfl⟩
      simp only [List.map_cons, List.map_nil, List.cons.injEq, and_true] at h
      obtain ⟨p, rfl⟩ := e h.1
      obtain ⟨q, rfl⟩ := e h.2.1
      obtain ⟨r, rfl⟩ := e h.2.2
      exact ⟨k0, k1, k2, p, q, r, rfl⟩
  | _ => cases h
theorem sets_id {σ : St} {i : Nat} {v : V} (h : σ[i]? = some (some v)) : σ.set i (some v) = σ := by
  refine List.ext_getElem? fun j => ?_
  by_cases z : j = i
  · subst z
    rw [List.getElem?_set_self (by simpa using (List.getElem?_eq_some_iff.mp h).1), h]
  · rw [List.getElem?_set_ne (Ne.symm z)]
theorem raw_at {k0 k1 k2 : Str} {p q r : Addr} {ws : List (Str × V)} (h : FlsAt K F H [(k0, rawL p), (k1, rawL q), (k2, rawL r)] ws) : ws = [(k0, .ref p), (k1, .ref q), (k2, .ref r)] := by
  cases h with
  | cons a h =>
    cases h with
    | cons b h =>
      cases h with
      | cons c h =>
        cases h
        cases (show Rep K F (.raw (.ref p)) _ from a)
        cases (show Rep K F (.raw (.ref q)) _ from b)
        cases (show Rep K F (.raw (.ref r)) _ from c)
        rfl
/-- put together again -/
theorem repack {i j0 j1 j2 : Nat} {a p q r : Addr} {y0 y1 y2 : Ch} {k0 k1 k2 : Str} (ok : Ok K σ F H ρ)
    (hi : ρ[i]? = some (some (.o a (.tpl [(k0, rawL p), (k1, rawL q), (k2, rawL r)]))))
    (h0 : ρ[j0]? = some (some (.o p (chW y0)))) (h1 : ρ[j1]? = some (some (.o q (chW y1)))) (h2 : ρ[j2]? = some (some (.o r (chW y2)))) (d : i ≠ j0 ∧ i ≠ j1 ∧ i ≠ j2 ∧ j0 ≠ j1 ∧ j0 ≠ j2 ∧ j1 ≠ j2) :
    Ok K σ F H ((((ρ.set j0 none).set j1 none).set j2 none).set i (some (.o a (.tpl [(k0, .c p y0), (k1, .c q y1), (k2, .c r y2)])))) ∧
    ∀ b, b ∈ owns ((((ρ.set j0 none).set j1 none).set j2 none).set i (some (.o a (.tpl [(k0, .c p y0), (k1, .c q y1), (k2, .c r y2)])))) → b ∈ owns ρ := by
  obtain ⟨d1, d2, d3, d4, d5, d6⟩ := d
  have g1 : (ρ.set j0 none)[j1]? = some (some (.o q (chW y1))) := by rw [List.getElem?_set_ne d4]; exact h1
  have g2 : ((ρ.set j0 none).set j1 none)[j2]? = some (some (.o r (chW y2))) := by rw [List.getElem?_set_ne d6, List.getElem?_set_ne d5]; exact h2
  have g3 : (((ρ.set j0 none).set j1 none).set j2 none)[i]? = some (some (.o a (.tpl [(k0, rawL p), (k1, rawL q), (k2, rawL r)]))) := by rw [List.getElem?_set_ne (Ne.symm d3), List.getElem?_set_ne (Ne.symm d2), List.getElem?_set_ne (Ne.symm d1)]; exact hi
  have n0 := dropped ok h0 p List.mem_cons_self
  have ok1 := ok.setn (i := j0)
  have n1 := dropped ok1 g1 q List.mem_cons_self
  have ok2 := ok1.setn (i := j1)
  have n2 := dropped ok2 g2 r List.mem_cons_self
  have ok3 := ok2.setn (i := j2)
  have n3 := dropped ok3 g3 a List.mem_cons_self
  have ok4 := ok3.setn (i := i)
  have sub : ∀ b, b ∈ owns ((((ρ.set j0 none).set j1 none).set j2 none).set i none) → b ∈ owns (((ρ.set j0 none).set j1 none).set j2 none) ∧ b ∈ owns ((ρ.set j0 none).set j1 none) ∧ b ∈ owns (ρ.set j0 none) ∧ b ∈ owns ρ := fun b hb => by
    have e1 := owns_setn hb
    have e2 := owns_setn e1
    have e3 := owns_setn e2
    exact ⟨e1, e2, e3, owns_setn e3⟩
  obtain ⟨v, s1, rfl, s2, ws, s3, s4⟩ := ok.at_ i _ hi
  obtain ⟨v0, _, _, f0, c0⟩ := ok.at_ j0 _ h0
  obtain ⟨v1, _, _, f1, c1⟩ := ok.at_ j1 _ h1
  obtain ⟨v2, _, _, f2, c2⟩ := ok.at_ j2 _ h2
  have ew := raw_at s4
  subst ew
  have inn : (O.tpl [(k0, .c p y0), (k1, .c q y1), (k2, .c r y2)]).inn = [p, q, r] := rfl
  have mi : a ∈ owns ρ := mem_root hi
  have m0 : p ∈ owns ρ := mem_root h0
  have m1 : q ∈ owns ρ := mem_root h1
  have m2 : r ∈ owns ρ := mem_root h2
  have hp1 : p ≠ q := fun z => d4 (owns_inj ok.nd h0 h1 List.mem_cons_self (z ▸ List.mem_cons_self))
  have hp2 : p ≠ r := fun z => d5 (owns_inj ok.nd h0 h2 List.mem_cons_self (z ▸ List.mem_cons_self))
  have hp3 : q ≠ r := fun z => d6 (owns_inj ok.nd h1 h2 List.mem_cons_self (z ▸ List.mem_cons_self))
  have ha0 : a ≠ p := fun z => d1 (owns_inj ok.nd hi h0 List.mem_cons_self (z ▸ List.mem_cons_self))
  have ha1 : a ≠ q := fun z => d2 (owns_inj ok.nd hi h1 List.mem_cons_self (z ▸ List.mem_cons_self))
  have ha2 : a ≠ r := fun z => d3 (owns_inj ok.nd hi h2 List.mem_cons_self (z ▸ List.mem_cons_self))
  have ok5 := ok4.seto (i := i) (a := a) (c := .tpl [(k0, .c p y0), (k1, .c q y1), (k2, .c r y2)]) (v := .ref a) ⟨rfl, fun x hx => ?_, [(k0, .ref p), (k1, .ref q), (k2, .ref r)], s3, .cons ⟨rfl, chW_at.mp c0⟩ (.cons ⟨rfl, chW_at.mp c1⟩ (.cons ⟨rfl, chW_at.mp c2⟩ .nil))⟩ ?_ fun x hx m => ?_
  · rw [sets_id s1, List.set_set] at ok5
    refine ⟨ok5, fun b hb => ?_⟩
    rcases owns_set_sub hb with z | z
    · exact owns_setn (owns_setn (owns_setn z))
    · have z : b ∈ [a, p, q, r] := z
      simp only [List.mem_cons, List.not_mem_nil, or_false] at z
      rcases z with rfl | rfl | rfl | rfl <;> assumption
  · rw [inn] at hx
    simp only [List.mem_cons, List.not_mem_nil, or_false] at hx
    rcases hx with rfl | rfl | rfl | rfl
    · exact s2 _ List.mem_cons_self
    · exact f0 _ List.mem_cons_self
    · exact f1 _ List.mem_cons_self
    · exact f2 _ List.mem_cons_self
  · rw [inn]; simp [ha0, ha1, ha2, hp1, hp2, hp3]
  · rw [inn] at hx
    obtain ⟨e1, e2, e3, e4⟩ := sub x m
    simp only [List.mem_cons, List.not_mem_nil, or_false] at hx
    rcases hx with rfl | rfl | rfl | rfl
    · exact n3 m
    · exact n0 e3
    · exact n1 e2
    · exact n2 e1
theorem unpack {i : Nat} {a p q r : Addr} {x0 x1 x2 : Ch} {k0 k1 k2 : Str} (ok : Ok K σ F H ρ)
    (hi : ρ[i]? = some (some (.o a (.tpl [(k0, .c p x0), (k1, .c q x1), (k2, .c r x2)])))) :
    ∃ ws, σ[i]? = some (some (.ref a)) ∧ H a = some (.tup ws) ∧ ws = [.ref p, .ref q, .ref r] ∧ Ok K σ F H (ρ.set i (some (.o a (.tpl [(k0, rawL p), (k1, rawL q), (k2, rawL r)])))) ∧
      RsL K F H [.o p (chW x0), .o q (chW x1), .o r (chW x2)] ws ∧ (adr [.o p (chW x0), .o q (chW x1), .o r (chW x2)]).Nodup ∧
      (∀ b ∈ adr [Sl.o p (chW x0), .o q (chW x1), .o r (chW x2)], b ∉ owns (ρ.set i (some (.o a (.tpl [(k0, rawL p), (k1, rawL q), (k2, rawL r)]))))) ∧
      (∀ b ∈ adr [Sl.o p (chW x0), .o q (chW x1), .o r (chW x2)], b ∈ owns ρ) ∧ ∀ b, b ∈ owns (ρ.set i (some (.o a (.tpl [(k0, rawL p), (k1, rawL q), (k2, rawL r)])))) → b ∈ owns ρ := by
  obtain ⟨v, s1, rfl, s2, ws, s3, s4⟩ := ok.at_ i _ hi
  have ea : adr [Sl.o p (chW x0), .o q (chW x1), .o r (chW x2)] = [p, q, r] := by
    show (p :: (chW x0).inn) ++ ((q :: (chW x1).inn) ++ ((r :: (chW x2).inn) ++ [])) = _
    rw [chW_inn, chW_inn, chW_inn]; rfl
  have inn : (O.tpl [(k0, .c p x0), (k1, .c q x1), (k2, .c r x2)]).inn = [p, q, r] := rfl
  have nd := owns_nd1 ok.nd hi
  rw [inn] at nd s2
  have ew : ws = [(k0, .ref p), (k1, .ref q), (k2, .ref r)] ∧ ChAt K F H p x0 ∧ ChAt K F H q x1 ∧ ChAt K F H r x2 := by
    cases s4 with
    | cons a h =>
      cases h with
      | cons b h =>
        cases h with
        | cons c h =>
          cases h
          obtain ⟨rfl, a⟩ := a
          obtain ⟨rfl, b⟩ := b
          obtain ⟨rfl, c⟩ := c
          exact ⟨rfl, a, b, c⟩
  obtain ⟨rfl, c0, c1, c2⟩ := ew
  have ok1 := ok.setn (i := i)
  have dr := dropped ok hi
  rw [inn] at dr
  have ok2 := ok1.seto (i := i) (a := a) (c := .tpl [(k0, rawL p), (k1, rawL q), (k2, rawL r)]) (v := .ref a) ⟨rfl, fun x hx => by
      have hx : x ∈ [a] := hx
      exact s2 x (List.mem_cons.mpr (.inl (List.mem_singleton.mp hx))), [(k0, .ref p), (k1, .ref q), (k2, .ref r)], s3, .cons (Rep.raw _) (.cons (Rep.raw _) (.cons (Rep.raw _) .nil))⟩ (by simp [O.inn, rawL, Fl.ad]) (fun x hx => by
      have hx : x ∈ [a] := hx
      exact dr x (List.mem_cons.mpr (.inl (List.mem_singleton.mp hx))))
  rw [sets_id s1, List.set_set] at ok2
  have out : ∀ b, b ∈ owns (ρ.set i (some (.o a (.tpl [(k0, rawL p), (k1, rawL q), (k2, rawL r)])))) → b ∈ owns (ρ.set i none) ∨ b = a := fun b hb => by
    rw [← List.set_set (a := none)] at hb
    rcases owns_set_sub hb with z | z
    · exact .inl z
    · have z : b ∈ [a] := z
      exact .inr (List.mem_singleton.mp z)
  refine ⟨_, s1, s3, rfl, ok2, .cons ⟨rfl, fun x hx => ?_, chW_at.mpr c0⟩ (.cons ⟨rfl, fun x hx => ?_, chW_at.mpr c1⟩ (.cons ⟨rfl, fun x hx => ?_, chW_at.mpr c2⟩ .nil)), ?_, fun b hb m => ?_, fun b hb => ?_, fun b hb => ?_⟩
  · rw [chW_inn] at hx; rw [List.mem_singleton.mp hx]; exact s2 p (by simp)
  · rw [chW_inn] at hx; rw [List.mem_singleton.mp hx]; exact s2 q (by simp)
  · rw [chW_inn] at hx; rw [List.mem_singleton.mp hx]; exact s2 r (by simp)
  · rw [ea]; exact (List.nodup_cons.mp nd).2
  · rw [ea] at hb
    rcases out b m with z | z
    · exact dr b (List.mem_cons_of_mem _ hb) z
    · exact (List.nodup_cons.mp nd).1 (z ▸ hb)
  · rw [ea] at hb
    exact mem_in hi (List.mem_cons_of_mem _ hb)
  · rcases out b hb with z | z
    · exact owns_setn z
    · rw [z]; exact mem_root hi
/-- a, b, c = x, x a tuple of the caller's; at the end it is put together again -/
theorem x_unpkI {u : TS} {i j0 j1 j2 : Nat} {a : Addr} {x0 x1 x2 y0 y1 y2 : Ch} {s : MSl} {M : Addr → Addr → Addr → MEnv} {μ3 : MEnv}
    (hi : μ[i]? = some (some (.o (some a) (.tpl [.c x0, .c x1, .c x2])))) (d : i ≠ j0 ∧ i ≠ j1 ∧ i ≠ j2 ∧ j0 ≠ j1 ∧ j0 ≠ j2 ∧ j1 ≠ j2)
    (h : ∀ p q r, XS K u (unpM μ i j0 j1 j2 a p q r x0 x1 x2) (.rt s (M p q r)))
    (hk : ∀ p q r, (M p q r)[i]? = some (some (.o (some a) (.tpl [rawM p, rawM q, rawM r]))) ∧ (M p q r)[j0]? = some (some (.o (some p) (chO y0))) ∧ (M p q r)[j1]? = some (some (.o (some q) (chO y1))) ∧ (M p q r)[j2]? = some (some (.o (some r) (chO y2))))
    (he : ∀ p q r, ((((M p q r).set j0 none).set j1 none).set j2 none).set i (some (.o (some a) (.tpl [.c y0, .c y1, .c y2]))) = μ3) :
    XS K (tSeq (tAsg (tVar i) (gTup K 3 (gNames [j0, j1, j2]))) u) μ (.rt s μ3) := fun ρ ab σ F H D ok g => by
  obtain ⟨a', c, h1, h2, h3⟩ := ab.geto hi
  obtain rfl := h3 a rfl
  obtain ⟨k0, k1, k2, p, q, r, rfl⟩ := own_of h2
  obtain ⟨ws, u1, u2, u3, ok1, rs, nd, nin, bin, sub⟩ := unpack ok h1
  have hlen : (ws.length : Nat) = 3 := by rw [u3]; rfl
  refine ⟨_, u1, a, ws, rfl, .inl (.inl u2), hlen, ?_⟩
  refine gnames_ok (is := [j0, j1, j2]) ok1 rs nd nin rfl fun σ' ok2 w => ?_
  have ab2 : Ab (setAll (ρ.set i (some (.o a (.tpl [(k0, rawL p), (k1, rawL q), (k2, rawL r)])))) [j0, j1, j2] [.o p (chW x0), .o q (chW x1), .o r (chW x2)]) (unpM μ i j0 j1 j2 a p q r x0 x1 x2) := by
    have t : ∀ (p : Addr) (x : Ch), AbS (some (.o p (chW x))) (some (.o (some p) (chO x))) := fun p x => by rw [← chW_m]; exact .t
    exact (((ab.set (AbS.t (c := .tpl [(k0, rawL p), (k1, rawL q), (k2, rawL r)])) i).set (t p x0) j0).set (t q x1) j1).set (t r x2) j2
  have own2 : ∀ b, b ∈ owns (setAll (ρ.set i (some (.o a (.tpl [(k0, rawL p), (k1, rawL q), (k2, rawL r)])))) [j0, j1, j2] [.o p (chW x0), .o q (chW x1), .o r (chW x2)]) → b ∈ owns ρ := fun b hb => by
    rcases w b hb with z | z
    · exact sub b z
    · exact bin b z
  refine h p q r _ ab2 σ' F H D ok2 ⟨fun σ1 F1 H1 ρ1 o1 st z => z.elim, fun s' v σ1 F1 H1 ρ1 o1 rs1 ap st z => ?_, fun σ1 F1 H1 ρ1 o1 st z => z.elim, fun σ1 F1 H1 ρ1 o1 st z => z.elim⟩
  obtain ⟨z1, z2⟩ := z
  obtain ⟨m1, m2, m3, m4⟩ := hk p q r
  obtain ⟨b1, c1, w1, w2, w3⟩ := z2.geto m1
  obtain rfl := w3 a rfl
  obtain ⟨l0, l1, l2, rfl⟩ := raw_of w2
  obtain ⟨b2, c2, e1, e2, e3⟩ := z2.geto m2
  obtain rfl := e3 p rfl
  obtain rfl := chO_of e2
  obtain ⟨b3, c3, f1, f2, f3⟩ := z2.geto m3
  obtain rfl := f3 q rfl
  obtain rfl := chO_of f2
  obtain ⟨b4, c4, g1, g2, g3⟩ := z2.geto m4
  obtain rfl := g3 r rfl
  obtain rfl := chO_of g2
  obtain ⟨o3, sb⟩ := repack o1 w1 e1 f1 g1 d
  refine g.rt s' v σ1 F1 H1 _ o3 rs1 (fun a c e => ?_) ⟨st.f, fun b o e m => st.h b o e fun z => m (own2 b z), fun b o e => ?_, fun b hb => ?_⟩ ⟨z1, ?_⟩
  · obtain ⟨y1, y2⟩ := ap a c e
    refine ⟨fun x hx => ⟨?_, fun m => (y1 x hx).2 (sb x m)⟩, y2⟩
    rcases (y1 x hx).1 with z | z
    · exact .inl (own2 x z)
    · exact .inr z
  · rcases st.n b o e with z | z | z
    · exact .inl z
    · exact .inr (.inl z)
    · exact .inr (.inr (own2 b z))
  · rcases st.w b (sb b hb) with z | z
    · exact .inl (own2 b z)
    · exact .inr z
  · rw [← he p q r]
    exact (((z2.set .any j0).set .any j1).set .any j2).set (AbS.t (c := .tpl [(l0, .c p y0), (l1, .c q y1), (l2, .c r y2)])) i
end
end Fw

set_option Elab.async false
set_option linter.all false
set_option maxRecDepth 100000
/-! A tuple of one's own things in a slot: made, its things read, a dict of it changed. -/
namespace Fw
variable [TbC]
open PySem L2
section
variable {K : PySem.W.Frag} {σ : St} {F H : Hp} {ρ : Env} {μ μ1 : MEnv} {i : Nat} {q : Bool} {tg : Option Addr} {x0 x1 x2 : Ch}
theorem fls3 {k0 k1 k2 : Str} {p q r : Addr} {ws : List (Str × V)} (h : FlsAt K F H [(k0, .c p x0), (k1, .c q x1), (k2, .c r x2)] ws) : ws = [(k0, .ref p), (k1, .ref q), (k2, .ref r)] ∧ ChAt K F H p x0 ∧ ChAt K F H q x1 ∧ ChAt K F H r x2 := by
  cases h with
  | cons a h =>
    cases h with
    | cons b h =>
      cases h with
      | cons c h =>
        cases h
        obtain ⟨rfl, a⟩ := a
        obtain ⟨rfl, b⟩ := b
        obtain ⟨rfl, c⟩ := c
        exact ⟨rfl, a, b, c⟩
/-- x[k], x a slot's tuple of three things -/
theorem b_tp {k : Nat} {y : Ch} (h1 : μ[i]? = some (some (.o tg (.tpl [.c x0, .c x1, .c x2])))) (hk : [x0, x1, x2][k]? = some y) : EB K q (tOp (rIx K) (tVar i) (tC (.int (k : Int)))) μ y.d' μ := fun ρ ab σ F H Q ok c => by
  obtain ⟨a, c', h2, h3, h4⟩ := ab.geto h1
  obtain ⟨k0, k1, k2, p, q', r, rfl⟩ := own_of h3
  obtain ⟨v, e1, rfl, e2, ws, e3, e4⟩ := ok.at_ i _ h2
  obtain ⟨rfl, c0, c1, c2⟩ := fls3 e4
  refine ⟨_, e1, ?_⟩
  have hit : ∀ {f : Str} {p : Addr} {x : Ch}, (f, Fl.c p x) ∈ [(k0, Fl.c p x0), (k1, Fl.c q' x1), (k2, Fl.c r x2)] → True := fun _ => trivial
  match k, hk with
  | 0, hk =>
    cases hk
    exact .inr (.inl ⟨a, _, 0, .ref p, rfl, rfl, SqT.of e3, rfl, c x0.d' _ F H ρ ok (.inr (.inr ⟨i, a, _, k0, p, x0, h2, List.mem_cons_self, rfl, rfl⟩)) (Step.refl _ _ _) (Qt.refl _ _ _ _) ⟨rfl, ab⟩⟩)
  | 1, hk =>
    cases hk
    exact .inr (.inl ⟨a, _, 1, .ref q', rfl, rfl, SqT.of e3, rfl, c x1.d' _ F H ρ ok (.inr (.inr ⟨i, a, _, k1, q', x1, h2, List.mem_cons_of_mem _ List.mem_cons_self, rfl, rfl⟩)) (Step.refl _ _ _) (Qt.refl _ _ _ _) ⟨rfl, ab⟩⟩)
  | 2, hk =>
    cases hk
    exact .inr (.inl ⟨a, _, 2, .ref r, rfl, rfl, SqT.of e3, rfl, c x2.d' _ F H ρ ok (.inr (.inr ⟨i, a, _, k2, r, x2, h2, List.mem_cons_of_mem _ (List.mem_cons_of_mem _ List.mem_cons_self), rfl, rfl⟩)) (Step.refl _ _ _) (Qt.refl _ _ _ _) ⟨rfl, ab⟩⟩)
  | k + 3, hk => simp at hk
/-- x[0].pop(k) -/
theorem e_tpop0 {α : Type} {e : α → D} {kvs : List (Int × α)} {x : α} {k : Int} {ti : TE} (h1 : μ[i]? = some (some (.o tg (.tpl [.c (.d (kvs.map (kvD e))), .c x1, .c x2])))) (hi : EV K true ti μ (.int k) μ) (hx : getR kvs k = .ok x) :
    EV K false (tDPop1 (tOp (rIx K) (tVar i) (tC (.int 0))) ti) μ (e x) (μ.set i (some (.o tg (.tpl [.c (.d ((dropZ kvs k).map (kvD e))), .c x1, .c x2])))) := fun ρ ab σ F H Q ok c => by
  obtain ⟨a, c', h2, h3, h4⟩ := ab.geto h1
  obtain ⟨k0, k1, k2, p, q', r, rfl⟩ := own_of h3
  obtain ⟨v, e1, rfl, e2, ws, e3, e4⟩ := ok.at_ i _ h2
  obtain ⟨rfl, ⟨vs, c0, rp⟩, c1, c2⟩ := fls3 e4
  refine ⟨_, e1, .inr (.inl ⟨a, _, 0, .ref p, rfl, rfl, SqT.of e3, rfl, p, rfl, .inl ⟨vs, .inl c0⟩, ?_⟩)⟩
  refine hi ρ ab σ F H _ ok fun d2 v2 F2 H2 ρ2 ok2 r2 s2 q2 ⟨e5, _⟩ => ?_
  obtain ⟨rfl, rfl, rfl⟩ := q2 rfl
  subst e5; cases r2
  have nd := owns_nd1 ok.nd h2
  have hin : (O.tpl [(k0, .c p (.d (kvs.map (kvD e)))), (k1, .c q' x1), (k2, .c r x2)]).inn = [p, q', r] := rfl
  rw [hin] at nd
  rcases rp.val (.inl k) with ⟨z1, z2⟩ | ⟨d, v, z1, z2, z3⟩
  · rw [lookD_lookZ, getR_look hx] at z2; cases z2
  · rw [lookD_lookZ, getR_look hx] at z1; cases z1
    have pa : p ≠ a := fun z => (List.nodup_cons.mp nd).1 (by rw [← z]; exact List.mem_cons_self)
    have pq : p ≠ q' := fun z => (List.nodup_cons.mp (List.nodup_cons.mp nd).2).1 (by rw [z]; exact List.mem_cons_self)
    have pr : p ≠ r := fun z => (List.nodup_cons.mp (List.nodup_cons.mp nd).2).1 (by rw [z]; simp)
    have keep : ∀ {b : Addr} {o : HO}, b ≠ p → H2 b = some o → upd H2 p (.dK (dropK vs (.inl k))) b = some o := fun hb e => by rw [upd_ne hb]; exact e
    obtain ⟨ok3, s3⟩ := ok.mutG (c' := .tpl [(k0, .c p (.d ((dropZ kvs k).map (kvD e)))), (k1, .c q' x1), (k2, .c r x2)]) (H' := upd H2 p (.dK (dropK vs (.inl k)))) h2
      ⟨[(k0, .ref p), (k1, .ref q'), (k2, .ref r)], keep (Ne.symm pa) e3, .cons ⟨rfl, _, upd_same, by rw [← dropD_map]; exact rp.drop (.inl k)⟩ (.cons ⟨rfl, c1.mono (Same.refl _) fun o e => keep (Ne.symm pq) e⟩ (.cons ⟨rfl, c2.mono (Same.refl _) fun o e => keep (Ne.symm pr) e⟩ .nil))⟩
      (fun y o e hy => keep (fun z => hy (by rw [z, hin]; simp)) e) (fun y hy => .inl (List.mem_cons_of_mem _ hy)) nd
    refine ⟨vs, .inl k, v, c0, rfl, z2, c _ _ _ _ _ ok3 z3 s3 (fun z => nomatch z) ⟨rfl, ab.set ?_ i⟩⟩
    exact AbS.mk (c := .tpl [(k0, .c p (.d ((dropZ kvs k).map (kvD e)))), (k1, .c q' x1), (k2, .c r x2)]) h4
/-- a new thing as a part -/
def slX : MSl → Option Ch
  | .o none (.lst xs) => some (.l xs)
  | .o none (.dct xs) => some (.d xs)
  | _ => none
theorem slX_of {s : Sl} {m : MSl} {x : Ch} (h : slX m = some x) (e : s.is m) : ∃ p, s = .o p (chW x) := by
  cases m with
  | v d => cases h
  | o t c =>
    obtain ⟨a, c', rfl, rfl⟩ := e
    cases t with
    | some b => cases h
    | none =>
      cases c' <;> first | (cases h; exact ⟨a, rfl⟩) | (cases h; done)
theorem fr3 {ts : TA} {m0 m1 m2 : MSl} (h : FR K ts μ [m0, m1, m2]) (h0 : slX m0 = some x0) (h1 : slX m1 = some x1) (h2 : slX m2 = some x2) :
    XS K (tAsg (tTup ts) (gName i)) μ (.nx (μ.set i (some (.o none (.tpl [.c x0, .c x1, .c x2]))))) := fun ρ ab σ F H D ok g => by
  refine h ρ ab σ F H _ ok fun ss vs H' ok' st r nd fr cs => ?_
  cases cs with
  | @cons s0 _ ss _ e0 cs =>
    cases cs with
    | @cons s1 _ ss _ e1 cs =>
      cases cs with
      | @cons s2 _ ss _ e2 cs =>
        cases cs
        obtain ⟨p, rfl⟩ := slX_of h0 e0
        obtain ⟨q, rfl⟩ := slX_of h1 e1
        obtain ⟨r', rfl⟩ := slX_of h2 e2
        have ea : adr [Sl.o p (chW x0), .o q (chW x1), .o r' (chW x2)] = [p, q, r'] := by
          show (p :: (chW x0).inn) ++ ((q :: (chW x1).inn) ++ ((r' :: (chW x2).inn) ++ [])) = _
          rw [chW_inn, chW_inn, chW_inn]; rfl
        rw [ea] at nd fr
        cases r with
        | @cons _ _ v0 _ r0 r =>
          cases r with
          | @cons _ _ v1 _ r1 r =>
            cases r with
            | @cons _ _ v2 _ r2 r =>
              cases r
              obtain ⟨rfl, f0, c0⟩ := r0
              obtain ⟨rfl, f1, c1⟩ := r1
              obtain ⟨rfl, f2, c2⟩ := r2
              refine ⟨Nat.le_trans (show 3 ≤ 100 by decide) (by decide), fun t ht => ?_⟩
              have ft : F t = none := by
                cases z : F t with
                | none => rfl
                | some u => rw [ok'.sub _ _ z] at ht; cases ht
              have sm : Same H' (upd H' t (.tup [.ref p, .ref q, .ref r'])) := same_upd ht
              have ok2 : Ok K σ F (upd H' t (.tup [.ref p, .ref q, .ref r'])) ρ := ok'.grow (Same.refl _) sm (ok'.sub.trans sm) fun a u e => .inl e
              have s2 : Step ρ F H' ρ F (upd H' t (.tup [.ref p, .ref q, .ref r'])) := Step.grow (Same.refl _) sm fun a u e => .inl e
              have sub : ∀ b, b ∈ [p, q, r'] → H b = none ∧ b ≠ t ∧ F b = none ∧ b ∉ owns ρ := fun b hb => by
                obtain ⟨z1, o, z2⟩ := fr b hb
                refine ⟨z1, fun z => (by rw [z] at z2; rw [z2] at ht; cases ht), ?_, fun m => ?_⟩
                · simp only [List.mem_cons, List.not_mem_nil, or_false] at hb
                  rcases hb with rfl | rfl | rfl
                  · exact f0 _ List.mem_cons_self
                  · exact f1 _ List.mem_cons_self
                  · exact f2 _ List.mem_cons_self
                · obtain ⟨_, o, ho⟩ := ok.own m
                  rw [z1] at ho; cases ho
              have tn : t ∉ owns ρ := fun m => by
                obtain ⟨_, o, ho⟩ := ok'.own m
                rw [ht] at ho; cases ho
              have hin : (O.tpl [("", .c p x0), ("", .c q x1), ("", .c r' x2)]).inn = [p, q, r'] := rfl
              have kp : ∀ {b : Addr} {x : Ch}, ChAt K F H' b x → ChAt K F (upd H' t (.tup [.ref p, .ref q, .ref r'])) b x := fun h => h.mono (Same.refl _) fun o e => sm _ _ e
              have ok3 := ok2.seto (i := i) (a := t) (c := .tpl [("", .c p x0), ("", .c q x1), ("", .c r' x2)]) (v := .ref t)
                ⟨rfl, fun x hx => by
                  rw [hin] at hx
                  rcases List.mem_cons.mp hx with rfl | hx
                  · exact ft
                  · exact (sub x hx).2.2.1, [("", .ref p), ("", .ref q), ("", .ref r')], upd_same, .cons ⟨rfl, kp (chW_at.mp c0)⟩ (.cons ⟨rfl, kp (chW_at.mp c1)⟩ (.cons ⟨rfl, kp (chW_at.mp c2)⟩ .nil))⟩
                (by rw [hin]; exact List.nodup_cons.mpr ⟨fun m => (sub t m).2.1 rfl, nd⟩)
                (fun x hx => by
                  rw [hin] at hx
                  rcases List.mem_cons.mp hx with rfl | hx
                  · exact tn
                  · exact (sub x hx).2.2.2)
              refine g.nx _ F _ _ ok3 ⟨(st.trans s2).f, (st.trans s2).h, (st.trans s2).n, fun b hb => ?_⟩ (ab.set (AbS.o (c := .tpl [("", .c p x0), ("", .c q x1), ("", .c r' x2)])) i)
              rcases owns_set_sub hb with y | y
              · exact .inl y
              · have y : b ∈ t :: [p, q, r'] := y
                rcases List.mem_cons.mp y with rfl | y
                · refine .inr ?_
                  cases z : H b with
                  | none => rfl
                  | some o =>
                    obtain ⟨⟨o', e'⟩, _⟩ := st.h b o z tn
                    rw [ht] at e'; cases e'
                · exact .inr (sub b y).1
end
end Fw

set_option Elab.async false
set_option linter.all false
set_option maxRecDepth 100000
/-! (e, a, ..): data first, then slots that are not asked any more -/
namespace Fw
variable [TbC]
open PySem L2
section
variable {K : PySem.W.Frag} {σ : St} {F H : Hp} {ρ : Env} {μ μ1 μ2 : MEnv} {d : D}
theorem o_tplV {te : TE} {ts : TA} (is : List Nat) {cs : List MFl} (he : EV K false te μ d μ1) (h : tkS μ1 is = some (cs, μ2)) (ht : argV is = ts := by rfl) (hl : Nat.ble cs.length 100 = true := by rfl) : EO K (tTup (tCons te ts)) μ (.tpl (.v d :: cs)) μ2 := fun ρ ab σ F H Q ok c => by
  subst ht
  refine he ρ ab σ F H _ ok fun d' v F1 H1 ρ1 ok1 r1 s1 _ ⟨ed, ab1⟩ => ?_
  subst ed
  obtain ⟨fs, ws, ρ', k1, k2, k3, k4, k5, k6, k7, k8⟩ := tk_ok h ab1 ok1
  have hfl : fs.length = cs.length := by rw [← k4, List.length_map]
  refine k5 _ ⟨by
    have h1 : (v :: ws.map (·.2)).length = cs.length + 1 := by rw [List.length_cons, List.length_map, k3.len, hfl]
    rw [h1]
    exact Nat.le_trans (Nat.succ_le_succ (Nat.le_of_ble_eq_true hl)) (by decide), fun p hp => ?_⟩
  have fn : F1 p = none := by
    cases z : F1 p with
    | none => rfl
    | some u => rw [ok1.sub _ _ z] at hp; cases hp
  have sm : Same H1 (upd H1 p (.tup (v :: ws.map (·.2)))) := same_upd hp
  have ok2 : Ok K σ F1 (upd H1 p (.tup (v :: ws.map (·.2)))) ρ' := k1.grow (Same.refl _) sm (k1.sub.trans sm) fun a u e => .inl e
  have pin : p ∉ innT fs := fun m => by
    obtain ⟨_, o, ho⟩ := ok1.own (k6 p m).2.1
    rw [hp] at ho; cases ho
  have pow : p ∉ owns ρ' := fun m => by
    obtain ⟨_, o, ho⟩ := k1.own m
    rw [hp] at ho; cases ho
  have st2 : Step ρ1 F1 H1 ρ' F1 (upd H1 p (.tup (v :: ws.map (·.2)))) := ⟨Same.refl _, fun x o e m => .of (sm _ _ e), fun x o e => .inl (.inl e), fun x m => .inl (k8 x m)⟩
  have st := s1.trans st2
  have p0 : p ∈ owns ρ ∨ H p = none := (s1.none_of hp).symm
  refine c p (.tpl (("", .v d') :: fs)) F1 _ ρ' ok2 ⟨rfl, fun x hx => ?_, ("", v) :: ws, upd_same, .cons r1 (k3.mono (Same.refl _) fun x hx o e => sm _ _ e)⟩ st (fun x hx => ?_) (List.nodup_cons.mpr ⟨pin, k7⟩) (fun x hx => ?_) ⟨?_, k2⟩
  · rcases List.mem_cons.mp hx with rfl | hx
    · exact fn
    · exact (k6 x hx).1
  · rcases List.mem_cons.mp hx with rfl | hx
    · exact p0
    · exact s1.w x (k6 x hx).2.1
  · rcases List.mem_cons.mp hx with rfl | hx
    · exact pow
    · exact (k6 x hx).2.2
  · show MO.tpl (.v d' :: fs.map fun f => f.2.m) = _
    rw [k4]
end
end Fw
namespace Fw
open PySem L2
def tDead : TE := fun _ _ _ => False
/-- what is never reached -/
theorem pe_dead {X : Cx} {e : Expr} : PE X e tDead := ⟨fun _ _ _ _ _ _ h => h.elim⟩
end Fw

set_option Elab.async false
set_option linter.all false
set_option maxRecDepth 100000
set_option maxHeartbeats 4000000
namespace Fw
open PySem L2
def topS (i : Nat) : Stmt := PySem.Challenge.pw_idblocks_k64_a_house_step_by_step.main.body.getD i (.Pass ⟨0, 0, 0, 0⟩)
abbrev s_is_integer : Stmt := topS 10
abbrev s_is_between : Stmt := topS 11
abbrev s_check_between : Stmt := topS 12
abbrev s_check_size : Stmt := topS 15
abbrev s_is_run : Stmt := topS 16
abbrev s_grouped : Stmt := topS 17
abbrev s_check_order : Stmt := topS 18
abbrev s_Log___init__ : Stmt := inClass (topS 19) 0
abbrev s_Log___eq__ : Stmt := inClass (topS 19) 1
abbrev s_Log_parts : Stmt := inClass (topS 19) 2
abbrev s_Log_block_size : Stmt := inClass (topS 19) 3
abbrev s_Log_runs : Stmt := inClass (topS 19) 4
abbrev s_Log_blocks : Stmt := inClass (topS 19) 6
abbrev s_Log_check_block : Stmt := inClass (topS 19) 7
abbrev s_Log_issued : Stmt := inClass (topS 19) 8
abbrev s_State___init__ : Stmt := inClass (topS 24) 0
abbrev s_joined : Stmt := topS 25
abbrev s_after_take : Stmt := topS 26
abbrev s_after_crash : Stmt := topS 27
abbrev s_House___init__ : Stmt := inClass (topS 28) 0
abbrev s_House___eq__ : Stmt := inClass (topS 28) 1
abbrev s_House_facts : Stmt := inClass (topS 28) 2
abbrev s_House_block_size : Stmt := inClass (topS 28) 3
abbrev s_House_client_count : Stmt := inClass (topS 28) 4
abbrev s_House_full_log : Stmt := inClass (topS 28) 5
abbrev s_House_owners : Stmt := inClass (topS 28) 6
abbrev s_House_check_client : Stmt := inClass (topS 28) 7
abbrev s_House_holding : Stmt := inClass (topS 28) 8
abbrev s_House_check_room : Stmt := inClass (topS 28) 9
abbrev s_House_take : Stmt := inClass (topS 28) 10
abbrev s_House_crash : Stmt := inClass (topS 28) 11
abbrev s_House_numbers_lost : Stmt := inClass (topS 28) 12
abbrev s_House_fetches : Stmt := inClass (topS 28) 13
abbrev s__law_source_of : Stmt := topS 30
abbrev s__law_next : Stmt := topS 31
abbrev s__law_one : Stmt := topS 32
abbrev s__law_cell_at : Stmt := topS 33
abbrev s__law_width : Stmt := topS 34
abbrev s__law_add : Stmt := topS 35
abbrev s__law_take : Stmt := topS 36
abbrev s__law_same : Stmt := topS 37
abbrev s_law : Stmt := topS 38
structure Tx (K : PySem.W.Frag) (mg : Str → Option Value) : Prop where
  n_ArithmeticError : mg "ArithmeticError" = none
  n_bool : mg "bool" = none
  n_dict : mg "dict" = none
  n_enumerate : mg "enumerate" = none
  n_int : mg "int" = none
  n_isinstance : mg "isinstance" = none
  n_len : mg "len" = none
  n_list : mg "list" = none
  n_min : mg "min" = none
  n_range : mg "range" = none
  n_sorted : mg "sorted" = none
  n_sum : mg "sum" = none
  n_tuple : mg "tuple" = none
  k_MOST_CALLS : ∃ t, mg "MOST_CALLS" = some (.int 1000 t)
  k_MOST_CLIENTS : ∃ t, mg "MOST_CLIENTS" = some (.int 100 t)
  k_MOST_COUNT : ∃ t, mg "MOST_COUNT" = some (.int 10000000000000000000000000 t)
  k_MOST_RUNS : ∃ t, mg "MOST_RUNS" = some (.int 400 t)
  d_is_integer : ∃ fd, FunD K "is_integer" "is_integer" (defArgs s_is_integer) (defBody s_is_integer) (defScope s_is_integer) [] [] (He.ga K "is_integer") fd
  g_is_integer : mg "is_integer" = some (.ref (He.ga K "is_integer"))
  d_is_between : ∃ fd, FunD K "is_between" "is_between" (defArgs s_is_between) (defBody s_is_between) (defScope s_is_between) [] [] (He.ga K "is_between") fd
  g_is_between : mg "is_between" = some (.ref (He.ga K "is_between"))
  d_check_between : ∃ fd, FunD K "check_between" "check_between" (defArgs s_check_between) (defBody s_check_between) (defScope s_check_between) [] [] (He.ga K "check_between") fd
  g_check_between : mg "check_between" = some (.ref (He.ga K "check_between"))
  d_check_size : ∃ fd, FunD K "check_size" "check_size" (defArgs s_check_size) (defBody s_check_size) (defScope s_check_size) [] [] (He.ga K "check_size") fd
  g_check_size : mg "check_size" = some (.ref (He.ga K "check_size"))
  d_is_run : ∃ fd, FunD K "is_run" "is_run" (defArgs s_is_run) (defBody s_is_run) (defScope s_is_run) [] [] (He.ga K "is_run") fd
  g_is_run : mg "is_run" = some (.ref (He.ga K "is_run"))
  d_grouped : ∃ fd, FunD K "grouped" "grouped" (defArgs s_grouped) (defBody s_grouped) (defScope s_grouped) [] [] (He.ga K "grouped") fd
  g_grouped : mg "grouped" = some (.ref (He.ga K "grouped"))
  d_check_order : ∃ fd, FunD K "check_order" "check_order" (defArgs s_check_order) (defBody s_check_order) (defScope s_check_order) [] [] (He.ga K "check_order") fd
  g_check_order : mg "check_order" = some (.ref (He.ga K "check_order"))
  d_Log___init__ : ∃ fd, FunD K "__init__" "Log.__init__" (defArgs s_Log___init__) (defBody s_Log___init__) (defScope s_Log___init__) [] [("early", .bl false)] (He.fAd K ("Log", some "__init__")) fd
  mk_Log : Mk K (He.ga K "Log") (He.ma K (He.ga K "Log") "__init__")
  d_Log___eq__ : ∃ fd, FunD K "__eq__" "Log.__eq__" (defArgs s_Log___eq__) (defBody s_Log___eq__) (defScope s_Log___eq__) [] [] (He.fAd K ("Log", some "__eq__")) fd
  m_Log___eq__ : Meth K (He.ga K "Log") "__eq__" (He.ma K (He.ga K "Log") "__eq__")
  d_Log_parts : ∃ fd, FunD K "parts" "Log.parts" (defArgs s_Log_parts) (defBody s_Log_parts) (defScope s_Log_parts) [] [] (He.fAd K ("Log", some "parts")) fd
  m_Log_parts : Meth K (He.ga K "Log") "parts" (He.ma K (He.ga K "Log") "parts")
  d_Log_block_size : ∃ fd, FunD K "block_size" "Log.block_size" (defArgs s_Log_block_size) (defBody s_Log_block_size) (defScope s_Log_block_size) [] [] (He.fAd K ("Log", some "block_size")) fd
  m_Log_block_size : Meth K (He.ga K "Log") "block_size" (He.ma K (He.ga K "Log") "block_size")
  d_Log_runs : ∃ fd, FunD K "runs" "Log.runs" (defArgs s_Log_runs) (defBody s_Log_runs) (defScope s_Log_runs) [] [] (He.fAd K ("Log", some "runs")) fd
  m_Log_runs : Meth K (He.ga K "Log") "runs" (He.ma K (He.ga K "Log") "runs")
  d_Log_blocks : ∃ fd, FunD K "blocks" "Log.blocks" (defArgs s_Log_blocks) (defBody s_Log_blocks) (defScope s_Log_blocks) [] [] (He.fAd K ("Log", some "blocks")) fd
  m_Log_blocks : Meth K (He.ga K "Log") "blocks" (He.ma K (He.ga K "Log") "blocks")
  d_Log_check_block : ∃ fd, FunD K "check_block" "Log.check_block" (defArgs s_Log_check_block) (defBody s_Log_check_block) (defScope s_Log_check_block) [] [] (He.fAd K ("Log", some "check_block")) fd
  m_Log_check_block : Meth K (He.ga K "Log") "check_block" (He.ma K (He.ga K "Log") "check_block")
  d_Log_issued : ∃ fd, FunD K "issued" "Log.issued" (defArgs s_Log_issued) (defBody s_Log_issued) (defScope s_Log_issued) [] [] (He.fAd K ("Log", some "issued")) fd
  m_Log_issued : Meth K (He.ga K "Log") "issued" (He.ma K (He.ga K "Log") "issued")
  d_State___init__ : ∃ fd, FunD K "__init__" "State.__init__" (defArgs s_State___init__) (defBody s_State___init__) (defScope s_State___init__) [] [] (He.fAd K ("State", some "__init__")) fd
  mk_State : Mk K (He.ga K "State") (He.ma K (He.ga K "State") "__init__")
  d_joined : ∃ fd, FunD K "joined" "joined" (defArgs s_joined) (defBody s_joined) (defScope s_joined) [] [] (He.ga K "joined") fd
  g_joined : mg "joined" = some (.ref (He.ga K "joined"))
  d_after_take : ∃ fd, FunD K "after_take" "after_take" (defArgs s_after_take) (defBody s_after_take) (defScope s_after_take) [] [] (He.ga K "after_take") fd
  g_after_take : mg "after_take" = some (.ref (He.ga K "after_take"))
  d_after_crash : ∃ fd, FunD K "after_crash" "after_crash" (defArgs s_after_crash) (defBody s_after_crash) (defScope s_after_crash) [] [] (He.ga K "after_crash") fd
  g_after_crash : mg "after_crash" = some (.ref (He.ga K "after_crash"))
  d_House___init__ : ∃ fd, FunD K "__init__" "House.__init__" (defArgs s_House___init__) (defBody s_House___init__) (defScope s_House___init__) [] [] (He.fAd K ("House", some "__init__")) fd
  mk_House : Mk K (He.ga K "House") (He.ma K (He.ga K "House") "__init__")
  d_House___eq__ : ∃ fd, FunD K "__eq__" "House.__eq__" (defArgs s_House___eq__) (defBody s_House___eq__) (defScope s_House___eq__) [] [] (He.fAd K ("House", some "__eq__")) fd
  m_House___eq__ : Meth K (He.ga K "House") "__eq__" (He.ma K (He.ga K "House") "__eq__")
  d_House_facts : ∃ fd, FunD K "facts" "House.facts" (defArgs s_House_facts) (defBody s_House_facts) (defScope s_House_facts) [] [] (He.fAd K ("House", some "facts")) fd
  m_House_facts : Meth K (He.ga K "House") "facts" (He.ma K (He.ga K "House") "facts")
  d_House_block_size : ∃ fd, FunD K "block_size" "House.block_size" (defArgs s_House_block_size) (defBody s_House_block_size) (defScope s_House_block_size) [] [] (He.fAd K ("House", some "block_size")) fd
  m_House_block_size : Meth K (He.ga K "House") "block_size" (He.ma K (He.ga K "House") "block_size")
  d_House_client_count : ∃ fd, FunD K "client_count" "House.client_count" (defArgs s_House_client_count) (defBody s_House_client_count) (defScope s_House_client_count) [] [] (He.fAd K ("House", some "client_count")) fd
  m_House_client_count : Meth K (He.ga K "House") "client_count" (He.ma K (He.ga K "House") "client_count")
  d_House_full_log : ∃ fd, FunD K "full_log" "House.full_log" (defArgs s_House_full_log) (defBody s_House_full_log) (defScope s_House_full_log) [] [] (He.fAd K ("House", some "full_log")) fd
  m_House_full_log : Meth K (He.ga K "House") "full_log" (He.ma K (He.ga K "House") "full_log")
  d_House_owners : ∃ fd, FunD K "owners" "House.owners" (defArgs s_House_owners) (defBody s_House_owners) (defScope s_House_owners) [] [] (He.fAd K ("House", some "owners")) fd
  m_House_owners : Meth K (He.ga K "House") "owners" (He.ma K (He.ga K "House") "owners")
  d_House_check_client : ∃ fd, FunD K "check_client" "House.check_client" (defArgs s_House_check_client) (defBody s_House_check_client) (defScope s_House_check_client) [] [] (He.fAd K ("House", some "check_client")) fd
  m_House_check_client : Meth K (He.ga K "House") "check_client" (He.ma K (He.ga K "House") "check_client")
  d_House_holding : ∃ fd, FunD K "holding" "House.holding" (defArgs s_House_holding) (defBody s_House_holding) (defScope s_House_holding) [] [] (He.fAd K ("House", some "holding")) fd
  m_House_holding : Meth K (He.ga K "House") "holding" (He.ma K (He.ga K "House") "holding")
  d_House_check_room : ∃ fd, FunD K "check_room" "House.check_room" (defArgs s_House_check_room) (defBody s_House_check_room) (defScope s_House_check_room) [] [] (He.fAd K ("House", some "check_room")) fd
  m_House_check_room : Meth K (He.ga K "House") "check_room" (He.ma K (He.ga K "House") "check_room")
  d_House_take : ∃ fd, FunD K "take" "House.take" (defArgs s_House_take) (defBody s_House_take) (defScope s_House_take) [] [] (He.fAd K ("House", some "take")) fd
  m_House_take : Meth K (He.ga K "House") "take" (He.ma K (He.ga K "House") "take")
  d_House_crash : ∃ fd, FunD K "crash" "House.crash" (defArgs s_House_crash) (defBody s_House_crash) (defScope s_House_crash) [] [] (He.fAd K ("House", some "crash")) fd
  m_House_crash : Meth K (He.ga K "House") "crash" (He.ma K (He.ga K "House") "crash")
  d_House_numbers_lost : ∃ fd, FunD K "numbers_lost" "House.numbers_lost" (defArgs s_House_numbers_lost) (defBody s_House_numbers_lost) (defScope s_House_numbers_lost) [] [] (He.fAd K ("House", some "numbers_lost")) fd
  m_House_numbers_lost : Meth K (He.ga K "House") "numbers_lost" (He.ma K (He.ga K "House") "numbers_lost")
  d_House_fetches : ∃ fd, FunD K "fetches" "House.fetches" (defArgs s_House_fetches) (defBody s_House_fetches) (defScope s_House_fetches) [] [] (He.fAd K ("House", some "fetches")) fd
  m_House_fetches : Meth K (He.ga K "House") "fetches" (He.ma K (He.ga K "House") "fetches")
  d__law_source_of : ∃ fd, FunD K "_law_source_of" "_law_source_of" (defArgs s__law_source_of) (defBody s__law_source_of) (defScope s__law_source_of) [] [] (He.ga K "_law_source_of") fd
  g__law_source_of : mg "_law_source_of" = some (.ref (He.ga K "_law_source_of"))
  d__law_next : ∃ fd, FunD K "_law_next" "_law_next" (defArgs s__law_next) (defBody s__law_next) (defScope s__law_next) [] [] (He.ga K "_law_next") fd
  g__law_next : mg "_law_next" = some (.ref (He.ga K "_law_next"))
  d__law_one : ∃ fd, FunD K "_law_one" "_law_one" (defArgs s__law_one) (defBody s__law_one) (defScope s__law_one) [] [] (He.ga K "_law_one") fd
  g__law_one : mg "_law_one" = some (.ref (He.ga K "_law_one"))
  d__law_cell_at : ∃ fd, FunD K "_law_cell_at" "_law_cell_at" (defArgs s__law_cell_at) (defBody s__law_cell_at) (defScope s__law_cell_at) [] [] (He.ga K "_law_cell_at") fd
  g__law_cell_at : mg "_law_cell_at" = some (.ref (He.ga K "_law_cell_at"))
  d__law_width : ∃ fd, FunD K "_law_width" "_law_width" (defArgs s__law_width) (defBody s__law_width) (defScope s__law_width) [] [] (He.ga K "_law_width") fd
  g__law_width : mg "_law_width" = some (.ref (He.ga K "_law_width"))
  d__law_add : ∃ fd, FunD K "_law_add" "_law_add" (defArgs s__law_add) (defBody s__law_add) (defScope s__law_add) [] [] (He.ga K "_law_add") fd
  g__law_add : mg "_law_add" = some (.ref (He.ga K "_law_add"))
  d__law_take : ∃ fd, FunD K "_law_take" "_law_take" (defArgs s__law_take) (defBody s__law_take) (defScope s__law_take) [] [] (He.ga K "_law_take") fd
  g__law_take : mg "_law_take" = some (.ref (He.ga K "_law_take"))
  d__law_same : ∃ fd, FunD K "_law_same" "_law_same" (defArgs s__law_same) (defBody s__law_same) (defScope s__law_same) [] [] (He.ga K "_law_same") fd
  g__law_same : mg "_law_same" = some (.ref (He.ga K "_law_same"))
  d_law : ∃ fd, FunD K "law" "law" (defArgs s_law) (defBody s_law) (defScope s_law) [] [] (He.ga K "law") fd
  g_law : mg "law" = some (.ref (He.ga K "law"))
  ow_House : OwnT K "House"
  ow_Log : OwnT K "Log"
  cl_Log : Cls K (He.ga K "Log")
  gc_Log : mg "Log" = some (.ref (He.ga K "Log"))
  na_Log_width : NoAttr K (He.ga K "Log") "width"
  na_Log_listed : NoAttr K (He.ga K "Log") "listed"
  na_Log_fetches_early : NoAttr K (He.ga K "Log") "fetches_early"
  na_Log_indices : NoAttr K (He.ga K "Log") "indices"
  na_Log_positions : NoAttr K (He.ga K "Log") "positions"
  cl_State : Cls K (He.ga K "State")
  gc_State : mg "State" = some (.ref (He.ga K "State"))
  na_State_issues : NoAttr K (He.ga K "State") "issues"
  na_State_takers : NoAttr K (He.ga K "State") "takers"
  na_State_held : NoAttr K (He.ga K "State") "held"
  na_State_lost_count : NoAttr K (He.ga K "State") "lost_count"
  cl_House : Cls K (He.ga K "House")
  gc_House : mg "House" = some (.ref (He.ga K "House"))
  na_House_width : NoAttr K (He.ga K "House") "width"
  na_House_crowd : NoAttr K (He.ga K "House") "crowd"
  na_House_states : NoAttr K (He.ga K "House") "states"
  na_House_done : NoAttr K (He.ga K "House") "done"
end Fw

set_option Elab.async false
set_option linter.all false
set_option maxRecDepth 100000
set_option maxHeartbeats 4000000
namespace Fw
def m_l_cell_at_1 (v_script : (List Int)) (v_k : Int) : R Int :=
if (decide (v_k < (v_script.length : Int))) = true then
R.bind (idx v_script v_k) fun t1 =>
.ok t1
else
.ok 0

def m_l_source_of (v_cell : Int) : R (List Int) :=
R.bind (powR 10 18) fun t1 =>
R.bind (mulR v_cell (if (decide (t1 ≤ v_cell)) = true then 1 else 0 : Int)) fun t2 =>
R.bind (modR v_cell 2147483647) fun t3 =>
.ok ([t2, t3, 0])

def m_l_next (v_source : (List Int)) (v_many : Int) : R (Int × (List Int)) :=
R.bind (idx v_source 0) fun t1 =>
if (decide (0 < t1)) = true then
R.bind (idx v_source 0) fun t2 =>
R.bind (modR t2 v_many) fun t3 =>
R.bind (idx v_source 0) fun t4 =>
R.bind (divR t4 v_many) fun t5 =>
R.bind (setR v_source 0 t5) fun t6 =>
.ok (t3, t6)
else
R.bind (idx v_source 2) fun t7 =>
R.bind (setR v_source 2 (t7 + 1)) fun t8 =>
R.bind (idx t8 2) fun t9 =>
R.bind (modR t9 7) fun t10 =>
R.bind (idx ([2147483647, 2147483629, 2147483587, 2147483579, 2147483563, 2147483549, 2147483543]) t10) fun t11 =>
R.bind (idx t8 1) fun t12 =>
R.bind (idx t8 2) fun t13 =>
R.bind (mulR 7919 t13) fun t14 =>
R.bind (powR ((t12 + t14) + 1) 5) fun t15 =>
R.bind (modR t15 t11) fun t16 =>
R.bind (idx t8 2) fun t17 =>
R.bind (divR t16 1009) fun t18 =>
R.bind (mulR (t16 + t17) (t18 + 69621)) fun t19 =>
R.bind (modR t19 t11) fun t20 =>
R.bind (divR t20 7) fun t21 =>
R.bind (modR t21 v_many) fun t22 =>
.ok (t22, t8)

def m_l_one (v_source : (List Int)) (v_options : (List Int)) : R (Int × (List Int)) :=
R.bind (m_l_next v_source (v_options.length : Int)) fun t1 =>
R.bind (idx v_options t1.1) fun t2 =>
.ok (t2, t1.2)

def m_l_width (v_source : (List Int)) : R (Int × (List Int)) :=
R.bind (m_l_next v_source 30) fun t1 =>
R.bind (powR 10 6) fun t2 =>
R.bind (powR 10 27) fun t3 =>
R.bind (m_l_next t1.2 t3) fun t4 =>
R.bind (m_l_one t4.2 ([1, 2, 2, 3, 3, 4, 7, (1 + t1.1), t2, (1 + t4.1)])) fun t5 =>
.ok (t5.1, t5.2)

def m_is_integer (v_value : Int) : R Bool :=
.ok (true && (!false))

def m_check_size_12 (v_value : Int) : R Unit :=
R.bind (m_is_integer v_value) fun t1 =>
if ((!t1) || (decide (v_value < 1))) = true then
.bad
else
.ok ()

def m_is_between (v_value : Int) (v_low : Int) (v_high : Int) : R Bool :=
R.bind (m_is_integer v_value) fun t1 =>
.ok (t1 && (decide (v_low ≤ v_value) && decide (v_value ≤ v_high)))

def m_State___init__ (v_runs : (List (Int × Int))) (v_owners : (List Int)) (v_held : (List (Int × Int))) (v_lost_count : Int) : R StateM :=
.ok ({ issues := v_runs, takers := v_owners, held := v_held, lost_count := v_lost_count } : StateM)

def m_House___init___2 (v_size : Int) (v_clients : Int) : R HouseM :=
R.bind (m_check_size_12 v_size) fun t1 =>
R.bind (m_is_between v_clients 1 100) fun t2 =>
if (!t2) = true then
.bad
else
R.bind (m_State___init__ ([] : (List (Int × Int))) ([] : (List Int)) ([] : (List (Int × Int))) 0) fun t3 =>
.ok ({ width := v_size, crowd := v_clients, states := [t3], done := ([] : (List Av)) } : HouseM)

def m_House_check_room_1 (v_self : HouseM) : R Unit :=
if (decide ((v_self.done.length : Int) = 1000)) = true then
.bad
else
.ok ()

def m_House_check_client_1 (v_self : HouseM) (v_client : Int) : R Unit :=
R.bind (m_is_between v_client 0 (v_self.crowd - 1)) fun t1 =>
if (!t1) = true then
.bad
else
.ok ()

def m_after_crash (v_width : Int) (v_state : StateM) (v_client : Int) : R (StateM × Int) :=
R.bind (if (lookZ v_state.held v_client).isNone = true then .ok 0 else (R.bind (ofO (lookZ v_state.held v_client)) fun t1 =>
R.bind (modR t1 v_width) fun t2 =>
.ok (v_width - t2))) fun t3 =>
R.bind (m_State___init__ v_state.issues v_state.takers (dropZ v_state.held v_client) (v_state.lost_count + t3)) fun t4 =>
.ok (t4, t3)

def m_House_crash_1 (v_self : HouseM) (v_client : Int) : R (Int × HouseM) :=
R.bind (m_House_check_room_1 v_self) fun t1 =>
R.bind (m_House_check_client_1 v_self v_client) fun t2 =>
R.bind (idx v_self.states (-1)) fun t3 =>
R.bind (m_after_crash v_self.width t3 v_client) fun t4 =>
R.bind (appR v_self.states t4.1) fun t5 =>
R.bind (appR v_self.done (Av.tup [(Av.str (("crash", v_client).1)), (Av.int (("crash", v_client).2))])) fun t6 =>
.ok (t4.2, ({ v_self with states := t5, done := t6 } : HouseM))

def m_l_add (v_width_here : Int) (v_listed : (List (Int × Int))) (v_first : Int) (v_many : Int) : R (Unit × (List (Int × Int))) :=
R.bind (if (!decide (v_listed = ([] : (List (Int × Int))))) = true then (R.bind (idx v_listed (-1)) fun t1 =>
R.bind (divR t1.1 v_width_here) fun t2 =>
R.bind (divR v_first v_width_here) fun t3 =>
.ok (decide (t2 = t3))) else .ok false) fun t4 =>
if t4 = true then
R.bind (idx v_listed (-1)) fun t5 =>
R.bind (idx v_listed (-1)) fun t6 =>
R.bind (setR v_listed (-1) (t5.1, (t6.2 + v_many))) fun t7 =>
.ok ((), t7)
else
R.bind (appR v_listed (v_first, v_many)) fun t8 =>
.ok ((), t8)

def m_l_take (v_books : ((List (Int × Int)) × (List Int) × (List (Int × Int)))) (v_width_here : Int) (v_who : Int) (v_many : Int) : R ((List (Int × Int)) × ((List (Int × Int)) × (List Int) × (List (Int × Int)))) :=
R.bind (whileR (fun (s1 : (Int × (List (Int × Int)) × (List Int) × (List (Int × Int)) × (List (Int × Int)))) => .ok (decide (0 < s1.1))) (fun (s1 : (Int × (List (Int × Int)) × (List Int) × (List (Int × Int)) × (List (Int × Int)))) =>
R.bind (α := ((List (Int × Int)) × (List Int))) ((if (!hasZ s1.2.1 v_who) = true then
R.bind (mulR (s1.2.2.1.length : Int) v_width_here) fun t4 =>
R.bind (putR s1.2.1 v_who t4) fun t5 =>
R.bind (appR s1.2.2.1 v_who) fun t6 =>
.ok (t5, t6)
else
.ok (s1.2.1, s1.2.2.1))) fun s3 =>
R.bind (getR s3.1 v_who) fun t7 =>
R.bind (modR t7 v_width_here) fun t8 =>
R.bind (appR s1.2.2.2.2 (t7, (min s1.1 (v_width_here - t8)))) fun t9 =>
R.bind (m_l_add v_width_here s1.2.2.2.1 t7 (min s1.1 (v_width_here - t8))) fun t10 =>
R.bind (modR t7 v_width_here) fun t11 =>
R.bind (α := (List (Int × Int))) ((if (decide ((min s1.1 (v_width_here - t8)) < (v_width_here - t11))) = true then
R.bind (putR (dropZ s3.1 v_who) v_who (t7 + (min s1.1 (v_width_here - t8)))) fun t13 =>
.ok t13
else
.ok (dropZ s3.1 v_who))) fun s12 =>
.ok ((s1.1 - (min s1.1 (v_width_here - t8))), s12, s3.2, t10.2, t9)) (v_many, v_books.1, v_books.2.1, v_books.2.2, ([] : (List (Int × Int))))) fun s1 =>
.ok (s1.2.2.2.2, (s1.2.1, s1.2.2.1, s1.2.2.2.1))

def m_check_between_3 (v_part : String) (v_value : Int) (v_low : Int) (v_high : Int) : R Unit :=
R.bind (m_is_between v_value v_low v_high) fun t1 =>
if (!t1) = true then
.bad
else
.ok ()

def m_joined (v_runs : (List (Int × Int))) (v_first : Int) (v_count : Int) (v_width : Int) : R (List (Int × Int)) :=
R.bind (if (!decide (v_runs = ([] : (List (Int × Int))))) = true then (R.bind (idx v_runs (-1)) fun t1 =>
R.bind (divR t1.1 v_width) fun t2 =>
R.bind (divR v_first v_width) fun t3 =>
.ok (decide (t2 = t3))) else .ok false) fun t4 =>
if t4 = true then
R.bind (idx v_runs (-1)) fun t5 =>
R.bind (idx v_runs (-1)) fun t6 =>
R.bind (catR (cut v_runs none (some (-1))) ([(t5.1, (t6.2 + v_count))])) fun t7 =>
.ok t7
else
R.bind (catR v_runs ([(v_first, v_count)])) fun t8 =>
.ok t8

def m_after_take_1 (v_width : Int) (v_state : StateM) (v_client : Int) (v_count : Int) : R (StateM × (List (Int × Int))) :=
R.bind (m_check_between_3 ("count") v_count 1 10000000000000000000000000) fun t1 =>
R.bind (whileR (fun (s2 : (Int × (List (Int × Int)) × (List Int) × (List (Int × Int)) × (List (Int × Int)))) => .ok (decide (0 < s2.1))) (fun (s2 : (Int × (List (Int × Int)) × (List Int) × (List (Int × Int)) × (List (Int × Int)))) =>
R.bind (α := ((List Int) × (List (Int × Int)))) ((if (!hasZ s2.2.2.2.1 v_client) = true then
if (decide (400 ≤ (s2.2.1.length : Int))) = true then
.bad
else
R.bind (mulR (s2.2.2.1.length : Int) v_width) fun t5 =>
R.bind (putR s2.2.2.2.1 v_client t5) fun t6 =>
R.bind (appR s2.2.2.1 v_client) fun t7 =>
.ok (t7, t6)
else
.ok (s2.2.2.1, s2.2.2.2.1))) fun s4 =>
R.bind (getR s4.2 v_client) fun t8 =>
R.bind (modR t8 v_width) fun t9 =>
R.bind (appR s2.2.2.2.2 (t8, (min s2.1 (v_width - t9)))) fun t10 =>
R.bind (m_joined s2.2.1 t8 (min s2.1 (v_width - t9)) v_width) fun t11 =>
R.bind (modR (t8 + (min s2.1 (v_width - t9))) v_width) fun t12 =>
R.bind (α := (List (Int × Int))) ((if (!decide (t12 = 0)) = true then
R.bind (putR (dropZ s4.2 v_client) v_client (t8 + (min s2.1 (v_width - t9)))) fun t14 =>
.ok t14
else
.ok (dropZ s4.2 v_client))) fun s13 =>
.ok ((s2.1 - (min s2.1 (v_width - t9))), t11, s4.1, s13, t10)) (v_count, v_state.issues, v_state.takers, v_state.held, ([] : (List (Int × Int))))) fun s2 =>
if (decide (400 < (s2.2.1.length : Int))) = true then
.bad
else
R.bind (m_State___init__ s2.2.1 s2.2.2.1 s2.2.2.2.1 v_state.lost_count) fun t15 =>
.ok (t15, s2.2.2.2.2)

def m_House_take_1 (v_self : HouseM) (v_client : Int) (v_count : Int) : R ((List (Int × Int)) × HouseM) :=
R.bind (m_House_check_room_1 v_self) fun t1 =>
R.bind (m_House_check_client_1 v_self v_client) fun t2 =>
R.bind (idx v_self.states (-1)) fun t3 =>
R.bind (m_after_take_1 v_self.width t3 v_client v_count) fun t4 =>
R.bind (appR v_self.states t4.1) fun t5 =>
R.bind (appR v_self.done (Av.tup [(Av.str (("take", v_client, v_count).1)), (Av.int (("take", v_client, v_count).2.1)), (Av.int (("take", v_client, v_count).2.2))])) fun t6 =>
.ok (t4.2, ({ v_self with states := t5, done := t6 } : HouseM))

def m_House_numbers_lost (v_self : HouseM) : R Int :=
R.bind (idx v_self.states (-1)) fun t1 =>
.ok t1.lost_count

def m_is_run (v_value : (Int × Int)) (v_width : Int) : R Bool :=
R.bind (if (!true) = true then .ok true else (R.bind (if (!decide (2 = 2)) = true then .ok true else (R.bind (m_is_integer v_value.1) fun t1 =>
R.bind (if (!t1) = true then .ok true else (R.bind (m_is_integer v_value.2) fun t2 =>
.ok (!t2))) fun t3 =>
.ok t3)) fun t4 =>
.ok t4)) fun t5 =>
if t5 = true then
.ok false
else
R.bind (if (decide (0 ≤ v_value.1)) = true then (R.bind (if (decide (1 ≤ v_value.2)) = true then (R.bind (divR v_value.1 v_width) fun t6 =>
R.bind (divR ((v_value.1 + v_value.2) - 1) v_width) fun t7 =>
.ok (decide (t6 = t7))) else .ok false) fun t8 =>
.ok t8) else .ok false) fun t9 =>
.ok t9

def m_grouped_8 (v_width : Int) (v_runs : (List (Int × Int))) : R (List (Int × (List Int))) :=
if ((!true) || (decide (400 < (v_runs.length : Int)))) = true then
.bad
else
R.bind (forR (fun (s1 : ((List (Int × (List Int))) × (List (Int × Int)) × (Option Int))) (x2 : (Int × (Int × Int))) =>
R.bind (m_is_run x2.2 v_width) fun t3 =>
if (!t3) = true then
.bad
else
R.bind (divR x2.2.1 v_width) fun t4 =>
R.bind (if (decide ((some t4) = s1.2.2)) = true then .ok true else (R.bind (mulR t4 v_width) fun t5 =>
.ok (!decide (x2.2.1 = ((lookZ s1.2.1 t4).getD t5))))) fun t6 =>
if t6 = true then
.bad
else
R.bind (sdapR s1.1 t4 x2.1) fun t7 =>
R.bind (putR s1.2.1 t4 (x2.2.1 + x2.2.2)) fun t8 =>
.ok (t7, t8, (some t4))) (enm v_runs) (([] : (List (Int × (List Int)))), ([] : (List (Int × Int))), none)) fun s1 =>
.ok s1.1

def m_check_order_7 (v_found : (List (Int × (List Int)))) : R Unit :=
R.bind (forR (fun (s1 : Unit) (x2 : (Int × Int)) =>
if (!decide (x2.2 = x2.1)) = true then
.bad
else
.ok ()) (enm (keysZ v_found)) ()) fun s1 =>
.ok ()

def m_Log___init___10 (v_size : Int) (v_runs : (List (Int × Int))) (v_early : Bool) : R LogM :=
R.bind (m_check_size_12 v_size) fun t1 =>
R.bind (m_grouped_8 v_size v_runs) fun t2 =>
if (!true) = true then
.bad
else
R.bind (α := Unit) ((if (!v_early) = true then
R.bind (m_check_order_7 t2) fun t4 =>
.ok ()
else
.ok ())) fun s3 =>
R.bind (forR (fun (s5 : (List Int)) (x6 : (Int × Int)) =>
R.bind (idx s5 (-1)) fun t7 =>
R.bind (appR s5 (t7 + x6.2)) fun t8 =>
.ok t8) v_runs ([0] : List Int)) fun s5 =>
.ok ({ width := v_size, listed := v_runs, fetches_early := v_early, indices := t2, positions := s5 } : LogM)

def m_House_full_log_1 (v_self : HouseM) : R LogM :=
R.bind (idx v_self.states (-1)) fun t1 =>
R.bind (m_Log___init___10 v_self.width t1.issues false) fun t2 =>
.ok t2

def m_grouped__O_1 (v_width : Int) (v_runs : (List (Int × Int))) : R (List (Int × (List Int))) :=
if ((!true) || (decide (400 < (v_runs.length : Int)))) = true then
.bad
else
R.bind (forR (fun (s1 : ((List (Int × (List Int))) × (List (Int × Int)) × (Option Int))) (x2 : (Int × (Int × Int))) =>
R.bind (m_is_run x2.2 v_width) fun t3 =>
if (!t3) = true then
.bad
else
R.bind (divR x2.2.1 v_width) fun t4 =>
R.bind (if (decide ((some t4) = s1.2.2)) = true then .ok true else (R.bind (mulR t4 v_width) fun t5 =>
.ok (!decide (x2.2.1 = ((lookZ s1.2.1 t4).getD t5))))) fun t6 =>
if t6 = true then
.bad
else
R.bind (sdapR s1.1 t4 x2.1) fun t7 =>
R.bind (putR s1.2.1 t4 (x2.2.1 + x2.2.2)) fun t8 =>
.ok (t7, t8, (some t4))) (enm v_runs) (([] : (List (Int × (List Int)))), ([] : (List (Int × Int))), none)) fun s1 =>
.ok s1.1

def m_Log__O___init___2 (v_size : Int) (v_runs : (List (Int × Int))) (v_early : Bool) : R LogM :=
R.bind (m_check_size_12 v_size) fun t1 =>
R.bind (m_grouped__O_1 v_size v_runs) fun t2 =>
if (!true) = true then
.bad
else
R.bind (α := Unit) ((if (!v_early) = true then
R.bind (m_check_order_7 t2) fun t4 =>
.ok ()
else
.ok ())) fun s3 =>
R.bind (forR (fun (s5 : (List Int)) (x6 : (Int × Int)) =>
R.bind (idx s5 (-1)) fun t7 =>
R.bind (appR s5 (t7 + x6.2)) fun t8 =>
.ok t8) v_runs ([0] : List Int)) fun s5 =>
.ok ({ width := v_size, listed := v_runs, fetches_early := v_early, indices := t2, positions := s5 } : LogM)

def m_Log_parts (v_self : LogM) : R (Int × (List (Int × Int)) × Bool) :=
.ok (v_self.width, v_self.listed, v_self.fetches_early)

def m_Log___eq__ (v_self : LogM) (v_other : LogM) : R Bool :=
R.bind (if true = true then (R.bind (m_Log_parts v_self) fun t1 =>
R.bind (m_Log_parts v_other) fun t2 =>
.ok (decide (t1 = t2))) else .ok false) fun t3 =>
.ok t3

def m_House_owners (v_self : HouseM) : R (List Int) :=
R.bind (idx v_self.states (-1)) fun t1 =>
.ok t1.takers

def m_House_fetches (v_self : HouseM) : R Int :=
R.bind (idx v_self.states (-1)) fun t1 =>
.ok (t1.takers.length : Int)

def m_House_holding_1 (v_self : HouseM) (v_client : Int) : R (Option Int) :=
R.bind (m_House_check_client_1 v_self v_client) fun t1 =>
R.bind (idx v_self.states (-1)) fun t2 =>
R.bind (if (lookZ t2.held v_client).isNone = true then .ok none else (R.bind (ofO (lookZ t2.held v_client)) fun t3 =>
R.bind (divR t3 v_self.width) fun t4 =>
.ok (some t4))) fun t5 =>
.ok t5

def m_l_same_1 (v_house : HouseM) (v_books : ((List (Int × Int)) × (List Int) × (List (Int × Int)))) (v_width_here : Int) (v_crowd : Int) : R Bool :=
R.bind (m_House_full_log_1 v_house) fun t1 =>
R.bind (m_Log__O___init___2 v_width_here v_books.2.2 false) fun t2 =>
R.bind (m_Log___eq__ t1 t2) fun t3 =>
R.bind (if (!t3) = true then .ok true else (R.bind (m_House_owners v_house) fun t4 =>
R.bind (if (!decide (t4 = v_books.2.1)) = true then .ok true else (R.bind (m_House_fetches v_house) fun t5 =>
.ok (!decide (t5 = (v_books.2.1.length : Int))))) fun t6 =>
.ok t6)) fun t7 =>
if t7 = true then
.ok false
else
R.bind (rngR 0 v_crowd) fun t8 =>
R.bind (forC (ρ := Bool) (fun (s9 : Unit) (x10 : Int) =>
R.bind (α := (Option Int)) ((if (hasZ v_books.1 x10) = true then
R.bind (getR v_books.1 x10) fun t12 =>
R.bind (divR t12 v_width_here) fun t13 =>
.ok (some t13)
else
.ok none)) fun s11 =>
R.bind (m_House_holding_1 v_house x10) fun t14 =>
R.bind (if (!decide (t14 = s11)) = true then .ok true else (R.bind (m_House_holding_1 v_house x10) fun t16 =>
.ok (!decide (t16 = s11)))) fun t17 =>
if t17 = true then
.ok (.rt false)
else
.ok (.nx ())) t8 ()) fun c18 => match c18 with
| .rt s9 => .ok s9
| .nx s9 =>
R.bind (m_House_owners v_house) fun t19 =>
R.bind (need (t19.length < most)) fun t20 =>
R.bind (m_House_owners v_house) fun t21 =>
.ok (decide (t21 = v_books.2.1))

def m_House_block_size (v_self : HouseM) : R Int :=
.ok v_self.width

def m_House_client_count (v_self : HouseM) : R Int :=
.ok v_self.crowd

def m_House___eq____A (v_self : HouseM) (v_other : Av) : R Bool :=
.ok false

def m_law_k64_1 (v_script : (List Int)) : R Bool :=
R.bind (m_l_cell_at_1 v_script 0) fun t1 =>
R.bind (catR ([t1]) (cut v_script (some 1) (some 4))) fun t2 =>
R.bind (forC (ρ := Bool) (fun (s3 : Unit) (x4 : Int) =>
R.bind (m_l_source_of x4) fun t5 =>
R.bind (m_l_width t5) fun t6 =>
R.bind (m_l_next t6.2 6) fun t7 =>
R.bind (m_l_one t7.2 ([(1 + t7.1), 2, 3, 100])) fun t8 =>
R.bind (m_House___init___2 t6.1 t8.1) fun t9 =>
R.bind (m_l_next t8.2 31) fun t10 =>
R.bind (rngR 0 t10.1) fun t11 =>
R.bind (forC (ρ := Bool) (fun (s12 : ((List Int) × HouseM × ((List (Int × Int)) × (List Int) × (List (Int × Int))) × Int)) (x13 : Int) =>
R.bind (m_l_next s12.1 t8.1) fun t14 =>
R.bind (m_l_next t14.2 5) fun t15 =>
R.bind (α := Ctl ((List Int) × HouseM × ((List (Int × Int)) × (List Int) × (List (Int × Int))) × Int) Bool) ((if (decide (t15.1 = 0)) = true then
R.bind (α := (((List (Int × Int)) × (List Int) × (List (Int × Int))) × Int)) ((if (hasZ s12.2.2.1.1 t14.1) = true then
R.bind (getR s12.2.2.1.1 t14.1) fun t18 =>
R.bind (modR t18 t6.1) fun t19 =>
.ok (((dropZ s12.2.2.1.1 t14.1), s12.2.2.1.2.1, s12.2.2.1.2.2), (t6.1 - t19))
else
.ok (s12.2.2.1, 0))) fun s17 =>
R.bind (m_House_crash_1 s12.2.1 t14.1) fun t21 =>
if (!decide (t21.1 = s17.2)) = true then
.ok (.rt false)
else
.ok (.nx (t15.2, t21.2, s17.1, (s12.2.2.2 + s17.2)))
else
R.bind (powR 10 25) fun t22 =>
R.bind (mulR 3 t6.1) fun t23 =>
R.bind (powR 10 25) fun t24 =>
R.bind (m_l_next t15.2 (min t23 t24)) fun t25 =>
R.bind (m_l_one t25.2 ([1, 2, (min t6.1 t22), (1 + t25.1)])) fun t26 =>
R.bind (m_l_take s12.2.2.1 t6.1 t14.1 t26.1) fun t27 =>
R.bind (m_House_take_1 s12.2.1 t14.1 t26.1) fun t28 =>
if (!decide ((t28.1.map fun (y_ : (Int × Int)) => (some y_)) = (t27.1.map fun (y_ : (Int × Int)) => (some y_)))) = true then
.ok (.rt false)
else
R.bind (appR (t28.1.map fun (y_ : (Int × Int)) => (some y_)) none) fun t29 =>
.ok (.nx (t26.2, t28.2, t27.2, s12.2.2.2)))) fun c30 => match c30 with
| .rt s16 => .ok (.rt s16)
| .nx s16 =>
R.bind (m_House_numbers_lost s16.2.1) fun t31 =>
R.bind (if (!decide (t31 = s16.2.2.2)) = true then .ok true else (R.bind (m_l_same_1 s16.2.1 s16.2.2.1 t6.1 t8.1) fun t32 =>
.ok (!t32))) fun t33 =>
if t33 = true then
.ok (.rt false)
else
.ok (.nx (s16.1, s16.2.1, s16.2.2.1, s16.2.2.2))) t11 (t10.2, t9, (([] : (List (Int × Int))), ([] : (List Int)), ([] : (List (Int × Int)))), 0)) fun c34 => match c34 with
| .rt s12 => .ok (.rt s12)
| .nx s12 =>
R.bind (m_House_block_size s12.2.1) fun t35 =>
R.bind (m_House_client_count s12.2.1) fun t36 =>
R.bind (if (!decide ((t35, t36) = (t6.1, t8.1))) = true then .ok true else (R.bind (m_House___init___2 t6.1 t8.1) fun t37 =>
R.bind (m_House___eq____A t37 (Av.int 5)) fun t38 =>
.ok t38)) fun t39 =>
if t39 = true then
.ok (.rt false)
else
.ok (.nx ())) t2 ()) fun c40 => match c40 with
| .rt s3 => .ok s3
| .nx s3 =>
.ok true

end Fw

set_option Elab.async false
set_option linter.all false
set_option maxRecDepth 100000
set_option maxHeartbeats 4000000
namespace Fw
open PySem L2
variable [TbC]
local macro_rules | `(tactic| walk_at "wd") => `(tactic| repeat (first | exact Wd.nil | (refine Wd.cons WdS.any ?_) | (refine Wd.cons WdS.same ?_) | (refine Wd.cons WdS.un ?_)))
local macro_rules | `(tactic| walk_at "wk") => `(tactic| repeat (first | exact Wk.nil | (refine Wk.cons WkS.any ?_) | (refine Wk.cons WkS.same ?_) | (refine Wk.cons WkS.un ?_) | (refine Wk.cons WkS.frz ?_)))
local macro_rules | `(tactic| walk_at "ne") => `(tactic| repeat' (first
  | with_reducible infer_instance
  | refine ne_bind ?_ (fun _ => ?_)
  | refine ne_ite ?_ ?_
  | refine ne_forR (fun _ _ => ?_) _ _
  | refine ne_forC (fun _ _ => ?_) _ _
  | refine ne_compR (fun _ => ?_) (fun _ => ?_) _
  | refine ne_compS (fun _ _ => ?_) _ _
  | refine ne_dcompR (fun _ => ?_) _ _
  | refine ne_whileR (fun _ => ?_) (fun _ => ?_) _
  | refine ne_whileC (fun _ => ?_) (fun _ => ?_) _
  | split))

section
variable {P : Program} {w : World} {K : PySem.W.Frag} {mg : Str → Option Value} {base : Heap}
def C__law_cell_at (K : PySem.W.Frag) : FC := fun cs r cs' => ∃ (v_script : (List Int)) (v_k : Int) (res : Int), cs = [.v ((eF D.int) v_script), .v (D.int v_k)] ∧ r = (.v (D.int res)) ∧ cs' = [.v ((eF D.int) v_script), .v (D.int v_k)] ∧ m_l_cell_at_1 v_script v_k = .ok res
theorem W__law_cell_at {v_script : (List Int)} {v_k : Int} {res : Int} (h : m_l_cell_at_1 v_script v_k = .ok res) : C__law_cell_at K [.v ((eF D.int) v_script), .v (D.int v_k)] (.v (D.int res)) [.v ((eF D.int) v_script), .v (D.int v_k)] := ⟨v_script, v_k, res, rfl, rfl, rfl, h⟩

abbrev N__law_cell_at : List Str := ["_law_script", "_law_k"]
theorem sc__law_cell_at : FnScope N__law_cell_at ["_law_script", "_law_k"] (defScope s__law_cell_at) := ⟨rfl, rfl, rfl, by decide +kernel, rfl, by decide +kernel, by decide +kernel⟩
theorem f__law_cell_at (T : Tx K mg) {fd : FuncData} (F : FunD K "_law_cell_at" "_law_cell_at" (defArgs s__law_cell_at) (defBody s__law_cell_at) (defScope s__law_cell_at) [] [] (He.ga K "_law_cell_at") fd) : FnG P w K mg base (L2.CX P w) 1 (He.ga K "_law_cell_at") fd ["_law_script", "_law_k"] (spOf K (ctOf (C__law_cell_at K) noX)) := by
  have nd := (sc__law_cell_at).nd
  refine F.okG sc__law_cell_at (sp_len (ctOf_len fun _ _ _ h => by obtain ⟨_, _, _, rfl, _, _, _⟩ := h; rfl)) (fun cdv A outer s H vs Q E hr h => ?_)
  refine ⟨_, PSs.nox ((pss_cons (ps_if (pt_cmpR op_lt (pv 1) (pe_callB c_len rfl T.n_len (by decide +kernel) (pa_cons (pv 0) pa_nil)) (nomark _)) (pss_one (ps_ret (pe_ix ix_seq (pv 0) (pv 1) (fun _ _ => rfl)))) pss_nil)
    (pss_one (ps_ret pe_int)))), ?_⟩
  refine fn_x [] [] rfl (fun cs r cs' hc => ?_) vs H Q E h
  obtain ⟨v_script, v_k, res, rfl, rfl, rfl, hm⟩ := hc
  refine ⟨⟨Nat.le_of_ble_eq_true rfl, rfl⟩, (.v (.v .nil)), fun ad => .inl ?_⟩
  · change XS _ _ [some (.v ((eF D.int) v_script)), some (.v (D.int v_k))] (.rt (.v (D.int res)) [none, none])
    unfold m_l_cell_at_1 at hm
    refine x_seqIf (t_test (e_lt (e_var rfl) (e_len (e := D.int) (xs := v_script) (b_of (e_var rfl)) rfl))) (fun hb => ?_) (fun hb => ?_)
    · have hm := R.ifT hb hm
      obtain ⟨t1, ht1, hm⟩ := R.inv hm
      obtain rfl := R.ok.inj hm
      exact x_seqR (x_outR (x_ret (e_ix (e := D.int) (xs := v_script) (b_of (e_var rfl)) rfl (e_var rfl) ht1)) (by walk_at "wd"))
    · have hm := R.ifF hb hm
      refine x_seq x_next ?_
      obtain rfl := R.ok.inj hm
      exact x_outR (x_ret e_int) (by walk_at "wd")
theorem c__law_cell_at (T : Tx K mg) : Cal P w K mg base 1 "_law_cell_at" ["_law_script", "_law_k"] (spOf K (ctOf (C__law_cell_at K) noX)) := by
  obtain ⟨fd, F⟩ := T.d__law_cell_at
  exact ⟨⟨fd, f__law_cell_at T F, F.bindsN fun _ _ _ _ _ _ us hl => match us, hl with | [_, _], _ => rfl⟩, T.g__law_cell_at, F.kp⟩
def C__law_source_of (K : PySem.W.Frag) : FC := fun cs r cs' => ∃ (v_cell : Int) (res : (List Int)), cs = [.v (D.int v_cell)] ∧ r = (.o none (oL D.int res)) ∧ cs' = [.v (D.int v_cell)] ∧ m_l_source_of v_cell = .ok res
theorem W__law_source_of {v_cell : Int} {res : (List Int)} (h : m_l_source_of v_cell = .ok res) : C__law_source_of K [.v (D.int v_cell)] (.o none (oL D.int res)) [.v (D.int v_cell)] := ⟨v_cell, res, rfl, rfl, rfl, h⟩

abbrev N__law_source_of : List Str := ["_law_cell"]
theorem sc__law_source_of : FnScope N__law_source_of ["_law_cell"] (defScope s__law_source_of) := ⟨rfl, rfl, rfl, by decide +kernel, rfl, by decide +kernel, by decide +kernel⟩
theorem f__law_source_of (T : Tx K mg) {fd : FuncData} (F : FunD K "_law_source_of" "_law_source_of" (defArgs s__law_source_of) (defBody s__law_source_of) (defScope s__law_source_of) [] [] (He.ga K "_law_source_of") fd) : FnG P w K mg base (L2.CX P w) 1 (He.ga K "_law_source_of") fd ["_law_cell"] (spOf K (ctOf (C__law_source_of K) noX)) := by
  have nd := (sc__law_source_of).nd
  refine F.okG sc__law_source_of (sp_len (ctOf_len fun _ _ _ h => by obtain ⟨_, _, rfl, _, _, _⟩ := h; rfl)) (fun cdv A outer s H vs Q E hr h => ?_)
  refine ⟨_, PSs.nox ((pss_one (ps_ret (pe_lst (pa_cons (pe_op op_mulA (pv 0) (pe_callTy call_int1 rfl T.n_int (by decide +kernel) (pa_cons (pe_cmpR op_ge (pv 0) (pe_op op_pow pe_int pe_int) (nomark _)) pa_nil))) (pa_cons (pe_op op_mod (pv 0) pe_int) (pa_cons pe_int pa_nil))))))), ?_⟩
  refine fn_x [] [] rfl (fun cs r cs' hc => ?_) vs H Q E h
  obtain ⟨v_cell, res, rfl, rfl, rfl, hm⟩ := hc
  refine ⟨⟨Nat.le_of_ble_eq_true rfl, rfl⟩, (.v .nil), fun ad => .inl ?_⟩
  · change XS _ _ [some (.v (D.int v_cell))] (.rt (.o none (oL D.int res)) [none])
    unfold m_l_source_of at hm
    obtain ⟨t1, ht1, hm⟩ := R.inv hm
    obtain ⟨t2, ht2, hm⟩ := R.inv hm
    obtain ⟨t3, ht3, hm⟩ := R.inv hm
    obtain rfl := R.ok.inj hm
    exact x_outR (x_retO (e_lst D.int [t2, t3, 0] (d_cons (e_mul (e_var rfl) (e_intB (e_ge (e_var rfl) (e_pow e_int e_int ht1))) ht2) (d_cons (e_mod (e_var rfl) e_int ht3) (d_cons e_int d_nil))) (hl_ (n := 3) rfl (by decide)))) (by walk_at "wd")
theorem c__law_source_of (T : Tx K mg) : Cal P w K mg base 1 "_law_source_of" ["_law_cell"] (spOf K (ctOf (C__law_source_of K) noX)) := by
  obtain ⟨fd, F⟩ := T.d__law_source_of
  exact ⟨⟨fd, f__law_source_of T F, F.bindsN fun _ _ _ _ _ _ us hl => match us, hl with | [_], _ => rfl⟩, T.g__law_source_of, F.kp⟩
def C__law_next (K : PySem.W.Frag) : FC := fun cs r cs' => ∃ (v_source : (List Int)) (v_many : Int) (res : (Int × (List Int))), cs = [.o none (oL D.int v_source), .v (D.int v_many)] ∧ r = (.v (D.int res.1)) ∧ cs' = [.o none (oL D.int res.2), .v (D.int v_many)] ∧ m_l_next v_source v_many = .ok res
theorem W__law_next {v_source : (List Int)} {v_many : Int} {res : (Int × (List Int))} (h : m_l_next v_source v_many = .ok res) : C__law_next K [.o none (oL D.int v_source), .v (D.int v_many)] (.v (D.int res.1)) [.o none (oL D.int res.2), .v (D.int v_many)] := ⟨v_source, v_many, res, rfl, rfl, rfl, h⟩

abbrev N__law_next : List Str := ["_law_source", "_law_many", "_law_found", "_law_prime", "_law_figure"]
theorem sc__law_next : FnScope N__law_next ["_law_source", "_law_many"] (defScope s__law_next) := ⟨rfl, rfl, rfl, by decide +kernel, rfl, by decide +kernel, by decide +kernel⟩
theorem f__law_next (T : Tx K mg) {fd : FuncData} (F : FunD K "_law_next" "_law_next" (defArgs s__law_next) (defBody s__law_next) (defScope s__law_next) [] [] (He.ga K "_law_next") fd) : FnG P w K mg base (L2.CX P w) 1 (He.ga K "_law_next") fd ["_law_source", "_law_many"] (spOf K (ctOf (C__law_next K) noX)) := by
  have nd := (sc__law_next).nd
  refine F.okG sc__law_next (sp_len (ctOf_len fun _ _ _ h => by obtain ⟨_, _, _, rfl, _, _, _⟩ := h; rfl)) (fun cdv A outer s H vs Q E hr h => ?_)
  refine ⟨_, PSs.nox ((pss_cons (ps_if (pt_cmpR op_gt (pe_ix ix_seq (pv 0) pe_int (fun _ _ => rfl)) pe_int (nomark _)) (pss_cons (ps_set (i := 2) nd rfl (Or.inl rfl) (pe_op op_mod (pe_ix ix_seq (pv 0) pe_int (fun _ _ => rfl)) (pv 1)))
    (pss_cons (ps_asg (pe_op op_fdivW (pe_ix ix_seq (pv 0) pe_int (fun _ _ => rfl)) (pv 1)) (pg_sub (pv 0) pe_int set_list))
    (pss_one (ps_ret (pv 2))))) pss_nil)
    (pss_cons (ps_asg (pe_op op_add (pe_ix ix_seq (pv 0) pe_int (fun _ _ => rfl)) pe_int) (pg_sub (pv 0) pe_int set_list))
    (pss_cons (ps_set (i := 3) nd rfl (Or.inl rfl) (pe_ix ix_seq (pe_lst (pa_cons pe_int (pa_cons pe_int (pa_cons pe_int (pa_cons pe_int (pa_cons pe_int (pa_cons pe_int (pa_cons pe_int pa_nil)))))))) (pe_op op_mod (pe_ix ix_seq (pv 0) pe_int (fun _ _ => rfl)) pe_int) (fun _ _ => rfl)))
    (pss_cons (ps_set (i := 4) nd rfl (Or.inl rfl) (pe_op op_mod (pe_op op_pow (pe_op op_add (pe_op op_add (pe_ix ix_seq (pv 0) pe_int (fun _ _ => rfl)) (pe_op op_mulA pe_int (pe_ix ix_seq (pv 0) pe_int (fun _ _ => rfl)))) pe_int) pe_int) (pv 3)))
    (pss_cons (ps_set (i := 4) nd rfl (Or.inl rfl) (pe_op op_mod (pe_op op_mulA (pe_op op_add (pv 4) (pe_ix ix_seq (pv 0) pe_int (fun _ _ => rfl))) (pe_op op_add (pe_op op_fdivW (pv 4) pe_int) pe_int)) (pv 3)))
    (pss_one (ps_ret (pe_op op_mod (pe_op op_fdivW (pv 4) pe_int) (pv 1)))))))))), ?_⟩
  refine fn_x [none, none, none] [none, none, none] rfl (fun cs r cs' hc => ?_) vs H Q E h
  obtain ⟨v_source, v_many, res, rfl, rfl, rfl, hm⟩ := hc
  refine ⟨⟨Nat.le_of_ble_eq_true rfl, rfl⟩, (.o (.v .nil)), fun ad => .inl ?_⟩
  · change XS _ _ [some (.o (some (ad 0)) (oL D.int v_source)), some (.v (D.int v_many)), none, none, none] (.rt (.v (D.int res.1)) [some (.o (some (ad 0)) (oL D.int res.2)), none, none, none, none])
    unfold m_l_next at hm
    obtain ⟨t1, ht1, hm⟩ := R.inv hm
    refine x_seqIf (t_test (e_gt (e_ix (e := D.int) (xs := v_source) (b_ownL rfl) rfl e_int ht1) e_int)) (fun hb => ?_) (fun hb => ?_)
    · have hm := R.ifT hb hm
      obtain ⟨t2, ht2, hm⟩ := R.inv hm
      obtain ⟨t3, ht3, hm⟩ := R.inv hm
      refine x_assoc (x_seq (μ1 := [some (.o (some (ad 0)) (oL D.int v_source)), some (.v (D.int v_many)), some (.v (D.int t3)), none, none]) (x_set (e_mod (e_ix (e := D.int) (xs := v_source) (b_ownL rfl) rfl e_int ht2) (e_var rfl) ht3)) ?_)
      obtain ⟨t4, ht4, hm⟩ := R.inv hm
      obtain ⟨t5, ht5, hm⟩ := R.inv hm
      obtain ⟨t6, ht6, hm⟩ := R.inv hm
      refine x_assoc (x_seq (μ1 := [some (.o (some (ad 0)) (oL D.int t6)), some (.v (D.int v_many)), some (.v (D.int t3)), none, none]) (x_setL (e := D.int) (x := t5) (e_div (e_ix (e := D.int) (xs := v_source) (b_ownL rfl) rfl e_int ht4) (e_var rfl) ht5) rfl e_int ht6) ?_)
      obtain rfl := R.ok.inj hm
      exact x_seqR (x_outR (x_ret (e_var rfl)) (by walk_at "wd"))
    · have hm := R.ifF hb hm
      refine x_seq x_next ?_
      obtain ⟨t7, ht7, hm⟩ := R.inv hm
      obtain ⟨t8, ht8, hm⟩ := R.inv hm
      refine x_seq (μ1 := [some (.o (some (ad 0)) (oL D.int t8)), some (.v (D.int v_many)), none, none, none]) (x_setL (e := D.int) (x := (t7 + 1)) (e_add (e_ix (e := D.int) (xs := v_source) (b_ownL rfl) rfl e_int ht7) e_int) rfl e_int ht8) ?_
      obtain ⟨t9, ht9, hm⟩ := R.inv hm
      obtain ⟨t10, ht10, hm⟩ := R.inv hm
      obtain ⟨t11, ht11, hm⟩ := R.inv hm
      refine x_seq (μ1 := [some (.o (some (ad 0)) (oL D.int t8)), some (.v (D.int v_many)), none, some (.v (D.int t11)), none]) (x_set (e_ix (e := D.int) (xs := ([2147483647, 2147483629, 2147483587, 2147483579, 2147483563, 2147483549, 2147483543])) (b_frz (e_lst D.int [2147483647, 2147483629, 2147483587, 2147483579, 2147483563, 2147483549, 2147483543] (d_cons e_int (d_cons e_int (d_cons e_int (d_cons e_int (d_cons e_int (d_cons e_int (d_cons e_int d_nil))))))) (hl_ (n := 7) rfl (by decide)))) rfl (e_mod (e_ix (e := D.int) (xs := t8) (b_ownL rfl) rfl e_int ht9) e_int ht10) ht11)) ?_
      obtain ⟨t12, ht12, hm⟩ := R.inv hm
      obtain ⟨t13, ht13, hm⟩ := R.inv hm
      obtain ⟨t14, ht14, hm⟩ := R.inv hm
      obtain ⟨t15, ht15, hm⟩ := R.inv hm
      obtain ⟨t16, ht16, hm⟩ := R.inv hm
      refine x_seq (μ1 := [some (.o (some (ad 0)) (oL D.int t8)), some (.v (D.int v_many)), none, some (.v (D.int t11)), some (.v (D.int t16))]) (x_set (e_mod (e_pow (e_add (e_add (e_ix (e := D.int) (xs := t8) (b_ownL rfl) rfl e_int ht12) (e_mul e_int (e_ix (e := D.int) (xs := t8) (b_ownL rfl) rfl e_int ht13) ht14)) e_int) e_int ht15) (e_var rfl) ht16)) ?_
      obtain ⟨t17, ht17, hm⟩ := R.inv hm
      obtain ⟨t18, ht18, hm⟩ := R.inv hm
      obtain ⟨t19, ht19, hm⟩ := R.inv hm
      obtain ⟨t20, ht20, hm⟩ := R.inv hm
      refine x_seq (μ1 := [some (.o (some (ad 0)) (oL D.int t8)), some (.v (D.int v_many)), none, some (.v (D.int t11)), some (.v (D.int t20))]) (x_set (e_mod (e_mul (e_add (e_var rfl) (e_ix (e := D.int) (xs := t8) (b_ownL rfl) rfl e_int ht17)) (e_add (e_div (e_var rfl) e_int ht18) e_int) ht19) (e_var rfl) ht20)) ?_
      obtain ⟨t21, ht21, hm⟩ := R.inv hm
      obtain ⟨t22, ht22, hm⟩ := R.inv hm
      obtain rfl := R.ok.inj hm
      exact x_outR (x_ret (e_mod (e_div (e_var rfl) e_int ht21) (e_var rfl) ht22)) (by walk_at "wd")
theorem c__law_next (T : Tx K mg) : Cal P w K mg base 1 "_law_next" ["_law_source", "_law_many"] (spOf K (ctOf (C__law_next K) noX)) := by
  obtain ⟨fd, F⟩ := T.d__law_next
  exact ⟨⟨fd, f__law_next T F, F.bindsN fun _ _ _ _ _ _ us hl => match us, hl with | [_, _], _ => rfl⟩, T.g__law_next, F.kp⟩
def C__law_one (K : PySem.W.Frag) : FC := fun cs r cs' => ∃ (v_source : (List Int)) (v_options : (List Int)) (res : (Int × (List Int))), cs = [.o none (oL D.int v_source), .v ((eL D.int) v_options)] ∧ r = (.v (D.int res.1)) ∧ cs' = [.o none (oL D.int res.2), .v ((eL D.int) v_options)] ∧ m_l_one v_source v_options = .ok res
theorem W__law_one {v_source : (List Int)} {v_options : (List Int)} {res : (Int × (List Int))} (h : m_l_one v_source v_options = .ok res) : C__law_one K [.o none (oL D.int v_source), .v ((eL D.int) v_options)] (.v (D.int res.1)) [.o none (oL D.int res.2), .v ((eL D.int) v_options)] := ⟨v_source, v_options, res, rfl, rfl, rfl, h⟩

abbrev N__law_one : List Str := ["_law_source", "_law_options"]
theorem sc__law_one : FnScope N__law_one ["_law_source", "_law_options"] (defScope s__law_one) := ⟨rfl, rfl, rfl, by decide +kernel, rfl, by decide +kernel, by decide +kernel⟩
theorem f__law_one (T : Tx K mg) {fd : FuncData} (F : FunD K "_law_one" "_law_one" (defArgs s__law_one) (defBody s__law_one) (defScope s__law_one) [] [] (He.ga K "_law_one") fd) : FnG P w K mg base (L2.CX P w) 2 (He.ga K "_law_one") fd ["_law_source", "_law_options"] (spOf K (ctOf (C__law_one K) noX)) := by
  have nd := (sc__law_one).nd
  refine F.okG sc__law_one (sp_len (ctOf_len fun _ _ _ h => by obtain ⟨_, _, _, rfl, _, _, _⟩ := h; rfl)) (fun cdv A outer s H vs Q E hr h => ?_)
  refine ⟨_, PSs.nox ((pss_one (ps_ret (pe_ix ix_seq (pv 1) (pe_callC (c__law_next T) (hr.mono (by decide)) rfl (pa_cons (pv 0) (pa_cons (pe_callB c_len rfl T.n_len (by decide +kernel) (pa_cons (pv 1) pa_nil)) pa_nil))) (fun _ _ => rfl))))), ?_⟩
  refine fn_x [] [] rfl (fun cs r cs' hc => ?_) vs H Q E h
  obtain ⟨v_source, v_options, res, rfl, rfl, rfl, hm⟩ := hc
  refine ⟨⟨Nat.le_of_ble_eq_true rfl, rfl⟩, (.o (.v .nil)), fun ad => .inl ?_⟩
  · change XS _ _ [some (.o (some (ad 0)) (oL D.int v_source)), some (.v ((eL D.int) v_options))] (.rt (.v (D.int res.1)) [some (.o (some (ad 0)) (oL D.int res.2)), none])
    unfold m_l_one at hm
    obtain ⟨t1, ht1, hm⟩ := R.inv hm
    obtain ⟨t2, ht2, hm⟩ := R.inv hm
    obtain rfl := R.ok.inj hm
    exact x_outR (x_ret (e_ixV (e := D.int) (xs := v_options) (e_var rfl) rfl (e_call (a_s rfl (a_v (e_len (e := D.int) (xs := v_options) (b_of (e_var rfl)) rfl) a_nil) rfl) (W__law_next ht1)) ht2)) (by walk_at "wd")
theorem c__law_one (T : Tx K mg) : Cal P w K mg base 2 "_law_one" ["_law_source", "_law_options"] (spOf K (ctOf (C__law_one K) noX)) := by
  obtain ⟨fd, F⟩ := T.d__law_one
  exact ⟨⟨fd, f__law_one T F, F.bindsN fun _ _ _ _ _ _ us hl => match us, hl with | [_, _], _ => rfl⟩, T.g__law_one, F.kp⟩
def C__law_width (K : PySem.W.Frag) : FC := fun cs r cs' => ∃ (v_source : (List Int)) (res : (Int × (List Int))), cs = [.o none (oL D.int v_source)] ∧ r = (.v (D.int res.1)) ∧ cs' = [.o none (oL D.int res.2)] ∧ m_l_width v_source = .ok res
theorem W__law_width {v_source : (List Int)} {res : (Int × (List Int))} (h : m_l_width v_source = .ok res) : C__law_width K [.o none (oL D.int v_source)] (.v (D.int res.1)) [.o none (oL D.int res.2)] := ⟨v_source, res, rfl, rfl, rfl, h⟩

abbrev N__law_width : List Str := ["_law_source"]
theorem sc__law_width : FnScope N__law_width ["_law_source"] (defScope s__law_width) := ⟨rfl, rfl, rfl, by decide +kernel, rfl, by decide +kernel, by decide +kernel⟩
theorem f__law_width (T : Tx K mg) {fd : FuncData} (F : FunD K "_law_width" "_law_width" (defArgs s__law_width) (defBody s__law_width) (defScope s__law_width) [] [] (He.ga K "_law_width") fd) : FnG P w K mg base (L2.CX P w) 3 (He.ga K "_law_width") fd ["_law_source"] (spOf K (ctOf (C__law_width K) noX)) := by
  have nd := (sc__law_width).nd
  refine F.okG sc__law_width (sp_len (ctOf_len fun _ _ _ h => by obtain ⟨_, _, rfl, _, _, _⟩ := h; rfl)) (fun cdv A outer s H vs Q E hr h => ?_)
  refine ⟨_, PSs.nox ((pss_one (ps_ret (pe_callC (c__law_one T) (hr.mono (by decide)) rfl (pa_cons (pv 0) (pa_cons (pe_lst (pa_cons pe_int (pa_cons pe_int (pa_cons pe_int (pa_cons pe_int (pa_cons pe_int (pa_cons pe_int (pa_cons pe_int (pa_cons (pe_op op_add pe_int (pe_callC (c__law_next T) (hr.mono (by decide)) rfl (pa_cons (pv 0) (pa_cons pe_int pa_nil)))) (pa_cons (pe_op op_pow pe_int pe_int) (pa_cons (pe_op op_add pe_int (pe_callC (c__law_next T) (hr.mono (by decide)) rfl (pa_cons (pv 0) (pa_cons (pe_op op_pow pe_int pe_int) pa_nil)))) pa_nil))))))))))) pa_nil)))))), ?_⟩
  refine fn_x [] [] rfl (fun cs r cs' hc => ?_) vs H Q E h
  obtain ⟨v_source, res, rfl, rfl, rfl, hm⟩ := hc
  refine ⟨⟨Nat.le_of_ble_eq_true rfl, rfl⟩, (.o .nil), fun ad => .inl ?_⟩
  · change XS _ _ [some (.o (some (ad 0)) (oL D.int v_source))] (.rt (.v (D.int res.1)) [some (.o (some (ad 0)) (oL D.int res.2))])
    unfold m_l_width at hm
    obtain ⟨t1, ht1, hm⟩ := R.inv hm
    obtain ⟨t2, ht2, hm⟩ := R.inv hm
    obtain ⟨t3, ht3, hm⟩ := R.inv hm
    obtain ⟨t4, ht4, hm⟩ := R.inv hm
    obtain ⟨t5, ht5, hm⟩ := R.inv hm
    obtain rfl := R.ok.inj hm
    exact x_outR (x_ret (e_call (a_s rfl (a_v (e_frz (e_lst D.int [1, 2, 2, 3, 3, 4, 7, (1 + t1.1), t2, (1 + t4.1)] (d_cons e_int (d_cons e_int (d_cons e_int (d_cons e_int (d_cons e_int (d_cons e_int (d_cons e_int (d_cons (e_add e_int (e_call (a_s rfl (a_v e_int a_nil) rfl) (W__law_next ht1))) (d_cons (e_pow e_int e_int ht2) (d_cons (e_add e_int (e_call (a_s rfl (a_v (e_pow e_int e_int ht3) a_nil) rfl) (W__law_next ht4))) d_nil)))))))))) (hl_ (n := 10) rfl (by decide)))) a_nil) rfl) (W__law_one ht5))) (by walk_at "wd")
theorem c__law_width (T : Tx K mg) : Cal P w K mg base 3 "_law_width" ["_law_source"] (spOf K (ctOf (C__law_width K) noX)) := by
  obtain ⟨fd, F⟩ := T.d__law_width
  exact ⟨⟨fd, f__law_width T F, F.bindsN fun _ _ _ _ _ _ us hl => match us, hl with | [_], _ => rfl⟩, T.g__law_width, F.kp⟩
def C_is_integer (K : PySem.W.Frag) : FC := fun cs r cs' => ∃ (v_value : Int) (res : Bool), cs = [.v (D.int v_value)] ∧ r = (.v (D.bl res)) ∧ cs' = [.v (D.int v_value)] ∧ m_is_integer v_value = .ok res
theorem W_is_integer {v_value : Int} {res : Bool} (h : m_is_integer v_value = .ok res) : C_is_integer K [.v (D.int v_value)] (.v (D.bl res)) [.v (D.int v_value)] := ⟨v_value, res, rfl, rfl, rfl, h⟩

abbrev N_is_integer : List Str := ["value"]
theorem sc_is_integer : FnScope N_is_integer ["value"] (defScope s_is_integer) := ⟨rfl, rfl, rfl, by decide +kernel, rfl, by decide +kernel, by decide +kernel⟩
theorem f_is_integer (T : Tx K mg) {fd : FuncData} (F : FunD K "is_integer" "is_integer" (defArgs s_is_integer) (defBody s_is_integer) (defScope s_is_integer) [] [] (He.ga K "is_integer") fd) : FnG P w K mg base (L2.CX P w) 1 (He.ga K "is_integer") fd ["value"] (spOf K (ctOf (C_is_integer K) noX)) := by
  have nd := (sc_is_integer).nd
  refine F.okG sc_is_integer (sp_len (ctOf_len fun _ _ _ h => by obtain ⟨_, _, rfl, _, _, _⟩ := h; rfl)) (fun cdv A outer s H vs Q E hr h => ?_)
  refine ⟨_, PSs.nox ((pss_one (ps_ret (pe_and (pe_callB call_isi rfl T.n_isinstance (by decide +kernel) (pa_cons (pv 0) (pa_cons (pe_ty (n := "int") rfl T.n_int (by decide +kernel)) pa_nil))) (pe_one (pe_not (pe_callB call_isi rfl T.n_isinstance (by decide +kernel) (pa_cons (pv 0) (pa_cons (pe_ty (n := "bool") rfl T.n_bool (by decide +kernel)) pa_nil))))))))), ?_⟩
  refine fn_x [] [] rfl (fun cs r cs' hc => ?_) vs H Q E h
  obtain ⟨v_value, res, rfl, rfl, rfl, hm⟩ := hc
  refine ⟨⟨Nat.le_of_ble_eq_true rfl, rfl⟩, (.v .nil), fun ad => .inl ?_⟩
  · change XS _ _ [some (.v (D.int v_value))] (.rt (.v (D.bl res)) [none])
    unfold m_is_integer at hm
    obtain rfl := R.ok.inj hm
    exact x_outR (x_ret (e_andP (e_isi (n := "int") (p := true) (b_of (e_var rfl)) rfl) (e_not (e_isi (n := "bool") (p := false) (b_of (e_var rfl)) rfl)))) (by walk_at "wd")
theorem c_is_integer (T : Tx K mg) : Cal P w K mg base 1 "is_integer" ["value"] (spOf K (ctOf (C_is_integer K) noX)) := by
  obtain ⟨fd, F⟩ := T.d_is_integer
  exact ⟨⟨fd, f_is_integer T F, F.bindsN fun _ _ _ _ _ _ us hl => match us, hl with | [_], _ => rfl⟩, T.g_is_integer, F.kp⟩
def C_check_size (K : PySem.W.Frag) : FC := fun cs r cs' => ∃ (v_value : Int) (res : Unit), cs = [.v (D.int v_value)] ∧ r = (.v (eN res)) ∧ cs' = [.v (D.int v_value)] ∧ m_check_size_12 v_value = .ok res
theorem W_check_size {v_value : Int} {res : Unit} (h : m_check_size_12 v_value = .ok res) : C_check_size K [.v (D.int v_value)] (.v (eN res)) [.v (D.int v_value)] := ⟨v_value, res, rfl, rfl, rfl, h⟩

abbrev N_check_size : List Str := ["value"]
theorem sc_check_size : FnScope N_check_size ["value"] (defScope s_check_size) := ⟨rfl, rfl, rfl, by decide +kernel, rfl, by decide +kernel, by decide +kernel⟩
theorem f_check_size (T : Tx K mg) {fd : FuncData} (F : FunD K "check_size" "check_size" (defArgs s_check_size) (defBody s_check_size) (defScope s_check_size) [] [] (He.ga K "check_size") fd) : FnG P w K mg base (L2.CX P w) 2 (He.ga K "check_size") fd ["value"] (spOf K (ctOf (C_check_size K) noX)) := by
  have nd := (sc_check_size).nd
  refine F.okG sc_check_size (sp_len (ctOf_len fun _ _ _ h => by obtain ⟨_, _, rfl, _, _, _⟩ := h; rfl)) (fun cdv A outer s H vs Q E hr h => ?_)
  refine ⟨_, PSs.nox ((pss_one (ps_if (PW.pt (pw_or (pt_not (pt_val (pe_callC (c_is_integer T) (hr.mono (by decide)) rfl (pa_cons (pv 0) pa_nil)))) (pw_or1 (pt_cmpR op_lt (pv 0) pe_int (nomark _))))) (pss_one ps_never) pss_nil))), ?_⟩
  refine fn_x [] [] rfl (fun cs r cs' hc => ?_) vs H Q E h
  obtain ⟨v_value, res, rfl, rfl, rfl, hm⟩ := hc
  refine ⟨⟨Nat.le_of_ble_eq_true rfl, rfl⟩, (.v .nil), fun ad => .inr ⟨rfl, ?_⟩⟩
  · change XS _ _ [some (.v (D.int v_value))] (.nx [none])
    unfold m_check_size_12 at hm
    obtain ⟨t1, ht1, hm⟩ := R.inv hm
    refine x_if (t_orP (t_not (t_tB (e_call (a_v (e_var rfl) a_nil) (W_is_integer ht1)))) (t_test (e_lt (e_var rfl) e_int))) (fun hb => ?_) (fun hb => ?_)
    · have hm := R.ifT hb hm
      nomatch hm
    · have hm := R.ifF hb hm
      obtain rfl := R.ok.inj hm
      exact x_out x_next (by walk_at "wk")
theorem c_check_size (T : Tx K mg) : Cal P w K mg base 2 "check_size" ["value"] (spOf K (ctOf (C_check_size K) noX)) := by
  obtain ⟨fd, F⟩ := T.d_check_size
  exact ⟨⟨fd, f_check_size T F, F.bindsN fun _ _ _ _ _ _ us hl => match us, hl with | [_], _ => rfl⟩, T.g_check_size, F.kp⟩
def C_is_between (K : PySem.W.Frag) : FC := fun cs r cs' => ∃ (v_value : Int) (v_low : Int) (v_high : Int) (res : Bool), cs = [.v (D.int v_value), .v (D.int v_low), .v (D.int v_high)] ∧ r = (.v (D.bl res)) ∧ cs' = [.v (D.int v_value), .v (D.int v_low), .v (D.int v_high)] ∧ m_is_between v_value v_low v_high = .ok res
theorem W_is_between {v_value : Int} {v_low : Int} {v_high : Int} {res : Bool} (h : m_is_between v_value v_low v_high = .ok res) : C_is_between K [.v (D.int v_value), .v (D.int v_low), .v (D.int v_high)] (.v (D.bl res)) [.v (D.int v_value), .v (D.int v_low), .v (D.int v_high)] := ⟨v_value, v_low, v_high, res, rfl, rfl, rfl, h⟩

abbrev N_is_between : List Str := ["value", "low", "high"]
theorem sc_is_between : FnScope N_is_between ["value", "low", "high"] (defScope s_is_between) := ⟨rfl, rfl, rfl, by decide +kernel, rfl, by decide +kernel, by decide +kernel⟩
theorem f_is_between (T : Tx K mg) {fd : FuncData} (F : FunD K "is_between" "is_between" (defArgs s_is_between) (defBody s_is_between) (defScope s_is_between) [] [] (He.ga K "is_between") fd) : FnG P w K mg base (L2.CX P w) 2 (He.ga K "is_between") fd ["value", "low", "high"] (spOf K (ctOf (C_is_between K) noX)) := by
  have nd := (sc_is_between).nd
  refine F.okG sc_is_between (sp_len (ctOf_len fun _ _ _ h => by obtain ⟨_, _, _, _, rfl, _, _, _⟩ := h; rfl)) (fun cdv A outer s H vs Q E hr h => ?_)
  refine ⟨_, PSs.nox ((pss_one (ps_ret (pe_and (pe_callC (c_is_integer T) (hr.mono (by decide)) rfl (pa_cons (pv 0) pa_nil)) (pe_one (pe_chain op_le op_le (pv 1) (pv 0) (pv 2))))))), ?_⟩
  refine fn_x [] [] rfl (fun cs r cs' hc => ?_) vs H Q E h
  obtain ⟨v_value, v_low, v_high, res, rfl, rfl, rfl, hm⟩ := hc
  refine ⟨⟨Nat.le_of_ble_eq_true rfl, rfl⟩, (.v (.v (.v .nil))), fun ad => .inl ?_⟩
  · change XS _ _ [some (.v (D.int v_value)), some (.v (D.int v_low)), some (.v (D.int v_high))] (.rt (.v (D.bl res)) [none, none, none])
    unfold m_is_between at hm
    obtain ⟨t1, ht1, hm⟩ := R.inv hm
    obtain rfl := R.ok.inj hm
    exact x_outR (x_ret (e_andP (e_call (a_v (e_var rfl) a_nil) (W_is_integer ht1)) (e_chain (e_var rfl) (e_var rfl) (e_var rfl)))) (by walk_at "wd")
theorem c_is_between (T : Tx K mg) : Cal P w K mg base 2 "is_between" ["value", "low", "high"] (spOf K (ctOf (C_is_between K) noX)) := by
  obtain ⟨fd, F⟩ := T.d_is_between
  exact ⟨⟨fd, f_is_between T F, F.bindsN fun _ _ _ _ _ _ us hl => match us, hl with | [_, _, _], _ => rfl⟩, T.g_is_between, F.kp⟩
def C_State___init__ (K : PySem.W.Frag) : FC := fun cs r cs' => ∃ (v_runs : (List (Int × Int))) (v_owners : (List Int)) (v_held : (List (Int × Int))) (v_lost_count : Int) (res : StateM), cs = [.o none (.inl (He.ga K "State") []), .v ((eL (eT2 D.int D.int)) v_runs), .v ((eL D.int) v_owners), .v ((eDc D.int) v_held), .v (D.int v_lost_count)] ∧ r = (.v .non) ∧ cs' = [.o none (iState (He.ga K "State") res), .v ((eL (eT2 D.int D.int)) v_runs), .v ((eL D.int) v_owners), .v ((eDc D.int) v_held), .v (D.int v_lost_count)] ∧ m_State___init__ v_runs v_owners v_held v_lost_count = .ok res
theorem W_State___init__ {v_runs : (List (Int × Int))} {v_owners : (List Int)} {v_held : (List (Int × Int))} {v_lost_count : Int} {res : StateM} (h : m_State___init__ v_runs v_owners v_held v_lost_count = .ok res) : C_State___init__ K [.o none (.inl (He.ga K "State") []), .v ((eL (eT2 D.int D.int)) v_runs), .v ((eL D.int) v_owners), .v ((eDc D.int) v_held), .v (D.int v_lost_count)] (.v .non) [.o none (iState (He.ga K "State") res), .v ((eL (eT2 D.int D.int)) v_runs), .v ((eL D.int) v_owners), .v ((eDc D.int) v_held), .v (D.int v_lost_count)] := ⟨v_runs, v_owners, v_held, v_lost_count, res, rfl, rfl, rfl, h⟩

abbrev N_State___init__ : List Str := ["self", "runs", "owners", "held", "lost_count"]
theorem sc_State___init__ : FnScope N_State___init__ ["self", "runs", "owners", "held", "lost_count"] (defScope s_State___init__) := ⟨rfl, rfl, rfl, by decide +kernel, rfl, by decide +kernel, by decide +kernel⟩
theorem f_State___init__ (T : Tx K mg) {fd : FuncData} (F : FunD K "__init__" "State.__init__" (defArgs s_State___init__) (defBody s_State___init__) (defScope s_State___init__) [] [] (He.fAd K ("State", some "__init__")) fd) : FnG P w K mg base (L2.CX P w) 1 (He.fAd K ("State", some "__init__")) fd ["self", "runs", "owners", "held", "lost_count"] (spOf K (ctOf (C_State___init__ K) noX)) := by
  have nd := (sc_State___init__).nd
  refine F.okG sc_State___init__ (sp_len (ctOf_len fun _ _ _ h => by obtain ⟨_, _, _, _, _, rfl, _, _, _⟩ := h; rfl)) (fun cdv A outer s H vs Q E hr h => ?_)
  refine ⟨_, PSs.nox ((pss_cons (ps_fld (pv 0) (pv 1) rfl)
    (pss_cons (ps_fld (pv 0) (pv 2) rfl)
    (pss_cons (ps_fld (pv 0) (pv 3) rfl)
    (pss_one (ps_fld (pv 0) (pv 4) rfl)))))), ?_⟩
  refine fn_x [] [] rfl (fun cs r cs' hc => ?_) vs H Q E h
  obtain ⟨v_runs, v_owners, v_held, v_lost_count, res, rfl, rfl, rfl, hm⟩ := hc
  refine ⟨⟨Nat.le_of_ble_eq_true rfl, rfl⟩, (.o (.v (.v (.v (.v .nil))))), fun ad => .inr ⟨rfl, ?_⟩⟩
  · change XS _ _ [some (.o (some (ad 0)) (.inl (He.ga K "State") [])), some (.v ((eL (eT2 D.int D.int)) v_runs)), some (.v ((eL D.int) v_owners)), some (.v ((eDc D.int) v_held)), some (.v (D.int v_lost_count))] (.nx [some (.o (some (ad 0)) (iState (He.ga K "State") res)), none, none, none, none])
    unfold m_State___init__ at hm
    refine x_seq (μ1 := [some (.o (some (ad 0)) (.inl (He.ga K "State") [("issues", .v ((eL (eT2 D.int D.int)) v_runs))])), some (.v ((eL (eT2 D.int D.int)) v_runs)), some (.v ((eL D.int) v_owners)), some (.v ((eDc D.int) v_held)), some (.v (D.int v_lost_count))]) (x_fldN (e_var rfl) rfl T.cl_State T.na_State_issues rfl rfl) ?_
    refine x_seq (μ1 := [some (.o (some (ad 0)) (.inl (He.ga K "State") [("issues", .v ((eL (eT2 D.int D.int)) v_runs)), ("takers", .v ((eL D.int) v_owners))])), some (.v ((eL (eT2 D.int D.int)) v_runs)), some (.v ((eL D.int) v_owners)), some (.v ((eDc D.int) v_held)), some (.v (D.int v_lost_count))]) (x_fldN (e_var rfl) rfl T.cl_State T.na_State_takers rfl rfl) ?_
    refine x_seq (μ1 := [some (.o (some (ad 0)) (.inl (He.ga K "State") [("issues", .v ((eL (eT2 D.int D.int)) v_runs)), ("takers", .v ((eL D.int) v_owners)), ("held", .v ((eDc D.int) v_held))])), some (.v ((eL (eT2 D.int D.int)) v_runs)), some (.v ((eL D.int) v_owners)), some (.v ((eDc D.int) v_held)), some (.v (D.int v_lost_count))]) (x_fldN (e_var rfl) rfl T.cl_State T.na_State_held rfl rfl) ?_
    obtain rfl := R.ok.inj hm
    exact x_out (x_fldN (e_var rfl) rfl T.cl_State T.na_State_lost_count rfl rfl) (by walk_at "wk")
theorem c_State___init__ (T : Tx K mg) : CalN0 P w K mg base 1 "State" ["self", "runs", "owners", "held", "lost_count"] (spOf K (ctOf (C_State___init__ K) noX)) := by
  obtain ⟨fd, F⟩ := T.d_State___init__
  exact ⟨⟨fd, f_State___init__ T F, F.bindsN fun _ _ _ _ _ _ us hl => match us, hl with | [_, _, _, _, _], _ => rfl⟩, T.mk_State, T.gc_State⟩
def C_House___init__ (K : PySem.W.Frag) : FC := fun cs r cs' => ∃ (v_size : Int) (v_clients : Int) (res : HouseM), cs = [.o none (.inl (He.ga K "House") []), .v (D.int v_size), .v (D.int v_clients)] ∧ r = (.v .non) ∧ cs' = [.o none (iHouse K res), .v (D.int v_size), .v (D.int v_clients)] ∧ m_House___init___2 v_size v_clients = .ok res
theorem W_House___init__ {v_size : Int} {v_clients : Int} {res : HouseM} (h : m_House___init___2 v_size v_clients = .ok res) : C_House___init__ K [.o none (.inl (He.ga K "House") []), .v (D.int v_size), .v (D.int v_clients)] (.v .non) [.o none (iHouse K res), .v (D.int v_size), .v (D.int v_clients)] := ⟨v_size, v_clients, res, rfl, rfl, rfl, h⟩

abbrev N_House___init__ : List Str := ["self", "size", "clients"]
theorem sc_House___init__ : FnScope N_House___init__ ["self", "size", "clients"] (defScope s_House___init__) := ⟨rfl, rfl, rfl, by decide +kernel, rfl, by decide +kernel, by decide +kernel⟩
theorem f_House___init__ (T : Tx K mg) {fd : FuncData} (F : FunD K "__init__" "House.__init__" (defArgs s_House___init__) (defBody s_House___init__) (defScope s_House___init__) [] [] (He.fAd K ("House", some "__init__")) fd) : FnG P w K mg base (L2.CX P w) 3 (He.fAd K ("House", some "__init__")) fd ["self", "size", "clients"] (spOf K (ctOf (C_House___init__ K) noX)) := by
  have nd := (sc_House___init__).nd
  refine F.okG sc_House___init__ (sp_len (ctOf_len fun _ _ _ h => by obtain ⟨_, _, _, rfl, _, _, _⟩ := h; rfl)) (fun cdv A outer s H vs Q E hr h => ?_)
  refine ⟨_, PSs.nox ((pss_cons (ps_expr (pe_callC (c_check_size T) (hr.mono (by decide)) rfl (pa_cons (pv 1) pa_nil)))
    (pss_cons (ps_if (pt_not (pt_val (pe_callC (c_is_between T) (hr.mono (by decide)) rfl (pa_cons (pv 2) (pa_cons pe_int (pa_cons (pe_globI rfl T.k_MOST_CLIENTS) pa_nil)))))) (pss_one ps_never) pss_nil)
    (pss_cons (ps_fld (pv 0) (pv 1) rfl)
    (pss_cons (ps_fld (pv 0) (pv 2) rfl)
    (pss_cons (ps_fld (pv 0) (pe_lst (pa_cons (pe_makeC0 (c_State___init__ T) (hr.mono (by decide)) rfl (pa_cons (pe_lst pa_nil) (pa_cons (pe_lst pa_nil) (pa_cons pe_dnewK (pa_cons pe_int pa_nil))))) pa_nil)) rfl)
    (pss_one (ps_fld (pv 0) (pe_lst pa_nil) rfl)))))))), ?_⟩
  refine fn_x [] [] rfl (fun cs r cs' hc => ?_) vs H Q E h
  obtain ⟨v_size, v_clients, res, rfl, rfl, rfl, hm⟩ := hc
  refine ⟨⟨Nat.le_of_ble_eq_true rfl, rfl⟩, (.o (.v (.v .nil))), fun ad => .inr ⟨rfl, ?_⟩⟩
  · change XS _ _ [some (.o (some (ad 0)) (.inl (He.ga K "House") [])), some (.v (D.int v_size)), some (.v (D.int v_clients))] (.nx [some (.o (some (ad 0)) (iHouse K res)), none, none])
    unfold m_House___init___2 at hm
    obtain ⟨t1, ht1, hm⟩ := R.inv hm
    refine x_seq (μ1 := [some (.o (some (ad 0)) (.inl (He.ga K "House") [])), some (.v (D.int v_size)), some (.v (D.int v_clients))]) (x_drop (e_call (a_v (e_var rfl) a_nil) (W_check_size ht1))) ?_
    obtain ⟨t2, ht2, hm⟩ := R.inv hm
    refine x_seqIf (t_not (t_tB (e_call (a_v (e_var rfl) (a_v e_int (a_v e_int a_nil))) (W_is_between ht2)))) (fun hb => ?_) (fun hb => ?_)
    · have hm := R.ifT hb hm
      nomatch hm
    · have hm := R.ifF hb hm
      refine x_seq x_next ?_
      refine x_seq (μ1 := [some (.o (some (ad 0)) (.inl (He.ga K "House") [("width", .v (D.int v_size))])), some (.v (D.int v_size)), some (.v (D.int v_clients))]) (x_fldN (e_var rfl) rfl T.cl_House T.na_House_width rfl rfl) ?_
      refine x_seq (μ1 := [some (.o (some (ad 0)) (.inl (He.ga K "House") [("width", .v (D.int v_size)), ("crowd", .v (D.int v_clients))])), some (.v (D.int v_size)), some (.v (D.int v_clients))]) (x_fldN (e_var rfl) rfl T.cl_House T.na_House_crowd rfl rfl) ?_
      obtain ⟨t3, ht3, hm⟩ := R.inv hm
      refine x_seq (μ1 := [some (.o (some (ad 0)) (.inl (He.ga K "House") [("width", .v (D.int v_size)), ("crowd", .v (D.int v_clients)), ("states", .c (.l (([t3]).map (eState (He.ga K "State")))))])), some (.v (D.int v_size)), some (.v (D.int v_clients))]) (x_fldCL (e_lst (eState (He.ga K "State")) [t3] (d_cons (e_frz (o_make (c := iState (He.ga K "State") t3) (cs' := [.v ((eL (eT2 D.int D.int)) ([] : (List (Int × Int)))), .v ((eL D.int) ([] : (List Int))), .v ((eDc D.int) ([] : (List (Int × Int)))), .v (D.int 0)]) .nil (a_v (e_frz (e_lst (eT2 D.int D.int) ([] : (List (Int × Int))) d_nil (hl_ (n := 0) rfl (by decide)))) (a_v (e_frz (e_lst D.int ([] : (List Int)) d_nil (hl_ (n := 0) rfl (by decide)))) (a_v (e_frz (e_dnew D.int)) (a_v e_int a_nil)))) (W_State___init__ ht3))) d_nil) (hl_ (n := 1) rfl (by decide))) rfl T.cl_House T.na_House_states rfl) ?_
      obtain rfl := R.ok.inj hm
      exact x_out (x_fldCL (e_lst eA ([] : (List Av)) d_nil (hl_ (n := 0) rfl (by decide))) rfl T.cl_House T.na_House_done rfl) (by walk_at "wk")
theorem c_House___init__ (T : Tx K mg) : CalN0 P w K mg base 3 "House" ["self", "size", "clients"] (spOf K (ctOf (C_House___init__ K) noX)) := by
  obtain ⟨fd, F⟩ := T.d_House___init__
  exact ⟨⟨fd, f_House___init__ T F, F.bindsN fun _ _ _ _ _ _ us hl => match us, hl with | [_, _, _], _ => rfl⟩, T.mk_House, T.gc_House⟩
theorem ck_House___init___0 (T : Tx K mg) : CalNG P w K mg base 3 "House" ["clients", "size"] [1, 0] ["self", "size", "clients"] (spOf K (ctOf (C_House___init__ K) noX)) := by
  obtain ⟨fd, F⟩ := T.d_House___init__
  exact ⟨⟨fd, f_House___init__ T F, kbn_perm (ks := ["clients", "size"]) 1 [1, 0] F (fun _ _ _ _ _ _ us ws hl h2 => match us, ws, hl, h2 with | [_], [_, _], _, _ => rfl)⟩, T.mk_House, T.gc_House⟩
def C_House_check_room (K : PySem.W.Frag) : FC := fun cs r cs' => ∃ (v_self : HouseM) (res : Unit), cs = [.o none (iHouse K v_self)] ∧ r = (.v (eN res)) ∧ cs' = [.o none (iHouse K v_self)] ∧ m_House_check_room_1 v_self = .ok res
theorem W_House_check_room {v_self : HouseM} {res : Unit} (h : m_House_check_room_1 v_self = .ok res) : C_House_check_room K [.o none (iHouse K v_self)] (.v (eN res)) [.o none (iHouse K v_self)] := ⟨v_self, res, rfl, rfl, rfl, h⟩

abbrev N_House_check_room : List Str := ["self"]
theorem sc_House_check_room : FnScope N_House_check_room ["self"] (defScope s_House_check_room) := ⟨rfl, rfl, rfl, by decide +kernel, rfl, by decide +kernel, by decide +kernel⟩
theorem f_House_check_room (T : Tx K mg) {fd : FuncData} (F : FunD K "check_room" "House.check_room" (defArgs s_House_check_room) (defBody s_House_check_room) (defScope s_House_check_room) [] [] (He.fAd K ("House", some "check_room")) fd) : FnG P w K mg base (L2.CX P w) 1 (He.fAd K ("House", some "check_room")) fd ["self"] (spOf K (ctOf (C_House_check_room K) noX)) := by
  have nd := (sc_House_check_room).nd
  refine F.okG sc_House_check_room (sp_len (ctOf_len fun _ _ _ h => by obtain ⟨_, _, rfl, _, _, _⟩ := h; rfl)) (fun cdv A outer s H vs Q E hr h => ?_)
  refine ⟨_, PSs.nox ((pss_one (ps_if (pt_cmpR (op_eqD hr.units) (pe_callB c_len rfl T.n_len (by decide +kernel) (pa_cons (pe_fld (pv 0) rfl) pa_nil)) (pe_globI rfl T.k_MOST_CALLS) (nomark _)) (pss_one ps_never) pss_nil))), ?_⟩
  refine fn_x [] [] rfl (fun cs r cs' hc => ?_) vs H Q E h
  obtain ⟨v_self, res, rfl, rfl, rfl, hm⟩ := hc
  refine ⟨⟨Nat.le_of_ble_eq_true rfl, rfl⟩, (.o .nil), fun ad => .inr ⟨rfl, ?_⟩⟩
  · change XS _ _ [some (.o (some (ad 0)) (iHouse K v_self))] (.nx [some (.o (some (ad 0)) (iHouse K v_self))])
    unfold m_House_check_room_1 at hm
    refine x_if (t_test (e_eqV (e := D.int) (x := (v_self.done.length : Int)) (y := 1000) EqT.int (by decide) (e_len (e := eA) (xs := v_self.done) (b_fldL rfl rfl T.cl_House T.na_House_done) rfl) e_int)) (fun hb => ?_) (fun hb => ?_)
    · have hm := R.ifT hb hm
      nomatch hm
    · have hm := R.ifF hb hm
      obtain rfl := R.ok.inj hm
      exact x_out x_next (by walk_at "wk")
theorem c_House_check_room (T : Tx K mg) : CalO P w K mg base 1 "House" "check_room" ["self"] (spOf K (ctOf (C_House_check_room K) noX)) := by
  obtain ⟨fd, F⟩ := T.d_House_check_room
  exact ⟨⟨fd, f_House_check_room T F, F.bindsN fun _ _ _ _ _ _ us hl => match us, hl with | [_], _ => rfl⟩, T.m_House_check_room, T.cl_House⟩
def C_House_check_client (K : PySem.W.Frag) : FC := fun cs r cs' => ∃ (v_self : HouseM) (v_client : Int) (res : Unit), cs = [.o none (iHouse K v_self), .v (D.int v_client)] ∧ r = (.v (eN res)) ∧ cs' = [.o none (iHouse K v_self), .v (D.int v_client)] ∧ m_House_check_client_1 v_self v_client = .ok res
theorem W_House_check_client {v_self : HouseM} {v_client : Int} {res : Unit} (h : m_House_check_client_1 v_self v_client = .ok res) : C_House_check_client K [.o none (iHouse K v_self), .v (D.int v_client)] (.v (eN res)) [.o none (iHouse K v_self), .v (D.int v_client)] := ⟨v_self, v_client, res, rfl, rfl, rfl, h⟩

abbrev N_House_check_client : List Str := ["self", "client"]
theorem sc_House_check_client : FnScope N_House_check_client ["self", "client"] (defScope s_House_check_client) := ⟨rfl, rfl, rfl, by decide +kernel, rfl, by decide +kernel, by decide +kernel⟩
theorem f_House_check_client (T : Tx K mg) {fd : FuncData} (F : FunD K "check_client" "House.check_client" (defArgs s_House_check_client) (defBody s_House_check_client) (defScope s_House_check_client) [] [] (He.fAd K ("House", some "check_client")) fd) : FnG P w K mg base (L2.CX P w) 3 (He.fAd K ("House", some "check_client")) fd ["self", "client"] (spOf K (ctOf (C_House_check_client K) noX)) := by
  have nd := (sc_House_check_client).nd
  refine F.okG sc_House_check_client (sp_len (ctOf_len fun _ _ _ h => by obtain ⟨_, _, _, rfl, _, _, _⟩ := h; rfl)) (fun cdv A outer s H vs Q E hr h => ?_)
  refine ⟨_, PSs.nox ((pss_one (ps_if (pt_not (pt_val (pe_callC (c_is_between T) (hr.mono (by decide)) rfl (pa_cons (pv 1) (pa_cons pe_int (pa_cons (pe_op op_sub (pe_fld (pv 0) rfl) pe_int) pa_nil)))))) (pss_one ps_never) pss_nil))), ?_⟩
  refine fn_x [] [] rfl (fun cs r cs' hc => ?_) vs H Q E h
  obtain ⟨v_self, v_client, res, rfl, rfl, rfl, hm⟩ := hc
  refine ⟨⟨Nat.le_of_ble_eq_true rfl, rfl⟩, (.o (.v .nil)), fun ad => .inr ⟨rfl, ?_⟩⟩
  · change XS _ _ [some (.o (some (ad 0)) (iHouse K v_self)), some (.v (D.int v_client))] (.nx [some (.o (some (ad 0)) (iHouse K v_self)), none])
    unfold m_House_check_client_1 at hm
    obtain ⟨t1, ht1, hm⟩ := R.inv hm
    refine x_if (t_not (t_tB (e_call (a_v (e_var rfl) (a_v e_int (a_v (e_sub (e_fldO rfl rfl T.cl_House T.na_House_crowd) e_int) a_nil))) (W_is_between ht1)))) (fun hb => ?_) (fun hb => ?_)
    · have hm := R.ifT hb hm
      nomatch hm
    · have hm := R.ifF hb hm
      obtain rfl := R.ok.inj hm
      exact x_out x_next (by walk_at "wk")
theorem c_House_check_client (T : Tx K mg) : CalO P w K mg base 3 "House" "check_client" ["self", "client"] (spOf K (ctOf (C_House_check_client K) noX)) := by
  obtain ⟨fd, F⟩ := T.d_House_check_client
  exact ⟨⟨fd, f_House_check_client T F, F.bindsN fun _ _ _ _ _ _ us hl => match us, hl with | [_, _], _ => rfl⟩, T.m_House_check_client, T.cl_House⟩
def C_after_crash (K : PySem.W.Frag) : FC := fun cs r cs' => ∃ (v_width : Int) (v_state : StateM) (v_client : Int) (res : (StateM × Int)), cs = [.v (D.int v_width), .v ((eState (He.ga K "State")) v_state), .v (D.int v_client)] ∧ r = (.v ((eT2 (eState (He.ga K "State")) D.int) res)) ∧ cs' = [.v (D.int v_width), .v ((eState (He.ga K "State")) v_state), .v (D.int v_client)] ∧ m_after_crash v_width v_state v_client = .ok res
theorem W_after_crash {v_width : Int} {v_state : StateM} {v_client : Int} {res : (StateM × Int)} (h : m_after_crash v_width v_state v_client = .ok res) : C_after_crash K [.v (D.int v_width), .v ((eState (He.ga K "State")) v_state), .v (D.int v_client)] (.v ((eT2 (eState (He.ga K "State")) D.int) res)) [.v (D.int v_width), .v ((eState (He.ga K "State")) v_state), .v (D.int v_client)] := ⟨v_width, v_state, v_client, res, rfl, rfl, rfl, h⟩

abbrev N_after_crash : List Str := ["width", "state", "client", "held", "following", "rest"]
theorem sc_after_crash : FnScope N_after_crash ["width", "state", "client"] (defScope s_after_crash) := ⟨rfl, rfl, rfl, by decide +kernel, rfl, by decide +kernel, by decide +kernel⟩
theorem f_after_crash (T : Tx K mg) {fd : FuncData} (F : FunD K "after_crash" "after_crash" (defArgs s_after_crash) (defBody s_after_crash) (defScope s_after_crash) [] [] (He.ga K "after_crash") fd) : FnG P w K mg base (L2.CX P w) 3 (He.ga K "after_crash") fd ["width", "state", "client"] (spOf K (ctOf (C_after_crash K) noX)) := by
  have nd := (sc_after_crash).nd
  refine F.okG sc_after_crash (sp_len (ctOf_len fun _ _ _ h => by obtain ⟨_, _, _, _, rfl, _, _, _⟩ := h; rfl)) (fun cdv A outer s H vs Q E hr h => ?_)
  refine ⟨_, PSs.nox ((pss_cons (ps_set (i := 3) nd rfl (Or.inl rfl) (pe_callTy c_dictD rfl T.n_dict (by decide +kernel) (pa_cons (pe_fld (pv 1) rfl) pa_nil)))
    (pss_cons (ps_set (i := 4) nd rfl (Or.inl rfl) (pe_dpop2 (pv 3) (pv 2) pe_non ⟨by rfl, by rfl, by rfl, by rfl⟩))
    (pss_cons (ps_set (i := 5) nd rfl (Or.inl rfl) (pe_ifExp (pt_cmpR op_isN (pv 4) pe_non (nomark _)) pe_int (pe_op op_sub (pv 0) (pe_op op_mod (pv 4) (pv 0)))))
    (pss_one (ps_ret (pe_tup (pa_cons (pe_makeC0 (c_State___init__ T) (hr.mono (by decide)) rfl (pa_cons (pe_fld (pv 1) rfl) (pa_cons (pe_fld (pv 1) rfl) (pa_cons (pv 3) (pa_cons (pe_op op_add (pe_fld (pv 1) rfl) (pv 5)) pa_nil))))) (pa_cons (pv 5) pa_nil))))))))), ?_⟩
  refine fn_x [none, none, none] [none, none, none] rfl (fun cs r cs' hc => ?_) vs H Q E h
  obtain ⟨v_width, v_state, v_client, res, rfl, rfl, rfl, hm⟩ := hc
  refine ⟨⟨Nat.le_of_ble_eq_true rfl, rfl⟩, (.v (.v (.v .nil))), fun ad => .inl ?_⟩
  · change XS _ _ [some (.v (D.int v_width)), some (.v ((eState (He.ga K "State")) v_state)), some (.v (D.int v_client)), none, none, none] (.rt (.v ((eT2 (eState (He.ga K "State")) D.int) res)) [none, none, none, none, none, none])
    unfold m_after_crash at hm
    refine x_seq (μ1 := [some (.v (D.int v_width)), some (.v ((eState (He.ga K "State")) v_state)), some (.v (D.int v_client)), some (.o none (oDc D.int v_state.held)), none, none]) (x_setO (e_dictD (e := D.int) (kvs := v_state.held) (b_of (e_fld (e_var rfl) T.cl_State T.na_State_held rfl)) rfl)) ?_
    refine x_seq (μ1 := [some (.v (D.int v_width)), some (.v ((eState (He.ga K "State")) v_state)), some (.v (D.int v_client)), some (.o none (oDc D.int (dropZ v_state.held v_client))), some (.v ((eO D.int) (lookZ v_state.held v_client))), none]) (x_set (e_dpopN (e := D.int) rfl (e_var rfl))) ?_
    obtain ⟨t3, ht3, hm⟩ := R.inv hm
    refine x_seq (μ1 := [some (.v (D.int v_width)), some (.v ((eState (He.ga K "State")) v_state)), some (.v (D.int v_client)), some (.o none (oDc D.int (dropZ v_state.held v_client))), some (.v ((eO D.int) (lookZ v_state.held v_client))), some (.v (D.int t3))]) (x_set (e_if (d := D.int t3) (μ2 := [some (.v (D.int v_width)), some (.v ((eState (He.ga K "State")) v_state)), some (.v (D.int v_client)), some (.o none (oDc D.int (dropZ v_state.held v_client))), some (.v ((eO D.int) (lookZ v_state.held v_client))), none]) (t_test (e_isNO (b_of (e_var rfl)))) (fun hb => by have hm := R.ifT hb ht3; obtain rfl := R.ok.inj hm; exact e_int) (fun hb => by have hm := R.ifF hb ht3; obtain ⟨t1, ht1, hm⟩ := R.inv hm; obtain ⟨t2, ht2, hm⟩ := R.inv hm; obtain rfl := R.ok.inj hm; exact (e_sub (e_var rfl) (e_mod (e_some (e_var rfl) ht1) (e_var rfl) ht2))))) ?_
    refine x_wk (μ1 := [some (.v (D.int v_width)), some (.v ((eState (He.ga K "State")) v_state)), some (.v (D.int v_client)), some (.v ((eDc D.int) (dropZ v_state.held v_client))), some (.v ((eO D.int) (lookZ v_state.held v_client))), some (.v (D.int t3))]) (by walk_at "wk") ?_
    obtain ⟨t4, ht4, hm⟩ := R.inv hm
    obtain rfl := R.ok.inj hm
    exact x_outR (x_ret (e_tup2 (e := (eState (He.ga K "State"))) (x := t4) (f := D.int) (y := t3) (d_cons (e_frz (o_make (c := iState (He.ga K "State") t4) (cs' := [.v ((eL (eT2 D.int D.int)) v_state.issues), .v ((eL D.int) v_state.takers), .v ((eDc D.int) (dropZ v_state.held v_client)), .v (D.int (v_state.lost_count + t3))]) .nil (a_v (e_fld (e_var rfl) T.cl_State T.na_State_issues rfl) (a_v (e_fld (e_var rfl) T.cl_State T.na_State_takers rfl) (a_v (e_var rfl) (a_v (e_add (e_fld (e_var rfl) T.cl_State T.na_State_lost_count rfl) (e_var rfl)) a_nil)))) (W_State___init__ ht4))) (d_cons (e_var rfl) d_nil)))) (by walk_at "wd")
theorem c_after_crash (T : Tx K mg) : Cal P w K mg base 3 "after_crash" ["width", "state", "client"] (spOf K (ctOf (C_after_crash K) noX)) := by
  obtain ⟨fd, F⟩ := T.d_after_crash
  exact ⟨⟨fd, f_after_crash T F, F.bindsN fun _ _ _ _ _ _ us hl => match us, hl with | [_, _, _], _ => rfl⟩, T.g_after_crash, F.kp⟩
def C_House_crash (K : PySem.W.Frag) : FC := fun cs r cs' => ∃ (v_self : HouseM) (v_client : Int) (res : (Int × HouseM)), cs = [.o none (iHouse K v_self), .v (D.int v_client)] ∧ r = (.v (D.int res.1)) ∧ cs' = [.o none (iHouse K res.2), .v (D.int v_client)] ∧ m_House_crash_1 v_self v_client = .ok res
theorem W_House_crash {v_self : HouseM} {v_client : Int} {res : (Int × HouseM)} (h : m_House_crash_1 v_self v_client = .ok res) : C_House_crash K [.o none (iHouse K v_self), .v (D.int v_client)] (.v (D.int res.1)) [.o none (iHouse K res.2), .v (D.int v_client)] := ⟨v_self, v_client, res, rfl, rfl, rfl, h⟩

abbrev N_House_crash : List Str := ["self", "client", "state", "rest"]
theorem sc_House_crash : FnScope N_House_crash ["self", "client"] (defScope s_House_crash) := ⟨rfl, rfl, rfl, by decide +kernel, rfl, by decide +kernel, by decide +kernel⟩
theorem f_House_crash (T : Tx K mg) {fd : FuncData} (F : FunD K "crash" "House.crash" (defArgs s_House_crash) (defBody s_House_crash) (defScope s_House_crash) [] [] (He.fAd K ("House", some "crash")) fd) : FnG P w K mg base (L2.CX P w) 4 (He.fAd K ("House", some "crash")) fd ["self", "client"] (spOf K (ctOf (C_House_crash K) noX)) := by
  have nd := (sc_House_crash).nd
  refine F.okG sc_House_crash (sp_len (ctOf_len fun _ _ _ h => by obtain ⟨_, _, _, rfl, _, _, _⟩ := h; rfl)) (fun cdv A outer s H vs Q E hr h => ?_)
  refine ⟨_, PSs.nox ((pss_cons (ps_expr (pe_methC0 (c_House_check_room T) (hr.mono (by decide)) (pv 0)))
    (pss_cons (ps_expr (pe_methC (c_House_check_client T) (hr.mono (by decide)) (pv 0) (pa_cons (pv 1) pa_nil)))
    (pss_cons (ps_asg (pe_callC (c_after_crash T) (hr.mono (by decide)) rfl (pa_cons (pe_fld (pv 0) rfl) (pa_cons (pe_ix ix_seq (pe_fld (pv 0) rfl) (pe_un un_neg pe_int) (fun _ _ => rfl)) (pa_cons (pv 1) pa_nil)))) (pg_tup rfl (pgs_cons (pg_name (i := 2) nd rfl (Or.inl rfl)) (pgs_cons (pg_name (i := 3) nd rfl (Or.inl rfl)) pgs_nil))))
    (pss_cons (ps_expr (pe_bm PySem.F.plainAttrs_list PySem.F.slot_list_append PySem.F.type_list_append mt_append (pe_fld (pv 0) rfl) (pa_cons (pv 2) pa_nil)))
    (pss_cons (ps_expr (pe_bm PySem.F.plainAttrs_list PySem.F.slot_list_append PySem.F.type_list_append mt_append (pe_fld (pv 0) rfl) (pa_cons (pe_tup (pa_cons pe_str (pa_cons (pv 1) pa_nil))) pa_nil)))
    (pss_one (ps_ret (pv 3))))))))), ?_⟩
  refine fn_x [none, none] [none, none] rfl (fun cs r cs' hc => ?_) vs H Q E h
  obtain ⟨v_self, v_client, res, rfl, rfl, rfl, hm⟩ := hc
  refine ⟨⟨Nat.le_of_ble_eq_true rfl, rfl⟩, (.o (.v .nil)), fun ad => .inl ?_⟩
  · change XS _ _ [some (.o (some (ad 0)) (iHouse K v_self)), some (.v (D.int v_client)), none, none] (.rt (.v (D.int res.1)) [some (.o (some (ad 0)) (iHouse K res.2)), none, none, none])
    unfold m_House_crash_1 at hm
    obtain ⟨t1, ht1, hm⟩ := R.inv hm
    refine x_seq (μ1 := [some (.o (some (ad 0)) (iHouse K v_self)), some (.v (D.int v_client)), none, none]) (x_drop (e_methO (cs' := []) (c' := .o none (iHouse K v_self)) .nil rfl rfl a_nil rfl (W_House_check_room ht1))) ?_
    obtain ⟨t2, ht2, hm⟩ := R.inv hm
    refine x_seq (μ1 := [some (.o (some (ad 0)) (iHouse K v_self)), some (.v (D.int v_client)), none, none]) (x_drop (e_methO (cs' := [.v (D.int v_client)]) (c' := .o none (iHouse K v_self)) .nil rfl rfl (a_v (e_var rfl) a_nil) rfl (W_House_check_client ht2))) ?_
    obtain ⟨t3, ht3, hm⟩ := R.inv hm
    obtain ⟨t4, ht4, hm⟩ := R.inv hm
    refine x_seq (μ1 := [some (.o (some (ad 0)) (iHouse K v_self)), some (.v (D.int v_client)), some (.v ((eState (He.ga K "State")) t4.1)), some (.v (D.int t4.2))]) (x_asg (e_call (a_v (e_fldO rfl rfl T.cl_House T.na_House_width) (a_v (e_ix (e := (eState (He.ga K "State"))) (xs := v_self.states) (b_fldL rfl rfl T.cl_House T.na_House_states) rfl (e_neg e_int) ht3) (a_v (e_var rfl) a_nil))) (W_after_crash ht4)) (g_tup2 (g_name (i := 2)) (g_name (i := 3)))) ?_
    obtain ⟨t5, ht5, hm⟩ := R.inv hm
    refine x_seq (μ1 := [some (.o (some (ad 0)) (iHouse K ({ v_self with states := t5 } : HouseM))), some (.v (D.int v_client)), some (.v ((eState (He.ga K "State")) t4.1)), some (.v (D.int t4.2))]) (x_fappK (e := (eState (He.ga K "State"))) (x := t4.1) rfl rfl (k_q (e_var rfl)) T.cl_House T.na_House_states ht5 rfl) ?_
    obtain ⟨t6, ht6, hm⟩ := R.inv hm
    refine x_seq (μ1 := [some (.o (some (ad 0)) (iHouse K ({ v_self with states := t5, done := t6 } : HouseM))), some (.v (D.int v_client)), some (.v ((eState (He.ga K "State")) t4.1)), some (.v (D.int t4.2))]) (x_fappK (e := eA) (x := (Av.tup [(Av.str (("crash", v_client).1)), (Av.int (("crash", v_client).2))])) rfl rfl (k_as (k_as (k_tup (kd_cons (k_q e_strS) (kd_cons (k_q (e_var rfl)) kd_nil)) (hl_ (n := 2) rfl (by decide))) rfl) rfl) T.cl_House T.na_House_done ht6 rfl) ?_
    obtain rfl := R.ok.inj hm
    exact x_outR (x_ret (e_var rfl)) (by walk_at "wd")
theorem ck_House_crash_0 (T : Tx K mg) : CalOG P w K mg base 4 "House" "crash" ["client"] [0] ["self", "client"] (spOf K (ctOf (C_House_crash K) noX)) := by
  obtain ⟨fd, F⟩ := T.d_House_crash
  exact ⟨⟨fd, f_House_crash T F, kbn_perm (ks := ["client"]) 1 [0] F (fun _ _ _ _ _ _ us ws hl h2 => match us, ws, hl, h2 with | [_], [_], _, _ => rfl)⟩, T.m_House_crash, T.cl_House⟩
def C__law_add (K : PySem.W.Frag) : FC := fun cs r cs' => ∃ (v_width_here : Int) (v_listed : (List (Int × Int))) (v_first : Int) (v_many : Int) (res : (Unit × (List (Int × Int)))), cs = [.v (D.int v_width_here), .o none (oL (eT2 D.int D.int) v_listed), .v (D.int v_first), .v (D.int v_many)] ∧ r = (.v (eN res.1)) ∧ cs' = [.v (D.int v_width_here), .o none (oL (eT2 D.int D.int) res.2), .v (D.int v_first), .v (D.int v_many)] ∧ m_l_add v_width_here v_listed v_first v_many = .ok res
theorem W__law_add {v_width_here : Int} {v_listed : (List (Int × Int))} {v_first : Int} {v_many : Int} {res : (Unit × (List (Int × Int)))} (h : m_l_add v_width_here v_listed v_first v_many = .ok res) : C__law_add K [.v (D.int v_width_here), .o none (oL (eT2 D.int D.int) v_listed), .v (D.int v_first), .v (D.int v_many)] (.v (eN res.1)) [.v (D.int v_width_here), .o none (oL (eT2 D.int D.int) res.2), .v (D.int v_first), .v (D.int v_many)] := ⟨v_width_here, v_listed, v_first, v_many, res, rfl, rfl, rfl, h⟩

abbrev N__law_add : List Str := ["_law_width_here", "_law_listed", "_law_first", "_law_many"]
theorem sc__law_add : FnScope N__law_add ["_law_width_here", "_law_listed", "_law_first", "_law_many"] (defScope s__law_add) := ⟨rfl, rfl, rfl, by decide +kernel, rfl, by decide +kernel, by decide +kernel⟩
theorem f__law_add (T : Tx K mg) {fd : FuncData} (F : FunD K "_law_add" "_law_add" (defArgs s__law_add) (defBody s__law_add) (defScope s__law_add) [] [] (He.ga K "_law_add") fd) : FnG P w K mg base (L2.CX P w) 1 (He.ga K "_law_add") fd ["_law_width_here", "_law_listed", "_law_first", "_law_many"] (spOf K (ctOf (C__law_add K) noX)) := by
  have nd := (sc__law_add).nd
  refine F.okG sc__law_add (sp_len (ctOf_len fun _ _ _ h => by obtain ⟨_, _, _, _, _, rfl, _, _, _⟩ := h; rfl)) (fun cdv A outer s H vs Q E hr h => ?_)
  refine ⟨_, PSs.nox ((pss_one (ps_if (PW.pt (pw_and (pt_cmpR (op_neD hr.units) (pv 1) (pe_lst pa_nil) (nomark _)) (pw_and1 (pt_cmpR (op_eqD hr.units) (pe_op op_fdivW (pe_ix ix_seq (pe_ix ix_seq (pv 1) (pe_un un_neg pe_int) (fun _ _ => rfl)) pe_int (fun _ _ => rfl)) (pv 0)) (pe_op op_fdivW (pv 2) (pv 0)) (nomark _))))) (pss_one (ps_asg (pe_tup (pa_cons (pe_ix ix_seq (pe_ix ix_seq (pv 1) (pe_un un_neg pe_int) (fun _ _ => rfl)) pe_int (fun _ _ => rfl)) (pa_cons (pe_op op_add (pe_ix ix_seq (pe_ix ix_seq (pv 1) (pe_un un_neg pe_int) (fun _ _ => rfl)) pe_int (fun _ _ => rfl)) (pv 3)) pa_nil))) (pg_sub (pv 1) (pe_un un_neg pe_int) set_list))) (pss_one (ps_expr (pe_bm PySem.F.plainAttrs_list PySem.F.slot_list_append PySem.F.type_list_append mt_append (pv 1) (pa_cons (pe_tup (pa_cons (pv 2) (pa_cons (pv 3) pa_nil))) pa_nil))))))), ?_⟩
  refine fn_x [] [] rfl (fun cs r cs' hc => ?_) vs H Q E h
  obtain ⟨v_width_here, v_listed, v_first, v_many, res, rfl, rfl, rfl, hm⟩ := hc
  refine ⟨⟨Nat.le_of_ble_eq_true rfl, rfl⟩, (.v (.o (.v (.v .nil)))), fun ad => .inr ⟨rfl, ?_⟩⟩
  · change XS _ _ [some (.v (D.int v_width_here)), some (.o (some (ad 1)) (oL (eT2 D.int D.int) v_listed)), some (.v (D.int v_first)), some (.v (D.int v_many))] (.nx [none, some (.o (some (ad 1)) (oL (eT2 D.int D.int) res.2)), none, none])
    unfold m_l_add at hm
    obtain ⟨t4, ht4, hm⟩ := R.inv hm
    refine x_if (t_and (r := t4) (μ2 := [some (.v (D.int v_width_here)), some (.o (some (ad 1)) (oL (eT2 D.int D.int) v_listed)), some (.v (D.int v_first)), some (.v (D.int v_many))]) (t_test (e_neS (e := (eL (eT2 D.int D.int))) (x := v_listed) (y := ([] : (List (Int × Int)))) (EqT.lst (EqT.tup2 EqT.int EqT.int)) (by decide) (b_ownL rfl) (s_lst (eT2 D.int D.int) ([] : (List (Int × Int))) d_nil (hl_ (n := 0) rfl (by decide))))) (fun hb => by have hm := R.ifT hb ht4; obtain ⟨t1, ht1, hm⟩ := R.inv hm; obtain ⟨t2, ht2, hm⟩ := R.inv hm; obtain ⟨t3, ht3, hm⟩ := R.inv hm; obtain rfl := R.ok.inj hm; exact (t_test (e_eqV (e := D.int) (x := t2) (y := t3) EqT.int (by decide) (e_div (e_p20 (b_of (e_ix (e := (eT2 D.int D.int)) (xs := v_listed) (b_ownL rfl) rfl (e_neg e_int) ht1)) e_int) (e_var rfl) ht2) (e_div (e_var rfl) (e_var rfl) ht3)))) (fun hb => by have hm := R.ifF hb ht4; obtain rfl := R.ok.inj hm; exact ⟨rfl, rfl⟩)) (fun hb => ?_) (fun hb => ?_)
    · have hm := R.ifT hb hm
      obtain ⟨t5, ht5, hm⟩ := R.inv hm
      obtain ⟨t6, ht6, hm⟩ := R.inv hm
      obtain ⟨t7, ht7, hm⟩ := R.inv hm
      obtain rfl := R.ok.inj hm
      exact x_out (x_setL (e := (eT2 D.int D.int)) (x := (t5.1, (t6.2 + v_many))) (e_tup2 (e := D.int) (x := t5.1) (f := D.int) (y := (t6.2 + v_many)) (d_cons (e_p20 (b_of (e_ix (e := (eT2 D.int D.int)) (xs := v_listed) (b_ownL rfl) rfl (e_neg e_int) ht5)) e_int) (d_cons (e_add (e_p21 (b_of (e_ix (e := (eT2 D.int D.int)) (xs := v_listed) (b_ownL rfl) rfl (e_neg e_int) ht6)) e_int) (e_var rfl)) d_nil))) rfl (e_neg e_int) ht7) (by walk_at "wk")
    · have hm := R.ifF hb hm
      obtain ⟨t8, ht8, hm⟩ := R.inv hm
      obtain rfl := R.ok.inj hm
      exact x_out (x_append (e := (eT2 D.int D.int)) (x := (v_first, v_many)) (e_tup2 (e := D.int) (x := v_first) (f := D.int) (y := v_many) (d_cons (e_var rfl) (d_cons (e_var rfl) d_nil))) rfl rfl ht8) (by walk_at "wk")
theorem c__law_add (T : Tx K mg) : Cal P w K mg base 1 "_law_add" ["_law_width_here", "_law_listed", "_law_first", "_law_many"] (spOf K (ctOf (C__law_add K) noX)) := by
  obtain ⟨fd, F⟩ := T.d__law_add
  exact ⟨⟨fd, f__law_add T F, F.bindsN fun _ _ _ _ _ _ us hl => match us, hl with | [_, _, _, _], _ => rfl⟩, T.g__law_add, F.kp⟩
def C__law_take (K : PySem.W.Frag) : FC := fun cs r cs' => ∃ (v_books : ((List (Int × Int)) × (List Int) × (List (Int × Int)))) (v_width_here : Int) (v_who : Int) (v_many : Int) (res : ((List (Int × Int)) × ((List (Int × Int)) × (List Int) × (List (Int × Int))))), cs = [.o none (.tpl [.c (.d (v_books.1.map (kvD D.int))), .c (.l (v_books.2.1.map D.int)), .c (.l (v_books.2.2.map (eT2 D.int D.int)))]), .v (D.int v_width_here), .v (D.int v_who), .v (D.int v_many)] ∧ r = (.o none (oL (eT2 D.int D.int) res.1)) ∧ cs' = [.o none (.tpl [.c (.d (res.2.1.map (kvD D.int))), .c (.l (res.2.2.1.map D.int)), .c (.l (res.2.2.2.map (eT2 D.int D.int)))]), .v (D.int v_width_here), .v (D.int v_who), .v (D.int v_many)] ∧ m_l_take v_books v_width_here v_who v_many = .ok res
theorem W__law_take {v_books : ((List (Int × Int)) × (List Int) × (List (Int × Int)))} {v_width_here : Int} {v_who : Int} {v_many : Int} {res : ((List (Int × Int)) × ((List (Int × Int)) × (List Int) × (List (Int × Int))))} (h : m_l_take v_books v_width_here v_who v_many = .ok res) : C__law_take K [.o none (.tpl [.c (.d (v_books.1.map (kvD D.int))), .c (.l (v_books.2.1.map D.int)), .c (.l (v_books.2.2.map (eT2 D.int D.int)))]), .v (D.int v_width_here), .v (D.int v_who), .v (D.int v_many)] (.o none (oL (eT2 D.int D.int) res.1)) [.o none (.tpl [.c (.d (res.2.1.map (kvD D.int))), .c (.l (res.2.2.1.map D.int)), .c (.l (res.2.2.2.map (eT2 D.int D.int)))]), .v (D.int v_width_here), .v (D.int v_who), .v (D.int v_many)] := ⟨v_books, v_width_here, v_who, v_many, res, rfl, rfl, rfl, h⟩

abbrev N__law_take : List Str := ["_law_books", "_law_width_here", "_law_who", "_law_many", "_law_held", "_law_owned", "_law_listed", "_law_found", "_law_first", "_law_part"]
theorem sc__law_take : FnScope N__law_take ["_law_books", "_law_width_here", "_law_who", "_law_many"] (defScope s__law_take) := ⟨rfl, rfl, rfl, by decide +kernel, rfl, by decide +kernel, by decide +kernel⟩
theorem f__law_take (T : Tx K mg) {fd : FuncData} (F : FunD K "_law_take" "_law_take" (defArgs s__law_take) (defBody s__law_take) (defScope s__law_take) [] [] (He.ga K "_law_take") fd) : FnG P w K mg base (L2.CX P w) 2 (He.ga K "_law_take") fd ["_law_books", "_law_width_here", "_law_who", "_law_many"] (spOf K (ctOf (C__law_take K) noX)) := by
  have nd := (sc__law_take).nd
  refine F.okG sc__law_take (sp_len (ctOf_len fun _ _ _ h => by obtain ⟨_, _, _, _, _, rfl, _, _, _⟩ := h; rfl)) (fun cdv A outer s H vs Q E hr h => ?_)
  refine ⟨_, PSs.nox ((pss_cons (ps_asg (pv 0) (pg_tup rfl (pgs_cons (pg_name (i := 4) nd rfl (Or.inl rfl)) (pgs_cons (pg_name (i := 5) nd rfl (Or.inl rfl)) (pgs_cons (pg_name (i := 6) nd rfl (Or.inl rfl)) pgs_nil)))))
    (pss_cons (ps_set (i := 7) nd rfl (Or.inl rfl) (pe_lst pa_nil))
    (pss_cons (ps_while PassesOwn.never (pt_cmpR op_gt (pv 3) pe_int (nomark _)) (pss_cons (ps_if (pt_cmp (pc_dnotin (hu_of hr.toRoom) (pv 2) (pv 4))) (pss_cons (ps_dput (hu_of hr.toRoom) (pv 4) (pv 2) (pe_op op_mulA (pe_callB c_len rfl T.n_len (by decide +kernel) (pa_cons (pv 5) pa_nil)) (pv 1)) rfl)
    (pss_one (ps_expr (pe_bm PySem.F.plainAttrs_list PySem.F.slot_list_append PySem.F.type_list_append mt_append (pv 5) (pa_cons (pv 2) pa_nil))))) pss_nil)
    (pss_cons (ps_set (i := 8) nd rfl (Or.inl rfl) (pe_dpop1 (pv 4) (pv 2) ⟨by rfl, by rfl, by rfl, by rfl⟩))
    (pss_cons (ps_set (i := 9) nd rfl (Or.inl rfl) (pe_callB (call_min2 rfl) rfl T.n_min (by decide +kernel) (pa_cons (pv 3) (pa_cons (pe_op op_sub (pv 1) (pe_op op_mod (pv 8) (pv 1))) pa_nil))))
    (pss_cons (ps_expr (pe_bm PySem.F.plainAttrs_list PySem.F.slot_list_append PySem.F.type_list_append mt_append (pv 7) (pa_cons (pe_tup (pa_cons (pv 8) (pa_cons (pv 9) pa_nil))) pa_nil)))
    (pss_cons (ps_expr (pe_callC (c__law_add T) (hr.mono (by decide)) rfl (pa_cons (pv 1) (pa_cons (pv 6) (pa_cons (pv 8) (pa_cons (pv 9) pa_nil))))))
    (pss_cons (ps_if (pt_cmpR op_lt (pv 9) (pe_op op_sub (pv 1) (pe_op op_mod (pv 8) (pv 1))) (nomark _)) (pss_one (ps_dput (hu_of hr.toRoom) (pv 4) (pv 2) (pe_op op_add (pv 8) (pv 9)) rfl)) pss_nil)
    (pss_one (ps_set (i := 3) nd rfl (Or.inl rfl) (pe_op op_sub (pv 3) (pv 9)))))))))))
    (pss_one (ps_ret (pv 7))))))), ?_⟩
  refine fn_x [none, none, none, none, none, none] [none, none, none, none, none, none] rfl (fun cs r cs' hc => ?_) vs H Q E h
  obtain ⟨v_books, v_width_here, v_who, v_many, res, rfl, rfl, rfl, hm⟩ := hc
  refine ⟨⟨Nat.le_of_ble_eq_true rfl, rfl⟩, (.o (.v (.v (.v .nil)))), fun ad => .inl ?_⟩
  · change XS _ _ [some (.o (some (ad 0)) (.tpl [.c (.d (v_books.1.map (kvD D.int))), .c (.l (v_books.2.1.map D.int)), .c (.l (v_books.2.2.map (eT2 D.int D.int)))])), some (.v (D.int v_width_here)), some (.v (D.int v_who)), some (.v (D.int v_many)), none, none, none, none, none, none] (.rt (.o none (oL (eT2 D.int D.int) res.1)) [some (.o (some (ad 0)) (.tpl [.c (.d (res.2.1.map (kvD D.int))), .c (.l (res.2.2.1.map D.int)), .c (.l (res.2.2.2.map (eT2 D.int D.int)))])), none, none, none, none, none, none, none, none, none])
    unfold m_l_take at hm
    refine x_unpkI (i := 0) (j0 := 4) (j1 := 5) (j2 := 6) (y0 := .d (res.2.1.map (kvD D.int))) (y1 := .l (res.2.2.1.map D.int)) (y2 := .l (res.2.2.2.map (eT2 D.int D.int))) (M := fun up uq ur => [some (.o (some (ad 0)) (.tpl [rawM up, rawM uq, rawM ur])), none, none, none, some (.o (some up) (oDc D.int res.2.1)), some (.o (some uq) (oL D.int res.2.2.1)), some (.o (some ur) (oL (eT2 D.int D.int) res.2.2.2)), none, none, none]) rfl (by decide) (fun up uq ur => ?_) (fun _ _ _ => ⟨rfl, rfl, rfl, rfl⟩) (fun _ _ _ => rfl)
    · change XS _ _ [some (.o (some (ad 0)) (.tpl [rawM up, rawM uq, rawM ur])), some (.v (D.int v_width_here)), some (.v (D.int v_who)), some (.v (D.int v_many)), some (.o (some up) (oDc D.int v_books.1)), some (.o (some uq) (oL D.int v_books.2.1)), some (.o (some ur) (oL (eT2 D.int D.int) v_books.2.2)), none, none, none] (.rt _ [some (.o (some (ad 0)) (.tpl [rawM up, rawM uq, rawM ur])), none, none, none, some (.o (some up) (oDc D.int res.2.1)), some (.o (some uq) (oL D.int res.2.2.1)), some (.o (some ur) (oL (eT2 D.int D.int) res.2.2.2)), none, none, none])
      refine x_seq (μ1 := [some (.o (some (ad 0)) (.tpl [rawM up, rawM uq, rawM ur])), some (.v (D.int v_width_here)), some (.v (D.int v_who)), some (.v (D.int v_many)), some (.o (some up) (oDc D.int v_books.1)), some (.o (some uq) (oL D.int v_books.2.1)), some (.o (some ur) (oL (eT2 D.int D.int) v_books.2.2)), some (.o none (oL (eT2 D.int D.int) ([] : (List (Int × Int))))), none, none]) (x_setO (e_lst (eT2 D.int D.int) ([] : (List (Int × Int))) d_nil (hl_ (n := 0) rfl (by decide)))) ?_
      obtain ⟨s1, hs1, hm1⟩ := R.inv hm
      refine x_seq (μ1 := [some (.o (some (ad 0)) (.tpl [rawM up, rawM uq, rawM ur])), some (.v (D.int v_width_here)), some (.v (D.int v_who)), some (.v (D.int s1.1)), some (.o (some up) (oDc D.int s1.2.1)), some (.o (some uq) (oL D.int s1.2.2.1)), some (.o (some ur) (oL (eT2 D.int D.int) s1.2.2.2.1)), some (.o none (oL (eT2 D.int D.int) s1.2.2.2.2)), none, none]) (x_whileR (s1 := s1) (J := fun s1 => [some (.o (some (ad 0)) (.tpl [rawM up, rawM uq, rawM ur])), some (.v (D.int v_width_here)), some (.v (D.int v_who)), some (.v (D.int s1.1)), some (.o (some up) (oDc D.int s1.2.1)), some (.o (some uq) (oL D.int s1.2.2.1)), some (.o (some ur) (oL (eT2 D.int D.int) s1.2.2.2.1)), some (.o none (oL (eT2 D.int D.int) s1.2.2.2.2)), none, none]) (by walk_at "wk") hs1 (fun s1 b hm => by obtain rfl := R.ok.inj hm; exact (t_test (e_gt (e_var rfl) e_int))) (fun s1 x2 hc hm => ?_)) ?_
      · refine ⟨_, ?_, .inl rfl⟩
        obtain ⟨s3, hs3, hm1⟩ := R.inv hm
        refine x_seq (μ1 := [some (.o (some (ad 0)) (.tpl [rawM up, rawM uq, rawM ur])), some (.v (D.int v_width_here)), some (.v (D.int v_who)), some (.v (D.int s1.1)), some (.o (some up) (oDc D.int s3.1)), some (.o (some uq) (oL D.int s3.2)), some (.o (some ur) (oL (eT2 D.int D.int) s1.2.2.2.1)), some (.o none (oL (eT2 D.int D.int) s1.2.2.2.2)), none, none]) ?_ ?_
        · have hm := hs3
          refine x_if (t_tB (e_dnotin (e_var rfl) (b_ownD rfl) rfl)) (fun hb => ?_) (fun hb => ?_)
          · have hm := R.ifT hb hm
            obtain ⟨t4, ht4, hm⟩ := R.inv hm
            obtain ⟨t5, ht5, hm⟩ := R.inv hm
            refine x_seq (μ1 := [some (.o (some (ad 0)) (.tpl [rawM up, rawM uq, rawM ur])), some (.v (D.int v_width_here)), some (.v (D.int v_who)), some (.v (D.int s1.1)), some (.o (some up) (oDc D.int t5)), some (.o (some uq) (oL D.int s1.2.2.1)), some (.o (some ur) (oL (eT2 D.int D.int) s1.2.2.2.1)), some (.o none (oL (eT2 D.int D.int) s1.2.2.2.2)), none, none]) (x_dput (e := D.int) (x := t4) (e_mul (e_len (e := D.int) (xs := s1.2.2.1) (b_ownL rfl) rfl) (e_var rfl) ht4) rfl (e_var rfl) ht5) ?_
            obtain ⟨t6, ht6, hm⟩ := R.inv hm
            obtain rfl := R.ok.inj hm
            exact x_out (x_append (e := D.int) (x := v_who) (e_var rfl) rfl rfl ht6) (by walk_at "wk")
          · have hm := R.ifF hb hm
            obtain rfl := R.ok.inj hm
            exact x_out x_next (by walk_at "wk")
        have hm := hm1
        obtain ⟨t7, ht7, hm⟩ := R.inv hm
        refine x_seq (μ1 := [some (.o (some (ad 0)) (.tpl [rawM up, rawM uq, rawM ur])), some (.v (D.int v_width_here)), some (.v (D.int v_who)), some (.v (D.int s1.1)), some (.o (some up) (oDc D.int (dropZ s3.1 v_who))), some (.o (some uq) (oL D.int s3.2)), some (.o (some ur) (oL (eT2 D.int D.int) s1.2.2.2.1)), some (.o none (oL (eT2 D.int D.int) s1.2.2.2.2)), some (.v (D.int t7)), none]) (x_set (e_dpop1 rfl (e_var rfl) ht7)) ?_
        obtain ⟨t8, ht8, hm⟩ := R.inv hm
        refine x_seq (μ1 := [some (.o (some (ad 0)) (.tpl [rawM up, rawM uq, rawM ur])), some (.v (D.int v_width_here)), some (.v (D.int v_who)), some (.v (D.int s1.1)), some (.o (some up) (oDc D.int (dropZ s3.1 v_who))), some (.o (some uq) (oL D.int s3.2)), some (.o (some ur) (oL (eT2 D.int D.int) s1.2.2.2.1)), some (.o none (oL (eT2 D.int D.int) s1.2.2.2.2)), some (.v (D.int t7)), some (.v (D.int (min s1.1 (v_width_here - t8))))]) (x_set (e_min2 (e_var rfl) (e_sub (e_var rfl) (e_mod (e_var rfl) (e_var rfl) ht8)))) ?_
        obtain ⟨t9, ht9, hm⟩ := R.inv hm
        refine x_seq (μ1 := [some (.o (some (ad 0)) (.tpl [rawM up, rawM uq, rawM ur])), some (.v (D.int v_width_here)), some (.v (D.int v_who)), some (.v (D.int s1.1)), some (.o (some up) (oDc D.int (dropZ s3.1 v_who))), some (.o (some uq) (oL D.int s3.2)), some (.o (some ur) (oL (eT2 D.int D.int) s1.2.2.2.1)), some (.o none (oL (eT2 D.int D.int) t9)), some (.v (D.int t7)), some (.v (D.int (min s1.1 (v_width_here - t8))))]) (x_append (e := (eT2 D.int D.int)) (x := (t7, (min s1.1 (v_width_here - t8)))) (e_tup2 (e := D.int) (x := t7) (f := D.int) (y := (min s1.1 (v_width_here - t8))) (d_cons (e_var rfl) (d_cons (e_var rfl) d_nil))) rfl rfl ht9) ?_
        obtain ⟨t10, ht10, hm⟩ := R.inv hm
        refine x_seq (μ1 := [some (.o (some (ad 0)) (.tpl [rawM up, rawM uq, rawM ur])), some (.v (D.int v_width_here)), some (.v (D.int v_who)), some (.v (D.int s1.1)), some (.o (some up) (oDc D.int (dropZ s3.1 v_who))), some (.o (some uq) (oL D.int s3.2)), some (.o (some ur) (oL (eT2 D.int D.int) t10.2)), some (.o none (oL (eT2 D.int D.int) t9)), some (.v (D.int t7)), some (.v (D.int (min s1.1 (v_width_here - t8))))]) (x_drop (e_call (a_v (e_var rfl) (a_s rfl (a_v (e_var rfl) (a_v (e_var rfl) a_nil)) rfl)) (W__law_add ht10))) ?_
        obtain ⟨t11, ht11, hm⟩ := R.inv hm
        obtain ⟨s12, hs12, hm1⟩ := R.inv hm
        refine x_seq (μ1 := [some (.o (some (ad 0)) (.tpl [rawM up, rawM uq, rawM ur])), some (.v (D.int v_width_here)), some (.v (D.int v_who)), some (.v (D.int s1.1)), some (.o (some up) (oDc D.int s12)), some (.o (some uq) (oL D.int s3.2)), some (.o (some ur) (oL (eT2 D.int D.int) t10.2)), some (.o none (oL (eT2 D.int D.int) t9)), some (.v (D.int t7)), some (.v (D.int (min s1.1 (v_width_here - t8))))]) ?_ ?_
        · have hm := hs12
          refine x_if (t_test (e_lt (e_var rfl) (e_sub (e_var rfl) (e_mod (e_var rfl) (e_var rfl) ht11)))) (fun hb => ?_) (fun hb => ?_)
          · have hm := R.ifT hb hm
            obtain ⟨t13, ht13, hm⟩ := R.inv hm
            obtain rfl := R.ok.inj hm
            exact x_out (x_dput (e := D.int) (x := (t7 + (min s1.1 (v_width_here - t8)))) (e_add (e_var rfl) (e_var rfl)) rfl (e_var rfl) ht13) (by walk_at "wk")
          · have hm := R.ifF hb hm
            obtain rfl := R.ok.inj hm
            exact x_out x_next (by walk_at "wk")
        have hm := hm1
        obtain rfl := R.ok.inj hm
        exact x_out (x_set (e_sub (e_var rfl) (e_var rfl))) (by walk_at "wk")
      have hm := hm1
      obtain rfl := R.ok.inj hm
      exact x_outR (x_retS rfl) (by walk_at "wd")
theorem c__law_take (T : Tx K mg) : Cal P w K mg base 2 "_law_take" ["_law_books", "_law_width_here", "_law_who", "_law_many"] (spOf K (ctOf (C__law_take K) noX)) := by
  obtain ⟨fd, F⟩ := T.d__law_take
  exact ⟨⟨fd, f__law_take T F, F.bindsN fun _ _ _ _ _ _ us hl => match us, hl with | [_, _, _, _], _ => rfl⟩, T.g__law_take, F.kp⟩
def C_check_between (K : PySem.W.Frag) : FC := fun cs r cs' => ∃ (v_part : String) (v_value : Int) (v_low : Int) (v_high : Int) (res : Unit), cs = [.v (eS v_part), .v (D.int v_value), .v (D.int v_low), .v (D.int v_high)] ∧ r = (.v (eN res)) ∧ cs' = [.v (eS v_part), .v (D.int v_value), .v (D.int v_low), .v (D.int v_high)] ∧ m_check_between_3 v_part v_value v_low v_high = .ok res
theorem W_check_between {v_part : String} {v_value : Int} {v_low : Int} {v_high : Int} {res : Unit} (h : m_check_between_3 v_part v_value v_low v_high = .ok res) : C_check_between K [.v (eS v_part), .v (D.int v_value), .v (D.int v_low), .v (D.int v_high)] (.v (eN res)) [.v (eS v_part), .v (D.int v_value), .v (D.int v_low), .v (D.int v_high)] := ⟨v_part, v_value, v_low, v_high, res, rfl, rfl, rfl, h⟩

abbrev N_check_between : List Str := ["part", "value", "low", "high"]
theorem sc_check_between : FnScope N_check_between ["part", "value", "low", "high"] (defScope s_check_between) := ⟨rfl, rfl, rfl, by decide +kernel, rfl, by decide +kernel, by decide +kernel⟩
theorem f_check_between (T : Tx K mg) {fd : FuncData} (F : FunD K "check_between" "check_between" (defArgs s_check_between) (defBody s_check_between) (defScope s_check_between) [] [] (He.ga K "check_between") fd) : FnG P w K mg base (L2.CX P w) 3 (He.ga K "check_between") fd ["part", "value", "low", "high"] (spOf K (ctOf (C_check_between K) noX)) := by
  have nd := (sc_check_between).nd
  refine F.okG sc_check_between (sp_len (ctOf_len fun _ _ _ h => by obtain ⟨_, _, _, _, _, rfl, _, _, _⟩ := h; rfl)) (fun cdv A outer s H vs Q E hr h => ?_)
  refine ⟨_, PSs.nox ((pss_one (ps_if (pt_not (pt_val (pe_callC (c_is_between T) (hr.mono (by decide)) rfl (pa_cons (pv 1) (pa_cons (pv 2) (pa_cons (pv 3) pa_nil)))))) (pss_one ps_never) pss_nil))), ?_⟩
  refine fn_x [] [] rfl (fun cs r cs' hc => ?_) vs H Q E h
  obtain ⟨v_part, v_value, v_low, v_high, res, rfl, rfl, rfl, hm⟩ := hc
  refine ⟨⟨Nat.le_of_ble_eq_true rfl, rfl⟩, (.v (.v (.v (.v .nil)))), fun ad => .inr ⟨rfl, ?_⟩⟩
  · change XS _ _ [some (.v (eS v_part)), some (.v (D.int v_value)), some (.v (D.int v_low)), some (.v (D.int v_high))] (.nx [none, none, none, none])
    unfold m_check_between_3 at hm
    obtain ⟨t1, ht1, hm⟩ := R.inv hm
    refine x_if (t_not (t_tB (e_call (a_v (e_var rfl) (a_v (e_var rfl) (a_v (e_var rfl) a_nil))) (W_is_between ht1)))) (fun hb => ?_) (fun hb => ?_)
    · have hm := R.ifT hb hm
      nomatch hm
    · have hm := R.ifF hb hm
      obtain rfl := R.ok.inj hm
      exact x_out x_next (by walk_at "wk")
theorem c_check_between (T : Tx K mg) : Cal P w K mg base 3 "check_between" ["part", "value", "low", "high"] (spOf K (ctOf (C_check_between K) noX)) := by
  obtain ⟨fd, F⟩ := T.d_check_between
  exact ⟨⟨fd, f_check_between T F, F.bindsN fun _ _ _ _ _ _ us hl => match us, hl with | [_, _, _, _], _ => rfl⟩, T.g_check_between, F.kp⟩
def C_joined (K : PySem.W.Frag) : FC := fun cs r cs' => ∃ (v_runs : (List (Int × Int))) (v_first : Int) (v_count : Int) (v_width : Int) (res : (List (Int × Int))), cs = [.v ((eL (eT2 D.int D.int)) v_runs), .v (D.int v_first), .v (D.int v_count), .v (D.int v_width)] ∧ r = (.o none (oL (eT2 D.int D.int) res)) ∧ cs' = [.v ((eL (eT2 D.int D.int)) v_runs), .v (D.int v_first), .v (D.int v_count), .v (D.int v_width)] ∧ m_joined v_runs v_first v_count v_width = .ok res
theorem W_joined {v_runs : (List (Int × Int))} {v_first : Int} {v_count : Int} {v_width : Int} {res : (List (Int × Int))} (h : m_joined v_runs v_first v_count v_width = .ok res) : C_joined K [.v ((eL (eT2 D.int D.int)) v_runs), .v (D.int v_first), .v (D.int v_count), .v (D.int v_width)] (.o none (oL (eT2 D.int D.int) res)) [.v ((eL (eT2 D.int D.int)) v_runs), .v (D.int v_first), .v (D.int v_count), .v (D.int v_width)] := ⟨v_runs, v_first, v_count, v_width, res, rfl, rfl, rfl, h⟩

abbrev N_joined : List Str := ["runs", "first", "count", "width"]
theorem sc_joined : FnScope N_joined ["runs", "first", "count", "width"] (defScope s_joined) := ⟨rfl, rfl, rfl, by decide +kernel, rfl, by decide +kernel, by decide +kernel⟩
theorem f_joined (T : Tx K mg) {fd : FuncData} (F : FunD K "joined" "joined" (defArgs s_joined) (defBody s_joined) (defScope s_joined) [] [] (He.ga K "joined") fd) : FnG P w K mg base (L2.CX P w) 1 (He.ga K "joined") fd ["runs", "first", "count", "width"] (spOf K (ctOf (C_joined K) noX)) := by
  have nd := (sc_joined).nd
  refine F.okG sc_joined (sp_len (ctOf_len fun _ _ _ h => by obtain ⟨_, _, _, _, _, rfl, _, _, _⟩ := h; rfl)) (fun cdv A outer s H vs Q E hr h => ?_)
  refine ⟨_, PSs.nox ((pss_cons (ps_if (PW.pt (pw_and (pt_cmpR (op_neD hr.units) (pv 0) (pe_lst pa_nil) (nomark _)) (pw_and1 (pt_cmpR (op_eqD hr.units) (pe_op op_fdivW (pe_ix ix_seq (pe_ix ix_seq (pv 0) (pe_un un_neg pe_int) (fun _ _ => rfl)) pe_int (fun _ _ => rfl)) (pv 3)) (pe_op op_fdivW (pv 1) (pv 3)) (nomark _))))) (pss_one (ps_ret (pe_op op_cat (pe_slice sl_list (pv 0) po_none (po_some (pe_un un_neg pe_int))) (pe_lst (pa_cons (pe_tup (pa_cons (pe_ix ix_seq (pe_ix ix_seq (pv 0) (pe_un un_neg pe_int) (fun _ _ => rfl)) pe_int (fun _ _ => rfl)) (pa_cons (pe_op op_add (pe_ix ix_seq (pe_ix ix_seq (pv 0) (pe_un un_neg pe_int) (fun _ _ => rfl)) pe_int (fun _ _ => rfl)) (pv 2)) pa_nil))) pa_nil))))) pss_nil)
    (pss_one (ps_ret (pe_op op_cat (pv 0) (pe_lst (pa_cons (pe_tup (pa_cons (pv 1) (pa_cons (pv 2) pa_nil))) pa_nil))))))), ?_⟩
  refine fn_x [] [] rfl (fun cs r cs' hc => ?_) vs H Q E h
  obtain ⟨v_runs, v_first, v_count, v_width, res, rfl, rfl, rfl, hm⟩ := hc
  refine ⟨⟨Nat.le_of_ble_eq_true rfl, rfl⟩, (.v (.v (.v (.v .nil)))), fun ad => .inl ?_⟩
  · change XS _ _ [some (.v ((eL (eT2 D.int D.int)) v_runs)), some (.v (D.int v_first)), some (.v (D.int v_count)), some (.v (D.int v_width))] (.rt (.o none (oL (eT2 D.int D.int) res)) [none, none, none, none])
    unfold m_joined at hm
    obtain ⟨t4, ht4, hm⟩ := R.inv hm
    refine x_seqIf (t_and (r := t4) (μ2 := [some (.v ((eL (eT2 D.int D.int)) v_runs)), some (.v (D.int v_first)), some (.v (D.int v_count)), some (.v (D.int v_width))]) (t_test (e_neV (e := (eL (eT2 D.int D.int))) (x := v_runs) (y := ([] : (List (Int × Int)))) (EqT.lst (EqT.tup2 EqT.int EqT.int)) (by decide) (e_var rfl) (e_frz (e_lst (eT2 D.int D.int) ([] : (List (Int × Int))) d_nil (hl_ (n := 0) rfl (by decide)))))) (fun hb => by have hm := R.ifT hb ht4; obtain ⟨t1, ht1, hm⟩ := R.inv hm; obtain ⟨t2, ht2, hm⟩ := R.inv hm; obtain ⟨t3, ht3, hm⟩ := R.inv hm; obtain rfl := R.ok.inj hm; exact (t_test (e_eqV (e := D.int) (x := t2) (y := t3) EqT.int (by decide) (e_div (e_p20 (b_of (e_ix (e := (eT2 D.int D.int)) (xs := v_runs) (b_of (e_var rfl)) rfl (e_neg e_int) ht1)) e_int) (e_var rfl) ht2) (e_div (e_var rfl) (e_var rfl) ht3)))) (fun hb => by have hm := R.ifF hb ht4; obtain rfl := R.ok.inj hm; exact ⟨rfl, rfl⟩)) (fun hb => ?_) (fun hb => ?_)
    · have hm := R.ifT hb hm
      obtain ⟨t5, ht5, hm⟩ := R.inv hm
      obtain ⟨t6, ht6, hm⟩ := R.inv hm
      obtain ⟨t7, ht7, hm⟩ := R.inv hm
      obtain rfl := R.ok.inj hm
      exact x_seqR (x_outR (x_retO (e_catV (e_frz (e_slice (e := (eT2 D.int D.int)) (xs := v_runs) (b_of (e_var rfl)) rfl p_none (p_some (e_neg e_int)))) (e_frz (e_lst (eT2 D.int D.int) [(t5.1, (t6.2 + v_count))] (d_cons (e_tup2 (e := D.int) (x := t5.1) (f := D.int) (y := (t6.2 + v_count)) (d_cons (e_p20 (b_of (e_ix (e := (eT2 D.int D.int)) (xs := v_runs) (b_of (e_var rfl)) rfl (e_neg e_int) ht5)) e_int) (d_cons (e_add (e_p21 (b_of (e_ix (e := (eT2 D.int D.int)) (xs := v_runs) (b_of (e_var rfl)) rfl (e_neg e_int) ht6)) e_int) (e_var rfl)) d_nil))) d_nil) (hl_ (n := 1) rfl (by decide)))) ht7)) (by walk_at "wd"))
    · have hm := R.ifF hb hm
      refine x_seq x_next ?_
      obtain ⟨t8, ht8, hm⟩ := R.inv hm
      obtain rfl := R.ok.inj hm
      exact x_outR (x_retO (e_catV (e_var rfl) (e_frz (e_lst (eT2 D.int D.int) [(v_first, v_count)] (d_cons (e_tup2 (e := D.int) (x := v_first) (f := D.int) (y := v_count) (d_cons (e_var rfl) (d_cons (e_var rfl) d_nil))) d_nil) (hl_ (n := 1) rfl (by decide)))) ht8)) (by walk_at "wd")
theorem c_joined (T : Tx K mg) : Cal P w K mg base 1 "joined" ["runs", "first", "count", "width"] (spOf K (ctOf (C_joined K) noX)) := by
  obtain ⟨fd, F⟩ := T.d_joined
  exact ⟨⟨fd, f_joined T F, F.bindsN fun _ _ _ _ _ _ us hl => match us, hl with | [_, _, _, _], _ => rfl⟩, T.g_joined, F.kp⟩
def C_after_take (K : PySem.W.Frag) : FC := fun cs r cs' => ∃ (v_width : Int) (v_state : StateM) (v_client : Int) (v_count : Int) (res : (StateM × (List (Int × Int)))), cs = [.v (D.int v_width), .v ((eState (He.ga K "State")) v_state), .v (D.int v_client), .v (D.int v_count)] ∧ r = (.o none (.tpl [.v ((eState (He.ga K "State")) res.1), .c (.l (res.2.map (eT2 D.int D.int)))])) ∧ cs' = [.v (D.int v_width), .v ((eState (He.ga K "State")) v_state), .v (D.int v_client), .v (D.int v_count)] ∧ m_after_take_1 v_width v_state v_client v_count = .ok res
theorem W_after_take {v_width : Int} {v_state : StateM} {v_client : Int} {v_count : Int} {res : (StateM × (List (Int × Int)))} (h : m_after_take_1 v_width v_state v_client v_count = .ok res) : C_after_take K [.v (D.int v_width), .v ((eState (He.ga K "State")) v_state), .v (D.int v_client), .v (D.int v_count)] (.o none (.tpl [.v ((eState (He.ga K "State")) res.1), .c (.l (res.2.map (eT2 D.int D.int)))])) [.v (D.int v_width), .v ((eState (He.ga K "State")) v_state), .v (D.int v_client), .v (D.int v_count)] := ⟨v_width, v_state, v_client, v_count, res, rfl, rfl, rfl, h⟩

abbrev N_after_take : List Str := ["width", "state", "client", "count", "issues", "takers", "held", "found", "first", "part"]
theorem sc_after_take : FnScope N_after_take ["width", "state", "client", "count"] (defScope s_after_take) := ⟨rfl, rfl, rfl, by decide +kernel, rfl, by decide +kernel, by decide +kernel⟩
theorem f_after_take (T : Tx K mg) {fd : FuncData} (F : FunD K "after_take" "after_take" (defArgs s_after_take) (defBody s_after_take) (defScope s_after_take) [] [] (He.ga K "after_take") fd) : FnG P w K mg base (L2.CX P w) 4 (He.ga K "after_take") fd ["width", "state", "client", "count"] (spOf K (ctOf (C_after_take K) noX)) := by
  have nd := (sc_after_take).nd
  refine F.okG sc_after_take (sp_len (ctOf_len fun _ _ _ h => by obtain ⟨_, _, _, _, _, rfl, _, _, _⟩ := h; rfl)) (fun cdv A outer s H vs Q E hr h => ?_)
  refine ⟨_, PSs.nox ((pss_cons (ps_expr (pe_callC (c_check_between T) (hr.mono (by decide)) rfl (pa_cons pe_str (pa_cons (pv 3) (pa_cons pe_int (pa_cons (pe_globI rfl T.k_MOST_COUNT) pa_nil))))))
    (pss_cons (ps_par3 (i := 4) (j := 5) (l := 6) rfl nd rfl rfl rfl (by decide) (by decide) (by decide) rfl rfl rfl (pa_cons (pe_callTy c_list rfl T.n_list (by decide +kernel) (pa_cons (pe_fld (pv 1) rfl) pa_nil)) (pa_cons (pe_callTy c_list rfl T.n_list (by decide +kernel) (pa_cons (pe_fld (pv 1) rfl) pa_nil)) (pa_cons (pe_callTy c_dictD rfl T.n_dict (by decide +kernel) (pa_cons (pe_fld (pv 1) rfl) pa_nil)) pa_nil))) (by rfl))
    (pss_cons (ps_set (i := 7) nd rfl (Or.inl rfl) (pe_lst pa_nil))
    (pss_cons (ps_while PassesOwn.never (pt_cmpR op_gt (pv 3) pe_int (nomark _)) (pss_cons (ps_if (pt_cmp (pc_dnotin (hu_of hr.toRoom) (pv 2) (pv 6))) (pss_cons (ps_if (pt_cmpR op_ge (pe_callB c_len rfl T.n_len (by decide +kernel) (pa_cons (pv 4) pa_nil)) (pe_globI rfl T.k_MOST_RUNS) (nomark _)) (pss_one ps_never) pss_nil)
    (pss_cons (ps_dput (hu_of hr.toRoom) (pv 6) (pv 2) (pe_op op_mulA (pe_callB c_len rfl T.n_len (by decide +kernel) (pa_cons (pv 5) pa_nil)) (pv 0)) rfl)
    (pss_one (ps_expr (pe_bm PySem.F.plainAttrs_list PySem.F.slot_list_append PySem.F.type_list_append mt_append (pv 5) (pa_cons (pv 2) pa_nil)))))) pss_nil)
    (pss_cons (ps_set (i := 8) nd rfl (Or.inl rfl) (pe_dpop1 (pv 6) (pv 2) ⟨by rfl, by rfl, by rfl, by rfl⟩))
    (pss_cons (ps_set (i := 9) nd rfl (Or.inl rfl) (pe_callB (call_min2 rfl) rfl T.n_min (by decide +kernel) (pa_cons (pv 3) (pa_cons (pe_op op_sub (pv 0) (pe_op op_mod (pv 8) (pv 0))) pa_nil))))
    (pss_cons (ps_expr (pe_bm PySem.F.plainAttrs_list PySem.F.slot_list_append PySem.F.type_list_append mt_append (pv 7) (pa_cons (pe_tup (pa_cons (pv 8) (pa_cons (pv 9) pa_nil))) pa_nil)))
    (pss_cons (ps_set (i := 4) nd rfl (Or.inl rfl) (pe_callC (c_joined T) (hr.mono (by decide)) rfl (pa_cons (pv 4) (pa_cons (pv 8) (pa_cons (pv 9) (pa_cons (pv 0) pa_nil))))))
    (pss_cons (ps_if (pt_cmpR (op_neD hr.units) (pe_op op_mod (pe_op op_add (pv 8) (pv 9)) (pv 0)) pe_int (nomark _)) (pss_one (ps_dput (hu_of hr.toRoom) (pv 6) (pv 2) (pe_op op_add (pv 8) (pv 9)) rfl)) pss_nil)
    (pss_one (ps_set (i := 3) nd rfl (Or.inl rfl) (pe_op op_sub (pv 3) (pv 9)))))))))))
    (pss_cons (ps_if (pt_cmpR op_gt (pe_callB c_len rfl T.n_len (by decide +kernel) (pa_cons (pv 4) pa_nil)) (pe_globI rfl T.k_MOST_RUNS) (nomark _)) (pss_one ps_never) pss_nil)
    (pss_one (ps_ret (pe_tup (pa_cons (pe_makeC0 (c_State___init__ T) (hr.mono (by decide)) rfl (pa_cons (pv 4) (pa_cons (pv 5) (pa_cons (pv 6) (pa_cons (pe_fld (pv 1) rfl) pa_nil))))) (pa_cons (pv 7) pa_nil))))))))))), ?_⟩
  refine fn_x [none, none, none, none, none, none] [none, none, none, none, none, none] rfl (fun cs r cs' hc => ?_) vs H Q E h
  obtain ⟨v_width, v_state, v_client, v_count, res, rfl, rfl, rfl, hm⟩ := hc
  refine ⟨⟨Nat.le_of_ble_eq_true rfl, rfl⟩, (.v (.v (.v (.v .nil)))), fun ad => .inl ?_⟩
  · change XS _ _ [some (.v (D.int v_width)), some (.v ((eState (He.ga K "State")) v_state)), some (.v (D.int v_client)), some (.v (D.int v_count)), none, none, none, none, none, none] (.rt (.o none (.tpl [.v ((eState (He.ga K "State")) res.1), .c (.l (res.2.map (eT2 D.int D.int)))])) [none, none, none, none, none, none, none, none, none, none])
    unfold m_after_take_1 at hm
    obtain ⟨t1, ht1, hm⟩ := R.inv hm
    refine x_seq (μ1 := [some (.v (D.int v_width)), some (.v ((eState (He.ga K "State")) v_state)), some (.v (D.int v_client)), some (.v (D.int v_count)), none, none, none, none, none, none]) (x_drop (e_call (a_v e_strS (a_v (e_var rfl) (a_v e_int (a_v e_int a_nil)))) (W_check_between ht1))) ?_
    refine x_seq (μ1 := [some (.v (D.int v_width)), some (.v ((eState (He.ga K "State")) v_state)), some (.v (D.int v_client)), some (.v (D.int v_count)), some (.v ((eL (eT2 D.int D.int)) v_state.issues)), some (.o none (oL D.int v_state.takers)), some (.o none (oDc D.int v_state.held)), none, none, none]) (x_out (x_par3OO (i := 4) (j := 5) (l := 6) (e_list (e := (eT2 D.int D.int)) (xs := v_state.issues) (b_of (e_fld (e_var rfl) T.cl_State T.na_State_issues rfl)) rfl) (e_list (e := D.int) (xs := v_state.takers) (b_of (e_fld (e_var rfl) T.cl_State T.na_State_takers rfl)) rfl) (e_dictD (e := D.int) (kvs := v_state.held) (b_of (e_fld (e_var rfl) T.cl_State T.na_State_held rfl)) rfl)) (by walk_at "wk")) ?_
    refine x_seq (μ1 := [some (.v (D.int v_width)), some (.v ((eState (He.ga K "State")) v_state)), some (.v (D.int v_client)), some (.v (D.int v_count)), some (.v ((eL (eT2 D.int D.int)) v_state.issues)), some (.o none (oL D.int v_state.takers)), some (.o none (oDc D.int v_state.held)), some (.o none (oL (eT2 D.int D.int) ([] : (List (Int × Int))))), none, none]) (x_setO (e_lst (eT2 D.int D.int) ([] : (List (Int × Int))) d_nil (hl_ (n := 0) rfl (by decide)))) ?_
    obtain ⟨s2, hs2, hm1⟩ := R.inv hm
    refine x_seq (μ1 := [some (.v (D.int v_width)), some (.v ((eState (He.ga K "State")) v_state)), some (.v (D.int v_client)), some (.v (D.int s2.1)), some (.v ((eL (eT2 D.int D.int)) s2.2.1)), some (.o none (oL D.int s2.2.2.1)), some (.o none (oDc D.int s2.2.2.2.1)), some (.o none (oL (eT2 D.int D.int) s2.2.2.2.2)), none, none]) (x_whileR (s1 := s2) (J := fun s2 => [some (.v (D.int v_width)), some (.v ((eState (He.ga K "State")) v_state)), some (.v (D.int v_client)), some (.v (D.int s2.1)), some (.v ((eL (eT2 D.int D.int)) s2.2.1)), some (.o none (oL D.int s2.2.2.1)), some (.o none (oDc D.int s2.2.2.2.1)), some (.o none (oL (eT2 D.int D.int) s2.2.2.2.2)), none, none]) (by walk_at "wk") hs2 (fun s2 b hm => by obtain rfl := R.ok.inj hm; exact (t_test (e_gt (e_var rfl) e_int))) (fun s2 x3 hc hm => ?_)) ?_
    · refine ⟨_, ?_, .inl rfl⟩
      obtain ⟨s4, hs4, hm1⟩ := R.inv hm
      refine x_seq (μ1 := [some (.v (D.int v_width)), some (.v ((eState (He.ga K "State")) v_state)), some (.v (D.int v_client)), some (.v (D.int s2.1)), some (.v ((eL (eT2 D.int D.int)) s2.2.1)), some (.o none (oL D.int s4.1)), some (.o none (oDc D.int s4.2)), some (.o none (oL (eT2 D.int D.int) s2.2.2.2.2)), none, none]) ?_ ?_
      · have hm := hs4
        refine x_if (t_tB (e_dnotin (e_var rfl) (b_ownD rfl) rfl)) (fun hb => ?_) (fun hb => ?_)
        · have hm := R.ifT hb hm
          refine x_seqIf (t_test (e_ge (e_len (e := (eT2 D.int D.int)) (xs := s2.2.1) (b_of (e_var rfl)) rfl) e_int)) (fun hb => ?_) (fun hb => ?_)
          · have hm := R.ifT hb hm
            nomatch hm
          · have hm := R.ifF hb hm
            refine x_seq x_next ?_
            obtain ⟨t5, ht5, hm⟩ := R.inv hm
            obtain ⟨t6, ht6, hm⟩ := R.inv hm
            refine x_seq (μ1 := [some (.v (D.int v_width)), some (.v ((eState (He.ga K "State")) v_state)), some (.v (D.int v_client)), some (.v (D.int s2.1)), some (.v ((eL (eT2 D.int D.int)) s2.2.1)), some (.o none (oL D.int s2.2.2.1)), some (.o none (oDc D.int t6)), some (.o none (oL (eT2 D.int D.int) s2.2.2.2.2)), none, none]) (x_dput (e := D.int) (x := t5) (e_mul (e_len (e := D.int) (xs := s2.2.2.1) (b_ownL rfl) rfl) (e_var rfl) ht5) rfl (e_var rfl) ht6) ?_
            obtain ⟨t7, ht7, hm⟩ := R.inv hm
            obtain rfl := R.ok.inj hm
            exact x_out (x_append (e := D.int) (x := v_client) (e_var rfl) rfl rfl ht7) (by walk_at "wk")
        · have hm := R.ifF hb hm
          obtain rfl := R.ok.inj hm
          exact x_out x_next (by walk_at "wk")
      have hm := hm1
      obtain ⟨t8, ht8, hm⟩ := R.inv hm
      refine x_seq (μ1 := [some (.v (D.int v_width)), some (.v ((eState (He.ga K "State")) v_state)), some (.v (D.int v_client)), some (.v (D.int s2.1)), some (.v ((eL (eT2 D.int D.int)) s2.2.1)), some (.o none (oL D.int s4.1)), some (.o none (oDc D.int (dropZ s4.2 v_client))), some (.o none (oL (eT2 D.int D.int) s2.2.2.2.2)), some (.v (D.int t8)), none]) (x_set (e_dpop1 rfl (e_var rfl) ht8)) ?_
      obtain ⟨t9, ht9, hm⟩ := R.inv hm
      refine x_seq (μ1 := [some (.v (D.int v_width)), some (.v ((eState (He.ga K "State")) v_state)), some (.v (D.int v_client)), some (.v (D.int s2.1)), some (.v ((eL (eT2 D.int D.int)) s2.2.1)), some (.o none (oL D.int s4.1)), some (.o none (oDc D.int (dropZ s4.2 v_client))), some (.o none (oL (eT2 D.int D.int) s2.2.2.2.2)), some (.v (D.int t8)), some (.v (D.int (min s2.1 (v_width - t9))))]) (x_set (e_min2 (e_var rfl) (e_sub (e_var rfl) (e_mod (e_var rfl) (e_var rfl) ht9)))) ?_
      obtain ⟨t10, ht10, hm⟩ := R.inv hm
      refine x_seq (μ1 := [some (.v (D.int v_width)), some (.v ((eState (He.ga K "State")) v_state)), some (.v (D.int v_client)), some (.v (D.int s2.1)), some (.v ((eL (eT2 D.int D.int)) s2.2.1)), some (.o none (oL D.int s4.1)), some (.o none (oDc D.int (dropZ s4.2 v_client))), some (.o none (oL (eT2 D.int D.int) t10)), some (.v (D.int t8)), some (.v (D.int (min s2.1 (v_width - t9))))]) (x_append (e := (eT2 D.int D.int)) (x := (t8, (min s2.1 (v_width - t9)))) (e_tup2 (e := D.int) (x := t8) (f := D.int) (y := (min s2.1 (v_width - t9))) (d_cons (e_var rfl) (d_cons (e_var rfl) d_nil))) rfl rfl ht10) ?_
      obtain ⟨t11, ht11, hm⟩ := R.inv hm
      refine x_seq (μ1 := [some (.v (D.int v_width)), some (.v ((eState (He.ga K "State")) v_state)), some (.v (D.int v_client)), some (.v (D.int s2.1)), some (.v ((eL (eT2 D.int D.int)) t11)), some (.o none (oL D.int s4.1)), some (.o none (oDc D.int (dropZ s4.2 v_client))), some (.o none (oL (eT2 D.int D.int) t10)), some (.v (D.int t8)), some (.v (D.int (min s2.1 (v_width - t9))))]) (x_set (e_frz (o_call (a_v (e_var rfl) (a_v (e_var rfl) (a_v (e_var rfl) (a_v (e_var rfl) a_nil)))) (W_joined ht11)))) ?_
      obtain ⟨t12, ht12, hm⟩ := R.inv hm
      obtain ⟨s13, hs13, hm1⟩ := R.inv hm
      refine x_seq (μ1 := [some (.v (D.int v_width)), some (.v ((eState (He.ga K "State")) v_state)), some (.v (D.int v_client)), some (.v (D.int s2.1)), some (.v ((eL (eT2 D.int D.int)) t11)), some (.o none (oL D.int s4.1)), some (.o none (oDc D.int s13)), some (.o none (oL (eT2 D.int D.int) t10)), some (.v (D.int t8)), some (.v (D.int (min s2.1 (v_width - t9))))]) ?_ ?_
      · have hm := hs13
        refine x_if (t_test (e_neV (e := D.int) (x := t12) (y := 0) EqT.int (by decide) (e_mod (e_add (e_var rfl) (e_var rfl)) (e_var rfl) ht12) e_int)) (fun hb => ?_) (fun hb => ?_)
        · have hm := R.ifT hb hm
          obtain ⟨t14, ht14, hm⟩ := R.inv hm
          obtain rfl := R.ok.inj hm
          exact x_out (x_dput (e := D.int) (x := (t8 + (min s2.1 (v_width - t9)))) (e_add (e_var rfl) (e_var rfl)) rfl (e_var rfl) ht14) (by walk_at "wk")
        · have hm := R.ifF hb hm
          obtain rfl := R.ok.inj hm
          exact x_out x_next (by walk_at "wk")
      have hm := hm1
      obtain rfl := R.ok.inj hm
      exact x_out (x_set (e_sub (e_var rfl) (e_var rfl))) (by walk_at "wk")
    have hm := hm1
    refine x_seqIf (t_test (e_gt (e_len (e := (eT2 D.int D.int)) (xs := s2.2.1) (b_of (e_var rfl)) rfl) e_int)) (fun hb => ?_) (fun hb => ?_)
    · have hm := R.ifT hb hm
      nomatch hm
    · have hm := R.ifF hb hm
      refine x_seq x_next ?_
      refine x_wk (μ1 := [some (.v (D.int v_width)), some (.v ((eState (He.ga K "State")) v_state)), some (.v (D.int v_client)), some (.v (D.int s2.1)), some (.v ((eL (eT2 D.int D.int)) s2.2.1)), some (.v ((eL D.int) s2.2.2.1)), some (.o none (oDc D.int s2.2.2.2.1)), some (.o none (oL (eT2 D.int D.int) s2.2.2.2.2)), none, none]) (by walk_at "wk") ?_
      refine x_wk (μ1 := [some (.v (D.int v_width)), some (.v ((eState (He.ga K "State")) v_state)), some (.v (D.int v_client)), some (.v (D.int s2.1)), some (.v ((eL (eT2 D.int D.int)) s2.2.1)), some (.v ((eL D.int) s2.2.2.1)), some (.v ((eDc D.int) s2.2.2.2.1)), some (.o none (oL (eT2 D.int D.int) s2.2.2.2.2)), none, none]) (by walk_at "wk") ?_
      obtain ⟨t15, ht15, hm⟩ := R.inv hm
      obtain rfl := R.ok.inj hm
      exact x_outR (x_retO (o_tplV [7] (e_frz (o_make (c := iState (He.ga K "State") t15) (cs' := [.v ((eL (eT2 D.int D.int)) s2.2.1), .v ((eL D.int) s2.2.2.1), .v ((eDc D.int) s2.2.2.2.1), .v (D.int v_state.lost_count)]) .nil (a_v (e_var rfl) (a_v (e_var rfl) (a_v (e_var rfl) (a_v (e_fld (e_var rfl) T.cl_State T.na_State_lost_count rfl) a_nil)))) (W_State___init__ ht15))) rfl)) (by walk_at "wd")
theorem c_after_take (T : Tx K mg) : Cal P w K mg base 4 "after_take" ["width", "state", "client", "count"] (spOf K (ctOf (C_after_take K) noX)) := by
  obtain ⟨fd, F⟩ := T.d_after_take
  exact ⟨⟨fd, f_after_take T F, F.bindsN fun _ _ _ _ _ _ us hl => match us, hl with | [_, _, _, _], _ => rfl⟩, T.g_after_take, F.kp⟩
def C_House_take (K : PySem.W.Frag) : FC := fun cs r cs' => ∃ (v_self : HouseM) (v_client : Int) (v_count : Int) (res : ((List (Int × Int)) × HouseM)), cs = [.o none (iHouse K v_self), .v (D.int v_client), .v (D.int v_count)] ∧ r = (.o none (oL (eT2 D.int D.int) res.1)) ∧ cs' = [.o none (iHouse K res.2), .v (D.int v_client), .v (D.int v_count)] ∧ m_House_take_1 v_self v_client v_count = .ok res
theorem W_House_take {v_self : HouseM} {v_client : Int} {v_count : Int} {res : ((List (Int × Int)) × HouseM)} (h : m_House_take_1 v_self v_client v_count = .ok res) : C_House_take K [.o none (iHouse K v_self), .v (D.int v_client), .v (D.int v_count)] (.o none (oL (eT2 D.int D.int) res.1)) [.o none (iHouse K res.2), .v (D.int v_client), .v (D.int v_count)] := ⟨v_self, v_client, v_count, res, rfl, rfl, rfl, h⟩

abbrev N_House_take : List Str := ["self", "client", "count", "state", "found"]
theorem sc_House_take : FnScope N_House_take ["self", "client", "count"] (defScope s_House_take) := ⟨rfl, rfl, rfl, by decide +kernel, rfl, by decide +kernel, by decide +kernel⟩
theorem f_House_take (T : Tx K mg) {fd : FuncData} (F : FunD K "take" "House.take" (defArgs s_House_take) (defBody s_House_take) (defScope s_House_take) [] [] (He.fAd K ("House", some "take")) fd) : FnG P w K mg base (L2.CX P w) 5 (He.fAd K ("House", some "take")) fd ["self", "client", "count"] (spOf K (ctOf (C_House_take K) noX)) := by
  have nd := (sc_House_take).nd
  refine F.okG sc_House_take (sp_len (ctOf_len fun _ _ _ h => by obtain ⟨_, _, _, _, rfl, _, _, _⟩ := h; rfl)) (fun cdv A outer s H vs Q E hr h => ?_)
  refine ⟨_, PSs.nox ((pss_cons (ps_expr (pe_methC0 (c_House_check_room T) (hr.mono (by decide)) (pv 0)))
    (pss_cons (ps_expr (pe_methC (c_House_check_client T) (hr.mono (by decide)) (pv 0) (pa_cons (pv 1) pa_nil)))
    (pss_cons (ps_asg (pe_callC (c_after_take T) (hr.mono (by decide)) rfl (pa_cons (pe_fld (pv 0) rfl) (pa_cons (pe_ix ix_seq (pe_fld (pv 0) rfl) (pe_un un_neg pe_int) (fun _ _ => rfl)) (pa_cons (pv 1) (pa_cons (pv 2) pa_nil))))) (pg_tup rfl (pgs_cons (pg_name (i := 3) nd rfl (Or.inl rfl)) (pgs_cons (pg_name (i := 4) nd rfl (Or.inl rfl)) pgs_nil))))
    (pss_cons (ps_expr (pe_bm PySem.F.plainAttrs_list PySem.F.slot_list_append PySem.F.type_list_append mt_append (pe_fld (pv 0) rfl) (pa_cons (pv 3) pa_nil)))
    (pss_cons (ps_expr (pe_bm PySem.F.plainAttrs_list PySem.F.slot_list_append PySem.F.type_list_append mt_append (pe_fld (pv 0) rfl) (pa_cons (pe_tup (pa_cons pe_str (pa_cons (pv 1) (pa_cons (pv 2) pa_nil)))) pa_nil)))
    (pss_one (ps_ret (pv 4))))))))), ?_⟩
  refine fn_x [none, none] [none, none] rfl (fun cs r cs' hc => ?_) vs H Q E h
  obtain ⟨v_self, v_client, v_count, res, rfl, rfl, rfl, hm⟩ := hc
  refine ⟨⟨Nat.le_of_ble_eq_true rfl, rfl⟩, (.o (.v (.v .nil))), fun ad => .inl ?_⟩
  · change XS _ _ [some (.o (some (ad 0)) (iHouse K v_self)), some (.v (D.int v_client)), some (.v (D.int v_count)), none, none] (.rt (.o none (oL (eT2 D.int D.int) res.1)) [some (.o (some (ad 0)) (iHouse K res.2)), none, none, none, none])
    unfold m_House_take_1 at hm
    obtain ⟨t1, ht1, hm⟩ := R.inv hm
    refine x_seq (μ1 := [some (.o (some (ad 0)) (iHouse K v_self)), some (.v (D.int v_client)), some (.v (D.int v_count)), none, none]) (x_drop (e_methO (cs' := []) (c' := .o none (iHouse K v_self)) .nil rfl rfl a_nil rfl (W_House_check_room ht1))) ?_
    obtain ⟨t2, ht2, hm⟩ := R.inv hm
    refine x_seq (μ1 := [some (.o (some (ad 0)) (iHouse K v_self)), some (.v (D.int v_client)), some (.v (D.int v_count)), none, none]) (x_drop (e_methO (cs' := [.v (D.int v_client)]) (c' := .o none (iHouse K v_self)) .nil rfl rfl (a_v (e_var rfl) a_nil) rfl (W_House_check_client ht2))) ?_
    obtain ⟨t3, ht3, hm⟩ := R.inv hm
    obtain ⟨t4, ht4, hm⟩ := R.inv hm
    refine x_seq (μ1 := [some (.o (some (ad 0)) (iHouse K v_self)), some (.v (D.int v_client)), some (.v (D.int v_count)), some (.v ((eState (He.ga K "State")) t4.1)), some (.o none (oL (eT2 D.int D.int) t4.2))]) (x_unpk [3, 4] (o_call (a_v (e_fldO rfl rfl T.cl_House T.na_House_width) (a_v (e_ix (e := (eState (He.ga K "State"))) (xs := v_self.states) (b_fldL rfl rfl T.cl_House T.na_House_states) rfl (e_neg e_int) ht3) (a_v (e_var rfl) (a_v (e_var rfl) a_nil)))) (W_after_take ht4))) ?_
    obtain ⟨t5, ht5, hm⟩ := R.inv hm
    refine x_seq (μ1 := [some (.o (some (ad 0)) (iHouse K ({ v_self with states := t5 } : HouseM))), some (.v (D.int v_client)), some (.v (D.int v_count)), some (.v ((eState (He.ga K "State")) t4.1)), some (.o none (oL (eT2 D.int D.int) t4.2))]) (x_fappK (e := (eState (He.ga K "State"))) (x := t4.1) rfl rfl (k_q (e_var rfl)) T.cl_House T.na_House_states ht5 rfl) ?_
    obtain ⟨t6, ht6, hm⟩ := R.inv hm
    refine x_seq (μ1 := [some (.o (some (ad 0)) (iHouse K ({ v_self with states := t5, done := t6 } : HouseM))), some (.v (D.int v_client)), some (.v (D.int v_count)), some (.v ((eState (He.ga K "State")) t4.1)), some (.o none (oL (eT2 D.int D.int) t4.2))]) (x_fappK (e := eA) (x := (Av.tup [(Av.str (("take", v_client, v_count).1)), (Av.int (("take", v_client, v_count).2.1)), (Av.int (("take", v_client, v_count).2.2))])) rfl rfl (k_as (k_as (k_tup (kd_cons (k_q e_strS) (kd_cons (k_q (e_var rfl)) (kd_cons (k_q (e_var rfl)) kd_nil))) (hl_ (n := 3) rfl (by decide))) rfl) rfl) T.cl_House T.na_House_done ht6 rfl) ?_
    obtain rfl := R.ok.inj hm
    exact x_outR (x_retS rfl) (by walk_at "wd")
theorem c_House_take (T : Tx K mg) : CalO P w K mg base 5 "House" "take" ["self", "client", "count"] (spOf K (ctOf (C_House_take K) noX)) := by
  obtain ⟨fd, F⟩ := T.d_House_take
  exact ⟨⟨fd, f_House_take T F, F.bindsN fun _ _ _ _ _ _ us hl => match us, hl with | [_, _, _], _ => rfl⟩, T.m_House_take, T.cl_House⟩
def C_House_numbers_lost (K : PySem.W.Frag) : FC := fun cs r cs' => ∃ (v_self : HouseM) (res : Int), cs = [.o none (iHouse K v_self)] ∧ r = (.v (D.int res)) ∧ cs' = [.o none (iHouse K v_self)] ∧ m_House_numbers_lost v_self = .ok res
theorem W_House_numbers_lost {v_self : HouseM} {res : Int} (h : m_House_numbers_lost v_self = .ok res) : C_House_numbers_lost K [.o none (iHouse K v_self)] (.v (D.int res)) [.o none (iHouse K v_self)] := ⟨v_self, res, rfl, rfl, rfl, h⟩

abbrev N_House_numbers_lost : List Str := ["self"]
theorem sc_House_numbers_lost : FnScope N_House_numbers_lost ["self"] (defScope s_House_numbers_lost) := ⟨rfl, rfl, rfl, by decide +kernel, rfl, by decide +kernel, by decide +kernel⟩
theorem f_House_numbers_lost (T : Tx K mg) {fd : FuncData} (F : FunD K "numbers_lost" "House.numbers_lost" (defArgs s_House_numbers_lost) (defBody s_House_numbers_lost) (defScope s_House_numbers_lost) [] [] (He.fAd K ("House", some "numbers_lost")) fd) : FnG P w K mg base (L2.CX P w) 1 (He.fAd K ("House", some "numbers_lost")) fd ["self"] (spOf K (ctOf (C_House_numbers_lost K) noX)) := by
  have nd := (sc_House_numbers_lost).nd
  refine F.okG sc_House_numbers_lost (sp_len (ctOf_len fun _ _ _ h => by obtain ⟨_, _, rfl, _, _, _⟩ := h; rfl)) (fun cdv A outer s H vs Q E hr h => ?_)
  refine ⟨_, PSs.nox ((pss_one (ps_ret (pe_fld (pe_ix ix_seq (pe_fld (pv 0) rfl) (pe_un un_neg pe_int) (fun _ _ => rfl)) rfl)))), ?_⟩
  refine fn_x [] [] rfl (fun cs r cs' hc => ?_) vs H Q E h
  obtain ⟨v_self, res, rfl, rfl, rfl, hm⟩ := hc
  refine ⟨⟨Nat.le_of_ble_eq_true rfl, rfl⟩, (.o .nil), fun ad => .inl ?_⟩
  · change XS _ _ [some (.o (some (ad 0)) (iHouse K v_self))] (.rt (.v (D.int res)) [some (.o (some (ad 0)) (iHouse K v_self))])
    unfold m_House_numbers_lost at hm
    obtain ⟨t1, ht1, hm⟩ := R.inv hm
    obtain rfl := R.ok.inj hm
    exact x_outR (x_ret (e_fld (e_ix (e := (eState (He.ga K "State"))) (xs := v_self.states) (b_fldL rfl rfl T.cl_House T.na_House_states) rfl (e_neg e_int) ht1) T.cl_State T.na_State_lost_count rfl)) (by walk_at "wd")
theorem c_House_numbers_lost (T : Tx K mg) : CalO P w K mg base 1 "House" "numbers_lost" ["self"] (spOf K (ctOf (C_House_numbers_lost K) noX)) := by
  obtain ⟨fd, F⟩ := T.d_House_numbers_lost
  exact ⟨⟨fd, f_House_numbers_lost T F, F.bindsN fun _ _ _ _ _ _ us hl => match us, hl with | [_], _ => rfl⟩, T.m_House_numbers_lost, T.cl_House⟩
def C_is_run (K : PySem.W.Frag) : FC := fun cs r cs' => ∃ (v_value : (Int × Int)) (v_width : Int) (res : Bool), cs = [.v ((eT2 D.int D.int) v_value), .v (D.int v_width)] ∧ r = (.v (D.bl res)) ∧ cs' = [.v ((eT2 D.int D.int) v_value), .v (D.int v_width)] ∧ m_is_run v_value v_width = .ok res
theorem W_is_run {v_value : (Int × Int)} {v_width : Int} {res : Bool} (h : m_is_run v_value v_width = .ok res) : C_is_run K [.v ((eT2 D.int D.int) v_value), .v (D.int v_width)] (.v (D.bl res)) [.v ((eT2 D.int D.int) v_value), .v (D.int v_width)] := ⟨v_value, v_width, res, rfl, rfl, rfl, h⟩

abbrev N_is_run : List Str := ["value", "width"]
theorem sc_is_run : FnScope N_is_run ["value", "width"] (defScope s_is_run) := ⟨rfl, rfl, rfl, by decide +kernel, rfl, by decide +kernel, by decide +kernel⟩
theorem f_is_run (T : Tx K mg) {fd : FuncData} (F : FunD K "is_run" "is_run" (defArgs s_is_run) (defBody s_is_run) (defScope s_is_run) [] [] (He.ga K "is_run") fd) : FnG P w K mg base (L2.CX P w) 2 (He.ga K "is_run") fd ["value", "width"] (spOf K (ctOf (C_is_run K) noX)) := by
  have nd := (sc_is_run).nd
  refine F.okG sc_is_run (sp_len (ctOf_len fun _ _ _ h => by obtain ⟨_, _, _, rfl, _, _, _⟩ := h; rfl)) (fun cdv A outer s H vs Q E hr h => ?_)
  refine ⟨_, PSs.nox ((pss_cons (ps_if (PW.pt (pw_or (pt_not (pt_val (pe_callB call_isi rfl T.n_isinstance (by decide +kernel) (pa_cons (pv 0) (pa_cons (pe_ty (n := "tuple") rfl T.n_tuple (by decide +kernel)) pa_nil))))) (pw_or (pt_cmpR (op_neD hr.units) (pe_callB c_len rfl T.n_len (by decide +kernel) (pa_cons (pv 0) pa_nil)) pe_int (nomark _)) (pw_or (pt_not (pt_val (pe_callC (c_is_integer T) (hr.mono (by decide)) rfl (pa_cons (pe_ix ix_seq (pv 0) pe_int (fun _ _ => rfl)) pa_nil)))) (pw_or1 (pt_not (pt_val (pe_callC (c_is_integer T) (hr.mono (by decide)) rfl (pa_cons (pe_ix ix_seq (pv 0) pe_int (fun _ _ => rfl)) pa_nil))))))))) (pss_one (ps_ret pe_bl)) pss_nil)
    (pss_one (ps_ret (pe_and (pe_cmpR op_ge (pe_ix ix_seq (pv 0) pe_int (fun _ _ => rfl)) pe_int (nomark _)) (pe_and (pe_cmpR op_ge (pe_ix ix_seq (pv 0) pe_int (fun _ _ => rfl)) pe_int (nomark _)) (pe_one (pe_cmpR (op_eqD hr.units) (pe_op op_fdivW (pe_ix ix_seq (pv 0) pe_int (fun _ _ => rfl)) (pv 1)) (pe_op op_fdivW (pe_op op_sub (pe_op op_add (pe_ix ix_seq (pv 0) pe_int (fun _ _ => rfl)) (pe_ix ix_seq (pv 0) pe_int (fun _ _ => rfl))) pe_int) (pv 1)) (nomark _))))))))), ?_⟩
  refine fn_x [] [] rfl (fun cs r cs' hc => ?_) vs H Q E h
  obtain ⟨v_value, v_width, res, rfl, rfl, rfl, hm⟩ := hc
  refine ⟨⟨Nat.le_of_ble_eq_true rfl, rfl⟩, (.v (.v .nil)), fun ad => .inl ?_⟩
  · change XS _ _ [some (.v ((eT2 D.int D.int) v_value)), some (.v (D.int v_width))] (.rt (.v (D.bl res)) [none, none])
    unfold m_is_run at hm
    obtain ⟨t5, ht5, hm⟩ := R.inv hm
    refine x_seqIf (t_or (r := t5) (μ2 := [some (.v ((eT2 D.int D.int) v_value)), some (.v (D.int v_width))]) (t_not (t_tB (e_isi (n := "tuple") (p := true) (b_of (e_var rfl)) rfl))) (fun hb => by have hm := R.ifF hb ht5; obtain ⟨t4, ht4, hm⟩ := R.inv hm; obtain rfl := R.ok.inj hm; exact (t_or (r := t4) (μ2 := [some (.v ((eT2 D.int D.int) v_value)), some (.v (D.int v_width))]) (t_test (e_neV (e := D.int) (x := 2) (y := 2) EqT.int (by decide) (e_lenT (n := 2) (b_of (e_var rfl)) rfl rfl) e_int)) (fun hb => by have hm := R.ifF hb ht4; obtain ⟨t1, ht1, hm⟩ := R.inv hm; obtain ⟨t3, ht3, hm⟩ := R.inv hm; obtain rfl := R.ok.inj hm; exact (t_or (r := t3) (μ2 := [some (.v ((eT2 D.int D.int) v_value)), some (.v (D.int v_width))]) (t_not (t_tB (e_call (a_v (e_p20 (b_of (e_var rfl)) e_int) a_nil) (W_is_integer ht1)))) (fun hb => by have hm := R.ifF hb ht3; obtain ⟨t2, ht2, hm⟩ := R.inv hm; obtain rfl := R.ok.inj hm; exact (t_not (t_tB (e_call (a_v (e_p21 (b_of (e_var rfl)) e_int) a_nil) (W_is_integer ht2))))) (fun hb => by have hm := R.ifT hb ht3; obtain rfl := R.ok.inj hm; exact ⟨rfl, rfl⟩))) (fun hb => by have hm := R.ifT hb ht4; obtain rfl := R.ok.inj hm; exact ⟨rfl, rfl⟩))) (fun hb => by have hm := R.ifT hb ht5; obtain rfl := R.ok.inj hm; exact ⟨rfl, rfl⟩)) (fun hb => ?_) (fun hb => ?_)
    · have hm := R.ifT hb hm
      obtain rfl := R.ok.inj hm
      exact x_seqR (x_outR (x_ret e_bl) (by walk_at "wd"))
    · have hm := R.ifF hb hm
      refine x_seq x_next ?_
      obtain ⟨t9, ht9, hm⟩ := R.inv hm
      obtain rfl := R.ok.inj hm
      exact x_outR (x_ret (e_and (d := D.bl t9) (μ2 := [some (.v ((eT2 D.int D.int) v_value)), some (.v (D.int v_width))]) (e_ge (e_p20 (b_of (e_var rfl)) e_int) e_int) (fun hb => by have hm := R.ifT hb ht9; obtain ⟨t8, ht8, hm⟩ := R.inv hm; obtain rfl := R.ok.inj hm; exact (e_and (d := D.bl t8) (μ2 := [some (.v ((eT2 D.int D.int) v_value)), some (.v (D.int v_width))]) (e_ge (e_p21 (b_of (e_var rfl)) e_int) e_int) (fun hb => by have hm := R.ifT hb ht8; obtain ⟨t6, ht6, hm⟩ := R.inv hm; obtain ⟨t7, ht7, hm⟩ := R.inv hm; obtain rfl := R.ok.inj hm; exact (e_eqV (e := D.int) (x := t6) (y := t7) EqT.int (by decide) (e_div (e_p20 (b_of (e_var rfl)) e_int) (e_var rfl) ht6) (e_div (e_sub (e_add (e_p20 (b_of (e_var rfl)) e_int) (e_p21 (b_of (e_var rfl)) e_int)) e_int) (e_var rfl) ht7))) (fun hb => by have hm := R.ifF hb ht8; obtain rfl := R.ok.inj hm; exact ⟨rfl, rfl⟩))) (fun hb => by have hm := R.ifF hb ht9; obtain rfl := R.ok.inj hm; exact ⟨rfl, rfl⟩))) (by walk_at "wd")
theorem c_is_run (T : Tx K mg) : Cal P w K mg base 2 "is_run" ["value", "width"] (spOf K (ctOf (C_is_run K) noX)) := by
  obtain ⟨fd, F⟩ := T.d_is_run
  exact ⟨⟨fd, f_is_run T F, F.bindsN fun _ _ _ _ _ _ us hl => match us, hl with | [_, _], _ => rfl⟩, T.g_is_run, F.kp⟩
def C_grouped (K : PySem.W.Frag) : FC := fun cs r cs' => ∃ (v_width : Int) (v_runs : (List (Int × Int))) (res : (List (Int × (List Int)))), cs = [.v (D.int v_width), .v ((eL (eT2 D.int D.int)) v_runs)] ∧ r = (.o none (oDcl D.int res)) ∧ cs' = [.v (D.int v_width), .v ((eL (eT2 D.int D.int)) v_runs)] ∧ m_grouped_8 v_width v_runs = .ok res
theorem W_grouped {v_width : Int} {v_runs : (List (Int × Int))} {res : (List (Int × (List Int)))} (h : m_grouped_8 v_width v_runs = .ok res) : C_grouped K [.v (D.int v_width), .v ((eL (eT2 D.int D.int)) v_runs)] (.o none (oDcl D.int res)) [.v (D.int v_width), .v ((eL (eT2 D.int D.int)) v_runs)] := ⟨v_width, v_runs, res, rfl, rfl, rfl, h⟩

abbrev N_grouped : List Str := ["width", "runs", "found", "following", "last", "at", "run", "place"]
theorem sc_grouped : FnScope N_grouped ["width", "runs"] (defScope s_grouped) := ⟨rfl, rfl, rfl, by decide +kernel, rfl, by decide +kernel, by decide +kernel⟩
theorem f_grouped (T : Tx K mg) {fd : FuncData} (F : FunD K "grouped" "grouped" (defArgs s_grouped) (defBody s_grouped) (defScope s_grouped) [] [] (He.ga K "grouped") fd) : FnG P w K mg base (L2.CX P w) 3 (He.ga K "grouped") fd ["width", "runs"] (spOf K (ctOf (C_grouped K) noX)) := by
  have nd := (sc_grouped).nd
  refine F.okG sc_grouped (sp_len (ctOf_len fun _ _ _ h => by obtain ⟨_, _, _, rfl, _, _, _⟩ := h; rfl)) (fun cdv A outer s H vs Q E hr h => ?_)
  refine ⟨_, PSs.nox ((pss_cons (ps_if (PW.pt (pw_or (pt_not (pt_val (pe_callB call_isi rfl T.n_isinstance (by decide +kernel) (pa_cons (pv 1) (pa_cons (pe_ty (n := "list") rfl T.n_list (by decide +kernel)) pa_nil))))) (pw_or1 (pt_cmpR op_gt (pe_callB c_len rfl T.n_len (by decide +kernel) (pa_cons (pv 1) pa_nil)) (pe_globI rfl T.k_MOST_RUNS) (nomark _))))) (pss_one ps_never) pss_nil)
    (pss_cons (ps_set (i := 2) nd rfl (Or.inl rfl) pe_dnewK)
    (pss_cons (ps_set (i := 3) nd rfl (Or.inl rfl) pe_dnewK)
    (pss_cons (ps_set (i := 4) nd rfl (Or.inl rfl) pe_non)
    (pss_cons (ps_for PassesOwn.never rfl (pi_enum rfl T.n_enumerate (pa_cons (pv 1) pa_nil)) (pg_tup rfl (pgs_cons (pg_name (i := 5) nd rfl (Or.inl rfl)) (pgs_cons (pg_name (i := 6) nd rfl (Or.inl rfl)) pgs_nil))) (pss_cons (ps_if (pt_not (pt_val (pe_callC (c_is_run T) (hr.mono (by decide)) rfl (pa_cons (pv 6) (pa_cons (pv 0) pa_nil))))) (pss_one ps_never) pss_nil)
    (pss_cons (ps_set (i := 7) nd rfl (Or.inl rfl) (pe_op op_fdivW (pe_ix ix_seq (pv 6) pe_int (fun _ _ => rfl)) (pv 0)))
    (pss_cons (ps_if (PW.pt (pw_or (pt_cmpR (op_eqD hr.units) (pv 7) (pv 4) (nomark _)) (pw_or1 (pt_cmpR (op_neD hr.units) (pe_ix ix_seq (pv 6) pe_int (fun _ _ => rfl)) (pe_dget2 (hu_of hr.toRoom) (pv 3) (pv 7) (pe_op op_mulA (pv 7) (pv 0)) ⟨by rfl, by rfl, by rfl, by rfl⟩) (nomark _))))) (pss_one ps_never) pss_nil)
    (pss_cons (ps_expr (pe_bm PySem.F.plainAttrs_list PySem.F.slot_list_append PySem.F.type_list_append mt_append (pe_dsetd (pv 2) (pv 7) (pe_lst pa_nil) ⟨by rfl, by rfl, by rfl, by rfl⟩) (pa_cons (pv 5) pa_nil)))
    (pss_cons (ps_dput (hu_of hr.toRoom) (pv 3) (pv 7) (pe_op op_add (pe_ix ix_seq (pv 6) pe_int (fun _ _ => rfl)) (pe_ix ix_seq (pv 6) pe_int (fun _ _ => rfl))) rfl)
    (pss_one (ps_set (i := 4) nd rfl (Or.inl rfl) (pv 7)))))))))
    (pss_one (ps_ret (pv 2))))))))), ?_⟩
  refine fn_x [none, none, none, none, none, none] [none, none, none, none, none, none] rfl (fun cs r cs' hc => ?_) vs H Q E h
  obtain ⟨v_width, v_runs, res, rfl, rfl, rfl, hm⟩ := hc
  refine ⟨⟨Nat.le_of_ble_eq_true rfl, rfl⟩, (.v (.v .nil)), fun ad => .inl ?_⟩
  · change XS _ _ [some (.v (D.int v_width)), some (.v ((eL (eT2 D.int D.int)) v_runs)), none, none, none, none, none, none] (.rt (.o none (oDcl D.int res)) [none, none, none, none, none, none, none, none])
    unfold m_grouped_8 at hm
    refine x_seqIf (t_orP (t_not (t_tB (e_isi (n := "list") (p := true) (b_of (e_var rfl)) rfl))) (t_test (e_gt (e_len (e := (eT2 D.int D.int)) (xs := v_runs) (b_of (e_var rfl)) rfl) e_int))) (fun hb => ?_) (fun hb => ?_)
    · have hm := R.ifT hb hm
      nomatch hm
    · have hm := R.ifF hb hm
      refine x_seq x_next ?_
      refine x_seq (μ1 := [some (.v (D.int v_width)), some (.v ((eL (eT2 D.int D.int)) v_runs)), some (.o none (oDcl D.int ([] : (List (Int × (List Int)))))), none, none, none, none, none]) (x_setO (e_dnewL D.int)) ?_
      refine x_seq (μ1 := [some (.v (D.int v_width)), some (.v ((eL (eT2 D.int D.int)) v_runs)), some (.o none (oDcl D.int ([] : (List (Int × (List Int)))))), some (.o none (oDc D.int ([] : (List (Int × Int))))), none, none, none, none]) (x_setO (e_dnew D.int)) ?_
      refine x_seq (μ1 := [some (.v (D.int v_width)), some (.v ((eL (eT2 D.int D.int)) v_runs)), some (.o none (oDcl D.int ([] : (List (Int × (List Int)))))), some (.o none (oDc D.int ([] : (List (Int × Int))))), some (.v ((eO D.int) none)), none, none, none]) (x_set e_non) ?_
      obtain ⟨s1, hs1, hm1⟩ := R.inv hm
      refine x_seq (μ1 := [some (.v (D.int v_width)), some (.v ((eL (eT2 D.int D.int)) v_runs)), some (.o none (oDcl D.int s1.1)), some (.o none (oDc D.int s1.2.1)), some (.v ((eO D.int) s1.2.2)), none, none, none]) (x_forR (s1 := s1) (e := (eT2 D.int (eT2 D.int D.int))) (J := fun s1 => [some (.v (D.int v_width)), some (.v ((eL (eT2 D.int D.int)) v_runs)), some (.o none (oDcl D.int s1.1)), some (.o none (oDc D.int s1.2.1)), some (.v ((eO D.int) s1.2.2)), none, none, none]) (i_enum (e := (eT2 D.int D.int)) (xs := v_runs) (d_cons (e_var rfl) d_nil) rfl) (by walk_at "wd") hs1 (fun s1 x2 s_ hx hm => ?_)) ?_
      · refine ⟨_, _, (g_tup2 (g_name (i := 5)) (g_name (i := 6))), ?_, .inl rfl⟩
        obtain ⟨t3, ht3, hm⟩ := R.inv hm
        refine x_seqIf (t_not (t_tB (e_call (a_v (e_var rfl) (a_v (e_var rfl) a_nil)) (W_is_run ht3)))) (fun hb => ?_) (fun hb => ?_)
        · have hm := R.ifT hb hm
          nomatch hm
        · have hm := R.ifF hb hm
          refine x_seq x_next ?_
          obtain ⟨t4, ht4, hm⟩ := R.inv hm
          refine x_seq (μ1 := [some (.v (D.int v_width)), some (.v ((eL (eT2 D.int D.int)) v_runs)), some (.o none (oDcl D.int s1.1)), some (.o none (oDc D.int s1.2.1)), some (.v ((eO D.int) s1.2.2)), some (.v (D.int x2.1)), some (.v ((eT2 D.int D.int) x2.2)), some (.v (D.int t4))]) (x_set (e_div (e_p20 (b_of (e_var rfl)) e_int) (e_var rfl) ht4)) ?_
          obtain ⟨t6, ht6, hm⟩ := R.inv hm
          refine x_seqIf (t_or (r := t6) (μ2 := [some (.v (D.int v_width)), some (.v ((eL (eT2 D.int D.int)) v_runs)), some (.o none (oDcl D.int s1.1)), some (.o none (oDc D.int s1.2.1)), some (.v ((eO D.int) s1.2.2)), some (.v (D.int x2.1)), some (.v ((eT2 D.int D.int) x2.2)), some (.v (D.int t4))]) (t_test (e_eqV (e := (eO D.int)) (x := (some t4)) (y := s1.2.2) EqT.optI (by decide) (e_var rfl) (e_var rfl))) (fun hb => by have hm := R.ifF hb ht6; obtain ⟨t5, ht5, hm⟩ := R.inv hm; obtain rfl := R.ok.inj hm; exact (t_test (e_neV (e := D.int) (x := x2.2.1) (y := ((lookZ s1.2.1 t4).getD t5)) EqT.int (by decide) (e_p20 (b_of (e_var rfl)) e_int) (e_dget2 (e := D.int) (z := t5) (b_ownD rfl) rfl (e_var rfl) (e_mul (e_var rfl) (e_var rfl) ht5))))) (fun hb => by have hm := R.ifT hb ht6; obtain rfl := R.ok.inj hm; exact ⟨rfl, rfl⟩)) (fun hb => ?_) (fun hb => ?_)
          · have hm := R.ifT hb hm
            nomatch hm
          · have hm := R.ifF hb hm
            refine x_seq x_next ?_
            obtain ⟨t7, ht7, hm⟩ := R.inv hm
            refine x_seq (μ1 := [some (.v (D.int v_width)), some (.v ((eL (eT2 D.int D.int)) v_runs)), some (.o none (oDcl D.int t7)), some (.o none (oDc D.int s1.2.1)), some (.v ((eO D.int) s1.2.2)), some (.v (D.int x2.1)), some (.v ((eT2 D.int D.int) x2.2)), some (.v (D.int t4))]) (x_sdapp (e := D.int) (x := x2.1) rfl (e_var rfl) (e_var rfl) ht7) ?_
            obtain ⟨t8, ht8, hm⟩ := R.inv hm
            refine x_seq (μ1 := [some (.v (D.int v_width)), some (.v ((eL (eT2 D.int D.int)) v_runs)), some (.o none (oDcl D.int t7)), some (.o none (oDc D.int t8)), some (.v ((eO D.int) s1.2.2)), some (.v (D.int x2.1)), some (.v ((eT2 D.int D.int) x2.2)), some (.v (D.int t4))]) (x_dput (e := D.int) (x := (x2.2.1 + x2.2.2)) (e_add (e_p20 (b_of (e_var rfl)) e_int) (e_p21 (b_of (e_var rfl)) e_int)) rfl (e_var rfl) ht8) ?_
            obtain rfl := R.ok.inj hm
            exact x_out (x_set (e_var rfl)) (by walk_at "wk")
      have hm := hm1
      obtain rfl := R.ok.inj hm
      exact x_outR (x_retS rfl) (by walk_at "wd")
theorem c_grouped (T : Tx K mg) : Cal P w K mg base 3 "grouped" ["width", "runs"] (spOf K (ctOf (C_grouped K) noX)) := by
  obtain ⟨fd, F⟩ := T.d_grouped
  exact ⟨⟨fd, f_grouped T F, F.bindsN fun _ _ _ _ _ _ us hl => match us, hl with | [_, _], _ => rfl⟩, T.g_grouped, F.kp⟩
def C_check_order (K : PySem.W.Frag) : FC := fun cs r cs' => ∃ (v_found : (List (Int × (List Int)))) (res : Unit), cs = [.o none (oDc (eL D.int) v_found)] ∧ r = (.v (eN res)) ∧ cs' = [.o none (oDc (eL D.int) v_found)] ∧ m_check_order_7 v_found = .ok res
theorem W_check_order {v_found : (List (Int × (List Int)))} {res : Unit} (h : m_check_order_7 v_found = .ok res) : C_check_order K [.o none (oDc (eL D.int) v_found)] (.v (eN res)) [.o none (oDc (eL D.int) v_found)] := ⟨v_found, res, rfl, rfl, rfl, h⟩

abbrev N_check_order : List Str := ["found", "due", "place"]
theorem sc_check_order : FnScope N_check_order ["found"] (defScope s_check_order) := ⟨rfl, rfl, rfl, by decide +kernel, rfl, by decide +kernel, by decide +kernel⟩
theorem f_check_order (T : Tx K mg) {fd : FuncData} (F : FunD K "check_order" "check_order" (defArgs s_check_order) (defBody s_check_order) (defScope s_check_order) [] [] (He.ga K "check_order") fd) : FnG P w K mg base (L2.CX P w) 1 (He.ga K "check_order") fd ["found"] (spOf K (ctOf (C_check_order K) noX)) := by
  have nd := (sc_check_order).nd
  refine F.okG sc_check_order (sp_len (ctOf_len fun _ _ _ h => by obtain ⟨_, _, rfl, _, _, _⟩ := h; rfl)) (fun cdv A outer s H vs Q E hr h => ?_)
  refine ⟨_, PSs.nox ((pss_one (ps_lock (ps_for PassesOwn.never rfl (pi_enumK rfl T.n_enumerate (pa_cons (pv 0) pa_nil)) (pg_tup rfl (pgs_cons (pg_name (i := 1) nd rfl (Or.inl rfl)) (pgs_cons (pg_name (i := 2) nd rfl (Or.inl rfl)) pgs_nil))) (pss_one (ps_if (pt_cmpR (op_neD hr.units) (pv 2) (pv 1) (nomark _)) (pss_one ps_never) pss_nil)))))), ?_⟩
  refine fn_x [none, none] [none, none] rfl (fun cs r cs' hc => ?_) vs H Q E h
  obtain ⟨v_found, res, rfl, rfl, rfl, hm⟩ := hc
  refine ⟨⟨Nat.le_of_ble_eq_true rfl, rfl⟩, (.o .nil), fun ad => .inr ⟨rfl, ?_⟩⟩
  · change XS _ _ [some (.o (some (ad 0)) (oDc (eL D.int) v_found)), none, none] (.nx [some (.o (some (ad 0)) (oDc (eL D.int) v_found)), none, none])
    unfold m_check_order_7 at hm
    obtain ⟨s1, hs1, hm1⟩ := R.inv hm
    have hm := hm1
    obtain rfl := R.ok.inj hm
    refine x_out (μ1 := [some (.o (some (ad 0)) (oDc (eL D.int) v_found)), none, none]) (x_lock (i := 0) (e := (eL D.int)) rfl (fun la lo lw => x_forRS (s1 := s1) (e := (eT2 D.int D.int)) (J := fun s1 => [some (.o (some la) (olDc lo lw (eL D.int) v_found)), none, none]) (i_enumK rfl) (by walk_at "wd") (fun _ => sl_ok rfl) hs1 (fun s1 x2 s_ hx hm => ?_)) (fun _ _ _ => rfl) (fun _ _ _ => rfl)) (by walk_at "wk")
    · refine ⟨_, _, (g_tup2 (g_name (i := 1)) (g_name (i := 2))), ?_, .inl rfl⟩
      refine x_if (t_test (e_neV (e := D.int) (x := x2.2) (y := x2.1) EqT.int (by decide) (e_var rfl) (e_var rfl))) (fun hb => ?_) (fun hb => ?_)
      · have hm := R.ifT hb hm
        nomatch hm
      · have hm := R.ifF hb hm
        obtain rfl := R.ok.inj hm
        exact x_out x_next (by walk_at "wk")
theorem c_check_order (T : Tx K mg) : Cal P w K mg base 1 "check_order" ["found"] (spOf K (ctOf (C_check_order K) noX)) := by
  obtain ⟨fd, F⟩ := T.d_check_order
  exact ⟨⟨fd, f_check_order T F, F.bindsN fun _ _ _ _ _ _ us hl => match us, hl with | [_], _ => rfl⟩, T.g_check_order, F.kp⟩
def C_Log___init__ (K : PySem.W.Frag) : FC := fun cs r cs' => ∃ (v_size : Int) (v_runs : (List (Int × Int))) (v_early : Bool) (res : LogM), cs = [.o none (.inl (He.ga K "Log") []), .v (D.int v_size), .v ((eL (eT2 D.int D.int)) v_runs), .v (D.bl v_early)] ∧ r = (.v .non) ∧ cs' = [.o none (iLog (He.ga K "Log") res), .v (D.int v_size), .v ((eL (eT2 D.int D.int)) v_runs), .v (D.bl v_early)] ∧ m_Log___init___10 v_size v_runs v_early = .ok res
theorem W_Log___init__ {v_size : Int} {v_runs : (List (Int × Int))} {v_early : Bool} {res : LogM} (h : m_Log___init___10 v_size v_runs v_early = .ok res) : C_Log___init__ K [.o none (.inl (He.ga K "Log") []), .v (D.int v_size), .v ((eL (eT2 D.int D.int)) v_runs), .v (D.bl v_early)] (.v .non) [.o none (iLog (He.ga K "Log") res), .v (D.int v_size), .v ((eL (eT2 D.int D.int)) v_runs), .v (D.bl v_early)] := ⟨v_size, v_runs, v_early, res, rfl, rfl, rfl, h⟩

abbrev N_Log___init__ : List Str := ["self", "size", "runs", "early", "found", "first", "count"]
theorem sc_Log___init__ : FnScope N_Log___init__ ["self", "size", "runs", "early"] (defScope s_Log___init__) := ⟨rfl, rfl, rfl, by decide +kernel, rfl, by decide +kernel, by decide +kernel⟩
theorem f_Log___init__ (T : Tx K mg) {fd : FuncData} (F : FunD K "__init__" "Log.__init__" (defArgs s_Log___init__) (defBody s_Log___init__) (defScope s_Log___init__) [] [("early", .bl false)] (He.fAd K ("Log", some "__init__")) fd) : FnG P w K mg base (L2.CX P w) 4 (He.fAd K ("Log", some "__init__")) fd ["self", "size", "runs", "early"] (spOf K (ctOf (C_Log___init__ K) noX)) := by
  have nd := (sc_Log___init__).nd
  refine F.okG sc_Log___init__ (sp_len (ctOf_len fun _ _ _ h => by obtain ⟨_, _, _, _, rfl, _, _, _⟩ := h; rfl)) (fun cdv A outer s H vs Q E hr h => ?_)
  refine ⟨_, PSs.nox ((pss_cons (ps_expr (pe_callC (c_check_size T) (hr.mono (by decide)) rfl (pa_cons (pv 1) pa_nil)))
    (pss_cons (ps_set (i := 4) nd rfl (Or.inl rfl) (pe_callC (c_grouped T) (hr.mono (by decide)) rfl (pa_cons (pv 1) (pa_cons (pv 2) pa_nil))))
    (pss_cons (ps_if (pt_not (pt_val (pe_callB call_isi rfl T.n_isinstance (by decide +kernel) (pa_cons (pv 3) (pa_cons (pe_ty (n := "bool") rfl T.n_bool (by decide +kernel)) pa_nil))))) (pss_one ps_never) pss_nil)
    (pss_cons (ps_if (pt_not (pt_val (pv 3))) (pss_one (ps_expr (pe_callC (c_check_order T) (hr.mono (by decide)) rfl (pa_cons (pv 4) pa_nil)))) pss_nil)
    (pss_cons (ps_fld (pv 0) (pv 1) rfl)
    (pss_cons (ps_fld (pv 0) (pe_callTy c_list rfl T.n_list (by decide +kernel) (pa_cons (pv 2) pa_nil)) rfl)
    (pss_cons (ps_fld (pv 0) (pv 3) rfl)
    (pss_cons (ps_fld (pv 0) (pv 4) rfl)
    (pss_cons (ps_fld (pv 0) (pe_lst (pa_cons pe_int pa_nil)) rfl)
    (pss_one (ps_for PassesOwn.never rfl (pi_list (pv 2)) (pg_tup rfl (pgs_cons (pg_name (i := 5) nd rfl (Or.inl rfl)) (pgs_cons (pg_name (i := 6) nd rfl (Or.inl rfl)) pgs_nil))) (pss_one (ps_expr (pe_bm PySem.F.plainAttrs_list PySem.F.slot_list_append PySem.F.type_list_append mt_append (pe_fld (pv 0) rfl) (pa_cons (pe_op op_add (pe_ix ix_seq (pe_fld (pv 0) rfl) (pe_un un_neg pe_int) (fun _ _ => rfl)) (pv 6)) pa_nil)))))))))))))))), ?_⟩
  refine fn_x [none, none, none] [none, none, none] rfl (fun cs r cs' hc => ?_) vs H Q E h
  obtain ⟨v_size, v_runs, v_early, res, rfl, rfl, rfl, hm⟩ := hc
  refine ⟨⟨Nat.le_of_ble_eq_true rfl, rfl⟩, (.o (.v (.v (.v .nil)))), fun ad => .inr ⟨rfl, ?_⟩⟩
  · change XS _ _ [some (.o (some (ad 0)) (.inl (He.ga K "Log") [])), some (.v (D.int v_size)), some (.v ((eL (eT2 D.int D.int)) v_runs)), some (.v (D.bl v_early)), none, none, none] (.nx [some (.o (some (ad 0)) (iLog (He.ga K "Log") res)), none, none, none, none, none, none])
    unfold m_Log___init___10 at hm
    obtain ⟨t1, ht1, hm⟩ := R.inv hm
    refine x_seq (μ1 := [some (.o (some (ad 0)) (.inl (He.ga K "Log") [])), some (.v (D.int v_size)), some (.v ((eL (eT2 D.int D.int)) v_runs)), some (.v (D.bl v_early)), none, none, none]) (x_drop (e_call (a_v (e_var rfl) a_nil) (W_check_size ht1))) ?_
    obtain ⟨t2, ht2, hm⟩ := R.inv hm
    refine x_seq (μ1 := [some (.o (some (ad 0)) (.inl (He.ga K "Log") [])), some (.v (D.int v_size)), some (.v ((eL (eT2 D.int D.int)) v_runs)), some (.v (D.bl v_early)), some (.o none (oDc (eL D.int) t2)), none, none]) (x_setO (o_inF (o_call (a_v (e_var rfl) (a_v (e_var rfl) a_nil)) (W_grouped ht2)))) ?_
    refine x_seqIf (t_not (t_tB (e_isi (n := "bool") (p := true) (b_of (e_var rfl)) rfl))) (fun hb => ?_) (fun hb => ?_)
    · have hm := R.ifT hb hm
      nomatch hm
    · have hm := R.ifF hb hm
      refine x_seq x_next ?_
      obtain ⟨s3, hs3, hm1⟩ := R.inv hm
      refine x_seq (μ1 := [some (.o (some (ad 0)) (.inl (He.ga K "Log") [])), some (.v (D.int v_size)), some (.v ((eL (eT2 D.int D.int)) v_runs)), some (.v (D.bl v_early)), some (.o none (oDc (eL D.int) t2)), none, none]) ?_ ?_
      · have hm := hs3
        refine x_if (t_not (t_tB (e_var rfl))) (fun hb => ?_) (fun hb => ?_)
        · have hm := R.ifT hb hm
          obtain ⟨t4, ht4, hm⟩ := R.inv hm
          obtain rfl := R.ok.inj hm
          exact x_out (x_drop (e_call (a_s rfl a_nil rfl) (W_check_order ht4))) (by walk_at "wk")
        · have hm := R.ifF hb hm
          obtain rfl := R.ok.inj hm
          exact x_out x_next (by walk_at "wk")
      have hm := hm1
      refine x_seq (μ1 := [some (.o (some (ad 0)) (.inl (He.ga K "Log") [("width", .v (D.int v_size))])), some (.v (D.int v_size)), some (.v ((eL (eT2 D.int D.int)) v_runs)), some (.v (D.bl v_early)), some (.o none (oDc (eL D.int) t2)), none, none]) (x_fldN (e_var rfl) rfl T.cl_Log T.na_Log_width rfl rfl) ?_
      refine x_seq (μ1 := [some (.o (some (ad 0)) (.inl (He.ga K "Log") [("width", .v (D.int v_size)), ("listed", .v ((eL (eT2 D.int D.int)) v_runs))])), some (.v (D.int v_size)), some (.v ((eL (eT2 D.int D.int)) v_runs)), some (.v (D.bl v_early)), some (.o none (oDc (eL D.int) t2)), none, none]) (x_fldN (e_frz (e_list (e := (eT2 D.int D.int)) (xs := v_runs) (b_of (e_var rfl)) rfl)) rfl T.cl_Log T.na_Log_listed rfl rfl) ?_
      refine x_seq (μ1 := [some (.o (some (ad 0)) (.inl (He.ga K "Log") [("width", .v (D.int v_size)), ("listed", .v ((eL (eT2 D.int D.int)) v_runs)), ("fetches_early", .v (D.bl v_early))])), some (.v (D.int v_size)), some (.v ((eL (eT2 D.int D.int)) v_runs)), some (.v (D.bl v_early)), some (.o none (oDc (eL D.int) t2)), none, none]) (x_fldN (e_var rfl) rfl T.cl_Log T.na_Log_fetches_early rfl rfl) ?_
      refine x_wk (μ1 := [some (.o (some (ad 0)) (.inl (He.ga K "Log") [("width", .v (D.int v_size)), ("listed", .v ((eL (eT2 D.int D.int)) v_runs)), ("fetches_early", .v (D.bl v_early))])), some (.v (D.int v_size)), some (.v ((eL (eT2 D.int D.int)) v_runs)), some (.v (D.bl v_early)), some (.v ((eDc (eL D.int)) t2)), none, none]) (by walk_at "wk") ?_
      refine x_seq (μ1 := [some (.o (some (ad 0)) (.inl (He.ga K "Log") [("width", .v (D.int v_size)), ("listed", .v ((eL (eT2 D.int D.int)) v_runs)), ("fetches_early", .v (D.bl v_early)), ("indices", .v ((eDc (eL D.int)) t2))])), some (.v (D.int v_size)), some (.v ((eL (eT2 D.int D.int)) v_runs)), some (.v (D.bl v_early)), some (.v ((eDc (eL D.int)) t2)), none, none]) (x_fldN (e_var rfl) rfl T.cl_Log T.na_Log_indices rfl rfl) ?_
      refine x_seq (μ1 := [some (.o (some (ad 0)) (.inl (He.ga K "Log") [("width", .v (D.int v_size)), ("listed", .v ((eL (eT2 D.int D.int)) v_runs)), ("fetches_early", .v (D.bl v_early)), ("indices", .v ((eDc (eL D.int)) t2)), ("positions", .c (.l (([0] : List Int).map D.int)))])), some (.v (D.int v_size)), some (.v ((eL (eT2 D.int D.int)) v_runs)), some (.v (D.bl v_early)), some (.v ((eDc (eL D.int)) t2)), none, none]) (x_fldL (e := D.int) (xs := ([0] : List Int)) (e_lst D.int ([0] : List Int) (d_cons e_int d_nil) (hl_ (n := 1) rfl (by decide))) rfl T.cl_Log T.na_Log_positions rfl rfl) ?_
      obtain ⟨s5, hs5, hm1⟩ := R.inv hm
      have hm := hm1
      obtain rfl := R.ok.inj hm
      refine x_out (μ1 := [some (.o (some (ad 0)) (.inl (He.ga K "Log") [("width", .v (D.int v_size)), ("listed", .v ((eL (eT2 D.int D.int)) v_runs)), ("fetches_early", .v (D.bl v_early)), ("indices", .v ((eDc (eL D.int)) t2)), ("positions", .c (.l (s5.map D.int)))])), some (.v (D.int v_size)), some (.v ((eL (eT2 D.int D.int)) v_runs)), some (.v (D.bl v_early)), some (.v ((eDc (eL D.int)) t2)), none, none]) (x_forR (s1 := s5) (e := (eT2 D.int D.int)) (J := fun s5 => [some (.o (some (ad 0)) (.inl (He.ga K "Log") [("width", .v (D.int v_size)), ("listed", .v ((eL (eT2 D.int D.int)) v_runs)), ("fetches_early", .v (D.bl v_early)), ("indices", .v ((eDc (eL D.int)) t2)), ("positions", .c (.l (s5.map D.int)))])), some (.v (D.int v_size)), some (.v ((eL (eT2 D.int D.int)) v_runs)), some (.v (D.bl v_early)), some (.v ((eDc (eL D.int)) t2)), none, none]) (i_list (e := (eT2 D.int D.int)) (xs := v_runs) (e_var rfl) rfl) (by walk_at "wd") hs5 (fun s5 x6 s_ hx hm => ?_)) (by walk_at "wk")
      · refine ⟨_, _, (g_tup2 (g_name (i := 5)) (g_name (i := 6))), ?_, .inl rfl⟩
        obtain ⟨t7, ht7, hm⟩ := R.inv hm
        obtain ⟨t8, ht8, hm⟩ := R.inv hm
        obtain rfl := R.ok.inj hm
        exact x_out (x_fapp (e := D.int) (x := (t7 + x6.2)) rfl rfl (e_add (e_fix (e := D.int) rfl rfl (e_neg e_int) T.cl_Log T.na_Log_positions ht7) (e_var rfl)) T.cl_Log T.na_Log_positions ht8 rfl) (by walk_at "wk")
theorem c_Log___init__ (T : Tx K mg) : CalN P w K mg base 4 "Log" 2 ["early"] [.bl false] ["self", "size", "runs", "early"] (spOf K (ctOf (C_Log___init__ K) noX)) := by
  obtain ⟨fd, F⟩ := T.d_Log___init__
  exact ⟨⟨fd, f_Log___init__ T F, F.binds0 3 (by decide) rfl (fun _ _ _ _ _ _ us ks hl h2 => match us, ks, hl, h2 with | [_, _, _], [_], _, _ => ⟨_, _, _, _, _, _, rfl, rfl, rfl⟩), kbn_all 3 F (fun _ _ _ _ _ _ us ws hl h2 => match us, ws, hl, h2 with | [_, _, _], [_], _, _ => rfl)⟩, T.mk_Log, T.gc_Log⟩
def C_House_full_log (K : PySem.W.Frag) : FC := fun cs r cs' => ∃ (v_self : HouseM) (res : LogM), cs = [.o none (iHouse K v_self)] ∧ r = (.v ((eLog (He.ga K "Log")) res)) ∧ cs' = [.o none (iHouse K v_self)] ∧ m_House_full_log_1 v_self = .ok res
theorem W_House_full_log {v_self : HouseM} {res : LogM} (h : m_House_full_log_1 v_self = .ok res) : C_House_full_log K [.o none (iHouse K v_self)] (.v ((eLog (He.ga K "Log")) res)) [.o none (iHouse K v_self)] := ⟨v_self, res, rfl, rfl, rfl, h⟩

abbrev N_House_full_log : List Str := ["self"]
theorem sc_House_full_log : FnScope N_House_full_log ["self"] (defScope s_House_full_log) := ⟨rfl, rfl, rfl, by decide +kernel, rfl, by decide +kernel, by decide +kernel⟩
theorem f_House_full_log (T : Tx K mg) {fd : FuncData} (F : FunD K "full_log" "House.full_log" (defArgs s_House_full_log) (defBody s_House_full_log) (defScope s_House_full_log) [] [] (He.fAd K ("House", some "full_log")) fd) : FnG P w K mg base (L2.CX P w) 6 (He.fAd K ("House", some "full_log")) fd ["self"] (spOf K (ctOf (C_House_full_log K) noX)) := by
  have nd := (sc_House_full_log).nd
  refine F.okG sc_House_full_log (sp_len (ctOf_len fun _ _ _ h => by obtain ⟨_, _, rfl, _, _, _⟩ := h; rfl)) (fun cdv A outer s H vs Q E hr h => ?_)
  refine ⟨_, PSs.nox ((pss_one (ps_ret (pe_makeC (c_Log___init__ T) (hr.mono (by decide)) rfl (pa_cons (pe_fld (pv 0) rfl) (pa_cons (pe_fld (pe_ix ix_seq (pe_fld (pv 0) rfl) (pe_un un_neg pe_int) (fun _ _ => rfl)) rfl) pa_nil)))))), ?_⟩
  refine fn_x [] [] rfl (fun cs r cs' hc => ?_) vs H Q E h
  obtain ⟨v_self, res, rfl, rfl, rfl, hm⟩ := hc
  refine ⟨⟨Nat.le_of_ble_eq_true rfl, rfl⟩, (.o .nil), fun ad => .inl ?_⟩
  · change XS _ _ [some (.o (some (ad 0)) (iHouse K v_self))] (.rt (.v ((eLog (He.ga K "Log")) res)) [some (.o (some (ad 0)) (iHouse K v_self))])
    unfold m_House_full_log_1 at hm
    obtain ⟨t1, ht1, hm⟩ := R.inv hm
    obtain ⟨t2, ht2, hm⟩ := R.inv hm
    obtain rfl := R.ok.inj hm
    exact x_outR (x_ret (e_frz (o_make (c := iLog (He.ga K "Log") t2) (cs' := [.v (D.int v_self.width), .v ((eL (eT2 D.int D.int)) t1.issues)]) (.cons (fun _ => .bl _) .nil) (a_v (e_fldO rfl rfl T.cl_House T.na_House_width) (a_v (e_fld (e_ix (e := (eState (He.ga K "State"))) (xs := v_self.states) (b_fldL rfl rfl T.cl_House T.na_House_states) rfl (e_neg e_int) ht1) T.cl_State T.na_State_issues rfl) a_nil)) (W_Log___init__ ht2)))) (by walk_at "wd")
theorem c_House_full_log (T : Tx K mg) : CalO P w K mg base 6 "House" "full_log" ["self"] (spOf K (ctOf (C_House_full_log K) noX)) := by
  obtain ⟨fd, F⟩ := T.d_House_full_log
  exact ⟨⟨fd, f_House_full_log T F, F.bindsN fun _ _ _ _ _ _ us hl => match us, hl with | [_], _ => rfl⟩, T.m_House_full_log, T.cl_House⟩
def C_grouped__O (K : PySem.W.Frag) : FC := fun cs r cs' => ∃ (v_width : Int) (v_runs : (List (Int × Int))) (res : (List (Int × (List Int)))), cs = [.v (D.int v_width), .o none (oL (eT2 D.int D.int) v_runs)] ∧ r = (.o none (oDcl D.int res)) ∧ cs' = [.v (D.int v_width), .o none (oL (eT2 D.int D.int) v_runs)] ∧ m_grouped__O_1 v_width v_runs = .ok res
theorem W_grouped__O {v_width : Int} {v_runs : (List (Int × Int))} {res : (List (Int × (List Int)))} (h : m_grouped__O_1 v_width v_runs = .ok res) : C_grouped__O K [.v (D.int v_width), .o none (oL (eT2 D.int D.int) v_runs)] (.o none (oDcl D.int res)) [.v (D.int v_width), .o none (oL (eT2 D.int D.int) v_runs)] := ⟨v_width, v_runs, res, rfl, rfl, rfl, h⟩

abbrev N_grouped__O : List Str := ["width", "runs", "found", "following", "last", "at", "run", "place"]
theorem sc_grouped__O : FnScope N_grouped__O ["width", "runs"] (defScope s_grouped) := ⟨rfl, rfl, rfl, by decide +kernel, rfl, by decide +kernel, by decide +kernel⟩
theorem f_grouped__O (T : Tx K mg) {fd : FuncData} (F : FunD K "grouped" "grouped" (defArgs s_grouped) (defBody s_grouped) (defScope s_grouped) [] [] (He.ga K "grouped") fd) : FnG P w K mg base (L2.CX P w) 3 (He.ga K "grouped") fd ["width", "runs"] (spOf K (ctOf (C_grouped__O K) noX)) := by
  have nd := (sc_grouped__O).nd
  refine F.okG sc_grouped__O (sp_len (ctOf_len fun _ _ _ h => by obtain ⟨_, _, _, rfl, _, _, _⟩ := h; rfl)) (fun cdv A outer s H vs Q E hr h => ?_)
  refine ⟨_, PSs.nox ((pss_cons (ps_if (PW.pt (pw_or (pt_not (pt_val (pe_callB call_isi rfl T.n_isinstance (by decide +kernel) (pa_cons (pv 1) (pa_cons (pe_ty (n := "list") rfl T.n_list (by decide +kernel)) pa_nil))))) (pw_or1 (pt_cmpR op_gt (pe_callB c_len rfl T.n_len (by decide +kernel) (pa_cons (pv 1) pa_nil)) (pe_globI rfl T.k_MOST_RUNS) (nomark _))))) (pss_one ps_never) pss_nil)
    (pss_cons (ps_set (i := 2) nd rfl (Or.inl rfl) pe_dnewK)
    (pss_cons (ps_set (i := 3) nd rfl (Or.inl rfl) pe_dnewK)
    (pss_cons (ps_set (i := 4) nd rfl (Or.inl rfl) pe_non)
    (pss_cons (ps_for PassesOwn.never rfl (pi_enum rfl T.n_enumerate (pa_cons (pv 1) pa_nil)) (pg_tup rfl (pgs_cons (pg_name (i := 5) nd rfl (Or.inl rfl)) (pgs_cons (pg_name (i := 6) nd rfl (Or.inl rfl)) pgs_nil))) (pss_cons (ps_if (pt_not (pt_val (pe_callC (c_is_run T) (hr.mono (by decide)) rfl (pa_cons (pv 6) (pa_cons (pv 0) pa_nil))))) (pss_one ps_never) pss_nil)
    (pss_cons (ps_set (i := 7) nd rfl (Or.inl rfl) (pe_op op_fdivW (pe_ix ix_seq (pv 6) pe_int (fun _ _ => rfl)) (pv 0)))
    (pss_cons (ps_if (PW.pt (pw_or (pt_cmpR (op_eqD hr.units) (pv 7) (pv 4) (nomark _)) (pw_or1 (pt_cmpR (op_neD hr.units) (pe_ix ix_seq (pv 6) pe_int (fun _ _ => rfl)) (pe_dget2 (hu_of hr.toRoom) (pv 3) (pv 7) (pe_op op_mulA (pv 7) (pv 0)) ⟨by rfl, by rfl, by rfl, by rfl⟩) (nomark _))))) (pss_one ps_never) pss_nil)
    (pss_cons (ps_expr (pe_bm PySem.F.plainAttrs_list PySem.F.slot_list_append PySem.F.type_list_append mt_append (pe_dsetd (pv 2) (pv 7) (pe_lst pa_nil) ⟨by rfl, by rfl, by rfl, by rfl⟩) (pa_cons (pv 5) pa_nil)))
    (pss_cons (ps_dput (hu_of hr.toRoom) (pv 3) (pv 7) (pe_op op_add (pe_ix ix_seq (pv 6) pe_int (fun _ _ => rfl)) (pe_ix ix_seq (pv 6) pe_int (fun _ _ => rfl))) rfl)
    (pss_one (ps_set (i := 4) nd rfl (Or.inl rfl) (pv 7)))))))))
    (pss_one (ps_ret (pv 2))))))))), ?_⟩
  refine fn_x [none, none, none, none, none, none] [none, none, none, none, none, none] rfl (fun cs r cs' hc => ?_) vs H Q E h
  obtain ⟨v_width, v_runs, res, rfl, rfl, rfl, hm⟩ := hc
  refine ⟨⟨Nat.le_of_ble_eq_true rfl, rfl⟩, (.v (.o .nil)), fun ad => .inl ?_⟩
  · change XS _ _ [some (.v (D.int v_width)), some (.o (some (ad 1)) (oL (eT2 D.int D.int) v_runs)), none, none, none, none, none, none] (.rt (.o none (oDcl D.int res)) [none, some (.o (some (ad 1)) (oL (eT2 D.int D.int) v_runs)), none, none, none, none, none, none])
    unfold m_grouped__O_1 at hm
    refine x_seqIf (t_orP (t_not (t_tB (e_isi (n := "list") (p := true) (b_ownL rfl) rfl))) (t_test (e_gt (e_len (e := (eT2 D.int D.int)) (xs := v_runs) (b_ownL rfl) rfl) e_int))) (fun hb => ?_) (fun hb => ?_)
    · have hm := R.ifT hb hm
      nomatch hm
    · have hm := R.ifF hb hm
      refine x_seq x_next ?_
      refine x_seq (μ1 := [some (.v (D.int v_width)), some (.o (some (ad 1)) (oL (eT2 D.int D.int) v_runs)), some (.o none (oDcl D.int ([] : (List (Int × (List Int)))))), none, none, none, none, none]) (x_setO (e_dnewL D.int)) ?_
      refine x_seq (μ1 := [some (.v (D.int v_width)), some (.o (some (ad 1)) (oL (eT2 D.int D.int) v_runs)), some (.o none (oDcl D.int ([] : (List (Int × (List Int)))))), some (.o none (oDc D.int ([] : (List (Int × Int))))), none, none, none, none]) (x_setO (e_dnew D.int)) ?_
      refine x_seq (μ1 := [some (.v (D.int v_width)), some (.o (some (ad 1)) (oL (eT2 D.int D.int) v_runs)), some (.o none (oDcl D.int ([] : (List (Int × (List Int)))))), some (.o none (oDc D.int ([] : (List (Int × Int))))), some (.v ((eO D.int) none)), none, none, none]) (x_set e_non) ?_
      obtain ⟨s1, hs1, hm1⟩ := R.inv hm
      refine x_seq (μ1 := [some (.v (D.int v_width)), some (.o (some (ad 1)) (oL (eT2 D.int D.int) v_runs)), some (.o none (oDcl D.int s1.1)), some (.o none (oDc D.int s1.2.1)), some (.v ((eO D.int) s1.2.2)), none, none, none]) (x_forRS (s1 := s1) (e := (eT2 D.int (eT2 D.int D.int))) (J := fun s1 => [some (.v (D.int v_width)), some (.o (some (ad 1)) (oL (eT2 D.int D.int) v_runs)), some (.o none (oDcl D.int s1.1)), some (.o none (oDc D.int s1.2.1)), some (.v ((eO D.int) s1.2.2)), none, none, none]) (i_enumO rfl) (by walk_at "wd") (fun _ => so_ok rfl) hs1 (fun s1 x2 s_ hx hm => ?_)) ?_
      · refine ⟨_, _, (g_tup2 (g_name (i := 5)) (g_name (i := 6))), ?_, .inl rfl⟩
        obtain ⟨t3, ht3, hm⟩ := R.inv hm
        refine x_seqIf (t_not (t_tB (e_call (a_v (e_var rfl) (a_v (e_var rfl) a_nil)) (W_is_run ht3)))) (fun hb => ?_) (fun hb => ?_)
        · have hm := R.ifT hb hm
          nomatch hm
        · have hm := R.ifF hb hm
          refine x_seq x_next ?_
          obtain ⟨t4, ht4, hm⟩ := R.inv hm
          refine x_seq (μ1 := [some (.v (D.int v_width)), some (.o (some (ad 1)) (oL (eT2 D.int D.int) v_runs)), some (.o none (oDcl D.int s1.1)), some (.o none (oDc D.int s1.2.1)), some (.v ((eO D.int) s1.2.2)), some (.v (D.int x2.1)), some (.v ((eT2 D.int D.int) x2.2)), some (.v (D.int t4))]) (x_set (e_div (e_p20 (b_of (e_var rfl)) e_int) (e_var rfl) ht4)) ?_
          obtain ⟨t6, ht6, hm⟩ := R.inv hm
          refine x_seqIf (t_or (r := t6) (μ2 := [some (.v (D.int v_width)), some (.o (some (ad 1)) (oL (eT2 D.int D.int) v_runs)), some (.o none (oDcl D.int s1.1)), some (.o none (oDc D.int s1.2.1)), some (.v ((eO D.int) s1.2.2)), some (.v (D.int x2.1)), some (.v ((eT2 D.int D.int) x2.2)), some (.v (D.int t4))]) (t_test (e_eqV (e := (eO D.int)) (x := (some t4)) (y := s1.2.2) EqT.optI (by decide) (e_var rfl) (e_var rfl))) (fun hb => by have hm := R.ifF hb ht6; obtain ⟨t5, ht5, hm⟩ := R.inv hm; obtain rfl := R.ok.inj hm; exact (t_test (e_neV (e := D.int) (x := x2.2.1) (y := ((lookZ s1.2.1 t4).getD t5)) EqT.int (by decide) (e_p20 (b_of (e_var rfl)) e_int) (e_dget2 (e := D.int) (z := t5) (b_ownD rfl) rfl (e_var rfl) (e_mul (e_var rfl) (e_var rfl) ht5))))) (fun hb => by have hm := R.ifT hb ht6; obtain rfl := R.ok.inj hm; exact ⟨rfl, rfl⟩)) (fun hb => ?_) (fun hb => ?_)
          · have hm := R.ifT hb hm
            nomatch hm
          · have hm := R.ifF hb hm
            refine x_seq x_next ?_
            obtain ⟨t7, ht7, hm⟩ := R.inv hm
            refine x_seq (μ1 := [some (.v (D.int v_width)), some (.o (some (ad 1)) (oL (eT2 D.int D.int) v_runs)), some (.o none (oDcl D.int t7)), some (.o none (oDc D.int s1.2.1)), some (.v ((eO D.int) s1.2.2)), some (.v (D.int x2.1)), some (.v ((eT2 D.int D.int) x2.2)), some (.v (D.int t4))]) (x_sdapp (e := D.int) (x := x2.1) rfl (e_var rfl) (e_var rfl) ht7) ?_
            obtain ⟨t8, ht8, hm⟩ := R.inv hm
            refine x_seq (μ1 := [some (.v (D.int v_width)), some (.o (some (ad 1)) (oL (eT2 D.int D.int) v_runs)), some (.o none (oDcl D.int t7)), some (.o none (oDc D.int t8)), some (.v ((eO D.int) s1.2.2)), some (.v (D.int x2.1)), some (.v ((eT2 D.int D.int) x2.2)), some (.v (D.int t4))]) (x_dput (e := D.int) (x := (x2.2.1 + x2.2.2)) (e_add (e_p20 (b_of (e_var rfl)) e_int) (e_p21 (b_of (e_var rfl)) e_int)) rfl (e_var rfl) ht8) ?_
            obtain rfl := R.ok.inj hm
            exact x_out (x_set (e_var rfl)) (by walk_at "wk")
      have hm := hm1
      obtain rfl := R.ok.inj hm
      exact x_outR (x_retS rfl) (by walk_at "wd")
theorem c_grouped__O (T : Tx K mg) : Cal P w K mg base 3 "grouped" ["width", "runs"] (spOf K (ctOf (C_grouped__O K) noX)) := by
  obtain ⟨fd, F⟩ := T.d_grouped
  exact ⟨⟨fd, f_grouped__O T F, F.bindsN fun _ _ _ _ _ _ us hl => match us, hl with | [_, _], _ => rfl⟩, T.g_grouped, F.kp⟩
def C_Log__O___init__ (K : PySem.W.Frag) : FC := fun cs r cs' => ∃ (v_size : Int) (v_runs : (List (Int × Int))) (v_early : Bool) (res : LogM), cs = [.o none (.inl (He.ga K "Log") []), .v (D.int v_size), .o none (oL (eT2 D.int D.int) v_runs), .v (D.bl v_early)] ∧ r = (.v .non) ∧ cs' = [.o none (iLog (He.ga K "Log") res), .v (D.int v_size), .o none (oL (eT2 D.int D.int) v_runs), .v (D.bl v_early)] ∧ m_Log__O___init___2 v_size v_runs v_early = .ok res
theorem W_Log__O___init__ {v_size : Int} {v_runs : (List (Int × Int))} {v_early : Bool} {res : LogM} (h : m_Log__O___init___2 v_size v_runs v_early = .ok res) : C_Log__O___init__ K [.o none (.inl (He.ga K "Log") []), .v (D.int v_size), .o none (oL (eT2 D.int D.int) v_runs), .v (D.bl v_early)] (.v .non) [.o none (iLog (He.ga K "Log") res), .v (D.int v_size), .o none (oL (eT2 D.int D.int) v_runs), .v (D.bl v_early)] := ⟨v_size, v_runs, v_early, res, rfl, rfl, rfl, h⟩

abbrev N_Log__O___init__ : List Str := ["self", "size", "runs", "early", "found", "first", "count"]
theorem sc_Log__O___init__ : FnScope N_Log__O___init__ ["self", "size", "runs", "early"] (defScope s_Log___init__) := ⟨rfl, rfl, rfl, by decide +kernel, rfl, by decide +kernel, by decide +kernel⟩
theorem f_Log__O___init__ (T : Tx K mg) {fd : FuncData} (F : FunD K "__init__" "Log.__init__" (defArgs s_Log___init__) (defBody s_Log___init__) (defScope s_Log___init__) [] [("early", .bl false)] (He.fAd K ("Log", some "__init__")) fd) : FnG P w K mg base (L2.CX P w) 4 (He.fAd K ("Log", some "__init__")) fd ["self", "size", "runs", "early"] (spOf K (ctOf (C_Log__O___init__ K) noX)) := by
  have nd := (sc_Log__O___init__).nd
  refine F.okG sc_Log__O___init__ (sp_len (ctOf_len fun _ _ _ h => by obtain ⟨_, _, _, _, rfl, _, _, _⟩ := h; rfl)) (fun cdv A outer s H vs Q E hr h => ?_)
  refine ⟨_, PSs.nox ((pss_cons (ps_expr (pe_callC (c_check_size T) (hr.mono (by decide)) rfl (pa_cons (pv 1) pa_nil)))
    (pss_cons (ps_set (i := 4) nd rfl (Or.inl rfl) (pe_callC (c_grouped__O T) (hr.mono (by decide)) rfl (pa_cons (pv 1) (pa_cons (pv 2) pa_nil))))
    (pss_cons (ps_if (pt_not (pt_val (pe_callB call_isi rfl T.n_isinstance (by decide +kernel) (pa_cons (pv 3) (pa_cons (pe_ty (n := "bool") rfl T.n_bool (by decide +kernel)) pa_nil))))) (pss_one ps_never) pss_nil)
    (pss_cons (ps_if (pt_not (pt_val (pv 3))) (pss_one (ps_expr (pe_callC (c_check_order T) (hr.mono (by decide)) rfl (pa_cons (pv 4) pa_nil)))) pss_nil)
    (pss_cons (ps_fld (pv 0) (pv 1) rfl)
    (pss_cons (ps_fld (pv 0) (pe_callTy c_list rfl T.n_list (by decide +kernel) (pa_cons (pv 2) pa_nil)) rfl)
    (pss_cons (ps_fld (pv 0) (pv 3) rfl)
    (pss_cons (ps_fld (pv 0) (pv 4) rfl)
    (pss_cons (ps_fld (pv 0) (pe_lst (pa_cons pe_int pa_nil)) rfl)
    (pss_one (ps_for PassesOwn.never rfl (pi_list (pv 2)) (pg_tup rfl (pgs_cons (pg_name (i := 5) nd rfl (Or.inl rfl)) (pgs_cons (pg_name (i := 6) nd rfl (Or.inl rfl)) pgs_nil))) (pss_one (ps_expr (pe_bm PySem.F.plainAttrs_list PySem.F.slot_list_append PySem.F.type_list_append mt_append (pe_fld (pv 0) rfl) (pa_cons (pe_op op_add (pe_ix ix_seq (pe_fld (pv 0) rfl) (pe_un un_neg pe_int) (fun _ _ => rfl)) (pv 6)) pa_nil)))))))))))))))), ?_⟩
  refine fn_x [none, none, none] [none, none, none] rfl (fun cs r cs' hc => ?_) vs H Q E h
  obtain ⟨v_size, v_runs, v_early, res, rfl, rfl, rfl, hm⟩ := hc
  refine ⟨⟨Nat.le_of_ble_eq_true rfl, rfl⟩, (.o (.v (.o (.v .nil)))), fun ad => .inr ⟨rfl, ?_⟩⟩
  · change XS _ _ [some (.o (some (ad 0)) (.inl (He.ga K "Log") [])), some (.v (D.int v_size)), some (.o (some (ad 2)) (oL (eT2 D.int D.int) v_runs)), some (.v (D.bl v_early)), none, none, none] (.nx [some (.o (some (ad 0)) (iLog (He.ga K "Log") res)), none, some (.o (some (ad 2)) (oL (eT2 D.int D.int) v_runs)), none, none, none, none])
    unfold m_Log__O___init___2 at hm
    obtain ⟨t1, ht1, hm⟩ := R.inv hm
    refine x_seq (μ1 := [some (.o (some (ad 0)) (.inl (He.ga K "Log") [])), some (.v (D.int v_size)), some (.o (some (ad 2)) (oL (eT2 D.int D.int) v_runs)), some (.v (D.bl v_early)), none, none, none]) (x_drop (e_call (a_v (e_var rfl) a_nil) (W_check_size ht1))) ?_
    obtain ⟨t2, ht2, hm⟩ := R.inv hm
    refine x_seq (μ1 := [some (.o (some (ad 0)) (.inl (He.ga K "Log") [])), some (.v (D.int v_size)), some (.o (some (ad 2)) (oL (eT2 D.int D.int) v_runs)), some (.v (D.bl v_early)), some (.o none (oDc (eL D.int) t2)), none, none]) (x_setO (o_inF (o_call (a_v (e_var rfl) (a_s rfl a_nil rfl)) (W_grouped__O ht2)))) ?_
    refine x_seqIf (t_not (t_tB (e_isi (n := "bool") (p := true) (b_of (e_var rfl)) rfl))) (fun hb => ?_) (fun hb => ?_)
    · have hm := R.ifT hb hm
      nomatch hm
    · have hm := R.ifF hb hm
      refine x_seq x_next ?_
      obtain ⟨s3, hs3, hm1⟩ := R.inv hm
      refine x_seq (μ1 := [some (.o (some (ad 0)) (.inl (He.ga K "Log") [])), some (.v (D.int v_size)), some (.o (some (ad 2)) (oL (eT2 D.int D.int) v_runs)), some (.v (D.bl v_early)), some (.o none (oDc (eL D.int) t2)), none, none]) ?_ ?_
      · have hm := hs3
        refine x_if (t_not (t_tB (e_var rfl))) (fun hb => ?_) (fun hb => ?_)
        · have hm := R.ifT hb hm
          obtain ⟨t4, ht4, hm⟩ := R.inv hm
          obtain rfl := R.ok.inj hm
          exact x_out (x_drop (e_call (a_s rfl a_nil rfl) (W_check_order ht4))) (by walk_at "wk")
        · have hm := R.ifF hb hm
          obtain rfl := R.ok.inj hm
          exact x_out x_next (by walk_at "wk")
      have hm := hm1
      refine x_seq (μ1 := [some (.o (some (ad 0)) (.inl (He.ga K "Log") [("width", .v (D.int v_size))])), some (.v (D.int v_size)), some (.o (some (ad 2)) (oL (eT2 D.int D.int) v_runs)), some (.v (D.bl v_early)), some (.o none (oDc (eL D.int) t2)), none, none]) (x_fldN (e_var rfl) rfl T.cl_Log T.na_Log_width rfl rfl) ?_
      refine x_seq (μ1 := [some (.o (some (ad 0)) (.inl (He.ga K "Log") [("width", .v (D.int v_size)), ("listed", .v ((eL (eT2 D.int D.int)) v_runs))])), some (.v (D.int v_size)), some (.o (some (ad 2)) (oL (eT2 D.int D.int) v_runs)), some (.v (D.bl v_early)), some (.o none (oDc (eL D.int) t2)), none, none]) (x_fldN (e_frz (e_list (e := (eT2 D.int D.int)) (xs := v_runs) (b_ownL rfl) rfl)) rfl T.cl_Log T.na_Log_listed rfl rfl) ?_
      refine x_seq (μ1 := [some (.o (some (ad 0)) (.inl (He.ga K "Log") [("width", .v (D.int v_size)), ("listed", .v ((eL (eT2 D.int D.int)) v_runs)), ("fetches_early", .v (D.bl v_early))])), some (.v (D.int v_size)), some (.o (some (ad 2)) (oL (eT2 D.int D.int) v_runs)), some (.v (D.bl v_early)), some (.o none (oDc (eL D.int) t2)), none, none]) (x_fldN (e_var rfl) rfl T.cl_Log T.na_Log_fetches_early rfl rfl) ?_
      refine x_wk (μ1 := [some (.o (some (ad 0)) (.inl (He.ga K "Log") [("width", .v (D.int v_size)), ("listed", .v ((eL (eT2 D.int D.int)) v_runs)), ("fetches_early", .v (D.bl v_early))])), some (.v (D.int v_size)), some (.o (some (ad 2)) (oL (eT2 D.int D.int) v_runs)), some (.v (D.bl v_early)), some (.v ((eDc (eL D.int)) t2)), none, none]) (by walk_at "wk") ?_
      refine x_seq (μ1 := [some (.o (some (ad 0)) (.inl (He.ga K "Log") [("width", .v (D.int v_size)), ("listed", .v ((eL (eT2 D.int D.int)) v_runs)), ("fetches_early", .v (D.bl v_early)), ("indices", .v ((eDc (eL D.int)) t2))])), some (.v (D.int v_size)), some (.o (some (ad 2)) (oL (eT2 D.int D.int) v_runs)), some (.v (D.bl v_early)), some (.v ((eDc (eL D.int)) t2)), none, none]) (x_fldN (e_var rfl) rfl T.cl_Log T.na_Log_indices rfl rfl) ?_
      refine x_seq (μ1 := [some (.o (some (ad 0)) (.inl (He.ga K "Log") [("width", .v (D.int v_size)), ("listed", .v ((eL (eT2 D.int D.int)) v_runs)), ("fetches_early", .v (D.bl v_early)), ("indices", .v ((eDc (eL D.int)) t2)), ("positions", .c (.l (([0] : List Int).map D.int)))])), some (.v (D.int v_size)), some (.o (some (ad 2)) (oL (eT2 D.int D.int) v_runs)), some (.v (D.bl v_early)), some (.v ((eDc (eL D.int)) t2)), none, none]) (x_fldL (e := D.int) (xs := ([0] : List Int)) (e_lst D.int ([0] : List Int) (d_cons e_int d_nil) (hl_ (n := 1) rfl (by decide))) rfl T.cl_Log T.na_Log_positions rfl rfl) ?_
      obtain ⟨s5, hs5, hm1⟩ := R.inv hm
      have hm := hm1
      obtain rfl := R.ok.inj hm
      refine x_out (μ1 := [some (.o (some (ad 0)) (.inl (He.ga K "Log") [("width", .v (D.int v_size)), ("listed", .v ((eL (eT2 D.int D.int)) v_runs)), ("fetches_early", .v (D.bl v_early)), ("indices", .v ((eDc (eL D.int)) t2)), ("positions", .c (.l (s5.map D.int)))])), some (.v (D.int v_size)), some (.o (some (ad 2)) (oL (eT2 D.int D.int) v_runs)), some (.v (D.bl v_early)), some (.v ((eDc (eL D.int)) t2)), none, none]) (x_forRS (s1 := s5) (e := (eT2 D.int D.int)) (J := fun s5 => [some (.o (some (ad 0)) (.inl (He.ga K "Log") [("width", .v (D.int v_size)), ("listed", .v ((eL (eT2 D.int D.int)) v_runs)), ("fetches_early", .v (D.bl v_early)), ("indices", .v ((eDc (eL D.int)) t2)), ("positions", .c (.l (s5.map D.int)))])), some (.v (D.int v_size)), some (.o (some (ad 2)) (oL (eT2 D.int D.int) v_runs)), some (.v (D.bl v_early)), some (.v ((eDc (eL D.int)) t2)), none, none]) (i_listO rfl) (by walk_at "wd") (fun _ => so_ok rfl) hs5 (fun s5 x6 s_ hx hm => ?_)) (by walk_at "wk")
      · refine ⟨_, _, (g_tup2 (g_name (i := 5)) (g_name (i := 6))), ?_, .inl rfl⟩
        obtain ⟨t7, ht7, hm⟩ := R.inv hm
        obtain ⟨t8, ht8, hm⟩ := R.inv hm
        obtain rfl := R.ok.inj hm
        exact x_out (x_fapp (e := D.int) (x := (t7 + x6.2)) rfl rfl (e_add (e_fix (e := D.int) rfl rfl (e_neg e_int) T.cl_Log T.na_Log_positions ht7) (e_var rfl)) T.cl_Log T.na_Log_positions ht8 rfl) (by walk_at "wk")
theorem c_Log__O___init__ (T : Tx K mg) : CalN P w K mg base 4 "Log" 2 ["early"] [.bl false] ["self", "size", "runs", "early"] (spOf K (ctOf (C_Log__O___init__ K) noX)) := by
  obtain ⟨fd, F⟩ := T.d_Log___init__
  exact ⟨⟨fd, f_Log__O___init__ T F, F.binds0 3 (by decide) rfl (fun _ _ _ _ _ _ us ks hl h2 => match us, ks, hl, h2 with | [_, _, _], [_], _, _ => ⟨_, _, _, _, _, _, rfl, rfl, rfl⟩), kbn_all 3 F (fun _ _ _ _ _ _ us ws hl h2 => match us, ws, hl, h2 with | [_, _, _], [_], _, _ => rfl)⟩, T.mk_Log, T.gc_Log⟩
def C_Log_parts (K : PySem.W.Frag) : FC := fun cs r cs' => ∃ (v_self : LogM) (res : (Int × (List (Int × Int)) × Bool)), cs = [.v ((eLog (He.ga K "Log")) v_self)] ∧ r = (.v ((eT3 D.int (eL (eT2 D.int D.int)) D.bl) res)) ∧ cs' = [.v ((eLog (He.ga K "Log")) v_self)] ∧ m_Log_parts v_self = .ok res
theorem W_Log_parts {v_self : LogM} {res : (Int × (List (Int × Int)) × Bool)} (h : m_Log_parts v_self = .ok res) : C_Log_parts K [.v ((eLog (He.ga K "Log")) v_self)] (.v ((eT3 D.int (eL (eT2 D.int D.int)) D.bl) res)) [.v ((eLog (He.ga K "Log")) v_self)] := ⟨v_self, res, rfl, rfl, rfl, h⟩

abbrev N_Log_parts : List Str := ["self"]
theorem sc_Log_parts : FnScope N_Log_parts ["self"] (defScope s_Log_parts) := ⟨rfl, rfl, rfl, by decide +kernel, rfl, by decide +kernel, by decide +kernel⟩
theorem f_Log_parts (T : Tx K mg) {fd : FuncData} (F : FunD K "parts" "Log.parts" (defArgs s_Log_parts) (defBody s_Log_parts) (defScope s_Log_parts) [] [] (He.fAd K ("Log", some "parts")) fd) : FnG P w K mg base (L2.CX P w) 1 (He.fAd K ("Log", some "parts")) fd ["self"] (spOf K (ctOf (C_Log_parts K) noX)) := by
  have nd := (sc_Log_parts).nd
  refine F.okG sc_Log_parts (sp_len (ctOf_len fun _ _ _ h => by obtain ⟨_, _, rfl, _, _, _⟩ := h; rfl)) (fun cdv A outer s H vs Q E hr h => ?_)
  refine ⟨_, PSs.nox ((pss_one (ps_ret (pe_tup (pa_cons (pe_fld (pv 0) rfl) (pa_cons (pe_fld (pv 0) rfl) (pa_cons (pe_fld (pv 0) rfl) pa_nil))))))), ?_⟩
  refine fn_x [] [] rfl (fun cs r cs' hc => ?_) vs H Q E h
  obtain ⟨v_self, res, rfl, rfl, rfl, hm⟩ := hc
  refine ⟨⟨Nat.le_of_ble_eq_true rfl, rfl⟩, (.v .nil), fun ad => .inl ?_⟩
  · change XS _ _ [some (.v ((eLog (He.ga K "Log")) v_self))] (.rt (.v ((eT3 D.int (eL (eT2 D.int D.int)) D.bl) res)) [none])
    unfold m_Log_parts at hm
    obtain rfl := R.ok.inj hm
    exact x_outR (x_ret (e_tup3 (e := D.int) (x := v_self.width) (f := (eL (eT2 D.int D.int))) (y := v_self.listed) (g := D.bl) (z := v_self.fetches_early) (d_cons (e_Log_width (e_var rfl) T.cl_Log T.na_Log_width) (d_cons (e_Log_listed (e_var rfl) T.cl_Log T.na_Log_listed) (d_cons (e_Log_fetches_early (e_var rfl) T.cl_Log T.na_Log_fetches_early) d_nil))))) (by walk_at "wd")
theorem c_Log_parts (T : Tx K mg) : CalO P w K mg base 1 "Log" "parts" ["self"] (spOf K (ctOf (C_Log_parts K) noX)) := by
  obtain ⟨fd, F⟩ := T.d_Log_parts
  exact ⟨⟨fd, f_Log_parts T F, F.bindsN fun _ _ _ _ _ _ us hl => match us, hl with | [_], _ => rfl⟩, T.m_Log_parts, T.cl_Log⟩
def C_Log___eq__ (K : PySem.W.Frag) : FC := fun cs r cs' => ∃ (v_self : LogM) (v_other : LogM) (res : Bool), cs = [.v ((eLog (He.ga K "Log")) v_self), .v ((eLog (He.ga K "Log")) v_other)] ∧ r = (.v (D.bl res)) ∧ cs' = [.v ((eLog (He.ga K "Log")) v_self), .v ((eLog (He.ga K "Log")) v_other)] ∧ m_Log___eq__ v_self v_other = .ok res
theorem W_Log___eq__ {v_self : LogM} {v_other : LogM} {res : Bool} (h : m_Log___eq__ v_self v_other = .ok res) : C_Log___eq__ K [.v ((eLog (He.ga K "Log")) v_self), .v ((eLog (He.ga K "Log")) v_other)] (.v (D.bl res)) [.v ((eLog (He.ga K "Log")) v_self), .v ((eLog (He.ga K "Log")) v_other)] := ⟨v_self, v_other, res, rfl, rfl, rfl, h⟩

abbrev N_Log___eq__ : List Str := ["self", "other"]
theorem sc_Log___eq__ : FnScope N_Log___eq__ ["self", "other"] (defScope s_Log___eq__) := ⟨rfl, rfl, rfl, by decide +kernel, rfl, by decide +kernel, by decide +kernel⟩
theorem f_Log___eq__ (T : Tx K mg) {fd : FuncData} (F : FunD K "__eq__" "Log.__eq__" (defArgs s_Log___eq__) (defBody s_Log___eq__) (defScope s_Log___eq__) [] [] (He.fAd K ("Log", some "__eq__")) fd) : FnG P w K mg base (L2.CX P w) 2 (He.fAd K ("Log", some "__eq__")) fd ["self", "other"] (spOf K (ctOf (C_Log___eq__ K) noX)) := by
  have nd := (sc_Log___eq__).nd
  refine F.okG sc_Log___eq__ (sp_len (ctOf_len fun _ _ _ h => by obtain ⟨_, _, _, rfl, _, _, _⟩ := h; rfl)) (fun cdv A outer s H vs Q E hr h => ?_)
  refine ⟨_, PSs.nox ((pss_one (ps_ret (pe_and (pe_callB call_isi rfl T.n_isinstance (by decide +kernel) (pa_cons (pv 1) (pa_cons (pe_globC rfl T.gc_Log) pa_nil))) (pe_one (pe_cmpR (op_eqD hr.units) (pe_methC0 (c_Log_parts T) (hr.mono (by decide)) (pv 0)) (pe_methC0 (c_Log_parts T) (hr.mono (by decide)) (pv 1)) (nomark _))))))), ?_⟩
  refine fn_x [] [] rfl (fun cs r cs' hc => ?_) vs H Q E h
  obtain ⟨v_self, v_other, res, rfl, rfl, rfl, hm⟩ := hc
  refine ⟨⟨Nat.le_of_ble_eq_true rfl, rfl⟩, (.v (.v .nil)), fun ad => .inl ?_⟩
  · change XS _ _ [some (.v ((eLog (He.ga K "Log")) v_self)), some (.v ((eLog (He.ga K "Log")) v_other))] (.rt (.v (D.bl res)) [none, none])
    unfold m_Log___eq__ at hm
    obtain ⟨t3, ht3, hm⟩ := R.inv hm
    obtain rfl := R.ok.inj hm
    exact x_outR (x_ret (e_and (d := D.bl t3) (μ2 := [some (.v ((eLog (He.ga K "Log")) v_self)), some (.v ((eLog (He.ga K "Log")) v_other))]) (e_isiC T.ow_Log.i (e_var rfl) rfl) (fun hb => by have hm := R.ifT hb ht3; obtain ⟨t1, ht1, hm⟩ := R.inv hm; obtain ⟨t2, ht2, hm⟩ := R.inv hm; obtain rfl := R.ok.inj hm; exact (e_eqV (e := (eT3 D.int (eL (eT2 D.int D.int)) D.bl)) (x := t1) (y := t2) (EqT.tup3 EqT.int (EqT.lst (EqT.tup2 EqT.int EqT.int)) EqT.bl) (by decide) (e_meth (cs' := []) .nil (e_var rfl) rfl rfl a_nil (W_Log_parts ht1)) (e_meth (cs' := []) .nil (e_var rfl) rfl rfl a_nil (W_Log_parts ht2)))) (fun hb => by have hm := R.ifF hb ht3; obtain rfl := R.ok.inj hm; exact ⟨rfl, rfl⟩))) (by walk_at "wd")
theorem q_Log___eq__ (T : Tx K mg) : CalQ P w K mg base 2 "Log" ["self", "other"] (spOf K (ctOf (C_Log___eq__ K) noX)) := by
  obtain ⟨fd, F⟩ := T.d_Log___eq__
  exact ⟨⟨fd, f_Log___eq__ T F, F.bindsN fun _ _ _ _ _ _ us hl => match us, hl with | [_, _], _ => rfl⟩, T.ow_Log⟩
def C_House_owners (K : PySem.W.Frag) : FC := fun cs r cs' => ∃ (v_self : HouseM) (res : (List Int)), cs = [.o none (iHouse K v_self)] ∧ r = (.o none (oL D.int res)) ∧ cs' = [.o none (iHouse K v_self)] ∧ m_House_owners v_self = .ok res
theorem W_House_owners {v_self : HouseM} {res : (List Int)} (h : m_House_owners v_self = .ok res) : C_House_owners K [.o none (iHouse K v_self)] (.o none (oL D.int res)) [.o none (iHouse K v_self)] := ⟨v_self, res, rfl, rfl, rfl, h⟩

abbrev N_House_owners : List Str := ["self"]
theorem sc_House_owners : FnScope N_House_owners ["self"] (defScope s_House_owners) := ⟨rfl, rfl, rfl, by decide +kernel, rfl, by decide +kernel, by decide +kernel⟩
theorem f_House_owners (T : Tx K mg) {fd : FuncData} (F : FunD K "owners" "House.owners" (defArgs s_House_owners) (defBody s_House_owners) (defScope s_House_owners) [] [] (He.fAd K ("House", some "owners")) fd) : FnG P w K mg base (L2.CX P w) 1 (He.fAd K ("House", some "owners")) fd ["self"] (spOf K (ctOf (C_House_owners K) noX)) := by
  have nd := (sc_House_owners).nd
  refine F.okG sc_House_owners (sp_len (ctOf_len fun _ _ _ h => by obtain ⟨_, _, rfl, _, _, _⟩ := h; rfl)) (fun cdv A outer s H vs Q E hr h => ?_)
  refine ⟨_, PSs.nox ((pss_one (ps_ret (pe_callTy c_list rfl T.n_list (by decide +kernel) (pa_cons (pe_fld (pe_ix ix_seq (pe_fld (pv 0) rfl) (pe_un un_neg pe_int) (fun _ _ => rfl)) rfl) pa_nil))))), ?_⟩
  refine fn_x [] [] rfl (fun cs r cs' hc => ?_) vs H Q E h
  obtain ⟨v_self, res, rfl, rfl, rfl, hm⟩ := hc
  refine ⟨⟨Nat.le_of_ble_eq_true rfl, rfl⟩, (.o .nil), fun ad => .inl ?_⟩
  · change XS _ _ [some (.o (some (ad 0)) (iHouse K v_self))] (.rt (.o none (oL D.int res)) [some (.o (some (ad 0)) (iHouse K v_self))])
    unfold m_House_owners at hm
    obtain ⟨t1, ht1, hm⟩ := R.inv hm
    obtain rfl := R.ok.inj hm
    exact x_outR (x_retO (e_list (e := D.int) (xs := t1.takers) (b_of (e_fld (e_ix (e := (eState (He.ga K "State"))) (xs := v_self.states) (b_fldL rfl rfl T.cl_House T.na_House_states) rfl (e_neg e_int) ht1) T.cl_State T.na_State_takers rfl)) rfl)) (by walk_at "wd")
theorem c_House_owners (T : Tx K mg) : CalO P w K mg base 1 "House" "owners" ["self"] (spOf K (ctOf (C_House_owners K) noX)) := by
  obtain ⟨fd, F⟩ := T.d_House_owners
  exact ⟨⟨fd, f_House_owners T F, F.bindsN fun _ _ _ _ _ _ us hl => match us, hl with | [_], _ => rfl⟩, T.m_House_owners, T.cl_House⟩
def C_House_fetches (K : PySem.W.Frag) : FC := fun cs r cs' => ∃ (v_self : HouseM) (res : Int), cs = [.o none (iHouse K v_self)] ∧ r = (.v (D.int res)) ∧ cs' = [.o none (iHouse K v_self)] ∧ m_House_fetches v_self = .ok res
theorem W_House_fetches {v_self : HouseM} {res : Int} (h : m_House_fetches v_self = .ok res) : C_House_fetches K [.o none (iHouse K v_self)] (.v (D.int res)) [.o none (iHouse K v_self)] := ⟨v_self, res, rfl, rfl, rfl, h⟩

abbrev N_House_fetches : List Str := ["self"]
theorem sc_House_fetches : FnScope N_House_fetches ["self"] (defScope s_House_fetches) := ⟨rfl, rfl, rfl, by decide +kernel, rfl, by decide +kernel, by decide +kernel⟩
theorem f_House_fetches (T : Tx K mg) {fd : FuncData} (F : FunD K "fetches" "House.fetches" (defArgs s_House_fetches) (defBody s_House_fetches) (defScope s_House_fetches) [] [] (He.fAd K ("House", some "fetches")) fd) : FnG P w K mg base (L2.CX P w) 1 (He.fAd K ("House", some "fetches")) fd ["self"] (spOf K (ctOf (C_House_fetches K) noX)) := by
  have nd := (sc_House_fetches).nd
  refine F.okG sc_House_fetches (sp_len (ctOf_len fun _ _ _ h => by obtain ⟨_, _, rfl, _, _, _⟩ := h; rfl)) (fun cdv A outer s H vs Q E hr h => ?_)
  refine ⟨_, PSs.nox ((pss_one (ps_ret (pe_callB c_len rfl T.n_len (by decide +kernel) (pa_cons (pe_fld (pe_ix ix_seq (pe_fld (pv 0) rfl) (pe_un un_neg pe_int) (fun _ _ => rfl)) rfl) pa_nil))))), ?_⟩
  refine fn_x [] [] rfl (fun cs r cs' hc => ?_) vs H Q E h
  obtain ⟨v_self, res, rfl, rfl, rfl, hm⟩ := hc
  refine ⟨⟨Nat.le_of_ble_eq_true rfl, rfl⟩, (.o .nil), fun ad => .inl ?_⟩
  · change XS _ _ [some (.o (some (ad 0)) (iHouse K v_self))] (.rt (.v (D.int res)) [some (.o (some (ad 0)) (iHouse K v_self))])
    unfold m_House_fetches at hm
    obtain ⟨t1, ht1, hm⟩ := R.inv hm
    obtain rfl := R.ok.inj hm
    exact x_outR (x_ret (e_len (e := D.int) (xs := t1.takers) (b_of (e_fld (e_ix (e := (eState (He.ga K "State"))) (xs := v_self.states) (b_fldL rfl rfl T.cl_House T.na_House_states) rfl (e_neg e_int) ht1) T.cl_State T.na_State_takers rfl)) rfl)) (by walk_at "wd")
theorem c_House_fetches (T : Tx K mg) : CalO P w K mg base 1 "House" "fetches" ["self"] (spOf K (ctOf (C_House_fetches K) noX)) := by
  obtain ⟨fd, F⟩ := T.d_House_fetches
  exact ⟨⟨fd, f_House_fetches T F, F.bindsN fun _ _ _ _ _ _ us hl => match us, hl with | [_], _ => rfl⟩, T.m_House_fetches, T.cl_House⟩
def C_House_holding (K : PySem.W.Frag) : FC := fun cs r cs' => ∃ (v_self : HouseM) (v_client : Int) (res : (Option Int)), cs = [.o none (iHouse K v_self), .v (D.int v_client)] ∧ r = (.v ((eO D.int) res)) ∧ cs' = [.o none (iHouse K v_self), .v (D.int v_client)] ∧ m_House_holding_1 v_self v_client = .ok res
theorem W_House_holding {v_self : HouseM} {v_client : Int} {res : (Option Int)} (h : m_House_holding_1 v_self v_client = .ok res) : C_House_holding K [.o none (iHouse K v_self), .v (D.int v_client)] (.v ((eO D.int) res)) [.o none (iHouse K v_self), .v (D.int v_client)] := ⟨v_self, v_client, res, rfl, rfl, rfl, h⟩

abbrev N_House_holding : List Str := ["self", "client", "following"]
theorem sc_House_holding : FnScope N_House_holding ["self", "client"] (defScope s_House_holding) := ⟨rfl, rfl, rfl, by decide +kernel, rfl, by decide +kernel, by decide +kernel⟩
theorem f_House_holding (T : Tx K mg) {fd : FuncData} (F : FunD K "holding" "House.holding" (defArgs s_House_holding) (defBody s_House_holding) (defScope s_House_holding) [] [] (He.fAd K ("House", some "holding")) fd) : FnG P w K mg base (L2.CX P w) 4 (He.fAd K ("House", some "holding")) fd ["self", "client"] (spOf K (ctOf (C_House_holding K) noX)) := by
  have nd := (sc_House_holding).nd
  refine F.okG sc_House_holding (sp_len (ctOf_len fun _ _ _ h => by obtain ⟨_, _, _, rfl, _, _, _⟩ := h; rfl)) (fun cdv A outer s H vs Q E hr h => ?_)
  refine ⟨_, PSs.nox ((pss_cons (ps_expr (pe_methC (c_House_check_client T) (hr.mono (by decide)) (pv 0) (pa_cons (pv 1) pa_nil)))
    (pss_cons (ps_set (i := 2) nd rfl (Or.inl rfl) (pe_dget1 (hu_of hr.toRoom) (pe_fld (pe_ix ix_seq (pe_fld (pv 0) rfl) (pe_un un_neg pe_int) (fun _ _ => rfl)) rfl) (pv 1) ⟨by rfl, by rfl, by rfl, by rfl⟩))
    (pss_one (ps_ret (pe_ifExp (pt_cmpR op_isN (pv 2) pe_non (nomark _)) pe_non (pe_op op_fdivW (pv 2) (pe_fld (pv 0) rfl)))))))), ?_⟩
  refine fn_x [none] [none] rfl (fun cs r cs' hc => ?_) vs H Q E h
  obtain ⟨v_self, v_client, res, rfl, rfl, rfl, hm⟩ := hc
  refine ⟨⟨Nat.le_of_ble_eq_true rfl, rfl⟩, (.o (.v .nil)), fun ad => .inl ?_⟩
  · change XS _ _ [some (.o (some (ad 0)) (iHouse K v_self)), some (.v (D.int v_client)), none] (.rt (.v ((eO D.int) res)) [some (.o (some (ad 0)) (iHouse K v_self)), none, none])
    unfold m_House_holding_1 at hm
    obtain ⟨t1, ht1, hm⟩ := R.inv hm
    refine x_seq (μ1 := [some (.o (some (ad 0)) (iHouse K v_self)), some (.v (D.int v_client)), none]) (x_drop (e_methO (cs' := [.v (D.int v_client)]) (c' := .o none (iHouse K v_self)) .nil rfl rfl (a_v (e_var rfl) a_nil) rfl (W_House_check_client ht1))) ?_
    obtain ⟨t2, ht2, hm⟩ := R.inv hm
    refine x_seq (μ1 := [some (.o (some (ad 0)) (iHouse K v_self)), some (.v (D.int v_client)), some (.v ((eO D.int) (lookZ t2.held v_client)))]) (x_set (e_dget1 (e := D.int) (b_of (e_fld (e_ix (e := (eState (He.ga K "State"))) (xs := v_self.states) (b_fldL rfl rfl T.cl_House T.na_House_states) rfl (e_neg e_int) ht2) T.cl_State T.na_State_held rfl)) rfl (e_var rfl))) ?_
    obtain ⟨t5, ht5, hm⟩ := R.inv hm
    obtain rfl := R.ok.inj hm
    exact x_outR (x_ret (e_if (d := (eO D.int) t5) (μ2 := [some (.o (some (ad 0)) (iHouse K v_self)), some (.v (D.int v_client)), some (.v ((eO D.int) (lookZ t2.held v_client)))]) (t_test (e_isNO (b_of (e_var rfl)))) (fun hb => by have hm := R.ifT hb ht5; obtain rfl := R.ok.inj hm; exact e_non) (fun hb => by have hm := R.ifF hb ht5; obtain ⟨t3, ht3, hm⟩ := R.inv hm; obtain ⟨t4, ht4, hm⟩ := R.inv hm; obtain rfl := R.ok.inj hm; exact (e_div (e_some (e_var rfl) ht3) (e_fldO rfl rfl T.cl_House T.na_House_width) ht4)))) (by walk_at "wd")
theorem c_House_holding (T : Tx K mg) : CalO P w K mg base 4 "House" "holding" ["self", "client"] (spOf K (ctOf (C_House_holding K) noX)) := by
  obtain ⟨fd, F⟩ := T.d_House_holding
  exact ⟨⟨fd, f_House_holding T F, F.bindsN fun _ _ _ _ _ _ us hl => match us, hl with | [_, _], _ => rfl⟩, T.m_House_holding, T.cl_House⟩
theorem ck_House_holding_0 (T : Tx K mg) : CalOG P w K mg base 4 "House" "holding" ["client"] [0] ["self", "client"] (spOf K (ctOf (C_House_holding K) noX)) := by
  obtain ⟨fd, F⟩ := T.d_House_holding
  exact ⟨⟨fd, f_House_holding T F, kbn_perm (ks := ["client"]) 1 [0] F (fun _ _ _ _ _ _ us ws hl h2 => match us, ws, hl, h2 with | [_], [_], _, _ => rfl)⟩, T.m_House_holding, T.cl_House⟩
def C__law_same (K : PySem.W.Frag) : FC := fun cs r cs' => ∃ (v_house : HouseM) (v_books : ((List (Int × Int)) × (List Int) × (List (Int × Int)))) (v_width_here : Int) (v_crowd : Int) (res : Bool), cs = [.o none (iHouse K v_house), .o none (.tpl [.c (.d (v_books.1.map (kvD D.int))), .c (.l (v_books.2.1.map D.int)), .c (.l (v_books.2.2.map (eT2 D.int D.int)))]), .v (D.int v_width_here), .v (D.int v_crowd)] ∧ r = (.v (D.bl res)) ∧ cs' = [.o none (iHouse K v_house), .o none (.tpl [.c (.d (v_books.1.map (kvD D.int))), .c (.l (v_books.2.1.map D.int)), .c (.l (v_books.2.2.map (eT2 D.int D.int)))]), .v (D.int v_width_here), .v (D.int v_crowd)] ∧ m_l_same_1 v_house v_books v_width_here v_crowd = .ok res
theorem W__law_same {v_house : HouseM} {v_books : ((List (Int × Int)) × (List Int) × (List (Int × Int)))} {v_width_here : Int} {v_crowd : Int} {res : Bool} (h : m_l_same_1 v_house v_books v_width_here v_crowd = .ok res) : C__law_same K [.o none (iHouse K v_house), .o none (.tpl [.c (.d (v_books.1.map (kvD D.int))), .c (.l (v_books.2.1.map D.int)), .c (.l (v_books.2.2.map (eT2 D.int D.int)))]), .v (D.int v_width_here), .v (D.int v_crowd)] (.v (D.bl res)) [.o none (iHouse K v_house), .o none (.tpl [.c (.d (v_books.1.map (kvD D.int))), .c (.l (v_books.2.1.map D.int)), .c (.l (v_books.2.2.map (eT2 D.int D.int)))]), .v (D.int v_width_here), .v (D.int v_crowd)] := ⟨v_house, v_books, v_width_here, v_crowd, res, rfl, rfl, rfl, h⟩

abbrev N__law_same : List Str := ["_law_house", "_law_books", "_law_width_here", "_law_crowd", "_law_held", "_law_owned", "_law_listed", "_law_who", "_law_due"]
theorem sc__law_same : FnScope N__law_same ["_law_house", "_law_books", "_law_width_here", "_law_crowd"] (defScope s__law_same) := ⟨rfl, rfl, rfl, by decide +kernel, rfl, by decide +kernel, by decide +kernel⟩
theorem f__law_same (T : Tx K mg) {fd : FuncData} (F : FunD K "_law_same" "_law_same" (defArgs s__law_same) (defBody s__law_same) (defScope s__law_same) [] [] (He.ga K "_law_same") fd) : FnG P w K mg base (L2.CX P w) 7 (He.ga K "_law_same") fd ["_law_house", "_law_books", "_law_width_here", "_law_crowd"] (spOf K (ctOf (C__law_same K) noX)) := by
  have nd := (sc__law_same).nd
  refine F.okG sc__law_same (sp_len (ctOf_len fun _ _ _ h => by obtain ⟨_, _, _, _, _, rfl, _, _, _⟩ := h; rfl)) (fun cdv A outer s H vs Q E hr h => ?_)
  refine ⟨_, PSs.nox ((pss_cons (ps_asg (pv 1) (pg_tup rfl (pgs_cons (pg_name (i := 4) nd rfl (Or.inl rfl)) (pgs_cons (pg_name (i := 5) nd rfl (Or.inl rfl)) (pgs_cons (pg_name (i := 6) nd rfl (Or.inl rfl)) pgs_nil)))))
    (pss_cons (ps_if (PW.pt (pw_or (pt_cmpR (op_ownNeq (K := K) rfl (q_Log___eq__ T) (hr.mono (by decide))) (pe_methC0 (c_House_full_log T) (hr.mono (by decide)) (pv 0)) (pe_makeC (c_Log__O___init__ T) (hr.mono (by decide)) rfl (pa_cons (pv 2) (pa_cons (pv 6) pa_nil))) (nomark _)) (pw_or (pt_cmpR (op_neD hr.units) (pe_methC0 (c_House_owners T) (hr.mono (by decide)) (pv 0)) (pv 5) (nomark _)) (pw_or1 (pt_cmpR (op_neD hr.units) (pe_methC0 (c_House_fetches T) (hr.mono (by decide)) (pv 0)) (pe_callB c_len rfl T.n_len (by decide +kernel) (pa_cons (pv 5) pa_nil)) (nomark _)))))) (pss_one (ps_ret pe_bl)) pss_nil)
    (pss_cons (ps_for PassesOwn.never rfl (pi_range1 rfl T.n_range (pa_cons (pv 3) pa_nil)) (pg_name (i := 7) nd rfl (Or.inl rfl)) (pss_cons (ps_set (i := 8) nd rfl (Or.inl rfl) pe_non)
    (pss_cons (ps_if (pt_cmp (pc_din (hu_of hr.toRoom) (pv 7) (pv 4))) (pss_one (ps_set (i := 8) nd rfl (Or.inl rfl) (pe_op op_fdivW (pe_dget (hu_of hr.toRoom) (pv 4) (pv 7) (fun _ _ => rfl)) (pv 2)))) pss_nil)
    (pss_one (ps_if (PW.pt (pw_or (pt_cmpR (op_neD hr.units) (pe_methC (c_House_holding T) (hr.mono (by decide)) (pv 0) (pa_cons (pv 7) pa_nil)) (pv 8) (nomark _)) (pw_or1 (pt_cmpR (op_neD hr.units) (pe_methG (ck_House_holding_0 T) (hr.mono (by decide)) (pv 0) (pk_cons (pv 7) pk_nil)) (pv 8) (nomark _))))) (pss_one (ps_ret pe_bl)) pss_nil)))))
    (pss_cons (ps_expr (pe_bm PySem.F.plainAttrs_list PySem.F.slot_list_append PySem.F.type_list_append mt_append (pe_methC0 (c_House_owners T) (hr.mono (by decide)) (pv 0)) (pa_cons pe_non pa_nil)))
    (pss_one (ps_ret (pe_cmpR (op_eqD hr.units) (pe_methC0 (c_House_owners T) (hr.mono (by decide)) (pv 0)) (pv 5) (nomark _))))))))), ?_⟩
  refine fn_x [none, none, none, none, none] [none, none, none, none, none] rfl (fun cs r cs' hc => ?_) vs H Q E h
  obtain ⟨v_house, v_books, v_width_here, v_crowd, res, rfl, rfl, rfl, hm⟩ := hc
  refine ⟨⟨Nat.le_of_ble_eq_true rfl, rfl⟩, (.o (.o (.v (.v .nil)))), fun ad => .inl ?_⟩
  · change XS _ _ [some (.o (some (ad 0)) (iHouse K v_house)), some (.o (some (ad 1)) (.tpl [.c (.d (v_books.1.map (kvD D.int))), .c (.l (v_books.2.1.map D.int)), .c (.l (v_books.2.2.map (eT2 D.int D.int)))])), some (.v (D.int v_width_here)), some (.v (D.int v_crowd)), none, none, none, none, none] (.rt (.v (D.bl res)) [some (.o (some (ad 0)) (iHouse K v_house)), some (.o (some (ad 1)) (.tpl [.c (.d (v_books.1.map (kvD D.int))), .c (.l (v_books.2.1.map D.int)), .c (.l (v_books.2.2.map (eT2 D.int D.int)))])), none, none, none, none, none, none, none])
    unfold m_l_same_1 at hm
    refine x_unpkI (i := 1) (j0 := 4) (j1 := 5) (j2 := 6) (y0 := .d (v_books.1.map (kvD D.int))) (y1 := .l (v_books.2.1.map D.int)) (y2 := .l (v_books.2.2.map (eT2 D.int D.int))) (M := fun up uq ur => [some (.o (some (ad 0)) (iHouse K v_house)), some (.o (some (ad 1)) (.tpl [rawM up, rawM uq, rawM ur])), none, none, some (.o (some up) (oDc D.int v_books.1)), some (.o (some uq) (oL D.int v_books.2.1)), some (.o (some ur) (oL (eT2 D.int D.int) v_books.2.2)), none, none]) rfl (by decide) (fun up uq ur => ?_) (fun _ _ _ => ⟨rfl, rfl, rfl, rfl⟩) (fun _ _ _ => rfl)
    · change XS _ _ [some (.o (some (ad 0)) (iHouse K v_house)), some (.o (some (ad 1)) (.tpl [rawM up, rawM uq, rawM ur])), some (.v (D.int v_width_here)), some (.v (D.int v_crowd)), some (.o (some up) (oDc D.int v_books.1)), some (.o (some uq) (oL D.int v_books.2.1)), some (.o (some ur) (oL (eT2 D.int D.int) v_books.2.2)), none, none] (.rt _ [some (.o (some (ad 0)) (iHouse K v_house)), some (.o (some (ad 1)) (.tpl [rawM up, rawM uq, rawM ur])), none, none, some (.o (some up) (oDc D.int v_books.1)), some (.o (some uq) (oL D.int v_books.2.1)), some (.o (some ur) (oL (eT2 D.int D.int) v_books.2.2)), none, none])
      obtain ⟨t1, ht1, hm⟩ := R.inv hm
      obtain ⟨t2, ht2, hm⟩ := R.inv hm
      obtain ⟨t3, ht3, hm⟩ := R.inv hm
      obtain ⟨t7, ht7, hm⟩ := R.inv hm
      refine x_seqIf (t_or (r := t7) (μ2 := [some (.o (some (ad 0)) (iHouse K v_house)), some (.o (some (ad 1)) (.tpl [rawM up, rawM uq, rawM ur])), some (.v (D.int v_width_here)), some (.v (D.int v_crowd)), some (.o (some up) (oDc D.int v_books.1)), some (.o (some uq) (oL D.int v_books.2.1)), some (.o (some ur) (oL (eT2 D.int D.int) v_books.2.2)), none, none]) (t_test (e_ownIn T.ow_Log.i (e_methO (cs' := []) (c' := .o none (iHouse K v_house)) .nil rfl rfl a_nil rfl (W_House_full_log ht1)) rfl (e_frz (o_make (c := iLog (He.ga K "Log") t2) (cs' := [.v (D.int v_width_here), .o none (oL (eT2 D.int D.int) v_books.2.2)]) (.cons (fun _ => .bl _) .nil) (a_v (e_var rfl) (a_s rfl a_nil rfl)) (W_Log__O___init__ ht2))) rfl (W_Log___eq__ ht3))) (fun hb => by have hm := R.ifF hb ht7; obtain ⟨t4, ht4, hm⟩ := R.inv hm; obtain ⟨t6, ht6, hm⟩ := R.inv hm; obtain rfl := R.ok.inj hm; exact (t_or (r := t6) (μ2 := [some (.o (some (ad 0)) (iHouse K v_house)), some (.o (some (ad 1)) (.tpl [rawM up, rawM uq, rawM ur])), some (.v (D.int v_width_here)), some (.v (D.int v_crowd)), some (.o (some up) (oDc D.int v_books.1)), some (.o (some uq) (oL D.int v_books.2.1)), some (.o (some ur) (oL (eT2 D.int D.int) v_books.2.2)), none, none]) (t_test (e_neT (e := (eL D.int)) (x := t4) (y := v_books.2.1) (EqT.lst EqT.int) (by decide) (b_frz (o_methO (cs' := []) (c' := .o none (iHouse K v_house)) .nil rfl rfl a_nil rfl (W_House_owners ht4))) (b_ownL rfl))) (fun hb => by have hm := R.ifF hb ht6; obtain ⟨t5, ht5, hm⟩ := R.inv hm; obtain rfl := R.ok.inj hm; exact (t_test (e_neV (e := D.int) (x := t5) (y := (v_books.2.1.length : Int)) EqT.int (by decide) (e_methO (cs' := []) (c' := .o none (iHouse K v_house)) .nil rfl rfl a_nil rfl (W_House_fetches ht5)) (e_len (e := D.int) (xs := v_books.2.1) (b_ownL rfl) rfl)))) (fun hb => by have hm := R.ifT hb ht6; obtain rfl := R.ok.inj hm; exact ⟨rfl, rfl⟩))) (fun hb => by have hm := R.ifT hb ht7; obtain rfl := R.ok.inj hm; exact ⟨rfl, rfl⟩)) (fun hb => ?_) (fun hb => ?_)
      · have hm := R.ifT hb hm
        obtain rfl := R.ok.inj hm
        exact x_seqR (x_outR (x_ret e_bl) (by walk_at "wd"))
      · have hm := R.ifF hb hm
        refine x_seq x_next ?_
        obtain ⟨t8, ht8, hm⟩ := R.inv hm
        obtain ⟨c18, hc18, hm1⟩ := R.inv hm
        refine x_seqB (x_forC (c := c18) (e := D.int) (J := fun s9 => [some (.o (some (ad 0)) (iHouse K v_house)), some (.o (some (ad 1)) (.tpl [rawM up, rawM uq, rawM ur])), some (.v (D.int v_width_here)), some (.v (D.int v_crowd)), some (.o (some up) (oDc D.int v_books.1)), some (.o (some uq) (oL D.int v_books.2.1)), some (.o (some ur) (oL (eT2 D.int D.int) v_books.2.2)), none, none]) (JR := (fun s9 => ((.v (D.bl s9)), [some (.o (some (ad 0)) (iHouse K v_house)), some (.o (some (ad 1)) (.tpl [rawM up, rawM uq, rawM ur])), none, none, some (.o (some up) (oDc D.int v_books.1)), some (.o (some uq) (oL D.int v_books.2.1)), some (.o (some ur) (oL (eT2 D.int D.int) v_books.2.2)), none, none]))) (i_rng1 (d_cons (e_var rfl) d_nil) ht8) (by walk_at "wd") hc18 (fun s9 x10 c18 hx hm => ?_)) (fun s9 hc => ?_) (fun s9 hc => ?_)
        · refine ⟨_, _, (g_name (i := 7)), ?_, .inl rfl⟩
          refine x_seq (μ1 := [some (.o (some (ad 0)) (iHouse K v_house)), some (.o (some (ad 1)) (.tpl [rawM up, rawM uq, rawM ur])), some (.v (D.int v_width_here)), some (.v (D.int v_crowd)), some (.o (some up) (oDc D.int v_books.1)), some (.o (some uq) (oL D.int v_books.2.1)), some (.o (some ur) (oL (eT2 D.int D.int) v_books.2.2)), some (.v (D.int x10)), some (.v ((eO D.int) none))]) (x_set e_non) ?_
          obtain ⟨s11, hs11, hm1⟩ := R.inv hm
          refine x_seq (μ1 := [some (.o (some (ad 0)) (iHouse K v_house)), some (.o (some (ad 1)) (.tpl [rawM up, rawM uq, rawM ur])), some (.v (D.int v_width_here)), some (.v (D.int v_crowd)), some (.o (some up) (oDc D.int v_books.1)), some (.o (some uq) (oL D.int v_books.2.1)), some (.o (some ur) (oL (eT2 D.int D.int) v_books.2.2)), some (.v (D.int x10)), some (.v ((eO D.int) s11))]) ?_ ?_
          · have hm := hs11
            refine x_if (t_tB (e_din (e_var rfl) (b_ownD rfl) rfl)) (fun hb => ?_) (fun hb => ?_)
            · have hm := R.ifT hb hm
              obtain ⟨t12, ht12, hm⟩ := R.inv hm
              obtain ⟨t13, ht13, hm⟩ := R.inv hm
              obtain rfl := R.ok.inj hm
              exact x_out (x_set (e_div (e_dget (e := D.int) (b_ownD rfl) rfl (e_var rfl) ht12) (e_var rfl) ht13)) (by walk_at "wk")
            · have hm := R.ifF hb hm
              obtain rfl := R.ok.inj hm
              exact x_out x_next (by walk_at "wk")
          have hm := hm1
          obtain ⟨t14, ht14, hm⟩ := R.inv hm
          obtain ⟨t17, ht17, hm⟩ := R.inv hm
          refine x_if (t_or (r := t17) (μ2 := [some (.o (some (ad 0)) (iHouse K v_house)), some (.o (some (ad 1)) (.tpl [rawM up, rawM uq, rawM ur])), some (.v (D.int v_width_here)), some (.v (D.int v_crowd)), some (.o (some up) (oDc D.int v_books.1)), some (.o (some uq) (oL D.int v_books.2.1)), some (.o (some ur) (oL (eT2 D.int D.int) v_books.2.2)), some (.v (D.int x10)), some (.v ((eO D.int) s11))]) (t_test (e_neV (e := (eO D.int)) (x := t14) (y := s11) EqT.optI (by decide) (e_methO (cs' := [.v (D.int x10)]) (c' := .o none (iHouse K v_house)) .nil rfl rfl (a_v (e_var rfl) a_nil) rfl (W_House_holding ht14)) (e_var rfl))) (fun hb => by have hm := R.ifF hb ht17; obtain ⟨t16, ht16, hm⟩ := R.inv hm; obtain rfl := R.ok.inj hm; exact (t_test (e_neV (e := (eO D.int)) (x := t16) (y := s11) EqT.optI (by decide) (e_methO (cs' := [.v (D.int x10)]) (c' := .o none (iHouse K v_house)) .nil rfl rfl (a_perm (π := [0]) (ds' := [D.int x10]) (d_cons (e_var rfl) d_nil)) rfl (W_House_holding ht16)) (e_var rfl)))) (fun hb => by have hm := R.ifT hb ht17; obtain rfl := R.ok.inj hm; exact ⟨rfl, rfl⟩)) (fun hb => ?_) (fun hb => ?_)
          · have hm := R.ifT hb hm
            obtain rfl := R.ok.inj hm
            exact x_outR (x_ret e_bl) (by walk_at "wd")
          · have hm := R.ifF hb hm
            obtain rfl := R.ok.inj hm
            exact x_out x_next (by walk_at "wk")
        · subst hc; have hm := hm1
          obtain ⟨t19, ht19, hm⟩ := R.inv hm
          obtain ⟨t20, ht20, hm⟩ := R.inv hm
          refine x_seq (μ1 := [some (.o (some (ad 0)) (iHouse K v_house)), some (.o (some (ad 1)) (.tpl [rawM up, rawM uq, rawM ur])), some (.v (D.int v_width_here)), some (.v (D.int v_crowd)), some (.o (some up) (oDc D.int v_books.1)), some (.o (some uq) (oL D.int v_books.2.1)), some (.o (some ur) (oL (eT2 D.int D.int) v_books.2.2)), none, none]) (x_dropApp (e := D.int) (xs := t19) (o_methO (cs' := []) (c' := .o none (iHouse K v_house)) .nil rfl rfl a_nil rfl (W_House_owners ht19)) (need_ok ht20)) ?_
          obtain ⟨t21, ht21, hm⟩ := R.inv hm
          obtain rfl := R.ok.inj hm
          exact x_outR (x_ret (e_eqT (e := (eL D.int)) (x := t21) (y := v_books.2.1) (EqT.lst EqT.int) (by decide) (b_frz (o_methO (cs' := []) (c' := .o none (iHouse K v_house)) .nil rfl rfl a_nil rfl (W_House_owners ht21))) (b_ownL rfl))) (by walk_at "wd")
        · subst hc; obtain rfl := R.ok.inj hm1; rfl
theorem c__law_same (T : Tx K mg) : Cal P w K mg base 7 "_law_same" ["_law_house", "_law_books", "_law_width_here", "_law_crowd"] (spOf K (ctOf (C__law_same K) noX)) := by
  obtain ⟨fd, F⟩ := T.d__law_same
  exact ⟨⟨fd, f__law_same T F, F.bindsN fun _ _ _ _ _ _ us hl => match us, hl with | [_, _, _, _], _ => rfl⟩, T.g__law_same, F.kp⟩
def C_House_block_size (K : PySem.W.Frag) : FC := fun cs r cs' => ∃ (v_self : HouseM) (res : Int), cs = [.o none (iHouse K v_self)] ∧ r = (.v (D.int res)) ∧ cs' = [.o none (iHouse K v_self)] ∧ m_House_block_size v_self = .ok res
theorem W_House_block_size {v_self : HouseM} {res : Int} (h : m_House_block_size v_self = .ok res) : C_House_block_size K [.o none (iHouse K v_self)] (.v (D.int res)) [.o none (iHouse K v_self)] := ⟨v_self, res, rfl, rfl, rfl, h⟩

abbrev N_House_block_size : List Str := ["self"]
theorem sc_House_block_size : FnScope N_House_block_size ["self"] (defScope s_House_block_size) := ⟨rfl, rfl, rfl, by decide +kernel, rfl, by decide +kernel, by decide +kernel⟩
theorem f_House_block_size (T : Tx K mg) {fd : FuncData} (F : FunD K "block_size" "House.block_size" (defArgs s_House_block_size) (defBody s_House_block_size) (defScope s_House_block_size) [] [] (He.fAd K ("House", some "block_size")) fd) : FnG P w K mg base (L2.CX P w) 1 (He.fAd K ("House", some "block_size")) fd ["self"] (spOf K (ctOf (C_House_block_size K) noX)) := by
  have nd := (sc_House_block_size).nd
  refine F.okG sc_House_block_size (sp_len (ctOf_len fun _ _ _ h => by obtain ⟨_, _, rfl, _, _, _⟩ := h; rfl)) (fun cdv A outer s H vs Q E hr h => ?_)
  refine ⟨_, PSs.nox ((pss_one (ps_ret (pe_fld (pv 0) rfl)))), ?_⟩
  refine fn_x [] [] rfl (fun cs r cs' hc => ?_) vs H Q E h
  obtain ⟨v_self, res, rfl, rfl, rfl, hm⟩ := hc
  refine ⟨⟨Nat.le_of_ble_eq_true rfl, rfl⟩, (.o .nil), fun ad => .inl ?_⟩
  · change XS _ _ [some (.o (some (ad 0)) (iHouse K v_self))] (.rt (.v (D.int res)) [some (.o (some (ad 0)) (iHouse K v_self))])
    unfold m_House_block_size at hm
    obtain rfl := R.ok.inj hm
    exact x_outR (x_ret (e_fldO rfl rfl T.cl_House T.na_House_width)) (by walk_at "wd")
theorem c_House_block_size (T : Tx K mg) : CalO P w K mg base 1 "House" "block_size" ["self"] (spOf K (ctOf (C_House_block_size K) noX)) := by
  obtain ⟨fd, F⟩ := T.d_House_block_size
  exact ⟨⟨fd, f_House_block_size T F, F.bindsN fun _ _ _ _ _ _ us hl => match us, hl with | [_], _ => rfl⟩, T.m_House_block_size, T.cl_House⟩
def C_House_client_count (K : PySem.W.Frag) : FC := fun cs r cs' => ∃ (v_self : HouseM) (res : Int), cs = [.o none (iHouse K v_self)] ∧ r = (.v (D.int res)) ∧ cs' = [.o none (iHouse K v_self)] ∧ m_House_client_count v_self = .ok res
theorem W_House_client_count {v_self : HouseM} {res : Int} (h : m_House_client_count v_self = .ok res) : C_House_client_count K [.o none (iHouse K v_self)] (.v (D.int res)) [.o none (iHouse K v_self)] := ⟨v_self, res, rfl, rfl, rfl, h⟩

abbrev N_House_client_count : List Str := ["self"]
theorem sc_House_client_count : FnScope N_House_client_count ["self"] (defScope s_House_client_count) := ⟨rfl, rfl, rfl, by decide +kernel, rfl, by decide +kernel, by decide +kernel⟩
theorem f_House_client_count (T : Tx K mg) {fd : FuncData} (F : FunD K "client_count" "House.client_count" (defArgs s_House_client_count) (defBody s_House_client_count) (defScope s_House_client_count) [] [] (He.fAd K ("House", some "client_count")) fd) : FnG P w K mg base (L2.CX P w) 1 (He.fAd K ("House", some "client_count")) fd ["self"] (spOf K (ctOf (C_House_client_count K) noX)) := by
  have nd := (sc_House_client_count).nd
  refine F.okG sc_House_client_count (sp_len (ctOf_len fun _ _ _ h => by obtain ⟨_, _, rfl, _, _, _⟩ := h; rfl)) (fun cdv A outer s H vs Q E hr h => ?_)
  refine ⟨_, PSs.nox ((pss_one (ps_ret (pe_fld (pv 0) rfl)))), ?_⟩
  refine fn_x [] [] rfl (fun cs r cs' hc => ?_) vs H Q E h
  obtain ⟨v_self, res, rfl, rfl, rfl, hm⟩ := hc
  refine ⟨⟨Nat.le_of_ble_eq_true rfl, rfl⟩, (.o .nil), fun ad => .inl ?_⟩
  · change XS _ _ [some (.o (some (ad 0)) (iHouse K v_self))] (.rt (.v (D.int res)) [some (.o (some (ad 0)) (iHouse K v_self))])
    unfold m_House_client_count at hm
    obtain rfl := R.ok.inj hm
    exact x_outR (x_ret (e_fldO rfl rfl T.cl_House T.na_House_crowd)) (by walk_at "wd")
theorem c_House_client_count (T : Tx K mg) : CalO P w K mg base 1 "House" "client_count" ["self"] (spOf K (ctOf (C_House_client_count K) noX)) := by
  obtain ⟨fd, F⟩ := T.d_House_client_count
  exact ⟨⟨fd, f_House_client_count T F, F.bindsN fun _ _ _ _ _ _ us hl => match us, hl with | [_], _ => rfl⟩, T.m_House_client_count, T.cl_House⟩
def C_House___eq____A (K : PySem.W.Frag) : FC := fun cs r cs' => ∃ (v_self : HouseM) (v_other : Av) (res : Bool), cs = [.v ((eHouse K) v_self), .v (eA v_other)] ∧ r = (.v (D.bl res)) ∧ cs' = [.v ((eHouse K) v_self), .v (eA v_other)] ∧ m_House___eq____A v_self v_other = .ok res
theorem W_House___eq____A {v_self : HouseM} {v_other : Av} {res : Bool} (h : m_House___eq____A v_self v_other = .ok res) : C_House___eq____A K [.v ((eHouse K) v_self), .v (eA v_other)] (.v (D.bl res)) [.v ((eHouse K) v_self), .v (eA v_other)] := ⟨v_self, v_other, res, rfl, rfl, rfl, h⟩

abbrev N_House___eq____A : List Str := ["self", "other"]
theorem sc_House___eq____A : FnScope N_House___eq____A ["self", "other"] (defScope s_House___eq__) := ⟨rfl, rfl, rfl, by decide +kernel, rfl, by decide +kernel, by decide +kernel⟩
theorem f_House___eq____A (T : Tx K mg) {fd : FuncData} (F : FunD K "__eq__" "House.__eq__" (defArgs s_House___eq__) (defBody s_House___eq__) (defScope s_House___eq__) [] [] (He.fAd K ("House", some "__eq__")) fd) : FnG P w K mg base (L2.CX P w) 1 (He.fAd K ("House", some "__eq__")) fd ["self", "other"] (spOf K (ctOf (C_House___eq____A K) noX)) := by
  have nd := (sc_House___eq____A).nd
  refine F.okG sc_House___eq____A (sp_len (ctOf_len fun _ _ _ h => by obtain ⟨_, _, _, rfl, _, _, _⟩ := h; rfl)) (fun cdv A outer s H vs Q E hr h => ?_)
  refine ⟨_, PSs.nox ((pss_one (ps_ret (pe_and (pe_callB call_isi rfl T.n_isinstance (by decide +kernel) (pa_cons (pv 1) (pa_cons (pe_globC rfl T.gc_House) pa_nil))) (pe_one pe_dead))))), ?_⟩
  refine fn_x [] [] rfl (fun cs r cs' hc => ?_) vs H Q E h
  obtain ⟨v_self, v_other, res, rfl, rfl, rfl, hm⟩ := hc
  refine ⟨⟨Nat.le_of_ble_eq_true rfl, rfl⟩, (.v (.v .nil)), fun ad => .inl ?_⟩
  · change XS _ _ [some (.v ((eHouse K) v_self)), some (.v (eA v_other))] (.rt (.v (D.bl res)) [none, none])
    unfold m_House___eq____A at hm
    obtain rfl := R.ok.inj hm
    exact x_outR (x_ret (e_and (d := D.bl false) (μ2 := [some (.v ((eHouse K) v_self)), some (.v (eA v_other))]) (e_isiCA T.ow_House.i (e_var rfl)) (fun hb => nomatch hb) (fun _ => ⟨rfl, rfl⟩))) (by walk_at "wd")
theorem q_House___eq____A (T : Tx K mg) : CalQ P w K mg base 1 "House" ["self", "other"] (spOf K (ctOf (C_House___eq____A K) noX)) := by
  obtain ⟨fd, F⟩ := T.d_House___eq__
  exact ⟨⟨fd, f_House___eq____A T F, F.bindsN fun _ _ _ _ _ _ us hl => match us, hl with | [_, _], _ => rfl⟩, T.ow_House⟩
def C_law (K : PySem.W.Frag) : FC := fun cs r cs' => ∃ (v_script : (List Int)) (res : Bool), cs = [.v ((eF D.int) v_script)] ∧ r = (.v (D.bl res)) ∧ cs' = [.v ((eF D.int) v_script)] ∧ m_law_k64_1 v_script = .ok res
theorem W_law {v_script : (List Int)} {res : Bool} (h : m_law_k64_1 v_script = .ok res) : C_law K [.v ((eF D.int) v_script)] (.v (D.bl res)) [.v ((eF D.int) v_script)] := ⟨v_script, res, rfl, rfl, rfl, h⟩

abbrev N_law : List Str := ["_law_script", "_law_cell", "_law_source", "_law_width_here", "_law_crowd", "_law_house", "_law_books", "_law_lost", "_law_k", "_law_who", "_law_gone", "_law_many", "_law_due", "_law_found"]
theorem sc_law : FnScope N_law ["_law_script"] (defScope s_law) := ⟨rfl, rfl, rfl, by decide +kernel, rfl, by decide +kernel, by decide +kernel⟩
theorem f_law (T : Tx K mg) {fd : FuncData} (F : FunD K "law" "law" (defArgs s_law) (defBody s_law) (defScope s_law) [] [] (He.ga K "law") fd) : FnG P w K mg base (L2.CX P w) 8 (He.ga K "law") fd ["_law_script"] (spOf K (ctOf (C_law K) noX)) := by
  have nd := (sc_law).nd
  refine F.okG sc_law (sp_len (ctOf_len fun _ _ _ h => by obtain ⟨_, _, rfl, _, _, _⟩ := h; rfl)) (fun cdv A outer s H vs Q E hr h => ?_)
  refine ⟨_, PSs.nox ((pss_cons (ps_for PassesOwn.never rfl (pi_list (pe_op op_cat (pe_lst (pa_cons (pe_callC (c__law_cell_at T) (hr.mono (by decide)) rfl (pa_cons (pv 0) (pa_cons pe_int pa_nil))) pa_nil)) (pe_slice sl_list (pv 0) (po_some pe_int) (po_some pe_int)))) (pg_name (i := 1) nd rfl (Or.inl rfl)) (pss_cons (ps_set (i := 2) nd rfl (Or.inl rfl) (pe_callC (c__law_source_of T) (hr.mono (by decide)) rfl (pa_cons (pv 1) pa_nil)))
    (pss_cons (ps_set (i := 3) nd rfl (Or.inl rfl) (pe_callC (c__law_width T) (hr.mono (by decide)) rfl (pa_cons (pv 2) pa_nil)))
    (pss_cons (ps_set (i := 4) nd rfl (Or.inl rfl) (pe_callC (c__law_one T) (hr.mono (by decide)) rfl (pa_cons (pv 2) (pa_cons (pe_lst (pa_cons (pe_op op_add pe_int (pe_callC (c__law_next T) (hr.mono (by decide)) rfl (pa_cons (pv 2) (pa_cons pe_int pa_nil)))) (pa_cons pe_int (pa_cons pe_int (pa_cons pe_int pa_nil))))) pa_nil))))
    (pss_cons (ps_set (i := 5) nd rfl (Or.inl rfl) (pe_makeC0 (c_House___init__ T) (hr.mono (by decide)) rfl (pa_cons (pv 3) (pa_cons (pv 4) pa_nil))))
    (pss_cons (ps_set (i := 6) nd rfl (Or.inl rfl) (pe_tup (pa_cons pe_dnewK (pa_cons (pe_lst pa_nil) (pa_cons (pe_lst pa_nil) pa_nil)))))
    (pss_cons (ps_set (i := 7) nd rfl (Or.inl rfl) pe_int)
    (pss_cons (ps_for PassesOwn.never rfl (pi_range1 rfl T.n_range (pa_cons (pe_callC (c__law_next T) (hr.mono (by decide)) rfl (pa_cons (pv 2) (pa_cons pe_int pa_nil))) pa_nil)) (pg_name (i := 8) nd rfl (Or.inl rfl)) (pss_cons (ps_set (i := 9) nd rfl (Or.inl rfl) (pe_callC (c__law_next T) (hr.mono (by decide)) rfl (pa_cons (pv 2) (pa_cons (pv 4) pa_nil))))
    (pss_cons (ps_if (pt_cmpR (op_eqD hr.units) (pe_callC (c__law_next T) (hr.mono (by decide)) rfl (pa_cons (pv 2) (pa_cons pe_int pa_nil))) pe_int (nomark _)) (pss_cons (ps_set (i := 10) nd rfl (Or.inl rfl) pe_int)
    (pss_cons (ps_if (pt_cmp (pc_din (hu_of hr.toRoom) (pv 9) (pe_ix ix_seq (pv 6) pe_int (fun _ _ => rfl)))) (pss_one (ps_set (i := 10) nd rfl (Or.inl rfl) (pe_op op_sub (pv 3) (pe_op op_mod (pe_dpop1 (pe_ix ix_seq (pv 6) pe_int (fun _ _ => rfl)) (pv 9) ⟨by rfl, by rfl, by rfl, by rfl⟩) (pv 3))))) pss_nil)
    (pss_cons (ps_set (i := 7) nd rfl (Or.inl rfl) (pe_op op_add (pv 7) (pv 10)))
    (pss_one (ps_if (pt_cmpR (op_neD hr.units) (pe_methG (ck_House_crash_0 T) (hr.mono (by decide)) (pv 5) (pk_cons (pv 9) pk_nil)) (pv 10) (nomark _)) (pss_one (ps_ret pe_bl)) pss_nil))))) (pss_cons (ps_set (i := 11) nd rfl (Or.inl rfl) (pe_callC (c__law_one T) (hr.mono (by decide)) rfl (pa_cons (pv 2) (pa_cons (pe_lst (pa_cons pe_int (pa_cons pe_int (pa_cons (pe_callB (call_min2 rfl) rfl T.n_min (by decide +kernel) (pa_cons (pv 3) (pa_cons (pe_op op_pow pe_int pe_int) pa_nil))) (pa_cons (pe_op op_add pe_int (pe_callC (c__law_next T) (hr.mono (by decide)) rfl (pa_cons (pv 2) (pa_cons (pe_callB (call_min2 rfl) rfl T.n_min (by decide +kernel) (pa_cons (pe_op op_mulA pe_int (pv 3)) (pa_cons (pe_op op_pow pe_int pe_int) pa_nil))) pa_nil)))) pa_nil))))) pa_nil))))
    (pss_cons (ps_set (i := 12) nd rfl (Or.inl rfl) (pe_callC (c__law_take T) (hr.mono (by decide)) rfl (pa_cons (pv 6) (pa_cons (pv 3) (pa_cons (pv 9) (pa_cons (pv 11) pa_nil))))))
    (pss_cons (ps_set (i := 13) nd rfl (Or.inl rfl) (pe_methC (c_House_take T) (hr.mono (by decide)) (pv 5) (pa_cons (pv 9) (pa_cons (pv 11) pa_nil))))
    (pss_cons (ps_if (pt_cmpR (op_neD hr.units) (pv 13) (pv 12) (nomark _)) (pss_one (ps_ret pe_bl)) pss_nil)
    (pss_one (ps_expr (pe_bm PySem.F.plainAttrs_list PySem.F.slot_list_append PySem.F.type_list_append mt_append (pv 13) (pa_cons pe_non pa_nil)))))))))
    (pss_one (ps_if (PW.pt (pw_or (pt_cmpR (op_neD hr.units) (pe_methC0 (c_House_numbers_lost T) (hr.mono (by decide)) (pv 5)) (pv 7) (nomark _)) (pw_or1 (pt_not (pt_val (pe_callC (c__law_same T) (hr.mono (by decide)) rfl (pa_cons (pv 5) (pa_cons (pv 6) (pa_cons (pv 3) (pa_cons (pv 4) pa_nil)))))))))) (pss_one (ps_ret pe_bl)) pss_nil)))))
    (pss_one (ps_if (PW.pt (pw_or (pt_cmpR (op_neD hr.units) (pe_tup (pa_cons (pe_methC0 (c_House_block_size T) (hr.mono (by decide)) (pv 5)) (pa_cons (pe_methC0 (c_House_client_count T) (hr.mono (by decide)) (pv 5)) pa_nil))) (pe_tup (pa_cons (pv 3) (pa_cons (pv 4) pa_nil))) (nomark _)) (pw_or1 (pt_cmpR (op_ownEq (K := K) rfl (q_House___eq____A T) (hr.mono (by decide))) (pe_makeCG (ck_House___init___0 T) (hr.mono (by decide)) rfl (pk_cons (pv 4) (pk_cons (pv 3) pk_nil))) pe_int (nomark _))))) (pss_one (ps_ret pe_bl)) pss_nil))))))))))
    (pss_one (ps_ret pe_bl)))), ?_⟩
  refine fn_x [none, none, none, none, none, none, none, none, none, none, none, none, none] [none, none, none, none, none, none, none, none, none, none, none, none, none] rfl (fun cs r cs' hc => ?_) vs H Q E h
  obtain ⟨v_script, res, rfl, rfl, rfl, hm⟩ := hc
  refine ⟨⟨Nat.le_of_ble_eq_true rfl, rfl⟩, (.v .nil), fun ad => .inl ?_⟩
  · change XS _ _ [some (.v ((eF D.int) v_script)), none, none, none, none, none, none, none, none, none, none, none, none, none] (.rt (.v (D.bl res)) [none, none, none, none, none, none, none, none, none, none, none, none, none, none])
    unfold m_law_k64_1 at hm
    obtain ⟨t1, ht1, hm⟩ := R.inv hm
    obtain ⟨t2, ht2, hm⟩ := R.inv hm
    obtain ⟨c40, hc40, hm1⟩ := R.inv hm
    refine x_seqB (x_forC (c := c40) (e := D.int) (J := fun s3 => [some (.v ((eF D.int) v_script)), none, none, none, none, none, none, none, none, none, none, none, none, none]) (JR := (fun s3 => ((.v (D.bl s3)), [none, none, none, none, none, none, none, none, none, none, none, none, none, none]))) (i_list (e := D.int) (xs := t2) (e_frz (e_catV (e_frz (e_lst D.int [t1] (d_cons (e_call (a_v (e_var rfl) (a_v e_int a_nil)) (W__law_cell_at ht1)) d_nil) (hl_ (n := 1) rfl (by decide)))) (e_frz (e_slice (e := D.int) (xs := v_script) (b_of (e_var rfl)) rfl (p_some e_int) (p_some e_int))) ht2)) rfl) (by walk_at "wd") hc40 (fun s3 x4 c40 hx hm => ?_)) (fun s3 hc => ?_) (fun s3 hc => ?_)
    · refine ⟨_, _, (g_name (i := 1)), ?_, .inl rfl⟩
      obtain ⟨t5, ht5, hm⟩ := R.inv hm
      refine x_seq (μ1 := [some (.v ((eF D.int) v_script)), some (.v (D.int x4)), some (.o none (oL D.int t5)), none, none, none, none, none, none, none, none, none, none, none]) (x_setO (o_call (a_v (e_var rfl) a_nil) (W__law_source_of ht5))) ?_
      obtain ⟨t6, ht6, hm⟩ := R.inv hm
      refine x_seq (μ1 := [some (.v ((eF D.int) v_script)), some (.v (D.int x4)), some (.o none (oL D.int t6.2)), some (.v (D.int t6.1)), none, none, none, none, none, none, none, none, none, none]) (x_set (e_call (a_s rfl a_nil rfl) (W__law_width ht6))) ?_
      obtain ⟨t7, ht7, hm⟩ := R.inv hm
      obtain ⟨t8, ht8, hm⟩ := R.inv hm
      refine x_seq (μ1 := [some (.v ((eF D.int) v_script)), some (.v (D.int x4)), some (.o none (oL D.int t8.2)), some (.v (D.int t6.1)), some (.v (D.int t8.1)), none, none, none, none, none, none, none, none, none]) (x_set (e_call (a_s rfl (a_v (e_frz (e_lst D.int [(1 + t7.1), 2, 3, 100] (d_cons (e_add e_int (e_call (a_s rfl (a_v e_int a_nil) rfl) (W__law_next ht7))) (d_cons e_int (d_cons e_int (d_cons e_int d_nil)))) (hl_ (n := 4) rfl (by decide)))) a_nil) rfl) (W__law_one ht8))) ?_
      obtain ⟨t9, ht9, hm⟩ := R.inv hm
      refine x_seq (μ1 := [some (.v ((eF D.int) v_script)), some (.v (D.int x4)), some (.o none (oL D.int t8.2)), some (.v (D.int t6.1)), some (.v (D.int t8.1)), some (.o none (iHouse K t9)), none, none, none, none, none, none, none, none]) (x_setO (o_make (c := iHouse K t9) (cs' := [.v (D.int t6.1), .v (D.int t8.1)]) .nil (a_v (e_var rfl) (a_v (e_var rfl) a_nil)) (W_House___init__ ht9))) ?_
      refine x_seq (μ1 := [some (.v ((eF D.int) v_script)), some (.v (D.int x4)), some (.o none (oL D.int t8.2)), some (.v (D.int t6.1)), some (.v (D.int t8.1)), some (.o none (iHouse K t9)), some (.o none (.tpl [.c (.d (((([] : (List (Int × Int))), ([] : (List Int)), ([] : (List (Int × Int)))).1).map (kvD D.int))), .c (.l (((([] : (List (Int × Int))), ([] : (List Int)), ([] : (List (Int × Int)))).2.1).map D.int)), .c (.l (((([] : (List (Int × Int))), ([] : (List Int)), ([] : (List (Int × Int)))).2.2).map (eT2 D.int D.int)))])), none, none, none, none, none, none, none]) (fr3 (i := 6) (f_dct D.int (f_lst D.int (f_lst (eT2 D.int D.int) f_nil))) rfl rfl rfl) ?_
      refine x_seq (μ1 := [some (.v ((eF D.int) v_script)), some (.v (D.int x4)), some (.o none (oL D.int t8.2)), some (.v (D.int t6.1)), some (.v (D.int t8.1)), some (.o none (iHouse K t9)), some (.o none (.tpl [.c (.d (((([] : (List (Int × Int))), ([] : (List Int)), ([] : (List (Int × Int)))).1).map (kvD D.int))), .c (.l (((([] : (List (Int × Int))), ([] : (List Int)), ([] : (List (Int × Int)))).2.1).map D.int)), .c (.l (((([] : (List (Int × Int))), ([] : (List Int)), ([] : (List (Int × Int)))).2.2).map (eT2 D.int D.int)))])), some (.v (D.int 0)), none, none, none, none, none, none]) (x_set e_int) ?_
      obtain ⟨t10, ht10, hm⟩ := R.inv hm
      obtain ⟨t11, ht11, hm⟩ := R.inv hm
      obtain ⟨c34, hc34, hm1⟩ := R.inv hm
      refine x_seqB (x_forC (c := c34) (e := D.int) (J := fun s12 => [some (.v ((eF D.int) v_script)), some (.v (D.int x4)), some (.o none (oL D.int s12.1)), some (.v (D.int t6.1)), some (.v (D.int t8.1)), some (.o none (iHouse K s12.2.1)), some (.o none (.tpl [.c (.d (s12.2.2.1.1.map (kvD D.int))), .c (.l (s12.2.2.1.2.1.map D.int)), .c (.l (s12.2.2.1.2.2.map (eT2 D.int D.int)))])), some (.v (D.int s12.2.2.2)), none, none, none, none, none, none]) (JR := (fun s12 => ((.v (D.bl s12)), [none, none, none, none, none, none, none, none, none, none, none, none, none, none]))) (i_rng1 (d_cons (e_call (a_s rfl (a_v e_int a_nil) rfl) (W__law_next ht10)) d_nil) ht11) (by walk_at "wd") hc34 (fun s12 x13 c34 hx hm => ?_)) (fun s12 hc => ?_) (fun s12 hc => ?_)
      · refine ⟨_, _, (g_name (i := 8)), ?_, .inl rfl⟩
        obtain ⟨t14, ht14, hm⟩ := R.inv hm
        refine x_seq (μ1 := [some (.v ((eF D.int) v_script)), some (.v (D.int x4)), some (.o none (oL D.int t14.2)), some (.v (D.int t6.1)), some (.v (D.int t8.1)), some (.o none (iHouse K s12.2.1)), some (.o none (.tpl [.c (.d (s12.2.2.1.1.map (kvD D.int))), .c (.l (s12.2.2.1.2.1.map D.int)), .c (.l (s12.2.2.1.2.2.map (eT2 D.int D.int)))])), some (.v (D.int s12.2.2.2)), some (.v (D.int x13)), some (.v (D.int t14.1)), none, none, none, none]) (x_set (e_call (a_s rfl (a_v (e_var rfl) a_nil) rfl) (W__law_next ht14))) ?_
        obtain ⟨t15, ht15, hm⟩ := R.inv hm
        obtain ⟨c30, hc30, hm1⟩ := R.inv hm
        refine x_seqB (c := c30) (J := fun s16 => [some (.v ((eF D.int) v_script)), some (.v (D.int x4)), some (.o none (oL D.int s16.1)), some (.v (D.int t6.1)), some (.v (D.int t8.1)), some (.o none (iHouse K s16.2.1)), some (.o none (.tpl [.c (.d (s16.2.2.1.1.map (kvD D.int))), .c (.l (s16.2.2.1.2.1.map D.int)), .c (.l (s16.2.2.1.2.2.map (eT2 D.int D.int)))])), some (.v (D.int s16.2.2.2)), some (.v (D.int x13)), some (.v (D.int t14.1)), none, none, none, none]) (JR := (fun s16 => ((.v (D.bl s16)), [none, none, none, none, none, none, none, none, none, none, none, none, none, none]))) ?_ (fun s16 hc => ?_) (fun s16 hc => ?_)
        · have hm := hc30
          refine x_if (t_test (e_eqV (e := D.int) (x := t15.1) (y := 0) EqT.int (by decide) (e_call (a_s rfl (a_v e_int a_nil) rfl) (W__law_next ht15)) e_int)) (fun hb => ?_) (fun hb => ?_)
          · have hm := R.ifT hb hm
            refine x_seq (μ1 := [some (.v ((eF D.int) v_script)), some (.v (D.int x4)), some (.o none (oL D.int t15.2)), some (.v (D.int t6.1)), some (.v (D.int t8.1)), some (.o none (iHouse K s12.2.1)), some (.o none (.tpl [.c (.d (s12.2.2.1.1.map (kvD D.int))), .c (.l (s12.2.2.1.2.1.map D.int)), .c (.l (s12.2.2.1.2.2.map (eT2 D.int D.int)))])), some (.v (D.int s12.2.2.2)), some (.v (D.int x13)), some (.v (D.int t14.1)), some (.v (D.int 0)), none, none, none]) (x_set e_int) ?_
            obtain ⟨s17, hs17, hm1⟩ := R.inv hm
            refine x_seq (μ1 := [some (.v ((eF D.int) v_script)), some (.v (D.int x4)), some (.o none (oL D.int t15.2)), some (.v (D.int t6.1)), some (.v (D.int t8.1)), some (.o none (iHouse K s12.2.1)), some (.o none (.tpl [.c (.d (s17.1.1.map (kvD D.int))), .c (.l (s17.1.2.1.map D.int)), .c (.l (s17.1.2.2.map (eT2 D.int D.int)))])), some (.v (D.int s12.2.2.2)), some (.v (D.int x13)), some (.v (D.int t14.1)), some (.v (D.int s17.2)), none, none, none]) ?_ ?_
            · have hm := hs17
              refine x_if (t_tB (e_din (e_var rfl) (b_tp (k := 0) rfl rfl) rfl)) (fun hb => ?_) (fun hb => ?_)
              · have hm := R.ifT hb hm
                obtain ⟨t18, ht18, hm⟩ := R.inv hm
                obtain ⟨t19, ht19, hm⟩ := R.inv hm
                obtain rfl := R.ok.inj hm
                exact x_out (x_set (e_sub (e_var rfl) (e_mod (e_tpop0 rfl (e_var rfl) ht18) (e_var rfl) ht19))) (by walk_at "wk")
              · have hm := R.ifF hb hm
                obtain rfl := R.ok.inj hm
                exact x_out x_next (by walk_at "wk")
            have hm := hm1
            refine x_seq (μ1 := [some (.v ((eF D.int) v_script)), some (.v (D.int x4)), some (.o none (oL D.int t15.2)), some (.v (D.int t6.1)), some (.v (D.int t8.1)), some (.o none (iHouse K s12.2.1)), some (.o none (.tpl [.c (.d (s17.1.1.map (kvD D.int))), .c (.l (s17.1.2.1.map D.int)), .c (.l (s17.1.2.2.map (eT2 D.int D.int)))])), some (.v (D.int (s12.2.2.2 + s17.2))), some (.v (D.int x13)), some (.v (D.int t14.1)), some (.v (D.int s17.2)), none, none, none]) (x_set (e_add (e_var rfl) (e_var rfl))) ?_
            obtain ⟨t21, ht21, hm⟩ := R.inv hm
            refine x_if (t_test (e_neV (e := D.int) (x := t21.1) (y := s17.2) EqT.int (by decide) (e_methO (cs' := [.v (D.int t14.1)]) (c' := .o none (iHouse K t21.2)) .nil rfl rfl (a_perm (π := [0]) (ds' := [D.int t14.1]) (d_cons (e_var rfl) d_nil)) rfl (W_House_crash ht21)) (e_var rfl))) (fun hb => ?_) (fun hb => ?_)
            · have hm := R.ifT hb hm
              obtain rfl := R.ok.inj hm
              exact x_outR (x_ret e_bl) (by walk_at "wd")
            · have hm := R.ifF hb hm
              obtain rfl := R.ok.inj hm
              exact x_out x_next (by walk_at "wk")
          · have hm := R.ifF hb hm
            obtain ⟨t22, ht22, hm⟩ := R.inv hm
            obtain ⟨t23, ht23, hm⟩ := R.inv hm
            obtain ⟨t24, ht24, hm⟩ := R.inv hm
            obtain ⟨t25, ht25, hm⟩ := R.inv hm
            obtain ⟨t26, ht26, hm⟩ := R.inv hm
            refine x_seq (μ1 := [some (.v ((eF D.int) v_script)), some (.v (D.int x4)), some (.o none (oL D.int t26.2)), some (.v (D.int t6.1)), some (.v (D.int t8.1)), some (.o none (iHouse K s12.2.1)), some (.o none (.tpl [.c (.d (s12.2.2.1.1.map (kvD D.int))), .c (.l (s12.2.2.1.2.1.map D.int)), .c (.l (s12.2.2.1.2.2.map (eT2 D.int D.int)))])), some (.v (D.int s12.2.2.2)), some (.v (D.int x13)), some (.v (D.int t14.1)), none, some (.v (D.int t26.1)), none, none]) (x_set (e_call (a_s rfl (a_v (e_frz (e_lst D.int [1, 2, (min t6.1 t22), (1 + t25.1)] (d_cons e_int (d_cons e_int (d_cons (e_min2 (e_var rfl) (e_pow e_int e_int ht22)) (d_cons (e_add e_int (e_call (a_s rfl (a_v (e_min2 (e_mul e_int (e_var rfl) ht23) (e_pow e_int e_int ht24)) a_nil) rfl) (W__law_next ht25))) d_nil)))) (hl_ (n := 4) rfl (by decide)))) a_nil) rfl) (W__law_one ht26))) ?_
            obtain ⟨t27, ht27, hm⟩ := R.inv hm
            refine x_seq (μ1 := [some (.v ((eF D.int) v_script)), some (.v (D.int x4)), some (.o none (oL D.int t26.2)), some (.v (D.int t6.1)), some (.v (D.int t8.1)), some (.o none (iHouse K s12.2.1)), some (.o none (.tpl [.c (.d (t27.2.1.map (kvD D.int))), .c (.l (t27.2.2.1.map D.int)), .c (.l (t27.2.2.2.map (eT2 D.int D.int)))])), some (.v (D.int s12.2.2.2)), some (.v (D.int x13)), some (.v (D.int t14.1)), none, some (.v (D.int t26.1)), some (.v ((eL (eT2 D.int D.int)) t27.1)), none]) (x_set (e_frz (o_call (a_s rfl (a_v (e_var rfl) (a_v (e_var rfl) (a_v (e_var rfl) a_nil))) rfl) (W__law_take ht27)))) ?_
            obtain ⟨t28, ht28, hm⟩ := R.inv hm
            refine x_seq (μ1 := [some (.v ((eF D.int) v_script)), some (.v (D.int x4)), some (.o none (oL D.int t26.2)), some (.v (D.int t6.1)), some (.v (D.int t8.1)), some (.o none (iHouse K t28.2)), some (.o none (.tpl [.c (.d (t27.2.1.map (kvD D.int))), .c (.l (t27.2.2.1.map D.int)), .c (.l (t27.2.2.2.map (eT2 D.int D.int)))])), some (.v (D.int s12.2.2.2)), some (.v (D.int x13)), some (.v (D.int t14.1)), none, some (.v (D.int t26.1)), some (.v ((eL (eT2 D.int D.int)) t27.1)), some (.o none (oL (eO (eT2 D.int D.int)) (t28.1.map fun (y_ : (Int × Int)) => (some y_))))]) (x_setO (o_as (c' := oL (eO (eT2 D.int D.int)) (t28.1.map fun (y_ : (Int × Int)) => (some y_))) (o_methO (cs' := [.v (D.int t14.1), .v (D.int t26.1)]) (c' := .o none (iHouse K t28.2)) .nil rfl rfl (a_v (e_var rfl) (a_v (e_var rfl) a_nil)) rfl (W_House_take ht28)) (by first | rfl | simp [eL, oL, MO.d, eT2, eT3, eO, eN, Function.comp_def]))) ?_
            refine x_seqIf (t_test (e_neT (e := (eL (eO (eT2 D.int D.int)))) (x := (t28.1.map fun (y_ : (Int × Int)) => (some y_))) (y := (t27.1.map fun (y_ : (Int × Int)) => (some y_))) (EqT.lst (EqT.opt (EqT.tup2 EqT.int EqT.int) (fun _ => ⟨rfl, rfl⟩))) (by decide) (b_ownL rfl) (b_of (e_as (e_var rfl) (by first | rfl | simp [eL, oL, MO.d, eT2, eT3, eO, eN, Function.comp_def]))))) (fun hb => ?_) (fun hb => ?_)
            · have hm := R.ifT hb hm
              obtain rfl := R.ok.inj hm
              exact x_seqR (x_outR (x_ret e_bl) (by walk_at "wd"))
            · have hm := R.ifF hb hm
              refine x_seq x_next ?_
              obtain ⟨t29, ht29, hm⟩ := R.inv hm
              obtain rfl := R.ok.inj hm
              exact x_out (x_append (e := (eO (eT2 D.int D.int))) (x := none) e_non rfl rfl ht29) (by walk_at "wk")
        · subst hc; have hm := hm1
          obtain ⟨t31, ht31, hm⟩ := R.inv hm
          obtain ⟨t33, ht33, hm⟩ := R.inv hm
          refine x_if (t_or (r := t33) (μ2 := [some (.v ((eF D.int) v_script)), some (.v (D.int x4)), some (.o none (oL D.int s16.1)), some (.v (D.int t6.1)), some (.v (D.int t8.1)), some (.o none (iHouse K s16.2.1)), some (.o none (.tpl [.c (.d (s16.2.2.1.1.map (kvD D.int))), .c (.l (s16.2.2.1.2.1.map D.int)), .c (.l (s16.2.2.1.2.2.map (eT2 D.int D.int)))])), some (.v (D.int s16.2.2.2)), some (.v (D.int x13)), some (.v (D.int t14.1)), none, none, none, none]) (t_test (e_neV (e := D.int) (x := t31) (y := s16.2.2.2) EqT.int (by decide) (e_methO (cs' := []) (c' := .o none (iHouse K s16.2.1)) .nil rfl rfl a_nil rfl (W_House_numbers_lost ht31)) (e_var rfl))) (fun hb => by have hm := R.ifF hb ht33; obtain ⟨t32, ht32, hm⟩ := R.inv hm; obtain rfl := R.ok.inj hm; exact (t_not (t_tB (e_call (a_s rfl (a_s rfl (a_v (e_var rfl) (a_v (e_var rfl) a_nil)) rfl) rfl) (W__law_same ht32))))) (fun hb => by have hm := R.ifT hb ht33; obtain rfl := R.ok.inj hm; exact ⟨rfl, rfl⟩)) (fun hb => ?_) (fun hb => ?_)
          · have hm := R.ifT hb hm
            obtain rfl := R.ok.inj hm
            exact x_outR (x_ret e_bl) (by walk_at "wd")
          · have hm := R.ifF hb hm
            obtain rfl := R.ok.inj hm
            exact x_out x_next (by walk_at "wk")
        · subst hc; obtain rfl := R.ok.inj hm1; rfl
      · subst hc; have hm := hm1
        obtain ⟨t35, ht35, hm⟩ := R.inv hm
        obtain ⟨t36, ht36, hm⟩ := R.inv hm
        obtain ⟨t39, ht39, hm⟩ := R.inv hm
        refine x_if (t_or (r := t39) (μ2 := [some (.v ((eF D.int) v_script)), some (.v (D.int x4)), some (.o none (oL D.int s12.1)), some (.v (D.int t6.1)), some (.v (D.int t8.1)), some (.o none (iHouse K s12.2.1)), some (.o none (.tpl [.c (.d (s12.2.2.1.1.map (kvD D.int))), .c (.l (s12.2.2.1.2.1.map D.int)), .c (.l (s12.2.2.1.2.2.map (eT2 D.int D.int)))])), some (.v (D.int s12.2.2.2)), none, none, none, none, none, none]) (t_test (e_neV (e := (eT2 D.int D.int)) (x := (t35, t36)) (y := (t6.1, t8.1)) (EqT.tup2 EqT.int EqT.int) (by decide) (e_tup2 (e := D.int) (x := t35) (f := D.int) (y := t36) (d_cons (e_methO (cs' := []) (c' := .o none (iHouse K s12.2.1)) .nil rfl rfl a_nil rfl (W_House_block_size ht35)) (d_cons (e_methO (cs' := []) (c' := .o none (iHouse K s12.2.1)) .nil rfl rfl a_nil rfl (W_House_client_count ht36)) d_nil))) (e_tup2 (e := D.int) (x := t6.1) (f := D.int) (y := t8.1) (d_cons (e_var rfl) (d_cons (e_var rfl) d_nil))))) (fun hb => by have hm := R.ifF hb ht39; obtain ⟨t37, ht37, hm⟩ := R.inv hm; obtain ⟨t38, ht38, hm⟩ := R.inv hm; obtain rfl := R.ok.inj hm; exact (t_test (e_ownAe T.ow_House.i (e_frz (o_make (c := iHouse K t37) (cs' := [.v (D.int t6.1), .v (D.int t8.1)]) .nil (a_perm0 (π := [1, 0]) (ds' := [D.int t6.1, D.int t8.1]) (d_cons (e_var rfl) (d_cons (e_var rfl) d_nil))) (W_House___init__ ht37))) rfl (e_as (d' := eA (Av.int 5)) e_int rfl) (W_House___eq____A ht38)))) (fun hb => by have hm := R.ifT hb ht39; obtain rfl := R.ok.inj hm; exact ⟨rfl, rfl⟩)) (fun hb => ?_) (fun hb => ?_)
        · have hm := R.ifT hb hm
          obtain rfl := R.ok.inj hm
          exact x_outR (x_ret e_bl) (by walk_at "wd")
        · have hm := R.ifF hb hm
          obtain rfl := R.ok.inj hm
          exact x_out x_next (by walk_at "wk")
      · subst hc; obtain rfl := R.ok.inj hm1; rfl
    · subst hc; have hm := hm1
      obtain rfl := R.ok.inj hm
      exact x_outR (x_ret e_bl) (by walk_at "wd")
    · subst hc; obtain rfl := R.ok.inj hm1; rfl
end
end Fw

set_option linter.all false
/-! Laws of the plain answers. No program here. -/
namespace FwP
open Fw
def Spec {α : Type} (m : R α) (Φ : α → Prop) : Prop := ∃ a, m = .ok a ∧ Φ a
theorem spec_ok {α : Type} {a : α} {Φ : α → Prop} (h : Φ a) : Spec (.ok a) Φ := ⟨a, rfl, h⟩
theorem spec_bind {α β : Type} {m : R α} {f : α → R β} {Φ : α → Prop} {Ψ : β → Prop} (h : Spec m Φ) (k : ∀ a, Φ a → Spec (f a) Ψ) : Spec (m.bind f) Ψ := by
  obtain ⟨a, rfl, ha⟩ := h
  exact k a ha
theorem spec_bindE {α β : Type} {m : R α} {f : α → R β} {a : α} {Ψ : β → Prop} (h : m = .ok a) (k : Spec (f a) Ψ) : Spec (m.bind f) Ψ := by
  subst h; exact k
theorem spec_mono {α : Type} {m : R α} {Φ Ψ : α → Prop} (h : Spec m Φ) (k : ∀ a, Φ a → Ψ a) : Spec m Ψ := by
  obtain ⟨a, e, ha⟩ := h
  exact ⟨a, e, k a ha⟩
theorem bindE {α β : Type} {m : R α} {f : α → R β} {a : α} {r : R β} (h : m = .ok a) (k : f a = r) : m.bind f = r := by subst h; exact k
theorem spec_forR {α σ : Type} {body : σ → α → R σ} {xs : List α} {s : σ} (I : Nat → σ → Prop) (h0 : I 0 s)
    (hs : ∀ i x s, xs[i]? = some x → I i s → Spec (body s x) (I (i + 1))) : Spec (forR body xs s) (I xs.length) := by
  induction xs generalizing s I with
  | nil => exact spec_ok h0
  | cons x xs ih =>
    refine spec_bind (hs 0 x s rfl h0) fun a ha => ?_
    exact ih (fun i => I (i + 1)) ha fun i y s hy hi => hs (i + 1) y s hy hi
theorem spec_forC {α σ ρ : Type} {body : σ → α → R (Ctl σ ρ)} {xs : List α} {s : σ} (I : Nat → σ → Prop) (h0 : I 0 s)
    (hs : ∀ i x s, xs[i]? = some x → I i s → Spec (body s x) (fun c => ∃ s', c = .nx s' ∧ I (i + 1) s')) : Spec (forC body xs s) (fun c => ∃ s', c = .nx s' ∧ I xs.length s') := by
  induction xs generalizing s I with
  | nil => exact spec_ok ⟨s, rfl, h0⟩
  | cons x xs ih =>
    refine spec_bind (hs 0 x s rfl h0) fun a ha => ?_
    obtain ⟨s', rfl, h'⟩ := ha
    exact ih (fun i => I (i + 1)) h' fun i y s hy hi => hs (i + 1) y s hy hi
theorem spec_while {σ : Type} {c : σ → R Bool} {b : σ → R σ} (I : σ → Prop) (μ : σ → Nat) (hc : ∀ s, I s → ∃ t, c s = .ok t)
    (hb : ∀ s, I s → c s = .ok true → Spec (b s) (fun s' => I s' ∧ μ s' < μ s)) {s : σ} (h : I s) (hμ : μ s < fuel) : Spec (whileR c b s) (fun s' => I s' ∧ c s' = .ok false) := by
  unfold whileR
  generalize fuel = n at hμ
  induction n generalizing s with
  | zero => omega
  | succ n ih =>
    simp only [whileNR]
    obtain ⟨t, e⟩ := hc s h
    rw [e]
    show Spec (if t = true then _ else _) _
    cases t with
    | false => exact spec_ok ⟨h, e⟩
    | true =>
      refine spec_bind (hb s h e) fun s' h' => ih h'.1 (by omega)
theorem need_ok {p : Prop} [Decidable p] (h : p) : need p = .ok () := if_pos h
theorem appR_ok {α : Type} {xs : List α} {x : α} (h : xs.length < 10 ^ 7) : appR xs x = .ok (xs ++ [x]) := if_pos (by unfold most; omega)
theorem catR_ok {α : Type} {xs ys : List α} (h : xs.length + ys.length ≤ 10 ^ 7) : catR xs ys = .ok (xs ++ ys) := if_pos (by unfold most; omega)
theorem log2_lt {n k : Nat} (h : n < 2 ^ k) (hk : 0 < k) : n.log2 < k := by
  by_cases z : n = 0
  · subst z; simpa using hk
  · exact (Nat.log2_lt z).mpr h
def Big (i : Int) : Prop := i.natAbs < 2 ^ 250
theorem big_of {i : Int} (h0 : -(10 ^ 60) ≤ i) (h1 : i ≤ 10 ^ 60) : Big i := by
  have h : i.natAbs ≤ 10 ^ 60 := by omega
  exact Nat.lt_of_le_of_lt h (by decide)
theorem mulR_r {i j : Int} (h : -(2 ^ 64) < j ∧ j < 2 ^ 64) : mulR i j = .ok (i * j) := if_pos (.inr (.inl h))
theorem mulR_l {i j : Int} (h : -(2 ^ 64) < i ∧ i < 2 ^ 64) : mulR i j = .ok (i * j) := if_pos (.inr (.inr h))
theorem divR_ok {i j : Int} (h : 0 < j) (b : Big j) : divR i j = .ok (i / j) := if_pos ⟨h, by have := log2_lt b (by decide); omega⟩
theorem modR_ok {i j : Int} (h : 0 < j) : modR i j = .ok (i % j) := if_pos h
theorem powR_ok {i j : Int} (h0 : 0 ≤ j) (h1 : j ≤ 1000000) (h : i.natAbs < 2 ^ 64) : powR i j = .ok (i ^ j.toNat) := if_pos ⟨h0, h1, h⟩
theorem rngR_ok {i j : Int} (h0 : -(2 ^ 62) ≤ i) (h1 : i < 2 ^ 62) (h2 : -(2 ^ 62) ≤ j) (h3 : j < 2 ^ 62) : rngR i j = .ok (rng i j) := if_pos ⟨h0, h1, h2, h3⟩
theorem rng_len (lo hi : Int) : (rng lo hi).length = (hi - lo).toNat := by simp [rng]
theorem rng_mem {lo hi x : Int} : x ∈ rng lo hi ↔ lo ≤ x ∧ x < hi := by
  unfold rng
  constructor
  · intro h
    obtain ⟨i, hi, rfl⟩ := List.mem_map.mp h
    have := List.mem_range.mp hi
    omega
  · intro h
    exact List.mem_map.mpr ⟨(x - lo).toNat, List.mem_range.mpr (by omega), by omega⟩
theorem ixZ_nat {n k : Nat} (h : k < n) : ixZ n (k : Int) = some k := by
  unfold ixZ
  rw [if_pos (by omega), if_pos (by omega)]; simp
theorem ixZ_neg1 {n : Nat} (h : 0 < n) : ixZ n (-1) = some (n - 1) := by
  unfold ixZ
  rw [if_neg (by omega), if_pos (by omega)]
  congr 1; omega
theorem idx_nat {α : Type} {xs : List α} {k : Nat} {x : α} (h : xs[k]? = some x) : idx xs (k : Int) = .ok x := by
  obtain ⟨hk, e⟩ := List.getElem?_eq_some_iff.mp h
  unfold idx atZ
  rw [ixZ_nat hk]
  show ofO xs[k]? = _
  rw [h]; rfl
theorem idx_mem {α : Type} {xs : List α} {r : Int} (h0 : 0 ≤ r) (h1 : r < xs.length) : Spec (idx xs r) (fun x => x ∈ xs ∧ xs[r.toNat]? = some x) := by
  have hlt : r.toNat < xs.length := by omega
  refine ⟨xs[r.toNat], ?_, List.getElem_mem hlt, by simp [hlt]⟩
  have := idx_nat (xs := xs) (k := r.toNat) (x := xs[r.toNat]) (by simp [hlt])
  rwa [Int.toNat_of_nonneg h0] at this
theorem idx_last {α : Type} {xs : List α} {x : α} : idx (xs ++ [x]) (-1) = .ok x := by
  unfold idx atZ
  rw [ixZ_neg1 (by simp)]
  show ofO (xs ++ [x])[_]? = _
  simp [ofO]
theorem setR_last {α : Type} {xs : List α} {x y : α} : setR (xs ++ [x]) (-1) y = .ok (xs ++ [y]) := by
  unfold setR
  rw [ixZ_neg1 (by simp)]
  show R.ok ((xs ++ [x]).set _ y) = _
  simp
theorem cut_init {α : Type} {xs : List α} : cut xs none (some (-1)) = xs.take (xs.length - 1) := by
  have e2 : sixZ xs.length xs.length (some (-1)) = xs.length - 1 := by
    simp only [sixZ]
    rw [if_pos (by omega)]; omega
  unfold cut
  rw [e2, show sixZ xs.length 0 none = 0 from rfl, List.drop_zero, Nat.sub_zero]
theorem enm_get {α : Type} {xs : List α} {i : Nat} {p : Int × α} (h : (enm xs)[i]? = some p) : p.1 = (i : Int) ∧ xs[i]? = some p.2 := by
  unfold enm at h
  rw [List.getElem?_mapIdx] at h
  cases e : xs[i]? with
  | none => rw [e] at h; cases h
  | some x => rw [e] at h; cases h; exact ⟨rfl, rfl⟩
theorem enm_len {α : Type} {xs : List α} : (enm xs).length = xs.length := by simp [enm]
/-! dicts -/
theorem look_mem {α : Type} : ∀ {kvs : List (Int × α)} {k : Int}, k ∈ keysZ kvs ↔ ∃ v, lookZ kvs k = some v
  | [], k => by simp [keysZ, lookZ]
  | (k', d) :: r, k => by
    have ih := look_mem (kvs := r) (k := k)
    simp only [lookZ]
    by_cases c : k' = k
    · rw [if_pos c]; simp [keysZ, c]
    · rw [if_neg c, ← ih]
      simp only [keysZ, List.map_cons, List.mem_cons]
      constructor
      · rintro (h | h)
        · exact absurd h.symm c
        · exact h
      · exact .inr
theorem any_key {α : Type} {kvs : List (Int × α)} {k : Int} : (kvs.any fun kv => decide (kv.1 = k)) = true ↔ k ∈ keysZ kvs := by
  rw [List.any_eq_true]
  unfold keysZ
  rw [List.mem_map]
  constructor
  · rintro ⟨x, h, e⟩; exact ⟨x, h, of_decide_eq_true e⟩
  · rintro ⟨x, h, e⟩; exact ⟨x, h, decide_eq_true e⟩
theorem look_map {α : Type} {k k' : Int} {d : α} : ∀ {kvs : List (Int × α)}, lookZ (kvs.map fun kv => if kv.1 = k then (kv.1, d) else kv) k' = if k' = k then (lookZ kvs k).map (fun _ => d) else lookZ kvs k'
  | [] => by simp [lookZ]
  | (a, b) :: r => by
    have ih := look_map (k := k) (k' := k') (d := d) (kvs := r)
    rw [List.map_cons]
    by_cases h : a = k
    · subst h
      rw [if_pos rfl]
      simp only [lookZ]
      by_cases c : a = k'
      · subst c; simp
      · rw [if_neg c, ih, if_neg (fun z => c z.symm), if_neg c]; simp
        intro z; exact absurd z.symm c
    · rw [if_neg h]
      simp only [lookZ]
      by_cases c : a = k'
      · subst c; simp [h]
      · rw [if_neg c, ih, if_neg h, if_neg c]
theorem look_app {α : Type} {k k' : Int} {d : α} : ∀ {kvs : List (Int × α)}, lookZ (kvs ++ [(k, d)]) k' = (lookZ kvs k').or (if k = k' then some d else none)
  | [] => by simp [lookZ]
  | (a, b) :: r => by
    have ih := look_app (k := k) (k' := k') (d := d) (kvs := r)
    rw [List.cons_append]
    simp only [lookZ]
    by_cases c : a = k'
    · simp [c]
    · rw [if_neg c, if_neg c, ih]
theorem look_put {α : Type} {kvs : List (Int × α)} {k k' : Int} {d : α} : lookZ (putZ kvs k d) k' = if k' = k then some d else lookZ kvs k' := by
  unfold putZ
  by_cases h : k ∈ keysZ kvs
  · rw [if_pos (any_key.mpr h), look_map]
    obtain ⟨v, e⟩ := look_mem.mp h
    rw [e]; rfl
  · rw [if_neg (fun z => h (any_key.mp z)), look_app]
    have : lookZ kvs k = none := by
      cases e : lookZ kvs k with
      | none => rfl
      | some v => exact absurd (look_mem.mpr ⟨v, e⟩) h
    by_cases c : k' = k
    · subst c; rw [if_pos rfl, if_pos rfl, this]; rfl
    · rw [if_neg c, if_neg (fun z => c z.symm)]; simp
theorem put_len {α : Type} {kvs : List (Int × α)} {k : Int} {d : α} : (putZ kvs k d).length = if k ∈ keysZ kvs then kvs.length else kvs.length + 1 := by
  unfold putZ
  by_cases h : k ∈ keysZ kvs
  · rw [if_pos (any_key.mpr h), if_pos h, List.length_map]
  · rw [if_neg (fun z => h (any_key.mp z)), if_neg h, List.length_append]; rfl
theorem putR_ok {α : Type} {kvs : List (Int × α)} {k : Int} {d : α} (h : kvs.length < 10 ^ 7) : putR kvs k d = .ok (putZ kvs k d) := if_pos (by unfold most; omega)
theorem getR_ok {α : Type} {kvs : List (Int × α)} {k : Int} {v : α} (h : lookZ kvs k = some v) : getR kvs k = .ok v := by unfold getR; rw [h]; rfl
end FwP

set_option linter.all false
set_option maxRecDepth 100000
set_option maxHeartbeats 4000000
namespace FwP
open Fw
/-! ### logs: runs of blocks -/
theorem enm_snoc {α : Type} (xs : List α) (x : α) : enm (xs ++ [x]) = enm xs ++ [((xs.length : Int), x)] := by
  unfold enm
  rw [List.mapIdx_append]; simp
theorem take_snoc {α : Type} {l : List α} {k : Nat} {x : α} (h : l[k]? = some x) : l.take (k + 1) = l.take k ++ [x] := by rw [List.take_add_one, h]; rfl
theorem take_length {α : Type} {l : List α} {k : Nat} {x : α} (h : l[k]? = some x) : (l.take k).length = k := by
  have := (List.getElem?_eq_some_iff.mp h).1
  rw [List.length_take]; omega
/-- how much of block k is issued -/
def cnt (w : Int) (ps : List (Int × Int)) (k : Int) : Int := ((ps.filter fun p => decide (p.1 / w = k)).map (·.2)).sum
/-- where the runs of block k stand -/
def inds (w : Int) (ps : List (Int × Int)) (k : Int) : List Int := ((enm ps).filter fun x => decide (x.2.1 / w = k)).map (·.1)
def ixM (w : Int) (ps : List (Int × Int)) : List (Int × List Int) := (enm ps).foldl (fun a x => sdZ a (x.2.1 / w) x.1) []
def lastB (w : Int) (ps : List (Int × Int)) : Option Int := ps.getLast?.map fun p => p.1 / w
def posM (ps : List (Int × Int)) : List Int := (List.range (ps.length + 1)).map fun i => ((ps.take i).map (·.2)).sum
section
variable {w : Int} {ps : List (Int × Int)} {p : Int × Int} {k : Int}
theorem cnt_snoc : cnt w (ps ++ [p]) k = cnt w ps k + if p.1 / w = k then p.2 else 0 := by
  unfold cnt
  rw [List.filter_append, List.map_append, List.sum_append]
  by_cases h : p.1 / w = k
  · rw [if_pos h, List.filter_cons_of_pos (by simpa using h)]; simp
  · rw [if_neg h, List.filter_cons_of_neg (by simpa using h)]; simp
theorem inds_snoc : inds w (ps ++ [p]) k = inds w ps k ++ if p.1 / w = k then [(ps.length : Int)] else [] := by
  unfold inds
  rw [enm_snoc, List.filter_append, List.map_append]
  by_cases h : p.1 / w = k
  · rw [if_pos h, List.filter_cons_of_pos (by simpa using h)]; simp
  · rw [if_neg h, List.filter_cons_of_neg (by simpa using h)]; simp
theorem ixM_snoc : ixM w (ps ++ [p]) = sdZ (ixM w ps) (p.1 / w) ps.length := by
  unfold ixM
  rw [enm_snoc, List.foldl_append]; rfl
theorem lastB_snoc : lastB w (ps ++ [p]) = some (p.1 / w) := by
  unfold lastB; simp
theorem posM_snoc : posM (ps ++ [p]) = posM ps ++ [(ps.map (·.2)).sum + p.2] := by
  unfold posM
  rw [List.length_append, List.length_singleton, List.range_succ (n := ps.length + 1), List.map_append]
  congr 1
  · apply List.map_congr_left
    intro i hi
    have := List.mem_range.mp hi
    rw [List.take_append_of_le_length (by omega)]
  · simp [List.take_of_length_le, List.sum_append]
theorem posM_last : ∃ ys, posM ps = ys ++ [(ps.map (·.2)).sum] ∧ ys.length = ps.length := by
  unfold posM
  rw [List.range_succ, List.map_append]
  refine ⟨(List.range ps.length).map fun i => ((ps.take i).map (·.2)).sum, ?_, by simp⟩
  simp only [List.map_cons, List.map_nil, List.take_length]
theorem look_sd {α : Type} {x : α} {k' : Int} : ∀ {kvs : List (Int × List α)}, lookZ (sdZ kvs k x) k' = if k' = k then some ((lookZ kvs k).getD [] ++ [x]) else lookZ kvs k'
  | [] => by
    simp only [sdZ, lookZ]
    by_cases h : k = k'
    · subst h; simp
    · rw [if_neg h, if_neg fun z => h z.symm]
  | (a, b) :: r => by
    have ih := look_sd (x := x) (k' := k') (kvs := r)
    simp only [sdZ]
    by_cases c : a = k
    · subst c
      rw [if_pos rfl]
      simp only [lookZ]
      by_cases h : a = k'
      · subst h; simp
      · rw [if_neg h, if_neg h, if_neg fun z => h z.symm]
    · rw [if_neg c]
      simp only [lookZ]
      rw [ih]
      by_cases h : a = k'
      · subst h; rw [if_pos rfl, if_pos rfl, if_neg c]
      · rw [if_neg h, if_neg h, if_neg c]
theorem keys_sd {α : Type} {x : α} : ∀ {kvs : List (Int × List α)}, keysZ (sdZ kvs k x) = if k ∈ keysZ kvs then keysZ kvs else keysZ kvs ++ [k]
  | [] => by simp [sdZ, keysZ]
  | (a, b) :: r => by
    have ih := keys_sd (x := x) (kvs := r)
    unfold keysZ at ih ⊢
    simp only [sdZ]
    by_cases c : a = k
    · subst c
      rw [if_pos rfl]; simp
    · rw [if_neg c, List.map_cons, ih]
      have c' : ¬ k = a := fun z => c z.symm
      by_cases h : k ∈ r.map (·.1)
      · rw [if_pos h, if_pos (by simp only [List.map_cons, List.mem_cons]; exact .inr h)]; rfl
      · rw [if_neg h, if_neg (by simp only [List.map_cons, List.mem_cons, c', false_or]; exact h)]; rfl
end
theorem snoc_ind {α : Type} {P : List α → Prop} (h0 : P []) (hs : ∀ xs x, P xs → P (xs ++ [x])) : ∀ xs, P xs := by
  intro xs
  have : ∀ n, ∀ xs : List α, xs.length = n → P xs := by
    intro n
    induction n with
    | zero => intro xs h; rw [List.length_eq_zero_iff.mp h]; exact h0
    | succ n ih =>
      intro xs h
      have hne : xs ≠ [] := fun z => by rw [z] at h; cases h
      rw [← List.dropLast_concat_getLast hne]
      exact hs _ _ (ih _ (by rw [List.length_dropLast]; omega))
  exact this _ xs rfl
theorem look_ix (w : Int) : ∀ (ps : List (Int × Int)) (k : Int), lookZ (ixM w ps) k = if inds w ps k = [] then none else some (inds w ps k) := by
  refine snoc_ind (P := fun ps => ∀ k : Int, lookZ (ixM w ps) k = if inds w ps k = [] then none else some (inds w ps k)) (fun k => rfl) fun ps p ih k => ?_
  rw [ixM_snoc, look_sd, inds_snoc]
  by_cases h : k = p.1 / w
  · subst h
    rw [if_pos rfl, if_pos rfl, if_neg (by simp), ih]
    by_cases g : inds w ps (p.1 / w) = []
    · rw [if_pos g, g]; rfl
    · rw [if_neg g]; rfl
  · rw [if_neg h, if_neg (show ¬ p.1 / w = k from fun z => h z.symm), List.append_nil, ih]
theorem ix_lists (w : Int) : ∀ (ps : List (Int × Int)), (ixM w ps).length ≤ ps.length ∧ ∀ q ∈ ixM w ps, q.2.length ≤ ps.length := by
  refine snoc_ind ⟨Nat.le_refl _, fun q h => by cases h⟩ fun ps p ih => ?_
  have key : ∀ (kvs : List (Int × List Int)) (k x : Int) (n : Nat), (∀ q ∈ kvs, q.2.length ≤ n) → (sdZ kvs k x).length ≤ kvs.length + 1 ∧ ∀ q ∈ sdZ kvs k x, q.2.length ≤ n + 1 := by
    intro kvs k x n
    induction kvs with
    | nil =>
      intro _
      refine ⟨Nat.le_refl _, fun q hq => ?_⟩
      rw [List.mem_singleton.mp hq]; exact Nat.succ_le_succ (Nat.zero_le _)
    | cons a r ih2 =>
      intro h
      obtain ⟨k', xs⟩ := a
      obtain ⟨i1, i2⟩ := ih2 fun q hq => h q (List.mem_cons_of_mem _ hq)
      simp only [sdZ]
      by_cases c : k' = k
      · rw [if_pos c]
        refine ⟨by simp, fun q hq => ?_⟩
        rcases List.mem_cons.mp hq with rfl | hq
        · have := h _ List.mem_cons_self
          simp at this ⊢; exact this
        · exact Nat.le_succ_of_le (h q (List.mem_cons_of_mem _ hq))
      · rw [if_neg c]
        refine ⟨by simp; exact i1, fun q hq => ?_⟩
        rcases List.mem_cons.mp hq with rfl | hq
        · exact Nat.le_succ_of_le (h _ List.mem_cons_self)
        · exact i2 q hq
  rw [ixM_snoc, List.length_append, List.length_singleton]
  obtain ⟨i1, i2⟩ := key (ixM w ps) (p.1 / w) ps.length ps.length ih.2
  exact ⟨by have := ih.1; omega, i2⟩
/-- a run may follow -/
structure Nxt (w : Int) (lz : Bool) (ps : List (Int × Int)) (p : Int × Int) : Prop where
  pos : 0 ≤ p.1
  one : 1 ≤ p.2
  at_ : p.1 = p.1 / w * w + cnt w ps (p.1 / w)
  fit : cnt w ps (p.1 / w) + p.2 ≤ w
  ne : lastB w ps ≠ some (p.1 / w)
  lzy : lz = true → cnt w ps (p.1 / w) = 0 → p.1 / w = (ixM w ps).length
inductive LgOk (w : Int) (lz : Bool) : List (Int × Int) → Prop
  | nil : LgOk w lz []
  | snoc {ps : List (Int × Int)} {p : Int × Int} : LgOk w lz ps → Nxt w lz ps p → LgOk w lz (ps ++ [p])
section
variable {w : Int} {lz : Bool} {ps : List (Int × Int)} {p : Int × Int}
theorem lg_snoc (h : LgOk w lz (ps ++ [p])) : LgOk w lz ps ∧ Nxt w lz ps p := by
  generalize e : ps ++ [p] = qs at h
  cases h with
  | nil => simp at e
  | @snoc ps' p' a b =>
    obtain ⟨e1, e2⟩ := List.append_inj' e rfl
    rw [List.cons.injEq] at e2
    rw [e1, e2.1]
    exact ⟨a, b⟩
theorem lg_take (h : LgOk w lz ps) : ∀ (k : Nat), LgOk w lz (ps.take k) := by
  induction h with
  | nil => intro k; rw [List.take_nil]; exact .nil
  | @snoc ps p a b ih =>
    intro k
    by_cases c : k ≤ ps.length
    · rw [List.take_append_of_le_length c]; exact ih k
    · rw [List.take_of_length_le (by rw [List.length_append, List.length_singleton]; omega)]; exact .snoc a b
theorem lg_at (h : LgOk w lz ps) {k : Nat} (e : ps[k]? = some p) : Nxt w lz (ps.take k) p := by
  have := lg_take h (k + 1)
  rw [take_snoc e] at this
  exact (lg_snoc this).2
theorem lg_cnt (h : LgOk w lz ps) : ∀ k, 0 ≤ cnt w ps k ∧ (cnt w ps k = 0 ↔ inds w ps k = []) := by
  induction h with
  | nil => intro k; simp [cnt, inds, enm]
  | @snoc ps p a b ih =>
    intro k
    rw [cnt_snoc, inds_snoc]
    obtain ⟨i1, i2⟩ := ih k
    have := b.one
    by_cases c : p.1 / w = k
    · rw [if_pos c, if_pos c]
      exact ⟨by omega, ⟨fun z => by omega, fun z => by simp at z⟩⟩
    · rw [if_neg c, if_neg c, Int.add_zero, List.append_nil]
      exact ⟨i1, i2⟩
theorem div_block {k c x : Int} (hw : 0 < w) (h0 : 0 ≤ c) (hc : c < w) (hx : x = k * w + c) : x / w = k := by
  subst hx
  rw [Int.add_comm, Int.add_mul_ediv_right _ _ (by omega), Int.ediv_eq_zero_of_lt (a := c) (b := w) h0 hc]
  omega
/-- a lazy log's blocks are 0, 1, .. in their order -/
theorem lg_keys (h : LgOk w true ps) : keysZ (ixM w ps) = rng 0 (ixM w ps).length := by
  induction h with
  | nil => simp [ixM, enm, keysZ, rng]
  | @snoc ps p a b ih =>
    have hl : (ixM w (ps ++ [p])).length = (keysZ (ixM w (ps ++ [p]))).length := by simp [keysZ]
    rw [hl, ixM_snoc, keys_sd]
    have hl2 : (keysZ (ixM w ps)).length = (ixM w ps).length := by simp [keysZ]
    by_cases c : p.1 / w ∈ keysZ (ixM w ps)
    · rw [if_pos c, hl2]; exact ih
    · rw [if_neg c, List.length_append, List.length_singleton, hl2]
      have hz : cnt w ps (p.1 / w) = 0 := by
        rw [((lg_cnt a) _).2]
        cases e : inds w ps (p.1 / w) with
        | nil => rfl
        | cons y ys =>
          refine absurd (look_mem.mpr ⟨inds w ps (p.1 / w), ?_⟩) c
          rw [look_ix, if_neg (by rw [e]; simp)]
      rw [b.lzy rfl hz, ih]
      unfold rng
      rw [show (((ixM w ps).length + 1 : Nat) : Int) - 0 = (((ixM w ps).length + 1 : Nat) : Int) by omega, Int.toNat_natCast, List.range_succ, List.map_append]
      simp
end
end FwP

set_option linter.all false
set_option maxRecDepth 100000
set_option maxHeartbeats 4000000
namespace FwP
open Fw
theorem is_run_eq {p : Int × Int} {w : Int} (hw : 0 < w) (hb : Big w) (h0 : 0 ≤ p.1) (h1 : 1 ≤ p.2) (h2 : p.1 / w = (p.1 + p.2 - 1) / w) : m_is_run p w = .ok true := by
  unfold m_is_run m_is_integer
  rw [if_pos (decide_eq_true h0), if_pos (decide_eq_true h1), divR_ok hw hb, divR_ok hw hb]
  simp [h2]
theorem Nxt.same {w : Int} {lz : Bool} {ps : List (Int × Int)} {p : Int × Int} (hw : 0 < w) (hl : LgOk w lz ps) (h : Nxt w lz ps p) : p.1 / w = (p.1 + p.2 - 1) / w := by
  have c0 := (lg_cnt hl (p.1 / w)).1
  have h1 := h.one; have h2 := h.fit; have h3 := h.at_
  exact (div_block (k := p.1 / w) (c := cnt w ps (p.1 / w) + p.2 - 1) hw (by omega) (by omega) (by omega)).symm
theorem grouped_eq {w : Int} {lz : Bool} {ps : List (Int × Int)} (h : LgOk w lz ps) (hw : 0 < w) (hb : Big w) (hl : ps.length ≤ 400) (hk : ∀ p ∈ ps, p.1 / w ≤ 10 ^ 18) : m_grouped_8 w ps = .ok (ixM w ps) := by
  unfold m_grouped_8
  rw [if_neg (by simp; omega)]
  have := spec_forR (xs := enm ps) (s := (([] : (List (Int × (List Int)))), ([] : (List (Int × Int))), (none : Option Int))) (body := fun (s1 : ((List (Int × (List Int))) × (List (Int × Int)) × (Option Int))) (x2 : (Int × (Int × Int))) =>
R.bind (m_is_run x2.2 w) fun t3 =>
if (!t3) = true then
.bad
else
R.bind (divR x2.2.1 w) fun t4 =>
R.bind (if (decide ((some t4) = s1.2.2)) = true then .ok true else (R.bind (mulR t4 w) fun t5 =>
.ok (!decide (x2.2.1 = ((lookZ s1.2.1 t4).getD t5))))) fun t6 =>
if t6 = true then
.bad
else
R.bind (sdapR s1.1 t4 x2.1) fun t7 =>
R.bind (putR s1.2.1 t4 (x2.2.1 + x2.2.2)) fun t8 =>
.ok (t7, t8, (some t4))) (I := fun i s => s.1 = ixM w (ps.take i) ∧ s.2.1.length ≤ i ∧ (∀ k, (lookZ s.2.1 k).getD (k * w) = k * w + cnt w (ps.take i) k) ∧ s.2.2 = lastB w (ps.take i)) ⟨rfl, Nat.le_refl _, fun k => by simp [lookZ, cnt], rfl⟩ ?_
  · obtain ⟨s, e, h1, _⟩ := this
    rw [e]
    rw [enm_len, List.take_length] at h1
    show R.ok s.1 = _
    rw [h1]
  · rintro i ⟨j, p⟩ ⟨f, g, l⟩ hx ⟨h1, h2, h3, h4⟩
    obtain ⟨e1, e2⟩ := enm_get hx
    dsimp only at e1 e2 h1 h2 h3 h4 ⊢
    subst e1
    have hn := lg_at h e2
    have hlt := lg_take h i
    have hli := take_length e2
    have hi := (List.getElem?_eq_some_iff.mp e2).1
    have hkp := hk p (List.mem_of_getElem? e2)
    have hk0 : 0 ≤ p.1 / w := Int.ediv_nonneg hn.pos (by omega)
    refine spec_bindE (is_run_eq hw hb hn.pos hn.one (hn.same hw hlt)) ?_
    rw [if_neg (by decide)]
    refine spec_bindE (divR_ok hw hb) ?_
    refine spec_bindE (a := false) ?_ ?_
    · rw [if_neg (by rw [decide_eq_true_eq, h4]; exact fun z => hn.ne z.symm), mulR_l (by omega), R.bind_ok, h3]
      have := hn.at_
      show R.ok (!decide _) = R.ok false
      rw [decide_eq_true this]; rfl
    · rw [if_neg (by decide)]
      subst h1
      obtain ⟨q1, q2⟩ := ix_lists w (ps.take i)
      refine spec_bindE (a := sdZ (ixM w (ps.take i)) (p.1 / w) i) ?_ ?_
      · unfold sdapR
        rw [if_pos ⟨by unfold most; omega, List.all_eq_true.mpr fun q hq => decide_eq_true (by have := q2 q hq; unfold most; omega)⟩]
      · refine spec_bindE (putR_ok (by omega)) (spec_ok ⟨?_, ?_, fun k => ?_, ?_⟩)
        · dsimp only
          rw [take_snoc e2, ixM_snoc, hli]
        · dsimp only
          rw [put_len]; split <;> omega
        · dsimp only
          rw [take_snoc e2, cnt_snoc, look_put]
          by_cases c : k = p.1 / w
          · subst c
            rw [if_pos rfl, if_pos rfl]
            have := hn.at_
            show p.1 + p.2 = _
            omega
          · rw [if_neg c, if_neg (fun z => c z.symm), h3]; omega
        · dsimp only
          rw [take_snoc e2, lastB_snoc]
theorem order_ok {w : Int} {ps : List (Int × Int)} (h : LgOk w true ps) : m_check_order_7 (ixM w ps) = .ok () := by
  have hk := lg_keys h
  suffices hs : Spec (m_check_order_7 (ixM w ps)) (fun _ => True) by
    obtain ⟨u, e, _⟩ := hs
    exact e
  unfold m_check_order_7
  refine spec_bind (spec_forR (I := fun _ _ => True) trivial ?_) fun s _ => spec_ok trivial
  rintro i ⟨j, k⟩ s hx _
  obtain ⟨e1, e2⟩ := enm_get hx
  dsimp only at e1 e2 ⊢
  rw [hk] at e2
  unfold rng at e2
  rw [List.getElem?_map] at e2
  cases z : (List.range (((ixM w ps).length : Int) - 0).toNat)[i]? with
  | none => rw [z] at e2; cases e2
  | some y =>
    rw [z] at e2
    cases e2
    obtain ⟨hy, hy2⟩ := List.getElem?_eq_some_iff.mp z
    rw [List.getElem_range] at hy2
    subst hy2 e1
    rw [if_neg (by simp)]
    exact spec_ok trivial
theorem init_eq {w : Int} {lz : Bool} {ps : List (Int × Int)} (h : LgOk w lz ps) (hw : 0 < w) (hb : Big w) (hl : ps.length ≤ 400) (hk : ∀ p ∈ ps, p.1 / w ≤ 10 ^ 18) : m_Log___init___10 w ps (!lz) = .ok ⟨w, ps, !lz, ixM w ps, posM ps⟩ := by
  unfold m_Log___init___10
  refine bindE (a := ()) (by unfold m_check_size_12 m_is_integer; exact if_neg (by simp; omega)) ?_
  refine bindE (grouped_eq h hw hb hl hk) ?_
  rw [if_neg (by decide)]
  refine bindE (a := ()) ?_ ?_
  · cases lz with
    | false => rfl
    | true => exact bindE (order_ok h) rfl
  · obtain ⟨s, e, h1⟩ := spec_forR (xs := ps) (s := ([0] : List Int)) (body := fun (s5 : (List Int)) (x6 : (Int × Int)) =>
R.bind (idx s5 (-1)) fun t7 =>
R.bind (appR s5 (t7 + x6.2)) fun t8 =>
.ok t8) (I := fun i s => s = posM (ps.take i)) rfl (by
      rintro i p s hx rfl
      have hi := (List.getElem?_eq_some_iff.mp hx).1
      have hli := take_length hx
      obtain ⟨ys, e1, e2⟩ := posM_last (ps := ps.take i)
      rw [e1]
      refine spec_bindE idx_last ?_
      refine spec_bindE (appR_ok (by rw [List.length_append, List.length_singleton]; omega)) (spec_ok ?_)
      rw [take_snoc hx, posM_snoc, e1])
    rw [List.take_length] at h1
    subst h1
    exact bindE e rfl
end FwP

set_option linter.all false
set_option maxRecDepth 100000
set_option maxHeartbeats 4000000
/-! rows (block, grant, last run) and lists of clients; plain -/
namespace FwP
open Fw
theorem spec_forCR {α σ ρ : Type} {body : σ → α → R (Ctl σ ρ)} {xs : List α} {s : σ} (I : Nat → σ → Prop) (Φ : ρ → Prop) (h0 : I 0 s)
    (h : ∀ k x s, xs[k]? = some x → I k s → Spec (body s x) fun c => match c with | .nx s' => I (k + 1) s' | .rt r => Φ r) :
    Spec (forC body xs s) fun c => match c with | .nx s' => I xs.length s' | .rt r => Φ r := by
  induction xs generalizing s I with
  | nil => exact ⟨.nx s, rfl, h0⟩
  | cons x xs ih =>
    obtain ⟨c, hc, hb⟩ := h 0 x s rfl h0
    cases c with
    | rt r => exact ⟨.rt r, by show (body s x).bind _ = _; rw [hc]; rfl, hb⟩
    | nx s' =>
      obtain ⟨c2, hc2, h2⟩ := ih (s := s') (fun k => I (k + 1)) hb fun k y s2 hy hI => h (k + 1) y s2 (by simpa using hy) hI
      exact ⟨c2, by show (body s x).bind _ = _; rw [hc]; exact hc2, h2⟩
abbrev Row := Int × Int × Int
def rG (t : List Row) (j : Nat) : Int := (t.getD j (0, 0, 0)).2.1
def rL (t : List Row) (j : Nat) : Int := (t.getD j (0, 0, 0)).2.2
/-- the client of block j is free at its grant -/
def Free (t : List Row) (v : List Int) (j : Nat) : Prop := 0 ≤ v.getD j 0 ∧ ∀ i, i < j → v.getD i 0 = v.getD j 0 → rL t i < rG t j
def Valid (t : List Row) (v : List Int) : Prop := v.length = t.length ∧ ∀ j, j < t.length → Free t v j
def cntA (t : List Row) (i : Int) : Nat := (t.filter fun x => decide (x.2.1 ≤ i) && decide (i ≤ x.2.2)).length
/-- the blocks open at i, by their places -/
def opens (t : List Row) (i : Int) : List Nat := (List.range t.length).filter fun j => decide (rG t j ≤ i) && decide (i ≤ rL t j)
/-! the least free client -/
def busyL (t : List Row) (v : List Int) (g : Int) : List Int := ((List.range v.length).filter fun i => decide (g ≤ rL t i)).map fun i => v.getD i 0
def mexI (b : List Int) (n : Nat) : Int := (((List.range (n + 1)).map fun (i : Nat) => (i : Int)).filter fun c => decide (c ∉ b)).headD 0
/-- each block to the least client that is free -/
def gre (t : List Row) : Nat → List Int
  | 0 => []
  | k + 1 => gre t k ++ [mexI (busyL t (gre t k) (rG t k)) k]
end FwP

/-! draws and runs of the second family -/
namespace FwP
open Fw
def Src (b : Int) (s : List Int) : Prop := ∃ x y z, s = [x, y, z] ∧ 0 ≤ x ∧ 0 ≤ y ∧ y < 2147483647 ∧ 0 ≤ z ∧ z ≤ b
theorem Src.mono {b b' : Int} {s : List Int} (h : Src b s) (hb : b ≤ b') : Src b' s := by
  obtain ⟨x, y, z, e, h1, h2, h3, h4, h5⟩ := h
  exact ⟨x, y, z, e, h1, h2, h3, h4, by omega⟩
def primesL : List Int := [2147483647, 2147483629, 2147483587, 2147483579, 2147483563, 2147483549, 2147483543]
theorem prime_at {k : Int} (h0 : 0 ≤ k) (h1 : k < 7) : Spec (idx primesL k) (fun p => 2147483543 ≤ p ∧ p ≤ 2147483647) := by
  refine spec_mono (idx_mem h0 (by simpa [primesL] using h1)) fun p hp => ?_
  have hp := hp.1
  simp only [primesL, List.mem_cons, List.not_mem_nil, or_false] at hp
  omega
theorem sp_next {b m : Int} {s : List Int} (hs : Src b s) (hb : b ≤ 2 ^ 40) (hm : 0 < m) (hm' : m ≤ 10 ^ 30) :
    Spec (m_l_next s m) (fun p => 0 ≤ p.1 ∧ p.1 < m ∧ Src (b + 1) p.2) := by
  obtain ⟨x, y, z, rfl, h1, h2, h3, h4, h5⟩ := hs
  unfold m_l_next
  refine spec_bindE (a := x) rfl ?_
  by_cases c : 0 < x
  · rw [if_pos (decide_eq_true c)]
    refine spec_bindE (a := x) rfl ?_
    refine spec_bindE (modR_ok hm) ?_
    refine spec_bindE (a := x) rfl ?_
    refine spec_bindE (divR_ok hm (big_of (by omega) (by omega))) ?_
    refine spec_bindE (a := [x / m, y, z]) rfl ?_
    exact spec_ok ⟨Int.emod_nonneg _ (by omega), Int.emod_lt_of_pos _ hm, x / m, y, z, rfl, Int.ediv_nonneg h1 (by omega), h2, h3, h4, by omega⟩
  · rw [if_neg (by rw [decide_eq_true_eq]; exact c)]
    refine spec_bindE (a := z) rfl ?_
    refine spec_bindE (a := [x, y, z + 1]) rfl ?_
    refine spec_bindE (a := z + 1) rfl ?_
    refine spec_bindE (modR_ok (by omega)) ?_
    refine spec_bind (prime_at (Int.emod_nonneg _ (by omega)) (Int.emod_lt_of_pos _ (by omega))) fun p hpp => ?_
    refine spec_bindE (a := y) rfl ?_
    refine spec_bindE (a := z + 1) rfl ?_
    refine spec_bindE (mulR_l (by omega)) ?_
    refine spec_bindE (powR_ok (by omega) (by omega) (by omega)) ?_
    refine spec_bindE (modR_ok (by omega)) ?_
    refine spec_bindE (a := z + 1) rfl ?_
    refine spec_bindE (divR_ok (by omega) (big_of (by omega) (by omega))) ?_
    generalize hw : (y + 7919 * (z + 1) + 1) ^ Int.toNat 5 = w
    have w1 := Int.emod_nonneg w (show p ≠ 0 by omega)
    have w2 := Int.emod_lt_of_pos w (show 0 < p by omega)
    refine spec_bindE (mulR_l (by omega)) ?_
    refine spec_bindE (modR_ok (by omega)) ?_
    refine spec_bindE (divR_ok (by omega) (big_of (by omega) (by omega))) ?_
    refine spec_bindE (modR_ok hm) ?_
    exact spec_ok ⟨Int.emod_nonneg _ (by omega), Int.emod_lt_of_pos _ hm, x, y, z + 1, rfl, h1, h2, h3, by omega, by omega⟩
theorem sp_one {b : Int} {s os : List Int} (hs : Src b s) (hb : b ≤ 2 ^ 40) (h0 : os ≠ []) (h1 : os.length ≤ 1000) : Spec (m_l_one s os) (fun p => p.1 ∈ os ∧ Src (b + 1) p.2) := by
  have := List.length_pos_iff.mpr h0
  unfold m_l_one
  refine spec_bind (sp_next hs hb (by omega) (by omega)) fun p hp => ?_
  refine spec_bind (idx_mem hp.1 hp.2.1) fun x hx => ?_
  exact spec_ok ⟨hx.1, hp.2.2⟩
theorem sp_cell_at {ns : List Int} {i : Int} (h : 0 ≤ i) : Spec (m_l_cell_at_1 ns i) (fun _ => True) := by
  unfold m_l_cell_at_1
  split
  · rename_i c
    rw [decide_eq_true_eq] at c
    refine spec_bind (idx_mem h c) fun x _ => spec_ok trivial
  · exact spec_ok trivial
theorem sp_source_of (c : Int) : Spec (m_l_source_of c) (fun s => Src 0 s) := by
  unfold m_l_source_of
  refine spec_bindE (powR_ok (by omega) (by omega) (by decide)) ?_
  refine spec_bindE (mulR_r (by split <;> omega)) ?_
  refine spec_bindE (modR_ok (by omega)) ?_
  refine spec_ok ⟨_, _, _, rfl, ?_, Int.emod_nonneg _ (by omega), Int.emod_lt_of_pos _ (by omega), Int.le_refl _, Int.le_refl _⟩
  show 0 ≤ c * (if decide ((10 : Int) ^ Int.toNat 18 ≤ c) = true then 1 else 0)
  split
  · rename_i h
    rw [decide_eq_true_eq] at h
    have : (0 : Int) ≤ 10 ^ Int.toNat 18 := by decide
    omega
  · omega
theorem sp_width {b : Int} {s : List Int} (hs : Src b s) (hb : b ≤ 2 ^ 30) : Spec (m_l_width s) (fun p => 0 < p.1 ∧ p.1 ≤ 10 ^ 27 ∧ Src (b + 3) p.2) := by
  unfold m_l_width
  refine spec_bind (sp_next hs (by omega) (by omega) (by omega)) fun t1 h1 => ?_
  refine spec_bindE (powR_ok (by omega) (by omega) (by decide)) ?_
  refine spec_bindE (powR_ok (by omega) (by omega) (by decide)) ?_
  have e6 : (10 : Int) ^ Int.toNat 6 = 10 ^ 6 := rfl
  have e27 : (10 : Int) ^ Int.toNat 27 = 10 ^ 27 := rfl
  rw [e6, e27]
  refine spec_bind (sp_next h1.2.2 (by omega) (by omega) (by omega)) fun t4 h4 => ?_
  refine spec_bind (sp_one h4.2.2 (by omega) (by simp) (by simp)) fun t5 h5 => spec_ok ?_
  obtain ⟨hm, hs5⟩ := h5
  simp only [List.mem_cons, List.not_mem_nil, or_false] at hm
  exact ⟨by omega, by omega, hs5.mono (by omega)⟩
/-! a run added, joined with the last one of its block -/
def addF (w : Int) (ps : List (Int × Int)) (f m : Int) : List (Int × Int) := match ps.getLast? with
  | none => ps ++ [(f, m)]
  | some q => if q.1 / w = f / w then ps.dropLast ++ [(q.1, q.2 + m)] else ps ++ [(f, m)]
theorem add_nil (w f m : Int) : addF w [] f m = [(f, m)] := rfl
theorem add_snoc (w : Int) (ps : List (Int × Int)) (q : Int × Int) (f m : Int) : addF w (ps ++ [q]) f m = if q.1 / w = f / w then ps ++ [(q.1, q.2 + m)] else ps ++ [q] ++ [(f, m)] := by
  unfold addF
  rw [List.getLast?_concat]
  dsimp only
  rw [List.dropLast_concat]
theorem list_cases {α : Type} (xs : List α) : xs = [] ∨ ∃ ys y, xs = ys ++ [y] := by
  by_cases h : xs = []
  · exact .inl h
  · exact .inr ⟨_, _, (List.dropLast_concat_getLast h).symm⟩
section
variable {w f m : Int} {lz : Bool} {ps : List (Int × Int)}
theorem add_cnt (k : Int) : cnt w (addF w ps f m) k = cnt w ps k + if f / w = k then m else 0 := by
  rcases list_cases ps with rfl | ⟨ys, y, rfl⟩
  · rw [add_nil, show [(f, m)] = ([] : List (Int × Int)) ++ [(f, m)] from rfl, cnt_snoc]
  · rw [add_snoc]
    by_cases c : y.1 / w = f / w
    · rw [if_pos c, cnt_snoc, cnt_snoc]
      dsimp only
      rw [c]
      by_cases g : f / w = k
      · rw [if_pos g, if_pos g, if_pos g]; omega
      · rw [if_neg g, if_neg g, if_neg g]; simp
    · rw [if_neg c, cnt_snoc]
theorem add_keys : keysZ (ixM w (addF w ps f m)) = if f / w ∈ keysZ (ixM w ps) then keysZ (ixM w ps) else keysZ (ixM w ps) ++ [f / w] := by
  rcases list_cases ps with rfl | ⟨ys, y, rfl⟩
  · rw [add_nil, show [(f, m)] = ([] : List (Int × Int)) ++ [(f, m)] from rfl, ixM_snoc, keys_sd]
  · rw [add_snoc]
    by_cases c : y.1 / w = f / w
    · rw [if_pos c, ixM_snoc, ixM_snoc]
      dsimp only
      rw [keys_sd, c]
      by_cases g : f / w ∈ keysZ (ixM w ys)
      · rw [if_pos g, if_pos g]
      · rw [if_neg g, if_pos (List.mem_append_right _ List.mem_cons_self)]
    · rw [if_neg c, ixM_snoc, keys_sd]
theorem add_len : (addF w ps f m).length ≤ ps.length + 1 := by
  rcases list_cases ps with rfl | ⟨ys, y, rfl⟩
  · rw [add_nil]; exact Nat.le_refl _
  · rw [add_snoc]
    by_cases c : y.1 / w = f / w
    · rw [if_pos c, List.length_append, List.length_append]; simp
    · rw [if_neg c, List.length_append]; simp
theorem add_blk {P : Int → Prop} (h : ∀ p ∈ ps, P (p.1 / w)) (hf : P (f / w)) : ∀ p ∈ addF w ps f m, P (p.1 / w) := by
  rcases list_cases ps with rfl | ⟨ys, y, rfl⟩
  · rw [add_nil]; intro p hp; rw [List.mem_singleton.mp hp]; exact hf
  · rw [add_snoc]
    intro p hp
    by_cases c : y.1 / w = f / w
    · rw [if_pos c] at hp
      rcases List.mem_append.mp hp with hp | hp
      · exact h p (List.mem_append_left _ hp)
      · rw [List.mem_singleton.mp hp]; dsimp only; rw [c]; exact hf
    · rw [if_neg c] at hp
      rcases List.mem_append.mp hp with hp | hp
      · exact h p hp
      · rw [List.mem_singleton.mp hp]; exact hf
theorem add_lg (h : LgOk w lz ps) (hf : 0 ≤ f) (hm : 1 ≤ m) (ha : f = f / w * w + cnt w ps (f / w)) (hc : cnt w ps (f / w) + m ≤ w) (hl : lz = true → cnt w ps (f / w) = 0 → f / w = (ixM w ps).length) : LgOk w lz (addF w ps f m) := by
  rcases list_cases ps with rfl | ⟨ys, y, rfl⟩
  · rw [add_nil]
    exact .snoc (ps := []) .nil ⟨hf, hm, ha, hc, by simp [lastB], hl⟩
  · rw [add_snoc]
    by_cases c : y.1 / w = f / w
    · rw [if_pos c]
      obtain ⟨h1, h2⟩ := lg_snoc h
      have := h2.one
      rw [cnt_snoc, ← c, if_pos rfl] at hc
      exact .snoc h1 ⟨h2.pos, by dsimp only; omega, h2.at_, by dsimp only; omega, h2.ne, h2.lzy⟩
    · rw [if_neg c]
      exact .snoc h ⟨hf, hm, ha, hc, by rw [lastB_snoc]; intro z; exact c (Option.some.inj z), hl⟩
theorem add_eq (hw : 0 < w) (hb : Big w) (hl : ps.length < 10 ^ 6) : m_l_add w ps f m = .ok ((), addF w ps f m) := by
  unfold m_l_add
  rcases list_cases ps with rfl | ⟨ys, y, rfl⟩
  · rw [if_neg (by simp), R.bind_ok, if_neg (by decide)]
    exact bindE (appR_ok (by simp)) rfl
  · rw [if_pos (by simp), add_snoc]
    rw [idx_last, R.bind_ok, divR_ok hw hb, R.bind_ok, divR_ok hw hb, R.bind_ok, R.bind_ok]
    by_cases c : y.1 / w = f / w
    · rw [if_pos (decide_eq_true c), if_pos c, R.bind_ok, R.bind_ok, setR_last]; rfl
    · rw [if_neg (by simpa using c), if_neg c]
      exact bindE (appR_ok (by omega)) rfl
end
theorem drop_look {α : Type} {k k' : Int} : ∀ {kvs : List (Int × α)}, lookZ (dropZ kvs k) k' = if k' = k then none else lookZ kvs k'
  | [] => by simp [dropZ, lookZ]
  | (a, b) :: r => by
    have ih := drop_look (k := k) (k' := k') (kvs := r)
    unfold dropZ
    by_cases c : a = k
    · rw [if_pos c, ih]
      by_cases g : k' = k
      · rw [if_pos g, if_pos g]
      · rw [if_neg g, if_neg g]; show _ = if a = k' then _ else _
        rw [if_neg (by omega)]
    · rw [if_neg c]
      show (if a = k' then _ else lookZ (dropZ r k) k') = if k' = k then none else (if a = k' then _ else _)
      rw [ih]
      by_cases g : a = k'
      · rw [if_pos g, if_pos g, if_neg (by omega)]
      · rw [if_neg g, if_neg g]
theorem drop_lenZ {α : Type} {k : Int} : ∀ {kvs : List (Int × α)}, (dropZ kvs k).length ≤ kvs.length
  | [] => Nat.le_refl _
  | (a, b) :: r => by
    unfold dropZ
    have := drop_lenZ (k := k) (kvs := r)
    split
    · rw [List.length_cons]; omega
    · rw [List.length_cons, List.length_cons]; omega
/-- held numbers are the next ones of blocks apart -/
structure Hd (w : Int) (ps : List (Int × Int)) (hd : List (Int × Int)) : Prop where
  at_ : ∀ c f, lookZ hd c = some f → f / w ∈ keysZ (ixM w ps) ∧ f = f / w * w + cnt w ps (f / w) ∧ cnt w ps (f / w) < w
  ap : ∀ c c' f f', c ≠ c' → lookZ hd c = some f → lookZ hd c' = some f' → f / w ≠ f' / w
structure LB (w : Int) (late : Bool) (b : Int) (i : Nat) (s : List Int × List (Int × Int) × List (Int × Int) × List (Int × Int)) : Prop where
  src : Src (b + 10 * i) s.1
  lg : LgOk w (!late) s.2.2.2
  len : s.2.2.2.length ≤ i
  us : keysZ s.2.2.1 = keysZ (ixM w s.2.2.2)
  hd : Hd w s.2.2.2 s.2.1
  hl : s.2.1.length ≤ i
  kb : ∀ p ∈ s.2.2.2, p.1 / w ≤ 500
end FwP

set_option linter.all false
set_option maxRecDepth 100000
set_option maxHeartbeats 4000000
namespace FwP
open Fw
/-! sorted -/
/-! the spans of the blocks -/
def bgF (lz : Bool) (f : Int → Int) : List Int → Option Int
  | [] => none
  | k :: B => some (if lz = true then f k else match bgF lz f B with | none => f k | some m => if f k < m then f k else m)
def rowsO (lz : Bool) (f l : Int → Int) : List Int → List (Int × Option Int × Int)
  | [] => []
  | k :: B => (k, bgF lz f (k :: B), l k) :: rowsO lz f l B
def ltO (x : Int) : Option Int → Bool
  | none => true
  | some m => decide (x < m)
def hd0 (xs : List Int) : Int := xs.headD 0
def ls0 (xs : List Int) : Int := xs.getLastD 0
section
variable {w : Int} {lz : Bool} {ps : List (Int × Int)}
abbrev SK (w : Int) (ps : List (Int × Int)) : List Int := srt (keysZ (ixM w ps))
abbrev fF (w : Int) (ps : List (Int × Int)) (k : Int) : Int := hd0 (inds w ps k)
abbrev lF (w : Int) (ps : List (Int × Int)) (k : Int) : Int := ls0 (inds w ps k)
theorem key_inds {k : Int} : k ∈ keysZ (ixM w ps) ↔ inds w ps k ≠ [] := by
  rw [look_mem, look_ix]
  by_cases c : inds w ps k = []
  · rw [if_pos c]; simp [c]
  · rw [if_neg c]; simp [c]
end
end FwP

set_option linter.all false
set_option maxRecDepth 100000
set_option maxHeartbeats 4000000
/-! A house and the books that are kept beside it. -/
namespace FwP
open Fw
/-! ### loops that make the same steps -/
inductive EndW {σ : Type} (c : σ → Bool) (st : σ → σ) : σ → σ → Prop
  | z {s : σ} : c s = false → EndW c st s s
  | s {s t : σ} : c s = true → EndW c st (st s) t → EndW c st s t
theorem EndW.fn {σ : Type} {c : σ → Bool} {st : σ → σ} {s t u : σ} (h : EndW c st s t) (k : EndW c st s u) : t = u := by
  induction h with
  | z h => cases k with
    | z => rfl
    | s k => rw [h] at k; cases k
  | s h _ ih => cases k with
    | z k => rw [h] at k; cases k
    | s _ k => exact ih k
theorem while_end {σ : Type} {c : σ → Bool} {st : σ → σ} {cR : σ → R Bool} {bR : σ → R σ} {s : σ} (I : σ → Prop) (μ : σ → Nat) (hc : ∀ s, I s → cR s = .ok (c s)) (hb : ∀ s, I s → c s = true → bR s = .ok (st s) ∧ I (st s) ∧ μ (st s) < μ s) (h0 : I s) (hf : μ s < fuel) :
    ∃ t, whileR cR bR s = .ok t ∧ EndW c st s t ∧ I t := by
  have := spec_while (c := cR) (b := bR) (s := s) (fun t => I t ∧ ∀ e, EndW c st t e → EndW c st s e) μ (fun t ht => ⟨_, hc t ht.1⟩) (fun t ht h => ?_) ⟨h0, fun _ h => h⟩ hf
  · obtain ⟨t, e, ⟨h1, h2⟩, h3⟩ := this
    refine ⟨t, e, h2 t (.z ?_), h1⟩
    rw [hc t h1] at h3
    exact R.ok.inj h3
  · have hct : c t = true := by
      have := hc t ht.1
      rw [this] at h
      exact R.ok.inj h
    obtain ⟨b1, b2, b3⟩ := hb t ht.1 hct
    exact ⟨_, b1, ⟨b2, fun e he => ht.2 e (.s hct he)⟩, b3⟩
theorem EndW.map {σ τ : Type} {c : σ → Bool} {st : σ → σ} {c' : τ → Bool} {st' : τ → τ} (f : σ → τ) (hc : ∀ s, c' (f s) = c s) (hs : ∀ s, f (st s) = st' (f s)) {s t : σ} (h : EndW c st s t) : EndW c' st' (f s) (f t) := by
  induction h with
  | z h => exact .z (by rw [hc, h])
  | s h _ ih => exact .s (by rw [hc, h]) (by rw [← hs]; exact ih)
/-! ### what is held -/
structure HL (w : Int) (ps : List (Int × Int)) (as : List Int) (hd : List (Int × Int)) : Prop where
  lg : LgOk w true ps
  ky : keysZ (ixM w ps) = rng 0 (as.length : Int)
  bl : ∀ p ∈ ps, p.1 / w < (as.length : Int)
  hk : ∀ c v, lookZ hd c = some v → ∃ k : Nat, k < as.length ∧ v = k * w + cnt w ps k ∧ cnt w ps k < w
  ij : ∀ c d v u, lookZ hd c = some v → lookZ hd d = some u → c ≠ d → v / w ≠ u / w
/-- client c issues of block k next -/
structure HN (w : Int) (ps : List (Int × Int)) (as : List Int) (hd : List (Int × Int)) (c : Int) (k : Nat) : Prop where
  lg : LgOk w true ps
  kn : k < as.length
  ky : keysZ (ixM w ps) = rng 0 (as.length : Int) ∨ (k + 1 = as.length ∧ keysZ (ixM w ps) = rng 0 (k : Int))
  bl : ∀ p ∈ ps, p.1 / w < (as.length : Int)
  lt : cnt w ps k < w
  hk : ∀ d v, d ≠ c → lookZ hd d = some v → ∃ j : Nat, j < as.length ∧ v = j * w + cnt w ps j ∧ cnt w ps j < w ∧ j ≠ k
  ij : ∀ d e v u, d ≠ c → e ≠ c → lookZ hd d = some v → lookZ hd e = some u → d ≠ e → v / w ≠ u / w
section
variable {w : Int} {ps : List (Int × Int)} {as : List Int} {hd hd' : List (Int × Int)} {c q : Int} {k : Nat}
theorem at_div (hw : 0 < w) {j : Nat} (h : LgOk w true ps) (hl : cnt w ps j < w) : ((j : Int) * w + cnt w ps j) / w = j ∧ ((j : Int) * w + cnt w ps j) % w = cnt w ps j := by
  have h0 := (lg_cnt h j).1
  refine ⟨?_, ?_⟩
  · rw [Int.mul_comm, Int.add_comm, Int.add_mul_ediv_left _ _ (by omega), Int.ediv_eq_zero_of_lt h0 hl, Int.zero_add]
  · rw [Int.add_comm, Int.add_mul_emod_self_right, Int.emod_eq_of_lt h0 hl]
theorem hn_old (h : HL w ps as hd) (hw : 0 < w) {v : Int} (hv : lookZ hd c = some v) : ∃ k : Nat, HN w ps as hd c k ∧ v = k * w + cnt w ps k := by
  obtain ⟨k, a1, a2, a3⟩ := h.hk c v hv
  refine ⟨k, ⟨h.lg, a1, .inl h.ky, h.bl, a3, fun d u hd hu => ?_, fun d e v u _ _ => h.ij d e v u⟩, a2⟩
  obtain ⟨j, b1, b2, b3⟩ := h.hk d u hu
  refine ⟨j, b1, b2, b3, fun z => ?_⟩
  subst z
  exact h.ij c d v u hv hu (Ne.symm hd) (by rw [a2, b2])
theorem hn_new (h : HL w ps as hd) (hw : 0 < w) : HN w ps (as ++ [c]) hd c as.length ∧ cnt w ps as.length = 0 := by
  have hlen : (as ++ [c]).length = as.length + 1 := by rw [List.length_append]; rfl
  have hz : cnt w ps as.length = 0 := by
    refine (lg_cnt h.lg _).2.mpr ?_
    cases e : inds w ps as.length with
    | nil => rfl
    | cons x l =>
      have := key_inds.mpr (show inds w ps (as.length : Int) ≠ [] by rw [e]; simp)
      rw [h.ky] at this
      have := rng_mem.mp this
      omega
  refine ⟨⟨h.lg, by omega, .inr ⟨by omega, h.ky⟩, fun p hp => by have := h.bl p hp; omega, by omega, fun d v hd hv => ?_, fun d e v u _ _ => h.ij d e v u⟩, hz⟩
  obtain ⟨j, b1, b2, b3⟩ := h.hk d v hv
  exact ⟨j, by omega, b2, b3, by omega⟩
theorem hl_of (h : HN w ps as hd c k) (hw : 0 < w) (h1 : 1 ≤ q) (h2 : cnt w ps k + q ≤ w) (hh : ∀ d, lookZ hd' d = if d = c then (if cnt w ps k + q = w then none else some ((k : Int) * w + cnt w ps k + q)) else lookZ hd d) :
    HL w (addF w ps ((k : Int) * w + cnt w ps k) q) as hd' := by
  have h0 := (lg_cnt h.lg k).1
  obtain ⟨dv, md⟩ := at_div hw h.lg h.lt
  have hkw : 0 ≤ (k : Int) * w := Int.mul_nonneg (by omega) (by omega)
  have hcnt : ∀ x, cnt w (addF w ps ((k : Int) * w + cnt w ps k) q) x = cnt w ps x + if x = (k : Int) then q else 0 := fun x => by
    rw [add_cnt, dv]
    by_cases z : x = (k : Int)
    · rw [if_pos z.symm, if_pos z]
    · rw [if_neg (Ne.symm z), if_neg z]
  have cne : ∀ j : Nat, j ≠ k → cnt w (addF w ps ((k : Int) * w + cnt w ps k) q) j = cnt w ps j := fun j hj => by
    rw [hcnt j, if_neg (by omega), Int.add_zero]
  have inr : (k : Int) ∈ rng 0 (as.length : Int) := rng_mem.mpr ⟨by omega, by have := h.kn; omega⟩
  have lgk := lg_keys h.lg
  have hlg : LgOk w true (addF w ps ((k : Int) * w + cnt w ps k) q) := by
    refine add_lg h.lg (by omega) h1 (by rw [dv]) (by rw [dv]; exact h2) fun _ z => ?_
    rw [dv] at z ⊢
    have hi := (lg_cnt h.lg k).2.mp z
    have hno : (k : Int) ∉ keysZ (ixM w ps) := fun m => key_inds.mp m hi
    rcases h.ky with e | ⟨e1, e2⟩
    · rw [e] at hno; exact absurd inr hno
    · have : (rng 0 (k : Int)).length = (rng 0 ((ixM w ps).length : Int)).length := by rw [← e2, ← lgk]
      rw [rng_len, rng_len] at this
      omega
  refine ⟨hlg, ?_, add_blk (P := fun x => x < (as.length : Int)) h.bl (by rw [dv]; have := h.kn; omega), fun d v hv => ?_, fun d e v u hv hu hde => ?_⟩
  · rw [add_keys, dv]
    rcases h.ky with e | ⟨e1, e2⟩
    · rw [e, if_pos inr]
    · rw [e2, if_neg fun m => by have := rng_mem.mp m; omega]
      have : (as.length : Int) = (k : Int) + 1 := by omega
      rw [this]
      unfold rng
      rw [Int.sub_zero, Int.sub_zero, Int.toNat_natCast, show ((k : Int) + 1).toNat = k + 1 by omega, List.range_succ, List.map_append]
      simp
  · rw [hh d] at hv
    by_cases z : d = c
    · rw [if_pos z] at hv
      by_cases y : cnt w ps k + q = w
      · rw [if_pos y] at hv; cases hv
      · rw [if_neg y] at hv
        cases hv
        exact ⟨k, h.kn, by rw [hcnt k, if_pos rfl]; omega, by rw [hcnt k, if_pos rfl]; omega⟩
    · rw [if_neg z] at hv
      obtain ⟨j, b1, b2, b3, b4⟩ := h.hk d v z hv
      exact ⟨j, b1, by rw [cne j b4]; exact b2, by rw [cne j b4]; exact b3⟩
  · have key : ∀ {d e v u : Int}, d = c → e ≠ c → lookZ hd' d = some v → lookZ hd' e = some u → v / w ≠ u / w := fun {d e v u} z1 z2 hv hu => by
      rw [hh d, if_pos z1] at hv
      rw [hh e, if_neg z2] at hu
      by_cases y : cnt w ps k + q = w
      · rw [if_pos y] at hv; cases hv
      · rw [if_neg y] at hv
        cases hv
        obtain ⟨j, b1, b2, b3, b4⟩ := h.hk e u z2 hu
        have : ((k : Int) * w + cnt w ps k + q) / w = k := by
          rw [show (k : Int) * w + cnt w ps k + q = (cnt w ps k + q) + w * k by rw [Int.mul_comm]; omega, Int.add_mul_ediv_left _ _ (by omega), Int.ediv_eq_zero_of_lt (by omega) (by omega), Int.zero_add]
        rw [this, b2, (at_div hw h.lg b3).1]
        omega
    by_cases z1 : d = c
    · exact key z1 (fun z => hde (by rw [z1, z])) hv hu
    · by_cases z2 : e = c
      · exact Ne.symm (key z2 z1 hu hv)
      · rw [hh d, if_neg z1] at hv
        rw [hh e, if_neg z2] at hu
        exact h.ij d e v u z1 z2 hv hu hde
theorem hl_drop (h : HL w ps as hd) (c : Int) : HL w ps as (dropZ hd c) := by
  have e : ∀ d v, lookZ (dropZ hd c) d = some v → lookZ hd d = some v := fun d v h => by
    rw [drop_look] at h
    by_cases z : d = c
    · rw [if_pos z] at h; cases h
    · rw [if_neg z] at h; exact h
  exact ⟨h.lg, h.ky, h.bl, fun d v hv => h.hk d v (e d v hv), fun d f v u hv hu => h.ij d f v u (e d v hv) (e f u hu)⟩
/-! ### one turn -/
abbrev StT := Int × List (Int × Int) × List Int × List (Int × Int) × List (Int × Int)
/-- what is held with the block that is wanted -/
def hdW (w c : Int) (s : StT) : List (Int × Int) := if (lookZ s.2.2.2.1 c).isSome = true then s.2.2.2.1 else putZ s.2.2.2.1 c ((s.2.2.1.length : Int) * w)
def asW (c : Int) (s : StT) : List Int := if (lookZ s.2.2.2.1 c).isSome = true then s.2.2.1 else s.2.2.1 ++ [c]
def ftW (w c : Int) (s : StT) : Int := (lookZ (hdW w c s) c).getD 0
def qtW (w c : Int) (s : StT) : Int := min s.1 (w - ftW w c s % w)
def stW (w c : Int) (s : StT) : StT :=
  (s.1 - qtW w c s, addF w s.2.1 (ftW w c s) (qtW w c s), asW c s,
    if (ftW w c s + qtW w c s) % w = 0 then dropZ (hdW w c s) c else putZ (dropZ (hdW w c s) c) c (ftW w c s + qtW w c s), s.2.2.2.2 ++ [(ftW w c s, qtW w c s)])
def muW (w c : Int) (s : StT) : Nat :=
  if s.1 ≤ 0 then 0 else (if (lookZ s.2.2.2.1 c).isSome = true then 1 else 0) + (if s.1 ≤ w then 1 else if s.1 ≤ 2 * w then 2 else 3)
structure TkI (w : Int) (c : Int) (lp la lh : Nat) (s : StT) : Prop where
  hl : HL w s.2.1 s.2.2.1 s.2.2.2.1
  c0 : 0 ≤ s.1
  c1 : s.1 ≤ 3 * w
  l1 : s.2.1.length + muW w c s ≤ lp + 4
  l2 : s.2.2.1.length + muW w c s ≤ la + 4
  l3 : s.2.2.2.1.length + 2 * muW w c s ≤ lh + 8
  l4 : s.2.2.2.2.length + muW w c s ≤ 4
theorem put_leH {α : Type} {k : Int} {d : α} : ∀ {kvs : List (Int × α)}, (putZ kvs k d).length ≤ kvs.length + 1 := by
  intro kvs
  unfold putZ
  split
  · rw [List.length_map]; omega
  · rw [List.length_append]; exact Nat.le_refl _
theorem muW_le (s : StT) : muW w c s ≤ 4 := by
  unfold muW
  split
  · omega
  · split <;> split <;> (try split) <;> omega
/-- what a turn finds -/
theorem turnW (hw : 0 < w) {lp la lh : Nat} {s : StT} (h : TkI w c lp la lh s) (hn : 0 < s.1) :
    ∃ k : Nat, HN w s.2.1 (asW c s) (hdW w c s) c k ∧ lookZ (hdW w c s) c = some (ftW w c s) ∧ ftW w c s = k * w + cnt w s.2.1 k ∧ ftW w c s % w = cnt w s.2.1 k ∧ (asW c s).length ≤ s.2.2.1.length + 1 ∧ (hdW w c s).length ≤ s.2.2.2.1.length + 1 ∧ (lookZ s.2.2.2.1 c = none → cnt w s.2.1 k = 0) ∧
      1 ≤ qtW w c s ∧ qtW w c s ≤ s.1 ∧ cnt w s.2.1 k + qtW w c s ≤ w ∧ (qtW w c s = s.1 ∨ cnt w s.2.1 k + qtW w c s = w) ∧ ((ftW w c s + qtW w c s) % w = 0 ↔ cnt w s.2.1 k + qtW w c s = w) := by
  have main : ∃ k : Nat, HN w s.2.1 (asW c s) (hdW w c s) c k ∧ lookZ (hdW w c s) c = some ((k : Int) * w + cnt w s.2.1 k) ∧ (asW c s).length ≤ s.2.2.1.length + 1 ∧ (hdW w c s).length ≤ s.2.2.2.1.length + 1 ∧ (lookZ s.2.2.2.1 c = none → cnt w s.2.1 k = 0) := by
    unfold asW hdW
    cases e : lookZ s.2.2.2.1 c with
    | some v =>
      obtain ⟨k, a, b⟩ := hn_old h.hl hw e
      rw [if_pos (show (some v).isSome = true from rfl), if_pos (show (some v).isSome = true from rfl)]
      exact ⟨k, a, by rw [e, b], by omega, by omega, fun z => by cases z⟩
    | none =>
      obtain ⟨a, b⟩ := hn_new (c := c) h.hl hw
      rw [if_neg (by simp), if_neg (by simp)]
      refine ⟨s.2.2.1.length, ⟨a.lg, a.kn, a.ky, a.bl, a.lt, fun d v hd hv => a.hk d v hd ?_, fun d f v u hd hf hv hu => a.ij d f v u hd hf ?_ ?_⟩, ?_, by rw [List.length_append]; exact Nat.le_refl _, put_leH, fun _ => b⟩
      · rwa [look_put, if_neg hd] at hv
      · rwa [look_put, if_neg hd] at hv
      · rwa [look_put, if_neg hf] at hu
      · rw [look_put, if_pos rfl, b, Int.add_zero]
  obtain ⟨k, a, b, b2, b3, b4⟩ := main
  have hf : ftW w c s = k * w + cnt w s.2.1 k := by unfold ftW; rw [b]; rfl
  obtain ⟨d1, d2⟩ := at_div hw a.lg a.lt
  have h0 := (lg_cnt a.lg k).1
  have hq : qtW w c s = min s.1 (w - cnt w s.2.1 k) := by unfold qtW; rw [hf, d2]
  have hlt := a.lt
  refine ⟨k, a, by rw [b, hf], hf, by rw [hf, d2], b2, b3, b4, by omega, by omega, by omega, by omega, ?_⟩
  rw [hf]
  generalize qtW w c s = q at hq
  rw [show (k : Int) * w + cnt w s.2.1 k + q = (cnt w s.2.1 k + q) + k * w by omega, Int.add_mul_emod_self_right]
  constructor
  · intro z
    rcases Int.lt_or_le (cnt w s.2.1 k + q) w with y | y
    · rw [Int.emod_eq_of_lt (by omega) y] at z; omega
    · omega
  · intro z
    rw [z, Int.emod_self]
theorem turn_inv (hw : 0 < w) {lp la lh : Nat} {s : StT} (h : TkI w c lp la lh s) (hn : 0 < s.1) : TkI w c lp la lh (stW w c s) ∧ muW w c (stW w c s) < muW w c s := by
  obtain ⟨k, a, b1, b2, b3, b4, b5, b6, q1, q2, q3, q4, q5⟩ := turnW hw h hn
  have hmp : 1 ≤ muW w c s := by
    unfold muW
    rw [if_neg (by omega)]
    split <;> split <;> (try split) <;> omega
  have hal := add_len (w := w) (ps := s.2.1) (f := ftW w c s) (m := qtW w c s)
  have hdl := drop_lenZ (k := c) (kvs := hdW w c s)
  have hlk : ∀ d, lookZ (stW w c s).2.2.2.1 d = if d = c then (if cnt w s.2.1 k + qtW w c s = w then none else some ((k : Int) * w + cnt w s.2.1 k + qtW w c s)) else lookZ (hdW w c s) d := fun d => by
    show lookZ (if (ftW w c s + qtW w c s) % w = 0 then dropZ (hdW w c s) c else putZ (dropZ (hdW w c s) c) c (ftW w c s + qtW w c s)) d = _
    by_cases e : cnt w s.2.1 k + qtW w c s = w
    · rw [if_pos (q5.mpr e), drop_look]
      by_cases z : d = c
      · rw [if_pos z, if_pos z, if_pos e]
      · rw [if_neg z, if_neg z]
    · rw [if_neg (fun z => e (q5.mp z)), look_put, drop_look]
      by_cases z : d = c
      · rw [if_pos z, if_pos z, if_neg e, b2]
      · rw [if_neg z, if_neg z, if_neg z]
  have hH := hl_of a hw q1 q3 hlk
  rw [← b2] at hH
  have hl2 : (stW w c s).2.2.2.1.length ≤ (hdW w c s).length + 1 := by
    show (if (ftW w c s + qtW w c s) % w = 0 then dropZ (hdW w c s) c else putZ (dropZ (hdW w c s) c) c (ftW w c s + qtW w c s)).length ≤ _
    split
    · omega
    · have := put_leH (k := c) (d := ftW w c s + qtW w c s) (kvs := dropZ (hdW w c s) c)
      omega
  have hdec : muW w c (stW w c s) + 1 ≤ muW w c s := by
    have hc1 := h.c1
    have h0 := (lg_cnt a.lg k).1
    unfold muW
    rw [if_neg (show ¬ s.1 ≤ 0 by omega)]
    have e1 : (stW w c s).1 = s.1 - qtW w c s := rfl
    rw [e1, hlk c, if_pos rfl]
    rcases q4 with e | e
    · rw [if_pos (by omega)]
      split <;> split <;> (try split) <;> omega
    · by_cases z0 : s.1 - qtW w c s ≤ 0
      · rw [if_pos z0]
        split <;> split <;> (try split) <;> omega
      · rw [if_neg z0, if_pos e]
        cases e2 : lookZ s.2.2.2.1 c with
        | none =>
          have := b6 e2
          rw [if_neg (show ¬ (none : Option Int).isSome = true by simp)]
          split <;> split <;> (try split) <;> (try split) <;> omega
        | some v =>
          rw [if_neg (show ¬ (none : Option Int).isSome = true by simp), if_pos (show (some v).isSome = true by rfl)]
          split <;> split <;> (try split) <;> (try split) <;> omega
  refine ⟨⟨hH, ?_, ?_, ?_, ?_, ?_, ?_⟩, hdec⟩
  · show 0 ≤ s.1 - qtW w c s; omega
  · have := h.c1; show s.1 - qtW w c s ≤ _; omega
  · have := h.l1; show (addF w s.2.1 (ftW w c s) (qtW w c s)).length + _ ≤ _; omega
  · have := h.l2; show (asW c s).length + _ ≤ _; omega
  · have := h.l3; omega
  · have := h.l4; show (s.2.2.2.2 ++ [_]).length + _ ≤ _; rw [List.length_append, List.length_singleton]; omega
end
end FwP

set_option linter.all false
set_option maxRecDepth 100000
set_option maxHeartbeats 4000000
namespace FwP
open Fw
section
variable {w : Int} {lz : Bool} {ps : List (Int × Int)}
def lift3 (y : Int × Int × Int) : Int × Option Int × Int := (y.1, some y.2.1, y.2.2)
end
theorem eq_of_spec {α : Type} {m : R α} {a : α} (h : Spec m fun x => x = a) : m = .ok a := by obtain ⟨x, e, rfl⟩ := h; exact e
end FwP

set_option linter.all false
set_option maxRecDepth 100000
set_option maxHeartbeats 4000000
namespace FwP
open Fw
section
variable {w : Int} {ps : List (Int × Int)} {as : List Int} {hd : List (Int × Int)} {c L m : Int}
theorem joined_eqH (hw : 0 < w) (hb : Big w) (hl : ps.length ≤ 1000) (f q : Int) : m_joined ps f q w = .ok (addF w ps f q) := by
  unfold m_joined
  rcases list_cases ps with rfl | ⟨ys, y, rfl⟩
  · refine bindE (a := false) (by rw [if_neg (by simp)]) ?_
    rw [if_neg (by simp)]
    exact bindE (catR_ok (by simp)) rfl
  · rw [add_snoc]
    refine bindE (a := decide (y.1 / w = f / w)) ?_ ?_
    · rw [if_pos (by simp), idx_last, R.bind_ok, divR_ok hw hb, R.bind_ok, divR_ok hw hb, R.bind_ok]
    by_cases e : y.1 / w = f / w
    · rw [if_pos (decide_eq_true e), if_pos e, idx_last, R.bind_ok, R.bind_ok]
      have hc : cut (ys ++ [y]) none (some (-1)) = ys := by rw [cut_init]; simp
      rw [hc]
      exact bindE (catR_ok (by rw [List.length_append, List.length_singleton] at hl; rw [List.length_singleton]; omega)) rfl
    · rw [if_neg (by simpa using e), if_neg e]
      exact bindE (catR_ok (by rw [List.length_singleton]; omega)) rfl
abbrev StU := Int × List (Int × Int) × List Int × List (Int × Int) × List (Int × Int)
/-- the law's order of the same things -/
def toU (s : StT) : StU := (s.1, s.2.2.2.1, s.2.2.1, s.2.1, s.2.2.2.2)
def toT (s : StU) : StT := (s.1, s.2.2.2.1, s.2.2.1, s.2.1, s.2.2.2.2)
theorem open_prog (h : TkI w c lp la lh s) (hlp : lp ≤ 300) (hla : la ≤ 300) (hlh : lh ≤ 1000) (hn : 0 < s.1) :
    (if (!hasZ s.2.2.2.1 c) = true then
      if (decide (400 ≤ (s.2.1.length : Int))) = true then
      .bad
      else
      R.bind (mulR (s.2.2.1.length : Int) w) fun t5 =>
      R.bind (putR s.2.2.2.1 c t5) fun t6 =>
      R.bind (appR s.2.2.1 c) fun t7 =>
      .ok (t7, t6)
      else
      .ok (s.2.2.1, s.2.2.2.1) : R (List Int × List (Int × Int))) = .ok (asW c s, hdW w c s) := by
  have h1 := h.l1
  have h2 := h.l2
  have h3 := h.l3
  unfold asW hdW hasZ
  cases e : lookZ s.2.2.2.1 c with
  | none =>
    rw [if_pos (by simp), if_neg (by simp; omega), mulR_l (by omega), R.bind_ok, putR_ok (by omega), R.bind_ok, appR_ok (by omega), R.bind_ok, if_neg (by simp), if_neg (by simp)]
  | some v =>
    rw [if_neg (by simp), if_pos (show (some v).isSome = true from rfl), if_pos (show (some v).isSome = true from rfl)]
theorem open_law (h : TkI w c lp la lh s) (hlp : lp ≤ 300) (hla : la ≤ 300) (hlh : lh ≤ 1000) (hn : 0 < s.1) :
    (if (!hasZ s.2.2.2.1 c) = true then
      R.bind (mulR (s.2.2.1.length : Int) w) fun t4 =>
      R.bind (putR s.2.2.2.1 c t4) fun t5 =>
      R.bind (appR s.2.2.1 c) fun t6 =>
      .ok (t5, t6)
      else
      .ok (s.2.2.2.1, s.2.2.1) : R (List (Int × Int) × List Int)) = .ok (hdW w c s, asW c s) := by
  have h1 := h.l1
  have h2 := h.l2
  have h3 := h.l3
  unfold asW hdW hasZ
  cases e : lookZ s.2.2.2.1 c with
  | none =>
    rw [if_pos (by simp), mulR_l (by omega), R.bind_ok, putR_ok (by omega), R.bind_ok, appR_ok (by omega), R.bind_ok, if_neg (by simp), if_neg (by simp)]
  | some v =>
    rw [if_neg (by simp), if_pos (show (some v).isSome = true from rfl), if_pos (show (some v).isSome = true from rfl)]
/-- both take -/
theorem take_both (hw : 0 < w) (hb : Big w) (h : HL w ps as hd) (hm : 1 ≤ m ∧ m ≤ 10 ^ 25) (hm2 : m ≤ 3 * w) (hl : ps.length ≤ 300) (hla : as.length ≤ 300) (hlh : hd.length ≤ 1000) :
    ∃ ps' as' hd' fs, m_after_take_1 w ⟨ps, as, hd, L⟩ c m = .ok (⟨ps', as', hd', L⟩, fs) ∧ m_l_take (hd, as, ps) w c m = .ok (fs, (hd', as', ps')) ∧ HL w ps' as' hd' ∧ ps'.length ≤ ps.length + 4 ∧ as'.length ≤ as.length + 4 ∧ hd'.length ≤ hd.length + 8 ∧ fs.length ≤ 4 := by
  have I0 : TkI w c ps.length as.length hd.length (m, ps, as, hd, []) := by
    have hm3 := muW_le (w := w) (c := c) (m, ps, as, hd, [])
    exact ⟨h, by show 0 ≤ m; omega, hm2, by show ps.length + _ ≤ _; omega, by show as.length + _ ≤ _; omega, by show hd.length + _ ≤ _; omega, by show 0 + _ ≤ _; omega⟩
  have hf0 : muW w c (m, ps, as, hd, []) < fuel := by have := muW_le (w := w) (c := c) (m, ps, as, hd, []); unfold fuel; omega
  have two : ∀ s : StT, TkI w c ps.length as.length hd.length s → 0 < s.1 → TkI w c ps.length as.length hd.length (stW w c s) ∧ muW w c (stW w c s) < muW w c s := fun s hs hn => turn_inv hw hs hn
  have P := while_end (σ := StT) (c := fun s => decide (0 < s.1)) (st := stW w c) (cR := fun (s2 : StT) => .ok (decide (0 < s2.1)))
    (bR := fun (s2 : StT) =>
      R.bind (α := ((List Int) × (List (Int × Int)))) ((if (!hasZ s2.2.2.2.1 c) = true then
      if (decide (400 ≤ (s2.2.1.length : Int))) = true then
      .bad
      else
      R.bind (mulR (s2.2.2.1.length : Int) w) fun t5 =>
      R.bind (putR s2.2.2.2.1 c t5) fun t6 =>
      R.bind (appR s2.2.2.1 c) fun t7 =>
      .ok (t7, t6)
      else
      .ok (s2.2.2.1, s2.2.2.2.1))) fun s4 =>
      R.bind (getR s4.2 c) fun t8 =>
      R.bind (modR t8 w) fun t9 =>
      R.bind (appR s2.2.2.2.2 (t8, (min s2.1 (w - t9)))) fun t10 =>
      R.bind (m_joined s2.2.1 t8 (min s2.1 (w - t9)) w) fun t11 =>
      R.bind (modR (t8 + (min s2.1 (w - t9))) w) fun t12 =>
      R.bind (α := (List (Int × Int))) ((if (!decide (t12 = 0)) = true then
      R.bind (putR (dropZ s4.2 c) c (t8 + (min s2.1 (w - t9)))) fun t14 =>
      .ok t14
      else
      .ok (dropZ s4.2 c))) fun s13 =>
      .ok ((s2.1 - (min s2.1 (w - t9))), t11, s4.1, s13, t10)) (s := (m, ps, as, hd, [])) (TkI w c ps.length as.length hd.length) (muW w c) (fun _ _ => rfl) (fun s hs hn => by
      have hn := of_decide_eq_true hn
      refine ⟨?_, two s hs hn⟩
      obtain ⟨k, a, b1, b2, b3, b4, b5, b6, q1, q2, q3, q4, q5⟩ := turnW hw hs hn
      have h1 := hs.l1
      have h3 := hs.l3
      have h4 := hs.l4
      have hmp : 1 ≤ muW w c s := by
        unfold muW
        rw [if_neg (by omega)]
        split <;> split <;> (try split) <;> omega
      have hdl := drop_lenZ (k := c) (kvs := hdW w c s)
      refine bindE (open_prog hs hl hla hlh hn) (bindE (getR_ok b1) (bindE (modR_ok hw) ?_))
      have hq : min s.1 (w - ftW w c s % w) = qtW w c s := rfl
      rw [hq]
      refine bindE (appR_ok (by omega)) (bindE (joined_eqH hw hb (by omega) _ _) (bindE (modR_ok hw) (bindE (a := (stW w c s).2.2.2.1) ?_ rfl)))
      show _ = R.ok (if (ftW w c s + qtW w c s) % w = 0 then dropZ (hdW w c s) c else putZ (dropZ (hdW w c s) c) c (ftW w c s + qtW w c s))
      by_cases z : (ftW w c s + qtW w c s) % w = 0
      · rw [if_neg (by simpa using z), if_pos z]
      · rw [if_pos (by simpa using z), if_neg z, putR_ok (by dsimp only; omega), R.bind_ok]) I0 hf0
  obtain ⟨T, e1, e2, e3⟩ := P
  have Q := while_end (σ := StU) (c := fun s => decide (0 < s.1)) (st := fun s => toU (stW w c (toT s))) (cR := fun (s1 : StU) => .ok (decide (0 < s1.1)))
    (bR := fun (s1 : StU) =>
      R.bind (α := ((List (Int × Int)) × (List Int))) ((if (!hasZ s1.2.1 c) = true then
      R.bind (mulR (s1.2.2.1.length : Int) w) fun t4 =>
      R.bind (putR s1.2.1 c t4) fun t5 =>
      R.bind (appR s1.2.2.1 c) fun t6 =>
      .ok (t5, t6)
      else
      .ok (s1.2.1, s1.2.2.1))) fun s3 =>
      R.bind (getR s3.1 c) fun t7 =>
      R.bind (modR t7 w) fun t8 =>
      R.bind (appR s1.2.2.2.2 (t7, (min s1.1 (w - t8)))) fun t9 =>
      R.bind (m_l_add w s1.2.2.2.1 t7 (min s1.1 (w - t8))) fun t10 =>
      R.bind (modR t7 w) fun t11 =>
      R.bind (α := (List (Int × Int))) ((if (decide ((min s1.1 (w - t8)) < (w - t11))) = true then
      R.bind (putR (dropZ s3.1 c) c (t7 + (min s1.1 (w - t8)))) fun t13 =>
      .ok t13
      else
      .ok (dropZ s3.1 c))) fun s12 =>
      .ok ((s1.1 - (min s1.1 (w - t8))), s12, s3.2, t10.2, t9)) (s := (m, hd, as, ps, [])) (fun s => TkI w c ps.length as.length hd.length (toT s)) (fun s => muW w c (toT s)) (fun _ _ => rfl) (fun u hs hn => by
      have hn : 0 < (toT u).1 := of_decide_eq_true hn
      refine ⟨?_, two (toT u) hs hn⟩
      obtain ⟨s, rfl⟩ : ∃ s, u = toU s := ⟨toT u, rfl⟩
      have hs : TkI w c ps.length as.length hd.length s := hs
      have hn : 0 < s.1 := hn
      obtain ⟨k, a, b1, b2, b3, b4, b5, b6, q1, q2, q3, q4, q5⟩ := turnW hw hs hn
      have h1 := hs.l1
      have h3 := hs.l3
      have h4 := hs.l4
      have hmp : 1 ≤ muW w c s := by
        unfold muW
        rw [if_neg (by omega)]
        split <;> split <;> (try split) <;> omega
      have hdl := drop_lenZ (k := c) (kvs := hdW w c s)
      refine bindE (open_law hs hl hla hlh hn) (bindE (getR_ok b1) (bindE (modR_ok hw) ?_))
      have hq : min (toU s).1 (w - ftW w c s % w) = qtW w c s := rfl
      rw [hq]
      refine bindE (a := s.2.2.2.2 ++ [(ftW w c s, qtW w c s)]) (appR_ok (by show s.2.2.2.2.length < _; omega)) (bindE (a := ((), addF w s.2.1 (ftW w c s) (qtW w c s))) (add_eq hw hb (by show s.2.1.length < _; omega)) (bindE (modR_ok hw) (bindE (a := (stW w c s).2.2.2.1) ?_ rfl)))
      show _ = R.ok (if (ftW w c s + qtW w c s) % w = 0 then dropZ (hdW w c s) c else putZ (dropZ (hdW w c s) c) c (ftW w c s + qtW w c s))
      rw [b3]
      by_cases z : (ftW w c s + qtW w c s) % w = 0
      · have := q5.mp z
        rw [if_neg (by simp; omega), if_pos z]
      · have : cnt w s.2.1 k + qtW w c s ≠ w := fun y => z (q5.mpr y)
        rw [if_pos (by simp; omega), if_neg z, putR_ok (by dsimp only; omega), R.bind_ok]) I0 hf0
  obtain ⟨U, g1, g2, g3⟩ := Q
  have hU : U = toU T := g2.fn (EndW.map (c' := fun s : StU => decide (0 < s.1)) (st' := fun s => toU (stW w c (toT s))) toU (fun _ => rfl) (fun _ => rfl) e2)
  subst hU
  obtain ⟨n, qs, bs, ks, fs⟩ := T
  have l1 := e3.l1
  have l2 := e3.l2
  have l3 := e3.l3
  have l4 := e3.l4
  dsimp only at l1 l2 l3 l4
  refine ⟨qs, bs, ks, fs, ?_, ?_, e3.hl, by omega, by omega, by omega, by omega⟩
  · unfold m_after_take_1
    refine bindE (a := ()) ?_ (bindE e1 ?_)
    · unfold m_check_between_3 m_is_between m_is_integer
      rw [R.bind_ok, R.bind_ok, if_neg (by simp; omega)]
    · rw [if_neg (by simp; omega)]
      exact bindE (a := (⟨qs, bs, ks, L⟩ : StateM)) rfl rfl
  · unfold m_l_take
    exact bindE g1 rfl
/-! ### the house beside the books -/
abbrev BkT := List (Int × Int) × List Int × List (Int × Int)
structure HB (w H : Int) (h : HouseM) (b : BkT) (lost : Int) (n : Nat) : Prop where
  wd : h.width = w
  cr : h.crowd = H
  ex : ∃ fr : List StateM, h.states = fr ++ [⟨b.2.2, b.2.1, b.1, lost⟩]
  hl : HL w b.2.2 b.2.1 b.1
  l1 : b.2.2.length ≤ 4 * n
  l2 : b.2.1.length ≤ 4 * n
  l3 : b.1.length ≤ 8 * n
  sl : h.states.length ≤ n + 1
  dl : h.done.length ≤ n
variable {H : Int} {h : HouseM} {b : BkT} {lost : Int} {n : Nat}
theorem client_okH (hcr : h.crowd = H) (hc : 0 ≤ c ∧ c < H) : m_House_check_client_1 h c = .ok () := by
  unfold m_House_check_client_1 m_is_between m_is_integer
  rw [R.bind_ok, R.bind_ok, hcr, if_neg (by simp; omega)]
theorem room_okH (hd : h.done.length ≤ 500) : m_House_check_room_1 h = .ok () := by
  unfold m_House_check_room_1
  rw [if_neg (by simp; omega)]
theorem houseT (hw : 0 < w) (hb : Big w) (h0 : HB w H h b lost n) (hn : n ≤ 31) (hc : 0 ≤ c ∧ c < H) (hm : 1 ≤ m ∧ m ≤ 10 ^ 25) (hm2 : m ≤ 3 * w) : ∃ fs b' h', m_l_take b w c m = .ok (fs, b') ∧ m_House_take_1 h c m = .ok (fs, h') ∧ HB w H h' b' lost (n + 1) ∧ fs.length ≤ 4 := by
  obtain ⟨fr, e1⟩ := h0.ex
  have hdl := h0.dl
  have hsl := h0.sl
  have l1 := h0.l1
  have l2 := h0.l2
  have l3 := h0.l3
  obtain ⟨ps', as', hd', fs, t1, t2, t3, t4, t5, t6, t7⟩ := take_both (c := c) (L := lost) hw hb h0.hl hm hm2 (by omega) (by omega) (by omega)
  refine ⟨fs, (hd', as', ps'), { h with states := h.states ++ [⟨ps', as', hd', lost⟩], done := h.done ++ [Av.tup [(Av.str (("take", c, m).1)), (Av.int (("take", c, m).2.1)), (Av.int (("take", c, m).2.2))]] }, t2, ?_, ⟨h0.wd, h0.cr, ⟨h.states, rfl⟩, t3, by dsimp only; omega, by dsimp only; omega, by dsimp only; omega, ?_, ?_⟩, t7⟩
  · unfold m_House_take_1
    refine bindE (room_okH (by omega)) (bindE (client_okH h0.cr hc) (bindE (a := ⟨b.2.2, b.2.1, b.1, lost⟩) (by rw [e1, idx_last]) ?_))
    rw [h0.wd]
    exact bindE t1 (bindE (appR_ok (by omega)) (bindE (appR_ok (by omega)) rfl))
  · show (h.states ++ [_]).length ≤ _
    rw [List.length_append, List.length_singleton]; omega
  · show (h.done ++ [_]).length ≤ _
    rw [List.length_append, List.length_singleton]; omega
theorem houseC (hw : 0 < w) (h0 : HB w H h b lost n) (hn : n ≤ 31) (hc : 0 ≤ c ∧ c < H) : ∃ g b' h', (if (hasZ b.1 c) = true then
    R.bind (getR b.1 c) fun t18 =>
    R.bind (modR t18 w) fun t19 =>
    .ok (((dropZ b.1 c), b.2.1, b.2.2), (w - t19))
    else
    .ok (b, 0) : R (BkT × Int)) = .ok (b', g) ∧ m_House_crash_1 h c = .ok (g, h') ∧ HB w H h' b' (lost + g) (n + 1) := by
  obtain ⟨fr, e1⟩ := h0.ex
  have hdl := h0.dl
  have hsl := h0.sl
  have l1 := h0.l1
  have l2 := h0.l2
  have l3 := h0.l3
  have hdr := drop_lenZ (k := c) (kvs := b.1)
  have run : ∀ (g : Int) (hd' : List (Int × Int)), m_after_crash w ⟨b.2.2, b.2.1, b.1, lost⟩ c = .ok (⟨b.2.2, b.2.1, hd', lost + g⟩, g) → m_House_crash_1 h c = .ok (g, { h with states := h.states ++ [⟨b.2.2, b.2.1, hd', lost + g⟩], done := h.done ++ [Av.tup [(Av.str (("crash", c).1)), (Av.int (("crash", c).2))]] }) := fun g hd' e => by
    unfold m_House_crash_1
    refine bindE (room_okH (by omega)) (bindE (client_okH h0.cr hc) (bindE (a := ⟨b.2.2, b.2.1, b.1, lost⟩) (by rw [e1, idx_last]) ?_))
    rw [h0.wd]
    exact bindE e (bindE (appR_ok (by omega)) (bindE (appR_ok (by omega)) rfl))
  have fin : ∀ (g : Int) (hd' : List (Int × Int)) (x : Av), HL w b.2.2 b.2.1 hd' → hd'.length ≤ b.1.length → HB w H { h with states := h.states ++ [⟨b.2.2, b.2.1, hd', lost + g⟩], done := h.done ++ [x] } (hd', b.2.1, b.2.2) (lost + g) (n + 1) := fun g hd' x q1 q2 =>
    ⟨h0.wd, h0.cr, ⟨h.states, rfl⟩, q1, by dsimp only; omega, by dsimp only; omega, by dsimp only; omega, by show (h.states ++ [_]).length ≤ _; rw [List.length_append, List.length_singleton]; omega, by show (h.done ++ [_]).length ≤ _; rw [List.length_append, List.length_singleton]; omega⟩
  have hnone : ∀ {kvs : List (Int × Int)}, lookZ kvs c = none → dropZ kvs c = kvs := by
    intro kvs
    induction kvs with
    | nil => intro _; rfl
    | cons x r ih =>
      obtain ⟨k', d⟩ := x
      intro e
      unfold lookZ at e
      show (if k' = c then dropZ r c else (k', d) :: dropZ r c) = _
      by_cases z : k' = c
      · rw [if_pos z] at e; cases e
      · rw [if_neg z] at e ⊢
        rw [ih e]
  cases e : lookZ b.1 c with
  | none =>
    have hac : m_after_crash w ⟨b.2.2, b.2.1, b.1, lost⟩ c = .ok (⟨b.2.2, b.2.1, b.1, lost + 0⟩, 0) := by
      unfold m_after_crash
      dsimp only
      rw [e]
      refine bindE (a := 0) rfl (bindE (a := (⟨b.2.2, b.2.1, b.1, lost + 0⟩ : StateM)) ?_ rfl)
      rw [hnone e]; rfl
    refine ⟨0, b, _, ?_, run 0 b.1 hac, fin 0 b.1 _ h0.hl (Nat.le_refl _)⟩
    rw [if_neg (by unfold hasZ; rw [e]; simp)]
  | some v =>
    have hac : m_after_crash w ⟨b.2.2, b.2.1, b.1, lost⟩ c = .ok (⟨b.2.2, b.2.1, dropZ b.1 c, lost + (w - v % w)⟩, w - v % w) := by
      unfold m_after_crash
      dsimp only
      rw [e]
      refine bindE (a := w - v % w) ?_ (bindE rfl rfl)
      rw [if_neg (by simp)]
      show R.bind (R.ok v) _ = _
      rw [R.bind_ok, modR_ok hw, R.bind_ok]
    refine ⟨w - v % w, (dropZ b.1 c, b.2.1, b.2.2), _, ?_, run _ _ hac, fin _ _ _ (hl_drop h0.hl c) hdr⟩
    rw [if_pos (by unfold hasZ; rw [e]; rfl), getR_ok e, R.bind_ok, modR_ok hw, R.bind_ok]
theorem same_ok (hw : 0 < w) (hb : Big w) (h0 : HB w H h b lost n) (hn : n ≤ 40) (hH : 0 ≤ H ∧ H ≤ 100) : m_l_same_1 h b w H = .ok true := by
  obtain ⟨fr, e1⟩ := h0.ex
  have l1 := h0.l1
  have l2 := h0.l2
  have hst : idx h.states (-1) = .ok ⟨b.2.2, b.2.1, b.1, lost⟩ := by rw [e1, idx_last]
  have hkb : ∀ p ∈ b.2.2, p.1 / w ≤ 10 ^ 18 := fun p hp => by have := h0.hl.bl p hp; omega
  have hlog : m_Log___init___10 w b.2.2 false = .ok ⟨w, b.2.2, false, ixM w b.2.2, posM b.2.2⟩ := init_eq (lz := true) h0.hl.lg hw hb (by omega) hkb
  have hlogO : m_Log__O___init___2 w b.2.2 false = .ok ⟨w, b.2.2, false, ixM w b.2.2, posM b.2.2⟩ := hlog
  have hfull : m_House_full_log_1 h = .ok ⟨w, b.2.2, false, ixM w b.2.2, posM b.2.2⟩ := by
    unfold m_House_full_log_1
    refine bindE hst ?_
    rw [h0.wd]
    exact bindE hlog rfl
  have how : m_House_owners h = .ok b.2.1 := by unfold m_House_owners; exact bindE hst rfl
  have hfe : m_House_fetches h = .ok (b.2.1.length : Int) := by unfold m_House_fetches; exact bindE hst rfl
  unfold m_l_same_1
  refine bindE hfull (bindE hlogO (bindE (a := true) ?_ (bindE (a := false) ?_ ?_)))
  · unfold m_Log___eq__ m_Log_parts
    rw [if_pos rfl]
    exact bindE (bindE rfl (bindE rfl (a := decide (_ = _)) rfl)) (by simp)
  · rw [if_neg (by simp)]
    refine bindE how (bindE (a := false) ?_ rfl)
    rw [if_neg (by simp)]
    exact bindE hfe (by simp)
  · rw [if_neg (by simp)]
    refine eq_of_spec (spec_bindE (rngR_ok (by omega) (by omega) (by omega) (by omega)) (spec_bind (spec_forCR (I := fun _ _ => True) (fun _ => False) trivial ?_) fun r hr => ?_))
    · intro i x u hx _
      have hx := rng_mem.mp (List.mem_of_getElem? hx)
      have hold : m_House_holding_1 h x = .ok ((lookZ b.1 x).map fun v => v / w) := by
        unfold m_House_holding_1
        refine bindE (client_okH h0.cr hx) (bindE hst ?_)
        dsimp only
        cases e : lookZ b.1 x with
        | none => exact bindE (a := none) rfl rfl
        | some v =>
          rw [if_neg (by simp)]
          refine bindE (a := some (v / w)) ?_ rfl
          show R.bind (R.ok v) _ = _
          rw [R.bind_ok, h0.wd, divR_ok hw hb, R.bind_ok]
      refine spec_bindE (a := (lookZ b.1 x).map fun v => v / w) ?_ (spec_bindE hold (spec_bindE (a := false) ?_ ?_))
      · unfold hasZ
        cases e : lookZ b.1 x with
        | none => rw [if_neg (by simp)]; rfl
        | some v => rw [if_pos (by rfl), getR_ok e, R.bind_ok, divR_ok hw hb, R.bind_ok]; rfl
      · rw [if_neg (by simp)]
        exact bindE hold (by simp)
      · rw [if_neg (by simp)]
        exact spec_ok trivial
    · cases r with
      | rt r => exact hr.elim
      | nx u =>
        dsimp only
        refine spec_bindE how (spec_bindE (need_ok (by unfold most; omega)) (spec_bindE how (spec_ok ?_)))
        simp
end
theorem hb_new (w H : Int) : HB w H ⟨w, H, [⟨[], [], [], 0⟩], []⟩ ([], [], []) 0 0 :=
  ⟨rfl, rfl, ⟨[], rfl⟩, ⟨.nil, by unfold rng; simp [ixM, enm, keysZ], fun p hp => (by cases hp), fun c v h => (by cases h), fun c d v u h => (by cases h)⟩, Nat.le_refl _, Nat.le_refl _, Nat.le_refl _, Nat.le_refl _, Nat.le_refl _⟩
theorem house_init {w H : Int} (hw : 0 < w) (hH : 0 < H ∧ H ≤ 100) : m_House___init___2 w H = .ok ⟨w, H, [⟨[], [], [], 0⟩], []⟩ := by
  unfold m_House___init___2 m_check_size_12 m_is_between m_is_integer
  rw [R.bind_ok, if_neg (by simp; omega), R.bind_ok, R.bind_ok, R.bind_ok, if_neg (by simp; omega)]; rfl
theorem ok_k64 (ns : List Int) : m_law_k64_1 ns = .ok true := by
  unfold m_law_k64_1
  refine eq_of_spec ?_
  refine spec_bind (sp_cell_at (Int.le_refl _)) fun c _ => ?_
  have hcl : (cut ns (some 1) (some 4)).length ≤ 3 := by
    unfold cut
    rw [List.length_take]
    simp only [sixZ]
    rw [if_neg (by omega), if_neg (by omega)]
    omega
  refine spec_bindE (catR_ok (by rw [List.length_singleton]; omega)) ?_
  refine spec_bind (spec_forC (I := fun _ _ => True) trivial ?_) fun r hr => by
    obtain ⟨s, rfl, _⟩ := hr
    exact spec_ok rfl
  intro i x s hx _
  refine spec_bind (sp_source_of x) fun s5 h5 => ?_
  refine spec_bind (sp_width h5 (by omega)) fun t6 h6 => ?_
  obtain ⟨hw0, hw1, hs6⟩ := h6
  generalize t6.1 = w at hw0 hw1
  have hbw : Big w := big_of (by omega) (by omega)
  refine spec_bind (sp_next hs6 (by omega) (by omega) (by omega)) fun t7 h7 => ?_
  refine spec_bind (sp_one h7.2.2 (by omega) (by simp) (by simp)) fun t8 h8 => ?_
  have hH : 0 < t8.1 ∧ t8.1 ≤ 100 := by
    have := h7.1; have := h7.2.1
    have hm := h8.1
    simp only [List.mem_cons, List.not_mem_nil, or_false] at hm
    omega
  replace h8 := h8.2
  generalize t8.1 = H at hH
  refine spec_bindE (house_init hw0 hH) ?_
  refine spec_bind (sp_next h8 (by omega) (by omega) (by omega)) fun t10 h10 => ?_
  refine spec_bindE (rngR_ok (by omega) (by omega) (by omega) (by omega)) ?_
  have hlen := rng_len 0 t10.1
  refine spec_bind (spec_forCR (I := fun i (s : List Int × HouseM × BkT × Int) => Src (6 + 4 * (i : Int)) s.1 ∧ HB w H s.2.1 s.2.2.1 s.2.2.2 i) (fun _ => False) ⟨h10.2.2.mono (by omega), hb_new w H⟩ ?_) fun c34 h34 => ?_
  · rintro i x ⟨src, hs, bk, lost⟩ hx ⟨i1, i2⟩
    have hi := (List.getElem?_eq_some_iff.mp hx).1
    dsimp only at i1 i2 ⊢
    have h10b := h10.2.1
    refine spec_bind (sp_next i1 (by omega) (by omega) (by omega)) fun t14 h14 => ?_
    refine spec_bind (sp_next h14.2.2 (by omega) (by omega) (by omega)) fun t15 h15 => ?_
    have after : ∀ {src' : List Int} {h' : HouseM} {b' : BkT} {lost' : Int}, Src (6 + 4 * ((i + 1 : Nat) : Int)) src' → HB w H h' b' lost' (i + 1) →
        Spec (R.bind (m_House_numbers_lost h') fun t31 => R.bind (if (!decide (t31 = lost')) = true then .ok true else (R.bind (m_l_same_1 h' b' w H) fun t32 => .ok (!t32))) fun t33 => if t33 = true then R.ok (Ctl.rt (σ := List Int × HouseM × BkT × Int) (ρ := Bool) false) else .ok (.nx (src', h', b', lost'))) fun c => match c with | .nx s => Src (6 + 4 * ((i + 1 : Nat) : Int)) s.1 ∧ HB w H s.2.1 s.2.2.1 s.2.2.2 (i + 1) | .rt r => False := fun {src' h' b' lost'} q1 q2 => by
      obtain ⟨fr, e1⟩ := q2.ex
      refine spec_bindE (a := lost') (by unfold m_House_numbers_lost; exact bindE (by rw [e1, idx_last]) rfl) (spec_bindE (a := false) ?_ ?_)
      · rw [if_neg (by simp), same_ok hw0 hbw q2 (by omega) (by omega)]; rfl
      · rw [if_neg (by simp)]
        exact spec_ok ⟨q1, q2⟩
    by_cases c15 : t15.1 = 0
    · rw [if_pos (decide_eq_true c15)]
      obtain ⟨g, b', h', e1, e2, e3⟩ := houseC hw0 i2 (by omega) ⟨h14.1, h14.2.1⟩
      refine spec_bindE (a := .nx (t15.2, h', b', lost + g)) ?_ ?_
      · refine bindE e1 (bindE e2 ?_)
        rw [if_neg (by simp)]
      · dsimp only
        exact spec_mono (after (h15.2.2.mono (by omega)) e3) fun c hc => by cases c <;> exact hc
    · rw [if_neg (by simpa using c15)]
      refine spec_bind (Φ := fun (c : Ctl (List Int × HouseM × BkT × Int) Bool) => ∃ src' h' b', c = .nx (src', h', b', lost) ∧ Src (6 + 4 * ((i + 1 : Nat) : Int)) src' ∧ HB w H h' b' lost (i + 1)) ?_ fun c hc => ?_
      · have e25 : powR 10 25 = .ok ((10 : Int) ^ 25) := powR_ok (by omega) (by omega) (by decide)
        refine spec_bindE e25 (spec_bindE (a := 3 * w) (by show mulR ((3 : Nat) : Int) w = _; exact mulR_l (by omega)) (spec_bindE e25 ?_))
        refine spec_bind (sp_next h15.2.2 (by omega) (by omega) (by omega)) fun t25 h25 => ?_
        refine spec_bind (sp_one h25.2.2 (by omega) (by simp) (by simp)) fun t26 h26 => ?_
        have hm : 1 ≤ t26.1 ∧ t26.1 ≤ 10 ^ 25 ∧ t26.1 ≤ 3 * w := by
          have := h25.1; have := h25.2.1
          have hm := h26.1
          simp only [List.mem_cons, List.not_mem_nil, or_false] at hm
          omega
        obtain ⟨fs, b', h', e1, e2, e3, e4⟩ := houseT hw0 hbw i2 (by omega) ⟨h14.1, h14.2.1⟩ ⟨hm.1, hm.2.1⟩ hm.2.2
        refine spec_bindE e1 (spec_bindE e2 ?_)
        rw [if_neg (by simp)]
        refine spec_bindE (appR_ok (by rw [List.length_map]; dsimp only; omega)) (spec_ok ⟨_, _, _, rfl, h26.2.mono (by omega), e3⟩)
      · obtain ⟨src', h', b', rfl, q1, q2⟩ := hc
        dsimp only
        exact spec_mono (after q1 q2) fun c hc => by cases c <;> exact hc
  · cases c34 with
    | rt r => exact h34.elim
    | nx s12 =>
      dsimp only
      obtain ⟨_, hO⟩ := h34
      refine spec_bindE (a := w) (by unfold m_House_block_size; rw [hO.wd]) (spec_bindE (a := H) (by unfold m_House_client_count; rw [hO.cr]) (spec_bindE (a := false) ?_ ?_))
      · rw [if_neg (by simp)]
        exact bindE (house_init hw0 hH) rfl
      · rw [if_neg (by simp)]
        exact spec_ok ⟨_, rfl, trivial⟩
end FwP

set_option Elab.async false
set_option linter.all false
set_option maxRecDepth 100000
set_option maxHeartbeats 4000000
namespace Fw
open PySem L2
instance tbN : TbC := ⟨[]⟩
def e_is_integer : He.DefD := ⟨("is_integer", none), "is_integer", "is_integer", defArgs s_is_integer, defBody s_is_integer, defScope s_is_integer, [], []⟩
def e_is_between : He.DefD := ⟨("is_between", none), "is_between", "is_between", defArgs s_is_between, defBody s_is_between, defScope s_is_between, [], []⟩
def e_check_between : He.DefD := ⟨("check_between", none), "check_between", "check_between", defArgs s_check_between, defBody s_check_between, defScope s_check_between, [], []⟩
def e_check_size : He.DefD := ⟨("check_size", none), "check_size", "check_size", defArgs s_check_size, defBody s_check_size, defScope s_check_size, [], []⟩
def e_is_run : He.DefD := ⟨("is_run", none), "is_run", "is_run", defArgs s_is_run, defBody s_is_run, defScope s_is_run, [], []⟩
def e_grouped : He.DefD := ⟨("grouped", none), "grouped", "grouped", defArgs s_grouped, defBody s_grouped, defScope s_grouped, [], []⟩
def e_check_order : He.DefD := ⟨("check_order", none), "check_order", "check_order", defArgs s_check_order, defBody s_check_order, defScope s_check_order, [], []⟩
def e_Log___init__ : He.DefD := ⟨("Log", some "__init__"), "__init__", "Log.__init__", defArgs s_Log___init__, defBody s_Log___init__, defScope s_Log___init__, [], [("early", .bl false)]⟩
def e_Log___eq__ : He.DefD := ⟨("Log", some "__eq__"), "__eq__", "Log.__eq__", defArgs s_Log___eq__, defBody s_Log___eq__, defScope s_Log___eq__, [], []⟩
def e_Log_parts : He.DefD := ⟨("Log", some "parts"), "parts", "Log.parts", defArgs s_Log_parts, defBody s_Log_parts, defScope s_Log_parts, [], []⟩
def e_Log_block_size : He.DefD := ⟨("Log", some "block_size"), "block_size", "Log.block_size", defArgs s_Log_block_size, defBody s_Log_block_size, defScope s_Log_block_size, [], []⟩
def e_Log_runs : He.DefD := ⟨("Log", some "runs"), "runs", "Log.runs", defArgs s_Log_runs, defBody s_Log_runs, defScope s_Log_runs, [], []⟩
def e_Log_blocks : He.DefD := ⟨("Log", some "blocks"), "blocks", "Log.blocks", defArgs s_Log_blocks, defBody s_Log_blocks, defScope s_Log_blocks, [], []⟩
def e_Log_check_block : He.DefD := ⟨("Log", some "check_block"), "check_block", "Log.check_block", defArgs s_Log_check_block, defBody s_Log_check_block, defScope s_Log_check_block, [], []⟩
def e_Log_issued : He.DefD := ⟨("Log", some "issued"), "issued", "Log.issued", defArgs s_Log_issued, defBody s_Log_issued, defScope s_Log_issued, [], []⟩
def e_State___init__ : He.DefD := ⟨("State", some "__init__"), "__init__", "State.__init__", defArgs s_State___init__, defBody s_State___init__, defScope s_State___init__, [], []⟩
def e_joined : He.DefD := ⟨("joined", none), "joined", "joined", defArgs s_joined, defBody s_joined, defScope s_joined, [], []⟩
def e_after_take : He.DefD := ⟨("after_take", none), "after_take", "after_take", defArgs s_after_take, defBody s_after_take, defScope s_after_take, [], []⟩
def e_after_crash : He.DefD := ⟨("after_crash", none), "after_crash", "after_crash", defArgs s_after_crash, defBody s_after_crash, defScope s_after_crash, [], []⟩
def e_House___init__ : He.DefD := ⟨("House", some "__init__"), "__init__", "House.__init__", defArgs s_House___init__, defBody s_House___init__, defScope s_House___init__, [], []⟩
def e_House___eq__ : He.DefD := ⟨("House", some "__eq__"), "__eq__", "House.__eq__", defArgs s_House___eq__, defBody s_House___eq__, defScope s_House___eq__, [], []⟩
def e_House_facts : He.DefD := ⟨("House", some "facts"), "facts", "House.facts", defArgs s_House_facts, defBody s_House_facts, defScope s_House_facts, [], []⟩
def e_House_block_size : He.DefD := ⟨("House", some "block_size"), "block_size", "House.block_size", defArgs s_House_block_size, defBody s_House_block_size, defScope s_House_block_size, [], []⟩
def e_House_client_count : He.DefD := ⟨("House", some "client_count"), "client_count", "House.client_count", defArgs s_House_client_count, defBody s_House_client_count, defScope s_House_client_count, [], []⟩
def e_House_full_log : He.DefD := ⟨("House", some "full_log"), "full_log", "House.full_log", defArgs s_House_full_log, defBody s_House_full_log, defScope s_House_full_log, [], []⟩
def e_House_owners : He.DefD := ⟨("House", some "owners"), "owners", "House.owners", defArgs s_House_owners, defBody s_House_owners, defScope s_House_owners, [], []⟩
def e_House_check_client : He.DefD := ⟨("House", some "check_client"), "check_client", "House.check_client", defArgs s_House_check_client, defBody s_House_check_client, defScope s_House_check_client, [], []⟩
def e_House_holding : He.DefD := ⟨("House", some "holding"), "holding", "House.holding", defArgs s_House_holding, defBody s_House_holding, defScope s_House_holding, [], []⟩
def e_House_check_room : He.DefD := ⟨("House", some "check_room"), "check_room", "House.check_room", defArgs s_House_check_room, defBody s_House_check_room, defScope s_House_check_room, [], []⟩
def e_House_take : He.DefD := ⟨("House", some "take"), "take", "House.take", defArgs s_House_take, defBody s_House_take, defScope s_House_take, [], []⟩
def e_House_crash : He.DefD := ⟨("House", some "crash"), "crash", "House.crash", defArgs s_House_crash, defBody s_House_crash, defScope s_House_crash, [], []⟩
def e_House_numbers_lost : He.DefD := ⟨("House", some "numbers_lost"), "numbers_lost", "House.numbers_lost", defArgs s_House_numbers_lost, defBody s_House_numbers_lost, defScope s_House_numbers_lost, [], []⟩
def e_House_fetches : He.DefD := ⟨("House", some "fetches"), "fetches", "House.fetches", defArgs s_House_fetches, defBody s_House_fetches, defScope s_House_fetches, [], []⟩
def e__law_source_of : He.DefD := ⟨("_law_source_of", none), "_law_source_of", "_law_source_of", defArgs s__law_source_of, defBody s__law_source_of, defScope s__law_source_of, [], []⟩
def e__law_next : He.DefD := ⟨("_law_next", none), "_law_next", "_law_next", defArgs s__law_next, defBody s__law_next, defScope s__law_next, [], []⟩
def e__law_one : He.DefD := ⟨("_law_one", none), "_law_one", "_law_one", defArgs s__law_one, defBody s__law_one, defScope s__law_one, [], []⟩
def e__law_cell_at : He.DefD := ⟨("_law_cell_at", none), "_law_cell_at", "_law_cell_at", defArgs s__law_cell_at, defBody s__law_cell_at, defScope s__law_cell_at, [], []⟩
def e__law_width : He.DefD := ⟨("_law_width", none), "_law_width", "_law_width", defArgs s__law_width, defBody s__law_width, defScope s__law_width, [], []⟩
def e__law_add : He.DefD := ⟨("_law_add", none), "_law_add", "_law_add", defArgs s__law_add, defBody s__law_add, defScope s__law_add, [], []⟩
def e__law_take : He.DefD := ⟨("_law_take", none), "_law_take", "_law_take", defArgs s__law_take, defBody s__law_take, defScope s__law_take, [], []⟩
def e__law_same : He.DefD := ⟨("_law_same", none), "_law_same", "_law_same", defArgs s__law_same, defBody s__law_same, defScope s__law_same, [], []⟩
def e_law : He.DefD := ⟨("law", none), "law", "law", defArgs s_law, defBody s_law, defScope s_law, [], []⟩
def fn : List He.DefD := [e_is_integer, e_is_between, e_check_between, e_check_size, e_is_run, e_grouped, e_check_order, e_Log___init__, e_Log___eq__, e_Log_parts, e_Log_block_size, e_Log_runs, e_Log_blocks, e_Log_check_block, e_Log_issued, e_State___init__, e_joined, e_after_take, e_after_crash, e_House___init__, e_House___eq__, e_House_facts, e_House_block_size, e_House_client_count, e_House_full_log, e_House_owners, e_House_check_client, e_House_holding, e_House_check_room, e_House_take, e_House_crash, e_House_numbers_lost, e_House_fetches, e__law_source_of, e__law_next, e__law_one, e__law_cell_at, e__law_width, e__law_add, e__law_take, e__law_same, e_law]
def fa : List He.Fa := [.free "ArithmeticError", .free "bool", .free "dict", .free "enumerate", .free "int", .free "isinstance", .free "len", .free "list", .free "min", .free "range", .free "sorted", .free "sum", .free "tuple", .int "MOST_CALLS" 1000, .int "MOST_CLIENTS" 100, .int "MOST_COUNT" 10000000000000000000000000, .int "MOST_RUNS" 400, .glo "is_integer", .glo "is_between", .glo "check_between", .glo "check_size", .glo "is_run", .glo "grouped", .glo "check_order", .mkr "Log", .meth "Log" "__eq__", .meth "Log" "parts", .meth "Log" "block_size", .meth "Log" "runs", .meth "Log" "blocks", .meth "Log" "check_block", .meth "Log" "issued", .mkr "State", .glo "joined", .glo "after_take", .glo "after_crash", .mkr "House", .meth "House" "__eq__", .meth "House" "facts", .meth "House" "block_size", .meth "House" "client_count", .meth "House" "full_log", .meth "House" "owners", .meth "House" "check_client", .meth "House" "holding", .meth "House" "check_room", .meth "House" "take", .meth "House" "crash", .meth "House" "numbers_lost", .meth "House" "fetches", .glo "_law_source_of", .glo "_law_next", .glo "_law_one", .glo "_law_cell_at", .glo "_law_width", .glo "_law_add", .glo "_law_take", .glo "_law_same", .glo "law", .cls "Log", .glo "Log", .noat "Log" "width", .noat "Log" "listed", .noat "Log" "fetches_early", .noat "Log" "indices", .noat "Log" "positions", .cls "State", .glo "State", .noat "State" "issues", .noat "State" "takers", .noat "State" "held", .noat "State" "lost_count", .cls "House", .glo "House", .noat "House" "width", .noat "House" "crowd", .noat "House" "states", .noat "House" "done"]
abbrev hR : PySem.W.OpenRow := PySem.W.OpenLaw.row PySem.Challenge.rw_idblocks_k64_a_house_step_by_step
def exb (K : PySem.W.Frag) : Bool := ownB K "House" && (ownB K "Log")
abbrev hk : PySem.W.Hook := hookE 5 fa fn exb
def ob (s : PySem.W.SharedT) : He.AlD × Bool := obE 5 fa fn exb (HandSHeadRun.getT s)
theorem ob_eq (s : PySem.W.SharedT) : ob s = hk.obs s.abs := obE_eq (HandSHeadRun.getT_eq s)
def loose0 : List PySem.Str := ["_wall", "IdError", "InvalidSize", "InvalidLog", "InvalidBlock", "InvalidClients", "InvalidBound", "LimitExceeded", "is_integer", "is_between", "check_between", "MOST_RUNS", "check_size", "is_run", "grouped", "check_order", "Log", "MOST_CLIENTS", "MOST_COUNT", "MOST_CALLS", "State", "joined", "after_take", "after_crash", "House", "_law_source_of", "_law_next", "_law_one", "_law_cell_at", "_law_width"]
def loose1 : List PySem.Str := ["_law_add", "_law_take", "_law_same"]
def looseN : List PySem.Str := loose0 ++ loose1
set_option maxHeartbeats 0 in
theorem run (w : World) : HandSHeadRun.RunEq hR (PySem.W.view hR.prog [38]) hk ob 9000 looseN w := by
  intro os
  kernel_rfl
theorem facts {K : PySem.W.Frag} {h : Heap} {mg : Str → Option Value} (X : K.In h) (G : h.Ns mainGlobals mg) (c : He.SaysD fa fn K) (ex : exb K = true) : Tx K mg where
  n_ArithmeticError := He.free_ok X G (c.fact 0 (f := .free "ArithmeticError") rfl)
  n_bool := He.free_ok X G (c.fact 1 (f := .free "bool") rfl)
  n_dict := He.free_ok X G (c.fact 2 (f := .free "dict") rfl)
  n_enumerate := He.free_ok X G (c.fact 3 (f := .free "enumerate") rfl)
  n_int := He.free_ok X G (c.fact 4 (f := .free "int") rfl)
  n_isinstance := He.free_ok X G (c.fact 5 (f := .free "isinstance") rfl)
  n_len := He.free_ok X G (c.fact 6 (f := .free "len") rfl)
  n_list := He.free_ok X G (c.fact 7 (f := .free "list") rfl)
  n_min := He.free_ok X G (c.fact 8 (f := .free "min") rfl)
  n_range := He.free_ok X G (c.fact 9 (f := .free "range") rfl)
  n_sorted := He.free_ok X G (c.fact 10 (f := .free "sorted") rfl)
  n_sum := He.free_ok X G (c.fact 11 (f := .free "sum") rfl)
  n_tuple := He.free_ok X G (c.fact 12 (f := .free "tuple") rfl)
  k_MOST_CALLS := He.int_ok X G (c.fact 13 (f := .int "MOST_CALLS" 1000) rfl)
  k_MOST_CLIENTS := He.int_ok X G (c.fact 14 (f := .int "MOST_CLIENTS" 100) rfl)
  k_MOST_COUNT := He.int_ok X G (c.fact 15 (f := .int "MOST_COUNT" 10000000000000000000000000) rfl)
  k_MOST_RUNS := He.int_ok X G (c.fact 16 (f := .int "MOST_RUNS" 400) rfl)
  d_is_integer := c.def_ 0 (d := e_is_integer) rfl
  g_is_integer := He.glo_ok X G (c.fact 17 (f := .glo "is_integer") rfl)
  d_is_between := c.def_ 1 (d := e_is_between) rfl
  g_is_between := He.glo_ok X G (c.fact 18 (f := .glo "is_between") rfl)
  d_check_between := c.def_ 2 (d := e_check_between) rfl
  g_check_between := He.glo_ok X G (c.fact 19 (f := .glo "check_between") rfl)
  d_check_size := c.def_ 3 (d := e_check_size) rfl
  g_check_size := He.glo_ok X G (c.fact 20 (f := .glo "check_size") rfl)
  d_is_run := c.def_ 4 (d := e_is_run) rfl
  g_is_run := He.glo_ok X G (c.fact 21 (f := .glo "is_run") rfl)
  d_grouped := c.def_ 5 (d := e_grouped) rfl
  g_grouped := He.glo_ok X G (c.fact 22 (f := .glo "grouped") rfl)
  d_check_order := c.def_ 6 (d := e_check_order) rfl
  g_check_order := He.glo_ok X G (c.fact 23 (f := .glo "check_order") rfl)
  d_Log___init__ := c.def_ 7 (d := e_Log___init__) rfl
  mk_Log := He.mkr_ok (c.fact 24 (f := .mkr "Log") rfl)
  d_Log___eq__ := c.def_ 8 (d := e_Log___eq__) rfl
  m_Log___eq__ := He.meth_ok (c.fact 25 (f := .meth "Log" "__eq__") rfl)
  d_Log_parts := c.def_ 9 (d := e_Log_parts) rfl
  m_Log_parts := He.meth_ok (c.fact 26 (f := .meth "Log" "parts") rfl)
  d_Log_block_size := c.def_ 10 (d := e_Log_block_size) rfl
  m_Log_block_size := He.meth_ok (c.fact 27 (f := .meth "Log" "block_size") rfl)
  d_Log_runs := c.def_ 11 (d := e_Log_runs) rfl
  m_Log_runs := He.meth_ok (c.fact 28 (f := .meth "Log" "runs") rfl)
  d_Log_blocks := c.def_ 12 (d := e_Log_blocks) rfl
  m_Log_blocks := He.meth_ok (c.fact 29 (f := .meth "Log" "blocks") rfl)
  d_Log_check_block := c.def_ 13 (d := e_Log_check_block) rfl
  m_Log_check_block := He.meth_ok (c.fact 30 (f := .meth "Log" "check_block") rfl)
  d_Log_issued := c.def_ 14 (d := e_Log_issued) rfl
  m_Log_issued := He.meth_ok (c.fact 31 (f := .meth "Log" "issued") rfl)
  d_State___init__ := c.def_ 15 (d := e_State___init__) rfl
  mk_State := He.mkr_ok (c.fact 32 (f := .mkr "State") rfl)
  d_joined := c.def_ 16 (d := e_joined) rfl
  g_joined := He.glo_ok X G (c.fact 33 (f := .glo "joined") rfl)
  d_after_take := c.def_ 17 (d := e_after_take) rfl
  g_after_take := He.glo_ok X G (c.fact 34 (f := .glo "after_take") rfl)
  d_after_crash := c.def_ 18 (d := e_after_crash) rfl
  g_after_crash := He.glo_ok X G (c.fact 35 (f := .glo "after_crash") rfl)
  d_House___init__ := c.def_ 19 (d := e_House___init__) rfl
  mk_House := He.mkr_ok (c.fact 36 (f := .mkr "House") rfl)
  d_House___eq__ := c.def_ 20 (d := e_House___eq__) rfl
  m_House___eq__ := He.meth_ok (c.fact 37 (f := .meth "House" "__eq__") rfl)
  d_House_facts := c.def_ 21 (d := e_House_facts) rfl
  m_House_facts := He.meth_ok (c.fact 38 (f := .meth "House" "facts") rfl)
  d_House_block_size := c.def_ 22 (d := e_House_block_size) rfl
  m_House_block_size := He.meth_ok (c.fact 39 (f := .meth "House" "block_size") rfl)
  d_House_client_count := c.def_ 23 (d := e_House_client_count) rfl
  m_House_client_count := He.meth_ok (c.fact 40 (f := .meth "House" "client_count") rfl)
  d_House_full_log := c.def_ 24 (d := e_House_full_log) rfl
  m_House_full_log := He.meth_ok (c.fact 41 (f := .meth "House" "full_log") rfl)
  d_House_owners := c.def_ 25 (d := e_House_owners) rfl
  m_House_owners := He.meth_ok (c.fact 42 (f := .meth "House" "owners") rfl)
  d_House_check_client := c.def_ 26 (d := e_House_check_client) rfl
  m_House_check_client := He.meth_ok (c.fact 43 (f := .meth "House" "check_client") rfl)
  d_House_holding := c.def_ 27 (d := e_House_holding) rfl
  m_House_holding := He.meth_ok (c.fact 44 (f := .meth "House" "holding") rfl)
  d_House_check_room := c.def_ 28 (d := e_House_check_room) rfl
  m_House_check_room := He.meth_ok (c.fact 45 (f := .meth "House" "check_room") rfl)
  d_House_take := c.def_ 29 (d := e_House_take) rfl
  m_House_take := He.meth_ok (c.fact 46 (f := .meth "House" "take") rfl)
  d_House_crash := c.def_ 30 (d := e_House_crash) rfl
  m_House_crash := He.meth_ok (c.fact 47 (f := .meth "House" "crash") rfl)
  d_House_numbers_lost := c.def_ 31 (d := e_House_numbers_lost) rfl
  m_House_numbers_lost := He.meth_ok (c.fact 48 (f := .meth "House" "numbers_lost") rfl)
  d_House_fetches := c.def_ 32 (d := e_House_fetches) rfl
  m_House_fetches := He.meth_ok (c.fact 49 (f := .meth "House" "fetches") rfl)
  d__law_source_of := c.def_ 33 (d := e__law_source_of) rfl
  g__law_source_of := He.glo_ok X G (c.fact 50 (f := .glo "_law_source_of") rfl)
  d__law_next := c.def_ 34 (d := e__law_next) rfl
  g__law_next := He.glo_ok X G (c.fact 51 (f := .glo "_law_next") rfl)
  d__law_one := c.def_ 35 (d := e__law_one) rfl
  g__law_one := He.glo_ok X G (c.fact 52 (f := .glo "_law_one") rfl)
  d__law_cell_at := c.def_ 36 (d := e__law_cell_at) rfl
  g__law_cell_at := He.glo_ok X G (c.fact 53 (f := .glo "_law_cell_at") rfl)
  d__law_width := c.def_ 37 (d := e__law_width) rfl
  g__law_width := He.glo_ok X G (c.fact 54 (f := .glo "_law_width") rfl)
  d__law_add := c.def_ 38 (d := e__law_add) rfl
  g__law_add := He.glo_ok X G (c.fact 55 (f := .glo "_law_add") rfl)
  d__law_take := c.def_ 39 (d := e__law_take) rfl
  g__law_take := He.glo_ok X G (c.fact 56 (f := .glo "_law_take") rfl)
  d__law_same := c.def_ 40 (d := e__law_same) rfl
  g__law_same := He.glo_ok X G (c.fact 57 (f := .glo "_law_same") rfl)
  d_law := c.def_ 41 (d := e_law) rfl
  g_law := He.glo_ok X G (c.fact 58 (f := .glo "law") rfl)
  ow_House := ownB_ok (andb ex).1 (He.cls_ok (c.fact 72 (f := .cls "House") rfl)) (He.meth_ok (c.fact 37 (f := .meth "House" "__eq__") rfl))
  ow_Log := ownB_ok (andb ex).2 (He.cls_ok (c.fact 59 (f := .cls "Log") rfl)) (He.meth_ok (c.fact 25 (f := .meth "Log" "__eq__") rfl))
  cl_Log := He.cls_ok (c.fact 59 (f := .cls "Log") rfl)
  gc_Log := He.glo_ok X G (c.fact 60 (f := .glo "Log") rfl)
  na_Log_width := He.noat_ok (c.fact 61 (f := .noat "Log" "width") rfl)
  na_Log_listed := He.noat_ok (c.fact 62 (f := .noat "Log" "listed") rfl)
  na_Log_fetches_early := He.noat_ok (c.fact 63 (f := .noat "Log" "fetches_early") rfl)
  na_Log_indices := He.noat_ok (c.fact 64 (f := .noat "Log" "indices") rfl)
  na_Log_positions := He.noat_ok (c.fact 65 (f := .noat "Log" "positions") rfl)
  cl_State := He.cls_ok (c.fact 66 (f := .cls "State") rfl)
  gc_State := He.glo_ok X G (c.fact 67 (f := .glo "State") rfl)
  na_State_issues := He.noat_ok (c.fact 68 (f := .noat "State" "issues") rfl)
  na_State_takers := He.noat_ok (c.fact 69 (f := .noat "State" "takers") rfl)
  na_State_held := He.noat_ok (c.fact 70 (f := .noat "State" "held") rfl)
  na_State_lost_count := He.noat_ok (c.fact 71 (f := .noat "State" "lost_count") rfl)
  cl_House := He.cls_ok (c.fact 72 (f := .cls "House") rfl)
  gc_House := He.glo_ok X G (c.fact 73 (f := .glo "House") rfl)
  na_House_width := He.noat_ok (c.fact 74 (f := .noat "House" "width") rfl)
  na_House_crowd := He.noat_ok (c.fact 75 (f := .noat "House" "crowd") rfl)
  na_House_states := He.noat_ok (c.fact 76 (f := .noat "House" "states") rfl)
  na_House_done := He.noat_ok (c.fact 77 (f := .noat "House" "done") rfl)
end Fw
open PySem PySem.W PySem.Calls PyProof.Rows
set_option maxHeartbeats 0 in
theorem PySem.Challenge.cw_idblocks_k64_a_house_step_by_step_holds : PySem.Challenge.rw_idblocks_k64_a_house_step_by_step.Holds := by
  w_on; o_law
  refine HandSHeadRun.head_any (r := OpenLaw.row PySem.Challenge.rw_idblocks_k64_a_house_step_by_step) (q := view (OpenLaw.row PySem.Challenge.rw_idblocks_k64_a_house_step_by_step).prog [38]) (H := Fw.hk) (ob := Fw.ob) (M := 9000) (loose := Fw.looseN) (d := HandSHeadRun.topDef (OpenLaw.row PySem.Challenge.rw_idblocks_k64_a_house_step_by_step).prog 38) (kwd := []) Fw.ob_eq
    (by kernel_rfl) (fun s => by kernel_rfl) Fw.run (by kernel_rfl) (by kernel_rfl) (by kernel_rfl) (by rfl) (by first | assumption | decide +kernel) (by decide +kernel) ⟨rfl, rfl, rfl, rfl, rfl, by decide +kernel⟩ ?hw ?hc
  case hw => w_witness2
  case hc =>
    refine Fw.walkG (l := PySem.Challenge.rw_idblocks_k64_a_house_step_by_step) (n := 63) (k := 8) (x := "_law_script") rfl (by decide) (by kernel_rfl) ⟨rfl, by decide, by decide⟩ ?F
    intro w mg fa h Y G hmg0
    obtain ⟨K, KX, c, ex⟩ := Y
    have hmg : mg ("law" : PySem.Str) = some (.ref fa) := by
      have e : (HandSHeadRun.topDef (OpenLaw.row PySem.Challenge.rw_idblocks_k64_a_house_step_by_step).prog 38).name = ("law" : PySem.Str) := by kernel_rfl
      rw [← e]
      exact hmg0
    have T := Fw.facts KX G c ex
    have e := hmg.symm.trans T.g_law
    cases e
    obtain ⟨fd, F⟩ := T.d_law
    have b := L2.FunD.bindsA (ps := ["_law_script"]) F fun _ _ _ _ _ _ us hl => match us, hl with | [_], _ => rfl
    exact ⟨K, KX, fd, [], Fw.spOf K (Fw.ctOf (Fw.C_law K) Fw.noX), (fun p hp => by cases hp), (fun p hp => by cases hp), (fun p hp => by cases hp), fun s v => b s [v] rfl, fun H a ns hl _ hS => Fw.law_sp (fun p hp => by cases hp) hl hS fun ns h => ⟨[.v (Fw.eF Fw.D.int ns)], .v (.bl true), _, .cons rfl .nil, Fw.W_law (FwP.ok_k64 ns), fun s ss' hs _ => hs⟩, fun base _ _ _ => Fw.calm_fn (Fw.f_law T F) fun _ _ _ _ z => z.elim .inl fun ⟨_, _, _, _, _, ⟨_, _, _, _, q, _⟩, _⟩ => q.elim⟩

