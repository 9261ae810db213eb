import PyProof.Rows.All
import Wide.All
import OpenK.AllK
import Wide.FinOn
import HandS.ForMost
import HandS.Wide
import HandS.WideBits
import HandS.Exc
import HandS.NoneIn
import HandS.Walk
import KE.GoesMore
import KE.GoesEnum
import HandS.TupAny
import HandS.Style
import HandS.Small
import HandS.IsInst
import HandS.SortInts
import HandS.SortRule
import HandS.SortKw
import HandS.More
import HandS.Dict
import HandS.Iter
import KE.KDictZip
import HandS.ExcValue
import PyProof.StrOps2
import HandS.Zip
import HandS.EndBits
import PyProof.WalkInts
import HandS.ExcOwn
import HandS.ExcIs
import HandS.WordsExc
import KE.KExcIs
import HandS.DictComp
import HandS.ExcInit
import HandS.ExcField
import HandS.RaiseMore
import PySem.Challenge.RW_oddsums_k03_sums_of_choices
set_option linter.all false
set_option Elab.async false
set_option maxRecDepth 100000
/-! Layer F: data without a heap over HandS. -/
namespace LF
open PySem L2

/-- data: what never changes is told whole, what may change by its number among the cells; scr: the script -/
inductive D where
  | non | bl (b : Bool) | int (i : Int) | str (s : Str) | tup (xs : List D) | lst (xs : List D) | dic (kvs : List (Key × D)) | cel (i : Nat) | scr (ns : List Int)
/-- a thing that may change -/
inductive Cell where
  | lst (xs : List D) | dic (kvs : List (Key × D)) | ins (c : Str) (fs : List (Str × D)) | err (c : Str) (fs : List (Str × D))
abbrev Cs := List (Option Cell)
abbrev Sl := List (Option D)
/-- an exception of an own class -/
structure Exc where
  cls : Str
  fs : List (Str × D)
inductive Res (α : Type) where
  | ok (a : α) (cs : Cs) | exc (x : Exc) (cs : Cs) | bad
def Res.bind {α β : Type} (r : Res α) (k : α → Cs → Res β) : Res β := match r with
  | .ok a cs => k a cs
  | .exc x cs => .exc x cs
  | .bad => .bad

/-- at a: a caught exception of the class at C, its fields at d -/
def ErrO (a C : Addr) (d : Option Addr) : HO := .ext fun h => ∃ (oe : Obj) (vs : Array Value), h.get? a = some oe ∧ Zc (.ref C) d oe ∧ oe.data = .fields vs
/-- where data lie: what never changes, the cells' places -/
structure Wd where
  fz : Hp
  ad : List Addr

section
variable (K : PySem.W.Frag) (mg : Str → Option Value)
mutual
inductive Rep (W : Wd) : V → D → Prop
  | non : Rep W .non .non
  | bl (b : Bool) : Rep W (.bl b) (.bl b)
  | int (i : Int) : Rep W (.int i) (.int i)
  | str (s : Str) : Rep W (.str s) (.str s)
  | tup {a : Addr} {vs : List V} {ds : List D} (h : W.fz a = some (.tup vs)) (hl : vs.length ≤ sizeLine) (r : Reps W vs ds) : Rep W (.ref a) (.tup ds)
  | lst {a : Addr} {vs : List V} {ds : List D} (h : W.fz a = some (.lst vs)) (hl : vs.length ≤ sizeLine) (r : Reps W vs ds) : Rep W (.ref a) (.lst ds)
  | dic {a : Addr} {kvs : List (Key × V)} {ds : List (Key × D)} (h : W.fz a = some (.dK kvs)) (hl : kvs.length ≤ sizeLine) (r : RepK W kvs ds) : Rep W (.ref a) (.dic ds)
  | cel {a : Addr} {i : Nat} (h : W.ad[i]? = some a) : Rep W (.ref a) (.cel i)
  | scr {a : Addr} {ns : List Int} (h : SqL K W.fz a (ns.map V.int)) (hl : ns.length ≤ sizeLine) : Rep W (.ref a) (.scr ns)
inductive Reps (W : Wd) : List V → List D → Prop
  | nil : Reps W [] []
  | cons {v : V} {d : D} {vs : List V} {ds : List D} (h : Rep W v d) (t : Reps W vs ds) : Reps W (v :: vs) (d :: ds)
inductive RepK (W : Wd) : List (Key × V) → List (Key × D) → Prop
  | nil : RepK W [] []
  | cons {k : Key} {v : V} {d : D} {vs : List (Key × V)} {ds : List (Key × D)} (h : Rep W v d) (t : RepK W vs ds) : RepK W ((k, v) :: vs) ((k, d) :: ds)
end
inductive RepF (W : Wd) : List (Str × V) → List (Str × D) → Prop
  | nil : RepF W [] []
  | cons {k : Str} {v : V} {d : D} {vs : List (Str × V)} {ds : List (Str × D)} (h : Rep K W v d) (t : RepF W vs ds) : RepF W ((k, v) :: vs) ((k, d) :: ds)
/-- the fields of a caught exception -/
def ErrF (W : Wd) (d : Option Addr) (fs : List (Str × D)) : Prop := match d with
  | none => fs = []
  | some a => ∃ vs, W.fz a = some (.xd vs) ∧ RepF K W vs fs
/-- what stands at a cell's place -/
inductive CRep (W : Wd) (a : Addr) : HO → Cell → Prop
  | lst {vs : List V} {ds : List D} (hl : vs.length ≤ sizeLine) (r : Reps K W vs ds) : CRep W a (.lst vs) (.lst ds)
  | dic {kvs : List (Key × V)} {ds : List (Key × D)} (hl : kvs.length ≤ sizeLine) (r : RepK K W kvs ds) : CRep W a (.dK kvs) (.dic ds)
  | ins {C dx : Addr} {fs : List (Str × V)} {ds : List (Str × D)} {c : Str} (hc : mg c = some (.ref C)) (r : RepF K W fs ds) : CRep W a (.ins C dx fs) (.ins c ds)
  | err {C : Addr} {d : Option Addr} {ds : List (Str × D)} {c : Str} (hc : mg c = some (.ref C)) (r : ErrF K W d ds) : CRep W a (ErrO a C d) (.err c ds)
end

/-- what a frozen object's place holds: itself; a dict may be locked meanwhile -/
def FzOk (H : Hp) (a : Addr) (u : HO) : Prop := match u with
  | .dK kvs => Rd H a (.dK kvs)
  | u => H a = some u

structure RS (K : PySem.W.Frag) (mg : Str → Option Value) (W : Wd) (cs : Cs) (H : Hp) : Prop where
  fz : ∀ a u, W.fz a = some u → FzOk H a u
  len : W.ad.length = cs.length
  cell : ∀ (i : Nat) (c : Cell), cs[i]? = some (some c) → ∃ a o, W.ad[i]? = some a ∧ H a = some o ∧ W.fz a = none ∧ CRep K mg W a o c
  apart : ∀ (i j : Nat) (a : Addr) (c c' : Cell), cs[i]? = some (some c) → cs[j]? = some (some c') → W.ad[i]? = some a → W.ad[j]? = some a → i = j
  there : ∀ (i : Nat) (a : Addr), W.ad[i]? = some a → H a ≠ none

structure Le (W W' : Wd) : Prop where
  fz : Same W.fz W'.fz
  ad : W.ad <+: W'.ad
/-- a step of the program: data stay, what is no cell stays -/
structure Step (W : Wd) (H : Hp) (W' : Wd) (H' : Hp) : Prop where
  le : Le W W'
  fr : ∀ b o, H b = some o → b ∉ W.ad → H' b = some o ∧ b ∉ W'.ad ∧ (W.fz b = none → W'.fz b = none)
  fx : ∀ b o u, H b = some o → W.fz b = some u → H' b = some o

theorem Le.refl (W : Wd) : Le W W := ⟨Same.refl _, List.prefix_refl _⟩
theorem Le.trans {W W1 W2 : Wd} (a : Le W W1) (b : Le W1 W2) : Le W W2 := ⟨a.fz.trans b.fz, a.ad.trans b.ad⟩
theorem Le.at {W W' : Wd} (l : Le W W') {i : Nat} {a : Addr} (h : W.ad[i]? = some a) : W'.ad[i]? = some a := by
  obtain ⟨t, e⟩ := l.ad
  rw [← e, List.getElem?_append_left (List.getElem?_eq_some_iff.mp h).1]
  exact h
theorem Step.refl (W : Wd) (H : Hp) : Step W H W H := ⟨Le.refl W, fun _ _ h n => ⟨h, n, id⟩, fun _ _ _ h _ => h⟩
theorem Step.trans {W W1 W2 : Wd} {H H1 H2 : Hp} (a : Step W H W1 H1) (b : Step W1 H1 W2 H2) : Step W H W2 H2 :=
  ⟨a.le.trans b.le, fun c o h n => let x := a.fr c o h n; let y := b.fr c o x.1 x.2.1; ⟨y.1, y.2.1, fun z => y.2.2 (x.2.2 z)⟩, fun c o u h z => b.fx c o u (a.fx c o u h z) (a.le.fz _ _ z)⟩

section
variable {K : PySem.W.Frag} {mg : Str → Option Value}
mutual
theorem Rep.mono {W W' : Wd} (l : Le W W') : ∀ {v : V} {d : D}, Rep K W v d → Rep K W' v d
  | _, _, .non => .non
  | _, _, .bl b => .bl b
  | _, _, .int i => .int i
  | _, _, .str s => .str s
  | _, _, .tup h hl r => .tup (l.fz _ _ h) hl (Reps.mono l r)
  | _, _, .lst h hl r => .lst (l.fz _ _ h) hl (Reps.mono l r)
  | _, _, .dic h hl r => .dic (l.fz _ _ h) hl (RepK.mono l r)
  | _, _, .cel h => .cel (l.at h)
  | _, _, .scr h hl => .scr (l.fz.seq h) hl
theorem Reps.mono {W W' : Wd} (l : Le W W') : ∀ {vs : List V} {ds : List D}, Reps K W vs ds → Reps K W' vs ds
  | _, _, .nil => .nil
  | _, _, .cons h t => .cons (Rep.mono l h) (Reps.mono l t)
theorem RepK.mono {W W' : Wd} (l : Le W W') : ∀ {vs : List (Key × V)} {ds : List (Key × D)}, RepK K W vs ds → RepK K W' vs ds
  | _, _, .nil => .nil
  | _, _, .cons h t => .cons (Rep.mono l h) (RepK.mono l t)
end
theorem RepF.mono {W W' : Wd} (l : Le W W') : ∀ {vs : List (Str × V)} {ds : List (Str × D)}, RepF K W vs ds → RepF K W' vs ds
  | _, _, .nil => .nil
  | _, _, .cons h t => .cons (h.mono l) (RepF.mono l t)
theorem ErrF.mono {W W' : Wd} (l : Le W W') {d : Option Addr} {fs : List (Str × D)} (h : ErrF K W d fs) : ErrF K W' d fs := by
  cases d with
  | none => exact h
  | some a =>
    obtain ⟨vs, e, r⟩ := h
    exact ⟨vs, l.fz _ _ e, r.mono l⟩
theorem CRep.mono {W W' : Wd} (l : Le W W') {a : Addr} {o : HO} {c : Cell} (h : CRep K mg W a o c) : CRep K mg W' a o c := by
  cases h with
  | err hc r => exact .err hc (r.mono l)
  | lst hl r => exact .lst hl (r.mono l)
  | dic hl r => exact .dic hl (r.mono l)
  | ins hc r => exact .ins hc (r.mono l)
theorem Reps.length : ∀ {W : Wd} {vs : List V} {ds : List D}, Reps K W vs ds → vs.length = ds.length
  | _, _, _, .nil => rfl
  | _, _, _, .cons _ t => congrArg (· + 1) (Reps.length t)
theorem RepK.length : ∀ {W : Wd} {vs : List (Key × V)} {ds : List (Key × D)}, RepK K W vs ds → vs.length = ds.length
  | _, _, _, .nil => rfl
  | _, _, _, .cons _ t => congrArg (· + 1) (RepK.length t)
theorem Reps.append {W : Wd} : ∀ {vs us : List V} {ds es : List D}, Reps K W vs ds → Reps K W us es → Reps K W (vs ++ us) (ds ++ es)
  | _, _, _, _, .nil, s => s
  | _, _, _, _, .cons h t, s => .cons h (Reps.append t s)
theorem Reps.get {W : Wd} : ∀ {vs : List V} {ds : List D} {i : Nat} {d : D}, Reps K W vs ds → ds[i]? = some d → ∃ v, vs[i]? = some v ∧ Rep K W v d
  | _, _, _, _, .nil, h => by simp at h
  | _, _, 0, _, .cons h t, e => by simp at e; subst e; exact ⟨_, rfl, h⟩
  | _, _, i + 1, _, .cons h t, e => by simpa using Reps.get (i := i) t (by simpa using e)
theorem Reps.get' {W : Wd} : ∀ {vs : List V} {ds : List D} {i : Nat} {v : V}, Reps K W vs ds → vs[i]? = some v → ∃ d, ds[i]? = some d ∧ Rep K W v d
  | _, _, _, _, .nil, h => by simp at h
  | _, _, 0, _, .cons h t, e => by simp at e; subst e; exact ⟨_, rfl, h⟩
  | _, _, i + 1, _, .cons h t, e => by simpa using Reps.get' (i := i) t (by simpa using e)
theorem Reps.set {W : Wd} {v : V} {d : D} (r : Rep K W v d) : ∀ {vs : List V} {ds : List D} (i : Nat), Reps K W vs ds → Reps K W (vs.set i v) (ds.set i d)
  | _, _, _, .nil => .nil
  | _, _, 0, .cons _ rest => .cons r rest
  | _, _, i + 1, .cons h t => .cons h (Reps.set r i t)
theorem Reps.take {W : Wd} : ∀ {vs : List V} {ds : List D} (n : Nat), Reps K W vs ds → Reps K W (vs.take n) (ds.take n)
  | _, _, 0, _ => .nil
  | _, _, _ + 1, .nil => .nil
  | _, _, n + 1, .cons h t => .cons h (Reps.take n t)
theorem Reps.drop {W : Wd} : ∀ {vs : List V} {ds : List D} (n : Nat), Reps K W vs ds → Reps K W (vs.drop n) (ds.drop n)
  | _, _, 0, r => r
  | _, _, _ + 1, .nil => .nil
  | _, _, n + 1, .cons h t => Reps.drop n t
theorem Reps.reverse {W : Wd} : ∀ {vs : List V} {ds : List D}, Reps K W vs ds → Reps K W vs.reverse ds.reverse
  | _, _, .nil => .nil
  | _, _, .cons h t => by rw [List.reverse_cons, List.reverse_cons]; exact (Reps.reverse t).append (.cons h .nil)
theorem Reps.ints {W : Wd} : ∀ (ns : List Int), Reps K W (ns.map V.int) (ns.map D.int)
  | [] => .nil
  | n :: r => .cons (.int n) (Reps.ints r)
theorem Reps.ints_inv {W : Wd} : ∀ {vs : List V} {ns : List Int}, Reps K W vs (ns.map D.int) → vs = ns.map V.int
  | [], [], _ => rfl
  | _ :: _, n :: r, .cons h t => by cases h; rw [List.map_cons, Reps.ints_inv t]

/-- the place of a thing in the heap, its value now -/
theorem RS.fzl {W : Wd} {cs : Cs} {H : Hp} (R : RS K mg W cs H) {a : Addr} {vs : List V} (h : W.fz a = some (.lst vs)) : H a = some (.lst vs) := R.fz _ _ h
theorem RS.fzt {W : Wd} {cs : Cs} {H : Hp} (R : RS K mg W cs H) {a : Addr} {vs : List V} (h : W.fz a = some (.tup vs)) : H a = some (.tup vs) := R.fz _ _ h
theorem RS.fzd {W : Wd} {cs : Cs} {H : Hp} (R : RS K mg W cs H) {a : Addr} {vs : List (Key × V)} (h : W.fz a = some (.dK vs)) : Rd H a (.dK vs) := R.fz _ _ h
theorem RS.dom {W : Wd} {cs : Cs} {H : Hp} (R : RS K mg W cs H) {a : Addr} (h : H a = none) : W.fz a = none := by
  cases e : W.fz a with
  | none => rfl
  | some u =>
    have q := R.fz a u e
    cases u
    case dK kvs =>
      rcases q with q | ⟨o, q⟩ <;> (rw [h] at q; cases q)
    all_goals (rw [show H a = _ from q] at h; cases h)
theorem RS.noad {W : Wd} {cs : Cs} {H : Hp} (R : RS K mg W cs H) {a : Addr} (h : H a = none) : a ∉ W.ad := fun m => by
  obtain ⟨i, hi, e⟩ := List.getElem_of_mem m
  exact R.there i a (by rw [List.getElem?_eq_getElem hi, e]) h
theorem RS.scr {W : Wd} {cs : Cs} {H : Hp} (R : RS K mg W cs H) {a : Addr} {vs : List V} (h : SqL K W.fz a vs) : SqL K H a vs := by
  rcases h with ((h | ⟨o, h⟩) | h)
  · exact .inl (.inl (R.fz _ _ h))
  · exact .inl (.inr ⟨o, R.fz _ _ h⟩)
  · exact .inr h

/-- a new frozen thing -/
def Wd.froze (W : Wd) (a : Addr) (u : HO) : Wd := ⟨upd W.fz a u, W.ad⟩
def Wd.alloc (W : Wd) (a : Addr) : Wd := ⟨W.fz, W.ad ++ [a]⟩
def plainHO : HO → Prop
  | .lst _ => True
  | .tup _ => True
  | .dK _ => True
  | _ => False
theorem fzOk_of {H : Hp} {a : Addr} {u : HO} (h : H a = some u) : FzOk H a u := by
  cases u
  case dK => exact .inl h
  all_goals exact h
theorem fzOk_upd {H : Hp} {a b : Addr} {u o : HO} (h : FzOk H a u) (n : H b = none) : FzOk (upd H b o) a u := by
  have ne : ∀ {x}, H a = some x → a ≠ b := fun e z => by subst z; rw [n] at e; cases e
  cases u
  case dK kvs =>
    rcases h with h | ⟨q, h⟩
    · exact .inl ((upd_ne (ne h)).trans h)
    · exact .inr ⟨q, (upd_ne (ne h)).trans h⟩
  all_goals exact (upd_ne (ne h)).trans h
theorem Le.froze {W : Wd} {a : Addr} {u : HO} (h : W.fz a = none) : Le W (W.froze a u) :=
  ⟨fun b o e => by
    show upd W.fz a u b = some o
    rw [upd_ne (ne_of_none e h)]; exact e, List.prefix_refl _⟩
theorem Le.alloc {W : Wd} {a : Addr} : Le W (W.alloc a) := ⟨Same.refl _, List.prefix_append _ _⟩
theorem RS.froze {W : Wd} {cs : Cs} {H : Hp} (R : RS K mg W cs H) {a : Addr} {u : HO} (h : H a = none) : RS K mg (W.froze a u) cs (upd H a u) where
  fz := fun b o e => by
    have e : upd W.fz a u b = some o := e
    by_cases hb : b = a
    · subst hb; rw [upd_same] at e; cases e; exact fzOk_of upd_same
    · rw [upd_ne hb] at e; exact fzOk_upd (R.fz b o e) h
  len := R.len
  cell := fun i c e => by
    obtain ⟨b, o, h1, h2, h3, h4⟩ := R.cell i c e
    have hb : b ≠ a := ne_of_none h2 h
    exact ⟨b, o, h1, (upd_ne hb).trans h2, (upd_ne hb).trans h3, h4.mono (Le.froze (R.dom h))⟩
  apart := R.apart
  there := fun i b e => by
    have q := R.there i b e
    by_cases hb : b = a
    · subst hb; rw [upd_same]; simp
    · rw [upd_ne hb]; exact q
theorem Step.froze {W : Wd} {cs : Cs} {H : Hp} (R : RS K mg W cs H) {a : Addr} {u : HO} (h : H a = none) : Step W H (W.froze a u) (upd H a u) :=
  ⟨Le.froze (R.dom h), fun b o e n => ⟨(upd_ne (ne_of_none e h)).trans e, n, fun z => (upd_ne (ne_of_none e h)).trans z⟩, fun b o u e _ => (upd_ne (ne_of_none e h)).trans e⟩
theorem RS.alloc {W : Wd} {cs : Cs} {H : Hp} (R : RS K mg W cs H) {a : Addr} {u : HO} {c : Cell} (h : H a = none) (hc : CRep K mg (W.alloc a) a u c) : RS K mg (W.alloc a) (cs ++ [some c]) (upd H a u) where
  fz := fun b o e => fzOk_upd (R.fz b o e) h
  len := by
    show (W.ad ++ [a]).length = (cs ++ [some c]).length
    rw [List.length_append, List.length_append, R.len]; rfl
  cell := fun i c' e => by
    by_cases hi : i < cs.length
    · rw [List.getElem?_append_left hi] at e
      obtain ⟨b, o, h1, h2, h3, h4⟩ := R.cell i c' e
      exact ⟨b, o, Le.alloc.at h1, (upd_ne (ne_of_none h2 h)).trans h2, h3, h4.mono Le.alloc⟩
    · have hi' : i = cs.length := by
        have := (List.getElem?_eq_some_iff.mp e).1
        rw [List.length_append] at this
        simp at this
        omega
      subst hi'
      rw [List.getElem?_append_right (Nat.le_refl _), Nat.sub_self] at e
      cases e
      refine ⟨a, u, ?_, upd_same, R.dom h, hc⟩
      show (W.ad ++ [a])[cs.length]? = some a
      rw [← R.len, List.getElem?_append_right (Nat.le_refl _), Nat.sub_self]; rfl
  apart := fun i j b c1 c2 e1 e2 a1 a2 => by
    have key : ∀ (i : Nat) c1, (cs ++ [some c])[i]? = some (some c1) → (W.ad ++ [a])[i]? = some b → (i < cs.length ∧ cs[i]? = some (some c1) ∧ W.ad[i]? = some b ∧ b ≠ a) ∨ (i = cs.length ∧ b = a) := fun i c1 e1 a1 => by
      by_cases hi : i < cs.length
      · rw [List.getElem?_append_left hi] at e1
        rw [List.getElem?_append_left (by rw [R.len]; exact hi)] at a1
        exact .inl ⟨hi, e1, a1, fun z => R.there i b a1 (by rw [z]; exact h)⟩
      · have hi' : i = cs.length := by
          have := (List.getElem?_eq_some_iff.mp e1).1
          rw [List.length_append] at this
          simp at this
          omega
        subst hi'
        rw [← R.len, List.getElem?_append_right (Nat.le_refl _), Nat.sub_self] at a1
        exact .inr ⟨rfl, (Option.some.inj a1).symm⟩
    rcases key i c1 e1 a1 with ⟨_, p1, q1, n1⟩ | ⟨p1, n1⟩ <;> rcases key j c2 e2 a2 with ⟨_, p2, q2, n2⟩ | ⟨p2, n2⟩
    · exact R.apart i j b c1 c2 p1 p2 q1 q2
    · exact absurd n2 n1
    · exact absurd n1 n2
    · rw [p1, p2]
  there := fun i b e => by
    by_cases hb : b = a
    · subst hb; rw [upd_same]; simp
    · rw [upd_ne hb]
      have e : (W.ad ++ [a])[i]? = some b := e
      by_cases hi : i < W.ad.length
      · rw [List.getElem?_append_left hi] at e
        exact R.there i b e
      · rw [List.getElem?_append_right (by omega)] at e
        have : b = a := by
          cases hj : i - W.ad.length with
          | zero => rw [hj] at e; exact (Option.some.inj e).symm
          | succ n => rw [hj] at e; simp at e
        exact absurd this hb
theorem Step.alloc {W : Wd} {H : Hp} {a : Addr} {u : HO} (h : H a = none) : Step W H (W.alloc a) (upd H a u) :=
  ⟨Le.alloc, fun b o e n => ⟨(upd_ne (ne_of_none e h)).trans e, (fun m => by
    rcases List.mem_append.mp m with m | m
    · exact n m
    · rw [List.mem_singleton] at m; subst m; rw [h] at e; cases e), id⟩, fun b o u e _ => (upd_ne (ne_of_none e h)).trans e⟩
/-- a cell is changed -/
theorem RS.put {W : Wd} {cs : Cs} {H : Hp} (R : RS K mg W cs H) {i : Nat} {a : Addr} {u : HO} {c c0 : Cell} (e0 : cs[i]? = some (some c0)) (ea : W.ad[i]? = some a) (hc : CRep K mg W a u c) : RS K mg W (cs.set i (some c)) (upd H a u) where
  fz := fun b o e => by
    obtain ⟨a', o', h1, h2, h3, h4⟩ := R.cell i c0 e0
    rw [ea] at h1; cases h1
    have hb : b ≠ a := ne_of_none e h3
    have q := R.fz b o e
    cases o
    case dK kvs =>
      rcases q with q | ⟨z, q⟩
      · exact .inl ((upd_ne hb).trans q)
      · exact .inr ⟨z, (upd_ne hb).trans q⟩
    all_goals exact (upd_ne hb).trans q
  len := by rw [List.length_set]; exact R.len
  cell := fun j c' e => by
    by_cases hj : i = j
    · subst hj
      obtain ⟨a', o', h1, h2, h3, h4⟩ := R.cell i c0 e0
      rw [ea] at h1; cases h1
      rw [List.getElem?_set_self (List.getElem?_eq_some_iff.mp e0).1] at e
      cases e
      exact ⟨a, u, ea, upd_same, h3, hc⟩
    · rw [List.getElem?_set_ne hj] at e
      obtain ⟨b, o, h1, h2, h3, h4⟩ := R.cell j c' e
      have hb : b ≠ a := fun z => hj (R.apart i j a c0 c' e0 e ea (by rw [← z]; exact h1))
      exact ⟨b, o, h1, (upd_ne hb).trans h2, h3, h4⟩
  apart := fun j k b c1 c2 e1 e2 a1 a2 => by
    have key : ∀ (j : Nat) c1, (cs.set i (some c))[j]? = some (some c1) → ∃ c', cs[j]? = some (some c') := fun j c1 e => by
      by_cases hj : i = j
      · subst hj; exact ⟨c0, e0⟩
      · rw [List.getElem?_set_ne hj] at e; exact ⟨_, e⟩
    obtain ⟨d1, p1⟩ := key j c1 e1
    obtain ⟨d2, p2⟩ := key k c2 e2
    exact R.apart j k b d1 d2 p1 p2 a1 a2
  there := fun j b e => by
    by_cases hb : b = a
    · subst hb; rw [upd_same]; simp
    · rw [upd_ne hb]; exact R.there j b e
theorem Step.put {W : Wd} {H : Hp} {i : Nat} {a : Addr} {u : HO} (ea : W.ad[i]? = some a) (hz : W.fz a = none) : Step W H W (upd H a u) :=
  ⟨Le.refl W, fun b o e n => ⟨(upd_ne fun z => n (by subst z; exact List.mem_of_getElem? ea)).trans e, n, id⟩, fun b o v e z => (upd_ne fun y => by rw [y, hz] at z; cases z).trans e⟩
/-- an alive cell is not frozen -/
theorem RS.live {W : Wd} {cs : Cs} {H : Hp} (R : RS K mg W cs H) {i : Nat} {a : Addr} {c : Cell} (e0 : cs[i]? = some (some c)) (ea : W.ad[i]? = some a) : W.fz a = none := by
  obtain ⟨a', o', h1, h2, h3, h4⟩ := R.cell i c e0
  rw [ea] at h1; cases h1
  exact h3
/-- a cell is frozen -/
theorem RS.frz {W : Wd} {cs : Cs} {H : Hp} (R : RS K mg W cs H) {i : Nat} {a : Addr} {u : HO} {c0 : Cell} (e0 : cs[i]? = some (some c0)) (ea : W.ad[i]? = some a) (hu : H a = some u) : RS K mg (W.froze a u) (cs.set i none) H ∧ Step W H (W.froze a u) H := by
  obtain ⟨a', o', h1, h2, h3, h4⟩ := R.cell i c0 e0
  rw [ea] at h1; cases h1
  have l : Le W (W.froze a u) := Le.froze h3
  have back : ∀ (j : Nat) c', (cs.set i none)[j]? = some (some c') → i ≠ j ∧ cs[j]? = some (some c') := fun j c' e => by
    by_cases hj : i = j
    · subst hj
      rw [List.getElem?_set_self (List.getElem?_eq_some_iff.mp e0).1] at e
      cases e
    · rw [List.getElem?_set_ne hj] at e
      exact ⟨hj, e⟩
  refine ⟨⟨fun b o e => ?_, by rw [List.length_set]; exact R.len, fun j c' e => ?_, fun j k b c1 c2 e1 e2 a1 a2 => R.apart j k b c1 c2 (back j c1 e1).2 (back k c2 e2).2 a1 a2, R.there⟩, ⟨l, fun b o e n => ⟨e, n, fun z => (upd_ne fun y => n (by subst y; exact List.mem_of_getElem? ea)).trans z⟩, fun b o u e _ => e⟩⟩
  · have e : upd W.fz a u b = some o := e
    by_cases hb : b = a
    · subst hb; rw [upd_same] at e; cases e; exact fzOk_of hu
    · rw [upd_ne hb] at e; exact R.fz b o e
  · obtain ⟨hj, e⟩ := back j c' e
    obtain ⟨b, o, p1, p2, p3, p4⟩ := R.cell j c' e
    have hb : b ≠ a := fun z => hj (R.apart i j a c0 c' e0 e ea (by rw [← z]; exact p1))
    exact ⟨b, o, p1, p2, (upd_ne hb).trans p3, p4.mono l⟩

/-! ### slots -/
def RSl (K : PySem.W.Frag) (W : Wd) (sl : Sl) (σ : St) : Prop := sl.length = σ.length ∧ ∀ (i : Nat) (d : D), sl[i]? = some (some d) → ∃ v, σ[i]? = some (some v) ∧ Rep K W v d
theorem RSl.mono {W W' : Wd} {sl : Sl} {σ : St} (l : Le W W') (r : RSl K W sl σ) : RSl K W' sl σ := ⟨r.1, fun i d e => by
  obtain ⟨v, h1, h2⟩ := r.2 i d e
  exact ⟨v, h1, h2.mono l⟩⟩
theorem RSl.set {W : Wd} {sl : Sl} {σ : St} (r : RSl K W sl σ) {i : Nat} {v : V} {d : D} (h : Rep K W v d) : RSl K W (sl.set i (some d)) (σ.set i (some v)) := by
  refine ⟨by rw [List.length_set, List.length_set]; exact r.1, fun j d' e => ?_⟩
  by_cases hj : i = j
  · subst hj
    have hi : i < sl.length := by
      have := (List.getElem?_eq_some_iff.mp e).1
      rwa [List.length_set] at this
    rw [List.getElem?_set_self hi] at e
    cases e
    exact ⟨v, by rw [List.getElem?_set_self (by rw [← r.1]; exact hi)], h⟩
  · rw [List.getElem?_set_ne hj] at e
    rw [List.getElem?_set_ne hj]
    exact r.2 j d' e
theorem RSl.del {W : Wd} {sl : Sl} {σ : St} (r : RSl K W sl σ) (i : Nat) : RSl K W (sl.set i none) (σ.set i none) := by
  refine ⟨by rw [List.length_set, List.length_set]; exact r.1, fun j d' e => ?_⟩
  by_cases hj : i = j
  · subst hj
    have hi : i < sl.length := by
      have := (List.getElem?_eq_some_iff.mp e).1
      rwa [List.length_set] at this
    rw [List.getElem?_set_self hi] at e
    cases e
  · rw [List.getElem?_set_ne hj] at e
    rw [List.getElem?_set_ne hj]
    exact r.2 j d' e
def wipeS (sl : Sl) : List Nat → Sl
  | [] => sl
  | v :: vs => (wipeS sl vs).set v none
theorem RSl.wipe {W : Wd} {sl : Sl} {σ : St} (r : RSl K W sl σ) : ∀ vs : List Nat, RSl K W (wipeS sl vs) (wipe σ vs)
  | [] => r
  | v :: vs => (RSl.wipe r vs).del v
end

/-! ### the judgements -/

end LF

set_option Elab.async false
set_option maxRecDepth 100000
namespace LF
open PySem L2
/-! ### the judgements -/
abbrev WX := Value → Option Addr → L2.St → Hp → Prop
abbrev SE := Sl → Cs → Res D
abbrev ST := Sl → Cs → Res Bool
abbrev SA := Sl → Cs → Res (List D)
abbrev Fn := List D → Cs → Res D
abbrev P1 := D → Cs → Res D
abbrev P2 := D → D → Cs → Res D

section
variable (K : PySem.W.Frag) (mg : Str → Option Value)
/-- an exception as it lies -/
def XRep (W : Wd) (H : Hp) (x : Exc) (cls : Value) (d : Option Addr) : Prop :=
  ∃ C, mg x.cls = some (.ref C) ∧ cls = .ref C ∧ ErrF K W d x.fs
def Fin {α β : Type} (R : Wd → β → α → Prop) (Z : WX) (W : Wd) (σ : L2.St) (H : Hp) (r : Res α) (Q : β → Hp → Prop) : Prop := match r with
  | .ok a cs => ∀ W' b H', Step W H W' H' → RS K mg W' cs H' → R W' b a → Q b H'
  | .exc x cs => ∀ W' H' cls d, Step W H W' H' → RS K mg W' cs H' → XRep K mg W' H' x cls d → Z cls d σ H'
  | .bad => False
def up {α β : Type} (R : Wd → β → α → Prop) (Z : WX) (f : Sl → Cs → Res α) (σ : L2.St) (H : Hp) (Q : β → Hp → Prop) : Prop :=
  ∃ W sl cs, RS K mg W cs H ∧ RSl K W sl σ ∧ Fin K mg R Z W σ H (f sl cs) Q
end
def RB (_ : Wd) (b c : Bool) : Prop := b = c
section
variable {K : PySem.W.Frag} {mg : Str → Option Value}
theorem Fin.step {α β : Type} {R : Wd → β → α → Prop} {Z : WX} {W W1 : Wd} {σ : L2.St} {H H1 : Hp} {r : Res α} {Q : β → Hp → Prop} (st : Step W H W1 H1) (h : Fin K mg R Z W σ H r Q) : Fin K mg R Z W1 σ H1 r Q := by
  cases r with
  | ok a cs => exact fun W' b H' s R r => h W' b H' (st.trans s) R r
  | exc x cs => exact fun W' H' c d s R r => h W' H' c d (st.trans s) R r
  | bad => exact h
theorem Fin.bind {α β γ δ : Type} {R1 : Wd → β → α → Prop} {R2 : Wd → δ → γ → Prop} {Z : WX} {W : Wd} {σ : L2.St} {H : Hp} {f : Res α} {k : α → Cs → Res γ} {Q : δ → Hp → Prop} (h : Fin K mg R2 Z W σ H (f.bind k) Q) :
    Fin K mg R1 Z W σ H f (fun b H1 => ∃ W1 a cs1, Step W H W1 H1 ∧ RS K mg W1 cs1 H1 ∧ R1 W1 b a ∧ Fin K mg R2 Z W1 σ H1 (k a cs1) Q) := by
  cases f with
  | ok a cs => exact fun W' b H' s R r => ⟨W', a, cs, s, R, r, Fin.step s h⟩
  | exc x cs => exact h
  | bad => exact h
theorem Fin.mono {α β : Type} {R : Wd → β → α → Prop} {Z : WX} {W : Wd} {σ : L2.St} {H : Hp} {r : Res α} {Q Q' : β → Hp → Prop} (h : Fin K mg R Z W σ H r Q) (m : ∀ b H', Q b H' → Q' b H') : Fin K mg R Z W σ H r Q' := by
  cases r with
  | ok a cs => exact fun W' b H' s R r => m _ _ (h W' b H' s R r)
  | exc x cs => exact h
  | bad => exact h
theorem Fin.ret {α β : Type} {R : Wd → β → α → Prop} {Z : WX} {W : Wd} {σ : L2.St} {H : Hp} {a : α} {b : β} {cs : Cs} {Q : β → Hp → Prop} (h : Fin K mg R Z W σ H (.ok a cs) Q) (S : RS K mg W cs H) (r : R W b a) : Q b H := h W b H (Step.refl W H) S r
/-- chaining: what ahead is done with f goes on with k -/
theorem up_bind {α β γ δ : Type} {R1 : Wd → β → α → Prop} {R2 : Wd → δ → γ → Prop} {Z : WX} {W : Wd} {sl : Sl} {cs : Cs} {σ : L2.St} {H : Hp} {f : Sl → Cs → Res α} {k : α → Cs → Res γ} {Q : δ → Hp → Prop} (S : RS K mg W cs H) (L : RSl K W sl σ)
    (h : Fin K mg R2 Z W σ H ((f sl cs).bind k) Q) {Q1 : β → Hp → Prop}
    (go : ∀ W1 a cs1 b H1, Step W H W1 H1 → RS K mg W1 cs1 H1 → RSl K W1 sl σ → R1 W1 b a → Fin K mg R2 Z W1 σ H1 (k a cs1) Q → Q1 b H1) : up K mg R1 Z f σ H Q1 :=
  ⟨W, sl, cs, S, L, (Fin.bind (R1 := R1) h).mono fun b H1 ⟨W1, a, cs1, st, S1, r, h1⟩ => go W1 a cs1 b H1 st S1 (L.mono st.le) r h1⟩
end

theorem PEimp {X : Cx} {e : Expr} {t t' : TE} (h : PE X e t) (i : ∀ σ H Q, t' σ H Q → t σ H Q) : PE X e t' := ⟨fun pins s σ H Q I q => h.run pins s σ H Q I (i σ H Q q)⟩
theorem PTimp {X : Cx} {e : Expr} {t t' : TT} (h : PT X e t) (i : ∀ σ H Q, t' σ H Q → t σ H Q) : PT X e t' := ⟨fun pins s σ H Q I q => h.run pins s σ H Q I (i σ H Q q)⟩
theorem PAimp {X : Cx} {e : List Expr} {t t' : TA} (h : PA X e t) (i : ∀ σ H Q, t' σ H Q → t σ H Q) : PA X e t' := ⟨fun pos pins s σ H Q I q => h.run pos pins s σ H Q I (i σ H Q q)⟩
theorem PWimp {X : Cx} {e : Expr} {t t' : TT} (h : PW X e t) (i : ∀ σ H Q, t' σ H Q → t σ H Q) : PW X e t' := ⟨fun wh pins s σ H Q I q => h.run wh pins s σ H Q I (i σ H Q q)⟩
theorem PSimp {X : Cx} {e : Stmt} {t t' : TS} (h : PS X e t) (i : ∀ D σ H, t' D σ H → t D σ H) : PS X e t' := ⟨fun pins s σ H D I q => h.run pins s σ H D I (i D σ H q)⟩
theorem PSsimp {X : Cx} {e : List Stmt} {t t' : TS} (h : PSs X e t) (i : ∀ D σ H, t' D σ H → t D σ H) : PSs X e t' := ⟨fun pins s σ H D I q => h.run pins s σ H D I (i D σ H q)⟩

def FE (X : Cx) (Z : WX) (e : Expr) (f : SE) : Prop := PE X e (up X.K X.mg (Rep X.K) Z f)
def FT (X : Cx) (Z : WX) (e : Expr) (f : ST) : Prop := PT X e (up X.K X.mg RB Z f)
def FW (X : Cx) (Z : WX) (e : Expr) (f : ST) : Prop := PW X e (up X.K X.mg RB Z f)
def FA (X : Cx) (Z : WX) (es : List Expr) (f : SA) : Prop := PA X es (up X.K X.mg (Reps X.K) Z f)

/-! ### the words of expressions -/
def eV (i : Nat) : SE := fun sl cs => match sl[i]? with
  | some (some d) => .ok d cs
  | _ => .bad
def eC (d : D) : SE := fun _ cs => .ok d cs
def e1 (g : P1) (f : SE) : SE := fun sl cs => (f sl cs).bind g
def e2 (g : P2) (f h : SE) : SE := fun sl cs => (f sl cs).bind fun x cs1 => (h sl cs1).bind (g x)
def eN (g : List D → Cs → Res D) (f : SA) : SE := fun sl cs => (f sl cs).bind g
def eM (g : D → List D → Cs → Res D) (f : SE) (h : SA) : SE := fun sl cs => (f sl cs).bind fun x cs1 => (h sl cs1).bind (g x)
def aNil : SA := fun _ cs => .ok [] cs
def aCons (f : SE) (r : SA) : SA := fun sl cs => (f sl cs).bind fun x cs1 => (r sl cs1).bind fun xs cs2 => .ok (x :: xs) cs2
/-- a True or False as a test -/
def tV (f : SE) : ST := fun sl cs => (f sl cs).bind fun x cs1 => match x with
  | .bl b => .ok b cs1
  | _ => .bad
def tAnd (f g : ST) : ST := fun sl cs => (f sl cs).bind fun b cs1 => if b = true then g sl cs1 else .ok false cs1
def tOr (f g : ST) : ST := fun sl cs => (f sl cs).bind fun b cs1 => if b = true then .ok true cs1 else g sl cs1
def tNot (f : ST) : ST := fun sl cs => (f sl cs).bind fun b cs1 => .ok (!b) cs1
def eIf (t : ST) (f g : SE) : SE := fun sl cs => (t sl cs).bind fun b cs1 => if b = true then f sl cs1 else g sl cs1
def eAnd (f g : SE) : SE := fun sl cs => (f sl cs).bind fun x cs1 => match x with
  | .bl b => if b = true then g sl cs1 else .ok (.bl false) cs1
  | _ => .bad
def eOr (f g : SE) : SE := fun sl cs => (f sl cs).bind fun x cs1 => match x with
  | .bl b => if b = true then .ok (.bl true) cs1 else g sl cs1
  | _ => .bad
def eNot (f : SE) : SE := fun sl cs => (f sl cs).bind fun x cs1 => match x with
  | .bl b => .ok (.bl (!b)) cs1
  | _ => .bad

section
variable {X : Cx} {Z : WX} {a b c : Expr} {pos : Pos} {f g h : SE}
theorem rep_bl {K : PySem.W.Frag} {W : Wd} {v : V} {k : Bool} (r : Rep K W v (.bl k)) : v = .bl k := by cases r; rfl
theorem rep_int {K : PySem.W.Frag} {W : Wd} {v : V} {k : Int} (r : Rep K W v (.int k)) : v = .int k := by cases r; rfl
theorem rep_str {K : PySem.W.Frag} {W : Wd} {v : V} {k : Str} (r : Rep K W v (.str k)) : v = .str k := by cases r; rfl
theorem rep_non {K : PySem.W.Frag} {W : Wd} {v : V} (r : Rep K W v .non) : v = .non := by cases r; rfl
theorem up_ret {α β : Type} {R : Wd → β → α → Prop} {σ : L2.St} {H : Hp} {Q : β → Hp → Prop} {p : α} {v : β} (q : up X.K X.mg R Z (fun _ cs => .ok p cs) σ H Q) (h : ∀ W, R W v p) : Q v H := by
  obtain ⟨W, sl, cs, S, L, f⟩ := q
  exact f.ret S (h W)
theorem fe_v {x : Str} (i : Nat) (hN : X.N[i]? = some x := by rfl) (hv : Vis X.env.scope x := by first | exact Or.inl rfl | exact Or.inr (Or.inl rfl) | exact Or.inr (Or.inr rfl)) (hd : (x == ("__debug__" : Str)) = false := by decide)
    (hcd : (x == ("__classdict__" : Str)) = false := by decide) : FE X Z (.Name x pos) (eV i) := PEimp (pe_var hN hv hd hcd) fun σ H Q ⟨W, sl, cs, S, L, q⟩ => by
  unfold eV at q
  split at q
  · rename_i d e
    obtain ⟨v, h1, h2⟩ := L.2 i d e
    exact ⟨v, h1, q.ret S h2⟩
  · exact q.elim
theorem fe_int {i : Int} {j : Nat} : FE X Z (.Constant (.int i) j pos) (eC (.int i)) := PEimp pe_int fun _ _ _ q => up_ret q fun _ => .int i
theorem fe_bl {i : Bool} {j : Nat} : FE X Z (.Constant (.bool i) j pos) (eC (.bl i)) := PEimp pe_bl fun _ _ _ q => up_ret q fun _ => .bl i
theorem fe_str {i : Str} {j : Nat} : FE X Z (.Constant (.str i) j pos) (eC (.str i)) := PEimp pe_str fun _ _ _ q => up_ret q fun _ => .str i
theorem fe_non {j : Nat} : FE X Z (.Constant .none j pos) (eC .non) := PEimp pe_non fun _ _ _ q => up_ret q fun _ => .non
/-- a module's constant -/
theorem fe_glob {x : Str} {v : V} {d : D} {u : Value} (hg : Gl X x) (hm : X.mg x = some u) (r : RelV v u) (rd : ∀ W, Rep X.K W v d) (hd : (x == ("__debug__" : Str)) = false := by decide) : FE X Z (.Name x pos) (eC d) :=
  PEimp (pe_glob hg hm r hd) fun _ _ _ q => up_ret q rd

/-- what a rule by values asks comes of the word -/
def Ok1 (K : PySem.W.Frag) (mg : Str → Option Value) (r : V → Hp → VK → Prop) (g : P1) : Prop :=
  ∀ (Z : WX) (W : Wd) (cs : Cs) (H : Hp) (σ : L2.St) (x : V) (d : D) (Q : VK), RS K mg W cs H → Rep K W x d → Fin K mg (Rep K) Z W σ H (g d cs) Q → r x H Q
def Ok2 (K : PySem.W.Frag) (mg : Str → Option Value) (r : R2) (g : P2) : Prop :=
  ∀ (Z : WX) (W : Wd) (cs : Cs) (H : Hp) (σ : L2.St) (x y : V) (d e : D) (Q : VK), RS K mg W cs H → Rep K W x d → Rep K W y e → Fin K mg (Rep K) Z W σ H (g d e cs) Q → r x y H Q
def OkN (K : PySem.W.Frag) (mg : Str → Option Value) (r : List V → Hp → VK → Prop) (g : List D → Cs → Res D) : Prop :=
  ∀ (Z : WX) (W : Wd) (cs : Cs) (H : Hp) (σ : L2.St) (xs : List V) (ds : List D) (Q : VK), RS K mg W cs H → Reps K W xs ds → Fin K mg (Rep K) Z W σ H (g ds cs) Q → r xs H Q
def OkM (K : PySem.W.Frag) (mg : Str → Option Value) (r : V → List V → Hp → VK → Prop) (g : D → List D → Cs → Res D) : Prop :=
  ∀ (Z : WX) (W : Wd) (cs : Cs) (H : Hp) (σ : L2.St) (x : V) (xs : List V) (d : D) (ds : List D) (Q : VK), RS K mg W cs H → Rep K W x d → Reps K W xs ds → Fin K mg (Rep K) Z W σ H (g d ds cs) Q → r x xs H Q

theorem up_op2 {r : R2} {g : P2} (ok : Ok2 X.K X.mg r g) (σ : L2.St) (H : Hp) (Q : VK) (q : up X.K X.mg (Rep X.K) Z (e2 g f h) σ H Q) : tOp r (up X.K X.mg (Rep X.K) Z f) (up X.K X.mg (Rep X.K) Z h) σ H Q := by
  obtain ⟨W, sl, cs, S, L, q⟩ := q
  refine up_bind (R1 := Rep X.K) S L q fun W1 d cs1 x H1 st1 S1 L1 r1 q1 => ?_
  refine up_bind (R1 := Rep X.K) S1 L1 q1 fun W2 e cs2 y H2 st2 S2 L2 r2 q2 => ?_
  exact ok Z W2 cs2 H2 σ x y d e Q S2 (r1.mono st2.le) r2 q2
theorem fe_op {op : Operator} {r : R2} {g : P2} (ho : OpR X (binaryOp op) r) (ok : Ok2 X.K X.mg r g) (ha : FE X Z a f) (hb : FE X Z b h) : FE X Z (.BinOp a op b pos) (e2 g f h) :=
  PEimp (pe_op ho ha hb) (up_op2 ok)
theorem fe_cmp {op : CmpOp} {r : R2} {g : P2} (ho : OpR X (compareOp op) r) (ok : Ok2 X.K X.mg r g) (ha : FE X Z a f) (hb : FE X Z b h) (hm : behindInMarks op b = false := by first | exact nomark _ | rfl) : FE X Z (.Compare a [op] [b] pos) (e2 g f h) :=
  PEimp (pe_cmpR ho ha hb hm) (up_op2 ok)
theorem ft_cmp {op : CmpOp} {r : R2} {g : P2} (ho : OpR X (compareOp op) r) (ok : Ok2 X.K X.mg r g) (ha : FE X Z a f) (hb : FE X Z b h) (hm : behindInMarks op b = false := by first | exact nomark _ | rfl) : FT X Z (.Compare a [op] [b] pos) (tV (e2 g f h)) :=
  PTimp (pt_cmpR ho ha hb hm) fun σ H Q q => by
    obtain ⟨W, sl, cs, S, L, q⟩ := q
    have q2 := Fin.bind (R1 := Rep X.K) q
    refine up_op2 (f := f) (h := h) ok σ H _ ⟨W, sl, cs, S, L, q2.mono fun v H' ⟨W1, a1, cs1, st, S1, r1, q1⟩ => ?_⟩
    cases a1 with
    | bl k => exact ⟨k, rep_bl r1, q1.ret S1 rfl⟩
    | _ => exact q1.elim
theorem fe_un {op : UnaryOp} {r : V → Hp → VK → Prop} {g : P1} (ho : UnR X (unaryOp op) r) (ok : Ok1 X.K X.mg r g) (ha : FE X Z a f) : FE X Z (.UnaryOp op a pos) (e1 g f) :=
  PEimp (pe_un ho ha) fun σ H Q q => by
    obtain ⟨W, sl, cs, S, L, q⟩ := q
    refine up_bind (R1 := Rep X.K) S L q fun W1 d cs1 x H1 st1 S1 L1 r1 q1 => ?_
    exact ok Z W1 cs1 H1 σ x d Q S1 r1 q1
theorem ft_v (ha : FE X Z a f) (he : ∀ whole, isTrue a X.env whole = (do let v ← whole; standAt a.pos; holding [v] (truthy v)) := by intro _; rfl) : FT X Z a (tV f) :=
  PTimp (pt_val ha he) fun σ H Q q => by
    obtain ⟨W, sl, cs, S, L, q⟩ := q
    refine up_bind (R1 := Rep X.K) S L q fun W1 d cs1 x H1 st1 S1 L1 r1 q1 => ?_
    cases d with
    | bl k => exact ⟨k, rep_bl r1, q1.ret S1 rfl⟩
    | _ => exact q1.elim
theorem fw_and1 {t : ST} (ha : FT X Z a t) : FW X Z (.BoolOp .And [a] pos) t := pw_and1 ha
theorem fw_or1 {t : ST} (ha : FT X Z a t) : FW X Z (.BoolOp .Or [a] pos) t := pw_or1 ha
theorem fw_and {t u : ST} {rest : List Expr} (ha : FT X Z a t) (hb : FW X Z (.BoolOp .And (b :: rest) pos) u) : FW X Z (.BoolOp .And (a :: b :: rest) pos) (tAnd t u) :=
  PWimp (pw_and ha hb) fun σ H Q ⟨W, sl, cs, S, L, q⟩ => by
    refine up_bind (R1 := RB) S L q fun W1 d cs1 x H1 st1 S1 L1 r1 q1 => ?_
    cases r1
    cases d with
    | true => exact ⟨W1, sl, cs1, S1, L1, q1⟩
    | false => exact q1.ret S1 rfl
theorem fw_or {t u : ST} {rest : List Expr} (ha : FT X Z a t) (hb : FW X Z (.BoolOp .Or (b :: rest) pos) u) : FW X Z (.BoolOp .Or (a :: b :: rest) pos) (tOr t u) :=
  PWimp (pw_or ha hb) fun σ H Q ⟨W, sl, cs, S, L, q⟩ => by
    refine up_bind (R1 := RB) S L q fun W1 d cs1 x H1 st1 S1 L1 r1 q1 => ?_
    cases r1
    cases d with
    | true => exact q1.ret S1 rfl
    | false => exact ⟨W1, sl, cs1, S1, L1, q1⟩
theorem FW.ft {t : ST} (h : FW X Z a t) : FT X Z a t := PW.pt h
theorem ft_not {t : ST} (ha : FT X Z a t) : FT X Z (.UnaryOp .Not a pos) (tNot t) :=
  PTimp (pt_not ha) fun σ H Q ⟨W, sl, cs, S, L, q⟩ => by
    refine up_bind (R1 := RB) S L q fun W1 d cs1 x H1 st1 S1 L1 r1 q1 => ?_
    cases r1
    exact q1.ret S1 rfl
theorem fe_if {t : ST} (hc : FT X Z c t) (ha : FE X Z a f) (hb : FE X Z b h) : FE X Z (.IfExp c a b pos) (eIf t f h) :=
  PEimp (pe_ifExp hc ha hb) fun σ H Q ⟨W, sl, cs, S, L, q⟩ => by
    refine up_bind (R1 := RB) S L q fun W1 d cs1 x H1 st1 S1 L1 r1 q1 => ?_
    cases r1
    cases d with
    | true => exact ⟨W1, sl, cs1, S1, L1, q1⟩
    | false => exact ⟨W1, sl, cs1, S1, L1, q1⟩
theorem fe_one {op : BoolOp} (ha : FE X Z a f) : FE X Z (.BoolOp op [a] pos) f := pe_one ha
theorem fe_and {rest : List Expr} (ha : FE X Z a f) (hb : FE X Z (.BoolOp .And (b :: rest) pos) h) : FE X Z (.BoolOp .And (a :: b :: rest) pos) (eAnd f h) :=
  PEimp (pe_and ha hb) fun σ H Q ⟨W, sl, cs, S, L, q⟩ => by
    refine up_bind (R1 := Rep X.K) S L q fun W1 d cs1 x H1 st1 S1 L1 r1 q1 => ?_
    cases d with
    | bl k =>
      refine ⟨k, rep_bl r1, ?_⟩
      cases k with
      | true => exact ⟨W1, sl, cs1, S1, L1, q1⟩
      | false => exact q1.ret S1 (.bl _)
    | _ => exact q1.elim
theorem fe_or {rest : List Expr} (ha : FE X Z a f) (hb : FE X Z (.BoolOp .Or (b :: rest) pos) h) : FE X Z (.BoolOp .Or (a :: b :: rest) pos) (eOr f h) :=
  PEimp (pe_or ha hb) fun σ H Q ⟨W, sl, cs, S, L, q⟩ => by
    refine up_bind (R1 := Rep X.K) S L q fun W1 d cs1 x H1 st1 S1 L1 r1 q1 => ?_
    cases d with
    | bl k =>
      refine ⟨k, rep_bl r1, ?_⟩
      cases k with
      | true => exact q1.ret S1 (.bl _)
      | false => exact ⟨W1, sl, cs1, S1, L1, q1⟩
    | _ => exact q1.elim
theorem fe_not (ha : FE X Z a f) : FE X Z (.UnaryOp .Not a pos) (eNot f) :=
  PEimp (pe_not ha) fun σ H Q ⟨W, sl, cs, S, L, q⟩ => by
    refine up_bind (R1 := Rep X.K) S L q fun W1 d cs1 x H1 st1 S1 L1 r1 q1 => ?_
    cases d with
    | bl k => exact ⟨k, rep_bl r1, q1.ret S1 (.bl _)⟩
    | _ => exact q1.elim
theorem fa_nil : FA X Z [] aNil := PAimp pa_nil fun σ H Q ⟨W, sl, cs, S, L, q⟩ => q.ret S .nil
theorem fa_cons {es : List Expr} {r : SA} (ha : FE X Z a f) (hr : FA X Z es r) (hs : starEach (a :: es) X.env = (false, eval a X.env) :: starEach es X.env := by rfl) : FA X Z (a :: es) (aCons f r) :=
  PAimp (pa_cons ha hr hs) fun σ H Q ⟨W, sl, cs, S, L, q⟩ => by
    refine up_bind (R1 := Rep X.K) S L q fun W1 d cs1 x H1 st1 S1 L1 r1 q1 => ?_
    refine up_bind (R1 := Reps X.K) S1 L1 q1 fun W2 e cs2 y H2 st2 S2 L2 r2 q2 => ?_
    exact q2.ret S2 (.cons (r1.mono st2.le) r2)

/-- a built-in function, type, by values -/
theorem fe_callB {x : Str} {p : Pos} {e : Expr} {es : List Expr} {id : String} {r : List V → Hp → VK → Prop} {w : List D → Cs → Res D} {t : SA} (hc : CallR X (.builtin id) r) (ok : OkN X.K X.mg r w) (hm : X.mg x = none) (ha : FA X Z (e :: es) t) (hg : Gl X x := by rfl) (hv : bootBuiltins x = some (.builtin id) := by decide +kernel)
    (hn : x ≠ "__name__" := by decide) (hdb : (x == ("__debug__" : Str)) = false := by decide)
    (he : starEach (e :: es) X.env = (false, eval e X.env) :: starEach es X.env := by rfl) (hpl : (backTo pos (starEach es X.env)).any (·.1) = false := by rfl) : FE X Z (.Call (.Name x p) (e :: es) [] pos) (eN w t) :=
  PEimp (pe_callB hc hg hm hv ha hn hdb he hpl) fun σ H Q ⟨W, sl, cs, S, L, q⟩ => by
    refine up_bind (R1 := Reps X.K) S L q fun W1 d cs1 x H1 st1 S1 L1 r1 q1 => ?_
    exact ok Z W1 cs1 H1 σ x d Q S1 r1 q1
theorem fe_callTy {x : Str} {p : Pos} {e : Expr} {es : List Expr} {id : String} {r : List V → Hp → VK → Prop} {w : List D → Cs → Res D} {t : SA} (hc : CallR X (.type id) r) (ok : OkN X.K X.mg r w) (hm : X.mg x = none) (ha : FA X Z (e :: es) t) (hg : Gl X x := by rfl) (hv : bootBuiltins x = some (.type id) := by decide +kernel)
    (hn : x ≠ "__name__" := by decide) (hdb : (x == ("__debug__" : Str)) = false := by decide)
    (he : starEach (e :: es) X.env = (false, eval e X.env) :: starEach es X.env := by rfl) (hpl : (backTo pos (starEach es X.env)).any (·.1) = false := by rfl) : FE X Z (.Call (.Name x p) (e :: es) [] pos) (eN w t) :=
  PEimp (pe_callTy hc hg hm hv ha hn hdb he hpl) fun σ H Q ⟨W, sl, cs, S, L, q⟩ => by
    refine up_bind (R1 := Reps X.K) S L q fun W1 d cs1 x H1 st1 S1 L1 r1 q1 => ?_
    exact ok Z W1 cs1 H1 σ x d Q S1 r1 q1
end
end LF

set_option Elab.async false
set_option maxRecDepth 100000
namespace LF
open PySem L2
/-! ### statements -/
inductive Ctl where
  | nx | bk | ct | rt (d : D) | ex (x : Exc)
abbrev SS := Sl → Cs → Res (Ctl × Sl)
def Res.at {α : Type} (r : Res α) (sl : Sl) (k : α → Cs → Res (Ctl × Sl)) : Res (Ctl × Sl) := match r with
  | .ok a cs => k a cs
  | .exc x cs => .ok (.ex x, sl) cs
  | .bad => .bad
def Res.nxt (r : Res (Ctl × Sl)) (k : SS) : Res (Ctl × Sl) := match r with
  | .ok (.nx, sl) cs => k sl cs
  | r => r
abbrev SG := D → Sl → Option Sl
abbrev SGs := List D → Sl → Option Sl

section
variable (K : PySem.W.Frag) (mg : Str → Option Value)
def FinC (Z : WX) (D' : Ends) (W : Wd) (σ : L2.St) (H : Hp) : Ctl → Prop
  | .nx => D'.nx σ H
  | .bk => D'.bk σ H
  | .ct => D'.ct σ H
  | .rt d => ∀ v, Rep K W v d → D'.rt v H
  | .ex x => ∀ cls d, XRep K mg W H x cls d → Z cls d σ H
def FinS (Z : WX) (W : Wd) (H : Hp) (r : Res (Ctl × Sl)) (D' : Ends) : Prop := match r with
  | .ok (c, sl) cs => ∀ W' σ' H', Step W H W' H' → RS K mg W' cs H' → RSl K W' sl σ' → FinC K mg Z D' W' σ' H' c
  | .exc _ _ => False
  | .bad => False
def upS (Z : WX) (f : SS) : TS := fun D' σ H => ∃ W sl cs, RS K mg W cs H ∧ RSl K W sl σ ∧ FinS K mg Z W H (f sl cs) D'
/-- alike but for some slots -/
def But (ts : List Nat) (σ σ' : L2.St) : Prop := σ'.length = σ.length ∧ ∀ (j : Nat), j ∉ ts → σ'[j]? = σ[j]?
def upG (ts : List Nat) (g : SG) : TG := fun v σ H Q => ∃ W sl cs d, RS K mg W cs H ∧ RSl K W sl σ ∧ Rep K W v d ∧ match g d sl with
  | some sl' => ∀ σ', RSl K W sl' σ' → But ts σ σ' → Q σ' H
  | none => False
def upGs (ts : List Nat) (g : SGs) : TGs := fun vs σ H Q => ∃ W sl cs ds, RS K mg W cs H ∧ RSl K W sl σ ∧ Reps K W vs ds ∧ match g ds sl with
  | some sl' => ∀ σ', RSl K W sl' σ' → But ts σ σ' → Q σ' H
  | none => False
end
theorem But.trans {ts us : List Nat} {σ σ1 σ2 : L2.St} (a : But ts σ σ1) (b : But us σ1 σ2) : But (ts ++ us) σ σ2 :=
  ⟨b.1.trans a.1, fun j h => (b.2 j fun z => h (List.mem_append_right _ z)).trans (a.2 j fun z => h (List.mem_append_left _ z))⟩
def FS (X : Cx) (Z : WX) (s : Stmt) (f : SS) : Prop := PS X s (upS X.K X.mg Z f)
def FSs (X : Cx) (Z : WX) (s : List Stmt) (f : SS) : Prop := PSs X s (upS X.K X.mg Z f)
def FG (X : Cx) (t : Expr) (ts : List Nat) (g : SG) : Prop := PG X t (upG X.K X.mg ts g)
def FGs (X : Cx) (t : List Expr) (ts : List Nat) (g : SGs) : Prop := PGs X t (upGs X.K X.mg ts g)

def sNx : SS := fun sl cs => .ok (.nx, sl) cs
def sBk : SS := fun sl cs => .ok (.bk, sl) cs
def sCt : SS := fun sl cs => .ok (.ct, sl) cs
def sBad : SS := fun _ _ => .bad
def sSeq (f g : SS) : SS := fun sl cs => (f sl cs).nxt g
def sExpr (f : SE) : SS := fun sl cs => (f sl cs).at sl fun _ cs1 => .ok (.nx, sl) cs1
def sRet (f : SE) : SS := fun sl cs => (f sl cs).at sl fun d cs1 => .ok (.rt d, sl) cs1
def sRetN : SS := fun sl cs => .ok (.rt .non, sl) cs
def sIf (t : ST) (f g : SS) : SS := fun sl cs => (t sl cs).at sl fun b cs1 => if b = true then f sl cs1 else g sl cs1
def sSet (i : Nat) (f : SE) : SS := fun sl cs => (f sl cs).at sl fun d cs1 => .ok (.nx, sl.set i (some d)) cs1
def sAsg (g : SG) (f : SE) : SS := fun sl cs => (f sl cs).at sl fun d cs1 => match g d sl with
  | some sl' => .ok (.nx, sl') cs1
  | none => .bad
def gN (i : Nat) : SG := fun d sl => some (sl.set i (some d))
def gNil : SGs := fun ds sl => match ds with
  | [] => some sl
  | _ => none
def gCons (g : SG) (r : SGs) : SGs := fun ds sl => match ds with
  | d :: ds => (g d sl).bind fun sl1 => r ds sl1
  | [] => none
def gT (n : Nat) (g : SGs) : SG := fun d sl => match d with
  | .tup ds => if ds.length = n then g ds sl else none
  | .lst ds => if ds.length = n then g ds sl else none
  | _ => none

section
variable {K : PySem.W.Frag} {mg : Str → Option Value}
theorem FinS.step {Z : WX} {W W1 : Wd} {H H1 : Hp} {r : Res (Ctl × Sl)} {D' : Ends} (st : Step W H W1 H1) (h : FinS K mg Z W H r D') : FinS K mg Z W1 H1 r D' := by
  cases r with
  | ok p cs => obtain ⟨c, sl⟩ := p; exact fun W' σ' H' s R L => h W' σ' H' (st.trans s) R L
  | exc x cs => exact h
  | bad => exact h
theorem FinS.at {α β : Type} {R1 : Wd → β → α → Prop} {Z : WX} {W : Wd} {σ : L2.St} {H : Hp} {f : Res α} {sl : Sl} {k : α → Cs → Res (Ctl × Sl)} {D' : Ends} (L : RSl K W sl σ) (h : FinS K mg Z W H (f.at sl k) D') :
    Fin K mg R1 Z W σ H f (fun b H1 => ∃ W1 a cs1, Step W H W1 H1 ∧ RS K mg W1 cs1 H1 ∧ R1 W1 b a ∧ FinS K mg Z W1 H1 (k a cs1) D') := by
  cases f with
  | ok a cs => exact fun W' b H' s R r => ⟨W', a, cs, s, R, r, FinS.step s h⟩
  | exc x cs => exact fun W' H' cls d s R x' => h W' σ H' s R (L.mono s.le) cls d x'
  | bad => exact h
theorem up_at {α β : Type} {R1 : Wd → β → α → Prop} {Z : WX} {W : Wd} {sl : Sl} {cs : Cs} {σ : L2.St} {H : Hp} {f : Sl → Cs → Res α} {k : α → Cs → Res (Ctl × Sl)} {D' : Ends} (S : RS K mg W cs H) (L : RSl K W sl σ)
    (h : FinS K mg Z W H ((f sl cs).at sl k) D') {Q1 : β → Hp → Prop}
    (go : ∀ W1 a cs1 b H1, Step W H W1 H1 → RS K mg W1 cs1 H1 → RSl K W1 sl σ → R1 W1 b a → FinS K mg Z W1 H1 (k a cs1) D' → Q1 b H1) : up K mg R1 Z f σ H Q1 :=
  ⟨W, sl, cs, S, L, (FinS.at (R1 := R1) L h).mono fun b H1 ⟨W1, a, cs1, st, S1, r, h1⟩ => go W1 a cs1 b H1 st S1 (L.mono st.le) r h1⟩
theorem FinS.done {Z : WX} {W : Wd} {σ : L2.St} {H : Hp} {c : Ctl} {sl : Sl} {cs : Cs} {D' : Ends} (h : FinS K mg Z W H (.ok (c, sl) cs) D') (S : RS K mg W cs H) (L : RSl K W sl σ) : FinC K mg Z D' W σ H c := h W σ H (Step.refl W H) S L
theorem FinC.mono {Z : WX} {D' D'' : Ends} {W : Wd} {σ : L2.St} {H : Hp} {c : Ctl} (h : FinC K mg Z D' W σ H c) (h1 : c = .nx → D'.nx σ H → D''.nx σ H) (h2 : c = .bk → D'.bk σ H → D''.bk σ H) (h3 : c = .ct → D'.ct σ H → D''.ct σ H) (h4 : ∀ v, D'.rt v H → D''.rt v H) : FinC K mg Z D'' W σ H c := by
  cases c with
  | nx => exact h1 rfl h
  | bk => exact h2 rfl h
  | ct => exact h3 rfl h
  | rt d => exact fun v r => h4 v (h v r)
  | ex x => exact h
end

section
variable {X : Cx} {Z : WX} {pos : Pos} {e c : Expr} {st : Stmt} {rest a b : List Stmt} {f : SE} {u w : SS} {t : ST}
theorem fss_nil : FSs X Z [] sNx := PSsimp pss_nil fun D' σ H ⟨W, sl, cs, S, L, q⟩ => q.done S L
theorem fs_nx_of {D' : Ends} {σ : L2.St} {H : Hp} (h : upS X.K X.mg Z sNx D' σ H) : D'.nx σ H := by
  obtain ⟨W, sl, cs, S, L, q⟩ := h
  exact q.done S L
theorem fss_cons (h1 : FS X Z st u) (h2 : FSs X Z rest w) : FSs X Z (st :: rest) (sSeq u w) := PSsimp (pss_cons h1 h2) fun D' σ H ⟨W, sl, cs, S, L, q⟩ => by
  refine ⟨W, sl, cs, S, L, ?_⟩
  have q : FinS X.K X.mg Z W H ((u sl cs).nxt w) D' := q
  cases e : u sl cs with
  | ok p cs1 =>
    obtain ⟨c, sl1⟩ := p
    rw [e] at q
    intro W' σ' H' s R' L'
    cases c with
    | nx => exact ⟨W', sl1, cs1, R', L', FinS.step s q⟩
    | bk => exact q W' σ' H' s R' L'
    | ct => exact q W' σ' H' s R' L'
    | rt d => exact q W' σ' H' s R' L'
    | ex x => exact q W' σ' H' s R' L'
  | exc x cs1 => rw [e] at q; exact q
  | bad => rw [e] at q; exact q
theorem fss_one (h1 : FS X Z st u) : FSs X Z [st] u := pss_one h1
theorem fs_pass : FS X Z (.Pass pos) sNx := PSimp ps_pass fun D' σ H h => fs_nx_of h
theorem fs_break : FS X Z (.Break pos) sBk := PSimp ps_break fun D' σ H ⟨W, sl, cs, S, L, q⟩ => q.done S L
theorem fs_continue : FS X Z (.Continue pos) sCt := PSimp ps_continue fun D' σ H ⟨W, sl, cs, S, L, q⟩ => q.done S L
theorem fs_never : FS X Z st sBad := PSimp ps_never fun D' σ H ⟨W, sl, cs, S, L, q⟩ => q
theorem fss_never : FSs X Z rest sBad := PSsimp pss_never fun D' σ H ⟨W, sl, cs, S, L, q⟩ => q
theorem fs_expr (he : FE X Z e f) (hs : swapsWith e none pos.line X.env = pure false := by rfl) : FS X Z (.Expr e pos) (sExpr f) := PSimp (ps_expr he hs) fun D' σ H ⟨W, sl, cs, S, L, q⟩ =>
  up_at S L q fun W1 d cs1 x H1 st1 S1 L1 r1 q1 => q1.done S1 L1
theorem fs_ret (he : FE X Z e f) : FS X Z (.Return (some e) pos) (sRet f) := PSimp (ps_ret he) fun D' σ H ⟨W, sl, cs, S, L, q⟩ =>
  up_at S L q fun W1 d cs1 x H1 st1 S1 L1 r1 q1 => q1.done S1 L1 x r1
theorem fs_retN : FS X Z (.Return none pos) sRetN := PSimp ps_retN fun D' σ H ⟨W, sl, cs, S, L, q⟩ => q.done S L _ .non
theorem fs_if (hc : FT X Z c t) (ha : FSs X Z a u) (hb : FSs X Z b w) : FS X Z (.If c a b pos) (sIf t u w) := PSimp (ps_if hc ha hb) fun D' σ H ⟨W, sl, cs, S, L, q⟩ =>
  up_at (R1 := RB) S L q fun W1 d cs1 x H1 st1 S1 L1 r1 q1 => by
    cases r1
    cases d with
    | true => exact ⟨W1, sl, cs1, S1, L1, q1⟩
    | false => exact ⟨W1, sl, cs1, S1, L1, q1⟩
theorem fs_set {i : Nat} {x : Str} {pos' : Pos} (hN : X.N.Nodup) (he : FE X Z e f) (hi : X.N[i]? = some x := by rfl) (hx : Loc X.env.scope x := by first | exact Or.inl rfl | exact Or.inr rfl) (hs : swapsWith e (some (.Name x pos')) pos.line X.env = pure false := by rfl)
    (hf : X.fn x = true ∨ X.env.scope.names.lookup x = some .local := by first | exact .inl rfl | exact .inr rfl) : FS X Z (.Assign [.Name x pos'] e pos) (sSet i f) := PSimp (ps_set hN hi hx he hs hf) fun D' σ H ⟨W, sl, cs, S, L, q⟩ =>
  up_at S L q fun W1 d cs1 x H1 st1 S1 L1 r1 q1 => q1.done S1 (L1.set r1)
theorem fg_n {i : Nat} {x : Str} (hN : X.N.Nodup) (hi : X.N[i]? = some x := by rfl) (hx : Loc X.env.scope x := by first | exact Or.inl rfl | exact Or.inr rfl) (hf : X.fn x = true ∨ X.env.scope.names.lookup x = some .local := by first | exact .inl rfl | exact .inr rfl) :
    FG X (.Name x pos) [i] (gN i) :=
  ⟨fun pins s σ H v u Q I r ⟨W, sl, cs, d, S, L, rd, q⟩ => (pg_name hN hi hx hf).run pins s σ H v u Q I r (q _ (L.set rd) ⟨by rw [List.length_set], fun j hj => by rw [List.getElem?_set_ne fun z => hj (by rw [z]; exact List.mem_singleton.mpr rfl)]⟩)⟩
theorem fgs_nil : FGs X [] [] gNil := ⟨fun pins s σ H vs us Q I r ⟨W, sl, cs, ds, S, L, rd, q⟩ => by
  refine pgs_nil.run pins s σ H vs us Q I r ?_
  cases rd with
  | nil => exact ⟨rfl, q σ L ⟨rfl, fun _ _ => rfl⟩⟩
  | cons _ _ => exact q.elim⟩
theorem fgs_cons {es : List Expr} {ts ts2 : List Nat} {g : SG} {r : SGs} (h1 : FG X e ts g) (h2 : FGs X es ts2 r) (hs : (assignEach (e :: es) X.env).map (·.2) = assign e X.env :: (assignEach es X.env).map (·.2) := by rfl) : FGs X (e :: es) (ts ++ ts2) (gCons g r) :=
  ⟨fun pins s σ H vs us Q I rv ⟨W, sl, cs, ds, S, L, rd, q⟩ => by
    refine (pgs_cons h1 h2 hs).run pins s σ H vs us Q I rv ?_
    cases rd with
    | nil => exact q.elim
    | @cons v d vs' ds' rd1 rd2 =>
      have q : match (g d sl).bind (fun sl1 => r ds' sl1) with | some sl' => ∀ σ', RSl X.K W sl' σ' → But (ts ++ ts2) σ σ' → Q σ' H | none => False := q
      refine ⟨v, vs', rfl, W, sl, cs, d, S, L, rd1, ?_⟩
      cases e1 : g d sl with
      | none => rw [e1] at q; exact q
      | some sl1 =>
        rw [e1] at q
        refine fun σ' L' b1 => ⟨W, sl1, cs, ds', S, L', rd2, ?_⟩
        cases e2 : r ds' sl1 with
        | none => rw [Option.bind_some, e2] at q; exact q
        | some sl2 => rw [Option.bind_some, e2] at q; exact fun σ2 L2 b2 => q σ2 L2 (b1.trans b2)⟩
theorem fg_t {es : List Expr} {ts : List Nat} {k : Nat} {g : SGs} {n : Nat} (h : FGs X es ts g) (hc : X.calm = true := by rfl) (hn : (assignEach es X.env).length = n := by rfl) (hst : (assignEach es X.env).findIdx? (·.1) = none := by rfl) : FG X (.Tuple es k pos) ts (gT n g) :=
  ⟨fun pins s σ H v u Q I rv ⟨W, sl, cs, d, S, L, rd, q⟩ => by
    cases rd with
    | @lst a vs ds h1 hl r =>
      refine (pg_unl hc h hn hst).run pins s σ H _ u Q I rv ?_
      have q : match (if ds.length = n then g ds sl else none) with | some sl' => ∀ σ', RSl X.K W sl' σ' → But ts σ σ' → Q σ' H | none => False := q
      by_cases hq : ds.length = n
      · rw [if_pos hq] at q
        exact ⟨a, vs, rfl, .of (S.fzl h1), r.length.trans hq, W, sl, cs, ds, S, L, r, q⟩
      · rw [if_neg hq] at q; exact q.elim
    | @tup a vs ds h1 hl r =>
      refine (pg_tup hc h hn hst).run pins s σ H _ u Q I rv ?_
      have q : match (if ds.length = n then g ds sl else none) with | some sl' => ∀ σ', RSl X.K W sl' σ' → But ts σ σ' → Q σ' H | none => False := q
      by_cases hq : ds.length = n
      · rw [if_pos hq] at q
        exact ⟨a, vs, rfl, .of (S.fzt h1), r.length.trans hq, W, sl, cs, ds, S, L, r, q⟩
      · rw [if_neg hq] at q; exact q.elim
    | _ => exact q.elim⟩
theorem fs_asg {tg : Expr} {ts : List Nat} {g : SG} (he : FE X Z e f) (hg : FG X tg ts g) (hs : swapsWithSole [tg] e pos.line X.env = pure false := by rfl) (hw : swappedStores [tg] e X.env = pure none := by rfl)
    (h1 : (assignEach [tg] X.env).map (·.2) = [assign tg X.env] := by rfl) : FS X Z (.Assign [tg] e pos) (sAsg g f) := PSimp (ps_asg he hg hs hw h1) fun D' σ H ⟨W, sl, cs, S, L, q⟩ =>
  up_at S L q fun W1 d cs1 x H1 st1 S1 L1 r1 q1 => by
    refine ⟨W1, sl, cs1, d, S1, L1, r1, ?_⟩
    cases e1 : g d sl with
    | none => rw [e1] at q1; exact q1
    | some sl' => rw [e1] at q1; exact fun σ' L' _ => q1.done S1 L'
/-- x op= e, x a name -/
def sAug (i : Nat) (g : P2) (f : SE) : SS := fun sl cs => match sl[i]? with
  | some (some x) => (f sl cs).at sl fun y cs1 => (g x y cs1).at sl fun z cs2 => .ok (.nx, sl.set i (some z)) cs2
  | _ => .bad
theorem pip_of {op : Operator} {r : R2} (ho : OpR X (inplaceOp op) r) : PIp X op r := fun pins s σ H x y v u Q I rx ry q => ho pins s σ H x y v u Q I rx ry q
theorem fs_aug {i : Nat} {x : Str} {op : Operator} {r : R2} {g : P2} {pos' : Pos} (ho : OpR X (inplaceOp op) r) (ok : Ok2 X.K X.mg r g) (hN : X.N.Nodup) (he : FE X Z e f) (hi : X.N[i]? = some x := by rfl) (hx : Loc X.env.scope x := by first | exact Or.inl rfl | exact Or.inr rfl)
    (hf : X.fn x = true ∨ X.env.scope.names.lookup x = some .local := by first | exact .inl rfl | exact .inr rfl) : FS X Z (.AugAssign (.Name x pos') op e pos) (sAug i g f) := PSimp (ps_aug hN hi hx he (pip_of ho) hf) fun D' σ H ⟨W, sl, cs, S, L, q⟩ => by
  unfold sAug at q
  split at q
  · rename_i d e1
    obtain ⟨v, h1, h2⟩ := L.2 i d e1
    refine ⟨v, h1, up_at S L q fun W1 y cs1 vy H1 st1 S1 L1 r1 q1 => ?_⟩
    refine ok Z W1 cs1 H1 σ v vy d y _ S1 (h2.mono st1.le) r1 ?_
    exact (FinS.at (R1 := Rep X.K) L1 q1).mono fun b H2 ⟨W2, z, cs2, st2, S2, r2, q2⟩ => q2.done S2 ((L1.mono st2.le).set r2)
  · exact q.elim
end
end LF

set_option Elab.async false
set_option maxRecDepth 100000
namespace LF
open PySem L2
/-! ### loops -/
def Res.turn (r : Res (Ctl × Sl)) (k : SS) : Res (Ctl × Sl) := match r with
  | .ok (.nx, sl) cs => k sl cs
  | .ok (.ct, sl) cs => k sl cs
  | .ok (.bk, sl) cs => .ok (.nx, sl) cs
  | r => r
def whileR (t : ST) (b : SS) : Nat → SS
  | 0 => fun _ _ => .bad
  | n + 1 => fun sl cs => (t sl cs).at sl fun c cs1 => if c = true then (b sl cs1).turn (whileR t b n) else .ok (.nx, sl) cs1
def sWhile (n : Nat) (t : ST) (b : SS) : SS := whileR t b n

/-- what a loop walks: the items, and what must hold of the cells meanwhile -/
structure Its where
  ds : List D
  ok : Cs → Prop
abbrev SI := Sl → Cs → Res Its
open Classical in
noncomputable def forL (ok : Cs → Prop) (g : SG) (b : SS) : List D → SS
  | [] => fun sl cs => if ok cs then .ok (.nx, sl) cs else .bad
  | d :: r => fun sl cs => if ok cs then (match g d sl with
    | some sl1 => (b sl1 cs).turn (forL ok g b r)
    | none => .bad) else .bad
noncomputable def sFor (g : SG) (i : SI) (b : SS) : SS := fun sl cs => (i sl cs).at sl fun its cs1 => forL its.ok g b its.ds sl cs1
def Res.nox {α : Type} (r : Res α) : Res α := match r with
  | .exc _ _ => .bad
  | r => r
open Classical in
noncomputable def lcL (ok : Cs → Prop) (g : SG) (t : ST) (f : SE) (sl : Sl) : List D → Cs → Res (List D)
  | [] => fun cs => if ok cs then .ok [] cs else .bad
  | d :: r => fun cs => if ok cs then (match g d sl with
    | some sl1 => (t sl1 cs).nox.bind fun b cs1 => if b = true then (f sl1 cs1).nox.bind fun y cs2 => (lcL ok g t f sl r cs2).bind fun ys cs3 => .ok (y :: ys) cs3 else lcL ok g t f sl r cs1
    | none => .bad) else .bad
/-- a new list, frozen or a cell -/
def mkL (c : Bool) (ds : List D) (cs : Cs) : Res D := if c = true then .ok (.cel cs.length) (cs ++ [some (.lst ds)]) else .ok (.lst ds) cs
noncomputable def eLc (c : Bool) (own : List Nat) (g : SG) (i : SI) (t : ST) (f : SE) : SE := fun sl cs => (i sl cs).bind fun its cs1 => (lcL its.ok g t f (wipeS sl own) its.ds cs1).bind fun ys cs2 => mkL c ys cs2
def tYesS : ST := fun _ cs => .ok true cs

structure ItRep (K : PySem.W.Frag) (mg : Str → Option Value) (W : Wd) (H : Hp) (J : It) (its : Its) : Prop where
  len : its.ds.length ≤ sizeLine
  go : ∀ W1 cs1 H1 i, Step W H W1 H1 → RS K mg W1 cs1 H1 → its.ok cs1 → i < its.ds.length → J.go i H1 ∧ ∀ x H2, J.yld i H1 x H2 → ∃ W2 d, its.ds[i]? = some d ∧ Step W1 H1 W2 H2 ∧ RS K mg W2 cs1 H2 ∧ Rep K W2 x d
  stop : ∀ W1 cs1 H1, Step W H W1 H1 → RS K mg W1 cs1 H1 → its.ok cs1 → J.stop its.ds.length H1
def FinI (K : PySem.W.Frag) (mg : Str → Option Value) (Z : WX) (W : Wd) (σ : L2.St) (H : Hp) (r : Res Its) (R : It → Hp → Prop) : Prop := match r with
  | .ok its cs => ∀ W' H' J, Step W H W' H' → RS K mg W' cs H' → ItRep K mg W' H' J its → R J H'
  | .exc x cs => ∀ W' H' cls d, Step W H W' H' → RS K mg W' cs H' → XRep K mg W' H' x cls d → Z cls d σ H'
  | .bad => False
def upI (K : PySem.W.Frag) (mg : Str → Option Value) (Z : WX) (f : SI) : TI := fun σ H R => ∃ W sl cs, RS K mg W cs H ∧ RSl K W sl σ ∧ FinI K mg Z W σ H (f sl cs) R
def FI (X : Cx) (Z : WX) (tg e : Expr) (f : SI) : Prop := PI X tg e (upI X.K X.mg Z f)

section
variable {X : Cx} {Z : WX} {pos : Pos} {e c : Expr} {body : List Stmt} {f : SE} {u : SS} {t : ST}
theorem turn_of {K : PySem.W.Frag} {mg : Str → Option Value} {W : Wd} {H : Hp} {r : Res (Ctl × Sl)} {k : SS} {D' : Ends} {N : L2.St → Hp → Prop} (h : FinS K mg Z W H (r.turn k) D')
    (hN : ∀ W' sl cs σ' H', Step W H W' H' → RS K mg W' cs H' → RSl K W' sl σ' → FinS K mg Z W' H' (k sl cs) D' → N σ' H') : FinS K mg Z W H r { D' with nx := N, ct := N, bk := D'.nx } := by
  cases r with
  | ok p cs =>
    obtain ⟨c, sl⟩ := p
    intro W' σ' H' s R' L'
    cases c with
    | nx => exact hN W' sl cs σ' H' s R' L' (FinS.step s h)
    | ct => exact hN W' sl cs σ' H' s R' L' (FinS.step s h)
    | bk => exact h W' σ' H' s R' L'
    | rt d => exact h W' σ' H' s R' L'
    | ex x => exact h W' σ' H' s R' L'
  | exc x cs => exact h
  | bad => exact h
theorem fs_while {n : Nat} (hp : PassesOwn (model X.prog X.w) X.A X.env X.xe) (hc : FT X Z c t) (hb : FSs X Z body u) : FS X Z (.While c body [] pos) (sWhile n t u) := PSimp (ps_while hp hc hb) fun D' σ H ⟨W, sl, cs, S, L, q⟩ => by
  refine ⟨fun m σ H => ∃ W sl cs, RS X.K X.mg W cs H ∧ RSl X.K W sl σ ∧ FinS X.K X.mg Z W H (whileR t u m sl cs) D', ⟨n, W, sl, cs, S, L, q⟩, ?_⟩
  rintro m σ H ⟨W, sl, cs, S, L, q⟩
  cases m with
  | zero => exact q.elim
  | succ m =>
    refine up_at (R1 := RB) S L q fun W1 d cs1 x H1 st1 S1 L1 r1 q1 => ?_
    cases r1
    cases d with
    | false => exact q1.done S1 L1
    | true =>
      refine ⟨fun σ' H' => ∃ W sl cs, RS X.K X.mg W cs H' ∧ RSl X.K W sl σ' ∧ FinS X.K X.mg Z W H' (whileR t u m sl cs) D', fun σ' H' h => ⟨m, Nat.lt_succ_self m, h⟩, ?_⟩
      exact ⟨W1, sl, cs1, S1, L1, turn_of q1 fun W' sl cs σ' H' s R' L' q' => ⟨W', sl, cs, R', L', q'⟩⟩
theorem finI_at {K : PySem.W.Frag} {mg : Str → Option Value} {W : Wd} {σ : L2.St} {H : Hp} {r : Res Its} {sl : Sl} {k : Its → Cs → Res (Ctl × Sl)} {D' : Ends} {R : It → Hp → Prop} (L : RSl K W sl σ) (h : FinS K mg Z W H (r.at sl k) D')
    (go : ∀ its cs W1 H1 J, Step W H W1 H1 → RS K mg W1 cs H1 → RSl K W1 sl σ → ItRep K mg W1 H1 J its → FinS K mg Z W1 H1 (k its cs) D' → R J H1) : FinI K mg Z W σ H r R := by
  cases r with
  | ok its cs => exact fun W' H' J s R' I => go its cs W' H' J s R' (L.mono s.le) I (FinS.step s h)
  | exc x cs => exact fun W' H' cls d s R x' => h W' σ H' s R (L.mono s.le) cls d x'
  | bad => exact h
theorem finI_bind {β γ : Type} {R2 : Wd → β → γ → Prop} {K : PySem.W.Frag} {mg : Str → Option Value} {W : Wd} {σ : L2.St} {H : Hp} {r : Res Its} {sl : Sl} {k : Its → Cs → Res γ} {Q : β → Hp → Prop} {R : It → Hp → Prop} (L : RSl K W sl σ) (h : Fin K mg R2 Z W σ H (r.bind k) Q)
    (go : ∀ its cs W1 H1 J, Step W H W1 H1 → RS K mg W1 cs H1 → RSl K W1 sl σ → ItRep K mg W1 H1 J its → Fin K mg R2 Z W1 σ H1 (k its cs) Q → R J H1) : FinI K mg Z W σ H r R := by
  cases r with
  | ok its cs => exact fun W' H' J s R' I => go its cs W' H' J s R' (L.mono s.le) I (Fin.step s h)
  | exc x cs => exact h
  | bad => exact h
theorem fs_for {tg : Expr} {ts : List Nat} {g : SG} {i : SI} (hp : PassesOwn (model X.prog X.w) X.A X.env X.xe) (hi : FI X Z tg e i) (hg : FG X tg ts g) (hb : FSs X Z body u) (hc : X.calm = true := by rfl)
    (hs : ∀ x, foldedSetIterable e X.env x = pure x := by intro _; rfl) : FS X Z (.For tg e body [] pos) (sFor g i u) := PSimp (ps_for hp hc hi hg hb hs) fun D' σ H ⟨W, sl, cs, S, L, q⟩ => by
  refine ⟨W, sl, cs, S, L, finI_at L q fun its cs1 W1 H1 J s1 S1 L1 IR q1 => ?_⟩
  refine ⟨fun i m σ H => m = its.ds.length - i ∧ i ≤ its.ds.length ∧ ∃ W sl cs, Step W1 H1 W H ∧ RS X.K X.mg W cs H ∧ RSl X.K W sl σ ∧ FinS X.K X.mg Z W H (forL its.ok g u (its.ds.drop i) sl cs) D',
    ⟨its.ds.length, rfl, Nat.zero_le _, W1, sl, cs1, Step.refl _ _, S1, L1, q1⟩, ?_⟩
  rintro i m σ H ⟨rfl, hle, W2, sl2, cs2, s2, S2, L2, q2⟩
  by_cases hi : i < its.ds.length
  · rw [List.drop_eq_getElem_cons hi] at q2
    unfold forL at q2
    by_cases hok : its.ok cs2
    · rw [if_pos hok] at q2
      obtain ⟨g1, g2⟩ := IR.go W2 cs2 H i s2 S2 hok hi
      refine .inr ⟨g1, fun σ' H' => ∃ W sl cs, Step W1 H1 W H' ∧ RS X.K X.mg W cs H' ∧ RSl X.K W sl σ' ∧ FinS X.K X.mg Z W H' (forL its.ok g u (its.ds.drop (i + 1)) sl cs) D', fun σ' H' h => ⟨its.ds.length - (i + 1), by omega, rfl, hi, h⟩, fun x H' hy => ?_⟩
      obtain ⟨W3, d, e3, s3, S3, r3⟩ := g2 x H' hy
      rw [List.getElem?_eq_getElem hi] at e3
      cases e3
      refine ⟨W3, sl2, cs2, its.ds[i], S3, L2.mono s3.le, r3, ?_⟩
      cases e4 : g its.ds[i] sl2 with
      | none => rw [e4] at q2; exact q2
      | some sl3 =>
        rw [e4] at q2
        intro σ' L3 _
        exact ⟨W3, sl3, cs2, S3, L3, turn_of (FinS.step s3 q2) fun W' sl cs σ' H' s R' L' q' => ⟨W', sl, cs, (s2.trans s3).trans s, R', L', q'⟩⟩
    · rw [if_neg hok] at q2; exact q2.elim
  · have hi' : i = its.ds.length := by omega
    subst hi'
    rw [List.drop_length] at q2
    unfold forL at q2
    by_cases hok : its.ok cs2
    · rw [if_pos hok] at q2
      exact .inl ⟨IR.stop W2 cs2 H s2 S2 hok, q2.done S2 L2⟩
    · rw [if_neg hok] at q2; exact q2.elim
end
def FTs (X : Cx) (Z : WX) (es : List Expr) (f : ST) : Prop := PTs X es (up X.K X.mg RB Z f)
def ZF : WX := fun _ _ _ _ => False
section
variable {X : Cx} {Z : WX} {pos : Pos}
theorem fts_nil : FTs X Z [] tYesS := ⟨fun pins s σ H Q I ⟨W, sl, cs, S, L, q⟩ => pts_nil.run pins s σ H Q I (q.ret (b := true) S rfl)⟩
theorem fts_one {c : Expr} {t : ST} (h : FT X Z c t) : FTs X Z [c] t := pts_one h
theorem fin_mkL {K : PySem.W.Frag} {mg : Str → Option Value} {Z : WX} {W : Wd} {cs : Cs} {σ : L2.St} {H : Hp} {c : Bool} {ds : List D} {vs : List V} {Q : VK} (h : Fin K mg (Rep K) Z W σ H (mkL c ds cs) Q) (S : RS K mg W cs H) (r : Reps K W vs ds) (hl : vs.length ≤ sizeLine) (p : Addr) (hp : H p = none) :
    Q (.ref p) (upd H p (.lst vs)) := by
  unfold mkL at h
  cases c with
  | true =>
    rw [if_pos rfl] at h
    refine h (W.alloc p) (.ref p) _ (Step.alloc hp) (S.alloc hp (.lst hl (r.mono Le.alloc))) (.cel ?_)
    show (W.ad ++ [p])[cs.length]? = some p
    rw [← S.len, List.getElem?_append_right (Nat.le_refl _), Nat.sub_self]; rfl
  | false =>
    rw [if_neg (Bool.false_ne_true)] at h
    exact h (W.froze p (.lst vs)) (.ref p) _ (Step.froze S hp) (S.froze hp) (.lst upd_same hl (r.mono (Le.froze (S.dom hp))))
/-- the list under construction: what lies at it is told beside -/
theorem RS.aside {K : PySem.W.Frag} {mg : Str → Option Value} {W : Wd} {cs : Cs} {H : Hp} {a : Addr} {u : HO} (S : RS K mg W cs H) (h1 : W.fz a = none) (h2 : a ∉ W.ad) : RS K mg W cs (upd H a u) where
  fz := fun b o e => by
    have hb : b ≠ a := ne_of_none e h1
    have q := S.fz b o e
    cases o
    case dK kvs =>
      rcases q with q | ⟨z, q⟩
      · exact .inl ((upd_ne hb).trans q)
      · exact .inr ⟨z, (upd_ne hb).trans q⟩
    all_goals exact (upd_ne hb).trans q
  len := S.len
  cell := fun i c e => by
    obtain ⟨b, o, p1, p2, p3, p4⟩ := S.cell i c e
    exact ⟨b, o, p1, (upd_ne fun z => h2 (by subst z; exact List.mem_of_getElem? p1)).trans p2, p3, p4⟩
  apart := S.apart
  there := fun i b e => by
    by_cases hb : b = a
    · subst hb; rw [upd_same]; simp
    · rw [upd_ne hb]; exact S.there i b e
/-- the heap without one thing -/
def dl (H : Hp) (a : Addr) : Hp := fun b => if b = a then none else H b
theorem dl_same {H : Hp} {a : Addr} : dl H a a = none := by unfold dl; rw [if_pos rfl]
theorem dl_ne {H : Hp} {a b : Addr} (h : b ≠ a) : dl H a b = H b := by unfold dl; rw [if_neg h]
theorem dl_some {H : Hp} {a b : Addr} {o : HO} (h : dl H a b = some o) : b ≠ a ∧ H b = some o := by
  by_cases hb : b = a
  · subst hb; rw [dl_same] at h; cases h
  · exact ⟨hb, by rw [dl_ne hb] at h; exact h⟩
theorem dl_upd {H : Hp} {a : Addr} {o : HO} : dl (upd H a o) a = dl H a := by
  funext b
  by_cases hb : b = a
  · subst hb; rw [dl_same, dl_same]
  · rw [dl_ne hb, dl_ne hb, upd_ne hb]
theorem upd_dl {H : Hp} {a : Addr} {o : HO} (h : H a = some o) : upd (dl H a) a o = H := by
  funext b
  by_cases hb : b = a
  · subst hb; rw [upd_same, h]
  · rw [upd_ne hb, dl_ne hb]
theorem dl_id {H : Hp} {a : Addr} (h : H a = none) : dl H a = H := by
  funext b
  by_cases hb : b = a
  · subst hb; rw [dl_same, h]
  · rw [dl_ne hb]
theorem Step.dl {W W' : Wd} {H H' : Hp} (s : Step W H W' H') (a : Addr) : Step W (dl H a) W' (LF.dl H' a) :=
  ⟨s.le, fun b o e n => by
    obtain ⟨hb, e⟩ := dl_some e
    have x := s.fr b o e n
    exact ⟨(dl_ne hb).trans x.1, x.2.1, x.2.2⟩, fun b o u e z => by
    obtain ⟨hb, e⟩ := dl_some e
    exact (dl_ne hb).trans (s.fx b o u e z)⟩
theorem RS.dl {K : PySem.W.Frag} {mg : Str → Option Value} {W : Wd} {cs : Cs} {H : Hp} {a : Addr} (S : RS K mg W cs H) (h1 : W.fz a = none) (h2 : a ∉ W.ad) : RS K mg W cs (dl H a) where
  fz := fun b o e => by
    have hb : b ≠ a := ne_of_none e h1
    have q := S.fz b o e
    cases o
    case dK kvs =>
      rcases q with q | ⟨z, q⟩
      · exact .inl ((dl_ne hb).trans q)
      · exact .inr ⟨z, (dl_ne hb).trans q⟩
    all_goals exact (dl_ne hb).trans q
  len := S.len
  cell := fun i c e => by
    obtain ⟨b, o, p1, p2, p3, p4⟩ := S.cell i c e
    exact ⟨b, o, p1, (dl_ne fun z => h2 (by subst z; exact List.mem_of_getElem? p1)).trans p2, p3, p4⟩
  apart := S.apart
  there := fun i b e => by
    rw [dl_ne fun z => h2 (by subst z; exact List.mem_of_getElem? e)]; exact S.there i b e
theorem fin_nox {α β γ δ : Type} {R1 : Wd → β → α → Prop} {R2 : Wd → δ → γ → Prop} {K : PySem.W.Frag} {mg : Str → Option Value} {Z : WX} {W : Wd} {σ σ' : L2.St} {H : Hp} {Hv : Hp} {f : Res α} {k : α → Cs → Res γ} {Q : δ → Hp → Prop} (h : Fin K mg R2 Z W σ Hv (f.nox.bind k) Q) {Q1 : β → Hp → Prop}
    (go : ∀ W1 a cs1 b H1, Step W H W1 H1 → RS K mg W1 cs1 H1 → R1 W1 b a → Fin K mg R2 Z W σ Hv (k a cs1) Q → Q1 b H1) : Fin K mg R1 ZF W σ' H f Q1 := by
  cases f with
  | ok a cs => exact fun W' b H' s R r => go W' a cs b H' s R r h
  | exc x cs => exact h.elim
  | bad => exact h
theorem wipe_out' (us : List Nat) (τ : L2.St) (j : Nat) : (wipe τ us)[j]? = if j ∈ us then (if j < τ.length then some none else none) else τ[j]? := by
  induction us with
  | nil => simp [wipe]
  | cons v us ih =>
    unfold wipe
    by_cases hj : v = j
    · subst hj
      rw [if_pos List.mem_cons_self]
      by_cases hl : v < τ.length
      · rw [if_pos hl, List.getElem?_set_self (by rw [wipe_length]; exact hl)]
      · rw [if_neg hl, List.getElem?_eq_none (by rw [List.length_set, wipe_length]; omega)]
    · rw [List.getElem?_set_ne hj, ih]
      by_cases hu : j ∈ us
      · rw [if_pos hu, if_pos (List.mem_cons_of_mem _ hu)]
      · rw [if_neg hu, if_neg (fun z => by rcases List.mem_cons.mp z with z | z; exact hj z.symm; exact hu z)]
theorem wipe_wipe (σ : L2.St) (vs : List Nat) : wipe (wipe σ vs) vs = wipe σ vs := by
  refine List.ext_getElem? (fun j => ?_)
  rw [wipe_out', wipe_out', wipe_length]
  by_cases hj : j ∈ vs
  · rw [if_pos hj, if_pos hj]
  · rw [if_neg hj]
theorem wipe_ext {σ σ' : L2.St} {vs : List Nat} (h : But vs σ σ') : wipe σ' vs = wipe σ vs := by
  refine List.ext_getElem? (fun j => ?_)
  rw [wipe_out', wipe_out', h.1]
  by_cases hj : j ∈ vs
  · rw [if_pos hj, if_pos hj]
  · rw [if_neg hj, if_neg hj]; exact h.2 j hj
theorem Res.bind_ok {α β : Type} (a : α) (cs : Cs) (k : α → Cs → Res β) : (Res.ok a cs).bind k = k a cs := rfl
theorem Res.bind_assoc {α β γ : Type} (r : Res α) (k : α → Cs → Res β) (k2 : β → Cs → Res γ) : (r.bind k).bind k2 = r.bind fun a cs => (k a cs).bind k2 := by
  cases r <;> rfl
theorem lc_upT {K : PySem.W.Frag} {mg : Str → Option Value} {Z : WX} {ts ow : List Nat} {g : SG} {t : ST} {f : SE} {c : Bool} {σ : L2.St} {H : Hp} {Q : VK} {ti : TI} (hts : ow = ts) (W : Wd) (sl : Sl)
    (q : ∀ R, (∀ its cs1 W1 H1 J, Step W H W1 H1 → RS K mg W1 cs1 H1 → RSl K W1 sl σ → ItRep K mg W1 H1 J its → Fin K mg (Rep K) Z W1 σ H1 ((lcL its.ok g t f (wipeS sl ow) its.ds cs1).bind fun ys cs2 => mkL c ys cs2) Q → R J H1) → ti σ H R) : tLc ti (upG K mg ts g) (up K mg RB ZF t) (up K mg (Rep K) ZF f) ow σ H Q := by
  subst hts
  refine q _ fun its cs1 W1 H1 J s1 S1 L1 IR q1 => ?_
  intro D hD
  have key : ∀ {W2 : Wd} {H2 : Hp}, Step W1 H1 W2 (dl H2 D) → Step W1 H1 W2 H2 := fun s => ⟨s.le, fun b o e n => by
    obtain ⟨h1, h2, h3⟩ := s.fr b o e n
    exact ⟨(dl_some h1).2, h2, h3⟩, fun b o u e z => (dl_some (s.fx b o u e z)).2⟩
  refine ⟨fun n m H => m = its.ds.length - n ∧ n ≤ its.ds.length ∧ ∃ W2 cs2 acc vs, Step W1 H1 W2 (dl H D) ∧ RS K mg W2 cs2 H ∧ H D = some (.lst vs) ∧ Reps K W2 vs acc ∧ vs.length ≤ n ∧ W2.fz D = none ∧ D ∉ W2.ad ∧
      Fin K mg (Rep K) Z W2 σ (dl H D) ((lcL its.ok g t f (wipeS sl ow) (its.ds.drop n) cs2).bind fun ys cs3 => mkL c (acc ++ ys) cs3) Q,
    ⟨its.ds.length, rfl, Nat.zero_le _, W1, cs1, [], [], ?_, S1.aside (S1.dom hD) (S1.noad hD), upd_same, .nil, Nat.le_refl _, S1.dom hD, S1.noad hD, ?_⟩, ?_⟩
  · rw [dl_upd, dl_id hD]; exact Step.refl _ _
  · rw [dl_upd, dl_id hD]; exact q1
  rintro n m H ⟨rfl, hle, W2, cs2, acc, vs, s2, S2, hDv, rv, hvn, f1, f2, q2⟩
  by_cases hi : n < its.ds.length
  · rw [List.drop_eq_getElem_cons hi] at q2
    unfold lcL at q2
    by_cases hok : its.ok cs2
    · rw [if_pos hok] at q2
      obtain ⟨g1, g2⟩ := IR.go W2 cs2 H n (key s2) S2 hok hi
      refine .inr ⟨g1, fun H' => ∃ W2 cs2 acc vs, Step W1 H1 W2 (dl H' D) ∧ RS K mg W2 cs2 H' ∧ H' D = some (.lst vs) ∧ Reps K W2 vs acc ∧ vs.length ≤ n + 1 ∧ W2.fz D = none ∧ D ∉ W2.ad ∧
        Fin K mg (Rep K) Z W2 σ (dl H' D) ((lcL its.ok g t f (wipeS sl ow) (its.ds.drop (n + 1)) cs2).bind fun ys cs3 => mkL c (acc ++ ys) cs3) Q, fun H' h => ⟨its.ds.length - (n + 1), by omega, rfl, hi, h⟩, fun x H' hy => ?_⟩
      obtain ⟨W3, d, e3, s3, S3, r3⟩ := g2 x H' hy
      rw [List.getElem?_eq_getElem hi] at e3
      cases e3
      have fr3 := s3.fr D _ hDv f2
      refine ⟨W3, wipeS sl ow, cs2, its.ds[n], S3, ((L1.mono s2.le).mono s3.le).wipe ow, r3, ?_⟩
      cases e4 : g its.ds[n] (wipeS sl ow) with
      | none => rw [e4] at q2; exact q2
      | some sl3 =>
        rw [e4] at q2
        intro σ2 L3 b3
        refine ⟨(wipe_ext b3).trans (wipe_wipe σ ow), ?_⟩
        rw [Res.bind_assoc] at q2
        refine ⟨W3, sl3, cs2, S3, L3, fin_nox (H := H') (Fin.step (s3.dl D) q2) fun W4 b cs4 b' H4 s4 S4 rb q4 => ?_⟩
        cases rb
        have fr4 := s4.fr D _ fr3.1 fr3.2.1
        have q4 := Fin.step (s4.dl D) q4
        cases b with
        | false =>
          rw [if_neg (Bool.false_ne_true)] at q4
          rw [if_neg (Bool.false_ne_true)]
          exact ⟨W4, cs4, acc, vs, s2.trans ((s3.dl D).trans (s4.dl D)), S4, fr4.1, (rv.mono s3.le).mono s4.le, Nat.le_succ_of_le hvn, fr4.2.2 (fr3.2.2 f1), fr4.2.1, q4⟩
        | true =>
          rw [if_pos rfl, Res.bind_assoc] at q4
          rw [if_pos rfl]
          refine ⟨W4, sl3, cs4, S4, L3.mono s4.le, fin_nox (H := H4) q4 fun W5 y cs5 y' H5 s5 S5 ry q5 => ?_⟩
          have fr5 := s5.fr D _ fr4.1 fr4.2.1
          have q5 := Fin.step (s5.dl D) q5
          refine ⟨vs, fr5.1, Nat.lt_of_lt_of_le (Nat.lt_of_le_of_lt hvn hi) IR.len, ?_⟩
          have n1 := fr5.2.2 (fr4.2.2 (fr3.2.2 f1))
          refine ⟨W5, cs5, acc ++ [y], vs ++ [y'], ?_, S5.aside n1 fr5.2.1, upd_same, (((rv.mono s3.le).mono s4.le).mono s5.le).append (.cons ry .nil), by rw [List.length_append]; exact Nat.succ_le_succ hvn, n1, fr5.2.1, ?_⟩
          · rw [dl_upd]; exact s2.trans ((s3.dl D).trans ((s4.dl D).trans (s5.dl D)))
          · rw [dl_upd]
            rw [Res.bind_assoc] at q5
            simp only [Res.bind_ok] at q5
            simp only [List.append_assoc, List.singleton_append]
            exact q5
    · rw [if_neg hok] at q2; exact q2.elim
  · have hi' : n = its.ds.length := by omega
    subst hi'
    rw [List.drop_length] at q2
    unfold lcL at q2
    by_cases hok : its.ok cs2
    · rw [if_pos hok, Res.bind_ok, List.append_nil] at q2
      refine .inl ⟨IR.stop W2 cs2 H (key s2) S2 hok, ?_⟩
      have z := fin_mkL q2 (S2.dl f1 f2) rv (Nat.le_trans hvn IR.len) D dl_same
      rw [upd_dl hDv] at z
      exact z
    · rw [if_neg hok] at q2; exact q2.elim
theorem lc_up {K : PySem.W.Frag} {mg : Str → Option Value} {Z : WX} {ts ow : List Nat} {g : SG} {i : SI} {t : ST} {f : SE} {c : Bool} {σ : L2.St} {H : Hp} {Q : VK} (hts : ow = ts) (W : Wd) (sl : Sl) (cs : Cs) (S : RS K mg W cs H) (L : RSl K W sl σ)
    (q : Fin K mg (Rep K) Z W σ H (eLc c ts g i t f sl cs) Q) : tLc (upI K mg Z i) (upG K mg ts g) (up K mg RB ZF t) (up K mg (Rep K) ZF f) ow σ H Q := by
  subst hts
  exact lc_upT rfl W sl fun R go => ⟨W, sl, cs, S, L, finI_bind L q go⟩
theorem fe_lc {elt tg iter : Expr} {ifs : List Expr} {scope : Scope} {own : List (Str × Nat)} {ts : List Nat} {g : SG} {i : SI} {t : ST} {f : SE} (c : Bool) (hN : X.N.Nodup) (hi : FI X Z tg iter i) (ok : BlkOk X.N X.env.scope scope own)
    (hg : ∀ (s : Shared) (H : Hp) (C : Addr) (cl : List (Str × Addr)) (fp : List Addr), FG (X.blk s H scope (compEnvC scope cl C X.env) fp) tg ts g) (ht : ∀ (s : Shared) (H : Hp) (C : Addr) (cl : List (Str × Addr)) (fp : List Addr), FTs (X.blk s H scope (compEnvC scope cl C X.env) fp) ZF ifs t)
    (he : ∀ (s : Shared) (H : Hp) (C : Addr) (cl : List (Str × Addr)) (fp : List Addr), FE (X.blk s H scope (compEnvC scope cl C X.env) fp) ZF elt f) (hts : own.map (·.2) = ts := by rfl) (hc : X.calm = true := by rfl) (hs : ∀ x, foldedSetIterable iter X.env x = pure x := by intro _; rfl) :
    FE X Z (.ListComp elt [⟨tg, iter, ifs, 0⟩] scope pos) (eLc c ts g i t f) := PEimp (pe_lc (g := upG X.K X.mg ts g) (tt := up X.K X.mg RB ZF t) (te := up X.K X.mg (Rep X.K) ZF f) hc hN hi ok hg ht he hs) fun σ H Q ⟨W, sl, cs, S, L, q⟩ =>
  lc_up hts W sl cs S L q
theorem fs_setLc {y : Str} {py spos : Pos} {elt tg iter : Expr} {ifs : List Expr} {scope : Scope} {own : List (Str × Nat)} {ts : List Nat} {g : SG} {i : SI} {t : ST} {f : SE} (j : Nat) (c : Bool) (hN : X.N.Nodup) (hi : FI X Z tg iter i) (ok : BlkOk X.N X.env.scope scope own)
    (hg : ∀ (s : Shared) (H : Hp) (C : Addr) (cl : List (Str × Addr)) (fp : List Addr), FG (X.blk s H scope (compEnvC scope cl C X.env) fp) tg ts g) (ht : ∀ (s : Shared) (H : Hp) (C : Addr) (cl : List (Str × Addr)) (fp : List Addr), FTs (X.blk s H scope (compEnvC scope cl C X.env) fp) ZF ifs t)
    (he : ∀ (s : Shared) (H : Hp) (C : Addr) (cl : List (Str × Addr)) (fp : List Addr), FE (X.blk s H scope (compEnvC scope cl C X.env) fp) ZF elt f)
    (hsw : swapsWith (.ListComp elt [⟨tg, iter, ifs, 0⟩] scope pos) (some (.Name y py)) spos.line X.env = pure true) (hy : X.N[j]? = some y := by rfl) (hyl : X.env.scope.names.lookup y = some .local := by rfl) (hts : own.map (·.2) = ts := by rfl) (hc : X.calm = true := by rfl) (hs : ∀ x, foldedSetIterable iter X.env x = pure x := by intro _; rfl) :
    FS X Z (.Assign [.Name y py] (.ListComp elt [⟨tg, iter, ifs, 0⟩] scope pos) spos) (sSet j (eLc c ts g i t f)) := PSimp (ps_setLc (g := upG X.K X.mg ts g) (tt := up X.K X.mg RB ZF t) (te := up X.K X.mg (Rep X.K) ZF f) hc hN hy hyl hsw hi ok hg ht he hs) fun D' σ H ⟨W, sl, cs, S, L, q⟩ =>
  lc_up hts W sl cs S L ((FinS.at (R1 := Rep X.K) L q).mono fun v H1 ⟨W1, a, cs1, st, S1, r, q1⟩ => q1.done S1 ((L.mono st.le).set r))
end
end LF

set_option Elab.async false
set_option maxRecDepth 100000
namespace LF
open PySem L2
/-! ### what is walked -/
theorem fin_up1 {K : PySem.W.Frag} {mg : Str → Option Value} {α β : Type} {R1 : Wd → β → α → Prop} {Z : WX} {W : Wd} {sl : Sl} {cs : Cs} {σ : L2.St} {H : Hp} {f : Sl → Cs → Res α} {k : α → Cs → Res Its} {R : It → Hp → Prop} (S : RS K mg W cs H) (L : RSl K W sl σ)
    (h : FinI K mg Z W σ H ((f sl cs).bind k) R) {Q1 : β → Hp → Prop}
    (go : ∀ W1 a cs1 b H1, Step W H W1 H1 → RS K mg W1 cs1 H1 → RSl K W1 sl σ → R1 W1 b a → FinI K mg Z W1 σ H1 (k a cs1) R → Q1 b H1) : up K mg R1 Z f σ H Q1 := by
  refine ⟨W, sl, cs, S, L, ?_⟩
  cases e : f sl cs with
  | ok a cs1 =>
    rw [e] at h
    intro W1 b H1 st S1 r
    refine go W1 a cs1 b H1 st S1 (L.mono st.le) r ?_
    have h : FinI K mg Z W σ H (k a cs1) R := h
    cases e2 : k a cs1 with
    | ok its cs2 => rw [e2] at h; exact fun W' H' J s R' I => h W' H' J (st.trans s) R' I
    | exc x cs2 => rw [e2] at h; exact fun W' H' c d s R' I => h W' H' c d (st.trans s) R' I
    | bad => rw [e2] at h; exact h
  | exc x cs1 => rw [e] at h; exact h
  | bad => rw [e] at h; exact h
theorem FinI.done {K : PySem.W.Frag} {mg : Str → Option Value} {Z : WX} {W : Wd} {σ : L2.St} {H : Hp} {its : Its} {cs : Cs} {R : It → Hp → Prop} {J : It} (h : FinI K mg Z W σ H (.ok its cs) R) (S : RS K mg W cs H) (I : ItRep K mg W H J its) : R J H := h W H J (Step.refl W H) S I

def signs (s : Str) : List D := s.cps.toList.map fun c => D.str ⟨#[c]⟩
def seqOf (cs : Cs) : D → Res Its
  | .lst ds => .ok ⟨ds, fun _ => True⟩ cs
  | .tup ds => .ok ⟨ds, fun _ => True⟩ cs
  | .scr ns => .ok ⟨ns.map D.int, fun _ => True⟩ cs
  | .str s => if s.length ≤ sizeLine then .ok ⟨signs s, fun _ => True⟩ cs else .bad
  | .cel i => match cs[i]? with
    | some (some (.lst ds)) => .ok ⟨ds, fun cs' => cs'[i]? = some (some (.lst ds))⟩ cs
    | _ => .bad
  | _ => .bad
def iSeq (f : SE) : SI := fun sl cs => (f sl cs).bind fun d cs1 => seqOf cs1 d
def iAny (K : PySem.W.Frag) (tl : TE) : TI := fun σ H R => tl σ H fun x H1 => (∃ a xs, x = .ref a ∧ SqL K H1 a xs ∧ R (Itl K a) H1) ∨ (∃ a xs, x = .ref a ∧ SqT K H1 a xs ∧ R (Itt K a) H1) ∨ (∃ z, x = .str z ∧ R (L2.Its z) H1)
theorem pi_any {X : Cx} {tg l : Expr} {tl : TE} (hl : PE X l tl) : PI X tg l (iAny X.K tl) := by
  refine ⟨fun pn s sg H Rk Jn h => ?_⟩
  refine thn (hl.run pn s sg H _ Jn h) fun v sa ⟨x, Ha, Ja, ra, qa⟩ => ?_
  rcases qa with ⟨a, xs, e, lq, q⟩ | ⟨a, xs, e, lq, q⟩ | ⟨zq, e, q⟩
  · subst e
    cases ra
    obtain ⟨zs, rz, p, hz⟩ := Ja.list lq
    refine wpAny_pyIter_list (p.isList) ?_
    refine ⟨sa.heap.objs.size, [sa.heap.objs.size], _, _, Ha, rfl, Ja.kept (t' := sa.toks) fun b o e => Heap.get?_push_of_some _ e, turn_list a _, ⟨_, Heap.get?_push_size _ rfl, rfl, rfl⟩, fun b mb => ?_, q⟩
    have e : b = sa.heap.objs.size := by simpa using mb
    subst e
    exact Ja.fpOk (Nat.le_refl _) (Ja.hok.fresh (Nat.le_refl _))
  · subst e
    cases ra
    obtain ⟨zs, rz, p, hz⟩ := Ja.tuple lq
    refine wpAny_pyIter_tuple (show sa.heap.IsTuple a zs.toArray from p) ?_
    refine ⟨sa.heap.objs.size, [sa.heap.objs.size], _, _, Ha, rfl, Ja.kept (t' := sa.toks) fun b o e => Heap.get?_push_of_some _ e, turn_tuple a _, ⟨_, Heap.get?_push_size _ rfl, rfl, rfl⟩, fun b mb => ?_, q⟩
    have e : b = sa.heap.objs.size := by simpa using mb
    subst e
    exact Ja.fpOk (Nat.le_refl _) (Ja.hok.fresh (Nat.le_refl _))
  · subst e
    obtain ⟨t, rfl⟩ := ra
    cases ha : zq.cps.all (· < 128)
    · exact wpAny_pyIter_wide ha (pi_one (tk := sa.toks) Ja _ (turn_str _ zq t "str_iterator" (.inr rfl)) ⟨_, Heap.get?_push_size _ rfl, rfl, rfl⟩ q)
    · exact wpAny_pyIter_ascii ha (pi_one (tk := sa.toks) Ja _ (turn_str _ zq t "str_ascii_iterator" (.inl rfl)) ⟨_, Heap.get?_push_size _ rfl, rfl, rfl⟩ q)

section
variable {K : PySem.W.Frag} {mg : Str → Option Value} {W : Wd} {H : Hp} {a : Addr} {vs : List V} {ds : List D}
/-- a list that lies so as long as ok holds -/
theorem itRep_list {ok : Cs → Prop} (hl : vs.length ≤ sizeLine) (hlen : vs.length = ds.length) (h : ∀ W1 cs1 H1, Step W H W1 H1 → RS K mg W1 cs1 H1 → ok cs1 → ∃ vs, SqL K H1 a vs ∧ Reps K W1 vs ds) : ItRep K mg W H (Itl K a) ⟨ds, ok⟩ where
  len := by rw [← hlen]; exact hl
  go := fun W1 cs1 H1 i s S o hi => by
    obtain ⟨vs, q, r⟩ := h W1 cs1 H1 s S o
    obtain ⟨v, e, rv⟩ := r.get (List.getElem?_eq_getElem hi)
    refine ⟨⟨vs, v, q, e⟩, fun x H2 ⟨e2, e3⟩ => ?_⟩
    subst e2
    have := e3 vs q
    rw [e] at this; cases this
    exact ⟨W1, _, List.getElem?_eq_getElem hi, Step.refl _ _, S, rv⟩
  stop := fun W1 cs1 H1 s S o => by
    obtain ⟨vs, q, r⟩ := h W1 cs1 H1 s S o
    exact ⟨vs, q, Nat.le_of_eq r.length⟩
theorem itRep_tup {ok : Cs → Prop} (hl : vs.length ≤ sizeLine) (hlen : vs.length = ds.length) (h : ∀ W1 cs1 H1, Step W H W1 H1 → RS K mg W1 cs1 H1 → ok cs1 → ∃ vs, SqT K H1 a vs ∧ Reps K W1 vs ds) : ItRep K mg W H (Itt K a) ⟨ds, ok⟩ where
  len := by rw [← hlen]; exact hl
  go := fun W1 cs1 H1 i s S o hi => by
    obtain ⟨vs, q, r⟩ := h W1 cs1 H1 s S o
    obtain ⟨v, e, rv⟩ := r.get (List.getElem?_eq_getElem hi)
    refine ⟨⟨vs, v, q, e⟩, fun x H2 ⟨e2, e3⟩ => ?_⟩
    subst e2
    have := e3 vs q
    rw [e] at this; cases this
    exact ⟨W1, _, List.getElem?_eq_getElem hi, Step.refl _ _, S, rv⟩
  stop := fun W1 cs1 H1 s S o => by
    obtain ⟨vs, q, r⟩ := h W1 cs1 H1 s S o
    exact ⟨vs, q, Nat.le_of_eq r.length⟩
theorem itRep_fn {n : Nat} {f : Nat → V} {g : Nat → D} {J : It} (hn : n ≤ sizeLine) (hf : ∀ i W, Rep K W (f i) (g i)) (h1 : ∀ i H, i < n → J.go i H) (h2 : ∀ i H x H', i < n → J.yld i H x H' → H' = H ∧ x = f i) (h3 : ∀ H, J.stop n H) : ItRep K mg W H J ⟨(List.range n).map g, fun _ => True⟩ where
  len := by
    show ((List.range n).map g).length ≤ sizeLine
    rw [List.length_map, List.length_range]; exact hn
  go := fun W1 cs1 H1 i s S _ hi => by
    have hi : i < n := by
      have hi : i < ((List.range n).map g).length := hi
      rw [List.length_map, List.length_range] at hi; exact hi
    refine ⟨h1 i H1 hi, fun x H2 y => ?_⟩
    obtain ⟨e1, e2⟩ := h2 i H1 x H2 hi y
    subst e1 e2
    refine ⟨W1, g i, ?_, Step.refl _ _, S, hf i W1⟩
    show ((List.range n).map g)[i]? = some (g i)
    rw [List.getElem?_map, List.getElem?_range hi]; rfl
  stop := fun W1 cs1 H1 s S _ => by
    show J.stop ((List.range n).map g).length H1
    rw [List.length_map, List.length_range]; exact h3 H1
end
section
variable {X : Cx} {Z : WX} {pos : Pos} {tg e : Expr} {f : SE}
theorem fi_seq (he : FE X Z e f) : FI X Z tg e (iSeq f) := by
  refine ⟨fun pins s σ H R I ⟨W, sl, cs, S, L, q⟩ => (pi_any he).run pins s σ H R I ?_⟩
  refine fin_up1 (R1 := Rep X.K) S L q fun W1 d cs1 x H1 st1 S1 L1 r1 q1 => ?_
  cases r1 with
  | @tup a vs ds h hl r =>
    exact .inr (.inl ⟨a, vs, rfl, .of (S1.fzt h), q1.done S1 (itRep_tup hl r.length fun W2 cs2 H2 s2 S2 _ => ⟨vs, .of (S2.fzt (s2.le.fz _ _ h)), r.mono s2.le⟩)⟩)
  | @lst a vs ds h hl r =>
    exact .inl ⟨a, vs, rfl, .of (S1.fzl h), q1.done S1 (itRep_list hl r.length fun W2 cs2 H2 s2 S2 _ => ⟨vs, .of (S2.fzl (s2.le.fz _ _ h)), r.mono s2.le⟩)⟩
  | @scr a ns h hl =>
    exact .inl ⟨a, _, rfl, S1.scr h, q1.done S1 (itRep_list (vs := ns.map V.int) (by rw [List.length_map]; exact hl) (by rw [List.length_map, List.length_map]) fun W2 cs2 H2 s2 S2 _ => ⟨_, S2.scr (s2.le.fz.seq h), .ints ns⟩)⟩
  | @cel a i h =>
    have q1 : FinI X.K X.mg Z W1 σ H1 (match cs1[i]? with
      | some (some (.lst ds)) => .ok ⟨ds, fun cs' => cs'[i]? = some (some (.lst ds))⟩ cs1
      | _ => .bad) R := q1
    split at q1
    · rename_i ds e
      obtain ⟨a', o, p1, p2, p3, p4⟩ := S1.cell i _ e
      rw [h] at p1; cases p1
      cases p4 with
      | @lst vs _ hl r =>
        refine .inl ⟨a, vs, rfl, .of p2, q1.done S1 (itRep_list hl r.length fun W2 cs2 H2 s2 S2 ok => ?_)⟩
        obtain ⟨a', o, p1', p2', p3', p4'⟩ := S2.cell i _ ok
        rw [s2.le.at h] at p1'; cases p1'
        cases p4' with
        | @lst vs' _ hl' r' => exact ⟨vs', .of p2', r'⟩
    · exact q1.elim
  | str z =>
    have q1 : FinI X.K X.mg Z W1 σ H1 (if z.length ≤ sizeLine then .ok ⟨signs z, fun _ => True⟩ cs1 else .bad) R := q1
    by_cases hz : z.length ≤ sizeLine
    · rw [if_pos hz] at q1
      refine .inr (.inr ⟨z, rfl, ?_⟩)
      have e : signs z = (List.range z.cps.size).map fun i => D.str ⟨#[z.cps.getD i 0]⟩ := by
        refine List.ext_getElem? fun i => ?_
        unfold signs
        rw [List.getElem?_map]; rw [List.getElem?_map]
        by_cases hi : i < z.cps.size
        · rw [List.getElem?_range hi, Array.getElem?_toList, Array.getElem?_eq_getElem hi]
          simp [Array.getD, hi]
        · rw [List.getElem?_eq_none (by simpa using hi), List.getElem?_eq_none (by simpa using hi)]; rfl
      rw [e] at q1
      refine q1.done S1 (itRep_fn (f := fun i => V.str ⟨#[z.cps.getD i 0]⟩) hz (fun i W => .str _) (fun i H hi => hi) (fun i H x H' hi y => ?_) fun H => Nat.le_refl _)
      obtain ⟨e1, c, e2, e3⟩ := y
      refine ⟨e1, ?_⟩
      rw [e3]
      rw [Array.getElem?_eq_getElem hi] at e2
      cases e2
      simp [Array.getD, hi]
    · rw [if_neg hz] at q1; exact q1.elim
  | _ => exact q1.elim

def rgL (a b : Int) : List D := (List.range (b - a).toNat).map fun i => D.int (a + (i : Nat))
def rgOk (a b : Int) : Prop := -(2 ^ 62) ≤ a ∧ a < 2 ^ 62 ∧ -(2 ^ 62) ≤ b ∧ b < 2 ^ 62 ∧ (b - a).toNat ≤ sizeLine
instance (a b : Int) : Decidable (rgOk a b) := by unfold rgOk; exact inferInstance
def rgOf1 (cs : Cs) : List D → Res Its
  | [.int b] => if rgOk 0 b then .ok ⟨rgL 0 b, fun _ => True⟩ cs else .bad
  | _ => .bad
def rgOf2 (cs : Cs) : List D → Res Its
  | [.int a, .int b] => if rgOk a b then .ok ⟨rgL a b, fun _ => True⟩ cs else .bad
  | _ => .bad
def iRg1 (t : SA) : SI := fun sl cs => (t sl cs).bind fun ds cs1 => rgOf1 cs1 ds
def iRg2 (t : SA) : SI := fun sl cs => (t sl cs).bind fun ds cs1 => rgOf2 cs1 ds
theorem itRep_rg {K : PySem.W.Frag} {mg : Str → Option Value} {W : Wd} {H : Hp} {a b : Int} (h : rgOk a b) : ItRep K mg W H (Itr a (b - a).toNat) ⟨rgL a b, fun _ => True⟩ :=
  itRep_fn (f := fun i => V.int (a + (i : Nat))) h.2.2.2.2 (fun i W => .int _) (fun i H hi => hi) (fun i H x H' hi y => y) fun H => Nat.le_refl _
theorem fi_range1 {a : Expr} {t : SA} {p : Pos} (hm : X.mg "range" = none) (ha : FA X Z [a] t) (hg : Gl X "range" := by rfl) (hs : starEach [a] X.env = [(false, eval a X.env)] := by rfl) : FI X Z tg (.Call (.Name "range" p) [a] [] pos) (iRg1 t) := by
  refine ⟨fun pins s σ H R I ⟨W, sl, cs, S, L, q⟩ => (pi_range1 hg hm ha hs).run pins s σ H R I ?_⟩
  refine fin_up1 (R1 := Reps X.K) S L q fun W1 d cs1 x H1 st1 S1 L1 r1 q1 => ?_
  unfold rgOf1 at q1
  split at q1
  · rename_i b
    cases r1 with
    | cons r rr =>
      cases rr
      cases r
      split at q1
      · rename_i hk
        refine ⟨b, rfl, hk.2.2.1, hk.2.2.2.1, q1.done S1 ?_⟩
        have z := itRep_rg (K := X.K) (mg := X.mg) (W := W1) (H := H1) hk
        rw [show (b - 0).toNat = b.toNat by rw [Int.sub_zero]] at z
        exact z
      · exact q1.elim
  · exact q1.elim
theorem fi_range2 {a b : Expr} {t : SA} {p : Pos} (hm : X.mg "range" = none) (ha : FA X Z [a, b] t) (hg : Gl X "range" := by rfl) (hs : starEach [a, b] X.env = [(false, eval a X.env), (false, eval b X.env)] := by rfl) (hs2 : starEach [b] X.env = [(false, eval b X.env)] := by rfl) :
    FI X Z tg (.Call (.Name "range" p) [a, b] [] pos) (iRg2 t) := by
  refine ⟨fun pins s σ H R I ⟨W, sl, cs, S, L, q⟩ => (pi_range2 hg hm ha hs hs2).run pins s σ H R I ?_⟩
  refine fin_up1 (R1 := Reps X.K) S L q fun W1 d cs1 x H1 st1 S1 L1 r1 q1 => ?_
  unfold rgOf2 at q1
  split at q1
  · rename_i b c
    cases r1 with
    | cons r rr =>
      cases rr with
      | cons r' rr =>
        cases rr
        cases r
        cases r'
        split at q1
        · rename_i hk
          exact ⟨b, c, rfl, ⟨hk.1, hk.2.1, hk.2.2.1, hk.2.2.2.1⟩, q1.done S1 (itRep_rg hk)⟩
        · exact q1.elim
  · exact q1.elim
end
/-! ### enumerate over anything -/
set_option maxHeartbeats 900000 in
theorem meets_enumerate_newB1 {v : Value} {o : Obj} {H : Heap → Prop} (B : Begins v o H) :
    Meets (Builtin.«enumerate.__new__» ⟨[.type "enumerate", v], []⟩) (fun _ Rk s => H s.heap ∧
      Rk (.ok (.ret (.ref (s.heap.push o).objs.size))) { s with heap := (s.heap.push o).push { cls := .type "enumerate", data := .fields #[.none, .bool false, .ref s.heap.objs.size, rawInt 0, .none, .none] } }) :=
  .of_wp fun prog w A Rk s h => by
    obtain ⟨hp, g, d, tk, ost⟩ := s; obtain ⟨h1, h⟩ := h
    have hsub := sub_enumerate
    have qa : ∀ {A' : Around} {Ex : Value → Shared → Prop} {Q : Value → Shared → Prop}, Q (.ref hp.objs.size) ⟨hp.push o, g, d, tk, ost⟩ → wpAny (model prog w) A' (pyIter v) Q Ex ⟨hp, g, d, tk, ost⟩ :=
      fun q => B.iter prog w _ _ ⟨hp, g, d, tk, ost⟩ _ h1 q
    wp_walk using qa
    refine wpAny_stack_any fun stt => wpAny_pure ?_
    split
    · rename_i c _ _ _ _ _
      cases h01 : (c == Value.type "enumerate")
      · wp_walk using qa
        exact ⟨_, rfl, h⟩
      · wp_walk using qa
        exact ⟨_, rfl, h⟩
    · wp_walk using qa
      exact ⟨_, rfl, h⟩
theorem call_enumerateB {prog : Program} {w : World} {A : Around} {Ex : Value → Shared → Prop} {s : Shared} {v : Value} {o : Obj} {H : Heap → Prop} {Q : Value → Shared → Prop} (B : Begins v o H) (h1 : H s.heap)
    (h : ∀ h', IsEnum h' (s.heap.objs.size + 1) s.heap.objs.size 0 .none → h'.get? s.heap.objs.size = some o → h'.objs.size = s.heap.objs.size + 2 →
      (∀ at1 ob, s.heap.get? at1 = some ob → h'.get? at1 = some ob) → Q (.ref (s.heap.objs.size + 1)) { s with heap := h' }) :
    wpAny (model prog w) A (call (.type "enumerate") [v]) Q Ex s := by
  refine callType_new F.called_enumerate (by decide) (F.typeCall_enumerate_1 _) (F.newCall_enumerate_1 _) (fun b0 => F.args_object_init_2 b0 _) F.entry_enumerate_new
    (meets_enumerate_newB1 B) ⟨h1, ?_⟩
  have hz : (s.heap.push o).objs.size = s.heap.objs.size + 1 := Heap.size_push _ _
  show _ ∧ _
  rw [hz]
  have ie : IsEnum ((s.heap.push o).push { cls := .type "enumerate", data := .fields #[.none, .bool false, .ref s.heap.objs.size, rawInt 0, .none, .none] }) (s.heap.objs.size + 1) s.heap.objs.size 0 .none := by
    have := Heap.get?_push_size (s.heap.push o) (o := { cls := .type "enumerate", data := .fields #[.none, .bool false, .ref s.heap.objs.size, rawInt 0, .none, .none] }) rfl
    rw [hz] at this; exact this
  refine ⟨⟨_, ie, rfl⟩, h _ ie (Heap.get?_push_of_some _ (Heap.get?_push_size _ B.free)) (by rw [Heap.size_push, hz]) fun b o x => Heap.get?_push_of_some _ (Heap.get?_push_of_some _ x)⟩
end LF

set_option Elab.async false
set_option maxRecDepth 100000
namespace LF
open PySem L2
/-! ### enumerate(tuple), enumerate(list) -/
def IteT (a : Addr) : It :=
  ⟨fun i H => ∃ (xs : List V) (x : V), H a = some (.tup xs) ∧ xs[i]? = some x, fun i H v H' => ∃ T x, v = .ref T ∧ H T = none ∧ H' = upd H T (.tup [.int (i : Nat), x]) ∧ ∀ xs, H a = some (.tup xs) → xs[i]? = some x, fun i H => ∃ xs : List V, H a = some (.tup xs) ∧ xs.length ≤ i⟩
theorem turn_enumT {P : Program} {w : World} {K : PySem.W.Frag} {elts : List Expr} {kk : Nat} {tpos : Pos} (a e it : Addr) :
    Turn P w K (.Tuple elts kk tpos) (IteT a) [e, it] e (fun i h => (∃ was, IsEnum h e it ((i : Nat) : Int) was) ∧ h.IsTupleIter it a i ∧ e ≠ it) where
  mem := by simp
  obj := fun i h stt b mb => by
    obtain ⟨⟨was, ie⟩, ⟨o, ho, hc, hd⟩, _⟩ := stt
    have eb : b = e ∨ b = it := by simpa using mb
    rcases eb with zq | zq
    · rw [zq]; exact ⟨_, ie, fun v q => nomatch q⟩
    · rw [zq]; exact ⟨o, ho, fun v q => by rw [hd] at q; cases q⟩
  keep := fun i h h' stt k => let ⟨⟨was, ie⟩, hi, hne⟩ := stt; ⟨⟨was, k e (by simp) _ ie⟩, hi.at fun o q => k it (by simp) o q, hne⟩
  item := by
    intro X hP hw hK hc i pn s sg H Ex Jn hf stt hg
    subst hP hw hK
    obtain ⟨⟨was, ie⟩, il, hne⟩ := stt
    obtain ⟨xs, x, lq, hx⟩ := hg
    obtain ⟨zs, rz, p, hz⟩ := Jn.tuple (.of lq)
    obtain ⟨u, hu, ru⟩ := rz.get hx
    have elt : e < s.heap.objs.size := Heap.lt_size ie
    have ilt : it < s.heap.objs.size := by obtain ⟨_, q, _⟩ := il; exact Heap.lt_size q
    have nae : a ≠ e := fun zq => by have q := (hf e (by simp)).1; rw [← zq, lq] at q; cases q
    have nai : a ≠ it := fun zq => by have q := (hf it (by simp)).1; rw [← zq, lq] at q; cases q
    have hlt : i < zs.toArray.size := by simpa using (List.getElem?_eq_some_iff.mp hu).1
    have D := Draws.tuple (prog := X.prog) (w := X.w) (A := X.A.in1) (Jn.ok.hd hc) it a nai zs.toArray
    refine wpAny_pyNext_enum_itemC D ie ⟨il, p⟩ hlt hne (by simp [nae.symm, hne]) fun y h' tk hy ho il2 hT iz ik => ?_
    have ey : y = u := by
      have ea : zs[i]? = some y := by simpa using hy
      rw [hu] at ea; exact (Option.some.inj ea).symm
    subst ey
    refine ⟨_, rfl, wpAny_letOwnedTupleGo_enum (s := { s with heap := h', toks := tk + 1 }) ho fun hz2 ie2 sb => ?_⟩
    have hT2 : hz2.get? s.heap.objs.size = some { cls := .type "tuple", data := .seq #[.int i tk, y] } := (sb.2 _ (Nat.ne_of_gt elt)).trans hT
    have new : ObjOk X.prog X.w (upd H s.heap.objs.size (.tup [.int (i : Nat), x])) hz2 s.heap.objs.size (.tup [.int (i : Nat), x]) :=
      ⟨by show 2 ≤ sizeLine; decide, [.int i tk, y], .cons ⟨_, rfl⟩ (.cons ru .nil), ⟨_, hT2, rfl, _, rfl⟩⟩
    have Ja : Inv X pn sg (upd H s.heap.objs.size (.tup [.int (i : Nat), x])) { s with heap := hz2, toks := tk + 1 } :=
      Jn.turnedNew (ch := [e, it]) (fun b ob mb q => (sb.2 b (fun zq => mb (by simp [zq]))).trans (ik b ob (fun zq => mb (by simp [zq])) (fun zq => mb (by simp [zq])) q)) hf (Nat.le_refl _) new
    refine ⟨.ref s.heap.objs.size, _, Ja, rfl, ⟨_, x, rfl, Jn.hok.fresh (Nat.le_refl _), rfl, fun ys hy => by rw [lq] at hy; cases hy; exact hx⟩, ⟨⟨y, ?_⟩, il2.1.at fun o q => (sb.2 it (Ne.symm hne)).trans q, hne⟩, fun b mb => ?_⟩
    · have ea : ((i + 1 : Nat) : Int) = (i : Int) + 1 := by omega
      rw [ea]; exact ie2
    · have mb' : b < s.heap.objs.size := by
        have eb : b = e ∨ b = it := by simpa using mb
        rcases eb with zq | zq
        · rw [zq]; exact elt
        · rw [zq]; exact ilt
      rw [upd_ne (Nat.ne_of_lt mb')]
      exact (hf b mb).1
  done := by
    intro X hP hw hK hc i pn s sg H Ex Jn hf stt hg
    subst hP hw hK
    obtain ⟨⟨was, ie⟩, il, hne⟩ := stt
    obtain ⟨xs, lq, hx⟩ := hg
    obtain ⟨zs, rz, p, hz⟩ := Jn.tuple (.of lq)
    obtain ⟨g0, g1, _, g3, g4, g5⟩ := hf it (by simp)
    have nai : a ≠ it := fun zq => by rw [← zq, lq] at g0; cases g0
    have hl := rz.length
    have hi : i ≥ zs.toArray.size := by simp; omega
    have hT : s.TypeIs (.ref e) "enumerate" := ⟨_, ie, rfl⟩
    unfold pyNext
    apply wpAny_bind
    apply wpAny_attempt
    refine wpAny_callSpecial?_slot (name := Str.ofString "__next__") hT F.slot_enumerate_next ?_
    refine wpAny_call_entry F.slot_enumerate_next hT F.entry_enumerate_next ?_ (F.args_enumerate_next_1 _)
    show wpAny _ _ (field (.ref e) 2 >>= fun _ => _) _ _ _
    refine wpAny_bind (wpAny_field ie rfl (x := .ref it) rfl ?_)
    refine wpAny_bind (wpAny_nextOf_tuple_end (Jn.ok.hd hc) il p (by simp; omega) fun h' x ie2 hx' => ?_)
    obtain ⟨o, ho, hcl⟩ := hx'
    refine wpAny_bind (wpAny_isInstance (T := "StopIteration") (b := true) ⟨o, ho, hcl⟩ isSubtype_stop ?_)
    exact wpAny_pure ⟨rfl, Jn.turned (t' := s.toks) (fun b o mb q => ie2 b o mb q) g0 g1 g3 g4 g5⟩
  self := fun A i s Q Ex stt h => let ⟨⟨_, ie⟩, _⟩ := stt; wpAny_pyIter_enum ie h

def iEnumA (K : PySem.W.Frag) (ta : TA) : TI := fun σ H R => ta σ H fun vs H1 => ∃ a, vs = [.ref a] ∧ ((∃ xs, SqL K H1 a xs ∧ R (Ite K a) H1) ∨ ∃ xs, H1 a = some (.tup xs) ∧ R (IteT a) H1)
theorem pi_enumA {X : Cx} {e : Expr} {ta : TA} {p pos tpos : Pos} {elts : List Expr} {kk : Nat} (hg : Gl X "enumerate") (hm : X.mg "enumerate" = none) (ha : PA X [e] ta) (hs : starEach [e] X.env = [(false, eval e X.env)] := by rfl) :
    PI X (.Tuple elts kk tpos) (.Call (.Name "enumerate" p) [e] [] pos) (iEnumA X.K ta) := by
  refine ⟨fun pn s sg H Rk Jn h => ?_⟩
  refine PyProof.Rows.Call_ (ld_blt Jn hg hm PyProof.Rows.boot_enumerate (PyProof.Rows.callWith_type1 (thn (ha.run pos pn s sg H _ Jn h) fun us sa ⟨vs, Ha, Ja, ra, qa⟩ => ?_) hs rfl))
  obtain ⟨a, ex, q⟩ := qa
  subst ex
  cases ra with
  | cons r rr =>
    cases rr
    cases r
    have low : ∀ b ∈ [sa.heap.objs.size + 1, sa.heap.objs.size], FpOk X pn Ha b := fun b mb => by
      have eb : b = sa.heap.objs.size + 1 ∨ b = sa.heap.objs.size := by simpa using mb
      have hle : sa.heap.objs.size ≤ b := by
        rcases eb with zq | zq
        · rw [zq]; exact Nat.le_add_right _ _
        · rw [zq]; exact Nat.le_refl _
      exact Ja.fpOk hle (Ja.hok.fresh hle)
    rcases q with ⟨xs, lq, q⟩ | ⟨xs, lq, q⟩
    · obtain ⟨zs, rz, pl, hz⟩ := Ja.list lq
      refine call_enumerate_list pl.isList fun h' ie il iz ik => wpAny_pyIter_enum ie ?_
      have Jb : Inv X pn sg Ha { sa with heap := h' } := Ja.kept (t' := sa.toks) ik
      exact ⟨sa.heap.objs.size + 1, [sa.heap.objs.size + 1, sa.heap.objs.size], _, _, Ha, rfl, Jb, turn_enum a (sa.heap.objs.size + 1) sa.heap.objs.size, ⟨⟨.none, ie⟩, il, Nat.succ_ne_self _⟩, low, q⟩
    · obtain ⟨zs, rz, pl, hz⟩ := Ja.tuple (.of lq)
      refine call_enumerateB (begins_tuple a zs.toArray) pl fun h' ie il iz ik => wpAny_pyIter_enum ie ?_
      have Jb : Inv X pn sg Ha { sa with heap := h' } := Ja.kept (t' := sa.toks) ik
      exact ⟨sa.heap.objs.size + 1, [sa.heap.objs.size + 1, sa.heap.objs.size], _, _, Ha, rfl, Jb, turn_enumT a (sa.heap.objs.size + 1) sa.heap.objs.size, ⟨⟨.none, ie⟩, ⟨_, il, rfl, rfl⟩, Nat.succ_ne_self _⟩, low, q⟩

def enumD (ds : List D) : List D := ds.zipIdx.map fun p => D.tup [.int (p.2 : Nat), p.1]
theorem enumD_get (ds : List D) (i : Nat) : (enumD ds)[i]? = (ds[i]?).map fun d => D.tup [.int (i : Nat), d] := by
  unfold enumD
  rw [List.getElem?_map, List.getElem?_zipIdx]
  cases ds[i]? with
  | none => rfl
  | some d => simp
theorem enumD_length (ds : List D) : (enumD ds).length = ds.length := by unfold enumD; rw [List.length_map, List.length_zipIdx]
def enumOf (cs : Cs) : List D → Res Its
  | [.lst ds] => .ok ⟨enumD ds, fun _ => True⟩ cs
  | [.tup ds] => .ok ⟨enumD ds, fun _ => True⟩ cs
  | [.scr ns] => .ok ⟨enumD (ns.map D.int), fun _ => True⟩ cs
  | [.cel i] => match cs[i]? with
    | some (some (.lst ds)) => .ok ⟨enumD ds, fun cs' => cs'[i]? = some (some (.lst ds))⟩ cs
    | _ => .bad
  | _ => .bad
def iEn (t : SA) : SI := fun sl cs => (t sl cs).bind fun ds cs1 => enumOf cs1 ds
section
variable {K : PySem.W.Frag} {mg : Str → Option Value} {W : Wd} {H : Hp} {a : Addr} {ds : List D}
theorem pair_step {W1 : Wd} {cs1 : Cs} {H1 : Hp} {T : Addr} {x y : V} {d e : D} (S : RS K mg W1 cs1 H1) (hT : H1 T = none) (r1 : Rep K W1 x d) (r2 : Rep K W1 y e) : ∃ W2, Step W1 H1 W2 (upd H1 T (.tup [x, y])) ∧ RS K mg W2 cs1 (upd H1 T (.tup [x, y])) ∧ Rep K W2 (.ref T) (.tup [d, e]) :=
  ⟨W1.froze T (.tup [x, y]), Step.froze S hT, S.froze hT, .tup upd_same (by show 2 ≤ sizeLine; decide) (.cons (r1.mono (Le.froze (S.dom hT))) (.cons (r2.mono (Le.froze (S.dom hT))) .nil))⟩
theorem itRep_enum {ok : Cs → Prop} (hl : ds.length ≤ sizeLine) (h : ∀ W1 cs1 H1, Step W H W1 H1 → RS K mg W1 cs1 H1 → ok cs1 → ∃ vs, SqL K H1 a vs ∧ Reps K W1 vs ds) : ItRep K mg W H (Ite K a) ⟨enumD ds, ok⟩ where
  len := by show (enumD ds).length ≤ _; rw [enumD_length]; exact hl
  go := fun W1 cs1 H1 i s S o hi => by
    have hi : i < ds.length := by
      have hi : i < (enumD ds).length := hi
      rwa [enumD_length] at hi
    obtain ⟨vs, q, r⟩ := h W1 cs1 H1 s S o
    obtain ⟨v, e, rv⟩ := r.get (List.getElem?_eq_getElem hi)
    refine ⟨⟨vs, v, q, e⟩, fun x H2 ⟨T, y, e1, e2, e3, e4⟩ => ?_⟩
    subst e1 e3
    have := e4 vs q
    rw [e] at this; cases this
    obtain ⟨W2, s2, S2, r2⟩ := pair_step S e2 (.int ((i : Nat) : Int)) rv
    refine ⟨W2, _, ?_, s2, S2, r2⟩
    show (enumD ds)[i]? = _
    rw [enumD_get, List.getElem?_eq_getElem hi]; rfl
  stop := fun W1 cs1 H1 s S o => by
    obtain ⟨vs, q, r⟩ := h W1 cs1 H1 s S o
    show (Ite K a).stop (enumD ds).length H1
    rw [enumD_length]
    exact ⟨vs, q, Nat.le_of_eq r.length⟩
theorem itRep_enumT {vs : List V} (hl : vs.length ≤ sizeLine) (h : W.fz a = some (.tup vs)) (r : Reps K W vs ds) : ItRep K mg W H (IteT a) ⟨enumD ds, fun _ => True⟩ where
  len := by show (enumD ds).length ≤ _; rw [enumD_length, ← r.length]; exact hl
  go := fun W1 cs1 H1 i s S o hi => by
    have hi : i < ds.length := by
      have hi : i < (enumD ds).length := hi
      rwa [enumD_length] at hi
    have q := S.fzt (s.le.fz _ _ h)
    obtain ⟨v, e, rv⟩ := (r.mono s.le).get (List.getElem?_eq_getElem hi)
    refine ⟨⟨vs, v, q, e⟩, fun x H2 ⟨T, y, e1, e2, e3, e4⟩ => ?_⟩
    subst e1 e3
    have := e4 vs q
    rw [e] at this; cases this
    obtain ⟨W2, s2, S2, r2⟩ := pair_step S e2 (.int ((i : Nat) : Int)) rv
    refine ⟨W2, _, ?_, s2, S2, r2⟩
    show (enumD ds)[i]? = _
    rw [enumD_get, List.getElem?_eq_getElem hi]; rfl
  stop := fun W1 cs1 H1 s S o => by
    show (IteT a).stop (enumD ds).length H1
    rw [enumD_length]
    exact ⟨vs, S.fzt (s.le.fz _ _ h), Nat.le_of_eq r.length⟩
end
section
variable {X : Cx} {Z : WX} {pos : Pos}
theorem fi_enum {e : Expr} {t : SA} {p tpos : Pos} {elts : List Expr} {kk : Nat} (hm : X.mg "enumerate" = none) (ha : FA X Z [e] t) (hg : Gl X "enumerate" := by rfl) (hs : starEach [e] X.env = [(false, eval e X.env)] := by rfl) :
    FI X Z (.Tuple elts kk tpos) (.Call (.Name "enumerate" p) [e] [] pos) (iEn t) := by
  refine ⟨fun pins s σ H R I ⟨W, sl, cs, S, L, q⟩ => (pi_enumA hg hm ha hs).run pins s σ H R I ?_⟩
  refine fin_up1 (R1 := Reps X.K) S L q fun W1 d cs1 x H1 st1 S1 L1 r1 q1 => ?_
  unfold enumOf at q1
  cases r1 with
  | nil => exact q1.elim
  | cons r rr =>
    cases rr with
    | cons _ _ => split at q1 <;> first | exact q1.elim | (rename_i h; cases h)
    | nil =>
      cases r with
      | @lst a vs ds h hl r => exact ⟨a, rfl, .inl ⟨vs, .of (S1.fzl h), q1.done S1 (itRep_enum (by rw [← r.length]; exact hl) fun W2 cs2 H2 s2 S2 _ => ⟨vs, .of (S2.fzl (s2.le.fz _ _ h)), r.mono s2.le⟩)⟩⟩
      | @tup a vs ds h hl r => exact ⟨a, rfl, .inr ⟨vs, S1.fzt h, q1.done S1 (itRep_enumT hl h r)⟩⟩
      | @scr a ns h hl => exact ⟨a, rfl, .inl ⟨_, S1.scr h, q1.done S1 (itRep_enum (by rw [List.length_map]; exact hl) fun W2 cs2 H2 s2 S2 _ => ⟨_, S2.scr (s2.le.fz.seq h), .ints ns⟩)⟩⟩
      | @cel a i h =>
        have q1 : FinI X.K X.mg Z W1 σ H1 (match cs1[i]? with
          | some (some (.lst ds)) => .ok ⟨enumD ds, fun cs' => cs'[i]? = some (some (.lst ds))⟩ cs1
          | _ => .bad) R := q1
        split at q1
        · rename_i ds e
          obtain ⟨a', o, p1, p2, p3, p4⟩ := S1.cell i _ e
          rw [h] at p1; cases p1
          cases p4 with
          | @lst vs _ hl r =>
            refine ⟨a, rfl, .inl ⟨vs, .of p2, q1.done S1 (itRep_enum (by rw [← r.length]; exact hl) fun W2 cs2 H2 s2 S2 ok => ?_)⟩⟩
            obtain ⟨a', o, p1', p2', p3', p4'⟩ := S2.cell i _ ok
            rw [s2.le.at h] at p1'; cases p1'
            cases p4' with
            | @lst vs' _ hl' r' => exact ⟨vs', .of p2', r'⟩
        · exact q1.elim
      | _ => exact q1.elim
end
end LF

set_option Elab.async false
set_option maxRecDepth 100000
namespace LF
open PySem PySem.Spec L2
/-! ### data as they stand now -/
def deref (cs : Cs) : D → D
  | .cel i => match cs[i]? with
    | some (some (.lst ds)) => .lst ds
    | some (some (.dic ks)) => .dic ks
    | _ => .cel i
  | d => d
/-- a list's items (a list, a cell that is one, the script) -/
def seqL (cs : Cs) (d : D) : Option (List D) := match d with
  | .lst ds => some ds
  | .scr ns => some (ns.map D.int)
  | .cel i => match cs[i]? with
    | some (some (.lst ds)) => some ds
    | _ => none
  | _ => none
def celL (cs : Cs) (d : D) : Option (Nat × List D) := match d with
  | .cel i => match cs[i]? with
    | some (some (.lst ds)) => some (i, ds)
    | _ => none
  | _ => none
section
variable {K : PySem.W.Frag} {mg : Str → Option Value} {W : Wd} {cs : Cs} {H : Hp} {v : V} {d : D}
theorem view_seqL (S : RS K mg W cs H) (r : Rep K W v d) {ds : List D} (h : seqL cs d = some ds) : ∃ a vs, v = .ref a ∧ SqL K H a vs ∧ vs.length ≤ sizeLine ∧ Reps K W vs ds := by
  cases r with
  | @lst a vs es h1 hl r => cases h; exact ⟨a, vs, rfl, .of (S.fzl h1), hl, r⟩
  | @scr a ns h1 hl => cases h; exact ⟨a, _, rfl, S.scr h1, by rw [List.length_map]; exact hl, .ints ns⟩
  | @cel a i h1 =>
    have h : (match cs[i]? with | some (some (.lst ds)) => some ds | _ => none) = some ds := h
    split at h
    · rename_i es e
      cases h
      obtain ⟨a', o, p1, p2, p3, p4⟩ := S.cell i _ e
      rw [h1] at p1; cases p1
      cases p4 with
      | @lst vs _ hl r => exact ⟨a, vs, rfl, .of p2, hl, r⟩
    · cases h
  | _ => cases h
theorem view_derL (S : RS K mg W cs H) (r : Rep K W v d) {ds : List D} (h : deref cs d = .lst ds) : ∃ a vs, v = .ref a ∧ H a = some (.lst vs) ∧ vs.length ≤ sizeLine ∧ Reps K W vs ds := by
  cases r with
  | @lst a vs es h1 hl r => cases h; exact ⟨a, vs, rfl, S.fzl h1, hl, r⟩
  | @cel a i h1 =>
    have h : (match cs[i]? with | some (some (.lst ds)) => D.lst ds | some (some (.dic ks)) => .dic ks | _ => .cel i) = .lst ds := h
    split at h
    · rename_i es e
      cases h
      obtain ⟨a', o, p1, p2, p3, p4⟩ := S.cell i _ e
      rw [h1] at p1; cases p1
      cases p4 with
      | @lst vs _ hl r => exact ⟨a, vs, rfl, p2, hl, r⟩
    · cases h
    · cases h
  | _ => cases h
theorem view_derT (S : RS K mg W cs H) (r : Rep K W v d) {ds : List D} (h : deref cs d = .tup ds) : ∃ a vs, v = .ref a ∧ W.fz a = some (.tup vs) ∧ H a = some (.tup vs) ∧ vs.length ≤ sizeLine ∧ Reps K W vs ds := by
  cases r with
  | @tup a vs es h1 hl r => cases h; exact ⟨a, vs, rfl, h1, S.fzt h1, hl, r⟩
  | @cel a i h1 =>
    have h : (match cs[i]? with | some (some (.lst ds)) => D.lst ds | some (some (.dic ks)) => .dic ks | _ => .cel i) = .tup ds := h
    split at h <;> cases h
  | _ => cases h
theorem view_celL (S : RS K mg W cs H) (r : Rep K W v d) {i : Nat} {ds : List D} (h : celL cs d = some (i, ds)) : ∃ a vs, d = .cel i ∧ v = .ref a ∧ W.ad[i]? = some a ∧ cs[i]? = some (some (.lst ds)) ∧ H a = some (.lst vs) ∧ vs.length ≤ sizeLine ∧ Reps K W vs ds := by
  cases r with
  | @cel a j h1 =>
    have h : (match cs[j]? with | some (some (.lst ds)) => some (j, ds) | _ => none) = some (i, ds) := h
    split at h
    · rename_i es e
      cases h
      obtain ⟨a', o, p1, p2, p3, p4⟩ := S.cell i _ e
      rw [h1] at p1; cases p1
      cases p4 with
      | @lst vs _ hl r => exact ⟨a, vs, rfl, rfl, h1, e, p2, hl, r⟩
    · cases h
  | _ => cases h
theorem fin_mkT {Z : WX} {σ : L2.St} {ds : List D} {vs : List V} {Q : VK} (h : Fin K mg (Rep K) Z W σ H (.ok (.tup ds) cs) Q) (S : RS K mg W cs H) (r : Reps K W vs ds) (hl : vs.length ≤ sizeLine) (p : Addr) (hp : H p = none) :
    Q (.ref p) (upd H p (.tup vs)) :=
  h (W.froze p (.tup vs)) (.ref p) _ (Step.froze S hp) (S.froze hp) (.tup upd_same hl (r.mono (Le.froze (S.dom hp))))
/-- a cell's new contents -/
theorem fin_put {Z : WX} {σ : L2.St} {i : Nat} {a : Addr} {c c0 : Cell} {u : HO} {x : V} {e : D} {Q : VK} (h : Fin K mg (Rep K) Z W σ H (.ok e (cs.set i (some c))) Q) (S : RS K mg W cs H) (e0 : cs[i]? = some (some c0)) (ea : W.ad[i]? = some a) (hc : CRep K mg W a u c) (r : Rep K W x e) :
    Q x (upd H a u) := h W x _ (Step.put ea (S.live e0 ea)) (S.put e0 ea hc) r
end

/-! ### whole numbers, texts, truths -/
def pI2 (C : Int → Int → Prop) [∀ i j, Decidable (C i j)] (g : Int → Int → D) : P2 := fun x y cs => match x, y with
  | .int i, .int j => if C i j then .ok (g i j) cs else .bad
  | _, _ => .bad
def pI0 (g : Int → Int → D) : P2 := fun x y cs => match x, y with
  | .int i, .int j => .ok (g i j) cs
  | _, _ => .bad
instance (i j : Int) : Decidable (CMul i j) := by unfold CMul; exact inferInstance
instance (i j : Int) : Decidable (CPow i j) := by unfold CPow; exact inferInstance
instance (i j : Int) : Decidable (CDivW i j) := by unfold CDivW; exact inferInstance
theorem ok_i2 {K : PySem.W.Frag} {mg : Str → Option Value} {C : Int → Int → Prop} [∀ i j, Decidable (C i j)] {g : Int → Int → V} {g' : Int → Int → D} (hg : ∀ i j W, Rep K W (g i j) (g' i j)) : Ok2 K mg (rI C g) (pI2 C g') := by
  intro Z W cs H σ x y d e Q S r1 r2 q
  unfold pI2 at q
  split at q
  · cases r1
    cases r2
    split at q
    · rename_i i j hC
      exact ⟨i, j, rfl, rfl, hC, q.ret S (hg i j W)⟩
    · exact q.elim
  · exact q.elim
theorem ok_i0 {K : PySem.W.Frag} {mg : Str → Option Value} {g : Int → Int → V} {g' : Int → Int → D} (hg : ∀ i j W, Rep K W (g i j) (g' i j)) : Ok2 K mg (rI0 g) (pI0 g') := by
  intro Z W cs H σ x y d e Q S r1 r2 q
  unfold pI0 at q
  split at q
  · cases r1
    cases r2
    rename_i i j
    exact ⟨i, j, rfl, rfl, q.ret S (hg i j W)⟩
  · exact q.elim
def pSub : P2 := pI0 fun i j => .int (i - j)
def pMul : P2 := pI2 CMul fun i j => .int (i * j)
def pDiv : P2 := pI2 CDivW fun i j => .int (i / j)
def pMod : P2 := pI2 (fun _ j => 0 < j) fun i j => .int (i % j)
def pPow : P2 := pI2 CPow fun i j => .int (i ^ j.toNat)
def pShl : P2 := pI2 CPow fun i j => .int (i * 2 ^ j.toNat)
def pShr : P2 := pI2 (fun _ j => 0 ≤ j) fun i j => .int (i / 2 ^ j.toNat)
def pBand : P2 := pI0 fun i j => .int (Builtin.bitAnd i j)
def pBor : P2 := pI0 fun i j => .int (Builtin.bitOr i j)
def pXor : P2 := pI0 fun i j => .int (Builtin.bitXor i j)
def pLt : P2 := pI0 fun i j => .bl (decide (i < j))
def pLe : P2 := pI0 fun i j => .bl (decide (i ≤ j))
def pGt : P2 := pI0 fun i j => .bl (decide (j < i))
def pGe : P2 := pI0 fun i j => .bl (decide (j ≤ i))
/-- + of ints, texts, lists, tuples; c: the new list is a cell -/
def pAdd (c : Bool) : P2 := fun x y cs => match x, y with
  | .int i, .int j => .ok (.int (i + j)) cs
  | .str i, .str j => if i.length + j.length ≤ sizeLine then .ok (.str (i ++ j)) cs else .bad
  | .tup a, .tup b => if a.length + b.length ≤ sizeLine then .ok (.tup (a ++ b)) cs else .bad
  | x, y => match deref cs x, deref cs y with
    | .lst a, .lst b => if a.length + b.length ≤ sizeLine then mkL c (a ++ b) cs else .bad
    | _, _ => .bad
/-- == of scalars -/
def scalD : D → D → Option Bool
  | .non, .non => some true | .non, .int _ => some false | .int _, .non => some false | .non, .bl _ => some false | .bl _, .non => some false | .non, .str _ => some false | .str _, .non => some false
  | .int a, .int b => some (decide (a = b)) | .bl a, .bl b => some (decide (a = b)) | .str a, .str b => some (decide (a = b))
  | .int _, .str _ => some false | .str _, .int _ => some false | .bl _, .str _ => some false | .str _, .bl _ => some false
  | _, _ => none
mutual
/-- data for == and order -/
def D.py : D → Option PyData
  | .non => some .none
  | .bl b => some (.bool b)
  | .int i => some (.int i)
  | .str s => some (.str s)
  | .tup xs => (D.pys xs).map .tuple
  | .lst xs => (D.pys xs).map .list
  | .scr ns => some (.list (ns.map .int))
  | _ => none
def D.pys : List D → Option (List PyData)
  | [] => some []
  | d :: r => match D.py d, D.pys r with
    | some x, some xs => some (x :: xs)
    | _, _ => none
end
/-- == at any depth, a cell's list at the outermost -/
def eqD (cs : Cs) (x y : D) : Option Bool := match scalD x y with
  | some b => some b
  | none => match D.py (deref cs x), D.py (deref cs y) with
    | some a, some b => if SeqAt.shaped a = true ∧ SeqAt.shaped b = true then some (PyData.eqv a b) else none
    | _, _ => none
def pEq : P2 := fun x y cs => match eqD cs x y with
  | some b => .ok (.bl b) cs
  | none => .bad
def pNe : P2 := fun x y cs => match eqD cs x y with
  | some b => .ok (.bl (!b)) cs
  | none => .bad
def pIsN : P2 := fun x y cs => match y with
  | .non => .ok (.bl (match x with | .non => true | _ => false)) cs
  | .bl b => match x with
    | .bl a => .ok (.bl (decide (a = b))) cs
    | _ => .bad
  | _ => .bad
def pIsNot : P2 := fun x y cs => match y with
  | .non => .ok (.bl (match x with | .non => false | _ => true)) cs
  | .bl b => match x with
    | .bl a => .ok (.bl (!decide (a = b))) cs
    | _ => .bad
  | _ => .bad

section
variable {K : PySem.W.Frag} {mg : Str → Option Value}
theorem ok_add {c : Bool} : Ok2 K mg (fun x y H Q => (rI0 (fun i j => .int (i + j)) x y H Q ∨ (∃ i j, x = .str i ∧ y = .str j ∧ i.length + j.length ≤ sizeLine ∧ Q (.str (i ++ j)) H)) ∨ (rCat x y H Q ∨ rCatA K x y H Q)) (pAdd c) := by
  intro Z W cs H σ x y d e Q S r1 r2 q
  unfold pAdd at q
  split at q
  · cases r1; cases r2
    exact .inl (.inl ⟨_, _, rfl, rfl, q.ret S (.int _)⟩)
  · cases r1; cases r2
    split at q
    · exact .inl (.inr ⟨_, _, rfl, rfl, by assumption, q.ret S (.str _)⟩)
    · exact q.elim
  · rename_i a b
    cases r1 with
    | @tup p vs _ h1 hl1 s1 =>
      cases r2 with
      | @tup p2 vs2 _ h2 hl2 s2 =>
        split at q
        · rename_i hz
          refine .inr (.inr ⟨p, p2, vs, vs2, rfl, rfl, .of (S.fzt h1), .of (S.fzt h2), by rw [s1.length, s2.length]; exact hz, fun z => ?_, fun z1 z2 => ?_, fun z1 z2 => ?_⟩)
          · subst z; cases s1; exact q.ret S (.tup h2 hl2 s2)
          · subst z2
            cases s2
            rw [List.append_nil] at q
            exact q.ret S (.tup h1 hl1 s1)
          · exact fin_mkT q S (s1.append s2) (by rw [List.length_append, s1.length, s2.length]; exact hz)
        · exact q.elim
  · split at q
    · rename_i a b e1 e2
      split at q
      · rename_i hz
        obtain ⟨p, vs, rfl, h1, hl1, s1⟩ := view_derL S r1 e1
        obtain ⟨p2, vs2, rfl, h2, hl2, s2⟩ := view_derL S r2 e2
        have hz' : vs.length + vs2.length ≤ sizeLine := by rw [s1.length, s2.length]; exact hz
        exact .inr (.inl ⟨p, p2, vs, vs2, rfl, rfl, h1, h2, hz', fin_mkL q S (s1.append s2) (by rw [List.length_append]; exact hz')⟩)
      · exact q.elim
    · exact q.elim
mutual
theorem dp_of {W : Wd} {cs : Cs} {H : Hp} (S : RS K mg W cs H) : ∀ {v : V} {d : D} {p : PyData}, Rep K W v d → D.py d = some p → Dp K H v p
  | _, _, _, .non, h => by cases h; exact .non
  | _, _, _, .bl b, h => by cases h; exact .bl b
  | _, _, _, .int i, h => by cases h; exact .int i
  | _, _, _, .str s, h => by cases h; exact .str s
  | _, _, _, @Rep.tup _ _ a vs ds h1 hl r, h => by
    have h : (D.pys ds).map PyData.tuple = some _ := h
    cases e : D.pys ds with
    | none => (rw [e] at h; cases h)
    | some ps => rw [e] at h; cases h; exact .tup (.of (S.fzt h1)) (dps_of S r e)
  | _, _, _, @Rep.lst _ _ a vs ds h1 hl r, h => by
    have h : (D.pys ds).map PyData.list = some _ := h
    cases e : D.pys ds with
    | none => (rw [e] at h; cases h)
    | some ps => rw [e] at h; cases h; exact .lst (.of (S.fzl h1)) (dps_of S r e)
  | _, _, _, @Rep.scr _ _ a ns h1 hl, h => by
    cases h
    refine .lst (S.scr h1) ?_
    clear h1 hl
    induction ns with
    | nil => exact .nil
    | cons n r ih => exact .cons (.int n) ih
theorem dps_of {W : Wd} {cs : Cs} {H : Hp} (S : RS K mg W cs H) : ∀ {vs : List V} {ds : List D} {ps : List PyData}, Reps K W vs ds → D.pys ds = some ps → DpAll K H vs ps
  | _, _, _, .nil, h => (by cases h; exact .nil)
  | _, _, _, @Reps.cons _ _ v d vs ds h1 t, h => by
    have h : (match D.py d, D.pys ds with | some x, some xs => some (x :: xs) | _, _ => none) = some _ := h
    split at h
    · rename_i x xs e1 e2
      cases h
      exact .cons (dp_of S h1 e1) (dps_of S t e2)
    · cases h
end
theorem dp_der {W : Wd} {cs : Cs} {H : Hp} (S : RS K mg W cs H) {v : V} {d : D} {p : PyData} (r : Rep K W v d) (h : D.py (deref cs d) = some p) : Dp K H v p := by
  cases hd : deref cs d with
  | lst ds =>
    rw [hd] at h
    obtain ⟨a, vs, rfl, h1, hl, s⟩ := view_derL S r hd
    have h : (D.pys ds).map PyData.list = some _ := h
    cases e : D.pys ds with
    | none => (rw [e] at h; cases h)
    | some ps => rw [e] at h; cases h; exact .lst (.of h1) (dps_of S s e)
  | dic ks => rw [hd] at h; cases h
  | cel i => rw [hd] at h; cases h
  | _ =>
    have e : deref cs d = d := by
      cases d with
      | cel i =>
        have hd : (match cs[i]? with | some (some (.lst ds)) => D.lst ds | some (some (.dic ks)) => .dic ks | _ => .cel i) = _ := hd
        split at hd <;> cases hd
      | _ => rfl
    rw [e] at h
    exact dp_of S r h
theorem scal_of {W : Wd} {v u : V} {d e : D} {b : Bool} (r1 : Rep K W v d) (r2 : Rep K W u e) (h : scalD d e = some b) : scal v u = true ∧ decide (v = u) = b := by
  cases r1 <;> cases r2 <;> first | (cases h; done) | (cases h; simp [scal]; done) | skip
theorem ok_eq : Ok2 K mg (fun x y H Q => rEq x y H Q ∨ rEqD K x y H Q) pEq := by
  intro Z W cs H σ x y d e Q S r1 r2 q
  unfold pEq eqD at q
  cases h : scalD d e with
  | some b =>
    rw [h] at q
    obtain ⟨h1, h2⟩ := scal_of r1 r2 h
    exact .inl ⟨h1, by rw [h2]; exact q.ret S (.bl _)⟩
  | none =>
    rw [h] at q
    dsimp only at q
    cases e1 : D.py (deref cs d) with
    | none => rw [e1] at q; exact q.elim
    | some a =>
      cases e2 : D.py (deref cs e) with
      | none => rw [e1, e2] at q; exact q.elim
      | some b =>
        rw [e1, e2] at q
        dsimp only at q
        by_cases hs : SeqAt.shaped a = true ∧ SeqAt.shaped b = true
        · rw [if_pos hs] at q
          exact .inr ⟨a, b, dp_der S r1 e1, dp_der S r2 e2, hs.1, hs.2, q.ret S (.bl _)⟩
        · rw [if_neg hs] at q; exact q.elim
theorem ok_ne : Ok2 K mg (fun x y H Q => rNe x y H Q ∨ rNeD K x y H Q) pNe := by
  intro Z W cs H σ x y d e Q S r1 r2 q
  unfold pNe eqD at q
  cases h : scalD d e with
  | some b =>
    rw [h] at q
    obtain ⟨h1, h2⟩ := scal_of r1 r2 h
    exact .inl ⟨h1, by rw [h2]; exact q.ret S (.bl _)⟩
  | none =>
    rw [h] at q
    dsimp only at q
    cases e1 : D.py (deref cs d) with
    | none => rw [e1] at q; exact q.elim
    | some a =>
      cases e2 : D.py (deref cs e) with
      | none => rw [e1, e2] at q; exact q.elim
      | some b =>
        rw [e1, e2] at q
        dsimp only at q
        by_cases hs : SeqAt.shaped a = true ∧ SeqAt.shaped b = true
        · rw [if_pos hs] at q
          exact .inr ⟨a, b, dp_der S r1 e1, dp_der S r2 e2, hs.1, hs.2, q.ret S (.bl _)⟩
        · rw [if_neg hs] at q; exact q.elim
theorem rep_isN {W : Wd} {v : V} {d : D} (r : Rep K W v d) : decide (v = V.non) = (match d with | .non => true | _ => false) := by
  cases r <;> simp
theorem ok_is : Ok2 K mg (fun x y H Q => (y = .non ∧ Q (.bl (decide (x = .non))) H) ∨ rIsB x y H Q) pIsN := by
  intro Z W cs H σ x y d e Q S r1 r2 q
  unfold pIsN at q
  split at q
  · cases r2
    refine .inl ⟨rfl, ?_⟩
    rw [rep_isN r1]
    have q := q.ret S (.bl _)
    cases r1 <;> exact q
  · split at q
    · cases r1; cases r2
      exact .inr ⟨_, _, rfl, rfl, q.ret S (.bl _)⟩
    · exact q.elim
  · exact q.elim
theorem ok_isnot : Ok2 K mg (fun x y H Q => (y = .non ∧ Q (.bl (!decide (x = .non))) H) ∨ rNotB x y H Q) pIsNot := by
  intro Z W cs H σ x y d e Q S r1 r2 q
  unfold pIsNot at q
  split at q
  · cases r2
    refine .inl ⟨rfl, ?_⟩
    rw [rep_isN r1]
    have q := q.ret S (.bl _)
    cases r1 <;> exact q
  · split at q
    · cases r1; cases r2
      exact .inr ⟨_, _, rfl, rfl, q.ret S (.bl _)⟩
    · exact q.elim
  · exact q.elim
end
section
variable {X : Cx} {Z : WX} {pos : Pos} {a b : Expr} {f h : SE}
theorem fe_add (c : Bool) (ha : FE X Z a f) (hb : FE X Z b h) : FE X Z (.BinOp a .Add b pos) (e2 (pAdd c) f h) := fe_op ((op_add.or op_add_str).or (op_cat.or op_catA)) ok_add ha hb
theorem fe_sub (ha : FE X Z a f) (hb : FE X Z b h) : FE X Z (.BinOp a .Sub b pos) (e2 pSub f h) := fe_op op_sub (ok_i0 fun i j _ => .int _) ha hb
theorem fe_mul (ha : FE X Z a f) (hb : FE X Z b h) : FE X Z (.BinOp a .Mult b pos) (e2 pMul f h) := fe_op op_mul (ok_i2 fun i j _ => .int _) ha hb
theorem fe_div (ha : FE X Z a f) (hb : FE X Z b h) : FE X Z (.BinOp a .FloorDiv b pos) (e2 pDiv f h) := fe_op op_fdivW (ok_i2 fun i j _ => .int _) ha hb
theorem fe_mod (ha : FE X Z a f) (hb : FE X Z b h) : FE X Z (.BinOp a .Mod b pos) (e2 pMod f h) := fe_op op_mod (ok_i2 fun i j _ => .int _) ha hb
theorem fe_pow (ha : FE X Z a f) (hb : FE X Z b h) : FE X Z (.BinOp a .Pow b pos) (e2 pPow f h) := fe_op op_pow (ok_i2 fun i j _ => .int _) ha hb
theorem fe_shl (ha : FE X Z a f) (hb : FE X Z b h) : FE X Z (.BinOp a .LShift b pos) (e2 pShl f h) := fe_op op_shl (ok_i2 fun i j _ => .int _) ha hb
theorem fe_shr (ha : FE X Z a f) (hb : FE X Z b h) : FE X Z (.BinOp a .RShift b pos) (e2 pShr f h) := fe_op op_shr (ok_i2 fun i j _ => .int _) ha hb
theorem fe_band (ha : FE X Z a f) (hb : FE X Z b h) : FE X Z (.BinOp a .BitAnd b pos) (e2 pBand f h) := fe_op op_and (ok_i0 fun i j _ => .int _) ha hb
theorem fe_bor (ha : FE X Z a f) (hb : FE X Z b h) : FE X Z (.BinOp a .BitOr b pos) (e2 pBor f h) := fe_op op_or (ok_i0 fun i j _ => .int _) ha hb
theorem fe_xor (ha : FE X Z a f) (hb : FE X Z b h) : FE X Z (.BinOp a .BitXor b pos) (e2 pXor f h) := fe_op op_xor (ok_i0 fun i j _ => .int _) ha hb
theorem fe_lt (ha : FE X Z a f) (hb : FE X Z b h) : FE X Z (.Compare a [.Lt] [b] pos) (e2 pLt f h) := fe_cmp op_lt (ok_i0 fun i j _ => .bl _) ha hb
theorem fe_le (ha : FE X Z a f) (hb : FE X Z b h) : FE X Z (.Compare a [.LtE] [b] pos) (e2 pLe f h) := fe_cmp op_le (ok_i0 fun i j _ => .bl _) ha hb
theorem fe_gt (ha : FE X Z a f) (hb : FE X Z b h) : FE X Z (.Compare a [.Gt] [b] pos) (e2 pGt f h) := fe_cmp op_gt (ok_i0 fun i j _ => .bl _) ha hb
theorem fe_ge (ha : FE X Z a f) (hb : FE X Z b h) : FE X Z (.Compare a [.GtE] [b] pos) (e2 pGe f h) := fe_cmp op_ge (ok_i0 fun i j _ => .bl _) ha hb
theorem ft_lt (ha : FE X Z a f) (hb : FE X Z b h) : FT X Z (.Compare a [.Lt] [b] pos) (tV (e2 pLt f h)) := ft_cmp op_lt (ok_i0 fun i j _ => .bl _) ha hb
theorem ft_le (ha : FE X Z a f) (hb : FE X Z b h) : FT X Z (.Compare a [.LtE] [b] pos) (tV (e2 pLe f h)) := ft_cmp op_le (ok_i0 fun i j _ => .bl _) ha hb
theorem ft_gt (ha : FE X Z a f) (hb : FE X Z b h) : FT X Z (.Compare a [.Gt] [b] pos) (tV (e2 pGt f h)) := ft_cmp op_gt (ok_i0 fun i j _ => .bl _) ha hb
theorem ft_ge (ha : FE X Z a f) (hb : FE X Z b h) : FT X Z (.Compare a [.GtE] [b] pos) (tV (e2 pGe f h)) := ft_cmp op_ge (ok_i0 fun i j _ => .bl _) ha hb
theorem fe_eq (hu : X.A.units + 64 < cLine) (ha : FE X Z a f) (hb : FE X Z b h) : FE X Z (.Compare a [.Eq] [b] pos) (e2 pEq f h) := fe_cmp (op_eq.or (op_eqD hu)) ok_eq ha hb
theorem fe_ne (hu : X.A.units + 64 < cLine) (ha : FE X Z a f) (hb : FE X Z b h) : FE X Z (.Compare a [.NotEq] [b] pos) (e2 pNe f h) := fe_cmp (op_ne.or (op_neD hu)) ok_ne ha hb
theorem ft_eq (hu : X.A.units + 64 < cLine) (ha : FE X Z a f) (hb : FE X Z b h) : FT X Z (.Compare a [.Eq] [b] pos) (tV (e2 pEq f h)) := ft_cmp (op_eq.or (op_eqD hu)) ok_eq ha hb
theorem ft_ne (hu : X.A.units + 64 < cLine) (ha : FE X Z a f) (hb : FE X Z b h) : FT X Z (.Compare a [.NotEq] [b] pos) (tV (e2 pNe f h)) := ft_cmp (op_ne.or (op_neD hu)) ok_ne ha hb
theorem fe_is (ha : FE X Z a f) (hb : FE X Z b h) : FE X Z (.Compare a [.Is] [b] pos) (e2 pIsN f h) := fe_cmp (op_isN.or op_isBl) ok_is ha hb
theorem fe_isnot (ha : FE X Z a f) (hb : FE X Z b h) : FE X Z (.Compare a [.IsNot] [b] pos) (e2 pIsNot f h) := fe_cmp (op_notN.or op_notBl) ok_isnot ha hb
theorem ft_is (ha : FE X Z a f) (hb : FE X Z b h) : FT X Z (.Compare a [.Is] [b] pos) (tV (e2 pIsN f h)) := ft_cmp (op_isN.or op_isBl) ok_is ha hb
theorem ft_isnot (ha : FE X Z a f) (hb : FE X Z b h) : FT X Z (.Compare a [.IsNot] [b] pos) (tV (e2 pIsNot f h)) := ft_cmp (op_notN.or op_notBl) ok_isnot ha hb
def pNeg : P1 := fun x cs => match x with
  | .int i => .ok (.int (-i)) cs
  | _ => .bad
theorem fe_neg (ha : FE X Z a f) : FE X Z (.UnaryOp .USub a pos) (e1 pNeg f) := fe_un un_neg (fun Z W cs H σ x d Q S r q => by
  unfold pNeg at q
  split at q
  · cases r; exact ⟨_, rfl, q.ret S (.int _)⟩
  · exact q.elim) ha
end
end LF

set_option Elab.async false
set_option maxRecDepth 100000
namespace LF
open HT PySem PySem.Spec PyProof.Rows
/-! ### tuple[::-1] -/
section
variable {w : World} {prog : Program} {A : Around} {E : Value → Shared → Prop} {s : Shared}
theorem adjust_back (n : Nat) : Builtin.Slice.sliceAdjust none none (-1) (n : Int) = ((n : Int) - 1, -1) := by
  (unfold Builtin.Slice.sliceAdjust)
  have h1 : ((-1 : Int) < 0) := by omega
  simp only [h1, if_true]
theorem places_back (n : Nat) : Builtin.Slice.slicePlaces ((n : Int) - 1) (-1) (-1) = n := by
  (unfold Builtin.Slice.slicePlaces)
  have h1 : ¬ ((-1 : Int) > 0) := by omega
  simp only [h1, if_false, show (- -1 : Int) = 1 from rfl, Int.ediv_one]
  split <;> omega
theorem applied_back {sl : Addr} {vl vu vs : Value} {n : Nat} {Q : Int × Int × Nat → Shared → Prop} (hs : s.heap.IsSliceOf sl vl vu vs) (pl : IsPart vl none) (pu : IsPart vu none) (ps : IsPart vs (some (-1)))
    (h : Q ((n : Int) - 1, -1, n) s) : wpAny (model prog w) A (Builtin.Slice.sliceApplied (.ref sl) (pure (n : Int))) Q E s := by
  obtain ⟨ob, hob, hcl, hda⟩ := id hs
  (unfold Builtin.Slice.sliceApplied Builtin.Slice.sliceFields)
  refine wpAny_bind (wpAny_bind (wpAny_field hob hda (x := vl) rfl (wpAny_bind (wpAny_field hob hda (x := vu) rfl (wpAny_bind (wpAny_field hob hda (x := vs) rfl (wpAny_pure ?_)))))))
  refine wpAny_bind (slicePart_ ps ?_)
  show wpAny _ _ (if ((-1 : Int) == 0) = true then _ else _) _ _ s
  rw [if_neg (by decide)]
  (refine wpAny_bind (slicePart_ pl (wpAny_bind (slicePart_ pu (wpAny_bind (wpAny_pure ?_))))))
  show wpAny _ _ (match Builtin.Slice.sliceAdjust none none (-1) (n : Int) with | (lo, hi) => pure (lo, (-1 : Int), Builtin.Slice.slicePlaces lo hi (-1))) _ _ s
  rw [adjust_back n]
  show wpAny _ _ (pure ((n : Int) - 1, (-1 : Int), Builtin.Slice.slicePlaces ((n : Int) - 1) (-1) (-1))) _ _ s
  rw [places_back]
  exact wpAny_pure h
theorem pick_back (xs : Array Value) : ((List.range xs.size).filterMap fun (m : Nat) => xs[(((xs.size : Int) - 1) + (m : Int) * (-1)).toNat]?).toArray = xs.toList.reverse.toArray := by
  have e : (List.range xs.size).filterMap (fun (m : Nat) => xs[(((xs.size : Int) - 1) + (m : Int) * (-1)).toNat]?) = ((List.range xs.size).map fun k => xs.size - 1 - k).filterMap (xs[·]?) := by
    rw [List.filterMap_map]
    congr 1
    funext m
    have : (((xs.size : Int) - 1) + (m : Int) * (-1)).toNat = xs.size - 1 - m := by omega
    rw [this]; rfl
  rw [e, PySem.W.krv_range, List.filterMap_reverse, PySem.W.krv_all]
theorem getItem_tuple_back {t sl : Addr} {items : Array Value} {vl vu vs : Value} {Q : Value → Shared → Prop} (ht : IsTup s.heap t items) (hs : s.heap.IsSliceOf sl vl vu vs) (pl : IsPart vl none) (pu : IsPart vu none) (ps : IsPart vs (some (-1)))
    (h : Q (.ref s.heap.objs.size) { s with heap := s.heap.push { cls := .type "tuple", data := .seq items.toList.reverse.toArray } })
    (big : items.size ≤ sizeLine) : wpAny (model prog w) A (getItem (.ref t) (.ref sl)) Q E s := by
  have fits : sizeOk (.seq items.toList.reverse.toArray) := by
    show items.toList.reverse.toArray.size ≤ sizeLine
    rw [List.size_toArray, List.length_reverse, Array.length_toList]
    exact big
  obtain ⟨ob, hob, hcl, hda⟩ := id hs
  have hT : s.TypeIs (.ref sl) "slice" := ⟨ob, hob, hcl⟩
  unfold getItem
  (try with_reducible refine wpAny_holding ?_)
  (first | refine wpAny_bind (wpAny_pure ?_) | skip)
  (refine wpAny_bind (wpAny_sequenceKey ht.typeIs (by decide) ?_))
  refine wpAny_bind (wpAny_callSpecial?_slot (name := Str.ofString "__getitem__") ht.typeIs PyProof.Rows.slot_tuple_getitem ?_)
  refine wpAny_call_entry PyProof.Rows.slot_tuple_getitem ht.typeIs entry_tuple_getitem ?_ (args_tuple_getitem _ _)
  (show wpAny _ _ (Builtin.Tuple.tupleItemsOf (.ref t) >>= _) _ _ s)
  (refine wpAny_bind (tupleItemsOf_ ht ?_))
  (refine wpAny_bind (wpAny_typeOf hT ?_))
  rw [if_pos (by decide)]
  refine wpAny_bind (applied_back (n := items.size) hs pl pu ps ?_)
  have hno : ¬ (((((items.size : Int) - 1) == 0) && (-1 : Int) == 1 && items.size == items.size) = true) := by
    intro q
    (rw [Bool.and_eq_true, Bool.and_eq_true] at q)
    exact absurd q.1.2 (by decide)
  show wpAny _ _ (if ((((items.size : Int) - 1) == 0) && (-1 : Int) == 1 && items.size == items.size) = true then _ else _) _ _ s
  rw [if_neg hno, pick_back]
  first
    | exact wpAny_bind (m := Builtin.Tuple.tupleExact _) (wpAny_newObj_type (wpAny_pure ⟨_, rfl, wpAny_pure h⟩) fits)
    | exact wpAny_bind (wpAny_bind (m := Builtin.Tuple.tupleExact _) (wpAny_newObj_type (wpAny_pure ⟨_, rfl, wpAny_pure h⟩) fits))
end
end LF
namespace LF
open L2 PySem PySem.Spec PyProof.Rows
/-- xs[::-1], a list's or a tuple's -/
def tRevA (K : PySem.W.Frag) (te : TE) : TE := fun σ H Q => te σ H fun x H1 => ∃ a xs, x = .ref a ∧ ((SqL K H1 a xs ∧ ∀ p, H1 p = none → Q (.ref p) (upd H1 p (.lst xs.reverse))) ∨ (SqT K H1 a xs ∧ ∀ p, H1 p = none → Q (.ref p) (upd H1 p (.tup xs.reverse))))
theorem pe_revA {X : Cx} {e : Expr} {te : TE} {k : Nat} {p1 p2 p3 pos : Pos} (he : PE X e te) : PE X (.Subscript e (.Slice none none (some (.UnaryOp .USub (.Constant (.int 1) k p1) p2)) p3) pos) (tRevA X.K te) := by
  refine ⟨fun pn sa sg H Q I h => ?_⟩
  refine Subscript_ (thn (he.run pn sa sg H _ I h) fun v s1 ⟨x, H1, I1, r1, q1⟩ => ?_)
  obtain ⟨a, xs, ex, q⟩ := q1
  subst ex
  cases r1
  (have hst : PO X (some (.UnaryOp .USub (.Constant (.int 1) k p1) p2)) (tPart (tUn (rU fun i => .int (-i)) (tC (.int 1)))) := po_some (pe_un un_neg pe_int))
  refine wpAny_Slice (thn (po_none.run pn s1 sg H1 (fun o H2 => o = none ∧ H2 = H1) I1 ⟨rfl, rfl⟩) fun vl s2 ⟨l, H2, I2, pl, el, e2⟩ => ?_)
  subst el e2
  refine thn (po_none.run pn s2 sg H2 (fun o H3 => o = none ∧ H3 = H2) I2 ⟨rfl, rfl⟩) fun vu s3 ⟨u, H3, I3, pu, eu, e3⟩ => ?_
  subst eu e3
  refine thn (hst.run pn s3 sg H3 (fun o H4 => o = some (-1) ∧ H4 = H3) I3 ⟨1, rfl, -1, rfl, rfl, rfl⟩) fun vs s4 ⟨o, H4, I4, ps, eo, e4⟩ => ?_
  subst eo e4
  have I5 : Inv X pn sg H4 { s4 with heap := s4.heap.push { cls := .type "slice", data := .fields #[vl, vu, vs] } } := I4.kept (t' := s4.toks) fun b ob z => Heap.get?_push_of_some _ z
  show wpAny (model X.prog X.w) X.A (subscriptTail e (.Slice none none (some (.UnaryOp .USub (.Constant (.int 1) k p1) p2)) p3) (.ref a) (.ref s4.heap.objs.size)) (EP X pn sg Q) X.xe { s4 with heap := s4.heap.push { cls := .type "slice", data := .fields #[vl, vu, vs] } }
  rcases q with ⟨hx, q⟩ | ⟨hx, q⟩
  · obtain ⟨zs, r, ht, hz⟩ := I5.list hx
    have hlen := r.length
    (refine tail_any (ops := [.ref a, .ref s4.heap.objs.size]) ht.isList.typeIs (PySem.slot_list_getitem.lookup) ?_ (by with_unfolding_all rfl))
    (refine wpAny_getItem_list_slice ht.isList (Heap.IsSliceOf.new _ vl vu vs) pl pu ps (by decide) ?_ (by rw [List.size_toArray]; omega))
    rw [PySem.W.krv_pick]
    exact ⟨.ref _, _, I5.laid (t' := s4.toks) (o := .lst xs.reverse) (fun b ob z => Heap.get?_push_of_some _ z) (Nat.le_refl _) ⟨by rw [List.length_reverse]; exact hz, _, 0, r.reverse, Heap.get?_push_size _ rfl⟩, rfl, q _ (I5.hok.fresh (Nat.le_refl _))⟩
  · obtain ⟨zs, r, ht, hz⟩ := I5.tuple hx
    have hlen := r.length
    refine tail_any (ops := [.ref a, .ref s4.heap.objs.size]) ht.typeIs (PyProof.Rows.slot_tuple_getitem.lookup) ?_ (by with_unfolding_all rfl)
    refine getItem_tuple_back ht (Heap.IsSliceOf.new _ vl vu vs) pl pu ps ?_ (by rw [List.size_toArray]; omega)
    exact ⟨.ref _, _, I5.laid (t' := s4.toks) (o := .tup xs.reverse) (fun b ob z => Heap.get?_push_of_some _ z) (Nat.le_refl _) ⟨by rw [List.length_reverse]; exact hz, _, r.reverse, IsTup.new _ _⟩, rfl, q _ (I5.hok.fresh (Nat.le_refl _))⟩
end LF

set_option Elab.async false
set_option maxRecDepth 100000
namespace LF
open PySem PySem.Spec L2
/-! ### subscripts, slices -/
def pItem : P2 := fun x y cs => match y with
  | .int i => match x with
    | .str s => if s.length ≤ sizeLine then (match atI s.cps.toList i with
      | some c => .ok (.str ⟨#[c]⟩) cs
      | none => .bad) else .bad
    | .tup ds => match atI ds i with
      | some d => .ok d cs
      | none => .bad
    | x => match seqL cs x with
      | some ds => match atI ds i with
        | some d => .ok d cs
        | none => .bad
      | none => .bad
  | _ => .bad
theorem atI_reps {K : PySem.W.Frag} {W : Wd} {vs : List V} {ds : List D} {i : Int} {d : D} (r : Reps K W vs ds) (h : atI ds i = some d) : ∃ v, atI vs i = some v ∧ Rep K W v d := by
  unfold atI at h ⊢
  rw [r.length]
  cases e : ixN ds.length i with
  | none => (rw [e] at h; cases h)
  | some j => rw [e] at h; exact r.get h
theorem ok_item {K : PySem.W.Frag} {mg : Str → Option Value} : Ok2 K mg (rIx K) pItem := by
  intro Z W cs H σ x y d e Q S r1 r2 q
  unfold pItem at q
  split at q
  · rename_i i
    cases r2
    split at q
    · cases r1
      split at q
      · rename_i hz
        split at q
        · rename_i c hc
          exact .inr (.inr ⟨_, i, c, rfl, rfl, hz, hc, q.ret S (.str _)⟩)
        · exact q.elim
      · exact q.elim
    · rename_i ds
      split at q
      · rename_i d' hd
        cases r1 with
        | @tup a vs _ h1 hl s =>
          obtain ⟨v, e1, r⟩ := atI_reps s hd
          exact .inr (.inl ⟨a, vs, i, v, rfl, rfl, .of (S.fzt h1), e1, q.ret S r⟩)
      · exact q.elim
    · split at q
      · rename_i ds hds
        split at q
        · rename_i d' hd
          obtain ⟨a, vs, rfl, h1, hl, s⟩ := view_seqL S r1 hds
          obtain ⟨v, e1, r⟩ := atI_reps s hd
          exact .inl ⟨a, vs, i, v, rfl, rfl, h1, e1, q.ret S r⟩
        · exact q.elim
      · exact q.elim
  · exact q.elim
/-- a part of a slice -/
abbrev SO := Sl → Cs → Res (Option Int)
def oNo : SO := fun _ cs => .ok none cs
def oSome (f : SE) : SO := fun sl cs => (f sl cs).bind fun d cs1 => match d with
  | .int i => .ok (some i) cs1
  | _ => .bad
def RO (_ : Wd) (a b : Option Int) : Prop := a = b
def FO (X : Cx) (Z : WX) (e : Option Expr) (f : SO) : Prop := PO X e (up X.K X.mg RO Z f)
def cutD {α : Type} (xs : List α) (lo hi : Option Int) : List α := (xs.drop (HT.sIx xs.length 0 lo)).take (HT.sIx xs.length xs.length hi - HT.sIx xs.length 0 lo)
def pSlice (c : Bool) (d : D) (lo hi : Option Int) (cs : Cs) : Res D := match d with
  | .str s => if s.length ≤ sizeLine then .ok (.str (cutS s lo hi)) cs else .bad
  | .tup ds => .ok (.tup (cutD ds lo hi)) cs
  | d => match seqL cs d with
    | some ds => mkL c (cutD ds lo hi) cs
    | none => .bad
def eSl (c : Bool) (f : SE) (lo hi : SO) : SE := fun sl cs => (f sl cs).bind fun d cs1 => (lo sl cs1).bind fun l cs2 => (hi sl cs2).bind fun h cs3 => pSlice c d l h cs3
theorem cutD_length {α : Type} (xs : List α) (lo hi : Option Int) : (cutD xs lo hi).length ≤ xs.length := by
  unfold cutD
  rw [List.length_take]; rw [List.length_drop]
  omega
theorem cutD_reps {K : PySem.W.Frag} {W : Wd} {vs : List V} {ds : List D} (r : Reps K W vs ds) (lo hi : Option Int) : Reps K W (cutV vs lo hi) (cutD ds lo hi) := by
  unfold cutV cutD
  rw [r.length]
  exact (r.drop _).take _
theorem sl_okS {X : Cx} : SlR X (fun x lo hi H Q => ∃ z, x = .str z ∧ z.length ≤ sizeLine ∧ Q (.str (cutS z lo hi)) H) := sl_str
section
variable {X : Cx} {Z : WX} {pos : Pos} {a b e : Expr} {f h : SE}
theorem fe_item (ha : FE X Z a f) (hb : FE X Z b h) (hs : PlainIx b := by exact fun _ _ => rfl) : FE X Z (.Subscript a b pos) (e2 pItem f h) := PEimp (pe_ix ix_seq ha hb hs) (up_op2 ok_item)
theorem fo_no : FO X Z none oNo := ⟨fun pins s σ H Q I ⟨W, sl, cs, S, L, q⟩ => po_none.run pins s σ H Q I (q.ret (b := none) S rfl)⟩
theorem fo_some (ha : FE X Z a f) : FO X Z (some a) (oSome f) := ⟨fun pins s σ H Q I ⟨W, sl, cs, S, L, q⟩ => (po_some ha).run pins s σ H Q I (by
  refine up_bind (R1 := Rep X.K) S L q fun W1 d cs1 x H1 st1 S1 L1 r1 q1 => ?_
  cases d with
  | int i => exact ⟨i, rep_int r1, q1.ret S1 rfl⟩
  | _ => exact q1.elim)⟩
theorem fe_slice {lo hi : Option Expr} {p2 : Pos} {l u : SO} (c : Bool) (he : FE X Z e f) (hl : FO X Z lo l) (hu : FO X Z hi u) : FE X Z (.Subscript e (.Slice lo hi none p2) pos) (eSl c f l u) :=
  PEimp (pe_slice ((sl_list.or sl_tupA).or sl_okS) he hl hu) fun σ H Q ⟨W, sl, cs, S, L, q⟩ => by
    refine up_bind (R1 := Rep X.K) S L q fun W1 d cs1 x H1 st1 S1 L1 r1 q1 => ?_
    refine up_bind (R1 := RO) S1 L1 q1 fun W2 lo cs2 lo' H2 st2 S2 L2 r2 q2 => ?_
    cases r2
    refine up_bind (R1 := RO) S2 L2 q2 fun W3 hi cs3 hi' H3 st3 S3 L3 r3 q3 => ?_
    cases r3
    have r1 := (r1.mono st2.le).mono st3.le
    unfold pSlice at q3
    split at q3
    · cases r1
      split at q3
      · rename_i hz
        exact .inr ⟨_, rfl, hz, q3.ret S3 (.str _)⟩
      · exact q3.elim
    · cases r1 with
      | @tup a vs es h1 hl s =>
        refine .inl (.inr ⟨a, vs, rfl, .of (S3.fzt h1), fun w => ?_, fun w p hp => ?_⟩)
        · have e : ∀ es : List D, Reps X.K W3 vs es → cutD es lo hi = es := fun es s => by
            unfold cutD
            rw [← s.length, w.1, w.2, List.drop_zero, Nat.sub_zero, s.length, List.take_length]
          rw [e _ s] at q3
          exact q3.ret S3 (.tup h1 hl s)
        · exact fin_mkT q3 S3 (cutD_reps s lo hi) (Nat.le_trans (cutV_length vs lo hi) hl) p hp
    · split at q3
      · rename_i ds hds
        obtain ⟨a, vs, rfl, h1, hl, s⟩ := view_seqL S3 r1 hds
        exact .inl (.inl ⟨a, vs, rfl, h1, fin_mkL q3 S3 (cutD_reps s lo hi) (Nat.le_trans (cutV_length vs lo hi) hl)⟩)
      · exact q3.elim
/-- xs[::-1] -/
def pRev (c : Bool) : P1 := fun d cs => match d with
  | .tup ds => .ok (.tup ds.reverse) cs
  | d => match seqL cs d with
    | some ds => mkL c ds.reverse cs
    | none => .bad
theorem fe_rev {k : Nat} {p1 p2 p3 : Pos} (c : Bool) (he : FE X Z e f) : FE X Z (.Subscript e (.Slice none none (some (.UnaryOp .USub (.Constant (.int 1) k p1) p2)) p3) pos) (e1 (pRev c) f) :=
  PEimp (pe_revA he) fun σ H Q ⟨W, sl, cs, S, L, q⟩ => by
    refine up_bind (R1 := Rep X.K) S L q fun W1 d cs1 x H1 st1 S1 L1 r1 q1 => ?_
    unfold pRev at q1
    split at q1
    · cases r1 with
      | @tup a vs es h1 hl s => exact ⟨a, vs, rfl, .inr ⟨.of (S1.fzt h1), fun p hp => fin_mkT q1 S1 s.reverse (by rw [List.length_reverse]; exact hl) p hp⟩⟩
    · split at q1
      · rename_i ds hds
        obtain ⟨a, vs, rfl, h1, hl, s⟩ := view_seqL S1 r1 hds
        exact ⟨a, vs, rfl, .inl ⟨h1, fin_mkL q1 S1 s.reverse (by rw [List.length_reverse]; exact hl)⟩⟩
      · exact q1.elim
/-! ### displays -/
def mkL' (c : Bool) (ds : List D) (cs : Cs) : Res D := if ds.length ≤ 10000 then mkL c ds cs else .bad
def mkT (ds : List D) (cs : Cs) : Res D := if ds.length ≤ 10000 then .ok (.tup ds) cs else .bad
theorem le_line {n : Nat} (h : n ≤ 10000) : n ≤ sizeLine := by rw [sizeLine_eq]; omega
theorem fe_lst {es : List Expr} {t : SA} (c : Bool) (ha : FA X Z es t) : FE X Z (.List es pos) (eN (mkL' c) t) :=
  PEimp (pe_lst ha) fun σ H Q ⟨W, sl, cs, S, L, q⟩ => by
    refine up_bind (R1 := Reps X.K) S L q fun W1 ds cs1 vs H1 st1 S1 L1 r1 q1 => ?_
    unfold mkL' at q1
    split at q1
    · rename_i hl
      have hl' : vs.length ≤ sizeLine := le_line (by rw [r1.length]; exact hl)
      exact ⟨hl', fin_mkL q1 S1 r1 hl'⟩
    · exact q1.elim
theorem fe_tup {es : List Expr} {k : Nat} {t : SA} (ha : FA X Z es t) : FE X Z (.Tuple es k pos) (eN mkT t) :=
  PEimp (pe_tup ha) fun σ H Q ⟨W, sl, cs, S, L, q⟩ => by
    refine up_bind (R1 := Reps X.K) S L q fun W1 ds cs1 vs H1 st1 S1 L1 r1 q1 => ?_
    unfold mkT at q1
    split at q1
    · rename_i hl
      have hl' : vs.length ≤ sizeLine := le_line (by rw [r1.length]; exact hl)
      exact ⟨hl', fin_mkT q1 S1 r1 hl'⟩
    · exact q1.elim
end
/-! ### built-ins by values -/
def dLen (cs : Cs) (d : D) : Option Nat := match d with
  | .str s => if s.length ≤ sizeLine then some s.length else none
  | .tup ds => some ds.length
  | .dic ks => some ks.length
  | .cel i => match cs[i]? with
    | some (some (.lst ds)) => some ds.length
    | some (some (.dic ks)) => some ks.length
    | _ => none
  | .lst ds => some ds.length
  | .scr ns => some ns.length
  | _ => none
def bLen (ds : List D) (cs : Cs) : Res D := match ds with
  | [d] => match dLen cs d with
    | some n => .ok (.int (n : Nat)) cs
    | none => .bad
  | _ => .bad
def rLen (K : PySem.W.Frag) : List V → Hp → VK → Prop := fun xs H Q => (∃ p ys, xs = [.ref p] ∧ (SqL K H p ys ∨ SqT K H p ys) ∧ Q (.int ys.length) H) ∨ (∃ z, xs = [.str z] ∧ z.length ≤ sizeLine ∧ Q (.int z.length) H)
def bMin2 (ds : List D) (cs : Cs) : Res D := match ds with
  | [.int i, .int j] => .ok (.int (if j < i then j else i)) cs
  | _ => .bad
def bMax2 (ds : List D) (cs : Cs) : Res D := match ds with
  | [.int i, .int j] => .ok (.int (if j > i then j else i)) cs
  | _ => .bad
def bAbs (ds : List D) (cs : Cs) : Res D := match ds with
  | [.int i] => .ok (.int (if i < 0 then -i else i)) cs
  | _ => .bad
def bInt (ds : List D) (cs : Cs) : Res D := match ds with
  | [.int i] => .ok (.int i) cs
  | [.bl k] => .ok (.int (if k then 1 else 0)) cs
  | [.str s] => match PySem.intText? s with
    | some n => if s.length ≤ 640 then .ok (.int n) cs else .bad
    | none => .bad
  | _ => .bad
def bStr (ds : List D) (cs : Cs) : Res D := match ds with
  | [.int i] => if i.natAbs.log2 < 1920 then .ok (.str (toString i)) cs else .bad
  | _ => .bad
def bTup (ds : List D) (cs : Cs) : Res D := match ds with
  | [.tup ds] => .ok (.tup ds) cs
  | [d] => match seqL cs d with
    | some ds => .ok (.tup ds) cs
    | none => .bad
  | _ => .bad
def bList (c : Bool) (ds : List D) (cs : Cs) : Res D := match ds with
  | [.tup ds] => mkL c ds cs
  | [d] => match seqL cs d with
    | some ds => mkL c ds cs
    | none => .bad
  | _ => .bad
def allInt : List D → Option (List Int)
  | [] => some []
  | .int i :: r => (allInt r).map (i :: ·)
  | _ :: _ => none
theorem allInt_eq : ∀ {ds : List D} {ns : List Int}, allInt ds = some ns → ds = ns.map D.int
  | [], _, h => by cases h; rfl
  | d :: r, ns, h => by
    cases d with
    | int i =>
      have h : (allInt r).map (i :: ·) = some ns := h
      cases e : allInt r with
      | none => (rw [e] at h; cases h)
      | some ms => rw [e] at h; cases h; rw [allInt_eq e]; rfl
    | _ => cases h
def intL (cs : Cs) (d : D) : Option (List Int) := (seqL cs d).bind allInt
def bSum (ds : List D) (cs : Cs) : Res D := match ds with
  | [d] => match intL cs d with
    | some ns => .ok (.int ns.sum) cs
    | none => .bad
  | _ => .bad
def bMaxL (ds : List D) (cs : Cs) : Res D := match ds with
  | [d] => match intL cs d with
    | some (n :: ns) => .ok (.int (ns.foldl max n)) cs
    | _ => .bad
  | _ => .bad
def bMinL (ds : List D) (cs : Cs) : Res D := match ds with
  | [d] => match intL cs d with
    | some (n :: ns) => .ok (.int (ns.foldl min n)) cs
    | _ => .bad
  | _ => .bad
section
variable {K : PySem.W.Frag} {mg : Str → Option Value} {W : Wd} {cs : Cs} {H : Hp} {v : V} {d : D}
theorem reps1 {vs : List V} {d : D} (r : Reps K W vs [d]) : ∃ v, vs = [v] ∧ Rep K W v d := by
  cases r with
  | cons h t => cases t; exact ⟨_, rfl, h⟩
theorem reps2 {vs : List V} {d e : D} (r : Reps K W vs [d, e]) : ∃ v u, vs = [v, u] ∧ Rep K W v d ∧ Rep K W u e := by
  cases r with
  | cons h t =>
    cases t with
    | cons h2 t2 => cases t2; exact ⟨_, _, rfl, h, h2⟩
theorem view_intL (S : RS K mg W cs H) (r : Rep K W v d) {ns : List Int} (h : intL cs d = some ns) : ∃ a, v = .ref a ∧ SqL K H a (ns.map V.int) := by
  unfold intL at h
  cases e : seqL cs d with
  | none => (rw [e] at h; cases h)
  | some ds =>
    rw [e] at h
    obtain ⟨a, vs, rfl, h1, hl, s⟩ := view_seqL S r e
    have e2 := allInt_eq h
    subst e2
    rw [Reps.ints_inv s] at h1
    exact ⟨a, rfl, h1⟩
/-- len, a dict too -/
def rLenA (K : PySem.W.Frag) : List V → Hp → VK → Prop := fun xs H Q => (∃ x n, xs = [x] ∧ LenV K x H n ∧ Q (.int n) H) ∨ ∃ a kvs, xs = [V.ref a] ∧ Rd H a (.dK kvs) ∧ Q (.int kvs.length) H
theorem call_lenR {X : Cx} : CallR X (.builtin "len") (fun xs H Q => ∃ a kvs, xs = [V.ref a] ∧ Rd H a (.dK kvs) ∧ Q (.int kvs.length) H) := by
  intro pn s σ H xs us Q I r h
  obtain ⟨a, kvs, rfl, ha2, q⟩ := h
  obtain ⟨y, rfl, ru⟩ := vals1 r
  cases ru
  exact d_len I ha2 fun t s' I' => ⟨.int kvs.length, H, I', ⟨t, rfl⟩, q⟩
theorem ok_len : OkN K mg (rLenA K) bLen := by
  intro Z W cs H σ xs ds Q S r q
  unfold bLen at q
  split at q
  · rename_i d
    obtain ⟨v, rfl, r1⟩ := reps1 r
    split at q
    · rename_i n hn
      have q := q.ret S (.int _)
      have go : LenV K v H n → rLenA K [v] H Q := fun h => .inl ⟨v, n, rfl, h, q⟩
      cases r1 with
      | @str s =>
        have hn : (if s.length ≤ sizeLine then some s.length else none) = some n := hn
        split at hn
        · cases hn; exact go ⟨by assumption, rfl⟩
        · cases hn
      | @tup a vs ds h1 hl s => cases hn; exact go (.inr ⟨vs, .of (S.fzt h1), s.length.symm⟩)
      | @lst a vs ds h1 hl s => cases hn; exact go (.inl ⟨vs, .of (S.fzl h1), s.length.symm⟩)
      | @scr a ns h1 hl => cases hn; exact go (.inl ⟨_, S.scr h1, by rw [List.length_map]⟩)
      | @cel a i h1 =>
        have hn : (match cs[i]? with
          | some (some (.lst ds)) => some ds.length
          | some (some (.dic ks)) => some ks.length
          | _ => none) = some n := hn
        split at hn
        · rename_i ds e
          cases hn
          obtain ⟨a', o, p1, p2, p3, p4⟩ := S.cell i _ e
          rw [h1] at p1; cases p1
          cases p4 with
          | @lst vs _ hl s => exact go (.inl ⟨vs, .of p2, s.length.symm⟩)
        · rename_i ks e
          cases hn
          obtain ⟨a', o, p1, p2, p3, p4⟩ := S.cell i _ e
          rw [h1] at p1; cases p1
          cases p4 with
          | @dic kvs _ hl s =>
            refine .inr ⟨a, kvs, rfl, .inl p2, ?_⟩
            rw [s.length]; exact q
        · cases hn
      | @dic a kvs ks h1 hl s =>
        cases hn
        refine .inr ⟨a, kvs, rfl, S.fzd h1, ?_⟩
        rw [s.length]; exact q
      | _ => cases hn
    · exact q.elim
  · exact q.elim
theorem ok_min2 : OkN K mg (fun xs H Q => ∃ i j, xs = [.int i, .int j] ∧ Q (.int (if j < i then j else i)) H) bMin2 := by
  intro Z W cs H σ xs ds Q S r q
  unfold bMin2 at q
  split at q
  · obtain ⟨v, u, rfl, r1, r2⟩ := reps2 r
    cases r1; cases r2
    exact ⟨_, _, rfl, q.ret S (.int _)⟩
  · exact q.elim
theorem ok_max2 : OkN K mg (fun xs H Q => ∃ i j, xs = [.int i, .int j] ∧ Q (.int (if j > i then j else i)) H) bMax2 := by
  intro Z W cs H σ xs ds Q S r q
  unfold bMax2 at q
  split at q
  · obtain ⟨v, u, rfl, r1, r2⟩ := reps2 r
    cases r1; cases r2
    exact ⟨_, _, rfl, q.ret S (.int _)⟩
  · exact q.elim
theorem ok_abs : OkN K mg (fun xs H Q => ∃ i, xs = [.int i] ∧ Q (.int (if i < 0 then -i else i)) H) bAbs := by
  intro Z W cs H σ xs ds Q S r q
  unfold bAbs at q
  split at q
  · obtain ⟨v, rfl, r1⟩ := reps1 r
    cases r1
    exact ⟨_, rfl, q.ret S (.int _)⟩
  · exact q.elim
theorem ok_int : OkN K mg (fun xs H Q => ((∃ i, xs = [.int i] ∧ Q (.int i) H) ∨ ∃ k, xs = [.bl k] ∧ Q (.int (if k then 1 else 0)) H) ∨ (∃ a n, xs = [.str a] ∧ PySem.intText? a = some n ∧ a.length ≤ 640 ∧ Q (.int n) H)) bInt := by
  intro Z W cs H σ xs ds Q S r q
  unfold bInt at q
  split at q
  · obtain ⟨v, rfl, r1⟩ := reps1 r
    cases r1
    exact .inl (.inl ⟨_, rfl, q.ret S (.int _)⟩)
  · obtain ⟨v, rfl, r1⟩ := reps1 r
    cases r1
    exact .inl (.inr ⟨_, rfl, q.ret S (.int _)⟩)
  · obtain ⟨v, rfl, r1⟩ := reps1 r
    cases r1
    split at q
    · rename_i n hn
      split at q
      · exact .inr ⟨_, n, rfl, hn, by assumption, q.ret S (.int _)⟩
      · exact q.elim
    · exact q.elim
  · exact q.elim
theorem ok_str : OkN K mg (fun xs H Q => ∃ i, xs = [.int i] ∧ i.natAbs.log2 < 1920 ∧ Q (.str (toString i)) H) bStr := by
  intro Z W cs H σ xs ds Q S r q
  unfold bStr at q
  split at q
  · obtain ⟨v, rfl, r1⟩ := reps1 r
    cases r1
    split at q
    · exact ⟨_, rfl, by assumption, q.ret S (.str _)⟩
    · exact q.elim
  · exact q.elim
theorem ok_tup : OkN K mg (fun xs H Q => ∃ p ys, xs = [.ref p] ∧ ((SqL K H p ys ∧ ∀ l, H l = none → Q (.ref l) (upd H l (.tup ys))) ∨ (SqT K H p ys ∧ Q (.ref p) H))) bTup := by
  intro Z W cs H σ xs ds Q S r q
  unfold bTup at q
  split at q
  · obtain ⟨v, rfl, r1⟩ := reps1 r
    cases r1 with
    | @tup a vs ds h1 hl s => exact ⟨a, vs, rfl, .inr ⟨.of (S.fzt h1), q.ret S (.tup h1 hl s)⟩⟩
  · obtain ⟨v, rfl, r1⟩ := reps1 r
    split at q
    · rename_i es hes
      obtain ⟨a, vs, rfl, h1, hl, s⟩ := view_seqL S r1 hes
      exact ⟨a, vs, rfl, .inl ⟨h1, fin_mkT q S s hl⟩⟩
    · exact q.elim
  · exact q.elim
theorem ok_list {c : Bool} : OkN K mg (fun xs H Q => ∃ p ys, xs = [.ref p] ∧ (SqL K H p ys ∨ SqT K H p ys) ∧ ∀ l, H l = none → Q (.ref l) (upd H l (.lst ys))) (bList c) := by
  intro Z W cs H σ xs ds Q S r q
  unfold bList at q
  split at q
  · obtain ⟨v, rfl, r1⟩ := reps1 r
    cases r1 with
    | @tup a vs ds h1 hl s => exact ⟨a, vs, rfl, .inr (.of (S.fzt h1)), fin_mkL q S s hl⟩
  · obtain ⟨v, rfl, r1⟩ := reps1 r
    split at q
    · rename_i es hes
      obtain ⟨a, vs, rfl, h1, hl, s⟩ := view_seqL S r1 hes
      exact ⟨a, vs, rfl, .inl h1, fin_mkL q S s hl⟩
    · exact q.elim
  · exact q.elim
theorem ok_sum : OkN K mg (rSum K) bSum := by
  intro Z W cs H σ xs ds Q S r q
  unfold bSum at q
  split at q
  · obtain ⟨v, rfl, r1⟩ := reps1 r
    split at q
    · rename_i ns hn
      obtain ⟨a, rfl, h1⟩ := view_intL S r1 hn
      exact ⟨a, ns, rfl, h1, q.ret S (.int _)⟩
    · exact q.elim
  · exact q.elim
theorem foldl_max_mem : ∀ (ns : List Int) (n : Int), ns.foldl max n ∈ n :: ns ∧ ∀ y ∈ n :: ns, y ≤ ns.foldl max n
  | [], n => by simp
  | m :: ns, n => by
    obtain ⟨h1, h2⟩ := foldl_max_mem ns (max n m)
    rw [List.foldl_cons]
    refine ⟨?_, fun y hy => ?_⟩
    · rcases List.mem_cons.mp h1 with h | h
      · rw [h]
        rcases Int.le_total n m with g | g
        · rw [Int.max_eq_right g]; simp
        · rw [Int.max_eq_left g]; simp
      · simp [h]
    · have h3 := h2 (max n m) List.mem_cons_self
      rcases List.mem_cons.mp hy with (h | h)
      · subst h; omega
      · rcases List.mem_cons.mp h with h | h
        · subst h; omega
        · exact h2 y (List.mem_cons_of_mem _ h)
theorem foldl_min_mem : ∀ (ns : List Int) (n : Int), ns.foldl min n ∈ n :: ns ∧ ∀ y ∈ n :: ns, ns.foldl min n ≤ y
  | [], n => by simp
  | m :: ns, n => by
    obtain ⟨h1, h2⟩ := foldl_min_mem ns (min n m)
    rw [List.foldl_cons]
    refine ⟨?_, fun y hy => ?_⟩
    · rcases List.mem_cons.mp h1 with h | h
      · rw [h]
        rcases Int.le_total n m with g | g
        · rw [Int.min_eq_left g]; simp
        · rw [Int.min_eq_right g]; simp
      · simp [h]
    · have h3 := h2 (min n m) List.mem_cons_self
      rcases List.mem_cons.mp hy with (h | h)
      · subst h; omega
      · rcases List.mem_cons.mp h with h | h
        · subst h; omega
        · exact h2 y (List.mem_cons_of_mem _ h)
theorem ok_maxL : OkN K mg (rMax K) bMaxL := by
  intro Z W cs H σ xs ds Q S r q
  unfold bMaxL at q
  split at q
  · obtain ⟨v, rfl, r1⟩ := reps1 r
    split at q
    · rename_i n ns hn
      obtain ⟨a, rfl, h1⟩ := view_intL S r1 hn
      obtain ⟨m1, m2⟩ := foldl_max_mem ns n
      refine ⟨a, n :: ns, rfl, h1, by simp, fun m hm hle => ?_⟩
      have e : m = ns.foldl max n := Int.le_antisymm (m2 m hm) (hle _ m1)
      rw [e]
      exact q.ret S (.int _)
    · exact q.elim
  · exact q.elim
theorem ok_minL : OkN K mg (rMin K) bMinL := by
  intro Z W cs H σ xs ds Q S r q
  unfold bMinL at q
  split at q
  · obtain ⟨v, rfl, r1⟩ := reps1 r
    split at q
    · rename_i n ns hn
      obtain ⟨a, rfl, h1⟩ := view_intL S r1 hn
      obtain ⟨m1, m2⟩ := foldl_min_mem ns n
      refine ⟨a, n :: ns, rfl, h1, by simp, fun m hm hle => ?_⟩
      have e : m = ns.foldl min n := Int.le_antisymm (hle _ m1) (m2 m hm)
      rw [e]
      exact q.ret S (.int _)
    · exact q.elim
  · exact q.elim
end
section
variable {X : Cx} {Z : WX} {pos p : Pos} {a b : Expr} {t : SA}
theorem fe_len (hm : X.mg "len" = none) (ha : FA X Z [a] t) (hg : Gl X "len" := by rfl) (he : starEach [a] X.env = (false, eval a X.env) :: starEach [] X.env := by rfl) (hpl : (backTo pos (starEach [] X.env)).any (·.1) = false := by rfl) : FE X Z (.Call (.Name "len" p) [a] [] pos) (eN bLen t) :=
  fe_callB (call_len.or call_lenR) ok_len hm ha hg (he := he) (hpl := hpl)
theorem fe_min2 (hm : X.mg "min" = none) (ha : FA X Z [a, b] t) (hg : Gl X "min" := by rfl) (hc : X.calm = true := by rfl) (he : starEach [a, b] X.env = (false, eval a X.env) :: starEach [b] X.env := by rfl) (hpl : (backTo pos (starEach [b] X.env)).any (·.1) = false := by rfl) : FE X Z (.Call (.Name "min" p) [a, b] [] pos) (eN bMin2 t) :=
  fe_callB (call_min2 hc) ok_min2 hm ha hg (he := he) (hpl := hpl)
theorem fe_max2 (hm : X.mg "max" = none) (ha : FA X Z [a, b] t) (hg : Gl X "max" := by rfl) (hc : X.calm = true := by rfl) (he : starEach [a, b] X.env = (false, eval a X.env) :: starEach [b] X.env := by rfl) (hpl : (backTo pos (starEach [b] X.env)).any (·.1) = false := by rfl) : FE X Z (.Call (.Name "max" p) [a, b] [] pos) (eN bMax2 t) :=
  fe_callB (call_max2 hc) ok_max2 hm ha hg (he := he) (hpl := hpl)
theorem fe_maxL (hm : X.mg "max" = none) (ha : FA X Z [a] t) (hg : Gl X "max" := by rfl) (hc : X.calm = true := by rfl) (he : starEach [a] X.env = (false, eval a X.env) :: starEach [] X.env := by rfl) (hpl : (backTo pos (starEach [] X.env)).any (·.1) = false := by rfl) : FE X Z (.Call (.Name "max" p) [a] [] pos) (eN bMaxL t) :=
  fe_callB (cr_max hc) ok_maxL hm ha hg (he := he) (hpl := hpl)
theorem fe_minL (hm : X.mg "min" = none) (ha : FA X Z [a] t) (hg : Gl X "min" := by rfl) (hc : X.calm = true := by rfl) (he : starEach [a] X.env = (false, eval a X.env) :: starEach [] X.env := by rfl) (hpl : (backTo pos (starEach [] X.env)).any (·.1) = false := by rfl) : FE X Z (.Call (.Name "min" p) [a] [] pos) (eN bMinL t) :=
  fe_callB (cr_min hc) ok_minL hm ha hg (he := he) (hpl := hpl)
theorem fe_sum (hm : X.mg "sum" = none) (ha : FA X Z [a] t) (hg : Gl X "sum" := by rfl) (hc : X.calm = true := by rfl) (he : starEach [a] X.env = (false, eval a X.env) :: starEach [] X.env := by rfl) (hpl : (backTo pos (starEach [] X.env)).any (·.1) = false := by rfl) : FE X Z (.Call (.Name "sum" p) [a] [] pos) (eN bSum t) :=
  fe_callB (cr_sum hc) ok_sum hm ha hg (he := he) (hpl := hpl)
theorem fe_abs (hm : X.mg "abs" = none) (ha : FA X Z [a] t) (hg : Gl X "abs" := by rfl) (he : starEach [a] X.env = (false, eval a X.env) :: starEach [] X.env := by rfl) (hpl : (backTo pos (starEach [] X.env)).any (·.1) = false := by rfl) : FE X Z (.Call (.Name "abs" p) [a] [] pos) (eN bAbs t) :=
  fe_callB call_abs ok_abs hm ha hg (he := he) (hpl := hpl)
theorem fe_int1 (hm : X.mg "int" = none) (ha : FA X Z [a] t) (hg : Gl X "int" := by rfl) (he : starEach [a] X.env = (false, eval a X.env) :: starEach [] X.env := by rfl) (hpl : (backTo pos (starEach [] X.env)).any (·.1) = false := by rfl) : FE X Z (.Call (.Name "int" p) [a] [] pos) (eN bInt t) :=
  fe_callTy (call_int1.or call_int_str) ok_int hm ha hg (he := he) (hpl := hpl)
theorem fe_str1 (hm : X.mg "str" = none) (ha : FA X Z [a] t) (hg : Gl X "str" := by rfl) (he : starEach [a] X.env = (false, eval a X.env) :: starEach [] X.env := by rfl) (hpl : (backTo pos (starEach [] X.env)).any (·.1) = false := by rfl) : FE X Z (.Call (.Name "str" p) [a] [] pos) (eN bStr t) :=
  fe_callTy call_str_int ok_str hm ha hg (he := he) (hpl := hpl)
theorem fe_tuple (hm : X.mg "tuple" = none) (ha : FA X Z [a] t) (hg : Gl X "tuple" := by rfl) (he : starEach [a] X.env = (false, eval a X.env) :: starEach [] X.env := by rfl) (hpl : (backTo pos (starEach [] X.env)).any (·.1) = false := by rfl) : FE X Z (.Call (.Name "tuple" p) [a] [] pos) (eN bTup t) :=
  fe_callTy call_tuple_of ok_tup hm ha hg (he := he) (hpl := hpl)
theorem fe_list (c : Bool) (hm : X.mg "list" = none) (ha : FA X Z [a] t) (hg : Gl X "list" := by rfl) (he : starEach [a] X.env = (false, eval a X.env) :: starEach [] X.env := by rfl) (hpl : (backTo pos (starEach [] X.env)).any (·.1) = false := by rfl) : FE X Z (.Call (.Name "list" p) [a] [] pos) (eN (bList c) t) :=
  fe_callTy call_list_of ok_list hm ha hg (he := he) (hpl := hpl)
/-! ### isinstance of one built-in class -/
def tyD (cs : Cs) : D → Option String
  | .non => some "NoneType"
  | .bl _ => some "bool"
  | .int _ => some "int"
  | .str _ => some "str"
  | .tup _ => some "tuple"
  | .lst _ => some "list"
  | .cel i => match cs[i]? with
    | some (some (.lst _)) => some "list"
    | some (some (.dic _)) => some "dict"
    | _ => none
  | _ => none
def eIsi (n : String) (f : SE) : SE := fun sl cs => (f sl cs).bind fun d cs1 => match tyD cs1 d with
  | some t => match kitB t n with
    | some b => .ok (.bl b) cs1
    | none => .bad
  | none => .bad
theorem tyx_of {K : PySem.W.Frag} {mg : Str → Option Value} {W : Wd} {cs : Cs} {H : Hp} {v : V} {d : D} {t : String} (S : RS K mg W cs H) (r : Rep K W v d) (h : tyD cs d = some t) : TyX K H v (.type t) := by
  cases r with
  | non => cases h; exact .base .non
  | bl b => cases h; exact .base (.bl b)
  | int b => cases h; exact .base (.int b)
  | str b => cases h; exact .base (.str b)
  | tup h1 hl s => cases h; exact .base (.tup (S.fzt h1))
  | lst h1 hl s => cases h; exact .base (.lst (S.fzl h1))
  | @cel a i h1 =>
    have h : (match cs[i]? with
      | some (some (.lst _)) => some "list"
      | some (some (.dic _)) => some "dict"
      | _ => none) = some t := h
    split at h
    · rename_i ds e
      cases h
      obtain ⟨a', o, p1, p2, p3, p4⟩ := S.cell i _ e
      rw [h1] at p1; cases p1
      cases p4 with
      | lst hl s => exact .base (.lst p2)
    · rename_i ds e
      cases h
      obtain ⟨a', o, p1, p2, p3, p4⟩ := S.cell i _ e
      rw [h1] at p1; cases p1
      cases p4 with
      | dic hl s => exact .base (.dK p2)
    · cases h
  | _ => cases h
theorem fe_isi {x : Str} {p2 : Pos} {n : String} {f : SE} (hm : X.mg "isinstance" = none) (hmx : X.mg x = none) (ha : FE X Z a f) (hg : Gl X "isinstance" := by rfl) (hgx : Gl X x := by rfl) (hv : bootBuiltins x = some (.type n) := by decide +kernel) (hnx : x ≠ "__name__" := by decide) (hdx : (x == ("__debug__" : Str)) = false := by decide)
    (hs2 : starEach [.Name x p2] X.env = (false, eval (.Name x p2) X.env) :: starEach [] X.env := by rfl)
    (he : starEach [a, .Name x p2] X.env = (false, eval a X.env) :: starEach [.Name x p2] X.env := by rfl) (hpl : (backTo pos (starEach [.Name x p2] X.env)).any (·.1) = false := by rfl) : FE X Z (.Call (.Name "isinstance" p) [a, .Name x p2] [] pos) (eIsi n f) :=
  PEimp (pe_callB call_isi hg hm (by decide +kernel) (pa_cons ha (pa_cons (pe_bltn (v := .ty n) hgx hmx hv rfl hnx hdx) pa_nil hs2) he) (he := he) (hpl := hpl)) fun σ H Q ⟨W, sl, cs, S, L, q⟩ => by
    refine up_bind (R1 := Rep X.K) S L q fun W1 d cs1 x H1 st1 S1 L1 r1 q1 => ?_
    split at q1
    · rename_i t ht
      split at q1
      · rename_i b hb
        exact ⟨_, _, _, _, b, rfl, .ty n, tyx_of S1 r1 ht, kit_ty hb, q1.ret S1 (.bl _)⟩
      · exact q1.elim
    · exact q1.elim
/-! ### methods of built-in types -/
def eMt (ty : Cs → D → Bool) (g : D → List D → Cs → Res D) (f : SE) (h : SA) : SE := fun sl cs => (f sl cs).bind fun x cs1 => if ty cs1 x = true then (h sl cs1).bind (g x) else .bad
def isLD (cs : Cs) (d : D) : Bool := (seqL cs d).isSome
def isSD (_ : Cs) (d : D) : Bool := match d with
  | .str _ => true
  | _ => false
theorem ty_list {K : PySem.W.Frag} {mg : Str → Option Value} {W : Wd} {cs : Cs} {H : Hp} {v : V} {d : D} (S : RS K mg W cs H) (r : Rep K W v d) (h : isLD cs d = true) : tyV K "list" v H := by
  obtain ⟨ds, e⟩ := Option.isSome_iff_exists.mp h
  obtain ⟨a, vs, rfl, h1, hl, s⟩ := view_seqL S r e
  exact .inl ⟨rfl, vs, h1⟩
theorem ty_str {K : PySem.W.Frag} {mg : Str → Option Value} {W : Wd} {cs : Cs} {H : Hp} {v : V} {d : D} (S : RS K mg W cs H) (r : Rep K W v d) (h : isSD cs d = true) : tyV K "str" v H := by
  cases r with
  | str s => rfl
  | _ => cases h
theorem fe_bm {T id : String} {name : Str} {apo cpos : Pos} {ob e : Expr} {more : List Expr} {f : SE} {t : SA} {ty : Cs → D → Bool} {r : V → List V → Hp → VK → Prop} {g : D → List D → Cs → Res D}
    (hty' : ∀ {W : Wd} {cs : Cs} {H : Hp} {v : V} {d : D}, RS X.K X.mg W cs H → Rep X.K W v d → ty cs d = true → tyV X.K T v H) (ok : OkM X.K X.mg r g)
    (pa : PlainAttrs T) (slot : Slot T name id) (hty : typeOf (.builtin id) = pure (.type "method_descriptor")) (hm : MtR X id r) (ho : FE X Z ob f) (ha : FA X Z (e :: more) t)
    (hbase : attributeBase ob name X.env (eval ob X.env) = eval ob X.env := by rfl)
    (hfew : ((backTo cpos (starEach (e :: more) X.env)).all (fun x => !x.1) && (backToKw cpos (keywordEach [] X.env)).all (fun x => x.1.isSome)
      && decide ((e :: more).length + ([] : List Keyword).length + (if ([] : List Keyword).isEmpty then 0 else 1) < 30)) = true := by rfl)
    (hline : (apo.endLine == cpos.line) = true := by rfl)
    (hs : starEach (e :: more) X.env = (false, eval e X.env) :: starEach more X.env := by rfl) (hplain : (backTo cpos (starEach more X.env)).any (·.1) = false := by rfl) :
    FE X Z (.Call (.Attribute ob name apo) (e :: more) [] cpos) (eMt ty g f t) := PEimp (pe_bm pa slot hty hm ho ha hbase hfew hline hs hplain) fun σ H Q ⟨W, sl, cs, S, L, q⟩ => by
    refine up_bind (R1 := Rep X.K) S L q fun W1 d cs1 x H1 st1 S1 L1 r1 q1 => ?_
    split at q1
    · rename_i h1
      refine ⟨hty' S1 r1 h1, up_bind (R1 := Reps X.K) S1 L1 q1 fun W2 ds cs2 xs H2 st2 S2 L2 r2 q2 => ?_⟩
      exact ok Z W2 cs2 H2 σ x xs d ds Q S2 (r1.mono st2.le) r2 q2
    · exact q1.elim
theorem fe_bm0 {T id : String} {name : Str} {apos cpos : Pos} {o : Expr} {f : SE} {ty : Cs → D → Bool} {r : V → List V → Hp → VK → Prop} {g : D → List D → Cs → Res D}
    (hty' : ∀ {W : Wd} {cs : Cs} {H : Hp} {v : V} {d : D}, RS X.K X.mg W cs H → Rep X.K W v d → ty cs d = true → tyV X.K T v H) (ok : OkM X.K X.mg r g)
    (pa : PlainAttrs T) (slot : Slot T name id) (hty : typeOf (.builtin id) = pure (.type "method_descriptor")) (hm : MtR X id r) (ho : FE X Z o f)
    (hbase : attributeBase o name X.env (eval o X.env) = eval o X.env := by rfl) (hline : (apos.endLine == cpos.line) = true := by rfl) :
    FE X Z (.Call (.Attribute o name apos) [] [] cpos) (eMt ty g f aNil) := PEimp (pe_bm0 pa slot hty hm ho hbase hline) fun σ H Q ⟨W, sl, cs, S, L, q⟩ => by
    refine up_bind (R1 := Rep X.K) S L q fun W1 d cs1 x H1 st1 S1 L1 r1 q1 => ?_
    split at q1
    · rename_i h1
      exact ⟨hty' S1 r1 h1, ok Z W1 cs1 H1 σ x [] d [] Q S1 r1 .nil q1⟩
    · exact q1.elim
def mAppend (d : D) (ds : List D) (cs : Cs) : Res D := match ds with
  | [e] => match celL cs d with
    | some (i, xs) => if xs.length < sizeLine then .ok .non (cs.set i (some (.lst (xs ++ [e])))) else .bad
    | none => .bad
  | _ => .bad
theorem ok_append {K : PySem.W.Frag} {mg : Str → Option Value} : OkM K mg rAppend mAppend := by
  intro Z W cs H σ x xs d ds Q S r rs q
  unfold mAppend at q
  split at q
  · rename_i e
    obtain ⟨u, rfl, re⟩ := reps1 rs
    split at q
    · rename_i i ys hc
      split at q
      · rename_i hz
        obtain ⟨a, vs, rfl, rfl, ha, he, hH, hl, s⟩ := view_celL S r hc
        refine ⟨a, vs, u, rfl, rfl, hH, by rw [s.length]; exact hz, fin_put q S he ha (.lst (by rw [List.length_append, s.length]; exact hz) (s.append (.cons re .nil))) .non⟩
      · exact q.elim
    · exact q.elim
  · exact q.elim
theorem fe_append {apos : Pos} {f : SE} (ho : FE X Z a f) (ha : FA X Z [b] t) (hbase : attributeBase a "append" X.env (eval a X.env) = eval a X.env := by rfl)
    (hfew : ((backTo pos (starEach [b] X.env)).all (fun x => !x.1) && (backToKw pos (keywordEach [] X.env)).all (fun x => x.1.isSome)
      && decide ([b].length + ([] : List Keyword).length + (if ([] : List Keyword).isEmpty then 0 else 1) < 30)) = true := by rfl)
    (hline : (apos.endLine == pos.line) = true := by rfl) (hs : starEach [b] X.env = (false, eval b X.env) :: starEach [] X.env := by rfl) (hplain : (backTo pos (starEach [] X.env)).any (·.1) = false := by rfl) :
    FE X Z (.Call (.Attribute a "append" apos) [b] [] pos) (eMt isLD mAppend f t) := fe_bm (T := "list") ty_list ok_append PySem.F.plainAttrs_list PySem.F.slot_list_append PySem.F.type_list_append mt_append ho ha hbase hfew hline hs hplain
/-! ### xs[i] = e -/
def sSub (g : D → D → D → Cs → Res Unit) (fo fi f : SE) : SS := fun sl cs => (f sl cs).at sl fun v cs1 => (fo sl cs1).at sl fun o cs2 => (fi sl cs2).at sl fun i cs3 => (g o i v cs3).at sl fun _ cs4 => .ok (.nx, sl) cs4
def pSetL (o i v : D) (cs : Cs) : Res Unit := match i, celL cs o with
  | .int k, some (n, xs) => match ixN xs.length k with
    | some j => .ok () (cs.set n (some (.lst (xs.set j v))))
    | none => .bad
  | _, _ => .bad
theorem fs_setL {e o i : Expr} {fo fi f : SE} {spos : Pos} (he : FE X Z e f) (ho : FE X Z o fo) (hi : FE X Z i fi) (hs : swapsWithSole [.Subscript o i pos] e spos.line X.env = pure false := by rfl) (hw : swappedStores [.Subscript o i pos] e X.env = pure none := by rfl)
    (h1 : (assignEach [.Subscript o i pos] X.env).map (·.2) = [assign (.Subscript o i pos) X.env] := by rfl)
    (ha : ∀ v, assign (.Subscript o i pos) X.env v =
     (do
      let v1 ← holding [v] (eval o X.env)
      let v2 ← holding [v, v1] (eval i X.env)
      standAt pos
      holding [v, v1, v2] (setItem v1 v2 v)
      release [v, v1, v2] []) := by intro _; rfl) : FS X Z (.Assign [.Subscript o i pos] e spos) (sSub pSetL fo fi f) :=
  PSimp (ps_asg he (pg_sub ho hi set_list ha) hs hw h1) fun D' σ H ⟨W, sl, cs, S, L, q⟩ =>
    up_at (R1 := Rep X.K) S L q fun W1 v cs1 x H1 st1 S1 L1 r1 q1 => by
      refine up_at (R1 := Rep X.K) S1 L1 q1 fun W2 o cs2 y H2 st2 S2 L2 r2 q2 => ?_
      refine up_at (R1 := Rep X.K) S2 L2 q2 fun W3 i cs3 z H3 st3 S3 L3 r3 q3 => ?_
      unfold pSetL at q3
      split at q3
      · rename_i k n xs hc
        split at q3
        · rename_i j hj
          obtain ⟨a, vs, rfl, rfl, h1, h2, h3, h4, h5⟩ := view_celL S3 (r2.mono st3.le) hc
          cases r3
          refine ⟨a, vs, k, j, rfl, rfl, h3, by rw [h5.length]; exact hj, ?_⟩
          refine q3 W3 σ _ (Step.put h1 (S3.live h2 h1)) (S3.put h2 h1 (.lst (by rw [List.length_set]; exact h4) (h5.set ((r1.mono st2.le).mono st3.le) j))) L3
        · exact q3.elim
      · exact q3.elim
end
end LF

set_option Elab.async false
set_option maxRecDepth 100000
namespace LF
open PySem PySem.Spec L2
open PyProof.Rows (envOfC)
/-! ### defs and calls -/
mutual
/-- no cell from n on is spoken of -/
def D.bel (n : Nat) : D → Bool
  | .cel i => decide (i < n)
  | .tup xs => D.bels n xs
  | .lst xs => D.bels n xs
  | .dic ks => D.belk n ks
  | _ => true
def D.bels (n : Nat) : List D → Bool
  | [] => true
  | d :: r => D.bel n d && D.bels n r
def D.belk (n : Nat) : List (Key × D) → Bool
  | [] => true
  | (_, d) :: r => D.bel n d && D.belk n r
end
def belF (n : Nat) (fs : List (Str × D)) : Bool := fs.all fun p => p.2.bel n
def Cell.bel (n : Nat) : Cell → Bool
  | .lst xs => D.bels n xs
  | .dic ks => D.belk n ks
  | .ins _ fs => belF n fs
  | .err _ fs => belF n fs
section
variable {K : PySem.W.Frag} {mg : Str → Option Value} {W : Wd}
mutual
theorem Rep.bel : ∀ {v : V} {d : D}, Rep K W v d → d.bel W.ad.length = true
  | _, _, .non => by unfold D.bel; rfl
  | _, _, .bl _ => by unfold D.bel; rfl
  | _, _, .int _ => by unfold D.bel; rfl
  | _, _, .str _ => by unfold D.bel; rfl
  | _, _, .tup _ _ r => by unfold D.bel; exact Reps.bel r
  | _, _, .lst _ _ r => by unfold D.bel; exact Reps.bel r
  | _, _, .dic _ _ r => by unfold D.bel; exact RepK.bel r
  | _, _, .cel h => by unfold D.bel; exact decide_eq_true (List.getElem?_eq_some_iff.mp h).1
  | _, _, .scr _ _ => by unfold D.bel; rfl
theorem Reps.bel : ∀ {vs : List V} {ds : List D}, Reps K W vs ds → D.bels W.ad.length ds = true
  | _, _, .nil => by unfold D.bels; rfl
  | _, _, .cons h t => by unfold D.bels; rw [Rep.bel h, Reps.bel t]; rfl
theorem RepK.bel : ∀ {vs : List (Key × V)} {ds : List (Key × D)}, RepK K W vs ds → D.belk W.ad.length ds = true
  | _, _, .nil => by unfold D.belk; rfl
  | _, _, .cons h t => by unfold D.belk; rw [Rep.bel h, RepK.bel t]; rfl
end
theorem RepF.bel : ∀ {vs : List (Str × V)} {ds : List (Str × D)}, RepF K W vs ds → belF W.ad.length ds = true
  | _, _, .nil => rfl
  | _, _, .cons h t => by unfold belF; rw [List.all_cons, Rep.bel h]; exact RepF.bel t
theorem ErrF.bel {d : Option Addr} {fs : List (Str × D)} (r : ErrF K W d fs) : belF W.ad.length fs = true := by
  cases d with
  | none =>
    have e : fs = [] := r
    rw [e]; rfl
  | some a =>
    obtain ⟨vs, e, r⟩ := r
    exact r.bel
theorem CRep.bel {a : Addr} {o : HO} {c : Cell} (r : CRep K mg W a o c) : c.bel W.ad.length = true := by
  cases r with
  | err hc r => exact r.bel
  | lst hl r => exact r.bel
  | dic hl r => exact r.bel
  | ins hc r => exact r.bel
def Wd.cut (W : Wd) (n : Nat) : Wd := ⟨W.fz, W.ad.take n⟩
mutual
theorem Rep.cut {n : Nat} : ∀ {v : V} {d : D}, Rep K W v d → d.bel n = true → Rep K (W.cut n) v d
  | _, _, .non, _ => .non
  | _, _, .bl b, _ => .bl b
  | _, _, .int i, _ => .int i
  | _, _, .str s, _ => .str s
  | _, _, .tup h hl r, e => .tup h hl (Reps.cut r (by unfold D.bel at e; exact e))
  | _, _, .lst h hl r, e => .lst h hl (Reps.cut r (by unfold D.bel at e; exact e))
  | _, _, .dic h hl r, e => .dic h hl (RepK.cut r (by unfold D.bel at e; exact e))
  | _, _, .cel h, e => .cel (by
      unfold D.bel at e
      show (W.ad.take n)[_]? = _
      rw [List.getElem?_take, if_pos (of_decide_eq_true e)]; exact h)
  | _, _, .scr h hl, _ => .scr h hl
theorem Reps.cut {n : Nat} : ∀ {vs : List V} {ds : List D}, Reps K W vs ds → D.bels n ds = true → Reps K (W.cut n) vs ds
  | _, _, .nil, _ => .nil
  | _, _, .cons h t, e => by
    unfold D.bels at e
    rw [Bool.and_eq_true] at e
    exact .cons (Rep.cut h e.1) (Reps.cut t e.2)
theorem RepK.cut {n : Nat} : ∀ {vs : List (Key × V)} {ds : List (Key × D)}, RepK K W vs ds → D.belk n ds = true → RepK K (W.cut n) vs ds
  | _, _, .nil, _ => .nil
  | _, _, .cons h t, e => by
    unfold D.belk at e
    rw [Bool.and_eq_true] at e
    exact .cons (Rep.cut h e.1) (RepK.cut t e.2)
end
theorem RepF.cut {n : Nat} : ∀ {vs : List (Str × V)} {ds : List (Str × D)}, RepF K W vs ds → belF n ds = true → RepF K (W.cut n) vs ds
  | _, _, .nil, _ => .nil
  | _, _, .cons h t, e => by
    unfold belF at e
    rw [List.all_cons, Bool.and_eq_true] at e
    exact .cons (h.cut e.1) (RepF.cut t e.2)
theorem ErrF.cut {n : Nat} {d : Option Addr} {fs : List (Str × D)} (r : ErrF K W d fs) (e : belF n fs = true) : ErrF K (W.cut n) d fs := by
  cases d with
  | none => exact r
  | some a =>
    obtain ⟨vs, e1, r⟩ := r
    exact ⟨vs, e1, r.cut e⟩
theorem CRep.cut {n : Nat} {a : Addr} {o : HO} {c : Cell} (r : CRep K mg W a o c) (e : c.bel n = true) : CRep K mg (W.cut n) a o c := by
  cases r with
  | err hc r => exact .err hc (r.cut e)
  | lst hl r => exact .lst hl (r.cut e)
  | dic hl r => exact .dic hl (r.cut e)
  | ins hc r => exact .ins hc (r.cut e)
/-- the cells above n are let go -/
def TrOk (cs : Cs) (d : D) (cs' : Cs) : Prop := d.bel cs.length = true ∧ ∀ (i : Nat) (c : Cell), i < cs.length → cs'[i]? = some (some c) → cs[i]? = some (some c) ∨ c.bel cs.length = true
theorem RS.cut {cs cs' : Cs} {H H' : Hp} {W' : Wd} (S : RS K mg W cs H) (st : Step W H W' H') (S' : RS K mg W' cs' H') (h : ∀ (i : Nat) (c : Cell), i < cs.length → cs'[i]? = some (some c) → cs[i]? = some (some c) ∨ c.bel cs.length = true) :
    Step W H (W'.cut cs.length) H' ∧ RS K mg (W'.cut cs.length) (cs'.take cs.length) H' := by
  have e : W'.ad.take cs.length = W.ad := by
    obtain ⟨t, e⟩ := st.le.ad
    rw [← e, ← S.len, List.take_left]
  have hle : cs.length ≤ cs'.length := by
    rw [← S.len, ← S'.len]; exact st.le.ad.length_le
  refine ⟨⟨⟨st.le.fz, by show W.ad <+: W'.ad.take cs.length; rw [e]; exact List.prefix_refl _⟩, fun b o e1 n => ?_, st.fx⟩, ?_⟩
  · obtain ⟨h1, h2, h3⟩ := st.fr b o e1 n
    exact ⟨h1, (fun m => h2 (List.mem_of_mem_take m)), h3⟩
  · have tk : ∀ {α : Type} (l : List α) (i : Nat) (x : α), (l.take cs.length)[i]? = some x → i < cs.length ∧ l[i]? = some x := fun l i x h => by
      rw [List.getElem?_take] at h
      split at h
      · exact ⟨by assumption, h⟩
      · cases h
    refine ⟨S'.fz, ?_, fun i c hi => ?_, fun i j a c c' h1 h2 h3 h4 => ?_, fun i a hi => ?_⟩
    · show (W'.ad.take cs.length).length = (cs'.take cs.length).length
      rw [List.length_take, List.length_take, S'.len]
    · obtain ⟨hl, hi⟩ := tk _ _ _ hi
      obtain ⟨a, o, p1, p2, p3, p4⟩ := S'.cell i c hi
      refine ⟨a, o, ?_, p2, p3, p4.cut ?_⟩
      · show (W'.ad.take cs.length)[i]? = some a
        rw [List.getElem?_take, if_pos hl]; exact p1
      · rcases h i c hl hi with q | q
        · obtain ⟨_, _, _, _, _, q4⟩ := S.cell i c q
          rw [← S.len]; exact q4.bel
        · exact q
    · exact S'.apart i j a c c' (tk _ _ _ h1).2 (tk _ _ _ h2).2 (tk _ _ _ h3).2 (tk _ _ _ h4).2
    · exact S'.there i a (tk _ _ _ hi).2
end
open Classical in
noncomputable def fin (cs : Cs) (r : Res (Ctl × Sl)) : Res D := match r with
  | .ok (.rt d, _) cs' => if TrOk cs d cs' then .ok d (cs'.take cs.length) else .bad
  | .ok (.nx, _) cs' => if TrOk cs .non cs' then .ok .non (cs'.take cs.length) else .bad
  | .ok (.ex x, _) cs' => if TrOk cs .non cs' ∧ belF cs.length x.fs = true then .exc x (cs'.take cs.length) else .bad
  | _ => .bad
/-- a def: np parameters, n slots, its body -/
noncomputable def semDef0 (np n : Nat) (b : SS) : Fn := fun ds cs => if ds.length = np then fin cs (b (ds.map some ++ List.replicate (n - np) none) cs) else .bad
/-- the same, shut to the unifier -/
noncomputable def semDef (np n : Nat) (b : SS) : Fn := Classical.choose (⟨semDef0 np n b, rfl⟩ : ∃ g : Fn, g = semDef0 np n b)
theorem semDef_eq (np n : Nat) (b : SS) : semDef np n b = semDef0 np n b := Classical.choose_spec (⟨semDef0 np n b, rfl⟩ : ∃ g : Fn, g = semDef0 np n b)
/-- .. that hands back what it made -/
def semMk (np n : Nat) (b : SS) : Fn := fun ds cs => if ds.length = np then (match b (ds.map some ++ List.replicate (n - np) none) cs with
  | .ok (.rt d, _) cs' => .ok d cs'
  | .ok (.nx, _) cs' => .ok .non cs'
  | .ok (.ex x, _) cs' => .exc x cs'
  | _ => .bad) else .bad
/-- what a def promises by its word -/
def spOf (K : PySem.W.Frag) (mg : Str → Option Value) (n : Nat) (f : Fn) : Sp := fun vs H Q E => vs.length = n ∧ ∃ W cs ds, RS K mg W cs H ∧ Reps K W vs ds ∧ Fin K mg (Rep K) (fun cls d _ H => E cls d H) W [] H (f ds cs) Q
section
variable {P : Program} {w : World}
variable {K : PySem.W.Frag} {mg : Str → Option Value} {base : Heap}
theorem start_sl {W : Wd} {N : List Str} {vs : List V} {ds : List D} {np : Nat} (r : Reps K W vs ds) (hn : ds.length = np) : RSl K W (ds.map some ++ List.replicate (N.length - np) none) (L2.start N vs) := by
  subst hn
  unfold L2.start
  rw [r.length]
  refine ⟨by rw [List.length_append, List.length_append, List.length_map, List.length_map, List.length_replicate, List.length_replicate, r.length], fun i d e => ?_⟩
  by_cases hi : i < ds.length
  · rw [List.getElem?_append_left (by rw [List.length_map]; exact hi), List.getElem?_map] at e
    cases e2 : ds[i]? with
    | none => rw [e2] at e; cases e
    | some d' =>
      rw [e2] at e; cases e
      obtain ⟨v, h1, h2⟩ := r.get e2
      exact ⟨v, by rw [List.getElem?_append_left (by rw [List.length_map, r.length]; exact hi), List.getElem?_map, h1]; rfl, h2⟩
  · rw [List.getElem?_append_right (by rw [List.length_map]; omega), List.getElem?_replicate] at e
    split at e <;> cases e
theorem fn_def {x qual : Str} {st : Stmt} {f : Addr} {fd : FuncData} {N ps : List Str} {k : Nat} {b : SS} (F : Fun K x qual st f fd) (S : FnScope N ps (defScope st))
    (hb : ∀ (cdv : Value) (A : Around) (outer : List Env) (s : Shared) (H : Hp) (E : XK), Room k (A.deeper (envOfC qual (defScope st) s.heap.objs.size f cdv)) → FSs (cxOf CX0 P w K mg base N qual (defScope st) f cdv A outer s H E).nox ZF (defBody st) b) :
    FnOk P w K mg base CX0 (k + 1) f fd ps (spOf K mg ps.length fun ds cs => (semDef ps.length N.length b ds cs).nox) := by
  refine F.ok S (fun vs H Q E h => h.1) (fun cdv A outer s H vs Q E hr h => ?_)
  refine ⟨_, hb cdv A outer s H E hr, ?_⟩
  obtain ⟨hl, W, cs, ds, R, r, q⟩ := h
  have hn : ds.length = ps.length := by rw [← r.length]; exact hl
  refine ⟨W, _, cs, R, start_sl r hn, ?_⟩
  have q : Fin K mg (Rep K) (fun cls d _ H => E cls d H) W [] H (Res.nox (semDef ps.length N.length b ds cs)) Q := q
  rw [semDef_eq] at q
  have q : Fin K mg (Rep K) (fun cls d _ H => E cls d H) W [] H (Res.nox (if ds.length = ps.length then fin cs (b (ds.map some ++ List.replicate (N.length - ps.length) none) cs) else .bad)) Q := q
  rw [if_pos hn] at q
  show FinS K mg ZF W H (b (ds.map some ++ List.replicate (N.length - ps.length) none) cs) _
  cases e : b (ds.map some ++ List.replicate (N.length - ps.length) none) cs with
  | ok p cs' =>
    obtain ⟨c, sl⟩ := p
    rw [e] at q
    intro W' σ' H' st R' L'
    cases c with
    | nx =>
      have q : Fin K mg (Rep K) (fun cls d _ H => E cls d H) W [] H (Res.nox (open Classical in if TrOk cs .non cs' then .ok .non (cs'.take cs.length) else .bad)) Q := q
      by_cases ht : TrOk cs .non cs'
      · rw [if_pos ht] at q
        obtain ⟨s2, R2⟩ := R.cut st R' ht.2
        exact q _ _ _ s2 R2 .non
      · rw [if_neg ht] at q; exact q.elim
    | rt d =>
      have q : Fin K mg (Rep K) (fun cls d _ H => E cls d H) W [] H (Res.nox (open Classical in if TrOk cs d cs' then .ok d (cs'.take cs.length) else .bad)) Q := q
      intro v rv
      by_cases ht : TrOk cs d cs'
      · rw [if_pos ht] at q
        obtain ⟨s2, R2⟩ := R.cut st R' ht.2
        exact q _ _ _ s2 R2 (rv.cut ht.1)
      · rw [if_neg ht] at q; exact q.elim
    | ex x =>
      have q : Fin K mg (Rep K) (fun cls d _ H => E cls d H) W [] H (Res.nox (open Classical in if TrOk cs .non cs' ∧ belF cs.length x.fs = true then .exc x (cs'.take cs.length) else .bad)) Q := q
      by_cases ht : TrOk cs .non cs' ∧ belF cs.length x.fs = true
      · rw [if_pos ht] at q; exact q.elim
      · rw [if_neg ht] at q; exact q.elim
    | bk => exact q.elim
    | ct => exact q.elim
  | exc x cs' => rw [e] at q; exact q.elim
  | bad => rw [e] at q; exact q.elim
theorem fn_mk {x qual : Str} {st : Stmt} {f : Addr} {fd : FuncData} {N ps : List Str} {k : Nat} {b : SS} (F : Fun K x qual st f fd) (S : FnScope N ps (defScope st))
    (hb : ∀ (cdv : Value) (A : Around) (outer : List Env) (s : Shared) (H : Hp) (E : XK), Room k (A.deeper (envOfC qual (defScope st) s.heap.objs.size f cdv)) → FSs (cxOf CX0 P w K mg base N qual (defScope st) f cdv A outer s H E).nox ZF (defBody st) b) :
    FnOk P w K mg base CX0 (k + 1) f fd ps (spOf K mg ps.length fun ds cs => (semMk ps.length N.length b ds cs).nox) := by
  refine F.ok S (fun vs H Q E h => h.1) (fun cdv A outer s H vs Q E hr h => ?_)
  refine ⟨_, hb cdv A outer s H E hr, ?_⟩
  obtain ⟨hl, W, cs, ds, R, r, q⟩ := h
  have hn : ds.length = ps.length := by rw [← r.length]; exact hl
  refine ⟨W, _, cs, R, start_sl r hn, ?_⟩
  have q : Fin K mg (Rep K) (fun cls d _ H => E cls d H) W [] H (Res.nox (if ds.length = ps.length then (match b (ds.map some ++ List.replicate (N.length - ps.length) none) cs with
    | .ok (.rt d, _) cs' => .ok d cs'
    | .ok (.nx, _) cs' => .ok .non cs'
    | .ok (.ex x, _) cs' => .exc x cs'
    | _ => .bad) else .bad)) Q := q
  rw [if_pos hn] at q
  show FinS K mg ZF W H (b (ds.map some ++ List.replicate (N.length - ps.length) none) cs) _
  cases e : b (ds.map some ++ List.replicate (N.length - ps.length) none) cs with
  | ok p cs' =>
    obtain ⟨c, sl⟩ := p
    rw [e] at q
    intro W' σ' H' st R' L'
    cases c with
    | nx => exact q _ _ _ st R' .non
    | rt d => exact fun v rv => q _ _ _ st R' rv
    | ex x => exact q.elim
    | bk => exact q.elim
    | ct => exact q.elim
  | exc x cs' => rw [e] at q; exact q.elim
  | bad => rw [e] at q; exact q.elim
end
section
variable {X : Cx} {Z : WX} {pos p : Pos} {e : Expr} {es : List Expr} {t : SA} {k : Nat} {f : Addr} {fd : FuncData} {ps : List Str} {g : Fn} {x : Str}
theorem fin_E0 {K : PySem.W.Frag} {mg : Str → Option Value} {W : Wd} {σ : L2.St} {H : Hp} {r : Res D} {Q : VK} (h : Fin K mg (Rep K) Z W σ H r.nox Q) : Fin K mg (Rep K) (fun cls d _ H => E0 cls d H) W [] H r.nox Q := by
  cases r with
  | ok d cs => exact h
  | exc x cs => exact h
  | bad => exact h
theorem fe_call (F : FnOk X.prog X.w X.K X.mg X.base CX0 k f fd ps (spOf X.K X.mg ps.length fun ds cs => (g ds cs).nox)) (hr : Room k X.A) (hm : X.mg x = some (.ref f)) (hk : PySem.W.keepIn X.K (.ref f) = true) (hb : Binds X.K fd ps [])
    (ha : FA X Z (e :: es) t) (hlen : (e :: es).length = ps.length := by rfl) (hg : Gl X x := by rfl) (hdb : (x == ("__debug__" : Str)) = false := by decide) (he : starEach (e :: es) X.env = (false, eval e X.env) :: starEach es X.env := by rfl) (hpl : (backTo pos (starEach es X.env)).any (·.1) = false := by rfl) :
    FE X Z (.Call (.Name x p) (e :: es) [] pos) (eN (fun ds cs => if ds.length = ps.length then (g ds cs).nox else .bad) t) :=
  PEimp (pe_call F hr hg hm hk hb .nil pass0 ha hdb he hpl) fun σ H Q ⟨W, sl, cs, S, L, q⟩ => by
    refine up_bind (R1 := Reps X.K) S L q fun W1 ds cs1 vs H1 st1 S1 L1 r1 q1 => ?_
    by_cases hn : ds.length = ps.length
    · rw [if_pos hn] at q1
      rw [List.append_nil]
      exact ⟨by rw [r1.length]; exact hn, W1, cs1, ds, S1, r1, fin_E0 q1⟩
    · rw [if_neg hn] at q1; exact q1.elim
theorem fe_call0 (F : FnOk X.prog X.w X.K X.mg X.base CX0 k f fd [] (spOf X.K X.mg 0 fun ds cs => (g ds cs).nox)) (hr : Room k X.A) (hm : X.mg x = some (.ref f)) (hk : PySem.W.keepIn X.K (.ref f) = true) (hb : Binds X.K fd [] [])
    (hg : Gl X x := by rfl) (hdb : (x == ("__debug__" : Str)) = false := by decide) :
    FE X Z (.Call (.Name x p) [] [] pos) (eN (fun ds cs => (g ds cs).nox) aNil) :=
  PEimp (pe_call0 F hr hg hm hk hb .nil pass0 hdb) fun σ H Q ⟨W, sl, cs, S, L, q⟩ => ⟨rfl, W, cs, [], S, .nil, fin_E0 q⟩
end
/-- the hand layer's end: the law's promise -/
def spLaw (K : PySem.W.Frag) : Sp := fun us H Q _ => ∃ (a : Addr) (ns : List Int), us = [.ref a] ∧ SqL K H a (ns.map V.int) ∧ ns.length ≤ 63 ∧ ∀ H', Q (.bl true) H'
theorem law_ok {P : Program} {w : World} {K : PySem.W.Frag} {mg : Str → Option Value} {base : Heap} {k : Nat} {f : Addr} {fd : FuncData} {ps : List Str} {g : Fn} (F : FnOk P w K mg base CX0 k f fd ps (spOf K mg ps.length fun ds cs => (g ds cs).nox)) (h1 : ps.length = 1)
    (h : ∀ ns : List Int, ns.length ≤ 63 → ∃ cs', g [.scr ns] [] = .ok (.bl true) cs') : FnOk P w K mg base CX0 k f fd ps (spLaw K) := by
  refine F.imp (fun vs H Q E ⟨a, ns, e, hS, hl, q⟩ => ?_)
  obtain ⟨cs', hg⟩ := h ns hl
  subst e
  have hz : ns.length ≤ sizeLine := le_line (by omega)
  have hS' : SqL K (fun b => if b = a then H a else none) a (ns.map V.int) := by
    rcases hS with (h | ⟨o, h⟩) | h
    · exact .inl (.inl ((if_pos rfl).trans h))
    · exact .inl (.inr ⟨o, (if_pos rfl).trans h⟩)
    · exact .inr h
  refine ⟨h1.symm, ⟨fun b => if b = a then H a else none, []⟩, [], [.scr ns], ⟨fun b u e => ?_, rfl, fun i c e => by simp at e, fun i j b c c' e => by simp at e, fun i b e => by simp at e⟩, .cons (.scr hS' hz) .nil, ?_⟩
  · have e : (if b = a then H a else none) = some u := e
    by_cases hb : b = a
    · rw [if_pos hb] at e; rw [hb]; exact fzOk_of e
    · rw [if_neg hb] at e; cases e
  · show Fin K mg (Rep K) _ _ [] H (Res.nox (g [.scr ns] [])) Q
    rw [hg]
    exact fun W' v H' s R r => by cases r; exact q H'
end LF

set_option Elab.async false
set_option maxRecDepth 100000
namespace LF
open PySem PySem.Spec L2
/-! ### truth -/
def truD (cs : Cs) (d : D) : Option Bool := match d with
  | .non => some false
  | .bl b => some b
  | .int i => some (i != 0)
  | .str s => if s.length ≤ sizeLine then some ((s.length : Int) != 0) else none
  | .tup ds => some (!ds.isEmpty)
  | d => (seqL cs d).map fun ds => !ds.isEmpty
def tTr (f : SE) : ST := fun sl cs => (f sl cs).bind fun d cs1 => match truD cs1 d with
  | some b => .ok b cs1
  | none => .bad
theorem reps_empty {K : PySem.W.Frag} {W : Wd} {vs : List V} {ds : List D} (r : Reps K W vs ds) : (!ds.isEmpty) = !vs.isEmpty := by cases r <;> rfl
theorem tru_of {K : PySem.W.Frag} {mg : Str → Option Value} {W : Wd} {cs : Cs} {H : Hp} {v : V} {d : D} {b : Bool} (S : RS K mg W cs H) (r : Rep K W v d) (h : truD cs d = some b) : TruV K v H b := by
  unfold truD at h
  split at h
  · cases r; cases h; rfl
  · cases r; cases h; rfl
  · cases r; cases h; rfl
  · cases r
    split at h
    · cases h; exact ⟨by assumption, rfl⟩
    · cases h
  · cases r with
    | @tup a vs ds h1 hl s => cases h; exact .inr (.inl ⟨vs, .of (S.fzt h1), reps_empty s⟩)
  · cases e : seqL cs d with
    | none => (rw [e] at h; cases h)
    | some ds =>
      rw [e] at h; cases h
      obtain ⟨a, vs, rfl, h1, hl, s⟩ := view_seqL S r e
      exact .inl ⟨vs, h1, reps_empty s⟩
section
variable {X : Cx} {Z : WX} {pos : Pos} {a b c : Expr} {f h : SE}
theorem ft_tr (ha : FE X Z a f) (he : ∀ whole, isTrue a X.env whole = (do let v ← whole; standAt a.pos; holding [v] (truthy v)) := by intro _; rfl) : FT X Z a (tTr f) :=
  PTimp (pt_truth ha he) fun σ H Q ⟨W, sl, cs, S, L, q⟩ => by
    refine up_bind (R1 := Rep X.K) S L q fun W1 d cs1 x H1 st1 S1 L1 r1 q1 => ?_
    split at q1
    · rename_i k hk
      exact ⟨k, tru_of S1 r1 hk, q1.ret S1 rfl⟩
    · exact q1.elim
end
/-! ### reading what a word does -/
def callF (n : Nat) (g : Fn) : List D → Cs → Res D := fun ds cs => if ds.length = n then (g ds cs).nox else .bad
def nxF (g : Fn) : Fn := fun ds cs => (g ds cs).nox
/-- what holds behind r -/
@[irreducible] def Sat {α : Type} (r : Res α) (Q : α → Cs → Prop) : Prop := match r with
  | .ok a cs => Q a cs
  | _ => False
theorem sat_bind {α β : Type} (r : Res α) (k : α → Cs → Res β) (Q : β → Cs → Prop) : Sat (r.bind k) Q = Sat r fun a cs => Sat (k a cs) Q := by unfold Sat; cases r <;> rfl
theorem sat_ok {α : Type} (a : α) (cs : Cs) (Q : α → Cs → Prop) : Sat (.ok a cs) Q = Q a cs := by unfold Sat; rfl
theorem sat_bad {α : Type} (Q : α → Cs → Prop) : Sat (.bad : Res α) Q = False := by unfold Sat; rfl
theorem sat_exc {α : Type} (x : Exc) (cs : Cs) (Q : α → Cs → Prop) : Sat (.exc x cs : Res α) Q = False := by unfold Sat; rfl
theorem satI {α : Type} {a : α} {cs : Cs} {Q : α → Cs → Prop} (h : Q a cs) : Sat (.ok a cs) Q := by rw [sat_ok]; exact h
theorem Sat.elimB {α : Type} {Q : α → Cs → Prop} {C : Prop} (h : Sat (.bad : Res α) Q) : C := by rw [sat_bad] at h; exact h.elim
theorem Sat.elimX {α : Type} {x : Exc} {cs : Cs} {Q : α → Cs → Prop} {C : Prop} (h : Sat (.exc x cs : Res α) Q) : C := by rw [sat_exc] at h; exact h.elim
theorem sat_at {α : Type} (r : Res α) (sl : Sl) (k : α → Cs → Res (Ctl × Sl)) (Q : Ctl × Sl → Cs → Prop) (h : Sat r fun a cs => Sat (k a cs) Q) : Sat (r.at sl k) Q := by
  cases r with
  | ok a cs => rw [sat_ok] at h; exact h
  | exc x cs => exact h.elimX
  | bad => exact h.elimB
theorem Sat.mono {α : Type} {r : Res α} {Q Q' : α → Cs → Prop} (h : Sat r Q) (m : ∀ a cs, Q a cs → Q' a cs) : Sat r Q' := by
  cases r with
  | ok a cs => rw [sat_ok] at h ⊢; exact m _ _ h
  | exc x cs => exact h.elimX
  | bad => exact h.elimB
theorem Sat.ex {α : Type} {r : Res α} {Q : α → Cs → Prop} (h : Sat r Q) : ∃ a cs, r = .ok a cs ∧ Q a cs := by
  cases r with
  | ok a cs => rw [sat_ok] at h; exact ⟨a, cs, rfl, h⟩
  | exc x cs => exact h.elimX
  | bad => exact h.elimB
theorem sat_eq {α : Type} {r : Res α} {a : α} {cs : Cs} (h : Sat r fun b cs' => b = a ∧ cs' = cs) : r = .ok a cs := by
  obtain ⟨b, c, e, rfl, rfl⟩ := h.ex
  exact e
end LF

set_option Elab.async false
set_option maxRecDepth 100000
namespace LF
open PySem PySem.Spec L2
/-- turns of a while, more than any makes -/
def fuel : Nat := 10 ^ 30
/-- what was made is told, and changes no more -/
def frzD (cs : Cs) (d : D) : Res D := match d with
  | .cel i => match cs[i]? with
    | some (some (.lst ds)) => .ok (.lst ds) (cs.set i none)
    | some (some (.dic ks)) => .ok (.dic ks) (cs.set i none)
    | _ => .bad
  | d => .ok d cs
def eFrz (f : SE) : SE := fun sl cs => (f sl cs).bind fun d cs1 => frzD cs1 d
section
variable {X : Cx} {Z : WX} {pos : Pos} {a b c : Expr} {f h g : SE}
theorem fe_frz (ha : FE X Z a f) : FE X Z a (eFrz f) := PEimp ha fun σ H Q ⟨W, sl, cs, S, L, q⟩ =>
  up_bind (R1 := Rep X.K) S L q fun W1 d cs1 x H1 st1 S1 L1 r1 q1 => by
    cases r1 with
    | @cel a i h1 =>
      have q1 : Fin X.K X.mg (Rep X.K) Z W1 σ H1 (match cs1[i]? with
        | some (some (.lst ds)) => .ok (.lst ds) (cs1.set i none)
        | some (some (.dic ks)) => .ok (.dic ks) (cs1.set i none)
        | _ => .bad) Q := q1
      split at q1
      · rename_i ds e
        obtain ⟨a', o, p1, p2, p3, p4⟩ := S1.cell i _ e
        rw [h1] at p1; cases p1
        cases p4 with
        | @lst vs _ hl s =>
          obtain ⟨S2, s2⟩ := S1.frz e h1 p2
          exact q1 _ _ _ s2 S2 (.lst upd_same hl (s.mono s2.le))
      · rename_i ds e
        obtain ⟨a', o, p1, p2, p3, p4⟩ := S1.cell i _ e
        rw [h1] at p1; cases p1
        cases p4 with
        | @dic vs _ hl s =>
          obtain ⟨S2, s2⟩ := S1.frz e h1 p2
          exact q1 _ _ _ s2 S2 (.dic upd_same hl (s.mono s2.le))
      · exact q1.elim
    | non => exact q1.ret S1 .non
    | bl b => exact q1.ret S1 (.bl b)
    | int b => exact q1.ret S1 (.int b)
    | str b => exact q1.ret S1 (.str b)
    | tup h1 hl s => exact q1.ret S1 (.tup h1 hl s)
    | lst h1 hl s => exact q1.ret S1 (.lst h1 hl s)
    | dic h1 hl s => exact q1.ret S1 (.dic h1 hl s)
    | scr h1 hl => exact q1.ret S1 (.scr h1 hl)
/-- a def that keeps its promise, where it stands -/
structure Cal (P : Program) (w : World) (K : PySem.W.Frag) (mg : Str → Option Value) (base : Heap) (x : Str) (k : Nat) (ps : List Str) (g : Fn) : Prop where
  ex : ∃ (f : Addr) (fd : FuncData), FnOk P w K mg base CX0 k f fd ps (spOf K mg ps.length (nxF g)) ∧ mg x = some (.ref f) ∧ PySem.W.keepIn K (.ref f) = true ∧ Binds K fd ps []
theorem fe_callC {x : Str} {k : Nat} {ps : List Str} {g : Fn} {p : Pos} {e : Expr} {es : List Expr} {t : SA} {n : Nat} (C : Cal X.prog X.w X.K X.mg X.base x k ps g) (hr : Room k X.A)
    (ha : FA X Z (e :: es) t) (hn : ps.length = n := by rfl) (hlen : (e :: es).length = ps.length := by rfl) (hg : Gl X x := by rfl) (hdb : (x == ("__debug__" : Str)) = false := by decide) (he : starEach (e :: es) X.env = (false, eval e X.env) :: starEach es X.env := by rfl) (hpl : (backTo pos (starEach es X.env)).any (·.1) = false := by rfl) :
    FE X Z (.Call (.Name x p) (e :: es) [] pos) (eN (callF n g) t) := by
  subst hn
  obtain ⟨f, fd, F, hm, hk, hb⟩ := C.ex
  exact fe_call F hr hm hk hb ha hlen hg hdb he hpl
theorem fe_callC0 {x : Str} {k : Nat} {g : Fn} {p : Pos} (C : Cal X.prog X.w X.K X.mg X.base x k [] g) (hr : Room k X.A) (hg : Gl X x := by rfl) (hdb : (x == ("__debug__" : Str)) = false := by decide) :
    FE X Z (.Call (.Name x p) [] [] pos) (eN (nxF g) aNil) := by
  obtain ⟨f, fd, F, hm, hk, hb⟩ := C.ex
  exact fe_call0 F hr hm hk hb hg hdb
def pBits : P1 := fun x cs => match x with
  | .int i => .ok (.int (Builtin.Int.intBits i : Nat)) cs
  | _ => .bad
theorem fe_bits {apos : Pos} (ha : FE X Z a f) (hbase : attributeBase a "bit_length" X.env (eval a X.env) = eval a X.env := by rfl) (hline : (apos.endLine == pos.line) = true := by rfl) : FE X Z (.Call (.Attribute a "bit_length" apos) [] [] pos) (e1 pBits f) :=
  PEimp (pe_bits ha hbase hline) fun σ H Q ⟨W, sl, cs, S, L, q⟩ => by
    refine up_bind (R1 := Rep X.K) S L q fun W1 d cs1 x H1 st1 S1 L1 r1 q1 => ?_
    unfold pBits at q1
    split at q1
    · cases r1; exact ⟨_, rfl, q1.ret S1 (.int _)⟩
    · exact q1.elim
/-- a < b < c -/
def eCh (p p' : P2) (f g h : SE) : SE := fun sl cs => (f sl cs).bind fun x cs1 => (g sl cs1).bind fun y cs2 => (p x y cs2).bind fun z cs3 => match z with
  | .bl k => if k = true then (h sl cs3).bind fun w cs4 => p' y w cs4 else .ok (.bl false) cs3
  | _ => .bad
theorem chain_up {op op' : CmpOp} {r r' : R2} {p p' : P2} (ok : Ok2 X.K X.mg r p) (ok' : Ok2 X.K X.mg r' p') (σ : L2.St) (H : Hp) (Q : VK) (q : up X.K X.mg (Rep X.K) Z (eCh p p' f g h) σ H Q) : tChain r r' (up X.K X.mg (Rep X.K) Z f) (up X.K X.mg (Rep X.K) Z g) (up X.K X.mg (Rep X.K) Z h) σ H Q := by
  obtain ⟨W, sl, cs, S, L, q⟩ := q
  refine up_bind (R1 := Rep X.K) S L q fun W1 x cs1 vx H1 st1 S1 L1 r1 q1 => ?_
  refine up_bind (R1 := Rep X.K) S1 L1 q1 fun W2 y cs2 vy H2 st2 S2 L2 r2 q2 => ?_
  refine ok Z W2 cs2 H2 σ vx vy x y _ S2 (r1.mono st2.le) r2 ((Fin.bind (R1 := Rep X.K) q2).mono fun z H3 ⟨W3, dz, cs3, st3, S3, r3, q3⟩ => ?_)
  cases dz with
  | bl k =>
    refine ⟨k, rep_bl r3, ?_⟩
    cases k with
    | true =>
      rw [if_pos rfl]
      refine up_bind (R1 := Rep X.K) S3 (L2.mono st3.le) q3 fun W4 w cs4 vw H4 st4 S4 L4 r4 q4 => ?_
      exact ok' Z W4 cs4 H4 σ vy vw y w Q S4 ((r2.mono st3.le).mono st4.le) r4 q4
    | false =>
      rw [if_neg (Bool.false_ne_true)]
      exact q3.ret S3 (.bl _)
  | _ => exact q3.elim
theorem fe_chain {op op' : CmpOp} {r r' : R2} {p p' : P2} (ho : OpR X (compareOp op) r) (ok : Ok2 X.K X.mg r p) (ho' : OpR X (compareOp op') r') (ok' : Ok2 X.K X.mg r' p') (ha : FE X Z a f) (hb : FE X Z b g) (hc : FE X Z c h)
    (hm : lastMarks [op, op'] [b, c] = false := by with_unfolding_all rfl) : FE X Z (.Compare a [op, op'] [b, c] pos) (eCh p p' f g h) :=
  PEimp (pe_chain ho ho' ha hb hc hm) fun σ H Q q => chain_up (op := op) (op' := op') ok ok' σ H Q q
theorem ft_chain {op op' : CmpOp} {r r' : R2} {p p' : P2} (ho : OpR X (compareOp op) r) (ok : Ok2 X.K X.mg r p) (ho' : OpR X (compareOp op') r') (ok' : Ok2 X.K X.mg r' p') (ha : FE X Z a f) (hb : FE X Z b g) (hc : FE X Z c h)
    (hm : lastMarks [op, op'] [b, c] = false := by with_unfolding_all rfl) : FT X Z (.Compare a [op, op'] [b, c] pos) (tV (eCh p p' f g h)) :=
  PTimp (pt_chain ho ho' ha hb hc hm) fun σ H Q q => by
    obtain ⟨W, sl, cs, S, L, q⟩ := q
    have q2 := Fin.bind (R1 := Rep X.K) q
    refine chain_up (op := op) (op' := op') (f := f) (g := g) (h := h) ok ok' σ H _ ⟨W, sl, cs, S, L, q2.mono fun v H' ⟨W1, a1, cs1, st, S1, r1, q1⟩ => ?_⟩
    cases a1 with
    | bl k => exact ⟨k, rep_bl r1, q1.ret S1 rfl⟩
    | _ => exact q1.elim
end
end LF

set_option Elab.async false
set_option maxRecDepth 100000
namespace LF
open PySem PySem.Spec L2
/-! ### running a word -/
section
variable {α : Type} {sl : Sl} {cs : Cs} {Q : D → Cs → Prop} {Qs : Ctl × Sl → Cs → Prop} {QA : List D → Cs → Prop} {QB : Bool → Cs → Prop}
theorem s_eV {i : Nat} : Sat (eV i sl cs) Q = (match sl[i]? with | some (some d) => Q d cs | _ => False) := by
  unfold eV
  cases sl[i]? with
  | none => unfold Sat; rfl
  | some o => cases o <;> (unfold Sat; rfl)
theorem s_eC {d : D} : Sat (eC d sl cs) Q = Q d cs := by unfold Sat; rfl
theorem s_e1 {g : P1} {f : SE} : Sat (e1 g f sl cs) Q = Sat (f sl cs) fun x cs1 => Sat (g x cs1) Q := sat_bind _ _ _
theorem s_e2 {g : P2} {f h : SE} : Sat (e2 g f h sl cs) Q = Sat (f sl cs) fun x cs1 => Sat (h sl cs1) fun y cs2 => Sat (g x y cs2) Q := by
  unfold e2; rw [sat_bind]; congr 1; funext x cs1; exact sat_bind _ _ _
theorem s_eN {g : List D → Cs → Res D} {f : SA} : Sat (eN g f sl cs) Q = Sat (f sl cs) fun x cs1 => Sat (g x cs1) Q := sat_bind _ _ _
theorem s_aNil : Sat (aNil sl cs) QA = QA [] cs := by unfold Sat; rfl
theorem s_aCons {f : SE} {r : SA} : Sat (aCons f r sl cs) QA = Sat (f sl cs) fun x cs1 => Sat (r sl cs1) fun xs cs2 => QA (x :: xs) cs2 := by
  unfold aCons; rw [sat_bind]; congr 1; funext x cs1; refine (sat_bind _ _ _).trans ?_; congr 1; funext xs cs2; exact sat_ok _ _ _
theorem s_tV {f : SE} : Sat (tV f sl cs) QB = Sat (f sl cs) fun x cs1 => match x with | .bl b => QB b cs1 | _ => False := by
  unfold tV; rw [sat_bind]; congr 1; funext x cs1; cases x <;> (unfold Sat; rfl)
theorem s_tTr {f : SE} : Sat (tTr f sl cs) QB = Sat (f sl cs) fun x cs1 => match truD cs1 x with | some b => QB b cs1 | none => False := by
  unfold tTr; rw [sat_bind]; congr 1; funext x cs1; cases truD cs1 x <;> (unfold Sat; rfl)
theorem s_tAnd {f g : ST} : Sat (tAnd f g sl cs) QB = Sat (f sl cs) fun b cs1 => if b = true then Sat (g sl cs1) QB else QB false cs1 := by
  unfold tAnd; rw [sat_bind]; congr 1; funext x cs1; split <;> first | rfl | (unfold Sat; rfl)
theorem s_tOr {f g : ST} : Sat (tOr f g sl cs) QB = Sat (f sl cs) fun b cs1 => if b = true then QB true cs1 else Sat (g sl cs1) QB := by
  unfold tOr; rw [sat_bind]; congr 1; funext x cs1; split <;> first | rfl | (unfold Sat; rfl)
theorem s_tNot {f : ST} : Sat (tNot f sl cs) QB = Sat (f sl cs) fun b cs1 => QB (!b) cs1 := by
  refine (sat_bind _ _ _).trans ?_; congr 1; funext x cs1; exact sat_ok _ _ _
theorem s_tYesS : Sat (tYesS sl cs) QB = QB true cs := by unfold Sat; rfl
theorem s_eIf {t : ST} {f g : SE} : Sat (eIf t f g sl cs) Q = Sat (t sl cs) fun b cs1 => if b = true then Sat (f sl cs1) Q else Sat (g sl cs1) Q := by
  unfold eIf; rw [sat_bind]; congr 1; funext x cs1; split <;> first | rfl | (unfold Sat; rfl)
theorem s_eAnd {f g : SE} : Sat (eAnd f g sl cs) Q = Sat (f sl cs) fun x cs1 => match x with | .bl b => if b = true then Sat (g sl cs1) Q else Q (.bl false) cs1 | _ => False := by
  unfold eAnd; rw [sat_bind]; congr 1; funext x cs1; cases x <;> (unfold Sat; first | rfl | (rename_i b; cases b <;> rfl))
theorem s_eOr {f g : SE} : Sat (eOr f g sl cs) Q = Sat (f sl cs) fun x cs1 => match x with | .bl b => if b = true then Q (.bl true) cs1 else Sat (g sl cs1) Q | _ => False := by
  unfold eOr; rw [sat_bind]; congr 1; funext x cs1; cases x <;> (unfold Sat; first | rfl | (rename_i b; cases b <;> rfl))
theorem s_eNot {f : SE} : Sat (eNot f sl cs) Q = Sat (f sl cs) fun x cs1 => match x with | .bl b => Q (.bl (!b)) cs1 | _ => False := by
  unfold eNot; rw [sat_bind]; congr 1; funext x cs1; cases x <;> (unfold Sat; rfl)
theorem s_eIsi {n : String} {f : SE} : Sat (eIsi n f sl cs) Q = Sat (f sl cs) fun d cs1 => match tyD cs1 d with | some t => (match kitB t n with | some b => Q (.bl b) cs1 | none => False) | none => False := by
  unfold eIsi; rw [sat_bind]; congr 1; funext x cs1
  cases tyD cs1 x with
  | none => unfold Sat; rfl
  | some t => show Sat (match kitB t n with | some b => .ok (.bl b) cs1 | none => .bad) Q = (match kitB t n with | some b => Q (D.bl b) cs1 | none => False); cases kitB t n <;> (unfold Sat; rfl)
theorem s_eFrz {f : SE} : Sat (eFrz f sl cs) Q = Sat (f sl cs) fun x cs1 => Sat (frzD cs1 x) Q := sat_bind _ _ _
theorem s_eMt {ty : Cs → D → Bool} {g : D → List D → Cs → Res D} {f : SE} {h : SA} : Sat (eMt ty g f h sl cs) Q = Sat (f sl cs) fun x cs1 => if ty cs1 x = true then Sat (h sl cs1) fun xs cs2 => Sat (g x xs cs2) Q else False := by
  unfold eMt; rw [sat_bind]; congr 1; funext x cs1
  split
  · exact sat_bind _ _ _
  · unfold Sat; rfl
theorem s_eSl {c : Bool} {f : SE} {lo hi : SO} : Sat (eSl c f lo hi sl cs) Q = Sat (f sl cs) fun d cs1 => Sat (lo sl cs1) fun l cs2 => Sat (hi sl cs2) fun h cs3 => Sat (pSlice c d l h cs3) Q := by
  unfold eSl; rw [sat_bind]; congr 1; funext x cs1; rw [sat_bind]; congr 1; funext y cs2; exact sat_bind _ _ _
theorem s_oNo {QO : Option Int → Cs → Prop} : Sat (oNo sl cs) QO = QO none cs := by unfold Sat; rfl
theorem s_oSome {f : SE} {QO : Option Int → Cs → Prop} : Sat (oSome f sl cs) QO = Sat (f sl cs) fun x cs1 => match x with | .int i => QO (some i) cs1 | _ => False := by
  unfold oSome; rw [sat_bind]; congr 1; funext x cs1; cases x <;> (unfold Sat; rfl)
theorem s_eLc {c : Bool} {own : List Nat} {g : SG} {i : SI} {t : ST} {f : SE} : Sat (eLc c own g i t f sl cs) Q = Sat (i sl cs) fun its cs1 => Sat (lcL its.ok g t f (wipeS sl own) its.ds cs1) fun ys cs2 => Sat (mkL c ys cs2) Q := by
  unfold eLc; rw [sat_bind]; congr 1; funext x cs1; exact sat_bind _ _ _
theorem s_iSeq {f : SE} {QI : Its → Cs → Prop} : Sat (iSeq f sl cs) QI = Sat (f sl cs) fun d cs1 => Sat (seqOf cs1 d) QI := sat_bind _ _ _
theorem s_iRg1 {f : SA} {QI : Its → Cs → Prop} : Sat (iRg1 f sl cs) QI = Sat (f sl cs) fun d cs1 => Sat (rgOf1 cs1 d) QI := sat_bind _ _ _
theorem s_iRg2 {f : SA} {QI : Its → Cs → Prop} : Sat (iRg2 f sl cs) QI = Sat (f sl cs) fun d cs1 => Sat (rgOf2 cs1 d) QI := sat_bind _ _ _
theorem s_iEn {f : SA} {QI : Its → Cs → Prop} : Sat (iEn f sl cs) QI = Sat (f sl cs) fun d cs1 => Sat (enumOf cs1 d) QI := sat_bind _ _ _
/-- behind a statement: what it does with the slots -/
def Nxt (k : SS) (Qs : Ctl × Sl → Cs → Prop) : Ctl × Sl → Cs → Prop := fun p cs => match p with
  | (.nx, sl) => Sat (k sl cs) Qs
  | p => Qs p cs
theorem s_sSeq {f g : SS} : Sat (sSeq f g sl cs) Qs = Sat (f sl cs) (Nxt g Qs) := by
  unfold sSeq
  cases e : f sl cs with
  | ok p cs1 =>
    obtain ⟨c, sl1⟩ := p
    rw [sat_ok]
    cases c <;> first | rfl | exact sat_ok _ _ _
  | exc x cs1 => exact (sat_exc _ _ _).trans (sat_exc _ _ _).symm
  | bad => exact (sat_bad _).trans (sat_bad _).symm
theorem w_sSeq {f g : SS} (h : Sat (f sl cs) (Nxt g Qs)) : Sat (sSeq f g sl cs) Qs := by rw [s_sSeq]; exact h
theorem nxt_nx {k : SS} : Nxt k Qs (.nx, sl) cs = Sat (k sl cs) Qs := rfl
theorem nxt_rt {k : SS} {d : D} : Nxt k Qs (.rt d, sl) cs = Qs (.rt d, sl) cs := rfl
theorem nxt_bk {k : SS} : Nxt k Qs (.bk, sl) cs = Qs (.bk, sl) cs := rfl
theorem nxt_ct {k : SS} : Nxt k Qs (.ct, sl) cs = Qs (.ct, sl) cs := rfl
theorem s_sNx : Sat (sNx sl cs) Qs = Qs (.nx, sl) cs := by unfold Sat; rfl
theorem s_sBk : Sat (sBk sl cs) Qs = Qs (.bk, sl) cs := by unfold Sat; rfl
theorem s_sCt : Sat (sCt sl cs) Qs = Qs (.ct, sl) cs := by unfold Sat; rfl
theorem s_sBad : Sat (sBad sl cs) Qs = False := by unfold Sat; rfl
theorem s_sRetN : Sat (sRetN sl cs) Qs = Qs (.rt .non, sl) cs := by unfold Sat; rfl
/-- no exception here: r.at is r's bind -/
theorem s_at {β : Type} {r : Res β} {k : β → Cs → Res (Ctl × Sl)} (h : Sat r fun a cs => Sat (k a cs) Qs) : Sat (r.at sl k) Qs := sat_at r sl k Qs h
end
/-! implications for statements (an exception would be a way of its own) -/
section
variable {sl : Sl} {cs : Cs} {Qs : Ctl × Sl → Cs → Prop}
theorem w_sExpr {f : SE} (h : Sat (f sl cs) fun _ cs1 => Qs (.nx, sl) cs1) : Sat (sExpr f sl cs) Qs := s_at (h.mono fun _ _ h => satI h)
theorem w_sRet {f : SE} (h : Sat (f sl cs) fun d cs1 => Qs (.rt d, sl) cs1) : Sat (sRet f sl cs) Qs := s_at (h.mono fun _ _ h => satI h)
theorem w_sSet {i : Nat} {f : SE} (h : Sat (f sl cs) fun d cs1 => Qs (.nx, sl.set i (some d)) cs1) : Sat (sSet i f sl cs) Qs := s_at (h.mono fun _ _ h => satI h)
theorem w_sIf {t : ST} {f g : SS} (h : Sat (t sl cs) fun b cs1 => if b = true then Sat (f sl cs1) Qs else Sat (g sl cs1) Qs) : Sat (sIf t f g sl cs) Qs := s_at (h.mono fun b cs1 h => by split at h <;> (rename_i hb; simp only [hb]; first | exact h | (rw [if_neg hb]; exact h) | (rw [if_pos rfl]; exact h)))
theorem w_sAsg {g : SG} {f : SE} (h : Sat (f sl cs) fun d cs1 => match g d sl with | some sl' => Qs (.nx, sl') cs1 | none => False) : Sat (sAsg g f sl cs) Qs := s_at (h.mono fun d cs1 h => by split at h <;> rename_i e <;> first | exact satI h | exact h.elim | (rw [e]; first | exact satI h | exact h.elim))
theorem w_sAug {i : Nat} {g : P2} {f : SE} {x : D} (e : sl[i]? = some (some x)) (h : Sat (f sl cs) fun y cs1 => Sat (g x y cs1) fun z cs2 => Qs (.nx, sl.set i (some z)) cs2) : Sat (sAug i g f sl cs) Qs := by
  unfold sAug; rw [e]; exact s_at (h.mono fun y cs1 h => s_at (h.mono fun _ _ h => satI h))
theorem w_sSub {g : D → D → D → Cs → Res Unit} {fo fi f : SE} (h : Sat (f sl cs) fun v cs1 => Sat (fo sl cs1) fun o cs2 => Sat (fi sl cs2) fun i cs3 => Sat (g o i v cs3) fun _ cs4 => Qs (.nx, sl) cs4) : Sat (sSub g fo fi f sl cs) Qs :=
  s_at (h.mono fun v cs1 h => s_at (h.mono fun o cs2 h => s_at (h.mono fun i cs3 h => s_at (h.mono fun _ _ h => satI h))))
/-- what a turn comes to -/
def Turn (k : SS) (Qs : Ctl × Sl → Cs → Prop) : Ctl × Sl → Cs → Prop := fun p cs => match p with
  | (.nx, sl) => Sat (k sl cs) Qs
  | (.ct, sl) => Sat (k sl cs) Qs
  | (.bk, sl) => Qs (.nx, sl) cs
  | p => Qs p cs
theorem s_turn {r : Res (Ctl × Sl)} {k : SS} : Sat (r.turn k) Qs = Sat r (Turn k Qs) := by
  cases r with
  | ok p cs1 =>
    obtain ⟨c, sl1⟩ := p
    rw [sat_ok]
    cases c <;> first | rfl | exact sat_ok _ _ _
  | exc x cs1 => exact (sat_exc _ _ _).trans (sat_exc _ _ _).symm
  | bad => exact (sat_bad _).trans (sat_bad _).symm
/-- a for, by an invariant over what was gone through -/
theorem forL_inv {ok : Cs → Prop} {g : SG} {b : SS} {all : List D} (I : List D → Sl → Cs → Prop)
    (hok : ∀ pre sl cs, I pre sl cs → ok cs)
    (step : ∀ pre d post sl cs, all = pre ++ d :: post → I pre sl cs → ∃ sl1, g d sl = some sl1 ∧ Sat (b sl1 cs) fun p cs1 => match p with
      | (.nx, sl2) => I (pre ++ [d]) sl2 cs1
      | (.ct, sl2) => I (pre ++ [d]) sl2 cs1
      | (.bk, sl2) => Qs (.nx, sl2) cs1
      | p => Qs p cs1)
    (done : ∀ sl cs, I all sl cs → Qs (.nx, sl) cs) : ∀ (post pre : List D) (sl : Sl) (cs : Cs), all = pre ++ post → I pre sl cs → Sat (forL ok g b post sl cs) Qs
  | [], pre, sl, cs, e, h => by
    unfold forL
    rw [if_pos (hok _ _ _ h)]
    rw [List.append_nil] at e
    subst e
    exact satI (done sl cs h)
  | d :: r, pre, sl, cs, e, h => by
    unfold forL
    rw [if_pos (hok _ _ _ h)]
    obtain ⟨sl1, e1, h1⟩ := step pre d r sl cs e h
    rw [e1]
    show Sat ((b sl1 cs).turn (forL ok g b r)) Qs
    rw [s_turn]
    refine h1.mono fun p cs1 h2 => ?_
    obtain ⟨c, sl2⟩ := p
    cases c with
    | nx => exact forL_inv I hok step done r (pre ++ [d]) sl2 cs1 (by rw [e, List.append_assoc]; rfl) h2
    | ct => exact forL_inv I hok step done r (pre ++ [d]) sl2 cs1 (by rw [e, List.append_assoc]; rfl) h2
    | bk => exact h2
    | rt v => exact h2
    | ex x => exact h2
theorem w_sFor {g : SG} {i : SI} {b : SS} (h : Sat (i sl cs) fun its cs1 => Sat (forL its.ok g b its.ds sl cs1) Qs) : Sat (sFor g i b sl cs) Qs := s_at h
/-- a for over data that do not change -/
theorem w_for {g : SG} {b : SS} {all : List D} (I : List D → Sl → Cs → Prop) (h0 : I [] sl cs)
    (step : ∀ pre d post sl cs, all = pre ++ d :: post → I pre sl cs → ∃ sl1, g d sl = some sl1 ∧ Sat (b sl1 cs) fun p cs1 => match p with
      | (.nx, sl2) => I (pre ++ [d]) sl2 cs1
      | (.ct, sl2) => I (pre ++ [d]) sl2 cs1
      | (.bk, sl2) => Qs (.nx, sl2) cs1
      | p => Qs p cs1)
    (done : ∀ sl cs, I all sl cs → Qs (.nx, sl) cs) : Sat (forL (fun _ => True) g b all sl cs) Qs :=
  forL_inv I (fun _ _ _ _ => trivial) step done all [] sl cs rfl h0
/-- a while, by an invariant and a measure -/
theorem w_while {t : ST} {b : SS} (I : Sl → Cs → Prop) (m : Sl → Cs → Nat)
    (step : ∀ sl cs, I sl cs → Sat (t sl cs) fun c cs1 => if c = true then Sat (b sl cs1) fun p cs2 => (match p with
      | (.nx, sl2) => I sl2 cs2 ∧ m sl2 cs2 < m sl cs
      | (.ct, sl2) => I sl2 cs2 ∧ m sl2 cs2 < m sl cs
      | (.bk, sl2) => Qs (.nx, sl2) cs2
      | p => Qs p cs2) else Qs (.nx, sl) cs1) : ∀ (n : Nat) (sl : Sl) (cs : Cs), I sl cs → m sl cs < n → Sat (sWhile n t b sl cs) Qs
  | 0, sl, cs, _, h => absurd h (Nat.not_lt_zero _)
  | n + 1, sl, cs, hI, hm => by
    show Sat ((t sl cs).at sl fun c cs1 => if c = true then (b sl cs1).turn (whileR t b n) else .ok (.nx, sl) cs1) Qs
    refine s_at ((step sl cs hI).mono fun c cs1 h => ?_)
    cases c with
    | false => exact satI h
    | true =>
      rw [if_pos rfl, s_turn]
      rw [if_pos rfl] at h
      refine h.mono fun p cs2 h2 => ?_
      obtain ⟨c, sl2⟩ := p
      cases c with
      | nx => exact w_while I m step n sl2 cs2 h2.1 (Nat.lt_of_lt_of_le h2.2 (Nat.le_of_lt_succ hm))
      | ct => exact w_while I m step n sl2 cs2 h2.1 (Nat.lt_of_lt_of_le h2.2 (Nat.le_of_lt_succ hm))
      | bk => exact h2
      | rt v => exact h2
      | ex x => exact h2
open Classical in
/-- a def's result, of one that lets go what it made -/
theorem sat_def {np n : Nat} {b : SS} {ds : List D} {cs : Cs} {Q : D → Cs → Prop} (hn : ds.length = np)
    (h : Sat (b (ds.map some ++ List.replicate (n - np) none) cs) fun p cs' => match p with
      | (.rt d, _) => TrOk cs d cs' ∧ Q d (cs'.take cs.length)
      | (.nx, _) => TrOk cs .non cs' ∧ Q .non (cs'.take cs.length)
      | _ => False) : Sat (semDef np n b ds cs) Q := by
  rw [semDef_eq]
  unfold semDef0
  rw [if_pos hn]
  obtain ⟨p, cs', e, h⟩ := h.ex
  rw [e]
  obtain ⟨c, sl⟩ := p
  cases c with
  | nx => show Sat (if TrOk cs .non cs' then _ else _) Q; rw [if_pos h.1]; exact satI h.2
  | rt d => show Sat (if TrOk cs d cs' then _ else _) Q; rw [if_pos h.1]; exact satI h.2
  | ex x => exact h.elim
  | bk => exact h.elim
  | ct => exact h.elim
theorem sat_mk {np n : Nat} {b : SS} {ds : List D} {cs : Cs} {Q : D → Cs → Prop} (hn : ds.length = np)
    (h : Sat (b (ds.map some ++ List.replicate (n - np) none) cs) fun p cs' => match p with
      | (.rt d, _) => Q d cs'
      | (.nx, _) => Q .non cs'
      | _ => False) : Sat (semMk np n b ds cs) Q := by
  unfold semMk
  rw [if_pos hn]
  obtain ⟨p, cs', e, h⟩ := h.ex
  rw [e]
  obtain ⟨c, sl⟩ := p
  cases c with
  | nx => exact satI h
  | rt d => exact satI h
  | ex x => exact h.elim
  | bk => exact h.elim
  | ct => exact h.elim
theorem sat_callF {n : Nat} {g : Fn} {ds : List D} {cs : Cs} {Q : D → Cs → Prop} (hn : ds.length = n) (h : Sat (g ds cs) Q) : Sat (callF n g ds cs) Q := by
  unfold callF
  rw [if_pos hn]
  obtain ⟨a, c, e, h⟩ := h.ex
  rw [e]; exact satI h
theorem trOk_same {cs : Cs} {d : D} (h : d.bel cs.length = true) : TrOk cs d cs := ⟨h, fun i c _ e => .inl e⟩
theorem trOk_more {cs more : Cs} {d : D} (h : d.bel cs.length = true) : TrOk cs d (cs ++ more) := ⟨h, fun i c hi e => .inl (by rw [List.getElem?_append_left hi] at e; exact e)⟩
theorem trOk_set {cs more : Cs} {d : D} {i : Nat} {c : Cell} (h : d.bel cs.length = true) (hc : c.bel cs.length = true) : TrOk cs d (cs.set i (some c) ++ more) := ⟨h, fun j c' hj e => by
  rw [List.getElem?_append_left (by rw [List.length_set]; exact hj)] at e
  by_cases hij : i = j
  · subst hij
    rw [List.getElem?_set_self hj] at e
    cases e; exact .inr hc
  · rw [List.getElem?_set_ne hij] at e; exact .inl e⟩
theorem s_iteb {α : Type} {C : Prop} [Decidable C] {r : Res α} {Q : α → Cs → Prop} : Sat (if C then r else .bad) Q = (C ∧ Sat r Q) := by
  by_cases h : C
  · rw [if_pos h]; simp [h]
  · rw [if_neg h]; simp [h, sat_bad]
end
end LF

set_option Elab.async false
set_option maxRecDepth 100000
namespace LF
open PySem PySem.Spec L2
/-! ### what the words of one step do, by their arguments' forms -/
section
variable {i j : Int} {cs : Cs} {x y : D} {c : Bool}
theorem r_sub : pSub (.int i) (.int j) cs = .ok (.int (i - j)) cs := rfl
theorem r_mul : pMul (.int i) (.int j) cs = if CMul i j then .ok (.int (i * j)) cs else .bad := rfl
theorem r_div : pDiv (.int i) (.int j) cs = if CDivW i j then .ok (.int (i / j)) cs else .bad := rfl
theorem r_mod : pMod (.int i) (.int j) cs = if 0 < j then .ok (.int (i % j)) cs else .bad := rfl
theorem r_pow : pPow (.int i) (.int j) cs = if CPow i j then .ok (.int (i ^ j.toNat)) cs else .bad := rfl
theorem r_shl : pShl (.int i) (.int j) cs = if CPow i j then .ok (.int (i * 2 ^ j.toNat)) cs else .bad := rfl
theorem r_shr : pShr (.int i) (.int j) cs = if 0 ≤ j then .ok (.int (i / 2 ^ j.toNat)) cs else .bad := rfl
theorem r_band : pBand (.int i) (.int j) cs = .ok (.int (Builtin.bitAnd i j)) cs := rfl
theorem r_bor : pBor (.int i) (.int j) cs = .ok (.int (Builtin.bitOr i j)) cs := rfl
theorem r_xor : pXor (.int i) (.int j) cs = .ok (.int (Builtin.bitXor i j)) cs := rfl
theorem r_lt : pLt (.int i) (.int j) cs = .ok (.bl (decide (i < j))) cs := rfl
theorem r_le : pLe (.int i) (.int j) cs = .ok (.bl (decide (i ≤ j))) cs := rfl
theorem r_gt : pGt (.int i) (.int j) cs = .ok (.bl (decide (j < i))) cs := rfl
theorem r_ge : pGe (.int i) (.int j) cs = .ok (.bl (decide (j ≤ i))) cs := rfl
theorem r_neg : pNeg (.int i) cs = .ok (.int (-i)) cs := rfl
theorem r_add : pAdd c (.int i) (.int j) cs = .ok (.int (i + j)) cs := rfl
theorem r_addT {a b : List D} : pAdd c (.tup a) (.tup b) cs = if a.length + b.length ≤ sizeLine then .ok (.tup (a ++ b)) cs else .bad := rfl
theorem r_addL {a b : List D} : pAdd c (.lst a) (.lst b) cs = if a.length + b.length ≤ sizeLine then mkL c (a ++ b) cs else .bad := rfl
theorem r_eq : pEq (.int i) (.int j) cs = .ok (.bl (decide (i = j))) cs := rfl
theorem r_ne : pNe (.int i) (.int j) cs = .ok (.bl (!decide (i = j))) cs := rfl
theorem r_max : bMax2 [.int i, .int j] cs = .ok (.int (if j > i then j else i)) cs := rfl
theorem r_min : bMin2 [.int i, .int j] cs = .ok (.int (if j < i then j else i)) cs := rfl
theorem r_abs : bAbs [.int i] cs = .ok (.int (if i < 0 then -i else i)) cs := rfl
theorem r_int : bInt [.int i] cs = .ok (.int i) cs := rfl
theorem r_intB {k : Bool} : bInt [.bl k] cs = .ok (.int (if k then 1 else 0)) cs := rfl
theorem r_bits : pBits (.int i) cs = .ok (.int (Builtin.Int.intBits i : Nat)) cs := rfl
theorem r_tupT {ds : List D} : bTup [.tup ds] cs = .ok (.tup ds) cs := rfl
theorem r_tupL {ds : List D} : bTup [.lst ds] cs = .ok (.tup ds) cs := rfl
theorem r_listL {ds : List D} : bList c [.lst ds] cs = mkL c ds cs := rfl
theorem r_listT {ds : List D} : bList c [.tup ds] cs = mkL c ds cs := rfl
theorem r_lenL {ds : List D} : bLen [.lst ds] cs = .ok (.int (ds.length : Nat)) cs := rfl
theorem r_lenT {ds : List D} : bLen [.tup ds] cs = .ok (.int (ds.length : Nat)) cs := rfl
theorem r_lenS {ns : List Int} : bLen [.scr ns] cs = .ok (.int (ns.length : Nat)) cs := rfl
theorem r_itemT {ds : List D} {d : D} (h : atI ds i = some d) : pItem (.tup ds) (.int i) cs = .ok d cs := by
  show (match atI ds i with | some d => Res.ok d cs | none => .bad) = _; rw [h]
theorem r_itemL {ds : List D} {d : D} (h : atI ds i = some d) : pItem (.lst ds) (.int i) cs = .ok d cs := by
  show (match atI ds i with | some d => Res.ok d cs | none => .bad) = _; rw [h]
theorem r_mkF {ds : List D} : mkL false ds cs = .ok (.lst ds) cs := rfl
theorem r_mkC {ds : List D} : mkL true ds cs = .ok (.cel cs.length) (cs ++ [some (.lst ds)]) := rfl
theorem r_mkL' {ds : List D} : mkL' c ds cs = if ds.length ≤ 10000 then mkL c ds cs else .bad := rfl
theorem r_mkT {ds : List D} : mkT ds cs = if ds.length ≤ 10000 then .ok (.tup ds) cs else .bad := rfl
theorem seqL_lst {ds : List D} : seqL cs (.lst ds) = some ds := rfl
theorem seqL_cel {n : Nat} {ds : List D} (h : cs[n]? = some (some (.lst ds))) : seqL cs (.cel n) = some ds := by
  show (match cs[n]? with | some (some (.lst ds)) => some ds | _ => none) = _; rw [h]
theorem celL_cel {n : Nat} {ds : List D} (h : cs[n]? = some (some (.lst ds))) : celL cs (.cel n) = some (n, ds) := by
  show (match cs[n]? with | some (some (.lst ds)) => some (n, ds) | _ => none) = _; rw [h]
theorem r_itemC {n : Nat} {ds : List D} {d : D} (h : cs[n]? = some (some (.lst ds))) (h2 : atI ds i = some d) : pItem (.cel n) (.int i) cs = .ok d cs := by
  show (match seqL cs (.cel n) with | some ds => (match atI ds i with | some d => Res.ok d cs | none => .bad) | none => .bad) = _
  rw [seqL_cel h]; dsimp only; rw [h2]
theorem r_setC {n k : Nat} {ds : List D} {d : D} (h : cs[n]? = some (some (.lst ds))) (h2 : ixN ds.length i = some k) : pSetL (.cel n) (.int i) d cs = .ok () (cs.set n (some (.lst (ds.set k d)))) := by
  unfold pSetL; rw [celL_cel h]; dsimp only; rw [h2]
theorem r_lenC {n : Nat} {ds : List D} (h : cs[n]? = some (some (.lst ds))) : bLen [.cel n] cs = .ok (.int (ds.length : Nat)) cs := by
  unfold bLen dLen; dsimp only; rw [h]
theorem r_tupC {n : Nat} {ds : List D} (h : cs[n]? = some (some (.lst ds))) : bTup [.cel n] cs = .ok (.tup ds) cs := by
  show (match seqL cs (.cel n) with | some ds => Res.ok (D.tup ds) cs | none => .bad) = _
  rw [seqL_cel h]
theorem r_isC {n : Nat} {ds : List D} (h : cs[n]? = some (some (.lst ds))) : isLD cs (.cel n) = true := by
  unfold isLD; rw [seqL_cel h]; rfl
theorem r_appC {n : Nat} {ds : List D} {d : D} (h : cs[n]? = some (some (.lst ds))) (h2 : ds.length < sizeLine) : mAppend (.cel n) [d] cs = .ok .non (cs.set n (some (.lst (ds ++ [d])))) := by
  unfold mAppend; dsimp only; rw [celL_cel h]; dsimp only; rw [if_pos h2]
theorem r_frzC {n : Nat} {ds : List D} (h : cs[n]? = some (some (.lst ds))) : frzD cs (.cel n) = .ok (.lst ds) (cs.set n none) := by
  unfold frzD; dsimp only; rw [h]
end
theorem r_rg1 {i : Int} {cs : Cs} : rgOf1 cs [.int i] = if rgOk 0 i then .ok ⟨rgL 0 i, fun _ => True⟩ cs else .bad := rfl
theorem r_rg2 {i j : Int} {cs : Cs} : rgOf2 cs [.int i, .int j] = if rgOk i j then .ok ⟨rgL i j, fun _ => True⟩ cs else .bad := rfl
theorem r_sqL {ds : List D} {cs : Cs} : seqOf cs (.lst ds) = .ok ⟨ds, fun _ => True⟩ cs := rfl
theorem r_sqT {ds : List D} {cs : Cs} : seqOf cs (.tup ds) = .ok ⟨ds, fun _ => True⟩ cs := rfl
theorem r_sqS {ns : List Int} {cs : Cs} : seqOf cs (.scr ns) = .ok ⟨ns.map D.int, fun _ => True⟩ cs := rfl
theorem r_enL {ds : List D} {cs : Cs} : enumOf cs [.lst ds] = .ok ⟨enumD ds, fun _ => True⟩ cs := rfl
theorem r_enT {ds : List D} {cs : Cs} : enumOf cs [.tup ds] = .ok ⟨enumD ds, fun _ => True⟩ cs := rfl
theorem r_sqC {n : Nat} {ds : List D} {cs : Cs} (h : cs[n]? = some (some (.lst ds))) : seqOf cs (.cel n) = .ok ⟨ds, fun cs' => cs'[n]? = some (some (.lst ds))⟩ cs := by
  show (match cs[n]? with
    | some (some (.lst ds)) => Res.ok (⟨ds, fun (cs' : Cs) => cs'[n]? = some (some (Cell.lst ds))⟩ : Its) cs
    | _ => .bad) = _
  rw [h]
theorem rgOk_of {a b : Int} (h0 : -1000000 ≤ a) (h1 : a ≤ 1000000) (h2 : -1000000 ≤ b) (h3 : b ≤ 1000000) : rgOk a b := by
  unfold rgOk
  rw [sizeLine_eq]
  omega
theorem sizeLt {n : Nat} (h : n ≤ 1000000) : n < sizeLine := by rw [sizeLine_eq]; omega
theorem sizeLe {n : Nat} (h : n ≤ 1000000) : n ≤ sizeLine := by rw [sizeLine_eq]; omega
theorem rgL_length (a b : Int) : (rgL a b).length = (b - a).toNat := by unfold rgL; rw [List.length_map, List.length_range]
/-- the item that a range's turn has -/
theorem rgL_at {a b : Int} {pre post : List D} {d : D} (h : rgL a b = pre ++ d :: post) : d = .int (a + pre.length) ∧ (pre.length : Int) < b - a := by
  have hl : pre.length < (rgL a b).length := by rw [h, List.length_append, List.length_cons]; omega
  have e : (rgL a b)[pre.length]? = some d := by rw [h, List.getElem?_append_right (Nat.le_refl _), Nat.sub_self]; rfl
  rw [rgL_length] at hl
  unfold rgL at e
  rw [List.getElem?_map, List.getElem?_range hl] at e
  exact ⟨(Option.some.inj e).symm, by omega⟩
theorem cpow_lit {i j : Int} (h : (decide (0 ≤ j) && decide (j ≤ 1000000) && decide (i.natAbs < 2 ^ 64)) = true) : CPow i j := by
  simp only [decide_eq_true_eq, Bool.and_eq_true] at h
  exact ⟨h.1.1, h.1.2, h.2⟩
theorem cpow_of {i j : Int} (h0 : 0 ≤ j) (h1 : j ≤ 1000000) (h2 : -(2 ^ 64) < i) (h3 : i < 2 ^ 64) : CPow i j := ⟨h0, h1, by omega⟩
theorem cmul_r {i j : Int} (h : -(2 ^ 64) < j ∧ j < 2 ^ 64) : CMul i j := .inr h
theorem cmul_l {i j : Int} (h : -(2 ^ 64) < i ∧ i < 2 ^ 64) : CMul i j := .inl h
theorem cdiv_of {i j : Int} (h : 0 < j) (h2 : j < 2 ^ 80) : CDivW i j := ⟨h, by
  have h3 : j.natAbs < 2 ^ 80 := by omega
  have h4 : j.natAbs ≠ 0 := by omega
  have := (Nat.log2_lt h4).mpr h3
  omega⟩
theorem ixN_lit {n k : Nat} (h : k < n) : ixN n (k : Int) = some k := by
  unfold ixN; rw [if_pos (by omega), if_pos (by omega)]; simp
theorem atI_of {α : Type} {xs : List α} {i : Int} (h0 : 0 ≤ i) (h : i.toNat < xs.length) : atI xs i = some (xs[i.toNat]) := by
  unfold atI
  have e : ixN xs.length i = some i.toNat := by
    have e : i = ((i.toNat : Nat) : Int) := by omega
    conv => lhs; rw [e]
    exact ixN_lit h
  rw [e]
  exact List.getElem?_eq_getElem h
/-- bits of whole numbers from 0 on -/
theorem xor_nat (a b : Nat) : Builtin.bitXor (a : Int) (b : Int) = ((a ^^^ b : Nat) : Int) := Bits.bitXor_pp (Int.natCast_nonneg a) (Int.natCast_nonneg b)
theorem and_nat (a b : Nat) : Builtin.bitAnd (a : Int) (b : Int) = ((a &&& b : Nat) : Int) := by
  unfold Builtin.bitAnd
  rw [decide_eq_true (Int.natCast_nonneg a), decide_eq_true (Int.natCast_nonneg b)]
  rfl
theorem or_nat (a b : Nat) : Builtin.bitOr (a : Int) (b : Int) = ((a ||| b : Nat) : Int) := bitOr_nn (Int.natCast_nonneg a) (Int.natCast_nonneg b)
/-- numbers told -/
def intsD (ns : List Int) : List D := ns.map D.int
def natsD (ns : List Nat) : List D := ns.map fun (n : Nat) => D.int (n : Int)
theorem bels_ints (n : Nat) : ∀ ns : List Int, D.bels n (intsD ns) = true
  | [] => by unfold intsD; simp [D.bels]
  | m :: r => by
    have := bels_ints n r
    unfold intsD at this ⊢
    simp [D.bels, D.bel, this]
theorem bels_nats (n : Nat) : ∀ ns : List Nat, D.bels n (natsD ns) = true
  | [] => by unfold natsD; simp [D.bels]
  | m :: r => by
    have := bels_nats n r
    unfold natsD at this ⊢
    simp [D.bels, D.bel, this]
/-- the cells but one are as they were; that one is a list of four whole numbers -/
structure Drawn (i : Nat) (cs cs' : Cs) : Prop where
  len : cs'.length = cs.length
  oth : ∀ j, j ≠ i → cs'[j]? = cs[j]?
  at' : ∃ a b c d : Int, cs'[i]? = some (some (.lst [.int a, .int b, .int c, .int d]))
abbrev SeedAt (i : Nat) (cs : Cs) : Prop := Drawn i cs cs
theorem Drawn.trans {i : Nat} {cs cs1 cs2 : Cs} (a : Drawn i cs cs1) (b : Drawn i cs1 cs2) : Drawn i cs cs2 := ⟨b.len.trans a.len, fun j h => (b.oth j h).trans (a.oth j h), b.at'⟩
theorem Drawn.self {i : Nat} {cs cs1 : Cs} (a : Drawn i cs cs1) : SeedAt i cs1 := ⟨rfl, fun _ _ => rfl, a.at'⟩
theorem Drawn.lt {i : Nat} {cs cs1 : Cs} (a : Drawn i cs cs1) : i < cs.length := by
  obtain ⟨_, _, _, _, h⟩ := a.at'
  rw [← a.len]; exact (List.getElem?_eq_some_iff.mp h).1
theorem Drawn.app {i : Nat} {cs more : Cs} (a : SeedAt i cs) : SeedAt i (cs ++ more) := ⟨rfl, fun _ _ => rfl, by
  obtain ⟨x, y, z, w, h⟩ := a.at'
  exact ⟨x, y, z, w, by rw [List.getElem?_append_left a.lt]; exact h⟩⟩
/-- what was laid behind stays -/
theorem Drawn.split {i : Nat} {cs more cs2 : Cs} (a : Drawn i (cs ++ more) cs2) (h : i < cs.length) : ∃ cs1, cs2 = cs1 ++ more ∧ Drawn i cs cs1 := by
  have hl := a.len
  rw [List.length_append] at hl
  refine ⟨cs2.take cs.length, ?_, ?_, fun j hj => ?_, ?_⟩
  · refine List.ext_getElem? fun j => ?_
    by_cases hj : j < cs.length
    · rw [List.getElem?_append_left (by rw [List.length_take]; omega), List.getElem?_take, if_pos hj]
    · rw [a.oth j (by omega), List.getElem?_append_right (by omega), List.getElem?_append_right (by rw [List.length_take]; omega), List.length_take]
      congr 1
      omega
  · rw [List.length_take]; omega
  · rw [List.getElem?_take]
    split
    · rename_i hj2
      rw [a.oth j hj, List.getElem?_append_left hj2]
    · rw [List.getElem?_eq_none (by omega)]
  · obtain ⟨x, y, z, w, e⟩ := a.at'
    exact ⟨x, y, z, w, by rw [List.getElem?_take, if_pos h]; exact e⟩
theorem Drawn.trOk {i : Nat} {cs cs1 more : Cs} {d : D} (a : Drawn i cs cs1) (h : d.bel cs.length = true) : TrOk cs d (cs1 ++ more) := ⟨h, fun j c hj e => by
  rw [List.getElem?_append_left (by rw [a.len]; exact hj)] at e
  by_cases hij : j = i
  · subst hij
    obtain ⟨x, y, z, w, e2⟩ := a.at'
    rw [e2] at e; cases e
    exact .inr (by simp [Cell.bel, D.bels, D.bel])
  · rw [a.oth j hij] at e; exact .inl e⟩
theorem Drawn.take {i : Nat} {cs cs1 more : Cs} (a : Drawn i cs cs1) : (cs1 ++ more).take cs.length = cs1 := by
  rw [← a.len]; exact List.take_left
end LF

set_option Elab.async false
set_option maxRecDepth 100000
namespace LF
open PySem PySem.Spec L2
/-! ### == of lists of numbers -/
theorem pys_nats : ∀ ns : List Nat, D.pys (natsD ns) = some (ns.map fun (n : Nat) => PyData.int (n : Int))
  | [] => by unfold natsD; simp [D.pys]
  | n :: r => by
    have := pys_nats r
    unfold natsD at this ⊢
    simp [D.pys, D.py, this]
theorem lay_nats : ∀ ns : List Nat, PyData.canLayAll0 (ns.map fun (n : Nat) => PyData.int (n : Int)) = true ∧ PyData.depthAll (ns.map fun (n : Nat) => PyData.int (n : Int)) = 0
  | [] => by simp [PyData.canLayAll0, PyData.depthAll]
  | n :: r => by
    obtain ⟨h1, h2⟩ := lay_nats r
    simp [PyData.canLayAll0, PyData.depthAll, PyData.canLay0, PyData.depth, h1, h2]
theorem shapedL_nats (ns : List Nat) : SeqAt.shaped (.list (ns.map fun (n : Nat) => PyData.int (n : Int))) = true := by
  obtain ⟨h1, h2⟩ := lay_nats ns
  simp [SeqAt.shaped, PyData.canLay0, PyData.depth, h1, h2]
theorem shapedT_nats (ns : List Nat) : SeqAt.shaped (.tuple (ns.map fun (n : Nat) => PyData.int (n : Int))) = true := by
  obtain ⟨h1, h2⟩ := lay_nats ns
  simp [SeqAt.shaped, PyData.canLay0, PyData.depth, h1, h2]
theorem eqv_nats : ∀ a b : List Nat, PyData.eqvAll (a.map fun (n : Nat) => PyData.int (n : Int)) (b.map fun (n : Nat) => PyData.int (n : Int)) = decide (a = b)
  | [], [] => (by simp [PyData.eqvAll])
  | [], y :: r => (by simp [PyData.eqvAll])
  | x :: r, [] => (by simp [PyData.eqvAll])
  | x :: a, y :: b => by
    simp only [List.map_cons, PyData.eqvAll, PyData.eqv, eqv_nats a b]
    by_cases h : x = y
    · subst h; simp
    · have : ¬ (x : Int) = (y : Int) := by omega
      simp [h, this]
theorem eqD_lists {cs : Cs} {d e : D} {a b : List Nat} (h1 : deref cs d = .lst (natsD a)) (h2 : deref cs e = .lst (natsD b)) (hs : scalD d e = none) : eqD cs d e = some (decide (a = b)) := by
  unfold eqD
  rw [hs]
  dsimp only
  rw [h1, h2]
  simp only [D.py, pys_nats, Option.map_some]
  rw [if_pos ⟨shapedL_nats a, shapedL_nats b⟩, PyData.eqv, eqv_nats]
theorem eqD_tuples {cs : Cs} {a b : List Nat} : eqD cs (.tup (natsD a)) (.tup (natsD b)) = some (decide (a = b)) := by
  unfold eqD
  show (match D.py (deref cs (.tup (natsD a))), D.py (deref cs (.tup (natsD b))) with
    | some a, some b => if SeqAt.shaped a = true ∧ SeqAt.shaped b = true then some (PyData.eqv a b) else none
    | _, _ => none) = _
  simp only [deref, D.py, pys_nats, Option.map_some]
  rw [if_pos ⟨shapedT_nats a, shapedT_nats b⟩, PyData.eqv, eqv_nats]
theorem deref_cel {cs : Cs} {n : Nat} {ds : List D} (h : cs[n]? = some (some (.lst ds))) : deref cs (.cel n) = .lst ds := by
  show (match cs[n]? with | some (some (.lst ds)) => D.lst ds | some (some (.dic ks)) => .dic ks | _ => .cel n) = _
  rw [h]
theorem r_neNil {cs : Cs} {k : Nat} {ns : List Nat} (h : cs[k]? = some (some (.lst (natsD ns)))) : pNe (.cel k) (.lst []) cs = .ok (.bl (!decide (ns = []))) cs := by
  unfold pNe
  rw [eqD_lists (a := ns) (b := []) (deref_cel h) rfl rfl]
theorem natsD_append (a b : List Nat) : natsD (a ++ b) = natsD a ++ natsD b := by unfold natsD; rw [List.map_append]
theorem natsD_length (a : List Nat) : (natsD a).length = a.length := by unfold natsD; rw [List.length_map]
theorem natsD_get (a : List Nat) (i : Nat) : (natsD a)[i]? = (a[i]?).map fun (n : Nat) => D.int (n : Int) := by unfold natsD; rw [List.getElem?_map]
theorem natsD_cons (n : Nat) (a : List Nat) : natsD (n :: a) = .int (n : Int) :: natsD a := rfl
theorem atI_nats {ns : List Nat} {i : Int} (h0 : 0 ≤ i) (h : i.toNat < ns.length) : ∃ n ∈ ns, atI (natsD ns) i = some (.int ((n : Nat) : Int)) ∧ ns[i.toNat]? = some n := by
  refine ⟨ns[i.toNat], List.getElem_mem h, ?_, List.getElem?_eq_getElem h⟩
  rw [atI_of h0 (by rw [natsD_length]; exact h)]
  unfold natsD
  rw [List.getElem_map]
theorem atI_neg1 {ns : List Nat} (h : ns ≠ []) : atI (natsD ns) (-1) = some (.int ((ns.getLast h : Nat) : Int)) := by
  have e : natsD ns = natsD ns.dropLast ++ [.int ((ns.getLast h : Nat) : Int)] := by
    conv => lhs; rw [← List.dropLast_concat_getLast h, natsD_append]
    rfl
  rw [e]
  exact atI_last _ _
/-- an item of a range of data -/
theorem split_at {α : Type} {xs pre post : List α} {x : α} (h : xs = pre ++ x :: post) : xs[pre.length]? = some x := by
  rw [h, List.getElem?_append_right (Nat.le_refl _), Nat.sub_self]; rfl
theorem enum_at {xs pre post : List D} {d : D} (h : enumD xs = pre ++ d :: post) : ∃ x, xs[pre.length]? = some x ∧ d = .tup [.int (pre.length : Nat), x] := by
  have e := split_at h
  rw [enumD_get] at e
  cases e2 : xs[pre.length]? with
  | none => rw [e2] at e; cases e
  | some x => rw [e2] at e; cases e; exact ⟨x, rfl, rfl⟩
theorem take_succ_of {α : Type} {xs : List α} {k : Nat} {x : α} (h : xs[k]? = some x) : xs.take (k + 1) = xs.take k ++ [x] := by
  rw [List.take_add_one, h]; rfl
/-- one bit -/
theorem bit_and (n k : Nat) : Builtin.bitAnd ((n : Int) / 2 ^ ((k : Int)).toNat) 1 = if n.testBit k then 1 else 0 := by
  have e : (n : Int) / 2 ^ ((k : Int)).toNat = ((n / 2 ^ k : Nat) : Int) := by
    rw [Int.toNat_natCast]; push_cast; rfl
  rw [e, show (1 : Int) = ((1 : Nat) : Int) from rfl, and_nat, Nat.and_one_is_mod, Nat.testBit_eq_decide_div_mod_eq]
  by_cases h : n / 2 ^ k % 2 = 1
  · simp [h]
  · simp only [h, decide_false]
    have : n / 2 ^ k % 2 = 0 := by omega
    simp [this]
theorem bit_is (n k : Nat) : decide (Builtin.bitAnd ((n : Int) / 2 ^ ((k : Int)).toNat) 1 = 1) = n.testBit k := by
  rw [bit_and]
  cases n.testBit k <;> simp
theorem kit_int_int : kitB "int" "int" = some true := by decide +kernel
theorem kit_int_bool : kitB "int" "bool" = some false := by decide +kernel
theorem kit_bool_bool : kitB "bool" "bool" = some true := by decide +kernel
theorem kit_tup_tup : kitB "tuple" "tuple" = some true := by decide +kernel
end LF

set_option Elab.async false
set_option maxRecDepth 100000
namespace LF
open PySem PySem.Spec L2
variable {cs : Cs} {c : Bool}
theorem r_sliceS {ns : List Int} {lo hi : Option Int} : pSlice c (.scr ns) lo hi cs = mkL c (cutD (intsD ns) lo hi) cs := rfl
theorem r_sliceL {ds : List D} {lo hi : Option Int} : pSlice c (.lst ds) lo hi cs = mkL c (cutD ds lo hi) cs := rfl
theorem r_sliceT {ds : List D} {lo hi : Option Int} : pSlice c (.tup ds) lo hi cs = .ok (.tup (cutD ds lo hi)) cs := rfl
theorem r_sliceC {n : Nat} {ds : List D} {lo hi : Option Int} (h : cs[n]? = some (some (.lst ds))) : pSlice c (.cel n) lo hi cs = mkL c (cutD ds lo hi) cs := by
  show (match seqL cs (.cel n) with | some ds => mkL c (cutD ds lo hi) cs | none => .bad) = _
  rw [seqL_cel h]
theorem cutD_hi {α : Type} (xs : List α) (m : Nat) : cutD xs none (some (m : Int)) = xs.take m := by
  unfold cutD
  have e0 : HT.sIx xs.length 0 none = 0 := rfl
  have e1 : HT.sIx xs.length xs.length (some (m : Int)) = min m xs.length := by
    unfold HT.sIx
    simp
    omega
  rw [e0, e1, List.drop_zero, Nat.sub_zero, ← List.take_take, List.take_length]
theorem bels_intsI (n : Nat) (ns : List Int) : D.bels n (ns.map D.int) = true := bels_ints n ns
end LF

set_option Elab.async false
set_option maxRecDepth 100000
namespace LF
open PySem PySem.Spec L2
/-! ### sorted(whole numbers), sorted(pairs of them) -/
def srt (ns : List Int) : List Int := ns.mergeSort fun a b => decide (a ≤ b)
theorem srt_perm (ns : List Int) : (srt ns).Perm ns := List.mergeSort_perm ns _
theorem srt_le (ns : List Int) : (srt ns).Pairwise (· ≤ ·) := by
  have := List.pairwise_mergeSort (le := fun a b : Int => decide (a ≤ b)) (fun a b c h1 h2 => by simp only [decide_eq_true_eq] at *; omega) (fun a b => by simp only [Bool.or_eq_true, decide_eq_true_eq]; omega) ns
  exact this.imp fun h => by simpa using h
theorem srt_only {ns ns' : List Int} (h : ns'.Perm ns) (s : ns'.Pairwise (· ≤ ·)) : ns' = srt ns :=
  List.Perm.eq_of_pairwise (le := fun a b : Int => a ≤ b) (fun a b _ _ h1 h2 => Int.le_antisymm h1 h2) s (srt_le ns) (h.trans (srt_perm ns).symm)
/-- the order of pairs -/
def leP (p q : Int × Int) : Bool := decide (p.1 < q.1 ∨ (p.1 = q.1 ∧ p.2 ≤ q.2))
def srtP (ps : List (Int × Int)) : List (Int × Int) := ps.mergeSort leP
theorem srtP_perm (ps : List (Int × Int)) : (srtP ps).Perm ps := List.mergeSort_perm ps _
theorem srtP_le (ps : List (Int × Int)) : (srtP ps).Pairwise fun p q => leP p q = true :=
  List.pairwise_mergeSort (le := leP) (fun a b c h1 h2 => by unfold leP at *; simp only [decide_eq_true_eq] at *; omega) (fun a b => by unfold leP; simp only [Bool.or_eq_true, decide_eq_true_eq]; omega) ps
theorem srtP_only {ps qs : List (Int × Int)} (h : qs.Perm ps) (s : qs.Pairwise fun p q => leP p q = true) : qs = srtP ps :=
  List.Perm.eq_of_pairwise (le := fun p q => leP p q = true) (fun a b _ _ h1 h2 => by
    unfold leP at h1 h2; simp only [decide_eq_true_eq] at h1 h2
    exact Prod.ext (by omega) (by omega)) s (srtP_le ps) (h.trans (srtP_perm ps).symm)
def prD : D → Option (Int × Int) := fun d => match d with
  | .tup [.int a, .int b] => some (a, b)
  | _ => none
def allPr : List D → Option (List (Int × Int))
  | [] => some []
  | d :: r => match prD d, allPr r with
    | some p, some ps => some (p :: ps)
    | _, _ => none
def tupP (p : Int × Int) : D := .tup [.int p.1, .int p.2]
theorem prD_eq {d : D} {p : Int × Int} (h : prD d = some p) : d = tupP p := by
  unfold prD at h
  split at h
  · cases h; rfl
  · cases h
theorem allPr_eq : ∀ {ds : List D} {ps : List (Int × Int)}, allPr ds = some ps → ds = ps.map tupP
  | [], ps, h => by cases h; rfl
  | d :: r, ps, h => by
    unfold allPr at h
    split at h
    · rename_i p qs h1 h2
      cases h
      rw [List.map_cons, prD_eq h1, allPr_eq h2]
    · cases h
theorem allPr_map : ∀ ps : List (Int × Int), allPr (ps.map tupP) = some ps
  | [] => rfl
  | p :: r => by
    rw [List.map_cons]; unfold allPr
    rw [allPr_map r]; rfl
def bSort (b c : Bool) (ds : List D) (cs : Cs) : Res D := match ds with
  | [d] => match intL cs d with
    | some ns => mkL c ((if b then (srt ns).reverse else srt ns).map D.int) cs
    | none => match (seqL cs d).bind allPr with
      | some ps => mkL c ((if b then (srtP ps).reverse else srtP ps).map tupP) cs
      | none => .bad
  | _ => .bad
/-- of a list of pairs: what the pairs are -/
def prV (H : Hp) : V → Int × Int := fun v => match v with
  | .ref t => match H t with
    | some (.tup [.int a, .int b]) => (a, b)
    | _ => (0, 0)
  | _ => (0, 0)
/-- pairs, what they are by prV -/
def PrL (K : PySem.W.Frag) (b : Bool) (vs : List V) (H : Hp) (Q : VK) : Prop := ∃ (a : Addr) (xs : List V) (k : V → Int × Int), vs = [V.ref a] ∧ SqL K H a xs ∧ (∀ x ∈ xs, ∃ t, x = V.ref t ∧ H t = some (.tup [.int (k x).1, .int (k x).2])) ∧
  ∀ ys p, SrtO.Srtd (ltP k) ys → ys.Perm xs → H p = none → Q (.ref p) (upd H p (.lst (if b = true then ys.reverse else ys)))
theorem cr_sortedX {X : Cx} : CallR X (.builtin "sorted") fun vs H Q => rSortedI X.K vs H Q ∨ PrL X.K false vs H Q := by
  (intro pins s σ H vs us Q I r h)
  rcases h with h | ⟨a, xs, k, e, hs, hx, q⟩
  · exact cr_sortedI pins s σ H vs us Q I r h
  · exact cr_sortedPO pins s σ H vs us Q I r ⟨a, xs, k, e, hs, hx, fun ys p h1 h2 h3 => q ys p h1 h2.perm h3⟩
theorem cr_sortedY {X : Cx} : CallRK X (.builtin "sorted") [Str.ofString "reverse"] fun vs zs H Q => rSortedKw X.K true [.bl true] vs zs H Q ∨ (zs = [.bl true] ∧ PrL X.K true vs H Q) := by
  (intro pins s σ H vs zs us ws Q I r rz h)
  rcases h with h | ⟨rfl, a, xs, k, rfl, hs, hx, q⟩
  · exact cr_sortedRev (b := true) pins s σ H vs zs us ws Q I r rz h
  · obtain ⟨its, rv, hl, hz⟩ := I.list hs
    obtain rfl := Vals.ref1 r
    (obtain ⟨w1, rfl, e1⟩ := vals1 rz)
    (obtain rfl : w1 = Value.bool true := e1)
    obtain ⟨e1, e2⟩ := refs_back rv fun x m => (hx x m).imp fun _ h => h.1
    have pair : ∀ v ∈ its, Srt.IsPair s.heap v (k (backV v)).1 (k (backV v)).2 := fun v hv => by
      obtain ⟨t, rfl⟩ := e2 v hv
      obtain ⟨t', e, ht⟩ := hx _ (by rw [e1]; exact List.mem_map.mpr ⟨_, hv, rfl⟩ : V.ref t ∈ xs)
      cases e
      (obtain ⟨_, its2, r2, o, ho, hc, n, hd⟩ := I.hok _ _ ht)
      obtain ⟨u1, u2, rfl, ⟨t1, rfl⟩, ⟨t2, rfl⟩⟩ := vals2 r2
      (exact ⟨t, o, t1, t2, n, rfl, ho, hc, hd⟩)
    refine SrtR.sorted_ordK (b := true) (fun _ => rfl) (PyProof.Rows.args_sorted_rev _ _) (fun _ => PyProof.Rows.args_list_sort_rev _ _) (SrtO.swo_lex fun u => k (backV u)) hl.isList (by rw [← rv.length]; exact hz)
      (fun h2 h₁ a' ha kk => SrtO.pairs_sortableO (s := { s with heap := h₁ }) (by omega) (fun v hm => (pair v hm).keeps fun b o e _ => (kk b o e).2) fun o e => by
        have e' : some o = some (PyProof.Rows.seqObj "list" its.toArray 0) := Eq.trans (Eq.symm e) ha
        cases e'
        exact fun c => absurd (Value.type.inj c) (by decide)) fun out h1 h2 => ?_
    (have h2p : out.Perm its := h2.perm.trans (List.reverse_perm _))
    (have h3 : ∀ u ∈ out, ∃ a, u = Value.ref a := fun u hu => e2 u (h2p.mem_iff.mp hu))
    have hb : (out.map backV).Perm xs := (h2p.map backV).trans (by rw [e1])
    obtain ⟨ep, he'⟩ := PyProof.Rows.sortedAll_at s.heap its out.toArray.reverse
    (have er : (out.map backV).reverse = out.reverse.map backV := by rw [List.map_reverse])
    (have h4 : ∀ u ∈ out.reverse, ∃ a, u = Value.ref a := fun u hu => h3 u (List.mem_reverse.mp hu))
    have ea : out.reverse.toArray = out.toArray.reverse := Array.ext' (by rw [Array.toList_reverse])
    exact ⟨.ref _, upd H (s.heap.objs.size + 1) (.lst (out.map backV).reverse), I.laid (t' := s.toks) (fun _ _ => PyProof.Rows.sortedAll_old) (Nat.le_succ _) ⟨by rw [List.length_reverse, hb.length_eq]; exact hz, out.reverse, ep, by rw [er]; exact vals_back h4, by rw [ea]; exact he'⟩, rfl, q _ _ (SrtO.srtd_map h1) hb (I.hok.fresh (Nat.le_succ _))⟩
section
variable {K : PySem.W.Frag} {mg : Str → Option Value} {W : Wd} {cs : Cs} {H : Hp} {v : V} {d : D}
/-- data that are pairs, as values -/
theorem pairs_at (S : RS K mg W cs H) : ∀ {vs : List V} {ps : List (Int × Int)}, Reps K W vs (ps.map tupP) → (∀ x ∈ vs, ∃ t, x = V.ref t ∧ H t = some (.tup [.int (prV H x).1, .int (prV H x).2])) ∧ (∀ x ∈ vs, Rep K W x (tupP (prV H x))) ∧ vs.map (prV H) = ps
  | [], [], _ => ⟨by simp, by simp, rfl⟩
  | x :: vs, p :: ps, .cons h t => by
    obtain ⟨h1, h2, h3⟩ := pairs_at S t
    have h' := h
    unfold tupP at h
    cases h with
    | @tup a us _ hf hl r =>
      obtain ⟨u1, u2, rfl, r1, r2⟩ := reps2 r
      cases r1; cases r2
      have hH := S.fzt hf
      have e : prV H (.ref a) = p := by unfold prV; dsimp only; rw [hH]
      refine ⟨fun y hy => ?_, fun y hy => ?_, by rw [List.map_cons, e, h3]⟩
      · rcases List.mem_cons.mp hy with q | q
        · subst q; exact ⟨a, rfl, by rw [e]; exact hH⟩
        · exact h1 y q
      · rcases List.mem_cons.mp hy with q | q
        · subst q; rw [e]; exact h'
        · exact h2 y q
theorem reps_of {W : Wd} {k : V → Int × Int} : ∀ {ys : List V}, (∀ x ∈ ys, Rep K W x (tupP (k x))) → Reps K W ys ((ys.map k).map tupP)
  | [], _ => .nil
  | y :: r, h => .cons (h y (List.mem_cons_self ..)) (reps_of fun x hx => h x (List.mem_cons_of_mem _ hx))
theorem ok_sortI {b c : Bool} {d : D} {ns : List Int} {Z : WX} {σ : L2.St} {xs : List V} {Q : VK} (S : RS K mg W cs H) (r : Reps K W xs [d]) (hn : intL cs d = some ns) (q : Fin K mg (Rep K) Z W σ H (mkL c ((if b then (srt ns).reverse else srt ns).map D.int) cs) Q) :
    ∃ (a : Addr) (ns : List Int), xs = [V.ref a] ∧ SqL K H a (ns.map V.int) ∧ ∀ (ns' : List Int) (p : Addr), ns'.Perm ns → OrdB b ns' → H p = none → Q (.ref p) (upd H p (.lst (ns'.map V.int))) := by
  obtain ⟨v, rfl, r1⟩ := reps1 r
  obtain ⟨es, h1, h2⟩ := Option.bind_eq_some_iff.mp hn
  obtain ⟨a, vs, rfl, h3, hl, s⟩ := view_seqL S r1 h1
  have e := allInt_eq h2
  subst e
  have e := Reps.ints_inv s
  subst e
  refine ⟨a, ns, rfl, h3, fun ns' p hp hs hh => ?_⟩
  have e : ns' = if b then (srt ns).reverse else srt ns := by
    cases b with
    | false => exact srt_only hp hs
    | true =>
      have hs : ns'.Pairwise (· ≥ ·) := hs
      have := srt_only ((List.reverse_perm ns').trans hp) (List.pairwise_reverse.mpr hs)
      rw [if_pos rfl, ← this, List.reverse_reverse]
  subst e
  exact fin_mkL q S (.ints _) (by rw [List.length_map, hp.length_eq]; rw [List.length_map] at hl; exact hl) p hh
theorem ok_sortP {b c : Bool} {d : D} {ps : List (Int × Int)} {Z : WX} {σ : L2.St} {xs : List V} {Q : VK} (S : RS K mg W cs H) (r : Reps K W xs [d]) (hn : (seqL cs d).bind allPr = some ps) (q : Fin K mg (Rep K) Z W σ H (mkL c ((if b then (srtP ps).reverse else srtP ps).map tupP) cs) Q) : PrL K b xs H Q := by
  obtain ⟨v, rfl, r1⟩ := reps1 r
  obtain ⟨es, h1, h2⟩ := Option.bind_eq_some_iff.mp hn
  obtain ⟨a, vs, rfl, h3, hl, s⟩ := view_seqL S r1 h1
  have e := allPr_eq h2
  subst e
  obtain ⟨k1, k2, k3⟩ := pairs_at S s
  refine ⟨a, vs, prV H, rfl, h3, k1, fun ys p hs hp hh => ?_⟩
  have e : ys.map (prV H) = srtP ps := by
    refine srtP_only (by rw [← k3]; exact hp.map _) (List.pairwise_map.mpr (hs.imp fun {x y} h => ?_))
    have := SrtO.lexB_no.mp h
    unfold leP
    rw [decide_eq_true_eq]
    omega
  have hy : Reps K W ys ((srtP ps).map tupP) := by rw [← e]; exact reps_of fun x hx => k2 x (hp.mem_iff.mp hx)
  have hyl : ys.length ≤ sizeLine := by rw [hp.length_eq]; exact hl
  cases b with
  | false => exact fin_mkL q S hy hyl p hh
  | true =>
    rw [if_pos rfl, List.map_reverse] at q
    rw [if_pos rfl]
    exact fin_mkL q S hy.reverse (by rw [List.length_reverse]; exact hyl) p hh
theorem ok_sort {c : Bool} : OkN K mg (fun vs H Q => rSortedI K vs H Q ∨ PrL K false vs H Q) (bSort false c) := by
  intro Z W cs H σ xs ds Q S r q
  unfold bSort at q
  split at q
  · rename_i d
    split at q
    · rename_i ns hn
      refine .inl ?_
      obtain ⟨a, ns', e1, e2, e3⟩ := ok_sortI (b := false) S r hn q
      exact ⟨a, ns', e1, e2, fun ms p h1 h2 h3 => e3 ms p h1 h2 h3⟩
    · split at q
      · rename_i ps hn
        exact .inr (ok_sortP (b := false) S r hn q)
      · exact q.elim
  · exact q.elim
theorem ok_sortR {c : Bool} : OkN K mg (fun vs H Q => rSortedKw K true [.bl true] vs [.bl true] H Q ∨ PrL K true vs H Q) (bSort true c) := by
  intro Z W cs H σ xs ds Q S r q
  unfold bSort at q
  split at q
  · rename_i d
    split at q
    · rename_i ns hn
      refine .inl ?_
      obtain ⟨a, ns', e1, e2, e3⟩ := ok_sortI (b := true) S r hn q
      exact ⟨a, ns', e1, rfl, e2, fun ms p h1 h2 h3 => e3 ms p h1 h2 h3⟩
    · split at q
      · rename_i ps hn
        exact .inr (ok_sortP (b := true) S r hn q)
      · exact q.elim
  · exact q.elim
end
section
variable {X : Cx} {Z : WX} {pos p : Pos} {a : Expr} {t : SA}
theorem fe_sorted (c : Bool) (hm : X.mg "sorted" = none) (ha : FA X Z [a] t) (hg : Gl X "sorted" := by rfl) (he : starEach [a] X.env = (false, eval a X.env) :: starEach [] X.env := by rfl) (hpl : (backTo pos (starEach [] X.env)).any (·.1) = false := by rfl) : FE X Z (.Call (.Name "sorted" p) [a] [] pos) (eN (bSort false c) t) :=
  fe_callB cr_sortedX ok_sort hm ha hg (he := he) (hpl := hpl)
theorem fe_sortedR (c : Bool) {j : Nat} {p2 p3 : Pos} (hm : X.mg "sorted" = none) (ha : FA X Z [a] t) (hg : Gl X "sorted" := by rfl) (he : backTo pos (starEach [a] X.env) = (false, eval a X.env) :: backTo pos (starEach [] X.env) := by rfl) (hpl : (backTo pos (starEach [a] X.env)).any (·.1) = false := by rfl)
    (hall : (backToKw pos (keywordEach [⟨some "reverse", .Constant (.bool true) j p2, p3⟩] X.env)).all (·.1.isSome) = true := by rfl) (hnone : (backToKw pos (keywordEach [⟨some "reverse", .Constant (.bool true) j p2, p3⟩] X.env)).any (·.1.isNone) = false := by rfl) (hks : (backToKw pos (keywordEach [⟨some "reverse", .Constant (.bool true) j p2, p3⟩] X.env)).filterMap (·.1) = [Str.ofString "reverse"] := by rfl) :
    FE X Z (.Call (.Name "sorted" p) [a] [⟨some "reverse", .Constant (.bool true) j p2, p3⟩] pos) (eN (bSort true c) t) :=
  PEimp (pe_callBK cr_sortedY hg hm (by decide +kernel) ha (pk_cons pe_bl pk_nil) (he := he) (hpl := hpl) (hall := hall) (hnone := hnone) (hks := hks)) fun σ H Q ⟨W, sl, cs, S, L, q⟩ => by
    refine up_bind (R1 := Reps X.K) S L q fun W1 d cs1 x H1 st1 S1 L1 r1 q1 => ?_
    show (rSortedKw X.K true [.bl true] x [.bl true] H1 Q) ∨ ([V.bl true] = [.bl true] ∧ PrL X.K true x H1 Q)
    rcases ok_sortR Z W1 cs1 H1 σ x d Q S1 r1 q1 with h | h
    · exact .inl h
    · exact .inr ⟨rfl, h⟩
end
section
variable {cs : Cs} {c : Bool}
theorem r_sort {ns : List Int} (h : intL cs d = some ns) : bSort false c [d] cs = mkL c ((srt ns).map D.int) cs := by
  unfold bSort
  dsimp only
  rw [h]; rfl
theorem r_sortR {ns : List Int} (h : intL cs d = some ns) : bSort true c [d] cs = mkL c ((srt ns).reverse.map D.int) cs := by
  unfold bSort
  dsimp only
  rw [h]; rfl
theorem r_sortP {b : Bool} {ps : List (Int × Int)} (h : intL cs d = none) (h2 : (seqL cs d).bind allPr = some ps) : bSort b c [d] cs = mkL c ((if b then (srtP ps).reverse else srtP ps).map tupP) cs := by
  unfold bSort
  dsimp only
  rw [h]; dsimp only; rw [h2]
end
end LF

set_option Elab.async false
set_option maxRecDepth 100000
namespace LF
open PySem PySem.Spec L2
/-! ### a deck: the script's cells, a place, a rest, a count, a sum -/
/-- at most n draws were counted -/
def DeckP (n : Nat) (ds : List D) : Prop := ∃ (cells : List Int) (p b e : Int) (c : Nat), ds = [.lst (intsD cells), .int p, .int b, .int (c : Int), .int e] ∧ 0 ≤ p ∧ p ≤ cells.length ∧ cells.length ≤ 63 ∧ c ≤ n
structure Dk (i n : Nat) (cs cs' : Cs) : Prop where
  len : cs'.length = cs.length
  oth : ∀ j, j ≠ i → cs'[j]? = cs[j]?
  at' : ∃ ds, cs'[i]? = some (some (.lst ds)) ∧ DeckP n ds
abbrev DkAt (i n : Nat) (cs : Cs) : Prop := Dk i n cs cs
theorem DeckP.mono {n m : Nat} {ds : List D} (h : DeckP n ds) (l : n ≤ m) : DeckP m ds := by
  obtain ⟨a, b, c, d, e, h1, h2, h3, h4, h5⟩ := h
  exact ⟨a, b, c, d, e, h1, h2, h3, h4, by omega⟩
theorem DeckP.bels {n k : Nat} {ds : List D} (h : DeckP n ds) : D.bels k ds = true := by
  obtain ⟨a, b, c, d, e, rfl, _⟩ := h
  simp [D.bels, D.bel, bels_ints]
theorem Dk.mono {i n m : Nat} {cs cs' : Cs} (h : Dk i n cs cs') (l : n ≤ m) : Dk i m cs cs' := ⟨h.len, h.oth, by obtain ⟨ds, e, p⟩ := h.at'; exact ⟨ds, e, p.mono l⟩⟩
theorem Dk.trans {i n m : Nat} {cs cs1 cs2 : Cs} (a : Dk i n cs cs1) (b : Dk i m cs1 cs2) : Dk i m cs cs2 := ⟨b.len.trans a.len, fun j h => (b.oth j h).trans (a.oth j h), b.at'⟩
theorem Dk.self {i n : Nat} {cs cs1 : Cs} (a : Dk i n cs cs1) : DkAt i n cs1 := ⟨rfl, fun _ _ => rfl, a.at'⟩
theorem Dk.lt {i n : Nat} {cs cs1 : Cs} (a : Dk i n cs cs1) : i < cs.length := by
  obtain ⟨_, h, _⟩ := a.at'
  rw [← a.len]; exact (List.getElem?_eq_some_iff.mp h).1
theorem Dk.app {i n : Nat} {cs more : Cs} (a : DkAt i n cs) : DkAt i n (cs ++ more) := ⟨rfl, fun _ _ => rfl, by
  obtain ⟨ds, h, p⟩ := a.at'
  exact ⟨ds, by rw [List.getElem?_append_left a.lt]; exact h, p⟩⟩
theorem Dk.split {i n : Nat} {cs more cs2 : Cs} (a : Dk i n (cs ++ more) cs2) (h : i < cs.length) : ∃ cs1, cs2 = cs1 ++ more ∧ Dk i n cs cs1 := by
  have hl := a.len
  rw [List.length_append] at hl
  refine ⟨cs2.take cs.length, ?_, ?_, fun j hj => ?_, ?_⟩
  · refine List.ext_getElem? (fun j => ?_)
    by_cases hj : j < cs.length
    · rw [List.getElem?_append_left (by rw [List.length_take]; omega), List.getElem?_take, if_pos hj]
    · rw [a.oth j (by omega), List.getElem?_append_right (by omega), List.getElem?_append_right (by rw [List.length_take]; omega), List.length_take]
      congr 1
      omega
  · rw [List.length_take]; omega
  · rw [List.getElem?_take]
    split
    · rename_i hj2
      rw [a.oth j hj, List.getElem?_append_left hj2]
    · rw [List.getElem?_eq_none (by omega)]
  · obtain ⟨ds, e, p⟩ := a.at'
    exact ⟨ds, by rw [List.getElem?_take, if_pos h]; exact e, p⟩
theorem Dk.trOk {i n : Nat} {cs cs1 more : Cs} {d : D} (a : Dk i n cs cs1) (h : d.bel cs.length = true) : TrOk cs d (cs1 ++ more) := ⟨h, fun j c hj e => by
  rw [List.getElem?_append_left (by rw [a.len]; exact hj)] at e
  by_cases hij : j = i
  · subst hij
    obtain ⟨ds, e2, p⟩ := a.at'
    rw [e2] at e; cases e
    exact .inr (by rw [Cell.bel]; exact p.bels)
  · rw [a.oth j hij] at e; exact .inl e⟩
theorem Dk.trOk0 {i n : Nat} {cs cs1 : Cs} {d : D} (a : Dk i n cs cs1) (h : d.bel cs.length = true) : TrOk cs d cs1 := by
  have := a.trOk (more := []) h; rwa [List.append_nil] at this
theorem Dk.take {i n : Nat} {cs cs1 more : Cs} (a : Dk i n cs cs1) : (cs1 ++ more).take cs.length = cs1 := by
  rw [← a.len]; exact List.take_left
theorem Dk.take0 {i n : Nat} {cs cs1 : Cs} (a : Dk i n cs cs1) : cs1.take cs.length = cs1 := by
  rw [← a.len]; exact List.take_length
/-- the deck's cell is set anew -/
theorem Dk.set {i n : Nat} {cs : Cs} {ds : List D} (h : i < cs.length) (p : DeckP n ds) : Dk i n cs (cs.set i (some (.lst ds))) :=
  ⟨by simp, fun j hj => by rw [List.getElem?_set_ne (Ne.symm hj)], ds, by rw [List.getElem?_set_self h], p⟩
theorem allInt_ints : ∀ ns : List Int, allInt (intsD ns) = some ns
  | [] => rfl
  | n :: r => by
    show (allInt (intsD r)).map (n :: ·) = _
    rw [allInt_ints r]; rfl
variable {cs : Cs} {c : Bool}
theorem r_sumI {ns : List Int} : bSum [.lst (intsD ns)] cs = .ok (.int ns.sum) cs := by
  show (match (allInt (intsD ns)) with | some ns => Res.ok (D.int ns.sum) cs | none => .bad) = _
  rw [allInt_ints]
theorem sat_of {α : Type} {r : Res α} {a : α} {cs : Cs} {Q : α → Cs → Prop} (e : r = .ok a cs) (h : Q a cs) : Sat r Q := by rw [e, sat_ok]; exact h
theorem intsD_length (ns : List Int) : (intsD ns).length = ns.length := by unfold intsD; rw [List.length_map]
theorem atI_ints {ns : List Int} {i : Int} (h0 : 0 ≤ i) (h : i < ns.length) : ∃ x, atI (intsD ns) i = some (.int x) := by
  have h1 : i.toNat < (intsD ns).length := by rw [intsD_length]; omega
  exact ⟨ns[i.toNat]'(by rw [intsD_length] at h1; exact h1), by rw [atI_of h0 h1]; simp [intsD]⟩
theorem intsD_take (ns : List Int) (m : Nat) : (intsD ns).take m = intsD (ns.take m) := by unfold intsD; rw [List.map_take]
end LF

set_option Elab.async false
set_option maxRecDepth 100000
namespace LF
open PySem PySem.Spec L2
/-! ### running a list comprehension -/
theorem sat_nox {α : Type} {r : Res α} {Q : α → Cs → Prop} : Sat r.nox Q = Sat r Q := by
  cases r with
  | ok a cs => rfl
  | exc x cs => exact (sat_bad _).trans (sat_exc _ _ _).symm
  | bad => rfl
theorem lc_inv {ok : Cs → Prop} {g : SG} {t : ST} {f : SE} {sl : Sl} {all : List D} {Q : List D → Cs → Prop} (I : List D → List D → Cs → Prop)
    (hok : ∀ pre ys cs, I pre ys cs → ok cs)
    (step : ∀ pre d post ys cs, all = pre ++ d :: post → I pre ys cs → ∃ sl1, g d sl = some sl1 ∧ Sat (t sl1 cs) fun b cs1 => if b = true then Sat (f sl1 cs1) fun y cs2 => I (pre ++ [d]) (ys ++ [y]) cs2 else I (pre ++ [d]) ys cs1)
    (done : ∀ ys cs, I all ys cs → Q ys cs) : ∀ (post pre ys : List D) (cs : Cs), all = pre ++ post → I pre ys cs → Sat (lcL ok g t f sl post cs) fun zs cs => Q (ys ++ zs) cs
  | [], pre, ys, cs, e, h => by
    unfold lcL
    rw [if_pos (hok _ _ _ h), sat_ok]
    rw [List.append_nil] at e
    subst e
    rw [List.append_nil]
    exact done ys cs h
  | d :: r, pre, ys, cs, e, h => by
    unfold lcL
    rw [if_pos (hok _ _ _ h)]
    obtain ⟨sl1, e1, h1⟩ := step pre d r ys cs e h
    rw [e1]
    show Sat ((t sl1 cs).nox.bind _) _
    rw [sat_bind, sat_nox]
    refine h1.mono fun b cs1 h2 => ?_
    have e' : all = (pre ++ [d]) ++ r := by rw [e, List.append_assoc]; rfl
    cases b with
    | false =>
      rw [if_neg (by decide)] at h2 ⊢
      exact lc_inv I hok step done r (pre ++ [d]) ys cs1 e' h2
    | true =>
      rw [if_pos rfl] at h2 ⊢
      rw [sat_bind, sat_nox]
      refine h2.mono fun y cs2 h3 => ?_
      rw [sat_bind]
      refine (lc_inv I hok step done r (pre ++ [d]) (ys ++ [y]) cs2 e' h3).mono fun zs cs3 h4 => ?_
      rw [sat_ok]
      rw [List.append_assoc] at h4
      exact h4
/-- over data that do not change -/
theorem w_lc {g : SG} {t : ST} {f : SE} {sl : Sl} {all : List D} {cs : Cs} {Q : List D → Cs → Prop} (I : List D → List D → Cs → Prop) (h0 : I [] [] cs)
    (step : ∀ pre d post ys cs, all = pre ++ d :: post → I pre ys cs → ∃ sl1, g d sl = some sl1 ∧ Sat (t sl1 cs) fun b cs1 => if b = true then Sat (f sl1 cs1) fun y cs2 => I (pre ++ [d]) (ys ++ [y]) cs2 else I (pre ++ [d]) ys cs1)
    (done : ∀ ys cs, I all ys cs → Q ys cs) : Sat (lcL (fun _ => True) g t f sl all cs) Q := by
  have := lc_inv (ok := fun _ => True) I (fun _ _ _ _ => trivial) step done all [] [] cs rfl h0
  simpa using this
/-- of a list that changes nothing: what stays of it, each by F -/
theorem w_lcP {α : Type} {g : SG} {t : ST} {f : SE} {sl : Sl} {xs : List α} {E : α → D} {cs : Cs} {Q : List D → Cs → Prop} (P : α → Bool) (F : α → D)
    (step : ∀ x ∈ xs, ∃ sl1, g (E x) sl = some sl1 ∧ Sat (t sl1 cs) fun b cs1 => b = P x ∧ cs1 = cs ∧ (P x = true → Sat (f sl1 cs) fun y cs2 => y = F x ∧ cs2 = cs))
    (done : Q ((xs.filter P).map F) cs) : Sat (lcL (fun _ => True) g t f sl (xs.map E) cs) Q := by
  refine w_lc (fun pre ys cs1 => ys = ((xs.take pre.length).filter P).map F ∧ cs1 = cs) ⟨by simp, rfl⟩ ?_ ?_
  · rintro pre d post ys cs1 e ⟨rfl, rfl⟩
    have hx := split_at e
    rw [List.getElem?_map] at hx
    obtain ⟨x, hx2, rfl⟩ := Option.map_eq_some_iff.mp hx
    obtain ⟨sl1, e1, h⟩ := step x (List.mem_of_getElem? hx2)
    refine ⟨sl1, e1, h.mono fun b cs1 ⟨hb, hc, hf⟩ => ?_⟩
    subst hb hc
    rw [List.length_append, List.length_singleton, take_succ_of hx2]
    cases hp : P x with
    | false => rw [if_neg (by decide)]; simp [hp]
    | true => rw [if_pos rfl]; exact (hf hp).mono fun y cs2 ⟨hy, hc⟩ => by subst hy hc; simp [hp]
  · rintro ys cs1 ⟨rfl, rfl⟩
    rw [List.length_map]; rw [List.take_length]
    exact done
theorem natsD_snoc (a : List Nat) (n : Nat) : natsD a ++ [D.int (n : Int)] = natsD (a ++ [n]) := (natsD_append a [n]).symm
/-- an item of a written list at a drawn place -/
theorem pickI {cs : Cs} {l : List Int} {i : Int} (h0 : 0 ≤ i) (h : i < l.length) {Q : D → Cs → Prop} (k : ∀ x ∈ l, Q (.int x) cs) : Sat (pItem (.lst (l.map D.int)) (.int i) cs) Q := by
  have hl : i.toNat < l.length := by omega
  rw [r_itemL (d := .int l[i.toNat]) (by rw [atI_of h0 (by rw [List.length_map]; exact hl)]; simp), sat_ok]
  exact k _ (List.getElem_mem hl)
/-- the cell laid last -/
theorem last_at {cs cs1 : Cs} {c : Cell} (e : cs1.length = cs.length) : (cs1 ++ [some c])[cs.length]? = some (some c) := by
  rw [← e, List.getElem?_append_right (Nat.le_refl _), Nat.sub_self]; rfl
theorem last_set {cs cs1 : Cs} {c : Option Cell} {d : Option Cell} (e : cs1.length = cs.length) : (cs1 ++ [c]).set cs.length d = cs1 ++ [d] := by
  rw [← e, List.set_append_right _ _ (Nat.le_refl _), Nat.sub_self]; rfl
end LF

set_option Elab.async false
namespace GF
/-! ### sums by bits of told numbers, in plain Lean -/
theorem hb_iff {n k : Nat} (h : n ≠ 0) : n.log2 = k ↔ n.testBit k = true ∧ ∀ j, k < j → n.testBit j = false := by
  constructor
  · rintro rfl
    refine ⟨?_, fun j hj => ?_⟩
    · have h1 := Nat.log2_self_le h
      have h2 := Nat.lt_log2_self (n := n)
      by_cases hb : n.testBit n.log2 = true
      · exact hb
      · exfalso
        have : n < 2 ^ n.log2 := by
          refine Nat.lt_pow_two_of_testBit n fun i hi => ?_
          rcases Nat.lt_or_ge n.log2 i with q | q
          · exact Nat.testBit_lt_two_pow (Nat.lt_of_lt_of_le h2 (Nat.pow_le_pow_right (by decide) q))
          · rw [Nat.le_antisymm q hi]; simpa using hb
        omega
    · exact Nat.testBit_lt_two_pow (Nat.lt_of_lt_of_le Nat.lt_log2_self (Nat.pow_le_pow_right (by decide) hj))
  · rintro ⟨h1, h2⟩
    have a : n.log2 < k + 1 := by
      rw [Nat.log2_lt h]
      exact Nat.lt_pow_two_of_testBit n fun i hi => h2 i hi
    have b : k ≤ n.log2 := by
      rw [Nat.le_log2 h]
      exact Nat.ge_two_pow_of_testBit h1
    omega
theorem top_bit {n : Nat} (h : n ≠ 0) : n.testBit n.log2 = true := ((hb_iff h).mp rfl).1
theorem above {n j : Nat} (h : n.log2 < j) : n.testBit j = false := by
  by_cases h0 : n = 0
  · rw [h0]; exact Nat.zero_testBit j
  · exact ((hb_iff h0).mp rfl).2 j h
/-- a bit of a sum -/
theorem xb (a b k : Nat) : (a ^^^ b).testBit k = (a.testBit k != b.testBit k) := by rw [Nat.testBit_xor]
theorem lt_of_bit {x y i : Nat} (hx : x.testBit i = false) (hy : y.testBit i = true) (h : ∀ j, i < j → x.testBit j = y.testBit j) : x < y := by
  have e : x / 2 ^ (i + 1) = y / 2 ^ (i + 1) := by
    apply Nat.eq_of_testBit_eq
    intro j
    rw [Nat.testBit_div_two_pow, Nat.testBit_div_two_pow]
    exact h _ (by omega)
  have a : x % 2 ^ (i + 1) < 2 ^ i := by
    refine Nat.lt_pow_two_of_testBit _ fun j hj => ?_
    rw [Nat.testBit_mod_two_pow]
    by_cases q : j < i + 1
    · have : j = i := by omega
      subst this
      simp [hx]
    · simp [q]
  have b : 2 ^ i ≤ y % 2 ^ (i + 1) := by
    refine Nat.ge_two_pow_of_testBit ?_
    rw [Nat.testBit_mod_two_pow]
    simp [hy]
  have c := Nat.div_add_mod x (2 ^ (i + 1))
  have d := Nat.div_add_mod y (2 ^ (i + 1))
  rw [e] at c
  omega
theorem xself (a b : Nat) : a ^^^ b ^^^ b = a := by rw [Nat.xor_assoc, Nat.xor_self, Nat.xor_zero]
/-- adding a number takes off or puts on its highest bit -/
theorem xor_lt_iff {n a : Nat} (h : a ≠ 0) : n ^^^ a < n ↔ n.testBit a.log2 = true := by
  have ha := top_bit h
  have up : ∀ j, a.log2 < j → (n ^^^ a).testBit j = n.testBit j := fun j hj => by rw [xb, above hj]; cases n.testBit j <;> rfl
  cases hb : n.testBit a.log2 with
  | true =>
    refine ⟨fun _ => rfl, fun _ => lt_of_bit (i := a.log2) (by rw [xb, hb, ha]; rfl) hb up⟩
  | false =>
    refine ⟨fun q => ?_, fun q => by cases q⟩
    have : n < n ^^^ a := lt_of_bit (i := a.log2) hb (by rw [xb, hb, ha]; rfl) fun j hj => (up j hj).symm
    omega
/-- one step of lessening -/
def les1 (n a : Nat) : Nat := if n ^^^ a < n then n ^^^ a else n
def less (n : Nat) (bs : List Nat) : Nat := bs.foldl les1 n
theorem les1_eq {n a : Nat} (h : a ≠ 0) : les1 n a = if n.testBit a.log2 then n ^^^ a else n := by
  unfold les1
  cases hb : n.testBit a.log2 with
  | true => rw [if_pos ((xor_lt_iff h).mpr hb), if_pos rfl]
  | false => rw [if_neg (fun q => by rw [(xor_lt_iff h).mp q] at hb; cases hb), if_neg (by decide)]
theorem les1_bit {n a : Nat} (h : a ≠ 0) : (les1 n a).testBit a.log2 = false := by
  rw [les1_eq h]
  cases hb : n.testBit a.log2 with
  | true => rw [if_pos rfl, xb, hb, top_bit h]; rfl
  | false => rw [if_neg (by decide)]; exact hb
theorem les1_keep {n a k : Nat} (h : a ≠ 0) (hk : a.testBit k = false) : (les1 n a).testBit k = n.testBit k := by
  rw [les1_eq h]
  split
  · rw [xb, hk]; cases n.testBit k <;> rfl
  · rfl
/-! ### what some numbers sum to -/
inductive Sp : List Nat → Nat → Prop
  | nil : Sp [] 0
  | skip {l : List Nat} {a n : Nat} (h : Sp l n) : Sp (a :: l) n
  | take {l : List Nat} {a n : Nat} (h : Sp l n) : Sp (a :: l) (n ^^^ a)
theorem Sp.zero : ∀ l : List Nat, Sp l 0
  | [] => .nil
  | _ :: l => .skip (Sp.zero l)
theorem sp_cons {l : List Nat} {a n : Nat} : Sp (a :: l) n ↔ Sp l n ∨ Sp l (n ^^^ a) := by
  constructor
  · intro h
    cases h with
    | skip h => exact .inl h
    | take h => rw [xself]; exact .inr h
  · rintro (h | h)
    · exact .skip h
    · have := Sp.take (a := a) h; rwa [xself] at this
theorem sp_nil {n : Nat} : Sp [] n ↔ n = 0 := ⟨fun h => by cases h; rfl, fun h => h ▸ .nil⟩
theorem Sp.add {l : List Nat} {a b : Nat} (h : Sp l a) : Sp l b → Sp l (a ^^^ b) := by
  induction h generalizing b with
  | nil => intro q; rw [Nat.zero_xor]; exact q
  | @skip l c n h ih =>
    intro q
    rcases sp_cons.mp q with q | q
    · exact .skip (ih q)
    · refine sp_cons.mpr (.inr ?_); rw [Nat.xor_assoc]; exact ih q
  | @take l c n h ih =>
    intro q
    rcases sp_cons.mp q with q | q
    · refine sp_cons.mpr (.inr ?_)
      have := ih q
      rwa [show n ^^^ c ^^^ b ^^^ c = n ^^^ b by rw [Nat.xor_assoc, Nat.xor_assoc, Nat.xor_comm b c, ← Nat.xor_assoc c c b, Nat.xor_self, Nat.zero_xor]]
    · refine .skip ?_
      have := ih q
      rwa [show n ^^^ (b ^^^ c) = n ^^^ c ^^^ b by rw [Nat.xor_comm b c, Nat.xor_assoc]] at this
theorem Sp.mem {l : List Nat} {a : Nat} (h : a ∈ l) : Sp l a := by
  induction l with
  | nil => cases h
  | cons b l ih =>
    rcases List.mem_cons.mp h with (rfl | h)
    · refine sp_cons.mpr (.inr ?_); rw [Nat.xor_self]; exact .zero l
    · exact .skip (ih h)
/-- sums of sums -/
theorem Sp.sub {l m : List Nat} (h : ∀ a ∈ l, Sp m a) {n : Nat} (q : Sp l n) : Sp m n := by
  induction q with
  | nil => exact .zero m
  | skip q ih => exact ih fun a ha => h a (List.mem_cons_of_mem _ ha)
  | take q ih => exact (ih fun a ha => h a (List.mem_cons_of_mem _ ha)).add (h _ (List.mem_cons_self ..))
def Same (l m : List Nat) : Prop := ∀ n, Sp l n ↔ Sp m n
theorem same_of {l m : List Nat} (h : ∀ a ∈ l, Sp m a) (h' : ∀ a ∈ m, Sp l a) : Same l m := fun _ => ⟨Sp.sub h, Sp.sub h'⟩
theorem Same.refl (l : List Nat) : Same l l := fun _ => Iff.rfl
theorem Same.symm {l m : List Nat} (h : Same l m) : Same m l := fun n => (h n).symm
theorem Same.trans {l m k : List Nat} (h : Same l m) (h' : Same m k) : Same l k := fun n => (h n).trans (h' n)
theorem same_mem {l m : List Nat} (h : ∀ a, a ∈ l ↔ a ∈ m) : Same l m := same_of (fun a ha => .mem ((h a).mp ha)) fun a ha => .mem ((h a).mpr ha)
theorem Same.cons {l m : List Nat} (h : Same l m) (a : Nat) : Same (a :: l) (a :: m) := fun n => by rw [sp_cons, sp_cons, h n, h (n ^^^ a)]
theorem less_sp {bs : List Nat} : ∀ {n : Nat}, Sp bs (n ^^^ less n bs) := by
  induction bs with
  | nil => intro n; show Sp [] (n ^^^ n); rw [Nat.xor_self]; exact .nil
  | cons a l ih =>
    intro n
    show Sp (a :: l) (n ^^^ less (les1 n a) l)
    have h := ih (n := les1 n a)
    unfold les1 at h ⊢
    split
    · rename_i q
      rw [if_pos q] at h
      refine sp_cons.mpr (.inr ?_)
      rwa [show n ^^^ less (n ^^^ a) l ^^^ a = n ^^^ a ^^^ less (n ^^^ a) l by rw [Nat.xor_assoc, Nat.xor_assoc, Nat.xor_comm a]]
    · rename_i q
      rw [if_neg q] at h
      exact .skip h
/-! ### reduced rows -/
/-- apart: unlike highest bits, neither has the other's -/
def Ap (a b : Nat) : Prop := a.testBit b.log2 = false ∧ b.testBit a.log2 = false
theorem Ap.symm {a b : Nat} (h : Ap a b) : Ap b a := ⟨h.2, h.1⟩
theorem Ap.ne {a b : Nat} (h : Ap a b) (ha : a ≠ 0) : a.log2 ≠ b.log2 := fun e => by have := h.1; rw [← e, top_bit ha] at this; cases this
structure Red (bs : List Nat) : Prop where
  pos : ∀ b ∈ bs, b ≠ 0
  ap : bs.Pairwise Ap
theorem Red.tail {a : Nat} {l : List Nat} (h : Red (a :: l)) : Red l := ⟨fun b hb => h.pos b (List.mem_cons_of_mem _ hb), (List.pairwise_cons.mp h.ap).2⟩
/-- of a sum of reduced rows: it has the bit of a row just where .. -/
theorem less_bits {bs : List Nat} : ∀ {n k : Nat}, (∀ b ∈ bs, b ≠ 0) → (∀ b ∈ bs, b.testBit k = false) → (less n bs).testBit k = n.testBit k := by
  induction bs with
  | nil => intros; rfl
  | cons a l ih =>
    intro n k h0 h
    show (less (les1 n a) l).testBit k = _
    rw [ih (fun b hb => h0 b (List.mem_cons_of_mem _ hb)) (fun b hb => h b (List.mem_cons_of_mem _ hb)), les1_keep (h0 a (List.mem_cons_self ..)) (h a (List.mem_cons_self ..))]
/-- what is left has none of the rows' highest bits -/
theorem less_clear {bs : List Nat} (R : Red bs) : ∀ {n : Nat}, ∀ b ∈ bs, (less n bs).testBit b.log2 = false := by
  induction bs with
  | nil => intro n b hb; cases hb
  | cons a l ih =>
    intro n b hb
    show (less (les1 n a) l).testBit _ = _
    rcases List.mem_cons.mp hb with (rfl | hb)
    · rw [less_bits R.tail.pos fun c hc => ((List.pairwise_cons.mp R.ap).1 c hc).2]
      exact les1_bit (R.pos _ (List.mem_cons_self ..))
    · exact ih R.tail b hb
/-- the sum of all -/
def xs (l : List Nat) : Nat := l.foldr (· ^^^ ·) 0
theorem xs_cons (a : Nat) (l : List Nat) : xs (a :: l) = a ^^^ xs l := rfl
theorem sp_sub {l : List Nat} {n : Nat} (h : Sp l n) : ∃ s : List Nat, s.Sublist l ∧ n = xs s := by
  induction h with
  | nil => exact ⟨[], .slnil, rfl⟩
  | skip h ih => obtain ⟨s, h1, h2⟩ := ih; exact ⟨s, .cons _ h1, h2⟩
  | @take l a n h ih => obtain ⟨s, h1, h2⟩ := ih; exact ⟨a :: s, .cons_cons _ h1, by rw [xs_cons, h2, Nat.xor_comm]⟩
theorem sub_sp {l s : List Nat} (h : s.Sublist l) : Sp l (xs s) := by
  induction h with
  | slnil => exact .nil
  | cons a h ih => exact .skip ih
  | @cons_cons s l a h ih => rw [xs_cons, Nat.xor_comm]; exact .take ih
theorem xs_off {k : Nat} : ∀ {l : List Nat}, (∀ b ∈ l, b.testBit k = false) → (xs l).testBit k = false
  | [], _ => Nat.zero_testBit k
  | a :: l, h => by rw [xs_cons, xb, h a (List.mem_cons_self ..), xs_off fun b hb => h b (List.mem_cons_of_mem _ hb)]; rfl
theorem Red.sub {l s : List Nat} (R : Red l) (h : s.Sublist l) : Red s := ⟨fun b hb => R.pos b (h.subset hb), R.ap.sublist h⟩
theorem Red.bit : ∀ {l : List Nat}, Red l → ∀ b ∈ l, (xs l).testBit b.log2 = true
  | a :: l, R, b, hb => by
    have hl := (List.pairwise_cons.mp R.ap).1
    rw [xs_cons, xb]
    rcases List.mem_cons.mp hb with (rfl | hb)
    · rw [top_bit (R.pos _ (List.mem_cons_self ..)), xs_off fun c hc => (hl c hc).2]; rfl
    · rw [(hl b hb).1, Red.bit R.tail b hb]; rfl
/-- a sum of rows that has none of their highest bits is 0 -/
theorem clear_zero {bs : List Nat} (R : Red bs) {n : Nat} (h : Sp bs n) (c : ∀ b ∈ bs, n.testBit b.log2 = false) : n = 0 := by
  obtain ⟨s, h1, rfl⟩ := sp_sub h
  cases s with
  | nil => rfl
  | cons a r =>
    have q := (R.sub h1).bit a (List.mem_cons_self ..)
    rw [c a (h1.subset (List.mem_cons_self ..))] at q
    cases q
/-- a number is a sum just where nothing is left -/
theorem less_zero {bs : List Nat} (R : Red bs) {n : Nat} : less n bs = 0 ↔ Sp bs n := by
  constructor
  · intro h
    have := less_sp (bs := bs) (n := n)
    rwa [h, Nat.xor_zero] at this
  · intro h
    refine clear_zero R ?_ (less_clear R)
    have := h.add (less_sp (bs := bs) (n := n))
    rwa [← Nat.xor_assoc, Nat.xor_self, Nat.zero_xor] at this
/-- the highest bit of a sum that is not 0 is one of the rows' -/
theorem top_in {bs : List Nat} (R : Red bs) {n : Nat} (h : Sp bs n) (h0 : n ≠ 0) : ∃ b ∈ bs, b.log2 = n.log2 := by
  obtain ⟨s, h1, rfl⟩ := sp_sub h
  obtain ⟨b, hb, e⟩ : ∃ b ∈ s, b.testBit (xs s).log2 = true := by
    apply Classical.byContradiction
    intro no
    have q := xs_off (l := s) (k := (xs s).log2) fun b hb => by
      cases e : b.testBit (xs s).log2 with
      | false => rfl
      | true => exact absurd ⟨b, hb, e⟩ no
    rw [top_bit h0] at q; cases q
  refine ⟨b, h1.subset hb, Nat.le_antisymm ?_ ?_⟩
  · rcases Nat.lt_or_ge (xs s).log2 b.log2 with q | q
    · have := (R.sub h1).bit b hb
      rw [above q] at this; cases this
    · exact q
  · rcases Nat.lt_or_ge b.log2 (xs s).log2 with q | q
    · rw [above q] at e; cases e
    · exact q
/-- which numbers are rows: told by the sums alone -/
theorem red_mem {bs : List Nat} (R : Red bs) {b : Nat} : b ∈ bs ↔ b ≠ 0 ∧ Sp bs b ∧ ∀ v, Sp bs v → v ≠ 0 → v.log2 ≠ b.log2 → b.testBit v.log2 = false := by
  have apart : ∀ {b c : Nat}, b ∈ bs → c ∈ bs → b ≠ c → b.testBit c.log2 = false := by
    intro b c hb hc hne
    have := R.ap
    clear R
    induction bs with
    | nil => cases hb
    | cons a l ih =>
      obtain ⟨p, q⟩ := List.pairwise_cons.mp this
      rcases List.mem_cons.mp hb with e1 | h1
      · rcases List.mem_cons.mp hc with e2 | h2
        · exact absurd (e1.trans e2.symm) hne
        · subst e1; exact (p c h2).1
      · rcases List.mem_cons.mp hc with e2 | h2
        · subst e2; exact (p b h1).2
        · exact ih h1 h2 q
  constructor
  · intro hb
    refine ⟨R.pos b hb, .mem hb, fun v hv h0 hne => ?_⟩
    obtain ⟨c, hc, e⟩ := top_in R hv h0
    rw [← e]
    exact apart hb hc fun q => hne (by rw [← e, q])
  · rintro ⟨h0, h, q⟩
    obtain ⟨c, hc, e⟩ := top_in R h h0
    by_cases hz : b ^^^ c = 0
    · have : b = c := by have := xself b c; rw [hz, Nat.zero_xor] at this; exact this.symm
      exact this ▸ hc
    · exfalso
      have hs : Sp bs (b ^^^ c) := h.add (.mem hc)
      obtain ⟨d, hd, e2⟩ := top_in R hs hz
      have hlt : (b ^^^ c).testBit b.log2 = false := by rw [xb, top_bit h0, ← e, top_bit (R.pos c hc)]; rfl
      have hne : (b ^^^ c).log2 ≠ b.log2 := fun z => by rw [← z, top_bit hz] at hlt; cases hlt
      have h1 := q _ hs hz hne
      have h2 : c.testBit (b ^^^ c).log2 = false := by
        rw [← e2]
        exact apart hc hd fun z => hne (by rw [← e2, ← z, e])
      have h3 := top_bit hz
      rw [xb, h1, h2] at h3
      cases h3
/-- falling numbers with the same members are the same -/
theorem sorted_ext : ∀ {l m : List Nat}, l.Pairwise (· > ·) → m.Pairwise (· > ·) → (∀ a, a ∈ l ↔ a ∈ m) → l = m
  | [], [], _, _, _ => rfl
  | [], b :: m, _, _, h => absurd ((h b).mpr (List.mem_cons_self ..)) List.not_mem_nil
  | a :: l, [], _, _, h => absurd ((h a).mp (List.mem_cons_self ..)) List.not_mem_nil
  | a :: l, b :: m, hl, hm, h => by
    obtain ⟨l1, l2⟩ := List.pairwise_cons.mp hl
    obtain ⟨m1, m2⟩ := List.pairwise_cons.mp hm
    have e : a = b := by
      rcases List.mem_cons.mp ((h a).mp (List.mem_cons_self ..)) with q | q
      · exact q
      · rcases List.mem_cons.mp ((h b).mpr (List.mem_cons_self ..)) with q2 | q2
        · exact q2.symm
        · have := m1 a q; have := l1 b q2; omega
    subst e
    refine congrArg _ (sorted_ext l2 m2 fun x => ?_)
    constructor
    · intro hx
      rcases List.mem_cons.mp ((h x).mp (List.mem_cons_of_mem _ hx)) with q | q
      · have := l1 x hx; omega
      · exact q
    · intro hx
      rcases List.mem_cons.mp ((h x).mpr (List.mem_cons_of_mem _ hx)) with q | q
      · have := m1 x hx; omega
      · exact q
/-- the reduced falling rows of a set of sums are one -/
structure Basis (l bs : List Nat) : Prop where
  red : Red bs
  fall : bs.Pairwise (· > ·)
  same : Same l bs
theorem Basis.unique {l l' bs bs' : List Nat} (h : Basis l bs) (h' : Basis l' bs') (e : Same l l') : bs = bs' :=
  sorted_ext h.fall h'.fall fun a => by
    have s : Same bs bs' := h.same.symm.trans (e.trans h'.same)
    rw [red_mem h.red, red_mem h'.red, s a]
    constructor
    · rintro ⟨p, q, r⟩; exact ⟨p, q, fun v hv => r v ((s v).mpr hv)⟩
    · rintro ⟨p, q, r⟩; exact ⟨p, q, fun v hv => r v ((s v).mp hv)⟩
end GF

set_option Elab.async false
namespace GF
/-! ### a row more -/
/-- x without h's highest bit -/
def clr (h x : Nat) : Nat := if x.testBit h.log2 then x ^^^ h else x
theorem clr_bit {h x : Nat} (h0 : h ≠ 0) : (clr h x).testBit h.log2 = false := by
  unfold clr
  cases e : x.testBit h.log2 with
  | true => rw [if_pos rfl, xb, e, top_bit h0]; rfl
  | false => rw [if_neg (by decide)]; exact e
theorem clr_keep {h x k : Nat} (e : h.testBit k = false) : (clr h x).testBit k = x.testBit k := by
  unfold clr
  split
  · rw [xb, e]; cases x.testBit k <;> rfl
  · rfl
theorem clr_self {h : Nat} (h0 : h ≠ 0) : clr h h = 0 := by
  unfold clr; rw [if_pos (top_bit h0), Nat.xor_self]
theorem clr_top {h b : Nat} (h0 : h ≠ 0) (b0 : b ≠ 0) (e : h.testBit b.log2 = false) : (clr h b).log2 = b.log2 ∧ clr h b ≠ 0 := by
  have hb : (clr h b).testBit b.log2 = true := by rw [clr_keep e, top_bit b0]
  have hne : clr h b ≠ 0 := fun z => by rw [z, Nat.zero_testBit] at hb; cases hb
  refine ⟨(hb_iff hne).mpr ⟨hb, fun j hj => ?_⟩, hne⟩
  unfold clr
  split
  · rename_i q
    have hlt : h.log2 ≤ b.log2 := by
      rcases Nat.lt_or_ge b.log2 h.log2 with z | z
      · rw [above z] at q; cases q
      · exact z
    rw [xb, above hj, above (Nat.lt_of_le_of_lt hlt hj)]; rfl
  · exact above hj
theorem red_add {f : List Nat} {h : Nat} (R : Red f) (h0 : h ≠ 0) (c : ∀ b ∈ f, h.testBit b.log2 = false) : Red (f.map (clr h) ++ [h]) := by
  constructor
  · intro b hb
    rcases List.mem_append.mp hb with q | q
    · obtain ⟨x, hx, rfl⟩ := List.mem_map.mp q
      exact (clr_top h0 (R.pos x hx) (c x hx)).2
    · rw [List.mem_singleton.mp q]; exact h0
  · rw [List.pairwise_append]
    refine ⟨?_, List.pairwise_singleton _ _, ?_⟩
    · rw [List.pairwise_map]
      refine R.ap.imp_of_mem fun {a b} ha hb q => ?_
      have ta := clr_top h0 (R.pos a ha) (c a ha)
      have tb := clr_top h0 (R.pos b hb) (c b hb)
      exact ⟨by rw [tb.1, clr_keep (c b hb)]; exact q.1, by rw [ta.1, clr_keep (c a ha)]; exact q.2⟩
    · intro a ha b hb
      obtain ⟨x, hx, rfl⟩ := List.mem_map.mp ha
      rw [List.mem_singleton.mp hb]
      exact ⟨clr_bit h0, by rw [(clr_top h0 (R.pos x hx) (c x hx)).1]; exact c x hx⟩
theorem sp_clr {m : List Nat} {h x : Nat} (hm : Sp m h) : Sp m (clr h x) ↔ Sp m x := by
  unfold clr
  split
  · constructor
    · intro q; have := q.add hm; rwa [xself] at this
    · intro q; exact q.add hm
  · exact Iff.rfl
theorem same_add (f l : List Nat) (h : Nat) : Same (f ++ h :: l) (f.map (clr h) ++ [h] ++ l.map (clr h)) := by
  have a : Sp (f ++ h :: l) h := .mem (by simp)
  have b : Sp (f.map (clr h) ++ [h] ++ l.map (clr h)) h := .mem (by simp)
  refine same_of (fun x hx => ?_) fun x hx => ?_
  · rw [← sp_clr b]
    simp only [List.mem_append, List.mem_cons] at hx
    rcases hx with q | q | q
    · exact .mem (by simp only [List.mem_append, List.mem_map]; exact .inl (.inl ⟨x, q, rfl⟩))
    · subst q; rw [sp_clr b]; exact b
    · exact .mem (by simp only [List.mem_append, List.mem_map]; exact .inr ⟨x, q, rfl⟩)
  · simp only [List.mem_append, List.mem_map, List.mem_singleton] at hx
    rcases hx with (⟨y, hy, rfl⟩ | rfl) | ⟨y, hy, rfl⟩
    · rw [sp_clr a]; exact .mem (by simp [hy])
    · exact a
    · rw [sp_clr a]; exact .mem (by simp [hy])
/-- noughts tell nothing -/
theorem same_pos (l : List Nat) : Same l (l.filter fun x => decide (0 < x)) := by
  refine same_of (fun x hx => ?_) fun x hx => .mem (List.mem_filter.mp hx).1
  by_cases h : 0 < x
  · exact .mem (List.mem_filter.mpr ⟨hx, by simpa using h⟩)
  · have : x = 0 := by omega
    rw [this]; exact .zero _
theorem Same.app {a b c d : List Nat} (h : Same a b) (h' : Same c d) : Same (a ++ c) (b ++ d) := by
  have sub : ∀ {a b c : List Nat}, (∀ x ∈ a, x ∈ c) → ∀ {n}, Sp a n → Sp c n := fun h _ q => Sp.sub (fun x hx => .mem (h x hx)) q
  refine same_of (fun x hx => ?_) fun x hx => ?_
  · rcases List.mem_append.mp hx with q | q
    · exact sub (b := b) (by simp +contextual) ((h x).mp (.mem q))
    · exact sub (b := b) (by simp +contextual) ((h' x).mp (.mem q))
  · rcases List.mem_append.mp hx with q | q
    · exact sub (b := b) (by simp +contextual) ((h x).mpr (.mem q))
    · exact sub (b := b) (by simp +contextual) ((h' x).mpr (.mem q))
/-! ### the law's own way: the greatest first -/
structure LB (ns f l : List Nat) : Prop where
  red : Red f
  dec : f.Pairwise fun a b => b.log2 < a.log2
  same : Same ns (f ++ l)
  pos : ∀ x ∈ l, x ≠ 0
  clear : ∀ x ∈ l, ∀ b ∈ f, x.testBit b.log2 = false
  low : ∀ x ∈ l, ∀ b ∈ f, x.log2 < b.log2
theorem LB.start (ns : List Nat) : LB ns [] (ns.filter fun x => decide (0 < x)) where
  red := ⟨by simp, .nil⟩
  dec := .nil
  same := same_pos ns
  pos := fun x hx => by have := (List.mem_filter.mp hx).2; simp at this; omega
  clear := by simp
  low := by simp
theorem lt_log {a b : Nat} (ha : a ≠ 0) (hb : b ≠ 0) (h : a.log2 < b.log2) : a < b :=
  Nat.lt_of_lt_of_le ((Nat.log2_lt ha).mp h) (Nat.log2_self_le hb)
theorem le_log {a b : Nat} (ha : a ≠ 0) (h : a ≤ b) : a.log2 ≤ b.log2 :=
  (Nat.le_log2 (by omega)).mpr (Nat.le_trans (Nat.log2_self_le ha) h)
theorem LB.done {ns f : List Nat} (h : LB ns f []) : Basis ns f where
  red := h.red
  fall := h.dec.imp_of_mem fun {a b} ha hb q => lt_log (h.red.pos b hb) (h.red.pos a ha) q
  same := by have := h.same; rwa [List.append_nil] at this
theorem LB.step {ns f l : List Nat} (L : LB ns f l) {h : Nat} (hm : h ∈ l) (hx : ∀ x ∈ l, x ≤ h) : LB ns (f.map (clr h) ++ [h]) ((l.map (clr h)).filter fun x => decide (0 < x)) := by
  have h0 := L.pos h hm
  have top : ∀ b ∈ f, (clr h b).log2 = b.log2 := fun b hb => (clr_top h0 (L.red.pos b hb) (L.clear h hm b hb)).1
  constructor
  · exact red_add L.red h0 (L.clear h hm)
  · rw [List.pairwise_append]
    refine ⟨?_, List.pairwise_singleton _ _, ?_⟩
    · rw [List.pairwise_map]
      exact L.dec.imp_of_mem fun {a b} ha hb q => by rw [top a ha, top b hb]; exact q
    · intro a ha b hb
      obtain ⟨x, hx2, rfl⟩ := List.mem_map.mp ha
      rw [List.mem_singleton.mp hb, top x hx2]
      exact L.low h hm x hx2
  · refine L.same.trans ?_
    have e1 : Same (f ++ l) (f ++ h :: l) := same_mem fun a => by
      simp only [List.mem_append, List.mem_cons]
      constructor
      · rintro (q | q)
        · exact .inl q
        · exact .inr (.inr q)
      · rintro (q | q | q)
        · exact .inl q
        · subst q; exact .inr hm
        · exact .inr q
    exact e1.trans ((same_add f l h).trans (Same.app (Same.refl _) (same_pos _)))
  · intro x hx2
    have := (List.mem_filter.mp hx2).2
    simp at this; omega
  · intro x hx2 b hb
    obtain ⟨y, hy, rfl⟩ := List.mem_map.mp (List.mem_filter.mp hx2).1
    rcases List.mem_append.mp hb with q | q
    · obtain ⟨c, hc, rfl⟩ := (List.mem_map.mp q)
      rw [top c hc, clr_keep (L.clear h hm c hc)]
      exact L.clear y hy c hc
    · rw [List.mem_singleton.mp q]; exact clr_bit h0
  · intro x hx2 b hb
    have hp := (List.mem_filter.mp hx2).2
    obtain ⟨y, hy, rfl⟩ := List.mem_map.mp (List.mem_filter.mp hx2).1
    have hp0 : clr h y ≠ 0 := by simp at hp; omega
    have lowh : (clr h y).log2 < h.log2 := by
      rw [Nat.log2_lt hp0]
      refine Nat.lt_pow_two_of_testBit _ fun k hk => ?_
      rcases Nat.lt_or_ge h.log2 k with q | q
      · rw [clr_keep (above q)]
        exact above (Nat.lt_of_le_of_lt (le_log (L.pos y hy) (hx y hy)) q)
      · rw [show k = h.log2 by omega]; exact clr_bit h0
    rcases List.mem_append.mp hb with q | q
    · obtain ⟨c, hc, rfl⟩ := (List.mem_map.mp q)
      rw [top c hc]
      exact Nat.lt_trans lowh (L.low h hm c hc)
    · rw [List.mem_singleton.mp q]; exact lowh
theorem LB.fewer {l : List Nat} {h : Nat} (h0 : h ≠ 0) (hm : h ∈ l) : ((l.map (clr h)).filter fun x => decide (0 < x)).length < l.length := by
  have a : ((l.map (clr h)).filter fun x => decide (0 < x)).length < (l.map (clr h)).length := by
    refine List.length_filter_lt_length_iff_exists.mpr ⟨clr h h, List.mem_map.mpr ⟨h, hm, rfl⟩, ?_⟩
    rw [clr_self h0]; simp
  rwa [List.length_map] at a
/-! ### the program's way: one number more -/
theorem basis_add {ns f : List Nat} (B : Basis ns f) {n : Nat} : (less n f = 0 → Basis (ns ++ [n]) f) ∧ (less n f ≠ 0 → ∀ g : List Nat, g.Perm (f.map (clr (less n f)) ++ [less n f]) → g.Pairwise (· ≥ ·) → Basis (ns ++ [n]) g) := by
  have sp := less_sp (bs := f) (n := n)
  constructor
  · intro h0
    rw [h0, Nat.xor_zero] at sp
    refine ⟨B.red, B.fall, same_of (fun x hx => ?_) fun x hx => ?_⟩
    · rcases List.mem_append.mp hx with q | q
      · exact (B.same x).mp (.mem q)
      · rw [List.mem_singleton.mp q]; exact sp
    · exact Sp.sub (l := ns) (fun y hy => .mem (by simp [hy])) ((B.same x).mpr (.mem hx))
  · intro h0 g hp hs
    have R := red_add B.red h0 (less_clear B.red)
    have Rg : Red g := ⟨fun b hb => R.pos b (hp.mem_iff.mp hb), (hp.pairwise_iff fun {a b} q => Ap.symm q).mpr R.ap⟩
    refine ⟨Rg, ?_, ?_⟩
    · have : g.Pairwise fun a b => a ≥ b ∧ Ap a b := List.pairwise_and_iff.mpr ⟨hs, Rg.ap⟩
      exact this.imp_of_mem fun {a b} ha hb ⟨q1, q2⟩ => by
        have : a ≠ b := fun e => q2.ne (Rg.pos a ha) (by rw [e])
        show b < a
        have : b ≤ a := q1
        omega
    · have s1 : Same (ns ++ [n]) (f ++ [less n f]) := by
        refine same_of (fun x hx => ?_) fun x hx => ?_
        · rcases List.mem_append.mp hx with q | q
          · exact Sp.sub (l := f) (fun y hy => .mem (by simp [hy])) ((B.same x).mp (.mem q))
          · rw [List.mem_singleton.mp q]
            have a : Sp (f ++ [less n f]) (n ^^^ less n f) := Sp.sub (l := f) (fun y hy => .mem (by simp [hy])) sp
            have := a.add (.mem (a := less n f) (by simp))
            rwa [xself] at this
        · rcases List.mem_append.mp hx with q | q
          · exact Sp.sub (l := ns) (fun y hy => .mem (by simp [hy])) ((B.same x).mpr (.mem q))
          · rw [List.mem_singleton.mp q]
            have a : Sp (ns ++ [n]) (n ^^^ less n f) := Sp.sub (l := ns) (fun y hy => .mem (by simp [hy])) ((B.same _).mpr sp)
            have := (Sp.mem (l := ns ++ [n]) (a := n) (by simp)).add a
            rwa [← Nat.xor_assoc, Nat.xor_self, Nat.zero_xor] at this
      have s2 := same_add f [] (less n f)
      rw [List.map_nil, List.append_nil] at s2
      exact s1.trans (s2.trans (same_mem fun a => hp.mem_iff.symm))
theorem Basis.nil : Basis [] [] := ⟨⟨by simp, .nil⟩, .nil, Same.refl _⟩
end GF

set_option Elab.async false
set_option maxRecDepth 100000
namespace LF
open PySem PySem.Spec L2
variable {cs : Cs} {c : Bool}
theorem w_lcM {α : Type} {g : SG} {f : SE} {sl : Sl} {xs : List α} {E : α → D} {Q : List D → Cs → Prop} (F : α → D)
    (step : ∀ x ∈ xs, ∃ sl1, g (E x) sl = some sl1 ∧ Sat (f sl1 cs) fun y cs2 => y = F x ∧ cs2 = cs) (done : Q (xs.map F) cs) : Sat (lcL (fun _ => True) g tYesS f sl (xs.map E) cs) Q := by
  refine w_lcP (fun _ => true) F (fun x hx => ?_) (by rw [List.filter_eq_self.mpr fun _ _ => rfl]; exact done)
  obtain ⟨sl1, e, h⟩ := step x hx
  exact ⟨sl1, e, by rw [s_tYesS]; exact ⟨rfl, rfl, fun _ => h⟩⟩
theorem natsD_ints (ns : List Nat) : natsD ns = (ns.map fun (n : Nat) => (n : Int)).map D.int := by
  unfold natsD; rw [List.map_map]; rfl
theorem intL_nats (ns : List Nat) : intL cs (.lst (natsD ns)) = some (ns.map fun (n : Nat) => (n : Int)) := by
  rw [natsD_ints]
  show allInt (intsD _) = _
  exact allInt_ints _
theorem intL_natsT (ns : List Nat) : allInt (natsD ns) = some (ns.map fun (n : Nat) => (n : Int)) := by
  rw [natsD_ints]; exact allInt_ints _
theorem r_neNilL {ns : List Nat} : pNe (.lst (natsD ns)) (.lst []) cs = .ok (.bl (!decide (ns = []))) cs := by
  show (match eqD cs (.lst (natsD ns)) (.lst []) with | some b => Res.ok (D.bl (!b)) cs | none => .bad) = _
  rw [eqD_lists (a := ns) (b := []) rfl rfl rfl]
theorem foldl_max_nat : ∀ (ns : List Nat) (n : Nat), ∃ h ∈ n :: ns, (∀ x ∈ n :: ns, x ≤ h) ∧ (ns.map fun (n : Nat) => (n : Int)).foldl max (n : Int) = (h : Int)
  | [], n => ⟨n, by simp, by simp, rfl⟩
  | a :: r, n => by
    obtain ⟨h, h1, h2, h3⟩ := foldl_max_nat r (max n a)
    have e : (max (n : Int) (a : Int)) = ((max n a : Nat) : Int) := by omega
    refine ⟨h, ?_, ?_, ?_⟩
    · rcases List.mem_cons.mp h1 with q | q
      · rcases Nat.le_total n a with z | z
        · rw [Nat.max_eq_right z] at q; simp [q]
        · rw [Nat.max_eq_left z] at q; simp [q]
      · simp [q]
    · intro x hx
      have hm := h2 (max n a) (by simp)
      simp only [List.mem_cons] at hx
      rcases hx with q | q | q
      · omega
      · omega
      · exact h2 x (by simp [q])
    · rw [List.map_cons, List.foldl_cons, e]; exact h3
theorem r_maxN {ns : List Nat} (h : ns ≠ []) : ∃ g ∈ ns, (∀ x ∈ ns, x ≤ g) ∧ bMaxL [.lst (natsD ns)] cs = .ok (.int (g : Int)) cs := by
  cases ns with
  | nil => exact absurd rfl h
  | cons n r =>
    obtain ⟨g, g1, g2, g3⟩ := foldl_max_nat r n
    refine ⟨g, g1, g2, ?_⟩
    unfold bMaxL
    show (match intL cs (.lst (natsD (n :: r))) with | some (n :: ns) => Res.ok (D.int (ns.foldl max n)) cs | _ => .bad) = _
    rw [intL_nats, List.map_cons]
    show Res.ok (D.int _) cs = _
    rw [g3]
theorem bit_mod (n k : Nat) : ((n : Int) / ((2 ^ k : Nat) : Int)) % 2 = if n.testBit k then 1 else 0 := by
  have e : ((n : Int) / ((2 ^ k : Nat) : Int)) % 2 = ((n / 2 ^ k % 2 : Nat) : Int) := by omega
  rw [e, Nat.testBit_eq_decide_div_mod_eq]
  have := Nat.mod_two_eq_zero_or_one (n / 2 ^ k)
  by_cases q : n / 2 ^ k % 2 = 1
  · simp [q]
  · have : n / 2 ^ k % 2 = 0 := by omega
    simp [this]
/-- [x, y][n // 2 ** k % 2] -/
theorem r_pick {x y : D} {n k : Nat} : pItem (.lst [x, y]) (.int (((n : Int) / ((2 ^ k : Nat) : Int)) % 2)) cs = .ok (if n.testBit k then y else x) cs := by
  rw [bit_mod]
  cases n.testBit k with
  | true => exact r_itemL rfl
  | false => exact r_itemL rfl
end LF

set_option Elab.async false
set_option maxRecDepth 100000
namespace LF
open PySem PySem.Spec L2
variable {cs : Cs} {c : Bool}
theorem bits_nat {n : Nat} (h : n ≠ 0) : Builtin.Int.intBits (n : Int) = n.log2 + 1 := by
  unfold Builtin.Int.intBits
  have e : ((n : Int) == 0) = false := by simpa using h
  rw [e, Int.natAbs_natCast]
  simp
theorem r_revL {ds : List D} : pRev c (.lst ds) cs = mkL c ds.reverse cs := rfl
theorem natsD_rev (ns : List Nat) : (natsD ns).reverse = natsD ns.reverse := by unfold natsD; rw [List.map_reverse]
theorem and_pow (n k : Nat) : (n &&& 2 ^ k) = if n.testBit k then 2 ^ k else 0 := by
  apply Nat.eq_of_testBit_eq
  intro j
  rw [Nat.testBit_and, Nat.testBit_two_pow]
  by_cases e : k = j
  · subst e
    cases h : n.testBit k with
    | true => simp
    | false => simp
  · have h1 : decide (k = j) = false := decide_eq_false e
    rw [h1, Bool.and_false]
    split
    · rw [Nat.testBit_two_pow, h1]
    · rw [Nat.zero_testBit]
/-- n & 2 ** k, as a truth -/
theorem tru_band (n k : Nat) : truD cs (.int (Builtin.bitAnd (n : Int) ((2 ^ k : Nat) : Int))) = some (n.testBit k) := by
  rw [and_nat, and_pow]
  show some (_ != 0) = _
  cases n.testBit k with
  | true =>
    have := Nat.two_pow_pos k
    rw [if_pos rfl]
    congr 1
    simp only [bne_iff_ne, ne_eq]
    omega
  | false => rfl
theorem srt_nats (ns : List Nat) : ∃ g : List Nat, srt (ns.map fun (n : Nat) => (n : Int)) = g.map (fun (n : Nat) => (n : Int)) ∧ g.Perm ns ∧ g.Pairwise (· ≤ ·) := by
  refine ⟨ns.mergeSort fun a b => decide (a ≤ b), ?_, List.mergeSort_perm ns _, ?_⟩
  · symm
    refine srt_only ((List.mergeSort_perm ns _).map _) ?_
    rw [List.pairwise_map]
    have := List.pairwise_mergeSort (le := fun a b : Nat => decide (a ≤ b)) (fun a b c h1 h2 => by simp only [decide_eq_true_eq] at *; omega) (fun a b => by simp only [Bool.or_eq_true, decide_eq_true_eq]; omega) ns
    exact this.imp fun h => by simpa using h
  · have := List.pairwise_mergeSort (le := fun a b : Nat => decide (a ≤ b)) (fun a b c h1 h2 => by simp only [decide_eq_true_eq] at *; omega) (fun a b => by simp only [Bool.or_eq_true, decide_eq_true_eq]; omega) ns
    exact this.imp fun h => by simpa using h
theorem r_sortN (ns : List Nat) : ∃ g : List Nat, (∀ cs c, bSort false c [.lst (natsD ns)] cs = mkL c (natsD g) cs) ∧ g.Perm ns ∧ g.Pairwise (· ≤ ·) := by
  obtain ⟨g, e, h1, h2⟩ := srt_nats ns
  refine ⟨g, fun cs c => ?_, h1, h2⟩
  rw [r_sort (intL_nats ns), e, natsD_ints]
theorem pow_int (k : Nat) : (1 * 2 ^ k : Int) = ((2 ^ k : Nat) : Int) := by rw [Int.one_mul, Int.natCast_pow]; rfl
end LF

set_option Elab.async false
namespace GF
/-! ### the greatest and the least that is made -/
/-- two numbers that differ by a sum differ first at a row's highest bit -/
theorem first_apart {bs : List Nat} (R : Red bs) {a b : Nat} (h : Sp bs (a ^^^ b)) (hne : a ≠ b) : ∃ c ∈ bs, (a.testBit c.log2 != b.testBit c.log2) = true ∧ ∀ j, c.log2 < j → a.testBit j = b.testBit j := by
  have h0 : a ^^^ b ≠ 0 := fun z => hne (by have := xself a b; rw [z, Nat.zero_xor] at this; exact this.symm)
  obtain ⟨c, hc, e⟩ := top_in R h h0
  refine ⟨c, hc, ?_, fun j hj => ?_⟩
  · rw [← xb, e]; exact top_bit h0
  · have := above (n := a ^^^ b) (j := j) (by rw [← e]; exact hj)
    rw [xb] at this
    revert this
    cases a.testBit j <;> cases b.testBit j <;> simp
theorem cmp_top {bs : List Nat} (R : Red bs) {a b : Nat} (h : Sp bs (a ^^^ b)) (hb : ∀ c ∈ bs, b.testBit c.log2 = true) : a ≤ b := by
  by_cases hne : a = b
  · omega
  · obtain ⟨c, hc, e1, e2⟩ := first_apart R h hne
    rw [hb c hc] at e1
    have ea : a.testBit c.log2 = false := by revert e1; cases a.testBit c.log2 <;> simp
    exact Nat.le_of_lt (lt_of_bit ea (hb c hc) e2)
theorem cmp_low {bs : List Nat} (R : Red bs) {a b : Nat} (h : Sp bs (a ^^^ b)) (hb : ∀ c ∈ bs, b.testBit c.log2 = false) : b ≤ a := by
  by_cases hne : a = b
  · omega
  · obtain ⟨c, hc, e1, e2⟩ := first_apart R h hne
    rw [hb c hc] at e1
    have ea : a.testBit c.log2 = true := by revert e1; cases a.testBit c.log2 <;> simp
    exact Nat.le_of_lt (lt_of_bit (hb c hc) ea fun j hj => (e2 j hj).symm)
def bst1 (m a : Nat) : Nat := if m.testBit a.log2 then m else m ^^^ a
def best (n : Nat) (bs : List Nat) : Nat := bs.foldl bst1 n
theorem bst1_bit {n a : Nat} (h : a ≠ 0) : (bst1 n a).testBit a.log2 = true := by
  unfold bst1
  cases hb : n.testBit a.log2 with
  | true => rw [if_pos rfl]; exact hb
  | false => rw [if_neg (by decide), xb, hb, top_bit h]; rfl
theorem bst1_keep {n a k : Nat} (hk : a.testBit k = false) : (bst1 n a).testBit k = n.testBit k := by
  unfold bst1
  split
  · rfl
  · rw [xb, hk]; cases n.testBit k <;> rfl
theorem best_bits {bs : List Nat} : ∀ {n k : Nat}, (∀ b ∈ bs, b.testBit k = false) → (best n bs).testBit k = n.testBit k := by
  induction bs with
  | nil => intros; rfl
  | cons a l ih =>
    intro n k h
    show (best (bst1 n a) l).testBit k = _
    rw [ih (fun b hb => h b (List.mem_cons_of_mem _ hb)), bst1_keep (h a (List.mem_cons_self ..))]
theorem best_set {bs : List Nat} (R : Red bs) : ∀ {n : Nat}, ∀ b ∈ bs, (best n bs).testBit b.log2 = true := by
  induction bs with
  | nil => intro n b hb; cases hb
  | cons a l ih =>
    intro n b hb
    show (best (bst1 n a) l).testBit _ = _
    rcases List.mem_cons.mp hb with (e | hb)
    · subst e
      rw [best_bits fun c hc => ((List.pairwise_cons.mp R.ap).1 c hc).2]
      exact bst1_bit (R.pos _ (List.mem_cons_self ..))
    · exact ih R.tail b hb
theorem best_sp {bs : List Nat} : ∀ {n : Nat}, Sp bs (best n bs ^^^ n) := by
  induction bs with
  | nil => intro n; show Sp [] (n ^^^ n); rw [Nat.xor_self]; exact .nil
  | cons a l ih =>
    intro n
    show Sp (a :: l) (best (bst1 n a) l ^^^ n)
    have h := ih (n := bst1 n a)
    unfold bst1 at h ⊢
    split
    · rename_i q
      rw [if_pos q] at h
      exact .skip h
    · rename_i q
      rw [if_neg q] at h
      refine sp_cons.mpr (.inr ?_)
      rwa [show best (n ^^^ a) l ^^^ n ^^^ a = best (n ^^^ a) l ^^^ (n ^^^ a) by rw [Nat.xor_assoc]]
/-! ### all sums -/
def sums1 (l : List Nat) (a : Nat) : List Nat := l ++ l.map (a ^^^ ·)
def sums (bs : List Nat) : List Nat := bs.foldl sums1 [0]
theorem sums_snoc (bs : List Nat) (a : Nat) : sums (bs ++ [a]) = sums bs ++ (sums bs).map (a ^^^ ·) := by
  unfold sums; rw [List.foldl_append]; rfl
theorem sp_perm {l m : List Nat} (h : l.Perm m) {n : Nat} : Sp l n ↔ Sp m n := same_mem (fun a => h.mem_iff) n
theorem mem_sums : ∀ (r : List Nat) {n : Nat}, n ∈ sums r.reverse ↔ Sp r n
  | [], n => by simp [sums, sp_nil]
  | a :: r, n => by
    rw [List.reverse_cons, sums_snoc, List.mem_append, List.mem_map, sp_cons, mem_sums r]
    constructor
    · rintro (h | ⟨x, hx, rfl⟩)
      · exact .inl h
      · refine .inr ?_
        rw [Nat.xor_comm a x, xself]; exact (mem_sums r).mp hx
    · rintro (h | h)
      · exact .inl h
      · exact .inr ⟨n ^^^ a, (mem_sums r).mpr h, by rw [Nat.xor_comm, xself]⟩
theorem in_sums {bs : List Nat} {n : Nat} : n ∈ sums bs ↔ Sp bs n := by
  have := mem_sums bs.reverse (n := n)
  rw [List.reverse_reverse] at this
  exact this.trans (sp_perm (List.reverse_perm bs))
theorem sums_length : ∀ r : List Nat, (sums r.reverse).length = 2 ^ r.length
  | [] => rfl
  | a :: r => by
    rw [List.reverse_cons, sums_snoc, List.length_append, List.length_map, sums_length r, List.length_cons, Nat.pow_succ]; omega
theorem sums_len (bs : List Nat) : (sums bs).length = 2 ^ bs.length := by
  have := sums_length bs.reverse
  rwa [List.reverse_reverse, List.length_reverse] at this
theorem sp_lt {bs : List Nat} {k : Nat} (h : ∀ b ∈ bs, b < 2 ^ k) {n : Nat} (q : Sp bs n) : n < 2 ^ k := by
  induction q with
  | nil => exact Nat.two_pow_pos k
  | skip q ih => exact ih fun b hb => h b (List.mem_cons_of_mem _ hb)
  | take q ih => exact Nat.xor_lt_two_pow (ih fun b hb => h b (List.mem_cons_of_mem _ hb)) (h _ (List.mem_cons_self ..))
end GF

set_option Elab.async false
set_option maxRecDepth 100000
namespace LF
open PySem PySem.Spec L2
variable {cs : Cs} {c : Bool}
theorem r_eqNilL {ns : List Nat} : pEq (.lst (natsD ns)) (.lst []) cs = .ok (.bl (decide (ns = []))) cs := by
  show (match eqD cs (.lst (natsD ns)) (.lst []) with | some b => Res.ok (D.bl b) cs | none => .bad) = _
  rw [eqD_lists (a := ns) (b := []) rfl rfl rfl]
theorem r_eqTT {a b : List Nat} : pEq (.tup (natsD a)) (.tup (natsD b)) cs = .ok (.bl (decide (a = b))) cs := by
  show (match eqD cs (.tup (natsD a)) (.tup (natsD b)) with | some b => Res.ok (D.bl b) cs | none => .bad) = _
  rw [eqD_tuples]
theorem r_neTT {a b : List Nat} : pNe (.tup (natsD a)) (.tup (natsD b)) cs = .ok (.bl (!decide (a = b))) cs := by
  show (match eqD cs (.tup (natsD a)) (.tup (natsD b)) with | some b => Res.ok (D.bl (!b)) cs | none => .bad) = _
  rw [eqD_tuples]
theorem foldl_min_nat : ∀ (ns : List Nat) (n : Nat), ∃ h ∈ n :: ns, (∀ x ∈ n :: ns, h ≤ x) ∧ (ns.map fun (n : Nat) => (n : Int)).foldl min (n : Int) = (h : Int)
  | [], n => ⟨n, by simp, by simp, rfl⟩
  | a :: r, n => by
    obtain ⟨h, h1, h2, h3⟩ := foldl_min_nat r (min n a)
    have e : (min (n : Int) (a : Int)) = ((min n a : Nat) : Int) := by omega
    refine ⟨h, ?_, ?_, ?_⟩
    · rcases List.mem_cons.mp h1 with q | q
      · rcases Nat.le_total n a with z | z
        · rw [Nat.min_eq_left z] at q; simp [q]
        · rw [Nat.min_eq_right z] at q; simp [q]
      · simp [q]
    · intro x hx
      have hm := h2 (min n a) (by simp)
      simp only [List.mem_cons] at hx
      rcases hx with q | q | q
      · omega
      · omega
      · exact h2 x (by simp [q])
    · rw [List.map_cons, List.foldl_cons, e]; exact h3
theorem r_minN {ns : List Nat} (h : ns ≠ []) : ∃ g ∈ ns, (∀ x ∈ ns, g ≤ x) ∧ bMinL [.lst (natsD ns)] cs = .ok (.int (g : Int)) cs := by
  cases ns with
  | nil => exact absurd rfl h
  | cons n r =>
    obtain ⟨g, g1, g2, g3⟩ := foldl_min_nat r n
    refine ⟨g, g1, g2, ?_⟩
    unfold bMinL
    show (match intL cs (.lst (natsD (n :: r))) with | some (n :: ns) => Res.ok (D.int (ns.foldl min n)) cs | _ => .bad) = _
    rw [intL_nats, List.map_cons]
    show Res.ok (D.int _) cs = _
    rw [g3]
end LF

set_option Elab.async false
namespace GF
/-! ### the sums in order -/
/-- the so-manieth sum: the last row by bit 0 -/
def at_ : List Nat → Nat → Nat
  | [], _ => 0
  | a :: l, p => (if p.testBit l.length then a else 0) ^^^ at_ l p
theorem at_sp : ∀ (bs : List Nat) (p : Nat), Sp bs (at_ bs p)
  | [], _ => .nil
  | a :: l, p => by
    rw [at_]
    split
    · rw [Nat.xor_comm]; exact .take (at_sp l p)
    · rw [Nat.zero_xor]; exact .skip (at_sp l p)
structure Dec (bs : List Nat) : Prop where
  pos : ∀ b ∈ bs, b ≠ 0
  dec : bs.Pairwise fun a b => b.log2 < a.log2
theorem Dec.tail {a : Nat} {l : List Nat} (D : Dec (a :: l)) : Dec l := ⟨fun b hb => D.pos b (List.mem_cons_of_mem _ hb), (List.pairwise_cons.mp D.dec).2⟩
theorem Basis.dec {ns bs : List Nat} (B : Basis ns bs) : Dec bs := ⟨B.red.pos, by
  have : bs.Pairwise fun a b => a > b ∧ Ap a b := List.pairwise_and_iff.mpr ⟨B.fall, B.red.ap⟩
  refine this.imp_of_mem fun {a b} ha hb ⟨h1, h2⟩ => ?_
  have h3 := le_log (B.red.pos b hb) (Nat.le_of_lt h1)
  have h4 := h2.ne (B.red.pos a ha)
  omega⟩
/-- sums of lower rows stay below -/
theorem at_lt {k : Nat} : ∀ {bs : List Nat}, (∀ b ∈ bs, b.log2 < k) → ∀ p, at_ bs p < 2 ^ k
  | [], _, p => Nat.two_pow_pos k
  | a :: l, h, p => by
    rw [at_]
    refine Nat.xor_lt_two_pow ?_ (at_lt (fun b hb => h b (List.mem_cons_of_mem _ hb)) p)
    split
    · by_cases h0 : a = 0
      · rw [h0]; exact Nat.two_pow_pos k
      · exact Nat.lt_of_lt_of_le ((Nat.log2_lt h0).mp (Nat.lt_succ_self _)) (Nat.pow_le_pow_right (by decide) (h a (List.mem_cons_self ..)))
    · exact Nat.two_pow_pos k
theorem at_mod : ∀ (bs : List Nat) (p m : Nat), bs.length ≤ m → at_ bs (p % 2 ^ m) = at_ bs p
  | [], _, _, _ => rfl
  | a :: l, p, m, h => by
    rw [List.length_cons] at h
    rw [at_, at_, at_mod l p m (by omega), Nat.testBit_mod_two_pow]
    simp [show l.length < m by omega]
/-- the sums rise with their places -/
theorem at_mono : ∀ {bs : List Nat}, Red bs → Dec bs → ∀ {p q : Nat}, p < q → q < 2 ^ bs.length → at_ bs p < at_ bs q
  | [], _, _, p, q, h, h2 => by
    rw [List.length_nil, Nat.pow_zero] at h2; omega
  | a :: l, R, D, p, q, h, h2 => by
    have hl := (List.pairwise_cons.mp D.dec).1
    have a0 := D.pos a (List.mem_cons_self ..)
    rw [List.length_cons, Nat.pow_succ] at h2
    have hlow : ∀ r, (at_ l r).testBit a.log2 = false := fun r => Nat.testBit_lt_two_pow (at_lt hl r)
    have hup : ∀ r j, a.log2 < j → (at_ l r).testBit j = false := fun r j hj => Nat.testBit_lt_two_pow (Nat.lt_of_lt_of_le (at_lt hl r) (Nat.pow_le_pow_right (by decide) (by omega)))
    have tb : ∀ r, r < 2 ^ l.length * 2 → r.testBit l.length = decide (2 ^ l.length ≤ r) := fun r hr => by
      rw [Nat.testBit_eq_decide_div_mod_eq]
      by_cases z : 2 ^ l.length ≤ r
      · have : r / 2 ^ l.length = 1 := by
          rw [Nat.div_eq_iff (Nat.two_pow_pos _)]; omega
        simp [this, z]
      · have : r / 2 ^ l.length = 0 := Nat.div_eq_of_lt (by omega)
        simp [this, z]
    rw [at_, at_, tb p (by omega), tb q h2]
    by_cases zq : 2 ^ l.length ≤ q
    · by_cases zp : 2 ^ l.length ≤ p
      · simp only [zp, zq, decide_true, if_true]
        have ih := at_mono R.tail D.tail (p := p - 2 ^ l.length) (q := q - 2 ^ l.length) (by omega) (by omega)
        have em : ∀ r, 2 ^ l.length ≤ r → r < 2 ^ l.length * 2 → at_ l (r - 2 ^ l.length) = at_ l r := fun r h1 h2 => by
          rw [← at_mod l r l.length (Nat.le_refl _), Nat.mod_eq_sub_mod h1, Nat.mod_eq_of_lt (by omega)]
        rw [em p zp (by omega), em q zq h2] at ih
        obtain ⟨c, hc, e1, e2⟩ := first_apart R.tail ((at_sp l p).add (at_sp l q)) (by omega)
        have ac : a.testBit c.log2 = false := ((List.pairwise_cons.mp R.ap).1 c hc).1
        have hpq : (at_ l p).testBit c.log2 = false ∧ (at_ l q).testBit c.log2 = true := by
          cases f1 : (at_ l p).testBit c.log2 with
          | false =>
            cases f2 : (at_ l q).testBit c.log2 with
            | true => exact ⟨rfl, rfl⟩
            | false => rw [f1, f2] at e1; cases e1
          | true =>
            cases f2 : (at_ l q).testBit c.log2 with
            | true => rw [f1, f2] at e1; cases e1
            | false => have := lt_of_bit f2 f1 fun j hj => (e2 j hj).symm; omega
        refine lt_of_bit (i := c.log2) ?_ ?_ fun j hj => ?_
        · rw [xb, ac, hpq.1]; rfl
        · rw [xb, ac, hpq.2]; rfl
        · rw [xb, xb, e2 j hj]
      · simp only [zp, zq, decide_true, decide_false, if_true, Bool.false_eq_true, if_false, Nat.zero_xor]
        refine lt_of_bit (i := a.log2) (hlow p) ?_ fun j hj => ?_
        · rw [xb, hlow q, top_bit a0]; rfl
        · rw [xb, hup p j hj, hup q j hj, above hj]; rfl
    · simp only [show ¬ 2 ^ l.length ≤ p by omega, zq, decide_false, Bool.false_eq_true, if_false, Nat.zero_xor]
      exact at_mono R.tail D.tail h (by omega)
/-- as many sums are below -/
structure Cut (bs : List Nat) (b p : Nat) : Prop where
  le : p ≤ 2 ^ bs.length
  iff : ∀ q, q < 2 ^ bs.length → (at_ bs q < b ↔ q < p)
theorem Cut.unique {bs : List Nat} {b p q : Nat} (h : Cut bs b p) (h' : Cut bs b q) : p = q := by
  rcases Nat.lt_trichotomy p q with z | z | z
  · have := (h.iff p (by have := h'.le; omega)).mp ((h'.iff p (by have := h'.le; omega)).mpr z); omega
  · exact z
  · have := (h'.iff q (by have := h.le; omega)).mp ((h.iff q (by have := h.le; omega)).mpr z); omega
/-- bisecting: the invariant -/
structure Bis (bs : List Nat) (b lo hi : Nat) : Prop where
  le : lo ≤ hi
  top : hi ≤ 2 ^ bs.length
  low : ∀ q, q < lo → at_ bs q < b
  high : ∀ q, hi ≤ q → q < 2 ^ bs.length → b ≤ at_ bs q
theorem Bis.start (bs : List Nat) (b : Nat) : Bis bs b 0 (2 ^ bs.length) := ⟨Nat.zero_le _, Nat.le_refl _, fun q h => absurd h (Nat.not_lt_zero q), fun q h h' => by omega⟩
theorem Bis.done {bs : List Nat} {b p : Nat} (h : Bis bs b p p) : Cut bs b p := ⟨h.top, fun q hq => ⟨fun z => by
  rcases Nat.lt_or_ge q p with y | y
  · exact y
  · have := h.high q y hq; omega, fun z => h.low q z⟩⟩
theorem Bis.up {bs : List Nat} (R : Red bs) (D : Dec bs) {b lo hi m : Nat} (h : Bis bs b lo hi) (h1 : m < hi) (h2 : lo ≤ m) (hb : at_ bs m < b) : Bis bs b (m + 1) hi := ⟨h1, h.top, fun q hq => by
  rcases (by omega : q < m ∨ q = m) with z | z
  · exact Nat.lt_trans (at_mono R D z (by have := h.top; omega)) hb
  · rw [z]; exact hb, h.high⟩
theorem Bis.down {bs : List Nat} (R : Red bs) (D : Dec bs) {b lo hi m : Nat} (h : Bis bs b lo hi) (h1 : m < hi) (h2 : lo ≤ m) (hb : b ≤ at_ bs m) : Bis bs b lo m := ⟨h2, by have := h.top; omega, h.low, fun q hq hq2 => by
  rcases (by omega : q = m ∨ m < q) with z | z
  · rw [z]; exact hb
  · have := at_mono R D z hq2; omega⟩
/-- few rows below a power -/
theorem dec_len {k : Nat} : ∀ {bs : List Nat}, Dec bs → (∀ b ∈ bs, b < 2 ^ k) → bs.length ≤ k
  | [], _, _ => Nat.zero_le k
  | a :: l, D, h => by
    have a0 := D.pos a (List.mem_cons_self ..)
    have hk : a.log2 < k := (Nat.log2_lt a0).mpr (h a (List.mem_cons_self ..))
    have := dec_len (k := a.log2) D.tail fun b hb => (Nat.log2_lt (D.tail.pos b hb)).mp ((List.pairwise_cons.mp D.dec).1 b hb)
    rw [List.length_cons]; omega
end GF

set_option Elab.async false
namespace GF
/-! ### going down along a basis -/
theorem at_split : ∀ (pre suf : List Nat) (p : Nat), at_ (pre ++ suf) p = at_ pre (p / 2 ^ suf.length) ^^^ at_ suf p
  | [], suf, p => by rw [List.nil_append]; show _ = 0 ^^^ _; rw [Nat.zero_xor]
  | a :: l, suf, p => by
    rw [List.cons_append, at_, at_, at_split l suf p, List.length_append, Nat.testBit_div_two_pow, Nat.xor_assoc]
theorem at_snoc (pre : List Nat) (a p : Nat) : at_ (pre ++ [a]) p = at_ pre (p / 2) ^^^ (if p % 2 = 1 then a else 0) := by
  rw [at_split]
  show at_ pre (p / 2 ^ 1) ^^^ ((if p.testBit 0 then a else 0) ^^^ 0) = _
  rw [Nat.xor_zero, Nat.testBit_zero]
  simp
theorem at_zero : ∀ bs : List Nat, at_ bs 0 = 0
  | [] => rfl
  | a :: l => by rw [at_, at_zero l]; simp
/-- the state: of the places from the c-th 2 ** rest ones on -/
theorem at_in (pre suf : List Nat) (c r : Nat) (hr : r < 2 ^ suf.length) : at_ (pre ++ suf) (2 ^ suf.length * c + r) = at_ pre c ^^^ at_ suf r := by
  rw [at_split, Nat.mul_add_div (Nat.two_pow_pos _), Nat.div_eq_of_lt hr, Nat.add_zero, ← at_mod suf _ suf.length (Nat.le_refl _), Nat.mul_add_mod, Nat.mod_eq_of_lt hr]
theorem xor_div {a b k : Nat} (h : b < 2 ^ k) : (a ^^^ b) / 2 ^ k = a / 2 ^ k := by
  refine Nat.eq_of_testBit_eq fun i => ?_
  rw [Nat.testBit_div_two_pow, Nat.testBit_div_two_pow, xb, Nat.testBit_lt_two_pow (Nat.lt_of_lt_of_le h (Nat.pow_le_pow_right (by decide) (Nat.le_add_left k i)))]
  cases a.testBit _ <;> rfl
theorem lt_of_div {a b d : Nat} (h : a / d < b / d) : a < b := by
  rcases Nat.lt_or_ge a b with z | z
  · exact z
  · have := Nat.div_le_div_right (c := d) z; omega
section
variable {pre l : List Nat} {a b c : Nat}
theorem suf_lt (D : Dec (pre ++ a :: l)) (r : Nat) : at_ (a :: l) r < 2 ^ (a.log2 + 1) := by
  refine at_lt (fun x hx => ?_) r
  have D2 := (List.pairwise_append.mp D.dec).2.1
  rcases List.mem_cons.mp hx with e | h
  · (rw [e]; exact Nat.lt_succ_self _)
  · have := (List.pairwise_cons.mp D2).1 x h; omega
theorem down_less (D : Dec (pre ++ a :: l)) (W : Bis (pre ++ a :: l) b (2 ^ (l.length + 1) * c) (2 ^ (l.length + 1) * c + 2 ^ (l.length + 1))) (h : at_ pre c / 2 ^ (a.log2 + 1) < b / 2 ^ (a.log2 + 1)) : Cut (pre ++ a :: l) b (2 ^ (l.length + 1) * c + 2 ^ (l.length + 1)) :=
  Bis.done ⟨Nat.le_refl _, W.top, fun q hq => by
    rcases Nat.lt_or_ge q (2 ^ (l.length + 1) * c) with z | z
    · exact W.low q z
    · obtain ⟨r, rfl⟩ : ∃ r, q = 2 ^ (l.length + 1) * c + r := ⟨q - 2 ^ (l.length + 1) * c, by omega⟩
      have e := at_in pre (a :: l) c r (by rw [List.length_cons]; omega)
      rw [List.length_cons] at e
      rw [e]
      exact lt_of_div (d := 2 ^ (a.log2 + 1)) (by rw [xor_div (suf_lt D r)]; exact h), W.high⟩
theorem down_more (D : Dec (pre ++ a :: l)) (W : Bis (pre ++ a :: l) b (2 ^ (l.length + 1) * c) (2 ^ (l.length + 1) * c + 2 ^ (l.length + 1))) (h : b / 2 ^ (a.log2 + 1) < at_ pre c / 2 ^ (a.log2 + 1)) : Cut (pre ++ a :: l) b (2 ^ (l.length + 1) * c) :=
  Bis.done ⟨Nat.le_refl _, Nat.le_trans (Nat.le_add_right _ _) W.top, W.low, fun q hq hq2 => by
    rcases Nat.lt_or_ge q (2 ^ (l.length + 1) * c + 2 ^ (l.length + 1)) with z | z
    · obtain ⟨r, rfl⟩ : ∃ r, q = 2 ^ (l.length + 1) * c + r := ⟨q - 2 ^ (l.length + 1) * c, by omega⟩
      have e := at_in pre (a :: l) c r (by rw [List.length_cons]; omega)
      rw [List.length_cons] at e
      rw [e]
      exact Nat.le_of_lt (lt_of_div (d := 2 ^ (a.log2 + 1)) (by rw [xor_div (suf_lt D r)]; exact h))
    · exact W.high q z hq2⟩
theorem same_up {x y k : Nat} (h : x / 2 ^ (k + 1) = y / 2 ^ (k + 1)) : ∀ j, k < j → x.testBit j = y.testBit j := fun j hj => by
  obtain ⟨i, rfl⟩ : ∃ i, j = i + (k + 1) := ⟨j - (k + 1), by omega⟩
  have := congrArg (fun n => n.testBit i) h
  simp only [Nat.testBit_div_two_pow] at this
  exact this
/-- a bit of a row is in no sum of the others -/
theorem pre_clear (R : Red (pre ++ a :: l)) (c : Nat) : (at_ pre c).testBit a.log2 = false := by
  have h : ∀ x ∈ pre, x.testBit a.log2 = false := fun x hx => ((List.pairwise_append.mp R.ap).2.2 x hx a (List.mem_cons_self ..)).2 |> fun q => by first | exact q | exact ((List.pairwise_append.mp R.ap).2.2 x hx a (List.mem_cons_self ..)).1
  exact sp_bit0 h (at_sp pre c)
  where
  sp_bit0 {bs : List Nat} {k n : Nat} (h : ∀ x ∈ bs, x.testBit k = false) (q : Sp bs n) : n.testBit k = false := by
    induction q with
    | nil => exact Nat.zero_testBit k
    | skip q ih => exact ih fun b hb => h b (List.mem_cons_of_mem _ hb)
    | take q ih => rw [xb, ih fun b hb => h b (List.mem_cons_of_mem _ hb), h _ (List.mem_cons_self ..)]; rfl
theorem low_bit {m r : Nat} (h : r < 2 ^ m) : r.testBit m = false := Nat.testBit_lt_two_pow h
theorem high_bit {m r : Nat} (h : 2 ^ m ≤ r) (h2 : r < 2 ^ (m + 1)) : r.testBit m = true := by
  rw [Nat.testBit_eq_decide_div_mod_eq]
  have : r / 2 ^ m = 1 := by
    rw [Nat.pow_succ] at h2
    rw [Nat.div_eq_iff (Nat.two_pow_pos _)]; omega
  simp [this]
theorem tail_clear (D : Dec (pre ++ a :: l)) (r : Nat) : (at_ l r).testBit a.log2 = false ∧ ∀ j, a.log2 < j → (at_ l r).testBit j = false := by
  have D2 := (List.pairwise_append.mp D.dec).2.1
  have h := at_lt (fun x hx => (List.pairwise_cons.mp D2).1 x hx) r
  exact ⟨low_bit h, fun j hj => low_bit (Nat.lt_of_lt_of_le h (Nat.pow_le_pow_right (by decide) (Nat.le_of_lt hj)))⟩
theorem down_one (R : Red (pre ++ a :: l)) (D : Dec (pre ++ a :: l)) (W : Bis (pre ++ a :: l) b (2 ^ (l.length + 1) * c) (2 ^ (l.length + 1) * c + 2 ^ (l.length + 1))) (h : at_ pre c / 2 ^ (a.log2 + 1) = b / 2 ^ (a.log2 + 1)) (hb : b.testBit a.log2 = true) : Bis (pre ++ a :: l) b (2 ^ l.length * (2 * c + 1)) (2 ^ l.length * (2 * c + 1) + 2 ^ l.length) := by
  have p2 : 2 ^ (l.length + 1) * c = 2 ^ l.length * (2 * c) := by rw [Nat.pow_succ, Nat.mul_assoc]
  have p3 : 2 ^ (l.length + 1) = 2 ^ l.length + 2 ^ l.length := by rw [Nat.pow_succ]; omega
  have e1 : 2 ^ l.length * (2 * c + 1) = 2 ^ (l.length + 1) * c + 2 ^ l.length := by rw [Nat.mul_succ, p2]
  have e2 : 2 ^ l.length * (2 * c + 1) + 2 ^ l.length = 2 ^ (l.length + 1) * c + 2 ^ (l.length + 1) := by rw [e1, p3, Nat.add_assoc]
  refine ⟨Nat.le_add_right _ _, by rw [e2]; exact W.top, fun q hq => ?_, by rw [e2]; exact W.high⟩
  rcases Nat.lt_or_ge q (2 ^ (l.length + 1) * c) with z | z
  · exact W.low q z
  · rw [e1] at hq
    obtain ⟨r, rfl⟩ : ∃ r, q = 2 ^ (l.length + 1) * c + r := ⟨q - 2 ^ (l.length + 1) * c, by omega⟩
    have hr : r < 2 ^ l.length := by omega
    have e := at_in pre (a :: l) c r (by rw [List.length_cons]; omega)
    rw [List.length_cons, at_, low_bit hr, if_neg (by decide), Nat.zero_xor] at e
    rw [e]
    obtain ⟨t1, t2⟩ := tail_clear D r
    refine lt_of_bit (i := a.log2) ?_ hb fun j hj => ?_
    · rw [xb, pre_clear R c, t1]; rfl
    · rw [xb, t2 j hj, ← same_up h j hj]; cases (at_ pre c).testBit j <;> rfl
theorem down_zero (R : Red (pre ++ a :: l)) (D : Dec (pre ++ a :: l)) (W : Bis (pre ++ a :: l) b (2 ^ (l.length + 1) * c) (2 ^ (l.length + 1) * c + 2 ^ (l.length + 1))) (h : at_ pre c / 2 ^ (a.log2 + 1) = b / 2 ^ (a.log2 + 1)) (hb : b.testBit a.log2 = false) : Bis (pre ++ a :: l) b (2 ^ l.length * (2 * c)) (2 ^ l.length * (2 * c) + 2 ^ l.length) := by
  have p2 : 2 ^ (l.length + 1) * c = 2 ^ l.length * (2 * c) := by rw [Nat.pow_succ, Nat.mul_assoc]
  have p3 : 2 ^ (l.length + 1) = 2 ^ l.length + 2 ^ l.length := by rw [Nat.pow_succ]; omega
  refine ⟨Nat.le_add_right _ _, by have := W.top; rw [p2, p3] at this; have := Nat.two_pow_pos l.length; omega, by rw [← p2]; exact W.low, fun q hq hq2 => ?_⟩
  rcases Nat.lt_or_ge q (2 ^ (l.length + 1) * c + 2 ^ (l.length + 1)) with z | z
  · rw [← p2] at hq
    obtain ⟨r, rfl⟩ : ∃ r, q = 2 ^ (l.length + 1) * c + r := ⟨q - 2 ^ (l.length + 1) * c, by omega⟩
    have hr : r < 2 ^ (l.length + 1) := by omega
    have e := at_in pre (a :: l) c r (by rw [List.length_cons]; omega)
    rw [List.length_cons, at_, high_bit (by omega) hr, if_pos rfl] at e
    rw [e]
    obtain ⟨t1, t2⟩ := tail_clear D r
    have a0 := D.pos a (by simp)
    refine Nat.le_of_lt (lt_of_bit (i := a.log2) hb ?_ fun j hj => ?_)
    · rw [xb, xb, pre_clear R c, t1, top_bit a0]; rfl
    · rw [xb, xb, t2 j hj, above hj, ← same_up h j hj]; cases (at_ pre c).testBit j <;> rfl
  · exact W.high q z hq2
end
theorem at_place {bs : List Nat} {k t : Nat} (h : bs[k]? = some t) : ∃ P l, P.length = k ∧ bs.take k = P ∧ bs.take (k + 1) = P ++ [t] ∧ bs = P ++ t :: l := by
  have hk : k < bs.length := (List.getElem?_eq_some_iff.mp h).1
  have e : bs.take (k + 1) = bs.take k ++ [t] := by rw [List.take_add_one, h]; rfl
  refine ⟨bs.take k, bs.drop (k + 1), by rw [List.length_take]; omega, rfl, e, ?_⟩
  have := (List.take_append_drop (k + 1) bs).symm
  rw [e, List.append_assoc] at this
  exact this
theorem div2 (x k : Nat) : (x : Int) / ((2 ^ k : Nat) : Int) / 2 = ((x / 2 ^ (k + 1) : Nat) : Int) := by
  rw [Nat.pow_succ, ← Nat.div_div_eq_div_mul]; rfl
theorem Cut.pos {bs : List Nat} {b p : Nat} (h : Cut bs b p) (hb : 0 < b) : 0 < p := by
  have := (h.iff 0 (Nat.two_pow_pos _)).mp (by rw [at_zero]; exact hb)
  exact this
end GF

set_option Elab.async false
namespace GF
/-! ### all sums, counted -/
theorem sums1_swap (z : List Nat) (a b : Nat) : (sums1 (sums1 z a) b).Perm (sums1 (sums1 z b) a) := by
  unfold sums1
  rw [List.map_append, List.map_append, List.map_map, List.map_map, List.append_assoc, List.append_assoc]
  (refine List.Perm.append_left _ ?_)
  (rw [← List.append_assoc, ← List.append_assoc])
  have e : ((b ^^^ ·) ∘ (a ^^^ ·) : Nat → Nat) = ((a ^^^ ·) ∘ (b ^^^ ·)) := by
    funext x
    show b ^^^ (a ^^^ x) = a ^^^ (b ^^^ x)
    rw [← Nat.xor_assoc, ← Nat.xor_assoc, Nat.xor_comm b a]
  rw [e]
  (exact List.Perm.append_right _ List.perm_append_comm)
theorem sums1_perm {z w : List Nat} (h : z.Perm w) (a : Nat) : (sums1 z a).Perm (sums1 w a) := h.append (h.map _)
theorem foldl_sums {l m : List Nat} (h : l.Perm m) : ∀ {z w : List Nat}, z.Perm w → (l.foldl sums1 z).Perm (m.foldl sums1 w) := by
  induction h with
  | nil => intro z w hz; exact hz
  | cons a _ ih => intro z w hz; exact ih (sums1_perm hz a)
  | @swap a b l =>
    intro z w hz
    have : ∀ (l : List Nat) {z w : List Nat}, z.Perm w → (l.foldl sums1 z).Perm (l.foldl sums1 w) := fun l => by
      induction l with
      | nil => intro z w hz; exact hz
      | cons c l ih => intro z w hz; exact ih (sums1_perm hz c)
    exact this l ((sums1_swap z b a).trans (sums1_perm (sums1_perm hz a) b))
  | trans _ _ ih1 ih2 => intro z w hz; exact (ih1 (List.Perm.refl z)).trans (ih2 hz)
theorem sums_perm {l m : List Nat} (h : l.Perm m) : (sums l).Perm (sums m) := foldl_sums h (List.Perm.refl _)
theorem sums_at : ∀ r : List Nat, sums r.reverse = (List.range (2 ^ r.length)).map (at_ r)
  | [] => rfl
  | a :: r => by
    rw [List.reverse_cons, sums_snoc, sums_at r, List.length_cons, Nat.pow_succ, Nat.mul_two, List.range_add, List.map_append, List.map_map, List.map_map]
    congr 1
    · refine List.map_congr_left fun q hq => ?_
      rw [at_, low_bit (List.mem_range.mp hq), if_neg (by decide), Nat.zero_xor]
    · refine List.map_congr_left fun q hq => ?_
      have hq := List.mem_range.mp hq
      show a ^^^ at_ r q = at_ (a :: r) (2 ^ r.length + q)
      rw [at_, high_bit (Nat.le_add_right _ _) (by rw [Nat.pow_succ]; omega), if_pos rfl, ← at_mod r (2 ^ r.length + q) r.length (Nat.le_refl _), Nat.add_mod_left, Nat.mod_eq_of_lt hq]
theorem sums_places (bs : List Nat) : (sums bs).Perm ((List.range (2 ^ bs.length)).map (at_ bs)) := by
  rw [← sums_at]; exact sums_perm (List.reverse_perm bs).symm
theorem range_below (p : Nat) : ∀ n : Nat, ((List.range n).filter fun q => decide (q < p)).length = min p n
  | 0 => by simp
  | n + 1 => by
    rw [List.range_succ, List.filter_append, List.length_append, range_below p n]
    by_cases h : n < p
    · simp [h]; omega
    · simp [h]; omega
theorem sums_below_len {bs : List Nat} {b p : Nat} (C : Cut bs b p) : ((sums bs).filter fun x => decide (x < b)).length = p := by
  rw [((sums_places bs).filter _).length_eq, List.filter_map, List.length_map]
  have e : (List.range (2 ^ bs.length)).filter ((fun x => decide (x < b)) ∘ at_ bs) = (List.range (2 ^ bs.length)).filter fun q => decide (q < p) := by
    (refine List.filter_congr fun q hq => ?_)
    exact decide_eq_decide.mpr (C.iff q (List.mem_range.mp hq))
  rw [e, range_below, Nat.min_eq_left C.le]
theorem sp_at {bs : List Nat} {n : Nat} (h : Sp bs n) : ∃ p, p < 2 ^ bs.length ∧ at_ bs p = n := by
  have := (sums_places bs).mem_iff.mp (in_sums.mpr h)
  (obtain ⟨q, hq, e⟩ := List.mem_map.mp this)
  exact ⟨q, List.mem_range.mp hq, e⟩
theorem Cut.none (bs : List Nat) : Cut bs 0 0 := ⟨Nat.zero_le _, fun q _ => ⟨fun h => absurd h (Nat.not_lt_zero _), fun h => absurd h (Nat.not_lt_zero _)⟩⟩
theorem Cut.all {bs : List Nat} {k : Nat} (h : ∀ b ∈ bs, b < 2 ^ k) : Cut bs (2 ^ k) (2 ^ bs.length) := ⟨Nat.le_refl _, fun q hq => ⟨fun _ => hq, fun _ => sp_lt h (at_sp bs q)⟩⟩
/-- the place of a sum -/
theorem Cut.own {bs : List Nat} (R : Red bs) (D : Dec bs) {p : Nat} (h : p < 2 ^ bs.length) : Cut bs (at_ bs p) p := ⟨Nat.le_of_lt h, fun q hq => ⟨fun z => by
  rcases Nat.lt_or_ge q p with y | y
  · exact y
  · rcases Nat.lt_or_ge p q with w | w
    · have := at_mono R D w hq; omega
    · have := Nat.le_antisymm y w; subst this; omega, fun z => at_mono R D z h⟩⟩
end GF

set_option Elab.async false
set_option maxRecDepth 100000
namespace LF
open PySem PySem.Spec L2
variable {cs : Cs} {c : Bool}
theorem r_revT {ds : List D} : pRev c (.tup ds) cs = .ok (.tup ds.reverse) cs := rfl
end LF

set_option Elab.async false
set_option maxRecDepth 100000
namespace LF
open PySem PySem.Spec L2
/-! ### None, truths -/
variable {cs : Cs} {c : Bool}
theorem r_isNN : pIsN .non .non cs = .ok (.bl true) cs := rfl
theorem r_isNI {i : Int} : pIsN (.int i) .non cs = .ok (.bl false) cs := rfl
theorem r_isNT {ds : List D} : pIsN (.tup ds) .non cs = .ok (.bl false) cs := rfl
theorem r_notNN : pIsNot .non .non cs = .ok (.bl false) cs := rfl
theorem r_notNI {i : Int} : pIsNot (.int i) .non cs = .ok (.bl true) cs := rfl
theorem r_notNT {ds : List D} : pIsNot (.tup ds) .non cs = .ok (.bl true) cs := rfl
theorem r_isBB {a b : Bool} : pIsN (.bl a) (.bl b) cs = .ok (.bl (decide (a = b))) cs := rfl
theorem r_eqB {a b : Bool} : pEq (.bl a) (.bl b) cs = .ok (.bl (decide (a = b))) cs := rfl
theorem r_neB {a b : Bool} : pNe (.bl a) (.bl b) cs = .ok (.bl (!decide (a = b))) cs := rfl
theorem r_eqNN : pEq .non .non cs = .ok (.bl true) cs := rfl
theorem r_neNN : pNe .non .non cs = .ok (.bl false) cs := rfl
theorem r_eqIN {i : Int} : pEq (.int i) .non cs = .ok (.bl false) cs := rfl
theorem r_eqNI {i : Int} : pEq .non (.int i) cs = .ok (.bl false) cs := rfl
theorem r_neIN {i : Int} : pNe (.int i) .non cs = .ok (.bl true) cs := rfl
theorem r_neNI {i : Int} : pNe .non (.int i) cs = .ok (.bl true) cs := rfl
end LF

set_option Elab.async false
namespace GF
/-! ### neighbours among the sums -/
theorem at_inj {bs : List Nat} (R : Red bs) (D : Dec bs) {p q : Nat} (hp : p < 2 ^ bs.length) (hq : q < 2 ^ bs.length) (h : at_ bs p = at_ bs q) : p = q := by
  rcases Nat.lt_trichotomy p q with z | z | z
  · have := at_mono R D z hq; omega
  · exact z
  · have := at_mono R D z hp; omega
theorem at_le {bs : List Nat} (R : Red bs) (D : Dec bs) {p q : Nat} (h : p ≤ q) (hq : q < 2 ^ bs.length) : at_ bs p ≤ at_ bs q := by
  rcases Nat.lt_or_ge p q with z | z
  · exact Nat.le_of_lt (at_mono R D z hq)
  · rw [Nat.le_antisymm h z]; exact Nat.le_refl _
theorem Cut.succ {bs : List Nat} (R : Red bs) (D : Dec bs) {p : Nat} (h : p < 2 ^ bs.length) : Cut bs (at_ bs p + 1) (p + 1) := ⟨h, fun q hq => ⟨fun z => by
  rcases Nat.lt_or_ge p q with w | w
  · have := at_mono R D w hq; omega
  · omega, fun z => by have := at_le R D (show q ≤ p by omega) h; omega⟩⟩
theorem Cut.skip {bs : List Nat} {b p : Nat} (C : Cut bs b p) (h : ¬ Sp bs b) : Cut bs (b + 1) p := ⟨C.le, fun q hq => by
  rw [← C.iff q hq]
  constructor
  · intro z
    have : at_ bs q ≠ b := fun e => h (e ▸ at_sp bs q)
    omega
  · omega⟩
/-- of a sum: its place is how many are below -/
theorem Cut.at {bs : List Nat} (R : Red bs) (D : Dec bs) {b p : Nat} (C : Cut bs b p) (h : Sp bs b) : p < 2 ^ bs.length ∧ at_ bs p = b := by
  obtain ⟨q, hq, e⟩ := sp_at h
  have C2 := Cut.own R D hq
  rw [e] at C2
  rw [C.unique C2]
  exact ⟨hq, e⟩
theorem best_only {bs : List Nat} (R : Red bs) {a b : Nat} (h : Sp bs (a ^^^ b)) (ha : ∀ c ∈ bs, a.testBit c.log2 = true) (hb : ∀ c ∈ bs, b.testBit c.log2 = true) : a = b :=
  Nat.le_antisymm (cmp_top R h hb) (cmp_top R (by rw [Nat.xor_comm]; exact h) ha)
theorem best_le {bs : List Nat} (R : Red bs) (n : Nat) : n ≤ best n bs := cmp_top R (by rw [Nat.xor_comm]; exact best_sp) (best_set R)
theorem less_le {bs : List Nat} (R : Red bs) (n : Nat) : less n bs ≤ n := cmp_low R less_sp (less_clear R)
theorem best_last {bs : List Nat} (R : Red bs) (D : Dec bs) : best 0 bs = at_ bs (2 ^ bs.length - 1) := by
  have hp := Nat.two_pow_pos bs.length
  have s := best_sp (bs := bs) (n := 0)
  rw [Nat.xor_zero] at s
  obtain ⟨q, hq, e⟩ := sp_at s
  refine Nat.le_antisymm ?_ ?_
  · rw [← e]; exact at_le R D (by omega) (by omega)
  · refine cmp_top R ?_ (best_set R)
    exact (at_sp bs _).add s
theorem best_same {bs : List Nat} (R : Red bs) {n m : Nat} (h : Sp bs (n ^^^ m)) : best n bs = best m bs := by
  refine best_only R ?_ (best_set R) (best_set R)
  have := ((best_sp (bs := bs) (n := n)).add h).add (best_sp (bs := bs) (n := m))
  have e : best n bs ^^^ n ^^^ (n ^^^ m) ^^^ (best m bs ^^^ m) = best n bs ^^^ best m bs := by
    rw [Nat.xor_assoc (best n bs), ← Nat.xor_assoc n n m, Nat.xor_self, Nat.zero_xor, Nat.xor_assoc, Nat.xor_comm (best m bs) m, ← Nat.xor_assoc m m, Nat.xor_self, Nat.zero_xor]
  rwa [e] at this
theorem falling (l : List Nat) : ∃ g : List Nat, g.Perm l ∧ g.Pairwise (· ≥ ·) := by
  refine ⟨(l.mergeSort fun a b => decide (a ≤ b)).reverse, (List.reverse_perm _).trans (List.mergeSort_perm l _), List.pairwise_reverse.mpr ?_⟩
  have := List.pairwise_mergeSort (le := fun a b : Nat => decide (a ≤ b)) (fun a b c h1 h2 => by simp only [decide_eq_true_eq] at *; omega) (fun a b => by simp only [Bool.or_eq_true, decide_eq_true_eq]; omega) l
  exact this.imp fun h => by simpa using h
/-- a number more: as many rows, or one more -/
theorem basis_more {ns bs cs : List Nat} (B : Basis ns bs) {m : Nat} (C : Basis (ns ++ [m]) cs) : cs.length = bs.length + (if less m bs = 0 then 0 else 1) := by
  obtain ⟨h1, h2⟩ := basis_add B (n := m)
  by_cases h : less m bs = 0
  · rw [if_pos h, C.unique (h1 h) (Same.refl _), Nat.add_zero]
  · rw [if_neg h]
    obtain ⟨g, gp, gs⟩ := falling (bs.map (clr (less m bs)) ++ [less m bs])
    rw [C.unique (h2 h g gp gs) (Same.refl _), gp.length_eq, List.length_append, List.length_map, List.length_singleton]
end GF

set_option Elab.async false
set_option maxRecDepth 100000
namespace LF
open PySem PySem.Spec L2
/-! ### xs.pop(i), xs.insert(i, y), xs.extend(ys), x in xs -/
section
variable {K : PySem.W.Frag} {mg : Str → Option Value}
theorem Reps.erase {W : Wd} : ∀ {vs : List V} {ds : List D} (n : Nat), Reps K W vs ds → Reps K W (vs.eraseIdx n) (ds.eraseIdx n)
  | _, _, _, .nil => .nil
  | _, _, 0, .cons h t => t
  | _, _, n + 1, .cons h t => .cons h (Reps.erase n t)
def mPopAt (d : D) (ds : List D) (cs : Cs) : Res D := match ds with
  | [.int i] => match celL cs d with
    | some (n, xs) => if 0 ≤ i ∧ xs.length ≤ sizeLine then match xs[i.toNat]? with
        | some y => .ok y (cs.set n (some (.lst (xs.eraseIdx i.toNat))))
        | none => .bad
      else .bad
    | none => .bad
  | _ => .bad
theorem ok_popAt : OkM K mg rPopAt mPopAt := by
  intro Z W cs H σ x xs d ds Q S r rs q
  unfold mPopAt at q
  split at q
  · rename_i i
    obtain ⟨u, rfl, re⟩ := reps1 rs
    cases re
    split at q
    · rename_i n ys hc
      split at q
      · rename_i hz
        split at q
        · rename_i y hy
          obtain ⟨a, vs, rfl, rfl, ha, he, hH, hl, s⟩ := view_celL S r hc
          obtain ⟨v, hv, rv⟩ := s.get hy
          have hlt : i.toNat < vs.length := (List.getElem?_eq_some_iff.mp hv).1
          have hz2 := sizeLine_eq
          have hl2 : ys.length ≤ sizeLine := hz.2
          have hsi : seqIndex? i vs.length = some i.toNat := by
            have e1 : (if i < 0 then i + (vs.length : Int) else i) = i := if_neg (by omega)
            unfold seqIndex?
            simp only [e1]
            (rw [if_pos (by simp only [Bool.and_eq_true, decide_eq_true_eq]; omega)])
          exact ⟨a, vs, i, i.toNat, v, rfl, rfl, hH, by omega, by omega, hsi, hv, fin_put q S he ha (.lst (by rw [List.length_eraseIdx]; split <;> omega) (s.erase _)) rv⟩
        · exact q.elim
      · exact q.elim
    · exact q.elim
  · exact q.elim
def mInsert (d : D) (ds : List D) (cs : Cs) : Res D := match ds with
  | [.int i, y] => match celL cs d with
    | some (n, xs) => if 0 ≤ i ∧ i < 2 ^ 63 ∧ xs.length < sizeLine then .ok .non (cs.set n (some (.lst (xs.take i.toNat ++ [y] ++ xs.drop i.toNat)))) else .bad
    | none => .bad
  | _ => .bad
def rInsert : V → List V → Hp → VK → Prop := fun x vs H Q => ∃ (l : Addr) (xs : List V) (i : Int) (y : V), x = .ref l ∧ vs = [.int i, y] ∧ H l = some (.lst xs) ∧ xs.length < sizeLine ∧ 0 ≤ i ∧ i < 2 ^ 63 ∧ Q .non (upd H l (.lst (xs.take i.toNat ++ [y] ++ xs.drop i.toNat)))
theorem ok_insert : OkM K mg rInsert mInsert := by
  intro Z W cs H σ x xs d ds Q S r rs q
  unfold mInsert at q
  split at q
  · rename_i i y
    obtain ⟨u, u2, rfl, re, ry⟩ := reps2 rs
    cases re
    split at q
    · rename_i n ys hc
      split at q
      · rename_i hz
        obtain ⟨a, vs, rfl, rfl, ha, he, hH, hl, s⟩ := view_celL S r hc
        have hlen := s.length
        refine ⟨a, vs, i, u2, rfl, rfl, hH, by rw [hlen]; exact hz.2.2, hz.1, hz.2.1, fin_put q S he ha (.lst ?_ (((s.take _).append (.cons ry .nil)).append (s.drop _))) .non⟩
        have := hz.2.2
        rw [List.length_append, List.length_append, List.length_take, List.length_drop, List.length_singleton]
        omega
      · exact q.elim
    · exact q.elim
  · exact q.elim
def mExtend (d : D) (ds : List D) (cs : Cs) : Res D := match ds with
  | [e] => match celL cs d, deref cs e with
    | some (n, xs), .lst ys => if xs.length + ys.length ≤ sizeLine then .ok .non (cs.set n (some (.lst (xs ++ ys)))) else .bad
    | _, _ => .bad
  | _ => .bad
theorem ok_extend : OkM K mg rExtend mExtend := by
  intro Z W cs H σ x xs d ds Q S r rs q
  unfold mExtend at q
  split at q
  · rename_i e
    obtain ⟨u, rfl, re⟩ := reps1 rs
    split at q
    · rename_i n ys zs hc hd
      split at q
      · rename_i hz
        obtain ⟨a, vs, rfl, rfl, ha, he, hH, hl, s⟩ := view_celL S r hc
        obtain ⟨b, us, rfl, hB, hl2, s2⟩ := view_derL S re hd
        refine ⟨a, b, vs, us, rfl, rfl, hH, hB, by rw [s.length, s2.length]; exact hz, fin_put q S he ha (.lst ?_ (s.append s2)) .non⟩
        rw [List.length_append, s.length, s2.length]; exact hz
      · exact q.elim
    · exact q.elim
  · exact q.elim
/-- flat data as values -/
def flV : D → Option V
  | .non => some .non
  | .bl b => some (.bl b)
  | .int i => some (.int i)
  | .str s => some (.str s)
  | _ => none
def flVs : List D → Option (List V)
  | [] => some []
  | d :: r => match flV d, flVs r with
    | some v, some vs => some (v :: vs)
    | _, _ => none
theorem flV_rep {W : Wd} {v u : V} {d : D} (r : Rep K W v d) (h : flV d = some u) : v = u ∧ flatV v = true := by
  cases r with
  | non => cases h; exact ⟨rfl, rfl⟩
  | bl b => cases h; exact ⟨rfl, rfl⟩
  | int b => cases h; exact ⟨rfl, rfl⟩
  | str b => cases h; exact ⟨rfl, rfl⟩
  | _ => cases h
theorem flVs_rep {W : Wd} : ∀ {vs us : List V} {ds : List D}, Reps K W vs ds → flVs ds = some us → vs = us ∧ vs.all flatV = true
  | _, _, _, .nil, h => by cases h; exact ⟨rfl, rfl⟩
  | _, us, _, .cons r t, h => by
    unfold flVs at h
    split at h
    · rename_i v ws h1 h2
      cases h
      obtain ⟨rfl, e1⟩ := flV_rep r h1
      obtain ⟨rfl, e2⟩ := flVs_rep t h2
      exact ⟨rfl, by rw [List.all_cons, e1, e2]; rfl⟩
    · cases h
def sqD (cs : Cs) (d : D) : Option (List D) := match d with
  | .tup ds => some ds
  | d => seqL cs d
def pIn (neg : Bool) : P2 := fun x y cs => match flV x, (sqD cs y).bind flVs with
  | some v, some vs => .ok (.bl (if neg then !inV v vs else inV v vs)) cs
  | _, _ => .bad
theorem ok_in {neg : Bool} : Ok2 K mg (rIn K neg) (pIn neg) := by
  intro Z W cs H σ x y d e Q S r1 r2 q
  unfold pIn at q
  split at q
  · rename_i v vs h1 h2
    obtain ⟨ds, h3, h4⟩ := Option.bind_eq_some_iff.mp h2
    obtain ⟨rfl, f1⟩ := flV_rep r1 h1
    have : ∃ p us, y = .ref p ∧ (SqL K H p us ∨ SqT K H p us) ∧ Reps K W us ds := by
      unfold sqD at h3
      split at h3
      · cases h3
        cases r2 with
        | tup hf hl s => exact ⟨_, _, rfl, .inr (.of (S.fzt hf)), s⟩
      · obtain ⟨a, us, e1, e2, e3, e4⟩ := view_seqL S r2 h3
        exact ⟨a, us, e1, .inl e2, e4⟩
    obtain ⟨p, us, rfl, hs, s⟩ := this
    obtain ⟨rfl, f2⟩ := flVs_rep s h4
    exact ⟨p, us, rfl, hs, f1, f2, q.ret S (.bl _)⟩
  · exact q.elim
end
section
variable {X : Cx} {Z : WX} {pos : Pos} {a b b2 : Expr} {f h : SE} {t : SA}
theorem fe_popAt {apos : Pos} {f : SE} (ho : FE X Z a f) (ha : FA X Z [b] t) (hbase : attributeBase a "pop" X.env (eval a X.env) = eval a X.env := by rfl)
    (hfew : ((backTo pos (starEach [b] X.env)).all (fun x => !x.1) && (backToKw pos (keywordEach [] X.env)).all (fun x => x.1.isSome)
      && decide ([b].length + ([] : List Keyword).length + (if ([] : List Keyword).isEmpty then 0 else 1) < 30)) = true := by rfl)
    (hline : (apos.endLine == pos.line) = true := by rfl) (hs : starEach [b] X.env = (false, eval b X.env) :: starEach [] X.env := by rfl) (hplain : (backTo pos (starEach [] X.env)).any (·.1) = false := by rfl) :
    FE X Z (.Call (.Attribute a "pop" apos) [b] [] pos) (eMt isLD mPopAt f t) := fe_bm (T := "list") ty_list ok_popAt PySem.F.plainAttrs_list PySem.F.slot_list_pop PySem.F.type_list_pop mt_popAt ho ha hbase hfew hline hs hplain
theorem fe_extend {apos : Pos} {f : SE} (ho : FE X Z a f) (ha : FA X Z [b] t) (hbase : attributeBase a "extend" X.env (eval a X.env) = eval a X.env := by rfl)
    (hfew : ((backTo pos (starEach [b] X.env)).all (fun x => !x.1) && (backToKw pos (keywordEach [] X.env)).all (fun x => x.1.isSome)
      && decide ([b].length + ([] : List Keyword).length + (if ([] : List Keyword).isEmpty then 0 else 1) < 30)) = true := by rfl)
    (hline : (apos.endLine == pos.line) = true := by rfl) (hs : starEach [b] X.env = (false, eval b X.env) :: starEach [] X.env := by rfl) (hplain : (backTo pos (starEach [] X.env)).any (·.1) = false := by rfl) :
    FE X Z (.Call (.Attribute a "extend" apos) [b] [] pos) (eMt isLD mExtend f t) := fe_bm (T := "list") ty_list ok_extend PySem.F.plainAttrs_list PySem.F.slot_list_extend PySem.F.type_list_extend mt_extend ho ha hbase hfew hline hs hplain
theorem fe_insert {apos : Pos} {f : SE} (ho : FE X Z a f) (ha : FA X Z [b, b2] t) (hbase : attributeBase a "insert" X.env (eval a X.env) = eval a X.env := by rfl)
    (hfew : ((backTo pos (starEach [b, b2] X.env)).all (fun x => !x.1) && (backToKw pos (keywordEach [] X.env)).all (fun x => x.1.isSome)
      && decide ([b, b2].length + ([] : List Keyword).length + (if ([] : List Keyword).isEmpty then 0 else 1) < 30)) = true := by rfl)
    (hline : (apos.endLine == pos.line) = true := by rfl) (hs : starEach [b, b2] X.env = (false, eval b X.env) :: starEach [b2] X.env := by rfl) (hplain : (backTo pos (starEach [b2] X.env)).any (·.1) = false := by rfl) :
    FE X Z (.Call (.Attribute a "insert" apos) [b, b2] [] pos) (eMt isLD mInsert f t) := fe_bm (T := "list") ty_list ok_insert PySem.F.plainAttrs_list PySem.F.slot_list_insert PySem.F.type_list_insert mt_insert ho ha hbase hfew hline hs hplain
theorem fe_in (ha : FE X Z a f) (hb : FE X Z b h) (hm : behindInMarks .In b = false := by rfl) : FE X Z (.Compare a [.In] [b] pos) (e2 (pIn false) f h) := fe_cmp op_in_seq ok_in ha hb (hm := hm)
theorem ft_in (ha : FE X Z a f) (hb : FE X Z b h) (hm : behindInMarks .In b = false := by rfl) : FT X Z (.Compare a [.In] [b] pos) (tV (e2 (pIn false) f h)) := ft_cmp op_in_seq ok_in ha hb (hm := hm)
theorem fe_notin (ha : FE X Z a f) (hb : FE X Z b h) (hm : behindInMarks .NotIn b = false := by rfl) : FE X Z (.Compare a [.NotIn] [b] pos) (e2 (pIn true) f h) := fe_cmp op_notIn_seq ok_in ha hb (hm := hm)
theorem ft_notin (ha : FE X Z a f) (hb : FE X Z b h) (hm : behindInMarks .NotIn b = false := by rfl) : FT X Z (.Compare a [.NotIn] [b] pos) (tV (e2 (pIn true) f h)) := ft_cmp op_notIn_seq ok_in ha hb (hm := hm)
end
/-! ### running them -/
section
variable {cs : Cs} {c : Bool}
theorem r_popC {n : Nat} {ds : List D} {i : Nat} {y : D} (h : cs[n]? = some (some (.lst ds))) (hl : ds.length ≤ sizeLine) (hy : ds[i]? = some y) : mPopAt (.cel n) [.int (i : Int)] cs = .ok y (cs.set n (some (.lst (ds.eraseIdx i)))) := by
  unfold mPopAt; dsimp only; rw [celL_cel h]; dsimp only; rw [if_pos ⟨Int.natCast_nonneg i, hl⟩, Int.toNat_natCast, hy]
theorem r_insC {n : Nat} {ds : List D} {i : Nat} {y : D} (h : cs[n]? = some (some (.lst ds))) (hl : ds.length < sizeLine) (hi : i ≤ 1000000) : mInsert (.cel n) [.int (i : Int), y] cs = .ok .non (cs.set n (some (.lst (ds.take i ++ [y] ++ ds.drop i)))) := by
  unfold mInsert; dsimp only; rw [celL_cel h]; dsimp only; rw [if_pos ⟨Int.natCast_nonneg i, by omega, hl⟩, Int.toNat_natCast]
theorem r_extC {n : Nat} {ds es : List D} (h : cs[n]? = some (some (.lst ds))) (hl : ds.length + es.length ≤ sizeLine) : mExtend (.cel n) [.lst es] cs = .ok .non (cs.set n (some (.lst (ds ++ es)))) := by
  unfold mExtend; dsimp only; rw [celL_cel h]; dsimp only [deref]; rw [if_pos hl]
theorem flVs_nats : ∀ ns : List Nat, flVs (natsD ns) = some (ns.map fun (n : Nat) => V.int (n : Int))
  | [] => rfl
  | n :: r => by
    rw [natsD_cons]; unfold flVs
    rw [flVs_nats r]; rfl
theorem inV_nats (n : Nat) : ∀ ns : List Nat, inV (.int (n : Int)) (ns.map fun (n : Nat) => V.int (n : Int)) = decide (n ∈ ns)
  | [] => rfl
  | m :: r => by
    have ih := inV_nats n r
    unfold inV at ih ⊢
    rw [List.map_cons, List.any_cons, ih]
    have e : eqV (.int (m : Int)) (.int (n : Int)) = decide (n = m) := by
      show decide _ = _
      exact decide_eq_decide.mpr ⟨fun h => by omega, fun h => by omega⟩
    rw [e]
    simp
theorem r_inL {n : Nat} {ns : List Nat} {neg : Bool} : pIn neg (.int (n : Int)) (.lst (natsD ns)) cs = .ok (.bl (if neg then !decide (n ∈ ns) else decide (n ∈ ns))) cs := by
  unfold pIn
  have : (sqD cs (.lst (natsD ns))).bind flVs = some (ns.map fun (n : Nat) => V.int (n : Int)) := flVs_nats ns
  rw [this, ← inV_nats]; rfl
theorem r_inT {n : Nat} {ns : List Nat} {neg : Bool} : pIn neg (.int (n : Int)) (.tup (natsD ns)) cs = .ok (.bl (if neg then !decide (n ∈ ns) else decide (n ∈ ns))) cs := by
  unfold pIn
  have : (sqD cs (.tup (natsD ns))).bind flVs = some (ns.map fun (n : Nat) => V.int (n : Int)) := flVs_nats ns
  rw [this, ← inV_nats]; rfl
theorem far_at {cs1 more : Cs} {c : Cell} {k : Nat} (e : k = cs1.length + more.length) : (cs1 ++ (more ++ [some c]))[k]? = some (some c) := by
  rw [← List.append_assoc, e, ← List.length_append, List.getElem?_append_right (Nat.le_refl _), Nat.sub_self]; rfl
theorem far_set {cs1 more : Cs} {c d : Option Cell} {k : Nat} (e : k = cs1.length + more.length) : (cs1 ++ (more ++ [c])).set k d = cs1 ++ (more ++ [d]) := by
  rw [← List.append_assoc, e, ← List.length_append, List.set_append_right _ _ (Nat.le_refl _), Nat.sub_self]
  show _ ++ [d] = _
  rw [List.append_assoc]
theorem natsD_take (a : List Nat) (n : Nat) : (natsD a).take n = natsD (a.take n) := by unfold natsD; rw [List.map_take]
theorem natsD_drop (a : List Nat) (n : Nat) : (natsD a).drop n = natsD (a.drop n) := by unfold natsD; rw [List.map_drop]
theorem natsD_erase (a : List Nat) (n : Nat) : (natsD a).eraseIdx n = natsD (a.eraseIdx n) := by
  rw [List.eraseIdx_eq_take_drop_succ, List.eraseIdx_eq_take_drop_succ, natsD_append, natsD_take, natsD_drop]
variable {sl : Sl} {Q : D → Cs → Prop}
theorem s_eCh {p p' : P2} {f g h : SE} : Sat (eCh p p' f g h sl cs) Q = Sat (f sl cs) fun x cs1 => Sat (g sl cs1) fun y cs2 => Sat (p x y cs2) fun z cs3 => match z with | .bl k => if k = true then Sat (h sl cs3) fun w cs4 => Sat (p' y w cs4) Q else Q (.bl false) cs3 | _ => False := by
  unfold eCh; rw [sat_bind]; congr 1; funext x cs1; rw [sat_bind]; congr 1; funext y cs2; rw [sat_bind]; congr 1; funext z cs3
  cases z with
  | bl k =>
    cases k with
    | true => exact sat_bind _ _ _
    | false => unfold Sat; rfl
  | _ => unfold Sat; rfl
theorem s_gT2L {i j : Nat} {x y : D} : gT 2 (gCons (gN i) (gCons (gN j) gNil)) (.lst [x, y]) sl = some ((sl.set i (some x)).set j (some y)) := rfl
theorem s_gT2T {i j : Nat} {x y : D} : gT 2 (gCons (gN i) (gCons (gN j) gNil)) (.tup [x, y]) sl = some ((sl.set i (some x)).set j (some y)) := rfl
end
end LF

set_option Elab.async false
namespace GF
/-! ### rows with unlike highest bits, falling -/
theorem Dec.low {a : Nat} {l : List Nat} (D : Dec (a :: l)) : ∀ b ∈ l, b < 2 ^ a.log2 := fun b hb => (Nat.log2_lt (D.tail.pos b hb)).mp ((List.pairwise_cons.mp D.dec).1 b hb)
theorem dec_top : ∀ {bs : List Nat}, Dec bs → ∀ {n : Nat}, Sp bs n → n ≠ 0 → ∃ b ∈ bs, b.log2 = n.log2
  | [], _, n, h, h0 => absurd (sp_nil.mp h) h0
  | a :: l, D, n, h, h0 => by
    rcases sp_cons.mp h with h | h
    · obtain ⟨b, hb, e⟩ := dec_top D.tail h h0
      exact ⟨b, List.mem_cons_of_mem _ hb, e⟩
    · have lt := sp_lt D.low h
      refine ⟨a, List.mem_cons_self .., ?_⟩
      have a0 := D.pos a (List.mem_cons_self ..)
      refine ((hb_iff h0).mpr ⟨?_, fun j hj => ?_⟩).symm
      · have := Nat.testBit_lt_two_pow lt
        rw [xb, top_bit a0] at this
        revert this
        cases n.testBit a.log2 <;> simp
      · have := Nat.testBit_lt_two_pow (Nat.lt_of_lt_of_le lt (Nat.pow_le_pow_right (by decide) (Nat.le_of_lt hj)))
        rw [xb, above hj] at this
        revert this
        cases n.testBit j <;> simp
/-- what is left has none of the rows' highest bits -/
theorem dec_clear : ∀ {bs : List Nat}, Dec bs → ∀ {n : Nat}, ∀ b ∈ bs, (less n bs).testBit b.log2 = false
  | [], _, n, b, hb => by cases hb
  | a :: l, D, n, b, hb => by
    show (less (les1 n a) l).testBit _ = _
    rcases List.mem_cons.mp hb with (rfl | hb)
    · rw [less_bits D.tail.pos fun c hc => Nat.testBit_lt_two_pow (D.low c hc)]
      exact les1_bit (D.pos _ (List.mem_cons_self ..))
    · exact dec_clear D.tail b hb
theorem dec_only {bs : List Nat} (D : Dec bs) {n : Nat} (h : Sp bs n) (c : ∀ b ∈ bs, n.testBit b.log2 = false) : n = 0 := by
  apply Classical.byContradiction
  intro h0
  obtain ⟨b, hb, e⟩ := dec_top D h h0
  have := c b hb
  rw [e, top_bit h0] at this
  cases this
theorem dec_zero {bs : List Nat} (D : Dec bs) {n : Nat} : less n bs = 0 ↔ Sp bs n := by
  constructor
  · intro h
    have := less_sp (bs := bs) (n := n)
    rwa [h, Nat.xor_zero] at this
  · intro h
    refine dec_only D ?_ (dec_clear D)
    have := h.add (less_sp (bs := bs) (n := n))
    rwa [← Nat.xor_assoc, Nat.xor_self, Nat.zero_xor] at this
/-- rows in another order, falling -/
theorem dec_sort {l g : List Nat} (h0 : ∀ b ∈ l, b ≠ 0) (hl : l.Pairwise fun a b => a.log2 ≠ b.log2) (p : g.Perm l) (s : g.Pairwise (· ≥ ·)) : Dec g := by
  have hg0 : ∀ b ∈ g, b ≠ 0 := fun b hb => h0 b (p.mem_iff.mp hb)
  refine ⟨hg0, ?_⟩
  have hd : g.Pairwise fun a b => a.log2 ≠ b.log2 := (p.pairwise_iff (fun {a b} h => fun e => h e.symm)).mpr hl
  have : g.Pairwise fun a b => a ≥ b ∧ a.log2 ≠ b.log2 := List.pairwise_and_iff.mpr ⟨s, hd⟩
  refine this.imp_of_mem fun {a b} ha hb ⟨h1, h2⟩ => ?_
  have := le_log (hg0 b hb) h1
  omega
theorem Dec.apart {bs : List Nat} (D : Dec bs) : bs.Pairwise fun a b => a.log2 ≠ b.log2 := D.dec.imp fun h => by omega
/-- a cleared number more -/
theorem dec_more {bs g : List Nat} (D : Dec bs) {n : Nat} (h : less n bs ≠ 0) (p : g.Perm (bs ++ [less n bs])) (s : g.Pairwise (· ≥ ·)) : Dec g := by
  refine dec_sort (fun b hb => ?_) ?_ p s
  · rcases List.mem_append.mp hb with q | q
    · exact D.pos b q
    · rw [List.mem_singleton.mp q]; exact h
  · refine List.pairwise_append.mpr ⟨D.apart, List.pairwise_singleton _ _, fun a ha b hb => ?_⟩
    rw [List.mem_singleton.mp hb]
    intro e
    have := dec_clear D (n := n) a ha
    rw [e, top_bit h] at this
    cases this
/-! ### pairs: what goes along -/
inductive Sp2 : List (Nat × Nat) → Nat → Nat → Prop
  | nil : Sp2 [] 0 0
  | skip {p : Nat × Nat} {l : List (Nat × Nat)} {x y : Nat} : Sp2 l x y → Sp2 (p :: l) x y
  | take {p : Nat × Nat} {l : List (Nat × Nat)} {x y : Nat} : Sp2 l x y → Sp2 (p :: l) (x ^^^ p.1) (y ^^^ p.2)
theorem Sp2.fst {l : List (Nat × Nat)} {x y : Nat} (h : Sp2 l x y) : Sp (l.map (·.1)) x := by
  induction h with
  | nil => exact .nil
  | skip _ ih => exact .skip ih
  | take _ ih => exact .take ih
theorem Sp2.snd {l : List (Nat × Nat)} {x y : Nat} (h : Sp2 l x y) : Sp (l.map (·.2)) y := by
  induction h with
  | nil => exact .nil
  | skip _ ih => exact .skip ih
  | take _ ih => exact .take ih
theorem Sp2.zero : ∀ l : List (Nat × Nat), Sp2 l 0 0
  | [] => .nil
  | _ :: l => .skip (Sp2.zero l)
theorem sp2_fst : ∀ {l : List (Nat × Nat)} {x : Nat}, Sp (l.map (·.1)) x → ∃ y, Sp2 l x y
  | [], x, h => by rw [sp_nil.mp h]; exact ⟨0, .nil⟩
  | p :: l, x, h => by
    rw [List.map_cons] at h
    rcases sp_cons.mp h with h | h
    · obtain ⟨y, hy⟩ := sp2_fst h; exact ⟨y, .skip hy⟩
    · obtain ⟨y, hy⟩ := sp2_fst h
      have := Sp2.take (p := p) hy
      rw [xself] at this
      exact ⟨_, this⟩
theorem sp2_snd : ∀ {l : List (Nat × Nat)} {y : Nat}, Sp (l.map (·.2)) y → ∃ x, Sp2 l x y
  | [], x, h => by rw [sp_nil.mp h]; exact ⟨0, .nil⟩
  | p :: l, x, h => by
    rw [List.map_cons] at h
    rcases sp_cons.mp h with h | h
    · obtain ⟨y, hy⟩ := sp2_snd h; exact ⟨y, .skip hy⟩
    · obtain ⟨y, hy⟩ := sp2_snd h
      have := Sp2.take (p := p) hy
      rw [xself] at this
      exact ⟨_, this⟩
theorem Sp2.add {l : List (Nat × Nat)} {x y : Nat} (h : Sp2 l x y) : ∀ {u v : Nat}, Sp2 l u v → Sp2 l (x ^^^ u) (y ^^^ v) := by
  induction h with
  | nil => intro u v h; rw [Nat.zero_xor, Nat.zero_xor]; exact h
  | @skip p l x y h ih =>
    intro u v h2
    cases h2 with
    | skip q => exact .skip (ih q)
    | take q => rw [← Nat.xor_assoc, ← Nat.xor_assoc]; exact .take (ih q)
  | @take p l x y h ih =>
    intro u v h2
    cases h2 with
    | skip q =>
      have := Sp2.take (p := p) (ih q)
      rwa [Nat.xor_assoc x, Nat.xor_comm u, ← Nat.xor_assoc, Nat.xor_assoc y, Nat.xor_comm v, ← Nat.xor_assoc] at this
    | @take _ _ u v q =>
      have := Sp2.skip (p := p) (ih q)
      have e : ∀ x u a : Nat, x ^^^ a ^^^ (u ^^^ a) = x ^^^ u := fun x u a => by rw [Nat.xor_assoc, Nat.xor_comm u a, ← Nat.xor_assoc a a, Nat.xor_self, Nat.zero_xor]
      rwa [e, e]
theorem Sp2.mem {l : List (Nat × Nat)} {p : Nat × Nat} (h : p ∈ l) : Sp2 l p.1 p.2 := by
  induction l with
  | nil => cases h
  | cons q l ih =>
    (rcases List.mem_cons.mp h with rfl | h)
    · have := Sp2.take (p := p) (Sp2.zero l)
      rwa [Nat.zero_xor, Nat.zero_xor] at this
    · exact .skip (ih h)
/-- all pairs that are summed have a property that sums keep -/
theorem Sp2.all {l : List (Nat × Nat)} {P : Nat → Nat → Prop} (h0 : P 0 0) (ha : ∀ x y u v, P x y → P u v → P (x ^^^ u) (y ^^^ v)) (hl : ∀ p ∈ l, P p.1 p.2) {x y : Nat} (h : Sp2 l x y) : P x y := by
  induction h with
  | nil => exact h0
  | skip _ ih => exact ih fun p hp => hl p (List.mem_cons_of_mem _ hp)
  | take _ ih => exact ha _ _ _ _ (ih fun p hp => hl p (List.mem_cons_of_mem _ hp)) (hl _ (List.mem_cons_self ..))
theorem Sp2.sub {l m : List (Nat × Nat)} (hl : ∀ p ∈ l, Sp2 m p.1 p.2) {x y : Nat} (h : Sp2 l x y) : Sp2 m x y := Sp2.all (P := Sp2 m) (Sp2.zero m) (fun _ _ _ _ h1 h2 => h1.add h2) hl h
theorem Sp.all {l : List Nat} {P : Nat → Prop} (h0 : P 0) (ha : ∀ x y, P x → P y → P (x ^^^ y)) (hl : ∀ p ∈ l, P p) {x : Nat} (h : Sp l x) : P x := by
  induction h with
  | nil => exact h0
  | skip _ ih => exact ih fun p hp => hl p (List.mem_cons_of_mem _ hp)
  | take _ ih => exact ha _ _ (ih fun p hp => hl p (List.mem_cons_of_mem _ hp)) (hl _ (List.mem_cons_self ..))
/-- rows of unlike highest bits: 0 goes along with 0 -/
theorem sp2_zero : ∀ {l : List (Nat × Nat)}, Dec (l.map (·.1)) → ∀ {y : Nat}, Sp2 l 0 y → y = 0 := by
  intro l D y h
  suffices H : ∀ {l : List (Nat × Nat)} {x y : Nat}, Sp2 l x y → Dec (l.map (·.1)) → x = 0 → y = 0 from H h D rfl
  intro l x y h
  induction h with
  | nil => intros; rfl
  | skip _ ih => intro D e; exact ih D.tail e
  | @take p l x y h ih =>
    intro D e
    exfalso
    have lt : x < 2 ^ p.1.log2 := sp_lt D.low h.fst
    have p0 := D.pos p.1 (List.mem_cons_self ..)
    have e2 : x = p.1 := by
      have := xself x p.1
      rw [e, Nat.zero_xor] at this
      exact this.symm
    rw [e2] at lt
    have := Nat.log2_self_le p0
    omega
def cl1 (q p : Nat × Nat) : Nat × Nat := if q.1 ^^^ p.1 < q.1 then (q.1 ^^^ p.1, q.2 ^^^ p.2) else q
def clr2 (q : Nat × Nat) (l : List (Nat × Nat)) : Nat × Nat := l.foldl cl1 q
theorem clr2_fst : ∀ (l : List (Nat × Nat)) (q : Nat × Nat), (clr2 q l).1 = less q.1 (l.map (·.1))
  | [], q => rfl
  | p :: l, q => by
    show (clr2 (cl1 q p) l).1 = less (les1 q.1 p.1) (l.map (·.1))
    rw [clr2_fst l]
    unfold cl1 les1
    split <;> rfl
theorem clr2_sp : ∀ (l : List (Nat × Nat)) (q : Nat × Nat), Sp2 l (q.1 ^^^ (clr2 q l).1) (q.2 ^^^ (clr2 q l).2)
  | [], q => by
    show Sp2 [] (q.1 ^^^ q.1) (q.2 ^^^ q.2)
    rw [Nat.xor_self, Nat.xor_self]; exact .nil
  | p :: l, q => by
    have h := clr2_sp l (cl1 q p)
    show Sp2 (p :: l) (q.1 ^^^ (clr2 (cl1 q p) l).1) (q.2 ^^^ (clr2 (cl1 q p) l).2)
    unfold cl1 at h ⊢
    split
    · rename_i c
      rw [if_pos c] at h
      have := Sp2.take (p := p) h
      have e : ∀ a b c : Nat, a ^^^ b ^^^ c ^^^ b = a ^^^ c := fun a b c => by rw [Nat.xor_assoc a b c, Nat.xor_comm b c, ← Nat.xor_assoc a c b, xself]
      dsimp only at this
      rwa [e, e] at this
    · rename_i c
      rw [if_neg c] at h
      exact .skip h
/-! ### what becomes 0 -/
theorem sp_left {m k : List Nat} {x : Nat} (h : Sp m x) : Sp (m ++ k) x := Sp.sub (fun a ha => .mem (List.mem_append_left _ ha)) h
theorem same_snoc {l m : List Nat} (h : Same l m) {t y : Nat} (hy : Sp m (t ^^^ y)) : Same (l ++ [t]) (m ++ [y]) := by
  have hy' : Sp l (y ^^^ t) := by rw [Nat.xor_comm]; exact (h _).mpr hy
  refine same_of (fun a ha => ?_) fun a ha => ?_
  · rcases List.mem_append.mp ha with q | q
    · exact sp_left ((h a).mp (.mem q))
    · rw [List.mem_singleton.mp q]
      have := (sp_left (k := [y]) hy).add (.mem (a := y) (by simp))
      rwa [xself] at this
  · rcases List.mem_append.mp ha with q | q
    · exact sp_left ((h a).mpr (.mem q))
    · rw [List.mem_singleton.mp q]
      have := (sp_left (k := [t]) hy').add (.mem (a := t) (by simp))
      rwa [xself] at this
structure Kr (T : Nat → Nat) (seen : List Nat) (known : List (Nat × Nat)) (lost : List Nat) : Prop where
  ech : Dec (known.map (·.1))
  is : ∀ p ∈ known, p.1 = T p.2
  z : ∀ y ∈ lost, T y = 0
  same : Same seen (known.map (·.2) ++ lost)
theorem Kr.start (T : Nat → Nat) : Kr T [] [] [] := ⟨⟨by simp, .nil⟩, by simp, by simp, Same.refl _⟩
section
variable {T : Nat → Nat} (hT : ∀ a b, T (a ^^^ b) = T a ^^^ T b)
include hT
theorem lin_zero : T 0 = 0 := by
  have := hT 0 0
  rw [Nat.xor_self, Nat.xor_self] at this
  exact this
theorem Kr.pair {seen lost : List Nat} {known : List (Nat × Nat)} (k : Kr T seen known lost) {x y : Nat} (h : Sp2 known x y) : x = T y :=
  Sp2.all (P := fun x y => x = T y) (lin_zero hT).symm (fun x y u v h1 h2 => by rw [h1, h2, hT]) k.is h
theorem Kr.cleared {seen lost : List Nat} {known : List (Nat × Nat)} (k : Kr T seen known lost) (t : Nat) : (clr2 (T t, t) known).1 = T (clr2 (T t, t) known).2 := by
  have h := k.pair hT (clr2_sp known (T t, t))
  dsimp only at h
  rw [hT] at h
  have e := congrArg (T t ^^^ ·) h
  rw [← Nat.xor_assoc, ← Nat.xor_assoc, Nat.xor_self, Nat.zero_xor, Nat.zero_xor] at e
  exact e
theorem Kr.lose {seen lost : List Nat} {known : List (Nat × Nat)} (k : Kr T seen known lost) {t : Nat} (h : (clr2 (T t, t) known).1 = 0) : Kr T (seen ++ [t]) known (lost ++ [(clr2 (T t, t) known).2]) := by
  refine ⟨k.ech, k.is, fun y hy => ?_, ?_⟩
  · rcases List.mem_append.mp hy with q | q
    · exact k.z y q
    · rw [List.mem_singleton.mp q, ← k.cleared hT, h]
  · rw [← List.append_assoc]
    exact same_snoc k.same (sp_left (clr2_sp known (T t, t)).snd)
theorem Kr.keep {seen lost : List Nat} {known g : List (Nat × Nat)} (k : Kr T seen known lost) {t : Nat} (h : (clr2 (T t, t) known).1 ≠ 0) (p : g.Perm (known ++ [clr2 (T t, t) known])) (s : (g.map (·.1)).Pairwise (· ≥ ·)) : Kr T (seen ++ [t]) g lost := by
  have e1 := clr2_fst known (T t, t)
  refine ⟨?_, fun q hq => ?_, k.z, ?_⟩
  · refine dec_more k.ech (n := T t) (by rw [← e1]; exact h) ?_ s
    have := p.map (·.1)
    rw [List.map_append, List.map_singleton, e1] at this
    exact this
  · rcases List.mem_append.mp (p.mem_iff.mp hq) with z | z
    · exact k.is q z
    · rw [List.mem_singleton.mp z]; exact k.cleared hT t
  · have h2 : Same (seen ++ [t]) (known.map (·.2) ++ lost ++ [(clr2 (T t, t) known).2]) := same_snoc k.same (sp_left (clr2_sp known (T t, t)).snd)
    refine h2.trans (same_mem fun a => ?_)
    have := (p.map (·.2)).mem_iff (a := a)
    rw [List.map_append, List.map_singleton, List.mem_append] at this
    simp only [List.mem_append, this]
    constructor
    · rintro ((h | h) | h)
      · exact .inl (.inl h)
      · exact .inr h
      · exact .inl (.inr h)
    · rintro ((h | h) | h)
      · exact .inl (.inl h)
      · exact .inr h
      · exact .inl (.inr h)
omit hT in
theorem sp_app : ∀ {l m : List Nat} {n : Nat}, Sp (l ++ m) n → ∃ u v, Sp l u ∧ Sp m v ∧ n = u ^^^ v
  | [], m, n, h => ⟨0, n, .nil, h, (Nat.zero_xor n).symm⟩
  | a :: l, m, n, h => by
    rw [List.cons_append] at h
    rcases sp_cons.mp h with h | h
    · obtain ⟨u, v, h1, h2, e⟩ := sp_app h
      exact ⟨u, v, .skip h1, h2, e⟩
    · obtain ⟨u, v, h1, h2, e⟩ := sp_app h
      refine ⟨u ^^^ a, v, .take h1, h2, ?_⟩
      have := congrArg (· ^^^ a) e
      rw [xself] at this
      rw [this, Nat.xor_assoc, Nat.xor_comm v a, ← Nat.xor_assoc]
theorem Kr.ker {seen lost : List Nat} {known : List (Nat × Nat)} (k : Kr T seen known lost) {n : Nat} : Sp lost n ↔ Sp seen n ∧ T n = 0 := by
  have hz : ∀ {v}, Sp lost v → T v = 0 := fun {v} h => Sp.all (P := fun v => T v = 0) (lin_zero hT) (fun x y h1 h2 => by rw [hT, h1, h2]; rfl) k.z h
  constructor
  · intro h
    refine ⟨(k.same n).mpr (Sp.sub (fun a ha => .mem (List.mem_append_right _ ha)) h), hz h⟩
  · rintro ⟨h, h0⟩
    obtain ⟨u, v, h1, h2, e⟩ := sp_app ((k.same n).mp h)
    obtain ⟨x, hx⟩ := sp2_snd h1
    have ex := k.pair hT hx
    have : T u = 0 := by
      have e2 : u = n ^^^ v := by rw [e, xself]
      rw [e2, hT, h0, hz h2]; rfl
    rw [this] at ex
    rw [ex] at hx
    rw [sp2_zero k.ech hx, Nat.zero_xor] at e
    rw [e]; exact h2
end
/-! ### the least -/
structure Lst (P : Nat → Prop) (n : Nat) : Prop where
  is : P n
  ne : n ≠ 0
  le : ∀ m, P m → m ≠ 0 → n ≤ m
theorem Lst.unique {P : Nat → Prop} {n m : Nat} (h : Lst P n) (h' : Lst P m) : n = m := Nat.le_antisymm (h.le m h'.is h'.ne) (h'.le n h.is h.ne)
theorem at_one : ∀ (l : List Nat) (a : Nat), at_ (l ++ [a]) 1 = a := fun l a => by
  rw [at_snoc, if_pos (by decide)]
  show at_ l 0 ^^^ a = a
  rw [at_zero, Nat.zero_xor]
/-- the last row is the least sum -/
theorem last_least {l : List Nat} {a : Nat} (R : Red (l ++ [a])) (D : Dec (l ++ [a])) : Lst (Sp (l ++ [a])) a := by
  refine ⟨.mem (by simp), D.pos a (by simp), fun m hm h0 => ?_⟩
  obtain ⟨q, hq, rfl⟩ := sp_at hm
  have h1 : 1 ≤ q := by
    rcases Nat.eq_zero_or_pos q with z | z
    · rw [z, at_zero] at h0; exact absurd rfl h0
    · exact z
  have := at_le R D h1 hq
  rwa [at_one] at this
theorem Lst.congr {P Q : Nat → Prop} (h : ∀ n, P n ↔ Q n) {n : Nat} (l : Lst P n) : Lst Q n := ⟨(h n).mp l.is, l.ne, fun m hm h0 => l.le m ((h m).mpr hm) h0⟩
theorem red_indep {P l : List Nat} {t : Nat} (R : Red (P ++ t :: l)) : ¬ Sp P t := fun h => by
  have hx : ∀ x ∈ P, x.testBit t.log2 = false := fun x hx => ((List.pairwise_append.mp R.ap).2.2 x hx t (by simp)).1
  have : t.testBit t.log2 = false := Sp.all (P := fun n => n.testBit t.log2 = false) (Nat.zero_testBit _) (fun x y h1 h2 => by rw [xb, h1, h2]; rfl) hx h
  rw [top_bit (R.pos t (by simp))] at this
  cases this
/-! ### what it becomes and itself, side by side in one number -/
def Bs (T : Nat → Nat) (n : Nat) : Nat := 2 ^ 64 * T n + n
theorem bs_bit (T : Nat → Nat) {n : Nat} (h : n < 2 ^ 64) (j : Nat) : (Bs T n).testBit j = if j < 64 then n.testBit j else (T n).testBit (j - 64) := Nat.testBit_two_pow_mul_add _ h j
section
variable {T : Nat → Nat} (hT : ∀ a b, T (a ^^^ b) = T a ^^^ T b)
include hT
theorem bs_xor {a b : Nat} (ha : a < 2 ^ 64) (hb : b < 2 ^ 64) : Bs T (a ^^^ b) = Bs T a ^^^ Bs T b := by
  refine Nat.eq_of_testBit_eq fun j => ?_
  rw [bs_bit T (Nat.xor_lt_two_pow ha hb), xb (Bs T a), bs_bit T ha, bs_bit T hb, hT, xb, xb]
  split <;> rfl
theorem bs_sp {l : List Nat} (hl : ∀ b ∈ l, b < 2 ^ 64) {z : Nat} : Sp (l.map (Bs T)) z ↔ ∃ n, Sp l n ∧ z = Bs T n := by
  have z0 : Bs T 0 = 0 := by unfold Bs; rw [lin_zero hT]
  constructor
  · intro h
    refine Sp.all (P := fun z => ∃ n, Sp l n ∧ z = Bs T n) ⟨0, .zero l, z0.symm⟩ ?_ (fun p hp => ?_) h
    · rintro x y ⟨a, ha, rfl⟩ ⟨b, hb, rfl⟩
      exact ⟨a ^^^ b, ha.add hb, (bs_xor hT (sp_lt hl ha) (sp_lt hl hb)).symm⟩
    · obtain ⟨b, hb, rfl⟩ := List.mem_map.mp hp
      exact ⟨b, .mem hb, rfl⟩
  · rintro ⟨n, hn, rfl⟩
    have : n < 2 ^ 64 ∧ Sp (l.map (Bs T)) (Bs T n) := by
      refine Sp.all (P := fun n => n < 2 ^ 64 ∧ Sp (l.map (Bs T)) (Bs T n)) ⟨Nat.two_pow_pos 64, by rw [z0]; exact .zero _⟩ ?_ (fun p hp => ⟨hl p hp, .mem (List.mem_map.mpr ⟨p, hp, rfl⟩)⟩) hn
      rintro x y ⟨a1, a2⟩ ⟨b1, b2⟩
      exact ⟨Nat.xor_lt_two_pow a1 b1, by rw [bs_xor hT a1 b1]; exact a2.add b2⟩
    exact this.2
theorem bs_low {n : Nat} (h : Bs T n < 2 ^ 64) : T n = 0 ∧ Bs T n = n := by
  unfold Bs at h ⊢
  rcases Nat.eq_zero_or_pos (T n) with z | z
  · rw [z]; exact ⟨rfl, by omega⟩
  · omega
theorem bs_gone {n : Nat} (h : T n = 0) : Bs T n = n := by unfold Bs; rw [h]; omega
/-- of the rows of all side by side: the low ones are the lost ones' -/
theorem bs_none {l f : List Nat} (hl : ∀ b ∈ l, b < 2 ^ 64) (B : Basis (l.map (Bs T)) f) (h : (f.filter fun x => decide (x < 2 ^ 64)) = []) {n : Nat} (hn : Sp l n) (h0 : T n = 0) : n = 0 := by
  apply Classical.byContradiction
  intro hz
  have s : Sp f n := by
    have := (B.same _).mp ((bs_sp hT hl).mpr ⟨n, hn, rfl⟩)
    rwa [bs_gone hT h0] at this
  rcases List.eq_nil_or_concat f with e | ⟨r, a, e⟩
  · rw [e] at s; exact hz (sp_nil.mp s)
  · rw [List.concat_eq_append] at e
    have le := (last_least (e ▸ B.red) (e ▸ B.dec)).le n (e ▸ s) hz
    have lt := sp_lt hl hn
    have : a ∈ f.filter fun x => decide (x < 2 ^ 64) := List.mem_filter.mpr ⟨by rw [e]; simp, by rw [decide_eq_true_eq]; omega⟩
    rw [h] at this; cases this
theorem bs_some {l f : List Nat} (hl : ∀ b ∈ l, b < 2 ^ 64) (B : Basis (l.map (Bs T)) f) (h : (f.filter fun x => decide (x < 2 ^ 64)) ≠ []) : ∃ r a, (f.filter fun x => decide (x < 2 ^ 64)) = r ++ [a] ∧ Lst (fun n => Sp l n ∧ T n = 0) a := by
  obtain ⟨x, hx⟩ := List.exists_mem_of_ne_nil _ h
  obtain ⟨hx1, hx2⟩ := List.mem_filter.mp hx
  rw [decide_eq_true_eq] at hx2
  rcases List.eq_nil_or_concat f with e | ⟨r, a, e⟩
  · rw [e] at hx1; cases hx1
  · rw [List.concat_eq_append] at e
    have L := last_least (e ▸ B.red) (e ▸ B.dec)
    rw [← e] at L
    have le := L.le x (.mem hx1) (B.red.pos x hx1)
    have lt : a < 2 ^ 64 := by omega
    refine ⟨r.filter fun x => decide (x < 2 ^ 64), a, by rw [e, List.filter_append]; simp [lt], ?_⟩
    obtain ⟨n, hn, en⟩ := (bs_sp hT hl).mp ((B.same a).mpr L.is)
    obtain ⟨t0, en2⟩ := bs_low hT (n := n) (by rw [← en]; exact lt)
    have ea : a = n := en.trans en2
    refine ⟨by rw [ea]; exact ⟨hn, t0⟩, L.ne, fun m hm h0 => ?_⟩
    refine L.le m ?_ h0
    have := (B.same _).mp ((bs_sp hT hl).mpr ⟨m, hm.1, rfl⟩)
    rwa [bs_gone hT hm.2] at this
end
end GF

set_option Elab.async false
set_option maxRecDepth 100000
namespace LF
open PySem PySem.Spec L2
/-! ### pairs of natural numbers -/
variable {cs : Cs} {c : Bool}
def natP (p : Nat × Nat) : D := .tup [.int (p.1 : Int), .int (p.2 : Int)]
def pairsN (l : List (Nat × Nat)) : List D := l.map natP
theorem pairsN_length (l : List (Nat × Nat)) : (pairsN l).length = l.length := by unfold pairsN; rw [List.length_map]
theorem pairsN_get (l : List (Nat × Nat)) (i : Nat) : (pairsN l)[i]? = (l[i]?).map natP := by unfold pairsN; rw [List.getElem?_map]
theorem pairsN_append (a b : List (Nat × Nat)) : pairsN (a ++ b) = pairsN a ++ pairsN b := by unfold pairsN; rw [List.map_append]
theorem pairsN_snoc (a : List (Nat × Nat)) (p : Nat × Nat) : pairsN a ++ [natP p] = pairsN (a ++ [p]) := (pairsN_append a [p]).symm
theorem bels_pairs (n : Nat) : ∀ l : List (Nat × Nat), D.bels n (pairsN l) = true
  | [] => by unfold pairsN; simp [D.bels]
  | m :: r => by
    have := bels_pairs n r
    unfold pairsN at this ⊢
    simp [D.bels, D.bel, natP, this]
def toI (p : Nat × Nat) : Int × Int := ((p.1 : Int), (p.2 : Int))
theorem pairsN_toI (l : List (Nat × Nat)) : pairsN l = (l.map toI).map tupP := by unfold pairsN; rw [List.map_map]; rfl
def leN (p q : Nat × Nat) : Bool := decide (p.1 < q.1 ∨ (p.1 = q.1 ∧ p.2 ≤ q.2))
def srtN (ps : List (Nat × Nat)) : List (Nat × Nat) := ps.mergeSort leN
theorem srtN_perm (ps : List (Nat × Nat)) : (srtN ps).Perm ps := List.mergeSort_perm ps _
theorem srtN_le (ps : List (Nat × Nat)) : (srtN ps).Pairwise fun p q => leN p q = true :=
  List.pairwise_mergeSort (le := leN) (fun a b c h1 h2 => by unfold leN at *; simp only [decide_eq_true_eq] at *; omega) (fun a b => by unfold leN; simp only [Bool.or_eq_true, decide_eq_true_eq]; omega) ps
theorem srtN_toI (ps : List (Nat × Nat)) : srtP (ps.map toI) = (srtN ps).map toI := by
  refine (srtP_only ((srtN_perm ps).map toI) (List.pairwise_map.mpr ((srtN_le ps).imp fun {p q} h => ?_))).symm
  unfold leN at h
  unfold leP toI
  rw [decide_eq_true_eq] at h ⊢
  omega
theorem intL_pairs {p : Nat × Nat} {r : List (Nat × Nat)} : intL cs (.lst (pairsN (p :: r))) = none := rfl
theorem prs_pairs (ps : List (Nat × Nat)) : (seqL cs (.lst (pairsN ps))).bind allPr = some (ps.map toI) := by
  show allPr (pairsN ps) = _
  rw [pairsN_toI]; exact allPr_map _
theorem srtN_fst (ps : List (Nat × Nat)) : (srtN ps).Pairwise fun p q => p.1 ≤ q.1 := (srtN_le ps).imp fun {p q} h => by
  unfold leN at h
  rw [decide_eq_true_eq] at h
  omega
/-- sorted(pairs), sorted(pairs, reverse=True) -/
theorem r_sortPN (ps : List (Nat × Nat)) : bSort false c [.lst (pairsN ps)] cs = mkL c (pairsN (srtN ps)) cs := by
  cases ps with
  | nil => rw [show bSort false c [.lst (pairsN [])] cs = mkL c ((srt []).map D.int) cs from rfl]; simp [srt, srtN, pairsN]
  | cons p r => rw [r_sortP intL_pairs (prs_pairs _), srtN_toI, pairsN_toI]; rfl
theorem r_sortPR (ps : List (Nat × Nat)) : bSort true c [.lst (pairsN ps)] cs = mkL c (pairsN (srtN ps).reverse) cs := by
  cases ps with
  | nil => rw [show bSort true c [.lst (pairsN [])] cs = mkL c ((srt []).reverse.map D.int) cs from rfl]; simp [srt, srtN, pairsN]
  | cons p r => rw [r_sortP intL_pairs (prs_pairs _), srtN_toI, pairsN_toI, if_pos rfl, List.map_reverse, List.map_reverse, List.map_reverse]
theorem srtN_rev (ps : List (Nat × Nat)) : ((srtN ps).reverse.map (·.1)).Pairwise (· ≥ ·) := by
  rw [List.map_reverse, List.pairwise_reverse]
  exact List.pairwise_map.mpr (srtN_fst ps)
/-- sorted(numbers, reverse=True) -/
theorem r_sortNR (ns : List Nat) : ∃ g : List Nat, (∀ cs c, bSort true c [.lst (natsD ns)] cs = mkL c (natsD g) cs) ∧ g.Perm ns ∧ g.Pairwise (· ≥ ·) := by
  obtain ⟨g, h1, h2, h3⟩ := r_sortN ns
  refine ⟨g.reverse, fun cs c => ?_, (List.reverse_perm g).trans h2, List.pairwise_reverse.mpr h3⟩
  have e : natsD g = (srt (ns.map fun (n : Nat) => (n : Int))).map D.int := by
    have a := h1 [] false
    rw [r_sort (intL_nats ns)] at a
    have : D.lst ((srt (ns.map fun (n : Nat) => (n : Int))).map D.int) = D.lst (natsD g) := by
      have b : (Res.ok (D.lst ((srt (ns.map fun (n : Nat) => (n : Int))).map D.int)) [] : Res D) = Res.ok (D.lst (natsD g)) [] := a
      injection b
    injection this with e
    exact e.symm
  rw [r_sortR (intL_nats ns), List.map_reverse, ← e]
  unfold natsD
  rw [List.map_reverse]
theorem r_eqNilC {k : Nat} {ns : List Nat} (h : cs[k]? = some (some (.lst (natsD ns)))) : pEq (.cel k) (.lst []) cs = .ok (.bl (decide (ns = []))) cs := by
  unfold pEq
  rw [eqD_lists (a := ns) (b := []) (deref_cel h) rfl rfl]
theorem last_of {α : Type} : ∀ {l : List α}, l ≠ [] → ∃ r a, l = r ++ [a]
  | [], h => absurd rfl h
  | x :: l, _ => by
    rcases List.eq_nil_or_concat (x :: l) with h | ⟨r, a, h⟩
    · cases h
    · exact ⟨r, a, by rw [h, List.concat_eq_append]⟩
theorem kit_non_bool : kitB "NoneType" "bool" = some false := by decide +kernel
theorem kit_non_tup : kitB "NoneType" "tuple" = some false := by decide +kernel
theorem kit_str_str : kitB "str" "str" = some true := by decide +kernel
theorem kit_int_tup : kitB "int" "tuple" = some false := by decide +kernel
theorem kit_int_str : kitB "int" "str" = some false := by decide +kernel
theorem kit_tup_str : kitB "tuple" "str" = some false := by decide +kernel
end LF

set_option Elab.async false
set_option maxRecDepth 100000
namespace LF
open PySem PySem.Spec L2
/-! ### dicts -/
def keyD : Key → D
  | .inl i => .int i
  | .inr s => .str s
def keyOf : D → Option Key
  | .int i => some (.inl i)
  | .str s => some (.inr s)
  | _ => none
def valD (ks : List (Key × D)) (k : Key) : Option D := (ks.find? fun kv => decide (kv.1 = k)).map (·.2)
def putD (ks : List (Key × D)) (k : Key) (d : D) : List (Key × D) :=
  if (ks.any fun kv => decide (kv.1 = k)) = true then ks.map (fun kv => if kv.1 = k then (kv.1, d) else kv) else ks ++ [(k, d)]
def dropD (ks : List (Key × D)) (k : Key) : List (Key × D) := ks.filter fun kv => decide (kv.1 ≠ k)
def dicL (cs : Cs) : D → Option (List (Key × D))
  | .dic ks => some ks
  | .cel i => match cs[i]? with
    | some (some (.dic ks)) => some ks
    | _ => none
  | _ => none
def celD (cs : Cs) : D → Option (Nat × List (Key × D))
  | .cel i => match cs[i]? with
    | some (some (.dic ks)) => some (i, ks)
    | _ => none
  | _ => none
section
variable {K : PySem.W.Frag} {mg : Str → Option Value} {W : Wd} {cs : Cs} {H : Hp} {v : V} {d : D}
theorem keyOf_rep {k : Key} (r : Rep K W v d) (h : keyOf d = some k) : v = kV k := by
  cases r with
  | int i => cases h; rfl
  | str s => cases h; rfl
  | _ => cases h
theorem rep_key (k : Key) : Rep K W (kV k) (keyD k) := by
  cases k with
  | inl i => exact .int i
  | inr s => exact .str s
theorem RepK.none : ∀ {vs : List (Key × V)} {ds : List (Key × D)} {k : Key}, RepK K W vs ds → valD ds k = none → valV vs k = none
  | _, _, _, .nil, _ => rfl
  | _, _, k, @RepK.cons _ _ j v d vs ds h t, e => by
    by_cases q : j = k
    · exfalso
      subst q
      unfold valD at e
      simp at e
    · have e2 : valD ds k = .none := by
        unfold valD at e ⊢
        simpa [q] using e
      rw [valV_neg (p := (j, v)) q]
      exact RepK.none t e2
theorem RepK.val : ∀ {vs : List (Key × V)} {ds : List (Key × D)} {k : Key} {d : D}, RepK K W vs ds → valD ds k = some d → ∃ v, valV vs k = some v ∧ Rep K W v d
  | _, _, _, _, .nil, e => by cases e
  | _, _, k, d, @RepK.cons _ _ j v d' vs ds h t, e => by
    by_cases q : j = k
    · subst q
      have : d' = d := by
        unfold valD at e
        simpa using e
      subst this
      exact ⟨v, valV_pos (p := (j, v)) rfl, h⟩
    · have e2 : valD ds k = some d := by
        unfold valD at e ⊢
        simpa [q] using e
      obtain ⟨u, h1, h2⟩ := RepK.val t e2
      exact ⟨u, by rw [valV_neg (p := (j, v)) q]; exact h1, h2⟩
theorem RepK.any (k : Key) : ∀ {vs : List (Key × V)} {ds : List (Key × D)}, RepK K W vs ds → (vs.any fun kv => decide (kv.1 = k)) = (ds.any fun kv => decide (kv.1 = k))
  | _, _, .nil => rfl
  | _, _, .cons h t => by rw [List.any_cons, List.any_cons, RepK.any k t]
theorem RepK.repl {v : V} {d : D} (r : Rep K W v d) (k : Key) : ∀ {vs : List (Key × V)} {ds : List (Key × D)}, RepK K W vs ds → RepK K W (vs.map fun kv => if kv.1 = k then (kv.1, v) else kv) (ds.map fun kv => if kv.1 = k then (kv.1, d) else kv)
  | _, _, .nil => .nil
  | _, _, @RepK.cons _ _ j u e vs ds h t => by
    (rw [List.map_cons, List.map_cons])
    by_cases q : j = k
    · rw [if_pos q, if_pos q]; exact .cons r (RepK.repl r k t)
    · rw [if_neg q, if_neg q]; exact .cons h (RepK.repl r k t)
theorem RepK.append : ∀ {vs us : List (Key × V)} {ds es : List (Key × D)}, RepK K W vs ds → RepK K W us es → RepK K W (vs ++ us) (ds ++ es)
  | _, _, _, _, .nil, s => s
  | _, _, _, _, .cons h t, s => .cons h (RepK.append t s)
theorem RepK.put {v : V} {d : D} {vs : List (Key × V)} {ds : List (Key × D)} (r : RepK K W vs ds) (k : Key) (h : Rep K W v d) : RepK K W (putK vs k v) (putD ds k d) := by
  unfold putK putD
  rw [r.any k]
  split
  · exact r.repl h k
  · exact r.append (.cons h .nil)
theorem RepK.drop (k : Key) : ∀ {vs : List (Key × V)} {ds : List (Key × D)}, RepK K W vs ds → RepK K W (dropK vs k) (dropD ds k)
  | _, _, .nil => .nil
  | _, _, @RepK.cons _ _ j u e vs ds h t => by
    have ih := RepK.drop k t
    unfold dropK dropD at ih ⊢
    by_cases q : j = k
    · simpa [q] using ih
    · simpa [q] using RepK.cons h ih
theorem putD_length (ks : List (Key × D)) (k : Key) (d : D) : (putD ks k d).length ≤ ks.length + 1 := by
  unfold putD
  split
  · rw [List.length_map]; omega
  · (rw [List.length_append, List.length_singleton]; omega)
theorem view_dicL (S : RS K mg W cs H) (r : Rep K W v d) {ks : List (Key × D)} (h : dicL cs d = some ks) : ∃ a kvs, v = .ref a ∧ Rd H a (.dK kvs) ∧ kvs.length ≤ sizeLine ∧ RepK K W kvs ks := by
  cases r with
  | @dic a kvs es h1 hl r => cases h; exact ⟨a, kvs, rfl, S.fzd h1, hl, r⟩
  | @cel a i h1 =>
    have h : (match cs[i]? with | some (some (.dic ks)) => some ks | _ => .none) = some ks := h
    split at h
    · rename_i es e
      cases h
      obtain ⟨a', o, p1, p2, p3, p4⟩ := S.cell i _ e
      rw [h1] at p1; cases p1
      cases p4 with
      | @dic vs _ hl r => exact ⟨a, vs, rfl, .inl p2, hl, r⟩
    · cases h
  | _ => cases h
theorem view_celD (S : RS K mg W cs H) (r : Rep K W v d) {i : Nat} {ks : List (Key × D)} (h : celD cs d = some (i, ks)) : ∃ a kvs, d = .cel i ∧ v = .ref a ∧ W.ad[i]? = some a ∧ cs[i]? = some (some (.dic ks)) ∧ H a = some (.dK kvs) ∧ kvs.length ≤ sizeLine ∧ RepK K W kvs ks := by
  cases r with
  | @cel a j h1 =>
    have h : (match cs[j]? with | some (some (.dic ks)) => some (j, ks) | _ => .none) = some (i, ks) := h
    split at h
    · rename_i es e
      cases h
      obtain ⟨a', o, p1, p2, p3, p4⟩ := S.cell i _ e
      rw [h1] at p1; cases p1
      cases p4 with
      | @dic vs _ hl r => exact ⟨a, vs, rfl, rfl, h1, e, p2, hl, r⟩
    · cases h
  | _ => cases h
theorem dget_of (S : RS K mg W cs H) {u : V} {e : D} {k : Key} {ks : List (Key × D)} (r : Rep K W v d) (h : dicL cs d = some ks) (ru : Rep K W u e) (hk : keyOf e = some k) : ∃ a o, v = .ref a ∧ DGet H a u o ∧ (valD ks k = none → o = none) ∧ ∀ x, valD ks k = some x → ∃ y, o = some y ∧ Rep K W y x := by
  obtain ⟨a, kvs, rfl, hr, hl, s⟩ := view_dicL S r h
  obtain rfl := keyOf_rep ru hk
  exact ⟨a, valV kvs k, rfl, .inl ⟨kvs, k, hr, rfl, rfl⟩, fun e => s.none e, fun x e => s.val e⟩
end
/-- d[k] -/
def pGetD : P2 := fun x y cs => match dicL cs x, keyOf y with
  | some ks, some k => match valD ks k with
    | some v => .ok v cs
    | none => .bad
  | _, _ => .bad
/-- k in d, k in xs -/
def pInA (neg : Bool) : P2 := fun x y cs => match dicL cs y, keyOf x with
  | some ks, some k => .ok (.bl (if neg then !(valD ks k).isSome else (valD ks k).isSome)) cs
  | _, _ => pIn neg x y cs
def mGet2 (x : D) (ys : List D) (cs : Cs) : Res D := match ys with
  | [y, z] => match dicL cs x, keyOf y with
    | some ks, some k => .ok ((valD ks k).getD z) cs
    | _, _ => .bad
  | _ => .bad
def pSetD (o i v : D) (cs : Cs) : Res Unit := match celD cs o, keyOf i with
  | some (n, ks), some k => if ks.length < sizeLine then .ok () (cs.set n (some (.dic (putD ks k v)))) else .bad
  | _, _ => .bad
def mkD (c : Bool) (ks : List (Key × D)) (cs : Cs) : Res D := if c then .ok (.cel cs.length) (cs ++ [some (.dic ks)]) else .ok (.dic ks) cs
theorem fin_mkD {K : PySem.W.Frag} {mg : Str → Option Value} {Z : WX} {W : Wd} {cs : Cs} {σ : L2.St} {H : Hp} {c : Bool} {ds : List (Key × D)} {vs : List (Key × V)} {Q : VK} (h : Fin K mg (Rep K) Z W σ H (mkD c ds cs) Q) (S : RS K mg W cs H) (r : RepK K W vs ds) (hl : vs.length ≤ sizeLine) (p : Addr) (hp : H p = none) :
    Q (.ref p) (upd H p (.dK vs)) := by
  unfold mkD at h
  split at h
  · refine h (W.alloc p) (.ref p) _ (Step.alloc hp) (S.alloc hp (.dic hl (r.mono Le.alloc))) (.cel ?_)
    show (W.ad ++ [p])[cs.length]? = some p
    rw [← S.len, List.getElem?_append_right (Nat.le_refl _), Nat.sub_self]; rfl
  · exact h (W.froze p (.dK vs)) (.ref p) _ (Step.froze S hp) (S.froze hp) (.dic upd_same hl (r.mono (Le.froze (S.dom hp))))
end LF

set_option Elab.async false
set_option maxRecDepth 100000
namespace LF
open PySem PySem.Spec L2
section
variable {X : Cx} {Z : WX} {pos : Pos} {a b c : Expr} {f g h : SE}
/-! ### rules for dicts -/
theorem fe_getD (hu : X.A.units + 1 < cLine) (ha : FE X Z a f) (hb : FE X Z b g) (hs : NoSl b := by first | exact fun _ _ => rfl | (intro _ _; rfl)) : FE X Z (.Subscript a b pos) (e2 pGetD f g) :=
  PEimp (pe_dget hu ha hb hs) fun σ H Q ⟨W, sl, cs, S, L, q⟩ => by
    refine up_bind (R1 := Rep X.K) S L q fun W1 d cs1 x H1 st1 S1 L1 r1 q1 => ?_
    refine up_bind (R1 := Rep X.K) S1 L1 q1 fun W2 e cs2 y H2 st2 S2 L2 r2 q2 => ?_
    unfold pGetD at q2
    split at q2
    · rename_i ks k h1 h2
      split at q2
      · rename_i v hv
        obtain ⟨p, o, rfl, hg, _, hs⟩ := dget_of S2 (r1.mono st2.le) h1 r2 h2
        obtain ⟨y', rfl, ry⟩ := hs v hv
        exact ⟨p, y', rfl, hg, q2.ret S2 ry⟩
      · exact q2.elim
    · exact q2.elim
theorem op_inD (hu : X.A.units + 1 < cLine) : OpR X (compareOp .In) (fun x y H Q => ∃ a o, y = .ref a ∧ DGet H a x o ∧ Q (.bl o.isSome) H) := by
  intro pins s σ H x y v u Q I rx ry hh
  obtain ⟨a, o, rfl, hg, q⟩ := hh
  cases ry
  exact d_in hu I hg rx fun s' I' => ⟨.bl _, H, I', rfl, q⟩
theorem op_notInD (hu : X.A.units + 1 < cLine) : OpR X (compareOp .NotIn) (fun x y H Q => ∃ a o, y = .ref a ∧ DGet H a x o ∧ Q (.bl (!o.isSome)) H) := by
  intro pins s σ H x y v u Q I rx ry hh
  obtain ⟨a, o, rfl, hg, q⟩ := hh
  cases ry
  exact d_notIn hu I hg rx fun s' I' => ⟨.bl _, H, I', rfl, q⟩
theorem ok_inA {K : PySem.W.Frag} {mg : Str → Option Value} : Ok2 K mg (fun x y H Q => (∃ a o, y = .ref a ∧ DGet H a x o ∧ Q (.bl o.isSome) H) ∨ rIn K false x y H Q) (pInA false) := by
  intro Z W cs H σ x y d e Q S r1 r2 q
  unfold pInA at q
  split at q
  · rename_i ks k h1 h2
    obtain ⟨p, o, rfl, hg, hn, hs⟩ := dget_of S r2 h1 r1 h2
    refine .inl ⟨p, o, rfl, hg, ?_⟩
    have e : o.isSome = (valD ks k).isSome := by
      cases hv : valD ks k with
      | none => rw [hn hv]; rfl
      | some v => obtain ⟨y, rfl, _⟩ := hs v hv; rfl
    rw [e]
    exact q.ret S (.bl _)
  · exact .inr (ok_in Z W cs H σ x y d e Q S r1 r2 q)
theorem ok_notinA {K : PySem.W.Frag} {mg : Str → Option Value} : Ok2 K mg (fun x y H Q => (∃ a o, y = .ref a ∧ DGet H a x o ∧ Q (.bl (!o.isSome)) H) ∨ rIn K true x y H Q) (pInA true) := by
  intro Z W cs H σ x y d e Q S r1 r2 q
  unfold pInA at q
  split at q
  · rename_i ks k h1 h2
    obtain ⟨p, o, rfl, hg, hn, hs⟩ := dget_of S r2 h1 r1 h2
    refine .inl ⟨p, o, rfl, hg, ?_⟩
    have e : o.isSome = (valD ks k).isSome := by
      cases hv : valD ks k with
      | none => rw [hn hv]; rfl
      | some v => obtain ⟨y, rfl, _⟩ := hs v hv; rfl
    rw [e]
    exact q.ret S (.bl _)
  · exact .inr (ok_in Z W cs H σ x y d e Q S r1 r2 q)
theorem fe_inA (hu : X.A.units + 1 < cLine) (ha : FE X Z a f) (hb : FE X Z b h) (hm : behindInMarks .In b = false := by rfl) : FE X Z (.Compare a [.In] [b] pos) (e2 (pInA false) f h) := fe_cmp ((op_inD hu).or op_in_seq) ok_inA ha hb (hm := hm)
theorem ft_inA (hu : X.A.units + 1 < cLine) (ha : FE X Z a f) (hb : FE X Z b h) (hm : behindInMarks .In b = false := by rfl) : FT X Z (.Compare a [.In] [b] pos) (tV (e2 (pInA false) f h)) := ft_cmp ((op_inD hu).or op_in_seq) ok_inA ha hb (hm := hm)
theorem fe_notinA (hu : X.A.units + 1 < cLine) (ha : FE X Z a f) (hb : FE X Z b h) (hm : behindInMarks .NotIn b = false := by rfl) : FE X Z (.Compare a [.NotIn] [b] pos) (e2 (pInA true) f h) := fe_cmp ((op_notInD hu).or op_notIn_seq) ok_notinA ha hb (hm := hm)
theorem ft_notinA (hu : X.A.units + 1 < cLine) (ha : FE X Z a f) (hb : FE X Z b h) (hm : behindInMarks .NotIn b = false := by rfl) : FT X Z (.Compare a [.NotIn] [b] pos) (tV (e2 (pInA true) f h)) := ft_cmp ((op_notInD hu).or op_notIn_seq) ok_notinA ha hb (hm := hm)
/-- d.get(k, x) -/
def eGet2 (f g h : SE) : SE := fun sl cs => (f sl cs).bind fun x cs1 => if (dicL cs1 x).isSome = true then (g sl cs1).bind fun y cs2 => (h sl cs2).bind fun z cs3 => mGet2 x [y, z] cs3 else .bad
def eD0 (m : Bool) : SE := fun _ cs => mkD m [] cs
def eD1 (m : Bool) (i j : Int) : SE := fun _ cs => mkD m [(.inl i, .int j)] cs
theorem fe_get2 {apos : Pos} (hu : X.A.units + 1 < cLine) (ha : FE X Z a f) (hb : FE X Z b g) (hc : FE X Z c h) (hbase : attributeBase a "get" X.env (eval a X.env) = eval a X.env := by rfl)
    (hfew : ((backTo pos (starEach [b, c] X.env)).all (fun x => !x.1) && (backToKw pos (keywordEach [] X.env)).all (fun x => x.1.isSome)
      && decide (([b, c] : List Expr).length + ([] : List Keyword).length + (if ([] : List Keyword).isEmpty then 0 else 1) < 30)) = true := by rfl)
    (hline : (apos.endLine == pos.line) = true := by rfl) (ht : backTo pos (starEach [b, c] X.env) = [(false, eval b X.env), (false, eval c X.env)] := by rfl) :
    FE X Z (.Call (.Attribute a "get" apos) [b, c] [] pos) (eGet2 f g h) :=
  PEimp (pe_dget2 hu ha hb hc ⟨hbase, hfew, hline, ht⟩) fun σ H Q ⟨W, sl, cs, S, L, q⟩ => by
    refine up_bind (R1 := Rep X.K) S L q fun W1 d cs1 x H1 st1 S1 L1 r1 q1 => ?_
    split at q1
    · rename_i hi
      obtain ⟨ks, hk⟩ := Option.isSome_iff_exists.mp hi
      obtain ⟨p, kvs, rfl, hr, _, _⟩ := view_dicL S1 r1 hk
      refine ⟨p, rfl, .inl ⟨kvs, hr⟩, ?_⟩
      refine up_bind (R1 := Rep X.K) S1 L1 q1 fun W2 e cs2 y H2 st2 S2 L2 r2 q2 => ?_
      refine up_bind (R1 := Rep X.K) S2 L2 q2 fun W3 z cs3 vz H3 st3 S3 L3 r3 q3 => ?_
      unfold mGet2 at q3
      dsimp only at q3
      split at q3
      · rename_i ks2 k h1 h2
        obtain ⟨p2, o, e2, hg, hn, hs⟩ := dget_of S3 ((r1.mono st2.le).mono st3.le) h1 (r2.mono st3.le) h2
        cases e2
        refine ⟨o, hg, ?_⟩
        cases hv : valD ks2 k with
        | none => rw [hn hv]; rw [hv] at q3; exact q3.ret S3 r3
        | some v =>
          obtain ⟨y', rfl, ry⟩ := hs v hv
          rw [hv] at q3
          exact q3.ret S3 ry
      · exact q3.elim
    · exact q1.elim
/-- d[k] = v -/
theorem fs_setD {e o i : Expr} {fo fi f : SE} {spos : Pos} (hu : X.A.units + 1 < cLine) (he : FE X Z e f) (ho : FE X Z o fo) (hi : FE X Z i fi) (hs : swapsWith e (some (.Subscript o i pos)) spos.line X.env = pure false := by rfl) : FS X Z (.Assign [.Subscript o i pos] e spos) (sSub pSetD fo fi f) :=
  PSimp (ps_dput hu ho hi he hs) fun D' σ H ⟨W, sl, cs, S, L, q⟩ =>
    up_at (R1 := Rep X.K) S L q fun W1 v cs1 x H1 st1 S1 L1 r1 q1 => by
      refine up_at (R1 := Rep X.K) S1 L1 q1 fun W2 o cs2 y H2 st2 S2 L2 r2 q2 => ?_
      refine up_at (R1 := Rep X.K) S2 L2 q2 fun W3 i cs3 z H3 st3 S3 L3 r3 q3 => ?_
      unfold pSetD at q3
      split at q3
      · rename_i n ks k hc hk
        split at q3
        · rename_i hz
          obtain ⟨a, kvs, rfl, rfl, h1, h2, h3, h4, h5⟩ := view_celD S3 (r2.mono st3.le) hc
          obtain rfl := keyOf_rep r3 hk
          have hl := h5.length
          have rep := h5.put k ((r1.mono st2.le).mono st3.le)
          refine ⟨a, _, rfl, .inl ⟨kvs, k, h3, rfl, by rw [hl]; exact hz, rfl⟩, ?_⟩
          have rl := rep.length
          have := putD_length ks k v
          exact q3 W3 σ _ (Step.put h1 (S3.live h2 h1)) (S3.put h2 h1 (.dic (by rw [rl]; omega) rep)) L3
        · exact q3.elim
      · exact q3.elim
/-- {} -/
theorem fe_dic0 (m : Bool) : FE X Z (.Dict [] [] pos) (eD0 m) := PEimp pe_dnewK fun σ H Q ⟨W, sl, cs, S, L, q⟩ => fun p hp =>
  fin_mkD (vs := []) q S .nil (Nat.zero_le _) p hp
/-- {i: j} of written numbers -/
theorem fe_dic1 (m : Bool) {i j : Int} {k1 k2 : Nat} {p1 p2 : Pos} : FE X Z (.Dict [some (.Constant (.int i) k1 p1)] [.Constant (.int j) k2 p2] pos) (eD1 m i j) :=
  PEimp (pe_disp (pps_cons pe_int pe_int pps_nil) rfl rfl (by simp) (Nat.le_of_ble_eq_true rfl)) fun σ H Q ⟨W, sl, cs, S, L, q⟩ => fun p hp => by
    refine ⟨upd_same, [(.inl i, .int j)], rfl, by simp, ?_⟩
    have e : upd (upd H p (.dK [])) p (.dK (mergeK [] [(.inl i, V.int j)])) = upd H p (.dK [(.inl i, .int j)]) := by
      funext b
      by_cases hb : b = p
      · subst hb; rw [upd_same, upd_same]; rfl
      · rw [upd_ne hb, upd_ne hb, upd_ne hb]
    rw [e]
    exact fin_mkD (vs := [(.inl i, .int j)]) q S (.cons (.int j) .nil) (by rw [sizeLine_eq]; simp) p hp
end
/-! ### for k in d: the dict is locked meanwhile -/
theorem ps_lock_or {X : Cx} {st : Stmt} {t : TS} (h : PS X st t) : PS X st (fun D σ H => tLock t D σ H ∨ t D σ H) := ⟨fun pins s σ H D I hw => hw.elim (fun h' => (ps_lock h).run pins s σ H D I h') fun h' => h.run pins s σ H D I h'⟩
def noEx (r : Res (Ctl × Sl)) : Res (Ctl × Sl) := match r with
  | .ok (.ex _, _) _ => .bad
  | r => r
section
variable {K : PySem.W.Frag} {mg : Str → Option Value}
theorem RS.lock {W : Wd} {cs : Cs} {H : Hp} (S : RS K mg W cs H) {d : Addr} {kvs : List (Key × V)} (h1 : W.fz d = some (.dK kvs)) (h0 : H d = some (.dK kvs)) (od : Obj) : RS K mg W cs (upd H d (.frz od (.dK kvs))) where
  fz := fun a u e => by
    by_cases hb : a = d
    · subst hb; rw [h1] at e; cases e; exact .inr ⟨od, upd_same⟩
    · have q := S.fz a u e
      cases u
      case dK ks => rcases q with q | ⟨o, q⟩
                    · exact .inl ((upd_ne hb).trans q)
                    · exact .inr ⟨o, (upd_ne hb).trans q⟩
      all_goals exact (upd_ne hb).trans q
  len := S.len
  cell := fun i c e => by
    obtain ⟨b, o, k1, k2, k3, k4⟩ := S.cell i c e
    have hb : b ≠ d := fun z => by rw [z, h1] at k3; cases k3
    exact ⟨b, o, k1, (upd_ne hb).trans k2, k3, k4⟩
  apart := S.apart
  there := fun i b e => by
    by_cases hb : b = d
    · subst hb; rw [upd_same]; simp
    · rw [upd_ne hb]; exact S.there i b e
theorem RS.unlock {W : Wd} {cs : Cs} {H : Hp} {d : Addr} {kvs : List (Key × V)} (S : RS K mg W cs H) (h1 : W.fz d = some (.dK kvs)) : RS K mg W cs (upd H d (.dK kvs)) where
  fz := fun a u e => by
    by_cases hb : a = d
    · subst hb; rw [h1] at e; cases e; exact .inl upd_same
    · have q := S.fz a u e
      cases u
      case dK ks => rcases q with q | ⟨o, q⟩
                    · exact .inl ((upd_ne hb).trans q)
                    · exact .inr ⟨o, (upd_ne hb).trans q⟩
      all_goals exact (upd_ne hb).trans q
  len := S.len
  cell := fun i c e => by
    obtain ⟨b, o, k1, k2, k3, k4⟩ := S.cell i c e
    have hb : b ≠ d := fun z => by rw [z, h1] at k3; cases k3
    exact ⟨b, o, k1, (upd_ne hb).trans k2, k3, k4⟩
  apart := S.apart
  there := fun i b e => by
    by_cases hb : b = d
    · subst hb; rw [upd_same]; simp
    · rw [upd_ne hb]; exact S.there i b e
/-- a step while the dict is locked is one -/
theorem Step.unlock {W W' : Wd} {H H' : Hp} {d : Addr} {kvs : List (Key × V)} {od : Obj} (h0 : H d = some (.dK kvs)) (hz : W.fz d = some (.dK kvs)) (s : Step W (upd H d (.frz od (.dK kvs))) W' H') : Step W H W' (upd H' d (.dK kvs)) := ⟨s.le, fun b o e n => by
  by_cases hb : b = d
  · subst hb
    obtain ⟨k1, k2, k3⟩ := s.fr b _ upd_same n
    rw [h0] at e; cases e
    exact ⟨upd_same, k2, k3⟩
  · obtain ⟨k1, k2, k3⟩ := s.fr b o ((upd_ne hb).trans e) n
    exact ⟨(upd_ne hb).trans k1, k2, k3⟩, fun b o u e z => by
  by_cases hb : b = d
  · subst hb; rw [h0] at e; cases e; exact upd_same
  · exact (upd_ne hb).trans (s.fx b o u ((upd_ne hb).trans e) z)⟩
end
def locked (D : Ends) (d : Addr) (od : Obj) (u : HO) : Ends := ⟨fun σ' H' => H' d = some (.frz od u) ∧ D.nx σ' (upd H' d u), fun v H' => H' d = some (.frz od u) ∧ D.rt v (upd H' d u), fun σ' H' => H' d = some (.frz od u) ∧ D.bk σ' (upd H' d u), fun σ' H' => H' d = some (.frz od u) ∧ D.ct σ' (upd H' d u)⟩
section
variable {K : PySem.W.Frag} {mg : Str → Option Value} {Z : WX}
theorem FinS.lock {W : Wd} {H : Hp} {r : Res (Ctl × Sl)} {D : Ends} {d : Addr} {kvs : List (Key × V)} {od : Obj} (h0 : H d = some (.dK kvs)) (h1 : W.fz d = some (.dK kvs)) (h : FinS K mg Z W H (noEx r) D) : FinS K mg Z W (upd H d (.frz od (.dK kvs))) r (locked D d od (.dK kvs)) := by
  cases r with
  | exc x cs => exact h
  | bad => exact h
  | ok p cs =>
    obtain ⟨c, sl⟩ := p
    intro W' σ' H' s S' L'
    have hl : H' d = some (.frz od (.dK kvs)) := s.fx d _ _ upd_same h1
    have hz : W'.fz d = some (.dK kvs) := s.le.fz _ _ h1
    have go := fun (h : ∀ W' σ' H', Step W H W' H' → RS K mg W' cs H' → RSl K W' sl σ' → FinC K mg Z D W' σ' H' c) => h W' σ' _ (Step.unlock h0 h1 s) (S'.unlock hz) L'
    cases c with
    | nx => exact ⟨hl, go h⟩
    | bk => exact ⟨hl, go h⟩
    | ct => exact ⟨hl, go h⟩
    | rt e => exact fun v r => ⟨hl, go h v r⟩
    | ex x => exact h.elim
theorem FinS.noEx {W : Wd} {H : Hp} {r : Res (Ctl × Sl)} {D : Ends} (h : FinS K mg Z W H (noEx r) D) : FinS K mg Z W H r D := by
  cases r with
  | exc x cs => exact h
  | bad => exact h
  | ok p cs =>
    obtain ⟨c, sl⟩ := p
    cases c with
    | ex x => exact h.elim
    | _ => exact h
theorem RepK.keys {W : Wd} : ∀ {vs : List (Key × V)} {ds : List (Key × D)}, RepK K W vs ds → ds.map (·.1) = vs.map (·.1)
  | _, _, .nil => rfl
  | _, _, .cons h t => by rw [List.map_cons, List.map_cons, RepK.keys t]
theorem itRep_keys {W : Wd} {H : Hp} {d : Addr} {o : Obj} {kvs : List (Key × V)} {ks : List (Key × D)} (hl : kvs.length ≤ sizeLine) (r : RepK K W kvs ks) (h : H d = some (.frz o (.dK kvs))) (hz : W.fz d = some (.dK kvs)) : ItRep K mg W H (Itk d o kvs) ⟨ks.map fun kv => keyD kv.1, fun _ => True⟩ where
  len := by
    show (ks.map fun kv => keyD kv.1).length ≤ sizeLine
    rw [List.length_map, ← r.length]; exact hl
  go := fun W1 cs1 H1 i s S _ hi => by
    have hi : i < ks.length := by
      have hi : i < (ks.map fun kv => keyD kv.1).length := hi
      rwa [List.length_map] at hi
    refine ⟨⟨s.fx d _ _ h hz, by rw [r.length]; exact hi⟩, fun x H2 y => ?_⟩
    obtain ⟨rfl, k, v, e, rfl⟩ := y
    refine ⟨W1, keyD k, ?_, Step.refl _ _, S, rep_key k⟩
    show (ks.map fun kv => keyD kv.1)[i]? = some (keyD k)
    rw [List.getElem?_map]
    have ek := congrArg (fun l => l[i]?) (RepK.keys r)
    simp only [List.getElem?_map, e, Option.map_some] at ek
    obtain ⟨q, h1, h2⟩ := Option.map_eq_some_iff.mp ek
    rw [h1, Option.map_some, h2]
  stop := fun W1 cs1 H1 s S _ => by
    refine ⟨s.fx d _ _ h hz, ?_⟩
    show kvs.length ≤ (ks.map fun kv => keyD kv.1).length
    rw [List.length_map, r.length]; exact Nat.le_refl _
end
section
variable {X : Cx} {Z : WX} {pos : Pos} {e : Expr} {u : SS} {body : List Stmt}
/-- the loop itself, from where what is walked is known -/
theorem for_go {ts : List Nat} {g : SG} {its : Its} {J : It} {W1 : Wd} {H1 : Hp} {sl : Sl} {cs1 : Cs} {σ : L2.St} {D' : Ends} (IR : ItRep X.K X.mg W1 H1 J its) (S1 : RS X.K X.mg W1 cs1 H1) (L1 : RSl X.K W1 sl σ) (q1 : FinS X.K X.mg Z W1 H1 (forL its.ok g u its.ds sl cs1) D') :
    ∃ W : Nat → Nat → L2.St → Hp → Prop, (∃ m, W 0 m σ H1) ∧ ∀ i m σ H, W i m σ H →
      (J.stop i H ∧ D'.nx σ H) ∨ (J.go i H ∧ ∃ N : L2.St → Hp → Prop, (∀ σ' H', N σ' H' → ∃ m', m' < m ∧ W (i + 1) m' σ' H') ∧ ∀ x H', J.yld i H x H' → upG X.K X.mg ts g x σ H' fun σ2 H2 => upS X.K X.mg Z u { D' with nx := N, ct := N, bk := D'.nx } σ2 H2) := by
  refine ⟨fun i m σ H => m = its.ds.length - i ∧ i ≤ its.ds.length ∧ ∃ W sl cs, Step W1 H1 W H ∧ RS X.K X.mg W cs H ∧ RSl X.K W sl σ ∧ FinS X.K X.mg Z W H (forL its.ok g u (its.ds.drop i) sl cs) D',
    ⟨its.ds.length, rfl, Nat.zero_le _, W1, sl, cs1, Step.refl _ _, S1, L1, q1⟩, ?_⟩
  rintro i m σ H ⟨rfl, hle, W2, sl2, cs2, s2, S2, L2, q2⟩
  by_cases hi : i < its.ds.length
  · rw [List.drop_eq_getElem_cons hi] at q2
    unfold forL at q2
    by_cases hok : its.ok cs2
    · rw [if_pos hok] at q2
      obtain ⟨g1, g2⟩ := IR.go W2 cs2 H i s2 S2 hok hi
      refine .inr ⟨g1, fun σ' H' => ∃ W sl cs, Step W1 H1 W H' ∧ RS X.K X.mg W cs H' ∧ RSl X.K W sl σ' ∧ FinS X.K X.mg Z W H' (forL its.ok g u (its.ds.drop (i + 1)) sl cs) D', fun σ' H' h => ⟨its.ds.length - (i + 1), by omega, rfl, hi, h⟩, fun x H' hy => ?_⟩
      obtain ⟨W3, d, e3, s3, S3, r3⟩ := g2 x H' hy
      rw [List.getElem?_eq_getElem hi] at e3
      cases e3
      refine ⟨W3, sl2, cs2, its.ds[i], S3, L2.mono s3.le, r3, ?_⟩
      cases e4 : g its.ds[i] sl2 with
      | none => rw [e4] at q2; exact q2
      | some sl3 =>
        rw [e4] at q2
        intro σ' L3 _
        exact ⟨W3, sl3, cs2, S3, L3, turn_of (FinS.step s3 q2) fun W' sl cs σ' H' s R' L' q' => ⟨W', sl, cs, (s2.trans s3).trans s, R', L', q'⟩⟩
    · rw [if_neg hok] at q2; exact q2.elim
  · have hi' : i = its.ds.length := by omega
    subst hi'
    rw [List.drop_length] at q2
    unfold forL at q2
    by_cases hok : its.ok cs2
    · rw [if_pos hok] at q2
      exact .inl ⟨IR.stop W2 cs2 H s2 S2 hok, q2.done S2 L2⟩
    · rw [if_neg hok] at q2; exact q2.elim
/-- for k in d, d a name whose dict never changes -/
noncomputable def sForK (i : Nat) (g : SG) (u : SS) : SS := fun sl cs => match sl[i]? with
  | some (some (.dic ks)) => noEx (forL (fun _ => True) g u (ks.map fun kv => keyD kv.1) sl cs)
  | _ => .bad
theorem fs_forK {tg : Expr} {x : Str} {p : Pos} {ts : List Nat} {g : SG} (i : Nat) (hp : PassesOwn (model X.prog X.w) X.A X.env X.xe) (hg : FG X tg ts g) (hb : FSs X Z body u) (hN : X.N[i]? = some x := by rfl) (hv : Vis X.env.scope x := by first | exact Or.inl rfl | exact Or.inr (Or.inl rfl) | exact Or.inr (Or.inr rfl)) (hd : (x == ("__debug__" : Str)) = false := by decide)
    (hcd : (x == ("__classdict__" : Str)) = false := by decide) (hc : X.calm = true := by rfl) (hs : ∀ v, foldedSetIterable (.Name x p) X.env v = pure v := by intro _; rfl) : FS X Z (.For tg (.Name x p) body [] pos) (sForK i g u) :=
  PSimp (ps_lock_or (ps_for hp hc (pi_keys (pe_var hN hv hd hcd)) hg hb hs)) fun D' σ H ⟨W, sl, cs, S, L, q⟩ => by
    unfold sForK at q
    split at q
    · rename_i ks hk
      obtain ⟨v, h1, r⟩ := L.2 i _ hk
      cases r with
      | @dic a kvs _ hz hl r =>
        have core : ∀ {H : Hp} {o : Obj} {D : Ends}, RS X.K X.mg W cs H → H a = some (.frz o (.dK kvs)) → FinS X.K X.mg Z W H (forL (fun _ => True) g u (ks.map fun kv => keyD kv.1) sl cs) D → tFor (iKeys (tVar i)) (upG X.K X.mg ts g) (upS X.K X.mg Z u) D σ H := fun {H o D} S h q =>
          ⟨_, h1, a, o, rfl, .inl ⟨kvs, h, for_go (itRep_keys hl r h hz) S L q⟩⟩
        rcases S.fzd hz with h0 | ⟨o, h0⟩
        · exact .inl ⟨a, .dK kvs, h0, trivial, fun od => core (S.lock hz h0 od) upd_same (FinS.lock h0 hz q)⟩
        · exact .inr (core S h0 q.noEx)
    · exact q.elim
end
/-! ### running them -/
section
variable {sl : Sl} {cs : Cs} {Q : D → Cs → Prop} {Qs : Ctl × Sl → Cs → Prop} {f g h : SE} {m : Bool} {ks : List (Key × D)} {i j : Int} {k : Key} {x y z : D}
theorem s_eGet2 : Sat (eGet2 f g h sl cs) Q = Sat (f sl cs) fun x cs1 => (dicL cs1 x).isSome = true ∧ Sat (g sl cs1) fun y cs2 => Sat (h sl cs2) fun z cs3 => Sat (mGet2 x [y, z] cs3) Q := by
  unfold eGet2; rw [sat_bind]; congr 1; funext x cs1; rw [s_iteb, sat_bind]; congr 2; funext y cs2; exact sat_bind _ _ _
theorem s_eD0 : Sat (eD0 m sl cs) Q = Sat (mkD m [] cs) Q := rfl
theorem s_eD1 : Sat (eD1 m i j sl cs) Q = Sat (mkD m [(.inl i, .int j)] cs) Q := rfl
theorem r_mkDF : mkD false ks cs = .ok (.dic ks) cs := rfl
theorem r_mkDC : mkD true ks cs = .ok (.cel cs.length) (cs ++ [some (.dic ks)]) := rfl
theorem dicL_dic : dicL cs (.dic ks) = some ks := rfl
theorem dicL_cel {n : Nat} (e : cs[n]? = some (some (.dic ks))) : dicL cs (.cel n) = some ks := by
  show (match cs[n]? with | some (some (.dic ks)) => some ks | _ => none) = _; rw [e]
theorem celD_cel {n : Nat} (e : cs[n]? = some (some (.dic ks))) : celD cs (.cel n) = some (n, ks) := by
  show (match cs[n]? with | some (some (.dic ks)) => some (n, ks) | _ => none) = _; rw [e]
theorem r_getD (e : dicL cs x = some ks) (e2 : valD ks (.inl i) = some y) : pGetD x (.int i) cs = .ok y cs := by
  unfold pGetD; rw [e]; show (match valD ks (.inl i) with | some v => Res.ok v cs | none => .bad) = _; rw [e2]
theorem r_get2 (e : dicL cs x = some ks) : mGet2 x [.int i, z] cs = .ok ((valD ks (.inl i)).getD z) cs := by
  unfold mGet2; dsimp only; rw [e]; rfl
theorem r_setD {n : Nat} (e : cs[n]? = some (some (.dic ks))) (hl : ks.length < sizeLine) : pSetD (.cel n) (.int i) y cs = .ok () (cs.set n (some (.dic (putD ks (.inl i) y)))) := by
  unfold pSetD; rw [celD_cel e]; show (if ks.length < sizeLine then Res.ok () _ else .bad) = _; rw [if_pos hl]
theorem r_inA {neg : Bool} (e : dicL cs x = some ks) : pInA neg (.int i) x cs = .ok (.bl (if neg then !(valD ks (.inl i)).isSome else (valD ks (.inl i)).isSome)) cs := by
  unfold pInA; rw [e]; rfl
theorem r_frzD {n : Nat} (e : cs[n]? = some (some (.dic ks))) : frzD cs (.cel n) = .ok (.dic ks) (cs.set n none) := by
  unfold frzD; dsimp only; rw [e]
def noX (p : Ctl × Sl) : Prop := match p with
  | (.ex _, _) => False
  | _ => True
theorem w_sForK {n : Nat} {tg : SG} {u : SS} (e : sl[n]? = some (some (.dic ks))) (w : Sat (forL (fun _ => True) tg u (ks.map fun kv => keyD kv.1) sl cs) fun p cs1 => noX p ∧ Qs p cs1) : Sat (sForK n tg u sl cs) Qs := by
  unfold sForK; rw [e]; dsimp only
  generalize forL (fun _ => True) tg u (ks.map fun kv => keyD kv.1) sl cs = r at w
  cases r with
  | bad => rw [sat_bad] at w; exact w.elim
  | exc x cs1 => rw [sat_exc] at w; exact w.elim
  | ok p cs1 =>
    obtain ⟨c, sl1⟩ := p
    rw [sat_ok] at w
    cases c with
    | ex x => exact w.1.elim
    | _ => exact satI w.2
end
end LF

set_option Elab.async false
namespace GF
/-! ### how many choices sum to a number -/
def wy : List Nat → Nat → Nat
  | [], t => if t = 0 then 1 else 0
  | n :: l, t => wy l t + wy l (t ^^^ n)
theorem wy_snoc (n : Nat) : ∀ (l : List Nat) (t : Nat), wy (l ++ [n]) t = wy l t + wy l (t ^^^ n)
  | [], t => rfl
  | a :: l, t => by
    rw [List.cons_append, wy, wy, wy, wy_snoc n l t, wy_snoc n l (t ^^^ a)]
    have e : t ^^^ n ^^^ a = t ^^^ a ^^^ n := by rw [Nat.xor_assoc, Nat.xor_comm n a, ← Nat.xor_assoc]
    rw [e]
    omega
theorem sp_snoc {l : List Nat} {a t : Nat} : Sp (l ++ [a]) t ↔ Sp l t ∨ Sp l (t ^^^ a) := by
  rw [sp_perm (List.perm_append_comm : (l ++ [a]).Perm ([a] ++ l))]
  exact sp_cons
open Classical in
theorem wy_count : ∀ r : List Nat, ∃ bs, Basis r.reverse bs ∧ bs.length ≤ r.length ∧ ∀ t, wy r.reverse t = if Sp bs t then 2 ^ (r.length - bs.length) else 0
  | [] => ⟨[], Basis.nil, Nat.le_refl _, fun t => by
    show (if t = 0 then 1 else 0) = _
    by_cases h : t = 0
    · subst h; rw [if_pos rfl, if_pos .nil]; rfl
    · rw [if_neg h, if_neg fun z => h (sp_nil.mp z)]⟩
  | a :: r => by
    obtain ⟨bs, B, hl, h⟩ := wy_count r
    obtain ⟨k1, k2⟩ := basis_add B (n := a)
    rw [List.reverse_cons, List.length_cons]
    by_cases h0 : less a bs = 0
    · refine ⟨bs, k1 h0, by omega, fun t => ?_⟩
      have sa := (less_zero B.red).mp h0
      have e : Sp bs (t ^^^ a) ↔ Sp bs t := ⟨fun z => by have := z.add sa; rwa [xself] at this, fun z => z.add sa⟩
      rw [wy_snoc, h, h]
      by_cases q : Sp bs t
      · rw [if_pos q, if_pos (e.mpr q), if_pos q, show r.length + 1 - bs.length = r.length - bs.length + 1 by omega, Nat.pow_succ]; omega
      · rw [if_neg q, if_neg (fun z => q (e.mp z)), if_neg q]
    · obtain ⟨g, gp, gs⟩ := falling (bs.map (clr (less a bs)) ++ [less a bs])
      have C := k2 h0 g gp gs
      have gl : g.length = bs.length + 1 := by rw [gp.length_eq, List.length_append, List.length_map, List.length_singleton]
      refine ⟨g, C, by omega, fun t => ?_⟩
      have na : ¬ Sp bs a := fun z => h0 ((less_zero B.red).mpr z)
      have e : Sp g t ↔ Sp bs t ∨ Sp bs (t ^^^ a) := by rw [← C.same t, sp_snoc, B.same, B.same]
      rw [wy_snoc, h, h, gl, show r.length + 1 - (bs.length + 1) = r.length - bs.length by omega]
      by_cases q : Sp bs t
      · have q2 : ¬ Sp bs (t ^^^ a) := fun z => na (by have := z.add q; rwa [Nat.xor_comm t a, xself] at this)
        rw [if_pos q, if_neg q2, if_pos (e.mpr (.inl q))]; omega
      · by_cases q2 : Sp bs (t ^^^ a)
        · rw [if_neg q, if_pos q2, if_pos (e.mpr (.inr q2))]; omega
        · rw [if_neg q, if_neg q2, if_neg (fun z => (e.mp z).elim q q2)]
/-! ### counting by a table -/
def cntN (l : List (Nat × Nat)) (t : Nat) : Nat := ((l.find? fun p => decide (p.1 = t)).map (·.2)).getD 0
def putN (l : List (Nat × Nat)) (t v : Nat) : List (Nat × Nat) := if (l.any fun p => decide (p.1 = t)) = true then l.map (fun p => if p.1 = t then (p.1, v) else p) else l ++ [(t, v)]
def addN (l : List (Nat × Nat)) (t v : Nat) : List (Nat × Nat) := putN l t (cntN l t + v)
theorem cnt_cons (p : Nat × Nat) (l : List (Nat × Nat)) (t : Nat) : cntN (p :: l) t = if p.1 = t then p.2 else cntN l t := by
  unfold cntN
  rw [List.find?_cons]
  by_cases h : p.1 = t
  · simp [h]
  · simp [h]
theorem any_cnt {t : Nat} : ∀ {l : List (Nat × Nat)}, ¬ (l.any fun p => decide (p.1 = t)) = true → cntN l t = 0
  | [], _ => rfl
  | p :: l, h => by
    rw [List.any_cons, Bool.or_eq_true, decide_eq_true_eq] at h
    rw [cnt_cons, if_neg fun z => h (.inl z)]
    exact any_cnt fun z => h (.inr z)
theorem any_keys {t : Nat} {l : List (Nat × Nat)} : (l.any fun p => decide (p.1 = t)) = true ↔ t ∈ l.map (·.1) := by
  rw [List.any_eq_true, List.mem_map]
  constructor
  · rintro ⟨p, h, e⟩; exact ⟨p, h, by simpa using e⟩
  · rintro ⟨p, h, e⟩; exact ⟨p, h, by simpa using e⟩
theorem cnt_map {t v s : Nat} : ∀ {l : List (Nat × Nat)}, cntN (l.map fun p => if p.1 = t then (p.1, v) else p) s = if s = t ∧ (l.any fun p => decide (p.1 = t)) = true then v else cntN l s
  | [] => by simp [cntN]
  | p :: l => by
    rw [List.map_cons, cnt_cons, cnt_cons, cnt_map, List.any_cons]
    by_cases h : p.1 = t
    · rw [if_pos h]
      by_cases h2 : p.1 = s
      · have e : s = t := h2.symm.trans h
        simp [h, h2, e]
      · have e : ¬ s = t := fun z => h2 (h.trans z.symm)
        simp [h2, e]
    · rw [if_neg h]
      by_cases h2 : p.1 = s
      · have e : ¬ s = t := fun z => h (h2.trans z)
        simp [h2, e]
      · simp [h, h2]
        rw [decide_eq_false h, Bool.false_or]
theorem cnt_put {l : List (Nat × Nat)} {t v s : Nat} : cntN (putN l t v) s = if s = t then v else cntN l s := by
  unfold putN
  by_cases h : (l.any fun p => decide (p.1 = t)) = true
  · rw [if_pos h, cnt_map]
    by_cases e : s = t
    · rw [if_pos ⟨e, h⟩, if_pos e]
    · rw [if_neg fun z => e z.1, if_neg e]
  · rw [if_neg h]
    have app : ∀ l : List (Nat × Nat), (¬ (l.any fun p => decide (p.1 = t)) = true) → cntN (l ++ [(t, v)]) s = if s = t then v else cntN l s := fun l => by
      induction l with
      | nil =>
        intro _
        rw [List.nil_append, cnt_cons]
        by_cases e : s = t
        · rw [if_pos e.symm, if_pos e]
        · rw [if_neg fun z => e z.symm, if_neg e]
      | cons p l ih =>
        intro h
        rw [List.any_cons, Bool.or_eq_true, decide_eq_true_eq] at h
        rw [List.cons_append, cnt_cons, cnt_cons, ih fun z => h (.inr z)]
        by_cases e : p.1 = s
        · rw [if_pos e, if_pos e, if_neg fun z => h (.inl (e.trans z))]
        · rw [if_neg e, if_neg e]
    exact app l h
theorem cnt_add {l : List (Nat × Nat)} {t v s : Nat} : cntN (addN l t v) s = cntN l s + if s = t then v else 0 := by
  unfold addN
  rw [cnt_put]
  by_cases e : s = t
  · rw [if_pos e, if_pos e, e]
  · rw [if_neg e, if_neg e, Nat.add_zero]
theorem put_len (l : List (Nat × Nat)) (t v : Nat) : (putN l t v).length ≤ l.length + 1 := by
  unfold putN
  split
  · rw [List.length_map]; omega
  · (rw [List.length_append, List.length_singleton]; omega)
theorem put_keys {l : List (Nat × Nat)} (t v : Nat) (h : (l.map (·.1)).Nodup) : ((putN l t v).map (·.1)).Nodup := by
  unfold putN
  split
  · rw [List.map_map]
    have e : l.map ((·.1) ∘ fun p : Nat × Nat => if p.1 = t then (p.1, v) else p) = l.map (·.1) := List.map_congr_left fun p _ => by
      show (if p.1 = t then (p.1, v) else p).1 = p.1
      split <;> rfl
    rw [e]; exact h
  · rename_i q
    rw [List.map_append, List.map_singleton]
    refine List.nodup_append.mpr ⟨h, by simp, fun a ha b hb => ?_⟩
    rw [List.mem_singleton.mp hb]
    intro e
    exact q (any_keys.mpr (by rw [← (show a = t from e)]; exact ha))
/-- the next table -/
def nextN (l : List (Nat × Nat)) (n : Nat) (pre : List (Nat × Nat)) : List (Nat × Nat) := pre.foldl (fun m p => addN (addN m p.1 (cntN l p.1)) (p.1 ^^^ n) (cntN l p.1)) []
theorem next_snoc (l : List (Nat × Nat)) (n : Nat) (pre : List (Nat × Nat)) (p : Nat × Nat) : nextN l n (pre ++ [p]) = addN (addN (nextN l n pre) p.1 (cntN l p.1)) (p.1 ^^^ n) (cntN l p.1) := by
  unfold nextN; rw [List.foldl_append]; rfl
theorem next_len (l : List (Nat × Nat)) (n : Nat) : ∀ r : List (Nat × Nat), (nextN l n r.reverse).length ≤ 2 * r.length
  | [] => Nat.zero_le _
  | p :: r => by
    rw [List.reverse_cons, next_snoc, List.length_cons]
    have := next_len l n r
    have a := put_len (nextN l n r.reverse) p.1 (cntN (nextN l n r.reverse) p.1 + cntN l p.1)
    have b := put_len (addN (nextN l n r.reverse) p.1 (cntN l p.1)) (p.1 ^^^ n) (cntN (addN (nextN l n r.reverse) p.1 (cntN l p.1)) (p.1 ^^^ n) + cntN l p.1)
    unfold addN at *
    omega
theorem next_keys (l : List (Nat × Nat)) (n : Nat) : ∀ r : List (Nat × Nat), ((nextN l n r.reverse).map (·.1)).Nodup
  | [] => List.nodup_nil
  | p :: r => by
    rw [List.reverse_cons, next_snoc]
    exact put_keys _ _ (put_keys _ _ (next_keys l n r))
theorem next_cnt (l : List (Nat × Nat)) (n : Nat) : ∀ r : List (Nat × Nat), (r.map (·.1)).Nodup → ∀ s, cntN (nextN l n r.reverse) s = (if s ∈ r.map (·.1) then cntN l s else 0) + if s ^^^ n ∈ r.map (·.1) then cntN l (s ^^^ n) else 0
  | [], _, s => by simp [nextN, cntN]
  | p :: r, h, s => by
    rw [List.map_cons] at h
    (obtain ⟨h1, h2⟩ := List.nodup_cons.mp h)
    rw [List.reverse_cons, next_snoc, cnt_add, cnt_add, next_cnt l n r h2 s, List.map_cons]
    have e1 : (if s ∈ p.1 :: r.map (·.1) then cntN l s else 0) = (if s ∈ r.map (·.1) then cntN l s else 0) + if s = p.1 then cntN l p.1 else 0 := by
      by_cases q : s = p.1
      · subst q; simp [h1]
      · by_cases m : s ∈ r.map (·.1)
        · rw [if_pos (List.mem_cons_of_mem _ m), if_pos m, if_neg q]; rfl
        · rw [if_neg (fun z => (List.mem_cons.mp z).elim q m), if_neg m, if_neg q]
    have e2 : (if s ^^^ n ∈ p.1 :: r.map (·.1) then cntN l (s ^^^ n) else 0) = (if s ^^^ n ∈ r.map (·.1) then cntN l (s ^^^ n) else 0) + if s = p.1 ^^^ n then cntN l p.1 else 0 := by
      by_cases q : s = p.1 ^^^ n
      · subst q
        rw [xself]
        simp [h1]
      · have : ¬ s ^^^ n = p.1 := fun z => q (by rw [← z, xself])
        by_cases m : s ^^^ n ∈ r.map (·.1)
        · rw [if_pos (List.mem_cons_of_mem _ m), if_pos m, if_neg q]; rfl
        · rw [if_neg (fun z => (List.mem_cons.mp z).elim this m), if_neg m, if_neg q]
    rw [e1, e2]
    omega
theorem next_all {l : List (Nat × Nat)} (h : (l.map (·.1)).Nodup) (n s : Nat) : cntN (nextN l n l) s = cntN l s + cntN l (s ^^^ n) := by
  have := next_cnt l n l.reverse (by rw [List.map_reverse]; exact (List.reverse_perm _).nodup_iff.mpr h) s
  rw [List.reverse_reverse] at this
  rw [this]
  have k : ∀ t, (if t ∈ l.reverse.map (·.1) then cntN l t else 0) = cntN l t := fun t => by
    by_cases q : t ∈ l.map (·.1)
    · rw [if_pos (by rw [List.map_reverse, List.mem_reverse]; exact q)]
    · rw [if_neg (by rw [List.map_reverse, List.mem_reverse]; exact q), any_cnt fun z => q (any_keys.mp z)]
  rw [k, k]
end GF

set_option Elab.async false
set_option maxRecDepth 100000
namespace LF
open PySem PySem.Spec L2 GF
/-! ### tables of natural numbers -/
variable {cs : Cs} {c : Bool}
def ctD (l : List (Nat × Nat)) : List (Key × D) := l.map fun p => (.inl (p.1 : Int), .int (p.2 : Int))
theorem ctD_length (l : List (Nat × Nat)) : (ctD l).length = l.length := by unfold ctD; rw [List.length_map]
theorem ct_find (t : Nat) : ∀ l : List (Nat × Nat), valD (ctD l) (.inl (t : Int)) = (l.find? fun p => decide (p.1 = t)).map fun p => D.int (p.2 : Int)
  | [] => rfl
  | p :: l => by
    have ih := ct_find t l
    unfold valD ctD at ih ⊢
    rw [List.map_cons, List.find?_cons, List.find?_cons]
    by_cases h : p.1 = t
    · have e : (Sum.inl (p.1 : Int) : Key) = .inl (t : Int) := by rw [h]
      simp [h]
    · have e : ¬ (Sum.inl (p.1 : Int) : Key) = .inl (t : Int) := fun z => h (by injection z with z; omega)
      (rw [decide_eq_false h, decide_eq_false e])
      exact ih
theorem ct_get (l : List (Nat × Nat)) (t : Nat) : (valD (ctD l) (.inl (t : Int))).getD (.int 0) = .int (cntN l t : Int) := by
  rw [ct_find]
  unfold cntN
  cases l.find? fun p => decide (p.1 = t) with
  | none => rfl
  | some p => rfl
theorem ct_has {l : List (Nat × Nat)} {p : Nat × Nat} (h : p ∈ l) : valD (ctD l) (.inl (p.1 : Int)) = some (.int (cntN l p.1 : Int)) := by
  rw [ct_find]
  unfold cntN
  cases e : l.find? fun q => decide (q.1 = p.1) with
  | none =>
    have := List.find?_eq_none.mp e p h
    simp at this
  | some q => rfl
theorem ct_put (l : List (Nat × Nat)) (t v : Nat) : putD (ctD l) (.inl (t : Int)) (.int (v : Int)) = ctD (putN l t v) := by
  have ha : ((ctD l).any fun kv => decide (kv.1 = (.inl (t : Int) : Key))) = (l.any fun p => decide (p.1 = t)) := by
    unfold ctD
    rw [List.any_map]
    congr 1
    funext p
    show decide ((Sum.inl (p.1 : Int) : Key) = .inl (t : Int)) = decide (p.1 = t)
    exact decide_eq_decide.mpr ⟨fun z => by injection z with z; omega, fun z => by rw [z]⟩
  unfold putD putN
  rw [ha]
  split
  · unfold ctD
    (rw [List.map_map, List.map_map])
    (refine List.map_congr_left fun p _ => ?_)
    show (if (Sum.inl (p.1 : Int) : Key) = .inl (t : Int) then ((Sum.inl (p.1 : Int) : Key), D.int (v : Int)) else (.inl (p.1 : Int), .int (p.2 : Int))) = (.inl ((if p.1 = t then (p.1, v) else p).1 : Int), .int ((if p.1 = t then (p.1, v) else p).2 : Int))
    by_cases h : p.1 = t
    · rw [if_pos (by rw [h]), if_pos h]
    · rw [if_neg (fun z => h (by injection z with z; omega)), if_neg h]
  · unfold ctD
    rw [List.map_append]; rfl
theorem ct_keys (l : List (Nat × Nat)) : (ctD l).map (fun kv => keyD kv.1) = natsD (l.map (·.1)) := by
  unfold ctD natsD
  rw [List.map_map, List.map_map]; rfl
theorem belk_ct (n : Nat) : ∀ l : List (Nat × Nat), D.belk n (ctD l) = true
  | [] => by unfold ctD; simp [D.belk]
  | m :: r => by
    have := belk_ct n r
    unfold ctD at this ⊢
    simp [D.belk, D.bel, this]
end LF

set_option Elab.async false
set_option maxRecDepth 100000
namespace LF
open PySem PySem.Spec L2
/-! ### a zip whose tuples are kept: list(zip(a, b)), tuple(zip(a, b)) -/
section
variable {prog : Program} {w : World} {A : Around} {E : Value → Shared → Prop} {s : Shared} {z TI TO T i1 i2 : Addr} {fp1 fp2 : List Addr} {n1 n2 i : Nat} {P1 P2 : Nat → Value → Prop} {St1 St2 : Nat → Heap → Prop} {f : Bool} {oT : Obj}
theorem zk_item {Q : Value → Shared → Prop} (S : ZipSep2 z TI TO i1 i2 fp1 fp2) (D1 : Draws prog w A i1 fp1 n1 P1 St1) (D2 : Draws prog w A i2 fp2 n2 P2 St2) (hz : IsZipHeld s.heap z TI TO T f) (hT : s.heap.get? T = some oT) (hTI : IsTupOf2 s.heap TI (.ref i1) (.ref i2))
    (st1 : St1 i s.heap) (st2 : St2 i s.heap) (l1 : i < n1) (l2 : i < n2)
    (hQ : ∀ x y h' tk, P1 i x → P2 i y → IsZipHeld h' z TI TO T true → St1 (i + 1) h' → St2 (i + 1) h' → IsTupOf2 h' s.heap.objs.size x y → h'.objs.size = s.heap.objs.size + 1 →
      (∀ c o, c ≠ z → c ≠ i1 → c ≠ i2 → s.heap.get? c = some o → h'.get? c = some o) → Q (.ref s.heap.objs.size) { s with heap := h', toks := tk }) :
    wpAny (model prog w) A (Builtin.«zip.__next__» ⟨[.ref z], []⟩) (fun r s' => ∃ v, r = .done (.ret v) ∧ Q v s') E s := by
  obtain ⟨hp, gs, dr, tk0, os⟩ := s
  (show wpAny _ _ (field (.ref z) 2 >>= _) _ _ _)
  (refine wpAny_bind (wpAny_field hz rfl (x := .bool false) rfl ?_))
  (show wpAny _ _ (field (.ref z) 3 >>= _) _ _ _)
  refine wpAny_bind (wpAny_field hz rfl (x := .ref TI) rfl (wpAny_bind (wpAny_seqItems hTI rfl ?_)))
  (show wpAny _ _ (Builtin.SmallTypes.ownedTupleIsFree (.ref z) >>= _) _ _ _)
  refine wpAny_bind (wpAny_tupleHeld_zip hz hT fun h0 hz0 k0 => ?_)
  replace hz0 : IsZipHeld h0 z TI TO T true := hz0
  replace k0 : Heap.SameBut z hp h0 := k0
  (simp only [Bool.false_eq_true, if_false])
  refine wpAny_bind ?_
  rw [← Array.forIn_toList]
  (simp only [List.forIn_cons, List.forIn_nil])
  (refine wpAny_bind (wpAny_bind (wpAny_holding ?_)))
  show wpAny _ _ (Builtin.SmallTypes.nextOf (.ref i1) >>= _) _ _ ⟨h0, gs, dr, tk0, os⟩
  refine wpAny_bind (D1.item i _ _ _ l1 (D1.over st1 k0 S.zf1) fun x h1 tk1 p1 n1' k1 => wpAny_pure (wpAny_pure ?_))
  replace k1 : Heap.SameBut i1 h0 h1 := k1
  (refine wpAny_bind (wpAny_bind (wpAny_holding ?_)))
  show wpAny _ _ (Builtin.SmallTypes.nextOf (.ref i2) >>= _) _ _ ⟨h1, gs, dr, tk1, os⟩
  refine wpAny_bind (D2.item i _ _ _ l2 (D2.over (D2.over st2 k0 S.zf2) k1 S.sep1_2) fun y h2 tk2 p2 n2' k2 => wpAny_pure (wpAny_pure (wpAny_pure ?_)))
  replace k2 : Heap.SameBut i2 h1 h2 := k2
  show wpAny _ _ (newTuple [x, y] >>= _) _ _ ⟨h2, gs, dr, tk2, os⟩
  (refine wpAny_bind (wpAny_newTuple ?_))
  have sz : h2.objs.size = hp.objs.size := by rw [k2.1, k1.1, k0.1]
  have zz : IsZipHeld h2 z TI TO T true := k2.extBut _ _ S.zi2 (k1.extBut _ _ S.zi1 hz0)
  have kk : ∀ c o, c ≠ z → c ≠ i1 → c ≠ i2 → hp.get? c = some o → h2.get? c = some o := fun c o c1 c2 c3 e => k2.extBut _ _ c3 (k1.extBut _ _ c2 (k0.extBut _ _ c1 e))
  have s1 : St1 (i + 1) h2 := D1.over n1' k2 S.sep2_1
  have up : ∀ c o, h2.get? c = some o → (h2.push { cls := .type "tuple", data := .seq #[x, y] }).get? c = some o := fun c o e => Heap.get?_push_of_some _ e
  (refine wpAny_pure ⟨_, rfl, ?_⟩)
  show Q (.ref h2.objs.size) _
  have hp' : IsTupOf2 (h2.push { cls := .type "tuple", data := .seq #[x, y] }) h2.objs.size x y := Heap.get?_push_size _ rfl
  have hz4 : (h2.push { cls := .type "tuple", data := .seq #[x, y] }).objs.size = h2.objs.size + 1 := Heap.size_push ..
  rw [sz] at hp' hz4 ⊢
  exact hQ x y _ tk2 p1 p2 (up _ _ zz) (D1.frame _ _ _ s1 fun b _ o e => up b o e) (D2.frame _ _ _ n2' fun b _ o e => up b o e) hp' hz4 fun c o c1 c2 c3 e => up c o (kk c o c1 c2 c3 e)
theorem zk_end {Q : PySem.Fin → Shared → Prop} (S : ZipSep2 z TI TO i1 i2 fp1 fp2) (D1 : Draws prog w A i1 fp1 n1 P1 St1) (D2 : Draws prog w A i2 fp2 n2 P2 St2) (hz : IsZipHeld s.heap z TI TO T f) (hT : s.heap.get? T = some oT) (hTI : IsTupOf2 s.heap TI (.ref i1) (.ref i2))
    (st1 : St1 i s.heap) (st2 : St2 i s.heap) (l1 : i ≤ n1) (l2 : i ≤ n2) (hend : i = n1 ∨ i = n2)
    (hE : ∀ h' tk e, (∀ c o, c ≠ z → c ≠ i1 → c ≠ i2 → s.heap.get? c = some o → h'.get? c = some o) → (∃ o, h'.get? e = some o ∧ o.cls = .type "StopIteration") → E (.ref e) { s with heap := h', toks := tk }) : wpAny (model prog w) A (Builtin.«zip.__next__» ⟨[.ref z], []⟩) Q E s := by
  obtain ⟨hp, gs, dr, tk0, os⟩ := s
  (show wpAny _ _ (field (.ref z) 2 >>= _) _ _ _)
  (refine wpAny_bind (wpAny_field hz rfl (x := .bool false) rfl ?_))
  (show wpAny _ _ (field (.ref z) 3 >>= _) _ _ _)
  refine wpAny_bind (wpAny_field hz rfl (x := .ref TI) rfl (wpAny_bind (wpAny_seqItems hTI rfl ?_)))
  (show wpAny _ _ (Builtin.SmallTypes.ownedTupleIsFree (.ref z) >>= _) _ _ _)
  refine wpAny_bind (wpAny_tupleHeld_zip hz hT fun h0 hz0 k0 => ?_)
  replace k0 : Heap.SameBut z hp h0 := k0
  (simp only [Bool.false_eq_true, if_false])
  refine wpAny_bind ?_
  rw [← Array.forIn_toList]
  (simp only [List.forIn_cons, List.forIn_nil])
  (refine wpAny_bind (wpAny_bind (wpAny_holding ?_)))
  show wpAny _ _ (Builtin.SmallTypes.nextOf (.ref i1) >>= _) _ _ ⟨h0, gs, dr, tk0, os⟩
  by_cases q1 : i < n1
  · have q2 : i = n2 := by omega
    refine wpAny_bind (D1.item i _ _ _ q1 (D1.over st1 k0 S.zf1) fun x h1 tk1 p1 n1' k1 => wpAny_pure (wpAny_pure ?_))
    replace k1 : Heap.SameBut i1 h0 h1 := k1
    (refine wpAny_bind (wpAny_bind (wpAny_holding ?_)))
    show wpAny _ _ (Builtin.SmallTypes.nextOf (.ref i2) >>= _) _ _ ⟨h1, gs, dr, tk1, os⟩
    refine wpAny_bind (D2.done ⟨h1, gs, dr, tk1, os⟩ _ _ (by rw [← q2]; exact D2.over (D2.over st2 k0 S.zf2) k1 S.sep1_2) fun h2 e k2 he => ?_)
    replace k2 : Heap.ExtBut i2 h1 h2 := k2
    exact hE h2 tk1 e (fun c o c1 c2 c3 x => k2 _ _ c3 (k1.extBut _ _ c2 (k0.extBut _ _ c1 x))) he
  · have q2 : i = n1 := by omega
    refine wpAny_bind (D1.done ⟨h0, gs, dr, tk0, os⟩ _ _ (by rw [← q2]; exact D1.over st1 k0 S.zf1) fun h2 e k2 he => ?_)
    replace k2 : Heap.ExtBut i1 h0 h2 := k2
    exact hE h2 tk0 e (fun c o c1 c2 c3 x => k2 _ _ c2 (k0.extBut _ _ c1 x)) he
end
/-- what one of the zip's two iterators goes through -/
structure Src (prog : Program) (w : World) (it : Addr) (fp : List Addr) (xs : List Value) (St : Nat → Heap → Prop) : Prop where
  dr : ∀ A : Around, A.handled = none → Draws prog w A it fp xs.length (fun i v => xs[i]? = some v) St
  me : it ∈ fp
/-- the zip before its turn i; S: the list that takes the tuples -/
structure ZSt (h : Heap) (z TI TO i1 i2 S : Addr) (St1 St2 : Nat → Heap → Prop) (i : Nat) : Prop where
  ti : IsTupOf2 h TI (.ref i1) (.ref i2)
  a : St1 i h
  b : St2 i h
  out : (IsZip h z TI TO .none ∧ ∃ u v, IsTupOf2 h TO u v) ∨ ∃ T f oT, IsZipHeld h z TI TO T f ∧ h.get? T = some oT ∧ T ≠ z ∧ T ≠ TO ∧ T ≠ i1 ∧ T ≠ i2 ∧ T ≠ S
section
variable {prog : Program} {w : World} {A : Around} {E : Value → Shared → Prop} {s : Shared} {z TI TO S i1 i2 : Addr} {fp1 fp2 : List Addr} {i : Nat} {xs ys : List Value} {St1 St2 : Nat → Heap → Prop}
theorem ZSt.isZip {h : Heap} (x : ZSt h z TI TO i1 i2 S St1 St2 i) : ∃ f0 f1, h.get? z = some { cls := .type "zip", dict := none, data := .fields #[f0, .bool f1, .bool false, .ref TI, .ref TO], slots := #[] } := by
  rcases x.out with ⟨q, _⟩ | ⟨T, f, oT, q, _⟩
  · exact ⟨_, _, q⟩
  · exact ⟨_, _, q⟩
theorem ZSt.keep {h h' : Heap} (x : ZSt h z TI TO i1 i2 S St1 St2 i) (s1 : Src prog w i1 fp1 xs St1) (s2 : Src prog w i2 fp2 ys St2) (n1 : S ∉ fp1) (n2 : S ∉ fp2) (nz : S ≠ z) (nt : S ≠ TI) (no : S ≠ TO) (hk : ∀ b o, b ≠ S → h.get? b = some o → h'.get? b = some o) : ZSt h' z TI TO i1 i2 S St1 St2 i := by
  refine ⟨hk _ _ nt.symm x.ti, (s1.dr { handled := none } rfl).frame _ _ _ x.a fun b hb o e => hk b o (fun q => n1 (q ▸ hb)) e, (s2.dr { handled := none } rfl).frame _ _ _ x.b fun b hb o e => hk b o (fun q => n2 (q ▸ hb)) e, ?_⟩
  rcases x.out with ⟨q, u, v, q2⟩ | ⟨T, f, oT, q, q1, q2, q3, q4, q5, q6⟩
  · exact .inl ⟨hk _ _ nz.symm q, u, v, hk _ _ no.symm q2⟩
  · exact .inr ⟨T, f, oT, hk _ _ nz.symm q, hk _ _ q6 q1, q2, q3, q4, q5, q6⟩
theorem zs_item {Q : Option Value → Shared → Prop} (hh : A.handled = none) (D : ZipSep2 z TI TO i1 i2 fp1 fp2) (s1 : Src prog w i1 fp1 xs St1) (s2 : Src prog w i2 fp2 ys St2) (x : ZSt s.heap z TI TO i1 i2 S St1 St2 i) (hS : S < s.heap.objs.size) (nz : S ≠ z) (nt : S ≠ TO) (l1 : i < xs.length) (l2 : i < ys.length)
    (hQ : ∀ u v h' tk, xs[i]? = some u → ys[i]? = some v → ZSt h' z TI TO i1 i2 S St1 St2 (i + 1) → IsTupOf2 h' s.heap.objs.size u v → h'.objs.size = s.heap.objs.size + 1 →
      (∀ at0 o, at0 ≠ z → at0 ≠ TO → at0 ≠ i1 → at0 ≠ i2 → s.heap.get? at0 = some o → h'.get? at0 = some o) → Q (some (.ref s.heap.objs.size)) { s with heap := h', toks := tk }) : wpAny (model prog w) A (pyNext (.ref z)) Q E s := by
  (have lt : ∀ {c o}, s.heap.get? c = some o → s.heap.objs.size ≠ c := fun e => Nat.ne_of_gt (Heap.lt_size e))
  have li1 : s.heap.objs.size ≠ i1 := by obtain ⟨_, e⟩ := (s1.dr A hh).live _ _ x.a; exact lt e
  have li2 : s.heap.objs.size ≠ i2 := by obtain ⟨_, e⟩ := (s2.dr A hh).live _ _ x.b; exact lt e
  rcases x.out with ⟨q, a, b, q2⟩ | ⟨T, f, oT, q, q1, q2, q3, q4, q5, q6⟩
  · refine wpAny_pyNext_zipD2_item D (s1.dr _ hh) (s2.dr _ hh) q x.ti q2 x.a x.b l1 l2 fun u v h' tk p1 p2 e1 e2 e3 e4 e5 e6 k => ?_
    exact hQ u v h' tk p1 p2 ⟨k _ _ D.TIz D.TITO D.TIi1 D.TIi2 x.ti, e3, e4, .inr ⟨_, false, _, e1, e5, lt q, lt q2, li1, li2, Nat.ne_of_gt hS⟩⟩ e5 e6 k
  · have hTy : s.TypeIs (.ref z) "zip" := ⟨_, q, rfl⟩
    unfold pyNext
    refine wpAny_bind (wpAny_attempt (wpAny_callSpecial?_slot (name := Str.ofString "__next__") hTy F.slot_zip_next (wpAny_call_entry F.slot_zip_next hTy F.entry_zip_next (zk_item D (s1.dr _ hh) (s2.dr _ hh) q q1 x.ti x.a x.b l1 l2 fun u v h' tk p1 p2 e1 e3 e4 e5 e6 k => wpAny_pure ?_) (F.args_zip_next_1 _))))
    exact hQ u v h' tk p1 p2 ⟨k _ _ D.TIz D.TIi1 D.TIi2 x.ti, e3, e4, .inr ⟨T, true, oT, e1, k _ _ q2 q4 q5 q1, q2, q3, q4, q5, q6⟩⟩ e5 e6 fun c o c1 _ c3 c4 e => k c o c1 c3 c4 e
theorem zs_end {Q : Option Value → Shared → Prop} (hh : A.handled = none) (D : ZipSep2 z TI TO i1 i2 fp1 fp2) (s1 : Src prog w i1 fp1 xs St1) (s2 : Src prog w i2 fp2 ys St2) (x : ZSt s.heap z TI TO i1 i2 S St1 St2 i) (l1 : i ≤ xs.length) (l2 : i ≤ ys.length) (hend : i = xs.length ∨ i = ys.length)
    (hQ : ∀ h' tk, (∀ at0 o, at0 ≠ z → at0 ≠ TO → at0 ≠ i1 → at0 ≠ i2 → s.heap.get? at0 = some o → h'.get? at0 = some o) → Q none { s with heap := h', toks := tk }) : wpAny (model prog w) A (pyNext (.ref z)) Q E s := by
  rcases x.out with ⟨q, a, b, q2⟩ | ⟨T, f, oT, q, q1, q2, q3, q4, q5, q6⟩
  · exact wpAny_pyNext_zipD2_end D (s1.dr _ hh) (s2.dr _ hh) q x.ti q2 x.a x.b l1 l2 hend hQ
  · have hTy : s.TypeIs (.ref z) "zip" := ⟨_, q, rfl⟩
    unfold pyNext
    refine wpAny_bind (wpAny_attempt (wpAny_callSpecial?_slot (name := Str.ofString "__next__") hTy F.slot_zip_next (wpAny_call_entry F.slot_zip_next hTy F.entry_zip_next (zk_end D (s1.dr _ hh) (s2.dr _ hh) q q1 x.ti x.a x.b l1 l2 hend fun h' tk e k he => ?_) (F.args_zip_next_1 _))))
    obtain ⟨o, ho, hc⟩ := he
    refine wpAny_bind (wpAny_isInstance (T := "StopIteration") (b := true) ⟨o, ho, hc⟩ isSubtype_stop (wpAny_pure (hQ _ _ fun c o c1 _ c3 c4 e => k c o c1 c3 c4 e)))
end

/-- the tuples made: as many as turns, at rising places -/
structure ZG (xs ys : List Value) (lo : Addr) (h : Heap) (as : List Addr) : Prop where
  rise : as.Pairwise (· < ·)
  above : ∀ a ∈ as, lo < a
  pairs : ∀ (j : Nat) (a : Addr), as[j]? = some a → ∃ u v, xs[j]? = some u ∧ ys[j]? = some v ∧ IsTupOf2 h a u v
theorem ZG.there {xs ys : List Value} {lo : Addr} {h : Heap} {as : List Addr} (g : ZG xs ys lo h as) {a : Addr} (ha : a ∈ as) : a < h.objs.size := by
  (obtain ⟨j, hj⟩ := List.mem_iff_getElem?.mp ha)
  obtain ⟨_, _, _, _, e⟩ := g.pairs j a hj
  exact Heap.lt_size e
/-- S lies behind the zip's own things -/
structure ZLow (z TI TO i1 i2 S : Addr) (fp1 fp2 : List Addr) : Prop where
  z : z < S
  ti : TI < S
  to : TO < S
  a : i1 < S
  b : i2 < S
  f1 : S ∉ fp1
  f2 : S ∉ fp2
abbrev newL (acc : Array Value) (c : Nat) : Obj := { cls := .type "list", dict := none, data := .seq acc c, slots := #[] }
section
variable {prog : Program} {w : World} {A : Around} {E : Value → Shared → Prop} {s : Shared} {z TI TO S i1 i2 : Addr} {fp1 fp2 : List Addr} {xs ys : List Value} {St1 St2 : Nat → Heap → Prop} {R : Result → Shared → Prop}
theorem zs_loop (hh : A.handled = none) (D : ZipSep2 z TI TO i1 i2 fp1 fp2) (s1 : Src prog w i1 fp1 xs St1) (s2 : Src prog w i2 fp2 ys St2) (lo : ZLow z TI TO i1 i2 S fp1 fp2) (hn : min xs.length ys.length ≤ sizeLine) (res : Value) {h1 : Heap}
    (hR : ∀ h' tk acc c as, (∀ b o, b ≠ S → b ≠ z → b ≠ TO → b ≠ i1 → b ≠ i2 → h1.get? b = some o → h'.get? b = some o) → h'.get? S = some (newL acc c) → as.length = min xs.length ys.length → ZG xs ys S h' as → acc.toList = as.map Value.ref → R (.ok (.ret res)) { s with heap := h', toks := tk }) :
    ∀ (k i : Nat) (h : Heap) (tk c : Nat) (acc : Array Value) (as : List Addr), min xs.length ys.length - i = k → i ≤ min xs.length ys.length → ZSt h z TI TO i1 i2 S St1 St2 i → (∀ b o, b ≠ S → b ≠ z → b ≠ TO → b ≠ i1 → b ≠ i2 → h1.get? b = some o → h.get? b = some o) →
      h.get? S = some (newL acc c) → acc.toList = as.map Value.ref → as.length = i → ZG xs ys S h as →
      codeAny (model prog w) A (.builtin "list.extend.loop" ⟨[.ref S, .ref z, res], []⟩) R { s with heap := h, toks := tk } := by
  have nz : S ≠ z := Nat.ne_of_gt lo.z
  have nt : S ≠ TO := Nat.ne_of_gt lo.to
  have na : S ≠ i1 := Nat.ne_of_gt lo.a
  have nb : S ≠ i2 := Nat.ne_of_gt lo.b
  have far : ∀ {b : Addr}, S < b → b ≠ z ∧ b ≠ TO ∧ b ≠ i1 ∧ b ≠ i2 := fun h => ⟨Nat.ne_of_gt (Nat.lt_trans lo.z h), Nat.ne_of_gt (Nat.lt_trans lo.to h), Nat.ne_of_gt (Nat.lt_trans lo.a h), Nat.ne_of_gt (Nat.lt_trans lo.b h)⟩
  intro k
  induction k with
  | zero =>
    intro i h tk c acc as hk hi st hkeep hS hacc hal hG
    have hin : i = min xs.length ys.length := by omega
    (refine codeAny_builtin PySem.F.entry_extend_loop ?_)
    (rw [Around.under_plainId PySem.F.plain_extend_loop _])
    show wpAny _ A.in1 (pyNext (.ref z) >>= _) _ _ _
    refine wpAny_bind (zs_end (s := { s with heap := h, toks := tk }) (A := A.in1) hh D s1 s2 st (by omega) (by omega) (by omega) fun h' tk' he => ?_)
    refine wpAny_pure (hR h' tk' acc c as (fun b o e1 e2 e3 e4 e5 e => he b o e2 e3 e4 e5 (hkeep b o e1 e2 e3 e4 e5 e)) (he S _ nz nt na nb hS) (by omega) ⟨hG.rise, hG.above, fun j a hj => ?_⟩ hacc)
    obtain ⟨u, v, e1, e2, e3⟩ := hG.pairs j a hj
    obtain ⟨q1, q2, q3, q4⟩ := far (hG.above a (List.mem_of_getElem? hj))
    exact ⟨u, v, e1, e2, he a _ q1 q2 q3 q4 e3⟩
  | succ k ih =>
    intro i h tk c acc as hk hi st hkeep hS hacc hal hG
    have sz : acc.size = i := by rw [← Array.length_toList, hacc, List.length_map, hal]
    (refine codeAny_builtin PySem.F.entry_extend_loop ?_)
    (rw [Around.under_plainId PySem.F.plain_extend_loop _])
    show wpAny _ A.in1 (pyNext (.ref z) >>= _) _ _ _
    refine wpAny_bind (zs_item (s := { s with heap := h, toks := tk }) (A := A.in1) hh D s1 s2 st (Heap.lt_size hS) nz nt (by omega) (by omega) fun u v h' tk' hu hv st' ht hz hkp => ?_)
    dsimp only at ht hz hkp ⊢
    have hS' := hkp S _ nz nt na nb hS
    (have hSl : S < h.objs.size := Heap.lt_size hS)
    (have up : ∀ b o, b ≠ S → h'.get? b = some o → (h'.update S (Obj.mapSeq (·.push (Value.ref h.objs.size)))).get? b = some o := fun b o hb e => (Heap.get?_update_other _ _ (Ne.symm hb)).trans e)
    (show wpAny _ A.in1 (updateSeq S (·.push (Value.ref h.objs.size)) >>= _) _ _ _)
    refine wpAny_bind ?_
    refine wpAny_updateSeq hS' rfl (wpAny_pure ⟨plainId_quiet PySem.F.plain_extend_loop _, ih (i + 1) _ tk' _ (acc.push (Value.ref h.objs.size)) (as ++ [h.objs.size]) (by omega) (by omega) (st'.keep s1 s2 lo.f1 lo.f2 nz (Nat.ne_of_gt lo.ti) nt up)
      (fun b o e1 e2 e3 e4 e5 e => up b o e1 (hkp b o e2 e3 e4 e5 (hkeep b o e1 e2 e3 e4 e5 e))) (Heap.get?_update_self _ hS' rfl) (by rw [Array.toList_push, hacc, List.map_append]; rfl) (by rw [List.length_append, hal]; rfl) ⟨?_, ?_, ?_⟩⟩) (by rw [sz]; omega) (by show (acc.push (Value.ref h.objs.size)).size ≤ sizeLine + 1; rw [Array.size_push, sz]; omega)
    · (refine List.pairwise_append.mpr ⟨hG.rise, List.pairwise_singleton _ _, fun a ha b hb => ?_⟩)
      rw [List.mem_singleton.mp hb]
      exact hG.there ha
    · intro a ha
      (rcases List.mem_append.mp ha with ha | ha)
      · exact hG.above a ha
      · rw [List.mem_singleton.mp ha]; exact hSl
    · intro j b hj
      rcases Nat.lt_trichotomy j as.length with q | q | q
      · rw [List.getElem?_append_left q] at hj
        obtain ⟨u', v', e1, e2, e3⟩ := hG.pairs j b hj
        (have hb := hG.above b (List.mem_of_getElem? hj))
        obtain ⟨q1, q2, q3, q4⟩ := far hb
        exact ⟨u', v', e1, e2, up b _ (Nat.ne_of_gt hb) (hkp b _ q1 q2 q3 q4 e3)⟩
      · subst q
        (have hb : h.objs.size = b := by simpa using hj)
        subst hb
        exact ⟨u, v, by rw [hal]; exact hu, by rw [hal]; exact hv, up _ _ (Nat.ne_of_gt hSl) ht⟩
      · (have hnone : (as ++ [h.objs.size])[j]? = none := List.getElem?_eq_none (by rw [List.length_append, List.length_singleton]; omega))
        rw [hnone] at hj; cases hj
end
theorem zip_no_len : typeLookup (.type "zip") "__len__" = pure none := am_miss_of_fast (by decide +kernel)
theorem zip_no_hint : typeLookup (.type "zip") "__length_hint__" = pure none := am_miss_of_fast (by decide +kernel)
section
variable {prog : Program} {w : World} {A : Around} {E : Value → Shared → Prop} {s : Shared} {z TI TO S i1 i2 : Addr} {fp1 fp2 : List Addr} {xs ys : List Value} {St1 St2 : Nat → Heap → Prop} {R : Result → Shared → Prop}
theorem zs_extend (hh : A.handled = none) (D : ZipSep2 z TI TO i1 i2 fp1 fp2) (s1 : Src prog w i1 fp1 xs St1) (s2 : Src prog w i2 fp2 ys St2) (lo : ZLow z TI TO i1 i2 S fp1 fp2) (hn : min xs.length ys.length ≤ sizeLine) (res : Value) (st : IsZip s.heap z TI TO .none) (hTI : IsTupOf2 s.heap TI (.ref i1) (.ref i2)) {p q : Value} (hTO : IsTupOf2 s.heap TO p q) (st1 : St1 0 s.heap) (st2 : St2 0 s.heap) (c : Nat) (hS : s.heap.get? S = some (newL #[] c))
    (hR : ∀ h' tk acc c as, (∀ b o, b ≠ S → b ≠ z → b ≠ TO → b ≠ i1 → b ≠ i2 → s.heap.get? b = some o → h'.get? b = some o) → h'.get? S = some (newL acc c) → as.length = min xs.length ys.length → ZG xs ys S h' as → acc.toList = as.map Value.ref → R (.ok (.ret res)) { s with heap := h', toks := tk }) :
    wpAny (model prog w) A.in1 (Builtin.List.listExtendWith (.ref S) (.ref z) res) (fun fin s' => match fin with | .done f => R (.ok f) s' | .again c' => c'.quiet = true ∧ codeAny (model prog w) A c' R s') (fun e s' => R (.error e) s') s := by
  have nz : S ≠ z := Nat.ne_of_gt lo.z
  have hT : s.TypeIs (.ref z) "zip" := ⟨_, st, rfl⟩
  (unfold Builtin.List.listExtendWith)
  refine wpAny_bind (wpAny_typeOf (T := "zip") hT ?_)
  have e1 : Builtin.List.listSameRef (.ref S) (.ref z) = false := by simp [Builtin.List.listSameRef, nz]
  have e2 : (Value.type "zip" == Value.type "list") = false := by decide
  have e3 : (Value.type "zip" == Value.type "tuple") = false := by decide
  simp only [e1, e2, e3, Bool.or_false, Bool.false_eq_true, if_false]
  refine wpAny_bind (wpAny_pyIter_zip st (wpAny_bind (wpAny_holding ?_)))
  (unfold Builtin.List.listLengthHint)
  refine wpAny_bind (wpAny_specialOf hT zip_no_len ?_)
  show wpAny _ A.in1 (specialOf (Value.ref z) (Str.ofString "__length_hint__") >>= _) _ _ _
  refine wpAny_bind (wpAny_specialOf hT zip_no_hint (wpAny_pure ?_))
  show wpAny _ A.in1 (rule "list.extend.makes-room" >>= fun _ => Builtin.List.listTouch (.ref S) >>= fun _ => again (.builtin "list.extend.loop" ⟨[.ref S, .ref z, res], []⟩)) _ _ _
  (refine wpAny_bind (wpAny_rule (wpAny_bind ?_)))
  (show wpAny _ _ (updateSeq S (·.push .none) >>= fun _ => updateSeq S (·.pop)) _ _ _)
  (refine wpAny_bind (wpAny_updateSeq hS rfl ?_))
  have k2 := Heap.get?_update_self (Obj.mapSeq (·.push Value.none)) hS rfl
  refine wpAny_updateSeq (hz := by seq_fits) k2 rfl ?_
  have k3 := Heap.get?_update_self (Obj.mapSeq (·.pop)) k2 rfl
  have oth : ∀ b o, b ≠ S → s.heap.get? b = some o → ((s.heap.update S (Obj.mapSeq (·.push Value.none))).update S (Obj.mapSeq (·.pop))).get? b = some o := fun b o hb e => (Heap.get?_update_other _ _ (Ne.symm hb)).trans ((Heap.get?_update_other _ _ (Ne.symm hb)).trans e)
  have st0 : ZSt s.heap z TI TO i1 i2 S St1 St2 0 := ⟨hTI, st1, st2, .inl ⟨st, p, q, hTO⟩⟩
  exact wpAny_pure ⟨plainId_quiet PySem.F.plain_extend_loop _, zs_loop (s := s) (h1 := s.heap) hh D s1 s2 lo hn res hR _ 0 _ _ _ #[] [] rfl (Nat.zero_le _) (st0.keep s1 s2 lo.f1 lo.f2 nz (Nat.ne_of_gt lo.ti) (Nat.ne_of_gt lo.to) oth) (fun b o e1 _ _ _ _ e => oth b o e1 e) k3 rfl rfl
    ⟨List.Pairwise.nil, (fun _ ha => nomatch ha), fun j a hj => by simp at hj⟩⟩
end

/-- a zip as zip() makes it, its two iterators at their first turn -/
structure ZNew (h : Heap) (z TI TO i1 i2 : Addr) (fp1 fp2 : List Addr) (St1 St2 : Nat → Heap → Prop) : Prop where
  z : IsZip h z TI TO .none
  ti : IsTupOf2 h TI (.ref i1) (.ref i2)
  to : ∃ p q, IsTupOf2 h TO p q
  a : St1 0 h
  b : St2 0 h
  old1 : ∀ b ∈ fp1, b < h.objs.size
  old2 : ∀ b ∈ fp2, b < h.objs.size
section
variable {prog : Program} {w : World} {A : Around} {E : Value → Shared → Prop} {s : Shared} {z TI TO S i1 i2 : Addr} {fp1 fp2 : List Addr} {xs ys : List Value} {St1 St2 : Nat → Heap → Prop}
theorem ZNew.low {h : Heap} (x : ZNew h z TI TO i1 i2 fp1 fp2 St1 St2) (s1 : Src prog w i1 fp1 xs St1) (s2 : Src prog w i2 fp2 ys St2) : ZLow z TI TO i1 i2 h.objs.size fp1 fp2 :=
  ⟨Heap.lt_size x.z, Heap.lt_size x.ti, (let ⟨_, _, e⟩ := x.to; Heap.lt_size e), x.old1 _ s1.me, x.old2 _ s2.me, fun m => Nat.lt_irrefl _ (x.old1 _ m), fun m => Nat.lt_irrefl _ (x.old2 _ m)⟩
theorem ZNew.up {h h' : Heap} (x : ZNew h z TI TO i1 i2 fp1 fp2 St1 St2) (s1 : Src prog w i1 fp1 xs St1) (s2 : Src prog w i2 fp2 ys St2) (hk : ∀ b o, b < h.objs.size → h.get? b = some o → h'.get? b = some o) :
    IsZip h' z TI TO .none ∧ IsTupOf2 h' TI (.ref i1) (.ref i2) ∧ (∃ p q, IsTupOf2 h' TO p q) ∧ St1 0 h' ∧ St2 0 h' := by
  obtain ⟨p, q, e⟩ := x.to
  exact ⟨hk _ _ (Heap.lt_size x.z) x.z, hk _ _ (Heap.lt_size x.ti) x.ti, ⟨p, q, hk _ _ (Heap.lt_size e) e⟩, (s1.dr { handled := none } rfl).frame _ _ _ x.a fun b hb o e => hk b o (x.old1 b hb) e, (s2.dr { handled := none } rfl).frame _ _ _ x.b fun b hb o e => hk b o (x.old2 b hb) e⟩
/-- what is behind: what was there and isn't the zip's own still is, the tuples lie behind S -/
structure ZEnd (h h' : Heap) (z TO i1 i2 lo : Addr) (xs ys : List Value) (as : List Addr) : Prop where
  keep : ∀ b o, b ≠ z → b ≠ TO → b ≠ i1 → b ≠ i2 → h.get? b = some o → h'.get? b = some o
  len : as.length = min xs.length ys.length
  g : ZG xs ys lo h' as
theorem zip_list {Q : Value → Shared → Prop} (hh : A.handled = none) (D : ZipSep2 z TI TO i1 i2 fp1 fp2) (s1 : Src prog w i1 fp1 xs St1) (s2 : Src prog w i2 fp2 ys St2) (hn : min xs.length ys.length ≤ sizeLine) (x : ZNew s.heap z TI TO i1 i2 fp1 fp2 St1 St2)
    (hQ : ∀ h' tk acc c as, ZEnd s.heap h' z TO i1 i2 s.heap.objs.size xs ys as → h'.get? s.heap.objs.size = some (newL acc c) → acc.toList = as.map Value.ref → Q (.ref s.heap.objs.size) { s with heap := h', toks := tk }) :
    wpAny (model prog w) A (call (.type "list") [.ref z]) Q E s := by
  have lo := x.low s1 s2
  refine callType_codes (Q₁ := fun obj s₁ => obj = .ref s.heap.objs.size ∧ s₁ = { s with heap := s.heap.push (newL #[] 0) }) PySem.F.called_list (PySem.F.typeCall_list_1 _) PySem.F.entry_list_init
    (code_list_new _ ⟨rfl, rfl⟩) fun obj s₁ made => ?_
  obtain ⟨rfl, rfl⟩ := made
  have hS : (s.heap.push (newL #[] 0)).get? s.heap.objs.size = some (newL #[] 0) := Heap.get?_push_size _ rfl
  (refine ⟨⟨_, hS, rfl⟩, PySem.F.args_list_init_2 _ _, ?_⟩)
  show wpAny _ _ (do let old ← Builtin.List.listItems (.ref s.heap.objs.size); Builtin.List.listUpdate (.ref s.heap.objs.size) (fun _ => #[]); letGo old.toList.reverse; Builtin.List.listExtendWith (.ref s.heap.objs.size) (.ref z) .none) _ _ _
  refine wpAny_bind ?_
  unfold Builtin.List.listItems
  (refine wpAny_bind (wpAny_seqItems hS rfl (wpAny_pure ?_)))
  show wpAny _ _ (updateSeq s.heap.objs.size (fun _ => #[]) >>= fun _ => letGo (#[] : Array Value).toList.reverse >>= fun _ => Builtin.List.listExtendWith (.ref s.heap.objs.size) (.ref z) .none) _ _ _
  (refine wpAny_bind (wpAny_updateSeq hS rfl ?_))
  have k2 := Heap.get?_update_self (Obj.mapSeq (fun _ => (#[] : Array Value))) hS rfl
  have oth : ∀ b o, b < s.heap.objs.size → s.heap.get? b = some o → ((s.heap.push (newL #[] 0)).update s.heap.objs.size (Obj.mapSeq (fun _ => (#[] : Array Value)))).get? b = some o :=
    fun b o hb e => (Heap.get?_update_other _ _ (Nat.ne_of_gt hb)).trans (Heap.get?_push_of_some _ e)
  obtain ⟨q1, q2, ⟨p, q, q3⟩, q4, q5⟩ := x.up s1 s2 oth
  (refine wpAny_bind (wpAny_letGo ?_))
  refine zs_extend (A := A.in1) hh D s1 s2 lo hn .none q1 q2 q3 q4 q5 _ k2 fun h' tk acc c as hk hS' hl hG hacc => ⟨rfl, ?_⟩
  exact hQ h' tk acc c as ⟨fun b o e2 e3 e4 e5 e => hk b o (Nat.ne_of_lt (Heap.lt_size e)) e2 e3 e4 e5 (oth b o (Heap.lt_size e) e), hl, hG⟩ hS' hacc
theorem zip_collect {R : List Value → Shared → Prop} (hh : A.handled = none) (D : ZipSep2 z TI TO i1 i2 fp1 fp2) (s1 : Src prog w i1 fp1 xs St1) (s2 : Src prog w i2 fp2 ys St2) (hn : min xs.length ys.length ≤ sizeLine) (x : ZNew s.heap z TI TO i1 i2 fp1 fp2 St1 St2)
    (hQ : ∀ h' tk as, ZEnd s.heap h' z TO i1 i2 s.heap.objs.size xs ys as → s.heap.objs.size < h'.objs.size → R (as.map Value.ref) { s with heap := h', toks := tk }) :
    wpAny (model prog w) A (collect (.ref z)) R E s := by
  have lo := x.low s1 s2
  unfold collect
  refine wpAny_bind (wpAny_runValue (codeAny_builtin PySem.F.entry_proto_collect ?_))
  (rw [Around.under_plainId PySem.F.plain_proto_collect _])
  show wpAny _ A.in1 (newList [] >>= fun l => again (.builtin "list.__iadd__" ⟨[l, .ref z], []⟩)) _ _ s
  refine wpAny_bind (wpAny_newObj_type (wpAny_pure ⟨plainId_quiet PySem.F.plain_list_iadd _, codeAny_builtin PySem.F.entry_list_iadd ?_⟩))
  (rw [Around.under_plainId PySem.F.plain_list_iadd _])
  have hS : (s.heap.push (newL ([] : List Value).toArray 0)).get? s.heap.objs.size = some (newL #[] 0) := Heap.get?_push_size _ rfl
  obtain ⟨q1, q2, ⟨p, q, q3⟩, q4, q5⟩ := x.up (h' := s.heap.push (newL ([] : List Value).toArray 0)) s1 s2 fun b o _ e => Heap.get?_push_of_some _ e
  show wpAny _ A.in1 (Builtin.List.listExtendWith (.ref s.heap.objs.size) (.ref z) (.ref s.heap.objs.size)) _ _ _
  have key := zs_extend (A := A) (s := { s with heap := s.heap.push (newL ([] : List Value).toArray 0) }) (R := fun (r : Result) (s' : Shared) => ∃ (h' : Heap) (tk : Nat) (acc : Array Value) (c : Nat) (as : List Addr), r = .ok (.ret (.ref s.heap.objs.size)) ∧ s' = { s with heap := h', toks := tk } ∧
      ZEnd s.heap h' z TO i1 i2 s.heap.objs.size xs ys as ∧ h'.get? s.heap.objs.size = some (newL acc c) ∧ acc.toList = as.map Value.ref) hh D s1 s2 lo hn (.ref s.heap.objs.size) q1 q2 q3 q4 q5 0 hS
    fun h' tk acc c as hk hS' hl hG hacc => ⟨h', tk, acc, c, as, rfl, rfl, ⟨fun b o e2 e3 e4 e5 e => hk b o (Nat.ne_of_lt (Heap.lt_size e)) e2 e3 e4 e5 (Heap.get?_push_of_some _ e), hl, hG⟩, hS', hacc⟩
  have fin : ∀ (h' : Heap) (tk : Nat) (acc : Array Value) (c : Nat) (as : List Addr), ZEnd s.heap h' z TO i1 i2 s.heap.objs.size xs ys as → h'.get? s.heap.objs.size = some (newL acc c) → acc.toList = as.map Value.ref →
      wpAny (model prog w) A (load s.heap.objs.size >>= fun o => match o.data with | .seq its _ => pure its.toList | _ => unsupported "internal:collect") R E { s with heap := h', toks := tk } := fun h' tk acc c as z1 hS' hacc => by
    refine wpAny_bind (wpAny_load hS' (wpAny_pure ?_))
    show R acc.toList _
    rw [hacc]
    exact hQ h' tk as z1 (Heap.lt_size hS')
  refine wpAny_mono key (fun r s' y => ?_) fun e s' y => ?_
  · cases r with
    | done f =>
      obtain ⟨h', tk, acc, c, as, e, rfl, z1, hS', hacc⟩ := y
      cases e
      exact fin h' tk acc c as z1 hS' hacc
    | again c1 =>
      refine ⟨y.1, codeAny_mono y.2 fun r s2 y => ?_⟩
      obtain ⟨h', tk, acc, c, as, rfl, rfl, z1, hS', hacc⟩ := y
      exact fin h' tk acc c as z1 hS' hacc
  · obtain ⟨_, _, _, _, _, e', _⟩ := y
    cases e'
theorem code_zip_tuple {Q₁ : Value → Shared → Prop} (hh : A.handled = none) (D : ZipSep2 z TI TO i1 i2 fp1 fp2) (s1 : Src prog w i1 fp1 xs St1) (s2 : Src prog w i2 fp2 ys St2) (hn : min xs.length ys.length ≤ sizeLine) (x : ZNew s.heap z TI TO i1 i2 fp1 fp2 St1 St2)
    (h : ∀ h' tk as, ZEnd s.heap h' z TO i1 i2 s.heap.objs.size xs ys as → s.heap.objs.size < h'.objs.size → Q₁ (.ref h'.objs.size) { s with heap := h'.push { cls := .type "tuple", data := .seq (as.map Value.ref).toArray }, toks := tk }) :
    codeAny (model prog w) A (.call (.builtin "tuple.__new__") ⟨[.type "tuple", .ref z], []⟩) (wants Q₁ E) s := by
  refine codeAny_of_tree ?_
  show wpAny _ A.in1 (do checkBuiltinCall "tuple.__new__" ⟨[.type "tuple", .ref z], []⟩; again (.builtin "tuple.__new__" ⟨[.type "tuple", .ref z], []⟩)) _ _ s
  (refine wpAny_bind (wpAny_of_eq (F.newCall_tuple_1 _) (wpAny_pure ⟨plainId_quiet F.plain_tuple_new _, codeAny_builtin F.entry_tuple_new ?_⟩)))
  (rw [Around.under_plainId F.plain_tuple_new _])
  have hsub := sub_tuple_self
  (have hinit := init_tuple_lookup)
  have hmh := madeHere_tuple
  have hTI : s.TypeIs (.ref z) "zip" := ⟨_, x.z, rfl⟩
  (have hh1 : A.in1.handled = none := hh)
  wp_walk using wpAny_typeOf hTI, zip_collect (A := A.in1) hh1 D s1 s2 hn x
  intro h' tk as z1 z2
  show wpAny _ _ (Builtin.Tuple.tupleExact (as.map Value.ref).toArray >>= fun v => ret v) _ _ _
  (unfold Builtin.Tuple.tupleExact)
  refine wpAny_bind (wpAny_newObj_type (wpAny_pure (h h' tk as z1 z2)) (by show (as.map Value.ref).toArray.size ≤ sizeLine; simp only [List.size_toArray, List.length_map]; rw [z1.len]; exact hn))
theorem zip_tuple {Q : Value → Shared → Prop} (hh : A.handled = none) (D : ZipSep2 z TI TO i1 i2 fp1 fp2) (s1 : Src prog w i1 fp1 xs St1) (s2 : Src prog w i2 fp2 ys St2) (hn : min xs.length ys.length ≤ sizeLine) (x : ZNew s.heap z TI TO i1 i2 fp1 fp2 St1 St2)
    (h : ∀ h' tk as, ZEnd s.heap h' z TO i1 i2 s.heap.objs.size xs ys as → s.heap.objs.size < h'.objs.size → Q (.ref h'.objs.size) { s with heap := h'.push { cls := .type "tuple", data := .seq (as.map Value.ref).toArray }, toks := tk }) :
    wpAny (model prog w) A (call (.type "tuple") [.ref z]) Q E s := by
  refine callType_codes (Q₁ := fun obj s₁ => s₁.TypeIs obj "tuple" ∧ Q obj s₁) F.called_tuple (F.typeCall_tuple_1 _) F.entry_object_init (code_zip_tuple (A := A.in1) hh D s1 s2 hn x fun h' tk as z1 z2 => ⟨⟨_, Heap.get?_push_size _ rfl, rfl⟩, h h' tk as z1 z2⟩) fun obj s₁ h₁ => ?_
  (exact ⟨h₁.1, F.args_object_init_2 obj _, object_init_meets F.called_tuple.init.lookup F.called_tuple.made (by decide) prog w A.in1 _ s₁ ⟨h₁.1, rfl, h₁.2⟩⟩)
end
end LF

set_option Elab.async false
set_option maxRecDepth 100000
namespace LF
open PySem PySem.Spec L2
/-! ### list(zip(a, b)), tuple(zip(a, b)): the rules -/
/-- iter(v) begins what goes through xs -/
structure Beg (h : Heap) (v : Value) (xs : List Value) (ad : Addr) (o : Obj) (Hh : Heap → Prop) : Prop where
  b : Begins v o Hh
  now : Hh h
  old : ad < h.objs.size
  src : ∀ prog w it, ad ≠ it → ∃ St, Src prog w it [it, ad] xs St ∧ ∀ h' : Heap, h'.get? it = some o → Hh h' → St 0 h'
theorem beg_list {h : Heap} {l : Addr} {xs : List Value} (hl : h.IsList l xs.toArray) : Beg h (.ref l) xs l { cls := .type "list_iterator", data := .fields #[.ref l, .int 0 0] } (fun h => h.IsList l xs.toArray) :=
  ⟨begins_list l _, hl, (let ⟨_, e, _⟩ := hl; Heap.lt_size e), fun prog w it ne => ⟨fun i h => h.IsListIter it l i ∧ h.IsList l xs.toArray,
    ⟨fun A hA => by simpa using Draws.list (prog := prog) (w := w) hA it l ne xs.toArray, by simp⟩, fun h' e hl' => ⟨⟨_, e, rfl, rfl⟩, hl'⟩⟩⟩
theorem beg_tup {h : Heap} {l : Addr} {xs : List Value} (hl : h.IsTuple l xs.toArray) : Beg h (.ref l) xs l { cls := .type "tuple_iterator", data := .fields #[.ref l, .int 0 0] } (fun h => h.IsTuple l xs.toArray) :=
  ⟨begins_tuple l _, hl, (let ⟨_, e, _⟩ := hl; Heap.lt_size e), fun prog w it ne => ⟨fun i h => h.IsTupleIter it l i ∧ h.IsTuple l xs.toArray,
    ⟨fun A hA => by simpa using Draws.tuple (prog := prog) (w := w) hA it l ne xs.toArray, by simp⟩, fun h' e hl' => ⟨⟨_, e, rfl, rfl⟩, hl'⟩⟩⟩
section
variable {prog : Program} {w : World} {A : Around} {s : Shared} {E : Value → Shared → Prop}
theorem zip_made {v1 v2 : Value} {xs ys : List Value} {a1 a2 : Addr} {o1 o2 : Obj} {H1 H2 : Heap → Prop} {Q : Value → Shared → Prop} (B1 : Beg s.heap v1 xs a1 o1 H1) (B2 : Beg s.heap v2 ys a2 o2 H2)
    (h : ∀ h' fp1 fp2 St1 St2, ZipSep2 (s.heap.objs.size + 4) (s.heap.objs.size + 2) (s.heap.objs.size + 3) s.heap.objs.size (s.heap.objs.size + 1) fp1 fp2 → Src prog w s.heap.objs.size fp1 xs St1 → Src prog w (s.heap.objs.size + 1) fp2 ys St2 →
      ZNew h' (s.heap.objs.size + 4) (s.heap.objs.size + 2) (s.heap.objs.size + 3) s.heap.objs.size (s.heap.objs.size + 1) fp1 fp2 St1 St2 → (∀ c o, s.heap.get? c = some o → h'.get? c = some o) → h'.objs.size = s.heap.objs.size + 5 → Q (.ref (s.heap.objs.size + 4)) { s with heap := h' }) : wpAny (model prog w) A (call (.type "zip") [v1, v2]) Q E s := by
  have l1 : (a1 : Nat) < s.heap.objs.size := B1.old
  have l2 : (a2 : Nat) < s.heap.objs.size := B2.old
  refine zip_begins2 B1.b B2.b B1.now B2.now fun h' z1 z2 z3 z4 z5 z6 k => ?_
  obtain ⟨St1, s1, b1⟩ := B1.src prog w s.heap.objs.size (Nat.ne_of_lt l1)
  obtain ⟨St2, s2, b2⟩ := B2.src prog w (s.heap.objs.size + 1) (Nat.ne_of_lt (Nat.lt_succ_of_lt l2))
  generalize s.heap.objs.size = n at *
  have n1 : ∀ k : Nat, n + k ≠ a1 := fun k => Nat.ne_of_gt (Nat.lt_of_lt_of_le l1 (Nat.le_add_right _ _))
  have n2 : ∀ k : Nat, n + k ≠ a2 := fun k => Nat.ne_of_gt (Nat.lt_of_lt_of_le l2 (Nat.le_add_right _ _))
  have m1 : n ≠ a1 := n1 0
  have m2 : n ≠ a2 := n2 0
  have d1 : ∀ k : Nat, n + (k + 1) ≠ n := fun k => Nat.ne_of_gt (Nat.lt_add_of_pos_right (Nat.succ_pos k))
  refine h h' _ _ St1 St2 ⟨?_, ?_, ?_, ?_, ?_, ?_, ?_, ?_, ?_, ?_, ?_, ?_, ?_⟩ s1 s2 ⟨z1, z2, ⟨_, _, z3⟩, b1 h' z4 (B1.b.keeps _ _ B1.now k), b2 h' z5 (B2.b.keeps _ _ B2.now k), ?_, ?_⟩ k z6
  case refine_14 =>
    intro b m
    simp only [List.mem_cons, List.not_mem_nil, or_false] at m
    rw [z6]
    rcases m with rfl | rfl
    · exact Nat.lt_add_of_pos_right (by decide)
    · exact Nat.lt_of_lt_of_le l1 (Nat.le_add_right _ _)
  case refine_15 =>
    intro b m
    simp only [List.mem_cons, List.not_mem_nil, or_false] at m
    rw [z6]
    rcases m with rfl | rfl
    · exact Nat.add_lt_add_left (by decide) n
    · exact Nat.lt_of_lt_of_le l2 (Nat.le_add_right _ _)
  all_goals simp [n1, n2, m1, m2]
end
/-! ### many things laid at once -/
def puts : Hp → List (Addr × HO) → Hp
  | H, [] => H
  | H, p :: L => puts (upd H p.1 p.2) L
theorem puts_off {b : Addr} : ∀ (L : List (Addr × HO)) (H : Hp), b ∉ L.map (·.1) → puts H L b = H b
  | [], _, _ => rfl
  | p :: L, H, h => by
    rw [List.map_cons, List.mem_cons, not_or] at h
    show puts (upd H p.1 p.2) L b = H b
    rw [puts_off L _ h.2, upd_ne h.1]
theorem puts_at : ∀ (L : List (Addr × HO)) (H : Hp) (p : Addr × HO), (L.map (·.1)).Nodup → p ∈ L → puts H L p.1 = some p.2
  | q :: L, H, p, hn, hp => by
    (rw [List.map_cons, List.nodup_cons] at hn)
    show puts (upd H q.1 q.2) L p.1 = some p.2
    (rcases List.mem_cons.mp hp with rfl | hp)
    · rw [puts_off L _ hn.1, upd_same]
    · exact puts_at L _ p hn.2 hp
theorem puts_app : ∀ (L M : List (Addr × HO)) (H : Hp), puts H (L ++ M) = puts (puts H L) M
  | [], _, _ => rfl
  | p :: L, M, H => puts_app L M _
section
variable {X : Cx} {pins : List (Addr × Obj)} {σ : L2.St} {H : Hp} {s : Shared} {h' : Heap}
theorem inv_puts {tk : Nat} (I : Inv X pins σ H s) (k : ∀ b o, s.heap.get? b = some o → h'.get? b = some o) (L : List (Addr × HO)) (hn : (L.map (·.1)).Nodup) (hb : ∀ b ∈ L.map (·.1), s.heap.objs.size ≤ b) (ok : ∀ p ∈ L, ∀ H1, ObjOk X.prog X.w H1 h' p.1 p.2) :
    Inv X pins σ (puts H L) { s with heap := h', toks := tk } := by
  have new : ∀ b ∈ L.map (·.1), H b = none := fun b m => I.hok.fresh (hb b m)
  have low : ∀ b o, s.heap.get? b = some o → b ∉ L.map (·.1) := fun b o e m => absurd (Heap.lt_size e) (Nat.not_lt.mpr (hb b m))
  have kp : ∀ b u, H b = some u → puts H L b = some u := fun b u e => by
    rw [puts_off L H fun m => by rw [new b m] at e; cases e]; exact e
  refine I.call' (ch := []) rfl ⟨fun b o q _ _ _ => k b o q, fun b o q _ _ _ => ⟨o.slots, k b o q⟩, fun b o q n _ => ?_, fun b o q _ => ⟨o, k b o q⟩, fun b xs q => kp b _ q, fun b o u q => kp b _ q, fun b ps q => ⟨#[], by rw [kp b _ q]; simp⟩⟩ (fun b u q => ?_) I.bare fun b z => by simp at z
  · rw [puts_off L H (low b o q)]; exact n
  · by_cases m : b ∈ L.map (·.1)
    · obtain ⟨p, hp, e⟩ := List.mem_map.mp m
      subst e
      rw [puts_at L H p hn hp] at q
      cases q
      exact ok p hp _
    · rw [puts_off L H m] at q
      exact (I.hok b u q).stay (fun d v _ y => k d v y) (fun d y => kp d _ y) fun d xs y => kp d _ y
end
def tupsAt (as : List Addr) (ps : List (V × V)) : List (Addr × HO) := List.zipWith (fun a p => (a, HO.tup [p.1, p.2])) as ps
theorem tupsAt_fst : ∀ (as : List Addr) (ps : List (V × V)), as.length = ps.length → (tupsAt as ps).map (·.1) = as
  | [], [], _ => rfl
  | [], _ :: _, h => by cases h
  | _ :: _, [], h => by cases h
  | a :: as, p :: ps, h => congrArg (a :: ·) (tupsAt_fst as ps (Nat.succ.inj h))
theorem tupsAt_mem {as : List Addr} {ps : List (V × V)} {q : Addr × HO} (h : q ∈ tupsAt as ps) : ∃ (j : Nat) (a : Addr) (p : V × V), as[j]? = some a ∧ ps[j]? = some p ∧ q = (a, .tup [p.1, p.2]) := by
  obtain ⟨j, hj⟩ := List.mem_iff_getElem?.mp h
  unfold tupsAt at hj
  rw [List.getElem?_zipWith] at hj
  cases ea : as[j]? with
  | none => rw [ea] at hj; cases hj
  | some a => cases ep : ps[j]? with
    | none => rw [ea, ep] at hj; cases hj
    | some p =>
      rw [ea, ep] at hj
      exact ⟨j, a, p, ea, ep, (Option.some.inj hj).symm⟩
def pairD (d e : D) : D := .tup [d, e]
section
variable {K : PySem.W.Frag} {mg : Str → Option Value}
theorem rs_tups : ∀ (as : List Addr) (vs us : List V) (ds es : List D) (W : Wd) (cs : Cs) (H : Hp), RS K mg W cs H → as.Nodup → (∀ a ∈ as, H a = none) → as.length = (vs.zip us).length → Reps K W vs ds → Reps K W us es →
    ∃ W1, Step W H W1 (puts H (tupsAt as (vs.zip us))) ∧ RS K mg W1 cs (puts H (tupsAt as (vs.zip us))) ∧ Reps K W1 (as.map V.ref) (List.zipWith pairD ds es)
  | [], vs, us, ds, es, W, cs, H, S, _, _, hl, r1, r2 => by
    refine ⟨W, Step.refl _ _, S, ?_⟩
    have e : List.zipWith pairD ds es = [] := List.length_eq_zero_iff.mp (by
      have h1 := r1.length; have h2 := r2.length
      rw [List.length_zip] at hl
      rw [List.length_zipWith]
      simp only [List.length_nil] at hl
      omega)
    rw [e]; exact .nil
  | a :: as, [], _, _, _, _, _, _, _, _, _, hl, _, _ => by simp at hl
  | a :: as, _ :: _, [], _, _, _, _, _, _, _, _, hl, _, _ => by simp at hl
  | a :: as, v :: vs, u :: us, _, _, W, cs, H, S, hn, hf, hl, .cons p1 t1, .cons p2 t2 => by
    (have hn' := List.nodup_cons.mp hn)
    have fa := hf a (.head _)
    have st := Step.froze (u := .tup [v, u]) S fa
    have S1 := RS.froze (u := .tup [v, u]) S fa
    obtain ⟨W1, st1, S2, r⟩ := rs_tups as vs us _ _ _ cs _ S1 hn'.2 (fun b m => (upd_ne fun z => hn'.1 (by rw [← z]; exact m)).trans (hf b (.tail _ m))) (by simpa using hl) (t1.mono st.le) (t2.mono st.le)
    refine ⟨W1, st.trans st1, S2, .cons ?_ r⟩
    refine Rep.mono st1.le ?_
    refine Rep.tup (vs := [v, u]) (show upd W.fz a (.tup [v, u]) a = some (.tup [v, u]) from upd_same) (by show 2 ≤ sizeLine; decide) ?_
    exact .cons (p1.mono st.le) (.cons (p2.mono st.le) .nil)
end
/-- a list or a tuple, whatever -/
def anyL (cs : Cs) (d : D) : Option (List D) := match d with
  | .tup xs => some xs
  | d => seqL cs d
def bZipL (ds : List D) (cs : Cs) : Res D := match ds with
  | [d, e] => match anyL cs d, anyL cs e with
    | some xs, some ys => .ok (.lst (List.zipWith pairD xs ys)) cs
    | _, _ => .bad
  | _ => .bad
def bZipT (ds : List D) (cs : Cs) : Res D := match ds with
  | [d, e] => match anyL cs d, anyL cs e with
    | some xs, some ys => .ok (.tup (List.zipWith pairD xs ys)) cs
    | _, _ => .bad
  | _ => .bad
theorem beg_of {X : Cx} {pins : List (Addr × Obj)} {σ : L2.St} {H : Hp} {s : Shared} (I : Inv X pins σ H s) {W : Wd} {cs : Cs} {v : V} {d : D} {u : Value} {ds : List D} (S : RS X.K X.mg W cs H) (r : Rep X.K W v d) (rv : RelV v u) (h : anyL cs d = some ds) :
    ∃ vs xs a o Hh, Beg s.heap u xs a o Hh ∧ Vals vs xs ∧ Reps X.K W vs ds ∧ vs.length ≤ sizeLine := by
  by_cases q : ∃ es, d = .tup es
  · obtain ⟨es, rfl⟩ := q
    have h : some es = some ds := h
    cases h
    cases r with
    | @tup a vs _ h1 hl r1 =>
      obtain rfl : u = .ref a := rv
      obtain ⟨its, rr, pl, hz⟩ := I.tuple (.of (S.fzt h1))
      exact ⟨vs, its, a, _, _, beg_tup pl, rr, r1, hz⟩
  · have h : seqL cs d = some ds := by
      cases d
      case tup es => exact (q ⟨es, rfl⟩).elim
      all_goals exact h
    obtain ⟨a, vs, rfl, h1, hl, r1⟩ := view_seqL S r h
    obtain rfl : u = .ref a := rv
    obtain ⟨its, rr, pl, hz⟩ := I.list h1
    exact ⟨vs, its, a, _, _, beg_list pl.isList, rr, r1, hz⟩
theorem boot_zipTy : bootBuiltins "zip" = some (.type "zip") := by decide +kernel
theorem boot_listT : bootBuiltins "list" = some (.type "list") := by decide +kernel
theorem boot_tupleT : bootBuiltins "tuple" = some (.type "tuple") := by decide +kernel
theorem paired_at {α β : Type} {F : α → β → Prop} : ∀ {xs : List α} {ys : List β}, Paired F xs ys → ∀ {i : Nat} {x : α}, xs[i]? = some x → ∃ y, ys[i]? = some y ∧ F x y
  | _, _, .nil, i, x, h => by simp at h
  | _, _, .cons r t, 0, x, h => by simp at h; subst h; exact ⟨_, rfl, r⟩
  | _, _, .cons r t, i + 1, x, h => by simpa using paired_at (i := i) t (by simpa using h)
theorem vals_get {vs : List V} {us : List Value} (r : Vals vs us) {j : Nat} {v : V} {u : Value} (h1 : vs[j]? = some v) (h2 : us[j]? = some u) : RelV v u := by
  obtain ⟨u', e, q⟩ := paired_at r h1
  rw [h2] at e; cases e; exact q
theorem get_zip {vs us : List V} {j : Nat} {p : V × V} (h : (vs.zip us)[j]? = some p) : vs[j]? = some p.1 ∧ us[j]? = some p.2 := by
  rw [List.getElem?_zip_eq_some] at h
  exact h
section
variable {X : Cx} {pins : List (Addr × Obj)} {σ : L2.St} {H : Hp} {s : Shared} {h1 h2 : Heap} {xs ys : List Value} {vs us : List V} {as : List Addr}
theorem zip_keep (k : ∀ c o, s.heap.get? c = some o → h1.get? c = some o) (z : ZEnd h1 h2 (s.heap.objs.size + 4) (s.heap.objs.size + 3) s.heap.objs.size (s.heap.objs.size + 1) h1.objs.size xs ys as) : ∀ c o, s.heap.get? c = some o → h2.get? c = some o := fun c o e => by
  have l := Heap.lt_size e
  exact z.keep c o (Nat.ne_of_lt (Nat.lt_of_lt_of_le l (Nat.le_add_right _ _))) (Nat.ne_of_lt (Nat.lt_of_lt_of_le l (Nat.le_add_right _ _))) (Nat.ne_of_lt l) (Nat.ne_of_lt (Nat.lt_succ_of_lt l)) (k c o e)
theorem zip_oks (z : ZEnd h1 h2 (s.heap.objs.size + 4) (s.heap.objs.size + 3) s.heap.objs.size (s.heap.objs.size + 1) h1.objs.size xs ys as) (r1 : Vals vs xs) (r2 : Vals us ys) : ∀ p ∈ tupsAt as (vs.zip us), ∀ H1, ObjOk X.prog X.w H1 h2 p.1 p.2 := fun p hp H1 => by
  obtain ⟨j, a, q, e1, e2, rfl⟩ := tupsAt_mem hp
  obtain ⟨u, v, f1, f2, f3⟩ := z.g.pairs j a e1
  obtain ⟨g1, g2⟩ := get_zip e2
  exact ⟨by show 2 ≤ sizeLine; decide, [u, v], .cons (vals_get r1 g1 f1) (.cons (vals_get r2 g2 f2) .nil), ⟨_, f3, rfl, _, rfl⟩⟩
theorem nodup_rise {as : List Addr} (h : as.Pairwise (· < ·)) : as.Nodup := List.Pairwise.imp (fun {a b} (h : a < b) => Nat.ne_of_lt h) h
end
theorem sq_refs : ∀ as : List Addr, Vals (as.map V.ref) (as.map Value.ref)
  | [] => .nil
  | _ :: as => .cons rfl (sq_refs as)
section
variable {X : Cx} {Z : WX} {a b : Expr} {t : SA} {p p2 pos pos2 : Pos}
theorem fe_listZip (hml : X.mg "list" = none) (hmz : X.mg "zip" = none) (ha : FA X Z [a, b] t) (hg1 : Gl X "list" := by rfl) (hg2 : Gl X "zip" := by rfl) (hc : X.calm = true := by rfl) (he : starEach [a, b] X.env = (false, eval a X.env) :: starEach [b] X.env := by rfl) (hpl : (backTo pos2 (starEach [b] X.env)).any (·.1) = false := by rfl)
    (hs : starEach [.Call (.Name "zip" p2) [a, b] [] pos2] X.env = (false, eval (.Call (.Name "zip" p2) [a, b] [] pos2) X.env) :: starEach [] X.env := by rfl) :
    FE X Z (.Call (.Name "list" p) [.Call (.Name "zip" p2) [a, b] [] pos2] [] pos) (eN bZipL t) := by
  refine ⟨fun pins s σ H Q I ⟨W, sl, cs, S, L, q⟩ => ?_⟩
  refine wpAny_Call_Name_kw (ld_blt I hg1 hml boot_listT (PyProof.Rows.callWith_type1 ?_ hs rfl))
  rw [hs]
  show wpAny _ _ (spliced ((false, eval (.Call (.Name "zip" p2) [a, b] [] pos2) X.env) :: backTo pos (starEach [] X.env))) _ _ s
  refine Calls.spliced_cons (wpAny_Call_Name_kw (ld_blt I hg2 hmz boot_zipTy ?_))
  refine PyProof.Rows.callWith_type1 (thn (ha.run pos2 pins s σ H (fun b H1 => ∃ W1 d cs1, RS X.K X.mg W1 cs1 H1 ∧ Reps X.K W1 b d ∧ Fin X.K X.mg (Rep X.K) Z W1 σ H1 (bZipL d cs1) Q) I (up_bind (R1 := Reps X.K) S L q fun W1 d cs1 x H1 st1 S1 L1 r1 q1 => ⟨W1, d, cs1, S1, r1, q1⟩)) fun us s1 ⟨vs, H1, I1, rv, W1, ds, cs1, S1, r1, q1⟩ => ?_) he hpl
  unfold bZipL at q1
  split at q1
  · rename_i d e
    obtain ⟨v1, v2, rfl, ra, rb⟩ := reps2 r1
    split at q1
    · rename_i ds1 ds2 e1 e2
      cases rv with | cons ru rv =>
      cases rv with | cons rw' rv =>
      cases rv
      obtain ⟨vs1, xs1, a1, o1, Hh1, B1, w1, p1, l1⟩ := beg_of I1 S1 ra ru e1
      obtain ⟨vs2, xs2, a2, o2, Hh2, B2, w2, p2, l2⟩ := beg_of I1 S1 rb rw' e2
      have m1 := w1.length
      have m2 := w2.length
      refine zip_made B1 B2 fun h' fp1 fp2 St1 St2 D s1' s2' x k hz => Calls.spliced_nil ?_
      refine zip_list (s := { s1 with heap := h' }) (I1.ok.hd hc) D s1' s2' (by omega) x fun h2 tk acc c as z hS hacc => ?_
      have nd := nodup_rise z.g.rise
      have hl : as.length = (vs1.zip vs2).length := by rw [List.length_zip, z.len, m1, m2]
      have far : ∀ b ∈ as, s1.heap.objs.size ≤ b := fun b m => by
        have := z.g.above b m
        have hz' : h'.objs.size = s1.heap.objs.size + 5 := hz
        have : h'.objs.size < b := this
        exact Nat.le_of_lt (Nat.lt_of_le_of_lt (by rw [hz']; exact Nat.le_add_right _ _) this)
      have fS : s1.heap.objs.size ≤ h'.objs.size := by rw [hz]; exact Nat.le_add_right _ _
      have nS : h'.objs.size ∉ as := fun m => Nat.lt_irrefl _ (z.g.above _ m)
      have fst : (tupsAt as (vs1.zip vs2) ++ [(h'.objs.size, HO.lst (as.map V.ref))]).map (·.1) = as ++ [h'.objs.size] := by rw [List.map_append, tupsAt_fst _ _ hl]; rfl
      have J := inv_puts (tk := tk) I1 (zip_keep k z) (tupsAt as (vs1.zip vs2) ++ [(h'.objs.size, HO.lst (as.map V.ref))]) (by
          rw [fst]
          exact List.nodup_append.mpr ⟨nd, (by simp), fun y hy y' hy' e => nS (by rw [List.mem_singleton] at hy'; rw [← hy', ← e]; exact hy)⟩) (by
          rw [fst]
          intro y hy
          (rcases List.mem_append.mp hy with hy | hy)
          · exact far y hy
          · rw [List.mem_singleton.mp hy]; exact fS) (fun y hy H2 => by
          (rcases List.mem_append.mp hy with hy | hy)
          · exact zip_oks z w1 w2 y hy H2
          · rw [List.mem_singleton.mp hy]
            refine ⟨by rw [List.length_map, z.len]; omega, as.map Value.ref, c, sq_refs as, ?_⟩
            rw [← hacc, Array.toArray_toList]
            exact hS)
      obtain ⟨W2, st2, S2, r2⟩ := rs_tups as vs1 vs2 _ _ W1 cs1 H1 S1 nd (fun y hy => I1.hok.fresh (far y hy)) hl p1 p2
      have eS : puts H1 (tupsAt as (vs1.zip vs2)) h'.objs.size = none := by
        rw [puts_off _ _ (by rw [tupsAt_fst _ _ hl]; exact nS)]
        exact I1.hok.fresh fS
      have st3 := Step.froze (u := .lst (as.map V.ref)) S2 eS
      refine ⟨.ref h'.objs.size, _, J, rfl, ?_⟩
      rw [puts_app]
      exact q1 _ _ _ (st2.trans st3) (RS.froze S2 eS) (.lst (vs := as.map V.ref) (show upd W2.fz h'.objs.size (.lst (as.map V.ref)) h'.objs.size = some (.lst (as.map V.ref)) from upd_same) (by rw [List.length_map, z.len]; omega) (r2.mono st3.le))
    · exact q1.elim
  · exact q1.elim
theorem fe_tupZip (hml : X.mg "tuple" = none) (hmz : X.mg "zip" = none) (ha : FA X Z [a, b] t) (hg1 : Gl X "tuple" := by rfl) (hg2 : Gl X "zip" := by rfl) (hc : X.calm = true := by rfl) (he : starEach [a, b] X.env = (false, eval a X.env) :: starEach [b] X.env := by rfl) (hpl : (backTo pos2 (starEach [b] X.env)).any (·.1) = false := by rfl)
    (hs : starEach [.Call (.Name "zip" p2) [a, b] [] pos2] X.env = (false, eval (.Call (.Name "zip" p2) [a, b] [] pos2) X.env) :: starEach [] X.env := by rfl) :
    FE X Z (.Call (.Name "tuple" p) [.Call (.Name "zip" p2) [a, b] [] pos2] [] pos) (eN bZipT t) := by
  refine ⟨fun pins s σ H Q I ⟨W, sl, cs, S, L, q⟩ => ?_⟩
  refine wpAny_Call_Name_kw (ld_blt I hg1 hml boot_tupleT (PyProof.Rows.callWith_type1 ?_ hs rfl))
  rw [hs]
  show wpAny _ _ (spliced ((false, eval (.Call (.Name "zip" p2) [a, b] [] pos2) X.env) :: backTo pos (starEach [] X.env))) _ _ s
  refine Calls.spliced_cons (wpAny_Call_Name_kw (ld_blt I hg2 hmz boot_zipTy ?_))
  refine PyProof.Rows.callWith_type1 (thn (ha.run pos2 pins s σ H (fun b H1 => ∃ W1 d cs1, RS X.K X.mg W1 cs1 H1 ∧ Reps X.K W1 b d ∧ Fin X.K X.mg (Rep X.K) Z W1 σ H1 (bZipT d cs1) Q) I (up_bind (R1 := Reps X.K) S L q fun W1 d cs1 x H1 st1 S1 L1 r1 q1 => ⟨W1, d, cs1, S1, r1, q1⟩)) fun us s1 ⟨vs, H1, I1, rv, W1, ds, cs1, S1, r1, q1⟩ => ?_) he hpl
  unfold bZipT at q1
  split at q1
  · rename_i d e
    obtain ⟨v1, v2, rfl, ra, rb⟩ := reps2 r1
    split at q1
    · rename_i ds1 ds2 e1 e2
      cases rv with | cons ru rv =>
      cases rv with | cons rw' rv =>
      cases rv
      obtain ⟨vs1, xs1, a1, o1, Hh1, B1, w1, p1, l1⟩ := beg_of I1 S1 ra ru e1
      obtain ⟨vs2, xs2, a2, o2, Hh2, B2, w2, p2, l2⟩ := beg_of I1 S1 rb rw' e2
      have m1 := w1.length
      have m2 := w2.length
      refine zip_made B1 B2 fun h' fp1 fp2 St1 St2 D s1' s2' x k hz => Calls.spliced_nil ?_
      refine zip_tuple (s := { s1 with heap := h' }) (I1.ok.hd hc) D s1' s2' (by omega) x fun h2 tk as z hS => ?_
      have nd := nodup_rise z.g.rise
      have hl : as.length = (vs1.zip vs2).length := by rw [List.length_zip, z.len, m1, m2]
      have far : ∀ b ∈ as, s1.heap.objs.size ≤ b := fun b m => by
        have hz' : h'.objs.size = s1.heap.objs.size + 5 := hz
        have : h'.objs.size < b := z.g.above b m
        exact Nat.le_of_lt (Nat.lt_of_le_of_lt (by rw [hz']; exact Nat.le_add_right _ _) this)
      have fst : (tupsAt as (vs1.zip vs2)).map (·.1) = as := tupsAt_fst _ _ hl
      have J := inv_puts (tk := tk) I1 (zip_keep k z) (tupsAt as (vs1.zip vs2)) (by rw [fst]; exact nd) (by rw [fst]; exact far) (zip_oks z w1 w2)
      obtain ⟨W2, st2, S2, r2⟩ := rs_tups as vs1 vs2 _ _ W1 cs1 H1 S1 nd (fun y hy => I1.hok.fresh (far y hy)) hl p1 p2
      have ln : (as.map V.ref).length ≤ sizeLine := by rw [List.length_map, z.len]; omega
      have eS : puts H1 (tupsAt as (vs1.zip vs2)) h2.objs.size = none := J.hok.fresh (Nat.le_refl _)
      have J2 : Inv X pins σ (upd (puts H1 (tupsAt as (vs1.zip vs2))) h2.objs.size (.tup (as.map V.ref))) { s1 with heap := h2.push { cls := .type "tuple", data := .seq (as.map Value.ref).toArray }, toks := tk } :=
        J.laid (t' := tk) (fun b o e => Heap.get?_push_of_some _ e) (Nat.le_refl _) (show ObjOk X.prog X.w _ _ _ (.tup (as.map V.ref)) from ⟨ln, _, sq_refs as, PyProof.Rows.IsTup.new _ _⟩)
      have st3 := Step.froze (u := .tup (as.map V.ref)) S2 eS
      exact ⟨.ref h2.objs.size, _, J2, rfl, q1 _ _ _ (st2.trans st3) (RS.froze S2 eS) (.tup (vs := as.map V.ref) (show upd W2.fz h2.objs.size (.tup (as.map V.ref)) h2.objs.size = some (.tup (as.map V.ref)) from upd_same) ln (r2.mono st3.le))⟩
    · exact q1.elim
  · exact q1.elim
end
end LF

set_option Elab.async false
namespace GF
/-! ### ranks, and tables told by pairs -/
theorem dec_down {a : Nat} {l : List Nat} (D : Dec (a :: l)) {n : Nat} : Sp l n ↔ Sp (a :: l) n ∧ n < 2 ^ a.log2 := by
  constructor
  · intro h
    exact ⟨.skip h, sp_lt D.low h⟩
  · rintro ⟨h, hl⟩
    rcases sp_cons.mp h with h | h
    · exact h
    · exfalso
      have h1 := sp_lt D.low h
      have h2 : (n ^^^ a).testBit a.log2 = true := by
        rw [xb, Nat.testBit_lt_two_pow hl, top_bit (D.pos a (List.mem_cons_self ..))]; rfl
      rw [Nat.testBit_lt_two_pow h1] at h2
      cases h2
/-- rows of unlike highest bits that sum to the same are as many -/
theorem dec_same_len : ∀ {l m : List Nat}, Dec l → Dec m → Same l m → l.length = m.length
  | [], [], _, _, _ => rfl
  | [], b :: m, _, D, S => absurd (sp_nil.mp ((S b).mpr (.mem (List.mem_cons_self ..)))) (D.pos b (List.mem_cons_self ..))
  | a :: l, [], D, _, S => absurd (sp_nil.mp ((S a).mp (.mem (List.mem_cons_self ..)))) (D.pos a (List.mem_cons_self ..))
  | a :: l, b :: m, D, D', S => by
    have top : ∀ {a b : Nat} {l m : List Nat}, Dec (a :: l) → Dec (b :: m) → Sp (b :: m) a → a.log2 ≤ b.log2 := fun {a b l m} D D' h => by
      obtain ⟨c, hc, e⟩ := dec_top D' h (D.pos a (List.mem_cons_self ..))
      (rcases List.mem_cons.mp hc with rfl | hc)
      · omega
      · have := (List.pairwise_cons.mp D'.dec).1 c hc
        omega
    have e : a.log2 = b.log2 := Nat.le_antisymm (top D D' ((S a).mp (.mem (List.mem_cons_self ..)))) (top D' D ((S b).mpr (.mem (List.mem_cons_self ..))))
    have : Same l m := fun n => by rw [dec_down D, dec_down D', S n, e]
    rw [List.length_cons, List.length_cons, dec_same_len D.tail D'.tail this]
theorem exists_sorted (l : List (Nat × Nat)) : ∃ g : List (Nat × Nat), g.Perm l ∧ (g.map (·.1)).Pairwise (· ≥ ·) := by
  refine ⟨l.mergeSort fun p q => decide (q.1 ≤ p.1), List.mergeSort_perm _ _, List.pairwise_map.mpr ?_⟩
  refine (List.pairwise_mergeSort (le := fun p q : Nat × Nat => decide (q.1 ≤ p.1)) (fun a b c h1 h2 => ?_) (fun a b => ?_) l).imp fun h => ?_
  · simp only [decide_eq_true_eq] at *; omega
  · simp only [Bool.or_eq_true, decide_eq_true_eq]; omega
  · simpa using h
section
variable {T : Nat → Nat} (hT : ∀ a b, T (a ^^^ b) = T a ^^^ T b)
include hT
theorem sp_map {l : List Nat} {x : Nat} : Sp (l.map T) x ↔ ∃ n, Sp l n ∧ x = T n := by
  constructor
  · intro h
    induction l generalizing x with
    | nil => exact ⟨0, .nil, by rw [sp_nil.mp h, lin_zero hT]⟩
    | cons a l ih =>
      rw [List.map_cons] at h
      rcases sp_cons.mp h with h | h
      · obtain ⟨n, h1, e⟩ := ih h
        exact ⟨n, .skip h1, e⟩
      · obtain ⟨n, h1, e⟩ := ih h
        refine ⟨n ^^^ a, .take h1, ?_⟩
        rw [hT, ← e, xself]
  · rintro ⟨n, h, rfl⟩
    induction h with
    | nil => rw [lin_zero hT]; exact .nil
    | skip _ ih => exact .skip ih
    | take _ ih => rw [hT]; exact .take ih
/-- the way to what is lost, run to its end -/
theorem kr_run {bs : List Nat} (R : Red bs) : ∀ (pre post : List Nat), bs = pre ++ post → (∃ known lost, Kr T pre known lost ∧ known.length + lost.length = pre.length ∧ ∀ y ∈ lost, y ≠ 0) → ∃ known lost, Kr T bs known lost ∧ known.length + lost.length = bs.length ∧ ∀ y ∈ lost, y ≠ 0
  | pre, [], e, h => by rw [List.append_nil] at e; rw [e]; exact h
  | pre, t :: post, e, ⟨known, lost, k, kl, k0⟩ => by
    refine kr_run R (pre ++ [t]) post (by rw [e, List.append_assoc]; rfl) ?_
    by_cases hc : (clr2 (T t, t) known).1 = 0
    · refine ⟨known, lost ++ [(clr2 (T t, t) known).2], k.lose hT hc, by rw [List.length_append, List.length_append, List.length_singleton, List.length_singleton]; omega, fun y hy => ?_⟩
      rcases List.mem_append.mp hy with q | q
      · exact k0 y q
      · rw [List.mem_singleton.mp q]
        intro z
        have s1 := (clr2_sp known (T t, t)).snd
        have s2 : Sp pre (t ^^^ (clr2 (T t, t) known).2) := (k.same _).mpr (sp_left s1)
        rw [z, Nat.xor_zero] at s2
        exact red_indep (e ▸ R) s2
    · obtain ⟨g, gp, gs⟩ := exists_sorted (known ++ [clr2 (T t, t) known])
      have gl := gp.length_eq
      rw [List.length_append, List.length_singleton] at gl
      exact ⟨g, lost, k.keep hT hc gp gs, by rw [List.length_append, List.length_singleton]; omega, k0⟩
/-- as many as before, just where nothing but 0 becomes 0 -/
theorem rank_ker {ns bs fs : List Nat} (B : Basis ns bs) (F : Basis (ns.map T) fs) : (fs.length < bs.length ∧ ∃ n, Sp bs n ∧ n ≠ 0 ∧ T n = 0) ∨ (fs.length = bs.length ∧ ∀ n, Sp bs n → T n = 0 → n = 0) := by
  obtain ⟨known, lost, k, kl, k0⟩ := kr_run hT B.red [] bs rfl ⟨[], [], Kr.start T, rfl, by simp⟩
  have S : Same (known.map (·.1)) fs := fun x => by
    constructor
    · intro h
      obtain ⟨y, hy⟩ := sp2_fst h
      rw [k.pair hT hy]
      refine (F.same _).mp ((sp_map hT).mpr ⟨y, (B.same y).mpr ((k.same y).mpr (sp_left hy.snd)), rfl⟩)
    · intro h
      obtain ⟨n, hn, rfl⟩ := (sp_map hT).mp ((F.same x).mpr h)
      obtain ⟨u, v, h1, h2, e⟩ := sp_app ((k.same n).mp ((B.same n).mp hn))
      obtain ⟨x, hx⟩ := sp2_snd h1
      have ex := k.pair hT hx
      rw [e, hT, (k.ker hT |>.mp h2).2, Nat.xor_zero, ← ex]
      exact hx.fst
  have el := dec_same_len k.ech F.dec S
  rw [List.length_map] at el
  cases lost with
  | nil =>
    refine .inr ⟨by rw [List.length_nil] at kl; omega, fun n hn h0 => ?_⟩
    exact sp_nil.mp ((k.ker hT).mpr ⟨hn, h0⟩)
  | cons y lost =>
    refine .inl ⟨by rw [List.length_cons] at kl; omega, y, ?_⟩
    have := (k.ker hT).mp (.mem (a := y) (List.mem_cons_self ..))
    exact ⟨this.1, k0 y (List.mem_cons_self ..), this.2⟩
end
/-! ### pairs cleared by one another -/
structure Gr (seen known : List (Nat × Nat)) : Prop where
  ech : Dec (known.map (·.1))
  sub : ∀ p ∈ known, Sp2 seen p.1 p.2
  sup : ∀ p ∈ seen, Sp2 known p.1 p.2
theorem Gr.start : Gr [] [] := ⟨⟨by simp, .nil⟩, by simp, by simp⟩
theorem sp2_left {l m : List (Nat × Nat)} {x y : Nat} (h : Sp2 l x y) : Sp2 (l ++ m) x y := Sp2.sub (fun p hp => .mem (List.mem_append_left _ hp)) h
theorem Gr.same {seen known : List (Nat × Nat)} (G : Gr seen known) {x y : Nat} : Sp2 seen x y ↔ Sp2 known x y := ⟨Sp2.sub G.sup, Sp2.sub G.sub⟩
theorem Gr.clear {seen known : List (Nat × Nat)} (G : Gr seen known) (p : Nat × Nat) : Sp2 (seen ++ [p]) (clr2 p known).1 (clr2 p known).2 := by
  have h := sp2_left (m := [p]) (G.same.mpr (clr2_sp known p))
  have := h.add (.mem (p := p) (List.mem_append_right _ (List.mem_singleton.mpr rfl)))
  rwa [Nat.xor_comm p.1, Nat.xor_comm p.2, xself, xself] at this
theorem Gr.keep {seen known g : List (Nat × Nat)} (G : Gr seen known) {p : Nat × Nat} (h : (clr2 p known).1 ≠ 0) (gp : g.Perm (known ++ [clr2 p known])) (gs : (g.map (·.1)).Pairwise (· ≥ ·)) : Gr (seen ++ [p]) g := by
  have e1 := clr2_fst known p
  have up : ∀ {x y}, Sp2 known x y → Sp2 g x y := fun h => Sp2.sub (fun q hq => .mem (gp.mem_iff.mpr (List.mem_append_left _ hq))) h
  refine ⟨?_, fun q hq => ?_, fun q hq => ?_⟩
  · refine dec_more G.ech (n := p.1) (by rw [← e1]; exact h) ?_ gs
    have := gp.map (·.1)
    rw [List.map_append, List.map_singleton, e1] at this
    exact this
  · rcases List.mem_append.mp (gp.mem_iff.mp hq) with z | z
    · exact sp2_left (G.sub q z)
    · rw [List.mem_singleton.mp z]; exact G.clear p
  · rcases List.mem_append.mp hq with z | z
    · exact up (G.sup q z)
    · (rw [List.mem_singleton.mp z])
      have h := up (clr2_sp known p)
      have := h.add (.mem (p := clr2 p known) (gp.mem_iff.mpr (List.mem_append_right _ (List.mem_singleton.mpr rfl))))
      rwa [xself, xself] at this
/-- what is 0 and goes along with 0 -/
theorem Gr.skip {seen known : List (Nat × Nat)} (G : Gr seen known) {p : Nat × Nat} (h : Sp2 known p.1 p.2) : Gr (seen ++ [p]) known := by
  refine ⟨G.ech, fun q hq => sp2_left (G.sub q hq), fun q hq => ?_⟩
  rcases List.mem_append.mp hq with z | z
  · exact G.sup q z
  · rw [List.mem_singleton.mp z]; exact h
theorem clr2_none {known : List (Nat × Nat)} {p : Nat × Nat} (h : (clr2 p known).1 = 0) : Sp2 known p.1 (p.2 ^^^ (clr2 p known).2) := by
  have := clr2_sp known p
  rwa [h, Nat.xor_zero] at this
theorem Gr.len {seen known : List (Nat × Nat)} (G : Gr seen known) {k : Nat} (h : ∀ p ∈ seen, p.1 < 2 ^ k) : known.length ≤ k := by
  have := dec_len (k := k) G.ech fun b hb => by
    obtain ⟨p, hp, rfl⟩ := List.mem_map.mp hb
    refine sp_lt (fun b hb => ?_) (G.sub p hp).fst
    (obtain ⟨q, hq, rfl⟩ := List.mem_map.mp hb)
    exact h q hq
  rwa [List.length_map] at this
/-- no sum becomes two things -/
def One (ps : List (Nat × Nat)) : Prop := ∀ y, Sp2 ps 0 y → y = 0
theorem Gr.one {seen known : List (Nat × Nat)} (G : Gr seen known) : One seen := fun y h => sp2_zero G.ech (G.same.mp h)
theorem One.fn {ps : List (Nat × Nat)} (h : One ps) {x y z : Nat} (h1 : Sp2 ps x y) (h2 : Sp2 ps x z) : y = z := by
  have := h1.add h2
  rw [Nat.xor_self] at this
  have e := h _ this
  have := congrArg (· ^^^ z) e
  rw [xself, Nat.zero_xor] at this
  exact this
end GF

set_option Elab.async false
set_option maxRecDepth 100000
namespace LF
open PySem PySem.Spec L2 GF
/-! ### running zips -/
section
variable {cs : Cs} {d e : D} {xs ys : List D}
theorem r_zipL (h1 : anyL cs d = some xs) (h2 : anyL cs e = some ys) : bZipL [d, e] cs = .ok (.lst (List.zipWith pairD xs ys)) cs := by
  unfold bZipL
  simp only [h1, h2]
theorem r_zipT (h1 : anyL cs d = some xs) (h2 : anyL cs e = some ys) : bZipT [d, e] cs = .ok (.tup (List.zipWith pairD xs ys)) cs := by
  unfold bZipT
  simp only [h1, h2]
theorem r_zipLLL : bZipL [.lst xs, .lst ys] cs = .ok (.lst (List.zipWith pairD xs ys)) cs := rfl
theorem r_zipTLL : bZipT [.lst xs, .lst ys] cs = .ok (.tup (List.zipWith pairD xs ys)) cs := rfl
theorem r_zipTTL : bZipT [.tup xs, .lst ys] cs = .ok (.tup (List.zipWith pairD xs ys)) cs := rfl
theorem r_zipTLT : bZipT [.lst xs, .tup ys] cs = .ok (.tup (List.zipWith pairD xs ys)) cs := rfl
theorem r_zipTTT : bZipT [.tup xs, .tup ys] cs = .ok (.tup (List.zipWith pairD xs ys)) cs := rfl
theorem zip_pairs (vs us : List Nat) : List.zipWith pairD (vs.map fun v => D.int (v : Nat)) (us.map fun v => D.int (v : Nat)) = (vs.zip us).map fun p => D.tup [.int (p.1 : Nat), .int (p.2 : Nat)] := by
  induction vs generalizing us with
  | nil => rfl
  | cons v vs ih => cases us with
    | nil => rfl
    | cons u us => exact congrArg (_ :: ·) (ih us)
end
section
variable {cs : Cs}
theorem r_eqLL {a b : List Nat} : pEq (.lst (natsD a)) (.lst (natsD b)) cs = .ok (.bl (decide (a = b))) cs := by
  show (match eqD cs (.lst (natsD a)) (.lst (natsD b)) with | some b => Res.ok (D.bl b) cs | none => .bad) = _
  rw [eqD_lists (a := a) (b := b) rfl rfl rfl]
theorem r_neLL {a b : List Nat} : pNe (.lst (natsD a)) (.lst (natsD b)) cs = .ok (.bl (!decide (a = b))) cs := by
  show (match eqD cs (.lst (natsD a)) (.lst (natsD b)) with | some b => Res.ok (D.bl (!b)) cs | none => .bad) = _
  rw [eqD_lists (a := a) (b := b) rfl rfl rfl]
def lenB (n : Nat) : Nat := Builtin.Int.intBits (n : Int)
theorem lenB_lt (n : Nat) : n < 2 ^ lenB n := by
  unfold lenB
  by_cases h : n = 0
  · subst h; exact Nat.two_pow_pos _
  · rw [bits_nat h]; exact Nat.lt_log2_self
theorem lenB_le {n k : Nat} (h : n < 2 ^ k) : lenB n ≤ k := by
  unfold lenB
  by_cases h0 : n = 0
  · subst h0; show Builtin.Int.intBits 0 ≤ k; have : Builtin.Int.intBits 0 = 0 := by decide
    omega
  · rw [bits_nat h0]; have := (Nat.log2_lt h0).mpr h; omega
theorem natsD_map {α : Type} (f : α → Nat) (l : List α) : l.map (fun x => D.int ((f x : Nat) : Int)) = natsD (l.map f) := by unfold natsD; rw [List.map_map]; rfl
end
end LF

set_option Elab.async false
namespace GF
/-! ### firsts: what is no sum of what is ahead -/
/-- what a number's bits pick out of told numbers, from the bit k on -/
def pk (n : Nat) : List Nat → Nat → Nat
  | [], _ => 0
  | t :: r, k => (if n.testBit k then t else 0) ^^^ pk n r (k + 1)
theorem pk_xor (a b : Nat) : ∀ (ts : List Nat) (k : Nat), pk (a ^^^ b) ts k = pk a ts k ^^^ pk b ts k
  | [], _ => by simp [pk]
  | t :: r, k => by
    rw [pk, pk, pk, pk_xor a b r (k + 1), Nat.testBit_xor]
    generalize pk a r (k + 1) = x
    generalize pk b r (k + 1) = y
    cases a.testBit k <;> cases b.testBit k <;> simp
    · ac_rfl
    · ac_rfl
    · rw [show t ^^^ x ^^^ (t ^^^ y) = (t ^^^ t) ^^^ (x ^^^ y) by ac_rfl, Nat.xor_self, Nat.zero_xor]
theorem pk_off {n : Nat} : ∀ (ts : List Nat) (k : Nat), (∀ i, k ≤ i → n.testBit i = false) → pk n ts k = 0
  | [], _, _ => rfl
  | t :: r, k, h => by
    rw [pk, h k (Nat.le_refl _), pk_off r (k + 1) fun i hi => h i (by omega)]; simp
theorem pk_one : ∀ (ts : List Nat) (k j : Nat) (x : Nat), ts[j]? = some x → pk (2 ^ (k + j)) ts k = x
  | [], _, _, _, none1 => by simp at none1
  | t :: r, k, 0, x, h => by
    simp at h; subst h
    rw [pk, Nat.add_zero, Nat.testBit_two_pow_self, if_pos rfl, pk_off r (k + 1) fun i hi => by rw [Nat.testBit_two_pow]; exact decide_eq_false (by omega), Nat.xor_zero]
  | t :: r, k, j + 1, x, h => by
    rw [pk, Nat.testBit_two_pow, decide_eq_false (by omega), if_neg (by decide), Nat.zero_xor, show k + (j + 1) = k + 1 + j by omega]
    exact pk_one r (k + 1) j x (by simpa using h)
def Fst (ns : List Nat) (i : Nat) : Prop := ∃ x, ns[i]? = some x ∧ ¬ Sp (ns.take i) x
structure Led (ns : List Nat) (k : Nat) (rows : List (Nat × Nat)) : Prop where
  ech : Dec (rows.map (·.1))
  is : ∀ p ∈ rows, p.1 = pk p.2 ns 0
  span : Same (ns.take k) (rows.map (·.1))
  bits : ∀ p ∈ rows, ∀ i, p.2.testBit i = true → i < k ∧ Fst ns i
  units : ∀ i, i < k → Fst ns i → Sp (rows.map (·.2)) (2 ^ i)
theorem Led.start (ns : List Nat) : Led ns 0 [] := ⟨⟨by simp, .nil⟩, by simp, Same.refl _, by simp, fun i h => absurd h (Nat.not_lt_zero i)⟩
theorem pk_lin (ns : List Nat) (a b : Nat) : pk (a ^^^ b) ns 0 = pk a ns 0 ^^^ pk b ns 0 := pk_xor a b ns 0
theorem Led.pair {ns : List Nat} {k : Nat} {rows : List (Nat × Nat)} (L : Led ns k rows) {x y : Nat} (h : Sp2 rows x y) : x = pk y ns 0 :=
  Sp2.all (P := fun x y => x = pk y ns 0) (lin_zero (T := fun m => pk m ns 0) (pk_lin ns)).symm (fun x y u v h1 h2 => by rw [h1, h2, pk_lin]) L.is h
theorem Led.mask {ns : List Nat} {k : Nat} {rows : List (Nat × Nat)} (L : Led ns k rows) {m : Nat} (h : Sp (rows.map (·.2)) m) : ∀ i, m.testBit i = true → i < k ∧ Fst ns i :=
  Sp.all (P := fun m => ∀ i, m.testBit i = true → i < k ∧ Fst ns i) (fun i hi => by rw [Nat.zero_testBit] at hi; cases hi) (fun x y h1 h2 i hi => by
    rw [xb] at hi
    cases q : x.testBit i
    · cases q2 : y.testBit i
      · rw [q, q2] at hi; cases hi
      · exact h2 i q2
    · exact h1 i q) (fun m hm => by
    obtain ⟨p, hp, rfl⟩ := List.mem_map.mp hm
    exact L.bits p hp) h
/-- what is cleared by the rows -/
theorem Led.clear {ns : List Nat} {k : Nat} {rows : List (Nat × Nat)} (L : Led ns k rows) (x : Nat) : x ^^^ (clr2 (x, 0) rows).1 = pk (clr2 (x, 0) rows).2 ns 0 ∧ Sp (rows.map (·.2)) (clr2 (x, 0) rows).2 ∧ ((clr2 (x, 0) rows).1 = 0 ↔ Sp (ns.take k) x) := by
  have h := clr2_sp rows (x, 0)
  dsimp only at h
  rw [Nat.zero_xor] at h
  refine ⟨L.pair h, h.snd, ?_⟩
  rw [clr2_fst, dec_zero L.ech]
  exact (L.span x).symm
theorem Led.skip {ns : List Nat} {k : Nat} {rows : List (Nat × Nat)} (L : Led ns k rows) {x : Nat} (hx : ns[k]? = some x) (h : (clr2 (x, 0) rows).1 = 0) : Led ns (k + 1) rows := by
  have hs := (L.clear x).2.2.mp h
  have e : ns.take (k + 1) = ns.take k ++ [x] := by rw [List.take_add_one, hx]; rfl
  refine ⟨L.ech, L.is, ?_, fun p hp i hi => ⟨Nat.lt_succ_of_lt (L.bits p hp i hi).1, (L.bits p hp i hi).2⟩, fun i hi hf => ?_⟩
  · rw [e]
    refine same_of (fun a ha => ?_) fun a ha => sp_left ((L.span a).mpr (.mem ha))
    rcases List.mem_append.mp ha with q | q
    · exact (L.span a).mp (.mem q)
    · rw [List.mem_singleton.mp q]; exact (L.span x).mp hs
  · rcases Nat.lt_or_ge i k with q | q
    · exact L.units i q hf
    · have : i = k := by omega
      subst this
      obtain ⟨y, hy, hn⟩ := hf
      rw [hx] at hy; cases hy
      exact absurd hs hn
theorem Led.keep {ns : List Nat} {k : Nat} {rows g : List (Nat × Nat)} (L : Led ns k rows) {x : Nat} (hx : ns[k]? = some x) (h : (clr2 (x, 0) rows).1 ≠ 0) (gp : g.Perm (rows ++ [((clr2 (x, 0) rows).1, (clr2 (x, 0) rows).2 ^^^ 2 ^ k)])) (gs : (g.map (·.1)).Pairwise (· ≥ ·)) : Led ns (k + 1) g := by
  obtain ⟨c1, c2, c3⟩ := L.clear x
  have hf : Fst ns k := ⟨x, hx, fun z => h (c3.mpr z)⟩
  have e : ns.take (k + 1) = ns.take k ++ [x] := by rw [List.take_add_one, hx]; rfl
  have gm : ∀ q, q ∈ g ↔ q ∈ rows ∨ q = ((clr2 (x, 0) rows).1, (clr2 (x, 0) rows).2 ^^^ 2 ^ k) := fun q => by rw [gp.mem_iff, List.mem_append, List.mem_singleton]
  have up2 : ∀ {m}, Sp (rows.map (·.2)) m → Sp (g.map (·.2)) m := fun h => Sp.sub (fun a ha => by
    obtain ⟨p, hp, rfl⟩ := List.mem_map.mp ha
    exact .mem (List.mem_map.mpr ⟨p, (gm p).mpr (.inl hp), rfl⟩)) h
  have e1 := clr2_fst rows (x, 0)
  refine ⟨?_, fun p hp => ?_, ?_, fun p hp i hi => ?_, fun i hi hfi => ?_⟩
  · refine dec_more L.ech (n := x) (by rw [← e1]; exact h) ?_ gs
    have := gp.map (·.1)
    rw [List.map_append, List.map_singleton, e1] at this
    exact this
  · rcases (gm p).mp hp with q | rfl
    · exact L.is p q
    · show (clr2 (x, 0) rows).1 = pk ((clr2 (x, 0) rows).2 ^^^ 2 ^ k) ns 0
      have ek : pk (2 ^ k) ns 0 = x := by have := pk_one ns 0 k x hx; rwa [Nat.zero_add] at this
      rw [pk_lin, ← c1, ek, Nat.xor_comm x, xself]
  · rw [e]
    have s1 : Same (ns.take k ++ [x]) (rows.map (·.1) ++ [(clr2 (x, 0) rows).1]) := same_snoc L.span (by
      have := (clr2_sp rows (x, 0)).fst; exact this)
    refine s1.trans (same_mem fun a => ?_)
    have := (gp.map (·.1)).mem_iff (a := a)
    rw [List.map_append, List.map_singleton] at this
    exact this.symm
  · rcases (gm p).mp hp with q | rfl
    · exact ⟨Nat.lt_succ_of_lt (L.bits p q i hi).1, (L.bits p q i hi).2⟩
    · have hi : ((clr2 (x, 0) rows).2 ^^^ 2 ^ k).testBit i = true := hi
      by_cases q : i = k
      · subst q; exact ⟨Nat.lt_succ_self _, hf⟩
      · rw [xb, Nat.testBit_two_pow, decide_eq_false (Ne.symm q)] at hi
        have := L.mask c2 i (by simpa using hi)
        exact ⟨Nat.lt_succ_of_lt this.1, this.2⟩
  · rcases Nat.lt_or_ge i k with q | q
    · exact up2 (L.units i q hfi)
    · have : i = k := by omega
      subst this
      have h1 : Sp (g.map (·.2)) ((clr2 (x, 0) rows).2 ^^^ 2 ^ i) := .mem (List.mem_map.mpr ⟨_, (gm _).mpr (.inr rfl), rfl⟩)
      have := (up2 c2).add h1
      rwa [← Nat.xor_assoc, Nat.xor_self, Nat.zero_xor] at this
/-- all bits of the rows together: the firsts -/
def ors (rows : List (Nat × Nat)) : Nat := rows.foldl (fun m p => m ||| p.2) 0
theorem ors_bit (i : Nat) : ∀ (rows : List (Nat × Nat)) (m : Nat), (rows.foldl (fun m p => m ||| p.2) m).testBit i = (m.testBit i || rows.any fun p => p.2.testBit i)
  | [], m => by simp
  | p :: r, m => by rw [List.foldl_cons, ors_bit i r, Nat.testBit_or, List.any_cons, Bool.or_assoc]
theorem Led.firsts {ns : List Nat} {rows : List (Nat × Nat)} (L : Led ns ns.length rows) (i : Nat) : (ors rows).testBit i = true ↔ Fst ns i := by
  unfold ors
  rw [ors_bit, Nat.zero_testBit, Bool.false_or, List.any_eq_true]
  constructor
  · rintro ⟨p, hp, h⟩
    exact (L.bits p hp i h).2
  · intro hf
    have hi : i < ns.length := by obtain ⟨x, hx, _⟩ := hf; exact (List.getElem?_eq_some_iff.mp hx).1
    have hu := L.units i hi hf
    refine Classical.byContradiction fun hno => ?_
    have : ∀ m, Sp (rows.map (·.2)) m → m.testBit i = false := fun m hm => Sp.all (P := fun m => m.testBit i = false) (Nat.zero_testBit i) (fun x y h1 h2 => by rw [xb, h1, h2]; rfl) (fun m hm => by
      obtain ⟨p, hp, rfl⟩ := List.mem_map.mp hm
      cases q : p.2.testBit i
      · rfl
      · exact absurd ⟨p, hp, q⟩ hno) hm
    have := this _ hu
    rw [Nat.testBit_two_pow_self] at this
    cases this
/-! ### picking by bits, and firsts one by one -/
section
variable {α : Type}
def pickF (f : Nat → Bool) : Nat → List α → List α
  | _, [] => []
  | k, a :: r => if f k then a :: pickF f (k + 1) r else pickF f (k + 1) r
theorem pickF_snoc (f : Nat → Bool) (x : α) : ∀ (l : List α) (k : Nat), pickF f k (l ++ [x]) = pickF f k l ++ (if f (k + l.length) then [x] else [])
  | [], k => by simp only [List.nil_append, pickF, List.length_nil, Nat.add_zero]
  | a :: r, k => by
    rw [List.cons_append]
    unfold pickF
    rw [pickF_snoc f x r (k + 1), List.length_cons, show k + 1 + r.length = k + (r.length + 1) by omega]
    split <;> rfl
theorem pickF_congr {f g : Nat → Bool} : ∀ (l : List α) (k : Nat), (∀ i, i < l.length → f (k + i) = g (k + i)) → pickF f k l = pickF g k l
  | [], _, _ => rfl
  | a :: r, k, h => by
    unfold pickF
    have h0 := h 0 (by simp)
    rw [Nat.add_zero] at h0
    have ih := pickF_congr (f := f) (g := g) r (k + 1) fun i hi => by
      have := h (i + 1) (by rw [List.length_cons]; omega)
      rwa [show k + (i + 1) = k + 1 + i by omega] at this
    rw [h0, ih]
theorem pickF_mem {f : Nat → Bool} {x : α} : ∀ {l : List α} {k : Nat}, x ∈ pickF f k l ↔ ∃ i, l[i]? = some x ∧ f (k + i) = true
  | [], k => by simp [pickF]
  | a :: r, k => by
    unfold pickF
    have ih := pickF_mem (f := f) (x := x) (l := r) (k := k + 1)
    constructor
    · intro h
      split at h
      · rename_i hf
        (rcases List.mem_cons.mp h with rfl | h)
        · exact ⟨0, rfl, hf⟩
        · obtain ⟨i, h1, h2⟩ := ih.mp h
          exact ⟨i + 1, h1, by rwa [show k + (i + 1) = k + 1 + i by omega]⟩
      · obtain ⟨i, h1, h2⟩ := ih.mp h
        exact ⟨i + 1, h1, by rwa [show k + (i + 1) = k + 1 + i by omega]⟩
    · rintro ⟨i, h1, h2⟩
      cases i with
      | zero =>
        simp at h1; subst h1
        rw [Nat.add_zero] at h2
        rw [if_pos h2]; exact List.mem_cons_self ..
      | succ i =>
        have : x ∈ pickF f (k + 1) r := ih.mpr ⟨i, by simpa using h1, by rwa [show k + 1 + i = k + (i + 1) by omega]⟩
        split
        · exact List.mem_cons_of_mem _ this
        · exact this
open Classical in
/-- the firsts behind some numbers -/
noncomputable def fgo (v : α → Nat) : List Nat → List α → List α
  | _, [] => []
  | seen, a :: r => if Sp seen (v a) then fgo v (seen ++ [v a]) r else a :: fgo v (seen ++ [v a]) r
theorem fgo_in {v : α → Nat} {seen : List Nat} {a : α} {r : List α} (h : Sp seen (v a)) : fgo v seen (a :: r) = fgo v (seen ++ [v a]) r := by
  rw [fgo, if_pos h]
theorem fgo_out {v : α → Nat} {seen : List Nat} {a : α} {r : List α} (h : ¬ Sp seen (v a)) : fgo v seen (a :: r) = a :: fgo v (seen ++ [v a]) r := by
  rw [fgo, if_neg h]
theorem fgo_pick (v : α → Nat) {f : Nat → Bool} : ∀ (l : List α) (seen : List Nat), (∀ i x, l[i]? = some x → (f (seen.length + i) = true ↔ ¬ Sp (seen ++ (l.take i).map v) (v x))) → fgo v seen l = pickF f seen.length l
  | [], _, _ => rfl
  | a :: r, seen, h => by
    have h0 := h 0 a rfl
    rw [Nat.add_zero, List.take_zero, List.map_nil, List.append_nil] at h0
    have ih := fgo_pick v (f := f) r (seen ++ [v a]) fun i x hx => by
      have := h (i + 1) x (by simpa using hx)
      rw [List.length_append, List.length_singleton, show seen.length + 1 + i = seen.length + (i + 1) by omega, this, List.take_succ_cons, List.map_cons, List.append_assoc]
      rfl
    rw [List.length_append, List.length_singleton] at ih
    unfold pickF
    by_cases q : Sp seen (v a)
    · rw [fgo_in q, if_neg (fun z => h0.mp z q), ih]
    · rw [fgo_out q, if_pos (h0.mpr q), ih]
theorem fgo_sub (v : α → Nat) (P : α → Bool) : ∀ (l : List α) (seen seen' : List Nat), Same seen seen' → (∀ x ∈ fgo v seen l, P x = true) → fgo v seen' (l.filter P) = fgo v seen l
  | [], _, _, _, _ => rfl
  | a :: r, seen, seen', S, h => by
    have up : Same (seen ++ [v a]) (seen' ++ [v a]) := same_snoc S (by rw [Nat.xor_self]; exact Sp.zero _)
    by_cases q : Sp seen (v a)
    · rw [fgo_in q] at h ⊢
      have S2 : Same (seen ++ [v a]) seen' := (same_of (fun x hx => by
        rcases List.mem_append.mp hx with z | z
        · exact (S x).mp (.mem z)
        · rw [List.mem_singleton.mp z]; exact (S _).mp q) fun x hx => sp_left ((S x).mpr (.mem hx)))
      rw [List.filter_cons]
      split
      · rw [fgo_in ((S _).mp q)]
        exact fgo_sub v P r _ _ up h
      · exact fgo_sub v P r _ _ S2 h
    · rw [fgo_out q] at h ⊢
      have pa := h a (List.mem_cons_self ..)
      rw [List.filter_cons, if_pos pa, fgo_out fun z => q ((S _).mpr z), fgo_sub v P r _ _ up fun x hx => h x (List.mem_cons_of_mem _ hx)]
theorem fgo_subset (v : α → Nat) : ∀ (l : List α) (seen : List Nat), ∀ x ∈ fgo v seen l, x ∈ l
  | [], _, x, h => h
  | a :: r, seen, x, h => by
    by_cases q : Sp seen (v a)
    · rw [fgo_in q] at h
      exact List.mem_cons_of_mem _ (fgo_subset v r _ x h)
    · rw [fgo_out q] at h
      (rcases List.mem_cons.mp h with rfl | h)
      · exact List.mem_cons_self ..
      · exact List.mem_cons_of_mem _ (fgo_subset v r _ x h)
theorem fgo_snoc (v : α → Nat) (x : α) : ∀ (l : List α) (seen : List Nat), (Sp (seen ++ l.map v) (v x) → fgo v seen (l ++ [x]) = fgo v seen l) ∧ (¬ Sp (seen ++ l.map v) (v x) → fgo v seen (l ++ [x]) = fgo v seen l ++ [x])
  | [], seen => by
    rw [List.map_nil, List.append_nil, List.nil_append]
    exact ⟨fun h => by rw [fgo_in h]; rfl, fun h => by rw [fgo_out h]; rfl⟩
  | a :: r, seen => by
    have ih := fgo_snoc v x r (seen ++ [v a])
    rw [List.append_assoc] at ih
    rw [List.cons_append, List.map_cons]
    by_cases q : Sp seen (v a)
    · rw [fgo_in q, fgo_in q]; exact ih
    · rw [fgo_out q, fgo_out q]
      exact ⟨fun h => by rw [ih.1 h], fun h => by rw [ih.2 h]; rfl⟩
end
end GF

set_option Elab.async false
set_option maxRecDepth 100000
namespace LF
open PySem PySem.Spec L2
/-! ### text * int -/
def repS (s : Str) (n : Nat) : Str := ⟨(List.replicate n s.cps).foldl (· ++ ·) #[]⟩
def pMulS : P2 := fun x y cs => match x, y with
  | .str s, .int n => if 0 ≤ n ∧ n ≤ 1000 ∧ s.length ≤ 1000 then .ok (.str (repS s n.toNat)) cs else .bad
  | _, _ => .bad
def rMulS : R2 := fun x y H Q => ∃ s n, x = .str s ∧ y = .int n ∧ 0 ≤ n ∧ n ≤ 1000 ∧ s.length ≤ 1000 ∧ Q (.str (repS s n.toNat)) H
theorem fold_empty : ∀ n : Nat, (List.replicate n (#[] : Array Nat)).foldl (· ++ ·) #[] = #[]
  | 0 => rfl
  | n + 1 => by rw [List.replicate_succ, List.foldl_cons]; exact fold_empty n
theorem op_mulS {X : Cx} : OpR X (binaryOp .Mult) rMulS := by
  (intro pins s σ H x y v u Q I rx ry h)
  obtain ⟨z, n, rfl, rfl, h0, h1, hz, q⟩ := h
  obtain ⟨t, rfl⟩ := rx
  obtain ⟨t2, rfl⟩ := ry
  have hn : n.toNat ≤ 1000 := by omega
  have hm : z.length * n.toNat ≤ 1000 * 1000 := Nat.mul_le_mul hz hn
  refine P.mul_str (by rw [decide_eq_false (by omega), decide_eq_false (by omega)]; rfl) (fun g1 _ => ?_) (fun _ _ => ?_) ?_
  · have : (1000 : Int) ≤ (2 ^ 63 - 1) / n := (Int.le_ediv_iff_mul_le (by omega)).mpr (by omega)
    omega
  · unfold Builtin.Str.tooLong
    exact decide_eq_false (by have := sizeLine_eq; omega)
  · by_cases c1 : n < 1
    · rw [if_pos c1]
      refine ⟨by decide, ?_⟩
      (have e : n.toNat = 0 := by omega)
      rw [e] at q
      exact ⟨.str (repS z 0), H, I.tok _, ⟨_, rfl⟩, q⟩
    · rw [if_neg c1]
      by_cases c2 : (n == 1 || z.length == 0) = true
      · rw [if_pos c2]
        refine ⟨.str z, H, I, ⟨_, rfl⟩, ?_⟩
        have e : repS z n.toNat = z := by
          unfold repS
          rcases (Bool.or_eq_true _ _).mp c2 with k | k
          · have : n.toNat = 1 := by have := eq_of_beq k; omega
            rw [this]
            show (⟨#[] ++ z.cps⟩ : Str) = z
            rw [Array.empty_append]
          · have k' : z.cps.size = 0 := eq_of_beq k
            have k2 : z.cps = #[] := Array.eq_empty_of_size_eq_zero k'
            rw [k2, fold_empty, ← k2]
        rwa [e] at q
      · rw [if_neg c2]
        refine ⟨?_, ⟨.str (repS z n.toNat), H, I.tok _, ⟨_, rfl⟩, q⟩⟩
        have sz : ∀ (m : Nat) (a acc : Array Nat), ((List.replicate m a).foldl (· ++ ·) acc).size = acc.size + m * a.size := by
          intro m a
          induction m with
          | zero => intro acc; simp
          | succ m ih => intro acc; rw [List.replicate_succ, List.foldl_cons, ih, Array.size_append, Nat.succ_mul]; omega
        show ((List.replicate n.toNat z.cps).foldl (· ++ ·) #[]).size ≤ sizeLine
        rw [sz, Nat.mul_comm]
        have h2 : z.cps.size * n.toNat ≤ 1000 * 1000 := hm
        have := sizeLine_eq
        show 0 + _ ≤ _
        omega
theorem ok_mulS {K : PySem.W.Frag} {mg : Str → Option Value} : Ok2 K mg rMulS pMulS := by
  intro Z W cs H σ x y d e Q S r1 r2 q
  unfold pMulS at q
  split at q
  · rename_i s n
    cases r1; cases r2
    split at q
    · rename_i h
      exact ⟨s, n, rfl, rfl, h.1, h.2.1, h.2.2, q.ret S (.str _)⟩
    · exact q.elim
  · exact q.elim
theorem fe_mulS {X : Cx} {Z : WX} {a b : Expr} {f h : SE} {pos : Pos} (ha : FE X Z a f) (hb : FE X Z b h) : FE X Z (.BinOp a .Mult b pos) (e2 pMulS f h) := fe_op op_mulS ok_mulS ha hb
/-! ### texts as lists of signs, lists of texts -/
def strL (l : List Nat) : Str := ⟨l.toArray⟩
theorem strL_inj {a b : List Nat} (h : strL a = strL b) : a = b := by
  unfold strL at h
  injection h with h
  simpa using h
theorem strL_of (s : Str) : s = strL s.cps.toList := by unfold strL; rw [Array.toArray_toList]
theorem strL_length (l : List Nat) : (strL l).length = l.length := rfl
theorem strL_append (a b : List Nat) : strL a ++ strL b = strL (a ++ b) := by
  show (⟨a.toArray ++ b.toArray⟩ : Str) = ⟨(a ++ b).toArray⟩
  rw [List.append_toArray]
theorem repS_strL (l : List Nat) (n : Nat) : repS (strL l) n = strL (List.replicate n l).flatten := by
  have f0 : ∀ (m : Nat) (acc : List Nat), (List.replicate m l.toArray).foldl (· ++ ·) acc.toArray = (acc ++ (List.replicate m l).flatten).toArray := by
    intro m
    induction m with
    | zero => intro acc; simp
    | succ m ih => intro acc; rw [List.replicate_succ, List.foldl_cons, List.append_toArray, ih, List.replicate_succ, List.flatten_cons, List.append_assoc]
  show (⟨(List.replicate n l.toArray).foldl (· ++ ·) #[]⟩ : Str) = _
  have := f0 n []
  rw [List.nil_append] at this
  rw [show (#[] : Array Nat) = ([] : List Nat).toArray from rfl, this]
  rfl
section
variable {cs : Cs} {c : Bool}
theorem r_addSS {a b : List Nat} (h : a.length + b.length ≤ 10000) : pAdd c (.str (strL a)) (.str (strL b)) cs = .ok (.str (strL (a ++ b))) cs := by
  show (if (strL a).length + (strL b).length ≤ sizeLine then Res.ok (D.str (strL a ++ strL b)) cs else .bad) = _
  rw [if_pos (show (strL a).length + (strL b).length ≤ sizeLine from le_line h), strL_append]
theorem r_mulSI {a : List Nat} {n : Nat} (h : n ≤ 1000) (h2 : a.length ≤ 1000) : pMulS (.str (strL a)) (.int (n : Int)) cs = .ok (.str (strL (List.replicate n a).flatten)) cs := by
  show (if 0 ≤ (n : Int) ∧ (n : Int) ≤ 1000 ∧ (strL a).length ≤ 1000 then Res.ok (D.str (repS (strL a) (n : Int).toNat)) cs else .bad) = _
  rw [if_pos ⟨by omega, by omega, h2⟩, Int.toNat_natCast, repS_strL]
def namesD (nm : List (List Nat)) : List D := nm.map fun l => D.str (strL l)
theorem namesD_length (a : List (List Nat)) : (namesD a).length = a.length := by unfold namesD; rw [List.length_map]
theorem namesD_get (a : List (List Nat)) (i : Nat) : (namesD a)[i]? = (a[i]?).map fun l => D.str (strL l) := by unfold namesD; rw [List.getElem?_map]
theorem namesD_snoc (a : List (List Nat)) (l : List Nat) : namesD a ++ [.str (strL l)] = namesD (a ++ [l]) := by unfold namesD; rw [List.map_append]; rfl
theorem namesD_erase (a : List (List Nat)) (n : Nat) : (namesD a).eraseIdx n = namesD (a.eraseIdx n) := by
  rw [List.eraseIdx_eq_take_drop_succ, List.eraseIdx_eq_take_drop_succ]; unfold namesD; rw [List.map_append, List.map_take, List.map_drop]
theorem namesD_take (a : List (List Nat)) (n : Nat) : (namesD a).take n = namesD (a.take n) := by unfold namesD; rw [List.map_take]
theorem bels_names (n : Nat) : ∀ l : List (List Nat), D.bels n (namesD l) = true
  | [] => by unfold namesD; simp [D.bels]
  | m :: r => by
    have := bels_names n r
    unfold namesD at this ⊢
    simp [D.bels, D.bel, this]
theorem pys_names : ∀ ns : List (List Nat), D.pys (namesD ns) = some (ns.map fun n => PyData.str (strL n))
  | [] => by unfold namesD; simp [D.pys]
  | n :: r => by
    have := pys_names r
    unfold namesD at this ⊢
    simp [D.pys, D.py, this]
/-- texts of signs that are -/
def Sg (a : List (List Nat)) : Prop := ∀ l ∈ a, ∀ c ∈ l, c < 1114112
theorem lay_names : ∀ ns : List (List Nat), Sg ns → PyData.canLayAll0 (ns.map fun n => PyData.str (strL n)) = true ∧ PyData.depthAll (ns.map fun n => PyData.str (strL n)) = 0
  | [], _ => by simp [PyData.canLayAll0, PyData.depthAll]
  | n :: r, h => by
    obtain ⟨h1, h2⟩ := lay_names r fun l hl => h l (List.mem_cons_of_mem _ hl)
    have h3 : PyData.strOk (strL n) = true := by
      unfold PyData.strOk strL
      simpa using h n (List.mem_cons_self ..)
    simp [PyData.canLayAll0, PyData.depthAll, PyData.canLay0, PyData.depth, h1, h2, h3]
theorem eqv_names : ∀ a b : List (List Nat), PyData.eqvAll (a.map fun n => PyData.str (strL n)) (b.map fun n => PyData.str (strL n)) = decide (a = b)
  | [], [] => (by simp [PyData.eqvAll])
  | [], y :: r => (by simp [PyData.eqvAll])
  | x :: r, [] => (by simp [PyData.eqvAll])
  | x :: a, y :: b => by
    simp only [List.map_cons, PyData.eqvAll, PyData.eqv, eqv_names a b]
    by_cases h : x = y
    · subst h; simp
    · have : ¬ strL x = strL y := fun z => h (strL_inj z)
      simp [h, this]
theorem eqD_namesL {d e : D} {a b : List (List Nat)} (ha : Sg a) (hb : Sg b) (h1 : deref cs d = .lst (namesD a)) (h2 : deref cs e = .lst (namesD b)) (hs : scalD d e = none) : eqD cs d e = some (decide (a = b)) := by
  unfold eqD
  rw [hs]
  dsimp only
  rw [h1, h2]
  simp only [D.py, pys_names, Option.map_some]
  have sh : ∀ ns : List (List Nat), Sg ns → SeqAt.shaped (.list (ns.map fun n => PyData.str (strL n))) = true := fun ns hs => by
    obtain ⟨h1, h2⟩ := lay_names ns hs
    simp [SeqAt.shaped, PyData.canLay0, PyData.depth, h1, h2]
  rw [if_pos ⟨sh a ha, sh b hb⟩, PyData.eqv, eqv_names]
theorem eqD_namesT {a b : List (List Nat)} (ha : Sg a) (hb : Sg b) : eqD cs (.tup (namesD a)) (.tup (namesD b)) = some (decide (a = b)) := by
  unfold eqD
  show (match D.py (deref cs (.tup (namesD a))), D.py (deref cs (.tup (namesD b))) with
    | some a, some b => if SeqAt.shaped a = true ∧ SeqAt.shaped b = true then some (PyData.eqv a b) else none
    | _, _ => none) = _
  simp only [deref, D.py, pys_names, Option.map_some]
  have sh : ∀ ns : List (List Nat), Sg ns → SeqAt.shaped (.tuple (ns.map fun n => PyData.str (strL n))) = true := fun ns hs => by
    obtain ⟨h1, h2⟩ := lay_names ns hs
    simp [SeqAt.shaped, PyData.canLay0, PyData.depth, h1, h2]
  rw [if_pos ⟨sh a ha, sh b hb⟩, PyData.eqv, eqv_names]
theorem r_eqST {a b : List (List Nat)} (ha : Sg a) (hb : Sg b) : pEq (.tup (namesD a)) (.tup (namesD b)) cs = .ok (.bl (decide (a = b))) cs := by
  unfold pEq; rw [eqD_namesT ha hb]
theorem r_neST {a b : List (List Nat)} (ha : Sg a) (hb : Sg b) : pNe (.tup (namesD a)) (.tup (namesD b)) cs = .ok (.bl (!decide (a = b))) cs := by
  unfold pNe; rw [eqD_namesT ha hb]
theorem r_eqSL {a b : List (List Nat)} (ha : Sg a) (hb : Sg b) : pEq (.lst (namesD a)) (.lst (namesD b)) cs = .ok (.bl (decide (a = b))) cs := by
  unfold pEq; rw [eqD_namesL ha hb rfl rfl rfl]
theorem r_neSL {a b : List (List Nat)} (ha : Sg a) (hb : Sg b) : pNe (.lst (namesD a)) (.lst (namesD b)) cs = .ok (.bl (!decide (a = b))) cs := by
  unfold pNe; rw [eqD_namesL ha hb rfl rfl rfl]
theorem flVs_names : ∀ ns : List (List Nat), flVs (namesD ns) = some (ns.map fun n => V.str (strL n))
  | [] => rfl
  | n :: r => by
    show (match flV (D.str (strL n)), flVs (namesD r) with | some v, some vs => some (v :: vs) | _, _ => none) = _
    rw [flVs_names r]; rfl
theorem inV_names (n : List Nat) : ∀ ns : List (List Nat), inV (.str (strL n)) (ns.map fun n => V.str (strL n)) = decide (n ∈ ns)
  | [] => rfl
  | m :: r => by
    have ih := inV_names n r
    unfold inV at ih ⊢
    rw [List.map_cons, List.any_cons, ih]
    have e : eqV (.str (strL m)) (.str (strL n)) = decide (n = m) := by
      show decide _ = _
      exact decide_eq_decide.mpr ⟨fun h => (strL_inj h).symm, fun h => by rw [h]⟩
    rw [e]
    by_cases h : n = m
    · subst h; simp
    · simp [h]
theorem r_inSL {n : List Nat} {ns : List (List Nat)} {neg : Bool} : pIn neg (.str (strL n)) (.lst (namesD ns)) cs = .ok (.bl (if neg then !decide (n ∈ ns) else decide (n ∈ ns))) cs := by
  unfold pIn
  have : (sqD cs (.lst (namesD ns))).bind flVs = some (ns.map fun n => V.str (strL n)) := flVs_names ns
  rw [this, ← inV_names]; rfl
theorem r_inST {n : List Nat} {ns : List (List Nat)} {neg : Bool} : pIn neg (.str (strL n)) (.tup (namesD ns)) cs = .ok (.bl (if neg then !decide (n ∈ ns) else decide (n ∈ ns))) cs := by
  unfold pIn
  have : (sqD cs (.tup (namesD ns))).bind flVs = some (ns.map fun n => V.str (strL n)) := flVs_names ns
  rw [this, ← inV_names]; rfl
/-- the i-th letter -/
theorem r_letter {i : Nat} (h : i < 26) : pItem (.str "abcdefghijklmnopqrstuvwxyz") (.int (i : Int)) cs = .ok (.str (strL [97 + i])) cs := by
  have : ∀ i : _root_.Fin 26, atI ("abcdefghijklmnopqrstuvwxyz" : Str).cps.toList ((i.val : Nat) : Int) = some (97 + i.val) := by decide +kernel
  show (if ("abcdefghijklmnopqrstuvwxyz" : Str).length ≤ sizeLine then (match atI ("abcdefghijklmnopqrstuvwxyz" : Str).cps.toList (i : Int) with | some c => Res.ok (D.str ⟨#[c]⟩) cs | none => .bad) else .bad) = _
  rw [if_pos (by decide), this ⟨i, h⟩]
  rfl
/-- things: a name with a number -/
def heapD (h : List (List Nat × Nat)) : List D := h.map fun p => D.tup [.str (strL p.1), .int (p.2 : Int)]
theorem heapD_length (a : List (List Nat × Nat)) : (heapD a).length = a.length := by unfold heapD; rw [List.length_map]
theorem heapD_get (a : List (List Nat × Nat)) (i : Nat) : (heapD a)[i]? = (a[i]?).map fun p => D.tup [.str (strL p.1), .int (p.2 : Int)] := by unfold heapD; rw [List.getElem?_map]
theorem zip_heap : ∀ (nm : List (List Nat)) (ns : List Nat), List.zipWith pairD (namesD nm) (natsD ns) = heapD (nm.zip ns)
  | [], _ => rfl
  | _ :: _, [] => rfl
  | _ :: nm, _ :: ns => congrArg (_ :: ·) (zip_heap nm ns)
theorem bels_heap (n : Nat) : ∀ l : List (List Nat × Nat), D.bels n (heapD l) = true
  | [] => by unfold heapD; simp [D.bels]
  | m :: r => by
    have := bels_heap n r
    unfold heapD at this ⊢
    simp [D.bels, D.bel, this]
end
end LF

set_option Elab.async false
set_option maxRecDepth 100000
namespace LF
open PySem PySem.Spec L2
/-! ### comprehensions over a dict's keys; dict of pairs -/
def mergeD (ks more : List (Key × D)) : List (Key × D) := more.foldl (fun acc kv => putD acc kv.1 kv.2) ks
def prsD : List D → Option (List (Key × D))
  | [] => some []
  | .tup [k, d] :: r => match keyOf k, prsD r with
    | some j, some ks => some ((j, d) :: ks)
    | _, _ => none
  | _ => none
def bDict (m : Bool) (ds : List D) (cs : Cs) : Res D := match ds with
  | [.lst es] => match prsD es with
    | some ks => mkD m (mergeD [] ks) cs
    | none => .bad
  | _ => .bad
noncomputable def eLcK (c : Bool) (own : List Nat) (i : Nat) (g : SG) (t : ST) (f : SE) : SE := fun sl cs => match sl[i]? with
  | some (some (.dic ks)) => ((lcL (fun _ => True) g t f (wipeS sl own) (ks.map fun kv => keyD kv.1) cs).bind fun ys cs2 => mkL c ys cs2).nox
  | _ => .bad
theorem pe_lock_or {X : Cx} {e : Expr} {t : TE} (h : PE X e t) : PE X e (fun σ H Q => tLockE t σ H Q ∨ t σ H Q) := ⟨fun pins s σ H Q I hw => hw.elim (fun h' => (pe_lock h).run pins s σ H Q I h') fun h' => h.run pins s σ H Q I h'⟩
section
variable {K : PySem.W.Frag} {mg : Str → Option Value} {Z : WX}
theorem Fin.lock {α β : Type} {R : Wd → β → α → Prop} {W : Wd} {σ : L2.St} {H : Hp} {r : Res α} {Q : β → Hp → Prop} {d : Addr} {kvs : List (Key × V)} {od : Obj} (h0 : H d = some (.dK kvs)) (h1 : W.fz d = some (.dK kvs)) (h : Fin K mg R Z W σ H r.nox Q) :
    Fin K mg R Z W σ (upd H d (.frz od (.dK kvs))) r (fun v H' => H' d = some (.frz od (.dK kvs)) ∧ Q v (upd H' d (.dK kvs))) := by
  cases r with
  | exc x cs => exact h.elim
  | bad => exact h.elim
  | ok a cs => exact fun W' b H' s S' r' => ⟨s.fx d _ _ upd_same h1, h W' b _ (Step.unlock h0 h1 s) (S'.unlock (s.le.fz _ _ h1)) r'⟩
theorem Fin.unnox {α β : Type} {R : Wd → β → α → Prop} {W : Wd} {σ : L2.St} {H : Hp} {r : Res α} {Q : β → Hp → Prop} (h : Fin K mg R Z W σ H r.nox Q) : Fin K mg R Z W σ H r Q := by
  cases r with
  | exc x cs => exact h.elim
  | bad => exact h
  | ok a cs => exact h
theorem RepK.merge {W : Wd} : ∀ {us : List (Key × V)} {es : List (Key × D)} {vs : List (Key × V)} {ds : List (Key × D)}, RepK K W us es → RepK K W vs ds → RepK K W (mergeK vs us) (mergeD ds es)
  | _, _, _, _, .nil, r => r
  | _, _, _, _, @RepK.cons _ _ k _ _ _ _ h t, r => by
    have := RepK.merge t (r.put k h)
    exact this
theorem prs_of {W : Wd} {cs : Cs} {H : Hp} (S : RS K mg W cs H) : ∀ {vs : List V} {es : List D} {ks : List (Key × D)}, Reps K W vs es → prsD es = some ks →
    ∃ (ps : List Addr) (kvs : List (Key × V)), vs = ps.map V.ref ∧ Paired (fun p kv => SqT K H p [kV kv.1, kv.2]) ps kvs ∧ RepK K W kvs ks
  | _, [], _, .nil, e => by cases e; exact ⟨[], [], rfl, .nil, .nil⟩
  | _, d :: es, ks, .cons h t, e => by
    unfold prsD at e
    split at e
    · rename_i e0; cases e0
    · rename_i k d' r e0
      cases e0
      split at e
      · rename_i j ks' h1 h2
        cases e
        obtain ⟨ps, kvs, rfl, p, q⟩ := prs_of S t h2
        cases h with
        | @tup a us _ hz hl r =>
          cases r with | cons ra r =>
          cases r with | cons rb r =>
          cases r
          have := keyOf_rep ra h1
          subst this
          exact ⟨a :: ps, (j, _) :: kvs, rfl, .cons (.of (S.fzt hz)) p, .cons rb q⟩
      · cases e
    · cases e
theorem ok_dict (m : Bool) : OkN K mg (fun xs H Q => ∃ (a : Addr) (ps : List Addr) (kvs : List (Key × V)), xs = [.ref a] ∧ SqL K H a (ps.map V.ref) ∧ Paired (fun p kv => SqT K H p [kV kv.1, kv.2]) ps kvs ∧
    ∀ p, H p = none → Q (.ref p) (upd H p (.dK (mergeK [] kvs)))) (bDict m) := by
  intro Z W cs H σ xs ds Q S r q
  unfold bDict at q
  split at q
  · rename_i es
    split at q
    · rename_i ks hk
      cases r with | cons ra r =>
      cases r
      cases ra with
      | @lst a vs _ hz hl rv =>
        obtain ⟨ps, kvs, rfl, p, rk⟩ := prs_of S rv hk
        refine ⟨a, ps, kvs, rfl, .of (S.fzl hz), p, fun b hb => fin_mkD q S (rk.merge .nil) ?_ b hb⟩
        (refine Nat.le_trans (length_mergeK kvs []) ?_)
        rw [List.length_nil, Nat.zero_add, ← p.length]
        rwa [List.length_map] at hl
    · exact q.elim
  · exact q.elim
end
section
variable {X : Cx} {Z : WX} {pos p : Pos} {a : Expr} {t : SA}
theorem fe_dict (m : Bool) (hm : X.mg "dict" = none) (ha : FA X Z [a] t) (hg : Gl X "dict" := by rfl) (hc : X.calm = true := by rfl) (he : starEach [a] X.env = (false, eval a X.env) :: starEach [] X.env := by rfl) (hpl : (backTo pos (starEach [] X.env)).any (·.1) = false := by rfl) : FE X Z (.Call (.Name "dict" p) [a] [] pos) (eN (bDict m) t) :=
  fe_callTy (call_dictP hc) (ok_dict m) hm ha hg (he := he) (hpl := hpl)
theorem fe_lcK {x : Str} {px : Pos} {elt tg : Expr} {ifs : List Expr} {scope : Scope} {own : List (Str × Nat)} {ts : List Nat} {g : SG} {t : ST} {f : SE} (i : Nat) (c : Bool) (hN : X.N.Nodup) (ok : BlkOk X.N X.env.scope scope own)
    (hg : ∀ (s : Shared) (H : Hp) (C : Addr) (cl : List (Str × Addr)) (fp : List Addr), FG (X.blk s H scope (compEnvC scope cl C X.env) fp) tg ts g) (ht : ∀ (s : Shared) (H : Hp) (C : Addr) (cl : List (Str × Addr)) (fp : List Addr), FTs (X.blk s H scope (compEnvC scope cl C X.env) fp) ZF ifs t)
    (he : ∀ (s : Shared) (H : Hp) (C : Addr) (cl : List (Str × Addr)) (fp : List Addr), FE (X.blk s H scope (compEnvC scope cl C X.env) fp) ZF elt f)
    (hNi : X.N[i]? = some x := by rfl) (hv : Vis X.env.scope x := by first | exact Or.inl rfl | exact Or.inr (Or.inl rfl) | exact Or.inr (Or.inr rfl)) (hd : (x == ("__debug__" : Str)) = false := by decide)
    (hcd : (x == ("__classdict__" : Str)) = false := by decide) (hts : own.map (·.2) = ts := by rfl) (hc : X.calm = true := by rfl) (hs : ∀ v, foldedSetIterable (.Name x px) X.env v = pure v := by intro _; rfl) :
    FE X Z (.ListComp elt [⟨tg, .Name x px, ifs, 0⟩] scope pos) (eLcK c ts i g t f) :=
  PEimp (pe_lock_or (pe_lc (g := upG X.K X.mg ts g) (tt := up X.K X.mg RB ZF t) (te := up X.K X.mg (Rep X.K) ZF f) hc hN (pi_keys (pe_var hNi hv hd hcd)) ok hg ht he hs)) fun σ H Q ⟨W, sl, cs, S, L, q⟩ => by
    unfold eLcK at q
    split at q
    · rename_i ks hk
      obtain ⟨v, h1, r⟩ := L.2 i _ hk
      cases r with
      | @dic a kvs _ hz hl r =>
        have core : ∀ {H : Hp} {o : Obj} {Q : VK}, RS X.K X.mg W cs H → H a = some (.frz o (.dK kvs)) → Fin X.K X.mg (Rep X.K) Z W σ H ((lcL (fun _ => True) g t f (wipeS sl ts) (ks.map fun kv => keyD kv.1) cs).bind fun ys cs2 => mkL c ys cs2) Q →
            tLc (iKeys (tVar i)) (upG X.K X.mg ts g) (up X.K X.mg RB ZF t) (up X.K X.mg (Rep X.K) ZF f) (own.map (·.2)) σ H Q := fun {H o Q} S h q => by
          rw [hts]
          exact lc_upT (ts := ts) rfl W sl fun R go => ⟨_, h1, a, o, rfl, .inl ⟨kvs, h, go ⟨ks.map fun kv => keyD kv.1, fun _ => True⟩ cs W H _ (Step.refl _ _) S L (itRep_keys hl r h hz) q⟩⟩
        rcases S.fzd hz with h0 | ⟨o, h0⟩
        · exact .inl ⟨a, .dK kvs, h0, trivial, fun od => core (S.lock hz h0 od) upd_same (Fin.lock h0 hz q)⟩
        · exact .inr (core S h0 (Fin.unnox q))
    · exact q.elim
end
/-! ### running them -/
section
variable {sl : Sl} {cs : Cs} {Q : D → Cs → Prop} {ks : List (Key × D)} {es : List D}
theorem prsD_map : ∀ ks : List (Key × D), prsD (ks.map fun kv => .tup [keyD kv.1, kv.2]) = some ks
  | [] => rfl
  | (k, d) :: r => by
    have e : keyOf (keyD k) = some k := by cases k <;> rfl
    show (match keyOf (keyD k), prsD (r.map fun kv => .tup [keyD kv.1, kv.2]) with | some j, some ks => some ((j, d) :: ks) | _, _ => none) = _
    rw [e, prsD_map r]
theorem r_dict {m : Bool} (e : prsD es = some ks) : bDict m [.lst es] cs = mkD m (mergeD [] ks) cs := by
  unfold bDict; dsimp only; rw [e]
theorem mergeD_nodup : ∀ (more ks : List (Key × D)), ((ks ++ more).map (·.1)).Nodup → mergeD ks more = ks ++ more
  | [], ks, _ => (List.append_nil ks).symm
  | (k, d) :: r, ks, h => by
    have e : putD ks k d = ks ++ [(k, d)] := by
      unfold putD
      rw [if_neg]
      intro z
      obtain ⟨kv, m, e⟩ := List.any_eq_true.mp z
      have e := of_decide_eq_true e
      rw [List.map_append, List.nodup_append] at h
      exact h.2.2 kv.1 (List.mem_map_of_mem m) k (by simp) e
    show mergeD (putD ks k d) r = _
    rw [e, mergeD_nodup r _ (by rw [List.append_assoc]; exact h), List.append_assoc]; rfl
theorem w_lcK {c : Bool} {own : List Nat} {i : Nat} {g : SG} {t : ST} {f : SE} (e : sl[i]? = some (some (.dic ks))) (w : Sat (lcL (fun _ => True) g t f (wipeS sl own) (ks.map fun kv => keyD kv.1) cs) fun ys cs2 => Sat (mkL c ys cs2) Q) : Sat (eLcK c own i g t f sl cs) Q := by
  unfold eLcK; rw [e]; dsimp only
  rw [sat_nox, sat_bind]; exact w
end
end LF

set_option Elab.async false
namespace GF
/-! ### bits in common; masks -/
def pc (n : Nat) : Nat := if n = 0 then 0 else n % 2 + pc (n / 2)
termination_by n
decreasing_by omega
theorem pc_zero : pc 0 = 0 := by rw [pc]; rfl
theorem pc_eq (n : Nat) : pc n = n % 2 + pc (n / 2) := by
  by_cases h : n = 0
  · subst h; rw [show 0 / 2 = 0 from rfl, pc_zero]
  · rw [pc, if_neg h]
theorem pc_xor (n : Nat) : ∀ m, pc (n ^^^ m) % 2 = (pc n + pc m) % 2 := by
  refine Nat.strongRecOn n ?_
  · clear n; intro n ih m
    by_cases h : n = 0
    · subst h; rw [Nat.zero_xor, pc_zero, Nat.zero_add]
    · have e1 : (n ^^^ m) / 2 = n / 2 ^^^ m / 2 := by
        refine Nat.eq_of_testBit_eq fun i => ?_
        rw [Nat.testBit_div_two, Nat.testBit_xor, Nat.testBit_xor, Nat.testBit_div_two, Nat.testBit_div_two]
      have e2 : (n ^^^ m) % 2 = (n + m) % 2 := by have := Nat.xor_mod_two_eq_one (a := n) (b := m); omega
      have := ih (n / 2) (by omega) (m / 2)
      rw [pc_eq (n ^^^ m), pc_eq n, pc_eq m, e1, e2]
      omega
def par (n : Nat) : Bool := decide (pc n % 2 = 1)
theorem par_zero : par 0 = false := by unfold par; rw [pc_zero]; rfl
theorem par_xor (a b : Nat) : par (a ^^^ b) = (par a != par b) := by
  unfold par
  rw [pc_xor]
  by_cases h : pc a % 2 = 1 <;> by_cases h' : pc b % 2 = 1 <;> simp only [h, h', decide_true, decide_false] <;> simp <;> omega
theorem pc_pow : ∀ k : Nat, pc (2 ^ k) = 1
  | 0 => by rw [pc_eq]; rw [show (2 ^ 0) / 2 = 0 from rfl, pc_zero]
  | k + 1 => by
    rw [pc_eq, Nat.pow_succ, Nat.mul_mod_left, Nat.mul_div_cancel _ (by decide), pc_pow k]
theorem par_pow (k : Nat) : par (2 ^ k) = true := by unfold par; rw [pc_pow]; rfl
/-- the lowest bit goes -/
theorem low_out (n : Nat) : n ≠ 0 → pc (n &&& (n - 1)) + 1 = pc n := by
  refine Nat.strongRecOn n ?_
  · clear n; intro n ih h
    have e1 : (n &&& (n - 1)) / 2 = n / 2 &&& (n - 1) / 2 := by
      refine Nat.eq_of_testBit_eq fun i => ?_
      rw [Nat.testBit_div_two, Nat.testBit_and, Nat.testBit_and, Nat.testBit_div_two, Nat.testBit_div_two]
    have e2 : (n &&& (n - 1)) % 2 = 0 := by
      have : (n &&& (n - 1)).testBit 0 = false := by
        rw [Nat.testBit_and, Nat.testBit_zero, Nat.testBit_zero]
        by_cases q : n % 2 = 1
        · have : (n - 1) % 2 = 0 := by omega
          rw [this]; simp
        · rw [decide_eq_false q, Bool.false_and]
      rw [Nat.testBit_zero] at this
      have := of_decide_eq_false this
      omega
    rw [pc_eq (n &&& (n - 1)), pc_eq n, e1, e2]
    by_cases q : n % 2 = 1
    · have : (n - 1) / 2 = n / 2 := by omega
      rw [this, Nat.and_self]; omega
    · have h2 : n / 2 ≠ 0 := by omega
      have : (n - 1) / 2 = n / 2 - 1 := by omega
      rw [this]
      have := ih (n / 2) (by omega) h2
      omega
theorem low_less {n : Nat} (h : n ≠ 0) : n &&& (n - 1) < n := by
  have : n &&& (n - 1) ≤ n - 1 := Nat.and_le_right
  omega
theorem par_low {n : Nat} (h : n ≠ 0) : par n = !par (n &&& (n - 1)) := by
  have := low_out n h
  unfold par
  rw [← this]
  by_cases q : pc (n &&& (n - 1)) % 2 = 1 <;> simp [q] <;> omega
/-- an odd number of bits in common -/
def dot (a b : Nat) : Bool := par (a &&& b)
theorem dot_xor (a b m : Nat) : dot (a ^^^ b) m = (dot a m != dot b m) := by
  unfold dot; rw [Nat.and_xor_distrib_right, par_xor]
theorem dot_xor' (m a b : Nat) : dot m (a ^^^ b) = (dot m a != dot m b) := by
  unfold dot; rw [Nat.and_xor_distrib_left, par_xor]
theorem dot_zero (m : Nat) : dot m 0 = false := by unfold dot; rw [Nat.and_zero, par_zero]
theorem zero_dot (m : Nat) : dot 0 m = false := by unfold dot; rw [Nat.zero_and, par_zero]
theorem dot_pow (a k : Nat) : dot a (2 ^ k) = a.testBit k := by
  unfold dot
  by_cases h : a.testBit k = true
  · have : a &&& 2 ^ k = 2 ^ k := by
      refine Nat.eq_of_testBit_eq fun i => ?_
      rw [Nat.testBit_and, Nat.testBit_two_pow]
      by_cases q : k = i
      · subst q; simp [h]
      · simp [q]
    rw [this, par_pow, h]
  · have : a &&& 2 ^ k = 0 := by
      refine Nat.eq_of_testBit_eq fun i => ?_
      rw [Nat.testBit_and, Nat.testBit_two_pow, Nat.zero_testBit]
      by_cases q : k = i
      · subst q; simpa using h
      · simp [q]
    rw [this, par_zero]; simpa using h
theorem dot_sp {l : List Nat} {m : Nat} (h : ∀ b ∈ l, dot b m = false) {n : Nat} (q : Sp l n) : dot n m = false :=
  Sp.all (P := fun n => dot n m = false) (zero_dot m) (fun x y h1 h2 => by rw [dot_xor, h1, h2]; rfl) h q
theorem dot_sp' {l : List Nat} {a : Nat} (h : ∀ m ∈ l, dot a m = false) {n : Nat} (q : Sp l n) : dot a n = false :=
  Sp.all (P := fun n => dot a n = false) (dot_zero a) (fun x y h1 h2 => by rw [dot_xor', h1, h2]; rfl) h q
/-- a mask lets all numbers by, but this one -/
def Shows (ns : List Nat) (n m : Nat) : Prop := (∀ b ∈ ns, dot b m = false) ∧ dot n m = true
theorem Shows.of {ns f : List Nat} (h : Same ns f) {n m : Nat} : Shows ns n m ↔ Shows f n m :=
  ⟨fun s => ⟨fun b hb => dot_sp s.1 ((h b).mpr (.mem hb)), s.2⟩, fun s => ⟨fun b hb => dot_sp s.1 ((h b).mp (.mem hb)), s.2⟩⟩
theorem Shows.not {ns : List Nat} {n m : Nat} (h : Shows ns n m) : ¬ Sp ns n := fun q => Bool.false_ne_true ((dot_sp h.1 q).symm.trans h.2)
/-! ### the even numbers of a basis -/
def ev (f : List Nat) (k : Nat) : Nat := xs (2 ^ k :: (f.filter fun b => b.testBit k).map fun b => 2 ^ b.log2)
/-- places that are no tops -/
def free (f : List Nat) (k : Nat) : Bool := !(f.any fun b => decide (2 ^ b.log2 = 2 ^ k))
theorem free_iff {f : List Nat} {k : Nat} : free f k = true ↔ ∀ b ∈ f, b.log2 ≠ k := by
  unfold free
  rw [Bool.not_eq_true', List.any_eq_false]
  refine ⟨fun h b hb e => h b hb (by rw [e]; simp), fun h b hb q => h b hb ?_⟩
  exact (Nat.pow_right_inj (by decide)).mp (of_decide_eq_true q)
def evs (f : List Nat) (bits : Nat) : List Nat := ((List.range bits).filter (free f)).map (ev f)
theorem evs_succ (f : List Nat) (k : Nat) : evs f (k + 1) = evs f k ++ if free f k then [ev f k] else [] := by
  unfold evs
  rw [List.range_succ, List.filter_append, List.map_append]
  cases h : free f k <;> simp [h]
theorem evs_len (f : List Nat) (k : Nat) : (evs f k).length ≤ k := by
  unfold evs
  rw [List.length_map]
  exact Nat.le_trans (List.length_filter_le _ _) (by rw [List.length_range]; exact Nat.le_refl _)
theorem dot_tops {f : List Nat} (R : Red f) {b : Nat} : ∀ {l : List Nat}, (∀ x ∈ l, x ∈ f) → (∀ x ∈ f, b.testBit x.log2 = false) → dot b (xs (l.map fun b => 2 ^ b.log2)) = false
  | [], _, _ => dot_zero b
  | x :: l, h, c => by
    rw [List.map_cons, xs_cons, dot_xor', dot_pow, c x (h x List.mem_cons_self), dot_tops R (fun y hy => h y (List.mem_cons_of_mem _ hy)) c]; rfl
/-- a number clear at the tops has of an even number just its own place -/
theorem dot_clear {f : List Nat} (R : Red f) {n k : Nat} (c : ∀ b ∈ f, n.testBit b.log2 = false) : dot n (ev f k) = n.testBit k := by
  unfold ev
  rw [xs_cons, dot_xor', dot_pow, dot_tops R (fun x hx => (List.mem_filter.mp hx).1) c]
  cases n.testBit k <;> rfl
theorem ap_of {f : List Nat} (R : Red f) : ∀ b ∈ f, ∀ c ∈ f, b = c ∨ b.testBit c.log2 = false := by
  have key : ∀ {l : List Nat}, l.Pairwise Ap → ∀ b ∈ l, ∀ c ∈ l, b = c ∨ b.testBit c.log2 = false := by
    intro l h
    induction h with
    | nil => simp
    | @cons a l h1 h2 ih =>
      intro b hb c hc
      rcases List.mem_cons.mp hb with e | kb <;> rcases List.mem_cons.mp hc with e' | kc
      · exact .inl (e.trans e'.symm)
      · rw [e]; exact .inr (h1 c kc).1
      · rw [e']; exact .inr (h1 b kb).2
      · exact ih b kb c kc
  exact key R.ap
theorem nodup_red {f : List Nat} (R : Red f) : f.Nodup := by
  have key : ∀ {l : List Nat}, (∀ b ∈ l, b ≠ 0) → l.Pairwise Ap → l.Nodup := by
    intro l h0 h
    induction h with
    | nil => exact .nil
    | @cons a l h1 h2 ih =>
      refine List.nodup_cons.mpr ⟨fun m => ?_, ih fun b hb => h0 b (List.mem_cons_of_mem _ hb)⟩
      exact (h1 a m).ne (h0 a List.mem_cons_self) rfl
  exact key R.pos R.ap
theorem dot_own {f : List Nat} (R : Red f) {b : Nat} (hb : b ∈ f) : ∀ {l : List Nat}, l.Nodup → (∀ x ∈ l, x ∈ f) → dot b (xs (l.map fun b => 2 ^ b.log2)) = decide (b ∈ l)
  | [], _, _ => by rw [List.map_nil]; exact (dot_zero b).trans (by simp)
  | x :: l, nd, h => by
    rw [List.map_cons, xs_cons, dot_xor', dot_pow, dot_own R hb (List.nodup_cons.mp nd).2 fun y hy => h y (List.mem_cons_of_mem _ hy)]
    by_cases e : b = x
    · subst e
      rw [top_bit (R.pos b hb)]
      simp [(List.nodup_cons.mp nd).1]
    · rcases ap_of R b hb x (h x List.mem_cons_self) with q | q
      · exact absurd q e
      · rw [q]; simp [e]
theorem dot_even {f : List Nat} (R : Red f) {b : Nat} (hb : b ∈ f) (k : Nat) : dot b (ev f k) = false := by
  unfold ev
  rw [xs_cons, dot_xor', dot_pow, dot_own R hb ((nodup_red R).filter _) fun x hx => (List.mem_filter.mp hx).1]
  by_cases q : b.testBit k = true
  · rw [q]; simp [hb, q]
  · have q : b.testBit k = false := by simpa using q
    rw [q]; simp [hb, q]
theorem xs_pow {j : Nat} : ∀ {l : List Nat}, (∀ b ∈ l, b.log2 ≠ j) → (xs (l.map fun b => 2 ^ b.log2)).testBit j = false
  | [], _ => Nat.zero_testBit _
  | x :: l, h => by
    rw [List.map_cons, xs_cons, xb, Nat.testBit_two_pow, xs_pow fun b hb => h b (List.mem_cons_of_mem _ hb)]
    simp [h x List.mem_cons_self]
/-- at a free place an even number has just its own -/
theorem ev_bit {f : List Nat} {k j : Nat} (h : free f j = true) : (ev f k).testBit j = decide (k = j) := by
  unfold ev
  rw [xs_cons, xb, Nat.testBit_two_pow, xs_pow fun b hb => free_iff.mp h b (List.mem_filter.mp hb).1]
  cases decide (k = j) <;> rfl
theorem ev_lt {f : List Nat} {k bits : Nat} (hk : k < bits) (hf : ∀ b ∈ f, b < 2 ^ bits) (h0 : ∀ b ∈ f, b ≠ 0) : ev f k < 2 ^ bits := by
  refine sp_lt (bs := 2 ^ k :: (f.filter fun b => b.testBit k).map fun b => 2 ^ b.log2) (fun b hb => ?_) (sub_sp (List.Sublist.refl _))
  (rcases List.mem_cons.mp hb with rfl | hb)
  · exact Nat.pow_lt_pow_right (by decide) hk
  · obtain ⟨c, hc, rfl⟩ := List.mem_map.mp hb
    have hc := (List.mem_filter.mp hc).1
    exact Nat.pow_lt_pow_right (by decide) ((Nat.log2_lt (h0 c hc)).mpr (hf c hc))
/-- the part of a number at some places, by even numbers -/
def evp (f : List Nat) (m : Nat) (ks : List Nat) : Nat := xs ((ks.filter fun k => m.testBit k).map (ev f))
theorem evp_bit {f : List Nat} {m j : Nat} (hj : free f j = true) : ∀ {ks : List Nat}, ks.Nodup → (evp f m ks).testBit j = (decide (j ∈ ks) && m.testBit j)
  | [], _ => by unfold evp; simp [xs]
  | k :: ks, nd => by
    have ih := evp_bit (f := f) (m := m) hj (List.nodup_cons.mp nd).2
    unfold evp at ih ⊢
    rw [List.filter_cons]
    by_cases q : m.testBit k = true
    · rw [if_pos q, List.map_cons, xs_cons, xb, ev_bit hj, ih]
      by_cases e : k = j
      · subst e; simp [(List.nodup_cons.mp nd).1, q]
      · simp [e, Ne.symm e]
    · rw [if_neg q, ih]
      by_cases e : j = k
      · subst e; simp [q]
      · simp [e]
/-- the even numbers make all that is even -/
theorem ev_all {f : List Nat} (R : Red f) {bits m : Nat} (hm : m < 2 ^ bits) (h : ∀ b ∈ f, dot b m = false) : Sp (evs f bits) m := by
  have hs : Sp (evs f bits) (evp f m ((List.range bits).filter (free f))) := by
    unfold evp evs
    exact sub_sp (List.Sublist.map _ List.filter_sublist)
  have nd : ((List.range bits).filter (free f)).Nodup := List.nodup_range.filter _
  have z : m ^^^ evp f m ((List.range bits).filter (free f)) = 0 := by
    have cl : ∀ j, free f j = true → (m ^^^ evp f m ((List.range bits).filter (free f))).testBit j = false := fun j hj => by
      rw [xb, evp_bit hj nd]
      by_cases q : m.testBit j = true
      · have : j < bits := Nat.lt_of_not_le fun z => by
          rw [Nat.testBit_lt_two_pow (Nat.lt_of_lt_of_le hm (Nat.pow_le_pow_right (by decide) z))] at q; cases q
        simp [q, this, hj]
      · simp [q]
    have dz : ∀ b ∈ f, dot b (m ^^^ evp f m ((List.range bits).filter (free f))) = false := fun b hb => by
      rw [dot_xor', h b hb, dot_sp' (fun x hx => ?_) hs]; rfl
      unfold evs at hx
      obtain ⟨k, _, rfl⟩ := List.mem_map.mp hx
      exact dot_even R hb k
    generalize m ^^^ evp f m ((List.range bits).filter (free f)) = r at cl dz
    refine Nat.eq_of_testBit_eq fun j => ?_
    rw [Nat.zero_testBit]
    by_cases hj : free f j = true
    · exact cl j hj
    · have : ∃ b ∈ f, b.log2 = j := Classical.byContradiction fun z => hj (free_iff.mpr fun b hb e => z ⟨b, hb, e⟩)
      obtain ⟨b, hb, rfl⟩ := this
      have e : b &&& r = if r.testBit b.log2 then 2 ^ b.log2 else 0 := by
        refine Nat.eq_of_testBit_eq fun i => ?_
        rw [Nat.testBit_and]
        by_cases e : b.log2 = i
        · subst e
          rw [top_bit (R.pos b hb)]
          cases r.testBit b.log2 <;> simp
        · have : (b.testBit i && r.testBit i) = false := by
            by_cases fi : free f i = true
            · rw [cl i fi, Bool.and_false]
            · have : ∃ c ∈ f, c.log2 = i := Classical.byContradiction fun z => fi (free_iff.mpr fun b hb e => z ⟨b, hb, e⟩)
              obtain ⟨c, hc, rfl⟩ := this
              rcases ap_of R b hb c hc with q | q
              · exact absurd (by rw [q]) e
              · rw [q, Bool.false_and]
          rw [this]
          split
          · rw [Nat.testBit_two_pow]; simp [e]
          · simp
      have d := dz b hb
      unfold dot at d
      rw [e] at d
      split at d
      · rw [par_pow] at d; cases d
      · rename_i q; simpa using q
  have : m = evp f m ((List.range bits).filter (free f)) := by
    have := congrArg (fun x => x ^^^ evp f m ((List.range bits).filter (free f))) z
    simpa [xself] using this
  rw [this]; exact hs
/-! ### the least mask -/
/-- what the program does with its odd and even ones -/
def odds (f : List Nat) (n bits : Nat) : List Nat := (evs f bits).filter fun m => dot n m
def evens (f : List Nat) (n bits : Nat) : List Nat := (evs f bits).filter fun m => !dot n m
theorem odds_ne {f : List Nat} (R : Red f) {n bits : Nat} (h : n ≠ 0) (c : ∀ b ∈ f, n.testBit b.log2 = false) (hn : n < 2 ^ bits) : odds f n bits ≠ [] := fun z => by
  have hf : free f n.log2 = true := free_iff.mpr fun b hb e => by
    have := c b hb
    rw [e, top_bit h] at this; cases this
  have : ev f n.log2 ∈ odds f n bits := List.mem_filter.mpr ⟨List.mem_map.mpr ⟨n.log2, List.mem_filter.mpr ⟨List.mem_range.mpr ((Nat.log2_lt h).mpr hn), hf⟩, rfl⟩, by rw [dot_clear R c]; exact top_bit h⟩
  rw [z] at this
  cases this
/-- the mask that is told: a sum of the first odd one, least by these -/
structure Msk (f : List Nat) (n bits m : Nat) : Prop where
  lt : m < 2 ^ bits
  even : ∀ b ∈ f, dot b m = false
  odd : dot n m = true
  least : ∀ v, v < 2 ^ bits → v ≠ 0 → (∀ b ∈ f, dot b v = false) → dot n v = false → m.testBit v.log2 = false
theorem msk_of {f : List Nat} (R : Red f) {n bits o : Nat} {os B : List Nat} (hf : ∀ b ∈ f, b < 2 ^ bits) (e : odds f n bits = o :: os) (hB : Basis (evens f n bits ++ os.map (· ^^^ o)) B) : Msk f n bits (less o B) := by
  have ho : ∀ x ∈ odds f n bits, x ∈ evs f bits ∧ dot n x = true := fun x hx => List.mem_filter.mp hx
  have hev : ∀ x ∈ evs f bits, x < 2 ^ bits ∧ ∀ b ∈ f, dot b x = false := fun x hx => by
    obtain ⟨k, hk, rfl⟩ := List.mem_map.mp hx
    exact ⟨ev_lt (List.mem_range.mp (List.mem_filter.mp hk).1) hf R.pos, fun b hb => dot_even R hb k⟩
  have o1 := ho o (by rw [e]; exact List.mem_cons_self)
  have oe := hev o o1.1
  have all : ∀ x ∈ evens f n bits ++ os.map (· ^^^ o), x < 2 ^ bits ∧ (∀ b ∈ f, dot b x = false) ∧ dot n x = false := fun x hx => by
    (rcases List.mem_append.mp hx with hx | hx)
    · obtain ⟨h1, h2⟩ := List.mem_filter.mp hx
      exact ⟨(hev x h1).1, (hev x h1).2, by simpa using h2⟩
    · obtain ⟨y, hy, rfl⟩ := List.mem_map.mp hx
      have y1 := ho y (by rw [e]; exact List.mem_cons_of_mem _ hy)
      have ye := hev y y1.1
      exact ⟨Nat.xor_lt_two_pow ye.1 oe.1, fun b hb => by rw [dot_xor', ye.2 b hb, oe.2 b hb]; rfl, by rw [dot_xor', y1.2, o1.2]; rfl⟩
  have sp : Sp B (o ^^^ less o B) := less_sp
  have sp' := (hB.same _).mpr sp
  have e3 : less o B = o ^^^ (o ^^^ less o B) := by rw [← Nat.xor_assoc, Nat.xor_self, Nat.zero_xor]
  refine ⟨?_, fun b hb => ?_, ?_, fun v hv v0 hvb hvn => ?_⟩
  · rw [e3]; exact Nat.xor_lt_two_pow oe.1 (sp_lt (fun b hb => (all b hb).1) sp')
  · rw [e3, dot_xor', oe.2 b hb, dot_sp' (fun x hx => (all x hx).2.1 b hb) sp']; rfl
  · rw [e3, dot_xor', o1.2, dot_sp' (fun x hx => (all x hx).2.2) sp']; rfl
  · have hs := ev_all R hv hvb
    -- sums of even numbers that are even to n
    have key : ∀ {x : Nat}, Sp (evs f bits) x → (dot n x = false → Sp (evens f n bits ++ os.map (· ^^^ o)) x) ∧ (dot n x = true → Sp (evens f n bits ++ os.map (· ^^^ o)) (x ^^^ o)) := by
      intro x h
      refine Sp.all (P := fun x => (dot n x = false → Sp (evens f n bits ++ os.map (· ^^^ o)) x) ∧ (dot n x = true → Sp (evens f n bits ++ os.map (· ^^^ o)) (x ^^^ o))) ⟨fun _ => .zero _, fun z => by rw [dot_zero] at z; cases z⟩ ?_ ?_ h
      · intro x y ⟨h1, h2⟩ ⟨h3, h4⟩
        rw [dot_xor']
        cases p : dot n x <;> cases q : dot n y <;> simp only [bne_self_eq_false, Bool.bne_true, Bool.bne_false, Bool.not_true, Bool.not_false, Bool.true_bne, Bool.false_bne] <;> refine ⟨fun z => ?_, fun z => ?_⟩
        · exact (h1 p).add (h3 q)
        · cases z
        · cases z
        · have := (h1 p).add (h4 q); rwa [Nat.xor_assoc]
        · cases z
        · have := (h2 p).add (h3 q)
          rwa [Nat.xor_assoc, Nat.xor_comm o y, ← Nat.xor_assoc] at this
        · have := (h2 p).add (h4 q)
          have e : x ^^^ o ^^^ (y ^^^ o) = x ^^^ y := by
            rw [Nat.xor_assoc, Nat.xor_comm o, Nat.xor_assoc y, Nat.xor_self, Nat.xor_zero]
          rwa [e] at this
        · cases z
      · intro x hx
        refine ⟨fun z => .mem (List.mem_append_left _ (List.mem_filter.mpr ⟨hx, by rw [z]; rfl⟩)), fun z => ?_⟩
        have : x ∈ o :: os := by rw [← e]; exact List.mem_filter.mpr ⟨hx, z⟩
        rcases List.mem_cons.mp this with rfl | q
        · rw [Nat.xor_self]; exact .zero _
        · exact .mem (List.mem_append_right _ (List.mem_map.mpr ⟨x, q, rfl⟩))
    have hB2 := (hB.same v).mp ((key hs).1 hvn)
    obtain ⟨b, hb, eb⟩ := top_in hB.red hB2 v0
    rw [← eb]
    exact less_clear hB.red b hb
end GF

set_option Elab.async false
namespace GF
/-! ### the least mask of some numbers; columns -/
structure Mk (ns : List Nat) (n m : Nat) : Prop where
  even : ∀ b ∈ ns, dot b m = false
  odd : dot n m = true
  least : ∀ v, v ≠ 0 → (∀ b ∈ ns, dot b v = false) → dot n v = false → m.testBit v.log2 = false
theorem Mk.unique {ns : List Nat} {n m m' : Nat} (h : Mk ns n m) (h' : Mk ns n m') : m = m' := by
  refine Classical.byContradiction fun ne => ?_
  have v0 : m ^^^ m' ≠ 0 := fun z => ne (by
    have := congrArg (· ^^^ m') z
    simpa [xself] using this)
  have e1 : ∀ b ∈ ns, dot b (m ^^^ m') = false := fun b hb => by rw [dot_xor', h.even b hb, h'.even b hb]; rfl
  have e2 : dot n (m ^^^ m') = false := by rw [dot_xor', h.odd, h'.odd]; rfl
  have t := top_bit v0
  rw [xb, h.least _ v0 e1 e2, h'.least _ v0 e1 e2] at t
  cases t
theorem Mk.same {ns f : List Nat} (h : Same ns f) {n m : Nat} (k : Mk ns n m) : Mk f n m :=
  ⟨fun b hb => dot_sp k.even ((h b).mpr (.mem hb)), k.odd, fun v v0 hv hn => k.least v v0 (fun b hb => dot_sp hv ((h b).mp (.mem hb))) hn⟩
theorem Mk.shift {f : List Nat} {n l m : Nat} (h : Sp f (n ^^^ l)) (k : Mk f l m) : Mk f n m := by
  have e : ∀ v, (∀ b ∈ f, dot b v = false) → dot n v = dot l v := fun v hv => by
    have := dot_sp hv h
    rw [dot_xor] at this
    revert this
    cases dot n v <;> cases dot l v <;> simp
  exact ⟨k.even, (e m k.even).trans k.odd, fun v v0 hv hn => k.least v v0 hv ((e v hv).symm.trans hn)⟩
theorem Msk.least_of {f : List Nat} {n bits m : Nat} (h : Msk f n bits m) : Mk f n m := ⟨h.even, h.odd, fun v v0 hv hn => by
  by_cases q : v < 2 ^ bits
  · exact h.least v q v0 hv hn
  · have : bits ≤ v.log2 := (Nat.le_log2 v0).mpr (Nat.le_of_not_lt q)
    exact Nat.testBit_lt_two_pow (Nat.lt_of_lt_of_le h.lt (Nat.pow_le_pow_right (by decide) this))⟩
theorem Mk.shows {ns : List Nat} {n m : Nat} (h : Mk ns n m) : Shows ns n m := ⟨h.even, h.odd⟩
/-- a row of bits, one of each number -/
def colv (rows : List Nat) (m : Nat) : Nat := rows.foldl (fun c r => 2 * c + (dot r m).toNat) 0
theorem col_step (p q : Nat) (x y : Bool) : (2 * p + x.toNat) ^^^ (2 * q + y.toNat) = 2 * (p ^^^ q) + (x != y).toNat := by
  have b0 : ∀ (p : Nat) (x : Bool), (2 * p + x.toNat).testBit 0 = x := fun p x => by
    rw [Nat.testBit_zero]
    cases x
    · simp
    · have : (2 * p + true.toNat) % 2 = 1 := by simp
      simp [this]
  have bs : ∀ (p : Nat) (x : Bool) (i : Nat), (2 * p + x.toNat).testBit (i + 1) = p.testBit i := fun p x i => by
    rw [Nat.testBit_succ]
    have : (2 * p + x.toNat) / 2 = p := by cases x <;> simp <;> omega
    rw [this]
  refine Nat.eq_of_testBit_eq fun i => ?_
  rw [xb]
  cases i with
  | zero => rw [b0, b0, b0]
  | succ i => rw [bs, bs, bs, xb]
theorem pow_add : ∀ (k n : Nat), n.testBit k = false → 2 ^ k + n = 2 ^ k ^^^ n
  | 0, n, h => by
    rw [Nat.testBit_zero] at h
    have h := of_decide_eq_false h
    have := col_step 0 (n / 2) true false
    simp only [Nat.mul_zero, Nat.zero_add, Nat.zero_xor, Bool.toNat_true, Bool.toNat_false, Nat.add_zero, Bool.bne_false] at this
    have e : 2 * (n / 2) = n := by omega
    rw [e] at this
    show 1 + n = 1 ^^^ n
    omega
  | k + 1, n, h => by
    rw [Nat.testBit_succ] at h
    have ih := pow_add k (n / 2) h
    have e : n = 2 * (n / 2) + (decide (n % 2 = 1)).toNat := by
      by_cases q : n % 2 = 1
      · simp [q]; omega
      · simp [q]; omega
    have := col_step (2 ^ k) (n / 2) false (decide (n % 2 = 1))
    rw [← e, ← ih, Bool.toNat_false, Nat.add_zero, Bool.false_bne, show 2 * 2 ^ k = 2 ^ (k + 1) from by rw [Nat.pow_succ, Nat.mul_comm]] at this
    rw [this]
    omega
theorem sum_tops : ∀ {l : List Nat}, l.Pairwise Ap → (∀ b ∈ l, b ≠ 0) → (l.map fun b => 2 ^ b.log2).sum = xs (l.map fun b => 2 ^ b.log2)
  | [], _, _ => rfl
  | a :: l, h, h0 => by
    (obtain ⟨h1, h2⟩ := List.pairwise_cons.mp h)
    rw [List.map_cons, List.sum_cons, sum_tops h2 fun b hb => h0 b (List.mem_cons_of_mem _ hb), xs_cons]
    exact pow_add _ _ (xs_pow fun b hb e => (h1 b hb).ne (h0 a List.mem_cons_self) e.symm)
theorem ev_sum {f : List Nat} (R : Red f) {k : Nat} (h : free f k = true) : 2 ^ k + ((f.filter fun b => b.testBit k).map fun b => 2 ^ b.log2).sum = ev f k := by
  rw [sum_tops (R.ap.filter _) fun b hb => R.pos b (List.mem_filter.mp hb).1]
  exact pow_add _ _ (xs_pow fun b hb => free_iff.mp h b (List.mem_filter.mp hb).1)
theorem colv_xor (rows : List Nat) (a b : Nat) : colv rows (a ^^^ b) = colv rows a ^^^ colv rows b := by
  have key : ∀ (rows : List Nat) (p q : Nat), rows.foldl (fun c r => 2 * c + (dot r (a ^^^ b)).toNat) (p ^^^ q) = rows.foldl (fun c r => 2 * c + (dot r a).toNat) p ^^^ rows.foldl (fun c r => 2 * c + (dot r b).toNat) q := by
    intro rows
    induction rows with
    | nil => intro p q; rfl
    | cons r rows ih =>
      intro p q
      rw [List.foldl_cons, List.foldl_cons, List.foldl_cons, ← ih, dot_xor', col_step]
  have := key rows 0 0
  rwa [Nat.xor_self] at this
theorem colv_zero {rows : List Nat} {m : Nat} : colv rows m = 0 → ∀ r ∈ rows, dot r m = false := by
  have key : ∀ (rows : List Nat) (p : Nat), rows.foldl (fun c r => 2 * c + (dot r m).toNat) p = 0 → p = 0 ∧ ∀ r ∈ rows, dot r m = false := by
    intro rows
    induction rows with
    | nil => intro p h; exact ⟨h, by simp⟩
    | cons r rows ih =>
      intro p h
      obtain ⟨h1, h2⟩ := ih _ h
      have h1 : 2 * p + (dot r m).toNat = 0 := h1
      cases e : dot r m with
      | true => rw [e] at h1; simp at h1
      | false =>
        rw [e] at h1
        refine ⟨by simp at h1; omega, fun x hx => ?_⟩
        (rcases List.mem_cons.mp hx with rfl | hx)
        · exact e
        · exact h2 x hx
  exact fun h => (key rows 0 h).2
theorem col_lt : ∀ (rows : List Nat) (m p k : Nat), p < 2 ^ k → rows.foldl (fun c r => 2 * c + (dot r m).toNat) p < 2 ^ (k + rows.length)
  | [], m, p, k, h => h
  | r :: rows, m, p, k, h => by
    have : (dot r m).toNat ≤ 1 := Bool.toNat_le _
    have := col_lt rows m (2 * p + (dot r m).toNat) (k + 1) (by rw [Nat.pow_succ]; omega)
    rw [List.length_cons, show k + (rows.length + 1) = k + 1 + rows.length from by omega]
    exact this
theorem colv_lt (rows : List Nat) (m : Nat) : colv rows m < 2 ^ rows.length := by
  have := col_lt rows m 0 0 (by decide)
  rwa [Nat.zero_add] at this
/-- the columns of lesser bits, cleared one by another -/
structure Cols (rows : List Nat) (k : Nat) (seen : List Nat) : Prop where
  dec : Dec seen
  len : seen.length ≤ k
  same : Same ((List.range k).map fun j => colv rows (2 ^ j)) seen
theorem Cols.start (rows : List Nat) : Cols rows 0 [] := ⟨⟨by simp, .nil⟩, Nat.le_refl _, Same.refl _⟩
theorem Cols.skip {rows seen : List Nat} {k : Nat} (C : Cols rows k seen) (h : less (colv rows (2 ^ k)) seen = 0) : Cols rows (k + 1) seen := by
  refine ⟨C.dec, by have := C.len; omega, ?_⟩
  rw [List.range_succ, List.map_append]
  have hs := (dec_zero C.dec).mp h
  refine same_of (fun a ha => ?_) fun a ha => sp_left ((C.same a).mpr (.mem ha))
  rcases List.mem_append.mp ha with q | q
  · exact (C.same a).mp (.mem q)
  · obtain rfl : a = colv rows (2 ^ k) := by simpa using q
    exact hs
theorem Cols.keep {rows seen g : List Nat} {k : Nat} (C : Cols rows k seen) (h : less (colv rows (2 ^ k)) seen ≠ 0) (p : g.Perm (seen ++ [less (colv rows (2 ^ k)) seen])) (s : g.Pairwise (· ≥ ·)) : Cols rows (k + 1) g := by
  refine ⟨dec_more C.dec h p s, by rw [p.length_eq, List.length_append, List.length_singleton]; have := C.len; omega, ?_⟩
  rw [List.range_succ, List.map_append]
  refine Same.trans (m := seen ++ [less (colv rows (2 ^ k)) seen]) ?_ (same_mem fun a => p.mem_iff.symm)
  exact same_snoc C.same less_sp
/-- where a column is a sum of those of lesser bits, the least mask hasn't its bit -/
theorem Cols.least {ns seen : List Nat} {n k m : Nat} (C : Cols (ns ++ [n]) k seen) (h : less (colv (ns ++ [n]) (2 ^ k)) seen = 0) (M : Mk ns n m) : m.testBit k = false := by
  have hs := (C.same _).mpr ((dec_zero C.dec).mp h)
  rw [show ((List.range k).map fun j => colv (ns ++ [n]) (2 ^ j)) = ((List.range k).map fun j => 2 ^ j).map (colv (ns ++ [n])) from by rw [List.map_map]; rfl] at hs
  obtain ⟨u, hu, e⟩ := (sp_map (colv_xor (ns ++ [n]))).mp hs
  have hlt : u < 2 ^ k := sp_lt (fun b hb => by
    obtain ⟨j, hj, rfl⟩ := List.mem_map.mp hb
    exact Nat.pow_lt_pow_right (by decide) (List.mem_range.mp hj)) hu
  have z : colv (ns ++ [n]) (2 ^ k ^^^ u) = 0 := by rw [colv_xor, e, Nat.xor_self]
  have tb : (2 ^ k ^^^ u).testBit k = true ∧ ∀ j, k < j → (2 ^ k ^^^ u).testBit j = false := ⟨by
    rw [xb, Nat.testBit_two_pow_self, Nat.testBit_lt_two_pow hlt]; rfl, fun j hj => by
    rw [xb, Nat.testBit_two_pow, Nat.testBit_lt_two_pow (Nat.lt_of_lt_of_le hlt (Nat.pow_le_pow_right (by decide) (Nat.le_of_lt hj)))]
    simp; omega⟩
  have v0 : 2 ^ k ^^^ u ≠ 0 := fun q => by rw [q, Nat.zero_testBit] at tb; cases tb.1
  have lg : (2 ^ k ^^^ u).log2 = k := (hb_iff v0).mpr tb
  have d := colv_zero z
  have := M.least _ v0 (fun b hb => d b (List.mem_append_left _ hb)) (d n (List.mem_append_right _ List.mem_cons_self))
  rwa [lg] at this
def shownB (ns : List Nat) (n m : Nat) : Bool := ns.all (fun b => !dot b m) && dot n m
theorem shownB_iff {ns : List Nat} {n m : Nat} : shownB ns n m = true ↔ Shows ns n m := by
  unfold shownB Shows
  simp
theorem shownB_nil {ns : List Nat} {n m : Nat} (h : ns.filter (fun x => dot x m) = []) : shownB ns n m = dot n m := by
  unfold shownB
  have : ns.all (fun b => !dot b m) = true := List.all_eq_true.mpr fun b hb => by
    have := List.filter_eq_nil_iff.mp h b hb
    simpa using this
  rw [this, Bool.true_and]
theorem shownB_not {ns : List Nat} {n m : Nat} (h : ns.filter (fun x => dot x m) ≠ []) : shownB ns n m = false := by
  refine Bool.eq_false_iff.mpr fun z => h (List.filter_eq_nil_iff.mpr fun b hb => ?_)
  have := (shownB_iff.mp z).1 b hb
  simp [this]
end GF

set_option Elab.async false
set_option maxRecDepth 100000
namespace LF
open PySem PySem.Spec L2 GF
variable {cs : Cs}
/-! ### tops of a basis, as a dict -/
def tp (f : List Nat) : List (Key × D) := f.map fun b : Nat => (.inl ((2 ^ b.log2 : Nat) : Int), .int (b : Int))
theorem tp_inj {a b : Nat} : ((Sum.inl ((2 ^ a : Nat) : Int) : Key) = .inl ((2 ^ b : Nat) : Int)) ↔ a = b :=
  ⟨fun h => by
    injection h with h
    have h : (2 ^ a : Nat) = 2 ^ b := by exact_mod_cast h
    exact (Nat.pow_right_inj (by decide)).mp h, fun h => by rw [h]⟩
theorem tp_merge {f : List Nat} (R : Red f) : mergeD [] (tp f) = tp f := by
  have : ((tp f).map (·.1)).Nodup := by
    unfold tp
    rw [List.map_map]
    refine List.pairwise_map.mpr ?_
    have key : ∀ {l : List Nat}, (∀ b ∈ l, b ≠ 0) → l.Pairwise Ap → l.Pairwise fun a b => ((fun kv : Key × D => kv.1) ∘ fun b : Nat => ((.inl ((2 ^ b.log2 : Nat) : Int) : Key), D.int (b : Int))) a ≠ ((fun kv : Key × D => kv.1) ∘ fun b : Nat => ((.inl ((2 ^ b.log2 : Nat) : Int) : Key), D.int (b : Int))) b := by
      intro l h0 h
      induction h with
      | nil => exact .nil
      | @cons a l h1 h2 ih =>
        refine .cons (fun b hb e => ?_) (ih fun b hb => h0 b (List.mem_cons_of_mem _ hb))
        exact (h1 b hb).ne (h0 a List.mem_cons_self) (tp_inj.mp e)
    exact key R.pos R.ap
  exact mergeD_nodup (tp f) [] this
theorem tp_prs (f : List Nat) : prsD (f.map fun b : Nat => .tup [.int ((2 ^ b.log2 : Nat) : Int), .int (b : Int)]) = some (tp f) := by
  have := prsD_map (tp f)
  unfold tp at this ⊢
  rw [List.map_map] at this
  exact this
theorem tp_is (f : List Nat) (k : Nat) : (valD (tp f) (.inl ((2 ^ k : Nat) : Int))).isSome = !free f k := by
  unfold valD tp free
  rw [Option.isSome_map, Bool.not_not]
  induction f with
  | nil => rfl
  | cons b f ih =>
    rw [List.map_cons, List.find?_cons, List.any_cons]
    by_cases h : b.log2 = k
    · have e1 : decide ((Sum.inl ((2 ^ b.log2 : Nat) : Int) : Key) = .inl ((2 ^ k : Nat) : Int)) = true := decide_eq_true (tp_inj.mpr h)
      simp [e1, h]
    · have e1 : decide ((Sum.inl ((2 ^ b.log2 : Nat) : Int) : Key) = .inl ((2 ^ k : Nat) : Int)) = false := decide_eq_false fun z => h (tp_inj.mp z)
      have e2 : decide (2 ^ b.log2 = 2 ^ k) = false := decide_eq_false fun z => h ((Nat.pow_right_inj (by decide)).mp z)
      dsimp only
      rw [e1, e2, Bool.false_or]
      exact ih
theorem tp_get {f : List Nat} (R : Red f) {b : Nat} (hb : b ∈ f) : valD (tp f) (.inl ((2 ^ b.log2 : Nat) : Int)) = some (.int (b : Int)) := by
  have key : ∀ {l : List Nat}, (∀ b ∈ l, b ≠ 0) → l.Pairwise Ap → b ∈ l → valD (tp l) (.inl ((2 ^ b.log2 : Nat) : Int)) = some (.int (b : Int)) := by
    intro l h0 h
    induction h with
    | nil => intro m; cases m
    | @cons a l h1 h2 ih =>
      intro m
      unfold valD tp at ih ⊢
      rw [List.map_cons, List.find?_cons]
      rcases List.mem_cons.mp m with e | m
      · subst e
        have e1 : decide ((Sum.inl ((2 ^ b.log2 : Nat) : Int) : Key) = .inl ((2 ^ b.log2 : Nat) : Int)) = true := decide_eq_true rfl
        dsimp only
        rw [e1]; rfl
      · have e1 : decide ((Sum.inl ((2 ^ a.log2 : Nat) : Int) : Key) = .inl ((2 ^ b.log2 : Nat) : Int)) = false := decide_eq_false fun z => (h1 b m).ne (h0 a List.mem_cons_self) (tp_inj.mp z)
        dsimp only
        rw [e1]
        exact ih (fun b hb => h0 b (List.mem_cons_of_mem _ hb)) m
  exact key R.pos R.ap hb
theorem tp_keys (f : List Nat) : ((tp f).map fun kv => keyD kv.1) = f.map fun b : Nat => .int ((2 ^ b.log2 : Nat) : Int) := by
  unfold tp; rw [List.map_map]; rfl
theorem r_sumN {ns : List Nat} : bSum [.lst (natsD ns)] cs = .ok (.int ((ns.sum : Nat) : Int)) cs := by
  rw [natsD_ints]
  refine (r_sumI (ns := ns.map fun (n : Nat) => (n : Int))).trans ?_
  have : (ns.map fun (n : Nat) => (n : Int)).sum = ((ns.sum : Nat) : Int) := by
    induction ns with
    | nil => rfl
    | cons a r ih => rw [List.map_cons, List.sum_cons, List.sum_cons, ih, Int.natCast_add]
  rw [this]
theorem cutD_lo {α : Type} (xs : List α) (m : Nat) (h : m ≤ xs.length) : cutD xs (some (m : Int)) none = xs.drop m := by
  unfold cutD
  have e0 : HT.sIx xs.length xs.length none = xs.length := rfl
  have e1 : HT.sIx xs.length 0 (some (m : Int)) = m := by
    unfold HT.sIx
    simp
    split <;> omega
  rw [e0, e1, ← List.length_drop, List.take_length]
theorem cutD_tail (o : Nat) (os : List Nat) : cutD (natsD (o :: os)) (some 1) none = natsD os := by
  have := cutD_lo (natsD (o :: os)) 1 (by rw [natsD_length, List.length_cons]; omega)
  exact this.trans (by unfold natsD; rfl)
/-- how many bits a number has -/
def blen (n : Nat) : Nat := Builtin.Int.intBits (n : Int)
theorem blen_lt (n : Nat) : n < 2 ^ blen n := by
  unfold blen
  by_cases h : n = 0
  · subst h; decide
  · rw [bits_nat h]; exact Nat.lt_log2_self
theorem blen_le {n k : Nat} (h : n < 2 ^ k) : blen n ≤ k := by
  unfold blen
  by_cases h0 : n = 0
  · subst h0; exact Nat.zero_le _
  · rw [bits_nat h0]; exact (Nat.log2_lt h0).mpr h
end LF

set_option Elab.async false
set_option maxRecDepth 100000
namespace LF
open PySem PySem.Spec L2
/-! ### a for over zip(a, b) -/
def zipDD (ds es : List D) : List D := (ds.zip es).map fun p => .tup [p.1, p.2]
theorem zipDD_get (ds es : List D) (i : Nat) : (zipDD ds es)[i]? = match ds[i]?, es[i]? with
    | some d, some e => some (.tup [d, e])
    | _, _ => none := by
  unfold zipDD
  rw [List.getElem?_map, List.zip, List.getElem?_zipWith]
  cases ds[i]? <;> cases es[i]? <;> rfl
def zipOf (cs : Cs) : List D → Res Its
  | [.lst ds, .lst es] => .ok ⟨zipDD ds es, fun _ => True⟩ cs
  | [.tup ds, .tup es] => .ok ⟨zipDD ds es, fun _ => True⟩ cs
  | _ => .bad
def iZp (t : SA) : SI := fun sl cs => (t sl cs).bind fun ds cs1 => zipOf cs1 ds
section
variable {K : PySem.W.Frag} {mg : Str → Option Value} {W : Wd} {H : Hp} {a b : Addr} {ds es : List D} {vs us : List V}
theorem itRep_zipT (hl : vs.length ≤ sizeLine) (h : W.fz a = some (.tup vs)) (r : Reps K W vs ds) (h2 : W.fz b = some (.tup us)) (r2 : Reps K W us es) : ItRep K mg W H (RZ.ItzT K a b) ⟨zipDD ds es, fun _ => True⟩ where
  len := by
    show (zipDD ds es).length ≤ _
    unfold zipDD
    rw [List.length_map, List.length_zip, ← r.length]; omega
  go := fun W1 cs1 H1 i s S o hi => by
    have hi : i < (zipDD ds es).length := hi
    have hi : i < ds.length ∧ i < es.length := by
      unfold zipDD at hi
      rw [List.length_map, List.length_zip] at hi
      omega
    have q := S.fzt (s.le.fz _ _ h)
    have q2 := S.fzt (s.le.fz _ _ h2)
    obtain ⟨v, e, rv⟩ := (r.mono s.le).get (List.getElem?_eq_getElem hi.1)
    obtain ⟨u, e2, ru⟩ := (r2.mono s.le).get (List.getElem?_eq_getElem hi.2)
    refine ⟨⟨vs, us, v, u, .of q, .of q2, e, e2⟩, fun x H2 ⟨T, x1, y1, p1, p2, p3, p4, p5⟩ => ?_⟩
    subst p1 p3
    have p4 := p4 vs (.of q)
    rw [e] at p4; cases p4
    have p5 := p5 us (.of q2)
    rw [e2] at p5; cases p5
    obtain ⟨W2, s2, S2, r2⟩ := pair_step S p2 rv ru
    refine ⟨W2, _, ?_, s2, S2, r2⟩
    show (zipDD ds es)[i]? = _
    rw [zipDD_get, List.getElem?_eq_getElem hi.1, List.getElem?_eq_getElem hi.2]
  stop := fun W1 cs1 H1 s S o => by
    show (RZ.ItzT K a b).stop (zipDD ds es).length H1
    unfold zipDD
    rw [List.length_map, List.length_zip]
    have l1 := r.length
    have l2 := r2.length
    exact ⟨vs, us, .of (S.fzt (s.le.fz _ _ h)), .of (S.fzt (s.le.fz _ _ h2)), by omega⟩
theorem itRep_zipL (hl : vs.length ≤ sizeLine) (h : W.fz a = some (.lst vs)) (r : Reps K W vs ds) (h2 : W.fz b = some (.lst us)) (r2 : Reps K W us es) : ItRep K mg W H (Itz K a b) ⟨zipDD ds es, fun _ => True⟩ where
  len := by
    show (zipDD ds es).length ≤ _
    unfold zipDD
    rw [List.length_map, List.length_zip, ← r.length]; omega
  go := fun W1 cs1 H1 i s S o hi => by
    have hi : i < (zipDD ds es).length := hi
    have hi : i < ds.length ∧ i < es.length := by
      unfold zipDD at hi
      rw [List.length_map, List.length_zip] at hi
      omega
    have q := S.fzl (s.le.fz _ _ h)
    have q2 := S.fzl (s.le.fz _ _ h2)
    obtain ⟨v, e, rv⟩ := (r.mono s.le).get (List.getElem?_eq_getElem hi.1)
    obtain ⟨u, e2, ru⟩ := (r2.mono s.le).get (List.getElem?_eq_getElem hi.2)
    refine ⟨⟨vs, us, v, u, .of q, .of q2, e, e2⟩, fun x H2 ⟨T, x1, y1, p1, p2, p3, p4, p5⟩ => ?_⟩
    subst p1 p3
    have p4 := p4 vs (.of q)
    rw [e] at p4; cases p4
    have p5 := p5 us (.of q2)
    rw [e2] at p5; cases p5
    obtain ⟨W2, s2, S2, r2⟩ := pair_step S p2 rv ru
    refine ⟨W2, _, ?_, s2, S2, r2⟩
    show (zipDD ds es)[i]? = _
    rw [zipDD_get, List.getElem?_eq_getElem hi.1, List.getElem?_eq_getElem hi.2]
  stop := fun W1 cs1 H1 s S o => by
    show (Itz K a b).stop (zipDD ds es).length H1
    unfold zipDD
    rw [List.length_map, List.length_zip]
    have l1 := r.length
    have l2 := r2.length
    exact ⟨vs, us, .of (S.fzl (s.le.fz _ _ h)), .of (S.fzl (s.le.fz _ _ h2)), by omega⟩
end
section
variable {X : Cx} {Z : WX} {pos : Pos}
theorem fi_zip {e e2 : Expr} {t : SA} {p tpos : Pos} {elts : List Expr} {kk : Nat} (hm : X.mg "zip" = none) (ha : FA X Z [e, e2] t) (hg : Gl X "zip" := by rfl) (hs : starEach [e, e2] X.env = (false, eval e X.env) :: starEach [e2] X.env := by rfl) (hpl : (backTo pos (starEach [e2] X.env)).any (·.1) = false := by rfl) :
    FI X Z (.Tuple elts kk tpos) (.Call (.Name "zip" p) [e, e2] [] pos) (iZp t) := by
  refine ⟨fun pins s σ H R I ⟨W, sl, cs, S, L, q⟩ => (RZ.pi_zipA hg hm ha hs hpl).run pins s σ H R I ?_⟩
  refine fin_up1 (R1 := Reps X.K) S L q fun W1 d cs1 x H1 st1 S1 L1 r1 q1 => ?_
  unfold zipOf at q1
  split at q1
  · cases r1 with | cons r r1 =>
    cases r1 with | cons r' r1 =>
    cases r1
    cases r with
    | @lst a vs _ h hl r =>
      cases r' with
      | @lst b us _ h' hl' r' => exact ⟨a, b, vs, us, rfl, .inl ⟨.of (S1.fzl h), .of (S1.fzl h'), q1.done S1 (itRep_zipL hl h r h' r')⟩⟩
  · cases r1 with | cons r r1 =>
    cases r1 with | cons r' r1 =>
    cases r1
    cases r with
    | @tup a vs _ h hl r =>
      cases r' with
      | @tup b us _ h' hl' r' => exact ⟨a, b, vs, us, rfl, .inr ⟨.of (S1.fzt h), .of (S1.fzt h'), q1.done S1 (itRep_zipT hl h r h' r')⟩⟩
  · exact q1.elim
end
section
variable {sl : Sl} {cs : Cs}
theorem s_iZp {f : SA} {QI : Its → Cs → Prop} : Sat (iZp f sl cs) QI = Sat (f sl cs) fun d cs1 => Sat (zipOf cs1 d) QI := sat_bind _ _ _
end
end LF

set_option Elab.async false
namespace GF
/-! ### choices of firsts: what they sum to, that there is but one -/
theorem pk_sp (n : Nat) : ∀ (ts : List Nat) (k : Nat), Sp ts (pk n ts k)
  | [], _ => .nil
  | t :: r, k => by
    unfold pk
    have ih := pk_sp n r (k + 1)
    cases n.testBit k
    · rw [if_neg Bool.false_ne_true, Nat.zero_xor]; exact .skip ih
    · rw [if_pos rfl]
      refine sp_cons.mpr (.inr ?_)
      rw [Nat.xor_comm t, xself]; exact ih
theorem pk_at (n : Nat) : ∀ (a b : List Nat) (k : Nat), pk n (a ++ b) k = pk n a k ^^^ pk n b (k + a.length)
  | [], b, k => by simp [pk]
  | t :: r, b, k => by
    rw [List.cons_append, pk, pk_at n r b (k + 1), pk, Nat.xor_assoc, List.length_cons, show k + 1 + r.length = k + (r.length + 1) by omega]
theorem fst_lt {ns : List Nat} {i : Nat} (h : Fst ns i) : i < ns.length := by
  obtain ⟨x, h, _⟩ := h
  (exact (List.getElem?_eq_some_iff.mp h).1)
/-- firsts sum to nothing but by none -/
theorem firsts_none {ns : List Nat} {m : Nat} (h : ∀ i, m.testBit i = true → Fst ns i) (e : pk m ns 0 = 0) : m = 0 := by
  refine Classical.byContradiction fun m0 => ?_
  have tb := top_bit m0
  obtain ⟨x, hx, hn⟩ := h _ tb
  have e2 : ns = ns.take m.log2 ++ x :: ns.drop (m.log2 + 1) := by
    have hl := (List.getElem?_eq_some_iff.mp hx).1
    have hv := (List.getElem?_eq_some_iff.mp hx).2
    rw [← hv, ← List.drop_eq_getElem_cons hl, List.take_append_drop]
  have ln : (ns.take m.log2).length = m.log2 := by
    rw [List.length_take]
    have hl := (List.getElem?_eq_some_iff.mp hx).1
    omega
  have e3 : pk m (ns.drop (m.log2 + 1)) (m.log2 + 1) = 0 := pk_off _ _ fun i hi => above (Nat.lt_of_succ_le hi)
  rw [e2, pk_at, ln, Nat.zero_add, pk, tb, if_pos rfl, e3, Nat.xor_zero] at e
  refine hn ?_
  have := congrArg (· ^^^ x) e
  simp only [xself, Nat.zero_xor] at this
  rw [← this]; exact pk_sp m _ 0
theorem firsts_one {ns : List Nat} {a b : Nat} (ha : ∀ i, a.testBit i = true → Fst ns i) (hb : ∀ i, b.testBit i = true → Fst ns i) (e : pk a ns 0 = pk b ns 0) : a = b := by
  have : a ^^^ b = 0 := firsts_none (ns := ns) (fun i hi => by
    rw [xb] at hi
    cases q : a.testBit i
    · rw [q] at hi
      exact hb i (by simpa using hi)
    · exact ha i q) (by rw [pk_lin, e, Nat.xor_self])
  have := congrArg (· ^^^ b) this
  simpa [xself] using this
theorem firsts_sum {ns : List Nat} {a b : Nat} (ha : ∀ i, a.testBit i = true → Fst ns i) (hb : ∀ i, b.testBit i = true → Fst ns i) : ∀ i, (a ^^^ b).testBit i = true → Fst ns i := fun i hi => by
  rw [xb] at hi
  cases q : a.testBit i
  · rw [q] at hi
    exact hb i (by simpa using hi)
  · exact ha i q
section
variable {α : Type}
theorem pickF_filter {f : Nat → Bool} {P : α → Bool} : ∀ (l : List α) (k : Nat), (∀ i x, l[i]? = some x → P x = f (k + i)) → l.filter P = pickF f k l
  | [], _, _ => rfl
  | a :: r, k, h => by
    unfold pickF
    have h0 := h 0 a rfl
    rw [Nat.add_zero] at h0
    have ih := pickF_filter (f := f) (P := P) r (k + 1) fun i x hx => by
      have := h (i + 1) x (by simpa using hx)
      rwa [show k + (i + 1) = k + 1 + i by omega] at this
    rw [List.filter_cons, h0, ih]
/-- at which places the picked ones stand -/
def pickJ (f : Nat → Bool) : Nat → List α → List Nat
  | _, [] => []
  | k, _ :: r => if f k then k :: pickJ f (k + 1) r else pickJ f (k + 1) r
theorem pickJ_low {f : Nat → Bool} : ∀ (l : List α) (k : Nat), ∀ j ∈ pickJ f k l, k ≤ j
  | [], _, j, h => by cases h
  | a :: r, k, j, h => by
    unfold pickJ at h
    have ih := pickJ_low (f := f) r (k + 1) j
    split at h
    · (rcases List.mem_cons.mp h with rfl | h)
      · exact Nat.le_refl _
      · have := ih h; omega
    · have := ih h; omega
theorem pickJ_rise {f : Nat → Bool} : ∀ (l : List α) (k : Nat), (pickJ f k l).Pairwise (· < ·)
  | [], _ => .nil
  | a :: r, k => by
    unfold pickJ
    have ih := pickJ_rise (f := f) r (k + 1)
    split
    · exact .cons (fun j hj => by have := pickJ_low r (k + 1) j hj; omega) ih
    · exact ih
theorem pickJ_at {f : Nat → Bool} : ∀ (l : List α) (k i : Nat) (x : α), (pickF f k l)[i]? = some x → ∃ j, (pickJ f k l)[i]? = some (k + j) ∧ l[j]? = some x
  | [], _, _, _, h => by simp [pickF] at h
  | a :: r, k, i, x, h => by
    unfold pickF at h
    unfold pickJ
    by_cases hf : f k = true
    · rw [if_pos hf] at h ⊢
      cases i with
      | zero => simp at h; subst h; exact ⟨0, by simp, rfl⟩
      | succ i =>
        obtain ⟨j, h1, h2⟩ := pickJ_at r (k + 1) i x (by simpa using h)
        exact ⟨j + 1, by rw [List.getElem?_cons_succ, h1, show k + 1 + j = k + (j + 1) by omega], by simpa using h2⟩
    · rw [if_neg hf] at h ⊢
      obtain ⟨j, h1, h2⟩ := pickJ_at r (k + 1) i x h
      exact ⟨j + 1, by rw [h1, show k + 1 + j = k + (j + 1) by omega], by simpa using h2⟩
theorem pickJ_len {f : Nat → Bool} : ∀ (l : List α) (k : Nat), (pickJ f k l).length = (pickF f k l).length
  | [], _ => rfl
  | a :: r, k => by
    unfold pickJ pickF
    have ih := pickJ_len (f := f) r (k + 1)
    split
    · rw [List.length_cons, List.length_cons, ih]
    · exact ih
/-- as many firsts as the rank -/
theorem fgo_rank (v : α → Nat) : ∀ (r : List α) {bs : List Nat}, Basis (r.reverse.map v) bs → (fgo v [] r.reverse).length = bs.length
  | [], bs, B => by rw [B.unique Basis.nil (Same.refl _)]; rfl
  | x :: r, bs, B => by
    obtain ⟨cs, C, _⟩ := wy_count (r.reverse.map v).reverse
    rw [List.reverse_reverse] at C
    have ih := fgo_rank v r C
    rw [List.reverse_cons, List.map_append] at B
    have hm := basis_more C (m := v x) B
    rw [List.reverse_cons]
    obtain ⟨s1, s2⟩ := fgo_snoc v x r.reverse []
    rw [List.nil_append] at s1 s2
    by_cases h : Sp (r.reverse.map v) (v x)
    · rw [s1 h, ih, hm, if_pos ((less_zero C.red).mpr ((C.same _).mp h)), Nat.add_zero]
    · rw [s2 h, List.length_append, List.length_singleton, ih, hm, if_neg fun z => h ((C.same _).mpr ((less_zero C.red).mp z))]
theorem fgo_rank' (v : α → Nat) (l : List α) {bs : List Nat} (B : Basis (l.map v) bs) : (fgo v [] l).length = bs.length := by
  have := fgo_rank v l.reverse (bs := bs)
  rw [List.reverse_reverse] at this
  exact this B
end
end GF

set_option Elab.async false
set_option maxRecDepth 100000
namespace LF
open PySem PySem.Spec L2 GF
variable {cs : Cs}
/-! ### a heap's names with their places, as a dict -/
def pnK : Nat → List (List Nat × Nat) → List (Key × D)
  | _, [] => []
  | k, p :: r => (.inr (strL p.1), .int (k : Int)) :: pnK (k + 1) r
theorem pnK_snoc (p : List Nat × Nat) : ∀ (l : List (List Nat × Nat)) (k : Nat), pnK k (l ++ [p]) = pnK k l ++ [(.inr (strL p.1), .int ((k + l.length : Nat) : Int))]
  | [], k => rfl
  | a :: r, k => by
    rw [List.cons_append, pnK, pnK_snoc p r (k + 1), pnK, List.length_cons, show k + 1 + r.length = k + (r.length + 1) by omega]; rfl
theorem pnK_keys : ∀ (l : List (List Nat × Nat)) (k : Nat), (pnK k l).map (·.1) = l.map fun p => .inr (strL p.1)
  | [], _ => rfl
  | a :: r, k => by rw [pnK, List.map_cons, List.map_cons, pnK_keys r (k + 1)]
theorem pnK_merge {l : List (List Nat × Nat)} (h : (l.map (·.1)).Nodup) (k : Nat) : mergeD [] (pnK k l) = pnK k l := by
  refine mergeD_nodup (pnK k l) [] ?_
  rw [List.nil_append, pnK_keys]
  have e : (l.map fun p => (Sum.inr (strL p.1) : Key)) = (l.map (·.1)).map fun a => .inr (strL a) := by rw [List.map_map]; rfl
  rw [e]
  refine List.pairwise_map.mpr (h.imp fun ne z => ne ?_)
  injection z with z
  exact strL_inj z
theorem pnK_get : ∀ {l : List (List Nat × Nat)} (k : Nat), (l.map (·.1)).Nodup → ∀ {i : Nat} {p : List Nat × Nat}, l[i]? = some p → valD (pnK k l) (.inr (strL p.1)) = some (.int ((k + i : Nat) : Int))
  | [], _, _, i, p, e => by simp at e
  | a :: r, k, h, i, p, e => by
    (rw [List.map_cons, List.nodup_cons] at h)
    unfold valD pnK
    rw [List.find?_cons]
    cases i with
    | zero =>
      simp at e; subst e
      have e1 : decide ((Sum.inr (strL a.1) : Key) = .inr (strL a.1)) = true := decide_eq_true rfl
      dsimp only
      rw [e1]; rfl
    | succ i =>
      have e : r[i]? = some p := by simpa using e
      have ne : (Sum.inr (strL a.1) : Key) ≠ .inr (strL p.1) := fun z => h.1 (by
        injection z with z
        rw [strL_inj z]
        exact List.mem_map_of_mem (List.mem_of_getElem? e))
      dsimp only
      rw [decide_eq_false ne]
      have ih := pnK_get (k + 1) h.2 e
      rw [show k + (i + 1) = k + 1 + i by omega]
      exact ih
theorem r_getDS {x y : D} {ks : List (Key × D)} {s : Str} (e : dicL cs x = some ks) (e2 : valD ks (.inr s) = some y) : pGetD x (.str s) cs = .ok y cs := by
  unfold pGetD; rw [e]; show (match valD ks (.inr s) with | some v => Res.ok v cs | none => .bad) = _; rw [e2]
theorem r_get2S {x z : D} {ks : List (Key × D)} {s : Str} (e : dicL cs x = some ks) : mGet2 x [.str s, z] cs = .ok ((valD ks (.inr s)).getD z) cs := by
  unfold mGet2; dsimp only; rw [e]; rfl
def prK (ks : List (Key × D)) : List D := ks.map fun kv => .tup [keyD kv.1, kv.2]
/-- the names picked -/
def nmJ (hp : List (List Nat × Nat)) (m : Nat) : List (List Nat) := (pickF (fun i => m.testBit i) 0 hp).map (·.1)
theorem nm_mem {hp : List (List Nat × Nat)} (nd : (hp.map (·.1)).Nodup) {m i : Nat} {p : List Nat × Nat} (h : hp[i]? = some p) : decide (p.1 ∈ nmJ hp m) = m.testBit i := by
  have key : p.1 ∈ nmJ hp m ↔ m.testBit i = true := by
    unfold nmJ
    rw [List.mem_map]
    constructor
    · rintro ⟨q, hq, e⟩
      obtain ⟨j, h1, h2⟩ := pickF_mem.mp hq
      rw [Nat.zero_add] at h2
      have hi := (List.getElem?_eq_some_iff.mp h).1
      have hj := (List.getElem?_eq_some_iff.mp h1).1
      have : i = j := (List.getElem?_inj (l := hp.map (·.1)) (by rw [List.length_map]; exact hi) nd).mp (by rw [List.getElem?_map, List.getElem?_map, h, h1]; simp [e])
      rw [this]; exact h2
    · intro hb
      exact ⟨p, pickF_mem.mpr ⟨i, h, by rwa [Nat.zero_add]⟩, rfl⟩
  cases hb : m.testBit i
  · exact decide_eq_false fun z => by rw [key.mp z] at hb; cases hb
  · exact decide_eq_true (key.mpr hb)
theorem nm_sg {hp : List (List Nat × Nat)} (h : ∀ p ∈ hp, ∀ c ∈ p.1, c < 1114112) (m : Nat) : Sg (nmJ hp m) := fun l hl => by
  unfold nmJ at hl
  obtain ⟨p, hp', rfl⟩ := List.mem_map.mp hl
  obtain ⟨j, h1, _⟩ := pickF_mem.mp hp'
  exact h p (List.mem_of_getElem? h1)
end LF

set_option Elab.async false
set_option maxRecDepth 100000
namespace LF
open PySem PySem.Spec L2
/-! ### i << j of any size; range with a step; the law's promise where the cells' sizes count -/
instance (i j : Int) : Decidable (CShl i j) := by unfold CShl; exact inferInstance
def pShlW : P2 := pI2 CShl fun i j => .int (i * 2 ^ j.toNat)
section
variable {X : Cx} {Z : WX} {pos : Pos} {a b c : Expr} {f h : SE} {tg : Expr}
theorem fe_shlW (ha : FE X Z a f) (hb : FE X Z b h) : FE X Z (.BinOp a .LShift b pos) (e2 pShlW f h) := fe_op op_shlW (ok_i2 fun i j _ => .int _) ha hb
def stepN (i j k : Int) : Nat := (Builtin.Range.rangeSize i j k).toNat
def rgOk3 (i j k : Int) : Prop := RgC i j k (stepN i j k) ∧ stepN i j k ≤ sizeLine
def rgL3 (i j k : Int) : List D := (List.range (stepN i j k)).map fun n => .int (i + (n : Nat) * k)
open Classical in
noncomputable def rgOf3 (cs : Cs) : List D → Res Its
  | [.int i, .int j, .int k] => if rgOk3 i j k then .ok ⟨rgL3 i j k, fun _ => True⟩ cs else .bad
  | _ => .bad
noncomputable def iRg3 (t : SA) : SI := fun sl cs => (t sl cs).bind fun ds cs1 => rgOf3 cs1 ds
theorem itRep_rg3 {K : PySem.W.Frag} {mg : Str → Option Value} {W : Wd} {H : Hp} {i j k : Int} (h : rgOk3 i j k) : ItRep K mg W H (Itc i k (stepN i j k)) ⟨rgL3 i j k, fun _ => True⟩ :=
  itRep_fn (f := fun n => V.int (i + (n : Nat) * k)) h.2 (fun i W => .int _) (fun i H hi => hi) (fun i H x H' hi y => y) fun H => Nat.le_refl _
theorem fi_range3 {t : SA} {p : Pos} (hm : X.mg "range" = none) (ha : FA X Z [a, b, c] t) (hg : Gl X "range" := by rfl) (hs : starEach [a, b, c] X.env = (false, eval a X.env) :: starEach [b, c] X.env := by rfl) (hpl : (backTo pos (starEach [b, c] X.env)).any (·.1) = false := by rfl) :
    FI X Z tg (.Call (.Name "range" p) [a, b, c] [] pos) (iRg3 t) := by
  refine ⟨fun pins s σ H R I ⟨W, sl, cs, S, L, q⟩ => (pi_range3 hg hm ha hs hpl).run pins s σ H R I ?_⟩
  refine fin_up1 (R1 := Reps X.K) S L q fun W1 d cs1 x H1 st1 S1 L1 r1 q1 => ?_
  unfold rgOf3 at q1
  split at q1
  · rename_i i j k
    cases r1 with | cons r1 rr =>
    cases rr with | cons r2 rr =>
    cases rr with | cons r3 rr =>
    cases rr
    cases r1
    cases r2
    cases r3
    split at q1
    · rename_i hk
      exact ⟨i, j, k, _, rfl, hk.1, q1.done S1 (itRep_rg3 hk)⟩
    · exact q1.elim
  · exact q1.elim
end
/-- the law's promise, the cells' sizes told -/
def spLawB (K : PySem.W.Frag) : Sp := fun us H Q _ => ∃ (a : Addr) (ns : List Int), us = [.ref a] ∧ SqL K H a (ns.map V.int) ∧ ns.length ≤ 63 ∧ (∀ z ∈ ns, Builtin.Int.intBits z ≤ 1048576) ∧ ∀ H', Q (.bl true) H'
theorem law_okB {P : Program} {w : World} {K : PySem.W.Frag} {mg : Str → Option Value} {base : Heap} {k : Nat} {f : Addr} {fd : FuncData} {ps : List Str} {g : Fn} (F : FnOk P w K mg base CX0 k f fd ps (spOf K mg ps.length fun ds cs => (g ds cs).nox)) (h1 : ps.length = 1)
    (h : ∀ ns : List Int, ns.length ≤ 63 → (∀ z ∈ ns, Builtin.Int.intBits z ≤ 1048576) → ∃ cs', g [.scr ns] [] = .ok (.bl true) cs') : FnOk P w K mg base CX0 k f fd ps (spLawB K) := by
  refine F.imp (fun vs H Q E ⟨a, ns, e, hS, hl, hb, q⟩ => ?_)
  obtain ⟨cs', hg⟩ := h ns hl hb
  subst e
  have hz : ns.length ≤ sizeLine := le_line (by omega)
  have hS' : SqL K (fun b => if b = a then H a else none) a (ns.map V.int) := by
    rcases hS with (h | ⟨o, h⟩) | h
    · exact .inl (.inl ((if_pos rfl).trans h))
    · exact .inl (.inr ⟨o, (if_pos rfl).trans h⟩)
    · exact .inr h
  refine ⟨h1.symm, ⟨fun b => if b = a then H a else none, []⟩, [], [.scr ns], ⟨fun b u e => ?_, rfl, fun i c e => by simp at e, fun i j b c c' e => by simp at e, fun i b e => by simp at e⟩, .cons (.scr hS' hz) .nil, ?_⟩
  · have e : (if b = a then H a else none) = some u := e
    by_cases hb : b = a
    · rw [if_pos hb] at e; rw [hb]; exact fzOk_of e
    · rw [if_neg hb] at e; cases e
  · show Fin K mg (Rep K) _ _ [] H (Res.nox (g [.scr ns] [])) Q
    rw [hg]
    exact fun W' v H' s R r => by cases r; exact q H'
section
variable {sl : Sl} {cs : Cs} {i j : Int}
theorem s_iRg3 {f : SA} {QI : Its → Cs → Prop} : Sat (iRg3 f sl cs) QI = Sat (f sl cs) fun d cs1 => Sat (rgOf3 cs1 d) QI := sat_bind _ _ _
theorem r_shlW : pShlW (.int i) (.int j) cs = if CShl i j then .ok (.int (i * 2 ^ j.toNat)) cs else .bad := rfl
theorem r_rg3 {k : Int} (h : rgOk3 i j k) : rgOf3 cs [.int i, .int j, .int k] = .ok ⟨rgL3 i j k, fun _ => True⟩ cs := if_pos h
end
/-! ### another deck -/
/-- another deck: what great cells left, a mixed number, how many were drawn -/
def TurnP (n : Nat) (ds : List D) : Prop := ∃ (g m : Int) (c : Nat), ds = [.int g, .int m, .int (c : Int)] ∧ 0 ≤ m ∧ m < 2 ^ 31 ∧ c ≤ n
structure Tk (i n : Nat) (cs cs' : Cs) : Prop where
  len : cs'.length = cs.length
  oth : ∀ j, j ≠ i → cs'[j]? = cs[j]?
  at' : ∃ ds, cs'[i]? = some (some (.lst ds)) ∧ TurnP n ds
abbrev TkAt (i n : Nat) (cs : Cs) : Prop := Tk i n cs cs
theorem TurnP.mono {n m : Nat} {ds : List D} (h : TurnP n ds) (l : n ≤ m) : TurnP m ds := by
  obtain ⟨a, b, c, h1, h2, h3, h4⟩ := h
  exact ⟨a, b, c, h1, h2, h3, by omega⟩
theorem TurnP.bels {n k : Nat} {ds : List D} (h : TurnP n ds) : D.bels k ds = true := by
  obtain ⟨a, b, c, rfl, _⟩ := h
  simp [D.bels, D.bel]
theorem Tk.mono {i n m : Nat} {cs cs' : Cs} (h : Tk i n cs cs') (l : n ≤ m) : Tk i m cs cs' := ⟨h.len, h.oth, by obtain ⟨ds, e, p⟩ := h.at'; exact ⟨ds, e, p.mono l⟩⟩
theorem Tk.trans {i n m : Nat} {cs cs1 cs2 : Cs} (a : Tk i n cs cs1) (b : Tk i m cs1 cs2) : Tk i m cs cs2 := ⟨b.len.trans a.len, fun j h => (b.oth j h).trans (a.oth j h), b.at'⟩
theorem Tk.self {i n : Nat} {cs cs1 : Cs} (a : Tk i n cs cs1) : TkAt i n cs1 := ⟨rfl, fun _ _ => rfl, a.at'⟩
theorem Tk.lt {i n : Nat} {cs cs1 : Cs} (a : Tk i n cs cs1) : i < cs.length := by
  obtain ⟨_, h, _⟩ := a.at'
  rw [← a.len]; exact (List.getElem?_eq_some_iff.mp h).1
theorem Tk.app {i n : Nat} {cs more : Cs} (a : TkAt i n cs) : TkAt i n (cs ++ more) := ⟨rfl, fun _ _ => rfl, by
  obtain ⟨ds, h, p⟩ := a.at'
  exact ⟨ds, by rw [List.getElem?_append_left a.lt]; exact h, p⟩⟩
theorem Tk.split {i n : Nat} {cs more cs2 : Cs} (a : Tk i n (cs ++ more) cs2) (h : i < cs.length) : ∃ cs1, cs2 = cs1 ++ more ∧ Tk i n cs cs1 := by
  have hl := a.len
  rw [List.length_append] at hl
  refine ⟨cs2.take cs.length, ?_, ?_, fun j hj => ?_, ?_⟩
  · refine List.ext_getElem? (fun j => ?_)
    by_cases hj : j < cs.length
    · rw [List.getElem?_append_left (by rw [List.length_take]; omega), List.getElem?_take, if_pos hj]
    · rw [a.oth j (by omega), List.getElem?_append_right (by omega), List.getElem?_append_right (by rw [List.length_take]; omega), List.length_take]
      congr 1
      omega
  · rw [List.length_take]; omega
  · rw [List.getElem?_take]
    split
    · rename_i hj2
      rw [a.oth j hj, List.getElem?_append_left hj2]
    · rw [List.getElem?_eq_none (by omega)]
  · obtain ⟨ds, e, p⟩ := a.at'
    exact ⟨ds, by rw [List.getElem?_take, if_pos h]; exact e, p⟩
theorem Tk.trOk {i n : Nat} {cs cs1 more : Cs} {d : D} (a : Tk i n cs cs1) (h : d.bel cs.length = true) : TrOk cs d (cs1 ++ more) := ⟨h, fun j c hj e => by
  rw [List.getElem?_append_left (by rw [a.len]; exact hj)] at e
  by_cases hij : j = i
  · subst hij
    obtain ⟨ds, e2, p⟩ := a.at'
    rw [e2] at e; cases e
    exact .inr (by rw [Cell.bel]; exact p.bels)
  · rw [a.oth j hij] at e; exact .inl e⟩
theorem Tk.trOk0 {i n : Nat} {cs cs1 : Cs} {d : D} (a : Tk i n cs cs1) (h : d.bel cs.length = true) : TrOk cs d cs1 := by
  have := a.trOk (more := []) h; rwa [List.append_nil] at this
theorem Tk.take {i n : Nat} {cs cs1 more : Cs} (a : Tk i n cs cs1) : (cs1 ++ more).take cs.length = cs1 := by
  rw [← a.len]; exact List.take_left
theorem Tk.take0 {i n : Nat} {cs cs1 : Cs} (a : Tk i n cs cs1) : cs1.take cs.length = cs1 := by
  rw [← a.len]; exact List.take_length
/-- its cell is set anew -/
theorem Tk.set {i n : Nat} {cs : Cs} {ds : List D} (h : i < cs.length) (p : TurnP n ds) : Tk i n cs (cs.set i (some (.lst ds))) :=
  ⟨by simp, fun j hj => by rw [List.getElem?_set_ne (Ne.symm hj)], ds, by rw [List.getElem?_set_self h], p⟩
end LF

set_option Elab.async false
namespace GF
/-! ### parity by folding; evens step by step -/
theorem pc_cut : ∀ (k lo hi : Nat), lo < 2 ^ k → pc (lo + 2 ^ k * hi) = pc lo + pc hi
  | 0, lo, hi, h => by
    have : lo = 0 := by simpa using h
    subst this
    rw [pc_zero]; simp
  | k + 1, lo, hi, h => by
    rw [Nat.pow_succ] at h
    have ih := pc_cut k (lo / 2) hi (by omega)
    rw [pc_eq (lo + 2 ^ (k + 1) * hi), pc_eq lo]
    have e1 : (lo + 2 ^ (k + 1) * hi) % 2 = lo % 2 := by
      rw [show 2 ^ (k + 1) * hi = 2 * (2 ^ k * hi) from by rw [Nat.pow_succ, Nat.mul_comm (2 ^ k) 2, Nat.mul_assoc]]
      omega
    have e2 : (lo + 2 ^ (k + 1) * hi) / 2 = lo / 2 + 2 ^ k * hi := by
      rw [show 2 ^ (k + 1) * hi = 2 * (2 ^ k * hi) from by rw [Nat.pow_succ, Nat.mul_comm (2 ^ k) 2, Nat.mul_assoc]]
      omega
    rw [e1, e2, ih]; omega
def fold1 (n k : Nat) : Nat := n ^^^ (n / 2 ^ k)
theorem fold_step (n k : Nat) : par (fold1 n k % 2 ^ k) = par (n % 2 ^ (k + k)) := by
  have h := Nat.two_pow_pos k
  have e1 : n % 2 ^ (k + k) = n % 2 ^ k + 2 ^ k * (n / 2 ^ k % 2 ^ k) := by rw [Nat.pow_add, Nat.mod_mul]
  have e2 : fold1 n k % 2 ^ k = (n % 2 ^ k) ^^^ (n / 2 ^ k % 2 ^ k) := by
    unfold fold1; exact Nat.xor_mod_two_pow
  have e3 : par (n % 2 ^ k + 2 ^ k * (n / 2 ^ k % 2 ^ k)) = (par (n % 2 ^ k) != par (n / 2 ^ k % 2 ^ k)) := by
    unfold par
    rw [pc_cut k _ _ (Nat.mod_lt _ h)]
    generalize pc (n % 2 ^ k) = x
    generalize pc (n / 2 ^ k % 2 ^ k) = y
    by_cases hx : x % 2 = 1 <;> by_cases hy : y % 2 = 1 <;> simp only [hx, hy, decide_true, decide_false] <;> simp <;> omega
  rw [e1, e2, par_xor, e3]
def fold6 (n : Nat) : Nat := fold1 (fold1 (fold1 (fold1 (fold1 (fold1 n 32) 16) 8) 4) 2) 1
theorem fold6_par {n : Nat} (h : n < 2 ^ 64) : (fold6 n).testBit 0 = par n := by
  have e : par n = par (n % 2 ^ (32 + 32)) := by rw [Nat.mod_eq_of_lt h]
  rw [e, ← fold_step n 32]
  rw [show (32 : Nat) = 16 + 16 from rfl, ← fold_step _ 16]
  rw [show (16 : Nat) = 8 + 8 from rfl, ← fold_step _ 8]
  rw [show (8 : Nat) = 4 + 4 from rfl, ← fold_step _ 4]
  rw [show (4 : Nat) = 2 + 2 from rfl, ← fold_step _ 2]
  rw [show (2 : Nat) = 1 + 1 from rfl, ← fold_step _ 1]
  show (fold6 n).testBit 0 = par (fold6 n % 2 ^ 1)
  rw [Nat.testBit_zero]
  rcases (by omega : fold6 n % 2 = 0 ∨ fold6 n % 2 = 1) with q | q
  · rw [show fold6 n % 2 ^ 1 = 0 from q, par_zero]; rfl
  · rw [show fold6 n % 2 ^ 1 = 2 ^ 0 from q, par_pow]; rfl
theorem dot_comm (a b : Nat) : dot a b = dot b a := by unfold dot; rw [Nat.and_comm]
theorem sp_pows : ∀ (bits m : Nat), Sp ((List.range bits).map (2 ^ ·)) m ↔ m < 2 ^ bits
  | 0, m => by
    rw [List.range_zero, List.map_nil, sp_nil]; simp
  | k + 1, m => by
    rw [List.range_succ, List.map_append, List.map_cons, List.map_nil, sp_snoc, sp_pows k m, sp_pows k (m ^^^ 2 ^ k)]
    have hp : 2 ^ (k + 1) = 2 ^ k * 2 := Nat.pow_succ ..
    constructor
    · rintro (h | h)
      · omega
      · have : m ^^^ 2 ^ k ^^^ 2 ^ k < 2 ^ (k + 1) := Nat.xor_lt_two_pow (Nat.lt_trans h (by omega)) (by have := Nat.two_pow_pos k; omega)
        rwa [xself] at this
    · intro h
      by_cases hb : m.testBit k = true
      · right
        refine Nat.lt_of_not_le fun z => ?_
        have h1 : m ^^^ 2 ^ k < 2 ^ (k + 1) := Nat.xor_lt_two_pow h (by have := Nat.two_pow_pos k; omega)
        have : (m ^^^ 2 ^ k).testBit k = true := by
          have l : (m ^^^ 2 ^ k).log2 = k := by
            have h0 : m ^^^ 2 ^ k ≠ 0 := by have := Nat.two_pow_pos k; omega
            have a := (Nat.le_log2 h0).mpr z
            have b := (Nat.log2_lt h0).mpr h1
            omega
          have h0 : m ^^^ 2 ^ k ≠ 0 := by have := Nat.two_pow_pos k; omega
          have := top_bit h0
          rwa [l] at this
        rw [xb, hb, Nat.testBit_two_pow_self] at this
        cases this
      · left
        refine Nat.lt_of_not_le fun z => hb ?_
        have h0 : m ≠ 0 := by have := Nat.two_pow_pos k; omega
        have a := (Nat.le_log2 h0).mpr z
        have b := (Nat.log2_lt h0).mpr h
        have := top_bit h0
        rwa [show m.log2 = k from by omega] at this
/-- the sums that are even, step by step -/
theorem ker_step {φ : Nat → Bool} (h0 : φ 0 = false) (hφ : ∀ a b, φ (a ^^^ b) = (φ a != φ b)) {S os : List Nat} {o : Nat} (e : S.filter φ = o :: os) {x : Nat} : Sp (S.filter (fun m => !φ m) ++ os.map (· ^^^ o)) x ↔ Sp S x ∧ φ x = false := by
  have ho : ∀ y ∈ o :: os, y ∈ S ∧ φ y = true := fun y hy => List.mem_filter.mp (by rw [e]; exact hy)
  have o1 := ho o List.mem_cons_self
  have all : ∀ y ∈ S.filter (fun m => !φ m) ++ os.map (· ^^^ o), Sp S y ∧ φ y = false := fun y hy => by
    (rcases List.mem_append.mp hy with hy | hy)
    · obtain ⟨h1, h2⟩ := List.mem_filter.mp hy
      exact ⟨.mem h1, by simpa using h2⟩
    · obtain ⟨z, hz, rfl⟩ := List.mem_map.mp hy
      have z1 := ho z (List.mem_cons_of_mem _ hz)
      exact ⟨(Sp.mem z1.1).add (.mem o1.1), by rw [hφ, z1.2, o1.2]; rfl⟩
  constructor
  · intro h
    exact ⟨Sp.sub (fun a ha => (all a ha).1) h, Sp.all (P := fun x => φ x = false) h0 (fun a b ha hb => by rw [hφ, ha, hb]; rfl) (fun a ha => (all a ha).2) h⟩
  · rintro ⟨h, hx⟩
    have key : ∀ {x : Nat}, Sp S x → (φ x = false → Sp (S.filter (fun m => !φ m) ++ os.map (· ^^^ o)) x) ∧ (φ x = true → Sp (S.filter (fun m => !φ m) ++ os.map (· ^^^ o)) (x ^^^ o)) := by
      intro x h
      refine Sp.all (P := fun x => (φ x = false → Sp (S.filter (fun m => !φ m) ++ os.map (· ^^^ o)) x) ∧ (φ x = true → Sp (S.filter (fun m => !φ m) ++ os.map (· ^^^ o)) (x ^^^ o))) ⟨fun _ => .zero _, fun z => by rw [h0] at z; cases z⟩ ?_ ?_ h
      · rintro a b ⟨h1, h2⟩ ⟨h3, h4⟩
        rw [hφ]
        cases p : φ a <;> cases q : φ b <;> refine ⟨fun z => ?_, fun z => ?_⟩
        · exact (h1 p).add (h3 q)
        · cases z
        · cases z
        · have := (h1 p).add (h4 q); rwa [Nat.xor_assoc]
        · cases z
        · have := (h2 p).add (h3 q)
          rwa [Nat.xor_assoc, Nat.xor_comm o b, ← Nat.xor_assoc] at this
        · have := (h2 p).add (h4 q)
          have e : a ^^^ o ^^^ (b ^^^ o) = a ^^^ b := by
            rw [Nat.xor_assoc, Nat.xor_comm o, Nat.xor_assoc b, Nat.xor_self, Nat.xor_zero]
          rwa [e] at this
        · cases z
      · intro y hy
        refine ⟨fun z => .mem (List.mem_append_left _ (List.mem_filter.mpr ⟨hy, by rw [z]; rfl⟩)), fun z => ?_⟩
        have : y ∈ o :: os := by rw [← e]; exact List.mem_filter.mpr ⟨hy, z⟩
        rcases List.mem_cons.mp this with q | q
        · rw [q, Nat.xor_self]; exact .zero _
        · exact .mem (List.mem_append_right _ (List.mem_map.mpr ⟨y, q, rfl⟩))
    exact (key h).1 hx
theorem ker_none {φ : Nat → Bool} (h0 : φ 0 = false) (hφ : ∀ a b, φ (a ^^^ b) = (φ a != φ b)) {S : List Nat} (e : S.filter φ = []) {x : Nat} : Sp (S.filter (fun m => !φ m)) x ↔ Sp S x ∧ φ x = false := by
  have hn : ∀ y ∈ S, φ y = false := fun y hy => by simpa using List.filter_eq_nil_iff.mp e y hy
  have ef : S.filter (fun m => !φ m) = S := List.filter_eq_self.mpr fun y hy => by rw [hn y hy]; rfl
  rw [ef]
  exact ⟨fun h => ⟨h, Sp.all (P := fun x => φ x = false) h0 (fun a b ha hb => by rw [hφ, ha, hb]; rfl) hn h⟩, fun h => h.1⟩
theorem len_split (p : Nat → Bool) : ∀ S : List Nat, (S.filter p).length + (S.filter fun m => !p m).length = S.length
  | [] => rfl
  | a :: r => by
    have ih := len_split p r
    (rw [List.filter_cons, List.filter_cons])
    cases p a <;> simp <;> omega
/-- all that are even to some numbers -/
def Evn (bits : Nat) (ns E : List Nat) : Prop := ∀ m, Sp E m ↔ m < 2 ^ bits ∧ ∀ b ∈ ns, dot b m = false
theorem Evn.same {bits : Nat} {ns f E : List Nat} (h : Same ns f) (e : Evn bits ns E) : Evn bits f E := fun m => (e m).trans ⟨fun ⟨a, b⟩ => ⟨a, fun x hx => dot_sp b ((h x).mpr (.mem hx))⟩, fun ⟨a, b⟩ => ⟨a, fun x hx => dot_sp b ((h x).mp (.mem hx))⟩⟩
/-- an even one that is odd with a number that is no sum -/
theorem Evn.odd {bits n : Nat} {ns E : List Nat} (e : Evn bits ns E) (hb : ∀ x ∈ ns, x < 2 ^ bits) (hn : n < 2 ^ bits) (h : ¬ Sp ns n) : ∃ o ∈ E, dot n o = true := by
  refine Classical.byContradiction fun no => ?_
  have all : ∀ o ∈ E, dot n o = false := fun o ho => by
    cases q : dot n o
    · rfl
    · exact absurd ⟨o, ho, q⟩ no
  obtain ⟨f, B, _⟩ := wy_count ns.reverse
  rw [List.reverse_reverse] at B
  have hf : ∀ b ∈ f, b < 2 ^ bits := fun b hbf => sp_lt hb ((B.same b).mpr (.mem hbf))
  have l0 : less n f ≠ 0 := fun z => h ((B.same n).mpr ((less_zero B.red).mp z))
  have ln := odds_ne B.red l0 (less_clear B.red) (Nat.lt_of_le_of_lt (less_le B.red n) hn)
  obtain ⟨v, hv⟩ := List.exists_mem_of_ne_nil _ ln
  obtain ⟨v1, v2⟩ := List.mem_filter.mp hv
  obtain ⟨k, hk, rfl⟩ := List.mem_map.mp v1
  have w1 := ev_lt (List.mem_range.mp (List.mem_filter.mp hk).1) hf B.red.pos
  have w2 : ∀ b ∈ f, dot b (ev f k) = false := fun b hb => dot_even B.red hb k
  have w3 : ∀ b ∈ ns, dot b (ev f k) = false := fun b hb => dot_sp w2 ((B.same b).mp (.mem hb))
  have w4 := dot_sp' all ((e _).mpr ⟨w1, w3⟩)
  have w5 := dot_sp w2 (less_sp (n := n) (bs := f))
  rw [dot_xor, w4] at w5
  have v2 : dot (less n f) (ev f k) = true := v2
  rw [v2] at w5
  cases w5
theorem Evn.mask {bits n o : Nat} {ns E F : List Nat} (e : Evn bits ns E) (f : Evn bits (ns ++ [n]) F) (R : Red F) (ho : o ∈ E) (h : dot n o = true) : Mk ns n (less o F) := by
  have o1 := (e o).mp (.mem ho)
  have hs := (f _).mp (less_sp (n := o) (bs := F))
  have e3 : less o F = o ^^^ (o ^^^ less o F) := by rw [← Nat.xor_assoc, Nat.xor_self, Nat.zero_xor]
  have lt : less o F < 2 ^ bits := Nat.lt_of_le_of_lt (less_le R o) o1.1
  refine ⟨fun b hb => ?_, ?_, fun v v0 hv hn => ?_⟩
  · rw [e3, dot_xor', o1.2 b hb, hs.2 b (List.mem_append_left _ hb)]; rfl
  · rw [e3, dot_xor', h, hs.2 n (List.mem_append_right _ List.mem_cons_self)]; rfl
  · by_cases q : v < 2 ^ bits
    · obtain ⟨b, hb, eb⟩ := top_in R ((f v).mpr ⟨q, fun b hb => by
        (rcases List.mem_append.mp hb with hb | hb)
        · exact hv b hb
        · rw [List.mem_singleton.mp hb]; exact hn⟩) v0
      rw [← eb]
      exact less_clear R b hb
    · have : bits ≤ v.log2 := (Nat.le_log2 v0).mpr (Nat.le_of_not_lt q)
      exact Nat.testBit_lt_two_pow (Nat.lt_of_lt_of_le lt (Nat.pow_le_pow_right (by decide) this))
end GF

set_option Elab.async false
namespace GF
/-! ### rows in any order, each with the firsts that sum to it; sums that two tuples have in common -/
theorem sp2_app {l m : List (Nat × Nat)} {x y : Nat} (h : Sp2 l x y) : Sp2 (l ++ m) x y := Sp2.sub (fun p hp => .mem (List.mem_append_left _ hp)) h
theorem sp2_perm {l m : List (Nat × Nat)} (p : l.Perm m) {x y : Nat} (h : Sp2 l x y) : Sp2 m x y := Sp2.sub (fun q hq => .mem (p.mem_iff.mp hq)) h
/-- unlike highest bits: a sum's is one of them -/
theorem tops_in {l : List Nat} (h0 : ∀ b ∈ l, b ≠ 0) (hl : l.Pairwise fun a b => a.log2 ≠ b.log2) {n : Nat} (h : Sp l n) (hn : n ≠ 0) : ∃ b ∈ l, b.log2 = n.log2 := by
  obtain ⟨g, p, s⟩ := falling l
  have D := dec_sort h0 hl p s
  obtain ⟨b, hb, e⟩ := dec_top D ((sp_perm p).mpr h) hn
  exact ⟨b, p.mem_iff.mp hb, e⟩
structure Tb (ns : List Nat) (k : Nat) (ps : List (Nat × Nat)) : Prop where
  pos : ∀ p ∈ ps, p.1 ≠ 0
  ap : (ps.map (·.1)).Pairwise fun a b => a.log2 ≠ b.log2
  is : ∀ p ∈ ps, p.1 = pk p.2 ns 0
  span : Same (ns.take k) (ps.map (·.1))
  bits : ∀ p ∈ ps, ∀ i, p.2.testBit i = true → i < k ∧ Fst ns i
theorem Tb.start (ns : List Nat) : Tb ns 0 [] := ⟨by simp, .nil, by simp, Same.refl _, by simp⟩
theorem Tb.pair {ns : List Nat} {k : Nat} {ps : List (Nat × Nat)} (L : Tb ns k ps) {x y : Nat} (h : Sp2 ps x y) : x = pk y ns 0 ∧ ∀ i, y.testBit i = true → i < k ∧ Fst ns i :=
  Sp2.all (P := fun x y => x = pk y ns 0 ∧ ∀ i, y.testBit i = true → i < k ∧ Fst ns i) ⟨(lin_zero (T := fun m => pk m ns 0) (pk_lin ns)).symm, fun i hi => by rw [Nat.zero_testBit] at hi; cases hi⟩ (fun x y u v h1 h2 => ⟨by rw [h1.1, h2.1, pk_lin], fun i hi => by
    rw [xb] at hi
    cases q : y.testBit i
    · cases q2 : v.testBit i
      · rw [q, q2] at hi; cases hi
      · exact h2.2 i q2
    · exact h1.2 i q⟩) (fun p hp => ⟨L.is p hp, L.bits p hp⟩) h
theorem Tb.top {ns : List Nat} {k : Nat} {ps : List (Nat × Nat)} (L : Tb ns k ps) {n : Nat} (h : Sp (ns.take k) n) (hn : n ≠ 0) : ∃ p ∈ ps, p.1.log2 = n.log2 := by
  obtain ⟨b, hb, e⟩ := tops_in (fun b hb => by
    obtain ⟨p, hp, rfl⟩ := List.mem_map.mp hb
    exact L.pos p hp) L.ap ((L.span n).mp h) hn
  obtain ⟨p, hp, rfl⟩ := List.mem_map.mp hb
  exact ⟨p, hp, e⟩
theorem Tb.up {ns : List Nat} {k : Nat} {ps : List (Nat × Nat)} (L : Tb ns k ps) {x : Nat} (hx : ns[k]? = some x) {o : Nat} (h : Sp2 ps x o) : Tb ns (k + 1) ps := by
  have hs : Sp (ns.take k) x := (L.span x).mpr h.fst
  refine ⟨L.pos, L.ap, L.is, ?_, fun p hp i hi => ⟨Nat.lt_succ_of_lt (L.bits p hp i hi).1, (L.bits p hp i hi).2⟩⟩
  have e : ns.take (k + 1) = ns.take k ++ [x] := List.take_succ_eq_append_getElem (List.getElem?_eq_some_iff.mp hx).1 |>.trans (by rw [(List.getElem?_eq_some_iff.mp hx).2])
  rw [e]
  refine Same.trans (same_of (fun a ha => ?_) fun a ha => sp_left (.mem ha)) L.span
  rcases List.mem_append.mp ha with q | q
  · exact .mem q
  · rw [List.mem_singleton.mp q]; exact hs
theorem Tb.keep {ns : List Nat} {k : Nat} {ps g : List (Nat × Nat)} (L : Tb ns k ps) {x : Nat} (hx : ns[k]? = some x) {r o : Nat} (h : Sp2 ps (x ^^^ r) (o ^^^ 2 ^ k)) (r0 : r ≠ 0) (ht : ∀ p ∈ ps, p.1.log2 ≠ r.log2) (hg : g.Perm (ps ++ [(r, o)])) : Tb ns (k + 1) g := by
  have e : ns.take (k + 1) = ns.take k ++ [x] := List.take_succ_eq_append_getElem (List.getElem?_eq_some_iff.mp hx).1 |>.trans (by rw [(List.getElem?_eq_some_iff.mp hx).2])
  have hxr : Sp (ns.take k) (x ^^^ r) := (L.span _).mpr h.fst
  have hf : Fst ns k := ⟨x, hx, fun z => by
    have : Sp (ns.take k) r := by
      have := hxr.add z
      rwa [Nat.xor_comm x r, xself] at this
    obtain ⟨p, hp, q⟩ := L.top this r0
    exact ht p hp q⟩
  obtain ⟨h1, h2⟩ := L.pair h
  have hp1 := pk_one ns 0 k x hx
  rw [Nat.zero_add] at hp1
  have new : r = pk o ns 0 ∧ ∀ i, o.testBit i = true → i < k + 1 ∧ Fst ns i := by
    constructor
    · rw [pk_lin, hp1] at h1
      have := congrArg (· ^^^ x) h1
      simp only [xself] at this
      rwa [Nat.xor_comm x r, xself] at this
    · intro i hi
      by_cases ik : i = k
      · rw [ik]; exact ⟨Nat.lt_succ_self k, hf⟩
      · have := h2 i (by rw [xb, hi, Nat.testBit_two_pow]; simp [Ne.symm ik])
        exact ⟨Nat.lt_succ_of_lt this.1, this.2⟩
  have all : Tb ns (k + 1) (ps ++ [(r, o)]) := by
    refine ⟨fun p hp => ?_, ?_, fun p hp => ?_, ?_, fun p hp => ?_⟩
    · (rcases List.mem_append.mp hp with q | q)
      · exact L.pos p q
      · rw [List.mem_singleton.mp q]; exact r0
    · rw [List.map_append]
      refine List.pairwise_append.mpr ⟨L.ap, List.pairwise_singleton _ _, fun a ha b hb => ?_⟩
      obtain ⟨p, hp, rfl⟩ := List.mem_map.mp ha
      rw [show b = r from by simpa using hb]
      exact ht p hp
    · (rcases List.mem_append.mp hp with q | q)
      · exact L.is p q
      · rw [List.mem_singleton.mp q]; exact new.1
    · rw [e, List.map_append]
      exact same_snoc L.span h.fst
    · (rcases List.mem_append.mp hp with q | q)
      · exact fun i hi => ⟨Nat.lt_succ_of_lt (L.bits p q i hi).1, (L.bits p q i hi).2⟩
      · rw [List.mem_singleton.mp q]; exact new.2
  have pm := hg.map (·.1)
  refine ⟨fun p hp => all.pos p (hg.mem_iff.mp hp), ?_, fun p hp => all.is p (hg.mem_iff.mp hp), all.span.trans (same_mem fun a => pm.mem_iff.symm), fun p hp => all.bits p (hg.mem_iff.mp hp)⟩
  exact pm.symm.pairwise all.ap fun h => Ne.symm h
/-- two ways to reduce: what is left of a sum is nothing, and the places are the same -/
theorem Tb.done {ns : List Nat} {ps : List (Nat × Nat)} (L : Tb ns ns.length ps) {z r o : Nat} (h : Sp2 ps (z ^^^ r) o) (hz : Sp ns z) (ht : r ≠ 0 → ∀ p ∈ ps, p.1.log2 ≠ r.log2) : r = 0 ∧ pk o ns 0 = z ∧ ∀ i, o.testBit i = true → Fst ns i := by
  have hr : Sp ns r := by
    have h1 := (L.span _).mpr h.fst
    rw [List.take_length] at h1
    have := h1.add hz
    rwa [Nat.xor_comm z r, xself] at this
  have r0 : r = 0 := Classical.byContradiction fun q => by
    obtain ⟨p, hp, e⟩ := L.top (by rw [List.take_length]; exact hr) q
    exact ht q p hp e
  subst r0
  rw [Nat.xor_zero] at h
  obtain ⟨h1, h2⟩ := L.pair h
  exact ⟨rfl, h1.symm, fun i hi => (h2 i hi).2⟩
/-- sums in common -/
structure Zs (seen rows : List (Nat × Nat)) (found : List Nat) : Prop where
  ech : Dec (rows.map (·.1))
  fwd : ∀ p ∈ seen, ∃ u, Sp2 rows p.1 (p.2 ^^^ u) ∧ Sp found u
  back : ∀ p ∈ rows, Sp2 seen p.1 p.2
  low : ∀ u ∈ found, Sp2 seen 0 u
theorem Zs.start : Zs [] [] [] := ⟨⟨by simp, .nil⟩, by simp, by simp, by simp⟩
theorem Zs.lose {seen rows : List (Nat × Nat)} {found : List Nat} (Z : Zs seen rows found) {p : Nat × Nat} (h : (clr2 p rows).1 = 0) : Zs (seen ++ [p]) rows (found ++ [(clr2 p rows).2]) := by
  have s := clr2_sp rows p
  rw [h, Nat.xor_zero] at s
  refine ⟨Z.ech, fun q hq => ?_, fun q hq => sp2_app (Z.back q hq), fun u hu => ?_⟩
  · rcases List.mem_append.mp hq with m | m
    · obtain ⟨u, h1, h2⟩ := Z.fwd q m
      exact ⟨u, h1, sp_left h2⟩
    · rw [List.mem_singleton.mp m]
      exact ⟨_, s, .mem (List.mem_append_right _ List.mem_cons_self)⟩
  · rcases List.mem_append.mp hu with m | m
    · exact sp2_app (Z.low u m)
    · rw [List.mem_singleton.mp m]
      have a : Sp2 (seen ++ [p]) p.1 p.2 := .mem (List.mem_append_right _ List.mem_cons_self)
      have b : Sp2 (seen ++ [p]) p.1 (p.2 ^^^ (clr2 p rows).2) := sp2_app (Sp2.sub Z.back s)
      have := a.add b
      rwa [Nat.xor_self, ← Nat.xor_assoc, Nat.xor_self, Nat.zero_xor] at this
theorem Zs.keep {seen rows g : List (Nat × Nat)} {found : List Nat} (Z : Zs seen rows found) {p : Nat × Nat} (h : (clr2 p rows).1 ≠ 0) (gp : g.Perm (rows ++ [clr2 p rows])) (gs : (g.map (·.1)).Pairwise (· ≥ ·)) : Zs (seen ++ [p]) g found := by
  have s := clr2_sp rows p
  have up : ∀ {x y : Nat}, Sp2 rows x y → Sp2 g x y := fun q => sp2_perm gp.symm (sp2_app q)
  have mem : Sp2 g (clr2 p rows).1 (clr2 p rows).2 := .mem (gp.mem_iff.mpr (List.mem_append_right _ List.mem_cons_self))
  have a : Sp2 (seen ++ [p]) p.1 p.2 := .mem (List.mem_append_right _ List.mem_cons_self)
  refine ⟨?_, fun q hq => ?_, fun q hq => ?_, fun u hu => sp2_app (Z.low u hu)⟩
  · rw [clr2_fst] at h
    refine dec_more Z.ech h ?_ gs
    have := gp.map (·.1)
    rwa [List.map_append, List.map_cons, List.map_nil, clr2_fst] at this
  · rcases List.mem_append.mp hq with m | m
    · obtain ⟨u, h1, h2⟩ := Z.fwd q m
      exact ⟨u, up h1, h2⟩
    · rw [List.mem_singleton.mp m]
      refine ⟨0, ?_, .zero _⟩
      have := (up s).add mem
      rwa [xself, xself, ← Nat.xor_zero p.2] at this
  · rcases List.mem_append.mp (gp.mem_iff.mp hq) with m | m
    · exact sp2_app (Z.back q m)
    · rw [List.mem_singleton.mp m]
      have b : Sp2 (seen ++ [p]) (p.1 ^^^ (clr2 p rows).1) (p.2 ^^^ (clr2 p rows).2) := sp2_app (Sp2.sub Z.back s)
      have := a.add b
      rwa [← Nat.xor_assoc, Nat.xor_self, Nat.zero_xor, ← Nat.xor_assoc, Nat.xor_self, Nat.zero_xor] at this
theorem Zs.done {seen rows : List (Nat × Nat)} {found : List Nat} (Z : Zs seen rows found) {u : Nat} : Sp found u ↔ Sp2 seen 0 u := by
  constructor
  · exact fun h => Sp.all (P := fun u => Sp2 seen 0 u) (Sp2.zero _) (fun a b h1 h2 => by have := h1.add h2; rwa [Nat.xor_self] at this) Z.low h
  · intro h
    obtain ⟨v, h1, h2⟩ := Sp2.all (P := fun x y => ∃ v, Sp2 rows x (y ^^^ v) ∧ Sp found v) ⟨0, by rw [Nat.xor_self]; exact Sp2.zero _, .zero _⟩ (fun x y a b ⟨v, h1, h2⟩ ⟨w, h3, h4⟩ => ⟨v ^^^ w, by
      have := h1.add h3
      rwa [show y ^^^ v ^^^ (b ^^^ w) = y ^^^ b ^^^ (v ^^^ w) from by rw [Nat.xor_assoc, Nat.xor_assoc, ← Nat.xor_assoc v b, Nat.xor_comm v b, Nat.xor_assoc b]] at this, h2.add h4⟩) Z.fwd h
    have := sp2_zero Z.ech h1
    have e := congrArg (· ^^^ v) this
    simp only [xself, Nat.zero_xor] at e
    rw [e]; exact h2
theorem sp2_both {one other : List Nat} {x y : Nat} : Sp2 ((one.map fun n => (n, n)) ++ other.map fun n => (n, 0)) x y ↔ ∃ b, Sp other b ∧ Sp one y ∧ x = y ^^^ b := by
  constructor
  · intro h
    refine Sp2.all (P := fun x y => ∃ b, Sp other b ∧ Sp one y ∧ x = y ^^^ b) ⟨0, .zero _, .zero _, rfl⟩ ?_ ?_ h
    · rintro x y u v ⟨b, h1, h2, rfl⟩ ⟨c, h3, h4, rfl⟩
      refine ⟨b ^^^ c, h1.add h3, h2.add h4, ?_⟩
      rw [Nat.xor_assoc, Nat.xor_assoc, ← Nat.xor_assoc b v, Nat.xor_comm b v, Nat.xor_assoc v]
    · intro p hp
      (rcases List.mem_append.mp hp with q | q)
      · obtain ⟨n, hn, rfl⟩ := List.mem_map.mp q
        exact ⟨0, .zero _, .mem hn, (Nat.xor_zero n).symm⟩
      · obtain ⟨n, hn, rfl⟩ := List.mem_map.mp q
        exact ⟨n, .mem hn, .zero _, (Nat.zero_xor n).symm⟩
  · rintro ⟨b, h1, h2, rfl⟩
    have a : Sp2 ((one.map fun n => (n, n)) ++ other.map fun n => (n, 0)) y y := Sp.all (P := fun y => Sp2 ((one.map fun n => (n, n)) ++ other.map fun n => (n, 0)) y y) (Sp2.zero _) (fun a b h1 h2 => h1.add h2) (fun n hn => Sp2.mem (p := (n, n)) (List.mem_append_left _ (List.mem_map.mpr ⟨n, hn, rfl⟩))) h2
    have c : Sp2 ((one.map fun n => (n, n)) ++ other.map fun n => (n, 0)) b 0 := Sp.all (P := fun b => Sp2 ((one.map fun n => (n, n)) ++ other.map fun n => (n, 0)) b 0) (Sp2.zero _) (fun a b h1 h2 => by have := h1.add h2; rwa [Nat.xor_zero] at this) (fun n hn => Sp2.mem (p := (n, 0)) (List.mem_append_right _ (List.mem_map.mpr ⟨n, hn, rfl⟩))) h1
    have := a.add c
    rwa [Nat.xor_zero] at this
/-- what both have -/
theorem Zs.both {one other : List Nat} {rows : List (Nat × Nat)} {found : List Nat} (Z : Zs ((one.map fun n => (n, n)) ++ other.map fun n => (n, 0)) rows found) {u : Nat} : Sp found u ↔ Sp one u ∧ Sp other u := by
  rw [Z.done, sp2_both]
  constructor
  · rintro ⟨b, h1, h2, e⟩
    have : u = b := by
      have := congrArg (· ^^^ b) e
      simp only [xself, Nat.zero_xor] at this
      exact this.symm
    exact ⟨h2, this ▸ h1⟩
  · rintro ⟨h1, h2⟩
    exact ⟨u, h2, h1, (Nat.xor_self u).symm⟩
end GF

set_option Elab.async false
set_option maxRecDepth 100000
namespace LF
open PySem PySem.Spec L2 GF
/-! ### list(d), {i: True}; a set of numbers as a dict; == of two tuples in a list -/
def bListD (m : Bool) (ds : List D) (cs : Cs) : Res D := match ds with
  | [d] => match dicL cs d with
    | some ks => mkL m (ks.map fun kv => keyD kv.1) cs
    | none => .bad
  | _ => .bad
def eD1b (m : Bool) (i : Int) (b : Bool) : SE := fun _ cs => mkD m [(.inl i, .bl b)] cs
theorem RepK.keysR {K : PySem.W.Frag} {W : Wd} : ∀ {vs : List (Key × V)} {ds : List (Key × D)}, RepK K W vs ds → Reps K W (vs.map fun kv => kV kv.1) (ds.map fun kv => keyD kv.1)
  | _, _, .nil => .nil
  | _, _, .cons (k := k) h t => .cons (rep_key k) (RepK.keysR t)
section
variable {X : Cx} {Z : WX} {pos p : Pos} {a : Expr} {t : SA}
theorem ok_listD {K : PySem.W.Frag} {mg : Str → Option Value} (m : Bool) : OkN K mg (fun xs H Q => ∃ (a : Addr) (kvs : List (Key × V)), xs = [.ref a] ∧ Rd H a (.dK kvs) ∧ ∀ p, H p = none → Q (.ref p) (upd H p (.lst (kvs.map fun kv => kV kv.1)))) (bListD m) := by
  intro Z W cs H σ xs ds Q S r q
  unfold bListD at q
  split at q
  · rename_i d
    split at q
    · rename_i ks hk
      cases r with | cons ra r =>
      cases r
      obtain ⟨a, kvs, rfl, hr, hl, rk⟩ := view_dicL S ra hk
      exact ⟨a, kvs, rfl, hr, fun p hp => fin_mkL q S rk.keysR (by rw [List.length_map]; exact hl) p hp⟩
    · exact q.elim
  · exact q.elim
theorem fe_listD (m : Bool) (hm : X.mg "list" = none) (ha : FA X Z [a] t) (hg : Gl X "list" := by rfl) (hc : X.calm = true := by rfl) (he : starEach [a] X.env = (false, eval a X.env) :: starEach [] X.env := by rfl) (hpl : (backTo pos (starEach [] X.env)).any (·.1) = false := by rfl) : FE X Z (.Call (.Name "list" p) [a] [] pos) (eN (bListD m) t) :=
  fe_callTy (call_listD hc) (ok_listD m) hm ha hg (he := he) (hpl := hpl)
/-- {i: b} -/
theorem fe_dic1b (m : Bool) {i : Int} {b : Bool} {k1 k2 : Nat} {p1 p2 : Pos} : FE X Z (.Dict [some (.Constant (.int i) k1 p1)] [.Constant (.bool b) k2 p2] pos) (eD1b m i b) :=
  PEimp (pe_disp (pps_cons pe_int pe_bl pps_nil) rfl rfl (by simp) (Nat.le_of_ble_eq_true rfl)) fun σ H Q ⟨W, sl, cs, S, L, q⟩ => fun p hp => by
    refine ⟨upd_same, [(.inl i, .bl b)], rfl, by simp, ?_⟩
    have e : upd (upd H p (.dK [])) p (.dK (mergeK [] [(.inl i, V.bl b)])) = upd H p (.dK [(.inl i, .bl b)]) := by
      funext c
      by_cases hb : c = p
      · subst hb; rw [upd_same, upd_same]; rfl
      · rw [upd_ne hb, upd_ne hb, upd_ne hb]
    rw [e]
    exact fin_mkD (vs := [(.inl i, .bl b)]) q S (.cons (.bl b) .nil) (by rw [sizeLine_eq]; simp) p hp
end
section
variable {sl : Sl} {cs : Cs} {Q : D → Cs → Prop} {m : Bool} {i : Int} {b : Bool}
theorem s_eD1b : Sat (eD1b m i b sl cs) Q = Sat (mkD m [(.inl i, .bl b)] cs) Q := rfl
/-- numbers as a dict's keys -/
def sd (l : List Nat) : List (Key × D) := l.map fun (x : Nat) => (.inl (x : Int), .bl true)
theorem sd_keys (l : List Nat) : ((sd l).map fun kv => keyD kv.1) = natsD l := by unfold sd natsD; rw [List.map_map]; rfl
theorem r_listD {d : D} {l : List Nat} (h : dicL cs d = some (sd l)) : bListD m [d] cs = mkL m (natsD l) cs := by
  unfold bListD; dsimp only; rw [h]; dsimp only; rw [sd_keys]
def addS (l : List Nat) (x : Nat) : List Nat := if x ∈ l then l else l ++ [x]
theorem sd_any (l : List Nat) (x : Nat) : ((sd l).any fun kv => decide (kv.1 = .inl (x : Int))) = decide (x ∈ l) := by
  unfold sd
  induction l with
  | nil => rfl
  | cons a l ih =>
    rw [List.map_cons, List.any_cons, ih]
    by_cases h : a = x
    · subst h; simp
    · have : ¬ ((Sum.inl (a : Int) : Key) = .inl (x : Int)) := fun z => h (by injection z with z; omega)
      have h' : ¬ x = a := fun z => h z.symm
      simp [this, h']
theorem sd_put (l : List Nat) (x : Nat) : putD (sd l) (.inl (x : Int)) (.bl true) = sd (addS l x) := by
  unfold putD addS
  rw [sd_any]
  by_cases h : x ∈ l
  · rw [if_pos (decide_eq_true h), if_pos h]
    unfold sd
    rw [List.map_map]
    refine List.map_congr_left fun a ha => ?_
    show (if (Sum.inl (a : Int) : Key) = .inl (x : Int) then _ else _) = _
    split <;> rfl
  · (rw [if_neg (by simpa using h), if_neg h])
    unfold sd
    rw [List.map_append]; rfl
theorem sd_has (l : List Nat) (x : Nat) : (valD (sd l) (.inl (x : Int))).isSome = decide (x ∈ l) := by
  rw [← sd_any]
  unfold valD
  rw [Option.isSome_map]
  generalize sd l = ks
  induction ks with
  | nil => rfl
  | cons a r ih =>
    rw [List.find?_cons, List.any_cons]
    cases decide (a.1 = (.inl (x : Int) : Key))
    · rw [Bool.false_or]; exact ih
    · rfl
theorem addS_mem {l : List Nat} {x y : Nat} : y ∈ addS l x ↔ y ∈ l ∨ y = x := by
  unfold addS
  split
  · constructor
    · exact .inl
    · rintro (h | rfl)
      · exact h
      · assumption
  · simp
theorem addS_nodup {l : List Nat} {x : Nat} (h : l.Nodup) : (addS l x).Nodup := by
  unfold addS
  split
  · exact h
  · rename_i hx
    rw [List.nodup_append]
    exact ⟨h, by simp, fun a ha b hb e => hx (by simp at hb; rw [← hb, ← e]; exact ha)⟩
theorem few_below : ∀ (n : Nat) (l : List Nat), l.Nodup → (∀ x ∈ l, x < n) → l.length ≤ n
  | 0, l, _, h => by
    cases l with
    | nil => exact Nat.le_refl _
    | cons a l => exact absurd (h a List.mem_cons_self) (Nat.not_lt_zero a)
  | n + 1, l, nd, h => by
    by_cases hn : n ∈ l
    · have h1 := List.length_erase_of_mem hn
      have := few_below n (l.erase n) (nd.erase n) fun x hx => by
        obtain ⟨a, b⟩ := (List.Nodup.mem_erase_iff nd).mp hx
        have := h x b
        omega
      omega
    · have := few_below n l nd fun x hx => by
        have h1 := h x hx
        have h2 : x ≠ n := fun z => hn (z ▸ hx)
        omega
      omega
theorem sd_bel (n : Nat) (l : List Nat) : D.belk n (sd l) = true := by
  unfold sd
  induction l with
  | nil => rfl
  | cons a l ih => rw [List.map_cons, D.belk, ih]; rfl
/-- a list of two tuples of numbers is what it is -/
theorem r_ne2 {d : D} {a b : List Nat} (h : deref cs d = .lst [.tup (natsD a), .tup (natsD b)]) (hs : scalD d (.lst [.tup (natsD a), .tup (natsD b)]) = none) : pNe d (.lst [.tup (natsD a), .tup (natsD b)]) cs = .ok (.bl false) cs := by
  unfold pNe eqD
  rw [hs]
  dsimp only
  rw [h]
  obtain ⟨l1, l2⟩ := lay_nats a
  obtain ⟨l3, l4⟩ := lay_nats b
  have sh : SeqAt.shaped (.list [.tuple (a.map fun (n : Nat) => PyData.int (n : Int)), .tuple (b.map fun (n : Nat) => PyData.int (n : Int))]) = true := by
    simp [SeqAt.shaped, PyData.canLay0, PyData.canLayAll0, PyData.depth, PyData.depthAll, l1, l2, l3, l4]
  simp only [deref, D.py, D.pys, pys_nats, Option.map_some]
  rw [if_pos ⟨sh, sh⟩]
  simp [PyData.eqv, PyData.eqvAll, eqv_nats]
end
end LF

set_option Elab.async false
set_option maxRecDepth 100000
namespace LF
open PySem PySem.Spec L2
/-! ### max of a tuple of whole numbers -/
section
variable {P : Program} {wd : World} {Ar : Around} {Ex : Value → Shared → Prop} {sh : Shared} {tp : Addr}
theorem tup_max {ys : Array (Int × Tok)} {G : Value → Shared → Prop} (hd : Ar.handled = none) (ht : sh.heap.IsTuple tp (intItems ys)) (h0 : 0 < ys.size)
    (go : ∀ v hp tk, (intItems ys)[argBest (fun a b => decide (numAt ys a > numAt ys b)) (ys.size - 1)]? = some v → (∀ c o, sh.heap.get? c = some o → hp.get? c = some o) → G v { sh with heap := hp, toks := tk }) :
    wpAny (model P wd) Ar (call (.builtin "max") [.ref tp]) G Ex sh := by
  have lt : tp < sh.heap.objs.size := by obtain ⟨_, e, _⟩ := ht; exact Heap.lt_size e
  refine call_max_walk (wpAny_pyIter_tuple ht ⟨sh.heap.objs.size, [sh.heap.objs.size, tp], [sh.heap.objs.size], (intItems ys).size, _, _, _, rfl, Walks.tuple (A := Ar.in1) hd sh.heap.objs.size tp (Nat.ne_of_lt lt) (intItems ys),
    ⟨⟨_, Heap.get?_push_size _ rfl, rfl, rfl⟩, ht.push _⟩, fun c hc => ?_, by simpa [intItems] using h0, CmpOf.ints_gt (numAt ys) (fun _ _ => intItems_at), fun v hp tk hv hk => ?_⟩)
  · have z : c = sh.heap.objs.size ∨ c = tp := by simpa using hc
    show c < (sh.heap.push _).objs.size
    rw [Heap.size_push]
    rcases z with rfl | rfl
    · exact Nat.lt_succ_self _
    · exact Nat.lt_succ_of_lt lt
  · refine go v hp tk (by simpa [intItems] using hv) fun c o e => ?_
    refine hk c o (fun m => ?_) (Heap.get?_push_of_some _ e)
    have : c = sh.heap.objs.size := by simpa using m
    rw [this] at e
    exact Nat.lt_irrefl _ (Heap.lt_size e)
theorem tup_max_raw {vs : List Value} {ns : List Int} {G : Value → Shared → Prop} (hd : Ar.handled = none) (ht : sh.heap.IsTuple tp vs.toArray) (hi : PyProof.Rows.IntsAre vs ns) (h0 : 0 < ns.length)
    (go : ∀ hp tk M t', (∀ c o, sh.heap.get? c = some o → hp.get? c = some o) → M ∈ ns → (∀ a, a ∈ ns → a ≤ M) → G (.int M t') { sh with heap := hp, toks := tk }) :
    wpAny (model P wd) Ar (call (.builtin "max") [.ref tp]) G Ex sh := by
  obtain ⟨ys, e⟩ := hi.allInts.items
  have nn : numsOf (intItems ys).toList = ns := by rw [← e]; exact hi.numsOf
  rw [nums_intItems] at nn
  subst nn
  rw [e] at ht
  have h0 : 0 < ys.size := by simpa using h0
  refine tup_max hd ht h0 fun v hp tk hv hk => ?_
  obtain ⟨tk0, rfl⟩ := intItems_at hv
  obtain ⟨g1, g2⟩ := argBest_gt (numAt ys) (ys.size - 1)
  refine go hp tk _ tk0 hk ?_ fun a ha => ?_
  · rw [numAt_eq]
    refine PySem.getD_mem ?_
    rw [List.length_map, Array.length_toList]; omega
  · obtain ⟨j0, hj0, rfl⟩ := mem_getD ha
    rw [List.length_map] at hj0
    rw [Array.length_toList] at hj0
    have := g2 j0 (by omega)
    rwa [numAt_eq] at this
end
/-- max(xs), xs a tuple of whole numbers -/
def rMaxT (K : PySem.W.Frag) : List V → Hp → VK → Prop := fun vs H Q => ∃ (a : Addr) (ns : List Int), vs = [V.ref a] ∧ SqT K H a (ns.map V.int) ∧ 0 < ns.length ∧ ∀ m, m ∈ ns → (∀ y, y ∈ ns → y ≤ m) → Q (.int m) H
theorem cr_maxT {X : Cx} (hc : X.calm = true) : CallR X (.builtin "max") (rMaxT X.K) := by
  intro pn s σ H vs us Q I r h
  obtain ⟨a, ns, rfl, hs, h0, q⟩ := h
  obtain ⟨its, rv, hl, _⟩ := I.tuple hs
  rw [Vals.ref1 r]
  exact tup_max_raw (I.ok.hd hc) hl rv.ints h0 fun hp tk m t' hk h1 h2 => ⟨.int _, H, I.kept hk, ⟨_, rfl⟩, q m h1 h2⟩
def bMaxT (ds : List D) (cs : Cs) : Res D := match ds with
  | [.tup xs] => match allInt xs with
    | some (n :: ns) => .ok (.int (ns.foldl max n)) cs
    | _ => .bad
  | _ => .bad
theorem ok_maxT {K : PySem.W.Frag} {mg : Str → Option Value} : OkN K mg (rMaxT K) bMaxT := by
  intro Z W cs H σ xs ds Q S r q
  unfold bMaxT at q
  split at q
  · rename_i es
    split at q
    · rename_i n ns hn
      cases r with | cons ra r =>
      cases r
      have e := allInt_eq hn
      subst e
      cases ra with
      | @tup a vs _ hz hl rv =>
        have hv := S.fzt hz
        rw [Reps.ints_inv rv] at hv
        obtain ⟨m1, m2⟩ := foldl_max_mem ns n
        refine ⟨a, n :: ns, rfl, .of hv, by simp, fun m hm hle => ?_⟩
        have e : m = ns.foldl max n := Int.le_antisymm (m2 m hm) (hle _ m1)
        rw [e]
        exact q.ret S (.int _)
    · exact q.elim
  · exact q.elim
section
variable {X : Cx} {Z : WX} {pos p : Pos} {a : Expr} {t : SA}
theorem fe_maxT (hm : X.mg "max" = none) (ha : FA X Z [a] t) (hg : Gl X "max" := by rfl) (hc : X.calm = true := by rfl) (he : starEach [a] X.env = (false, eval a X.env) :: starEach [] X.env := by rfl) (hpl : (backTo pos (starEach [] X.env)).any (·.1) = false := by rfl) : FE X Z (.Call (.Name "max" p) [a] [] pos) (eN bMaxT t) :=
  fe_callB (cr_maxT hc) ok_maxT hm ha hg (he := he) (hpl := hpl)
theorem r_maxT {cs : Cs} {ns : List Nat} (h : ns ≠ []) : ∃ g ∈ ns, (∀ x ∈ ns, x ≤ g) ∧ bMaxT [.tup (natsD ns)] cs = .ok (.int (g : Int)) cs := by
  cases ns with
  | nil => exact absurd rfl h
  | cons n r =>
    obtain ⟨g, g1, g2, g3⟩ := foldl_max_nat r n
    refine ⟨g, g1, g2, ?_⟩
    unfold bMaxT
    dsimp only
    rw [intL_natsT, List.map_cons]
    show Res.ok (D.int _) cs = _
    rw [g3]
end
end LF

set_option Elab.async false
set_option maxRecDepth 100000
namespace LF
open PySem PySem.Spec L2
open PyProof.Rows (envOfC)
/-! ### defs that may raise -/
section
variable {mg : Str → Option Value} {base : Heap}
variable {P : Program} {w : World} {K : PySem.W.Frag}
theorem XRep.cut {W : Wd} {H : Hp} {n : Nat} {x : Exc} {cls : Value} {d : Option Addr} (h : XRep K mg W H x cls d) (e : belF n x.fs = true) : XRep K mg (W.cut n) H x cls d := by
  obtain ⟨C, h1, h2, h3⟩ := h
  exact ⟨C, h1, h2, h3.cut e⟩
theorem fn_defX {x qual : Str} {st : Stmt} {f : Addr} {fd : FuncData} {N ps : List Str} {k : Nat} {b : SS} (F : Fun K x qual st f fd) (S : FnScope N ps (defScope st))
    (hb : ∀ (cdv : Value) (A : Around) (outer : List Env) (s : Shared) (H : Hp) (E : XK), Room k (A.deeper (envOfC qual (defScope st) s.heap.objs.size f cdv)) → Takes (cxOf (L2.CX P w) P w K mg base N qual (defScope st) f cdv A outer s H E) (fun cls d _ H => E cls d H) →
      PassesOwn (model P w) (cxOf (L2.CX P w) P w K mg base N qual (defScope st) f cdv A outer s H E).A (cxOf (L2.CX P w) P w K mg base N qual (defScope st) f cdv A outer s H E).env (cxOf (L2.CX P w) P w K mg base N qual (defScope st) f cdv A outer s H E).xe →
      FSs (cxOf (L2.CX P w) P w K mg base N qual (defScope st) f cdv A outer s H E) (fun cls d _ H => E cls d H) (defBody st) b) :
    FnOk P w K mg base (L2.CX P w) (k + 1) f fd ps (spOf K mg ps.length (semDef ps.length N.length b)) := by
  refine F.okX S (fun vs H Q E h => h.1) (fun cdv A outer s H vs Q E hr h => ?_)
  refine ⟨_, hb cdv A outer s H E hr (takes_of (X := cxOf (L2.CX P w) P w K mg base N qual (defScope st) f cdv A outer s H E) rfl rfl rfl rfl) (passes_of (X := cxOf (L2.CX P w) P w K mg base N qual (defScope st) f cdv A outer s H E) rfl), ?_⟩
  obtain ⟨hl, W, cs, ds, R, r, q⟩ := h
  have hn : ds.length = ps.length := by rw [← r.length]; exact hl
  refine ⟨W, _, cs, R, start_sl r hn, ?_⟩
  rw [semDef_eq] at q
  have q : Fin K mg (Rep K) (fun cls d _ H => E cls d H) W [] H (if ds.length = ps.length then fin cs (b (ds.map some ++ List.replicate (N.length - ps.length) none) cs) else .bad) Q := q
  rw [if_pos hn] at q
  show FinS K mg (fun cls d _ H => E cls d H) W H (b (ds.map some ++ List.replicate (N.length - ps.length) none) cs) _
  cases e : b (ds.map some ++ List.replicate (N.length - ps.length) none) cs with
  | ok p cs' =>
    obtain ⟨c, sl⟩ := p
    rw [e] at q
    intro W' σ' H' st R' L'
    cases c with
    | nx =>
      have q : Fin K mg (Rep K) (fun cls d _ H => E cls d H) W [] H (open Classical in if TrOk cs .non cs' then .ok .non (cs'.take cs.length) else .bad) Q := q
      by_cases ht : TrOk cs .non cs'
      · rw [if_pos ht] at q
        obtain ⟨s2, R2⟩ := R.cut st R' ht.2
        exact q _ _ _ s2 R2 .non
      · rw [if_neg ht] at q; exact q.elim
    | rt d =>
      have q : Fin K mg (Rep K) (fun cls d _ H => E cls d H) W [] H (open Classical in if TrOk cs d cs' then .ok d (cs'.take cs.length) else .bad) Q := q
      intro v rv
      by_cases ht : TrOk cs d cs'
      · rw [if_pos ht] at q
        obtain ⟨s2, R2⟩ := R.cut st R' ht.2
        exact q _ _ _ s2 R2 (rv.cut ht.1)
      · rw [if_neg ht] at q; exact q.elim
    | ex x =>
      have q : Fin K mg (Rep K) (fun cls d _ H => E cls d H) W [] H (open Classical in if TrOk cs .non cs' ∧ belF cs.length x.fs = true then .exc x (cs'.take cs.length) else .bad) Q := q
      intro cls d xr
      by_cases ht : TrOk cs .non cs' ∧ belF cs.length x.fs = true
      · rw [if_pos ht] at q
        obtain ⟨s2, R2⟩ := R.cut st R' ht.1.2
        exact q _ _ cls d s2 R2 (xr.cut ht.2)
      · rw [if_neg ht] at q; exact q.elim
    | bk => exact q.elim
    | ct => exact q.elim
  | exc x cs' => rw [e] at q; exact q.elim
  | bad => rw [e] at q; exact q.elim
end
/-- a def that may raise, where it stands -/
structure CalX (P : Program) (w : World) (K : PySem.W.Frag) (mg : Str → Option Value) (base : Heap) (x : Str) (k : Nat) (ps : List Str) (g : Fn) : Prop where
  ex : ∃ (f : Addr) (fd : FuncData), FnOk P w K mg base (L2.CX P w) k f fd ps (spOf K mg ps.length g) ∧ mg x = some (.ref f) ∧ PySem.W.keepIn K (.ref f) = true ∧ Binds K fd ps []
def callX (n : Nat) (g : Fn) : List D → Cs → Res D := fun ds cs => if ds.length = n then g ds cs else .bad
section
variable {X : Cx} {Z : WX} {pos p : Pos} {e : Expr} {es : List Expr} {t : SA} {k : Nat} {ps : List Str} {g : Fn} {x : Str} {n : Nat}
/-- .. called where what it raises is taken -/
theorem fe_callX (C : CalX X.prog X.w X.K X.mg X.base x k ps g) (hr : Room k X.A) (tk : Takes X Z)
    (ha : FA X Z (e :: es) t) (hn : ps.length = n := by rfl) (hlen : (e :: es).length = ps.length := by rfl) (hg : Gl X x := by rfl) (hdb : (x == ("__debug__" : Str)) = false := by decide) (he : starEach (e :: es) X.env = (false, eval e X.env) :: starEach es X.env := by rfl) (hpl : (backTo pos (starEach es X.env)).any (·.1) = false := by rfl) :
    FE X Z (.Call (.Name x p) (e :: es) [] pos) (eN (callX n g) t) := by
  subst hn
  obtain ⟨f, fd, F, hm, hk, hb⟩ := C.ex
  refine PEimp (pe_callS (CX := L2.CX X.prog X.w) (E := WE Z) F hr hg hm hk hb (passAt tk) ha hdb he hpl) fun σ H Q ⟨W, sl, cs, S, L, q⟩ => ?_
  refine up_bind (R1 := Reps X.K) S L q fun W1 ds cs1 vs H1 st1 S1 L1 r1 q1 => ?_
  unfold callX at q1
  by_cases hn : ds.length = ps.length
  · rw [if_pos hn] at q1
    refine ⟨by rw [r1.length]; exact hn, W1, cs1, ds, S1, r1, ?_⟩
    cases hc : g ds cs1 with
    | ok d cs => rw [hc] at q1; exact q1
    | exc x cs => rw [hc] at q1; exact q1
    | bad => rw [hc] at q1; exact q1
  · rw [if_neg hn] at q1; exact q1.elim
/-- .. called where it doesn't -/
theorem fe_callXn (C : CalX X.prog X.w X.K X.mg X.base x k ps g) (hr : Room k X.A)
    (ha : FA X Z (e :: es) t) (hn : ps.length = n := by rfl) (hlen : (e :: es).length = ps.length := by rfl) (hg : Gl X x := by rfl) (hdb : (x == ("__debug__" : Str)) = false := by decide) (he : starEach (e :: es) X.env = (false, eval e X.env) :: starEach es X.env := by rfl) (hpl : (backTo pos (starEach es X.env)).any (·.1) = false := by rfl) :
    FE X Z (.Call (.Name x p) (e :: es) [] pos) (eN (callF n g) t) := by
  subst hn
  obtain ⟨f, fd, F, hm, hk, hb⟩ := C.ex
  refine PEimp (pe_callS (CX := L2.CX X.prog X.w) (E := fun _ => L2.E0) F hr hg hm hk hb (fun _ pins H s e s' I c => passL pins _ H s e s' I c) ha hdb he hpl) fun σ H Q ⟨W, sl, cs, S, L, q⟩ => ?_
  refine up_bind (R1 := Reps X.K) S L q fun W1 ds cs1 vs H1 st1 S1 L1 r1 q1 => ?_
  unfold callF at q1
  by_cases hn : ds.length = ps.length
  · rw [if_pos hn] at q1
    refine ⟨by rw [r1.length]; exact hn, W1, cs1, ds, S1, r1, ?_⟩
    cases hc : g ds cs1 with
    | ok d cs => rw [hc] at q1; exact q1
    | exc x cs => rw [hc] at q1; exact q1.elim
    | bad => rw [hc] at q1; exact q1
  · rw [if_neg hn] at q1; exact q1.elim
end
/-! ### raise -/
def sRz (c : Str) : SS := fun sl cs => .ok (.ex ⟨c, []⟩, sl) cs
/-- a class without own __init__ that is raised -/
structure ExR (K : PySem.W.Frag) (mg : Str → Option Value) (x : Str) : Prop where
  ex : ∃ C, mg x = some (.ref C) ∧ PySem.W.excIn K C [.type "ValueError", .type "Exception", .type "BaseException", .type "object"] "ValueError.__new__" = true ∧ PySem.W.keepIn K (.ref C) = true ∧
    PySem.W.subIn K (.ref C) (.type "BaseException") = some true ∧ PySem.W.typeIn K (.ref C) = some (.type "type")
section
variable {X : Cx} {Z : WX} {pos pos' p p2 : Pos} {x m : Str} {j : Nat}
theorem fs_raise0 (R : ExR X.K X.mg x) (tk : Takes X Z) (hc : X.calm = true := by rfl) (hg : Gl X x := by rfl) (hdb : (x == ("__debug__" : Str)) = false := by decide) :
    FS X Z (.Raise (some (.Call (.Name x p) [.Constant (.str m) j p2] [] pos)) none pos') (sRz x) := by
  obtain ⟨C, h1, h2, h3, h4, h5⟩ := R.ex
  refine PSimp (ps_raise hc tk (pmk_own F.excBase_ValueError h2 h1 h3 (raises_own h4 h5) hg hdb)) fun D' σ H ⟨W, sl, cs, S, L, q⟩ => ?_
  exact (q.done S L) (.ref C) none ⟨C, h1, rfl, rfl⟩
end
/-! ### try, except X as e -/
theorem errO_ok {P : Program} {w : World} {H : Hp} {h : Heap} {a C : Addr} {d : Option Addr} {oe : Obj} {vs : Array Value} (e : h.get? a = some oe) (z : Zc (.ref C) d oe) (dd : oe.data = .fields vs) : ObjOk P w H h a (ErrO a C d) :=
  ⟨⟨oe, vs, e, z, dd⟩, ⟨oe, e⟩, fun _ _ ⟨o, v, q, r⟩ k => ⟨o, v, k o q, r⟩⟩
section
variable {s : Shared} {X : Cx} {pins : List (Addr × Obj)} {σ : L2.St} {H : Hp}
/-- a caught exception is looked after from here on -/
theorem inv_track {a C : Addr} {d : Option Addr} {oe : Obj} {vs : Array Value} (I : Inv X pins σ H s) (hex : X.ex = []) (he : s.heap.get? a = some oe) (hz : Zc (.ref C) d oe) (hd : oe.data = .fields vs) (na : H a = none)
    (n0 : X.s_0.heap.get? a = none) (np : ∀ p ∈ X.pn ++ pins, p.1 ≠ a) (nL : a ≠ X.env.locals) : Inv (X.suite a (X.pn ++ pins)) [] σ (upd H a (ErrO a C d)) s where
  ok := I.ok.suite _ _
  os := I.os
  bare := I.bare
  base := {
    keep := I.base.keep
    slot := I.base.slot
    free := fun b o e n hb => by
      show upd H a (ErrO a C d) b = none
      rw [upd_ne (fun z => by rw [z] at e; rw [n0] at e; cases e)]
      exact I.base.free b o e n hb
    there := I.base.there
    tups := fun b xs e => by
      have q := I.base.tups b xs e
      show upd H a (ErrO a C d) b = _
      rw [upd_ne (ne_of_none q na)]; exact q
    frzs := fun b o u e => by
      have q := I.base.frzs b o u e
      show upd H a (ErrO a C d) b = _
      rw [upd_ne (ne_of_none q na)]; exact q
    tbls := fun b ps e => by
      obtain ⟨m, q⟩ := I.base.tbls b ps e
      exact ⟨m, by
        show upd H a (ErrO a C d) b = _
        rw [upd_ne (ne_of_none q na)]; exact q⟩ }
  loc := I.loc
  cell := I.cell
  free := by
    show upd H a (ErrO a C d) X.env.locals = none
    rw [upd_ne (Ne.symm nL)]; exact I.free
  freeC := fun x c e => by
    show upd H a (ErrO a C d) c = none
    rw [upd_ne (fun z => by
      obtain ⟨v, o, ho, hv⟩ := I.cell x c e
      rw [z, he] at ho; cases ho
      rw [hd] at hv; cases hv)]
    exact I.freeC x c e
  pin := fun p hp => by
    have hp' : p ∈ X.pn ++ pins := by rw [List.append_nil] at hp; exact hp
    obtain ⟨e, n, r⟩ := I.pin p hp'
    refine ⟨e, ?_, r⟩
    show upd H a (ErrO a C d) p.1 = none
    rw [upd_ne (np p hp')]; exact n
  hok := fun b u e => by
    have e : upd H a (ErrO a C d) b = some u := e
    by_cases hb : b = a
    · subst hb; rw [upd_same] at e; cases e; exact errO_ok he hz hd
    · rw [upd_ne hb] at e
      exact (I.hok b u e).stay (fun _ _ _ q => q) (fun c q => by rw [upd_ne (ne_of_none q na)]; exact q) fun c xs q => by rw [upd_ne (ne_of_none q na)]; exact q
  len := I.len
theorem inv_unsuite {a : Addr} {pn' : List (Addr × Obj)} (J : Inv (X.suite a (X.pn ++ pins)) pn' σ H s) (ok : X.Ok) : Inv X pins σ H s :=
  ⟨ok, J.os, J.bare, J.base, J.loc, J.cell, J.free, J.freeC, fun q hq => J.pin q (List.mem_append_left _ hq), J.hok, J.len⟩
end
/-- what the clause wishes of an exception of the body, which stays known -/
def wAsT (K : PySem.W.Frag) (c : Value) (i : Nat) (ts : TS) (Wout : WX) (D' : Ends) : WX := fun cls d σ H =>
  ∃ b, PySem.W.exmOne K cls c = some b ∧ (b = true → ∃ C, cls = .ref C ∧ ∀ a, H a = none → ts { nx := fun σ' H' => D'.nx (σ'.set i none) H', rt := D'.rt, bk := fun σ' H' => D'.bk (σ'.set i none) H', ct := fun σ' H' => D'.ct (σ'.set i none) H' } (σ.set i (some (.ref a))) (upd H a (ErrO a C d))) ∧
    (b = false → Wout cls d σ H)
section
variable {X : Cx} {x n : Str} {c : Value} {i : Nat} {body suite : List Stmt} {b₀ : Stmt} {np pos pos' : Pos} {tb : WX → TS} {ts : TS} {Wout : WX}
theorem ps_try_asT (hex : X.ex = []) (hs : X.stack = X.env :: X.outer) (hf : X.env.frame = some X.env.locals) (hN : X.N.Nodup) (hi : X.N[i]? = some n) (hln : X.env.kindOf n = some .local) (hc : Names X x c) (tk : Takes X Wout)
    (hb : ∀ (Z1 : WX) (p1 : List (Addr × Obj)) (xe : Value → Shared → Prop), Takes (X.tr p1 xe) Z1 → PassesOwn (model X.prog X.w) X.A X.env xe → PSs (X.tr p1 xe) body (tb Z1))
    (hsu : ∀ (a : Addr) (pn : List (Addr × Obj)), PSs (X.suite a pn) (b₀ :: suite) ts) :
    PS X (.Try body [.ExceptHandler (some (.Name x np)) (some n) (b₀ :: suite) pos'] [] [] pos) (fun D' σ H => tb (wAsT X.K c i ts Wout D') D' σ H) := by
  refine ⟨fun pins s σ H D' I h => ?_⟩
  have ok := I.ok
  (have hfr : X.A.frames = some (X.env :: X.outer) := by rw [ok.frames, hs])
  (have hloc : Loc X.env.scope n := .inl hln)
  refine wpAny_Try_except ?_
  refine wpAny_mono ((hb (wAsT X.K c i ts Wout D') (X.pn ++ pins) (fun e s₁ => wpAny (model X.prog X.w) X.A (noteFrame e X.env) (fun _ s₂ => wpAny (model X.prog X.w) X.A (setFlight e none) (fun _ s₃ =>
    wpAny (model X.prog X.w) X.A (handleBy e X.env [.ExceptHandler (some (.Name x np)) (some n) (b₀ :: suite) pos']) (SP X pins D') X.xe s₃) X.xe s₂) X.xe s₁) (fun u s' xx => ?_) PassesOwn.looking).run [] s σ H D' (I.toTry _) h) (fun f s1 hsp => ?_) (fun e s1 he => he)
  · obtain ⟨a, B, sI, pins', σ', H', cls, d, rfl, J', nb, up, sky, na, os, ag, b, hb1, hyes, hno⟩ := xx
    (have J : Inv X pins σ' H' sI := J'.ofTry ok)
    (have sky' : Sky B (X.env :: X.outer) a (Zc cls d) X.env.locals s'.heap := by rw [← hs]; exact sky)
    (show wpAny (model X.prog X.w) X.A (noteFrame (.ref a) X.env) _ _ _)
    (refine Sky.land Zc.steady hfr hf sky' fun h3 fl3 up3 => ?_)
    (have J3 : Inv X pins σ' H' { s' with heap := h3 } := J.landed nb fl3.1 (up.trans up3) os ag)
    (obtain ⟨oe3, vs3, he3, hz3, hd3⟩ := fl3.there)
    have nofr : ∀ {G : Heap} {u : Obj} {vs : Array Value}, G.FunFrames B (X.env :: X.outer) → G.get? a = some u → u.data = .fields vs → a ∉ frs (X.env :: X.outer) := fun {G u vs} ff e dd hm => by
      (obtain ⟨_, o', e', hnf⟩ := ff.mem hm)
      rw [e] at e'; cases e'
      exact hnf _ dd
    have nfr := nofr fl3.2.2.1 he3 hd3
    (have nL : a ≠ X.env.locals := fun z => nfr (List.mem_filterMap.mpr ⟨X.env, List.mem_cons_self, by rw [hf, z]⟩))
    have nF : a ∉ X.fs := fun hin => by
      obtain ⟨e, he, q⟩ := List.mem_filterMap.mp hin
      (exact nfr (List.mem_filterMap.mpr ⟨e, List.mem_cons_of_mem _ he, q⟩))
    have nI : sI.heap.get? a = none := by
      cases e : sI.heap.get? a with
      | none => rfl
      | some o =>
        have z := nb a o e (by rw [hs]; exact nfr)
        rw [fl3.2.1] at z; cases z
    have new0 : X.s_0.heap.get? a = none := by
      cases ez : X.s_0.heap.get? a with
      | none => rfl
      | some o =>
        obtain ⟨o', z⟩ := J.base.there a o ez (by rw [hex]; exact fun z => nomatch z)
        rw [nI] at z; cases z
    have npn : ∀ p ∈ X.pn ++ pins, p.1 ≠ a := fun p hp z => by
      have q := (J.pin p hp).1
      rw [z, nI] at q; cases q
    (have S3 := J3.suite he3 hd3 na nL nF)
    (refine wpAny_handleBy_cons (codeAny_handlers_test ?_) (by intro q; cases q))
    (have LT : PySem.W.Looks (model X.prog X.w) h3 (typeOf (.ref a)) cls := fun A Q E s k q => wpAny_typeOf_ref (k _ _ he3) (by rw [hz3.1]; exact q))
    (have LM := PySem.W.exm_one (M := model X.prog X.w) (J3.kIn) LT hb1)
    have tst : ∀ {E : Value → Shared → Prop} {Q : Value → Shared → Prop}, Q c { s' with heap := h3 } → wpAny (model X.prog X.w) (X.A.mark (some (.ref a))) (eval (.Name x np) X.env) Q E { s' with heap := h3 } := fun {E Q} q => by
      (obtain ⟨hg, hdbg, hm | ⟨hm, hv, hnn⟩⟩ := hc)
      · (exact ld_glob (X := X.suite a ((a, oe3) :: (X.pn ++ pins))) S3 hg hm q hdbg)
      · (exact ld_blt (X := X.suite a ((a, oe3) :: (X.pn ++ pins))) S3 hg hm hv q hnn hdbg)
    refine tst (LM.here ?_)
    cases b with
    | true =>
      (refine codeAny_handlers_suite_as ?_)
      (refine HandSPX.lands_againZ fl3 fun h4 fl4 up4 => ?_)
      (have J4 : Inv X pins σ' H' { s' with heap := h4 } := J.landed nb fl4.1 ((up.trans up3).trans up4) os ag)
      (obtain ⟨oe4, vs4, he4, hz4, hd4⟩ := fl4.there)
      obtain ⟨C, rfl, hyes2⟩ := hyes rfl
      have S4 := inv_track J4 hex he4 hz4 hd4 na new0 npn nL
      refine store_ok (X := X.suite a (X.pn ++ pins)) (v := .ref a) S4 hN hi hloc rfl (fun s5 S5 => ?_) (.inr hln)
      refine wpAny_mono ((hsu a (X.pn ++ pins)).run [] s5 _ _ _ S5 (hyes2 a na)) (fun f s6 hsp => ?_) (fun _ _ z => False.elim z)
      have end_ : ∀ {σ6 : L2.St} {H6 : Hp} {Q : Shared → Prop}, Inv (X.suite a (X.pn ++ pins)) [] σ6 H6 s6 → (∀ s7, Inv X pins (σ6.set i none) H6 s7 → Q s7) →
          wpAny (model X.prog X.w) X.A (do bindName X.env n .none; unbindBehindTheSuite X.env n pos') (fun _ s7 => Q s7) X.xe s6 := fun {σ6 H6 Q} S6 hq => gone_ok (inv_unsuite S6 ok) hN hi hln hq
      cases f with
      | next =>
        (obtain ⟨σ6, H6, S6, q6⟩ := hsp)
        (exact end_ S6 fun s7 J7 => ⟨_, _, J7, q6⟩)
      | brk =>
        (obtain ⟨σ6, H6, S6, q6⟩ := hsp)
        (exact end_ S6 fun s7 J7 => ⟨_, _, J7, q6⟩)
      | cont =>
        (obtain ⟨σ6, H6, S6, q6⟩ := hsp)
        (exact end_ S6 fun s7 J7 => ⟨_, _, J7, q6⟩)
      | ret u =>
        (obtain ⟨v6, σ6, H6, S6, r6, q6⟩ := hsp)
        (exact end_ S6 fun s7 J7 => ⟨_, _, _, J7, r6, q6⟩)
    | false =>
      (show wpAny _ X.A (handleBy (.ref a) X.env []) _ _ _)
      refine wpAny_handleBy_nil ?_
      (obtain ⟨k1, k2, k3, oe, vs, T, oT, ts', he, hz, hd, h1, hr⟩ := id fl3)
      unfold PySem.passOn
      (refine wpAny_bind (wpAny_field he hd h1 ?_))
      (rw [if_neg (show ¬ ((Value.ref T == Value.none) = true) from by simp)])
      have lst : wpAny (model X.prog X.w) X.A (setFlight (.ref a) X.env.frame) (fun _ s4 => wpAny (model X.prog X.w) X.A (throw (.ref a) : Sem Flow) (SP X pins D') X.xe s4) X.xe { s' with heap := h3 } := by
        rw [hf]
        (refine HandSPX.setFlight_upZ fl3 fun h4 hh4 up4 => wpAny_throw (tk _ _ ?_))
        (exact ⟨a, B, sI, pins, σ', H', cls, d, rfl, J, nb, (up.trans up3).trans up4, .inr (.inr (by rw [hs]; exact hh4)), na, os, ag, hno rfl⟩)
      first
        | exact wpAny_bind (wpAny_pure (wpAny_bind lst))
        | exact wpAny_bind lst
  · cases f with
    | next =>
      obtain ⟨σ', H', J', q⟩ := hsp
      (exact wpAny_execs_nil ⟨σ', H', J'.ofTry ok, q⟩)
    | brk =>
      obtain ⟨σ', H', J', q⟩ := hsp
      (exact ⟨σ', H', J'.ofTry ok, q⟩)
    | cont =>
      obtain ⟨σ', H', J', q⟩ := hsp
      (exact ⟨σ', H', J'.ofTry ok, q⟩)
    | ret u =>
      (obtain ⟨v, σ', H', J', r, q⟩ := hsp)
      (exact ⟨v, σ', H', J'.ofTry ok, r, q⟩)
end
/-- try: f, except .. as (slot i): g; kd tells which classes are taken -/
def sTryAs (kd : Str → Option Bool) (i : Nat) (f g : SS) : SS := fun sl cs => match f sl cs with
  | .ok (.ex x, sl1) cs1 => match kd x.cls with
    | some true => match g (sl1.set i (some (.cel cs1.length))) (cs1 ++ [some (.err x.cls x.fs)]) with
      | .ok (.ex _, _) _ => .bad
      | .ok (c, sl2) cs2 => .ok (c, sl2.set i none) cs2
      | _ => .bad
    | some false => .ok (.ex x, sl1) cs1
    | none => .bad
  | r => r
/-- the classes that are raised, and whether they are taken -/
def kdL (l : List (Str × Bool)) : Str → Option Bool := fun c => l.lookup c
/-- what holds of the classes of a list -/
def KdP (mg : Str → Option Value) (P : Addr → Bool → Prop) (l : List (Str × Bool)) : Prop := ∀ c b, kdL l c = some b → ∀ C, mg c = some (.ref C) → P C b
theorem kdp_nil {mg : Str → Option Value} {P : Addr → Bool → Prop} : KdP mg P [] := fun c b h => by cases h
theorem kdp_cons {mg : Str → Option Value} {P : Addr → Bool → Prop} {x : Str} {b : Bool} {C : Addr} {l : List (Str × Bool)} (m : mg x = some (.ref C)) (h : P C b) (r : KdP mg P l) : KdP mg P ((x, b) :: l) := fun c b' e C' m' => by
  have e1 : (List.lookup c ((x, b) :: l)) = some b' := e
  rw [List.lookup_cons] at e1
  by_cases hx : (c == x) = true
  · rw [hx] at e1
    have e3 : some b = some b' := e1
    cases e3
    have e2 := eq_of_beq hx
    rw [e2, m] at m'
    cases m'
    exact h
  · have hx : (c == x) = false := by simpa using hx
    rw [hx] at e1
    exact r c b' e1 C' m'
/-- the class that an except clause names, and which it takes -/
def TryT (K : PySem.W.Frag) (mg : Str → Option Value) (x : Str) (l : List (Str × Bool)) : Prop := ∃ C0, mg x = some (.ref C0) ∧ KdP mg (fun C b => PySem.W.exmOne K (.ref C) (.ref C0) = some b) l
def ZF' : WX := fun _ _ _ _ => False
section
variable {X : Cx} {Z : WX} {x n : Str} {i : Nat} {body suite : List Stmt} {b₀ : Stmt} {np pos pos' : Pos} {f g : SS} {l : List (Str × Bool)}
theorem fs_tryAs (hN : X.N.Nodup) (hk : TryT X.K X.mg x l) (tk : Takes X Z)
    (hb : ∀ (Z' : WX) (pn : List (Addr × Obj)) (xe : Value → Shared → Prop), Takes (X.tr pn xe) Z' → PassesOwn (model X.prog X.w) X.A X.env xe → FSs (X.tr pn xe) Z' body f)
    (hsu : ∀ (a : Addr) (pn : List (Addr × Obj)), FSs (X.suite a pn) ZF' (b₀ :: suite) g) (hg : Gl X x := by rfl) (hdb : (x == ("__debug__" : Str)) = false := by decide)
    (hex : X.ex = [] := by rfl) (hs : X.stack = X.env :: X.outer := by rfl) (hf : X.env.frame = some X.env.locals := by rfl) (hi : X.N[i]? = some n := by rfl) (hln : X.env.kindOf n = some .local := by rfl) :
    FS X Z (.Try body [.ExceptHandler (some (.Name x np)) (some n) (b₀ :: suite) pos'] [] [] pos) (sTryAs (kdL l) i f g) := by
  obtain ⟨C0, m0, hk⟩ := hk
  exact PSimp (ps_try_asT (c := .ref C0) hex hs hf hN hi hln ⟨hg, hdb, .inl m0⟩ tk (tb := fun W => upS X.K X.mg W f) (ts := upS X.K X.mg ZF' g) (fun W pn xe h po => hb W pn xe h po) hsu) fun D' σ H ⟨W, sl, cs, S, L, q⟩ => by
    refine ⟨W, sl, cs, S, L, ?_⟩
    unfold sTryAs at q
    cases e : f sl cs with
    | ok p cs1 =>
      obtain ⟨c1, sl1⟩ := p
      rw [e] at q
      intro W' σ' H' st R' L'
      cases c1 with
      | nx => exact q W' σ' H' st R' L'
      | bk => exact q W' σ' H' st R' L'
      | ct => exact q W' σ' H' st R' L'
      | rt d => exact q W' σ' H' st R' L'
      | ex xx =>
        rintro cls d ⟨C, hm, rfl, hr⟩
        have q : FinS X.K X.mg Z W H (match kdL l xx.cls with
          | some true => match g (sl1.set i (some (.cel cs1.length))) (cs1 ++ [some (.err xx.cls xx.fs)]) with
            | .ok (.ex _, _) _ => .bad
            | .ok (c, sl2) cs2 => .ok (c, sl2.set i none) cs2
            | _ => .bad
          | some false => .ok (.ex xx, sl1) cs1
          | none => .bad) D' := q
        cases hkd : kdL l xx.cls with
        | none => rw [hkd] at q; exact q.elim
        | some b =>
          rw [hkd] at q
          refine ⟨b, hk _ _ hkd C hm, fun hb' => ?_, fun hb' => ?_⟩
          · subst hb'
            refine ⟨C, rfl, fun a na => ?_⟩
            have R2 : RS X.K X.mg (W'.alloc a) (cs1 ++ [some (.err xx.cls xx.fs)]) (upd H' a (ErrO a C d)) := R'.alloc na (.err hm (hr.mono Le.alloc))
            have st2 : Step W' H' (W'.alloc a) (upd H' a (ErrO a C d)) := Step.alloc na
            have ha : (W'.alloc a).ad[cs1.length]? = some a := by
              show (W'.ad ++ [a])[cs1.length]? = some a
              rw [← R'.len, List.getElem?_append_right (Nat.le_refl _), Nat.sub_self]; rfl
            refine ⟨W'.alloc a, _, _, R2, (L'.mono Le.alloc).set (.cel ha), ?_⟩
            have q : FinS X.K X.mg Z W H (match g (sl1.set i (some (.cel cs1.length))) (cs1 ++ [some (.err xx.cls xx.fs)]) with
              | .ok (.ex _, _) _ => .bad
              | .ok (c, sl2) cs2 => .ok (c, sl2.set i none) cs2
              | _ => .bad) D' := q
            cases e2 : g (sl1.set i (some (.cel cs1.length))) (cs1 ++ [some (.err xx.cls xx.fs)]) with
            | ok p2 cs2 =>
              obtain ⟨c2, sl2⟩ := p2
              rw [e2] at q
              intro W3 σ3 H3 st3 R3 L3
              cases c2 with
              | ex y => exact q.elim
              | nx => exact q W3 (σ3.set i none) H3 ((st.trans st2).trans st3) R3 (L3.del i)
              | bk => exact q W3 (σ3.set i none) H3 ((st.trans st2).trans st3) R3 (L3.del i)
              | ct => exact q W3 (σ3.set i none) H3 ((st.trans st2).trans st3) R3 (L3.del i)
              | rt d => exact q W3 (σ3.set i none) H3 ((st.trans st2).trans st3) R3 (L3.del i)
            | exc y cs2 => rw [e2] at q; exact q.elim
            | bad => rw [e2] at q; exact q.elim
          · subst hb'
            exact q W' σ' H' st R' L' _ d ⟨C, hm, rfl, hr⟩
    | exc x cs1 => rw [e] at q; exact q.elim
    | bad => rw [e] at q; exact q.elim
end
/-! ### isinstance of a caught exception -/
/-- the dict of a caught exception -/
def DOk (H : Hp) (d : Option Addr) : Prop := match d with
  | none => True
  | some dd => ∃ vs, H dd = some (.xd vs)
def rIsX (K : PySem.W.Frag) : List V → Hp → VK → Prop := fun xs H Q => ∃ (a C : Addr) (d : Option Addr) (c : V) (cv : Value) (b : Bool), xs = [.ref a, c] ∧ H a = some (ErrO a C d) ∧ DOk H d ∧ ExcC K C ∧ (∀ u, RelV c u → u = cv) ∧ PySem.W.kitOne K (.ref C) cv = some b ∧ Q (.bl b) H
def rIsXT (K : PySem.W.Frag) : List V → Hp → VK → Prop := fun xs H Q => ∃ (a C : Addr) (d : Option Addr) (tp : Addr) (vs : List V) (cvs : List Value) (b : Bool), xs = [.ref a, .ref tp] ∧ H a = some (ErrO a C d) ∧ DOk H d ∧ ExcC K C ∧ H tp = some (.tup vs) ∧ (∀ us, Vals vs us → us = cvs) ∧ PySem.W.kitAny K (.ref C) cvs = some b ∧ Q (.bl b) H
section
variable {s : Shared} {X : Cx} {pins : List (Addr × Obj)} {σ : L2.St} {H : Hp} {a C : Addr} {d : Option Addr}
theorem inst_of (I : Inv X pins σ H s) (h : H a = some (ErrO a C d)) (hd : DOk H d) : ∃ oe od, PySem.W.InstAt s.heap a oe C od := by
  obtain ⟨⟨oe, vs, e, z, dd⟩, _, _⟩ := (show ObjOk X.prog X.w H s.heap a (.ext _) from I.hok a _ h)
  cases d with
  | none => exact ⟨oe, none, e, z.1, by unfold PySem.W.notCls; rw [dd] <;> rfl, by rw [z.2]; trivial⟩
  | some b =>
    obtain ⟨fs, hb⟩ := hd
    obtain ⟨mA, ⟨od, _, _, ho, _⟩, _⟩ := (show ObjOk X.prog X.w H s.heap b (.xd fs) from I.hok b _ hb)
    exact ⟨oe, some od, e, z.1, by unfold PySem.W.notCls; rw [dd] <;> rfl, by rw [z.2]; exact ho⟩
theorem kitx_of' {x D : Addr} {ox : Obj} {od : Option Obj} (c : ExcC X.K D) : PySem.W.KitX X.K (.ref x) (.ref D) (fun h => PySem.W.InstAt h x ox D od) :=
  PySem.W.kitx_exc (by obtain ⟨cd, hc, _⟩ := PySem.W.any_some c.hd; rw [hc]; rfl) c.hg c.hk c.hs c.ha c.hn c.ht c.hm
theorem call_isX : CallR X (.builtin "isinstance") (rIsX X.K) := by
  (intro pins s σ H xs us Q I r h)
  obtain ⟨a, C, d, c, cv, b, rfl, h1, h2, h3, h4, h5, q⟩ := h
  (obtain ⟨u1, u2, rfl, r1, r2⟩ := vals2 r)
  (cases (show u1 = Value.ref a from r1))
  have e := h4 _ r2
  subst e
  obtain ⟨oe, od, J⟩ := inst_of I h1 h2
  exact PySem.W.kia_one (kitx_of' h3) I.kIn J h5 (fun z => nomatch z) fun tk => ⟨.bl b, H, I.tok tk, rfl, q⟩
theorem call_isXT : CallR X (.builtin "isinstance") (rIsXT X.K) := by
  (intro pins s σ H xs us Q I r h)
  obtain ⟨a, C, d, tp, vs, cvs, b, rfl, h1, h2, h3, hT, h4, h5, q⟩ := h
  (obtain ⟨u1, u2, rfl, r1, r2⟩ := vals2 r)
  (cases (show u1 = Value.ref a from r1))
  (cases (show u2 = Value.ref tp from r2))
  obtain ⟨oe, od, J⟩ := inst_of I h1 h2
  obtain ⟨_, its, rv, o, g1, g2, n, g3⟩ := (show ObjOk X.prog X.w H s.heap tp (.tup vs) from I.hok tp _ hT)
  have e3 := h4 _ rv
  subst e3
  obtain ⟨oc, od', dt, sl⟩ := o
  simp only at g2 g3
  subst g2 g3
  exact PySem.W.kia_tup (kitx_of' h3) I.kIn J g1 h5 (fun z => nomatch z) fun tk => ⟨.bl b, H, I.tok tk, rfl, q⟩
end
/-- a class by its name: an own one, a built-in one -/
def ClsN (mg : Str → Option Value) (x : Str) (v : V) (cv : Value) : Prop := (mg x = some cv ∧ ∃ C, v = .ref C ∧ cv = .ref C) ∨ (mg x = none ∧ bootBuiltins x = some cv ∧ x ≠ "__name__" ∧ ∃ n, v = .ty n ∧ cv = .type n)
theorem ClsN.own {mg : Str → Option Value} {x : Str} {C : Addr} (h : mg x = some (.ref C)) : ClsN mg x (.ref C) (.ref C) := .inl ⟨h, C, rfl, rfl⟩
theorem ClsN.blt {mg : Str → Option Value} {x : Str} {n : String} (h : mg x = none) (hv : bootBuiltins x = some (.type n)) (hn : x ≠ "__name__") : ClsN mg x (.ty n) (.type n) := .inr ⟨h, hv, hn, n, rfl, rfl⟩
inductive ClsNs (mg : Str → Option Value) : List Str → List V → List Value → Prop
  | nil : ClsNs mg [] [] []
  | cons {x : Str} {v : V} {cv : Value} {xs : List Str} {vs : List V} {cvs : List Value} (h : ClsN mg x v cv) (r : ClsNs mg xs vs cvs) : ClsNs mg (x :: xs) (v :: vs) (cv :: cvs)
theorem ClsN.rel {mg : Str → Option Value} {x : Str} {v : V} {cv : Value} (h : ClsN mg x v cv) : RelV v cv ∧ ∀ u, RelV v u → u = cv := by
  rcases h with ⟨_, C, rfl, rfl⟩ | ⟨_, _, _, n, rfl, rfl⟩
  · exact ⟨rfl, fun u h => h⟩
  · exact ⟨rfl, fun u h => h⟩
theorem ClsNs.rel {mg : Str → Option Value} : ∀ {xs : List Str} {vs : List V} {cvs : List Value}, ClsNs mg xs vs cvs → ∀ us, Vals vs us → us = cvs
  | _, _, _, .nil, _, .nil => rfl
  | _, _, _, .cons h r, _, .cons r1 r2 => by rw [h.rel.2 _ r1, ClsNs.rel r _ r2]
inductive NmE (X : Cx) : List Expr → List Str → Prop
  | nil : NmE X [] []
  | cons {x : Str} {p : Pos} {es : List Expr} {xs : List Str} (hg : Gl X x) (hdb : (x == ("__debug__" : Str)) = false) (hs : starEach (.Name x p :: es) X.env = (false, eval (.Name x p) X.env) :: starEach es X.env) (r : NmE X es xs) : NmE X (.Name x p :: es) (x :: xs)
theorem ClsN.pe {X : Cx} {x : Str} {v : V} {cv : Value} {p : Pos} (h : ClsN X.mg x v cv) (hg : Gl X x) (hdb : (x == ("__debug__" : Str)) = false) : PE X (.Name x p) (tC v) := by
  have r := h.rel.1
  rcases h with ⟨hm, _⟩ | ⟨hm, hv, hn, _⟩
  · exact pe_glob hg hm r hdb
  · exact pe_bltn hg hm hv r hn hdb
theorem ClsNs.pa {X : Cx} : ∀ {es : List Expr} {xs : List Str} {vs : List V} {cvs : List Value}, NmE X es xs → ClsNs X.mg xs vs cvs → PA X es (fun σ H Q => Q vs H)
  | _, _, _, _, .nil, .nil => PAimp pa_nil fun _ _ _ q => q
  | _, _, _, _, .cons hg hdb hs r, .cons h t => PAimp (pa_cons (h.pe hg hdb) (ClsNs.pa r t) hs) fun _ _ _ q => q
theorem ClsNs.len {mg : Str → Option Value} : ∀ {xs : List Str} {vs : List V} {cvs : List Value}, ClsNs mg xs vs cvs → vs.length = xs.length
  | _, _, _, .nil => rfl
  | _, _, _, .cons _ r => congrArg (· + 1) (ClsNs.len r)
def IsT (K : PySem.W.Frag) (mg : Str → Option Value) (x : Str) (l : List (Str × Bool)) : Prop := ∃ v cv, ClsN mg x v cv ∧ KdP mg (fun C b => ExcC K C ∧ PySem.W.kitOne K (.ref C) cv = some b) l
def IsTs (K : PySem.W.Frag) (mg : Str → Option Value) (xs : List Str) (l : List (Str × Bool)) : Prop := ∃ vs cvs, ClsNs mg xs vs cvs ∧ KdP mg (fun C b => ExcC K C ∧ PySem.W.kitAny K (.ref C) cvs = some b) l
def eIsE (kd : Str → Option Bool) (f : SE) : SE := fun sl cs => (f sl cs).bind fun d cs1 => match d with
  | .cel i => match cs1[i]? with
    | some (some (.err c _)) => match kd c with
      | some b => .ok (.bl b) cs1
      | none => .bad
    | _ => .bad
  | _ => .bad
section
variable {X : Cx} {Z : WX} {a : Expr} {pos p p2 p3 : Pos} {x : Str} {l : List (Str × Bool)} {f : SE} {k3 : Nat} {es : List Expr} {xs : List Str}
theorem err_of {K : PySem.W.Frag} {mg : Str → Option Value} {W : Wd} {cs : Cs} {H : Hp} {v : V} {i : Nat} {c : Str} {fs : List (Str × D)} (S : RS K mg W cs H) (r : Rep K W v (.cel i)) (e : cs[i]? = some (some (.err c fs))) :
    ∃ a C d, v = .ref a ∧ H a = some (ErrO a C d) ∧ mg c = some (.ref C) ∧ DOk H d ∧ ErrF K W d fs := by
  cases r with
  | @cel a _ h1 =>
    obtain ⟨a', o, p1, p2, p3, p4⟩ := S.cell i _ e
    rw [h1] at p1; cases p1
    cases p4 with
    | @err C d _ _ hc r =>
      refine ⟨a, C, d, rfl, p2, hc, ?_, r⟩
      cases d with
      | none => trivial
      | some dd =>
        obtain ⟨vs, z, _⟩ := r
        exact ⟨vs, S.fz _ _ z⟩
theorem fe_isE (hm : X.mg "isinstance" = none) (hk : IsT X.K X.mg x l) (ha : FE X Z a f) (hg : Gl X "isinstance" := by rfl) (hgx : Gl X x := by rfl) (hdx : (x == ("__debug__" : Str)) = false := by decide)
    (hs2 : starEach [.Name x p2] X.env = (false, eval (.Name x p2) X.env) :: starEach [] X.env := by rfl)
    (he : starEach [a, .Name x p2] X.env = (false, eval a X.env) :: starEach [.Name x p2] X.env := by rfl) (hpl : (backTo pos (starEach [.Name x p2] X.env)).any (·.1) = false := by rfl) :
    FE X Z (.Call (.Name "isinstance" p) [a, .Name x p2] [] pos) (eIsE (kdL l) f) := by
  obtain ⟨v, cv, hc, hk⟩ := hk
  exact PEimp (pe_callB call_isX hg hm (by decide +kernel) (pa_cons ha (pa_cons (hc.pe hgx hdx) pa_nil hs2) he) (he := he) (hpl := hpl)) fun σ H Q ⟨W, sl, cs, S, L, q⟩ => by
    refine up_bind (R1 := Rep X.K) S L q fun W1 d cs1 y H1 st1 S1 L1 r1 q1 => ?_
    split at q1
    · rename_i i
      split at q1
      · rename_i c fs hi
        split at q1
        · rename_i b hb
          obtain ⟨a, C, d, rfl, h1, h2, h3, _⟩ := err_of S1 r1 hi
          obtain ⟨h4, h5⟩ := hk _ _ hb C h2
          exact ⟨a, C, d, v, cv, b, rfl, h1, h3, h4, hc.rel.2, h5, q1.ret S1 (.bl _)⟩
        · exact q1.elim
      · exact q1.elim
    · exact q1.elim
theorem fe_isEs (hm : X.mg "isinstance" = none) (hk : IsTs X.K X.mg xs l) (ne : NmE X es xs) (ha : FE X Z a f) (hl : xs.length ≤ 1000 := by decide) (hg : Gl X "isinstance" := by rfl)
    (hs2 : starEach [.Tuple es k3 p3] X.env = (false, eval (.Tuple es k3 p3) X.env) :: starEach [] X.env := by rfl)
    (he : starEach [a, .Tuple es k3 p3] X.env = (false, eval a X.env) :: starEach [.Tuple es k3 p3] X.env := by rfl) (hpl : (backTo pos (starEach [.Tuple es k3 p3] X.env)).any (·.1) = false := by rfl) :
    FE X Z (.Call (.Name "isinstance" p) [a, .Tuple es k3 p3] [] pos) (eIsE (kdL l) f) := by
  obtain ⟨vs, cvs, hc, hk⟩ := hk
  exact PEimp (pe_callB call_isXT hg hm (by decide +kernel) (pa_cons ha (pa_cons (pe_tup (ClsNs.pa ne hc)) pa_nil hs2) he) (he := he) (hpl := hpl)) fun σ H Q ⟨W, sl, cs, S, L, q⟩ => by
    refine up_bind (R1 := Rep X.K) S L q fun W1 d cs1 y H1 st1 S1 L1 r1 q1 => ?_
    refine ⟨le_line (by rw [hc.len]; exact Nat.le_trans hl (by decide)), fun tp hp => ?_⟩
    split at q1
    · rename_i i
      split at q1
      · rename_i c fs hi
        split at q1
        · rename_i b hb
          obtain ⟨a, C, d, rfl, h1, h2, h3, _⟩ := err_of S1 r1 hi
          obtain ⟨h4, h5⟩ := hk _ _ hb C h2
          have ne1 : a ≠ tp := ne_of_none h1 hp
          refine ⟨a, C, d, tp, vs, cvs, b, rfl, by rw [upd_ne ne1]; exact h1, ?_, h4, upd_same, hc.rel, h5, q1 (W1.froze tp (.tup vs)) _ _ (Step.froze S1 hp) (S1.froze hp) (.bl _)⟩
          cases d with
          | none => trivial
          | some dd =>
            obtain ⟨fs', z⟩ := h3
            exact ⟨fs', by rw [upd_ne (ne_of_none z hp)]; exact z⟩
        · exact q1.elim
      · exact q1.elim
    · exact q1.elim
end
/-! ### running words that may raise -/
/-- what holds behind r, told or raised -/
@[irreducible] def SatX {α : Type} (r : Res α) (Q : α → Cs → Prop) (QX : Exc → Cs → Prop) : Prop := match r with
  | .ok a cs => Q a cs
  | .exc x cs => QX x cs
  | .bad => False
section
variable {α : Type} {a : α} {x : Exc} {cs : Cs} {Q : α → Cs → Prop} {QX : Exc → Cs → Prop}
theorem satX_ok : SatX (.ok a cs) Q QX = Q a cs := by unfold SatX; rfl
theorem satX_exc : SatX (.exc x cs : Res α) Q QX = QX x cs := by unfold SatX; rfl
theorem satX_bad : SatX (.bad : Res α) Q QX = False := by unfold SatX; rfl
theorem satX_of {r : Res α} (h : Sat r Q) : SatX r Q QX := by
  obtain ⟨a, cs, e, h⟩ := h.ex
  rw [e, satX_ok]; exact h
theorem satX_ofX {r : Res α} (e : r = .exc x cs) (h : QX x cs) : SatX r Q QX := by rw [e, satX_exc]; exact h
theorem SatX.exN {r : Res α} (h : SatX r (fun _ _ => False) QX) : ∃ x cs, r = .exc x cs ∧ QX x cs := by
  cases r with
  | ok a cs => rw [satX_ok] at h; exact h.elim
  | exc x cs => rw [satX_exc] at h; exact ⟨x, cs, rfl, h⟩
  | bad => rw [satX_bad] at h; exact h.elim
theorem SatX.sat {r : Res α} (h : SatX r Q fun _ _ => False) : Sat r Q := by
  cases r with
  | ok a cs => rw [satX_ok] at h; exact satI h
  | exc x cs => rw [satX_exc] at h; exact h.elim
  | bad => rw [satX_bad] at h; exact h.elim
theorem SatX.mono {r : Res α} {Q' : α → Cs → Prop} {QX' : Exc → Cs → Prop} (h : SatX r Q QX) (m : ∀ a cs, Q a cs → Q' a cs) (mx : ∀ x cs, QX x cs → QX' x cs) : SatX r Q' QX' := by
  cases r with
  | ok a cs => rw [satX_ok] at h ⊢; exact m _ _ h
  | exc x cs => rw [satX_exc] at h ⊢; exact mx _ _ h
  | bad => rw [satX_bad] at h; exact h.elim
end
section
variable {sl : Sl} {cs : Cs} {Q : D → Cs → Prop} {QX : Exc → Cs → Prop} {Qs : Ctl × Sl → Cs → Prop}
theorem satX_callX {n : Nat} {g : Fn} {ds : List D} (hn : ds.length = n) (h : SatX (g ds cs) Q QX) : SatX (callX n g ds cs) Q QX := by unfold callX; rw [if_pos hn]; exact h
theorem satX_eN {g : List D → Cs → Res D} {f : SA} (h : Sat (f sl cs) fun ds cs1 => SatX (g ds cs1) Q QX) : SatX (eN g f sl cs) Q QX := by
  obtain ⟨ds, cs1, e, h⟩ := h.ex
  unfold eN
  rw [e]
  exact h
theorem x_sExpr {f : SE} (h : SatX (f sl cs) (fun _ cs1 => Qs (.nx, sl) cs1) fun x cs1 => Qs (.ex x, sl) cs1) : Sat (sExpr f sl cs) Qs := by
  unfold sExpr
  cases e : f sl cs with
  | ok a cs => rw [e, satX_ok] at h; exact satI h
  | exc x cs => rw [e, satX_exc] at h; exact satI h
  | bad => rw [e, satX_bad] at h; exact h.elim
theorem x_sRet {f : SE} (h : SatX (f sl cs) (fun d cs1 => Qs (.rt d, sl) cs1) fun x cs1 => Qs (.ex x, sl) cs1) : Sat (sRet f sl cs) Qs := by
  unfold sRet
  cases e : f sl cs with
  | ok a cs => rw [e, satX_ok] at h; exact satI h
  | exc x cs => rw [e, satX_exc] at h; exact satI h
  | bad => rw [e, satX_bad] at h; exact h.elim
theorem x_sSet {f : SE} {i : Nat} (h : SatX (f sl cs) (fun d cs1 => Qs (.nx, sl.set i (some d)) cs1) fun x cs1 => Qs (.ex x, sl) cs1) : Sat (sSet i f sl cs) Qs := by
  unfold sSet
  cases e : f sl cs with
  | ok a cs => rw [e, satX_ok] at h; exact satI h
  | exc x cs => rw [e, satX_exc] at h; exact satI h
  | bad => rw [e, satX_bad] at h; exact h.elim
theorem s_sRz {c : Str} : Sat (sRz c sl cs) Qs = Qs (.ex ⟨c, []⟩, sl) cs := by unfold Sat; rfl
theorem nxt_ex {k : SS} {x : Exc} : Nxt k Qs (.ex x, sl) cs = Qs (.ex x, sl) cs := rfl
open Classical in
theorem satX_def {np n : Nat} {b : SS} {ds : List D} (hn : ds.length = np)
    (h : Sat (b (ds.map some ++ List.replicate (n - np) none) cs) fun p cs' => match p with
      | (.rt d, _) => TrOk cs d cs' ∧ Q d (cs'.take cs.length)
      | (.nx, _) => TrOk cs .non cs' ∧ Q .non (cs'.take cs.length)
      | (.ex x, _) => (TrOk cs .non cs' ∧ belF cs.length x.fs = true) ∧ QX x (cs'.take cs.length)
      | _ => False) : SatX (semDef np n b ds cs) Q QX := by
  rw [semDef_eq]
  unfold semDef0
  rw [if_pos hn]
  obtain ⟨p, cs', e, h⟩ := h.ex
  rw [e]
  obtain ⟨c, sl⟩ := p
  cases c with
  | nx => show SatX (if TrOk cs .non cs' then _ else _) Q QX; rw [if_pos h.1, satX_ok]; exact h.2
  | rt d => show SatX (if TrOk cs d cs' then _ else _) Q QX; rw [if_pos h.1, satX_ok]; exact h.2
  | ex x => show SatX (if TrOk cs .non cs' ∧ belF cs.length x.fs = true then _ else _) Q QX; rw [if_pos h.1, satX_exc]; exact h.2
  | bk => exact h.elim
  | ct => exact h.elim
/-- behind the suite -/
def Sut (i : Nat) (Qs : Ctl × Sl → Cs → Prop) : Ctl × Sl → Cs → Prop := fun p cs => match p with
  | (.ex _, _) => False
  | (c, sl) => Qs (c, sl.set i none) cs
/-- behind a try's body -/
def Tryd (kd : Str → Option Bool) (i : Nat) (g : SS) (Qs : Ctl × Sl → Cs → Prop) : Ctl × Sl → Cs → Prop := fun p cs => match p with
  | (.ex x, sl) => match kd x.cls with
    | some true => Sat (g (sl.set i (some (.cel cs.length))) (cs ++ [some (.err x.cls x.fs)])) (Sut i Qs)
    | some false => Qs (.ex x, sl) cs
    | none => False
  | p => Qs p cs
theorem w_sTry {kd : Str → Option Bool} {i : Nat} {f g : SS} (h : Sat (f sl cs) (Tryd kd i g Qs)) : Sat (sTryAs kd i f g sl cs) Qs := by
  unfold sTryAs
  obtain ⟨p, cs1, e, h⟩ := h.ex
  rw [e]
  obtain ⟨c, sl1⟩ := p
  cases c with
  | nx => exact satI h
  | bk => exact satI h
  | ct => exact satI h
  | rt d => exact satI h
  | ex x =>
    have h : match kd x.cls with
      | some true => Sat (g (sl1.set i (some (.cel cs1.length))) (cs1 ++ [some (.err x.cls x.fs)])) (Sut i Qs)
      | some false => Qs (.ex x, sl1) cs1
      | none => False := h
    show Sat (match kd x.cls with
      | some true => match g (sl1.set i (some (.cel cs1.length))) (cs1 ++ [some (.err x.cls x.fs)]) with
        | .ok (.ex _, _) _ => .bad
        | .ok (c, sl2) cs2 => .ok (c, sl2.set i none) cs2
        | _ => .bad
      | some false => .ok (.ex x, sl1) cs1
      | none => .bad) Qs
    cases hk : kd x.cls with
    | none => rw [hk] at h; exact h.elim
    | some b =>
      rw [hk] at h
      cases b with
      | false => exact satI h
      | true =>
        have h : Sat (g (sl1.set i (some (.cel cs1.length))) (cs1 ++ [some (.err x.cls x.fs)])) (Sut i Qs) := h
        obtain ⟨p2, cs2, e2, h⟩ := h.ex
        obtain ⟨c2, sl2⟩ := p2
        show Sat (match g (sl1.set i (some (.cel cs1.length))) (cs1 ++ [some (.err x.cls x.fs)]) with
          | .ok (.ex _, _) _ => .bad
          | .ok (c, sl2) cs2 => .ok (c, sl2.set i none) cs2
          | _ => .bad) Qs
        rw [e2]
        cases c2 with
        | ex y => exact h.elim
        | nx => exact satI h
        | bk => exact satI h
        | ct => exact satI h
        | rt d => exact satI h
theorem tryd_nx {kd : Str → Option Bool} {i : Nat} {g : SS} : Tryd kd i g Qs (.nx, sl) cs = Qs (.nx, sl) cs := rfl
theorem tryd_rt {kd : Str → Option Bool} {i : Nat} {g : SS} {d : D} : Tryd kd i g Qs (.rt d, sl) cs = Qs (.rt d, sl) cs := rfl
theorem tryd_ex {kd : Str → Option Bool} {i : Nat} {g : SS} {x : Exc} (hk : kd x.cls = some true) (h : Sat (g (sl.set i (some (.cel cs.length))) (cs ++ [some (.err x.cls x.fs)])) (Sut i Qs)) : Tryd kd i g Qs (.ex x, sl) cs := by
  show match kd x.cls with
    | some true => Sat (g (sl.set i (some (.cel cs.length))) (cs ++ [some (.err x.cls x.fs)])) (Sut i Qs)
    | some false => Qs (.ex x, sl) cs
    | none => False
  rw [hk]
  exact h
theorem sut_nx {i : Nat} : Sut i Qs (.nx, sl) cs = Qs (.nx, sl.set i none) cs := rfl
theorem sut_rt {i : Nat} {d : D} : Sut i Qs (.rt d, sl) cs = Qs (.rt d, sl.set i none) cs := rfl
theorem s_eIsE {kd : Str → Option Bool} {f : SE} : Sat (eIsE kd f sl cs) Q = Sat (f sl cs) fun d cs1 => match d with
    | .cel i => match cs1[i]? with
      | some (some (.err c _)) => match kd c with
        | some b => Q (.bl b) cs1
        | none => False
      | _ => False
    | _ => False := by
  unfold eIsE
  rw [sat_bind]
  congr 1
  funext d cs1
  cases d with
  | cel i =>
    show Sat (match cs1[i]? with
      | some (some (.err c _)) => match kd c with
        | some b => .ok (.bl b) cs1
        | none => .bad
      | _ => .bad) Q = (match cs1[i]? with
      | some (some (.err c _)) => match kd c with
        | some b => Q (.bl b) cs1
        | none => False
      | _ => False)
    cases cs1[i]? with
    | none => exact sat_bad _
    | some o =>
      cases o with
      | none => exact sat_bad _
      | some c =>
        cases c with
        | err c fs =>
          show Sat (match kd c with
            | some b => .ok (.bl b) cs1
            | none => .bad) Q = (match kd c with
            | some b => Q (.bl b) cs1
            | none => False)
          cases kd c with
          | none => exact sat_bad _
          | some b => exact sat_ok _ _ _
        | _ => exact sat_bad _
  | _ => exact sat_bad _
end
end LF

set_option Elab.async false
set_option maxRecDepth 100000
namespace GF
/-! ### two numbers side by side in one -/
def cmb (p : Nat × Nat) : Nat := 2 ^ 64 * p.1 + p.2
theorem cmb_bit {p : Nat × Nat} (h : p.2 < 2 ^ 64) (j : Nat) : (cmb p).testBit j = if j < 64 then p.2.testBit j else p.1.testBit (j - 64) := Nat.testBit_two_pow_mul_add _ h j
theorem cmb_xor {p q : Nat × Nat} (hp : p.2 < 2 ^ 64) (hq : q.2 < 2 ^ 64) : cmb (p.1 ^^^ q.1, p.2 ^^^ q.2) = cmb p ^^^ cmb q := by
  refine Nat.eq_of_testBit_eq fun j => ?_
  rw [cmb_bit (p := (p.1 ^^^ q.1, p.2 ^^^ q.2)) (Nat.xor_lt_two_pow hp hq), xb (cmb p), cmb_bit hp, cmb_bit hq]
  split <;> exact xb ..
theorem cmb_sp {l : List (Nat × Nat)} (hl : ∀ p ∈ l, p.2 < 2 ^ 64) {z : Nat} : Sp (l.map cmb) z ↔ ∃ x y, Sp2 l x y ∧ y < 2 ^ 64 ∧ z = cmb (x, y) := by
  constructor
  · intro h
    refine Sp.all (P := fun z => ∃ x y, Sp2 l x y ∧ y < 2 ^ 64 ∧ z = cmb (x, y)) ⟨0, 0, Sp2.zero l, Nat.two_pow_pos 64, rfl⟩ ?_ (fun p hp => ?_) h
    · rintro a b ⟨x, y, h1, h2, rfl⟩ ⟨u, v, h3, h4, rfl⟩
      exact ⟨_, _, h1.add h3, Nat.xor_lt_two_pow h2 h4, (cmb_xor h2 h4).symm⟩
    · obtain ⟨q, hq, rfl⟩ := List.mem_map.mp hp
      exact ⟨q.1, q.2, .mem hq, hl q hq, rfl⟩
  · rintro ⟨x, y, h1, h2, rfl⟩
    have : y < 2 ^ 64 ∧ Sp (l.map cmb) (cmb (x, y)) := by
      refine Sp2.all (P := fun x y => y < 2 ^ 64 ∧ Sp (l.map cmb) (cmb (x, y))) ⟨Nat.two_pow_pos 64, .zero _⟩ ?_ (fun p hp => ⟨hl p hp, .mem (List.mem_map.mpr ⟨p, hp, rfl⟩)⟩) h1
      rintro x y u v ⟨a1, a2⟩ ⟨b1, b2⟩
      exact ⟨Nat.xor_lt_two_pow a1 b1, by rw [cmb_xor (p := (x, y)) (q := (u, v)) a1 b1]; exact a2.add b2⟩
    exact this.2
theorem torn_iff {l : List (Nat × Nat)} {f : List Nat} (hl : ∀ p ∈ l, p.2 < 2 ^ 64) (B : Basis (l.map cmb) f) : (f.filter fun x => decide (x < 2 ^ 64)) = [] ↔ One l := by
  constructor
  · intro h y hy
    apply Classical.byContradiction
    intro hz
    have ly : y < 2 ^ 64 := sp_lt (fun b hb => by
      (obtain ⟨q, hq, rfl⟩ := List.mem_map.mp hb)
      exact hl q hq) hy.snd
    have s : Sp f y := (B.same _).mp ((cmb_sp hl).mpr ⟨0, y, hy, ly, by unfold cmb; omega⟩)
    obtain ⟨c, hc, e⟩ := dec_top B.dec s hz
    have c1 : c < 2 ^ 64 := by
      have q : y.log2 < 64 := (Nat.log2_lt hz).mpr ly
      refine (Nat.log2_lt (B.red.pos c hc)).mp ?_
      omega
    have : c ∈ f.filter fun x => decide (x < 2 ^ 64) := List.mem_filter.mpr ⟨hc, decide_eq_true c1⟩
    rw [h] at this; cases this
  · intro h
    refine List.filter_eq_nil_iff.mpr fun x hx hlt => ?_
    have hlt := of_decide_eq_true hlt
    obtain ⟨u, v, h1, h2, e⟩ := (cmb_sp hl).mp ((B.same x).mpr (.mem hx))
    unfold cmb at e
    dsimp only at e
    have hu : u = 0 := by omega
    subst hu
    have := h v h1
    exact B.red.pos x hx (by omega)
end GF
namespace LF
open PySem PySem.Spec L2 GF
/-! ### the least table -/
/-- the most bits that a number has -/
def MaxB (ps : List (Nat × Nat)) (m : Nat) : Prop := m ∈ 0 :: ps.map (fun p => lenB p.1) ∧ ∀ x ∈ 0 :: ps.map (fun p => lenB p.1), x ≤ m
theorem MaxB.unique {ps : List (Nat × Nat)} {m k : Nat} (a : MaxB ps m) (b : MaxB ps k) : m = k := Nat.le_antisymm (b.2 m a.1) (a.2 k b.1)
/-- each that is not 0 is forced -/
def Forced (ps : List (Nat × Nat)) (tb : List Nat) : Prop := ∀ (j t : Nat), tb[j]? = some t → t ≠ 0 → Sp (ps.map (·.1) ++ (List.range j).map (2 ^ ·)) (2 ^ j)
/-! ### a list so many times -/
def pMulL : P2 := fun x y cs => match x, y with
  | .lst ds, .int n => if 0 ≤ n ∧ n ≤ 1000 ∧ ds.length ≤ 1000 then .ok (.lst (List.replicate n.toNat ds).flatten) cs else .bad
  | _, _ => .bad
theorem Reps.rep {K : PySem.W.Frag} {W : Wd} {vs : List V} {ds : List D} (r : Reps K W vs ds) : ∀ n : Nat, Reps K W (List.replicate n vs).flatten (List.replicate n ds).flatten
  | 0 => .nil
  | n + 1 => by
    (rw [List.replicate_succ, List.replicate_succ, List.flatten_cons, List.flatten_cons])
    exact r.append (Reps.rep r n)
theorem rep_len {α : Type} (xs : List α) : ∀ n : Nat, (List.replicate n xs).flatten.length = n * xs.length
  | 0 => by simp
  | n + 1 => by rw [List.replicate_succ, List.flatten_cons, List.length_append, rep_len xs n, Nat.succ_mul, Nat.add_comm]
theorem ok_mulL {K : PySem.W.Frag} {mg : Str → Option Value} : Ok2 K mg rRep pMulL := by
  intro Z W cs H σ x y d e Q S r1 r2 q
  unfold pMulL at q
  split at q
  · rename_i ds n
    cases r2
    split at q
    · rename_i h
      cases r1 with
      | @lst a vs _ h1 hl r =>
        have hv : vs.length ≤ 1000 := by rw [r.length]; exact h.2.2
        have hm : n.toNat ≤ 1000 := by omega
        have hz : vs.length * n.toNat ≤ 1000000 := Nat.mul_le_mul hv hm
        refine ⟨a, n, vs, rfl, rfl, S.fzl h1, by omega, by omega, sizeLe hz, fun p hp => ?_⟩
        exact q (W.froze p (.lst (List.replicate n.toNat vs).flatten)) _ _ (Step.froze S hp) (S.froze hp) (.lst upd_same (by rw [rep_len]; exact sizeLe (by rw [Nat.mul_comm]; exact hz)) ((r.rep _).mono (Le.froze (S.dom hp))))
    · exact q.elim
  · exact q.elim
theorem fe_mulL {X : Cx} {Z : WX} {a b : Expr} {f h : SE} {pos : Pos} (ha : FE X Z a f) (hb : FE X Z b h) : FE X Z (.BinOp a .Mult b pos) (e2 pMulL f h) := fe_op op_rep ok_mulL ha hb
theorem r_mulL {cs : Cs} {ds : List D} {n : Nat} (h : n ≤ 1000 ∧ ds.length ≤ 1000) : pMulL (.lst ds) (.int (n : Int)) cs = .ok (.lst (List.replicate n ds).flatten) cs := by
  unfold pMulL
  simp only [Int.toNat_natCast]
  rw [if_pos ⟨by omega, by omega, h.2⟩]
/-! ### == of a list of pairs -/
def pyP (p : Nat × Nat) : PyData := .tuple [.int (p.1 : Int), .int (p.2 : Int)]
theorem pys_pairs : ∀ l : List (Nat × Nat), D.pys (pairsN l) = some (l.map pyP)
  | [] => by unfold pairsN; simp [D.pys]
  | p :: r => by
    have := pys_pairs r
    unfold pairsN at this ⊢
    simp [D.pys, D.py, natP, pyP, this]
theorem lay_pairs : ∀ l : List (Nat × Nat), PyData.canLayAll0 (l.map pyP) = true ∧ PyData.depthAll (l.map pyP) ≤ 1
  | [] => by simp [PyData.canLayAll0, PyData.depthAll]
  | p :: r => by
    obtain ⟨h1, h2⟩ := lay_pairs r
    simp [PyData.canLayAll0, PyData.depthAll, PyData.canLay0, PyData.depth, pyP, h1, h2]
theorem r_neNilP {cs : Cs} {k : Nat} {l : List (Nat × Nat)} (h : cs[k]? = some (some (.lst (pairsN l)))) : pNe (.cel k) (.lst []) cs = .ok (.bl (!decide (l = []))) cs := by
  unfold pNe eqD
  rw [show scalD (.cel k) (.lst []) = none from rfl]
  dsimp only
  rw [deref_cel h]
  obtain ⟨h1, h2⟩ := lay_pairs l
  have sh : SeqAt.shaped (.list (l.map pyP)) = true := by
    simp [SeqAt.shaped, PyData.canLay0, PyData.depth, h1]
    omega
  have sh0 : SeqAt.shaped (.list []) = true := by simp [SeqAt.shaped, PyData.canLay0, PyData.canLayAll0, PyData.depth, PyData.depthAll]
  simp only [deref, D.py, D.pys, pys_pairs, Option.map_some]
  rw [if_pos ⟨sh, sh0⟩]
  cases l <;> simp [PyData.eqv, PyData.eqvAll]
theorem r_eqAs0 {cs : Cs} : pEq (.tup [.tup [], .int 0]) (.tup [.tup [], .int 0]) cs = .ok (.bl true) cs := by
  unfold pEq eqD
  rw [show scalD (.tup [.tup [], .int 0]) (.tup [.tup [], .int 0]) = none from rfl]
  simp [deref, D.py, D.pys, SeqAt.shaped, PyData.canLay0, PyData.canLayAll0, PyData.depth, PyData.depthAll, PyData.eqv, PyData.eqvAll]
theorem r_eqAs1 {cs : Cs} : pEq (.tup [.non, .int 1]) (.tup [.non, .int 1]) cs = .ok (.bl true) cs := by
  unfold pEq eqD
  rw [show scalD (.tup [.non, .int 1]) (.tup [.non, .int 1]) = none from rfl]
  simp [deref, D.py, D.pys, SeqAt.shaped, PyData.canLay0, PyData.canLayAll0, PyData.depth, PyData.depthAll, PyData.eqv, PyData.eqvAll]
end LF

set_option Elab.async false
set_option maxRecDepth 100000
namespace LF
open PySem PySem.Spec L2
/-! ### dict(d): a copy; d != e of dicts that are alike -/
section
variable {X : Cx} {Z : WX} {pos p : Pos} {a b : Expr} {t : SA} {f h : SE}
def bDictC (m : Bool) (ds : List D) (cs : Cs) : Res D := match ds with
  | [x] => match dicL cs x with
    | some ks => mkD m ks cs
    | none => .bad
  | _ => .bad
theorem fe_dictC (m : Bool) (hm : X.mg "dict" = none) (ha : FA X Z [a] t) (hg : Gl X "dict" := by rfl) (he : starEach [a] X.env = (false, eval a X.env) :: starEach [] X.env := by rfl) (hpl : (backTo pos (starEach [] X.env)).any (·.1) = false := by rfl) : FE X Z (.Call (.Name "dict" p) [a] [] pos) (eN (bDictC m) t) :=
  fe_callTy (w := bDictC m) call_dictD (fun Z W cs H σ xs ds Q S r q => by
    unfold bDictC at q
    split at q
    · rename_i x
      cases r with
      | @cons v _ vs _ r1 r2 =>
        cases r2
        split at q
        · rename_i ks e
          obtain ⟨a, kvs, rfl, hr, hl, s⟩ := view_dicL S r1 e
          exact ⟨a, kvs, rfl, hr, fun p hp => fin_mkD q S s hl p hp⟩
        · exact q.elim
    · exact q.elim) hm ha hg (he := he) (hpl := hpl)
def flatD : D → Bool
  | .non => true
  | .bl _ => true
  | .int _ => true
  | .str _ => true
  | _ => false
theorem flat_rep {K : PySem.W.Frag} {W : Wd} {v u : V} {d : D} (r : Rep K W v d) (r' : Rep K W u d) (hf : flatD d = true) : v = u ∧ flatB v = true := by
  cases r with
  | non => cases r'; exact ⟨rfl, rfl⟩
  | bl b => cases r'; exact ⟨rfl, rfl⟩
  | int i => cases r'; exact ⟨rfl, rfl⟩
  | str s => cases r'; exact ⟨rfl, rfl⟩
  | _ => cases hf
theorem alike_of {K : PySem.W.Frag} {W : Wd} {ks ls : List (Key × D)} {us : List (Key × V)} (rl : RepK K W us ls) : ∀ {vs : List (Key × V)} {ks : List (Key × D)}, RepK K W vs ks → (∀ q ∈ ks, valD ls q.1 = some q.2 ∧ flatD q.2 = true) → ∀ q ∈ vs, valV us q.1 = some q.2 ∧ flatB q.2 = true
  | _, _, .nil, _ => fun q hq => by cases hq
  | _, _, @RepK.cons _ _ k v d vs ks r t, hk => fun q hq => by
    (rcases List.mem_cons.mp hq with rfl | hq)
    · obtain ⟨h1, h2⟩ := hk (k, d) (List.mem_cons_self ..)
      obtain ⟨u, h3, h4⟩ := rl.val h1
      obtain ⟨rfl, h5⟩ := flat_rep r h4 h2
      exact ⟨h3, h5⟩
    · exact alike_of (ks := ks) rl t (fun q hq => hk q (List.mem_cons_of_mem _ hq)) q hq
def rNeR : R2 := fun x y H Q => ∃ (p q : Addr) (ks ls : List (Key × V)), x = .ref p ∧ y = .ref q ∧ Rd H p (.dK ks) ∧ Rd H q (.dK ls) ∧ ks.length = ls.length ∧ (∀ e ∈ ks, valV ls e.1 = some e.2 ∧ flatB e.2 = true) ∧ Q (.bl false) H
theorem op_neR (hu : X.A.units < cLine) : OpR X (compareOp .NotEq) rNeR := by
  intro pins s σ H x y v u Q I r1 r2 ⟨p, q, ks, ls, e1, e2, hp, hq, hl, ha, k⟩
  subst e1 e2
  obtain rfl : v = .ref p := r1
  obtain rfl : u = .ref q := r2
  obtain ⟨_, n1, us, w1, m1⟩ := (show ObjOk X.prog X.w H s.heap p (.dK ks) from hp.ok I.hok)
  obtain ⟨_, n2, ws, w2, m2⟩ := (show ObjOk X.prog X.w H s.heap q (.dK ls) from hq.ok I.hok)
  have len : us.length = ws.length := (w1.length.symm.trans hl).trans w2.length
  refine PySem.W.keq_ne (r := true) (knd := mixKind X.prog X.w) n1 n2 m1 m2 hu (fun _ => ?_) (fin_bl I k (by simp [len]))
  exact hits_all w2 w1 ha
open Classical in
noncomputable def pNeK : P2 := fun x y cs => match dicL cs x, dicL cs y with
  | some ks, some ls => if ks.length = ls.length ∧ ∀ q ∈ ks, valD ls q.1 = some q.2 ∧ flatD q.2 = true then .ok (.bl false) cs else .bad
  | _, _ => .bad
theorem ok_neK {K : PySem.W.Frag} {mg : Str → Option Value} : Ok2 K mg rNeR pNeK := by
  intro Z W cs H σ x y d e Q S r1 r2 q
  unfold pNeK at q
  split at q
  · rename_i ks ls e1 e2
    split at q
    · rename_i hc
      obtain ⟨a, us, rfl, h1, _, s1⟩ := view_dicL S r1 e1
      obtain ⟨b, ws, rfl, h2, _, s2⟩ := view_dicL S r2 e2
      exact ⟨a, b, us, ws, rfl, rfl, h1, h2, by rw [s1.length, s2.length]; exact hc.1, alike_of (ks := ks) s2 s1 hc.2, q.ret S (.bl _)⟩
    · exact q.elim
  · exact q.elim
theorem ft_neK (hu : X.A.units < cLine) (ha : FE X Z a f) (hb : FE X Z b h) : FT X Z (.Compare a [.NotEq] [b] pos) (tV (e2 pNeK f h)) := ft_cmp (op_neR hu) ok_neK ha hb
theorem fe_neK (hu : X.A.units < cLine) (ha : FE X Z a f) (hb : FE X Z b h) : FE X Z (.Compare a [.NotEq] [b] pos) (e2 pNeK f h) := fe_cmp (op_neR hu) ok_neK ha hb
end
theorem r_dictC {m : Bool} {cs : Cs} {x : D} {ks : List (Key × D)} (e : dicL cs x = some ks) : bDictC m [x] cs = mkD m ks cs := by unfold bDictC; dsimp only; rw [e]
theorem valD_self {ks : List (Key × D)} (nd : (ks.map (·.1)).Nodup) : ∀ q ∈ ks, valD ks q.1 = some q.2 := by
  induction ks with
  | nil => intro q hq; cases hq
  | cons a r ih =>
    (rw [List.map_cons, List.nodup_cons] at nd)
    intro q hq
    unfold valD
    rw [List.find?_cons]
    (rcases List.mem_cons.mp hq with rfl | hq)
    · rw [decide_eq_true rfl]; rfl
    · have ne : a.1 ≠ q.1 := fun z => nd.1 (z ▸ List.mem_map_of_mem hq)
      rw [decide_eq_false ne]
      exact ih nd.2 q hq
theorem r_neK {cs : Cs} {x y : D} {ks : List (Key × D)} (e1 : dicL cs x = some ks) (e2 : dicL cs y = some ks) (nd : (ks.map (·.1)).Nodup) (hf : ∀ q ∈ ks, flatD q.2 = true) : pNeK x y cs = .ok (.bl false) cs := by
  unfold pNeK
  rw [e1, e2]
  dsimp only
  rw [if_pos ⟨rfl, fun q hq => ⟨valD_self nd q hq, hf q hq⟩⟩]
end LF

set_option Elab.async false
set_option maxRecDepth 100000
namespace LF
open PySem PySem.Spec L2 GF
/-! ### weights by names, things by places, the greedy choice -/
section
variable {cs : Cs}
theorem r_setDS {n : Nat} {ks : List (Key × D)} {s : Str} {y : D} (e : cs[n]? = some (some (.dic ks))) (hl : ks.length < sizeLine) : pSetD (.cel n) (.str s) y cs = .ok () (cs.set n (some (.dic (putD ks (.inr s) y)))) := by
  unfold pSetD; rw [celD_cel e]; show (if ks.length < sizeLine then Res.ok () _ else .bad) = _; rw [if_pos hl]
theorem beh_at {more : Cs} {k t : Nat} {x : Option Cell} (e : k = cs.length + t) (h : more[t]? = some x) : (cs ++ more)[k]? = some x := by
  rw [e, List.getElem?_append_right (by omega), show cs.length + t - cs.length = t by omega]; exact h
theorem beh_set {more : Cs} {k t : Nat} {x : Option Cell} (e : k = cs.length + t) : (cs ++ more).set k x = cs ++ more.set t x := by
  rw [e, List.set_append_right _ _ (by omega), show cs.length + t - cs.length = t by omega]
theorem set_same {α : Type} {l : List α} {t : Nat} {x : α} (h : l[t]? = some x) : l.set t x = l := by
  obtain ⟨hl, rfl⟩ := List.getElem?_eq_some_iff.mp h
  exact List.set_getElem_self hl
theorem erase_perm {α : Type} : ∀ {l : List α} {i : Nat} (h : i < l.length), (l[i] :: l.eraseIdx i).Perm l
  | a :: r, 0, _ => List.Perm.refl _
  | a :: r, i + 1, h => by
    have ih := erase_perm (l := r) (i := i) (by simpa using h)
    rw [List.eraseIdx_cons_succ, List.getElem_cons_succ]
    exact (List.Perm.swap a _ _).trans (ih.cons a)
theorem rgL_nat (n : Nat) : rgL 0 (n : Int) = (List.range n).map fun k => D.int ((k : Nat) : Int) := by
  unfold rgL
  rw [show ((n : Int) - 0).toNat = n by omega]
  exact List.map_congr_left fun k _ => by rw [Int.zero_add]
/-- weights by names -/
def wD (ws : List (List Nat × Int)) : List (Key × D) := ws.map fun p => (.inr (strL p.1), .int p.2)
def wt (ws : List (List Nat × Int)) (l : List Nat) : Int := ((ws.find? fun p => decide (p.1 = l)).map (·.2)).getD 0
theorem wD_val {l : List Nat} : ∀ {ws : List (List Nat × Int)}, l ∈ ws.map (·.1) → valD (wD ws) (.inr (strL l)) = some (.int (wt ws l))
  | [], h => by cases h
  | p :: r, h => by
    unfold valD wD wt
    rw [List.map_cons, List.find?_cons, List.find?_cons]
    by_cases e : p.1 = l
    · subst e
      have e1 : decide ((Sum.inr (strL p.1) : Key) = .inr (strL p.1)) = true := decide_eq_true rfl
      dsimp only
      rw [e1, decide_eq_true rfl]; rfl
    · have ne : (Sum.inr (strL p.1) : Key) ≠ .inr (strL l) := fun z => e (by
        injection z with z
        exact strL_inj z)
      dsimp only
      rw [decide_eq_false ne, decide_eq_false e]
      rw [List.map_cons] at h
      rcases List.mem_cons.mp h with h | h
      · exact absurd h.symm e
      · exact wD_val h
theorem wD_put {ws : List (List Nat × Int)} {l : List Nat} {z : Int} (h : l ∉ ws.map (·.1)) : putD (wD ws) (.inr (strL l)) (.int z) = wD (ws ++ [(l, z)]) := by
  unfold putD
  rw [if_neg]
  · unfold wD; rw [List.map_append]; rfl
  · intro q
    obtain ⟨kv, m, e⟩ := List.any_eq_true.mp q
    have e := of_decide_eq_true e
    unfold wD at m
    obtain ⟨p, hp, rfl⟩ := List.mem_map.mp m
    injection e with e
    exact h (strL_inj e ▸ List.mem_map_of_mem hp)
theorem wD_bel (n : Nat) : ∀ ws : List (List Nat × Int), D.belk n (wD ws) = true
  | [] => rfl
  | p :: r => by
    have ih := wD_bel n r
    unfold wD at ih ⊢
    rw [List.map_cons, D.belk, ih]
    simp [D.bel]
theorem wD_nodup {ws : List (List Nat × Int)} (h : (ws.map (·.1)).Nodup) : ((wD ws).map (·.1)).Nodup := by
  have e : (wD ws).map (·.1) = (ws.map (·.1)).map fun a => (Sum.inr (strL a) : Key) := by unfold wD; rw [List.map_map, List.map_map]; rfl
  rw [e]
  refine List.pairwise_map.mpr (h.imp fun ne z => ne ?_)
  injection z with z
  exact strL_inj z
theorem wD_flat (ws : List (List Nat × Int)) : ∀ q ∈ wD ws, flatD q.2 = true := fun q hq => by
  unfold wD at hq
  obtain ⟨p, _, rfl⟩ := List.mem_map.mp hq
  rfl
theorem wD_length (ws : List (List Nat × Int)) : (wD ws).length = ws.length := by unfold wD; rw [List.length_map]
/-- the name, the number at a place -/
def nmA (hp : List (List Nat × Nat)) (k : Nat) : List Nat := (hp[k]?.getD ([], 0)).1
def nuA (hp : List (List Nat × Nat)) (k : Nat) : Nat := (hp[k]?.getD ([], 0)).2
theorem atI_natL {ds : List D} {d : D} {k : Nat} (h : ds[k]? = some d) : atI ds (k : Int) = some d := by
  have hl := (List.getElem?_eq_some_iff.mp h).1
  rw [atI_of (by omega) (by simpa using hl)]
  simp only [Int.toNat_natCast]
  rw [← (List.getElem?_eq_some_iff.mp h).2]
theorem r_thing {hp : List (List Nat × Nat)} {k : Nat} (h : k < hp.length) : pItem (.tup (heapD hp)) (.int (k : Int)) cs = .ok (.tup [.str (strL (nmA hp k)), .int (nuA hp k : Int)]) cs := by
  refine r_itemT (atI_natL ?_)
  rw [heapD_get]
  unfold nmA nuA
  rw [List.getElem?_eq_getElem h]; rfl
theorem r_it0 {a b : D} : pItem (.tup [a, b]) (.int 0) cs = .ok a cs := rfl
theorem r_it1 {a b : D} : pItem (.tup [a, b]) (.int 1) cs = .ok b cs := rfl
theorem nmA_map (hp : List (List Nat × Nat)) : (List.range hp.length).map (nmA hp) = hp.map (·.1) := by
  refine List.ext_getElem (by simp) fun i hi hj => ?_
  simp only [List.getElem_map, List.getElem_range]
  unfold nmA
  rw [List.getElem?_eq_getElem (by simpa using hi)]; rfl
theorem nuA_map (hp : List (List Nat × Nat)) : (List.range hp.length).map (nuA hp) = hp.map (·.2) := by
  refine List.ext_getElem (by simp) fun i hi hj => ?_
  simp only [List.getElem_map, List.getElem_range]
  unfold nuA
  rw [List.getElem?_eq_getElem (by simpa using hi)]; rfl
theorem nmA_mem {hp : List (List Nat × Nat)} {k : Nat} (h : k < hp.length) : nmA hp k ∈ hp.map (·.1) := by
  rw [← nmA_map]; exact List.mem_map_of_mem (List.mem_range.mpr h)
theorem nuA_mem {hp : List (List Nat × Nat)} {k : Nat} (h : k < hp.length) : ∃ p ∈ hp, p.2 = nuA hp k := by
  have : nuA hp k ∈ hp.map (·.2) := by rw [← nuA_map]; exact List.mem_map_of_mem (List.mem_range.mpr h)
  exact List.mem_map.mp this
/-- the places, the heaviest first, of alike ones the first -/
def keyP (hp : List (List Nat × Nat)) (ws : List (List Nat × Int)) : List (Int × Int) := (List.range hp.length).map fun k => (- wt ws (nmA hp k), (k : Int))
def ordN (hp : List (List Nat × Nat)) (ws : List (List Nat × Int)) : List Nat := (srtP (keyP hp ws)).map fun p => p.2.toNat
theorem keyP_mem {hp : List (List Nat × Nat)} {ws : List (List Nat × Int)} {p : Int × Int} (h : p ∈ srtP (keyP hp ws)) : ∃ k : Nat, k < hp.length ∧ p.2 = (k : Int) := by
  have := (srtP_perm _).mem_iff.mp h
  unfold keyP at this
  obtain ⟨k, hk, rfl⟩ := List.mem_map.mp this
  exact ⟨k, List.mem_range.mp hk, rfl⟩
theorem ordN_perm (hp : List (List Nat × Nat)) (ws : List (List Nat × Int)) : (ordN hp ws).Perm (List.range hp.length) := by
  unfold ordN
  refine ((srtP_perm _).map _).trans ?_
  unfold keyP
  rw [List.map_map]
  have : (List.range hp.length).map ((fun p : Int × Int => p.2.toNat) ∘ fun k : Nat => (- wt ws (nmA hp k), (k : Int))) = List.range hp.length := by
    conv => rhs; rw [← List.map_id (List.range hp.length)]
    exact List.map_congr_left fun k _ => rfl
  rw [this]
theorem ordN_lt {hp : List (List Nat × Nat)} {ws : List (List Nat × Int)} {k : Nat} (h : k ∈ ordN hp ws) : k < hp.length := List.mem_range.mp ((ordN_perm hp ws).mem_iff.mp h)
theorem ordN_length (hp : List (List Nat × Nat)) (ws : List (List Nat × Int)) : (ordN hp ws).length = hp.length := by rw [(ordN_perm hp ws).length_eq, List.length_range]
theorem r_sortT {b c : Bool} (ps : List (Int × Int)) : bSort b c [.lst (ps.map tupP)] cs = mkL c ((if b then (srtP ps).reverse else srtP ps).map tupP) cs := by
  cases ps with
  | nil =>
    have e : srtP [] = [] := by simp [srtP]
    have e2 : srt [] = [] := by simp [srt]
    rw [show bSort b c [.lst (([] : List (Int × Int)).map tupP)] cs = mkL c ((if b then (srt []).reverse else srt []).map D.int) cs from rfl, e, e2]
    cases b <;> rfl
  | cons p r => exact r_sortP rfl (allPr_map (p :: r))
/-- numbers, rising -/
noncomputable def srtn (ns : List Nat) : List Nat := Classical.choose (srt_nats ns)
theorem srtn_int (ns : List Nat) : srt (ns.map fun (n : Nat) => (n : Int)) = (srtn ns).map (fun (n : Nat) => (n : Int)) := (Classical.choose_spec (srt_nats ns)).1
theorem srtn_perm (ns : List Nat) : (srtn ns).Perm ns := (Classical.choose_spec (srt_nats ns)).2.1
theorem srtn_le (ns : List Nat) : (srtn ns).Pairwise (· ≤ ·) := (Classical.choose_spec (srt_nats ns)).2.2
theorem r_sortC {c : Bool} {j : Nat} {ns : List Nat} (h : cs[j]? = some (some (.lst (natsD ns)))) : bSort false c [.cel j] cs = mkL c (natsD (srtn ns)) cs := by
  have h1 : intL cs (.cel j) = some (ns.map fun (n : Nat) => (n : Int)) := by
    have := intL_nats (cs := cs) ns
    unfold intL at this ⊢
    rw [show seqL cs (.cel j) = some (natsD ns) from seqL_cel h]
    exact this
  rw [r_sort h1, srtn_int, natsD_ints]
/-- what is due for chosen places: their names, in the heap's order, and the weight -/
noncomputable def dueP (hp : List (List Nat × Nat)) (ws : List (List Nat × Int)) (c : List Nat) : D :=
  .tup [.tup (namesD ((srtn c).map (nmA hp))), .int (((srtn c).map (nmA hp)).map (wt ws)).sum]
/-- the chosen places -/
noncomputable def grd (v : Nat → Nat) (l : List Nat) (m : Int) : List Nat := (fgo v [] l).take m.toNat
theorem grd_step (v : Nat → Nat) (l : List Nat) (m : Int) (k : Nat) :
    (¬ Sp ((grd v l m).map v) (v k) ∧ ((grd v l m).length : Int) < m → grd v (l ++ [k]) m = grd v l m ++ [k]) ∧ (¬ (¬ Sp ((grd v l m).map v) (v k) ∧ ((grd v l m).length : Int) < m) → grd v (l ++ [k]) m = grd v l m) := by
  obtain ⟨s1, s2⟩ := fgo_snoc v k l []
  rw [List.nil_append] at s1 s2
  have sp : ∀ l : List Nat, Same ((fgo v [] l).map v) (l.map v) := by
    intro l
    have h : ∀ r : List Nat, Same ((fgo v [] r.reverse).map v) (r.reverse.map v) := by
      intro r
      induction r with
      | nil => exact Same.refl _
      | cons x r ih =>
        obtain ⟨t1, t2⟩ := fgo_snoc v x r.reverse []
        rw [List.nil_append] at t1 t2
        rw [List.reverse_cons]
        by_cases q : Sp (r.reverse.map v) (v x)
        · rw [t1 q, List.map_append]
          refine ih.trans (same_of (fun a ha => .mem (List.mem_append_left _ ha)) fun a ha => ?_)
          rcases List.mem_append.mp ha with z | z
          · exact .mem z
          · rw [show a = v x by simpa using z]; exact q
        · rw [t2 q, List.map_append, List.map_append]
          exact same_snoc ih (by rw [Nat.xor_self]; exact .zero _)
    have := h l.reverse
    rwa [List.reverse_reverse] at this
  have full : (fgo v [] l).length < m.toNat → grd v l m = fgo v [] l := fun h => List.take_of_length_le (by omega)
  have len : (grd v l m).length = min m.toNat (fgo v [] l).length := by unfold grd; rw [List.length_take]
  constructor
  · rintro ⟨h1, h2⟩
    have hl : (fgo v [] l).length < m.toNat := by omega
    rw [full hl] at h1 ⊢
    have h3 : ¬ Sp (l.map v) (v k) := fun z => h1 ((sp l _).mpr z)
    unfold grd
    rw [s2 h3]
    exact List.take_of_length_le (by rw [List.length_append, List.length_singleton]; omega)
  · intro h
    unfold grd
    by_cases h3 : Sp (l.map v) (v k)
    · rw [s1 h3]
    · rw [s2 h3]
      by_cases hl : (fgo v [] l).length < m.toNat
      · exfalso
        refine h ⟨fun z => h3 ?_, ?_⟩
        · rw [full hl] at z; exact (sp l _).mp z
        · rw [len]; omega
      · exact List.take_append_of_le_length (by omega)
theorem grd_len (v : Nat → Nat) (l : List Nat) (m : Int) {bs : List Nat} (B : Basis (l.map v) bs) : (grd v l m).length = min m.toNat bs.length := by
  unfold grd
  rw [List.length_take, fgo_rank' v l B]
theorem grd_sub (v : Nat → Nat) (l : List Nat) (m : Int) {k : Nat} (h : k ∈ grd v l m) : k ∈ l := fgo_subset v l [] k (List.mem_of_mem_take h)
theorem grd_le (v : Nat → Nat) (l : List Nat) (m : Int) : (grd v l m).length ≤ l.length := by
  have h : ∀ r : List Nat, (fgo v [] r.reverse).length ≤ r.reverse.length := by
    intro r
    induction r with
    | nil => exact Nat.le_refl _
    | cons x r ih =>
      obtain ⟨t1, t2⟩ := fgo_snoc v x r.reverse []
      rw [List.nil_append] at t1 t2
      rw [List.reverse_cons]
      by_cases q : Sp (r.reverse.map v) (v x)
      · rw [t1 q, List.length_append]; omega
      · rw [t2 q, List.length_append, List.length_append]; exact Nat.add_le_add_right ih _
  have := h l.reverse
  rw [List.reverse_reverse] at this
  unfold grd
  rw [List.length_take]; omega
/-- the rank is the same in any order -/
theorem rank_perm {hp : List (List Nat × Nat)} {ws : List (List Nat × Int)} {bs : List Nat} (B : Basis (hp.map (·.2)) bs) : Basis ((ordN hp ws).map (nuA hp)) bs := by
  refine ⟨B.red, B.fall, Same.trans (same_mem fun a => ?_) B.same⟩
  rw [← nuA_map]
  exact ((ordN_perm hp ws).map _).mem_iff
theorem namesD_mapE {α : Type} (f : α → List Nat) (l : List α) : l.map (fun x => D.str (strL (f x))) = namesD (l.map f) := by unfold namesD; rw [List.map_map]; rfl
theorem intsD_mapE {α : Type} (f : α → Int) (l : List α) : l.map (fun x => D.int (f x)) = intsD (l.map f) := by unfold intsD; rw [List.map_map]; rfl
theorem dueP_bel (n : Nat) (hp : List (List Nat × Nat)) (ws : List (List Nat × Int)) (c : List Nat) : (dueP hp ws c).bel n = true := by
  unfold dueP
  simp [D.bel, D.bels, bels_names]
end
/-- rows with unlike highest bits that span what was chosen: as many as the rank -/
theorem tops_rank {ns bs rs : List Nat} (B : Basis ns bs) (h0 : ∀ b ∈ rs, b ≠ 0) (ap : rs.Pairwise fun a b => a.log2 ≠ b.log2) (s : Same ns rs) : rs.length = bs.length := by
  obtain ⟨g, p, f⟩ := falling rs
  have Dg := dec_sort h0 ap p f
  rw [← p.length_eq]
  exact dec_same_len Dg B.dec ((same_mem fun a => p.mem_iff).trans (s.symm.trans B.same))
theorem SatX.toSat {α : Type} {r : Res α} {Q : α → Cs → Prop} {QX : Exc → Cs → Prop} (h : SatX r Q QX) (n : ∀ x cs, ¬ QX x cs) : Sat r Q := by
  cases r with
  | ok a cs => rw [satX_ok] at h; rw [sat_ok]; exact h
  | exc x cs => rw [satX_exc] at h; exact (n _ _ h).elim
  | bad => rw [satX_bad] at h; exact h.elim
end LF

set_option Elab.async false
set_option maxRecDepth 100000
namespace LF
open PySem PySem.Spec L2 GF
/-! ### papers: what is not chosen as a sum of chosen ones -/
section
variable {α : Type}
theorem fgo_app (v : α → Nat) : ∀ (a b : List α) (seen : List Nat), fgo v seen (a ++ b) = fgo v seen a ++ fgo v (seen ++ a.map v) b
  | [], b, seen => by rw [List.map_nil, List.append_nil]; rfl
  | x :: r, b, seen => by
    have ih := fgo_app v r b (seen ++ [v x])
    rw [List.append_assoc] at ih
    rw [List.cons_append]
    by_cases q : Sp seen (v x)
    · rw [fgo_in q, fgo_in q, ih]; rfl
    · rw [fgo_out q, fgo_out q, ih]; rfl
theorem fgo_sublist (v : α → Nat) : ∀ (l : List α) (seen : List Nat), (fgo v seen l).Sublist l
  | [], _ => List.Sublist.slnil
  | x :: r, seen => by
    have ih := fgo_sublist v r (seen ++ [v x])
    by_cases q : Sp seen (v x)
    · rw [fgo_in q]; exact ih.cons x
    · rw [fgo_out q]; exact ih.cons_cons x
theorem fgo_span (v : α → Nat) (l : List α) : GF.Same ((fgo v [] l).map v) (l.map v) := by
  have h : ∀ r : List α, GF.Same ((fgo v [] r.reverse).map v) (r.reverse.map v) := by
    intro r
    induction r with
    | nil => exact GF.Same.refl _
    | cons x r ih =>
      obtain ⟨t1, t2⟩ := fgo_snoc v x r.reverse []
      rw [List.nil_append] at t1 t2
      rw [List.reverse_cons]
      by_cases q : Sp (r.reverse.map v) (v x)
      · rw [t1 q, List.map_append]
        refine ih.trans (same_of (fun a ha => .mem (List.mem_append_left _ ha)) fun a ha => ?_)
        rcases List.mem_append.mp ha with z | z
        · exact .mem z
        · rw [show a = v x by simpa using z]; exact q
      · rw [t2 q, List.map_append, List.map_append]
        exact same_snoc ih (by rw [Nat.xor_self]; exact .zero _)
  have := h l.reverse
  rwa [List.reverse_reverse] at this
theorem pk_one1 (n t k : Nat) : pk n [t] k = if n.testBit k then t else 0 := by simp [pk]
/-- a sum of some of them, by a mask of those -/
theorem sp_mask (v : α → Nat) (P : α → Bool) : ∀ (r : List α) {x : Nat}, Sp ((r.reverse.filter P).map v) x → ∃ m, pk m (r.reverse.map v) 0 = x ∧ ∀ j, m.testBit j = true → ∃ a, r.reverse[j]? = some a ∧ P a = true
  | [], x, h => by
    have h : Sp [] x := h
    exact ⟨0, by rw [sp_nil.mp h]; rfl, fun j hj => by rw [Nat.zero_testBit] at hj; cases hj⟩
  | a :: r, x, h => by
    rw [List.reverse_cons] at h ⊢
    rw [List.filter_append, List.map_append] at h
    have up : ∀ {m : Nat}, (∀ j, m.testBit j = true → ∃ b, r.reverse[j]? = some b ∧ P b = true) → ∀ j, m.testBit j = true → ∃ b, (r.reverse ++ [a])[j]? = some b ∧ P b = true := fun {m} hm j hj => by
      obtain ⟨b, e, hb⟩ := hm j hj
      exact ⟨b, by rw [List.getElem?_append_left (List.getElem?_eq_some_iff.mp e).1]; exact e, hb⟩
    have off : ∀ {m : Nat}, (∀ j, m.testBit j = true → ∃ b, r.reverse[j]? = some b ∧ P b = true) → m.testBit r.reverse.length = false := fun {m} hm => by
      cases q : m.testBit r.reverse.length
      · rfl
      · obtain ⟨b, e, _⟩ := hm _ q
        have := (List.getElem?_eq_some_iff.mp e).1
        omega
    have eqm : ∀ m, pk m ((r.reverse ++ [a]).map v) 0 = pk m (r.reverse.map v) 0 ^^^ if m.testBit r.reverse.length then v a else 0 := fun m => by
      rw [List.map_append, pk_at, List.length_map, Nat.zero_add, List.map_cons, List.map_nil, pk_one1]
    by_cases hp : P a = true
    · rw [List.filter_cons, if_pos hp] at h
      rcases sp_snoc.mp h with h | h
      · obtain ⟨m, e, hm⟩ := sp_mask v P r h
        exact ⟨m, by rw [eqm, off hm, if_neg (by decide), Nat.xor_zero]; exact e, up hm⟩
      · obtain ⟨m, e, hm⟩ := sp_mask v P r h
        have o := off hm
        refine ⟨m ^^^ 2 ^ r.reverse.length, ?_, fun j hj => ?_⟩
        · have b1 : (m ^^^ 2 ^ r.reverse.length).testBit r.reverse.length = true := by rw [xb, o, Nat.testBit_two_pow]; simp
          have z : pk (2 ^ r.reverse.length) (r.reverse.map v) 0 = 0 := by
            have : ∀ (l : List Nat) (k i : Nat), k + l.length ≤ i → pk (2 ^ i) l k = 0 := by
              intro l
              induction l with
              | nil => intro k i _; rfl
              | cons t l ih =>
                intro k i hi
                rw [List.length_cons] at hi
                rw [pk, ih (k + 1) i (by omega), Nat.testBit_two_pow, decide_eq_false (by omega), if_neg (by decide), Nat.xor_zero]
            exact this _ _ _ (by rw [List.length_map]; omega)
          rw [eqm, b1, if_pos rfl, pk_lin, z, Nat.xor_zero, e, xself]
        · rw [xb] at hj
          by_cases q : j = r.reverse.length
          · exact ⟨a, by rw [q, List.getElem?_append_right (Nat.le_refl _), Nat.sub_self]; rfl, hp⟩
          · have : (2 ^ r.reverse.length).testBit j = false := by rw [Nat.testBit_two_pow]; exact decide_eq_false (fun z => q z.symm)
            rw [this] at hj
            exact up hm j (by simpa using hj)
    · rw [List.filter_cons, if_neg hp] at h
      have h : Sp ((r.reverse.filter P).map v) x := by simpa using h
      obtain ⟨m, e, hm⟩ := sp_mask v P r h
      exact ⟨m, by rw [eqm, off hm, if_neg (by decide), Nat.xor_zero]; exact e, up hm⟩
theorem sp_mask' (v : α → Nat) (P : α → Bool) (l : List α) {x : Nat} (h : Sp ((l.filter P).map v) x) : ∃ m, pk m (l.map v) 0 = x ∧ ∀ j, m.testBit j = true → ∃ a, l[j]? = some a ∧ P a = true := by
  have := sp_mask v P l.reverse (x := x)
  rw [List.reverse_reverse] at this
  exact this h
/-- the places of a mask's bits -/
def plcs (m many : Nat) : List Nat := (List.range many).filter fun i => m.testBit i
theorem plcs_succ (m k : Nat) : plcs m (k + 1) = plcs m k ++ if m.testBit k then [k] else [] := by
  unfold plcs
  rw [List.range_succ, List.filter_append]
  cases h : m.testBit k <;> simp [h]
theorem plcs_lt {m many i : Nat} (h : i ∈ plcs m many) : i < many := List.mem_range.mp (List.mem_filter.mp h).1
theorem plcs_length (m many : Nat) : (plcs m many).length ≤ many := by
  unfold plcs
  have := List.length_filter_le (fun i => m.testBit i) (List.range many)
  rwa [List.length_range] at this
theorem plcs_pick {β : Type} (f : Option α → β) (m : Nat) : ∀ r : List α, (plcs m r.reverse.length).map (fun j => f r.reverse[j]?) = (pickF (fun i => m.testBit i) 0 r.reverse).map fun a => f (some a)
  | [] => rfl
  | a :: r => by
    have ih := plcs_pick f m r
    rw [List.reverse_cons, List.length_append, List.length_singleton, plcs_succ, List.map_append, pickF_snoc, List.map_append, Nat.zero_add, ← ih]
    congr 1
    · exact List.map_congr_left fun j hj => by rw [List.getElem?_append_left (plcs_lt hj)]
    · cases m.testBit r.reverse.length
      · rfl
      · simp
theorem plcs_pick' {β : Type} (f : Option α → β) (m : Nat) (l : List α) : (plcs m l.length).map (fun j => f l[j]?) = (pickF (fun i => m.testBit i) 0 l).map fun a => f (some a) := by
  have := plcs_pick f m l.reverse
  rwa [List.reverse_reverse] at this
theorem pickF_map {β : Type} (h : α → β) (f : Nat → Bool) : ∀ (l : List α) (k : Nat), pickF f k (l.map h) = (pickF f k l).map h
  | [], _ => rfl
  | a :: r, k => by
    rw [List.map_cons, pickF, pickF, pickF_map h f r (k + 1)]
    split <;> rfl
/-- the sum of the picked ones -/
def xsum (v : α → Nat) (l : List α) : Nat := l.foldl (fun t a => t ^^^ v a) 0
theorem xsum_snoc (v : α → Nat) (l : List α) (a : α) : xsum v (l ++ [a]) = xsum v l ^^^ v a := by unfold xsum; rw [List.foldl_append]; rfl
theorem xsum_pick (v : α → Nat) (m : Nat) : ∀ r : List α, xsum v (pickF (fun i => m.testBit i) 0 r.reverse) = pk m (r.reverse.map v) 0
  | [] => rfl
  | a :: r => by
    have ih := xsum_pick v m r
    rw [List.reverse_cons, pickF_snoc, List.map_append, pk_at, List.length_map, Nat.zero_add, List.map_cons, List.map_nil, pk_one1]
    cases m.testBit r.reverse.length
    · rw [if_neg (by decide), if_neg (by decide), List.append_nil, Nat.xor_zero, ih]
    · rw [if_pos rfl, if_pos rfl, xsum_snoc, ih]
theorem xsum_pick' (v : α → Nat) (m : Nat) (l : List α) : xsum v (pickF (fun i => m.testBit i) 0 l) = pk m (l.map v) 0 := by
  have := xsum_pick v m l.reverse
  rwa [List.reverse_reverse] at this
end
/-- the thing at a place -/
def thA (hp : List (List Nat × Nat)) (k : Nat) : List Nat × Nat := hp[k]?.getD ([], 0)
theorem thA_map (hp : List (List Nat × Nat)) : (List.range hp.length).map (thA hp) = hp := by
  refine List.ext_getElem (by simp) fun i hi hj => ?_
  simp only [List.getElem_map, List.getElem_range]
  unfold thA
  rw [List.getElem?_eq_getElem hj]; rfl
section
variable {hp : List (List Nat × Nat)} {ws : List (List Nat × Int)} {g : List Nat}
theorem nmA_inj (nd : (hp.map (·.1)).Nodup) {j k : Nat} (hj : j < hp.length) (hk : k < hp.length) (e : nmA hp j = nmA hp k) : j = k := by
  refine (List.getElem?_inj (l := hp.map (·.1)) (by rw [List.length_map]; exact hj) nd).mp ?_
  unfold nmA at e
  rw [List.getElem?_eq_getElem hj, List.getElem?_eq_getElem hk] at e
  rw [List.getElem?_map, List.getElem?_map, List.getElem?_eq_getElem hj, List.getElem?_eq_getElem hk]
  exact congrArg some e
theorem nm_in (nd : (hp.map (·.1)).Nodup) (hg : ∀ k ∈ g, k < hp.length) {k : Nat} (hk : k < hp.length) : decide (nmA hp k ∈ g.map (nmA hp)) = decide (k ∈ g) :=
  decide_eq_decide.mpr ⟨fun h => by
    obtain ⟨j, hj, e⟩ := List.mem_map.mp h
    rw [← nmA_inj nd (hg j hj) hk e]; exact hj, fun h => List.mem_map_of_mem h⟩
theorem range_in (hs : g.Pairwise (· < ·)) {n : Nat} (hg : ∀ k ∈ g, k < n) : (List.range n).filter (fun k => decide (k ∈ g)) = g := by
  have s1 : ((List.range n).filter fun k => decide (k ∈ g)).Pairwise (· < ·) := List.Pairwise.filter _ List.pairwise_lt_range
  refine List.Perm.eq_of_pairwise (le := fun a b : Nat => a < b) (fun a b _ _ h1 h2 => by omega) s1 hs ?_
  refine (List.perm_ext_iff_of_nodup (s1.imp fun h => Nat.ne_of_lt h) (hs.imp fun h => Nat.ne_of_lt h)).mpr fun a => ?_
  rw [List.mem_filter, List.mem_range, decide_eq_true_eq]
  exact ⟨fun h => h.2, fun h => ⟨hg a h, h⟩⟩
/-- the places that are not chosen -/
def outs (n : Nat) (g : List Nat) : List Nat := (List.range n).filter fun k => !decide (k ∈ g)
theorem things_in (nd : (hp.map (·.1)).Nodup) (hs : g.Pairwise (· < ·)) (hg : ∀ k ∈ g, k < hp.length) : hp.filter (fun p => decide (p.1 ∈ g.map (nmA hp))) = g.map (thA hp) := by
  have e : (List.range hp.length).filter ((fun p => decide (p.1 ∈ g.map (nmA hp))) ∘ thA hp) = g := by
    rw [← range_in hs hg]
    have e2 : (List.range hp.length).filter (fun k => decide (k ∈ g)) = g := range_in hs hg
    rw [e2]
    refine (List.filter_congr fun k hk => ?_).trans e2
    exact nm_in nd hg (List.mem_range.mp hk)
  conv => lhs; rw [← thA_map hp]
  rw [List.filter_map, thA_map, e]
theorem things_out (nd : (hp.map (·.1)).Nodup) (hg : ∀ k ∈ g, k < hp.length) : hp.filter (fun p => !decide (p.1 ∈ g.map (nmA hp))) = (outs hp.length g).map (thA hp) := by
  have e : (List.range hp.length).filter ((fun p => !decide (p.1 ∈ g.map (nmA hp))) ∘ thA hp) = outs hp.length g := by
    unfold outs
    refine List.filter_congr fun k hk => ?_
    show (!decide (nmA hp k ∈ g.map (nmA hp))) = _
    rw [nm_in nd hg (List.mem_range.mp hk)]
  conv => lhs; rw [← thA_map hp]
  rw [List.filter_map, thA_map, e]
/-- a full choice: free places, rising, that span all the numbers, the heaviest ones -/
structure Fll (hp : List (List Nat × Nat)) (ws : List (List Nat × Int)) (g : List Nat) : Prop where
  rise : g.Pairwise (· < ·)
  lt : ∀ k ∈ g, k < hp.length
  free : ∀ j, j < g.length → Fst (g.map (nuA hp)) j
  span : GF.Same (g.map (nuA hp)) (hp.map (·.2))
  heavy : ∀ k, k < hp.length → k ∉ g → ∃ m, pk m (g.map (nuA hp)) 0 = nuA hp k ∧ ∀ j, m.testBit j = true → ∃ a, g[j]? = some a ∧ wt ws (nmA hp k) ≤ wt ws (nmA hp a)
theorem ordN_heavy (hp : List (List Nat × Nat)) (ws : List (List Nat × Int)) : (ordN hp ws).Pairwise fun a b => wt ws (nmA hp b) ≤ wt ws (nmA hp a) := by
  unfold ordN
  rw [List.pairwise_map]
  refine (srtP_le (keyP hp ws)).imp_of_mem fun {p q} hp' hq h => ?_
  have key : ∀ p ∈ srtP (keyP hp ws), p.1 = - wt ws (nmA hp p.2.toNat) := fun p h => by
    have := (srtP_perm _).mem_iff.mp h
    unfold keyP at this
    obtain ⟨k, hk, rfl⟩ := List.mem_map.mp this
    rfl
  have h1 := key p hp'
  have h2 := key q hq
  unfold leP at h
  rw [decide_eq_true_eq] at h
  omega
theorem full_ok (hp : List (List Nat × Nat)) (ws : List (List Nat × Int)) : Fll hp ws (srtn (fgo (nuA hp) [] (ordN hp ws))) := by
  have hsub := fgo_sublist (nuA hp) (ordN hp ws) []
  have hspan := fgo_span (nuA hp) (ordN hp ws)
  have hnd : (fgo (nuA hp) [] (ordN hp ws)).Nodup := hsub.nodup ((ordN_perm hp ws).nodup_iff.mpr List.nodup_range)
  have heavy : ∀ k, k < hp.length → k ∉ fgo (nuA hp) [] (ordN hp ws) → ∃ pre post, ordN hp ws = pre ++ k :: post ∧ Sp ((fgo (nuA hp) [] pre).map (nuA hp)) (nuA hp k) := fun k hk hn => by
    obtain ⟨pre, post, e⟩ := List.append_of_mem ((ordN_perm hp ws).mem_iff.mpr (List.mem_range.mpr hk))
    refine ⟨pre, post, e, (fgo_span _ _ _).mpr (Classical.byContradiction fun q => hn ?_)⟩
    rw [e, fgo_app, List.nil_append, fgo_out q]
    exact List.mem_append_right _ List.mem_cons_self
  have hperm := srtn_perm (fgo (nuA hp) [] (ordN hp ws))
  have hle := srtn_le (fgo (nuA hp) [] (ordN hp ws))
  have sub : ∀ pre post, ordN hp ws = pre ++ post → ∀ a ∈ fgo (nuA hp) [] pre, a ∈ fgo (nuA hp) [] (ordN hp ws) := fun pre post e a ha => by
    rw [e, fgo_app]; exact List.mem_append_left _ ha
  have rk : ∀ bs, Basis ((ordN hp ws).map (nuA hp)) bs → (fgo (nuA hp) [] (ordN hp ws)).length = bs.length := fun bs B => fgo_rank' _ _ B
  have lts : ∀ k ∈ fgo (nuA hp) [] (ordN hp ws), k < hp.length := fun k hk => ordN_lt (fgo_subset _ _ _ k hk)
  generalize fgo (nuA hp) [] (ordN hp ws) = C at *
  have nds := hperm.nodup_iff.mpr hnd
  have sp1 : GF.Same ((srtn C).map (nuA hp)) (C.map (nuA hp)) := same_mem fun a => (hperm.map _).mem_iff
  generalize srtn C = g at *
  refine ⟨(hle.imp₂ fun a b => ?_) nds, fun k hk => lts k (hperm.mem_iff.mp hk), fun j hj => ?_, ?_, fun k hk hn => ?_⟩
  · exact fun h1 h2 => by omega
  · obtain ⟨bs, B, _⟩ := wy_count (g.map (nuA hp)).reverse
    rw [List.reverse_reverse] at B
    have r1 := fgo_rank' (nuA hp) g B
    have r2 := rk bs ⟨B.red, B.fall, (hspan.symm.trans sp1.symm).trans B.same⟩
    have e : fgo (nuA hp) [] g = g := (fgo_sublist _ g []).eq_of_length (by rw [r1, ← r2, hperm.length_eq])
    refine ⟨nuA hp g[j], by rw [List.getElem?_map, List.getElem?_eq_getElem hj]; rfl, fun q => ?_⟩
    have e2 : g = g.take j ++ g[j] :: g.drop (j + 1) := by rw [← List.drop_eq_getElem_cons hj, List.take_append_drop]
    have e3 := congrArg (fun l => (fgo (nuA hp) [] l).length) e2
    rw [e, fgo_app, List.nil_append, List.map_take, fgo_in q, List.length_append] at e3
    have l1 := (fgo_sublist (nuA hp) (g.take j) []).length_le
    have l2 := (fgo_sublist (nuA hp) (g.drop (j + 1)) ((g.map (nuA hp)).take j ++ [nuA hp g[j]])).length_le
    rw [List.length_take] at l1
    rw [List.length_drop] at l2
    omega
  · refine sp1.trans (hspan.trans (same_mem fun a => ?_))
    rw [← nuA_map]
    exact ((ordN_perm hp ws).map _).mem_iff
  · obtain ⟨pre, post, e, hs⟩ := heavy k hk fun z => hn (hperm.mem_iff.mpr z)
    have hs2 : Sp ((g.filter fun a => decide (a ∈ fgo (nuA hp) [] pre)).map (nuA hp)) (nuA hp k) := by
      refine Sp.sub (fun a ha => ?_) hs
      obtain ⟨b, hb, rfl⟩ := List.mem_map.mp ha
      exact .mem (List.mem_map_of_mem (List.mem_filter.mpr ⟨hperm.mem_iff.mpr (sub pre _ e b hb), decide_eq_true hb⟩))
    obtain ⟨m, h1, h2⟩ := sp_mask' _ _ _ hs2
    refine ⟨m, h1, fun j hj => ?_⟩
    obtain ⟨a, e4, h5⟩ := h2 j hj
    refine ⟨a, e4, ?_⟩
    have ha := fgo_subset _ _ _ a (of_decide_eq_true h5)
    have hw := ordN_heavy hp ws
    rw [e] at hw
    exact (List.pairwise_append.mp hw).2.2 a ha k List.mem_cons_self
/-- the one mask of chosen ones that sums to it -/
theorem Fll.mask (F : Fll hp ws g) {k m : Nat} (hk : k < hp.length) (hn : k ∉ g) (h1 : pk m (g.map (nuA hp)) 0 = nuA hp k) (h2 : ∀ j, m.testBit j = true → Fst (g.map (nuA hp)) j) : ∀ j, m.testBit j = true → ∃ a, g[j]? = some a ∧ wt ws (nmA hp k) ≤ wt ws (nmA hp a) := by
  obtain ⟨m2, e, hm⟩ := F.heavy k hk hn
  have : m = m2 := firsts_one (ns := g.map (nuA hp)) h2 (fun j hj => by
    obtain ⟨a, ea, _⟩ := hm j hj
    exact F.free j (List.getElem?_eq_some_iff.mp ea).1) (h1.trans e.symm)
  rw [this]; exact hm
/-- .. told for each place -/
noncomputable def msk (hp : List (List Nat × Nat)) (g : List Nat) (k : Nat) : Nat := Classical.epsilon fun m => pk m (g.map (nuA hp)) 0 = nuA hp k ∧ ∀ j, m.testBit j = true → Fst (g.map (nuA hp)) j
theorem Fll.has (F : Fll hp ws g) {k : Nat} (hk : k < hp.length) : Sp (g.map (nuA hp)) (nuA hp k) := by
  refine (F.span _).mpr (.mem ?_)
  rw [← nuA_map]
  exact List.mem_map_of_mem (List.mem_range.mpr hk)
theorem Fll.msk (F : Fll hp ws g) {k : Nat} (hk : k < hp.length) : pk (msk hp g k) (g.map (nuA hp)) 0 = nuA hp k ∧ ∀ j, (msk hp g k).testBit j = true → Fst (g.map (nuA hp)) j := by
  refine Classical.epsilon_spec (p := fun m => pk m (g.map (nuA hp)) 0 = nuA hp k ∧ ∀ j, m.testBit j = true → Fst (g.map (nuA hp)) j) ?_
  have h := F.has hk
  have e : (g.filter fun _ => true) = g := List.filter_eq_self.mpr fun _ _ => rfl
  rw [← e] at h
  obtain ⟨m, h1, h2⟩ := sp_mask' _ _ _ h
  exact ⟨m, h1, fun j hj => by
    obtain ⟨a, ea, _⟩ := h2 j hj
    exact F.free j (List.getElem?_eq_some_iff.mp ea).1⟩
theorem Fll.only (F : Fll hp ws g) {k m : Nat} (hk : k < hp.length) (h1 : pk m (g.map (nuA hp)) 0 = nuA hp k) (h2 : ∀ j, m.testBit j = true → Fst (g.map (nuA hp)) j) : m = LF.msk hp g k :=
  firsts_one (ns := g.map (nuA hp)) h2 (F.msk hk).2 (h1.trans (F.msk hk).1.symm)
/-- the names of a paper's row -/
noncomputable def entN (hp : List (List Nat × Nat)) (g : List Nat) (k : Nat) : List (List Nat) := nmJ (g.map (thA hp)) (msk hp g k)
theorem entN_eq (hp : List (List Nat × Nat)) (g : List Nat) (k : Nat) : entN hp g k = (pickF (fun i => (msk hp g k).testBit i) 0 g).map (nmA hp) := by
  unfold entN nmJ
  rw [pickF_map, List.map_map]; rfl
noncomputable def paperD (hp : List (List Nat × Nat)) (g : List Nat) : D := .tup ((outs hp.length g).map fun k => .tup (namesD (entN hp g k)))
theorem outs_succ (n : Nat) (g : List Nat) : outs (n + 1) g = outs n g ++ if n ∈ g then [] else [n] := by
  unfold outs
  rw [List.range_succ, List.filter_append]
  by_cases h : n ∈ g <;> simp [h]
theorem outs_mem {n k : Nat} {g : List Nat} (h : k ∈ outs n g) : k < n ∧ k ∉ g := by
  have := List.mem_filter.mp h
  exact ⟨List.mem_range.mp this.1, by simpa using this.2⟩
theorem outs_length (n : Nat) (g : List Nat) : (outs n g).length ≤ n := by
  unfold outs
  have := List.length_filter_le (fun k => !decide (k ∈ g)) (List.range n)
  rwa [List.length_range] at this
theorem ch_fst (hp : List (List Nat × Nat)) (g : List Nat) : (g.map (thA hp)).map (·.1) = g.map (nmA hp) := by rw [List.map_map]; rfl
theorem ch_snd (hp : List (List Nat × Nat)) (g : List Nat) : (g.map (thA hp)).map (·.2) = g.map (nuA hp) := by rw [List.map_map]; rfl
theorem ch_nodup (nd : (hp.map (·.1)).Nodup) (hs : g.Pairwise (· < ·)) (hg : ∀ k ∈ g, k < hp.length) : (g.map (nmA hp)).Nodup := by
  refine List.pairwise_map.mpr (hs.imp_of_mem fun {a b} ha hb h e => ?_)
  have := nmA_inj nd (hg a ha) (hg b hb) e
  omega
theorem th_lt {P : List Nat × Nat → Prop} (h : ∀ p ∈ hp, P p) (hg : ∀ k ∈ g, k < hp.length) : ∀ p ∈ g.map (thA hp), P p := fun p hp' => by
  obtain ⟨k, hk, rfl⟩ := List.mem_map.mp hp'
  unfold thA
  rw [List.getElem?_eq_getElem (hg k hk)]
  exact h _ (List.getElem_mem _)
theorem heapD_th (hp : List (List Nat × Nat)) (l : List Nat) : heapD (l.map (thA hp)) = l.map fun k => .tup [.str (strL (nmA hp k)), .int (nuA hp k : Int)] := by
  unfold heapD
  rw [List.map_map]; rfl
theorem grd_full {bs : List Nat} (B : Basis (hp.map (·.2)) bs) : grd (nuA hp) (ordN hp ws) (bs.length : Int) = fgo (nuA hp) [] (ordN hp ws) := by
  unfold grd
  exact List.take_of_length_le (by rw [fgo_rank' _ _ (rank_perm B)]; omega)
end
end LF

set_option Elab.async false
set_option maxRecDepth 100000
namespace LF
open PySem PySem.Spec L2
/-! ### o[i], p[j] = a pair -/
def sSwp (f fo fi fp fj : SE) : SS := fun sl cs => (f sl cs).at sl fun d cs1 => match d with
  | .tup [x, y] => (fo sl cs1).at sl fun o cs2 => (fi sl cs2).at sl fun i cs3 => (pSetL o i x cs3).at sl fun _ cs4 =>
      (fp sl cs4).at sl fun p cs5 => (fj sl cs5).at sl fun j cs6 => (pSetL p j y cs6).at sl fun _ cs7 => .ok (.nx, sl) cs7
  | _ => .bad
section
variable {X : Cx} {Z : WX} {pos : Pos}
theorem setL_up {K : PySem.W.Frag} {mg : Str → Option Value} {W : Wd} {sl : Sl} {cs : Cs} {σ : L2.St} {H : Hp} {o i v : D} {xo xi xv : V} {k : Unit → Cs → Res (Ctl × Sl)} {D' : Ends} {Q : Hp → Prop} (S : RS K mg W cs H) (L : RSl K W sl σ) (ro : Rep K W xo o) (ri : Rep K W xi i) (rv : Rep K W xv v)
    (q : FinS K mg Z W H ((pSetL o i v cs).at sl k) D') (go : ∀ W1 cs1 H1, Step W H W1 H1 → RS K mg W1 cs1 H1 → RSl K W1 sl σ → FinS K mg Z W1 H1 (k () cs1) D' → Q H1) : rSetL xo xi xv H Q := by
  unfold pSetL at q
  split at q
  · rename_i n m xs hc
    split at q
    · rename_i j hj
      obtain ⟨a, vs, rfl, rfl, h1, h2, h3, h4, h5⟩ := view_celL S ro hc
      cases ri
      refine ⟨a, vs, n, j, rfl, rfl, h3, by rw [h5.length]; exact hj, ?_⟩
      have q2 := FinS.at (R1 := fun _ (_ : Unit) (_ : Unit) => True) L q
      obtain ⟨W1, u, cs1, st, S1, _, q3⟩ := q2 W () _ (Step.put h1 (S.live h2 h1)) (S.put h2 h1 (.lst (by rw [List.length_set]; exact h4) (h5.set rv j))) trivial
      exact go W1 cs1 _ st S1 (L.mono st.le) q3
    · exact q.elim
  · exact q.elim
theorem fs_swp {e o i p j : Expr} {f fo fi fp fj : SE} {p1 p2 tpos spos : Pos} {kk : Nat} (he : FE X Z e f) (ho : FE X Z o fo) (hi : FE X Z i fi) (hp : FE X Z p fp) (hj : FE X Z j fj) (hc : X.calm = true := by rfl)
    (hs : swapsWithSole [.Tuple [.Subscript o i p1, .Subscript p j p2] kk tpos] e spos.line X.env = pure false := by rfl) (hw : swappedStores [.Tuple [.Subscript o i p1, .Subscript p j p2] kk tpos] e X.env = pure none := by rfl)
    (h1 : (assignEach [.Tuple [.Subscript o i p1, .Subscript p j p2] kk tpos] X.env).map (·.2) = [assign (.Tuple [.Subscript o i p1, .Subscript p j p2] kk tpos) X.env] := by rfl)
    (h2 : (assignEach [.Subscript o i p1, .Subscript p j p2] X.env).map (·.2) = assign (.Subscript o i p1) X.env :: (assignEach [.Subscript p j p2] X.env).map (·.2) := by rfl)
    (h3 : (assignEach [.Subscript p j p2] X.env).map (·.2) = assign (.Subscript p j p2) X.env :: (assignEach [] X.env).map (·.2) := by rfl)
    (hn : (assignEach [.Subscript o i p1, .Subscript p j p2] X.env).length = 2 := by rfl) (hst : (assignEach [.Subscript o i p1, .Subscript p j p2] X.env).findIdx? (·.1) = none := by rfl)
    (ha : ∀ v, assign (.Subscript o i p1) X.env v = (do
      let w1 ← holding [v] (eval o X.env)
      let w2 ← holding [v, w1] (eval i X.env)
      standAt p1
      holding [v, w1, w2] (setItem w1 w2 v)
      release [v, w1, w2] []) := by intro _; rfl)
    (hb : ∀ v, assign (.Subscript p j p2) X.env v = (do
      let w1 ← holding [v] (eval p X.env)
      let w2 ← holding [v, w1] (eval j X.env)
      standAt p2
      holding [v, w1, w2] (setItem w1 w2 v)
      release [v, w1, w2] []) := by intro _; rfl) :
    FS X Z (.Assign [.Tuple [.Subscript o i p1, .Subscript p j p2] kk tpos] e spos) (sSwp f fo fi fp fj) :=
  PSimp (ps_asg he (pg_tup hc (pgs_cons (pg_sub ho hi set_list ha) (pgs_cons (pg_sub hp hj set_list hb) pgs_nil h3) h2) hn hst) hs hw h1) fun D' σ H ⟨W, sl, cs, S, L, q⟩ =>
    up_at (R1 := Rep X.K) S L q fun W1 d cs1 v H1 st1 S1 L1 r1 q1 => by
      split at q1
      · rename_i x y
        cases r1 with
        | @tup a vs _ hz hl r =>
          cases r with | @cons vx _ _ _ rx r =>
          cases r with | @cons vy _ _ _ ry r =>
          cases r
          refine ⟨a, [vx, vy], rfl, .of (S1.fzt hz), rfl, vx, [vy], rfl, ?_⟩
          refine up_at (R1 := Rep X.K) S1 L1 q1 fun W2 o cs2 xo H2 st2 S2 L2 r2 q2 => ?_
          refine up_at (R1 := Rep X.K) S2 L2 q2 fun W3 i cs3 xi H3 st3 S3 L3 r3 q3 => ?_
          refine setL_up S3 L3 (r2.mono st3.le) r3 ((rx.mono st2.le).mono st3.le) q3 fun W4 cs4 H4 st4 S4 L4 q4 => ⟨vy, [], rfl, ?_⟩
          refine up_at (R1 := Rep X.K) S4 L4 q4 fun W5 o2 cs5 xo2 H5 st5 S5 L5 r5 q5 => ?_
          refine up_at (R1 := Rep X.K) S5 L5 q5 fun W6 i2 cs6 xi2 H6 st6 S6 L6 r6 q6 => ?_
          refine setL_up S6 L6 (r5.mono st6.le) r6 (((((ry.mono st2.le).mono st3.le).mono st4.le).mono st5.le).mono st6.le) q6 fun W7 cs7 H7 st7 S7 L7 q7 => ⟨rfl, ?_⟩
          exact q7 W7 _ _ (Step.refl _ _) S7 L7
      · exact q1.elim
end
section
variable {sl : Sl} {cs : Cs} {Qs : Ctl × Sl → Cs → Prop}
theorem w_sSwp {f fo fi fp fj : SE} (h : Sat (f sl cs) fun d cs1 => ∃ x y, d = .tup [x, y] ∧ Sat (fo sl cs1) fun o cs2 => Sat (fi sl cs2) fun i cs3 => Sat (pSetL o i x cs3) fun _ cs4 => Sat (fp sl cs4) fun p cs5 => Sat (fj sl cs5) fun j cs6 => Sat (pSetL p j y cs6) fun _ cs7 => Qs (.nx, sl) cs7) : Sat (sSwp f fo fi fp fj sl cs) Qs :=
  s_at (h.mono fun d cs1 ⟨x, y, e, h⟩ => by
    subst e
    exact s_at (h.mono fun o cs2 h => s_at (h.mono fun i cs3 h => s_at (h.mono fun _ cs4 h => s_at (h.mono fun p cs5 h => s_at (h.mono fun j cs6 h => s_at (h.mono fun _ _ h => satI h)))))))
end
end LF

set_option Elab.async false
set_option maxRecDepth 100000
namespace LF
open PySem PySem.Spec L2
/-! ### own exceptions whose __init__ keeps a field -/
/-- an own class over ValueError, by what is told of its classes above -/
def oexB (K : PySem.W.Frag) (C : Addr) : Bool := match K.lookup C with
  | some ⟨.type "type", _, .cls kd, sls⟩ => (match kd.mro, sls.toList with
    | .ref D :: bm, [_, _, _, _, some (.builtin n), _] => D == C && n == "ValueError.__new__" && !kd.hasDel && kd.hasDict && PySem.HandSPX.refsVE bm
    | _, _ => false)
  | _ => false
theorem oex_cls {K : PySem.W.Frag} {C : Addr} (q : oexB K C = true) : ∃ nm qn N bs bm sn sub ab col dd k0 k1 k2 k3 k5, K.lookup C = some (excClassObj nm qn C N bs bm true sn sub ab col dd k0 k1 k2 k3 k5 "ValueError.__new__") ∧ PySem.HandSPX.refsVE bm = true := by
  unfold oexB at q
  split at q
  · rename_i dd cd sl ho
    split at q
    · rename_i D bm k0 k1 k2 k3 n k5 hm hs
      (simp only [Bool.and_eq_true, beq_iff_eq, Bool.not_eq_true'] at q)
      obtain ⟨⟨⟨⟨rfl, rfl⟩, hdel⟩, hdi⟩, hv⟩ := q
      (obtain ⟨nm, bs, mro, ns, qn, hd, sn, sub, ab, col, del⟩ := cd)
      dsimp only at hm hdel hdi
      subst hm hdel hdi
      have hsl : sl = #[k0, k1, k2, k3, some (.builtin "ValueError.__new__"), k5] := by
        obtain ⟨l⟩ := sl
        simp only at hs
        rw [hs]
      subst hsl
      exact ⟨nm, qn, ns, bs, bm, sn, sub, ab, col, dd, k0, k1, k2, k3, k5, ho, hv⟩
    · cases q
  · cases q
/-- what an exception's __init__ is given -/
def ArgV (w : V) : Prop := ∃ s : Str, w = .str s ∧ s.length ≤ 1000000
def spIni (K : PySem.W.Frag) (f : Str) : Sp := fun vs H Q _ => ∃ (a C : Addr) (w : V), vs = [.ref a, w] ∧ OexC K C ∧ PySem.W.findIn K (.ref C) f = some none ∧ H a = some (exo a C none) ∧ ArgV w ∧ ∀ dx, H dx = none → dx ≠ a → Q .non (upd (upd H dx (exd dx [(f, w)])) a (exo a C (some dx)))
/-- an own class without __init__, of which __init__ is asked -/
structure IniB (K : PySem.W.Frag) (mg : Str → Option Value) (x : Str) : Prop where
  ex : ∃ C, mg x = some (.ref C) ∧ PySem.W.specialIn K (.ref C) "__getattribute__" = some (some (.builtin "type.__getattribute__")) ∧ PySem.W.readsIn K C (.type "type") = true ∧ PySem.W.findCls K (.ref C) (.type "type") "__init__" = some (.val (.builtin "ValueError.__init__"))
section
variable {X : Cx} {e : Expr} {es : List Expr} {ta : TA} {x : Str} {p1 p2 pos : Pos}
theorem pe_cini {pl : Sem Bool} (B : IniB X.K X.mg x) (ha : PA X (e :: es) ta) (hg : Gl X x := by rfl) (hdb : (x == ("__debug__" : Str)) = false := by decide)
    (hc : eval (.Call (.Attribute (.Name x p1) "__init__" p2) (e :: es) [] pos) X.env = (do
      let w ← eval (.Name x p1) X.env
      standAt p2.atName
      let (f, first) ← holding [w] (getMethod w "__init__" pl)
      callWith pos f first
        (backTo pos (starEach (e :: es) X.env)) (backToKw pos (keywordEach [] X.env))) := by rfl) (he : starEach (e :: es) X.env = (false, eval e X.env) :: starEach es X.env := by rfl)
    (hpl : (backTo pos (starEach es X.env)).any (·.1) = false := by rfl) :
    PE X (.Call (.Attribute (.Name x p1) "__init__" p2) (e :: es) [] pos) (tVeI X.K ta) := by
  (refine ⟨fun pins s σ H Q I h => ?_⟩)
  obtain ⟨C, hm, h1, h2, h3⟩ := B.ex
  refine PySem.W.methodCall_KW (ld_glob I hg hm ?_ hdb) hc
  refine PySem.W.method_cls I.kIn h1 (PySem.W.cls_value I.kIn h2 h3 (by decide +kernel) ?_)
  (show wpAny _ _ (callWith pos (Value.builtin "ValueError.__init__") [] (backTo pos (starEach (e :: es) X.env)) []) _ _ _)
  refine PyProof.Rows.callWith_method1 (thn (ha.run pos pins _ σ H _ (I.tok _) h) fun us s1 ⟨vs, H1, I1, r1, a, D, ws, ev, hl, T, ea, q⟩ => ?_) he hpl
  subst ev
  cases r1 with
  | @cons _ u0 _ ur ra rw' =>
    (obtain rfl : u0 = Value.ref a := ra)
    have few : ur.length ≤ sizeLine := by rw [← Paired.length rw', sizeLine_eq]; omega
    exact oinit_ok T I1 ea few fun s' J => ⟨.non, H1, J, rfl, q⟩
end
def rStrV : List V → Hp → VK → Prop := fun xs H Q => ∃ w, xs = [w] ∧ ArgV w ∧ ∀ s : Str, s.length ≤ 1000000 → Q (.str s) H
theorem call_strV {X : Cx} : CallR X (.type "str") rStrV := by
  (intro pins s σ H xs us Q I r h)
  obtain ⟨w, rfl, ⟨z, rfl, hz⟩, q⟩ := h
  exact SkE.call_str_str pins s σ H _ us Q I r ⟨z, rfl, q z hz⟩
def rAddV : R2 := fun x y H Q => ∃ i j, x = .str i ∧ y = .str j ∧ i.length + j.length ≤ sizeLine ∧ Q (.str (i ++ j)) H
/-- the two statements of such an __init__ keep it -/
theorem ini_prem {K : PySem.W.Frag} {m f : Str} {N : List Str} {vs : List V} {H : Hp} {Q : VK} {E : XK} (hN : N.length = 2) (hm : m.length ≤ 1000) (h : spIni K f vs H Q E) :
    (tSeq (tDrop (tVeI K (tCons (tVar 0) (tCons (tOp rAddV (tC (.str m)) (tCB rStrV (tCons (tVar 1) tNil))) tNil)))) (tSeq (tOst K f (tVar 0) (tVar 1)) tNext)) { nx := fun _ H' => Q .non H', rt := Q } (L2.start N vs) H := by
  obtain ⟨a, C, w, rfl, T, hno, ea, hw, q⟩ := h
  have e0 : (L2.start N [.ref a, w])[0]? = some (some (.ref a)) := rfl
  have e1 : (L2.start N [.ref a, w])[1]? = some (some w) := rfl
  refine ⟨.ref a, e0, w, e1, w, rfl, hw, fun s hs => ⟨m, s, rfl, rfl, ?_, a, C, _, rfl, by simp, T, ea, ?_⟩⟩
  · have := sizeLine_eq
    omega
  · exact ⟨w, e1, .ref a, e0, a, C, rfl, T, hno, .inl ⟨ea, fun dx n ne => q dx n ne⟩⟩
theorem spIni_len {K : PySem.W.Frag} {f x y : Str} {vs : List V} {H : Hp} {Q : VK} {E : XK} (h : spIni K f vs H Q E) : vs.length = [x, y].length := by
  obtain ⟨a, C, w, rfl, _⟩ := h
  rfl
/-! ### raising it -/
def sRzO (c f : Str) (g : SE) : SS := fun sl cs => (g sl cs).at sl fun d cs1 => match d with
  | .str s => if s.length ≤ 1000000 then .ok (.ex ⟨c, [(f, .str s)]⟩, sl) cs1 else .bad
  | _ => .bad
/-- a class with such an __init__ -/
structure ExO (P : Program) (w : World) (K : PySem.W.Frag) (mg : Str → Option Value) (base : Heap) (x f : Str) : Prop where
  ex : ∃ (C fI : Addr) (fd : FuncData) (ps : List Str), mg x = some (.ref C) ∧ OexC K C ∧ PySem.W.findIn K (.ref C) f = some none ∧ PySem.W.findIn K (.ref C) "__init__" = some (some (.ref fI)) ∧ PySem.W.typeIn K (.ref fI) = some (.type "function") ∧
    FnOk P w K mg base CX0 1 fI fd ps (spIni K f) ∧ Binds K fd ps []
section
variable {X : Cx} {Z : WX} {pos pos' p : Pos} {x f : Str} {e : Expr} {g : SE}
theorem fs_raiseO {k : Nat} (R : ExO X.prog X.w X.K X.mg X.base x f) (tk : Takes X Z) (hr : Room (k + 2) X.A) (he : FE X Z e g) (hc : X.calm = true := by rfl) (hg : Gl X x := by rfl) (hdb : (x == ("__debug__" : Str)) = false := by decide)
    (hs : starEach [e] X.env = (false, eval e X.env) :: starEach [] X.env := by rfl) (hpl : (backTo pos (starEach [] X.env)).any (·.1) = false := by rfl) :
    FS X Z (.Raise (some (.Call (.Name x p) [e] [] pos)) none pos') (sRzO x f g) := by
  obtain ⟨C, fI, fd, ps, hm, T, hno, iC, tI, F1, hb⟩ := R.ex
  refine PSimp (ps_raise hc tk (pmk_oex T iC tI F1 (hr.mono (by omega)) hb .nil pass0 hg hm (pa_cons he pa_nil hs) hdb hs hpl)) fun D' σ H ⟨W, sl, cs, S, L, q⟩ => ?_
  refine up_at (R1 := Rep X.K) S L q fun W1 d cs1 v H1 st1 S1 L1 r1 q1 => ?_
  split at q1
  · rename_i s
    split at q1
    · rename_i hz
      cases r1
      refine ⟨by simp, fun a ha => ⟨a, C, .str s, rfl, T, hno, upd_same, ⟨s, rfl, hz⟩, fun dx n ne => ?_⟩⟩
      have n1 : H1 dx = none := by rw [upd_ne ne] at n; exact n
      refine ⟨rfl, dx, [(f, .str s)], upd_same, by rw [upd_ne ne, upd_same], n1, ?_⟩
      have eH : upd (del (upd (upd (upd H1 a (exo a C none)) dx (exd dx [(f, .str s)])) a (exo a C (some dx))) a) dx (.xd [(f, .str s)]) = upd H1 dx (.xd [(f, .str s)]) := by
        funext b
        by_cases h1 : b = dx
        · rw [h1, upd_same, upd_same]
        · rw [upd_ne h1, upd_ne h1]
          by_cases h2 : b = a
          · rw [h2, del_same, ha]
          · rw [del_ne h2, upd_ne h2, upd_ne h1, upd_ne h2]
      rw [eH]
      have S2 := S1.froze (u := .xd [(f, V.str s)]) n1
      have st2 := Step.froze (u := .xd [(f, V.str s)]) S1 n1
      exact q1 _ σ _ st2 S2 (L1.mono st2.le) (.ref C) (some dx) ⟨C, hm, rfl, [(f, .str s)], upd_same, .cons (.str s) .nil⟩
    · exact q1.elim
  · exact q1.elim
end
/-! ### its field -/
/-- the field f of a caught exception of one of some classes -/
def eFld (f : Str) (l : List Str) (g : SE) : SE := fun sl cs => (g sl cs).bind fun d cs1 => match d with
  | .cel i => match cs1[i]? with
    | some (some (.err c fs)) => if c ∈ l then (match fs.lookup f with
      | some d => .ok d cs1
      | none => .bad) else .bad
    | _ => .bad
  | _ => .bad
/-- the fields of all these classes can be read -/
def FldT (K : PySem.W.Frag) (mg : Str → Option Value) (f : Str) (l : List Str) : Prop := ∀ c ∈ l, ∀ C, mg c = some (.ref C) → XfC K C ∧ PySem.W.findIn K (.ref C) f = some none
theorem fldT_nil {K : PySem.W.Frag} {mg : Str → Option Value} {f : Str} : FldT K mg f [] := fun c h => by cases h
theorem fldT_cons {K : PySem.W.Frag} {mg : Str → Option Value} {f x : Str} {C : Addr} {l : List Str} (m : mg x = some (.ref C)) (h1 : XfC K C) (h2 : PySem.W.findIn K (.ref C) f = some none) (r : FldT K mg f l) : FldT K mg f (x :: l) := fun c hc D hD => by
  (rcases List.mem_cons.mp hc with rfl | hc)
  · rw [m] at hD; cases hD; exact ⟨h1, h2⟩
  · exact r c hc D hD
theorem RepF.at {K : PySem.W.Frag} {W : Wd} {f : Str} {d : D} : ∀ {vs : List (Str × V)} {ds : List (Str × D)}, RepF K W vs ds → ds.lookup f = some d → ∃ v, vs.lookup f = some v ∧ Rep K W v d
  | _, _, .nil, h => by cases h
  | _, _, @RepF.cons _ _ k v d' vs ds r t, h => by
    rw [List.lookup_cons] at h ⊢
    by_cases e : (f == k) = true
    · rw [e] at h ⊢
      cases h
      exact ⟨v, rfl, r⟩
    · have e : (f == k) = false := by simpa using e
      rw [e] at h ⊢
      exact RepF.at t h
def tFld (K : PySem.W.Frag) (f : Str) (te : TE) : TE := fun σ H Q => te σ H fun x H1 => ∃ (a C dd : Addr) (fs : List (Str × V)) (v : V), x = .ref a ∧ H1 a = some (ErrO a C (some dd)) ∧ XfC K C ∧ PySem.W.findIn K (.ref C) f = some none ∧ H1 dd = some (.xd fs) ∧ fs.lookup f = some v ∧ Q v H1
section
variable {X : Cx} {Z : WX} {pos : Pos} {e : Expr} {f : Str} {g : SE} {l : List Str}
theorem pe_fld {te : TE} (he : PE X e te) (hb : attributeBase e f X.env (eval e X.env) = eval e X.env) : PE X (.Attribute e f pos) (tFld X.K f te) := by
  (refine ⟨fun pins s σ H Q I h => ?_⟩)
  (refine attr_of hb (thn (he.run pins s σ H _ I h) fun u s1 hh => ?_))
  obtain ⟨x, H1, I1, rx, a, C, dd, fs, v, ex, ea, T, hno, ed, lk, q⟩ := hh
  subst ex
  (obtain rfl : u = Value.ref a := rx)
  obtain ⟨⟨oe, vs, ha, hz, hd⟩, _, _⟩ := (show ObjOk X.prog X.w H1 s1.heap a (.ext _) from I1.hok a _ ea)
  obtain ⟨mA, hns, hr⟩ := (show ObjOk X.prog X.w H1 s1.heap dd (.xd fs) from I1.hok dd _ ed)
  (obtain ⟨od, ho, hl⟩ := lookIn_ns hns)
  obtain ⟨u, hu, ru⟩ := RelO.some_of (v := v) (o := mA f) (by rw [← lk]; exact hr f)
  (have J : PySem.W.InstAt s1.heap a oe C (some od) := ⟨ha, hz.1, by unfold PySem.W.notCls; rw [hd] <;> rfl, by rw [hz.2]; exact ho⟩)
  (exact HandSPX.exc_get I1.kIn J T.ga T.gg T.exC (PySem.W.findObj_own T.hdC hno rfl (by rw [hl, hu])) (handed_of ru) ⟨v, H1, I1.tok _, ru, q⟩)
theorem fe_fld (hT : FldT X.K X.mg f l) (he : FE X Z e g) (hb : attributeBase e f X.env (eval e X.env) = eval e X.env := by rfl) : FE X Z (.Attribute e f pos) (eFld f l g) :=
  PEimp (pe_fld he hb) fun σ H Q ⟨W, sl, cs, S, L, q⟩ => by
    refine up_bind (R1 := Rep X.K) S L q fun W1 d cs1 y H1 st1 S1 L1 r1 q1 => ?_
    split at q1
    · rename_i i
      split at q1
      · rename_i c fs hi
        split at q1
        · rename_i hc
          split at q1
          · rename_i d hd
            obtain ⟨a, C, dd, rfl, h1, h2, h3, h4⟩ := err_of S1 r1 hi
            obtain ⟨T, hno⟩ := hT c hc C h2
            cases dd with
            | none =>
              have h4 : fs = [] := h4
              subst h4
              cases hd
            | some dd =>
              obtain ⟨vs, hz, rf⟩ := h4
              obtain ⟨v, lk, rv⟩ := RepF.at rf hd
              exact ⟨a, C, dd, vs, v, rfl, h1, T, hno, S1.fz _ _ hz, lk, q1.ret S1 rv⟩
          · exact q1.elim
        · exact q1.elim
      · exact q1.elim
    · exact q1.elim
end
section
variable {sl : Sl} {cs : Cs} {Q : D → Cs → Prop} {Qs : Ctl × Sl → Cs → Prop}
theorem w_eFld {f : Str} {l : List Str} {g : SE} (h : Sat (g sl cs) fun d cs1 => ∃ i c fs e, d = .cel i ∧ cs1[i]? = some (some (.err c fs)) ∧ c ∈ l ∧ fs.lookup f = some e ∧ Q e cs1) : Sat (eFld f l g sl cs) Q := by
  unfold eFld
  rw [sat_bind]
  refine h.mono fun d cs1 ⟨i, c, fs, e, h1, h2, h3, h4, h5⟩ => ?_
  subst h1
  dsimp only
  rw [h2]
  dsimp only
  rw [if_pos h3, h4, sat_ok]
  exact h5
theorem w_sRzO {c f : Str} {g : SE} (h : Sat (g sl cs) fun d cs1 => ∃ s : Str, d = .str s ∧ s.length ≤ 1000000 ∧ Qs (.ex ⟨c, [(f, .str s)]⟩, sl) cs1) : Sat (sRzO c f g sl cs) Qs :=
  s_at (h.mono fun d cs1 ⟨s, e, hs, q⟩ => by
    subst e
    dsimp only
    rw [if_pos hs]
    exact satI q)
end
/-! ### made as a value -/
def tMkV (C : Addr) (sp : Sp) (ta : TA) : TE := fun σ H Q => ta σ H fun vs H1 => vs.length ≤ 1000 ∧ ∀ a, H1 a = none → sp (.ref a :: vs) (upd H1 a (exo a C none))
  (fun v H2 => v = .non ∧ ∃ (d : Addr) (fs : List (Str × V)), d ≠ a ∧ H2 a = some (exo a C (some d)) ∧ H2 d = some (exd d fs) ∧ Q (.ref a) (upd (upd H2 d (.xd fs)) a (ErrO a C (some d)))) (fun _ _ _ => False)
section
variable {X : Cx} {pins : List (Addr × Obj)} {σ : L2.St} {H : Hp} {s : Shared} {a C d : Addr} {fs : List (Str × V)}
/-- what was being made is made -/
theorem inv_made (I : Inv X pins σ H s) (ne : d ≠ a) (ea : H a = some (exo a C (some d))) (ed : H d = some (exd d fs)) : Inv X pins σ (upd (upd H d (.xd fs)) a (ErrO a C (some d))) s := by
  obtain ⟨t1, ho⟩ := exo_at I.hok ea
  (obtain ⟨mA, hns, rel⟩ := exd_at I.hok ed)
  have hd : ∃ o, s.heap.get? d = some o := by
    obtain ⟨o, _, _, e, _⟩ := hns
    exact ⟨o, e⟩
  have I1 : Inv X pins σ (upd H d (.xd fs)) s := I.write (t' := s.toks) (h' := s.heap) (x := d) (e := d) (o := .xd fs) (by rw [ed]; exact True.intro) (.inl rfl) (fun b u _ e => e) hd ⟨mA, hns, rel⟩
  have ea1 : upd H d (.xd fs) a = some (exo a C (some d)) := by rw [upd_ne (Ne.symm ne)]; exact ea
  exact I1.write (t' := s.toks) (h' := s.heap) (x := a) (e := a) (o := ErrO a C (some d)) (by rw [ea1]; exact True.intro) (.inl rfl) (fun b u _ e => e) ⟨_, ho⟩ (errO_ok ho ⟨rfl, rfl⟩ rfl)
end
section
variable {X : Cx} {Z : WX} {pos p : Pos} {x f : Str} {e : Expr} {g : SE}
theorem pe_mkV {CX : CXT} {C fI : Addr} {k : Nat} {fd : FuncData} {ps : List Str} {sp : Sp} {ta : TA} {es : List Expr} (T : OexC X.K C) (iC : PySem.W.findIn X.K (.ref C) "__init__" = some (some (.ref fI))) (tI : PySem.W.typeIn X.K (.ref fI) = some (.type "function"))
    (F1 : FnOk X.prog X.w X.K X.mg X.base CX k fI fd ps sp) (hr : Room (k + 1) X.A) (hb : Binds X.K fd ps []) (hx : Passes CX X (fun _ _ _ => False)) (hm : X.mg x = some (.ref C))
    (ha : PA X (e :: es) ta) (hg : Gl X x := by rfl) (hdb : (x == ("__debug__" : Str)) = false := by decide) (he : starEach (e :: es) X.env = (false, eval e X.env) :: starEach es X.env := by rfl) (hpl : (backTo pos (starEach es X.env)).any (·.1) = false := by rfl) :
    PE X (.Call (.Name x p) (e :: es) [] pos) (tMkV C sp ta) := by
  refine ⟨fun pins s σ H Q I h => wpAny_Call_Name_kw (ld_glob I hg hm ?_ hdb)⟩
  (obtain ⟨nm, q, N, bs, bm, sn, sub, ab, col, dd, k0, k1, k2, k3, k5, hC, hbm⟩ := T.cls)
  (refine PySem.W.callWith_K (h₀ := X.base) I.ok.mod.kin T.kC (thn (ha.run pos pins s σ H _ I h) fun us s1 ⟨vs, H1, I1, r1, hz, q1⟩ => ⟨I1.kIn, ?_⟩) he hpl)
  obtain ⟨hp, gs, dr, tk, os⟩ := s1
  have sz : hp.objs.size ≤ hp.objs.size + 1 := Nat.le_succ _
  have q2 := q1 (hp.objs.size + 1) (I1.hok.fresh sz)
  have at1 : ((hp.push (PySem.W.kdv_tup us)).push (PySem.HandSPX.excO C hp.objs.size)).get? (hp.objs.size + 1) = some (PySem.HandSPX.excO C hp.objs.size) := by heap_get
  have I2 : Inv X pins σ (upd H1 (hp.objs.size + 1) (exo (hp.objs.size + 1) C none)) ⟨(hp.push (PySem.W.kdv_tup us)).push (PySem.HandSPX.excO C hp.objs.size), gs, dr, tk, os⟩ :=
    I1.laid (t' := tk) (a := hp.objs.size + 1) (o := exo (hp.objs.size + 1) C none) (h' := (hp.push (PySem.W.kdv_tup us)).push (PySem.HandSPX.excO C hp.objs.size)) (fun b o z => Heap.get?_push_of_some _ (Heap.get?_push_of_some _ z)) sz (exo_ok at1)
  (have r2 : Vals (V.ref (hp.objs.size + 1) :: vs) (Value.ref (hp.objs.size + 1) :: us) := .cons rfl r1)
  have len : (Value.ref (hp.objs.size + 1) :: us).length = ps.length := r2.length.symm.trans (F1.len _ _ _ _ q2)
  have r3 : Vals (V.ref (hp.objs.size + 1) :: vs) (Value.ref (hp.objs.size + 1) :: us ++ []) := by rw [List.append_nil]; exact r2
  have big : us.length ≤ sizeLine := by rw [← Paired.length r1, sizeLine_eq]; omega
  refine wpAny_call (PySem.HandSPX.call_own F.excBase_ValueError (fun Y => PySem.HandSPX.refsVE_contains Y bm hbm) (I1.kIn _ _ hC) (PySem.W.looks_findIn I1.kIn iC) (fun self => PySem.W.bind_fn I1.kIn self tI) big
    (codeAny_mono (F1.run _ X.stack _ _ ⟨Value.ref (hp.objs.size + 1) :: us, []⟩ _ _ _ (fun _ _ _ => False) (hr.make C us []) (I2.env0.make C us []) (hb _ (Value.ref (hp.objs.size + 1) :: us) I2.kIn (by rw [List.append_nil]; exact len)) r3 q2) fun r s' hq => ?_))
  cases r with
  | error er => exact hx pins σ _ _ er s' I2 hq
  | ok fl =>
    cases fl with
    | ret u =>
      obtain ⟨v, H2, J, rv, ev, d, fs, ne, ea, ed, q3⟩ := I2.after hq
      subst ev
      exact ⟨rv, V.ref (hp.objs.size + 1), _, inv_made J ne ea ed, rfl, q3⟩
    | next => exact hq.elim
    | brk => exact hq.elim
    | cont => exact hq.elim
def eMkO (c f : Str) (g : SE) : SE := fun sl cs => (g sl cs).bind fun d cs1 => match d with
  | .str s => if s.length ≤ 1000000 then .ok (.cel cs1.length) (cs1 ++ [some (.err c [(f, .str s)])]) else .bad
  | _ => .bad
theorem fe_mkO {k : Nat} (R : ExO X.prog X.w X.K X.mg X.base x f) (hr : Room (k + 2) X.A) (he : FE X Z e g) (hg : Gl X x := by rfl) (hdb : (x == ("__debug__" : Str)) = false := by decide)
    (hs : starEach [e] X.env = (false, eval e X.env) :: starEach [] X.env := by rfl) (hpl : (backTo pos (starEach [] X.env)).any (·.1) = false := by rfl) :
    FE X Z (.Call (.Name x p) [e] [] pos) (eMkO x f g) := by
  obtain ⟨C, fI, fd, ps, hm, T, hno, iC, tI, F1, hb⟩ := R.ex
  refine PEimp (pe_mkV T iC tI F1 (hr.mono (by omega)) hb pass0 hm (pa_cons he pa_nil hs) hg hdb hs hpl) fun σ H Q ⟨W, sl, cs, S, L, q⟩ => ?_
  refine up_bind (R1 := Rep X.K) S L q fun W1 d cs1 v H1 st1 S1 L1 r1 q1 => ?_
  split at q1
  · rename_i s
    split at q1
    · rename_i hz
      cases r1
      refine ⟨by simp, fun a ha => ⟨a, C, .str s, rfl, T, hno, upd_same, ⟨s, rfl, hz⟩, fun dx n ne => ?_⟩⟩
      have n1 : H1 dx = none := by rw [upd_ne ne] at n; exact n
      refine ⟨rfl, dx, [(f, .str s)], ne, upd_same, by rw [upd_ne ne, upd_same], ?_⟩
      have eH : upd (upd (upd (upd (upd H1 a (exo a C none)) dx (exd dx [(f, .str s)])) a (exo a C (some dx))) dx (.xd [(f, .str s)])) a (ErrO a C (some dx)) = upd (upd H1 dx (.xd [(f, .str s)])) a (ErrO a C (some dx)) := by
        funext b
        by_cases h2 : b = a
        · rw [h2, upd_same, upd_same]
        · rw [upd_ne h2, upd_ne h2]
          by_cases h1 : b = dx
          · rw [h1, upd_same, upd_same]
          · rw [upd_ne h1, upd_ne h1, upd_ne h2, upd_ne h1, upd_ne h2]
      rw [eH]
      have S2 := S1.froze (u := .xd [(f, V.str s)]) n1
      have st2 := Step.froze (u := .xd [(f, V.str s)]) S1 n1
      have ha2 : upd H1 dx (.xd [(f, V.str s)]) a = none := by rw [upd_ne (Ne.symm ne)]; exact ha
      have hF : ErrF X.K (W1.froze dx (.xd [(f, V.str s)])) (some dx) [(f, .str s)] := ⟨[(f, .str s)], upd_same, .cons (.str s) .nil⟩
      have S3 := S2.alloc (u := ErrO a C (some dx)) (c := .err x [(f, .str s)]) ha2 (.err hm (hF.mono Le.alloc))
      have st3 : Step (W1.froze dx (.xd [(f, V.str s)])) _ ((W1.froze dx (.xd [(f, V.str s)])).alloc a) (upd (upd H1 dx (.xd [(f, V.str s)])) a (ErrO a C (some dx))) := Step.alloc ha2
      refine q1 _ _ _ (st2.trans st3) S3 (.cel ?_)
      show (W1.ad ++ [a])[cs1.length]? = some a
      rw [← S1.len, List.getElem?_append_right (Nat.le_refl _), Nat.sub_self]; rfl
    · exact q1.elim
  · exact q1.elim
end
section
variable {sl : Sl} {cs : Cs} {Q : D → Cs → Prop}
theorem w_eMkO {c f : Str} {g : SE} (h : Sat (g sl cs) fun d cs1 => ∃ s : Str, d = .str s ∧ s.length ≤ 1000000 ∧ Q (.cel cs1.length) (cs1 ++ [some (.err c [(f, .str s)])])) : Sat (eMkO c f g sl cs) Q := by
  unfold eMkO
  rw [sat_bind]
  refine h.mono fun d cs1 ⟨s, e, hs, q⟩ => ?_
  subst e
  dsimp only
  rw [if_pos hs, sat_ok]
  exact q
end
end LF

set_option Elab.async false
set_option maxRecDepth 100000
namespace LF
open PySem PySem.Spec L2
/-! ### calls by the parameters' names -/
def FK (X : Cx) (Z : WX) (kws : List Keyword) (f : SA) : Prop := PK X kws (up X.K X.mg (Reps X.K) Z f)
/-- the values in the parameters' order -/
def permD {α : Type} (z : α) (js : List Nat) (xs : List α) : List α := js.map fun j => xs[j]?.getD z
def callK (js : List Nat) (g : Fn) : Fn := fun ds cs => if ds.length = js.length then (g (permD .non js ds) cs).nox else .bad
/-- a def, where it stands, called with all arguments by their names -/
structure CalK (P : Program) (w : World) (K : PySem.W.Frag) (mg : Str → Option Value) (base : Heap) (x : Str) (k : Nat) (ps ks : List Str) (js : List Nat) (g : Fn) : Prop where
  ex : ∃ (f : Addr) (fd : FuncData), FnOk P w K mg base CX0 k f fd ps (spOf K mg ps.length (nxF g)) ∧ mg x = some (.ref f) ∧ PySem.W.keepIn K (.ref f) = true ∧
    ∀ (s : Shared) (ws : List Value), ws.length = ks.length → K.In s.heap → BindsTo s fd ⟨[], ks.zip ws⟩ (ps.zip (permD .none js ws))
theorem perm_reps {K : PySem.W.Frag} {W : Wd} {vs : List V} {ds : List D} (r : Reps K W vs ds) : ∀ js : List Nat, (∀ j ∈ js, j < vs.length) → Reps K W (permD .non js vs) (permD .non js ds)
  | [], _ => .nil
  | j :: js, h => by
    have hj := h j (List.mem_cons_self ..)
    have hd : j < ds.length := by rw [← r.length]; exact hj
    refine .cons ?_ (perm_reps r js fun i hi => h i (List.mem_cons_of_mem _ hi))
    have e1 : vs[j]? = some vs[j] := List.getElem?_eq_getElem hj
    have e2 : ds[j]? = some ds[j] := List.getElem?_eq_getElem hd
    dsimp only
    rw [e1, e2]
    have : ∀ {vs : List V} {ds : List D}, Reps K W vs ds → ∀ {j : Nat} {v : V} {d : D}, vs[j]? = some v → ds[j]? = some d → Rep K W v d := by
      intro vs ds r
      induction vs generalizing (ds) with
      | nil => intro j v d h1 h2; simp at h1
      | cons a vs ih =>
        cases r with
        | cons h t =>
          intro j v d h1 h2
          cases j with
          | zero => simp at h1 h2; subst h1 h2; exact h
          | succ j => exact ih t (by simpa using h1) (by simpa using h2)
    exact this r e1 e2
theorem perm_vals {vs : List V} {us : List Value} (r : Vals vs us) : ∀ js : List Nat, (∀ j ∈ js, j < vs.length) → Vals (permD .non js vs) (permD .none js us)
  | [], _ => .nil
  | j :: js, h => by
    have hj := h j (List.mem_cons_self ..)
    have hd : j < us.length := by rw [← r.length]; exact hj
    refine .cons ?_ (perm_vals r js fun i hi => h i (List.mem_cons_of_mem _ hi))
    obtain ⟨u, e, ru⟩ := r.get (List.getElem?_eq_getElem hj)
    dsimp only
    rw [List.getElem?_eq_getElem hj, e]
    exact ru
section
variable {X : Cx} {Z : WX} {pos p kpos : Pos} {e : Expr} {kws : List Keyword} {f : SE} {t : SA} {k : Nat} {ps ks : List Str} {js : List Nat} {g : Fn} {x : Str} {nm : Option Str}
theorem PKimp {t1 t2 : TA} (h : PK X kws t1) (i : ∀ σ H Q, t2 σ H Q → t1 σ H Q) : PK X kws t2 := ⟨fun pos pins s σ H Q I q => h.run pos pins s σ H Q I (i _ _ _ q)⟩
theorem fk_nil : FK X Z [] aNil := PKimp pk_nil fun σ H Q ⟨W, sl, cs, S, L, q⟩ => q.ret S .nil
theorem fk_cons (ha : FE X Z e f) (hr : FK X Z kws t) : FK X Z (⟨nm, e, kpos⟩ :: kws) (aCons f t) :=
  PKimp (pk_cons ha hr) fun σ H Q ⟨W, sl, cs, S, L, q⟩ => by
    refine up_bind (R1 := Rep X.K) S L q fun W1 d cs1 x H1 st1 S1 L1 r1 q1 => ?_
    refine up_bind (R1 := Reps X.K) S1 L1 q1 fun W2 e cs2 y H2 st2 S2 L2 r2 q2 => ?_
    exact q2.ret S2 (.cons (r1.mono st2.le) r2)
theorem fe_callK (C : CalK X.prog X.w X.K X.mg X.base x k ps ks js g) (hr : Room k X.A) (hkw : FK X Z kws t) (hj : (∀ j ∈ js, j < ks.length) := by decide) (hl : js.length = ks.length := by rfl) (hp : ps.length = js.length := by rfl)
    (hall : (backToKw pos (keywordEach kws X.env)).all (·.1.isSome) = true := by rfl) (hks : (backToKw pos (keywordEach kws X.env)).filterMap (·.1) = ks := by rfl)
    (hpl : ((backTo pos (starEach [] X.env)).any (·.1) || (backToKw pos (keywordEach kws X.env)).any (·.1.isNone)) = false := by rfl)
    (hg : Gl X x := by rfl) (hdb : (x == ("__debug__" : Str)) = false := by decide) : FE X Z (.Call (.Name x p) [] kws pos) (eN (callK js g) t) := by
  obtain ⟨f, fd, F, hm, hk, hb⟩ := C.ex
  refine ⟨fun pins s σ H Q I ⟨W, sl, cs, S, L, q⟩ => wpAny_Call_Name_kw (ld_glob I hg hm ?_ hdb)⟩
  have q' := up_bind (R1 := Reps X.K) (Q1 := fun zs H2 => zs.length = js.length ∧ spOf X.K X.mg ps.length (nxF g) (permD .non js zs) H2 Q E0) S L q fun W1 ds cs1 zs H1 st1 S1 L1 r1 q1 => by
    unfold callK at q1
    by_cases hn : ds.length = js.length
    · rw [if_pos hn] at q1
      have lz : zs.length = js.length := by rw [r1.length]; exact hn
      refine ⟨lz, by unfold permD; rw [List.length_map]; exact hp.symm, W1, cs1, _, S1, perm_reps r1 js (fun j h => by rw [lz, hl]; exact hj j h), ?_⟩
      exact fin_E0 q1
    · rw [if_neg hn] at q1; exact q1.elim
  refine PySem.W.callWith_KW0 (h₀ := X.base) I.ok.mod.kin hk hall (thn (hkw.run pos pins s σ H _ I q') fun ws s2 ⟨zs, H2, I2, rz, lz, q2⟩ => ⟨I2.kIn, ?_⟩) hpl
  rw [hks]
  have lw : ws.length = ks.length := by rw [← rz.length, lz, hl]
  have r2 := perm_vals rz js (fun j h => by rw [lz, hl]; exact hj j h)
  refine wpAny_call (codeAny_mono (F.run X.A X.stack s2 H2 ⟨[], ks.zip ws⟩ _ _ Q E0 hr I2.env0 (hb s2 ws lw I2.kIn) r2 q2) fun r s' hq => ?_)
  cases r with
  | error er => exact pass0 pins σ _ _ er s' I2 hq
  | ok fl =>
    cases fl with
    | ret u => exact I2.after hq
    | next => exact hq.elim
    | brk => exact hq.elim
    | cont => exact hq.elim
end
theorem sat_callK {js : List Nat} {g : Fn} {ds : List D} {cs : Cs} {Q : D → Cs → Prop} (hn : ds.length = js.length) (h : Sat (g (permD .non js ds) cs) Q) : Sat (callK js g ds cs) Q := by
  unfold callK
  rw [if_pos hn, sat_nox]
  exact h
/-! ### data whose == is told: alike to themselves, or empty -/
def PyOk (k : Nat) (d : D) : Prop := ∃ p, D.py d = some p ∧ p.canLay0 = true ∧ p.depth ≤ k
theorem pyOk_int (k : Nat) (i : Int) : PyOk k (.int i) := ⟨.int i, rfl, rfl, Nat.zero_le _⟩
theorem pyOk_str (k : Nat) {l : List Nat} (h : ∀ c ∈ l, c < 1114112) : PyOk k (.str (strL l)) := ⟨.str (strL l), rfl, by
  show PyData.strOk (strL l) = true
  unfold PyData.strOk strL
  simpa using h, Nat.zero_le _⟩
theorem pys_ok {k : Nat} : ∀ {ds : List D}, (∀ d ∈ ds, PyOk k d) → ∃ ps, D.pys ds = some ps ∧ ps.length = ds.length ∧ PyData.canLayAll0 ps = true ∧ PyData.depthAll ps ≤ k
  | [], _ => ⟨[], rfl, rfl, rfl, Nat.zero_le _⟩
  | d :: r, h => by
    obtain ⟨p, h1, h2, h3⟩ := h d (List.mem_cons_self ..)
    obtain ⟨ps, e, l, c, g⟩ := pys_ok fun d hd => h d (List.mem_cons_of_mem _ hd)
    refine ⟨p :: ps, ?_, by rw [List.length_cons, l]; rfl, ?_, ?_⟩
    · unfold D.pys
      rw [h1, e]
    · unfold PyData.canLayAll0
      rw [h2, c]; rfl
    · unfold PyData.depthAll
      omega
theorem pyOk_tup {k : Nat} {ds : List D} (h : ∀ d ∈ ds, PyOk k d) : PyOk (k + 1) (.tup ds) := by
  obtain ⟨ps, e, _, c, g⟩ := pys_ok h
  refine ⟨.tuple ps, ?_, c, ?_⟩
  · unfold D.py
    rw [e]; rfl
  · unfold PyData.depth
    omega
theorem shaped_of {p : PyData} {k : Nat} (h1 : p.canLay0 = true) (h2 : p.depth ≤ k) (hk : k ≤ 64) : SeqAt.shaped p = true := by
  unfold SeqAt.shaped
  rw [h1, decide_eq_true (by omega)]; rfl
section
variable {cs : Cs}
theorem eqD_self {k : Nat} {ds : List D} (h : PyOk k (.tup ds)) (hk : k ≤ 64) : eqD cs (.tup ds) (.tup ds) = some true := by
  obtain ⟨p, e, c, g⟩ := h
  unfold eqD
  show (match D.py (.tup ds), D.py (.tup ds) with
    | some a, some b => if SeqAt.shaped a = true ∧ SeqAt.shaped b = true then some (PyData.eqv a b) else none
    | _, _ => none) = _
  rw [e]
  have s := shaped_of c g hk
  dsimp only
  rw [if_pos ⟨s, s⟩, SeqAt.eqv_refl p c]
theorem r_neSelf {k : Nat} {ds : List D} (h : PyOk k (.tup ds)) (hk : k ≤ 64) : pNe (.tup ds) (.tup ds) cs = .ok (.bl false) cs := by
  unfold pNe; rw [eqD_self h hk]; rfl
theorem r_eqSelf {k : Nat} {ds : List D} (h : PyOk k (.tup ds)) (hk : k ≤ 64) : pEq (.tup ds) (.tup ds) cs = .ok (.bl true) cs := by
  unfold pEq; rw [eqD_self h hk]
theorem eqD_nil {k : Nat} {d : D} {ds : List D} (h : ∀ d ∈ ds, PyOk k d) (hk : k ≤ 63) (hd : deref cs d = .lst ds) (hs : scalD d (.lst []) = none) : eqD cs d (.lst []) = some (decide (ds = [])) := by
  obtain ⟨ps, e, l, c, g⟩ := pys_ok h
  unfold eqD
  rw [hs]
  dsimp only
  rw [hd]
  show (match D.py (.lst ds), D.py (.lst []) with
    | some a, some b => if SeqAt.shaped a = true ∧ SeqAt.shaped b = true then some (PyData.eqv a b) else none
    | _, _ => none) = _
  have e1 : D.py (.lst ds) = some (.list ps) := by unfold D.py; rw [e]; rfl
  have e2 : D.py (.lst []) = some (.list []) := rfl
  rw [e1, e2]
  have s1 : SeqAt.shaped (.list ps) = true := shaped_of (k := k + 1) c (by unfold PyData.depth; omega) (by omega)
  have s2 : SeqAt.shaped (.list []) = true := by simp [SeqAt.shaped, PyData.canLay0, PyData.canLayAll0, PyData.depth, PyData.depthAll]
  dsimp only
  rw [if_pos ⟨s1, s2⟩]
  cases ds with
  | nil =>
    have : ps = [] := List.length_eq_zero_iff.mp l
    subst this
    simp [PyData.eqv, PyData.eqvAll]
  | cons a r =>
    cases ps with
    | nil => cases l
    | cons p ps => simp [PyData.eqv, PyData.eqvAll]
theorem r_eqNilCy {k j : Nat} {ds : List D} (e : cs[j]? = some (some (.lst ds))) (h : ∀ d ∈ ds, PyOk k d) (hk : k ≤ 63) : pEq (.cel j) (.lst []) cs = .ok (.bl (decide (ds = []))) cs := by
  unfold pEq; rw [eqD_nil h hk (deref_cel e) rfl]
theorem r_eqNilT {k : Nat} {ds : List D} (h : ∀ d ∈ ds, PyOk k d) (hk : k ≤ 63) : pEq (.lst ds) (.lst []) cs = .ok (.bl (decide (ds = []))) cs := by
  unfold pEq; rw [eqD_nil h hk rfl rfl]
theorem r_neNilTup {k : Nat} {ds : List D} (h : ∀ d ∈ ds, PyOk k d) (hk : k ≤ 63) : pNe (.tup ds) (.tup []) cs = .ok (.bl (!decide (ds = []))) cs := by
  obtain ⟨ps, e, l, c, g⟩ := pys_ok h
  have e3 : eqD cs (.tup ds) (.tup []) = some (decide (ds = [])) := by
    unfold eqD
    show (match D.py (.tup ds), D.py (.tup []) with
      | some a, some b => if SeqAt.shaped a = true ∧ SeqAt.shaped b = true then some (PyData.eqv a b) else none
      | _, _ => none) = _
    have e1 : D.py (.tup ds) = some (.tuple ps) := by unfold D.py; rw [e]; rfl
    have e2 : D.py (.tup []) = some (.tuple []) := rfl
    rw [e1, e2]
    have s1 : SeqAt.shaped (.tuple ps) = true := shaped_of (k := k + 1) c (by unfold PyData.depth; omega) (by omega)
    have s2 : SeqAt.shaped (.tuple []) = true := by simp [SeqAt.shaped, PyData.canLay0, PyData.canLayAll0, PyData.depth, PyData.depthAll]
    dsimp only
    rw [if_pos ⟨s1, s2⟩]
    cases ds with
    | nil =>
      have : ps = [] := List.length_eq_zero_iff.mp l
      subst this
      simp [PyData.eqv, PyData.eqvAll]
    | cons a r =>
      cases ps with
      | nil => cases l
      | cons p ps => simp [PyData.eqv, PyData.eqvAll]
  unfold pNe; rw [e3]
end
/-! ### what a law's own sameness is asked about -/
/-- what law_same is asked about: whole numbers, None, tuples of them, so deep -/
inductive Flat : Nat → D → Prop
  | non (k : Nat) : Flat (k + 1) .non
  | int (k : Nat) (i : Int) : Flat (k + 1) (.int i)
  | str (k : Nat) (s : Str) : Flat (k + 1) (.str s)
  | tup (k : Nat) (ds : List D) (hl : ds.length ≤ 1000) (h : ∀ d ∈ ds, Flat k d) : Flat (k + 1) (.tup ds)
theorem kit_it : kitB "int" "tuple" = some false := rfl
theorem kit_is : kitB "int" "str" = some false := rfl
theorem kit_st : kitB "str" "tuple" = some false := rfl
theorem kit_ss : kitB "str" "str" = some true := rfl
theorem r_eqSS {s : Str} {cs : Cs} : pEq (.str s) (.str s) cs = .ok (.bl true) cs := by
  show (match some (decide (s = s)) with | some b => Res.ok (D.bl b) cs | none => .bad) = _
  rw [decide_eq_true rfl]
theorem kit_tt : kitB "tuple" "tuple" = some true := rfl
theorem zipDD_self (ds : List D) : zipDD ds ds = ds.map fun d => .tup [d, d] := by
  unfold zipDD
  induction ds with
  | nil => rfl
  | cons a r ih => rw [List.zip_cons_cons, List.map_cons, List.map_cons, ih]
end LF

set_option Elab.async false
set_option maxRecDepth 100000
namespace LF
open PySem PySem.Spec L2
/-! ### a for over zip(a tuple, a list) -/
def ItzM (K : PySem.W.Frag) (a b : Addr) : It :=
  ⟨fun i H => ∃ (xs ys : List V) (x y : V), SqT K H a xs ∧ SqL K H b ys ∧ xs[i]? = some x ∧ ys[i]? = some y,
    fun i H v H' => ∃ T x y, v = .ref T ∧ H T = none ∧ H' = upd H T (.tup [x, y]) ∧ (∀ xs, SqT K H a xs → xs[i]? = some x) ∧ ∀ ys, SqL K H b ys → ys[i]? = some y,
    fun i H => ∃ xs ys : List V, SqT K H a xs ∧ SqL K H b ys ∧ xs.length = ys.length ∧ i = xs.length⟩
theorem turn_zipM {P : Program} {w : World} {K : PySem.W.Frag} {elts : List Expr} {kk : Nat} {tpos : Pos} {a b z TI TO i1 i2 : Addr} (D : ZipSep2 z TI TO i1 i2 [i1, a] [i2, b]) (n1 : a ≠ i1) (n2 : b ≠ i2) :
    L2.Turn P w K (.Tuple elts kk tpos) (ItzM K a b) [z, TI, TO, i1, i2] z (fun i h => IsZip h z TI TO .none ∧ IsTupOf2 h TI (.ref i1) (.ref i2) ∧ (∃ x y, IsTupOf2 h TO x y) ∧ h.IsTupleIter i1 a i ∧ h.IsListIter i2 b i) where
  mem := List.mem_cons_self ..
  obj := fun i h st c hc => by
    (obtain ⟨hz, hTI, ⟨x, y, hTO⟩, ⟨o1, e1, _, d1⟩, ⟨o2, e2, _, d2⟩⟩ := st)
    simp only [List.mem_cons, List.not_mem_nil, or_false] at hc
    rcases hc with rfl | rfl | rfl | rfl | rfl
    · exact ⟨_, hz, fun v q => nomatch q⟩
    · exact ⟨_, hTI, fun v q => nomatch q⟩
    · exact ⟨_, hTO, fun v q => nomatch q⟩
    · exact ⟨o1, e1, fun v q => by rw [d1] at q; cases q⟩
    · exact ⟨o2, e2, fun v q => by rw [d2] at q; cases q⟩
  keep := fun i h h' ⟨hz, hTI, ⟨x, y, hTO⟩, h1, h2⟩ k =>
    ⟨k z (by simp) _ hz, k TI (by simp) _ hTI, ⟨x, y, k TO (by simp) _ hTO⟩, h1.at fun o q => k i1 (by simp) o q, h2.at fun o q => k i2 (by simp) o q⟩
  item := by
    (intro X hP hw hK hc i pins s σ H E I hf st hg)
    subst hP hw hK
    (obtain ⟨hz, hTI, ⟨x0, y0, hTO⟩, h1, h2⟩ := st)
    (obtain ⟨xs, ys, x, y, hqx, hqy, hx, hy⟩ := hg)
    (obtain ⟨its, rv, p, _⟩ := I.tuple hqx)
    (obtain ⟨its2, rv2, p2, _⟩ := I.list hqy)
    (obtain ⟨u, hu, ru⟩ := rv.get hx)
    (obtain ⟨u2, hu2, ru2⟩ := rv2.get hy)
    have hh := I.ok.hd hc
    have zl : z < s.heap.objs.size := Heap.lt_size hz
    have lt1 : i < its.toArray.size := by simpa using (List.getElem?_eq_some_iff.mp hu).1
    have lt2 : i < its2.toArray.size := by simpa using (List.getElem?_eq_some_iff.mp hu2).1
    refine wpAny_pyNext_zipD2_item D (Draws.tuple (A := X.A.in1) hh i1 a n1 its.toArray) (Draws.list (A := X.A.in1) hh i2 b n2 its2.toArray) hz hTI hTO ⟨h1, p⟩ ⟨h2, p2.isList⟩ lt1 lt2 fun u' v' h' tk q1 q2 e1 e2 e3 e4 e5 e6 k => ?_
    have eu : u' = u := by
      have : its[i]? = some u' := by simpa using q1
      rw [hu] at this; cases this; rfl
    have ev : v' = u2 := by
      have : its2[i]? = some v' := by simpa using q2
      rw [hu2] at this; cases this; rfl
    subst eu ev
    refine ⟨_, rfl, wpAny_letOwnedTupleGo_zip (s := { s with heap := h', toks := tk }) e1 fun h'' z'' sb => ?_⟩
    have nz : s.heap.objs.size ≠ z := Nat.ne_of_gt zl
    have hT2 : h''.get? s.heap.objs.size = some { cls := .type "tuple", data := .seq #[u', v'] } := (sb.2 _ nz).trans e5
    have laid : ObjOk X.prog X.w (upd H s.heap.objs.size (.tup [x, y])) h'' s.heap.objs.size (.tup [x, y]) := ⟨by show 2 ≤ sizeLine; decide, [u', v'], .cons ru (.cons ru2 .nil), ⟨_, hT2, rfl, _, rfl⟩⟩
    have I1 : Inv X pins σ (upd H s.heap.objs.size (.tup [x, y])) { s with heap := h'', toks := tk } :=
      I.turnedNew (t' := tk) (ch := [z, TI, TO, i1, i2]) (fun c o hb q => by
        simp only [List.mem_cons, List.not_mem_nil, or_false, not_or] at hb
        obtain ⟨c1, c2, c3, c4, c5⟩ := hb
        exact (sb.2 c c1).trans (k c o c1 c3 c4 c5 q)) hf (Nat.le_refl _) laid
    have old : ∀ c ∈ [z, TI, TO, i1, i2], c < s.heap.objs.size := fun c hcm => by
      simp only [List.mem_cons, List.not_mem_nil, or_false] at hcm
      rcases hcm with rfl | rfl | rfl | rfl | rfl
      · exact zl
      · exact Heap.lt_size hTI
      · exact Heap.lt_size hTO
      · obtain ⟨_, e, _⟩ := h1; exact Heap.lt_size e
      · obtain ⟨_, e, _⟩ := h2; exact Heap.lt_size e
    refine ⟨.ref s.heap.objs.size, _, I1, rfl, ⟨_, x, y, rfl, I.hok.fresh (Nat.le_refl _), rfl, fun l hl => by rw [I.tuple_inj hl hqx]; exact hx, fun l hl => by rw [I.list_inj hl hqy]; exact hy⟩, ⟨z'', ?_, ⟨u', v', ?_⟩, ?_, ?_⟩, fun c hcm => ?_⟩
    · exact (sb.2 _ D.TIz).trans (k _ _ D.TIz D.TITO D.TIi1 D.TIi2 hTI)
    · exact (sb.2 _ D.TOz).trans e2
    · exact e3.1.at fun o q => (sb.2 _ (Ne.symm D.zi1)).trans q
    · exact e4.1.at fun o q => (sb.2 _ (Ne.symm D.zi2)).trans q
    · rw [upd_ne (Nat.ne_of_lt (old c hcm))]
      exact (hf c hcm).1
  done := by
    (intro X hP hw hK hc i pins s σ H E I hf st hg)
    subst hP hw hK
    (obtain ⟨hz, hTI, ⟨x0, y0, hTO⟩, h1, h2⟩ := st)
    obtain ⟨xs, ys, hqx, hqy, el, ei⟩ := hg
    (obtain ⟨its, rv, p, _⟩ := I.tuple hqx)
    (obtain ⟨its2, rv2, p2, _⟩ := I.list hqy)
    have l1 := rv.length
    have l2 := rv2.length
    have hh := I.ok.hd hc
    have s1 : its.toArray.size = i := by simp; omega
    have s2 : its2.toArray.size = i := by simp; omega
    refine wpAny_pyNext_zipD2_end D (Draws.tuple (A := X.A.in1) hh i1 a n1 its.toArray) (Draws.list (A := X.A.in1) hh i2 b n2 its2.toArray) hz hTI hTO ⟨h1, p⟩ ⟨h2, p2.isList⟩ (by omega) (by omega) (.inl s1.symm) fun h' tk k => ⟨rfl, ?_⟩
    exact I.turnedL (t' := tk) (ch := [z, TI, TO, i1, i2]) (fun c o hb q => by
      simp only [List.mem_cons, List.not_mem_nil, or_false, not_or] at hb
      obtain ⟨c1, c2, c3, c4, c5⟩ := hb
      exact k c o c1 c3 c4 c5 q) hf
  self := fun _ _ _ _ _ st h => wpAny_pyIter_zip st.1 h
def iZipM (K : PySem.W.Frag) (ta : TA) : L2.TI := fun σ H R => ta σ H fun vs H1 => ∃ a b xs ys, vs = [.ref a, .ref b] ∧ SqT K H1 a xs ∧ SqL K H1 b ys ∧ R (ItzM K a b) H1
theorem pi_zipM {X : Cx} {e e2 : Expr} {ta : TA} {p pos tpos : Pos} {elts : List Expr} {kk : Nat} (hg : Gl X "zip") (hm : X.mg "zip" = none) (ha : PA X [e, e2] ta) (hs : starEach [e, e2] X.env = (false, eval e X.env) :: starEach [e2] X.env := by rfl)
    (hpl : (backTo pos (starEach [e2] X.env)).any (·.1) = false := by rfl) : PI X (.Tuple elts kk tpos) (.Call (.Name "zip" p) [e, e2] [] pos) (iZipM X.K ta) := by
  refine ⟨fun pins s σ H R I h => PyProof.Rows.Call_ (ld_blt I hg hm PyProof.Rows.boot_zip (PyProof.Rows.callWith_type1 (thn (ha.run pos pins s σ H _ I h) fun us s1 ⟨vs, H1, I1, r1, q1⟩ => ?_) hs hpl))⟩
  (obtain ⟨a, b, xs, ys, ex, hqx, hqy, q⟩ := q1)
  subst ex
  cases r1 with | cons r rr =>
  cases rr with | cons r' rr =>
  cases rr
  cases r
  cases r'
  obtain ⟨its, rv, p1, _⟩ := I1.tuple hqx
  (obtain ⟨its2, rv2, p2, _⟩ := I1.list hqy)
  have B1 := beg_tup (h := s1.heap) (l := a) (xs := its) p1
  have B2 := beg_list (h := s1.heap) (l := b) (xs := its2) p2.isList
  have l1 : (a : Nat) < s1.heap.objs.size := B1.old
  have l2 : (b : Nat) < s1.heap.objs.size := B2.old
  refine zip_begins2 B1.b B2.b B1.now B2.now fun h' z1 z2 z3 z4 z5 z6 k => wpAny_pyIter_zip z1 ?_
  have I2 : Inv X pins σ H1 { s1 with heap := h' } := I1.kept (t' := s1.toks) k
  have sep : ZipSep2 (s1.heap.objs.size + 4) (s1.heap.objs.size + 2) (s1.heap.objs.size + 3) s1.heap.objs.size (s1.heap.objs.size + 1) [s1.heap.objs.size, a] [s1.heap.objs.size + 1, b] := by
    generalize s1.heap.objs.size = n at *
    have m1 : ∀ k : Nat, n + k ≠ a := fun k => Nat.ne_of_gt (Nat.lt_of_lt_of_le l1 (Nat.le_add_right _ _))
    have m2 : ∀ k : Nat, n + k ≠ b := fun k => Nat.ne_of_gt (Nat.lt_of_lt_of_le l2 (Nat.le_add_right _ _))
    have m3 : n ≠ a := m1 0
    have m4 : n ≠ b := m2 0
    have d1 : ∀ k : Nat, n + (k + 1) ≠ n := fun k => Nat.ne_of_gt (Nat.lt_add_of_pos_right (Nat.succ_pos k))
    refine ⟨?_, ?_, ?_, ?_, ?_, ?_, ?_, ?_, ?_, ?_, ?_, ?_, ?_⟩
    all_goals simp [m1, m2, m3, m4]
  have fresh : ∀ c ∈ [s1.heap.objs.size + 4, s1.heap.objs.size + 2, s1.heap.objs.size + 3, s1.heap.objs.size, s1.heap.objs.size + 1], FpOk X pins H1 c := fun c hcm => by
    have above : s1.heap.objs.size ≤ c := by
      simp only [List.mem_cons, List.not_mem_nil, or_false] at hcm
      rcases hcm with rfl | rfl | rfl | rfl | rfl
      · exact Nat.le_add_right _ _
      · exact Nat.le_add_right _ _
      · exact Nat.le_add_right _ _
      · exact Nat.le_refl _
      · exact Nat.le_add_right _ _
    exact I1.fpOk above (I1.hok.fresh above)
  exact ⟨s1.heap.objs.size + 4, _, _, _, H1, rfl, I2, turn_zipM sep (Nat.ne_of_lt l1) (Nat.ne_of_lt (Nat.lt_succ_of_lt l2)), ⟨z1, z2, ⟨_, _, z3⟩, ⟨_, z4, rfl, rfl⟩, ⟨_, z5, rfl, rfl⟩⟩, fresh, q⟩
def zipOfM (cs : Cs) : List D → Res Its
  | [.tup ds, .lst es] => if ds.length = es.length then .ok ⟨zipDD ds es, fun _ => True⟩ cs else .bad
  | _ => .bad
def iZpM (t : SA) : SI := fun sl cs => (t sl cs).bind fun ds cs1 => zipOfM cs1 ds
section
variable {K : PySem.W.Frag} {mg : Str → Option Value} {W : Wd} {H : Hp} {a b : Addr} {ds es : List D} {vs us : List V}
theorem itRep_zipM (hl : vs.length ≤ sizeLine) (h : W.fz a = some (.tup vs)) (r : Reps K W vs ds) (h2 : W.fz b = some (.lst us)) (r2 : Reps K W us es) (hde : ds.length = es.length) : ItRep K mg W H (ItzM K a b) ⟨zipDD ds es, fun _ => True⟩ where
  len := by
    show (zipDD ds es).length ≤ _
    unfold zipDD
    rw [List.length_map, List.length_zip, ← r.length]; omega
  go := fun W1 cs1 H1 i s S o hi => by
    have hi : i < (zipDD ds es).length := hi
    have hi : i < ds.length ∧ i < es.length := by
      unfold zipDD at hi
      rw [List.length_map, List.length_zip] at hi
      omega
    have g1 := S.fzt (s.le.fz _ _ h)
    have g2 := S.fzl (s.le.fz _ _ h2)
    obtain ⟨v, e, rv⟩ := (r.mono s.le).get (List.getElem?_eq_getElem hi.1)
    obtain ⟨u, e2, ru⟩ := (r2.mono s.le).get (List.getElem?_eq_getElem hi.2)
    refine ⟨⟨vs, us, v, u, .of g1, .of g2, e, e2⟩, fun x H2 ⟨T, x1, y1, p1, p2, p3, p4, p5⟩ => ?_⟩
    subst p1 p3
    have p4 := p4 vs (.of g1)
    rw [e] at p4; cases p4
    have p5 := p5 us (.of g2)
    rw [e2] at p5; cases p5
    obtain ⟨W2, s2, S2, r2⟩ := pair_step S p2 rv ru
    refine ⟨W2, _, ?_, s2, S2, r2⟩
    show (zipDD ds es)[i]? = _
    rw [zipDD_get, List.getElem?_eq_getElem hi.1, List.getElem?_eq_getElem hi.2]
  stop := fun W1 cs1 H1 s S o => by
    show (ItzM K a b).stop (zipDD ds es).length H1
    unfold zipDD
    rw [List.length_map, List.length_zip]
    have l1 := r.length
    have l2 := r2.length
    exact ⟨vs, us, .of (S.fzt (s.le.fz _ _ h)), .of (S.fzl (s.le.fz _ _ h2)), by omega, by omega⟩
end
section
variable {X : Cx} {Z : WX} {pos : Pos}
theorem fi_zipM {e e2 : Expr} {t : SA} {p tpos : Pos} {elts : List Expr} {kk : Nat} (hm : X.mg "zip" = none) (ha : FA X Z [e, e2] t) (hg : Gl X "zip" := by rfl) (hs : starEach [e, e2] X.env = (false, eval e X.env) :: starEach [e2] X.env := by rfl) (hpl : (backTo pos (starEach [e2] X.env)).any (·.1) = false := by rfl) :
    FI X Z (.Tuple elts kk tpos) (.Call (.Name "zip" p) [e, e2] [] pos) (iZpM t) := by
  refine ⟨fun pins s σ H R I ⟨W, sl, cs, S, L, q⟩ => (pi_zipM hg hm ha hs hpl).run pins s σ H R I ?_⟩
  refine fin_up1 (R1 := Reps X.K) S L q fun W1 d cs1 x H1 st1 S1 L1 r1 q1 => ?_
  unfold zipOfM at q1
  split at q1
  · split at q1
    · rename_i hde
      cases r1 with | cons r r1 =>
      cases r1 with | cons r' r1 =>
      cases r1
      cases r with
      | @tup a vs _ h hl r =>
        cases r' with
        | @lst b us _ h' hl' r' => exact ⟨a, b, vs, us, rfl, .of (S1.fzt h), .of (S1.fzl h'), q1.done S1 (itRep_zipM hl h r h' r' hde)⟩
    · exact q1.elim
  · exact q1.elim
end
section
variable {sl : Sl} {cs : Cs}
theorem s_iZpM {f : SA} {QI : Its → Cs → Prop} : Sat (iZpM f sl cs) QI = Sat (f sl cs) fun d cs1 => Sat (zipOfM cs1 d) QI := sat_bind _ _ _
theorem r_zpM {ds es : List D} (h : ds.length = es.length) : zipOfM cs [.tup ds, .lst es] = .ok ⟨zipDD ds es, fun _ => True⟩ cs := if_pos h
end
end LF

set_option Elab.async false
set_option maxRecDepth 100000
namespace LF
open PySem PySem.Spec L2
/-! ### a for over zip(a list, a tuple) -/
def ItzN (K : PySem.W.Frag) (a b : Addr) : It :=
  ⟨fun i H => ∃ (xs ys : List V) (x y : V), SqL K H a xs ∧ SqT K H b ys ∧ xs[i]? = some x ∧ ys[i]? = some y,
    fun i H v H' => ∃ T x y, v = .ref T ∧ H T = none ∧ H' = upd H T (.tup [x, y]) ∧ (∀ xs, SqL K H a xs → xs[i]? = some x) ∧ ∀ ys, SqT K H b ys → ys[i]? = some y,
    fun i H => ∃ xs ys : List V, SqL K H a xs ∧ SqT K H b ys ∧ xs.length = ys.length ∧ i = xs.length⟩
theorem turn_zipN {P : Program} {w : World} {K : PySem.W.Frag} {elts : List Expr} {kk : Nat} {tpos : Pos} {a b z TI TO i1 i2 : Addr} (D : ZipSep2 z TI TO i1 i2 [i1, a] [i2, b]) (n1 : a ≠ i1) (n2 : b ≠ i2) :
    L2.Turn P w K (.Tuple elts kk tpos) (ItzN K a b) [z, TI, TO, i1, i2] z (fun i h => IsZip h z TI TO .none ∧ IsTupOf2 h TI (.ref i1) (.ref i2) ∧ (∃ x y, IsTupOf2 h TO x y) ∧ h.IsListIter i1 a i ∧ h.IsTupleIter i2 b i) where
  mem := List.mem_cons_self ..
  obj := fun i h st c hc => by
    (obtain ⟨hz, hTI, ⟨x, y, hTO⟩, ⟨o1, e1, _, d1⟩, ⟨o2, e2, _, d2⟩⟩ := st)
    simp only [List.mem_cons, List.not_mem_nil, or_false] at hc
    rcases hc with rfl | rfl | rfl | rfl | rfl
    · exact ⟨_, hz, fun v q => nomatch q⟩
    · exact ⟨_, hTI, fun v q => nomatch q⟩
    · exact ⟨_, hTO, fun v q => nomatch q⟩
    · exact ⟨o1, e1, fun v q => by rw [d1] at q; cases q⟩
    · exact ⟨o2, e2, fun v q => by rw [d2] at q; cases q⟩
  keep := fun i h h' ⟨hz, hTI, ⟨x, y, hTO⟩, h1, h2⟩ k =>
    ⟨k z (by simp) _ hz, k TI (by simp) _ hTI, ⟨x, y, k TO (by simp) _ hTO⟩, h1.at fun o q => k i1 (by simp) o q, h2.at fun o q => k i2 (by simp) o q⟩
  item := by
    (intro X hP hw hK hc i pins s σ H E I hf st hg)
    subst hP hw hK
    (obtain ⟨hz, hTI, ⟨x0, y0, hTO⟩, h1, h2⟩ := st)
    (obtain ⟨xs, ys, x, y, hqx, hqy, hx, hy⟩ := hg)
    (obtain ⟨its, rv, p, _⟩ := I.list hqx)
    (obtain ⟨its2, rv2, p2, _⟩ := I.tuple hqy)
    (obtain ⟨u, hu, ru⟩ := rv.get hx)
    (obtain ⟨u2, hu2, ru2⟩ := rv2.get hy)
    have hh := I.ok.hd hc
    have zl : z < s.heap.objs.size := Heap.lt_size hz
    have lt1 : i < its.toArray.size := by simpa using (List.getElem?_eq_some_iff.mp hu).1
    have lt2 : i < its2.toArray.size := by simpa using (List.getElem?_eq_some_iff.mp hu2).1
    refine wpAny_pyNext_zipD2_item D (Draws.list (A := X.A.in1) hh i1 a n1 its.toArray) (Draws.tuple (A := X.A.in1) hh i2 b n2 its2.toArray) hz hTI hTO ⟨h1, p.isList⟩ ⟨h2, p2⟩ lt1 lt2 fun u' v' h' tk q1 q2 e1 e2 e3 e4 e5 e6 k => ?_
    have eu : u' = u := by
      have : its[i]? = some u' := by simpa using q1
      rw [hu] at this; cases this; rfl
    have ev : v' = u2 := by
      have : its2[i]? = some v' := by simpa using q2
      rw [hu2] at this; cases this; rfl
    subst eu ev
    refine ⟨_, rfl, wpAny_letOwnedTupleGo_zip (s := { s with heap := h', toks := tk }) e1 fun h'' z'' sb => ?_⟩
    have nz : s.heap.objs.size ≠ z := Nat.ne_of_gt zl
    have hT2 : h''.get? s.heap.objs.size = some { cls := .type "tuple", data := .seq #[u', v'] } := (sb.2 _ nz).trans e5
    have laid : ObjOk X.prog X.w (upd H s.heap.objs.size (.tup [x, y])) h'' s.heap.objs.size (.tup [x, y]) := ⟨by show 2 ≤ sizeLine; decide, [u', v'], .cons ru (.cons ru2 .nil), ⟨_, hT2, rfl, _, rfl⟩⟩
    have I1 : Inv X pins σ (upd H s.heap.objs.size (.tup [x, y])) { s with heap := h'', toks := tk } :=
      I.turnedNew (t' := tk) (ch := [z, TI, TO, i1, i2]) (fun c o hb q => by
        simp only [List.mem_cons, List.not_mem_nil, or_false, not_or] at hb
        obtain ⟨c1, c2, c3, c4, c5⟩ := hb
        exact (sb.2 c c1).trans (k c o c1 c3 c4 c5 q)) hf (Nat.le_refl _) laid
    have old : ∀ c ∈ [z, TI, TO, i1, i2], c < s.heap.objs.size := fun c hcm => by
      simp only [List.mem_cons, List.not_mem_nil, or_false] at hcm
      rcases hcm with rfl | rfl | rfl | rfl | rfl
      · exact zl
      · exact Heap.lt_size hTI
      · exact Heap.lt_size hTO
      · obtain ⟨_, e, _⟩ := h1; exact Heap.lt_size e
      · obtain ⟨_, e, _⟩ := h2; exact Heap.lt_size e
    refine ⟨.ref s.heap.objs.size, _, I1, rfl, ⟨_, x, y, rfl, I.hok.fresh (Nat.le_refl _), rfl, fun l hl => by rw [I.list_inj hl hqx]; exact hx, fun l hl => by rw [I.tuple_inj hl hqy]; exact hy⟩, ⟨z'', ?_, ⟨u', v', ?_⟩, ?_, ?_⟩, fun c hcm => ?_⟩
    · exact (sb.2 _ D.TIz).trans (k _ _ D.TIz D.TITO D.TIi1 D.TIi2 hTI)
    · exact (sb.2 _ D.TOz).trans e2
    · exact e3.1.at fun o q => (sb.2 _ (Ne.symm D.zi1)).trans q
    · exact e4.1.at fun o q => (sb.2 _ (Ne.symm D.zi2)).trans q
    · rw [upd_ne (Nat.ne_of_lt (old c hcm))]
      exact (hf c hcm).1
  done := by
    (intro X hP hw hK hc i pins s σ H E I hf st hg)
    subst hP hw hK
    (obtain ⟨hz, hTI, ⟨x0, y0, hTO⟩, h1, h2⟩ := st)
    obtain ⟨xs, ys, hqx, hqy, el, ei⟩ := hg
    (obtain ⟨its, rv, p, _⟩ := I.list hqx)
    (obtain ⟨its2, rv2, p2, _⟩ := I.tuple hqy)
    have l1 := rv.length
    have l2 := rv2.length
    have hh := I.ok.hd hc
    have s1 : its.toArray.size = i := by simp; omega
    have s2 : its2.toArray.size = i := by simp; omega
    refine wpAny_pyNext_zipD2_end D (Draws.list (A := X.A.in1) hh i1 a n1 its.toArray) (Draws.tuple (A := X.A.in1) hh i2 b n2 its2.toArray) hz hTI hTO ⟨h1, p.isList⟩ ⟨h2, p2⟩ (by omega) (by omega) (.inl s1.symm) fun h' tk k => ⟨rfl, ?_⟩
    exact I.turnedL (t' := tk) (ch := [z, TI, TO, i1, i2]) (fun c o hb q => by
      simp only [List.mem_cons, List.not_mem_nil, or_false, not_or] at hb
      obtain ⟨c1, c2, c3, c4, c5⟩ := hb
      exact k c o c1 c3 c4 c5 q) hf
  self := fun _ _ _ _ _ st h => wpAny_pyIter_zip st.1 h
def iZipN (K : PySem.W.Frag) (ta : TA) : L2.TI := fun σ H R => ta σ H fun vs H1 => ∃ a b xs ys, vs = [.ref a, .ref b] ∧ SqL K H1 a xs ∧ SqT K H1 b ys ∧ R (ItzN K a b) H1
theorem pi_zipN {X : Cx} {e e2 : Expr} {ta : TA} {p pos tpos : Pos} {elts : List Expr} {kk : Nat} (hg : Gl X "zip") (hm : X.mg "zip" = none) (ha : PA X [e, e2] ta) (hs : starEach [e, e2] X.env = (false, eval e X.env) :: starEach [e2] X.env := by rfl)
    (hpl : (backTo pos (starEach [e2] X.env)).any (·.1) = false := by rfl) : PI X (.Tuple elts kk tpos) (.Call (.Name "zip" p) [e, e2] [] pos) (iZipN X.K ta) := by
  refine ⟨fun pins s σ H R I h => PyProof.Rows.Call_ (ld_blt I hg hm PyProof.Rows.boot_zip (PyProof.Rows.callWith_type1 (thn (ha.run pos pins s σ H _ I h) fun us s1 ⟨vs, H1, I1, r1, q1⟩ => ?_) hs hpl))⟩
  (obtain ⟨a, b, xs, ys, ex, hqx, hqy, q⟩ := q1)
  subst ex
  cases r1 with | cons r rr =>
  cases rr with | cons r' rr =>
  cases rr
  cases r
  cases r'
  (obtain ⟨its, rv, p1, _⟩ := I1.list hqx)
  (obtain ⟨its2, rv2, p2, _⟩ := I1.tuple hqy)
  have B1 := beg_list (h := s1.heap) (l := a) (xs := its) p1.isList
  have B2 := beg_tup (h := s1.heap) (l := b) (xs := its2) p2
  have l1 : (a : Nat) < s1.heap.objs.size := B1.old
  have l2 : (b : Nat) < s1.heap.objs.size := B2.old
  refine zip_begins2 B1.b B2.b B1.now B2.now fun h' z1 z2 z3 z4 z5 z6 k => wpAny_pyIter_zip z1 ?_
  have I2 : Inv X pins σ H1 { s1 with heap := h' } := I1.kept (t' := s1.toks) k
  have sep : ZipSep2 (s1.heap.objs.size + 4) (s1.heap.objs.size + 2) (s1.heap.objs.size + 3) s1.heap.objs.size (s1.heap.objs.size + 1) [s1.heap.objs.size, a] [s1.heap.objs.size + 1, b] := by
    generalize s1.heap.objs.size = n at *
    have m1 : ∀ k : Nat, n + k ≠ a := fun k => Nat.ne_of_gt (Nat.lt_of_lt_of_le l1 (Nat.le_add_right _ _))
    have m2 : ∀ k : Nat, n + k ≠ b := fun k => Nat.ne_of_gt (Nat.lt_of_lt_of_le l2 (Nat.le_add_right _ _))
    have m3 : n ≠ a := m1 0
    have m4 : n ≠ b := m2 0
    have d1 : ∀ k : Nat, n + (k + 1) ≠ n := fun k => Nat.ne_of_gt (Nat.lt_add_of_pos_right (Nat.succ_pos k))
    refine ⟨?_, ?_, ?_, ?_, ?_, ?_, ?_, ?_, ?_, ?_, ?_, ?_, ?_⟩
    all_goals simp [m1, m2, m3, m4]
  have fresh : ∀ c ∈ [s1.heap.objs.size + 4, s1.heap.objs.size + 2, s1.heap.objs.size + 3, s1.heap.objs.size, s1.heap.objs.size + 1], FpOk X pins H1 c := fun c hcm => by
    have above : s1.heap.objs.size ≤ c := by
      simp only [List.mem_cons, List.not_mem_nil, or_false] at hcm
      rcases hcm with rfl | rfl | rfl | rfl | rfl
      · exact Nat.le_add_right _ _
      · exact Nat.le_add_right _ _
      · exact Nat.le_add_right _ _
      · exact Nat.le_refl _
      · exact Nat.le_add_right _ _
    exact I1.fpOk above (I1.hok.fresh above)
  exact ⟨s1.heap.objs.size + 4, _, _, _, H1, rfl, I2, turn_zipN sep (Nat.ne_of_lt l1) (Nat.ne_of_lt (Nat.lt_succ_of_lt l2)), ⟨z1, z2, ⟨_, _, z3⟩, ⟨_, z4, rfl, rfl⟩, ⟨_, z5, rfl, rfl⟩⟩, fresh, q⟩
def zipOfN (cs : Cs) : List D → Res Its
  | [.lst ds, .tup es] => if ds.length = es.length then .ok ⟨zipDD ds es, fun _ => True⟩ cs else .bad
  | _ => .bad
def iZpN (t : SA) : SI := fun sl cs => (t sl cs).bind fun ds cs1 => zipOfN cs1 ds
section
variable {K : PySem.W.Frag} {mg : Str → Option Value} {W : Wd} {H : Hp} {a b : Addr} {ds es : List D} {vs us : List V}
theorem itRep_zipN (hl : vs.length ≤ sizeLine) (h : W.fz a = some (.lst vs)) (r : Reps K W vs ds) (h2 : W.fz b = some (.tup us)) (r2 : Reps K W us es) (hde : ds.length = es.length) : ItRep K mg W H (ItzN K a b) ⟨zipDD ds es, fun _ => True⟩ where
  len := by
    show (zipDD ds es).length ≤ _
    unfold zipDD
    rw [List.length_map, List.length_zip, ← r.length]; omega
  go := fun W1 cs1 H1 i s S o hi => by
    have hi : i < (zipDD ds es).length := hi
    have hi : i < ds.length ∧ i < es.length := by
      unfold zipDD at hi
      rw [List.length_map, List.length_zip] at hi
      omega
    have g1 := S.fzl (s.le.fz _ _ h)
    have g2 := S.fzt (s.le.fz _ _ h2)
    obtain ⟨v, e, rv⟩ := (r.mono s.le).get (List.getElem?_eq_getElem hi.1)
    obtain ⟨u, e2, ru⟩ := (r2.mono s.le).get (List.getElem?_eq_getElem hi.2)
    refine ⟨⟨vs, us, v, u, .of g1, .of g2, e, e2⟩, fun x H2 ⟨T, x1, y1, p1, p2, p3, p4, p5⟩ => ?_⟩
    subst p1 p3
    have p4 := p4 vs (.of g1)
    rw [e] at p4; cases p4
    have p5 := p5 us (.of g2)
    rw [e2] at p5; cases p5
    obtain ⟨W2, s2, S2, r2⟩ := pair_step S p2 rv ru
    refine ⟨W2, _, ?_, s2, S2, r2⟩
    show (zipDD ds es)[i]? = _
    rw [zipDD_get, List.getElem?_eq_getElem hi.1, List.getElem?_eq_getElem hi.2]
  stop := fun W1 cs1 H1 s S o => by
    show (ItzN K a b).stop (zipDD ds es).length H1
    unfold zipDD
    rw [List.length_map, List.length_zip]
    have l1 := r.length
    have l2 := r2.length
    exact ⟨vs, us, .of (S.fzl (s.le.fz _ _ h)), .of (S.fzt (s.le.fz _ _ h2)), by omega, by omega⟩
end
section
variable {X : Cx} {Z : WX} {pos : Pos}
theorem fi_zipN {e e2 : Expr} {t : SA} {p tpos : Pos} {elts : List Expr} {kk : Nat} (hm : X.mg "zip" = none) (ha : FA X Z [e, e2] t) (hg : Gl X "zip" := by rfl) (hs : starEach [e, e2] X.env = (false, eval e X.env) :: starEach [e2] X.env := by rfl) (hpl : (backTo pos (starEach [e2] X.env)).any (·.1) = false := by rfl) :
    FI X Z (.Tuple elts kk tpos) (.Call (.Name "zip" p) [e, e2] [] pos) (iZpN t) := by
  refine ⟨fun pins s σ H R I ⟨W, sl, cs, S, L, q⟩ => (pi_zipN hg hm ha hs hpl).run pins s σ H R I ?_⟩
  refine fin_up1 (R1 := Reps X.K) S L q fun W1 d cs1 x H1 st1 S1 L1 r1 q1 => ?_
  unfold zipOfN at q1
  split at q1
  · split at q1
    · rename_i hde
      cases r1 with | cons r r1 =>
      cases r1 with | cons r' r1 =>
      cases r1
      cases r with
      | @lst a vs _ h hl r =>
        cases r' with
        | @tup b us _ h' hl' r' => exact ⟨a, b, vs, us, rfl, .of (S1.fzl h), .of (S1.fzt h'), q1.done S1 (itRep_zipN hl h r h' r' hde)⟩
    · exact q1.elim
  · exact q1.elim
end
section
variable {sl : Sl} {cs : Cs}
theorem s_iZpN {f : SA} {QI : Its → Cs → Prop} : Sat (iZpN f sl cs) QI = Sat (f sl cs) fun d cs1 => Sat (zipOfN cs1 d) QI := sat_bind _ _ _
theorem r_zpN {ds es : List D} (h : ds.length = es.length) : zipOfN cs [.lst ds, .tup es] = .ok ⟨zipDD ds es, fun _ => True⟩ cs := if_pos h
end
end LF

set_option Elab.async false
set_option maxRecDepth 100000
namespace LF
open PySem PySem.Spec L2 GF
/-! ### papers of any kind: rows of names -/
def papD (pap : List (List (List Nat))) : List D := pap.map fun e => .tup (namesD e)
theorem papD_length (pap : List (List (List Nat))) : (papD pap).length = pap.length := by unfold papD; rw [List.length_map]
theorem papD_get (pap : List (List (List Nat))) (i : Nat) : (papD pap)[i]? = (pap[i]?).map fun e => D.tup (namesD e) := by unfold papD; rw [List.getElem?_map]
theorem papD_snoc (a : List (List (List Nat))) (e : List (List Nat)) : papD a ++ [D.tup (namesD e)] = papD (a ++ [e]) := by unfold papD; rw [List.map_append]; rfl
theorem papD_append (a b : List (List (List Nat))) : papD a ++ papD b = papD (a ++ b) := by unfold papD; rw [List.map_append]
theorem papD_take (a : List (List (List Nat))) (n : Nat) : (papD a).take n = papD (a.take n) := by unfold papD; rw [List.map_take]
theorem papD_drop (a : List (List (List Nat))) (n : Nat) : (papD a).drop n = papD (a.drop n) := by unfold papD; rw [List.map_drop]
theorem papD_set (a : List (List (List Nat))) (n : Nat) (e : List (List Nat)) : (papD a).set n (.tup (namesD e)) = papD (a.set n e) := by unfold papD; rw [List.map_set]
theorem papD_erase (a : List (List (List Nat))) (n : Nat) : (papD a).eraseIdx n = papD (a.eraseIdx n) := by
  rw [List.eraseIdx_eq_take_drop_succ, List.eraseIdx_eq_take_drop_succ, papD_take, papD_drop, papD_append]
theorem bels_pap (n : Nat) : ∀ l : List (List (List Nat)), D.bels n (papD l) = true
  | [] => rfl
  | m :: r => by
    have := bels_pap n r
    unfold papD at this ⊢
    rw [List.map_cons, D.bels, this, D.bel, bels_names]; rfl
theorem namesD_drop (a : List (List Nat)) (n : Nat) : (namesD a).drop n = namesD (a.drop n) := by unfold namesD; rw [List.map_drop]
theorem namesD_append (a b : List (List Nat)) : namesD a ++ namesD b = namesD (a ++ b) := by unfold namesD; rw [List.map_append]
theorem namesD_rev (a : List (List Nat)) : (namesD a).reverse = namesD a.reverse := by unfold namesD; rw [List.map_reverse]
structure PapOk (n m : Nat) (pap : List (List (List Nat))) : Prop where
  len : pap.length ≤ n
  row : ∀ e ∈ pap, e.length ≤ m ∧ Sg e
theorem PapOk.mono {n m n' m' : Nat} {pap : List (List (List Nat))} (h : PapOk n m pap) (h1 : n ≤ n') (h2 : m ≤ m') : PapOk n' m' pap := ⟨Nat.le_trans h.len h1, fun e he => ⟨Nat.le_trans (h.row e he).1 h2, (h.row e he).2⟩⟩
theorem pyOk_names {k : Nat} {e : List (List Nat)} (h : Sg e) : PyOk (k + 1) (.tup (namesD e)) := pyOk_tup fun d hd => by
  unfold namesD at hd
  obtain ⟨l, hl, rfl⟩ := List.mem_map.mp hd
  exact pyOk_str k (h l hl)
theorem PapOk.py {n m : Nat} {pap : List (List (List Nat))} (h : PapOk n m pap) : ∀ d ∈ papD pap, PyOk 1 d := fun d hd => by
  unfold papD at hd
  obtain ⟨e, he, rfl⟩ := List.mem_map.mp hd
  exact pyOk_names (k := 0) (h.row e he).2
theorem pyOk_heap {hp : List (List Nat × Nat)} (h : ∀ p ∈ hp, ∀ c ∈ p.1, c < 1114112) : ∀ d ∈ heapD hp, PyOk 1 d := fun d hd => by
  unfold heapD at hd
  obtain ⟨p, hp', rfl⟩ := List.mem_map.mp hd
  refine pyOk_tup fun x hx => ?_
  (simp only [List.mem_cons, List.not_mem_nil, or_false] at hx)
  rcases hx with rfl | rfl
  · exact pyOk_str 0 (h p hp')
  · exact pyOk_int 0 _
theorem Sg.sub {a b : List (List Nat)} (h : Sg a) (hb : ∀ l ∈ b, l ∈ a) : Sg b := fun l hl => h l (hb l hl)
theorem Sg.app {a b : List (List Nat)} (h : Sg a) (hb : Sg b) : Sg (a ++ b) := fun l hl => by
  rcases List.mem_append.mp hl with q | q
  · exact h l q
  · exact hb l q
/-- whether names are a thing's row -/
def shB (hp : List (List Nat × Nat)) (ws : List (List Nat × Int)) (g : List Nat) (k : Nat) (nms : List (List Nat)) : Bool :=
  decide ((((g.map (thA hp)).filter fun p => decide (p.1 ∈ nms)).map (·.1)) = nms) && (decide (xsum (·.2) ((g.map (thA hp)).filter fun p => decide (p.1 ∈ nms)) = nuA hp k) && decide (∀ l ∈ nms, ¬ wt ws l < wt ws (nmA hp k)))
/-- whether a paper shows it -/
def allB (hp : List (List Nat × Nat)) (ws : List (List Nat × Int)) (g : List Nat) : List Nat → List (List (List Nat)) → Bool
  | k :: ks, e :: es => shB hp ws g k e && allB hp ws g ks es
  | _, _ => true
theorem allB_snoc (hp : List (List Nat × Nat)) (ws : List (List Nat × Int)) (g : List Nat) (k : Nat) (e : List (List Nat)) : ∀ (ks : List Nat) (es : List (List (List Nat))), ks.length = es.length → allB hp ws g (ks ++ [k]) (es ++ [e]) = (allB hp ws g ks es && shB hp ws g k e)
  | [], [], _ => by simp [allB]
  | [], _ :: _, h => by cases h
  | _ :: _, [], h => by cases h
  | a :: ks, b :: es, h => by
    rw [List.cons_append, List.cons_append, allB, allB, allB_snoc hp ws g k e ks es (by simpa using h), Bool.and_assoc]
theorem allB_pre (hp : List (List Nat × Nat)) (ws : List (List Nat × Int)) (g : List Nat) {i k : Nat} {e : List (List Nat)} : ∀ {ks : List Nat} {es : List (List (List Nat))}, ks[i]? = some k → es[i]? = some e → shB hp ws g k e = false → allB hp ws g ks es = false := by
  induction i with
  | zero =>
    intro ks es h1 h2 h3
    cases ks with
    | nil => simp at h1
    | cons a ks => cases es with
      | nil => simp at h2
      | cons b es =>
        simp at h1 h2
        rw [allB, h1, h2, h3]; rfl
  | succ i ih =>
    intro ks es h1 h2 h3
    cases ks with
    | nil => simp at h1
    | cons a ks => cases es with
      | nil => simp at h2
      | cons b es => rw [allB, ih (by simpa using h1) (by simpa using h2) h3, Bool.and_false]
theorem grd_rise (v : Nat → Nat) {l : List Nat} (nd : l.Nodup) (m : Int) : (srtn (grd v l m)).Pairwise (· < ·) := by
  have h1 := srtn_le (grd v l m)
  have h2 : (srtn (grd v l m)).Nodup := (srtn_perm _).nodup_iff.mpr (((List.take_sublist _ _).trans (fgo_sublist v l [])).nodup nd)
  exact (h1.imp₂ fun a b h3 h4 => by omega) h2
end LF

set_option Elab.async false
set_option maxRecDepth 100000
namespace LF
open PySem PySem.Spec L2
/-! ### xs.index(x), a list of flat data -/
def mIndex (d : D) (ds : List D) (cs : Cs) : Res D := match ds with
  | [e] => match d with
    | .lst xs => match flV e, flVs xs with
      | some v, some vs => match vs.findIdx? (fun z => eqV z v) with
        | some j => .ok (.int (j : Nat)) cs
        | none => .bad
      | _, _ => .bad
    | _ => .bad
  | _ => .bad
theorem ok_index {K : PySem.W.Frag} {mg : Str → Option Value} : OkM K mg (rIndex K) mIndex := by
  intro Z W cs H σ x xs d ds Q S r rs q
  unfold mIndex at q
  split at q
  · rename_i e
    obtain ⟨u, rfl, re⟩ := reps1 rs
    split at q
    · rename_i ys
      split at q
      · rename_i v vs h1 h2
        split at q
        · rename_i j hj
          cases r with
          | @lst a us _ hz hl r =>
            obtain ⟨e1, f1⟩ := flV_rep re h1
            obtain ⟨e2, f2⟩ := flVs_rep r h2
            subst e1 e2
            rw [List.findIdx?_eq_some_iff_getElem] at hj
            obtain ⟨hj1, hj2, hj3⟩ := hj
            exact ⟨a, us, u, j, us[j], rfl, rfl, .of (S.fzl hz), f1, f2, List.getElem?_eq_getElem hj1, hj2, fun m z' hm hz' => by
              obtain ⟨hm2, e3⟩ := List.getElem?_eq_some_iff.mp hz'
              have := hj3 m hm
              rw [e3] at this
              simpa using this, q.ret S (.int _)⟩
        · exact q.elim
      · exact q.elim
    · exact q.elim
  · exact q.elim
section
variable {X : Cx} {Z : WX} {pos : Pos} {a b : Expr} {f : SE} {t : SA}
theorem fe_index {apos : Pos} (ho : FE X Z a f) (ha : FA X Z [b] t) (hbase : attributeBase a "index" X.env (eval a X.env) = eval a X.env := by rfl)
    (hfew : ((backTo pos (starEach [b] X.env)).all (fun x => !x.1) && (backToKw pos (keywordEach [] X.env)).all (fun x => x.1.isSome)
      && decide ([b].length + ([] : List Keyword).length + (if ([] : List Keyword).isEmpty then 0 else 1) < 30)) = true := by rfl)
    (hline : (apos.endLine == pos.line) = true := by rfl) (hs : starEach [b] X.env = (false, eval b X.env) :: starEach [] X.env := by rfl) (hplain : (backTo pos (starEach [] X.env)).any (·.1) = false := by rfl) :
    FE X Z (.Call (.Attribute a "index" apos) [b] [] pos) (eMt isLD mIndex f t) := fe_bm (T := "list") ty_list ok_index PySem.F.plainAttrs_list PySem.F.slot_list_index PySem.F.type_list_index mt_index ho ha hbase hfew hline hs hplain
end
theorem r_isL {cs : Cs} {ds : List D} : isLD cs (.lst ds) = true := rfl
/-- the place of a name -/
theorem r_indexS {cs : Cs} {ns : List (List Nat)} (nd : ns.Nodup) {j : Nat} {l : List Nat} (h : ns[j]? = some l) : mIndex (.lst (namesD ns)) [.str (strL l)] cs = .ok (.int (j : Nat)) cs := by
  have hj := (List.getElem?_eq_some_iff.mp h).1
  have e : (ns.map fun n => V.str (strL n)).findIdx? (fun z => eqV z (.str (strL l))) = some j := by
    rw [List.findIdx?_eq_some_iff_getElem]
    refine ⟨by rw [List.length_map]; exact hj, ?_, fun k hk => ?_⟩
    · rw [List.getElem_map, (List.getElem?_eq_some_iff.mp h).2]
      show decide _ = true
      exact decide_eq_true rfl
    · rw [List.getElem_map]
      have ne : ns[k] ≠ l := fun z => by
        have : k = j := (List.getElem?_inj (l := ns) (by omega) nd).mp (by rw [List.getElem?_eq_getElem (by omega), h, z])
        omega
      show ¬ decide _ = true
      simp only [decide_eq_true_eq]
      intro z
      exact ne (strL_inj z)
  unfold mIndex
  dsimp only
  rw [flVs_names]
  show (match (ns.map fun n => V.str (strL n)).findIdx? (fun z => eqV z (.str (strL l))) with | some j => Res.ok (D.int (j : Nat)) cs | none => .bad) = _
  rw [e]
/-- an own class over ValueError, by its object -/
def oexO (kd : ClassData) (sls : Array (Option Value)) (C : Addr) : Bool := match kd.mro, sls.toList with
  | .ref D :: bm, [_, _, _, _, some (.builtin n), _] => D == C && n == "ValueError.__new__" && !kd.hasDel && kd.hasDict && PySem.HandSPX.refsVE bm
  | _, _ => false
theorem oexB_of {K : PySem.W.Frag} {C : Addr} {od : Option Addr} {kd : ClassData} {sls : Array (Option Value)} (h : K.lookup C = some ⟨.type "type", od, .cls kd, sls⟩) (q : oexO kd sls C = true) : oexB K C = true := by
  unfold oexB
  rw [h]
  exact q
end LF

set_option Elab.async false
set_option linter.all false
set_option maxRecDepth 100000
set_option maxHeartbeats 3900000
namespace OL
open PySem L2 LF GF
local macro_rules | `(tactic| walk_at "run1") => `(tactic| simp only [↓s_eV, ↓s_eC, ↓s_e1, ↓s_e2, ↓s_eN, ↓s_aNil, ↓s_aCons, ↓s_tV, ↓s_tTr, ↓s_tAnd, ↓s_tOr, ↓s_tNot, ↓s_tYesS, s_gT2L, s_gT2T, ↓s_eGet2, ↓s_eD0, ↓s_eD1, ↓s_eD1b, r_mkDF, r_mkDC, ↓s_eIf, ↓s_eCh, ↓s_eAnd, ↓s_eOr, ↓s_eNot, ↓s_eMt, ↓s_eSl, ↓s_eLc, wipeS, ↓s_oNo, ↓s_oSome, ↓s_eFrz, ↓nxt_nx, ↓nxt_rt, ↓nxt_bk, ↓nxt_ct, ↓s_sNx, ↓s_sRetN, ↓s_sBk, ↓s_sCt, ↓s_iSeq, ↓s_iRg1, ↓s_iRg2, ↓s_iEn, ↓s_iRg3, ↓s_iZp, ↓s_iZpM, ↓s_iZpN, ↓s_eIsi, ↓s_eIsE, ↓s_sRz, ↓nxt_ex, ↓tryd_nx, ↓tryd_rt, ↓sut_nx, ↓sut_rt,
  List.getElem?_cons_zero, List.getElem?_cons_succ, List.set_cons_zero, List.set_cons_succ, List.map_cons, List.map_nil, List.replicate, List.cons_append, List.nil_append, sat_ok, s_iteb,
  r_sub, r_mul, r_div, r_mod, r_pow, r_shl, r_shr, r_band, r_bor, r_xor, r_lt, r_le, r_gt, r_ge, r_neg, r_add, r_addT, r_addL, r_sliceS, r_sliceL, r_sliceT, cutD_hi, r_eq, r_ne, r_isNN, r_isNI, r_isNT, r_notNN, r_notNI, r_notNT, r_isBB, r_eqB, r_neB, r_eqNN, r_neNN, r_eqIN, r_eqNI, r_neIN, r_neNI, r_inL, r_inT, r_max, r_min, r_abs, r_int, r_intB, r_bits, r_revL, r_revT, r_tupT, r_tupL, r_listL, r_listT, r_lenL, r_lenT, r_lenS, r_mkF, r_mkC, r_mkL', r_mkT, r_rg1, r_rg2, r_sqL, r_sqT, r_sqS, r_enL, r_enT, if_true, Nat.reduceLeDiff, List.length_cons, List.length_nil, Nat.reduceAdd, true_and, and_true, Nat.reduceSub, Int.reduceLT])
local macro_rules | `(tactic| walk_at "run") => `(tactic| try walk_at "run1")
local macro_rules | `(tactic| walk_at "cond") => `(tactic| first | with_reducible assumption | (with_reducible refine cmul_r ?_; decide) | (with_reducible refine cmul_l ?_; decide) | (with_reducible refine cmul_l ?_; exact ⟨by omega, by omega⟩) | (with_reducible refine cmul_r ?_; exact ⟨by omega, by omega⟩) | (with_reducible refine cdiv_of ?_ ?_ <;> omega) | (with_reducible refine cpow_lit ?_; decide) | (with_reducible refine cpow_of ?_ ?_ ?_ ?_ <;> omega) | (with_reducible refine rgOk_of ?_ ?_ ?_ ?_ <;> omega) | (with_reducible refine sizeLe ?_; omega) | (with_reducible refine sizeLt ?_; omega) | omega)
local macro_rules | `(tactic| walk_at "go") => `(tactic| repeat (first | with_reducible refine w_sSeq ?_ | with_reducible refine w_sSet ?_ | with_reducible refine w_sExpr ?_ | with_reducible refine w_sRet ?_ | with_reducible refine w_sIf ?_ | with_reducible refine w_sSub ?_ | with_reducible refine w_sAsg ?_ | with_reducible refine w_sFor ?_ | walk_at "run1" | refine And.intro (by walk_at "cond") ?_))

local macro_rules | `(tactic| walk_at "same") => `(tactic| first | exact ⟨trOk_same (by simp [D.bel]), rfl, List.take_length⟩ | exact ⟨trOk_same (by simp [D.bel]), List.take_length⟩ | exact ⟨trOk_same (by simp [D.bel, bels_nats]), rfl, List.take_length⟩ | exact ⟨trOk_same (by simp [D.bel, bels_nats]), List.take_length⟩ | exact ⟨trOk_same (by simp [D.bel, bels_nats]), by simp⟩)

local macro_rules | `(tactic| walk_at "go1") => `(tactic| repeat (first | with_reducible refine w_sSet ?_ | with_reducible refine w_sExpr ?_ | with_reducible refine w_sRet ?_ | with_reducible refine w_sIf ?_ | with_reducible refine w_sSub ?_ | with_reducible refine w_sAsg ?_ | with_reducible refine w_sFor ?_ | walk_at "run1" | refine And.intro (by walk_at "cond") ?_))
local macro_rules | `(tactic| walk_at "step") => `(tactic| (with_reducible refine w_sSeq ?_; walk_at "go1"))

noncomputable abbrev b_law_deck : SS :=
 (sRet (eN (mkL' true) (aCons (eSl false (eV 0) oNo (oSome (eC (.int 63)))) (aCons (eC (.int 0)) (aCons (eC (.int 0)) (aCons (eC (.int 0)) (aCons (eN bSum (aCons (eSl false (eV 0) oNo (oSome (eC (.int 63)))) aNil)) aNil)))))))
noncomputable def f_law_deck : Fn := semMk 1 1 b_law_deck

theorem deck_ok (ns : List Int) (cs : Cs) : Sat (f_law_deck [.scr ns] cs) fun d cs' => d = .cel cs.length ∧ ∃ ds, DeckP 0 ds ∧ cs' = cs ++ [some (.lst ds)] := by
  refine sat_mk rfl ?_
  walk_at "go"
  have e63 : (some (63 : Int)) = some ((63 : Nat) : Int) := rfl
  rw [e63, cutD_hi, intsD_take, r_sumI]
  walk_at "go"
  exact ⟨_, ⟨ns.take 63, 0, 0, (ns.take 63).sum, 0, rfl, by omega, by simp, by rw [List.length_take]; omega, Nat.le_refl _⟩, rfl⟩

noncomputable abbrev b_law_mix : SS :=
 (sSeq (sSet 2 (e2 (pAdd false) (e2 pMod (eV 0) (eC (.int 2147483629))) (e2 pMul (e2 pMul (eC (.int 1000003)) (eV 1)) (eV 1))))
 (sSeq (sSet 2 (e2 pMod (e2 (pAdd false) (eV 2) (e2 pMul (eC (.int 7919)) (eV 1))) (eC (.int 2147483629))))
 (sSeq (sSet 2 (e2 pMod (e2 pMul (eV 2) (eV 2)) (eC (.int 2147483587))))
 (sRet (e2 pDiv (e2 pMod (e2 pMul (eV 2) (e2 (pAdd false) (eV 2) (eC (.int 40961)))) (eC (.int 2147483563))) (eC (.int 4)))))))
noncomputable def f_law_mix : Fn := semDef 2 3 b_law_mix

theorem mix_ok (cell k : Int) (h0 : 0 ≤ k) (h1 : k < 2 ^ 40) (cs : Cs) : ∃ r : Int, f_law_mix [.int cell, .int k] cs = .ok (.int r) cs := by
  suffices h : Sat (f_law_mix [.int cell, .int k] cs) fun d cs' => (∃ r : Int, d = .int r) ∧ cs' = cs by
    obtain ⟨_, _, e, ⟨r, rfl⟩, rfl⟩ := h.ex
    exact ⟨r, e⟩
  refine sat_def rfl ?_
  walk_at "go"
  exact ⟨trOk_same (by simp [D.bel]), ⟨_, rfl⟩, List.take_length⟩

noncomputable abbrev b_law_next : SS :=
 (sSeq (sIf (tAnd (tV (e2 pEq (e2 pItem (eV 0) (eC (.int 2))) (eC (.int 0)))) (tV (e2 pLt (e2 pItem (eV 0) (eC (.int 1))) (eN bLen (aCons (e2 pItem (eV 0) (eC (.int 0))) aNil)))))
 (sSeq (sSet 2 (e2 pItem (e2 pItem (eV 0) (eC (.int 0))) (e2 pItem (eV 0) (eC (.int 1)))))
 (sSeq (sSub pSetL (eV 0) (eC (.int 1)) (e2 (pAdd false) (e2 pItem (eV 0) (eC (.int 1))) (eC (.int 1))))
 (sSeq (sIf (tV (e2 pLt (eV 2) (e2 pPow (eC (.int 10)) (eC (.int 18)))))
 (sRet (e2 pMod (eN (callF 2 f_law_mix) (aCons (eV 2) (aCons (e2 pItem (eV 0) (eC (.int 1))) aNil))) (eV 1)))
 sNx)
 (sSub pSetL (eV 0) (eC (.int 2)) (eV 2)))))
 sNx)
 (sSeq (sIf (tV (e2 pGt (e2 pItem (eV 0) (eC (.int 2))) (eC (.int 0))))
 (sSeq (sSet 3 (e2 pMod (e2 pItem (eV 0) (eC (.int 2))) (eV 1)))
 (sSeq (sSub pSetL (eV 0) (eC (.int 2)) (e2 pDiv (e2 pItem (eV 0) (eC (.int 2))) (eV 1)))
 (sRet (eV 3))))
 sNx)
 (sSeq (sSub pSetL (eV 0) (eC (.int 3)) (e2 (pAdd false) (e2 pItem (eV 0) (eC (.int 3))) (eC (.int 1))))
 (sRet (e2 pMod (eN (callF 2 f_law_mix) (aCons (e2 pItem (eV 0) (eC (.int 4))) (aCons (e2 (pAdd false) (e2 pItem (eV 0) (eC (.int 3))) (eC (.int 419))) aNil))) (eV 1))))))
noncomputable def f_law_next : Fn := semDef 2 4 b_law_next

theorem next_ok {cs : Cs} {i n : Nat} (h : DkAt i n cs) (hn : n < 2 ^ 39) {many : Int} (hm : 0 < many) (hm2 : many < 2 ^ 80) : Sat (f_law_next [.cel i, .int many] cs) fun d cs' => ∃ r : Int, d = .int r ∧ 0 ≤ r ∧ r < many ∧ Dk i (n + 1) cs cs' := by
  obtain ⟨ds, e, cells, p, b, z, c, rfl, p0, p1, p2, p3⟩ := h.at'
  have hi := h.lt
  have e' : ∀ x, (cs.set i (some x))[i]? = some (some x) := fun x => by rw [List.getElem?_set_self hi]
  refine sat_def rfl ?_
  have key : ∀ (x p' b' : Int) (c' : Nat), 0 ≤ x → x < many → 0 ≤ p' → p' ≤ cells.length → c' ≤ n + 1 → TrOk cs (.int x) (cs.set i (some (.lst [.lst (intsD cells), .int p', .int b', .int (c' : Int), .int z]))) ∧ ∃ r : Int, D.int x = .int r ∧ 0 ≤ r ∧ r < many ∧ Dk i (n + 1) cs ((cs.set i (some (.lst [.lst (intsD cells), .int p', .int b', .int (c' : Int), .int z]))).take cs.length) := fun x p' b' c' h0 h1 h2 h3 h4 => by
    have hd : Dk i (n + 1) cs (cs.set i (some (.lst [.lst (intsD cells), .int p', .int b', .int (c' : Int), .int z]))) := Dk.set hi ⟨cells, p', b', z, c', rfl, h2, h3, p2, h4⟩
    exact ⟨hd.trOk0 (by simp [D.bel]), x, rfl, h0, h1, by rw [hd.take0]; exact hd⟩
  have i0 : ∀ {cs : Cs} {a b c d e : D}, cs[i]? = some (some (.lst [a, b, c, d, e])) → pItem (.cel i) (.int 0) cs = .ok a cs := fun h => r_itemC h rfl
  have i1 : ∀ {cs : Cs} {a b c d e : D}, cs[i]? = some (some (.lst [a, b, c, d, e])) → pItem (.cel i) (.int 1) cs = .ok b cs := fun h => r_itemC h rfl
  have i2 : ∀ {cs : Cs} {a b c d e : D}, cs[i]? = some (some (.lst [a, b, c, d, e])) → pItem (.cel i) (.int 2) cs = .ok c cs := fun h => r_itemC h rfl
  have i3 : ∀ {cs : Cs} {a b c d e : D}, cs[i]? = some (some (.lst [a, b, c, d, e])) → pItem (.cel i) (.int 3) cs = .ok d cs := fun h => r_itemC h rfl
  have i4 : ∀ {cs : Cs} {a b c d e : D}, cs[i]? = some (some (.lst [a, b, c, d, e])) → pItem (.cel i) (.int 4) cs = .ok e cs := fun h => r_itemC h rfl
  have s1 : ∀ {cs : Cs} {a b c d e x : D}, cs[i]? = some (some (.lst [a, b, c, d, e])) → pSetL (.cel i) (.int 1) x cs = .ok () (cs.set i (some (.lst [a, x, c, d, e]))) := fun h => r_setC (k := 1) h rfl
  have s2 : ∀ {cs : Cs} {a b c d e x : D}, cs[i]? = some (some (.lst [a, b, c, d, e])) → pSetL (.cel i) (.int 2) x cs = .ok () (cs.set i (some (.lst [a, b, x, d, e]))) := fun h => r_setC (k := 2) h rfl
  have s3 : ∀ {cs : Cs} {a b c d e x : D}, cs[i]? = some (some (.lst [a, b, c, d, e])) → pSetL (.cel i) (.int 3) x cs = .ok () (cs.set i (some (.lst [a, b, c, x, e]))) := fun h => r_setC (k := 3) h rfl
  walk_at "go"
  rw [i2 e]
  walk_at "go"
  have back : ∀ (cs1 : Cs) (p' b' : Int) (t2 t3 : Option D), cs1 = cs.set i (some (.lst [.lst (intsD cells), .int p', .int b', .int (c : Int), .int z])) → 0 ≤ p' → p' ≤ cells.length → Sat (sSeq
      (sIf (tV (e2 pGt (e2 pItem (eV 0) (eC (.int 2))) (eC (.int 0))))
        (sSeq (sSet 3 (e2 pMod (e2 pItem (eV 0) (eC (.int 2))) (eV 1)))
          (sSeq (sSub pSetL (eV 0) (eC (.int 2)) (e2 pDiv (e2 pItem (eV 0) (eC (.int 2))) (eV 1))) (sRet (eV 3))))
        sNx)
      (sSeq (sSub pSetL (eV 0) (eC (.int 3)) (e2 (pAdd false) (e2 pItem (eV 0) (eC (.int 3))) (eC (.int 1))))
        (sRet (e2 pMod (eN (callF 2 f_law_mix) (aCons (e2 pItem (eV 0) (eC (.int 4))) (aCons (e2 (pAdd false) (e2 pItem (eV 0) (eC (.int 3))) (eC (.int 419))) aNil))) (eV 1)))) [some (.cel i), some (.int many), t2, t3] cs1) fun p cs' =>
      match p with
      | (Ctl.rt d, snd) => TrOk cs d cs' ∧ ∃ r, d = D.int r ∧ 0 ≤ r ∧ r < many ∧ Dk i (n + 1) cs (List.take (List.length cs) cs')
      | (Ctl.nx, snd) => TrOk cs D.non cs' ∧ ∃ r, D.non = D.int r ∧ 0 ≤ r ∧ r < many ∧ Dk i (n + 1) cs (List.take (List.length cs) cs')
      | x => False := by
    rintro cs1 p' b' t2 t3 rfl h0 h1
    walk_at "go"
    rw [i2 (e' _)]
    walk_at "go"
    by_cases hb : 0 < b'
    · simp only [hb, decide_true, if_true]
      walk_at "go"
      rw [i2 (e' _)]
      walk_at "go"
      rw [i2 (e' _)]
      walk_at "go"
      rw [s2 (e' _)]
      walk_at "go"
      rw [List.set_set]
      exact key _ _ _ _ (Int.emod_nonneg _ (by omega)) (Int.emod_lt_of_pos _ hm) h0 h1 (by omega)
    · simp only [hb, decide_false, Bool.false_eq_true, if_false]
      walk_at "go"
      rw [i3 (e' _)]
      walk_at "go"
      rw [s3 (e' _)]
      walk_at "go"
      rw [List.set_set, i4 (e' _)]
      walk_at "go"
      rw [i3 (e' _)]
      walk_at "go"
      obtain ⟨r, hr⟩ := mix_ok z ((c : Int) + 1 + 419) (by omega) (by omega) (cs.set i (some (.lst [.lst (intsD cells), .int p', .int b', .int ((c : Int) + 1), .int z])))
      refine sat_callF rfl (sat_of hr ?_)
      walk_at "go"
      exact key _ _ _ (c + 1) (Int.emod_nonneg _ (by omega)) (Int.emod_lt_of_pos _ hm) h0 h1 (by omega)
  have same : cs = cs.set i (some (.lst [.lst (intsD cells), .int p, .int b, .int (c : Int), .int z])) := by
    refine List.ext_getElem? (fun j => ?_)
    by_cases hj : i = j
    · subst hj; rw [e' _, e]
    · rw [List.getElem?_set_ne hj]
  by_cases hb0 : b = 0
  · simp only [hb0, decide_true, if_true]
    subst hb0
    rw [i1 e]
    walk_at "go"
    rw [i0 e]
    walk_at "go"
    by_cases hp : p < (intsD cells).length
    · simp only [hp, decide_true, if_true]
      rw [intsD_length] at hp
      walk_at "go"
      rw [i0 e]
      walk_at "go"
      rw [i1 e]
      walk_at "go"
      obtain ⟨x, hx⟩ := atI_ints (ns := cells) p0 (by omega)
      rw [r_itemL hx]
      walk_at "go"
      rw [i1 e]
      walk_at "go"
      rw [s1 e]
      walk_at "go"
      by_cases hc : x < 10 ^ Int.toNat 18
      · simp only [hc, decide_true, if_true]
        walk_at "go"
        rw [i1 (e' _)]
        walk_at "go"
        obtain ⟨r, hr⟩ := mix_ok x (p + 1) (by omega) (by omega) (cs.set i (some (.lst [.lst (intsD cells), .int (p + 1), .int 0, .int (c : Int), .int z])))
        refine sat_callF rfl (sat_of hr ?_)
        walk_at "go"
        exact key _ _ _ c (Int.emod_nonneg _ (by omega)) (Int.emod_lt_of_pos _ hm) (by omega) (by omega) (by omega)
      · simp only [hc, decide_false, Bool.false_eq_true, if_false]
        walk_at "go"
        rw [s2 (e' _)]
        walk_at "run"
        rw [List.set_set]
        exact back _ (p + 1) x _ _ rfl (by omega) (by omega)
    · simp only [hp, decide_false, Bool.false_eq_true, if_false]
      walk_at "run"
      exact back _ p 0 _ _ same p0 p1
  · simp only [hb0, decide_false, Bool.false_eq_true, if_false]
    walk_at "run"
    exact back _ p b _ _ same p0 p1
theorem call_next {cs : Cs} {i n : Nat} (h : DkAt i n cs) (hn : n < 2 ^ 39) {many : Int} (hm : 0 < many) (hm2 : many < 2 ^ 80) {Q : D → Cs → Prop} (k : ∀ (r : Int) (cs' : Cs), 0 ≤ r → r < many → Dk i (n + 1) cs cs' → Q (.int r) cs') : Sat (callF 2 f_law_next [.cel i, .int many] cs) Q :=
  sat_callF rfl ((next_ok h hn hm hm2).mono fun d cs' ⟨r, e, r0, r1, dr⟩ => by subst e; exact k r cs' r0 r1 dr)
/-- a draw beside cells laid behind -/
theorem draw_next {cs cs1 more : Cs} {i k : Nat} {most : Int} (dr : Dk i k cs cs1) (hk : k < 2 ^ 38) (q0 : 0 < most) (q1 : most < 2 ^ 80) : Sat (callF 2 f_law_next [.cel i, .int most] (cs1 ++ more)) fun d cs' => ∃ (r : Int) (cs2 : Cs), d = .int r ∧ 0 ≤ r ∧ r < most ∧ cs' = cs2 ++ more ∧ Dk i (k + 1) cs cs2 := by
  refine call_next dr.self.app (by omega) q0 q1 fun r cs3 r0 r1 dr3 => ?_
  obtain ⟨cs4, rfl, dr4⟩ := dr3.split dr.self.lt
  exact ⟨r, cs4, rfl, r0, r1, rfl, dr.trans dr4⟩

noncomputable abbrev b_law_great : SS :=
 (sSeq (sSet 2 (eC (.int 0)))
 (sSeq (sFor (gN 3) (iRg1 (aCons (eC (.int 3)) aNil))
 (sSet 2 (e2 (pAdd false) (e2 pMul (eV 2) (e2 pPow (eC (.int 2)) (eC (.int 24)))) (eN (callF 2 f_law_next) (aCons (eV 0) (aCons (e2 pPow (eC (.int 2)) (eC (.int 24))) aNil))))))
 (sRet (e2 pMod (eV 2) (e2 pShl (eC (.int 1)) (eV 1))))))
noncomputable def f_law_great : Fn := semDef 2 4 b_law_great

theorem great_ok {cs : Cs} {i n : Nat} (h : DkAt i n cs) (hn : n < 2 ^ 38) {bits : Nat} (hb : bits ≤ 1000) : Sat (f_law_great [.cel i, .int (bits : Int)] cs) fun d cs' => ∃ r : Nat, d = .int (r : Int) ∧ r < 2 ^ bits ∧ Dk i (n + 3) cs cs' := by
  refine sat_def rfl ?_
  walk_at "go"
  refine w_for (fun pre sl cs1 => ∃ (r : Int) (t3 : Option D), sl = [some (.cel i), some (.int (bits : Int)), some (.int r), t3] ∧ Dk i (n + pre.length) cs cs1) ⟨_, _, rfl, h⟩ ?_ ?_
  · rintro pre d post sl cs1 e ⟨r, t3, rfl, dk⟩
    obtain ⟨rfl, hpre⟩ := rgL_at e
    refine ⟨_, rfl, ?_⟩
    walk_at "go"
    refine call_next dk.self (by omega) (by decide) (by decide) fun r1 cs2 h0 h1 d2 => ?_
    walk_at "go"
    refine ⟨_, _, rfl, ?_⟩
    rw [(List.length_append), List.length_singleton]
    exact dk.trans d2
  · rintro sl cs1 ⟨r, t3, rfl, dk⟩
    have hl : (rgL 0 3).length = 3 := by rw [rgL_length]; rfl
    rw [hl] at dk
    have hp : (0 : Int) < 1 * 2 ^ bits := by rw [Int.one_mul]; exact Int.pow_pos (by decide)
    walk_at "go"
    rw [Int.toNat_natCast]
    refine ⟨hp, dk.trOk0 (by simp [D.bel]), (r % (1 * 2 ^ bits)).toNat, ?_, ?_, ?_⟩
    · rw [Int.toNat_of_nonneg (Int.emod_nonneg _ (Int.ne_of_gt hp))]
    · have h1 := Int.emod_lt_of_pos r hp
      have h2 := Int.emod_nonneg r (Int.ne_of_gt hp)
      rw [Int.one_mul] at h1 h2 ⊢
      have h3 : ((2 : Int) ^ bits) = ((2 ^ bits : Nat) : Int) := by rw [Int.natCast_pow]; rfl
      rw [h3] at h1 h2 ⊢
      omega
    · rw [dk.take0]; exact dk
theorem call_great {cs : Cs} {i n : Nat} (h : DkAt i n cs) (hn : n < 2 ^ 38) {bits : Nat} (hb : bits ≤ 1000) {Q : D → Cs → Prop} (k : ∀ (r : Nat) (cs' : Cs), r < 2 ^ bits → Dk i (n + 3) cs cs' → Q (.int (r : Int)) cs') : Sat (callF 2 f_law_great [.cel i, .int (bits : Int)] cs) Q :=
  sat_callF rfl ((great_ok h hn hb).mono fun d cs' ⟨r, e, r0, dr⟩ => by subst e; exact k r cs' r0 dr)

noncomputable abbrev b_law_numbers : SS :=
 (sSeq (sSet 2 (e2 pItem (eN (mkL' false) (aCons (eN (callF 2 f_law_next) (aCons (eV 0) (aCons (e2 (pAdd false) (eV 1) (eC (.int 1))) aNil))) (aCons (eN (callF 2 f_law_next) (aCons (eV 0) (aCons (eC (.int 7)) aNil))) (aCons (eN bMin2 (aCons (eV 1) (aCons (eC (.int 12)) aNil))) (aCons (eV 1) aNil))))) (eN (callF 2 f_law_next) (aCons (eV 0) (aCons (eC (.int 4)) aNil)))))
 (sSeq (sSet 3 (eN (callF 2 f_law_next) (aCons (eV 0) (aCons (eC (.int 5)) aNil))))
 (sSeq (sSet 4 (e2 pItem (eN (mkL' false) (aCons (e2 (pAdd false) (eC (.int 1)) (eN (callF 2 f_law_next) (aCons (eV 0) (aCons (eC (.int 8)) aNil)))) (aCons (eC (.int 60)) (aCons (eC (.int 60)) (aCons (e2 (pAdd false) (eC (.int 1)) (eN (callF 2 f_law_next) (aCons (eV 0) (aCons (eC (.int 60)) aNil)))) (aCons (eC (.int 16)) aNil)))))) (eV 3)))
 (sSeq (sSet 5 (eLc false [7] (gN 7) (iRg1 (aCons (e2 (pAdd false) (eC (.int 1)) (eN (callF 2 f_law_next) (aCons (eV 0) (aCons (eC (.int 8)) aNil)))) aNil)) tYesS (eN (callF 2 f_law_great) (aCons (eV 0) (aCons (eV 4) aNil)))))
 (sSeq (sSet 6 (eN (mkL' true) aNil))
 (sSeq (sFor (gN 7) (iRg1 (aCons (eV 2) aNil))
 (sSeq (sSet 8 (eN (callF 2 f_law_great) (aCons (eV 0) (aCons (eV 4) aNil))))
 (sSeq (sIf (tV (e2 pEq (eV 3) (eC (.int 2))))
 (sSet 8 (e2 pXor (e2 pItem (eV 5) (eN (callF 2 f_law_next) (aCons (eV 0) (aCons (eN bLen (aCons (eV 5) aNil)) aNil)))) (e2 pItem (eV 5) (eN (callF 2 f_law_next) (aCons (eV 0) (aCons (eN bLen (aCons (eV 5) aNil)) aNil))))))
 sNx)
 (sSeq (sIf (tV (e2 pEq (eN (callF 2 f_law_next) (aCons (eV 0) (aCons (eC (.int 12)) aNil))) (eC (.int 0))))
 (sSet 8 (e2 pItem (eN (mkL' false) (aCons (eC (.int 0)) (aCons (e2 pItem (eV 5) (eC (.int 0))) (aCons (e2 pSub (e2 pShl (eC (.int 1)) (eV 4)) (eC (.int 1))) (aCons (e2 pShl (eC (.int 1)) (eN (callF 2 f_law_next) (aCons (eV 0) (aCons (eV 4) aNil)))) aNil))))) (eN (callF 2 f_law_next) (aCons (eV 0) (aCons (eC (.int 4)) aNil)))))
 sNx)
 (sExpr (eMt isLD mAppend (eV 6) (aCons (eV 8) aNil)))))))
 (sRet (eN bTup (aCons (eV 6) aNil)))))))))
noncomputable def f_law_numbers : Fn := semDef 2 9 b_law_numbers

theorem numbers6_ok {cs : Cs} {i n : Nat} (h : DkAt i n cs) (hn : n < 2 ^ 37) {most : Nat} (hm : most ≤ 1000) : Sat (f_law_numbers [.cel i, .int (most : Int)] cs) fun d cs' => ∃ ns : List Nat, d = .tup (natsD ns) ∧ ns.length ≤ max 6 most ∧ (∀ x ∈ ns, x < 2 ^ 60) ∧ Dk i (n + 10000) cs cs' := by
  have hi := h.lt
  refine sat_def rfl ?_
  walk_at "go"
  refine call_next h (by omega) (by omega) (by omega) fun r1 cs1 a0 a1 d1 => ?_
  walk_at "go"
  refine call_next d1.self (by omega) (by decide) (by decide) fun r2 cs2 b0 b1 d2 => ?_
  walk_at "go"
  refine call_next d2.self (by omega) (by decide) (by decide) fun r3 cs3 c0 c1 d3 => ?_
  walk_at "go"
  refine pickI (l := [r1, r2, if (12 : Int) < most then 12 else most, (most : Int)]) c0 (by simpa using c1) fun many hmany => ?_
  have m0 : 0 ≤ many ∧ many ≤ ((max 6 most : Nat) : Int) := by
    simp only [List.mem_cons, List.not_mem_nil, or_false] at hmany
    rcases hmany with q | q | q | q
    · omega
    · omega
    · split at q <;> omega
    · omega
  obtain ⟨m, rfl⟩ : ∃ m : Nat, many = m := ⟨many.toNat, by omega⟩
  clear hmany
  walk_at "go"
  refine call_next d3.self (by omega) (by decide) (by decide) fun way cs4 w0 w1 d4 => ?_
  walk_at "go"
  refine call_next d4.self (by omega) (by decide) (by decide) fun r5 cs5 e0 e1 d5 => ?_
  walk_at "go"
  refine call_next d5.self (by omega) (by decide) (by decide) fun r6 cs6 f0 f1 d6 => ?_
  walk_at "go"
  refine pickI (l := [1 + r5, 60, 60, 1 + r6, 16]) w0 (by simpa using w1) fun bits hbits => ?_
  have q0 : 1 ≤ bits ∧ bits ≤ 60 := by
    simp only [List.mem_cons, List.not_mem_nil, or_false] at hbits
    omega
  obtain ⟨bt, rfl⟩ : ∃ b : Nat, bits = b := ⟨bits.toNat, by omega⟩
  clear hbits
  have hbt : 1 ≤ bt ∧ bt ≤ 60 := by omega
  have p60 : ∀ {x : Nat}, x < 2 ^ bt → x < 2 ^ 60 := fun h => Nat.lt_of_lt_of_le h (Nat.pow_le_pow_right (by decide) hbt.2)
  walk_at "go"
  refine call_next d6.self (by omega) (by decide) (by decide) fun r7 cs7 g0 g1 d7 => ?_
  walk_at "go"
  have d7 := ((((((d1.trans d2).trans d3).trans d4).trans d5).trans d6).trans d7)
  refine w_lc (fun pre ys cs1 => ∃ so : List Nat, ys = natsD so ∧ so.length = pre.length ∧ (∀ x ∈ so, x < 2 ^ bt) ∧ Dk i (n + 7 + 3 * pre.length) cs cs1) ⟨[], rfl, rfl, by simp, d7⟩ ?_ ?_
  · rintro pre d post ys cs1 e ⟨so, rfl, hl, hb, dk⟩
    obtain ⟨rfl, hpre⟩ := rgL_at e
    refine ⟨_, rfl, ?_⟩
    walk_at "go"
    refine call_great dk.self (by omega) (by omega) fun x cs2 hx d8 => ?_
    refine ⟨so ++ [x], natsD_snoc _ _, by simp [hl], fun y hy => ?_, by rw [List.length_append, List.length_singleton]; exact dk.trans d8⟩
    rcases List.mem_append.mp hy with q | q
    · exact hb y q
    · rw [List.mem_singleton.mp q]; exact hx
  · rintro ys cs8 ⟨so, rfl, hl, hso, d8⟩
    rw [rgL_length] at hl d8
    have hso0 : 0 < so.length ∧ so.length ≤ 8 := by omega
    have d8 := d8.mono (m := n + 31) (by omega)
    clear hl d7
    walk_at "go"
    refine w_for (fun pre sl cs2 => ∃ cs1 ns t7 t8, sl = [some (.cel i), some (.int (most : Int)), some (.int (m : Int)), some (.int way), some (.int (bt : Int)), some (.lst (natsD so)), some (.cel cs8.length), t7, t8] ∧ cs2 = cs1 ++ [some (.lst (natsD ns))] ∧ Dk i (n + 31 + 8 * pre.length) cs cs1 ∧ ns.length = pre.length ∧ ∀ n ∈ ns, n < 2 ^ 60)
      ⟨cs8, [], none, none, rfl, rfl, d8, rfl, by simp⟩ ?_ ?_
    · rintro pre d post sl cs2 e ⟨cs1, ns, t7, t8, rfl, rfl, dr, hl, hb⟩
      obtain ⟨rfl, hpre⟩ := rgL_at e
      have le8 : cs8.length = cs.length := d8.len
      refine ⟨_, rfl, ?_⟩
      -- a draw beside the list
      have draw : ∀ {cs1 : Cs} {k : Nat} {x : Option Cell} {most : Int}, Dk i k cs cs1 → k < 2 ^ 38 → 0 < most → most < 2 ^ 80 → Sat (callF 2 f_law_next [.cel i, .int most] (cs1 ++ [x])) fun d cs' => ∃ (r : Int) (cs2 : Cs), d = .int r ∧ 0 ≤ r ∧ r < most ∧ cs' = cs2 ++ [x] ∧ Dk i (k + 1) cs cs2 := fun {cs1 k x most} dr hk q0 q1 => by
        refine call_next (dr.self.app) (by omega) q0 q1 fun r cs3 r0 r1 dr3 => ?_
        obtain ⟨cs4, rfl, dr4⟩ := dr3.split (by rw [dr.len]; exact hi)
        exact ⟨r, cs4, rfl, r0, r1, rfl, dr.trans dr4⟩
      have item : ∀ {cs1 : Cs} {k : Nat} {x : Option Cell} {f : Nat → Nat}, Dk i k cs cs1 → k < 2 ^ 38 → Sat (callF 2 f_law_next [.cel i, .int (so.length : Int)] (cs1 ++ [x])) fun d cs' => ∃ (r : Int) (cs2 : Cs) (y : Nat), d = .int r ∧ pItem (.lst (natsD so)) (.int r) cs' = .ok (.int (y : Int)) cs' ∧ y < 2 ^ bt ∧ cs' = cs2 ++ [x] ∧ Dk i (k + 1) cs cs2 := fun {cs1 k x f} dr hk => by
        refine (draw dr hk (by omega) (by omega)).mono ?_
        rintro _ _ ⟨r, cs2, rfl, r0, r1, rfl, d9⟩
        obtain ⟨y, ym, e1, _⟩ := atI_nats (ns := so) r0 (by omega)
        exact ⟨r, cs2, y, rfl, r_itemL e1, hso y ym, rfl, d9⟩
      walk_at "go"
      refine call_great (dr.self.app) (by omega) (by omega) fun num cs2' hnum dr2' => ?_
      obtain ⟨cs2, rfl, dr2⟩ := dr2'.split (by rw [dr.len]; exact hi)
      replace dr2 := dr.trans dr2
      walk_at "run"
      refine w_sSeq ?_
      refine Sat.mono (Q := fun p cs' => ∃ (cs4 : Cs) (x : Nat), p = (.nx, [some (.cel i), some (.int (most : Int)), some (.int (m : Int)), some (.int way), some (.int (bt : Int)), some (.lst (natsD so)), some (.cel cs8.length), some (.int (0 + (pre.length : Nat))), some (.int (x : Int))]) ∧ cs' = cs4 ++ [some (.lst (natsD ns))] ∧ Dk i (n + 31 + 8 * pre.length + 5) cs cs4 ∧ x < 2 ^ bt) ?_ ?_
      · refine w_sIf ?_
        walk_at "run"
        by_cases hw : way = 2
        · subst hw
          walk_at "run"
          simp only [decide_true, if_true]
          walk_at "go"
          rw [natsD_length]
          refine (item (f := id) dr2 (by omega)).mono ?_
          rintro _ _ ⟨j1, cs3, x1, rfl, e1, hx1, rfl, d3'⟩
          rw [e1]
          walk_at "go"
          refine (item (f := id) d3' (by omega)).mono ?_
          rintro _ _ ⟨j2, cs4, x2, rfl, e2, hx2, rfl, d4'⟩
          rw [e2]
          walk_at "go"
          rw [xor_nat]
          exact ⟨cs4, x1 ^^^ x2, rfl, rfl, d4'.mono (by omega), Nat.xor_lt_two_pow hx1 hx2⟩
        · simp only [hw, decide_false, Bool.false_eq_true, if_false]
          walk_at "run"
          exact ⟨cs2, num, rfl, rfl, dr2.mono (by omega), hnum⟩
      · rintro _ _ ⟨cs4, x, rfl, rfl, d4', hx⟩
        walk_at "run"
        refine w_sSeq ?_
        refine Sat.mono (Q := fun p cs' => ∃ (cs4 : Cs) (x : Nat), p = (.nx, [some (.cel i), some (.int (most : Int)), some (.int (m : Int)), some (.int way), some (.int (bt : Int)), some (.lst (natsD so)), some (.cel cs8.length), some (.int (0 + (pre.length : Nat))), some (.int (x : Int))]) ∧ cs' = cs4 ++ [some (.lst (natsD ns))] ∧ Dk i (n + 31 + 8 * pre.length + 8) cs cs4 ∧ x < 2 ^ bt) ?_ ?_
        · refine w_sIf ?_
          walk_at "run"
          refine (draw d4' (by omega) (by decide) (by decide)).mono ?_
          rintro _ _ ⟨z, cs5, rfl, z0, z1, rfl, d5'⟩
          walk_at "run"
          by_cases hz : z = 0
          · subst hz
            walk_at "run"
            simp only [decide_true, if_true]
            walk_at "go"
            have h0s : 0 < so.length := hso0.1
            obtain ⟨s0, s0m, e1, _⟩ := atI_nats (ns := so) (i := 0) (by omega) (by simpa using h0s)
            rw [r_itemL e1]
            walk_at "go"
            refine (draw d5' (by omega) (by omega) (by omega)).mono ?_
            rintro _ _ ⟨j, cs6, rfl, j0, j1, rfl, d6'⟩
            obtain ⟨jn, rfl⟩ : ∃ k : Nat, j = k := ⟨j.toNat, by omega⟩
            walk_at "go"
            refine (draw d6' (by omega) (by decide) (by decide)).mono ?_
            rintro _ _ ⟨k, cs7', rfl, k0, k1, rfl, d7'⟩
            walk_at "go"
            have ea : (1 * 2 ^ Int.toNat (bt : Int) - 1 : Int) = ((2 ^ bt - 1 : Nat) : Int) := by
              have := Nat.two_pow_pos bt
              rw [Int.toNat_natCast, Int.one_mul, Int.natCast_sub this, Int.natCast_pow]; rfl
            have eb : (1 * 2 ^ Int.toNat (jn : Int) : Int) = ((2 ^ jn : Nat) : Int) := by rw [Int.toNat_natCast, Int.one_mul, Int.natCast_pow]; rfl
            rw [ea, eb]
            obtain ⟨y, ym, e2, _⟩ := atI_nats (ns := [0, s0, 2 ^ bt - 1, 2 ^ jn]) (i := k) k0 (by simp; omega)
            have e2 : atI [D.int 0, D.int (s0 : Int), D.int ((2 ^ bt - 1 : Nat) : Int), D.int ((2 ^ jn : Nat) : Int)] k = some (.int (y : Int)) := e2
            rw [r_itemL e2]
            walk_at "go"
            refine ⟨cs7', y, rfl, rfl, d7'.mono (by omega), ?_⟩
            have hp := Nat.two_pow_pos bt
            simp only [List.mem_cons, List.not_mem_nil, or_false] at ym
            rcases ym with rfl | rfl | rfl | rfl
            · exact hp
            · exact hso _ s0m
            · omega
            · exact Nat.pow_lt_pow_right (by decide) (by omega)
          · simp only [hz, decide_false, Bool.false_eq_true, if_false]
            walk_at "run"
            exact ⟨cs5, x, rfl, rfl, d5'.mono (by omega), hx⟩
        · rintro _ _ ⟨cs5, x, rfl, rfl, d5', hx⟩
          walk_at "run"
          refine w_sExpr ?_
          walk_at "run"
          have la := last_at (c := .lst (natsD ns)) (d5'.len.trans le8.symm)
          rw [if_pos (r_isC la), r_appC la (by rw [natsD_length]; exact sizeLt (by omega)), sat_ok, last_set (d5'.len.trans le8.symm), natsD_snoc]
          refine ⟨cs5, ns ++ [x], _, _, rfl, rfl, d5'.mono (by rw [List.length_append, List.length_singleton]; omega), by simp [hl], fun y hy => ?_⟩
          rcases List.mem_append.mp hy with q | q
          · exact hb y q
          · rw [List.mem_singleton.mp q]; exact p60 hx
    · rintro sl cs2 ⟨cs1, ns, t7, t8, rfl, rfl, dr, hl, hb⟩
      walk_at "go"
      have le8 : cs8.length = cs.length := d8.len
      rw [r_tupC (last_at (dr.len.trans le8.symm)), sat_ok]
      rw [rgL_length] at hl dr
      have d9 := dr.mono (m := n + 10000) (by omega)
      exact ⟨d9.trOk (by simp [D.bel, bels_nats]), ns, rfl, by omega, hb, by rw [d9.take]; exact d9⟩

theorem numbers_ok {cs : Cs} {i n : Nat} (h : DkAt i n cs) (hn : n < 2 ^ 37) {most : Nat} (h6 : 6 ≤ most) (hm : most ≤ 1000) : Sat (f_law_numbers [.cel i, .int (most : Int)] cs) fun d cs' => ∃ ns : List Nat, d = .tup (natsD ns) ∧ ns.length ≤ most ∧ (∀ x ∈ ns, x < 2 ^ 60) ∧ Dk i (n + 10000) cs cs' :=
  (numbers6_ok h hn hm).mono fun d cs' ⟨ns, e, hl, r⟩ => ⟨ns, e, by omega, r⟩

noncomputable abbrev b_law_names : SS :=
 (sSeq (sSet 2 (eC (.str "abcdefghijklmnopqrstuvwxyz")))
 (sSeq (sSet 3 (e2 pItem (eV 2) (eN (callF 2 f_law_next) (aCons (eV 0) (aCons (eC (.int 26)) aNil)))))
 (sSeq (sSet 4 (eN (callF 2 f_law_next) (aCons (eV 0) (aCons (eC (.int 600)) aNil))))
 (sSeq (sSet 5 (eN (callF 2 f_law_next) (aCons (eV 0) (aCons (eC (.int 4)) aNil))))
 (sSeq (sSet 6 (eN (mkL' true) aNil))
 (sSeq (sFor (gN 7) (iRg1 (aCons (eV 1) aNil))
 (sSeq (sSet 8 (e2 (pAdd false) (eV 4) (e2 pMul (eC (.int 7)) (eV 7))))
 (sSeq (sSet 9 (e2 (pAdd false) (e2 pItem (eV 2) (e2 pMod (eV 8) (eC (.int 26)))) (e2 pItem (eV 2) (e2 pMod (e2 pDiv (eV 8) (eC (.int 26))) (eC (.int 26))))))
 (sSeq (sSet 9 (e2 (pAdd false) (eV 9) (e2 pItem (eV 2) (e2 pDiv (eV 8) (eC (.int 676))))))
 (sSeq (sIf (tV (e2 pEq (eV 5) (eC (.int 1))))
 (sSet 9 (e2 (pAdd false) (e2 pMulS (eV 3) (e2 pMod (eV 7) (eC (.int 6)))) (eV 9)))
 sNx)
 (sSeq (sIf (tV (e2 pEq (eV 5) (eC (.int 2))))
 (sSet 9 (e2 (pAdd false) (eV 9) (e2 pMulS (eV 3) (e2 pMod (eV 7) (eC (.int 6))))))
 sNx)
 (sSeq (sIf (tV (e2 pEq (eV 5) (eC (.int 3))))
 (sSet 9 (e2 pItem (eN (mkL' false) (aCons (e2 pItem (eV 2) (e2 pMod (eV 7) (eC (.int 26)))) (aCons (e2 (pAdd false) (e2 pItem (eV 2) (e2 pMod (eV 7) (eC (.int 26)))) (eC (.str "x"))) (aCons (e2 (pAdd false) (e2 pItem (eV 2) (e2 pMod (eV 7) (eC (.int 26)))) (eC (.str "xy"))) aNil)))) (e2 pDiv (eV 7) (eC (.int 26)))))
 sNx)
 (sExpr (eMt isLD mAppend (eV 6) (aCons (eV 9) aNil))))))))))
 (sSeq (sSet 10 (eN (bList true) (aCons (eV 6) aNil)))
 (sSeq (sSet 11 (eLc false [7] (gN 7) (iRg1 (aCons (eV 1) aNil)) tYesS (eMt isLD mPopAt (eV 10) (aCons (eN (callF 2 f_law_next) (aCons (eV 0) (aCons (eN bLen (aCons (eV 10) aNil)) aNil))) aNil))))
 (sRet (eLc false [7, 12] (gT 2 (gCons (gN 7) (gCons (gN 12) gNil))) (iEn (aCons (eV 11) aNil)) (tV (e2 (pIn true) (eV 12) (eSl false (eV 11) oNo (oSome (eV 7))))) (eV 12)))))))))))
noncomputable def f_law_names : Fn := semDef 2 13 b_law_names

/-- a name: one to eight small letters -/
structure Nm (l : List Nat) : Prop where
  pos : 1 ≤ l.length
  len : l.length ≤ 8
  low : ∀ c ∈ l, 97 ≤ c ∧ c ≤ 122
theorem Nm.sg {a : List (List Nat)} (h : ∀ l ∈ a, Nm l) : Sg a := fun l hl c hc => by have := (h l hl).low c hc; omega
theorem nm_rep {p k : Nat} (hp : 97 ≤ p ∧ p ≤ 122) : ∀ c ∈ (List.replicate k [p]).flatten, 97 ≤ c ∧ c ≤ 122 := fun c hc => by
  obtain ⟨l, hl, hc⟩ := List.mem_flatten.mp hc
  rw [List.eq_of_mem_replicate hl, List.mem_singleton] at hc
  rw [hc]; exact hp
theorem rep_len (p k : Nat) : ((List.replicate k [p]).flatten).length = k := by simp
theorem drawn_beside {i k : Nat} {cs cs1 more : Cs} (h : DkAt i 0 cs ∨ i < cs.length) (dr : Dk i k cs cs1) (hk : k < 2 ^ 38) {most : Int} (q0 : 0 < most) (q1 : most < 2 ^ 80) : Sat (callF 2 f_law_next [.cel i, .int most] (cs1 ++ more)) fun d cs' => ∃ (r : Int) (cs2 : Cs), d = .int r ∧ 0 ≤ r ∧ r < most ∧ cs' = cs2 ++ more ∧ Dk i (k + 1) cs cs2 := by
  refine call_next (dr.self.app) (by omega) q0 q1 fun r cs3 r0 r1 dr3 => ?_
  obtain ⟨cs4, rfl, dr4⟩ := dr3.split dr.self.lt
  exact ⟨r, cs4, rfl, r0, r1, rfl, dr.trans dr4⟩
theorem r_listC {cs : Cs} {k : Nat} {ds : List D} {c : Bool} (h : cs[k]? = some (some (.lst ds))) : bList c [.cel k] cs = mkL c ds cs := by
  show (match seqL cs (.cel k) with | some ds => mkL c ds cs | none => .bad) = _
  rw [seqL_cel h]
theorem names_ok {cs : Cs} {i n : Nat} (h : DkAt i n cs) (hn : n < 2 ^ 37) {many : Nat} (hm : many ≤ 60) : Sat (f_law_names [.cel i, .int (many : Int)] cs) fun d cs' => ∃ nm : List (List Nat), d = .lst (namesD nm) ∧ nm.length ≤ many ∧ nm.Nodup ∧ (∀ l ∈ nm, Nm l) ∧ Dk i (n + 70) cs cs' := by
  have hi := h.lt
  refine sat_def rfl ?_
  walk_at "go"
  refine call_next h (by omega) (by decide) (by decide) fun r1 cs1 a0 a1 d1 => ?_
  obtain ⟨pd, rfl⟩ : ∃ k : Nat, r1 = k := ⟨r1.toNat, by omega⟩
  have hpd : pd < 26 := by omega
  rw [r_letter hpd]
  walk_at "go"
  refine call_next d1.self (by omega) (by decide) (by decide) fun r2 cs2 b0 b1 d2 => ?_
  obtain ⟨bg, rfl⟩ : ∃ k : Nat, r2 = k := ⟨r2.toNat, by omega⟩
  walk_at "go"
  refine call_next d2.self (by omega) (by decide) (by decide) fun way cs3 c0 c1 d3 => ?_
  walk_at "go"
  replace d3 := (d1.trans d2).trans d3
  have hway : way = 0 ∨ way = 1 ∨ way = 2 ∨ way = 3 := by omega
  refine w_for (fun pre sl cs' => ∃ t7 t8 t9 nm, sl = [some (.cel i), some (.int (many : Int)), some (.str "abcdefghijklmnopqrstuvwxyz"), some (.str (strL [97 + pd])), some (.int (bg : Int)), some (.int way), some (.cel cs3.length), t7, t8, t9, none, none, none] ∧ cs' = cs3 ++ [some (.lst (namesD nm))] ∧ nm.length = pre.length ∧ ∀ l ∈ nm, Nm l) ⟨_, _, _, [], rfl, rfl, rfl, by simp⟩ ?_ ?_
  · rintro pre d post sl cs' e ⟨t7, t8, t9, nm, rfl, rfl, hl, hnm⟩
    obtain ⟨rfl, hpre⟩ := rgL_at e
    have hk : pre.length < 60 := by omega
    refine ⟨_, rfl, ?_⟩
    walk_at "go"
    obtain ⟨num, hnum, en⟩ : ∃ num : Nat, num ≤ 1012 ∧ (bg : Int) + 7 * (0 + (pre.length : Int)) = (num : Int) := ⟨bg + 7 * pre.length, by omega, by omega⟩
    rw [en]
    have e1 : (num : Int) % 26 = ((num % 26 : Nat) : Int) := by omega
    have e2 : (num : Int) / 26 % 26 = ((num / 26 % 26 : Nat) : Int) := by omega
    have e3 : (num : Int) / 676 = ((num / 676 : Nat) : Int) := by omega
    have f1 : num % 26 < 26 := Nat.mod_lt _ (by decide)
    have f2 : num / 26 % 26 < 26 := Nat.mod_lt _ (by decide)
    have f3 : num / 676 < 26 := by omega
    rw [e1, r_letter f1]
    walk_at "go"
    rw [e2, r_letter f2]
    walk_at "go"
    rw [r_addSS (by simp)]
    walk_at "go"
    rw [e3, r_letter f3]
    walk_at "go"
    rw [r_addSS (by simp)]
    walk_at "go"
    have fin : ∀ (l : List Nat), Nm l → ∀ Q : D → Cs → Prop, (∀ nm2 : List (List Nat), nm2.length = (pre ++ [D.int (0 + (pre.length : Int))]).length → (∀ l ∈ nm2, Nm l) → Q .non (cs3 ++ [some (.lst (namesD nm2))])) → if isLD (cs3 ++ [some (.lst (namesD nm))]) (.cel cs3.length) = true then Sat (mAppend (.cel cs3.length) [.str (strL l)] (cs3 ++ [some (.lst (namesD nm))])) Q else False := fun l hl2 Q hq => by
      have la := last_at (cs := cs3) (cs1 := cs3) (c := .lst (namesD nm)) rfl
      rw [if_pos (r_isC la), r_appC la (by rw [namesD_length]; exact sizeLt (by omega)), sat_ok, last_set rfl, namesD_snoc]
      refine hq (nm ++ [l]) (by rw [List.length_append, List.length_append, hl]; rfl) fun y hy => ?_
      rcases List.mem_append.mp hy with q | q
      · exact hnm y q
      · rw [List.mem_singleton.mp q]; exact hl2
    have base : ∀ c ∈ [97 + num % 26, 97 + num / 26 % 26, 97 + num / 676], 97 ≤ c ∧ c ≤ 122 := fun c hc => by
      simp only [List.mem_cons, List.not_mem_nil, or_false] at hc
      omega
    have ek : ((0 : Int) + (pre.length : Int)) % 6 = ((pre.length % 6 : Nat) : Int) := by omega
    have k6 : pre.length % 6 < 6 := Nat.mod_lt _ (by decide)
    have ep : ∀ c ∈ (List.replicate (pre.length % 6) [97 + pd]).flatten, 97 ≤ c ∧ c ≤ 122 := nm_rep (by omega)
    have el := rep_len (97 + pd) (pre.length % 6)
    generalize hrep : (List.replicate (pre.length % 6) [97 + pd]).flatten = rp at ep el
    rcases hway with rfl | rfl | rfl | rfl
    · rw [if_neg (by decide)]
      walk_at "go"
      rw [if_neg (by decide)]
      walk_at "go"
      rw [if_neg (by decide)]
      walk_at "go"
      refine fin _ ⟨by simp, by simp, base⟩ _ fun nm2 h2 h3 => ⟨_, _, _, nm2, rfl, rfl, h2, h3⟩
    · rw [if_pos (by decide)]
      walk_at "go"
      rw [ek, r_mulSI (by omega) (by simp), hrep]
      walk_at "go"
      rw [r_addSS (by rw [el]; simp; omega)]
      walk_at "go"
      rw [if_neg (by decide)]
      walk_at "go"
      rw [if_neg (by decide)]
      walk_at "go"
      refine fin _ ⟨by rw [List.length_append]; simp only [List.length_cons, List.length_nil]; omega, by rw [List.length_append, el]; show _ ≤ 8; simp only [List.length_cons, List.length_nil]; omega, fun c hc => ?_⟩ _ fun nm2 h2 h3 => ⟨_, _, _, nm2, rfl, rfl, h2, h3⟩
      · rcases List.mem_append.mp hc with q | q
        · exact ep c q
        · exact base c q
    · rw [if_neg (by decide)]
      walk_at "go"
      rw [if_pos (by decide)]
      walk_at "go"
      rw [ek, r_mulSI (by omega) (by simp), hrep]
      walk_at "go"
      rw [r_addSS (by rw [el]; simp; omega)]
      walk_at "go"
      rw [if_neg (by decide)]
      walk_at "go"
      refine fin ([97 + num % 26, 97 + num / 26 % 26, 97 + num / 676] ++ rp) ⟨by rw [List.length_append]; simp only [List.length_cons, List.length_nil]; omega, by rw [List.length_append, el]; show _ ≤ 8; simp only [List.length_cons, List.length_nil]; omega, fun c hc => ?_⟩ _ fun nm2 h2 h3 => ⟨_, _, _, nm2, rfl, rfl, h2, h3⟩
      · rcases List.mem_append.mp hc with q | q
        · exact base c q
        · exact ep c q
    · rw [if_neg (by decide)]
      walk_at "go"
      rw [if_neg (by decide)]
      walk_at "go"
      rw [if_pos (by decide)]
      walk_at "go"
      have e26 : ((0 : Int) + (pre.length : Int)) % 26 = ((pre.length % 26 : Nat) : Int) := by omega
      have l26 : pre.length % 26 < 26 := Nat.mod_lt _ (by decide)
      rw [e26, r_letter l26]
      walk_at "go"
      rw [r_letter l26]
      walk_at "go"
      rw [show (Str.ofString "x") = strL [120] from by decide +kernel, r_addSS (by simp)]
      walk_at "go"
      rw [r_letter l26]
      walk_at "go"
      rw [show (Str.ofString "xy") = strL [120, 121] from by decide +kernel, r_addSS (by simp)]
      walk_at "go"
      have e3 : ((0 : Int) + (pre.length : Int)) / 26 = ((pre.length / 26 : Nat) : Int) := by omega
      have c3 : pre.length / 26 = 0 ∨ pre.length / 26 = 1 ∨ pre.length / 26 = 2 := by omega
      generalize pre.length % 26 = m at l26
      rw [e3]
      obtain ⟨l, hl3, hp⟩ : ∃ l, Nm l ∧ pItem (.lst [D.str (strL [97 + m]), D.str (strL ([97 + m] ++ [120])), D.str (strL ([97 + m] ++ [120, 121]))]) (.int ((pre.length / 26 : Nat) : Int)) (cs3 ++ [some (.lst (namesD nm))]) = .ok (.str (strL l)) (cs3 ++ [some (.lst (namesD nm))]) := by
        have lo : ∀ t : List Nat, (∀ c ∈ t, c = 120 ∨ c = 121) → t.length ≤ 2 → Nm ([97 + m] ++ t) := fun t ht tl => ⟨by simp, by simp; omega, fun c hc => by
          rcases List.mem_append.mp hc with q | q
          · rw [List.mem_singleton.mp q]; omega
          · have := ht c q; omega⟩
        rcases c3 with q | q | q
        · rw [q]; exact ⟨[97 + m] ++ [], lo [] (by simp) (by simp), rfl⟩
        · rw [q]; exact ⟨_, lo [120] (by simp) (by simp), rfl⟩
        · rw [q]; exact ⟨_, lo [120, 121] (by simp) (by simp), rfl⟩
      simp only [List.cons_append, List.nil_append] at hp
      rw [hp]
      walk_at "go"
      refine fin _ hl3 _ fun nm2 h2 h3 => ⟨_, _, _, nm2, rfl, rfl, h2, h3⟩
  · rintro sl cs' ⟨t7, t8, t9, nm, rfl, rfl, hl, hnm⟩
    rw [rgL_length] at hl
    have hl : nm.length = many := by omega
    have la := last_at (cs := cs3) (cs1 := cs3) (c := .lst (namesD nm)) rfl
    walk_at "go"
    rw [r_listC la]
    walk_at "go"
    have hml : [some (Cell.lst (namesD nm))].length = 1 := rfl
    generalize hmore : [some (Cell.lst (namesD nm))] = more at hml
    have hkk : (cs3 ++ more).length = cs3.length + more.length := List.length_append
    generalize (cs3 ++ more).length = k at hkk
    rw [List.append_assoc]
    refine w_lc (fun pre ys cs' => ∃ (cs4 : Cs) (td lf : List (List Nat)), ys = namesD td ∧ cs' = cs4 ++ (more ++ [some (.lst (namesD lf))]) ∧ td.length = pre.length ∧ lf.length + pre.length = many ∧ (∀ l ∈ td, Nm l) ∧ (∀ l ∈ lf, Nm l) ∧ Dk i (n + 3 + pre.length) cs cs4) ⟨cs3, [], nm, rfl, by rw [hmore], rfl, by rw [hl]; rfl, by simp, hnm, d3⟩ ?_ ?_
    · rintro pre d post ys cs' e ⟨cs4, td, lf, rfl, rfl, htd, hlf, ntd, nlf, d4⟩
      obtain ⟨rfl, hpre⟩ := rgL_at e
      refine ⟨_, rfl, ?_⟩
      have hk1 : k = cs4.length + more.length := by rw [hkk, d4.len, d3.len]
      have la4 : (cs4 ++ (more ++ [some (Cell.lst (namesD lf))]))[k]? = some (some (.lst (namesD lf))) := far_at hk1
      walk_at "go"
      rw [if_pos (r_isC la4)]
      walk_at "go"
      rw [r_lenC la4]
      walk_at "go"
      rw [namesD_length]
      refine (drawn_beside (.inr hi) d4 (by omega) (by omega) (by omega)).mono ?_
      rintro _ _ ⟨r, cs5, rfl, r0, r1, rfl, d5⟩
      obtain ⟨r, rfl⟩ : ∃ k : Nat, r = k := ⟨r.toNat, by omega⟩
      have hr : r < lf.length := by omega
      have hk5 : k = cs5.length + more.length := by rw [hkk, d5.len, d3.len]
      have la5 : (cs5 ++ (more ++ [some (Cell.lst (namesD lf))]))[k]? = some (some (.lst (namesD lf))) := far_at hk5
      have ey : (namesD lf)[r]? = some (.str (strL lf[r])) := by rw [namesD_get, List.getElem?_eq_getElem hr]; rfl
      rw [r_popC la5 (by rw [namesD_length]; exact sizeLe (by omega)) ey, sat_ok, far_set hk5, namesD_erase]
      refine ⟨cs5, td ++ [lf[r]], lf.eraseIdx r, namesD_snoc _ _, rfl, by rw [List.length_append, List.length_append, htd]; rfl, ?_, fun l hl => ?_, fun l hl => nlf l (List.mem_of_mem_eraseIdx hl), ?_⟩
      · rw [List.length_eraseIdx, if_pos hr, List.length_append, List.length_singleton]; omega
      · rcases List.mem_append.mp hl with q | q
        · exact ntd l q
        · rw [List.mem_singleton.mp q]; exact nlf _ (List.getElem_mem hr)
      · rw [List.length_append, List.length_singleton]; exact d5
    · rintro ys cs' ⟨cs4, td, lf, rfl, rfl, htd, hlf, ntd, nlf, d4⟩
      rw [rgL_length] at htd hlf d4
      have htd : td.length = many := by omega
      have d5 := d4.mono (m := n + 70) (by omega)
      walk_at "go"
      refine w_lc (fun pre ys cs' => ∃ zs : List (List Nat), ys = namesD zs ∧ cs' = cs4 ++ (more ++ [some (.lst (namesD lf))]) ∧ zs.Nodup ∧ zs.length ≤ pre.length ∧ ∀ l ∈ zs, l ∈ td.take pre.length) ⟨[], rfl, rfl, by simp, by simp, by simp⟩ ?_ ?_
      · rintro pre d post ys cs' e ⟨zs, rfl, rfl, nd, zl, zt⟩
        obtain ⟨x, e1, rfl⟩ := enum_at e
        rw [namesD_get] at e1
        obtain ⟨l, e2, rfl⟩ := Option.map_eq_some_iff.mp e1
        refine ⟨_, rfl, ?_⟩
        walk_at "go"
        rw [namesD_take, r_inSL]
        walk_at "go"
        have hlt : (pre ++ [D.tup [D.int (pre.length : Int), D.str (strL l)]]).length = pre.length + 1 := by rw [List.length_append]; rfl
        rw [hlt]
        by_cases hin : l ∈ td.take pre.length
        · simp only [hin, decide_true, Bool.not_true, Bool.false_eq_true, if_false, if_true]
          refine ⟨zs, rfl, nd, by omega, fun y hy => ?_⟩
          rw [take_succ_of e2]; exact List.mem_append_left _ (zt y hy)
        · simp only [hin, decide_false, Bool.not_false, if_true]
          walk_at "go"
          refine ⟨zs ++ [l], namesD_snoc _ _, List.nodup_append.mpr ⟨nd, by simp, fun y hy y' hy' e => hin (by rw [List.mem_singleton] at hy'; rw [← hy', ← e]; exact zt y hy)⟩, by rw [List.length_append, List.length_singleton]; omega, fun y hy => ?_⟩
          rw [take_succ_of e2]
          rcases List.mem_append.mp hy with q | q
          · exact List.mem_append_left _ (zt y q)
          · exact List.mem_append_right _ q
      · rintro ys cs' ⟨zs, rfl, rfl, nd, zl, zt⟩
        rw [enumD_length, namesD_length] at zl
        have hz : ∀ l ∈ zs, Nm l := fun l hl => ntd l (List.mem_of_mem_take (zt l hl))
        walk_at "go"
        exact ⟨d5.trOk (by simp [D.bel, bels_names]), zs, rfl, by omega, nd, hz, by rw [d5.take]; exact d5⟩

noncomputable abbrev b_law_heap : SS :=
 (sSeq (sSet 2 (eN (callF 2 f_law_numbers) (aCons (eV 0) (aCons (eV 1) aNil))))
 (sSeq (sSet 3 (eN (callF 2 f_law_names) (aCons (eV 0) (aCons (eN bLen (aCons (eV 2) aNil)) aNil))))
 (sRet (eN bTup (aCons (eN bZipL (aCons (eV 3) (aCons (eV 2) aNil))) aNil)))))
noncomputable def f_law_heap : Fn := semDef 2 4 b_law_heap

theorem heap_ok {cs : Cs} {i n : Nat} (h : DkAt i n cs) (hn : n < 2 ^ 36) {most : Nat} (h6 : 6 ≤ most) (hm : most ≤ 60) : Sat (f_law_heap [.cel i, .int (most : Int)] cs) fun d cs' => ∃ hp : List (List Nat × Nat), d = .tup (heapD hp) ∧ hp.length ≤ most ∧ (hp.map (·.1)).Nodup ∧ (∀ p ∈ hp, Nm p.1 ∧ p.2 < 2 ^ 60) ∧ Dk i (n + 20000) cs cs' := by
  refine sat_def rfl ?_
  walk_at "go"
  refine sat_callF rfl ((numbers_ok h (by omega) h6 (by omega)).mono ?_)
  rintro _ cs2 ⟨ns, rfl, hl, hb, d1⟩
  walk_at "go"
  rw [natsD_length]
  refine sat_callF rfl ((names_ok d1.self (by omega) (by omega)).mono ?_)
  rintro _ cs3 ⟨nm, rfl, nl, nd, hnm, d2⟩
  walk_at "go"
  rw [r_zipL (xs := namesD nm) (ys := natsD ns) rfl rfl, zip_heap]
  walk_at "go"
  have d3 := (d1.trans d2).mono (m := n + 20000) (by omega)
  refine ⟨d3.trOk0 (by simp [D.bel, bels_heap]), nm.zip ns, rfl, by rw [List.length_zip]; omega, ?_, fun p hp => ⟨hnm p.1 (List.of_mem_zip hp).1, hb p.2 (List.of_mem_zip hp).2⟩, by rw [d3.take0]; exact d3⟩
  have : ∀ (a : List (List Nat)) (b : List Nat), ∃ k, (a.zip b).map (·.1) = a.take k := by
    intro a
    induction a with
    | nil => intro b; exact ⟨0, by simp⟩
    | cons x a ih => intro b; cases b with
      | nil => exact ⟨0, by simp⟩
      | cons y b =>
        obtain ⟨k, e⟩ := ih b
        exact ⟨k + 1, by rw [List.zip_cons_cons, List.map_cons, List.take_succ_cons, e]⟩
  obtain ⟨k, e⟩ := this nm ns
  rw [e]
  exact nd.sublist (List.take_sublist k nm)

noncomputable abbrev b_law_spoilt : SS :=
 (sSeq (sSet 3 (eN (bList true) (aCons (eV 2) aNil)))
 (sSeq (sSet 4 (eN (callF 2 f_law_next) (aCons (eV 0) (aCons (eC (.int 4)) aNil))))
 (sSeq (sSet 5 (eN (callF 2 f_law_next) (aCons (eV 0) (aCons (e2 (pAdd false) (eN bLen (aCons (eV 3) aNil)) (eC (.int 1))) aNil))))
 (sSeq (sSet 6 (eN (callF 2 f_law_next) (aCons (eV 0) (aCons (e2 (pAdd false) (eN bLen (aCons (eV 3) aNil)) (eC (.int 1))) aNil))))
 (sSeq (sSet 7 (e2 (pAdd false) (eN (mkL' false) (aCons (eC (.str "qqqqqqqq")) (aCons (eC (.str "")) (aCons (eC (.str "a1")) (aCons (eC (.str "zzz")) aNil))))) (eLc false [8, 9] (gT 2 (gCons (gN 8) (gCons (gN 9) gNil))) (iSeq (eV 1)) tYesS (eV 8))))
 (sSeq (sIf (tV (e2 pEq (eV 4) (eC (.int 0))))
 (sExpr (eMt isLD mInsert (eV 3) (aCons (eV 5) (aCons (e2 pItem (eV 7) (eN (callF 2 f_law_next) (aCons (eV 0) (aCons (eN bLen (aCons (eV 7) aNil)) aNil)))) aNil))))
 sNx)
 (sSeq (sIf (tAnd (tV (e2 pEq (eV 4) (eC (.int 1)))) (tV (e2 pLt (eV 5) (eN bLen (aCons (eV 3) aNil)))))
 (sExpr (eMt isLD mInsert (eV 3) (aCons (eV 6) (aCons (e2 pItem (eV 3) (eV 5)) aNil))))
 sNx)
 (sSeq (sIf (tAnd (tV (e2 pEq (eV 4) (eC (.int 2)))) (tAnd (tV (e2 pLt (eV 5) (eN bLen (aCons (eV 3) aNil)))) (tV (e2 pLt (eV 6) (eN bLen (aCons (eV 3) aNil))))))
 (sSwp (eN mkT (aCons (e2 pItem (eV 3) (eV 6)) (aCons (e2 pItem (eV 3) (eV 5)) aNil))) (eV 3) (eV 5) (eV 3) (eV 6))
 sNx)
 (sSeq (sIf (tAnd (tV (e2 pEq (eV 4) (eC (.int 3)))) (tV (e2 pNe (eV 3) (eN (mkL' false) aNil))))
 (sSub pSetL (eV 3) (e2 pMod (eV 5) (eN bLen (aCons (eV 3) aNil))) (e2 (pAdd false) (e2 pItem (eV 3) (e2 pMod (eV 5) (eN bLen (aCons (eV 3) aNil)))) (eC (.str "q"))))
 sNx)
 (sRet (eN bTup (aCons (eV 3) aNil))))))))))))
noncomputable def f_law_spoilt : Fn := semDef 3 10 b_law_spoilt

/-- a choice: at most m names, each of at most k signs -/
structure ChOk (m k : Nat) (ch : List (List Nat)) : Prop where
  len : ch.length ≤ m
  row : ∀ l ∈ ch, l.length ≤ k
  sg : Sg ch
theorem ChOk.mono {m k m2 k2 : Nat} {ch : List (List Nat)} (h : ChOk m k ch) (h1 : m ≤ m2) (h2 : k ≤ k2) : ChOk m2 k2 ch := ⟨Nat.le_trans h.len h1, fun l hl => Nat.le_trans (h.row l hl) h2, h.sg⟩
theorem ChOk.set {m k : Nat} {ch : List (List Nat)} (h : ChOk m k ch) {l : List Nat} (h1 : l.length ≤ k) (h2 : ∀ c ∈ l, c < 1114112) (j : Nat) : ChOk m k (ch.set j l) := by
  refine ⟨by rw [List.length_set]; exact h.len, fun x hx => ?_, fun x hx => ?_⟩
  · rcases List.mem_or_eq_of_mem_set hx with q | rfl
    · exact h.row x q
    · exact h1
  · rcases List.mem_or_eq_of_mem_set hx with q | rfl
    · exact h.sg x q
    · exact h2
theorem ChOk.ins {m k : Nat} {ch : List (List Nat)} (h : ChOk m k ch) {l : List Nat} (h1 : l.length ≤ k) (h2 : ∀ c ∈ l, c < 1114112) (j : Nat) : ChOk (m + 1) k (ch.take j ++ [l] ++ ch.drop j) := by
  have mem : ∀ x ∈ ch.take j ++ [l] ++ ch.drop j, x ∈ ch ∨ x = l := fun x hx => by
    (rcases List.mem_append.mp hx with q | q)
    · (rcases List.mem_append.mp q with q | q)
      · exact .inl (List.mem_of_mem_take q)
      · exact .inr (List.mem_singleton.mp q)
    · exact .inl (List.mem_of_mem_drop q)
  have := h.len
  refine ⟨by rw [List.length_append, List.length_append, List.length_take, List.length_drop, List.length_singleton]; omega, fun x hx => ?_, fun x hx => ?_⟩
  · rcases mem x hx with q | rfl
    · exact h.row x q
    · exact h1
  · rcases mem x hx with q | rfl
    · exact h.sg x q
    · exact h2
theorem namesD_put (a : List (List Nat)) (j : Nat) (l : List Nat) : (namesD a).set j (.str (strL l)) = namesD (a.set j l) := by unfold namesD; rw [List.map_set]
def oddW : List (List Nat) := [[113, 113, 113, 113, 113, 113, 113, 113], [], [97, 49], [122, 122, 122]]
theorem oddW_eq (xs : List (List Nat)) : D.str (Str.ofString "qqqqqqqq") :: D.str (Str.ofString "") :: D.str (Str.ofString "a1") :: D.str (Str.ofString "zzz") :: namesD xs = namesD (oddW ++ xs) := by
  have e1 : Str.ofString "qqqqqqqq" = strL [113, 113, 113, 113, 113, 113, 113, 113] := by decide +kernel
  have e2 : Str.ofString "" = strL [] := by decide +kernel
  have e3 : Str.ofString "a1" = strL [97, 49] := by decide +kernel
  have e4 : Str.ofString "zzz" = strL [122, 122, 122] := by decide +kernel
  rw [e1, e2, e3, e4]; rfl
theorem oddW_ok : ∀ l ∈ oddW, l.length ≤ 8 ∧ ∀ c ∈ l, c < 1114112 := by decide
theorem spoilt_ok {cs : Cs} {i n : Nat} (h : DkAt i n cs) (hn : n < 2 ^ 36) {hp : List (List Nat × Nat)} (hnm : ∀ p ∈ hp, Nm p.1) (hl : hp.length ≤ 60) {ch : List (List Nat)} {m k : Nat} (hm : m ≤ 100) (hk : 8 ≤ k) (hk2 : k ≤ 100) (hc : ChOk m k ch) : Sat (f_law_spoilt [.cel i, .tup (heapD hp), .tup (namesD ch)] cs) fun d cs' => ∃ c2, d = .tup (namesD c2) ∧ ChOk (m + 1) (k + 1) c2 ∧ Dk i (n + 5) cs cs' := by
  have hi := h.lt
  have chl := hc.len
  have fin : ∀ (c2 : List (List Nat)) (cs2 : Cs) (a : Nat), a ≤ n + 5 → Dk i a cs cs2 → ChOk (m + 1) (k + 1) c2 → TrOk cs (.tup (namesD c2)) (cs2 ++ [some (Cell.lst (namesD c2))]) ∧ ∃ c3, D.tup (namesD c2) = .tup (namesD c3) ∧ ChOk (m + 1) (k + 1) c3 ∧ Dk i (n + 5) cs ((cs2 ++ [some (Cell.lst (namesD c2))]).take cs.length) := fun c2 cs2 a ha d2 h2 =>
    ⟨d2.trOk (by simp [D.bel, bels_names]), c2, rfl, h2, by rw [d2.take]; exact d2.mono ha⟩
  refine sat_def rfl ?_
  walk_at "go"
  refine (draw_next (cs := cs) h (by omega) (by decide) (by decide)).mono ?_
  rintro _ _ ⟨way, cs1, rfl, w0, w1, rfl, d1⟩
  have l1 : cs1.length = cs.length := d1.len
  have la := last_at (c := .lst (namesD ch)) l1
  walk_at "go"
  rw [r_lenC la]
  walk_at "go"
  rw [namesD_length]
  refine (draw_next d1 (by omega) (by omega) (by omega)).mono ?_
  rintro _ _ ⟨a, cs2, rfl, a0, a1, rfl, d2⟩
  obtain ⟨a, rfl⟩ : ∃ k : Nat, a = k := ⟨a.toNat, by omega⟩
  have la := last_at (c := .lst (namesD ch)) (show cs2.length = cs.length from d2.len)
  walk_at "go"
  rw [r_lenC la]
  walk_at "go"
  rw [namesD_length]
  refine (draw_next d2 (by omega) (by omega) (by omega)).mono ?_
  rintro _ _ ⟨b, cs3, rfl, b0, b1, rfl, d3⟩
  obtain ⟨b, rfl⟩ : ∃ k : Nat, b = k := ⟨b.toNat, by omega⟩
  have l3 : cs3.length = cs.length := d3.len
  have la := last_at (c := .lst (namesD ch)) l3
  walk_at "go"
  refine w_lcM (xs := hp) (E := fun p => .tup [.str (strL p.1), .int (p.2 : Int)]) (fun p => .str (strL p.1)) ?_ ?_
  · intro p hp'
    refine ⟨_, rfl, ?_⟩
    walk_at "go"
  walk_at "run"
  rw [namesD_mapE]
  refine ⟨sizeLe (by rw [namesD_length, List.length_map]; omega), ?_⟩
  rw [oddW_eq]
  have hws : ∀ l ∈ oddW ++ hp.map (fun p => p.1), l.length ≤ 8 ∧ ∀ c ∈ l, c < 1114112 := fun l hl' => by
    rcases List.mem_append.mp hl' with q | q
    · exact oddW_ok l q
    · obtain ⟨p, hp', rfl⟩ := List.mem_map.mp q
      have := hnm p hp'
      exact ⟨this.len, fun c hc' => by have := this.low c hc'; omega⟩
  have hwl : (oddW ++ hp.map (fun p => p.1)).length = 4 + hp.length := by rw [List.length_append, List.length_map]; rfl
  generalize oddW ++ hp.map (fun p => p.1) = ws at hws hwl
  have big : ChOk (m + 1) (k + 1) ch := hc.mono (by omega) (by omega)
  have big1 : ChOk m (k + 1) ch := hc.mono (by omega) (by omega)
  have ia : ∀ (ch : List (List Nat)) (cs : Cs) (j : Nat) (h : j < ch.length) {n : Nat}, cs[n]? = some (some (.lst (namesD ch))) → pItem (.cel n) (.int (j : Int)) cs = .ok (.str (strL ch[j])) cs := fun ch cs j h n h1 => r_itemC (ds := namesD ch) h1 (atI_natL (by rw [namesD_get, List.getElem?_eq_getElem h]; rfl))
  have rowk : ∀ (j : Nat) (h : j < ch.length), ch[j].length ≤ k ∧ ∀ c ∈ ch[j], c < 1114112 := fun j h => ⟨hc.row _ (List.getElem_mem h), hc.sg _ (List.getElem_mem h)⟩
  have hw : way = 0 ∨ way = 1 ∨ way = 2 ∨ way = 3 := by omega
  rcases hw with rfl | rfl | rfl | rfl
  · walk_at "go"
    simp only [decide_true, if_true]
    walk_at "go"
    rw [if_pos (r_isC la)]
    walk_at "go"
    rw [namesD_length]
    refine (draw_next d3 (by omega) (by omega) (by omega)).mono ?_
    rintro _ _ ⟨t, cs4, rfl, t0, t1, rfl, d4⟩
    obtain ⟨t, rfl⟩ : ∃ k : Nat, t = k := ⟨t.toNat, by omega⟩
    have ht : t < ws.length := by omega
    have l4 : cs4.length = cs.length := d4.len
    have la4 := last_at (c := .lst (namesD ch)) l4
    rw [r_itemL (show atI (namesD ws) (t : Int) = some (.str (strL ws[t])) from atI_natL (by rw [namesD_get, List.getElem?_eq_getElem ht]; rfl))]
    walk_at "go"
    rw [r_insC la4 (by rw [namesD_length]; exact sizeLt (by omega)) (by omega), sat_ok, last_set l4, namesD_take, namesD_drop, namesD_snoc, namesD_append]
    iterate 4 (walk_at "go"; (try simp only [show decide ((0 : Int) = 0) = true from rfl, show decide ((0 : Int) = 1) = false from rfl, show decide ((0 : Int) = 2) = false from rfl, show decide ((0 : Int) = 3) = false from rfl, decide_true, Bool.false_eq_true, if_false, if_true, false_and]))
    walk_at "go"
    rw [r_tupC (last_at l4)]
    walk_at "go"
    refine fin _ cs4 _ (by omega) d4 (big1.ins (Nat.le_trans (hws _ (List.getElem_mem ht)).1 (by omega)) (hws _ (List.getElem_mem ht)).2 a)
  · iterate 3 (walk_at "go"; (try simp only [show decide ((1 : Int) = 0) = false from rfl, show decide ((1 : Int) = 1) = true from rfl, show decide ((1 : Int) = 2) = false from rfl, show decide ((1 : Int) = 3) = false from rfl, decide_true, Bool.false_eq_true, if_false, if_true, false_and]))
    rw [r_lenC la]
    walk_at "go"
    rw [namesD_length]
    by_cases c : (a : Int) < (ch.length : Int)
    · rw [decide_eq_true c]
      simp only [if_true]
      have ha : a < ch.length := by omega
      walk_at "go"
      rw [if_pos (r_isC la)]
      walk_at "go"
      rw [ia ch _ a ha la]
      walk_at "go"
      rw [r_insC la (by rw [namesD_length]; exact sizeLt (by omega)) (by omega), sat_ok, last_set l3, namesD_take, namesD_drop, namesD_snoc, namesD_append]
      iterate 4 (walk_at "go"; (try simp only [show decide ((1 : Int) = 0) = false from rfl, show decide ((1 : Int) = 1) = true from rfl, show decide ((1 : Int) = 2) = false from rfl, show decide ((1 : Int) = 3) = false from rfl, decide_true, Bool.false_eq_true, if_false, if_true, false_and]))
      walk_at "go"
      rw [r_tupC (last_at l3)]
      walk_at "go"
      exact fin _ cs3 _ (by omega) d3 (big1.ins (Nat.le_trans (rowk a ha).1 (by omega)) (rowk a ha).2 b)
    · rw [decide_eq_false c]
      (simp only [Bool.false_eq_true, if_false])
      iterate 4 (walk_at "go"; (try simp only [show decide ((1 : Int) = 0) = false from rfl, show decide ((1 : Int) = 1) = true from rfl, show decide ((1 : Int) = 2) = false from rfl, show decide ((1 : Int) = 3) = false from rfl, decide_true, Bool.false_eq_true, if_false, if_true, false_and]))
      walk_at "go"
      rw [r_tupC (last_at l3)]
      walk_at "go"
      exact fin _ cs3 _ (by omega) d3 big
  · iterate 4 (walk_at "go"; (try simp only [show decide ((2 : Int) = 0) = false from rfl, show decide ((2 : Int) = 1) = false from rfl, show decide ((2 : Int) = 2) = true from rfl, show decide ((2 : Int) = 3) = false from rfl, decide_true, Bool.false_eq_true, if_false, if_true, false_and]))
    rw [r_lenC la]
    walk_at "go"
    rw [namesD_length]
    by_cases c : (a : Int) < (ch.length : Int)
    · rw [decide_eq_true c]
      simp only [if_true]
      have ha : a < ch.length := by omega
      walk_at "go"
      rw [r_lenC la]
      walk_at "go"
      rw [namesD_length]
      by_cases c2 : (b : Int) < (ch.length : Int)
      · rw [decide_eq_true c2]
        simp only [if_true]
        have hb : b < ch.length := by omega
        refine w_sSwp ?_
        walk_at "go"
        rw [ia ch _ b hb la]
        walk_at "go"
        rw [ia ch _ a ha la]
        walk_at "go"
        refine ⟨_, _, rfl, ?_⟩
        walk_at "go"
        rw [r_setC (k := a) la (ixN_lit (by rw [namesD_length]; exact ha)), sat_ok, last_set l3, namesD_put]
        have la4 := last_at (c := .lst (namesD (ch.set a ch[b]))) l3
        walk_at "go"
        rw [r_setC (k := b) la4 (ixN_lit (by rw [namesD_length, List.length_set]; exact hb)), sat_ok, last_set l3, namesD_put]
        iterate 4 (walk_at "go"; (try simp only [show decide ((2 : Int) = 0) = false from rfl, show decide ((2 : Int) = 1) = false from rfl, show decide ((2 : Int) = 2) = true from rfl, show decide ((2 : Int) = 3) = false from rfl, decide_true, Bool.false_eq_true, if_false, if_true, false_and]))
        walk_at "go"
        rw [r_tupC (last_at l3)]
        walk_at "go"
        exact fin _ cs3 _ (by omega) d3 ((big.set (Nat.le_trans (rowk b hb).1 (by omega)) (rowk b hb).2 a).set (Nat.le_trans (rowk a ha).1 (by omega)) (rowk a ha).2 b)
      · rw [decide_eq_false c2]
        (simp only [Bool.false_eq_true, if_false])
        iterate 4 (walk_at "go"; (try simp only [show decide ((2 : Int) = 0) = false from rfl, show decide ((2 : Int) = 1) = false from rfl, show decide ((2 : Int) = 2) = true from rfl, show decide ((2 : Int) = 3) = false from rfl, decide_true, Bool.false_eq_true, if_false, if_true, false_and]))
        walk_at "go"
        rw [r_tupC (last_at l3)]
        walk_at "go"
        exact fin _ cs3 _ (by omega) d3 big
    · rw [decide_eq_false c]
      (simp only [Bool.false_eq_true, if_false])
      iterate 4 (walk_at "go"; (try simp only [show decide ((2 : Int) = 0) = false from rfl, show decide ((2 : Int) = 1) = false from rfl, show decide ((2 : Int) = 2) = true from rfl, show decide ((2 : Int) = 3) = false from rfl, decide_true, Bool.false_eq_true, if_false, if_true, false_and]))
      walk_at "go"
      rw [r_tupC (last_at l3)]
      walk_at "go"
      exact fin _ cs3 _ (by omega) d3 big
  · iterate 5 (walk_at "go"; (try simp only [show decide ((3 : Int) = 0) = false from rfl, show decide ((3 : Int) = 1) = false from rfl, show decide ((3 : Int) = 2) = false from rfl, show decide ((3 : Int) = 3) = true from rfl, decide_true, Bool.false_eq_true, if_false, if_true, false_and]))
    have neN : pNe (.cel cs.length) (.lst []) (cs3 ++ [some (Cell.lst (namesD ch))]) = .ok (.bl (!decide (ch = []))) (cs3 ++ [some (Cell.lst (namesD ch))]) := by
      unfold pNe; rw [eqD_namesL (b := []) hc.sg (fun l hl' => by cases hl') (deref_cel la) rfl rfl]
    rw [neN]
    walk_at "go"
    by_cases c : ch = []
    · rw [decide_eq_true c]
      (simp only [Bool.not_true, Bool.false_eq_true, if_false])
      iterate 4 (walk_at "go"; (try simp only [show decide ((3 : Int) = 0) = false from rfl, show decide ((3 : Int) = 1) = false from rfl, show decide ((3 : Int) = 2) = false from rfl, show decide ((3 : Int) = 3) = true from rfl, decide_true, Bool.false_eq_true, if_false, if_true, false_and]))
      walk_at "go"
      rw [r_tupC (last_at l3)]
      walk_at "go"
      exact fin _ cs3 _ (by omega) d3 big
    · rw [decide_eq_false c]
      (simp only [Bool.not_false, if_true])
      have h0 : 0 < ch.length := List.length_pos_iff.mpr c
      have hj : a % ch.length < ch.length := Nat.mod_lt _ h0
      have ej : ((a : Int) % (ch.length : Int)) = ((a % ch.length : Nat) : Int) := by omega
      iterate 3 (walk_at "go"; (try rw [r_lenC la]); (try rw [namesD_length]); (try rw [ej]); (try rw [ia ch _ _ hj la]))
      rw [show Str.ofString "q" = strL [113] from by decide +kernel, r_addSS (by have := (rowk _ hj).1; simp only [List.length_singleton]; omega)]
      iterate 3 (walk_at "go"; (try rw [r_lenC la]); (try rw [namesD_length]); (try rw [ej]))
      rw [r_setC (k := a % ch.length) la (ixN_lit (by rw [namesD_length]; exact hj)), sat_ok, last_set l3, namesD_put]
      walk_at "go"
      rw [r_tupC (last_at l3)]
      walk_at "go"
      refine fin _ cs3 _ (by omega) d3 (big.set (by rw [List.length_append, List.length_singleton]; have := (rowk _ hj).1; omega) (fun c hc' => ?_) _)
      rcases List.mem_append.mp hc' with q | q
      · exact (rowk _ hj).2 c q
      · rw [List.mem_singleton.mp q]; omega

noncomputable abbrev b_law_wrong : SS :=
 (sSeq (sSet 2 (eLc false [4, 5] (gT 2 (gCons (gN 4) (gCons (gN 5) gNil))) (iSeq (eV 0)) tYesS (eV 4)))
 (sSeq (sFor (gT 2 (gCons (gN 3) (gCons (gN 4) gNil))) (iEn (aCons (eV 1) aNil))
 (sSeq (sIf (tOr (tV (e2 (pIn true) (eV 4) (eV 2))) (tV (e2 (pIn false) (eV 4) (eSl false (eV 1) oNo (oSome (eV 3))))))
 (sRet (eV 4))
 sNx)
 (sIf (tV (e2 pNe (eLc false [6] (gN 6) (iSeq (eSl false (eV 1) oNo (oSome (eV 3)))) (tV (e2 pGt (eMt isLD mIndex (eV 2) (aCons (eV 6) aNil)) (eMt isLD mIndex (eV 2) (aCons (eV 4) aNil)))) (eV 6)) (eN (mkL' false) aNil)))
 (sRet (eV 4))
 sNx)))
 (sRet (eC .non))))
noncomputable def f_law_wrong : Fn := semDef 2 7 b_law_wrong

/-- a name's place among the names, less one where it is none -/
def plN (ns : List (List Nat)) (l : List Nat) : Int := if l ∈ ns then (ns.idxOf l : Int) else -1
/-- the first name that is none, or comes too late -/
def wrg (ns : List (List Nat)) : Int → List (List Nat) → Option (List Nat)
  | _, [] => none
  | last, l :: r => if plN ns l ≤ last then some l else wrg ns (plN ns l) r
/-- what stands ahead is right, and ends at that place -/
structure PreR (ns : List (List Nat)) (pre : List (List Nat)) (last : Int) : Prop where
  low : -1 ≤ last
  all : ∀ o ∈ pre, o ∈ ns ∧ plN ns o ≤ last
  top : 0 ≤ last → ∃ o ∈ pre, plN ns o = last
theorem preR_nil (ns : List (List Nat)) : PreR ns [] (-1) := ⟨by omega, by simp, by omega⟩
theorem plN_in {ns : List (List Nat)} {l : List Nat} (h : l ∈ ns) : plN ns l = (ns.idxOf l : Int) := by unfold plN; rw [if_pos h]
theorem plN_out {ns : List (List Nat)} {l : List Nat} (h : ¬ l ∈ ns) : plN ns l = -1 := by unfold plN; rw [if_neg h]
theorem PreR.step {ns pre : List (List Nat)} {last : Int} (h : PreR ns pre last) {l : List Nat} (hl : ¬ plN ns l ≤ last) : PreR ns (pre ++ [l]) (plN ns l) := by
  have h0 := h.low
  have hin : l ∈ ns := Decidable.byContradiction fun q => hl (by rw [plN_out q]; exact h0)
  refine ⟨by omega, fun o ho => ?_, fun _ => ⟨l, by simp, rfl⟩⟩
  rcases List.mem_append.mp ho with q | q
  · exact ⟨(h.all o q).1, by have := (h.all o q).2; omega⟩
  · rw [List.mem_singleton.mp q]; exact ⟨hin, Int.le_refl _⟩
/-- told otherwise: no name, told before, or behind a later one -/
theorem PreR.iff {ns pre : List (List Nat)} {last : Int} (h : PreR ns pre last) {l : List Nat} : plN ns l ≤ last ↔ ¬ l ∈ ns ∨ l ∈ pre ∨ ∃ o ∈ pre, ns.idxOf l < ns.idxOf o := by
  have h0 := h.low
  constructor
  · intro hl
    by_cases hin : l ∈ ns
    · rw [plN_in hin] at hl
      obtain ⟨o, ho, e⟩ := h.top (by omega)
      obtain ⟨oin, _⟩ := h.all o ho
      rw [plN_in oin] at e
      by_cases q : ns.idxOf l < ns.idxOf o
      · exact .inr (.inr ⟨o, ho, q⟩)
      · have e2 : ns.idxOf l = ns.idxOf o := by omega
        have : l = o := by
          have a1 := List.getElem_idxOf (List.idxOf_lt_length_iff.mpr hin)
          have a2 := List.getElem_idxOf (List.idxOf_lt_length_iff.mpr oin)
          rw [← a1, ← a2]
          congr 1
        exact .inr (.inl (this ▸ ho))
    · exact .inl hin
  · rintro (q | q | ⟨o, ho, q⟩)
    · rw [plN_out q]; exact h0
    · exact (h.all l q).2
    · by_cases hin : l ∈ ns
      · obtain ⟨oin, e⟩ := h.all o ho
        rw [plN_in oin] at e
        rw [plN_in hin]; omega
      · rw [plN_out hin]; exact h0
def optN : Option (List Nat) → D
  | none => .non
  | some l => .str (strL l)
theorem wrong_ok {hp : List (List Nat × Nat)} (hl : hp.length ≤ 1000) (nd : (hp.map (·.1)).Nodup) {ch : List (List Nat)} (cl : ch.length ≤ 1000) (hs : Sg ch) (cs : Cs) : f_law_wrong [.tup (heapD hp), .tup (namesD ch)] cs = .ok (optN (wrg (hp.map (·.1)) (-1) ch)) cs := by
  refine sat_eq (sat_def rfl ?_)
  walk_at "go"
  refine w_lcM (xs := hp) (E := fun p => .tup [.str (strL p.1), .int (p.2 : Int)]) (fun p => .str (strL p.1)) ?_ ?_
  · intro p hp'
    refine ⟨_, rfl, ?_⟩
    walk_at "go"
  walk_at "run"
  rw [namesD_mapE]
  have ei : ∀ {l : List Nat} {cs : Cs}, l ∈ hp.map (·.1) → mIndex (.lst (namesD (hp.map (·.1)))) [.str (strL l)] cs = .ok (.int (((hp.map (·.1)).idxOf l : Nat) : Int)) cs := fun {l cs} h => by
    have := List.idxOf_lt_length_iff.mpr h
    exact r_indexS nd (by rw [List.getElem?_eq_getElem this, List.getElem_idxOf])
  generalize hp.map (·.1) = ns at nd ei
  walk_at "go"
  refine w_for (fun pre sl cs1 => ∃ (t3 t4 : Option D) (last : Int), sl = [some (.tup (heapD hp)), some (.tup (namesD ch)), some (.lst (namesD ns)), t3, t4, none, none] ∧ cs1 = cs ∧ PreR ns (ch.take pre.length) last ∧ wrg ns (-1) ch = wrg ns last (ch.drop pre.length)) ⟨_, _, -1, rfl, rfl, preR_nil ns, rfl⟩ ?_ ?_
  · rintro pre d post sl cs1 e ⟨t3, t4, last, rfl, rfl, hP, hw⟩
    obtain ⟨x, e1, rfl⟩ := enum_at e
    rw [namesD_get] at e1
    obtain ⟨l, e2, rfl⟩ := Option.map_eq_some_iff.mp e1
    have hpl : pre.length < ch.length := (List.getElem?_eq_some_iff.mp e2).1
    have ed : ch.drop pre.length = l :: ch.drop (pre.length + 1) := by
      rw [List.drop_eq_getElem_cons hpl, (List.getElem?_eq_some_iff.mp e2).2]
    rw [ed, wrg] at hw
    have hI := hP.iff (l := l)
    have hall := hP.all
    have ln : ∀ a : D, (pre ++ [a]).length = pre.length + 1 := fun a => by rw [List.length_append]; rfl
    refine ⟨_, rfl, ?_⟩
    walk_at "go"
    rw [r_inSL]
    walk_at "go"
    by_cases c1 : l ∈ ns
    · simp only [c1, decide_true, Bool.not_true, Bool.false_eq_true, if_false, if_true]
      walk_at "go"
      rw [namesD_take, r_inST]
      walk_at "go"
      by_cases c2 : l ∈ ch.take pre.length
      · simp only [c2, decide_true, Bool.false_eq_true, if_false, if_true]
        walk_at "go"
        rw [hw, if_pos (hI.mpr (.inr (.inl c2)))]
        exact ⟨trOk_same rfl, rfl, List.take_length⟩
      · simp only [c2, decide_false, Bool.false_eq_true, if_false]
        walk_at "go"
        rw [namesD_take]
        refine w_lcP (xs := ch.take pre.length) (E := fun (l : List Nat) => .str (strL l)) (fun o => decide (ns.idxOf l < ns.idxOf o)) (fun (l : List Nat) => .str (strL l)) ?_ ?_
        · intro o ho
          refine ⟨_, rfl, ?_⟩
          walk_at "go"
          rw [ei (hall o ho).1]
          walk_at "go"
          rw [ei c1]
          walk_at "go"
          refine ⟨by rw [Bool.eq_iff_iff, decide_eq_true_eq, decide_eq_true_eq]; omega, fun _ => trivial⟩
        rw [show ∀ xs : List (List Nat), xs.map (fun l => D.str (strL l)) = namesD xs from fun _ => rfl]
        walk_at "go"
        rw [show D.lst [] = D.lst (namesD []) from rfl, r_neSL (b := []) (fun l' hl' => hs l' (List.mem_of_mem_take (List.mem_filter.mp hl').1)) (fun l' hl' => by cases hl')]
        walk_at "go"
        by_cases c3 : (ch.take pre.length).filter (fun o => decide (ns.idxOf l < ns.idxOf o)) = []
        · rw [decide_eq_true c3]
          (simp only [Bool.not_true, Bool.false_eq_true, if_false])
          walk_at "go"
          have hno : ¬ plN ns l ≤ last := fun z => by
            rcases hI.mp z with q | q | ⟨o, ho, q⟩
            · exact q c1
            · exact c2 q
            · exact List.filter_eq_nil_iff.mp c3 o ho (decide_eq_true q)
          rw [ln, take_succ_of e2]
          rw [if_neg hno] at hw
          exact ⟨_, _, _, rfl, hP.step hno, hw⟩
        · rw [decide_eq_false c3]
          (simp only [Bool.not_false, if_true])
          walk_at "go"
          have hyes : plN ns l ≤ last := hI.mpr (.inr (.inr (by
            obtain ⟨o, ho⟩ := List.exists_mem_of_ne_nil _ c3
            exact ⟨o, (List.mem_filter.mp ho).1, of_decide_eq_true (List.mem_filter.mp ho).2⟩)))
          rw [hw, if_pos hyes]
          exact ⟨trOk_same rfl, rfl, List.take_length⟩
    · simp only [c1, decide_false, Bool.not_false, if_true]
      walk_at "go"
      rw [hw, if_pos (hI.mpr (.inl c1))]
      exact ⟨trOk_same rfl, rfl, List.take_length⟩
  · rintro sl cs1 ⟨t3, t4, last, rfl, rfl, hP, hw⟩
    rw [enumD_length, namesD_length, List.drop_length] at hw
    walk_at "go"
    rw [hw]
    exact ⟨trOk_same rfl, rfl, List.take_length⟩

noncomputable abbrev b_need_choice_v2 : SS :=
 (sSeq (sSet 2 (eN (bDict false) (aCons (eLc false [5, 4, 6] (gT 2 (gCons (gN 5) (gCons (gT 2 (gCons (gN 4) (gCons (gN 6) gNil))) gNil))) (iEn (aCons (eV 0) aNil)) tYesS (eN mkT (aCons (eV 4) (aCons (eV 5) aNil)))) aNil)))
 (sSeq (sSet 3 (e1 pNeg (eC (.int 1))))
 (sFor (gN 4) (iSeq (eV 1))
 (sSeq (sIf (tV (e2 pLe (eGet2 (eV 2) (eV 4) (e1 pNeg (eC (.int 1)))) (eV 3)))
 (sRzO "NoName" "word" (eV 4))
 sNx)
 (sSet 3 (e2 pGetD (eV 2) (eV 4)))))))
noncomputable def f_need_choice_v2 : Fn := semDef 2 7 b_need_choice_v2

theorem valD_none {ks : List (Key × D)} {k : Key} (h : ¬ k ∈ ks.map (·.1)) : valD ks k = none := by
  unfold valD
  rw [List.find?_eq_none.mpr fun q hq => ?_]
  · rfl
  · rw [decide_eq_true_eq]
    exact fun z => h (List.mem_map.mpr ⟨q, hq, z⟩)
theorem get_pl {hp : List (List Nat × Nat)} (nd : (hp.map (·.1)).Nodup) (l : List Nat) : (valD (pnK 0 hp) (.inr (strL l))).getD (.int (-1)) = .int (plN (hp.map (·.1)) l) := by
  by_cases h : l ∈ hp.map (·.1)
  · rw [plN_in h]
    have hlt := List.idxOf_lt_length_iff.mpr h
    have hlt2 : (hp.map (·.1)).idxOf l < hp.length := by rw [← List.length_map (f := (·.1))]; exact hlt
    have e1 : hp[(hp.map (·.1)).idxOf l]? = some hp[(hp.map (·.1)).idxOf l] := List.getElem?_eq_getElem hlt2
    have e2 := pnK_get 0 nd e1
    have e3 : (hp[(hp.map (·.1)).idxOf l]).1 = l := by
      have := List.getElem_idxOf hlt
      rw [List.getElem_map] at this
      exact this
    rw [e3, Nat.zero_add] at e2
    rw [e2]; rfl
  · rw [plN_out h, valD_none]
    · rfl
    · rw [pnK_keys]
      intro z
      obtain ⟨p, hp', e⟩ := List.mem_map.mp z
      have e2 : p.1 = l := strL_inj (Sum.inr.inj e)
      exact h (List.mem_map.mpr ⟨p, hp', e2⟩)
theorem need_x {hp : List (List Nat × Nat)} (hl : hp.length ≤ 1000) (nd : (hp.map (·.1)).Nodup) {ch : List (List Nat)} (cl : ch.length ≤ 1000) (ck : ∀ l ∈ ch, l.length ≤ 1000) (cs : Cs) : SatX (f_need_choice_v2 [.tup (heapD hp), .tup (namesD ch)] cs) (fun d cs' => wrg (hp.map (·.1)) (-1) ch = none ∧ d = .non ∧ cs' = cs) fun x cs' => ∃ l, wrg (hp.map (·.1)) (-1) ch = some l ∧ x = ⟨"NoName", [("word", .str (strL l))]⟩ ∧ cs' = cs := by
  refine satX_def rfl ?_
  walk_at "go"
  refine w_lc (fun pre ys cs' => ys = prK (pnK 0 (hp.take pre.length)) ∧ cs' = cs) ⟨rfl, rfl⟩ ?_ ?_
  · rintro pre d post ys cs' e ⟨rfl, rfl⟩
    obtain ⟨x, e1, rfl⟩ := enum_at e
    rw [heapD_get] at e1
    obtain ⟨p, e2, rfl⟩ := Option.map_eq_some_iff.mp e1
    have hpl : pre.length < hp.length := (List.getElem?_eq_some_iff.mp e2).1
    have hsn : ∀ a : D, (pre ++ [a]).length = pre.length + 1 := fun a => by rw [List.length_append]; rfl
    have htl : (hp.take pre.length).length = pre.length := by rw [List.length_take]; omega
    refine ⟨_, rfl, ?_⟩
    walk_at "go"
    rw [hsn, take_succ_of e2, pnK_snoc, htl, Nat.zero_add]
    unfold prK
    rw [List.map_append]; rfl
  · rintro ys cs' ⟨rfl, rfl⟩
    rw [enumD_length, heapD_length, List.take_length]
    walk_at "run"
    have e1 : prsD (prK (pnK 0 hp)) = some (pnK 0 hp) := prsD_map _
    rw [r_dict e1, pnK_merge nd]
    have gp := get_pl nd
    generalize hp.map (·.1) = ns at gp
    walk_at "go"
    refine w_for (fun pre sl cs1 => ∃ (last : Int) (t4 t5 t6 : Option D), sl = [some (.tup (heapD hp)), some (.tup (namesD ch)), some (.dic (pnK 0 hp)), some (.int last), t4, t5, t6] ∧ cs1 = cs' ∧ -1 ≤ last ∧ wrg ns (-1) ch = wrg ns last (ch.drop pre.length)) ⟨_, _, _, _, rfl, rfl, by omega, rfl⟩ ?_ ?_
    · rintro pre d post sl cs1 e ⟨last, t4, t5, t6, rfl, rfl, h0, hw⟩
      have e2 := split_at e
      rw [namesD_get] at e2
      obtain ⟨l, e3, rfl⟩ := Option.map_eq_some_iff.mp e2
      have hpl : pre.length < ch.length := (List.getElem?_eq_some_iff.mp e3).1
      have ed : ch.drop pre.length = l :: ch.drop (pre.length + 1) := by
        rw [List.drop_eq_getElem_cons hpl, (List.getElem?_eq_some_iff.mp e3).2]
      rw [ed, wrg] at hw
      refine ⟨_, rfl, ?_⟩
      walk_at "go"
      refine ⟨rfl, ?_⟩
      rw [r_get2S rfl, gp]
      walk_at "go"
      by_cases c : plN ns l ≤ last
      · rw [decide_eq_true c]
        simp only [if_true]
        rw [if_pos c] at hw
        walk_at "go"
        refine w_sRzO ?_
        walk_at "go"
        refine ⟨_, rfl, Nat.le_trans (ck l (List.mem_of_getElem? e3)) (by decide), ?_⟩
        exact ⟨⟨trOk_same rfl, rfl⟩, l, hw, rfl, List.take_length⟩
      · rw [decide_eq_false c]
        (simp only [Bool.false_eq_true, if_false])
        rw [if_neg c] at hw
        walk_at "go"
        have ev : valD (pnK 0 hp) (.inr (strL l)) = some (.int (plN ns l)) := by
          have := gp l
          cases h : valD (pnK 0 hp) (.inr (strL l)) with
          | none =>
            rw [h, Option.getD_none] at this
            have := D.int.inj this
            omega
          | some d => rw [h] at this; rw [← this]; rfl
        rw [r_getDS rfl ev]
        walk_at "go"
        (rw [List.length_append, List.length_singleton])
        exact ⟨_, _, _, _, rfl, by omega, hw⟩
    · rintro sl cs1 ⟨last, t4, t5, t6, rfl, rfl, _, hw⟩
      rw [namesD_length, List.drop_length] at hw
      walk_at "go"
      exact ⟨trOk_same rfl, hw, List.take_length⟩

noncomputable abbrev b_sum_of_choice_v2 : SS :=
 (sSeq (sExpr (eN (callX 2 f_need_choice_v2) (aCons (eV 0) (aCons (eV 1) aNil))))
 (sSeq (sSet 2 (eC (.int 0)))
 (sSeq (sFor (gT 2 (gCons (gN 3) (gCons (gN 4) gNil))) (iSeq (eV 0))
 (sIf (tV (e2 (pIn false) (eV 3) (eV 1)))
 (sSet 2 (e2 pXor (eV 2) (eV 4)))
 sNx))
 (sRet (eV 2)))))
noncomputable def f_sum_of_choice_v2 : Fn := semDef 2 5 b_sum_of_choice_v2

theorem xsum_filt {α : Type} (v : α → Nat) (P : α → Bool) (l : List α) (a : α) : xsum v ((l ++ [a]).filter P) = if P a then xsum v (l.filter P) ^^^ v a else xsum v (l.filter P) := by
  rw [List.filter_append]
  cases h : P a with
  | true => rw [show [a].filter P = [a] from by simp [h], xsum_snoc]; rfl
  | false => rw [show [a].filter P = [] from by simp [h], List.append_nil]; rfl
theorem sum_x {hp : List (List Nat × Nat)} (hl : hp.length ≤ 1000) (nd : (hp.map (·.1)).Nodup) {ch : List (List Nat)} (cl : ch.length ≤ 1000) (ck : ∀ l ∈ ch, l.length ≤ 1000) (cs : Cs) : SatX (f_sum_of_choice_v2 [.tup (heapD hp), .tup (namesD ch)] cs) (fun d cs' => wrg (hp.map (·.1)) (-1) ch = none ∧ d = .int ((xsum (·.2) (hp.filter fun p => decide (p.1 ∈ ch)) : Nat) : Int) ∧ cs' = cs) fun x cs' => ∃ l, wrg (hp.map (·.1)) (-1) ch = some l ∧ x = ⟨"NoName", [("word", .str (strL l))]⟩ ∧ cs' = cs := by
  refine satX_def rfl ?_
  walk_at "run"
  refine w_sSeq (x_sExpr (satX_eN ?_))
  walk_at "go"
  refine satX_callX rfl ((need_x hl nd cl ck cs).mono ?_ ?_)
  · rintro _ cs ⟨hw, rfl, rfl⟩
    walk_at "go"
    refine w_for (fun pre sl cs1 => ∃ t3 t4, sl = [some (.tup (heapD hp)), some (.tup (namesD ch)), some (.int ((xsum (·.2) ((hp.take pre.length).filter fun p => decide (p.1 ∈ ch)) : Nat) : Int)), t3, t4] ∧ cs1 = cs) ⟨_, _, rfl, rfl⟩ ?_ ?_
    · rintro pre d post sl cs1 e ⟨t3, t4, rfl, rfl⟩
      have e2 := split_at e
      rw [heapD_get] at e2
      obtain ⟨p, e3, rfl⟩ := Option.map_eq_some_iff.mp e2
      refine ⟨_, rfl, ?_⟩
      walk_at "go"
      rw [r_inST]
      walk_at "go"
      rw [List.length_append, List.length_singleton, take_succ_of e3, xsum_filt]
      by_cases c : p.1 ∈ ch
      · simp only [c, decide_true, Bool.false_eq_true, if_false, if_true]
        walk_at "go"
        rw [xor_nat]
        exact ⟨_, _, rfl⟩
      · simp only [c, decide_false, Bool.false_eq_true, if_false]
        walk_at "go"
        exact ⟨_, _, rfl⟩
    · rintro sl cs1 ⟨t3, t4, rfl, rfl⟩
      rw [heapD_length, List.take_length]
      walk_at "go"
      exact ⟨trOk_same rfl, hw, List.take_length⟩
  · rintro _ cs ⟨l, hw, rfl, rfl⟩
    walk_at "go"
    exact ⟨⟨trOk_same rfl, rfl⟩, l, hw, rfl, List.take_length⟩

noncomputable abbrev b_law_is_number : SS :=
 (sRet (eAnd (eIsi "int" (eV 0)) (eAnd (eNot (eIsi "bool" (eV 0))) (e2 pGe (eV 0) (eC (.int 0))))))
noncomputable def f_law_is_number : Fn := semDef 1 1 b_law_is_number

theorem is_number_ok (n : Nat) (cs : Cs) : f_law_is_number [.int (n : Int)] cs = .ok (.bl true) cs := by
  refine sat_eq (sat_def rfl ?_)
  walk_at "go"
  simp only [tyD, kit_int_int, kit_int_bool, if_true, Bool.not_false]
  walk_at "go"
  rw [decide_eq_true (Int.natCast_nonneg n)]
  exact ⟨trOk_same (by simp [D.bel]), rfl, List.take_length⟩

noncomputable abbrev b_law_sum : SS :=
 (sSeq (sSet 1 (eC (.int 0)))
 (sSeq (sFor (gN 2) (iRg1 (aCons (eC (.int 60)) aNil))
 (sSet 1 (e2 (pAdd false) (eV 1) (e2 pMul (e2 pShl (eC (.int 1)) (eV 2)) (e2 pMod (eN bSum (aCons (eLc false [3] (gN 3) (iSeq (eV 0)) tYesS (e2 pMod (e2 pShr (eV 3) (eV 2)) (eC (.int 2)))) aNil)) (eC (.int 2)))))))
 (sRet (eV 1))))
noncomputable def f_law_sum : Fn := semDef 1 4 b_law_sum

theorem odd_one (i t x : Nat) : ((t ^^^ x) / 2 ^ i % 2) = (t / 2 ^ i % 2 + x / 2 ^ i % 2) % 2 := by
  have e : ∀ y : Nat, y / 2 ^ i % 2 = (y.testBit i).toNat := fun y => by
    rw [Nat.testBit_eq_decide_div_mod_eq]
    rcases Nat.mod_two_eq_zero_or_one (y / 2 ^ i) with h | h <;> rw [h] <;> rfl
  rw [e, e, e, Nat.testBit_xor]
  cases t.testBit i <;> cases x.testBit i <;> rfl
theorem odd_all (i : Nat) : ∀ (l : List Nat) (t : Nat), ((l.map fun x => x / 2 ^ i % 2).sum + t / 2 ^ i % 2) % 2 = (l.foldl (fun t x => t ^^^ x) t) / 2 ^ i % 2
  | [], t => by
    show (0 + t / 2 ^ i % 2) % 2 = t / 2 ^ i % 2
    omega
  | x :: l, t => by
    rw [List.foldl_cons, ← odd_all i l (t ^^^ x), odd_one, List.map_cons, List.sum_cons]
    omega
/-- the sum of the numbers, digit by digit -/
theorem lsum_ok {ns : List Nat} (hl : ns.length ≤ 1000) (hb : ∀ x ∈ ns, x < 2 ^ 60) (cs : Cs) : f_law_sum [.lst (natsD ns)] cs = .ok (.int ((xsum id ns : Nat) : Int)) cs := by
  have small : xsum id ns < 2 ^ 60 := by
    have : ∀ (l : List Nat) (t : Nat), t < 2 ^ 60 → (∀ x ∈ l, x < 2 ^ 60) → l.foldl (fun t x => t ^^^ x) t < 2 ^ 60 := by
      intro l
      induction l with
      | nil => intro t h _; exact h
      | cons x l ih => intro t h h2; exact ih _ (Nat.xor_lt_two_pow h (h2 x (List.mem_cons_self ..))) fun y hy => h2 y (List.mem_cons_of_mem _ hy)
    exact this ns 0 (by decide) hb
  refine sat_eq (sat_def rfl ?_)
  walk_at "go"
  refine w_for (fun pre sl cs1 => ∃ t2, sl = [some (.lst (natsD ns)), some (.int ((xsum id ns % 2 ^ pre.length : Nat) : Int)), t2, none] ∧ cs1 = cs) ⟨_, by rw [List.length_nil, Nat.pow_zero, Nat.mod_one]; rfl, rfl⟩ ?_ ?_
  · rintro pre d post sl cs1 e ⟨t2, rfl, rfl⟩
    obtain ⟨rfl, hpre⟩ := rgL_at e
    refine ⟨_, rfl, ?_⟩
    walk_at "go"
    refine w_lcM (xs := ns) (E := fun (n : Nat) => .int (n : Int)) (fun x => .int ((x / 2 ^ pre.length % 2 : Nat) : Int)) ?_ ?_
    · intro x hx
      refine ⟨_, rfl, ?_⟩
      walk_at "go"
      rw [show ((0 : Int) + (pre.length : Int)).toNat = pre.length from by omega]
      congr 1
    rw [show ns.map (fun x => D.int ((x / 2 ^ pre.length % 2 : Nat) : Int)) = natsD (ns.map fun x => x / 2 ^ pre.length % 2) from by unfold natsD; rw [List.map_map]; rfl]
    rw [r_sumN]
    have o := odd_all pre.length ns 0
    rw [Nat.zero_div, Nat.zero_mod, Nat.add_zero] at o
    have ei : (((ns.map fun x => x / 2 ^ pre.length % 2).sum : Nat) : Int) % 2 = ((xsum id ns / 2 ^ pre.length % 2 : Nat) : Int) := by
      rw [show xsum id ns = ns.foldl (fun t x => t ^^^ x) 0 from rfl, ← o]
      omega
    walk_at "go"
    rw [ei]
    walk_at "go"
    rw [show ((0 : Int) + (pre.length : Int)).toNat = pre.length from by omega, List.length_append, List.length_singleton, Nat.pow_succ, Nat.mod_mul, Int.one_mul]
    refine ⟨some (.int (0 + (pre.length : Int))), ?_⟩
    congr 5
  · rintro sl cs1 ⟨t2, rfl, rfl⟩
    rw [rgL_length, show ((60 : Int) - 0).toNat = 60 from rfl, Nat.mod_eq_of_lt small]
    walk_at "go"
    exact ⟨trOk_same rfl, List.take_length⟩

noncomputable abbrev b_law_right_v11 : SS :=
 (sSeq (sSet 2 (eN (callF 2 f_law_wrong) (aCons (eV 0) (aCons (eV 1) aNil))))
 (sSeq (sSet 3 (eC .non))
 (sSeq (sSet 4 (eC .non))
 (sSeq (sTryAs (kdL [("NoName", true)]) 5
 (sSet 3 (eN (callX 2 f_sum_of_choice_v2) (aCons (eV 0) (aCons (eV 1) aNil))))
 (sSet 4 (eV 5)))
 (sSeq (sIf (tV (e2 pIsN (eV 2) (eC .non)))
 (sSeq (sSet 6 (eLc false [7, 8] (gT 2 (gCons (gN 7) (gCons (gN 8) gNil))) (iSeq (eV 0)) (tV (e2 (pIn false) (eV 7) (eV 1))) (eV 8)))
 (sRet (eAnd (e2 pIsN (eV 4) (eC .non)) (eAnd (eN (callF 1 f_law_is_number) (aCons (eV 3) aNil)) (e2 pEq (eV 3) (eN (callF 1 f_law_sum) (aCons (eV 6) aNil)))))))
 sNx)
 (sSeq (sIf (tOr (tTr (eIsE (kdL [("NoName", false)]) (eV 4))) (tNot (tTr (eIsE (kdL [("NoName", true)]) (eV 4)))))
 (sRet (eC (.bl false)))
 sNx)
 (sRet (eAnd (eIsE (kdL [("NoName", true)]) (eV 4)) (e2 pEq (eFld "word" ["NoName"] (eV 4)) (eV 2))))))))))
noncomputable def f_law_right_v11 : Fn := semDef 2 9 b_law_right_v11

theorem right_ok {hp : List (List Nat × Nat)} (hl : hp.length ≤ 1000) (hb : ∀ p ∈ hp, p.2 < 2 ^ 60) (nd : (hp.map (·.1)).Nodup) {ch : List (List Nat)} (cl : ch.length ≤ 1000) (ck : ∀ l ∈ ch, l.length ≤ 1000) (hs : Sg ch) (cs : Cs) : Sat (f_law_right_v11 [.tup (heapD hp), .tup (namesD ch)] cs) fun d cs' => d = .bl true ∧ cs' = cs := by
  refine sat_def rfl ?_
  walk_at "go"
  refine sat_callF rfl (sat_of (wrong_ok hl nd cl hs _) ?_)
  walk_at "go"
  refine w_sTry (x_sSet (satX_eN ?_))
  walk_at "go"
  have k0 : kdL [("NoName", false)] "NoName" = some false := rfl
  have k1 : kdL [("NoName", true)] "NoName" = some true := rfl
  refine satX_callX rfl ((sum_x hl nd cl ck cs).mono ?_ ?_)
  · rintro _ cs ⟨hw, rfl, rfl⟩
    rw [hw, show optN none = .non from rfl]
    walk_at "go"
    refine w_lcP (xs := hp) (E := fun p => .tup [.str (strL p.1), .int (p.2 : Int)]) (fun p => decide (p.1 ∈ ch)) (fun p => .int ((p.2 : Nat) : Int)) ?_ ?_
    · intro p hp'
      refine ⟨_, rfl, ?_⟩
      walk_at "go"
      rw [r_inST]
      walk_at "go"
      exact ⟨rfl, fun _ => trivial⟩
    have es : xsum (·.2) (hp.filter fun p => decide (p.1 ∈ ch)) = xsum id ((hp.filter fun p => decide (p.1 ∈ ch)).map (·.2)) := by
      unfold xsum; rw [List.foldl_map]; rfl
    have hb2 : ∀ p ∈ hp.filter (fun p => decide (p.1 ∈ ch)), p.2 < 2 ^ 60 := fun p h => hb p (List.mem_filter.mp h).1
    have hl2 := List.length_filter_le (fun p => decide (p.1 ∈ ch)) hp
    generalize hp.filter (fun p => decide (p.1 ∈ ch)) = sm at es hb2 hl2
    rw [natsD_map, es]
    walk_at "go"
    refine sat_callF rfl (sat_of (is_number_ok _ _) ?_)
    walk_at "go"
    refine sat_callF rfl (sat_of (lsum_ok (by rw [List.length_map]; omega) (fun x hx => by
      obtain ⟨p, hp', rfl⟩ := List.mem_map.mp hx
      exact hb2 p hp') _) ?_)
    walk_at "go"
    first
      | exact ⟨trOk_same rfl, rfl, List.take_length⟩
      | exact ⟨trOk_same rfl, List.take_length⟩
      | (simp only [decide_true]; exact ⟨trOk_same rfl, trivial, List.take_length⟩)
  · rintro _ cs ⟨l, hw, rfl, rfl⟩
    rw [hw, show optN (some l) = .str (strL l) from rfl]
    refine tryd_ex rfl ?_
    walk_at "go"
    rw [show ∀ (s : Str) (cs : Cs), pIsN (.str s) .non cs = .ok (.bl false) cs from fun _ _ => rfl]
    walk_at "go"
    simp only [List.getElem?_concat_length, k0, k1, truD, Bool.not_true, Bool.false_eq_true, if_false, if_true]
    walk_at "go"
    simp only [List.getElem?_concat_length, k0, k1, truD, Bool.not_true, Bool.false_eq_true, if_false, if_true]
    walk_at "go"
    simp only [List.getElem?_concat_length, k0, k1, truD, Bool.not_true, Bool.false_eq_true, if_false, if_true]
    walk_at "go"
    refine w_eFld ?_
    walk_at "go"
    refine ⟨_, _, _, _, rfl, List.getElem?_concat_length, List.mem_singleton.mpr rfl, rfl, ?_⟩
    rw [r_eqSS, sat_ok]
    exact ⟨trOk_more rfl, rfl, by simp⟩

noncomputable abbrev b_law_v26 : SS :=
 (sSeq (sSet 1 (eN (callF 1 f_law_deck) (aCons (eV 0) aNil)))
 (sSeq (sFor (gN 2) (iRg1 (aCons (eC (.int 3)) aNil))
 (sSeq (sSet 3 (eN (callF 2 f_law_heap) (aCons (eV 1) (aCons (eC (.int 60)) aNil))))
 (sSeq (sSet 4 (eN bTup (aCons (eLc false [9, 10] (gT 2 (gCons (gN 9) (gCons (gN 10) gNil))) (iSeq (eV 3)) tYesS (eV 9)) aNil)))
 (sSeq (sSet 5 (e2 (pAdd false) (eC (.int 1)) (eN (callF 2 f_law_next) (aCons (eV 1) (aCons (eC (.int 4)) aNil)))))
 (sSeq (sSet 6 (eN bTup (aCons (eLc false [9] (gN 9) (iSeq (eV 4)) (tV (e2 pLt (eN (callF 2 f_law_next) (aCons (eV 1) (aCons (eC (.int 5)) aNil))) (eV 5))) (eV 9)) aNil)))
 (sSeq (sSet 7 (eN (callF 3 f_law_spoilt) (aCons (eV 1) (aCons (eV 3) (aCons (eV 6) aNil)))))
 (sFor (gN 8) (iSeq (eN (mkL' false) (aCons (eN mkT aNil) (aCons (eV 4) (aCons (eV 6) (aCons (eV 7) (aCons (eN (callF 3 f_law_spoilt) (aCons (eV 1) (aCons (eV 3) (aCons (eV 7) aNil)))) (aCons (e1 (pRev false) (eV 4)) (aCons (eV 6) aNil)))))))))
 (sIf (tNot (tTr (eN (callF 2 f_law_right_v11) (aCons (eV 3) (aCons (eV 8) aNil)))))
 (sRet (eC (.bl false)))
 sNx))))))))
 (sRet (eAnd (e2 pEq (eFld "word" ["NoName"] (eMkO "NoName" "word" (eC (.str "word")))) (eC (.str "word"))) (eIsE (kdL [("NoName", true)]) (eMkO "NoName" "word" (eC (.str "word"))))))))
noncomputable def f_law_v26 : Fn := semDef 1 11 b_law_v26

theorem law_holds (ns : List Int) (hns : ns.length ≤ 63) : ∃ cs, f_law_v26 [.scr ns] [] = .ok (.bl true) cs := by
  suffices h : Sat (f_law_v26 [.scr ns] []) fun d _ => d = .bl true by
    obtain ⟨d, cs, e, rfl⟩ := h.ex
    exact ⟨cs, e⟩
  refine sat_def rfl ?_
  walk_at "go"
  refine sat_callF rfl ((deck_ok ns []).mono ?_)
  rintro _ _ ⟨rfl, ds, hds, rfl⟩
  have d0 : DkAt 0 0 (([] : Cs) ++ [some (.lst ds)]) := ⟨rfl, fun _ _ => rfl, ds, rfl, hds⟩
  generalize ([] : Cs) ++ [some (.lst ds)] = cs0 at d0
  walk_at "go"
  refine w_for (fun pre sl cs1 => ∃ t2 t3 t4 t5 t6 t7 t8, sl = [some (.scr ns), some (.cel 0), t2, t3, t4, t5, t6, t7, t8, none, none] ∧ DkAt 0 (22000 * pre.length) cs1) ⟨_, _, _, _, _, _, _, rfl, d0⟩ ?_ ?_
  · rintro pre d post sl cs1 e ⟨t2, t3, t4, t5, t6, t7, t8, rfl, dk⟩
    obtain ⟨rfl, hpre⟩ := rgL_at e
    refine ⟨_, rfl, ?_⟩
    walk_at "go"
    refine sat_callF rfl ((heap_ok dk (by omega) (most := 60) (by omega) (by omega)).mono ?_)
    rintro _ cs2 ⟨hp, rfl, hl, nd, hpb, d2⟩
    have hb : ∀ p ∈ hp, p.2 < 2 ^ 60 := fun p h => (hpb p h).2
    have hnm : ∀ p ∈ hp, Nm p.1 := fun p h => (hpb p h).1
    walk_at "go"
    refine w_lcM (xs := hp) (E := fun p => .tup [.str (strL p.1), .int (p.2 : Int)]) (fun p => .str (strL p.1)) ?_ ?_
    · intro p hp'
      refine ⟨_, rfl, ?_⟩
      walk_at "go"
    walk_at "run"
    rw [namesD_mapE]
    walk_at "go"
    have nmOk : ∀ l ∈ hp.map (·.1), Nm l := fun l hl' => by
      obtain ⟨p, hp', rfl⟩ := List.mem_map.mp hl'
      exact hnm p hp'
    have chN : ∀ c : List (List Nat), c.length ≤ 60 → (∀ l ∈ c, l ∈ hp.map (·.1)) → ChOk 60 8 c := fun c h1 h2 => ⟨h1, fun l hl' => (nmOk l (h2 l hl')).len, fun l hl' c hc => by have := (nmOk l (h2 l hl')).low c hc; omega⟩
    have ok1 : ChOk 60 8 (hp.map (·.1)) := chN _ (by rw [List.length_map]; exact hl) fun l h => h
    have ok2 : ChOk 60 8 (hp.map (·.1)).reverse := chN _ (by rw [List.length_reverse, List.length_map]; exact hl) fun l h => List.mem_reverse.mp h
    refine call_next d2.self (by omega) (by decide) (by decide) fun few cs3 f0 f1 d3 => ?_
    walk_at "go"
    replace d3 := d3.self
    refine w_lc (fun pre2 ys cs' => ∃ c : List (List Nat), ys = namesD c ∧ c.length ≤ pre2.length ∧ (∀ l ∈ c, l ∈ hp.map (·.1)) ∧ DkAt 0 (22000 * pre.length + 20000 + 1 + pre2.length) cs') ⟨[], rfl, Nat.le_refl _, by simp, d3⟩ ?_ ?_
    · rintro pre2 x post2 ys cs' e2 ⟨c, rfl, c1, c2, dc⟩
      have e3 := split_at e2
      rw [namesD_get] at e3
      obtain ⟨l, e4, rfl⟩ := Option.map_eq_some_iff.mp e3
      have hp2 : pre2.length < (hp.map (·.1)).length := (List.getElem?_eq_some_iff.mp e4).1
      rw [List.length_map] at hp2
      refine ⟨_, rfl, ?_⟩
      walk_at "go"
      refine call_next dc (by omega) (by decide) (by decide) fun q cs4 q0 q1 d4 => ?_
      walk_at "go"
      rw [(List.length_append), List.length_singleton]
      by_cases h : q < 1 + few
      · rw [decide_eq_true h]
        simp only [if_true]
        walk_at "go"
        rw [namesD_snoc]
        refine ⟨c ++ [l], rfl, by rw [List.length_append, List.length_singleton]; omega, fun l' hl' => ?_, d4.self.mono (by omega)⟩
        rcases List.mem_append.mp hl' with q | q
        · exact c2 l' q
        · rw [List.mem_singleton.mp q]; exact List.mem_of_getElem? e4
      · rw [decide_eq_false h]
        (simp only [Bool.false_eq_true, if_false])
        exact ⟨c, rfl, by omega, c2, d4.self.mono (by omega)⟩
    rintro ys cs' ⟨c, rfl, c1, c2, dc⟩
    rw [namesD_length, List.length_map] at c1 dc
    walk_at "go"
    have ok3 : ChOk 60 8 c := chN c (by omega) c2
    refine sat_callF rfl ((spoilt_ok dc (by omega) hnm hl (by omega) (Nat.le_refl 8) (by omega) ok3).mono ?_)
    rintro _ cs5 ⟨s1, rfl, ok4, d5⟩
    walk_at "go"
    refine sat_callF rfl ((spoilt_ok d5.self (by omega) hnm hl (by omega) (by omega) (by omega) ok4).mono ?_)
    rintro _ cs6 ⟨s2, rfl, ok5, d6⟩
    walk_at "go"
    have d9 := d6.self
    refine w_for (fun pre2 sl cs8 => ∃ t8, sl = [some (.scr ns), some (.cel 0), some (.int (0 + ((pre.length : Nat) : Int))), some (.tup (heapD hp)), some (.tup (namesD (hp.map (·.1)))), some (.int (1 + few)), some (.tup (namesD c)), some (.tup (namesD s1)), t8, none, none] ∧ cs8 = cs6) ⟨_, rfl, rfl⟩ ?_ ?_
    · rintro pre2 d post2 sl cs8 e2 ⟨t8, rfl, rfl⟩
      obtain ⟨x, rfl, okx⟩ : ∃ x : List (List Nat), d = .tup (namesD x) ∧ ChOk 62 10 x := by
        have hd : d ∈ pre2 ++ d :: post2 := by simp
        rw [← e2] at hd
        simp only [List.mem_cons, List.not_mem_nil, or_false] at hd
        rcases hd with rfl | rfl | rfl | rfl | rfl | rfl | rfl
        · exact ⟨[], rfl, ⟨by simp, by simp, fun l hl' => by cases hl'⟩⟩
        · exact ⟨_, rfl, ok1.mono (by omega) (by omega)⟩
        · exact ⟨_, rfl, ok3.mono (by omega) (by omega)⟩
        · exact ⟨_, rfl, ok4.mono (by omega) (by omega)⟩
        · exact ⟨_, rfl, ok5⟩
        · exact ⟨_, by unfold namesD; rw [List.map_reverse], ok2.mono (by omega) (by omega)⟩
        · exact ⟨_, rfl, ok3.mono (by omega) (by omega)⟩
      refine ⟨_, rfl, ?_⟩
      walk_at "go"
      refine sat_callF rfl ((right_ok (by omega) hb nd (Nat.le_trans okx.len (by omega)) (fun l hl' => Nat.le_trans (okx.row l hl') (by omega)) okx.sg _).mono ?_)
      rintro _ cs8 ⟨rfl, rfl⟩
      simp only [truD, Bool.not_true, Bool.false_eq_true, if_false]
      walk_at "go"
      exact ⟨_, rfl⟩
    · rintro sl cs8 ⟨t8, rfl, rfl⟩
      walk_at "go"
      (rw [List.length_append, List.length_singleton])
      exact ⟨_, _, _, _, _, _, _, rfl, d9.mono (by omega)⟩
  · rintro sl cs1 ⟨t2, t3, t4, t5, t6, t7, t8, rfl, dk⟩
    walk_at "go"
    refine w_eFld (w_eMkO ?_)
    walk_at "go"
    refine ⟨_, rfl, by decide +kernel, _, _, _, _, rfl, List.getElem?_concat_length, List.mem_singleton.mpr rfl, rfl, ?_⟩
    rw [r_eqSS]
    walk_at "go"
    refine w_eMkO ?_
    walk_at "go"
    refine ⟨_, rfl, by decide +kernel, ?_⟩
    rw [List.getElem?_concat_length]
    exact ⟨⟨rfl, fun i c hi => absurd hi (Nat.not_lt_zero i)⟩, rfl⟩

end OL
namespace OL
open PySem L2 LF
def topS (i : Nat) : Stmt := PySem.Challenge.pw_oddsums_k03_sums_of_choices.main.body.getD i (.Pass ⟨0, 0, 0, 0⟩)
structure Txt (K : PySem.W.Frag) (mg : Str → Option Value) : Prop where
  m_ValueError : mg "ValueError" = none
  m_bool : mg "bool" = none
  m_dict : mg "dict" = none
  m_enumerate : mg "enumerate" = none
  m_int : mg "int" = none
  m_isinstance : mg "isinstance" = none
  m_len : mg "len" = none
  m_list : mg "list" = none
  m_min : mg "min" = none
  m_range : mg "range" = none
  m_str : mg "str" = none
  m_sum : mg "sum" = none
  m_tuple : mg "tuple" = none
  m_zip : mg "zip" = none
  i_SumError : IniB K mg "SumError"
  f_word : FldT K mg "word" ["NoName"]
  t0 : TryT K mg "SumError" [("NoName", true)]
  t1 : IsTs K mg ["NoAsk", "NoHeap", "NoPlace", "NoTable"] [("NoName", false)]
  t2 : IsT K mg "ValueError" [("NoName", true)]
  t3 : IsT K mg "NoName" [("NoName", true)]
  t4 : IsT K mg "SumError" [("NoName", true)]

section
variable {P : Program} {w : World} {K : PySem.W.Frag}
variable {mg : Str → Option Value} {base : Heap}
abbrev si_NoName : Stmt := match topS 3 with | .ClassDef _ _ _ b _ _ _ _ _ _ _ => b.getD 0 (.Pass ⟨0, 0, 0, 0⟩) | s => s
theorem sci_NoName : FnScope ["self", "word"] ["self", "word"] (defScope si_NoName) := ⟨rfl, rfl, rfl, by decide +kernel, rfl, by decide +kernel, by decide +kernel⟩
theorem ok_ini_NoName {f : Addr} {fd : FuncData} (F : Fun K "__init__" "NoName.__init__" si_NoName f fd) (T : Txt K mg) : FnOk P w K mg base CX0 1 f fd ["self", "word"] (spIni K "word") :=
 F.ok sci_NoName (fun vs H Q E h => spIni_len h) (fun cdv A outer s H vs Q E hr h => ⟨_, pss_cons (ps_expr (pe_cini T.i_SumError (pa_cons (pe_var (i := 0) rfl (by first | exact Or.inl rfl | exact Or.inr (Or.inl rfl) | exact Or.inr (Or.inr rfl))) (pa_cons (pe_op op_add_str pe_str (pe_callTy call_strV rfl T.m_str rfl (pa_cons (pe_var (i := 1) rfl (by first | exact Or.inl rfl | exact Or.inr (Or.inl rfl) | exact Or.inr (Or.inr rfl))) pa_nil))) pa_nil)))) (pss_cons (ps_ost (pe_var (i := 0) rfl (by first | exact Or.inl rfl | exact Or.inr (Or.inl rfl) | exact Or.inr (Or.inr rfl))) (pe_var (i := 1) rfl (by first | exact Or.inl rfl | exact Or.inr (Or.inl rfl) | exact Or.inr (Or.inr rfl)))) pss_nil), ini_prem rfl (by decide) h⟩)

abbrev s_law_deck : Stmt := topS 12
abbrev N_law_deck : List Str := ["script"]
theorem sc_law_deck : FnScope N_law_deck ["script"] (defScope s_law_deck) := ⟨rfl, rfl, rfl, by decide +kernel, rfl, by decide +kernel, by decide +kernel⟩
theorem ok_law_deck {f : Addr} {fd : FuncData} (F : Fun K "_law_deck" "_law_deck" s_law_deck f fd) (T : Txt K mg) : FnOk P w K mg base CX0 1 f fd ["script"] (spOf K mg 1 (nxF f_law_deck)) :=
 fn_mk F sc_law_deck (fun cdv A outer s H E hr => have hu := hr.units; have hu1 := hu_of hr;
 (fss_one (fs_ret (fe_lst true (fa_cons (fe_slice false (fe_v 0) fo_no (fo_some fe_int)) (fa_cons fe_int (fa_cons fe_int (fa_cons fe_int (fa_cons (fe_sum T.m_sum (fa_cons (fe_slice false (fe_v 0) fo_no (fo_some fe_int)) fa_nil)) fa_nil)))))))))

abbrev s_law_mix : Stmt := topS 11
abbrev N_law_mix : List Str := ["cell", "k", "number"]
theorem sc_law_mix : FnScope N_law_mix ["cell", "k"] (defScope s_law_mix) := ⟨rfl, rfl, rfl, by decide +kernel, rfl, by decide +kernel, by decide +kernel⟩
theorem ok_law_mix {f : Addr} {fd : FuncData} (F : Fun K "_law_mix" "_law_mix" s_law_mix f fd) (T : Txt K mg) : FnOk P w K mg base CX0 1 f fd ["cell", "k"] (spOf K mg 2 (nxF f_law_mix)) :=
 fn_def F sc_law_mix (fun cdv A outer s H E hr => have hu := hr.units; have hu1 := hu_of hr;
 (fss_cons (fs_set (i := 2) sc_law_mix.nd (fe_add false (fe_mod (fe_v 0) fe_int) (fe_mul (fe_mul fe_int (fe_v 1)) (fe_v 1))))
 (fss_cons (fs_set (i := 2) sc_law_mix.nd (fe_mod (fe_add false (fe_v 2) (fe_mul fe_int (fe_v 1))) fe_int))
 (fss_cons (fs_set (i := 2) sc_law_mix.nd (fe_mod (fe_mul (fe_v 2) (fe_v 2)) fe_int))
 (fss_one (fs_ret (fe_div (fe_mod (fe_mul (fe_v 2) (fe_add false (fe_v 2) fe_int)) fe_int) fe_int)))))))

abbrev s_law_next : Stmt := topS 13
abbrev N_law_next : List Str := ["deck", "many", "cell", "found"]
theorem sc_law_next : FnScope N_law_next ["deck", "many"] (defScope s_law_next) := ⟨rfl, rfl, rfl, by decide +kernel, rfl, by decide +kernel, by decide +kernel⟩
theorem ok_law_next {f : Addr} {fd : FuncData} (F : Fun K "_law_next" "_law_next" s_law_next f fd) (T : Txt K mg) (C_law_mix : Cal P w K mg base "_law_mix" 1 ["cell", "k"] f_law_mix) : FnOk P w K mg base CX0 2 f fd ["deck", "many"] (spOf K mg 2 (nxF f_law_next)) :=
 fn_def F sc_law_next (fun cdv A outer s H E hr => have hu := hr.units; have hu1 := hu_of hr;
 (fss_cons (fs_if (FW.ft (fw_and (ft_eq hu (fe_item (fe_v 0) fe_int) fe_int) (fw_and1 (ft_lt (fe_item (fe_v 0) fe_int) (fe_len T.m_len (fa_cons (fe_item (fe_v 0) fe_int) fa_nil))))))
 (fss_cons (fs_set (i := 2) sc_law_next.nd (fe_item (fe_item (fe_v 0) fe_int) (fe_item (fe_v 0) fe_int)))
 (fss_cons (fs_setL (fe_add false (fe_item (fe_v 0) fe_int) fe_int) (fe_v 0) fe_int)
 (fss_cons (fs_if (ft_lt (fe_v 2) (fe_pow fe_int fe_int))
 (fss_one (fs_ret (fe_mod (fe_callC C_law_mix (hr.mono (by decide)) (fa_cons (fe_v 2) (fa_cons (fe_item (fe_v 0) fe_int) fa_nil))) (fe_v 1))))
 fss_nil)
 (fss_one (fs_setL (fe_v 2) (fe_v 0) fe_int)))))
 fss_nil)
 (fss_cons (fs_if (ft_gt (fe_item (fe_v 0) fe_int) fe_int)
 (fss_cons (fs_set (i := 3) sc_law_next.nd (fe_mod (fe_item (fe_v 0) fe_int) (fe_v 1)))
 (fss_cons (fs_setL (fe_div (fe_item (fe_v 0) fe_int) (fe_v 1)) (fe_v 0) fe_int)
 (fss_one (fs_ret (fe_v 3)))))
 fss_nil)
 (fss_cons (fs_setL (fe_add false (fe_item (fe_v 0) fe_int) fe_int) (fe_v 0) fe_int)
 (fss_one (fs_ret (fe_mod (fe_callC C_law_mix (hr.mono (by decide)) (fa_cons (fe_item (fe_v 0) fe_int) (fa_cons (fe_add false (fe_item (fe_v 0) fe_int) fe_int) fa_nil))) (fe_v 1))))))))

abbrev s_law_great : Stmt := topS 14
abbrev N_law_great : List Str := ["deck", "bits", "found", "k"]
theorem sc_law_great : FnScope N_law_great ["deck", "bits"] (defScope s_law_great) := ⟨rfl, rfl, rfl, by decide +kernel, rfl, by decide +kernel, by decide +kernel⟩
theorem ok_law_great {f : Addr} {fd : FuncData} (F : Fun K "_law_great" "_law_great" s_law_great f fd) (T : Txt K mg) (C_law_next : Cal P w K mg base "_law_next" 2 ["deck", "many"] f_law_next) : FnOk P w K mg base CX0 3 f fd ["deck", "bits"] (spOf K mg 2 (nxF f_law_great)) :=
 fn_def F sc_law_great (fun cdv A outer s H E hr => have hu := hr.units; have hu1 := hu_of hr;
 (fss_cons (fs_set (i := 2) sc_law_great.nd fe_int)
 (fss_cons (fs_for PassesOwn.never (fi_range1 T.m_range (fa_cons fe_int fa_nil)) (fg_n (i := 3) sc_law_great.nd)
 (fss_one (fs_set (i := 2) sc_law_great.nd (fe_add false (fe_mul (fe_v 2) (fe_pow fe_int fe_int)) (fe_callC C_law_next (hr.mono (by decide)) (fa_cons (fe_v 0) (fa_cons (fe_pow fe_int fe_int) fa_nil)))))))
 (fss_one (fs_ret (fe_mod (fe_v 2) (fe_shl fe_int (fe_v 1))))))))

abbrev s_law_numbers : Stmt := topS 15
abbrev N_law_numbers : List Str := ["deck", "most", "many", "way", "bits", "some", "found", "k", "number"]
theorem sc_law_numbers : FnScope N_law_numbers ["deck", "most"] (defScope s_law_numbers) := ⟨rfl, rfl, rfl, by decide +kernel, rfl, by decide +kernel, by decide +kernel⟩
theorem ok_law_numbers {f : Addr} {fd : FuncData} (F : Fun K "_law_numbers" "_law_numbers" s_law_numbers f fd) (T : Txt K mg) (C_law_next : Cal P w K mg base "_law_next" 2 ["deck", "many"] f_law_next) (C_law_great : Cal P w K mg base "_law_great" 3 ["deck", "bits"] f_law_great) : FnOk P w K mg base CX0 4 f fd ["deck", "most"] (spOf K mg 2 (nxF f_law_numbers)) :=
 fn_def F sc_law_numbers (fun cdv A outer s H E hr => have hu := hr.units; have hu1 := hu_of hr;
 (fss_cons (fs_set (i := 2) sc_law_numbers.nd (fe_item (fe_lst false (fa_cons (fe_callC C_law_next (hr.mono (by decide)) (fa_cons (fe_v 0) (fa_cons (fe_add false (fe_v 1) fe_int) fa_nil))) (fa_cons (fe_callC C_law_next (hr.mono (by decide)) (fa_cons (fe_v 0) (fa_cons fe_int fa_nil))) (fa_cons (fe_min2 T.m_min (fa_cons (fe_v 1) (fa_cons fe_int fa_nil))) (fa_cons (fe_v 1) fa_nil))))) (fe_callC C_law_next (hr.mono (by decide)) (fa_cons (fe_v 0) (fa_cons fe_int fa_nil)))))
 (fss_cons (fs_set (i := 3) sc_law_numbers.nd (fe_callC C_law_next (hr.mono (by decide)) (fa_cons (fe_v 0) (fa_cons fe_int fa_nil))))
 (fss_cons (fs_set (i := 4) sc_law_numbers.nd (fe_item (fe_lst false (fa_cons (fe_add false fe_int (fe_callC C_law_next (hr.mono (by decide)) (fa_cons (fe_v 0) (fa_cons fe_int fa_nil)))) (fa_cons fe_int (fa_cons fe_int (fa_cons (fe_add false fe_int (fe_callC C_law_next (hr.mono (by decide)) (fa_cons (fe_v 0) (fa_cons fe_int fa_nil)))) (fa_cons fe_int fa_nil)))))) (fe_v 3)))
 (fss_cons (fs_setLc (own := [("k", 7)]) 5 false sc_law_numbers.nd (fi_range1 T.m_range (fa_cons (fe_add false fe_int (fe_callC C_law_next (hr.mono (by decide)) (fa_cons (fe_v 0) (fa_cons fe_int fa_nil)))) fa_nil)) (blkOk_by (N := N_law_numbers) (sc := defScope s_law_numbers) (by decide +kernel)) (fun _ _ _ _ _ => (fg_n (i := 7) sc_law_numbers.nd)) (fun _ _ _ _ _ => fts_nil) (fun _ _ _ _ _ => (fe_callC C_law_great (hr.mono (by decide)) (fa_cons (fe_v 0) (fa_cons (fe_v 4) fa_nil)))) (sw_true rfl rfl rfl (by decide +kernel)))
 (fss_cons (fs_set (i := 6) sc_law_numbers.nd (fe_lst true fa_nil))
 (fss_cons (fs_for PassesOwn.never (fi_range1 T.m_range (fa_cons (fe_v 2) fa_nil)) (fg_n (i := 7) sc_law_numbers.nd)
 (fss_cons (fs_set (i := 8) sc_law_numbers.nd (fe_callC C_law_great (hr.mono (by decide)) (fa_cons (fe_v 0) (fa_cons (fe_v 4) fa_nil))))
 (fss_cons (fs_if (ft_eq hu (fe_v 3) fe_int)
 (fss_one (fs_set (i := 8) sc_law_numbers.nd (fe_xor (fe_item (fe_v 5) (fe_callC C_law_next (hr.mono (by decide)) (fa_cons (fe_v 0) (fa_cons (fe_len T.m_len (fa_cons (fe_v 5) fa_nil)) fa_nil)))) (fe_item (fe_v 5) (fe_callC C_law_next (hr.mono (by decide)) (fa_cons (fe_v 0) (fa_cons (fe_len T.m_len (fa_cons (fe_v 5) fa_nil)) fa_nil)))))))
 fss_nil)
 (fss_cons (fs_if (ft_eq hu (fe_callC C_law_next (hr.mono (by decide)) (fa_cons (fe_v 0) (fa_cons fe_int fa_nil))) fe_int)
 (fss_one (fs_set (i := 8) sc_law_numbers.nd (fe_item (fe_lst false (fa_cons fe_int (fa_cons (fe_item (fe_v 5) fe_int) (fa_cons (fe_sub (fe_shl fe_int (fe_v 4)) fe_int) (fa_cons (fe_shl fe_int (fe_callC C_law_next (hr.mono (by decide)) (fa_cons (fe_v 0) (fa_cons (fe_v 4) fa_nil)))) fa_nil))))) (fe_callC C_law_next (hr.mono (by decide)) (fa_cons (fe_v 0) (fa_cons fe_int fa_nil))))))
 fss_nil)
 (fss_one (fs_expr (fe_append (fe_v 6) (fa_cons (fe_v 8) fa_nil))))))))
 (fss_one (fs_ret (fe_tuple T.m_tuple (fa_cons (fe_v 6) fa_nil)))))))))))

abbrev s_law_names : Stmt := topS 16
abbrev N_law_names : List Str := ["deck", "many", "letters", "pad", "begin", "way", "found", "k", "number", "name", "left", "told", "one"]
theorem sc_law_names : FnScope N_law_names ["deck", "many"] (defScope s_law_names) := ⟨rfl, rfl, rfl, by decide +kernel, rfl, by decide +kernel, by decide +kernel⟩
theorem ok_law_names {f : Addr} {fd : FuncData} (F : Fun K "_law_names" "_law_names" s_law_names f fd) (T : Txt K mg) (C_law_next : Cal P w K mg base "_law_next" 2 ["deck", "many"] f_law_next) : FnOk P w K mg base CX0 3 f fd ["deck", "many"] (spOf K mg 2 (nxF f_law_names)) :=
 fn_def F sc_law_names (fun cdv A outer s H E hr => have hu := hr.units; have hu1 := hu_of hr;
 (fss_cons (fs_set (i := 2) sc_law_names.nd fe_str)
 (fss_cons (fs_set (i := 3) sc_law_names.nd (fe_item (fe_v 2) (fe_callC C_law_next (hr.mono (by decide)) (fa_cons (fe_v 0) (fa_cons fe_int fa_nil)))))
 (fss_cons (fs_set (i := 4) sc_law_names.nd (fe_callC C_law_next (hr.mono (by decide)) (fa_cons (fe_v 0) (fa_cons fe_int fa_nil))))
 (fss_cons (fs_set (i := 5) sc_law_names.nd (fe_callC C_law_next (hr.mono (by decide)) (fa_cons (fe_v 0) (fa_cons fe_int fa_nil))))
 (fss_cons (fs_set (i := 6) sc_law_names.nd (fe_lst true fa_nil))
 (fss_cons (fs_for PassesOwn.never (fi_range1 T.m_range (fa_cons (fe_v 1) fa_nil)) (fg_n (i := 7) sc_law_names.nd)
 (fss_cons (fs_set (i := 8) sc_law_names.nd (fe_add false (fe_v 4) (fe_mul fe_int (fe_v 7))))
 (fss_cons (fs_set (i := 9) sc_law_names.nd (fe_add false (fe_item (fe_v 2) (fe_mod (fe_v 8) fe_int)) (fe_item (fe_v 2) (fe_mod (fe_div (fe_v 8) fe_int) fe_int))))
 (fss_cons (fs_set (i := 9) sc_law_names.nd (fe_add false (fe_v 9) (fe_item (fe_v 2) (fe_div (fe_v 8) fe_int))))
 (fss_cons (fs_if (ft_eq hu (fe_v 5) fe_int)
 (fss_one (fs_set (i := 9) sc_law_names.nd (fe_add false (fe_mulS (fe_v 3) (fe_mod (fe_v 7) fe_int)) (fe_v 9))))
 fss_nil)
 (fss_cons (fs_if (ft_eq hu (fe_v 5) fe_int)
 (fss_one (fs_set (i := 9) sc_law_names.nd (fe_add false (fe_v 9) (fe_mulS (fe_v 3) (fe_mod (fe_v 7) fe_int)))))
 fss_nil)
 (fss_cons (fs_if (ft_eq hu (fe_v 5) fe_int)
 (fss_one (fs_set (i := 9) sc_law_names.nd (fe_item (fe_lst false (fa_cons (fe_item (fe_v 2) (fe_mod (fe_v 7) fe_int)) (fa_cons (fe_add false (fe_item (fe_v 2) (fe_mod (fe_v 7) fe_int)) fe_str) (fa_cons (fe_add false (fe_item (fe_v 2) (fe_mod (fe_v 7) fe_int)) fe_str) fa_nil)))) (fe_div (fe_v 7) fe_int))))
 fss_nil)
 (fss_one (fs_expr (fe_append (fe_v 6) (fa_cons (fe_v 9) fa_nil)))))))))))
 (fss_cons (fs_set (i := 10) sc_law_names.nd (fe_list true T.m_list (fa_cons (fe_v 6) fa_nil)))
 (fss_cons (fs_set (i := 11) sc_law_names.nd (fe_lc (own := [("k", 7)]) false sc_law_names.nd (fi_range1 T.m_range (fa_cons (fe_v 1) fa_nil)) (blkOk_by (N := N_law_names) (sc := defScope s_law_names) (by decide +kernel)) (fun _ _ _ _ _ => (fg_n (i := 7) sc_law_names.nd)) (fun _ _ _ _ _ => fts_nil) (fun _ _ _ _ _ => (fe_popAt (fe_v 10) (fa_cons (fe_callC C_law_next (hr.mono (by decide)) (fa_cons (fe_v 0) (fa_cons (fe_len T.m_len (fa_cons (fe_v 10) fa_nil)) fa_nil))) fa_nil)))))
 (fss_one (fs_ret (fe_lc (own := [("k", 7), ("one", 12)]) false sc_law_names.nd (fi_enum T.m_enumerate (fa_cons (fe_v 11) fa_nil)) (blkOk_by (N := N_law_names) (sc := defScope s_law_names) (by decide +kernel)) (fun _ _ _ _ _ => (fg_t (fgs_cons (fg_n (i := 7) sc_law_names.nd) (fgs_cons (fg_n (i := 12) sc_law_names.nd) fgs_nil)))) (fun _ _ _ _ _ => (fts_one (ft_notin (fe_v 12) (fe_slice false (fe_v 11) fo_no (fo_some (fe_v 7)))))) (fun _ _ _ _ _ => (fe_v 12))))))))))))))

abbrev s_law_heap : Stmt := topS 17
abbrev N_law_heap : List Str := ["deck", "most", "numbers", "names"]
theorem sc_law_heap : FnScope N_law_heap ["deck", "most"] (defScope s_law_heap) := ⟨rfl, rfl, rfl, by decide +kernel, rfl, by decide +kernel, by decide +kernel⟩
theorem ok_law_heap {f : Addr} {fd : FuncData} (F : Fun K "_law_heap" "_law_heap" s_law_heap f fd) (T : Txt K mg) (C_law_numbers : Cal P w K mg base "_law_numbers" 4 ["deck", "most"] f_law_numbers) (C_law_names : Cal P w K mg base "_law_names" 3 ["deck", "many"] f_law_names) : FnOk P w K mg base CX0 5 f fd ["deck", "most"] (spOf K mg 2 (nxF f_law_heap)) :=
 fn_def F sc_law_heap (fun cdv A outer s H E hr => have hu := hr.units; have hu1 := hu_of hr;
 (fss_cons (fs_set (i := 2) sc_law_heap.nd (fe_callC C_law_numbers (hr.mono (by decide)) (fa_cons (fe_v 0) (fa_cons (fe_v 1) fa_nil))))
 (fss_cons (fs_set (i := 3) sc_law_heap.nd (fe_callC C_law_names (hr.mono (by decide)) (fa_cons (fe_v 0) (fa_cons (fe_len T.m_len (fa_cons (fe_v 2) fa_nil)) fa_nil))))
 (fss_one (fs_ret (fe_tuple T.m_tuple (fa_cons (fe_listZip T.m_list T.m_zip (fa_cons (fe_v 3) (fa_cons (fe_v 2) fa_nil))) fa_nil)))))))

abbrev s_law_spoilt : Stmt := topS 21
abbrev N_law_spoilt : List Str := ["deck", "heap", "choice", "found", "way", "at", "there", "strange", "name", "number"]
theorem sc_law_spoilt : FnScope N_law_spoilt ["deck", "heap", "choice"] (defScope s_law_spoilt) := ⟨rfl, rfl, rfl, by decide +kernel, rfl, by decide +kernel, by decide +kernel⟩
theorem ok_law_spoilt {f : Addr} {fd : FuncData} (F : Fun K "_law_spoilt" "_law_spoilt" s_law_spoilt f fd) (T : Txt K mg) (C_law_next : Cal P w K mg base "_law_next" 2 ["deck", "many"] f_law_next) : FnOk P w K mg base CX0 3 f fd ["deck", "heap", "choice"] (spOf K mg 3 (nxF f_law_spoilt)) :=
 fn_def F sc_law_spoilt (fun cdv A outer s H E hr => have hu := hr.units; have hu1 := hu_of hr;
 (fss_cons (fs_set (i := 3) sc_law_spoilt.nd (fe_list true T.m_list (fa_cons (fe_v 2) fa_nil)))
 (fss_cons (fs_set (i := 4) sc_law_spoilt.nd (fe_callC C_law_next (hr.mono (by decide)) (fa_cons (fe_v 0) (fa_cons fe_int fa_nil))))
 (fss_cons (fs_set (i := 5) sc_law_spoilt.nd (fe_callC C_law_next (hr.mono (by decide)) (fa_cons (fe_v 0) (fa_cons (fe_add false (fe_len T.m_len (fa_cons (fe_v 3) fa_nil)) fe_int) fa_nil))))
 (fss_cons (fs_set (i := 6) sc_law_spoilt.nd (fe_callC C_law_next (hr.mono (by decide)) (fa_cons (fe_v 0) (fa_cons (fe_add false (fe_len T.m_len (fa_cons (fe_v 3) fa_nil)) fe_int) fa_nil))))
 (fss_cons (fs_set (i := 7) sc_law_spoilt.nd (fe_add false (fe_lst false (fa_cons fe_str (fa_cons fe_str (fa_cons fe_str (fa_cons fe_str fa_nil))))) (fe_lc (own := [("name", 8), ("number", 9)]) false sc_law_spoilt.nd (fi_seq (fe_v 1)) (blkOk_by (N := N_law_spoilt) (sc := defScope s_law_spoilt) (by decide +kernel)) (fun _ _ _ _ _ => (fg_t (fgs_cons (fg_n (i := 8) sc_law_spoilt.nd) (fgs_cons (fg_n (i := 9) sc_law_spoilt.nd) fgs_nil)))) (fun _ _ _ _ _ => fts_nil) (fun _ _ _ _ _ => (fe_v 8)))))
 (fss_cons (fs_if (ft_eq hu (fe_v 4) fe_int)
 (fss_one (fs_expr (fe_insert (fe_v 3) (fa_cons (fe_v 5) (fa_cons (fe_item (fe_v 7) (fe_callC C_law_next (hr.mono (by decide)) (fa_cons (fe_v 0) (fa_cons (fe_len T.m_len (fa_cons (fe_v 7) fa_nil)) fa_nil)))) fa_nil)))))
 fss_nil)
 (fss_cons (fs_if (FW.ft (fw_and (ft_eq hu (fe_v 4) fe_int) (fw_and1 (ft_lt (fe_v 5) (fe_len T.m_len (fa_cons (fe_v 3) fa_nil))))))
 (fss_one (fs_expr (fe_insert (fe_v 3) (fa_cons (fe_v 6) (fa_cons (fe_item (fe_v 3) (fe_v 5)) fa_nil)))))
 fss_nil)
 (fss_cons (fs_if (FW.ft (fw_and (ft_eq hu (fe_v 4) fe_int) (fw_and (ft_lt (fe_v 5) (fe_len T.m_len (fa_cons (fe_v 3) fa_nil))) (fw_and1 (ft_lt (fe_v 6) (fe_len T.m_len (fa_cons (fe_v 3) fa_nil)))))))
 (fss_one (fs_swp (fe_tup (fa_cons (fe_item (fe_v 3) (fe_v 6)) (fa_cons (fe_item (fe_v 3) (fe_v 5)) fa_nil))) (fe_v 3) (fe_v 5) (fe_v 3) (fe_v 6)))
 fss_nil)
 (fss_cons (fs_if (FW.ft (fw_and (ft_eq hu (fe_v 4) fe_int) (fw_and1 (ft_ne hu (fe_v 3) (fe_lst false fa_nil)))))
 (fss_one (fs_setL (fe_add false (fe_item (fe_v 3) (fe_mod (fe_v 5) (fe_len T.m_len (fa_cons (fe_v 3) fa_nil)))) fe_str) (fe_v 3) (fe_mod (fe_v 5) (fe_len T.m_len (fa_cons (fe_v 3) fa_nil)))))
 fss_nil)
 (fss_one (fs_ret (fe_tuple T.m_tuple (fa_cons (fe_v 3) fa_nil))))))))))))))

abbrev s_law_wrong : Stmt := topS 20
abbrev N_law_wrong : List Str := ["heap", "choice", "names", "k", "name", "number", "one"]
theorem sc_law_wrong : FnScope N_law_wrong ["heap", "choice"] (defScope s_law_wrong) := ⟨rfl, rfl, rfl, by decide +kernel, rfl, by decide +kernel, by decide +kernel⟩
theorem ok_law_wrong {f : Addr} {fd : FuncData} (F : Fun K "_law_wrong" "_law_wrong" s_law_wrong f fd) (T : Txt K mg) : FnOk P w K mg base CX0 1 f fd ["heap", "choice"] (spOf K mg 2 (nxF f_law_wrong)) :=
 fn_def F sc_law_wrong (fun cdv A outer s H E hr => have hu := hr.units; have hu1 := hu_of hr;
 (fss_cons (fs_set (i := 2) sc_law_wrong.nd (fe_lc (own := [("name", 4), ("number", 5)]) false sc_law_wrong.nd (fi_seq (fe_v 0)) (blkOk_by (N := N_law_wrong) (sc := defScope s_law_wrong) (by decide +kernel)) (fun _ _ _ _ _ => (fg_t (fgs_cons (fg_n (i := 4) sc_law_wrong.nd) (fgs_cons (fg_n (i := 5) sc_law_wrong.nd) fgs_nil)))) (fun _ _ _ _ _ => fts_nil) (fun _ _ _ _ _ => (fe_v 4))))
 (fss_cons (fs_for PassesOwn.never (fi_enum T.m_enumerate (fa_cons (fe_v 1) fa_nil)) (fg_t (fgs_cons (fg_n (i := 3) sc_law_wrong.nd) (fgs_cons (fg_n (i := 4) sc_law_wrong.nd) fgs_nil)))
 (fss_cons (fs_if (FW.ft (fw_or (ft_notin (fe_v 4) (fe_v 2)) (fw_or1 (ft_in (fe_v 4) (fe_slice false (fe_v 1) fo_no (fo_some (fe_v 3)))))))
 (fss_one (fs_ret (fe_v 4)))
 fss_nil)
 (fss_one (fs_if (ft_ne hu (fe_lc (own := [("one", 6)]) false sc_law_wrong.nd (fi_seq (fe_slice false (fe_v 1) fo_no (fo_some (fe_v 3)))) (blkOk_by (N := N_law_wrong) (sc := defScope s_law_wrong) (by decide +kernel)) (fun _ _ _ _ _ => (fg_n (i := 6) sc_law_wrong.nd)) (fun _ _ _ _ _ => (fts_one (ft_gt (fe_index (fe_v 2) (fa_cons (fe_v 6) fa_nil)) (fe_index (fe_v 2) (fa_cons (fe_v 4) fa_nil))))) (fun _ _ _ _ _ => (fe_v 6))) (fe_lst false fa_nil))
 (fss_one (fs_ret (fe_v 4)))
 fss_nil))))
 (fss_one (fs_ret fe_non)))))

abbrev s_need_choice_v2 : Stmt := topS 8
abbrev N_need_choice_v2 : List Str := ["heap", "choice", "places", "last", "name", "place", "number"]
theorem sc_need_choice_v2 : FnScope N_need_choice_v2 ["heap", "choice"] (defScope s_need_choice_v2) := ⟨rfl, rfl, rfl, by decide +kernel, rfl, by decide +kernel, by decide +kernel⟩
theorem ok_need_choice_v2 {f : Addr} {fd : FuncData} (F : Fun K "need_choice" "need_choice" s_need_choice_v2 f fd) (T : Txt K mg) (O_NoName : ExO P w K mg base "NoName" "word") : FnOk P w K mg base (L2.CX P w) 3 f fd ["heap", "choice"] (spOf K mg 2 f_need_choice_v2) :=
 fn_defX F sc_need_choice_v2 (fun cdv A outer s H E hr tk po => have hu := hr.units; have hu1 := hu_of hr;
 (fss_cons (fs_set (i := 2) sc_need_choice_v2.nd (fe_dict false T.m_dict (fa_cons (fe_lc (own := [("place", 5), ("name", 4), ("number", 6)]) false sc_need_choice_v2.nd (fi_enum T.m_enumerate (fa_cons (fe_v 0) fa_nil)) (blkOk_by (N := N_need_choice_v2) (sc := defScope s_need_choice_v2) (by decide +kernel)) (fun _ _ _ _ _ => (fg_t (fgs_cons (fg_n (i := 5) sc_need_choice_v2.nd) (fgs_cons (fg_t (fgs_cons (fg_n (i := 4) sc_need_choice_v2.nd) (fgs_cons (fg_n (i := 6) sc_need_choice_v2.nd) fgs_nil))) fgs_nil)))) (fun _ _ _ _ _ => fts_nil) (fun _ _ _ _ _ => (fe_tup (fa_cons (fe_v 4) (fa_cons (fe_v 5) fa_nil))))) fa_nil)))
 (fss_cons (fs_set (i := 3) sc_need_choice_v2.nd (fe_neg fe_int))
 (fss_one (fs_for po (fi_seq (fe_v 1)) (fg_n (i := 4) sc_need_choice_v2.nd)
 (fss_cons (fs_if (ft_le (fe_get2 hu1 (fe_v 2) (fe_v 4) (fe_neg fe_int)) (fe_v 3))
 (fss_one (fs_raiseO (k := 0) O_NoName tk (hr.mono (by decide)) (fe_v 4)))
 fss_nil)
 (fss_one (fs_set (i := 3) sc_need_choice_v2.nd (fe_getD hu1 (fe_v 2) (fe_v 4))))))))))

abbrev s_sum_of_choice_v2 : Stmt := topS 9
abbrev N_sum_of_choice_v2 : List Str := ["heap", "choice", "total", "name", "number"]
theorem sc_sum_of_choice_v2 : FnScope N_sum_of_choice_v2 ["heap", "choice"] (defScope s_sum_of_choice_v2) := ⟨rfl, rfl, rfl, by decide +kernel, rfl, by decide +kernel, by decide +kernel⟩
theorem ok_sum_of_choice_v2 {f : Addr} {fd : FuncData} (F : Fun K "sum_of_choice" "sum_of_choice" s_sum_of_choice_v2 f fd) (T : Txt K mg) (C_need_choice_v2 : CalX P w K mg base "need_choice" 3 ["heap", "choice"] f_need_choice_v2) : FnOk P w K mg base (L2.CX P w) 4 f fd ["heap", "choice"] (spOf K mg 2 f_sum_of_choice_v2) :=
 fn_defX F sc_sum_of_choice_v2 (fun cdv A outer s H E hr tk po => have hu := hr.units; have hu1 := hu_of hr;
 (fss_cons (fs_expr (fe_callX C_need_choice_v2 (hr.mono (by decide)) tk (fa_cons (fe_v 0) (fa_cons (fe_v 1) fa_nil))))
 (fss_cons (fs_set (i := 2) sc_sum_of_choice_v2.nd fe_int)
 (fss_cons (fs_for po (fi_seq (fe_v 0)) (fg_t (fgs_cons (fg_n (i := 3) sc_sum_of_choice_v2.nd) (fgs_cons (fg_n (i := 4) sc_sum_of_choice_v2.nd) fgs_nil)))
 (fss_one (fs_if (ft_in (fe_v 3) (fe_v 1))
 (fss_one (fs_set (i := 2) sc_sum_of_choice_v2.nd (fe_xor (fe_v 2) (fe_v 4))))
 fss_nil)))
 (fss_one (fs_ret (fe_v 2)))))))

abbrev s_law_is_number : Stmt := topS 18
abbrev N_law_is_number : List Str := ["found"]
theorem sc_law_is_number : FnScope N_law_is_number ["found"] (defScope s_law_is_number) := ⟨rfl, rfl, rfl, by decide +kernel, rfl, by decide +kernel, by decide +kernel⟩
theorem ok_law_is_number {f : Addr} {fd : FuncData} (F : Fun K "_law_is_number" "_law_is_number" s_law_is_number f fd) (T : Txt K mg) : FnOk P w K mg base CX0 1 f fd ["found"] (spOf K mg 1 (nxF f_law_is_number)) :=
 fn_def F sc_law_is_number (fun cdv A outer s H E hr => have hu := hr.units; have hu1 := hu_of hr;
 (fss_one (fs_ret (fe_and (fe_isi (n := "int") T.m_isinstance T.m_int (fe_v 0)) (fe_and (fe_not (fe_isi (n := "bool") T.m_isinstance T.m_bool (fe_v 0))) (fe_one (fe_ge (fe_v 0) fe_int)))))))

abbrev s_law_sum : Stmt := topS 19
abbrev N_law_sum : List Str := ["numbers", "total", "k", "number"]
theorem sc_law_sum : FnScope N_law_sum ["numbers"] (defScope s_law_sum) := ⟨rfl, rfl, rfl, by decide +kernel, rfl, by decide +kernel, by decide +kernel⟩
theorem ok_law_sum {f : Addr} {fd : FuncData} (F : Fun K "_law_sum" "_law_sum" s_law_sum f fd) (T : Txt K mg) : FnOk P w K mg base CX0 1 f fd ["numbers"] (spOf K mg 1 (nxF f_law_sum)) :=
 fn_def F sc_law_sum (fun cdv A outer s H E hr => have hu := hr.units; have hu1 := hu_of hr;
 (fss_cons (fs_set (i := 1) sc_law_sum.nd fe_int)
 (fss_cons (fs_for PassesOwn.never (fi_range1 T.m_range (fa_cons fe_int fa_nil)) (fg_n (i := 2) sc_law_sum.nd)
 (fss_one (fs_set (i := 1) sc_law_sum.nd (fe_add false (fe_v 1) (fe_mul (fe_shl fe_int (fe_v 2)) (fe_mod (fe_sum T.m_sum (fa_cons (fe_lc (own := [("number", 3)]) false sc_law_sum.nd (fi_seq (fe_v 0)) (blkOk_by (N := N_law_sum) (sc := defScope s_law_sum) (by decide +kernel)) (fun _ _ _ _ _ => (fg_n (i := 3) sc_law_sum.nd)) (fun _ _ _ _ _ => fts_nil) (fun _ _ _ _ _ => (fe_mod (fe_shr (fe_v 3) (fe_v 2)) fe_int))) fa_nil)) fe_int))))))
 (fss_one (fs_ret (fe_v 1))))))

abbrev s_law_right_v11 : Stmt := topS 22
abbrev N_law_right_v11 : List Str := ["heap", "choice", "wrong", "found", "caught", "e", "chosen", "name", "number"]
theorem sc_law_right_v11 : FnScope N_law_right_v11 ["heap", "choice"] (defScope s_law_right_v11) := ⟨rfl, rfl, rfl, by decide +kernel, rfl, by decide +kernel, by decide +kernel⟩
theorem ok_law_right_v11 {f : Addr} {fd : FuncData} (F : Fun K "_law_right" "_law_right" s_law_right_v11 f fd) (T : Txt K mg) (C_law_wrong : Cal P w K mg base "_law_wrong" 1 ["heap", "choice"] f_law_wrong) (C_sum_of_choice_v2 : CalX P w K mg base "sum_of_choice" 4 ["heap", "choice"] f_sum_of_choice_v2) (C_law_is_number : Cal P w K mg base "_law_is_number" 1 ["found"] f_law_is_number) (C_law_sum : Cal P w K mg base "_law_sum" 1 ["numbers"] f_law_sum) : FnOk P w K mg base CX0 5 f fd ["heap", "choice"] (spOf K mg 2 (nxF f_law_right_v11)) :=
 fn_def F sc_law_right_v11 (fun cdv A outer s H E hr => have hu := hr.units; have hu1 := hu_of hr;
 (fss_cons (fs_set (i := 2) sc_law_right_v11.nd (fe_callC C_law_wrong (hr.mono (by decide)) (fa_cons (fe_v 0) (fa_cons (fe_v 1) fa_nil))))
 (fss_cons (fs_set (i := 3) sc_law_right_v11.nd fe_non)
 (fss_cons (fs_set (i := 4) sc_law_right_v11.nd fe_non)
 (fss_cons (fs_tryAs (i := 5) (l := [("NoName", true)]) sc_law_right_v11.nd T.t0 takes0 (fun Z1 pn xe tk po =>
 (fss_one (fs_set (i := 3) sc_law_right_v11.nd (fe_callX C_sum_of_choice_v2 (hr.mono (by decide)) tk (fa_cons (fe_v 0) (fa_cons (fe_v 1) fa_nil)))))) (fun a1 pn =>
 (fss_one (fs_set (i := 4) sc_law_right_v11.nd (fe_v 5)))))
 (fss_cons (fs_if (ft_is (fe_v 2) fe_non)
 (fss_cons (fs_setLc (own := [("name", 7), ("number", 8)]) 6 false sc_law_right_v11.nd (fi_seq (fe_v 0)) (blkOk_by (N := N_law_right_v11) (sc := defScope s_law_right_v11) (by decide +kernel)) (fun _ _ _ _ _ => (fg_t (fgs_cons (fg_n (i := 7) sc_law_right_v11.nd) (fgs_cons (fg_n (i := 8) sc_law_right_v11.nd) fgs_nil)))) (fun _ _ _ _ _ => (fts_one (ft_in (fe_v 7) (fe_v 1)))) (fun _ _ _ _ _ => (fe_v 8)) (sw_true rfl rfl rfl (by decide +kernel)))
 (fss_one (fs_ret (fe_and (fe_is (fe_v 4) fe_non) (fe_and (fe_callC C_law_is_number (hr.mono (by decide)) (fa_cons (fe_v 3) fa_nil)) (fe_one (fe_eq hu (fe_v 3) (fe_callC C_law_sum (hr.mono (by decide)) (fa_cons (fe_v 6) fa_nil)))))))))
 fss_nil)
 (fss_cons (fs_if (FW.ft (fw_or (ft_tr (fe_isEs (l := [("NoName", false)]) T.m_isinstance T.t1 (.cons rfl (by decide) rfl (.cons rfl (by decide) rfl (.cons rfl (by decide) rfl (.cons rfl (by decide) rfl .nil)))) (fe_v 4))) (fw_or1 (ft_not (ft_tr (fe_isE (l := [("NoName", true)]) T.m_isinstance T.t2 (fe_v 4)))))))
 (fss_one (fs_ret fe_bl))
 fss_nil)
 (fss_one (fs_ret (fe_and (fe_isE (l := [("NoName", true)]) T.m_isinstance T.t3 (fe_v 4)) (fe_one (fe_eq hu (fe_fld (f := "word") (l := ["NoName"]) T.f_word (fe_v 4)) (fe_v 2)))))))))))))

abbrev s_law_v26 : Stmt := topS 23
abbrev N_law_v26 : List Str := ["script", "deck", "turn", "heap", "names", "often", "drawn", "bad", "choice", "name", "number"]
theorem sc_law_v26 : FnScope N_law_v26 ["script"] (defScope s_law_v26) := ⟨rfl, rfl, rfl, by decide +kernel, rfl, by decide +kernel, by decide +kernel⟩
theorem ok_law_v26 {f : Addr} {fd : FuncData} (F : Fun K "law" "law" s_law_v26 f fd) (T : Txt K mg) (C_law_deck : Cal P w K mg base "_law_deck" 1 ["script"] f_law_deck) (C_law_heap : Cal P w K mg base "_law_heap" 5 ["deck", "most"] f_law_heap) (C_law_spoilt : Cal P w K mg base "_law_spoilt" 3 ["deck", "heap", "choice"] f_law_spoilt) (C_law_next : Cal P w K mg base "_law_next" 2 ["deck", "many"] f_law_next) (C_law_right_v11 : Cal P w K mg base "_law_right" 5 ["heap", "choice"] f_law_right_v11) (O_NoName : ExO P w K mg base "NoName" "word") : FnOk P w K mg base CX0 6 f fd ["script"] (spOf K mg 1 (nxF f_law_v26)) :=
 fn_def F sc_law_v26 (fun cdv A outer s H E hr => have hu := hr.units; have hu1 := hu_of hr;
 (fss_cons (fs_set (i := 1) sc_law_v26.nd (fe_callC C_law_deck (hr.mono (by decide)) (fa_cons (fe_v 0) fa_nil)))
 (fss_cons (fs_for PassesOwn.never (fi_range1 T.m_range (fa_cons fe_int fa_nil)) (fg_n (i := 2) sc_law_v26.nd)
 (fss_cons (fs_set (i := 3) sc_law_v26.nd (fe_callC C_law_heap (hr.mono (by decide)) (fa_cons (fe_v 1) (fa_cons fe_int fa_nil))))
 (fss_cons (fs_set (i := 4) sc_law_v26.nd (fe_tuple T.m_tuple (fa_cons (fe_lc (own := [("name", 9), ("number", 10)]) false sc_law_v26.nd (fi_seq (fe_v 3)) (blkOk_by (N := N_law_v26) (sc := defScope s_law_v26) (by decide +kernel)) (fun _ _ _ _ _ => (fg_t (fgs_cons (fg_n (i := 9) sc_law_v26.nd) (fgs_cons (fg_n (i := 10) sc_law_v26.nd) fgs_nil)))) (fun _ _ _ _ _ => fts_nil) (fun _ _ _ _ _ => (fe_v 9))) fa_nil)))
 (fss_cons (fs_set (i := 5) sc_law_v26.nd (fe_add false fe_int (fe_callC C_law_next (hr.mono (by decide)) (fa_cons (fe_v 1) (fa_cons fe_int fa_nil)))))
 (fss_cons (fs_set (i := 6) sc_law_v26.nd (fe_tuple T.m_tuple (fa_cons (fe_lc (own := [("name", 9)]) false sc_law_v26.nd (fi_seq (fe_v 4)) (blkOk_by (N := N_law_v26) (sc := defScope s_law_v26) (by decide +kernel)) (fun _ _ _ _ _ => (fg_n (i := 9) sc_law_v26.nd)) (fun _ _ _ _ _ => (fts_one (ft_lt (fe_callC C_law_next (hr.mono (by decide)) (fa_cons (fe_v 1) (fa_cons fe_int fa_nil))) (fe_v 5)))) (fun _ _ _ _ _ => (fe_v 9))) fa_nil)))
 (fss_cons (fs_set (i := 7) sc_law_v26.nd (fe_callC C_law_spoilt (hr.mono (by decide)) (fa_cons (fe_v 1) (fa_cons (fe_v 3) (fa_cons (fe_v 6) fa_nil)))))
 (fss_one (fs_for PassesOwn.never (fi_seq (fe_lst false (fa_cons (fe_tup fa_nil) (fa_cons (fe_v 4) (fa_cons (fe_v 6) (fa_cons (fe_v 7) (fa_cons (fe_callC C_law_spoilt (hr.mono (by decide)) (fa_cons (fe_v 1) (fa_cons (fe_v 3) (fa_cons (fe_v 7) fa_nil)))) (fa_cons (fe_rev false (fe_v 4)) (fa_cons (fe_v 6) fa_nil))))))))) (fg_n (i := 8) sc_law_v26.nd)
 (fss_one (fs_if (ft_not (ft_tr (fe_callC C_law_right_v11 (hr.mono (by decide)) (fa_cons (fe_v 3) (fa_cons (fe_v 8) fa_nil)))))
 (fss_one (fs_ret fe_bl))
 fss_nil))))))))))
 (fss_one (fs_ret (fe_and (fe_eq hu (fe_fld (f := "word") (l := ["NoName"]) T.f_word (fe_mkO (k := 0) O_NoName (hr.mono (by decide)) fe_str)) fe_str) (fe_one (fe_isE (l := [("NoName", true)]) T.m_isinstance T.t4 (fe_mkO (k := 0) O_NoName (hr.mono (by decide)) fe_str)))))))))

end
theorem all_mk {l : PySem.W.OpenLaw} {w : World} {K : PySem.W.Frag} {h : Heap} {mg : Str → Option Value} {fa f1 f2 f3 f4 f5 f6 f7 f8 f9 f10 f11 f12 f13 f14 f15 : Addr} (X : K.In h) (G : h.Ns mainGlobals mg) (hfa : mg "law" = some (.ref fa))
  {K_NoAsk K_NoHeap K_NoName K_NoPlace K_NoTable K_SumError : Addr}
  {kdk_NoName : ClassData} {fi_NoName : Addr} {odi_NoName ani_NoName odk_NoName : Option Addr} {sli_NoName slk_NoName : Array (Option Value)} {oci_NoName kVi_NoName dci_NoName pmi_NoName cdi_NoName cti_NoName : Value}
  {od1 an1 od2 an2 od3 an3 od4 an4 od5 an5 od6 an6 od7 an7 od8 an8 od9 an9 od10 an10 od11 an11 od12 an12 od13 an13 od14 an14 od15 an15 : Option Addr} {sl1 sl2 sl3 sl4 sl5 sl6 sl7 sl8 sl9 sl10 sl11 sl12 sl13 sl14 sl15 : Array (Option Value)} {oc1 kV1 dc1 pm1 cd1 ct1 oc2 kV2 dc2 pm2 cd2 ct2 oc3 kV3 dc3 pm3 cd3 ct3 oc4 kV4 dc4 pm4 cd4 ct4 oc5 kV5 dc5 pm5 cd5 ct5 oc6 kV6 dc6 pm6 cd6 ct6 oc7 kV7 dc7 pm7 cd7 ct7 oc8 kV8 dc8 pm8 cd8 ct8 oc9 kV9 dc9 pm9 cd9 ct9 oc10 kV10 dc10 pm10 cd10 ct10 oc11 kV11 dc11 pm11 cd11 ct11 oc12 kV12 dc12 pm12 cd12 ct12 oc13 kV13 dc13 pm13 cd13 ct13 oc14 kV14 dc14 pm14 cd14 ct14 oc15 kV15 dc15 pm15 cd15 ct15 : Value}
  (a1 : PySem.W.nsIn K mainGlobals "_law_deck" = some (some (.ref f1))) (l1 : K.lookup f1 = some ⟨oc1, od1, .func (PySem.W.fnOf "_law_deck" "_law_deck" (defArgs s_law_deck) (defBody s_law_deck) (defScope s_law_deck) .none kV1 dc1 pm1 an1 cd1 ct1), sl1⟩) (c1 : PySem.W.codeIn K cd1 "_law_deck" = true) (k1 : PySem.W.keepIn K (.ref f1) = true)
  (a2 : PySem.W.nsIn K mainGlobals "_law_mix" = some (some (.ref f2))) (l2 : K.lookup f2 = some ⟨oc2, od2, .func (PySem.W.fnOf "_law_mix" "_law_mix" (defArgs s_law_mix) (defBody s_law_mix) (defScope s_law_mix) .none kV2 dc2 pm2 an2 cd2 ct2), sl2⟩) (c2 : PySem.W.codeIn K cd2 "_law_mix" = true) (k2 : PySem.W.keepIn K (.ref f2) = true)
  (a3 : PySem.W.nsIn K mainGlobals "_law_next" = some (some (.ref f3))) (l3 : K.lookup f3 = some ⟨oc3, od3, .func (PySem.W.fnOf "_law_next" "_law_next" (defArgs s_law_next) (defBody s_law_next) (defScope s_law_next) .none kV3 dc3 pm3 an3 cd3 ct3), sl3⟩) (c3 : PySem.W.codeIn K cd3 "_law_next" = true) (k3 : PySem.W.keepIn K (.ref f3) = true)
  (a4 : PySem.W.nsIn K mainGlobals "_law_great" = some (some (.ref f4))) (l4 : K.lookup f4 = some ⟨oc4, od4, .func (PySem.W.fnOf "_law_great" "_law_great" (defArgs s_law_great) (defBody s_law_great) (defScope s_law_great) .none kV4 dc4 pm4 an4 cd4 ct4), sl4⟩) (c4 : PySem.W.codeIn K cd4 "_law_great" = true) (k4 : PySem.W.keepIn K (.ref f4) = true)
  (a5 : PySem.W.nsIn K mainGlobals "_law_numbers" = some (some (.ref f5))) (l5 : K.lookup f5 = some ⟨oc5, od5, .func (PySem.W.fnOf "_law_numbers" "_law_numbers" (defArgs s_law_numbers) (defBody s_law_numbers) (defScope s_law_numbers) .none kV5 dc5 pm5 an5 cd5 ct5), sl5⟩) (c5 : PySem.W.codeIn K cd5 "_law_numbers" = true) (k5 : PySem.W.keepIn K (.ref f5) = true)
  (a6 : PySem.W.nsIn K mainGlobals "_law_names" = some (some (.ref f6))) (l6 : K.lookup f6 = some ⟨oc6, od6, .func (PySem.W.fnOf "_law_names" "_law_names" (defArgs s_law_names) (defBody s_law_names) (defScope s_law_names) .none kV6 dc6 pm6 an6 cd6 ct6), sl6⟩) (c6 : PySem.W.codeIn K cd6 "_law_names" = true) (k6 : PySem.W.keepIn K (.ref f6) = true)
  (a7 : PySem.W.nsIn K mainGlobals "_law_heap" = some (some (.ref f7))) (l7 : K.lookup f7 = some ⟨oc7, od7, .func (PySem.W.fnOf "_law_heap" "_law_heap" (defArgs s_law_heap) (defBody s_law_heap) (defScope s_law_heap) .none kV7 dc7 pm7 an7 cd7 ct7), sl7⟩) (c7 : PySem.W.codeIn K cd7 "_law_heap" = true) (k7 : PySem.W.keepIn K (.ref f7) = true)
  (a8 : PySem.W.nsIn K mainGlobals "_law_spoilt" = some (some (.ref f8))) (l8 : K.lookup f8 = some ⟨oc8, od8, .func (PySem.W.fnOf "_law_spoilt" "_law_spoilt" (defArgs s_law_spoilt) (defBody s_law_spoilt) (defScope s_law_spoilt) .none kV8 dc8 pm8 an8 cd8 ct8), sl8⟩) (c8 : PySem.W.codeIn K cd8 "_law_spoilt" = true) (k8 : PySem.W.keepIn K (.ref f8) = true)
  (a9 : PySem.W.nsIn K mainGlobals "_law_wrong" = some (some (.ref f9))) (l9 : K.lookup f9 = some ⟨oc9, od9, .func (PySem.W.fnOf "_law_wrong" "_law_wrong" (defArgs s_law_wrong) (defBody s_law_wrong) (defScope s_law_wrong) .none kV9 dc9 pm9 an9 cd9 ct9), sl9⟩) (c9 : PySem.W.codeIn K cd9 "_law_wrong" = true) (k9 : PySem.W.keepIn K (.ref f9) = true)
  (a10 : PySem.W.nsIn K mainGlobals "need_choice" = some (some (.ref f10))) (l10 : K.lookup f10 = some ⟨oc10, od10, .func (PySem.W.fnOf "need_choice" "need_choice" (defArgs s_need_choice_v2) (defBody s_need_choice_v2) (defScope s_need_choice_v2) .none kV10 dc10 pm10 an10 cd10 ct10), sl10⟩) (c10 : PySem.W.codeIn K cd10 "need_choice" = true) (k10 : PySem.W.keepIn K (.ref f10) = true)
  (a11 : PySem.W.nsIn K mainGlobals "sum_of_choice" = some (some (.ref f11))) (l11 : K.lookup f11 = some ⟨oc11, od11, .func (PySem.W.fnOf "sum_of_choice" "sum_of_choice" (defArgs s_sum_of_choice_v2) (defBody s_sum_of_choice_v2) (defScope s_sum_of_choice_v2) .none kV11 dc11 pm11 an11 cd11 ct11), sl11⟩) (c11 : PySem.W.codeIn K cd11 "sum_of_choice" = true) (k11 : PySem.W.keepIn K (.ref f11) = true)
  (a12 : PySem.W.nsIn K mainGlobals "_law_is_number" = some (some (.ref f12))) (l12 : K.lookup f12 = some ⟨oc12, od12, .func (PySem.W.fnOf "_law_is_number" "_law_is_number" (defArgs s_law_is_number) (defBody s_law_is_number) (defScope s_law_is_number) .none kV12 dc12 pm12 an12 cd12 ct12), sl12⟩) (c12 : PySem.W.codeIn K cd12 "_law_is_number" = true) (k12 : PySem.W.keepIn K (.ref f12) = true)
  (a13 : PySem.W.nsIn K mainGlobals "_law_sum" = some (some (.ref f13))) (l13 : K.lookup f13 = some ⟨oc13, od13, .func (PySem.W.fnOf "_law_sum" "_law_sum" (defArgs s_law_sum) (defBody s_law_sum) (defScope s_law_sum) .none kV13 dc13 pm13 an13 cd13 ct13), sl13⟩) (c13 : PySem.W.codeIn K cd13 "_law_sum" = true) (k13 : PySem.W.keepIn K (.ref f13) = true)
  (a14 : PySem.W.nsIn K mainGlobals "_law_right" = some (some (.ref f14))) (l14 : K.lookup f14 = some ⟨oc14, od14, .func (PySem.W.fnOf "_law_right" "_law_right" (defArgs s_law_right_v11) (defBody s_law_right_v11) (defScope s_law_right_v11) .none kV14 dc14 pm14 an14 cd14 ct14), sl14⟩) (c14 : PySem.W.codeIn K cd14 "_law_right" = true) (k14 : PySem.W.keepIn K (.ref f14) = true)
  (a15 : PySem.W.nsIn K mainGlobals "law" = some (some (.ref f15))) (l15 : K.lookup f15 = some ⟨oc15, od15, .func (PySem.W.fnOf "law" "law" (defArgs s_law_v26) (defBody s_law_v26) (defScope s_law_v26) .none kV15 dc15 pm15 an15 cd15 ct15), sl15⟩) (c15 : PySem.W.codeIn K cd15 "law" = true) (k15 : PySem.W.keepIn K (.ref f15) = true)
  (z0 : PySem.W.nsIn K mainGlobals "ValueError" = some none)
  (z1 : PySem.W.nsIn K mainGlobals "bool" = some none)
  (z2 : PySem.W.nsIn K mainGlobals "dict" = some none)
  (z3 : PySem.W.nsIn K mainGlobals "enumerate" = some none)
  (z4 : PySem.W.nsIn K mainGlobals "int" = some none)
  (z5 : PySem.W.nsIn K mainGlobals "isinstance" = some none)
  (z6 : PySem.W.nsIn K mainGlobals "len" = some none)
  (z7 : PySem.W.nsIn K mainGlobals "list" = some none)
  (z8 : PySem.W.nsIn K mainGlobals "min" = some none)
  (z9 : PySem.W.nsIn K mainGlobals "range" = some none)
  (z10 : PySem.W.nsIn K mainGlobals "str" = some none)
  (z11 : PySem.W.nsIn K mainGlobals "sum" = some none)
  (z12 : PySem.W.nsIn K mainGlobals "tuple" = some none)
  (z13 : PySem.W.nsIn K mainGlobals "zip" = some none)
  (e_NoAsk : PySem.W.nsIn K mainGlobals "NoAsk" = some (some (.ref K_NoAsk)))
  (e_NoHeap : PySem.W.nsIn K mainGlobals "NoHeap" = some (some (.ref K_NoHeap)))
  (e_NoName : PySem.W.nsIn K mainGlobals "NoName" = some (some (.ref K_NoName)))
  (e_NoPlace : PySem.W.nsIn K mainGlobals "NoPlace" = some (some (.ref K_NoPlace)))
  (e_NoTable : PySem.W.nsIn K mainGlobals "NoTable" = some (some (.ref K_NoTable)))
  (e_SumError : PySem.W.nsIn K mainGlobals "SumError" = some (some (.ref K_SumError)))
  (xb_NoName : PySem.W.keepIn K (.ref K_NoName) = true)
  (xc_NoName : PySem.W.subIn K (.ref K_NoName) (.type "BaseException") = some true)
  (xd_NoName : PySem.W.typeIn K (.ref K_NoName) = some (.type "type"))
  (xf_NoName : PySem.W.findIn K (.ref K_NoName) "__getattribute__" = some (some (.builtin "BaseException.__getattribute__")))
  (xg_NoName : PySem.W.findIn K (.ref K_NoName) "__getattr__" = some none)
  (xh_NoName : PySem.W.hasDictIn K K_NoName = true)
  (xi_NoName : PySem.W.findIn K (.ref K_NoName) "__class__" = some (some (.builtin "object.__class__")))
  (xj_NoName : PySem.W.mroIn K K_NoName (.type "object") = some true)
  (jx_NoName : K.lookup K_NoName = some ⟨.type "type", odk_NoName, .cls kdk_NoName, slk_NoName⟩)
  (ja_NoName : oexO kdk_NoName slk_NoName K_NoName = true)
  (jb_NoName : PySem.W.findIn K (.ref K_NoName) "__setattr__" = some (some (.builtin "object.__setattr__")))
  (jc_NoName : PySem.W.findIn K (.ref K_NoName) "word" = some none)
  (jd_NoName : PySem.W.findIn K (.ref K_NoName) "__init__" = some (some (.ref fi_NoName)))
  (jl_NoName : K.lookup fi_NoName = some ⟨oci_NoName, odi_NoName, .func (PySem.W.fnOf "__init__" "NoName.__init__" (defArgs si_NoName) (defBody si_NoName) (defScope si_NoName) .none kVi_NoName dci_NoName pmi_NoName ani_NoName cdi_NoName cti_NoName), sli_NoName⟩)
  (jm_NoName : PySem.W.codeIn K cdi_NoName "NoName.__init__" = true)
  (jk_NoName : PySem.W.keepIn K (.ref fi_NoName) = true)
  (jt_NoName : PySem.W.typeIn K (.ref fi_NoName) = some (.type "function"))
  (va_SumError : PySem.W.specialIn K (.ref K_SumError) "__getattribute__" = some (some (.builtin "type.__getattribute__")))
  (vb_SumError : PySem.W.readsIn K K_SumError (.type "type") = true)
  (vc_SumError : PySem.W.findCls K (.ref K_SumError) (.type "type") "__init__" = some (.val (.builtin "ValueError.__init__")))
  (xn : PySem.W.specialIn K (.builtin "object.__class__") "__get__" = some (some (.builtin "getset_descriptor.__get__")))
  (xt : PySem.W.takesIn K (.builtin "object.__class__") = some true)
  (q0_NoName : PySem.W.subIn K (.ref K_NoName) (.ref K_SumError) = some true)
  (ya0 : PySem.W.subIn K (.ref K_SumError) (.type "BaseException") = some true)
  (yb0 : PySem.W.hasDictIn K K_SumError = true)
  (yc0 : PySem.W.typeIn K (.ref K_SumError) = some (.type "type"))
  (q1_NoName : PySem.W.kitAny K (.ref K_NoName) [(.ref K_NoAsk), (.ref K_NoHeap), (.ref K_NoPlace), (.ref K_NoTable)] = some false)
  (q2_NoName : PySem.W.kitOne K (.ref K_NoName) (.type "ValueError") = some true)
  (q3_NoName : PySem.W.kitOne K (.ref K_NoName) (.ref K_NoName) = some true)
  (q4_NoName : PySem.W.kitOne K (.ref K_NoName) (.ref K_SumError) = some true)
  : ∃ fd : FuncData, (∀ (s : Shared) (v : Value), BindsTo s fd ⟨[v], []⟩ [("script", v)]) ∧ ∀ base : Heap, K.In base → base.Ns mainGlobals mg → FnOk l.prog w K mg base CX0 6 fa fd ["script"] (spLaw K) := by
  have e := hfa.symm.trans (PySem.W.mg_of X G a15)
  cases e
  have g_NoAsk := PySem.W.mg_of X G e_NoAsk
  have g_NoHeap := PySem.W.mg_of X G e_NoHeap
  have g_NoName := PySem.W.mg_of X G e_NoName
  have g_NoPlace := PySem.W.mg_of X G e_NoPlace
  have g_NoTable := PySem.W.mg_of X G e_NoTable
  have g_SumError := PySem.W.mg_of X G e_SumError
  have E_NoName : ExcC K K_NoName := ⟨xf_NoName, xg_NoName, xc_NoName, xh_NoName, xi_NoName, xn, xt, xj_NoName⟩
  have T : Txt K mg := ⟨PySem.W.mg_none_of X G z0, PySem.W.mg_none_of X G z1, PySem.W.mg_none_of X G z2, PySem.W.mg_none_of X G z3, PySem.W.mg_none_of X G z4, PySem.W.mg_none_of X G z5, PySem.W.mg_none_of X G z6, PySem.W.mg_none_of X G z7, PySem.W.mg_none_of X G z8, PySem.W.mg_none_of X G z9, PySem.W.mg_none_of X G z10, PySem.W.mg_none_of X G z11, PySem.W.mg_none_of X G z12, PySem.W.mg_none_of X G z13, ⟨_, g_SumError, va_SumError, vb_SumError, vc_SumError⟩, fldT_cons g_NoName ⟨xf_NoName, xg_NoName, xc_NoName, xh_NoName⟩ jc_NoName (fldT_nil), ⟨_, g_SumError, kdp_cons g_NoName (PySem.W.exm_ref ya0 yb0 yc0 q0_NoName) (kdp_nil)⟩, ⟨_, _, .cons (.own g_NoAsk) (.cons (.own g_NoHeap) (.cons (.own g_NoPlace) (.cons (.own g_NoTable) (.nil)))), kdp_cons g_NoName (⟨E_NoName, q1_NoName⟩) (kdp_nil)⟩, ⟨_, _, .blt (PySem.W.mg_none_of X G z0) (by decide +kernel) (by decide), kdp_cons g_NoName (⟨E_NoName, q2_NoName⟩) (kdp_nil)⟩, ⟨_, _, .own g_NoName, kdp_cons g_NoName (⟨E_NoName, q3_NoName⟩) (kdp_nil)⟩, ⟨_, _, .own g_SumError, kdp_cons g_NoName (⟨E_NoName, q4_NoName⟩) (kdp_nil)⟩⟩
  refine ⟨PySem.W.fnOf "law" "law" (defArgs s_law_v26) (defBody s_law_v26) (defScope s_law_v26) .none kV15 dc15 pm15 an15 cd15 ct15, fun s v => .of_eq rfl, fun base _ _ => ?_⟩
  have FI_NoName := fun_mk (st := si_NoName) jl_NoName jm_NoName jk_NoName
  have bi_NoName := FI_NoName.binds (ps := ["self", "word"]) fun _ _ _ _ _ _ us hl => match us, hl with | [_, _], _ => rfl
  have O_NoName : ExO l.prog w K mg base "NoName" "word" := ⟨_, _, _, _, g_NoName, ⟨oex_cls (oexB_of jx_NoName ja_NoName), jb_NoName, xc_NoName, xd_NoName, xb_NoName⟩, jc_NoName, jd_NoName, jt_NoName, ok_ini_NoName FI_NoName T, bi_NoName⟩
  have F1 := fun_mk (st := s_law_deck) l1 c1 k1
  have b1 := F1.binds (ps := ["script"]) fun _ _ _ _ _ _ us hl => match us, hl with | [_], _ => rfl
  have C_law_deck : Cal l.prog w K mg base "_law_deck" 1 ["script"] f_law_deck := ⟨_, _, ok_law_deck F1 T, PySem.W.mg_of X G a1, k1, b1⟩
  have F2 := fun_mk (st := s_law_mix) l2 c2 k2
  have b2 := F2.binds (ps := ["cell", "k"]) fun _ _ _ _ _ _ us hl => match us, hl with | [_, _], _ => rfl
  have C_law_mix : Cal l.prog w K mg base "_law_mix" 1 ["cell", "k"] f_law_mix := ⟨_, _, ok_law_mix F2 T, PySem.W.mg_of X G a2, k2, b2⟩
  have F3 := fun_mk (st := s_law_next) l3 c3 k3
  have b3 := F3.binds (ps := ["deck", "many"]) fun _ _ _ _ _ _ us hl => match us, hl with | [_, _], _ => rfl
  have C_law_next : Cal l.prog w K mg base "_law_next" 2 ["deck", "many"] f_law_next := ⟨_, _, ok_law_next F3 T C_law_mix, PySem.W.mg_of X G a3, k3, b3⟩
  have F4 := fun_mk (st := s_law_great) l4 c4 k4
  have b4 := F4.binds (ps := ["deck", "bits"]) fun _ _ _ _ _ _ us hl => match us, hl with | [_, _], _ => rfl
  have C_law_great : Cal l.prog w K mg base "_law_great" 3 ["deck", "bits"] f_law_great := ⟨_, _, ok_law_great F4 T C_law_next, PySem.W.mg_of X G a4, k4, b4⟩
  have F5 := fun_mk (st := s_law_numbers) l5 c5 k5
  have b5 := F5.binds (ps := ["deck", "most"]) fun _ _ _ _ _ _ us hl => match us, hl with | [_, _], _ => rfl
  have C_law_numbers : Cal l.prog w K mg base "_law_numbers" 4 ["deck", "most"] f_law_numbers := ⟨_, _, ok_law_numbers F5 T C_law_next C_law_great, PySem.W.mg_of X G a5, k5, b5⟩
  have F6 := fun_mk (st := s_law_names) l6 c6 k6
  have b6 := F6.binds (ps := ["deck", "many"]) fun _ _ _ _ _ _ us hl => match us, hl with | [_, _], _ => rfl
  have C_law_names : Cal l.prog w K mg base "_law_names" 3 ["deck", "many"] f_law_names := ⟨_, _, ok_law_names F6 T C_law_next, PySem.W.mg_of X G a6, k6, b6⟩
  have F7 := fun_mk (st := s_law_heap) l7 c7 k7
  have b7 := F7.binds (ps := ["deck", "most"]) fun _ _ _ _ _ _ us hl => match us, hl with | [_, _], _ => rfl
  have C_law_heap : Cal l.prog w K mg base "_law_heap" 5 ["deck", "most"] f_law_heap := ⟨_, _, ok_law_heap F7 T C_law_numbers C_law_names, PySem.W.mg_of X G a7, k7, b7⟩
  have F8 := fun_mk (st := s_law_spoilt) l8 c8 k8
  have b8 := F8.binds (ps := ["deck", "heap", "choice"]) fun _ _ _ _ _ _ us hl => match us, hl with | [_, _, _], _ => rfl
  have C_law_spoilt : Cal l.prog w K mg base "_law_spoilt" 3 ["deck", "heap", "choice"] f_law_spoilt := ⟨_, _, ok_law_spoilt F8 T C_law_next, PySem.W.mg_of X G a8, k8, b8⟩
  have F9 := fun_mk (st := s_law_wrong) l9 c9 k9
  have b9 := F9.binds (ps := ["heap", "choice"]) fun _ _ _ _ _ _ us hl => match us, hl with | [_, _], _ => rfl
  have C_law_wrong : Cal l.prog w K mg base "_law_wrong" 1 ["heap", "choice"] f_law_wrong := ⟨_, _, ok_law_wrong F9 T, PySem.W.mg_of X G a9, k9, b9⟩
  have F10 := fun_mk (st := s_need_choice_v2) l10 c10 k10
  have b10 := F10.binds (ps := ["heap", "choice"]) fun _ _ _ _ _ _ us hl => match us, hl with | [_, _], _ => rfl
  have C_need_choice_v2 : CalX l.prog w K mg base "need_choice" 3 ["heap", "choice"] f_need_choice_v2 := ⟨_, _, ok_need_choice_v2 F10 T O_NoName, PySem.W.mg_of X G a10, k10, b10⟩
  have F11 := fun_mk (st := s_sum_of_choice_v2) l11 c11 k11
  have b11 := F11.binds (ps := ["heap", "choice"]) fun _ _ _ _ _ _ us hl => match us, hl with | [_, _], _ => rfl
  have C_sum_of_choice_v2 : CalX l.prog w K mg base "sum_of_choice" 4 ["heap", "choice"] f_sum_of_choice_v2 := ⟨_, _, ok_sum_of_choice_v2 F11 T C_need_choice_v2, PySem.W.mg_of X G a11, k11, b11⟩
  have F12 := fun_mk (st := s_law_is_number) l12 c12 k12
  have b12 := F12.binds (ps := ["found"]) fun _ _ _ _ _ _ us hl => match us, hl with | [_], _ => rfl
  have C_law_is_number : Cal l.prog w K mg base "_law_is_number" 1 ["found"] f_law_is_number := ⟨_, _, ok_law_is_number F12 T, PySem.W.mg_of X G a12, k12, b12⟩
  have F13 := fun_mk (st := s_law_sum) l13 c13 k13
  have b13 := F13.binds (ps := ["numbers"]) fun _ _ _ _ _ _ us hl => match us, hl with | [_], _ => rfl
  have C_law_sum : Cal l.prog w K mg base "_law_sum" 1 ["numbers"] f_law_sum := ⟨_, _, ok_law_sum F13 T, PySem.W.mg_of X G a13, k13, b13⟩
  have F14 := fun_mk (st := s_law_right_v11) l14 c14 k14
  have b14 := F14.binds (ps := ["heap", "choice"]) fun _ _ _ _ _ _ us hl => match us, hl with | [_, _], _ => rfl
  have C_law_right_v11 : Cal l.prog w K mg base "_law_right" 5 ["heap", "choice"] f_law_right_v11 := ⟨_, _, ok_law_right_v11 F14 T C_law_wrong C_sum_of_choice_v2 C_law_is_number C_law_sum, PySem.W.mg_of X G a14, k14, b14⟩
  have F15 := fun_mk (st := s_law_v26) l15 c15 k15
  exact law_ok (ok_law_v26 F15 T C_law_deck C_law_heap C_law_spoilt C_law_next C_law_right_v11 O_NoName) rfl law_holds

end OL
open PyProof.Rows PySem PySem.W
set_option maxHeartbeats 0 in
theorem PySem.Challenge.cw_oddsums_k03_sums_of_choices_holds : PySem.Challenge.rw_oddsums_k03_sums_of_choices.Holds := by
  w_on; o_law; k_head
  (case hw => w_witness2)
  k_fill
  refine L2.walk_of (l := PySem.Challenge.rw_oddsums_k03_sums_of_choices) (n := 63) (k := 6) (x := "script") (CX := fun _ => L2.CX0) (sp := fun w => LF.spLaw _) rfl (by decide) rfl ⟨rfl, by decide, by decide⟩ (fun w h Y => PySem.W.kIn_of Y) ?F (fun _ _ a ns hl _ hS => ⟨a, ns, rfl, hS, hl, fun _ => rfl⟩) (fun _ _ _ _ _ h => h)
  case F =>
    intro w mg fa h KX G hmg
    refine' OL.all_mk KX G hmg ?a1 ?l1 ?c1 ?k1 ?a2 ?l2 ?c2 ?k2 ?a3 ?l3 ?c3 ?k3 ?a4 ?l4 ?c4 ?k4 ?a5 ?l5 ?c5 ?k5 ?a6 ?l6 ?c6 ?k6 ?a7 ?l7 ?c7 ?k7 ?a8 ?l8 ?c8 ?k8 ?a9 ?l9 ?c9 ?k9 ?a10 ?l10 ?c10 ?k10 ?a11 ?l11 ?c11 ?k11 ?a12 ?l12 ?c12 ?k12 ?a13 ?l13 ?c13 ?k13 ?a14 ?l14 ?c14 ?k14 ?a15 ?l15 ?c15 ?k15 ?z0 ?z1 ?z2 ?z3 ?z4 ?z5 ?z6 ?z7 ?z8 ?z9 ?z10 ?z11 ?z12 ?z13 ?e_NoAsk ?e_NoHeap ?e_NoName ?e_NoPlace ?e_NoTable ?e_SumError ?xb_NoName ?xc_NoName ?xd_NoName ?xf_NoName ?xg_NoName ?xh_NoName ?xi_NoName ?xj_NoName ?jx_NoName ?ja_NoName ?jb_NoName ?jc_NoName ?jd_NoName ?jl_NoName ?jm_NoName ?jk_NoName ?jt_NoName ?va_SumError ?vb_SumError ?vc_SumError ?xn ?xt ?q0_NoName ?ya0 ?yb0 ?yc0 ?q1_NoName ?q2_NoName ?q3_NoName ?q4_NoName
    (case a1 => k_is); (case l1 => k_is); (case c1 => k_is); (case k1 => k_is); (case a2 => k_is); (case l2 => k_is); (case c2 => k_is); (case k2 => k_is); (case a3 => k_is); (case l3 => k_is); (case c3 => k_is); (case k3 => k_is); (case a4 => k_is); (case l4 => k_is); (case c4 => k_is); (case k4 => k_is); (case a5 => k_is); (case l5 => k_is); (case c5 => k_is); (case k5 => k_is); (case a6 => k_is); (case l6 => k_is); (case c6 => k_is); (case k6 => k_is); (case a7 => k_is); (case l7 => k_is); (case c7 => k_is); (case k7 => k_is); (case a8 => k_is); (case l8 => k_is); (case c8 => k_is); (case k8 => k_is); (case a9 => k_is); (case l9 => k_is); (case c9 => k_is); (case k9 => k_is); (case a10 => k_is); (case l10 => k_is); (case c10 => k_is); (case k10 => k_is); (case a11 => k_is); (case l11 => k_is); (case c11 => k_is); (case k11 => k_is); (case a12 => k_is); (case l12 => k_is); (case c12 => k_is); (case k12 => k_is); (case a13 => k_is); (case l13 => k_is); (case c13 => k_is); (case k13 => k_is); (case a14 => k_is); (case l14 => k_is); (case c14 => k_is); (case k14 => k_is); (case a15 => k_is); (case l15 => k_is); (case c15 => k_is); (case k15 => k_is); (case z0 => k_is); (case z1 => k_is); (case z2 => k_is); (case z3 => k_is); (case z4 => k_is); (case z5 => k_is); (case z6 => k_is); (case z7 => k_is); (case z8 => k_is); (case z9 => k_is); (case z10 => k_is); (case z11 => k_is); (case z12 => k_is); (case z13 => k_is); (case e_NoAsk => k_is); (case e_NoHeap => k_is); (case e_NoName => k_is); (case e_NoPlace => k_is); (case e_NoTable => k_is); (case e_SumError => k_is); (case xb_NoName => k_is); (case xc_NoName => k_is); (case xd_NoName => k_is); (case xf_NoName => k_is); (case xg_NoName => k_is); (case xh_NoName => k_is); (case xi_NoName => k_is); (case xj_NoName => k_is); (case jx_NoName => k_is); (case ja_NoName => rfl); (case jb_NoName => k_is); (case jc_NoName => k_is); (case jd_NoName => k_is); (case jl_NoName => k_is); (case jm_NoName => k_is); (case jk_NoName => k_is); (case jt_NoName => k_is); (case va_SumError => k_is); (case vb_SumError => k_is); (case vc_SumError => k_is); (case xn => k_is); (case xt => k_is); (case q0_NoName => k_is); (case ya0 => k_is); (case yb0 => k_is); (case yc0 => k_is); (case q1_NoName => kit_is); (case q2_NoName => kit_is); (case q3_NoName => kit_is); (case q4_NoName => kit_is)
