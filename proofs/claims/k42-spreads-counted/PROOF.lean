import PyProof.Rows.All
import Wide.All
import OpenK.AllK
import Wide.FinOn
import HandS.Base
import HandS.Call
import HandS.List
import HandS.Exc
import HandS.ExcOwn
import HandS.Defaults
import HandS.HeadHook1
import HandS.HeadHook2
import HandS.Gcd
import HandS.Comp
import HandS.IsInst
import HandS.Property
import KE.KOpsOwn
import HandS.Iter
import HandS.WordsExc
import HandS.OwnEq
import HandS.WordsList
import KE.KStateDown
import Lean
import HandS.Ends
import HandS.Words
import HandS.Head0
import HandS.Head1
import HandS.Head2
import HandS.HeadEnd
import HandS.Head3
import HandS.ExcField
import HandS.ExcIs
import HandS.ExcInit
import HandS.TryMany
import KE.KExcSuper
import HandS.ExcSuper
import HandS.Nested
import OpenK.KMeth
import OpenK.KOps
import PyProof.InstNe
import HandS.ClsMeth
import HandS.TupAny
import HandS.MakeKwOnly
import KE.KSuper
import HandS.Zip
import HandS.Rev
import HandS.Style
import HandS.TupLe
import HandS.More
import HandS.Star
import HandS.Flow
import HandS.Dict
import HandS.SortInts
import HandS.Conv
import PySem.Challenge.RW_fieldlots_k42_spreads_counted
set_option Elab.async false
set_option linter.all false
set_option maxRecDepth 100000
set_option maxHeartbeats 1000000
namespace FR
open PySem PySem.Spec PyProof.Rows L2

/-- attributes of the program's objects -/
inductive Fld where
  | top | under | first | step | count | parts | start | slope | worth | lots | lines | one | two | floor_one | floor_two
  | mean_one | mean_two | ties | cost_one | cost_two | fields | total_one | total_two | classes | ground | forces | spread | table
  | amounts | prices | shares_one | shares_two | plan_one | plan_two | share | verdict | making_one | making_two | lanes | height
  | parts_one | parts_two | worths | states | rounds | plays | undone | match_ | seen | blends | past | name | value | most | column
  | part | at_ | number
  deriving DecidableEq
def Fld.s : Fld → String
  | top => "top" | under => "under" | first => "first" | step => "step" | count => "count" | parts => "parts" | start => "start" | slope => "slope"
  | worth => "worth" | lots => "lots" | lines => "lines" | one => "one" | two => "two" | floor_one => "floor_one" | floor_two => "floor_two"
  | mean_one => "mean_one" | mean_two => "mean_two" | ties => "ties" | cost_one => "cost_one" | cost_two => "cost_two" | fields => "fields"
  | total_one => "total_one" | total_two => "total_two" | classes => "classes" | ground => "ground" | forces => "forces" | spread => "spread"
  | table => "table" | amounts => "amounts" | prices => "prices" | shares_one => "shares_one" | shares_two => "shares_two"
  | plan_one => "plan_one" | plan_two => "plan_two" | share => "share" | verdict => "verdict" | making_one => "making_one" | making_two => "making_two"
  | lanes => "lanes" | height => "height" | parts_one => "parts_one" | parts_two => "parts_two" | worths => "worths" | states => "states"
  | rounds => "rounds" | plays => "plays" | undone => "undone" | match_ => "match" | seen => "seen" | blends => "blends" | past => "past"
  | name => "name" | value => "value" | most => "most" | column => "column" | part => "part" | at_ => "at" | number => "number"
def Fld.x (f : Fld) : Str := Str.ofString f.s
def Fld.all : List Fld := [top, under, first, step, count, parts, start, slope, worth, lots, lines, one, two, floor_one, floor_two,
  mean_one, mean_two, ties, cost_one, cost_two, fields, total_one, total_two, classes, ground, forces, spread, table,
  amounts, prices, shares_one, shares_two, plan_one, plan_two, share, verdict, making_one, making_two, lanes, height,
  parts_one, parts_two, worths, states, rounds, plays, undone, match_, seen, blends, past, name, value, most, column,
  part, at_, number]
theorem Fld.mem_all (f : Fld) : f ∈ Fld.all := by cases f <;> decide
theorem Fld.inj_all : (Fld.all.all fun f => Fld.all.all fun g => decide (f = g) || !decide (f.x = g.x)) = true := by decide +kernel
theorem Fld.inj {f g : Fld} (h : f.x = g.x) : f = g := by
  have h1 := List.all_eq_true.mp Fld.inj_all f f.mem_all
  have h2 := List.all_eq_true.mp h1 g g.mem_all
  rcases Bool.or_eq_true_iff.mp h2 with h3 | h3
  · exact of_decide_eq_true h3
  · rw [decide_eq_true h] at h3
    cases h3
theorem Fld.bne {f g : Fld} (h : f ≠ g) : (f.x == g.x) = false := beq_eq_false_iff_ne.mpr fun e => h (Fld.inj e)

/-- the program's classes -/
inductive Cn where
  | LotError | ZeroUnder | BadNumber | BadShares | NoPlace | TooMany | Mismatch | BadSpread | NoLimit | NotTiled | BadMove | NothingLeft
  | NeverSeen | BadText | BadLine | Ratio | Run | Blend | Line | Answer | Verdict | CostVerdict | Priced | Ground | Plan | Reply | Packing
  | Duel | TrueGame | Making | Bridge | Table | RowGame | Rounds | Match | Trial | Book | Desk
  deriving DecidableEq
def Cn.s : Cn → String
  | LotError => "LotError" | ZeroUnder => "ZeroUnder" | BadNumber => "BadNumber" | BadShares => "BadShares" | NoPlace => "NoPlace"
  | TooMany => "TooMany" | Mismatch => "Mismatch" | BadSpread => "BadSpread" | NoLimit => "NoLimit" | NotTiled => "NotTiled"
  | BadMove => "BadMove" | NothingLeft => "NothingLeft" | NeverSeen => "NeverSeen" | BadText => "BadText" | BadLine => "BadLine"
  | Ratio => "Ratio" | Run => "Run" | Blend => "Blend" | Line => "Line" | Answer => "Answer" | Verdict => "Verdict" | CostVerdict => "CostVerdict"
  | Priced => "Priced" | Ground => "Ground" | Plan => "Plan" | Reply => "Reply" | Packing => "Packing" | Duel => "Duel" | TrueGame => "TrueGame"
  | Making => "Making" | Bridge => "Bridge" | Table => "Table" | RowGame => "RowGame" | Rounds => "Rounds" | Match => "Match" | Trial => "Trial"
  | Book => "Book" | Desk => "Desk"
def Cn.x (c : Cn) : Str := Str.ofString c.s
/-- the class's address -/
def Cn.a (K : PySem.W.Frag) (c : Cn) : Addr := He.ga K c.x

/-- pure data -/
inductive P where
  | non | bl (b : Bool) | int (i : Int) | str (x : Str) | ty (n : String) | nm (x : Str)
  | tup (l : List P) | lst (l : List P) | scr (l : List P) | obj (c : Cn) (fs : List (Fld × P))
/-- a value: pure data, or a mutable cell of the store -/
inductive D where
  | p (q : P) | r (n : Nat)
/-- a cell -/
inductive Cell where
  | dead | lst (l : List D) | ins (c : Cn) (fs : List (Fld × D)) | dK (l : List (Key × D))
abbrev Store := List Cell
inductive Exc where
  | mk (c : Cn) (fs : List (Fld × P))
inductive R (α : Type) where
  | ok (a : α) (S : Store) | exc (x : Exc) (S : Store) | stuck
abbrev Env := List (Option D)
abbrev FE := Env → Store → R D
abbrev FT := Env → Store → R Bool
abbrev FA := Env → Store → R (List D)
inductive Fl where
  | nx (ρ : Env) | ret (d : D) | bk (ρ : Env) | ct (ρ : Env)
abbrev FS := Env → Store → R Fl
abbrev Fn := List D → Store → R D

/-! ### representation -/
section
variable (K : PySem.W.Frag) (L : Addr → Prop) (H : Hp)
/-- a list that stands still -/
def LstAt (a : Addr) (vs : List V) : Prop := (H a = some (.lst vs) ∧ ¬ L a) ∨ ∃ o, H a = some (.frz o (.lst vs))
mutual
inductive Rep : V → P → Prop where
  | non : Rep .non .non
  | bl (b : Bool) : Rep (.bl b) (.bl b)
  | int (i : Int) : Rep (.int i) (.int i)
  | str (x : Str) : Rep (.str x) (.str x)
  | ty (n : String) : Rep (.ty n) (.ty n)
  | nm (x : Str) : Rep (.ref (He.ga K x)) (.nm x)
  | tup {a : Addr} {vs : List V} {l : List P} (h : SqT K H a vs) (r : Reps vs l) : Rep (.ref a) (.tup l)
  | lst {a : Addr} {vs : List V} {l : List P} (h : LstAt L H a vs) (r : Reps vs l) : Rep (.ref a) (.lst l)
  | scr {a : Addr} {vs : List V} {l : List P} (h : LstAt L H a vs ∨ SqL K (fun _ => none) a vs) (r : Reps vs l) : Rep (.ref a) (.scr l)
  | obj {a dx : Addr} {c : Cn} {fs : List (Str × V)} {gs : List (Fld × P)} (h : H a = some (.ins (c.a K) dx fs)) (hl : ¬ L a) (r : RepF fs gs) : Rep (.ref a) (.obj c gs)
inductive Reps : List V → List P → Prop where
  | nil : Reps [] []
  | cons {v : V} {p : P} {vs : List V} {l : List P} (h : Rep v p) (t : Reps vs l) : Reps (v :: vs) (p :: l)
inductive RepF : List (Str × V) → List (Fld × P) → Prop where
  | nil : RepF [] []
  | cons {v : V} {f : Fld} {p : P} {fs : List (Str × V)} {gs : List (Fld × P)} (h : Rep v p) (t : RepF fs gs) : RepF ((f.x, v) :: fs) ((f, p) :: gs)
end
end

theorem LstAt.sq {K : PySem.W.Frag} {L : Addr → Prop} {H : Hp} {a : Addr} {vs : List V} (h : LstAt L H a vs) : SqL K H a vs := by
  rcases h with h | ⟨o, h⟩
  · exact .inl (.inl h.1)
  · exact .inl (.inr ⟨o, h⟩)
theorem sqK {K : PySem.W.Frag} {H : Hp} {a : Addr} {vs : List V} (h : SqL K (fun _ => none) a vs) : SqL K H a vs := by
  rcases h with (h | ⟨o, h⟩) | h
  · cases h
  · cases h
  · exact .inr h
/-- where the cells stand: cell n at α n; L: all that may change; N: how many cells there have been -/
structure Wd where
  α : Nat → Option Addr
  L : Addr → Prop
  N : Nat
/-- from one point to a later one -/
structure Step (w : Wd) (H : Hp) (w' : Wd) (H' : Hp) : Prop where
  n : w.N ≤ w'.N
  old : ∀ n a, n < w.N → w'.α n = some a → w.α n = some a
  new : ∀ n a, w.N ≤ n → w'.α n = some a → H a = none
  kept : ∀ a o, H a = some o → (∀ n, w.α n ≠ some a) → H' a = some o
  there : ∀ a, H a ≠ none → H' a ≠ none
  l1 : ∀ a, w'.L a → w.L a ∨ H a = none
  l2 : ∀ a, w.L a → w'.L a ∨ ∃ n, w.α n = some a
  tups : ∀ a vs, H a = some (.tup vs) → H' a = some (.tup vs)
  frzs : ∀ a o u, H a = some (.frz o u) → H' a = some (.frz o u)
/-- the invariant of a point -/
structure Wok (w : Wd) (H : Hp) : Prop where
  lt : ∀ n a, w.α n = some a → n < w.N
  live : ∀ n a, w.α n = some a → w.L a
  mu : ∀ a, w.L a → Mut (H a)
  inj : ∀ n m a, w.α n = some a → w.α m = some a → n = m
theorem mut_some {o : Option HO} (h : Mut o) : o ≠ none := fun e => by rw [e] at h; exact h
theorem Step.refl (w : Wd) (H : Hp) (h : Wok w H) : Step w H w H :=
  ⟨Nat.le_refl _, fun _ _ _ e => e, fun n a hn e => absurd (h.lt n a e) (Nat.not_lt.mpr hn), fun _ _ e _ => e, fun _ e => e, fun _ e => .inl e, fun _ e => .inl e, fun _ _ e => e, fun _ _ _ e => e⟩
theorem Step.trans {w w1 w2 : Wd} {H H1 H2 : Hp} (W : Wok w H) (a : Step w H w1 H1) (b : Step w1 H1 w2 H2) : Step w H w2 H2 where
  n := Nat.le_trans a.n b.n
  old n x hn e := a.old n x hn (b.old n x (Nat.lt_of_lt_of_le hn a.n) e)
  new n x hn e := by
    by_cases h : n < w1.N
    · exact a.new n x hn (b.old n x h e)
    · have := b.new n x (Nat.le_of_not_lt h) e
      cases q : H x with
      | none => rfl
      | some o => exact absurd this (a.there x (by rw [q]; simp))
  kept x o e hn := b.kept x o (a.kept x o e hn) fun n q => by
    by_cases h : n < w.N
    · exact hn n (a.old n x h q)
    · have := a.new n x (Nat.le_of_not_lt h) q
      rw [e] at this; cases this
  there x e := b.there x (a.there x e)
  l1 x e := by
    rcases b.l1 x e with h | h
    · exact a.l1 x h
    · refine .inr ?_
      cases q : H x with
      | none => rfl
      | some o => exact absurd h (a.there x (by rw [q]; simp))
  l2 x e := by
    rcases a.l2 x e with h | h
    · rcases b.l2 x h with h | ⟨n, h⟩
      · exact .inl h
      · by_cases hn : n < w.N
        · exact .inr ⟨n, a.old n x hn h⟩
        · have := a.new n x (Nat.le_of_not_lt hn) h
          have hm := W.mu x e
          rw [this] at hm
          exact hm.elim
    · exact .inr h
  tups x vs e := b.tups x vs (a.tups x vs e)
  frzs x o u e := b.frzs x o u (a.frzs x o u e)

section
variable {K : PySem.W.Frag} {w w' : Wd} {H H' : Hp}
theorem Step.sqT {a : Addr} {vs : List V} (s : Step w H w' H') (h : SqT K H a vs) : SqT K H' a vs := by
  rcases h with (h | ⟨o, h⟩) | h
  · exact .inl (.inl (s.tups _ _ h))
  · exact .inl (.inr ⟨o, s.frzs _ _ _ h⟩)
  · exact .inr h
theorem Step.still (W : Wok w H) (s : Step w H w' H') {a : Addr} {o : HO} (h : H a = some o) (hl : ¬ w.L a) : H' a = some o ∧ ¬ w'.L a :=
  ⟨s.kept a o h fun n e => hl (W.live n a e), fun e => by
    rcases s.l1 a e with q | q
    · exact hl q
    · rw [h] at q; cases q⟩
theorem Step.lst (W : Wok w H) (s : Step w H w' H') {a : Addr} {vs : List V} (h : LstAt w.L H a vs) : LstAt w'.L H' a vs := by
  rcases h with ⟨h, hl⟩ | ⟨o, h⟩
  · exact .inl (s.still W h hl)
  · exact .inr ⟨o, s.frzs _ _ _ h⟩
mutual
theorem Rep.step (W : Wok w H) (s : Step w H w' H') : ∀ {v : V} {p : P}, Rep K w.L H v p → Rep K w'.L H' v p
  | _, _, .non => .non
  | _, _, .bl b => .bl b
  | _, _, .int b => .int b
  | _, _, .str b => .str b
  | _, _, .ty b => .ty b
  | _, _, .nm b => .nm b
  | _, _, .tup h r => .tup (s.sqT h) (Reps.step W s r)
  | _, _, .lst h r => .lst (s.lst W h) (Reps.step W s r)
  | _, _, .scr h r => .scr (h.imp (s.lst W) id) (Reps.step W s r)
  | _, _, .obj h hl r => .obj (s.still W h hl).1 (s.still W h hl).2 (RepF.step W s r)
theorem Reps.step (W : Wok w H) (s : Step w H w' H') : ∀ {vs : List V} {l : List P}, Reps K w.L H vs l → Reps K w'.L H' vs l
  | _, _, .nil => .nil
  | _, _, .cons h t => .cons (Rep.step W s h) (Reps.step W s t)
theorem RepF.step (W : Wok w H) (s : Step w H w' H') : ∀ {fs : List (Str × V)} {gs : List (Fld × P)}, RepF K w.L H fs gs → RepF K w'.L H' fs gs
  | _, _, .nil => .nil
  | _, _, .cons h t => .cons (Rep.step W s h) (RepF.step W s t)
end
end

/-- what stands still goes on doing so where less may change -/
theorem LstAt.shrink {L L' : Addr → Prop} {H : Hp} {a : Addr} {vs : List V} (hs : ∀ a, L' a → L a) (h : LstAt L H a vs) : LstAt L' H a vs := by
  rcases h with ⟨h, hl⟩ | h
  · exact .inl ⟨h, fun e => hl (hs a e)⟩
  · exact .inr h
section
variable {K : PySem.W.Frag} {L L' : Addr → Prop} {H : Hp}
mutual
theorem Rep.shrink (hs : ∀ a, L' a → L a) : ∀ {v : V} {p : P}, Rep K L H v p → Rep K L' H v p
  | _, _, .non => .non
  | _, _, .bl b => .bl b
  | _, _, .int b => .int b
  | _, _, .str b => .str b
  | _, _, .ty b => .ty b
  | _, _, .nm b => .nm b
  | _, _, .tup h r => .tup h (Reps.shrink hs r)
  | _, _, .lst h r => .lst (h.shrink hs) (Reps.shrink hs r)
  | _, _, .scr h r => .scr (h.imp (LstAt.shrink hs) id) (Reps.shrink hs r)
  | _, _, .obj h hl r => .obj h (fun e => hl (hs _ e)) (RepF.shrink hs r)
theorem Reps.shrink (hs : ∀ a, L' a → L a) : ∀ {vs : List V} {l : List P}, Reps K L H vs l → Reps K L' H vs l
  | _, _, .nil => .nil
  | _, _, .cons h t => .cons (Rep.shrink hs h) (Reps.shrink hs t)
theorem RepF.shrink (hs : ∀ a, L' a → L a) : ∀ {fs : List (Str × V)} {gs : List (Fld × P)}, RepF K L H fs gs → RepF K L' H fs gs
  | _, _, .nil => .nil
  | _, _, .cons h t => .cons (Rep.shrink hs h) (RepF.shrink hs t)
end
end
/-- a value represents -/
def DRep (K : PySem.W.Frag) (w : Wd) (H : Hp) (v : V) : D → Prop
  | .p q => Rep K w.L H v q
  | .r n => n < w.N ∧ ∀ a, w.α n = some a → v = .ref a
inductive DReps (K : PySem.W.Frag) (w : Wd) (H : Hp) : List V → List D → Prop where
  | nil : DReps K w H [] []
  | cons {v : V} {d : D} {vs : List V} {l : List D} (h : DRep K w H v d) (t : DReps K w H vs l) : DReps K w H (v :: vs) (d :: l)
inductive DRepF (K : PySem.W.Frag) (w : Wd) (H : Hp) : List (Str × V) → List (Fld × D) → Prop where
  | nil : DRepF K w H [] []
  | cons {v : V} {f : Fld} {d : D} {fs : List (Str × V)} {gs : List (Fld × D)} (h : DRep K w H v d) (t : DRepF K w H fs gs) : DRepF K w H ((f.x, v) :: fs) ((f, d) :: gs)
/-- slots -/
inductive Slots (K : PySem.W.Frag) (w : Wd) (H : Hp) : L2.St → Env → Prop where
  | nil : Slots K w H [] []
  | emp {v : Option V} {σ : L2.St} {ρ : Env} (t : Slots K w H σ ρ) : Slots K w H (v :: σ) (none :: ρ)
  | has {v : V} {d : D} {σ : L2.St} {ρ : Env} (h : DRep K w H v d) (t : Slots K w H σ ρ) : Slots K w H (some v :: σ) (some d :: ρ)
def CRep (K : PySem.W.Frag) (w : Wd) (H : Hp) (n : Nat) : Cell → Prop
  | .dead => True
  | .lst l => ∃ a vs, w.α n = some a ∧ H a = some (.lst vs) ∧ DReps K w H vs l
  | .ins c gs => ∃ a dx fs, w.α n = some a ∧ H a = some (.ins (c.a K) dx fs) ∧ DRepF K w H fs gs
  | .dK l => ∃ a kvs, w.α n = some a ∧ H a = some (.dK kvs) ∧ kvs.map (·.1) = l.map (·.1) ∧ DReps K w H (kvs.map (·.2)) (l.map (·.2))
/-- the store -/
structure SRep (K : PySem.W.Frag) (w : Wd) (H : Hp) (S : Store) : Prop where
  ok : Wok w H
  len : S.length = w.N
  cell : ∀ n c, S[n]? = some c → CRep K w H n c
section
variable {K : PySem.W.Frag} {w w' : Wd} {H H' : Hp}
theorem DRep.step (W : Wok w H) (s : Step w H w' H') : ∀ {v : V} {d : D}, DRep K w H v d → DRep K w' H' v d
  | _, .p _, h => Rep.step W s h
  | _, .r n, h => ⟨Nat.lt_of_lt_of_le h.1 s.n, fun a e => h.2 a (s.old n a h.1 e)⟩
theorem DReps.step (W : Wok w H) (s : Step w H w' H') : ∀ {vs : List V} {l : List D}, DReps K w H vs l → DReps K w' H' vs l
  | _, _, .nil => .nil
  | _, _, .cons h t => .cons (h.step W s) (t.step W s)
theorem DRepF.step (W : Wok w H) (s : Step w H w' H') : ∀ {fs : List (Str × V)} {gs : List (Fld × D)}, DRepF K w H fs gs → DRepF K w' H' fs gs
  | _, _, .nil => .nil
  | _, _, .cons h t => .cons (h.step W s) (t.step W s)
theorem Slots.step (W : Wok w H) (s : Step w H w' H') : ∀ {σ : L2.St} {ρ : Env}, Slots K w H σ ρ → Slots K w' H' σ ρ
  | _, _, .nil => .nil
  | _, _, .emp t => .emp (t.step W s)
  | _, _, .has h t => .has (h.step W s) (t.step W s)
theorem Slots.get : ∀ {σ : L2.St} {ρ : Env} {i : Nat} {d : D}, Slots K w H σ ρ → ρ[i]? = some (some d) → ∃ v, σ[i]? = some (some v) ∧ DRep K w H v d
  | _, _, i, _, .nil, e => by simp at e
  | _, _, 0, _, .emp _, e => by simp at e
  | _, _, i + 1, _, .emp t, e => by simpa using t.get (i := i) (by simpa using e)
  | _, _, 0, _, .has h _, e => by simp at e; subst e; exact ⟨_, rfl, h⟩
  | _, _, i + 1, _, .has _ t, e => by simpa using t.get (i := i) (by simpa using e)
theorem Slots.set {v : V} {d : D} (r : DRep K w H v d) : ∀ {σ : L2.St} {ρ : Env} (i : Nat), Slots K w H σ ρ → Slots K w H (σ.set i (some v)) (ρ.set i (some d))
  | _, _, _, .nil => .nil
  | _, _, 0, .emp t => .has r t
  | _, _, i + 1, .emp t => .emp (t.set r i)
  | _, _, 0, .has _ t => .has r t
  | _, _, i + 1, .has h t => .has h (t.set r i)
theorem DReps.length : ∀ {vs : List V} {l : List D}, DReps K w H vs l → vs.length = l.length
  | _, _, .nil => rfl
  | _, _, .cons _ t => congrArg (· + 1) t.length
theorem Reps.length {L : Addr → Prop} : ∀ {vs : List V} {l : List P}, Reps K L H vs l → vs.length = l.length
  | _, _, .nil => rfl
  | _, _, .cons _ t => congrArg (· + 1) (Reps.length t)
theorem Reps.ds : ∀ {vs : List V} {l : List P}, Reps K w.L H vs l → DReps K w H vs (l.map .p)
  | _, _, .nil => .nil
  | _, _, .cons h t => .cons h (Reps.ds t)
theorem Reps.get {L : Addr → Prop} : ∀ {vs : List V} {l : List P} {i : Nat} {p : P}, Reps K L H vs l → l[i]? = some p → ∃ v, vs[i]? = some v ∧ Rep K L H v p
  | _, _, i, _, .nil, e => by simp at e
  | _, _, 0, _, .cons h _, e => by simp at e; subst e; exact ⟨_, rfl, h⟩
  | _, _, i + 1, _, .cons _ t, e => by simpa using Reps.get (i := i) t (by simpa using e)
theorem DReps.get : ∀ {vs : List V} {l : List D} {i : Nat} {d : D}, DReps K w H vs l → l[i]? = some d → ∃ v, vs[i]? = some v ∧ DRep K w H v d
  | _, _, i, _, .nil, e => by simp at e
  | _, _, 0, _, .cons h _, e => by simp at e; subst e; exact ⟨_, rfl, h⟩
  | _, _, i + 1, _, .cons _ t, e => by simpa using DReps.get (i := i) t (by simpa using e)
theorem DReps.app : ∀ {vs us : List V} {l k : List D}, DReps K w H vs l → DReps K w H us k → DReps K w H (vs ++ us) (l ++ k)
  | _, _, _, _, .nil, b => b
  | _, _, _, _, .cons h t, b => .cons h (t.app b)
theorem DReps.setAt {v : V} {d : D} (r : DRep K w H v d) : ∀ {vs : List V} {l : List D} (i : Nat), DReps K w H vs l → DReps K w H (vs.set i v) (l.set i d)
  | _, _, _, .nil => .nil
  | _, _, 0, .cons _ t => .cons r t
  | _, _, i + 1, .cons h t => .cons h (t.setAt r i)
theorem RepF.look {L : Addr → Prop} {f : Fld} {p : P} : ∀ {fs : List (Str × V)} {gs : List (Fld × P)}, RepF K L H fs gs → gs.lookup f = some p → ∃ v, fs.lookup f.x = some v ∧ Rep K L H v p
  | _, _, .nil, e => by simp at e
  | _, _, .cons (f := g) h t, e => by
    rw [List.lookup_cons] at e
    by_cases q : f = g
    · subst q
      simp at e
      subst e
      exact ⟨_, by simp [List.lookup_cons], h⟩
    · rw [beq_eq_false_iff_ne.mpr q] at e
      obtain ⟨v, h1, h2⟩ := RepF.look t e
      exact ⟨v, by rw [List.lookup_cons, Fld.bne q]; exact h1, h2⟩
theorem DRepF.look {f : Fld} {d : D} : ∀ {fs : List (Str × V)} {gs : List (Fld × D)}, DRepF K w H fs gs → gs.lookup f = some d → ∃ v, fs.lookup f.x = some v ∧ DRep K w H v d
  | _, _, .nil, e => by simp at e
  | _, _, .cons (f := g) h t, e => by
    rw [List.lookup_cons] at e
    by_cases q : f = g
    · subst q
      simp at e
      subst e
      exact ⟨_, by simp [List.lookup_cons], h⟩
    · rw [beq_eq_false_iff_ne.mpr q] at e
      obtain ⟨v, h1, h2⟩ := DRepF.look t e
      exact ⟨v, by rw [List.lookup_cons, Fld.bne q]; exact h1, h2⟩
def putD (f : Fld) (d : D) : List (Fld × D) → List (Fld × D)
  | [] => [(f, d)]
  | (g, x) :: r => if g = f then (g, d) :: r else (g, x) :: putD f d r
theorem DRepF.put {f : Fld} {v : V} {d : D} (r : DRep K w H v d) : ∀ {fs : List (Str × V)} {gs : List (Fld × D)}, DRepF K w H fs gs → DRepF K w H (putF f.x v fs) (putD f d gs)
  | _, _, .nil => .cons r .nil
  | _, _, .cons (f := g) h t => by
    by_cases q : g = f
    · subst q
      unfold putF putD
      rw [if_pos rfl, if_pos rfl]
      exact .cons r t
    · unfold putF putD
      rw [if_neg q, if_neg fun e => q (Fld.inj e)]
      exact .cons h (t.put r)
theorem DRepF.len : ∀ {fs : List (Str × V)} {gs : List (Fld × D)}, DRepF K w H fs gs → fs.length = gs.length
  | _, _, .nil => rfl
  | _, _, .cons _ t => congrArg (· + 1) t.len
/-- no field of it has a name that is none of its -/
theorem DRepF.no {f : Fld} : ∀ {fs : List (Str × V)} {gs : List (Fld × D)}, DRepF K w H fs gs → gs.lookup f = none → fs.lookup f.x = none
  | _, _, .nil, _ => rfl
  | _, _, .cons (f := g) h t, e => by
    rw [List.lookup_cons] at e
    by_cases q : f = g
    · subst q; simp at e
    · rw [beq_eq_false_iff_ne.mpr q] at e
      rw [List.lookup_cons, Fld.bne q]
      exact t.no e
end
end FR

set_option Elab.async false
set_option linter.all false
set_option maxRecDepth 100000
set_option maxHeartbeats 1000000
namespace FR
open PySem PySem.Spec PyProof.Rows L2

/-! ### outcomes -/
def R.bind {α β : Type} (r : R α) (k : α → Store → R β) : R β := match r with
  | .ok a S => k a S
  | .exc x S => .exc x S
  | .stuck => .stuck
@[simp] theorem R.bind_ok {α β : Type} (a : α) (S : Store) (k : α → Store → R β) : (R.ok a S).bind k = k a S := rfl
@[simp] theorem R.bind_exc {α β : Type} (x : Exc) (S : Store) (k : α → Store → R β) : (R.exc x S).bind k = .exc x S := rfl
@[simp] theorem R.bind_stuck {α β : Type} (k : α → Store → R β) : (R.stuck : R α).bind k = .stuck := rfl
inductive RS where
  | nx (ρ : Env) (S : Store) | ret (d : D) (S : Store) | bk (ρ : Env) (S : Store) | ct (ρ : Env) (S : Store) | exc (x : Exc) (ρ : Env) (S : Store) | stuck
abbrev FC := Env → Store → RS
def R.toS {α : Type} (r : R α) (ρ : Env) (k : α → Store → RS) : RS := match r with
  | .ok a S => k a S
  | .exc x S => .exc x ρ S
  | .stuck => .stuck
@[simp] theorem R.toS_ok {α : Type} (a : α) (S : Store) (ρ : Env) (k : α → Store → RS) : (R.ok a S).toS ρ k = k a S := rfl
@[simp] theorem R.toS_exc {α : Type} (x : Exc) (S : Store) (ρ : Env) (k : α → Store → RS) : (R.exc x S).toS ρ k = .exc x ρ S := rfl
@[simp] theorem R.toS_stuck {α : Type} (ρ : Env) (k : α → Store → RS) : (R.stuck : R α).toS ρ k = .stuck := rfl

def XRep (K : PySem.W.Frag) (w : Wd) (H : Hp) (c : Value) (e : Option Addr) : Exc → Prop
  | .mk cn fs => c = .ref (cn.a K) ∧ ((fs = [] ∧ e = none) ∨ ∃ d vs, e = some d ∧ H d = some (.xd vs) ∧ ¬ w.L d ∧ RepF K w.L H vs fs)
def oR {β : Type} (K : PySem.W.Frag) (W : WX) (σ : L2.St) (w : Wd) (H : Hp) (G : Wd → Hp → Store → β → Prop) : R β → Prop
  | .ok b S' => ∀ w' H', Step w H w' H' → SRep K w' H' S' → G w' H' S' b
  | .exc x S' => ∀ w' H' c e, Step w H w' H' → SRep K w' H' S' → XRep K w' H' c e x → W c e σ H'
  | .stuck => False
def oS (K : PySem.W.Frag) (W : WX) (w : Wd) (H : Hp) (D : Ends) : RS → Prop
  | .nx ρ S' => ∀ w' H' σ', Step w H w' H' → SRep K w' H' S' → Slots K w' H' σ' ρ → D.nx σ' H'
  | .ret d S' => ∀ w' H' v, Step w H w' H' → SRep K w' H' S' → DRep K w' H' v d → D.rt v H'
  | .bk ρ S' => ∀ w' H' σ', Step w H w' H' → SRep K w' H' S' → Slots K w' H' σ' ρ → D.bk σ' H'
  | .ct ρ S' => ∀ w' H' σ', Step w H w' H' → SRep K w' H' S' → Slots K w' H' σ' ρ → D.ct σ' H'
  | .exc x ρ S' => ∀ w' H' σ' c e, Step w H w' H' → SRep K w' H' S' → Slots K w' H' σ' ρ → XRep K w' H' c e x → W c e σ' H'
  | .stuck => False
section
variable {K : PySem.W.Frag} {W : WX} {σ : L2.St} {w w1 : Wd} {H H1 : Hp}
theorem oR_imp {β : Type} {G G' : Wd → Hp → Store → β → Prop} {r : R β} (h : oR K W σ w H G r) (hG : ∀ w' H' S' b, Step w H w' H' → SRep K w' H' S' → G w' H' S' b → G' w' H' S' b) : oR K W σ w H G' r := by
  cases r with
  | ok b S => exact fun w' H' st sr => hG _ _ _ _ st sr (h w' H' st sr)
  | exc x S => exact h
  | stuck => exact h
theorem oR_step {β : Type} {G : Wd → Hp → Store → β → Prop} {r : R β} (W0 : Wok w H) (s : Step w H w1 H1) (h : oR K W σ w H G r) : oR K W σ w1 H1 G r := by
  cases r with
  | ok b S => exact fun w' H' st sr => h w' H' (s.trans W0 st) sr
  | exc x S => exact fun w' H' c e st sr => h w' H' c e (s.trans W0 st) sr
  | stuck => exact h
theorem oR_bind {α β : Type} {G : Wd → Hp → Store → β → Prop} {r : R α} {k : α → Store → R β} (W0 : Wok w H) (h : oR K W σ w H G (r.bind k)) : oR K W σ w H (fun w1 H1 S1 a => oR K W σ w1 H1 G (k a S1)) r := by
  cases r with
  | ok b S => exact fun w' H' st sr => oR_step W0 st h
  | exc x S => exact h
  | stuck => exact h
theorem oS_step {D : Ends} {r : RS} (W0 : Wok w H) (s : Step w H w1 H1) (h : oS K W w H D r) : oS K W w1 H1 D r := by
  cases r with
  | nx ρ S => exact fun w' H' σ' st sr => h w' H' σ' (s.trans W0 st) sr
  | ret d S => exact fun w' H' σ' st sr => h w' H' σ' (s.trans W0 st) sr
  | bk ρ S => exact fun w' H' σ' st sr => h w' H' σ' (s.trans W0 st) sr
  | ct ρ S => exact fun w' H' σ' st sr => h w' H' σ' (s.trans W0 st) sr
  | exc x ρ S => exact fun w' H' σ' c e st sr => h w' H' σ' c e (s.trans W0 st) sr
  | stuck => exact h
theorem oS_toS {α : Type} {D : Ends} {r : R α} {ρ : Env} {k : α → Store → RS} (W0 : Wok w H) (sl : Slots K w H σ ρ) (h : oS K W w H D (r.toS ρ k)) : oR K W σ w H (fun w1 H1 S1 a => oS K W w1 H1 D (k a S1)) r := by
  cases r with
  | ok b S => exact fun w' H' st sr => oS_step W0 st h
  | exc x S => exact fun w' H' c e st sr xr => h w' H' σ c e st sr (sl.step W0 st) xr
  | stuck => exact h
end

/-! ### readings -/
section
variable (K : PySem.W.Frag) (W : WX)
def qE (Q : VK) : Wd → Hp → Store → D → Prop := fun w' H' _ d => ∀ v, DRep K w' H' v d → Q v H'
def qT (Q : Bool → Hp → Prop) : Wd → Hp → Store → Bool → Prop := fun _ H' _ b => Q b H'
def qA (Q : List V → Hp → Prop) : Wd → Hp → Store → List D → Prop := fun w' H' _ l => ∀ vs, DReps K w' H' vs l → Q vs H'
/-- a point: world, slots, store -/
structure At (w : Wd) (σ : L2.St) (H : Hp) (ρ : Env) (S : Store) : Prop where
  st : SRep K w H S
  sl : Slots K w H σ ρ
def tE (f : FE) : TE := fun σ H Q => ∃ w ρ S, At K w σ H ρ S ∧ oR K W σ w H (qE K Q) (f ρ S)
def tT (f : FT) : TT := fun σ H Q => ∃ w ρ S, At K w σ H ρ S ∧ oR K W σ w H (qT Q) (f ρ S)
def tA (f : FA) : TA := fun σ H Q => ∃ w ρ S, At K w σ H ρ S ∧ oR K W σ w H (qA K Q) (f ρ S)
def tS (f : FC) : TS := fun D σ H => ∃ w ρ S, At K w σ H ρ S ∧ oS K W w H D (f ρ S)
end
theorem At.ok {K : PySem.W.Frag} {w : Wd} {σ : L2.St} {H : Hp} {ρ : Env} {S : Store} (a : At K w σ H ρ S) : Wok w H := a.st.ok
theorem At.to {K : PySem.W.Frag} {w w' : Wd} {σ : L2.St} {H H' : Hp} {ρ : Env} {S S' : Store} (a : At K w σ H ρ S) (s : Step w H w' H') (sr : SRep K w' H' S') : At K w' σ H' ρ S' := ⟨sr, a.sl.step a.ok s⟩
abbrev SE (X : Cx) (W : WX) (e : Expr) (f : FE) : Prop := PE X e (tE X.K W f)
abbrev ST (X : Cx) (W : WX) (e : Expr) (f : FT) : Prop := PT X e (tT X.K W f)
abbrev SW (X : Cx) (W : WX) (e : Expr) (f : FT) : Prop := PW X e (tT X.K W f)
abbrev SA (X : Cx) (W : WX) (e : List Expr) (f : FA) : Prop := PA X e (tA X.K W f)
abbrev SS (X : Cx) (W : WX) (e : Stmt) (f : FC) : Prop := PS X e (tS X.K W f)
abbrev SSs (X : Cx) (W : WX) (e : List Stmt) (f : FC) : Prop := PSs X e (tS X.K W f)
section
variable {X : Cx} {W : WX} {e : Expr} {es : List Expr}
theorem _root_.L2.PE.imp {t t' : TE} (h : PE X e t) (hi : ∀ σ H Q, t' σ H Q → t σ H Q) : PE X e t' := ⟨fun pins s σ H Q I q => h.run pins s σ H Q I (hi _ _ _ q)⟩
theorem _root_.L2.PT.imp {t t' : TT} (h : PT X e t) (hi : ∀ σ H Q, t' σ H Q → t σ H Q) : PT X e t' := ⟨fun pins s σ H Q I q => h.run pins s σ H Q I (hi _ _ _ q)⟩
theorem _root_.L2.PW.imp {t t' : TT} (h : PW X e t) (hi : ∀ σ H Q, t' σ H Q → t σ H Q) : PW X e t' := ⟨fun wh pins s σ H Q I q => h.run wh pins s σ H Q I (hi _ _ _ q)⟩
theorem _root_.L2.PA.imp {t t' : TA} (h : PA X es t) (hi : ∀ σ H Q, t' σ H Q → t σ H Q) : PA X es t' := ⟨fun pos pins s σ H Q I q => h.run pos pins s σ H Q I (hi _ _ _ q)⟩
theorem _root_.L2.PS.imp {st : Stmt} {t t' : TS} (h : PS X st t) (hi : ∀ D σ H, t' D σ H → t D σ H) : PS X st t' := ⟨fun pins s σ H D I q => h.run pins s σ H D I (hi _ _ _ q)⟩
theorem _root_.L2.PSs.imp {st : List Stmt} {t t' : TS} (h : PSs X st t) (hi : ∀ D σ H, t' D σ H → t D σ H) : PSs X st t' := ⟨fun pins s σ H D I q => h.run pins s σ H D I (hi _ _ _ q)⟩

/-- tE, its wish widened -/
theorem tE_of {K : PySem.W.Frag} {f : FE} {σ : L2.St} {H : Hp} {Q : VK} {w : Wd} {ρ : Env} {S : Store} {G : Wd → Hp → Store → D → Prop} (a : At K w σ H ρ S) (h : oR K W σ w H G (f ρ S))
    (hG : ∀ w' H' S' d v, Step w H w' H' → At K w' σ H' ρ S' → G w' H' S' d → DRep K w' H' v d → Q v H') : tE K W f σ H Q :=
  ⟨w, ρ, S, a, oR_imp h fun w' H' S' d st sr g v r => hG w' H' S' d v st (a.to st sr) g r⟩
theorem tT_of {K : PySem.W.Frag} {f : FT} {σ : L2.St} {H : Hp} {Q : Bool → Hp → Prop} {w : Wd} {ρ : Env} {S : Store} {G : Wd → Hp → Store → Bool → Prop} (a : At K w σ H ρ S) (h : oR K W σ w H G (f ρ S))
    (hG : ∀ w' H' S' b, Step w H w' H' → At K w' σ H' ρ S' → G w' H' S' b → Q b H') : tT K W f σ H Q :=
  ⟨w, ρ, S, a, oR_imp h fun w' H' S' d st sr g => hG w' H' S' d st (a.to st sr) g⟩
theorem tA_of {K : PySem.W.Frag} {f : FA} {σ : L2.St} {H : Hp} {Q : List V → Hp → Prop} {w : Wd} {ρ : Env} {S : Store} {G : Wd → Hp → Store → List D → Prop} (a : At K w σ H ρ S) (h : oR K W σ w H G (f ρ S))
    (hG : ∀ w' H' S' d v, Step w H w' H' → At K w' σ H' ρ S' → G w' H' S' d → DReps K w' H' v d → Q v H') : tA K W f σ H Q :=
  ⟨w, ρ, S, a, oR_imp h fun w' H' S' d st sr g v r => hG w' H' S' d v st (a.to st sr) g r⟩
/-- a value is at hand -/
theorem oE_ok {K : PySem.W.Frag} {σ : L2.St} {H : Hp} {Q : VK} {w : Wd} {S : Store} {d : D} {v : V} (sr : SRep K w H S) (h : oR K W σ w H (qE K Q) (.ok d S)) (r : DRep K w H v d) : Q v H := h w H (Step.refl _ _ sr.ok) sr v r

/-! ### names, constants -/
def fVar (i : Nat) : FE := fun ρ S => match ρ[i]? with
  | some (some d) => .ok d S
  | _ => .stuck
def fC (p : P) : FE := fun _ S => .ok (.p p) S
theorem fVar_ok {i : Nat} {ρ : Env} {S : Store} {d : D} (h : ρ[i]? = some (some d)) : fVar i ρ S = .ok d S := by unfold fVar; rw [h]
theorem imp_var {K : PySem.W.Frag} (i : Nat) (σ : L2.St) (H : Hp) (Q : VK) (h : tE K W (fVar i) σ H Q) : tVar i σ H Q := by
  obtain ⟨w, ρ, S, a, h⟩ := h
  unfold fVar at h
  split at h
  · rename_i d e
    obtain ⟨v, hv, r⟩ := a.sl.get e
    exact ⟨v, hv, oE_ok a.st h r⟩
  · exact h.elim
theorem imp_c {K : PySem.W.Frag} {p : P} {v : V} (r : ∀ L H, Rep K L H v p) (σ : L2.St) (H : Hp) (Q : VK) (h : tE K W (fC p) σ H Q) : tC v σ H Q := by
  obtain ⟨w, ρ, S, a, h⟩ := h
  exact oE_ok a.st h (show DRep K w H v (.p p) from r _ _)
theorem se_var (i : Nat) {x : Str} {pos : Pos} (hN : X.N[i]? = some x := by rfl) (hv : Vis X.env.scope x := by first | exact Or.inl rfl | exact Or.inr (Or.inl rfl) | exact Or.inr (Or.inr rfl)) (hd : (x == ("__debug__" : Str)) = false := by decide)
    (hcd : (x == ("__classdict__" : Str)) = false := by decide) : SE X W (.Name x pos) (fVar i) := (pe_var hN hv hd hcd).imp (imp_var i)
theorem se_int {i : Int} {j pos} : SE X W (.Constant (.int i) j pos) (fC (.int i)) := pe_int.imp (imp_c fun _ _ => .int i)
theorem se_bl {i : Bool} {j pos} : SE X W (.Constant (.bool i) j pos) (fC (.bl i)) := pe_bl.imp (imp_c fun _ _ => .bl i)
theorem se_non {j pos} : SE X W (.Constant .none j pos) (fC .non) := pe_non.imp (imp_c fun _ _ => .non)
theorem se_str {x : Str} {j pos} : SE X W (.Constant (.str x) j pos) (fC (.str x)) := pe_str.imp (imp_c fun _ _ => .str x)
theorem se_gint {x : Str} {i : Int} {pos : Pos} (hm : ∃ t, X.mg x = some (.int i t)) (hg : Gl X x := by rfl) (hd : (x == ("__debug__" : Str)) = false := by decide) : SE X W (.Name x pos) (fC (.int i)) := by
  obtain ⟨t, hm⟩ := hm
  exact (pe_glob hg hm (v := .int i) ⟨t, rfl⟩ hd).imp (imp_c fun _ _ => .int i)

/-! ### arguments -/
def aNil : FA := fun _ S => .ok [] S
def aCons (f : FE) (g : FA) : FA := fun ρ S => (f ρ S).bind fun d S1 => (g ρ S1).bind fun l S2 => .ok (d :: l) S2
theorem sa_nil : SA X W [] aNil := pa_nil.imp fun σ H Q ⟨w, ρ, S, a, h⟩ => h w H (Step.refl _ _ a.ok) a.st [] .nil
theorem sa_cons {f : FE} {g : FA} (ha : SE X W e f) (hr : SA X W es g) (hs : starEach (e :: es) X.env = (false, eval e X.env) :: starEach es X.env := by rfl) : SA X W (e :: es) (aCons f g) :=
  (pa_cons ha hr hs).imp fun σ H Q ⟨w, ρ, S, a, h⟩ => tE_of a (oR_bind a.ok h) fun w1 H1 S1 d v st a1 h1 r => tA_of a1 (oR_bind a1.ok h1) fun w2 H2 S2 l vs st2 a2 h2 rs =>
    h2 w2 H2 (Step.refl _ _ a2.ok) a2.st (v :: vs) (.cons (r.step a1.ok st2) rs)

/-! ### tests -/
def truP : P → R Bool
  | .non => .ok false []
  | .bl b => .ok b []
  | .int i => .ok (i != 0) []
  | .lst l => .ok (!l.isEmpty) []
  | .tup l => .ok (!l.isEmpty) []
  | _ => .stuck
def fBool (f : FE) : FT := fun ρ S => (f ρ S).bind fun d S1 => match d with
  | .p (.bl b) => .ok b S1
  | _ => .stuck
theorem rep_bl {K : PySem.W.Frag} {w : Wd} {H : Hp} {v : V} {b : Bool} (r : DRep K w H v (.p (.bl b))) : v = .bl b := by
  cases r; rfl
theorem rep_int {K : PySem.W.Frag} {w : Wd} {H : Hp} {v : V} {b : Int} (r : DRep K w H v (.p (.int b))) : v = .int b := by
  cases r; rfl
theorem rep_str {K : PySem.W.Frag} {w : Wd} {H : Hp} {v : V} {b : Str} (r : DRep K w H v (.p (.str b))) : v = .str b := by
  cases r; rfl
theorem rep_non {K : PySem.W.Frag} {w : Wd} {H : Hp} {v : V} (r : DRep K w H v (.p .non)) : v = .non := by
  cases r; rfl
theorem st_val {f : FE} (h : SE X W e f) (he : ∀ whole, isTrue e X.env whole = (do let v ← whole; standAt e.pos; holding [v] (truthy v)) := by intro _; rfl) : ST X W e (fBool f) :=
  (pt_val h he).imp fun σ H Q ⟨w, ρ, S, a, h⟩ => tE_of a (oR_bind a.ok h) fun w1 H1 S1 d v st a1 h1 r => by
    revert r
    split at h1
    · intro r
      exact ⟨_, rep_bl r, h1 w1 H1 (Step.refl _ _ a1.ok) a1.st⟩
    · exact h1.elim
def fNotT (f : FT) : FT := fun ρ S => (f ρ S).bind fun b S1 => .ok (!b) S1
def fAndT (f g : FT) : FT := fun ρ S => (f ρ S).bind fun b S1 => if b = true then g ρ S1 else .ok false S1
def fOrT (f g : FT) : FT := fun ρ S => (f ρ S).bind fun b S1 => if b = true then .ok true S1 else g ρ S1
theorem st_not {f : FT} {pos : Pos} (h : ST X W e f) : ST X W (.UnaryOp .Not e pos) (fNotT f) :=
  (pt_not h).imp fun σ H Q ⟨w, ρ, S, a, h⟩ => tT_of a (oR_bind a.ok h) fun w1 H1 S1 b st a1 h1 => h1 w1 H1 (Step.refl _ _ a1.ok) a1.st
theorem sw_and1 {f : FT} {pos : Pos} (h : ST X W e f) : SW X W (.BoolOp .And [e] pos) f := pw_and1 h
theorem sw_or1 {f : FT} {pos : Pos} (h : ST X W e f) : SW X W (.BoolOp .Or [e] pos) f := pw_or1 h
theorem sw_and {a b : Expr} {rest : List Expr} {f g : FT} {pos : Pos} (ha : ST X W a f) (hb : SW X W (.BoolOp .And (b :: rest) pos) g) : SW X W (.BoolOp .And (a :: b :: rest) pos) (fAndT f g) :=
  (pw_and ha hb).imp fun σ H Q ⟨w, ρ, S, a, h⟩ => tT_of a (oR_bind a.ok h) fun w1 H1 S1 b st a1 h1 => by
    cases b with
    | true => exact (if_pos rfl).mpr ⟨w1, ρ, S1, a1, by rw [if_pos rfl] at h1; exact h1⟩
    | false => exact (if_neg Bool.false_ne_true).mpr (by rw [if_neg Bool.false_ne_true] at h1; exact h1 w1 H1 (Step.refl _ _ a1.ok) a1.st)
theorem sw_or {a b : Expr} {rest : List Expr} {f g : FT} {pos : Pos} (ha : ST X W a f) (hb : SW X W (.BoolOp .Or (b :: rest) pos) g) : SW X W (.BoolOp .Or (a :: b :: rest) pos) (fOrT f g) :=
  (pw_or ha hb).imp fun σ H Q ⟨w, ρ, S, a, h⟩ => tT_of a (oR_bind a.ok h) fun w1 H1 S1 b st a1 h1 => by
    cases b with
    | true => exact (if_pos rfl).mpr (by rw [if_pos rfl] at h1; exact h1 w1 H1 (Step.refl _ _ a1.ok) a1.st)
    | false => exact (if_neg Bool.false_ne_true).mpr ⟨w1, ρ, S1, a1, by rw [if_neg Bool.false_ne_true] at h1; exact h1⟩
theorem SW.st {f : FT} (h : SW X W e f) : ST X W e f := PW.pt h
/-- .. as values -/
def fAndV (f g : FE) : FE := fun ρ S => (f ρ S).bind fun d S1 => match d with
  | .p (.bl true) => g ρ S1
  | .p (.bl false) => .ok (.p (.bl false)) S1
  | _ => .stuck
def fOrV (f g : FE) : FE := fun ρ S => (f ρ S).bind fun d S1 => match d with
  | .p (.bl true) => .ok (.p (.bl true)) S1
  | .p (.bl false) => g ρ S1
  | _ => .stuck
def fNotV (f : FE) : FE := fun ρ S => (f ρ S).bind fun d S1 => match d with
  | .p (.bl b) => .ok (.p (.bl (!b))) S1
  | _ => .stuck
theorem se_one {op} {f : FE} {pos : Pos} (h : SE X W e f) : SE X W (.BoolOp op [e] pos) f := pe_one h
theorem se_and {a b : Expr} {rest : List Expr} {f g : FE} {pos : Pos} (ha : SE X W a f) (hb : SE X W (.BoolOp .And (b :: rest) pos) g) : SE X W (.BoolOp .And (a :: b :: rest) pos) (fAndV f g) :=
  (pe_and ha hb).imp fun σ H Q ⟨w, ρ, S, a, h⟩ => tE_of a (oR_bind a.ok h) fun w1 H1 S1 d v st a1 h1 r => by
    revert r
    split at h1
    · intro r
      exact ⟨true, rep_bl r, (if_pos rfl).mpr ⟨w1, ρ, S1, a1, h1⟩⟩
    · intro r
      exact ⟨false, rep_bl r, (if_neg Bool.false_ne_true).mpr (oE_ok a1.st h1 (rep_bl r ▸ r))⟩
    · exact h1.elim
theorem se_or {a b : Expr} {rest : List Expr} {f g : FE} {pos : Pos} (ha : SE X W a f) (hb : SE X W (.BoolOp .Or (b :: rest) pos) g) : SE X W (.BoolOp .Or (a :: b :: rest) pos) (fOrV f g) :=
  (pe_or ha hb).imp fun σ H Q ⟨w, ρ, S, a, h⟩ => tE_of a (oR_bind a.ok h) fun w1 H1 S1 d v st a1 h1 r => by
    revert r
    split at h1
    · intro r
      exact ⟨true, rep_bl r, (if_pos rfl).mpr (oE_ok a1.st h1 (rep_bl r ▸ r))⟩
    · intro r
      exact ⟨false, rep_bl r, (if_neg Bool.false_ne_true).mpr ⟨w1, ρ, S1, a1, h1⟩⟩
    · exact h1.elim
theorem se_not {f : FE} {pos : Pos} (h : SE X W e f) : SE X W (.UnaryOp .Not e pos) (fNotV f) :=
  (pe_not h).imp fun σ H Q ⟨w, ρ, S, a, h⟩ => tE_of a (oR_bind a.ok h) fun w1 H1 S1 d v st a1 h1 r => by
    revert r
    split at h1
    · intro r
      exact ⟨_, rep_bl r, oE_ok a1.st h1 (.bl _)⟩
    · exact h1.elim
def fIfE (c : FT) (f g : FE) : FE := fun ρ S => (c ρ S).bind fun b S1 => if b = true then f ρ S1 else g ρ S1
theorem se_if {c a b : Expr} {t : FT} {f g : FE} {pos : Pos} (hc : ST X W c t) (ha : SE X W a f) (hb : SE X W b g) : SE X W (.IfExp c a b pos) (fIfE t f g) :=
  (pe_ifExp hc ha hb).imp fun σ H Q ⟨w, ρ, S, a, h⟩ => tT_of a (oR_bind a.ok h) fun w1 H1 S1 b st a1 h1 => by
    cases b with
    | true => exact (if_pos rfl).mpr ⟨w1, ρ, S1, a1, by rw [if_pos rfl] at h1; exact h1⟩
    | false => exact (if_neg Bool.false_ne_true).mpr ⟨w1, ρ, S1, a1, by rw [if_neg Bool.false_ne_true] at h1; exact h1⟩

/-! ### operators by values -/
/-- f on two values is told by g -/
def OpF (X : Cx) (W : WX) (f : Value → Value → Sem Value) (g : D → D → Store → R D) : Prop :=
  ∀ (pins : List (Addr × Obj)) (s : Shared) (σ : L2.St) (H : Hp) (w : Wd) (ρ : Env) (S : Store) (x y : V) (dx dy : D) (v u : Value) (Q : VK), Inv X pins σ H s → At X.K w σ H ρ S → DRep X.K w H x dx → DRep X.K w H y dy → RelV x v → RelV y u →
    oR X.K W σ w H (qE X.K Q) (g dx dy S) → wpAny (model X.prog X.w) X.A (f v u) (EP X pins σ Q) X.xe s
def UnF (X : Cx) (W : WX) (f : Value → Sem Value) (g : D → Store → R D) : Prop :=
  ∀ (pins : List (Addr × Obj)) (s : Shared) (σ : L2.St) (H : Hp) (w : Wd) (ρ : Env) (S : Store) (x : V) (dx : D) (v : Value) (Q : VK), Inv X pins σ H s → At X.K w σ H ρ S → DRep X.K w H x dx → RelV x v →
    oR X.K W σ w H (qE X.K Q) (g dx S) → wpAny (model X.prog X.w) X.A (f v) (EP X pins σ Q) X.xe s
/-- a call of a known value with values -/
def CaF (X : Cx) (W : WX) (f : Value) (g : List D → Store → R D) : Prop :=
  ∀ (pins : List (Addr × Obj)) (s : Shared) (σ : L2.St) (H : Hp) (w : Wd) (ρ : Env) (S : Store) (xs : List V) (ds : List D) (us : List Value) (Q : VK), Inv X pins σ H s → At X.K w σ H ρ S → DReps X.K w H xs ds → Vals xs us →
    oR X.K W σ w H (qE X.K Q) (g ds S) → wpAny (model X.prog X.w) X.A (call f us) (EP X pins σ Q) X.xe s
def c1 (g : D → Store → R D) (f : FE) : FE := fun ρ S => (f ρ S).bind fun x S1 => g x S1
def c2 (g : D → D → Store → R D) (fa fb : FE) : FE := fun ρ S => (fa ρ S).bind fun x S1 => (fb ρ S1).bind fun y S2 => g x y S2
def cA (g : List D → Store → R D) (f : FA) : FE := fun ρ S => (f ρ S).bind fun x S1 => g x S1
/-- from an expression on: what it hands on -/
theorem run_then {f : FE} {k : D → Store → R D} {pins : List (Addr × Obj)} {s : Shared} {σ : L2.St} {H : Hp} {Q : VK} {w : Wd} {ρ : Env} {S : Store} (he : SE X W e f) (I : Inv X pins σ H s) (a : At X.K w σ H ρ S) (h : oR X.K W σ w H (qE X.K Q) ((f ρ S).bind k)) :
    wpAny (model X.prog X.w) X.A (eval e X.env) (fun v s1 => ∃ x H1 w1 S1 d, Inv X pins σ H1 s1 ∧ RelV x v ∧ Step w H w1 H1 ∧ At X.K w1 σ H1 ρ S1 ∧ DRep X.K w1 H1 x d ∧ oR X.K W σ w1 H1 (qE X.K Q) (k d S1)) X.xe s := by
  refine thn (he.run pins s σ H (fun v H1 => ∃ w1 S1 d, Step w H w1 H1 ∧ At X.K w1 σ H1 ρ S1 ∧ DRep X.K w1 H1 v d ∧ oR X.K W σ w1 H1 (qE X.K Q) (k d S1)) I ?_) fun v s1 ⟨x, H1, I1, r1, w1, S1, d, st, a1, dr, q⟩ => ⟨x, H1, w1, S1, d, I1, r1, st, a1, dr, q⟩
  exact tE_of a (oR_bind a.ok h) fun w1 H1 S1 d v st a1 h1 r => ⟨w1, S1, d, st, a1, r, h1⟩
theorem se_bin {op : Operator} {g : D → D → Store → R D} {a b : Expr} {fa fb : FE} {pos : Pos} (ho : OpF X W (binaryOp op) g) (ha : SE X W a fa) (hb : SE X W b fb) : SE X W (.BinOp a op b pos) (c2 g fa fb) := by
  refine ⟨fun pins s σ H Q I ⟨w, ρ, S, at0, h⟩ => ?_⟩
  refine wpAny_BinOp (thn (run_then ha I at0 h) fun v s1 ⟨x, H1, w1, S1, d, I1, rx, st1, a1, dr1, h1⟩ => ?_)
  refine thn (run_then hb I1 a1 h1) fun u s2 ⟨y, H2, w2, S2, d2, I2, ry, st2, a2, dr2, h2⟩ => ?_
  exact ho pins s2 σ H2 w2 ρ S2 x y d d2 v u Q I2 a2 (dr1.step a1.ok st2) dr2 rx ry h2
theorem se_cmp {op : CmpOp} {g : D → D → Store → R D} {a b : Expr} {fa fb : FE} {pos : Pos} (ho : OpF X W (compareOp op) g) (ha : SE X W a fa) (hb : SE X W b fb) (hm : behindInMarks op b = false) : SE X W (.Compare a [op] [b] pos) (c2 g fa fb) := by
  refine ⟨fun pins s σ H Q I ⟨w, ρ, S, at0, h⟩ => ?_⟩
  refine wpAny_Compare1 (thn (run_then ha I at0 h) fun v s1 ⟨x, H1, w1, S1, d, I1, rx, st1, a1, dr1, h1⟩ => ?_) hm
  refine thn (run_then hb I1 a1 h1) fun u s2 ⟨y, H2, w2, S2, d2, I2, ry, st2, a2, dr2, h2⟩ => ?_
  exact ho pins s2 σ H2 w2 ρ S2 x y d d2 v u Q I2 a2 (dr1.step a1.ok st2) dr2 rx ry h2
theorem se_un {op : UnaryOp} {g : D → Store → R D} {fa : FE} {pos : Pos} (ho : UnF X W (unaryOp op) g) (ha : SE X W e fa) : SE X W (.UnaryOp op e pos) (c1 g fa) := by
  refine ⟨fun pins s σ H Q I ⟨w, ρ, S, at0, h⟩ => ?_⟩
  exact UnaryOp_ (thn (run_then ha I at0 h) fun v s1 ⟨x, H1, w1, S1, d, I1, rx, st1, a1, dr1, h1⟩ => ho pins s1 σ H1 w1 ρ S1 x d v Q I1 a1 dr1 rx h1)
/-- a comparison as a test: its value is a bool -/
theorem st_cmp {op : CmpOp} {g : D → D → Store → R D} {a b : Expr} {fa fb : FE} {pos : Pos} (ho : OpF X W (compareOp op) g) (ha : SE X W a fa) (hb : SE X W b fb) (hm : behindInMarks op b = false) : ST X W (.Compare a [op] [b] pos) (fBool (c2 g fa fb)) := by
  refine ⟨fun pins s σ H Q I ⟨w, ρ, S, at0, h⟩ => ?_⟩
  have h' : oR X.K W σ w H (qE X.K fun v H' => ∃ b, v = .bl b ∧ Q b H') ((c2 g fa fb) ρ S) := by
    refine oR_imp (oR_bind at0.ok h) fun w' H' S' d st sr g' v r => ?_
    revert r
    split at g'
    · intro r
      exact ⟨_, rep_bl r, g' w' H' (Step.refl _ _ sr.ok) sr⟩
    · exact g'.elim
  refine wpAny_isTrue_Compare1 (thn (run_then ha I at0 h') fun v s1 ⟨x, H1, w1, S1, d, I1, rx, st1, a1, dr1, h1⟩ => ?_) hm
  refine thn (run_then hb I1 a1 h1) fun u s2 ⟨y, H2, w2, S2, d2, I2, ry, st2, a2, dr2, h2⟩ => ?_
  refine thn (ho pins s2 σ H2 w2 ρ S2 x y d d2 v u _ I2 a2 (dr1.step a1.ok st2) dr2 rx ry h2) fun c s3 ⟨z, H3, I3, r3, k, e, q3⟩ => ?_
  subst e
  cases r3
  exact wpAny_truthy_bool ⟨H3, I3, q3⟩
/-- the first rule, or the second one where it says nothing -/
def gOr (g g' : D → D → Store → R D) : D → D → Store → R D := fun x y S => match g x y S with
  | .stuck => g' x y S
  | r => r
theorem OpF.or {f : Value → Value → Sem Value} {g g' : D → D → Store → R D} (h : OpF X W f g) (h' : OpF X W f g') : OpF X W f (gOr g g') := by
  intro pins s σ H w ρ S x y dx dy v u Q I a r1 r2 rx ry q
  unfold gOr at q
  split at q
  · exact h' pins s σ H w ρ S x y dx dy v u Q I a r1 r2 rx ry q
  · exact h pins s σ H w ρ S x y dx dy v u Q I a r1 r2 rx ry q
/-! ### ints -/
def gII (f : Int → Int → Option P) : D → D → Store → R D := fun x y S => match x, y with
  | .p (.int i), .p (.int j) => match f i j with
    | some q => .ok (.p q) S
    | none => .stuck
  | _, _ => .stuck
theorem opII {f : Value → Value → Sem Value} {C : Int → Int → Prop} {g : Int → Int → V} {h : Int → Int → Option P} (ho : OpR X f (rI C g)) (hC : ∀ i j q, h i j = some q → C i j ∧ ∀ L H, Rep X.K L H (g i j) q) : OpF X W f (gII h) := by
  intro pins s σ H w ρ S x y dx dy v u Q I a r1 r2 rx ry q
  unfold gII at q
  split at q
  · rename_i i j
    obtain rfl := rep_int r1
    obtain rfl := rep_int r2
    split at q
    · rename_i p e
      obtain ⟨hc, hr⟩ := hC i j p e
      exact ho pins s σ H _ _ v u Q I rx ry ⟨i, j, rfl, rfl, hc, oE_ok a.st q (hr _ _)⟩
    · exact q.elim
  · exact q.elim
theorem opII0 {f : Value → Value → Sem Value} {g : Int → Int → V} {h : Int → Int → P} (ho : OpR X f (rI0 g)) (hr : ∀ i j L H, Rep X.K L H (g i j) (h i j)) : OpF X W f (gII fun i j => some (h i j)) := by
  intro pins s σ H w ρ S x y dx dy v u Q I a r1 r2 rx ry q
  unfold gII at q
  split at q
  · rename_i i j
    obtain rfl := rep_int r1
    obtain rfl := rep_int r2
    exact ho pins s σ H _ _ v u Q I rx ry ⟨i, j, rfl, rfl, oE_ok a.st q (hr i j _ _)⟩
  · exact q.elim
end
end FR

set_option Elab.async false
set_option linter.all false
set_option maxRecDepth 100000
set_option maxHeartbeats 1000000
namespace FR
open PySem PySem.Spec PyProof.Rows L2

/-! ### worlds that change -/
section
variable {K : PySem.W.Frag} {w : Wd} {H : Hp} {S : Store}
theorem CRep.step {w' : Wd} {H' : Hp} (W : Wok w H) (s : Step w H w' H') {n : Nat} {c : Cell} (hα : ∀ a, w.α n = some a → w'.α n = some a) (hH : ∀ a, w.α n = some a → H' a = H a) (h : CRep K w H n c) : CRep K w' H' n c := by
  cases c with
  | dead => trivial
  | lst l =>
    obtain ⟨a, vs, h1, h2, h3⟩ := h
    exact ⟨a, vs, hα a h1, (hH a h1).trans h2, h3.step W s⟩
  | ins c gs =>
    obtain ⟨a, dx, fs, h1, h2, h3⟩ := h
    exact ⟨a, dx, fs, hα a h1, (hH a h1).trans h2, h3.step W s⟩
  | dK l =>
    obtain ⟨a, kvs, h1, h2, h4, h3⟩ := h
    exact ⟨a, kvs, hα a h1, (hH a h1).trans h2, h4, h3.step W s⟩
/-- a new object that never changes -/
theorem lay_pure {p : Addr} {o : HO} (sr : SRep K w H S) (hp : H p = none) : Step w H w (upd H p o) ∧ SRep K w (upd H p o) S := by
  have st : Step w H w (upd H p o) := {
    n := Nat.le_refl _
    old := fun _ _ _ e => e
    new := fun n a hn e => absurd (sr.ok.lt n a e) (Nat.not_lt.mpr hn)
    kept := fun a u e _ => by rw [upd_ne (ne_of_none e hp)]; exact e
    there := fun a e => by
      by_cases q : a = p
      · subst q; exact absurd hp e
      · rw [upd_ne q]; exact e
    l1 := fun _ e => .inl e
    l2 := fun _ e => .inl e
    tups := fun a u e => by rw [upd_ne (ne_of_none e hp)]; exact e
    frzs := fun a u x e => by rw [upd_ne (ne_of_none e hp)]; exact e }
  have nL : ∀ a, w.L a → a ≠ p := fun a e q => by
    have := mut_some (sr.ok.mu a e)
    rw [q] at this; exact this hp
  refine ⟨st, ⟨⟨sr.ok.lt, sr.ok.live, fun a e => by rw [upd_ne (nL a e)]; exact sr.ok.mu a e, sr.ok.inj⟩, sr.len, fun n c e => ?_⟩⟩
  exact (sr.cell n c e).step sr.ok st (fun _ e => e) fun a e => upd_ne (nL a (sr.ok.live n a e))
/-- a new cell -/
def Wd.add (w : Wd) (p : Addr) : Wd := ⟨fun n => if n = w.N then some p else w.α n, fun a => a = p ∨ w.L a, w.N + 1⟩
theorem lay_cell {p : Addr} {o : HO} {c : Cell} (sr : SRep K w H S) (hp : H p = none) (hm : Mut (some o)) (hc : CRep K (w.add p) (upd H p o) w.N c) : Step w H (w.add p) (upd H p o) ∧ SRep K (w.add p) (upd H p o) (S ++ [c]) := by
  have nL : ∀ a, w.L a → a ≠ p := fun a e q => by
    have := mut_some (sr.ok.mu a e)
    rw [q] at this; exact this hp
  have αo : ∀ n a, n < w.N → ((w.add p).α n = some a ↔ w.α n = some a) := fun n a hn => by
    show (if n = w.N then some p else w.α n) = some a ↔ _
    rw [if_neg (Nat.ne_of_lt hn)]
  have st : Step w H (w.add p) (upd H p o) := {
    n := Nat.le_succ _
    old := fun n a hn e => (αo n a hn).mp e
    new := fun n a hn e => by
      have e' : (if n = w.N then some p else w.α n) = some a := e
      by_cases q : n = w.N
      · rw [if_pos q] at e'; cases e'; exact hp
      · rw [if_neg q] at e'
        exact absurd (sr.ok.lt n a e') (Nat.not_lt.mpr hn)
    kept := fun a u e _ => by rw [upd_ne (ne_of_none e hp)]; exact e
    there := fun a e => by
      by_cases q : a = p
      · subst q; exact absurd hp e
      · rw [upd_ne q]; exact e
    l1 := fun a e => by
      rcases e with e | e
      · subst e; exact .inr hp
      · exact .inl e
    l2 := fun _ e => .inl (.inr e)
    tups := fun a u e => by rw [upd_ne (ne_of_none e hp)]; exact e
    frzs := fun a u x e => by rw [upd_ne (ne_of_none e hp)]; exact e }
  refine ⟨st, ⟨⟨fun n a e => ?_, fun n a e => ?_, fun a e => ?_, fun n m a e1 e2 => ?_⟩, ?_, fun n c' e => ?_⟩⟩
  · have e' : (if n = w.N then some p else w.α n) = some a := e
    show n < w.N + 1
    by_cases q : n = w.N
    · omega
    · rw [if_neg q] at e'
      have := sr.ok.lt n a e'; omega
  · have e' : (if n = w.N then some p else w.α n) = some a := e
    by_cases q : n = w.N
    · rw [if_pos q] at e'; cases e'; exact .inl rfl
    · rw [if_neg q] at e'
      exact .inr (sr.ok.live n a e')
  · rcases e with e | e
    · subst e; rw [upd_same]; exact hm
    · rw [upd_ne (nL a e)]; exact sr.ok.mu a e
  · have e1' : (if n = w.N then some p else w.α n) = some a := e1
    have e2' : (if m = w.N then some p else w.α m) = some a := e2
    by_cases q : n = w.N
    · by_cases q2 : m = w.N
      · omega
      · rw [if_pos q] at e1'; rw [if_neg q2] at e2'
        cases e1'
        exact absurd rfl (nL _ (sr.ok.live m _ e2'))
    · by_cases q2 : m = w.N
      · rw [if_neg q] at e1'; rw [if_pos q2] at e2'
        cases e2'
        exact absurd rfl (nL _ (sr.ok.live n _ e1'))
      · rw [if_neg q] at e1'; rw [if_neg q2] at e2'
        exact sr.ok.inj n m a e1' e2'
  · rw [List.length_append, sr.len]; rfl
  · by_cases q : n < S.length
    · rw [List.getElem?_append_left q] at e
      have hn : n < w.N := by rw [← sr.len]; exact q
      exact (sr.cell n c' e).step sr.ok st (fun a e => (αo n a hn).mpr e) fun a e => upd_ne (nL a (sr.ok.live n a e))
    · rw [List.getElem?_append_right (Nat.le_of_not_lt q)] at e
      have q3 : n - S.length = 0 := by
        cases h : n - S.length with
        | zero => rfl
        | succ k => rw [h] at e; simp at e
      rw [q3] at e
      simp at e
      subst e
      have hn : n = w.N := by have := sr.len; omega
      rw [hn]; exact hc
/-- a cell written -/
theorem write_cell {n : Nat} {a : Addr} {o : HO} {c : Cell} (sr : SRep K w H S) (hα : w.α n = some a) (hm : Mut (some o)) (hc : CRep K w (upd H a o) n c) : Step w H w (upd H a o) ∧ SRep K w (upd H a o) (S.set n c) := by
  have hma := sr.ok.mu a (sr.ok.live n a hα)
  have st : Step w H w (upd H a o) := {
    n := Nat.le_refl _
    old := fun _ _ _ e => e
    new := fun n a hn e => absurd (sr.ok.lt n a e) (Nat.not_lt.mpr hn)
    kept := fun b u e hb => by rw [upd_ne fun q => hb n (by rw [q]; exact hα)]; exact e
    there := fun b e => by
      by_cases q : b = a
      · subst q; rw [upd_same]; simp
      · rw [upd_ne q]; exact e
    l1 := fun _ e => .inl e
    l2 := fun _ e => .inl e
    tups := fun b u e => by rw [upd_ne fun q => by rw [q] at e; rw [e] at hma; exact hma]; exact e
    frzs := fun b u x e => by rw [upd_ne fun q => by rw [q] at e; rw [e] at hma; exact hma]; exact e }
  refine ⟨st, ⟨⟨sr.ok.lt, sr.ok.live, fun b e => ?_, sr.ok.inj⟩, by rw [List.length_set]; exact sr.len, fun m c' e => ?_⟩⟩
  · by_cases q : b = a
    · subst q; rw [upd_same]; exact hm
    · rw [upd_ne q]; exact sr.ok.mu b e
  · by_cases q : m = n
    · subst q
      by_cases hl : m < S.length
      · rw [List.getElem?_set_self hl] at e
        cases e; exact hc
      · rw [List.getElem?_eq_none (by rw [List.length_set]; omega)] at e; cases e
    · rw [List.getElem?_set_ne (Ne.symm q)] at e
      exact (sr.cell m c' e).step sr.ok st (fun _ e => e) fun b eb => upd_ne fun z => q (sr.ok.inj m n b eb (by rw [z]; exact hα))
/-- pure contents -/
def pureL : List D → Option (List P)
  | [] => some []
  | .p q :: r => (pureL r).map (q :: ·)
  | .r _ :: _ => none
def pureF : List (Fld × D) → Option (List (Fld × P))
  | [] => some []
  | (f, .p q) :: r => (pureF r).map ((f, q) :: ·)
  | (_, .r _) :: _ => none
@[simp] theorem pureL_map (l : List P) : pureL (l.map .p) = some l := by
  induction l with
  | nil => rfl
  | cons a r ih => simp [pureL, ih]
theorem pureL_eq : ∀ {l : List D} {k : List P}, pureL l = some k → l = k.map .p
  | [], k, h => by simp [pureL] at h; subst h; rfl
  | .p q :: r, k, h => by
    simp [pureL] at h
    obtain ⟨k', h1, h2⟩ := h
    subst h2
    rw [pureL_eq h1]; rfl
  | .r _ :: _, k, h => by simp [pureL] at h
theorem pureF_eq : ∀ {l : List (Fld × D)} {k : List (Fld × P)}, pureF l = some k → l = k.map fun x => (x.1, .p x.2)
  | [], k, h => by simp [pureF] at h; subst h; rfl
  | (f, .p q) :: r, k, h => by
    simp [pureF] at h
    obtain ⟨k', h1, h2⟩ := h
    subst h2
    rw [pureF_eq h1]; rfl
  | (_, .r _) :: _, k, h => by simp [pureF] at h
theorem DReps.pure : ∀ {vs : List V} {k : List P}, DReps K w H vs (k.map .p) → Reps K w.L H vs k
  | _, [], .nil => .nil
  | _, _ :: _, .cons h t => .cons h (DReps.pure t)
theorem DRepF.pure : ∀ {fs : List (Str × V)} {k : List (Fld × P)}, DRepF K w H fs (k.map fun x => (x.1, .p x.2)) → RepF K w.L H fs k
  | _, [], .nil => .nil
  | _, _ :: _, .cons h t => .cons h (DRepF.pure t)
theorem RepF.ds : ∀ {fs : List (Str × V)} {k : List (Fld × P)}, RepF K w.L H fs k → DRepF K w H fs (k.map fun x => (x.1, .p x.2))
  | _, _, .nil => .nil
  | _, _, .cons h t => .cons h (RepF.ds t)
/-- a cell is put out of use -/
def Wd.del (w : Wd) (n : Nat) (a : Addr) : Wd := ⟨fun m => if m = n then none else w.α m, fun b => b ≠ a ∧ w.L b, w.N⟩
theorem freeze_cell {n : Nat} {a : Addr} (sr : SRep K w H S) (hα : w.α n = some a) : Step w H (w.del n a) H ∧ SRep K (w.del n a) H (S.set n .dead) := by
  have αd : ∀ m b, (w.del n a).α m = some b → m ≠ n ∧ w.α m = some b := fun m b e => by
    have e' : (if m = n then none else w.α m) = some b := e
    by_cases q : m = n
    · rw [if_pos q] at e'; cases e'
    · rw [if_neg q] at e'; exact ⟨q, e'⟩
  have st : Step w H (w.del n a) H := {
    n := Nat.le_refl _
    old := fun m b _ e => (αd m b e).2
    new := fun m b hn e => absurd (sr.ok.lt m b (αd m b e).2) (Nat.not_lt.mpr hn)
    kept := fun _ _ e _ => e
    there := fun _ e => e
    l1 := fun _ e => .inl e.2
    l2 := fun b e => by
      by_cases q : b = a
      · subst q; exact .inr ⟨n, hα⟩
      · exact .inl ⟨q, e⟩
    tups := fun _ _ e => e
    frzs := fun _ _ _ e => e }
  refine ⟨st, ⟨⟨fun m b e => sr.ok.lt m b (αd m b e).2, fun m b e => ⟨fun z => (αd m b e).1 (sr.ok.inj m n b (αd m b e).2 (by rw [z]; exact hα)), sr.ok.live m b (αd m b e).2⟩, fun b e => sr.ok.mu b e.2, fun m k b e1 e2 => sr.ok.inj m k b (αd m b e1).2 (αd k b e2).2⟩,
    by rw [List.length_set]; exact sr.len, fun m c e => ?_⟩⟩
  by_cases q : m = n
  · subst q
    by_cases hl : m < S.length
    · rw [List.getElem?_set_self hl] at e
      cases e; trivial
    · rw [List.getElem?_eq_none (by rw [List.length_set]; omega)] at e; cases e
  · rw [List.getElem?_set_ne (Ne.symm q)] at e
    refine (sr.cell m c e).step sr.ok st (fun b eb => ?_) fun _ _ => rfl
    show (if m = n then none else w.α m) = some b
    rw [if_neg q]; exact eb
end

/-! ### statements -/
section
variable {X : Cx} {W : WX} {e : Expr} {es : List Expr} {pos : Pos}
theorem tS_tE {K : PySem.W.Frag} {f : FE} {k : D → Store → RS} {D0 : Ends} {σ : L2.St} {H : Hp} {Q : VK} {w : Wd} {ρ : Env} {S : Store} (a : At K w σ H ρ S) (h : oS K W w H D0 ((f ρ S).toS ρ k))
    (hq : ∀ w' H' S' d v, Step w H w' H' → At K w' σ H' ρ S' → DRep K w' H' v d → oS K W w' H' D0 (k d S') → Q v H') : tE K W f σ H Q :=
  tE_of a (oS_toS a.ok a.sl h) fun w1 H1 S1 d v st a1 h1 r => hq w1 H1 S1 d v st a1 r h1
theorem tS_tT {K : PySem.W.Frag} {f : FT} {k : Bool → Store → RS} {D0 : Ends} {σ : L2.St} {H : Hp} {Q : Bool → Hp → Prop} {w : Wd} {ρ : Env} {S : Store} (a : At K w σ H ρ S) (h : oS K W w H D0 ((f ρ S).toS ρ k))
    (hq : ∀ w' H' S' b, Step w H w' H' → At K w' σ H' ρ S' → oS K W w' H' D0 (k b S') → Q b H') : tT K W f σ H Q :=
  tT_of a (oS_toS a.ok a.sl h) fun w1 H1 S1 d st a1 h1 => hq w1 H1 S1 d st a1 h1
theorem tS_tA {K : PySem.W.Frag} {f : FA} {k : List D → Store → RS} {D0 : Ends} {σ : L2.St} {H : Hp} {Q : List V → Hp → Prop} {w : Wd} {ρ : Env} {S : Store} (a : At K w σ H ρ S) (h : oS K W w H D0 ((f ρ S).toS ρ k))
    (hq : ∀ w' H' S' d v, Step w H w' H' → At K w' σ H' ρ S' → DReps K w' H' v d → oS K W w' H' D0 (k d S') → Q v H') : tA K W f σ H Q :=
  tA_of a (oS_toS a.ok a.sl h) fun w1 H1 S1 d v st a1 h1 r => hq w1 H1 S1 d v st a1 r h1
theorem oS_nx {K : PySem.W.Frag} {D0 : Ends} {σ : L2.St} {H : Hp} {w : Wd} {ρ : Env} {S : Store} (a : At K w σ H ρ S) (h : oS K W w H D0 (.nx ρ S)) : D0.nx σ H := h w H σ (Step.refl _ _ a.ok) a.st a.sl

def sNext : FC := fun ρ S => .nx ρ S
def sSeq (f g : FC) : FC := fun ρ S => match f ρ S with
  | .nx ρ' S' => g ρ' S'
  | r => r
theorem imp_next {K : PySem.W.Frag} (D0 : Ends) (σ : L2.St) (H : Hp) (h : tS K W sNext D0 σ H) : tNext D0 σ H := by
  obtain ⟨w, ρ, S, a, h⟩ := h
  exact oS_nx a h
theorem oS_seq {K : PySem.W.Frag} {D0 : Ends} {H : Hp} {w : Wd} {ρ : Env} {S : Store} {f g : FC} (a : Wok w H) (h : oS K W w H D0 (sSeq f g ρ S)) : oS K W w H { D0 with nx := tS K W g D0 } (f ρ S) := by
  unfold sSeq at h
  split at h
  · rename_i ρ' S' e
    rw [e]
    exact fun w' H' σ' st sr sl => ⟨w', ρ', S', ⟨sr, sl⟩, oS_step a st h⟩
  · rename_i r hr
    cases q : f ρ S with
    | nx ρ' S' => exact absurd q (hr ρ' S')
    | ret d S' => rw [q] at h; exact h
    | bk ρ' S' => rw [q] at h; exact h
    | ct ρ' S' => rw [q] at h; exact h
    | exc x ρ' S' => rw [q] at h; exact h
    | stuck => rw [q] at h; exact h
theorem imp_seq {K : PySem.W.Frag} {f g : FC} (D0 : Ends) (σ : L2.St) (H : Hp) (h : tS K W (sSeq f g) D0 σ H) : tSeq (tS K W f) (tS K W g) D0 σ H := by
  obtain ⟨w, ρ, S, a, h⟩ := h
  exact ⟨w, ρ, S, a, oS_seq a.ok h⟩
theorem ss_pass : SS X W (.Pass pos) sNext := ps_pass.imp imp_next
theorem ss_doc {x j pos'} : SS X W (.Expr (.Constant (.str x) j pos) pos') sNext := ps_doc.imp imp_next
theorem ss_nil : SSs X W [] sNext := pss_nil.imp imp_next
theorem ss_cons {st : Stmt} {rest : List Stmt} {f g : FC} (h1 : SS X W st f) (h2 : SSs X W rest g) : SSs X W (st :: rest) (sSeq f g) := (pss_cons h1 h2).imp imp_seq
theorem ss_one {st : Stmt} {f : FC} (h1 : SS X W st f) : SSs X W [st] f := pss_one h1
def sBreak : FC := fun ρ S => .bk ρ S
def sCont : FC := fun ρ S => .ct ρ S
theorem ss_break : SS X W (.Break pos) sBreak := ps_break.imp fun D0 σ H ⟨w, ρ, S, a, h⟩ => h w H σ (Step.refl _ _ a.ok) a.st a.sl
theorem ss_continue : SS X W (.Continue pos) sCont := ps_continue.imp fun D0 σ H ⟨w, ρ, S, a, h⟩ => h w H σ (Step.refl _ _ a.ok) a.st a.sl
def sDrop (f : FE) : FC := fun ρ S => (f ρ S).toS ρ fun _ S1 => .nx ρ S1
theorem ss_expr {f : FE} (he : SE X W e f) (hs : swapsWith e none pos.line X.env = pure false := by rfl) : SS X W (.Expr e pos) (sDrop f) :=
  (ps_expr he hs).imp fun D0 σ H ⟨w, ρ, S, a, h⟩ => tS_tE a h fun w1 H1 S1 d v st a1 r h1 => oS_nx a1 h1
def sRet (f : FE) : FC := fun ρ S => (f ρ S).toS ρ fun d S1 => .ret d S1
theorem ss_ret {f : FE} (he : SE X W e f) : SS X W (.Return (some e) pos) (sRet f) :=
  (ps_ret he).imp fun D0 σ H ⟨w, ρ, S, a, h⟩ => tS_tE a h fun w1 H1 S1 d v st a1 r h1 => h1 w1 H1 v (Step.refl _ _ a1.ok) a1.st r
def sRetN : FC := fun ρ S => .ret (.p .non) S
theorem ss_retN : SS X W (.Return none pos) sRetN := ps_retN.imp fun D0 σ H ⟨w, ρ, S, a, h⟩ => h w H .non (Step.refl _ _ a.ok) a.st .non
def sIf (c : FT) (f g : FC) : FC := fun ρ S => (c ρ S).toS ρ fun b S1 => if b = true then f ρ S1 else g ρ S1
theorem ss_if {c : Expr} {a b : List Stmt} {t : FT} {f g : FC} (hc : ST X W c t) (ha : SSs X W a f) (hb : SSs X W b g) : SS X W (.If c a b pos) (sIf t f g) :=
  (ps_if hc ha hb).imp fun D0 σ H ⟨w, ρ, S, a, h⟩ => tS_tT a h fun w1 H1 S1 b st a1 h1 => by
    cases b with
    | true => exact (if_pos rfl).mpr ⟨w1, ρ, S1, a1, by rw [if_pos rfl] at h1; exact h1⟩
    | false => exact (if_neg Bool.false_ne_true).mpr ⟨w1, ρ, S1, a1, by rw [if_neg Bool.false_ne_true] at h1; exact h1⟩
/-- x = e -/
def sSet (i : Nat) (f : FE) : FC := fun ρ S => (f ρ S).toS ρ fun d S1 => .nx (ρ.set i (some d)) S1
theorem ss_set (i : Nat) {x : Str} {f : FE} {pos' : Pos} (hN : X.N.Nodup) (he : SE X W e f) (hi : X.N[i]? = some x := by rfl) (hx : Loc X.env.scope x := by first | exact Or.inl rfl | exact Or.inr rfl) (hs : swapsWith e (some (.Name x pos')) pos.line X.env = pure false := by rfl)
    (hf : X.fn x = true ∨ X.env.scope.names.lookup x = some .local := by first | exact .inl rfl | exact .inr rfl) : SS X W (.Assign [.Name x pos'] e pos) (sSet i f) :=
  (ps_set hN hi hx he hs hf).imp fun D0 σ H ⟨w, ρ, S, a, h⟩ => tS_tE a h fun w1 H1 S1 d v st a1 r h1 => h1 w1 H1 _ (Step.refl _ _ a1.ok) a1.st (a1.sl.set r i)
/-- a target -/
abbrev FG := D → Env → Store → R Env
def qG (K : PySem.W.Frag) (Q : L2.St → Hp → Prop) : Wd → Hp → Store → Env → Prop := fun w' H' _ ρ => ∀ σ', Slots K w' H' σ' ρ → Q σ' H'
def SG (X : Cx) (W : WX) (tg : Expr) (g : FG) : Prop := PG X tg fun v σ H Q => ∃ w ρ S d, At X.K w σ H ρ S ∧ DRep X.K w H v d ∧ oR X.K W σ w H (qG X.K Q) (g d ρ S)
def gNm (i : Nat) : FG := fun d ρ S => .ok (ρ.set i (some d)) S
theorem sg_name (i : Nat) {x : Str} (hN : X.N.Nodup) (hi : X.N[i]? = some x := by rfl) (hx : Loc X.env.scope x := by first | exact Or.inl rfl | exact Or.inr rfl) (hf : X.fn x = true ∨ X.env.scope.names.lookup x = some .local := by first | exact .inl rfl | exact .inr rfl) : SG X W (.Name x pos) (gNm i) :=
  ⟨fun pins s σ H v u Q I r ⟨w, ρ, S, d, a, dr, h⟩ => (pg_name hN hi hx hf).run pins s σ H v u Q I r (h w H (Step.refl _ _ a.ok) a.st _ (a.sl.set dr i))⟩
def sAsg (f : FE) (g : FG) : FC := fun ρ S => (f ρ S).toS ρ fun d S1 => (g d ρ S1).toS ρ fun ρ' S2 => .nx ρ' S2
/-- x op= e -/
def sAug (i : Nat) (g : D → D → Store → R D) (f : FE) : FC := fun ρ S => match ρ[i]? with
  | some (some d0) => (f ρ S).toS ρ fun d S1 => (g d0 d S1).toS ρ fun z S2 => .nx (ρ.set i (some z)) S2
  | _ => .stuck
end
end FR

set_option Elab.async false
set_option linter.all false
set_option maxRecDepth 100000
set_option maxHeartbeats 1000000
namespace FR
open PySem PySem.Spec PyProof.Rows L2
section
variable {X : Cx} {W : WX} {e : Expr} {es : List Expr} {pos : Pos}

/-! ### ints -/
def mulOk (i j : Int) : Bool := decide (i.natAbs.log2 < 60 ∨ j.natAbs.log2 < 60 ∨ i.natAbs.log2 + j.natAbs.log2 < 100000000)
theorem mulOk_ok {i j : Int} (h : mulOk i j = true) : IntMulOk i j := by
  have h3 : i.natAbs.log2 < 60 ∨ j.natAbs.log2 < 60 ∨ i.natAbs.log2 + j.natAbs.log2 < 100000000 := of_decide_eq_true h
  have b : ∀ x : Int, Builtin.Int.intBits x ≤ x.natAbs.log2 + 1 := fun x => by
    unfold Builtin.Int.intBits
    split <;> omega
  have h1 := b i
  have h2 := b j
  rcases h3 with h3 | h3 | h3
  · exact .of_left (by omega)
  · exact .of_right (by omega)
  have e : bitsLine = 134217728 := by decide
  unfold IntMulOk
  intro z
  rw [Bool.and_eq_true] at z
  have z3 := z.2
  unfold Builtin.Int.intTooBig at z3
  have z4 := of_decide_eq_true z3
  rw [e] at z4
  omega
def divOk (j : Int) : Bool := decide (j ≠ 0 ∧ j.natAbs.log2 < 9000)
theorem opr_mul : OpR X (binaryOp .Mult) (rI (fun i j => mulOk i j = true) fun i j => .int (i * j)) := opI fun _ _ _ _ _ _ _ hc q => mul_int q (mulOk_ok hc)
theorem opr_fdiv : OpR X (binaryOp .FloorDiv) (rI (fun _ j => divOk j = true) fun i j => .int (i.fdiv j)) := opI fun i j _ _ _ _ _ hc q => by
  have h := of_decide_eq_true hc
  exact floordiv_int h.1 q (.inl (PyProof.noPylong_of_log2 h.2))
def gAddI : D → D → Store → R D := gII fun i j => some (.int (i + j))
def gSubI : D → D → Store → R D := gII fun i j => some (.int (i - j))
def gMulI : D → D → Store → R D := gII fun i j => if mulOk i j = true then some (.int (i * j)) else none
def gDivI : D → D → Store → R D := gII fun i j => if divOk j = true then some (.int (i.fdiv j)) else none
def gModI : D → D → Store → R D := gII fun i j => if j ≠ 0 then some (.int (i.fmod j)) else none
def powOk (i j : Int) : Bool := decide (0 ≤ j ∧ j ≤ 1000000 ∧ i.natAbs < 2 ^ 64)
def gPowI : D → D → Store → R D := gII fun i j => if powOk i j = true then some (.int (i ^ j.toNat)) else none
def gLtI : D → D → Store → R D := gII fun i j => some (.bl (decide (i < j)))
def gLeI : D → D → Store → R D := gII fun i j => some (.bl (decide (i ≤ j)))
def gGtI : D → D → Store → R D := gII fun i j => some (.bl (decide (j < i)))
def gGeI : D → D → Store → R D := gII fun i j => some (.bl (decide (j ≤ i)))
theorem o_addI : OpF X W (binaryOp .Add) gAddI := opII0 op_add fun _ _ _ _ => .int _
theorem o_subI : OpF X W (binaryOp .Sub) gSubI := opII0 op_sub fun _ _ _ _ => .int _
theorem o_mulI : OpF X W (binaryOp .Mult) gMulI := opII opr_mul fun i j q h => by
  split at h
  · rename_i hc; cases h; exact ⟨hc, fun _ _ => .int _⟩
  · cases h
theorem o_divI : OpF X W (binaryOp .FloorDiv) gDivI := opII opr_fdiv fun i j q h => by
  split at h
  · rename_i hc; cases h; exact ⟨hc, fun _ _ => .int _⟩
  · cases h
theorem o_modI : OpF X W (binaryOp .Mod) gModI := opII op_modN fun i j q h => by
  split at h
  · rename_i hc; cases h; exact ⟨hc, fun _ _ => .int _⟩
  · cases h
theorem o_powI : OpF X W (binaryOp .Pow) gPowI := opII op_pow fun i j q h => by
  split at h
  · rename_i hc
    cases h
    have hc' : 0 ≤ j ∧ j ≤ 1000000 ∧ i.natAbs < 2 ^ 64 := of_decide_eq_true hc
    exact ⟨hc', fun _ _ => .int _⟩
  · cases h
theorem o_ltI : OpF X W (compareOp .Lt) gLtI := opII0 op_lt fun _ _ _ _ => .bl _
theorem o_leI : OpF X W (compareOp .LtE) gLeI := opII0 op_le fun _ _ _ _ => .bl _
theorem o_gtI : OpF X W (compareOp .Gt) gGtI := opII0 op_gt fun _ _ _ _ => .bl _
theorem o_geI : OpF X W (compareOp .GtE) gGeI := opII0 op_ge fun _ _ _ _ => .bl _
/-- == of flat values -/
def flatEq : P → P → Option Bool
  | .non, .non => some true | .non, .int _ => some false | .int _, .non => some false | .non, .bl _ => some false | .bl _, .non => some false
  | .non, .str _ => some false | .str _, .non => some false
  | .int i, .int j => some (decide (i = j)) | .bl i, .bl j => some (decide (i = j)) | .str i, .str j => some (decide (i = j))
  | .int _, .str _ => some false | .str _, .int _ => some false | .bl _, .str _ => some false | .str _, .bl _ => some false
  | _, _ => none
def gEqF : D → D → Store → R D := fun x y S => match x, y with
  | .p a, .p b => match flatEq a b with
    | some k => .ok (.p (.bl k)) S
    | none => .stuck
  | _, _ => .stuck
def gNeF : D → D → Store → R D := fun x y S => match x, y with
  | .p a, .p b => match flatEq a b with
    | some k => .ok (.p (.bl (!k))) S
    | none => .stuck
  | _, _ => .stuck
theorem flat_ok {K : PySem.W.Frag} {L : Addr → Prop} {H : Hp} {a b : P} {x y : V} {k : Bool} (r1 : Rep K L H x a) (r2 : Rep K L H y b) (h : flatEq a b = some k) : scal x y = true ∧ decide (x = y) = k := by
  cases r1 <;> cases r2 <;> first
    | (exact ⟨rfl, by cases h; simp⟩)
    | (cases h)
theorem o_eqF : OpF X W (compareOp .Eq) gEqF := by
  intro pins s σ H w ρ S x y dx dy v u Q I a r1 r2 rx ry q
  unfold gEqF at q
  split at q
  · split at q
    · rename_i k e
      obtain ⟨h1, h2⟩ := flat_ok r1 r2 e
      exact op_eq pins s σ H _ _ v u Q I rx ry ⟨h1, by rw [h2]; exact oE_ok a.st q (.bl _)⟩
    · exact q.elim
  · exact q.elim
theorem o_neF : OpF X W (compareOp .NotEq) gNeF := by
  intro pins s σ H w ρ S x y dx dy v u Q I a r1 r2 rx ry q
  unfold gNeF at q
  split at q
  · split at q
    · rename_i k e
      obtain ⟨h1, h2⟩ := flat_ok r1 r2 e
      exact op_ne pins s σ H _ _ v u Q I rx ry ⟨h1, by rw [h2]; exact oE_ok a.st q (.bl _)⟩
    · exact q.elim
  · exact q.elim
def isNonP : P → Bool
  | .non => true
  | _ => false
def gIsN : D → D → Store → R D := fun x y S => match x, y with
  | .p a, .p .non => .ok (.p (.bl (isNonP a))) S
  | .r _, .p .non => .stuck
  | _, _ => .stuck
def gNotN : D → D → Store → R D := fun x y S => match x, y with
  | .p a, .p .non => .ok (.p (.bl (!isNonP a))) S
  | _, _ => .stuck
theorem isN_ok {K : PySem.W.Frag} {L : Addr → Prop} {H : Hp} {a : P} {x : V} (r : Rep K L H x a) : decide (x = V.non) = isNonP a := by
  cases r <;> simp [isNonP]
theorem o_isN : OpF X W (compareOp .Is) gIsN := by
  intro pins s σ H w ρ S x y dx dy v u Q I a r1 r2 rx ry q
  unfold gIsN at q
  split at q
  · obtain rfl := rep_non r2
    exact op_isN pins s σ H _ _ v u Q I rx ry ⟨rfl, by rw [isN_ok r1]; exact oE_ok a.st q (.bl _)⟩
  · exact q.elim
  · exact q.elim
theorem o_notN : OpF X W (compareOp .IsNot) gNotN := by
  intro pins s σ H w ρ S x y dx dy v u Q I a r1 r2 rx ry q
  unfold gNotN at q
  split at q
  · rename_i a0
    obtain rfl := rep_non r2
    refine op_notN pins s σ H _ _ v u Q I rx ry ⟨rfl, ?_⟩
    rw [isN_ok r1]
    exact oE_ok a.st q (.bl _)
  · exact q.elim
/-- -x of an int -/
def gNegI : D → Store → R D := fun x S => match x with
  | .p (.int i) => .ok (.p (.int (-i))) S
  | _ => .stuck
theorem u_negI : UnF X W (unaryOp .USub) gNegI := by
  intro pins s σ H w ρ S x dx v Q I a r rx q
  unfold gNegI at q
  split at q
  · obtain rfl := rep_int r
    exact un_neg pins s σ H _ v Q I rx ⟨_, rfl, oE_ok a.st q (.int _)⟩
  · exact q.elim
/-- a op1 b op2 c -/
def fChain (g g' : D → D → Store → R D) (fa fb fc : FE) : FE := fun ρ S => (fa ρ S).bind fun x S1 => (fb ρ S1).bind fun y S2 => (g x y S2).bind fun z S3 => match z with
  | .p (.bl true) => (fc ρ S3).bind fun t S4 => g' y t S4
  | .p (.bl false) => .ok (.p (.bl false)) S3
  | _ => .stuck
/-- a value by itself, tracked through one step -/
theorem opF_then {f : Value → Value → Sem Value} {g : D → D → Store → R D} {k : D → Store → R D} {pins : List (Addr × Obj)} {s : Shared} {σ : L2.St} {H : Hp} {w : Wd} {ρ : Env} {S : Store} {x y : V} {dx dy : D} {v u : Value} {Q : VK}
    (ho : OpF X W f g) (I : Inv X pins σ H s) (a : At X.K w σ H ρ S) (r1 : DRep X.K w H x dx) (r2 : DRep X.K w H y dy) (rx : RelV x v) (ry : RelV y u) (h : oR X.K W σ w H (qE X.K Q) ((g dx dy S).bind k)) :
    wpAny (model X.prog X.w) X.A (f v u) (fun c s1 => ∃ z H1 w1 S1 d, Inv X pins σ H1 s1 ∧ RelV z c ∧ Step w H w1 H1 ∧ At X.K w1 σ H1 ρ S1 ∧ DRep X.K w1 H1 z d ∧ oR X.K W σ w1 H1 (qE X.K Q) (k d S1)) X.xe s := by
  refine thn (ho pins s σ H w ρ S x y dx dy v u (fun z H1 => ∃ w1 S1 d, Step w H w1 H1 ∧ At X.K w1 σ H1 ρ S1 ∧ DRep X.K w1 H1 z d ∧ oR X.K W σ w1 H1 (qE X.K Q) (k d S1)) I a r1 r2 rx ry ?_) fun c s1 ⟨z, H1, I1, rz, w1, S1, d, st, a1, dr, q⟩ => ⟨z, H1, w1, S1, d, I1, rz, st, a1, dr, q⟩
  exact oR_imp (oR_bind a.ok h) fun w' H' S' d st sr h1 z r => ⟨w', S', d, st, a.to st sr, r, h1⟩
theorem se_chain {op op' : CmpOp} {g g' : D → D → Store → R D} {a b c : Expr} {fa fb fc : FE} (ho : OpF X W (compareOp op) g) (ho' : OpF X W (compareOp op') g') (ha : SE X W a fa) (hb : SE X W b fb) (hc : SE X W c fc)
    (hm : lastMarks [op, op'] [b, c] = false := by with_unfolding_all rfl) : SE X W (.Compare a [op, op'] [b, c] pos) (fChain g g' fa fb fc) := by
  refine ⟨fun pins s σ H Q I ⟨w, ρ, S, at0, h⟩ => ?_⟩
  refine Compare_chain (thn (run_then ha I at0 h) fun v s1 ⟨x, H1, w1, S1, d, I1, rx, st1, a1, dr1, h1⟩ => chain_link (thn (run_then hb I1 a1 h1) fun u s2 ⟨y, H2, w2, S2, d2, I2, ry, st2, a2, dr2, h2⟩ =>
    thn (opF_then ho I2 a2 (dr1.step a1.ok st2) dr2 rx ry h2) fun z s3 ⟨zv, H3, w3, S3, d3, I3, rz, st3, a3, dr3, h3⟩ => ?_)) hm
  revert dr3
  split at h3
  · intro dr3
    obtain rfl := rep_bl dr3
    cases rz
    refine wpAny_truthy_bool (ite_tt (chain_last (thn (run_then hc I3 a3 h3) fun t s4 ⟨tv, H4, w4, S4, d4, I4, rt, st4, a4, dr4, h4⟩ => ?_)))
    exact ho' pins s4 σ H4 w4 ρ S4 y tv d2 d4 u t Q I4 a4 ((dr2.step a2.ok st3).step a3.ok st4) dr4 ry rt h4
  · intro dr3
    obtain rfl := rep_bl dr3
    cases rz
    exact wpAny_truthy_bool (ite_ff ⟨.bl false, H3, I3, rfl, oE_ok a3.st h3 (.bl _)⟩)
  · exact h3.elim
theorem st_chain {op op' : CmpOp} {g g' : D → D → Store → R D} {a b c : Expr} {fa fb fc : FE} (ho : OpF X W (compareOp op) g) (ho' : OpF X W (compareOp op') g') (ha : SE X W a fa) (hb : SE X W b fb) (hc : SE X W c fc)
    (hm : lastMarks [op, op'] [b, c] = false := by with_unfolding_all rfl) : ST X W (.Compare a [op, op'] [b, c] pos) (fBool (fChain g g' fa fb fc)) := by
  refine ⟨fun pins s σ H Q I ⟨w, ρ, S, at0, h⟩ => ?_⟩
  have h' : oR X.K W σ w H (qE X.K fun v H' => ∃ b, v = .bl b ∧ Q b H') ((fChain g g' fa fb fc) ρ S) := by
    refine oR_imp (oR_bind at0.ok h) fun w' H' S' d st sr g' v r => ?_
    revert r
    split at g'
    · intro r
      exact ⟨_, rep_bl r, g' w' H' (Step.refl _ _ sr.ok) sr⟩
    · exact g'.elim
  refine isTrue_chain (thn (run_then ha I at0 h') fun v s1 ⟨x, H1, w1, S1, d, I1, rx, st1, a1, dr1, h1⟩ => test_link (thn (run_then hb I1 a1 h1) fun u s2 ⟨y, H2, w2, S2, d2, I2, ry, st2, a2, dr2, h2⟩ =>
    thn (opF_then ho I2 a2 (dr1.step a1.ok st2) dr2 rx ry h2) fun z s3 ⟨zv, H3, w3, S3, d3, I3, rz, st3, a3, dr3, h3⟩ => ?_)) hm
  revert dr3
  split at h3
  · intro dr3
    obtain rfl := rep_bl dr3
    cases rz
    refine wpAny_truthy_bool (ite_tt (test_last (thn (run_then hc I3 a3 h3) fun t s4 ⟨tv, H4, w4, S4, d4, I4, rt, st4, a4, dr4, h4⟩ => ?_)))
    refine thn (ho' pins s4 σ H4 w4 ρ S4 y tv d2 d4 u t _ I4 a4 ((dr2.step a2.ok st3).step a3.ok st4) dr4 ry rt h4) fun c s5 ⟨z5, H5, I5, r5, k, e5, q5⟩ => ?_
    subst e5
    cases r5
    exact wpAny_truthy_bool ⟨H5, I5, q5⟩
  · intro dr3
    obtain rfl := rep_bl dr3
    cases rz
    obtain ⟨k, e5, q5⟩ := oE_ok a3.st h3 (show DRep X.K w3 H3 (.bl false) (.p (.bl false)) from .bl _)
    cases e5
    exact wpAny_truthy_bool (ite_ff ⟨H3, I3, q5⟩)
  · exact h3.elim

/-! ### displays -/
/-- (a, b, ..) of pure values -/
def fTup (f : FA) : FE := fun ρ S => (f ρ S).bind fun l S1 => match pureL l with
  | some k => if k.length ≤ 1000000 then .ok (.p (.tup k)) S1 else .stuck
  | none => .stuck
theorem line_le {n : Nat} (h : n ≤ 1000000) : n ≤ sizeLine := by rw [sizeLine_eq]; omega
theorem imp_tup {K : PySem.W.Frag} {f : FA} (σ : L2.St) (H : Hp) (Q : VK) (h : tE K W (fTup f) σ H Q) : tTup (tA K W f) σ H Q := by
  obtain ⟨w, ρ, S, a, h⟩ := h
  refine tA_of a (oR_bind a.ok h) fun w1 H1 S1 l vs st a1 h1 r => ?_
  split at h1
  · rename_i k e
    split at h1
    · rename_i hk
      subst_eqs
      rw [pureL_eq e] at r
      refine ⟨by rw [r.length, List.length_map]; exact line_le hk, fun p hp => ?_⟩
      obtain ⟨st2, sr2⟩ := lay_pure (o := .tup vs) a1.st hp
      exact h1 w1 _ st2 sr2 (.ref p) (show DRep K w1 _ _ (.p (.tup k)) from .tup (.inl (.inl upd_same)) (Reps.step a1.ok st2 r.pure))
    · exact h1.elim
  · exact h1.elim
theorem se_tup {x1} {f : FA} (h : SA X W es f) : SE X W (.Tuple es x1 pos) (fTup f) := (pe_tup h).imp imp_tup
/-- [a, b, ..] that never changes -/
def fLst (f : FA) : FE := fun ρ S => (f ρ S).bind fun l S1 => match pureL l with
  | some k => if k.length ≤ 1000000 then .ok (.p (.lst k)) S1 else .stuck
  | none => .stuck
theorem nL_of {K : PySem.W.Frag} {w : Wd} {H : Hp} {S : Store} {p : Addr} (sr : SRep K w H S) (hp : H p = none) : ¬ w.L p := fun e => by
  have := mut_some (sr.ok.mu p e)
  exact this hp
theorem imp_lst {K : PySem.W.Frag} {f : FA} (σ : L2.St) (H : Hp) (Q : VK) (h : tE K W (fLst f) σ H Q) : tLst (tA K W f) σ H Q := by
  obtain ⟨w, ρ, S, a, h⟩ := h
  refine tA_of a (oR_bind a.ok h) fun w1 H1 S1 l vs st a1 h1 r => ?_
  split at h1
  · rename_i k e
    split at h1
    · rename_i hk
      rw [pureL_eq e] at r
      refine ⟨by rw [r.length, List.length_map]; exact line_le hk, fun p hp => ?_⟩
      obtain ⟨st2, sr2⟩ := lay_pure (o := .lst vs) a1.st hp
      exact h1 w1 _ st2 sr2 (.ref p) (show DRep K w1 _ _ (.p (.lst k)) from .lst (.inl ⟨upd_same, nL_of a1.st hp⟩) (Reps.step a1.ok st2 r.pure))
    · exact h1.elim
  · exact h1.elim
theorem se_lst {f : FA} (h : SA X W es f) : SE X W (.List es pos) (fLst f) := (pe_lst h).imp imp_lst
/-- [a, b, ..] that is to change: a cell -/
def fLstR (f : FA) : FE := fun ρ S => (f ρ S).bind fun l S1 => if l.length ≤ 1000000 then .ok (.r S1.length) (S1 ++ [.lst l]) else .stuck
theorem add_self {w : Wd} {p : Addr} : (w.add p).α w.N = some p := by show (if w.N = w.N then some p else _) = _; rw [if_pos rfl]
theorem imp_lstR {K : PySem.W.Frag} {f : FA} (σ : L2.St) (H : Hp) (Q : VK) (h : tE K W (fLstR f) σ H Q) : tLst (tA K W f) σ H Q := by
  obtain ⟨w, ρ, S, a, h⟩ := h
  refine tA_of a (oR_bind a.ok h) fun w1 H1 S1 l vs st a1 h1 r => ?_
  split at h1
  · rename_i hk
    refine ⟨by rw [r.length]; exact line_le hk, fun p hp => ?_⟩
    have st0 : Step w1 H1 w1 (upd H1 p (.lst vs)) := (lay_pure a1.st hp).1
    have mk : ∀ {vs' : List V} {l' : List D}, DReps K w1 H1 vs' l' → DReps K (w1.add p) (upd H1 p (.lst vs)) vs' l' := fun {vs' l'} h => by
      have aux : ∀ {v : V} {d : D}, DRep K w1 H1 v d → DRep K (w1.add p) (upd H1 p (.lst vs)) v d := fun {v d} h => by
        cases d with
        | p q =>
          refine Rep.step (w := w1) (w' := w1.add p) a1.ok ?_ h
          refine { n := Nat.le_succ _, old := fun n a hn e => ?_, new := fun n a hn e => ?_, kept := st0.kept, there := st0.there, l1 := fun a e => ?_, l2 := fun a e => .inl (.inr e), tups := st0.tups, frzs := st0.frzs }
          · have e' : (if n = w1.N then some p else w1.α n) = some a := e
            rw [if_neg (Nat.ne_of_lt hn)] at e'; exact e'
          · have e' : (if n = w1.N then some p else w1.α n) = some a := e
            by_cases q : n = w1.N
            · rw [if_pos q] at e'; cases e'; exact hp
            · rw [if_neg q] at e'
              exact absurd (a1.ok.lt n a e') (Nat.not_lt.mpr hn)
          · rcases e with e | e
            · subst e; exact .inr hp
            · exact .inl e
        | r n =>
          refine ⟨Nat.lt_succ_of_lt h.1, fun a e => ?_⟩
          have e' : (if n = w1.N then some p else w1.α n) = some a := e
          rw [if_neg (Nat.ne_of_lt h.1)] at e'
          exact h.2 a e'
      induction h with
      | nil => exact .nil
      | cons h t ih => exact .cons (aux h) ih
    obtain ⟨st2, sr2⟩ := lay_cell (o := .lst vs) (c := .lst l) a1.st hp trivial ⟨p, vs, add_self, upd_same, mk r⟩
    refine h1 _ _ st2 sr2 (.ref p) ?_
    rw [a1.st.len]
    exact ⟨Nat.lt_succ_self _, fun a e => by rw [add_self] at e; cases e; rfl⟩
  · exact h1.elim
theorem se_lstR {f : FA} (h : SA X W es f) : SE X W (.List es pos) (fLstR f) := (pe_lst h).imp imp_lstR
end
end FR

set_option Elab.async false
set_option linter.all false
set_option maxRecDepth 100000
set_option maxHeartbeats 1000000
namespace FR
open PySem PySem.Spec PyProof.Rows L2

/-! ### a def's promise -/
def oN (K : PySem.W.Frag) (w : Wd) (H : Hp) (Q : VK) (E : XK) : R D → Prop := oR K (fun c e _ H' => E c e H') [] w H (qE K Q)
def spOf (K : PySem.W.Frag) (n : Nat) (F : Fn) : Sp := fun vs H Q E => ∃ w S ds, SRep K w H S ∧ DReps K w H vs ds ∧ ds.length = n ∧ oN K w H Q E (F ds S)
theorem spOf_len {K : PySem.W.Frag} {n : Nat} {F : Fn} (vs : List V) (H : Hp) (Q : VK) (E : XK) (h : spOf K n F vs H Q E) : vs.length = n := by
  obtain ⟨w, S, ds, _, r, l, _⟩ := h
  rw [r.length, l]
/-- a def's function by its body's -/
def runF (n : Nat) (f : FC) : Fn := fun ds S => match f (ds.map some ++ List.replicate (n - ds.length) none) S with
  | .nx _ S' => .ok (.p .non) S'
  | .ret d S' => .ok d S'
  | .exc x _ S' => .exc x S'
  | _ => .stuck
abbrev wE (E : XK) : WX := fun c d _ H => E c d H
theorem slots_app {K : PySem.W.Frag} {w : Wd} {H : Hp} : ∀ {vs : List V} {ds : List D} (k : Nat), DReps K w H vs ds → Slots K w H (vs.map some ++ List.replicate k none) (ds.map some ++ List.replicate k none)
  | _, _, 0, .nil => .nil
  | _, _, k + 1, .nil => .emp (slots_app k .nil)
  | _, _, k, .cons h t => .has h (slots_app k t)
theorem ok_def {pr : Program} {w : World} {K : PySem.W.Frag} {mg : Str → Option Value} {base : Heap} {x qual : Str} {params : Arguments} {body : List Stmt} {scope : Scope} {dvs : List V} {kws : List (Str × V)} {f : Addr} {fd : FuncData}
    {N ps : List Str} {k : Nat} {fb : FC} (F : FunD K x qual params body scope dvs kws f fd) (Sc : FnScope N ps scope)
    (hb : ∀ (cdv : Value) (A : Around) (outer : List PySem.Env) (s : Shared) (H : Hp) (E : XK), Room k (A.deeper (envOfC qual scope s.heap.objs.size f cdv)) → Takes (cxOf (L2.CX pr w) pr w K mg base N qual scope f cdv A outer s H E) (wE E) →
      SSs (cxOf (L2.CX pr w) pr w K mg base N qual scope f cdv A outer s H E) (wE E) body fb) :
    FnOk pr w K mg base (L2.CX pr w) (k + 1) f fd ps (spOf K ps.length (runF N.length fb)) := by
  refine F.ok Sc (fun vs H Q E h => spOf_len vs H Q E h) fun cdv A outer s H vs Q E hr h => ?_
  refine ⟨_, hb cdv A outer s H E hr (takes_of rfl rfl rfl rfl), ?_⟩
  obtain ⟨wd, S, ds, sr, r, l, o⟩ := h
  refine ⟨wd, ds.map some ++ List.replicate (N.length - ds.length) none, S, ⟨sr, ?_⟩, ?_⟩
  · unfold L2.start
    rw [r.length]
    exact slots_app _ r
  · unfold runF at o
    revert o
    cases fb (ds.map some ++ List.replicate (N.length - ds.length) none) S with
    | nx ρ S' => exact fun o w' H' σ' st sr' sl => o w' H' st sr' .non .non
    | ret d S' => exact fun o w' H' v st sr' dr => o w' H' st sr' v dr
    | bk ρ S' => exact fun o => o.elim
    | ct ρ S' => exact fun o => o.elim
    | exc x ρ S' => exact fun o w' H' σ' c e st sr' sl xr => o w' H' c e st sr' xr
    | stuck => exact fun o => o.elim

/-- a def that may be called: the name's function keeps F; the last arguments may be the defaults dvs -/
structure Def (pr : Program) (w : World) (K : PySem.W.Frag) (mg : Str → Option Value) (base : Heap) (f : Addr) (k n : Nat) (dvs : List P) (F : Fn) : Prop where
  ex : ∃ (fd : FuncData) (ps : List Str) (ds : List Value) (vs : List V), PySem.W.keepIn K (.ref f) = true ∧ Binds K fd ps ds ∧ Vals vs ds ∧ (∀ L H, Reps K L H vs dvs) ∧ FnOk pr w K mg base (L2.CX pr w) k f fd ps (spOf K n F)
abbrev XDef (X : Cx) (f : Addr) (k n : Nat) (dvs : List P) (F : Fn) : Prop := Def X.prog X.w X.K X.mg X.base f k n dvs F

section
variable {X : Cx} {W : WX} {e : Expr} {es : List Expr} {pos : Pos} {f : Addr} {k n : Nat} {dvs : List P} {F : Fn}
/-- a call, its values at hand -/
theorem go_call {pins : List (Addr × Obj)} {σ : L2.St} {H : Hp} {s : Shared} {Q : VK} {us : List Value} {vs : List V} (C : XDef X f k n dvs F) (tk : Takes X W) (hr : Room k X.A) (I : Inv X pins σ H s) (r : Vals vs us)
    (h : ∀ zs, (∀ L H, Reps X.K L H zs dvs) → spOf X.K n F (vs ++ zs) H Q fun c d H' => W c d σ H') : wpAny (model X.prog X.w) X.A (call (.ref f) us) (EP X pins σ Q) X.xe s := by
  obtain ⟨fd, ps, ds, zs, hk, hb, hv, hz, hF⟩ := C.ex
  have hsp := h zs hz
  have rr := r.append hv
  have ll : (us ++ ds).length = ps.length := rr.length.symm.trans (hF.len _ _ _ _ hsp)
  refine wpAny_call (codeAny_mono (hF.run X.A X.stack s H ⟨us, []⟩ _ _ Q (fun c d H' => W c d σ H') hr I.env0 (hb s us I.kIn ll) rr hsp) fun o s' ho => ?_)
  cases o with
  | error er => exact tk er s' (XE.of_call I (fun _ _ _ z => z) ho)
  | ok fl =>
    cases fl with
    | ret u => exact I.after ho
    | _ => exact (show False from ho).elim

/-! ### how a call uses the store -/
/-- arguments all pure: the callee has a store of its own -/
def callP (F : Fn) (dvs : List P) : List D → Store → R D := fun ds S => match pureL ds with
  | some l => match F ((l ++ dvs).map .p) [] with
    | .ok (.p q) _ => .ok (.p q) S
    | .exc x _ => .exc x S
    | _ => .stuck
  | none => .stuck
/-- the store is shared -/
def callS (F : Fn) (dvs : List P) : List D → Store → R D := fun ds S => F (ds ++ dvs.map .p) S
theorem Reps.app {K : PySem.W.Frag} {L : Addr → Prop} {H : Hp} : ∀ {vs us : List V} {l k : List P}, Reps K L H vs l → Reps K L H us k → Reps K L H (vs ++ us) (l ++ k)
  | _, _, _, _, .nil, b => b
  | _, _, _, _, .cons h t, b => .cons h (Reps.app t b)
def Wd.bare (w : Wd) : Wd := ⟨fun _ => none, w.L, 0⟩
theorem bare_ok {K : PySem.W.Frag} {w : Wd} {H : Hp} {S : Store} (sr : SRep K w H S) : SRep K w.bare H [] :=
  ⟨⟨fun n a e => (nomatch (show (none : Option Addr) = some a from e)), fun n a e => (nomatch (show (none : Option Addr) = some a from e)), sr.ok.mu, fun n m a e => (nomatch (show (none : Option Addr) = some a from e))⟩, rfl, fun n c e => by simp at e⟩
/-- behind a call that knew no cell -/
theorem bare_back {K : PySem.W.Frag} {w w0 : Wd} {H H' : Hp} {S S0 : Store} (sr : SRep K w H S) (s : Step w.bare H w0 H') (sr0 : SRep K w0 H' S0) : Step w H ⟨w.α, w0.L, w.N⟩ H' ∧ SRep K ⟨w.α, w0.L, w.N⟩ H' S := by
  have kp : ∀ a o, H a = some o → H' a = some o := fun a o e => s.kept a o e fun n z => (nomatch (show (none : Option Addr) = some a from z))
  have lk : ∀ a, w.L a → w0.L a := fun a e => (s.l2 a e).elim id fun ⟨n, z⟩ => (nomatch (show (none : Option Addr) = some a from z))
  have st : Step w H ⟨w.α, w0.L, w.N⟩ H' := ⟨Nat.le_refl _, fun _ _ _ e => e, fun n a hn e => absurd (sr.ok.lt n a e) (Nat.not_lt.mpr hn), fun a o e _ => kp a o e, s.there, s.l1, fun a e => .inl (lk a e), s.tups, s.frzs⟩
  refine ⟨st, ⟨⟨sr.ok.lt, fun n a e => lk a (sr.ok.live n a e), sr0.ok.mu, sr.ok.inj⟩, sr.len, fun n c e => ?_⟩⟩
  refine (sr.cell n c e).step sr.ok st (fun a z => z) fun a z => ?_
  have hm := sr.ok.mu a (sr.ok.live n a z)
  cases q : H a with
  | none => rw [q] at hm; exact hm.elim
  | some o => exact kp a o q
theorem sp_P {K : PySem.W.Frag} {w : Wd} {H : Hp} {S : Store} {σ : L2.St} {Q : VK} {ds : List D} {vs zs : List V} (sr : SRep K w H S) (r : DReps K w H vs ds) (hz : ∀ L H, Reps K L H zs dvs) (hn : vs.length + zs.length = n)
    (h : oR K W σ w H (qE K Q) (callP F dvs ds S)) : spOf K n F (vs ++ zs) H Q fun c d H' => W c d σ H' := by
  unfold callP at h
  split at h
  · rename_i l e
    rw [pureL_eq e] at r
    have rp : Reps K w.L H (vs ++ zs) (l ++ dvs) := Reps.app r.pure (hz _ _)
    refine ⟨w.bare, [], (l ++ dvs).map .p, bare_ok sr, Reps.ds (w := w.bare) rp, ?_, ?_⟩
    · rw [List.length_map, ← rp.length, List.length_append]; exact hn
    · revert h
      cases F ((l ++ dvs).map .p) [] with
      | ok d S0 =>
        cases d with
        | p q =>
          intro h w0 H' st sr0 v dr
          obtain ⟨st2, sr2⟩ := bare_back sr st sr0
          exact h _ H' st2 sr2 v (show Rep K w0.L H' v q from dr)
        | r m => exact fun h => h.elim
      | exc x S0 =>
        intro h w0 H' c d st sr0 xr
        obtain ⟨st2, sr2⟩ := bare_back sr st sr0
        obtain ⟨cn, fs⟩ := x
        exact h _ H' c d st2 sr2 xr
      | stuck => exact fun h => h.elim
  · exact h.elim
theorem sp_S {K : PySem.W.Frag} {w : Wd} {H : Hp} {S : Store} {σ : L2.St} {Q : VK} {ds : List D} {vs zs : List V} (sr : SRep K w H S) (r : DReps K w H vs ds) (hz : ∀ L H, Reps K L H zs dvs) (hn : vs.length + zs.length = n)
    (h : oR K W σ w H (qE K Q) (callS F dvs ds S)) : spOf K n F (vs ++ zs) H Q fun c d H' => W c d σ H' := by
  have rr := r.app (Reps.ds (w := w) (hz w.L H))
  refine ⟨w, S, _, sr, rr, by rw [← rr.length, List.length_append]; exact hn, ?_⟩
  unfold callS at h
  revert h
  cases F (ds ++ dvs.map .p) S with
  | ok d S0 => exact fun h => h
  | exc x S0 => exact fun h => h
  | stuck => exact fun h => h
/-- one of the two ways -/
inductive Mode where
  | P | S
def callM : Mode → Fn → List P → List D → Store → R D
  | .P => callP
  | .S => callS
theorem sp_M {K : PySem.W.Frag} {w : Wd} {H : Hp} {S : Store} {σ : L2.St} {Q : VK} {ds : List D} {vs zs : List V} (m : Mode) (sr : SRep K w H S) (r : DReps K w H vs ds) (hz : ∀ L H, Reps K L H zs dvs) (hn : vs.length + zs.length = n)
    (h : oR K W σ w H (qE K Q) (callM m F dvs ds S)) : spOf K n F (vs ++ zs) H Q fun c d H' => W c d σ H' := by
  cases m with
  | P => exact sp_P sr r hz hn h
  | S => exact sp_S sr r hz hn h
/-- .. with the number of arguments looked at -/
def callN (m : Mode) (n : Nat) (F : Fn) (dvs : List P) : List D → Store → R D := fun ds S => if ds.length + dvs.length = n then callM m F dvs ds S else .stuck
theorem go_call' {pins : List (Addr × Obj)} {σ : L2.St} {H : Hp} {s : Shared} {Q : VK} {us : List Value} {vs : List V} {w : Wd} {S : Store} {ds : List D} (m : Mode) (C : XDef X f k n dvs F) (tk : Takes X W) (hr : Room k X.A) (I : Inv X pins σ H s) (r : Vals vs us)
    (sr : SRep X.K w H S) (dr : DReps X.K w H vs ds) (h : oR X.K W σ w H (qE X.K Q) (callN m n F dvs ds S)) : wpAny (model X.prog X.w) X.A (call (.ref f) us) (EP X pins σ Q) X.xe s := by
  unfold callN at h
  split at h
  · rename_i hl
    refine go_call C tk hr I r fun zs hz => sp_M m sr dr hz ?_ h
    have h1 := (hz (fun _ => False) H).length
    rw [dr.length, h1]; exact hl
  · exact h.elim
/-- f(a, ..) -/
theorem se_call {x : Str} {p : Pos} {g : FA} (m : Mode) (C : XDef X f k n dvs F) (tk : Takes X W) (hr : Room k X.A) (hm : X.mg x = some (.ref f)) (ha : SA X W (e :: es) g) (hg : Gl X x := by rfl) (hdb : (x == ("__debug__" : Str)) = false := by decide)
    (he : starEach (e :: es) X.env = (false, eval e X.env) :: starEach es X.env := by rfl) (hpl : (backTo pos (starEach es X.env)).any (·.1) = false := by rfl) :
    SE X W (.Call (.Name x p) (e :: es) [] pos) (cA (callN m n F dvs) g) := by
  refine ⟨fun pins s σ H Q I ⟨w, ρ, S, a, h⟩ => wpAny_Call_Name_kw (ld_glob I hg hm ?_ hdb)⟩
  obtain ⟨_, _, _, _, hk, _⟩ := C.ex
  refine PySem.W.callWith_K (h₀ := X.base) I.ok.mod.kin hk (thn (ha.run pos pins s σ H (fun vs H1 => ∃ w1 S1 l, Step w H w1 H1 ∧ At X.K w1 σ H1 ρ S1 ∧ DReps X.K w1 H1 vs l ∧ oR X.K W σ w1 H1 (qE X.K Q) (callN m n F dvs l S1)) I ?_)
    fun us s1 ⟨vs, H1, I1, r, w1, S1, l, st, a1, dr, h1⟩ => ⟨I1.kIn, go_call' m C tk hr I1 r a1.st dr h1⟩) he hpl
  exact tA_of a (oR_bind a.ok h) fun w1 H1 S1 l vs st a1 h1 r => ⟨w1, S1, l, st, a1, r, h1⟩
theorem se_call0 {x : Str} {p : Pos} (m : Mode) (C : XDef X f k n dvs F) (tk : Takes X W) (hr : Room k X.A) (hm : X.mg x = some (.ref f)) (hg : Gl X x := by rfl) (hdb : (x == ("__debug__" : Str)) = false := by decide) :
    SE X W (.Call (.Name x p) [] [] pos) (cA (callN m n F dvs) aNil) := by
  refine ⟨fun pins s σ H Q I ⟨w, ρ, S, a, h⟩ => wpAny_Call_Name_kw (ld_glob I hg hm ?_ hdb)⟩
  obtain ⟨_, _, _, _, hk, _⟩ := C.ex
  exact PySem.W.callWith_K0 I.kIn hk (go_call' (us := []) m C tk hr I .nil a.st .nil h)

/-! ### instances -/
/-- what a class of the text must have for its attribute x to be read and stored -/
structure FldOk (K : PySem.W.Frag) (c : Cn) (x : Fld) : Prop where
  cl : Cls K (c.a K)
  no : NoAttr K (c.a K) x.x
def gFld (c : Cn) (x : Fld) : D → Store → R D := fun d S => match d with
  | .p (.obj c' gs) => if c' = c then (match gs.lookup x with
    | some q => .ok (.p q) S
    | none => .stuck) else .stuck
  | .r n => match S[n]? with
    | some (.ins c' gs) => if c' = c then (match gs.lookup x with
      | some q => .ok q S
      | none => .stuck) else .stuck
    | _ => .stuck
  | _ => .stuck
theorem se_fld {c : Cn} {x : Fld} {fa : FE} (h : FldOk X.K c x) (he : SE X W e fa) (hb : attributeBase e x.x X.env (eval e X.env) = eval e X.env := by rfl) : SE X W (.Attribute e x.x pos) (c1 (gFld c x) fa) := by
  refine (pe_fld he hb).imp fun σ H Q ⟨w, ρ, S, a, h0⟩ => tE_of a (oR_bind a.ok h0) fun w1 H1 S1 d v st a1 h1 r => ?_
  unfold gFld at h1
  split at h1
  · rename_i c' gs
    split at h1
    · rename_i ec
      subst ec
      split at h1
      · rename_i q hq
        cases r with
        | obj hH hl rf =>
          obtain ⟨u, e1, e2⟩ := rf.look hq
          exact ⟨_, _, _, _, u, rfl, hH, h.cl, h.no, e1, oE_ok a1.st h1 e2⟩
      · exact h1.elim
    · exact h1.elim
  · rename_i m
    split at h1
    · rename_i c' gs hS
      split at h1
      · rename_i ec
        subst ec
        split at h1
        · rename_i q hq
          obtain ⟨ad, dx, fs, e0, eH, rf⟩ := a1.st.cell m _ hS
          obtain ⟨u, e1, e2⟩ := rf.look hq
          exact ⟨ad, _, dx, fs, u, r.2 ad e0, eH, h.cl, h.no, e1, oE_ok a1.st h1 e2⟩
        · exact h1.elim
      · exact h1.elim
    · exact h1.elim
  · exact h1.elim
/-- o.x = e, o a cell -/
def sFldSet (c : Cn) (x : Fld) (fo fv : FE) : FC := fun ρ S => (fv ρ S).toS ρ fun d S1 => (fo ρ S1).toS ρ fun o S2 => match o with
  | .r n => match S2[n]? with
    | some (.ins c' gs) => if c' = c ∧ gs.length < 900 then .nx ρ (S2.set n (.ins c (putD x d gs))) else .stuck
    | _ => .stuck
  | _ => .stuck
theorem ss_fld {c : Cn} {x : Fld} {value : Expr} {fo fv : FE} {pos' : Pos} (h : FldOk X.K c x) (ho : SE X W e fo) (hv : SE X W value fv) (hs : swapsWith value (some (.Attribute e x.x pos')) pos.line X.env = pure false := by rfl) :
    SS X W (.Assign [.Attribute e x.x pos'] value pos) (sFldSet c x fo fv) := by
  refine (ps_fld ho hv hs).imp fun D0 σ H ⟨w, ρ, S, a, h0⟩ => tS_tE a h0 fun w1 H1 S1 d v st a1 r h1 => tS_tE a1 h1 fun w2 H2 S2 o u st2 a2 r2 h2 => ?_
  split at h2
  · rename_i m
    split at h2
    · rename_i c' gs hS
      split at h2
      · rename_i hc
        obtain ⟨rfl, hl⟩ := hc
        obtain ⟨ad, dx, fs, e0, eH, rf⟩ := a2.st.cell m _ hS
        have r' := r.step a1.ok st2
        refine ⟨ad, _, dx, fs, r2.2 ad e0, eH, h.cl, h.no, by rw [rf.len]; omega, ?_⟩
        have st3 : Step w2 H2 w2 (upd H2 ad (.ins (c'.a X.K) dx (putF x.x v fs))) := (write_cell (o := .ins (c'.a X.K) dx (putF x.x v fs)) (c := .dead) a2.st e0 trivial trivial).1
        obtain ⟨_, sr3⟩ := write_cell (o := .ins (c'.a X.K) dx (putF x.x v fs)) (c := .ins c' (putD x d gs)) a2.st e0 trivial ⟨ad, dx, _, e0, upd_same, (rf.put r').step a2.ok st3⟩
        exact h2 w2 _ σ st3 sr3 (a2.sl.step a2.ok st3)
      · exact h2.elim
    · exact h2.elim
  · exact h2.elim
/-- C(a, ..): the new instance stands still behind its __init__ -/
structure MkOk (K : PySem.W.Frag) (mg : Str → Option Value) (c : Cn) (fi : Addr) : Prop where
  mm : Mk K (c.a K) fi
  gl : mg c.x = some (.ref (c.a K))
def mkP (c : Cn) (n : Nat) (F : Fn) (dvs : List P) : List D → Store → R D := fun ds S => match pureL ds with
  | some l => if l.length + dvs.length + 1 = n then (match F (.r 0 :: (l ++ dvs).map .p) [.ins c []] with
    | .ok (.p .non) (.ins c' gs :: _) => (match pureF gs with
      | some k => .ok (.p (.obj c' k)) S
      | none => .stuck)
    | .exc x _ => .exc x S
    | _ => .stuck) else .stuck
  | none => .stuck
end
/-- a new instance as the callee's only cell -/
def Wd.one (w : Wd) (x : Addr) : Wd := ⟨fun n => if n = 0 then some x else none, fun a => a = x ∨ w.L a, 1⟩
theorem one_at {w : Wd} {x a : Addr} {n : Nat} (e : (w.one x).α n = some a) : n = 0 ∧ a = x := by
  have e' : (if n = 0 then some x else none) = some a := e
  by_cases q : n = 0
  · rw [if_pos q] at e'; cases e'; exact ⟨q, rfl⟩
  · rw [if_neg q] at e'; cases e'
/-- the heap with a new instance of c at x -/
abbrev newIns (K : PySem.W.Frag) (H : Hp) (c : Cn) (x dx : Addr) : Hp := upd (upd H dx (.own x)) x (.ins (c.a K) dx [])
section
variable {K : PySem.W.Frag} {w : Wd} {H : Hp} {S : Store} {c : Cn} {x dx : Addr}
theorem ins_old (hx : H x = none) (hd : H dx = none) {a : Addr} {o : HO} (e : H a = some o) : newIns K H c x dx a = some o := by
  show upd (upd H dx (.own x)) x (.ins (c.a K) dx []) a = some o
  rw [upd_ne (ne_of_none e hx), upd_ne (ne_of_none e hd)]; exact e
theorem ins_ok (sr : SRep K w H S) (hx : H x = none) (hd : H dx = none) : SRep K (w.one x) (newIns K H c x dx) [.ins c []] := by
  refine ⟨⟨fun n a e => by rw [(one_at e).1]; exact Nat.zero_lt_one, fun n a e => .inl (one_at e).2, fun a e => ?_, fun n m a e1 e2 => (one_at e1).1.trans (one_at e2).1.symm⟩, rfl, fun n c' e => ?_⟩
  · rcases e with e | e
    · rw [e]; show Mut (upd (upd H dx (.own x)) x (.ins (c.a K) dx []) x); rw [upd_same]; trivial
    · have h0 := sr.ok.mu a e
      cases q : H a with
      | none => rw [q] at h0; exact h0.elim
      | some o => rw [ins_old hx hd q]; rw [q] at h0; exact h0
  · cases n with
    | zero =>
      simp at e; subst e
      exact ⟨x, dx, [], rfl, upd_same, .nil⟩
    | succ n => simp at e
theorem ins_rep {v : V} {p : P} (hx : H x = none) (hd : H dx = none) (r : Rep K w.L H v p) (W0 : Wok w H) : Rep K (w.one x).L (newIns K H c x dx) v p := by
  refine Rep.step (w := w) (w' := ⟨w.α, (w.one x).L, w.N⟩) W0 ⟨Nat.le_refl _, fun _ _ _ e => e, fun n a hn e => absurd (W0.lt n a e) (Nat.not_lt.mpr hn), fun a o e _ => ins_old hx hd e, fun a e => ?_, fun a e => ?_, fun a e => .inl (.inr e), fun a u e => ins_old hx hd e, fun a u y e => ins_old hx hd e⟩ r
  · cases q : H a with
    | none => exact absurd q e
    | some o => rw [ins_old hx hd q]; simp
  · rcases e with e | e
    · exact .inr (by rw [e]; exact hx)
    · exact .inl e
theorem ins_reps (hx : H x = none) (hd : H dx = none) (W0 : Wok w H) : ∀ {vs : List V} {l : List P}, Reps K w.L H vs l → Reps K (w.one x).L (newIns K H c x dx) vs l
  | _, _, .nil => .nil
  | _, _, .cons h t => .cons (ins_rep hx hd h W0) (ins_reps hx hd W0 t)
/-- behind the __init__: the caller's world again, the instance standing still (b: whether it does) -/
theorem ins_back {w0 : Wd} {H' : Hp} {S0 : Store} (sr : SRep K w H S) (hx : H x = none) (hd : H dx = none) (s : Step (w.one x) (newIns K H c x dx) w0 H') (sr0 : SRep K w0 H' S0) :
    Step w H ⟨w.α, fun a => a ≠ x ∧ w0.L a, w.N⟩ H' ∧ SRep K ⟨w.α, fun a => a ≠ x ∧ w0.L a, w.N⟩ H' S := by
  have kp : ∀ a o, H a = some o → H' a = some o := fun a o e => s.kept a o (ins_old hx hd e) fun n z => by
    rw [(one_at z).2] at e; rw [hx] at e; cases e
  have nx : ∀ a, w.L a → a ≠ x := fun a e q => by
    have h0 := sr.ok.mu a e
    rw [q, hx] at h0; exact h0
  have lk : ∀ a, w.L a → a ≠ x ∧ w0.L a := fun a e => ⟨nx a e, (s.l2 a (.inr e)).elim id fun ⟨n, z⟩ => absurd (one_at z).2 (nx a e)⟩
  have st : Step w H ⟨w.α, fun a => a ≠ x ∧ w0.L a, w.N⟩ H' := by
    refine ⟨Nat.le_refl _, fun _ _ _ e => e, fun n a hn e => absurd (sr.ok.lt n a e) (Nat.not_lt.mpr hn), fun a o e _ => kp a o e, fun a e => ?_, fun a e => ?_, fun a e => .inl (lk a e), fun a u e => kp a _ e, fun a u y e => kp a _ e⟩
    · cases q : H a with
      | none => exact absurd q e
      | some o => rw [kp a o q]; simp
    · rcases s.l1 a e.2 with q | q
      · rcases q with q | q
        · exact absurd q e.1
        · exact .inl q
      · refine .inr ?_
        cases q2 : H a with
        | none => rfl
        | some o => rw [ins_old hx hd q2] at q; cases q
  refine ⟨st, ⟨⟨sr.ok.lt, fun n a e => lk a (sr.ok.live n a e), fun a e => sr0.ok.mu a e.2, sr.ok.inj⟩, sr.len, fun n c' e => (sr.cell n c' e).step sr.ok st (fun a z => z) fun a z => ?_⟩⟩
  have hm := sr.ok.mu a (sr.ok.live n a z)
  cases q : H a with
  | none => rw [q] at hm; exact hm.elim
  | some o => exact kp a o q
end
section
variable {X : Cx} {W : WX} {e : Expr} {es : List Expr} {pos : Pos} {fi : Addr} {k n : Nat} {dvs : List P} {F : Fn} {c : Cn}
theorem sp_mk {K : PySem.W.Frag} {w : Wd} {H : Hp} {S : Store} {σ : L2.St} {Q : VK} {ds : List D} {vs zs : List V} {x dx : Addr} (hx : H x = none) (hd : H dx = none) (sr : SRep K w H S) (r : DReps K w H vs ds) (hz : ∀ L H, Reps K L H zs dvs)
    (h : oR K W σ w H (qE K Q) (mkP c n F dvs ds S)) : spOf K n F (.ref x :: (vs ++ zs)) (newIns K H c x dx) (fun v H2 => v = .non ∧ Q (.ref x) H2) fun cl d H' => W cl d σ H' := by
  unfold mkP at h
  split at h
  · rename_i l e
    split at h
    · rename_i hl
      rw [pureL_eq e] at r
      have rp : Reps K (w.one x).L (newIns K H c x dx) (vs ++ zs) (l ++ dvs) := ins_reps hx hd sr.ok (Reps.app r.pure (hz _ _))
      refine ⟨w.one x, [.ins c []], .r 0 :: (l ++ dvs).map .p, ins_ok sr hx hd, .cons ⟨Nat.zero_lt_one, fun a e => by rw [(one_at e).2]⟩ (Reps.ds (w := w.one x) rp), ?_, ?_⟩
      · rw [List.length_cons, List.length_map, List.length_append]; exact hl
      · revert h
        cases F (.r 0 :: (l ++ dvs).map .p) [.ins c []] with
        | ok d S0 =>
          intro h
          split at h
          · rename_i c' gs rest hq
            cases hq
            split at h
            · rename_i k hk
              intro w0 H' st sr0 v dr
              obtain ⟨st2, sr2⟩ := ins_back sr hx hd st sr0
              refine ⟨rep_non dr, h _ H' st2 sr2 (.ref x) ?_⟩
              obtain ⟨a, dx', fs, h1, h2, h3⟩ := sr0.cell 0 _ rfl
              obtain ⟨_, rfl⟩ := one_at (st.old 0 a Nat.zero_lt_one h1)
              rw [pureF_eq hk] at h3
              exact .obj h2 (fun z => z.1 rfl) (RepF.shrink (fun a z => z.2) h3.pure)
            · exact h.elim
          · rename_i hq
            cases hq
          · exact h.elim
        | exc y S0 =>
          intro h w0 H' cl d st sr0 xr
          obtain ⟨st2, sr2⟩ := ins_back sr hx hd st sr0
          obtain ⟨cn, fs⟩ := y
          refine h _ H' cl d st2 sr2 ⟨xr.1, xr.2.imp id fun ⟨d', vs', e1, e2, e3, e4⟩ => ⟨d', vs', e1, e2, fun z => e3 z.2, RepF.shrink (fun a z => z.2) e4⟩⟩
        | stuck => exact fun h => h.elim
    · exact h.elim
  · exact h.elim
theorem go_mk {pins : List (Addr × Obj)} {σ : L2.St} {H : Hp} {s : Shared} {Q : VK} {us : List Value} {vs : List V} {w : Wd} {S : Store} {ds : List D} (M : MkOk X.K X.mg c fi) (C : XDef X fi k n dvs F) (tk : Takes X W) (hr : Room (k + 1) X.A) (I : Inv X pins σ H s) (r : Vals vs us)
    (sr : SRep X.K w H S) (dr : DReps X.K w H vs ds) (h : oR X.K W σ w H (qE X.K Q) (mkP c n F dvs ds S)) : wpAny (model X.prog X.w) X.A (call (.ref (c.a X.K)) us) (EP X pins σ Q) X.xe s := by
  obtain ⟨fd, ps, ds', zs, hk, hb, hv, hz, hF⟩ := C.ex
  have hx0 : H (s.heap.objs.size + 1) = none := I.hok.fresh (Nat.le_succ _)
  have hd0 : H s.heap.objs.size = none := I.hok.fresh (Nat.le_refl _)
  have hsp := sp_mk (x := s.heap.objs.size + 1) (dx := s.heap.objs.size) hx0 hd0 sr dr hz h
  have J := Inv.made (C := c.a X.K) I
  have rr : Vals (V.ref (s.heap.objs.size + 1) :: (vs ++ zs)) (Value.ref (s.heap.objs.size + 1) :: (us ++ ds')) := .cons rfl (r.append hv)
  have ll : (Value.ref (s.heap.objs.size + 1) :: us ++ ds').length = ps.length := rr.length.symm.trans (hF.len _ _ _ _ hsp)
  refine wpAny_call (make_map (f := fi) I.kIn M.mm.makes M.mm.init (beq_iff_eq.mp M.mm.fn) (codeAny_mono (hF.run _ X.stack _ _ ⟨Value.ref (s.heap.objs.size + 1) :: us, []⟩ _ _ _ _ (hr.make (c.a X.K) us []) (J.env0.make (c.a X.K) us []) (hb _ (_ :: us) J.kIn ll) rr hsp) fun o s' ho => ?_))
  cases o with
  | error er => exact tk er s' (XE.of_call J (fun _ _ _ z => z) ho)
  | ok fl =>
    cases fl with
    | ret u =>
      obtain ⟨v, H', I3, rv, ev, q3⟩ := J.after ho
      subst ev
      exact ⟨rv, ⟨V.ref (s.heap.objs.size + 1), H', I3, rfl, q3⟩⟩
    | _ => exact (show False from ho).elim
theorem se_mk {p : Pos} {g : FA} (M : MkOk X.K X.mg c fi) (C : XDef X fi k n dvs F) (tk : Takes X W) (hr : Room (k + 1) X.A) (ha : SA X W (e :: es) g) (hg : Gl X c.x := by rfl) (hdb : (c.x == ("__debug__" : Str)) = false := by decide)
    (he : starEach (e :: es) X.env = (false, eval e X.env) :: starEach es X.env := by rfl) (hpl : (backTo pos (starEach es X.env)).any (·.1) = false := by rfl) :
    SE X W (.Call (.Name c.x p) (e :: es) [] pos) (cA (mkP c n F dvs) g) := by
  refine ⟨fun pins s σ H Q I ⟨w, ρ, S, a, h⟩ => wpAny_Call_Name_kw (ld_glob I hg M.gl ?_ hdb)⟩
  refine PySem.W.callWith_K (h₀ := X.base) I.ok.mod.kin M.mm.kp (thn (ha.run pos pins s σ H (fun vs H1 => ∃ w1 S1 l, Step w H w1 H1 ∧ At X.K w1 σ H1 ρ S1 ∧ DReps X.K w1 H1 vs l ∧ oR X.K W σ w1 H1 (qE X.K Q) (mkP c n F dvs l S1)) I ?_)
    fun us s1 ⟨vs, H1, I1, r, w1, S1, l, st, a1, dr, h1⟩ => ⟨I1.kIn, go_mk M C tk hr I1 r a1.st dr h1⟩) he hpl
  exact tA_of a (oR_bind a.ok h) fun w1 H1 S1 l vs st a1 h1 r => ⟨w1, S1, l, st, a1, r, h1⟩
theorem se_mk0 {p : Pos} (M : MkOk X.K X.mg c fi) (C : XDef X fi k n dvs F) (tk : Takes X W) (hr : Room (k + 1) X.A) (hg : Gl X c.x := by rfl) (hdb : (c.x == ("__debug__" : Str)) = false := by decide) :
    SE X W (.Call (.Name c.x p) [] [] pos) (cA (mkP c n F dvs) aNil) := by
  refine ⟨fun pins s σ H Q I ⟨w, ρ, S, a, h⟩ => wpAny_Call_Name_kw (ld_glob I hg M.gl ?_ hdb)⟩
  exact PySem.W.callWith_K0 I.kIn M.mm.kp (go_mk (us := []) M C tk hr I .nil a.st .nil h)
end
end FR

set_option Elab.async false
set_option linter.all false
set_option maxRecDepth 100000
set_option maxHeartbeats 1000000
namespace FR
open PySem PySem.Spec PyProof.Rows L2

/-! ### what is walked -/
/-- what must stay as it is while a cell is walked -/
def chk : Option (Nat × List D) → Store → Prop
  | none, _ => True
  | some (n, l), S => S[n]? = some (.lst l)
abbrev Src := List D × Option (Nat × List D)
def ItOk (K : PySem.W.Frag) (J : It) (w : Wd) (H : Hp) (C : Store → Prop) (items : List D) : Prop :=
  ∀ w' H' S, Step w H w' H' → SRep K w' H' S → C S → ∀ i, (items.length ≤ i → J.stop i H') ∧ ∀ d, items[i]? = some d → J.go i H' ∧ ∀ x H'', J.yld i H' x H'' → Step w' H' w' H'' ∧ SRep K w' H'' S ∧ DRep K w' H'' x d
def tI (K : PySem.W.Frag) (W : WX) (f : Env → Store → R Src) : TI := fun σ H Rr => ∃ w ρ S, At K w σ H ρ S ∧ oR K W σ w H (fun w' H' _ src => ∀ J, ItOk K J w' H' (chk src.2) src.1 → Rr J H') (f ρ S)
abbrev SI (X : Cx) (W : WX) (tg iter : Expr) (f : Env → Store → R Src) : Prop := PI X tg iter (tI X.K W f)
theorem _root_.L2.PI.imp {X : Cx} {tg iter : Expr} {t t' : TI} (h : PI X tg iter t) (hi : ∀ σ H Q, t' σ H Q → t σ H Q) : PI X tg iter t' := ⟨fun pins s σ H Q I q => h.run pins s σ H Q I (hi _ _ _ q)⟩
section
open Classical
/-- for: turn by turn -/
noncomputable def forD (o : Option (Nat × List D)) (g : FG) (b : FC) : List D → FC
  | [] => fun ρ S => if chk o S then .nx ρ S else .stuck
  | d :: ds => fun ρ S => if chk o S then (g d ρ S).toS ρ fun ρ1 S1 => (match b ρ1 S1 with
    | .nx ρ2 S2 => forD o g b ds ρ2 S2
    | .ct ρ2 S2 => forD o g b ds ρ2 S2
    | .bk ρ2 S2 => .nx ρ2 S2
    | r => r) else .stuck
noncomputable def sFor (fi : Env → Store → R Src) (g : FG) (b : FC) : FC := fun ρ S => (fi ρ S).toS ρ fun src S1 => forD src.2 g b src.1 ρ S1
end
section
variable {X : Cx} {W : WX} {e : Expr} {es : List Expr} {pos : Pos}
theorem imp_for {tg : Expr} {fi : Env → Store → R Src} {g : FG} {b : FC} (D0 : Ends) (σ : L2.St) (H : Hp) (h : tS X.K W (sFor fi g b) D0 σ H) :
    tFor (tI X.K W fi) (fun v σ H Q => ∃ w ρ S d, At X.K w σ H ρ S ∧ DRep X.K w H v d ∧ oR X.K W σ w H (qG X.K Q) (g d ρ S)) (tS X.K W b) D0 σ H := by
  obtain ⟨w, ρ, S, a, h⟩ := h
  refine ⟨w, ρ, S, a, oR_imp (oS_toS a.ok a.sl h) fun w1 H1 S1 src st1 sr1 h1 J hJ => ?_⟩
  obtain ⟨items, o⟩ := src
  have a1 : At X.K w1 σ H1 ρ S1 := a.to st1 sr1
  refine ⟨fun i m σ' H' => m + i = items.length ∧ ∃ w' ρ' S', Step w1 H1 w' H' ∧ At X.K w' σ' H' ρ' S' ∧ oS X.K W w' H' D0 (forD o g b (items.drop i) ρ' S'), ⟨items.length, rfl, w1, ρ, S1, Step.refl _ _ a1.ok, a1, h1⟩, ?_⟩
  rintro i m σ' H' ⟨hm, w', ρ', S', st', a', h'⟩
  cases hd : items[i]? with
  | none =>
    have hl : items.length ≤ i := List.getElem?_eq_none_iff.mp hd
    rw [List.drop_eq_nil_of_le hl] at h'
    unfold forD at h'
    split at h'
    · rename_i hc
      exact .inl ⟨(hJ w' H' S' st' a'.st hc i).1 hl, oS_nx a' h'⟩
    · exact h'.elim
  | some d =>
    have hl : i < items.length := by
      rcases Nat.lt_or_ge i items.length with q | q
      · exact q
      · rw [List.getElem?_eq_none q] at hd; cases hd
    have hdr : items.drop i = d :: items.drop (i + 1) := by
      rw [List.drop_eq_getElem_cons hl]
      rw [List.getElem?_eq_getElem hl] at hd
      cases hd; rfl
    rw [hdr] at h'
    unfold forD at h'
    split at h'
    · rename_i hc
      obtain ⟨hgo, hy⟩ := (hJ w' H' S' st' a'.st hc i).2 d hd
      refine .inr ⟨hgo, fun σ2 H2 => ∃ m', m' < m ∧ (m' + (i + 1) = items.length ∧ ∃ w'' ρ'' S'', Step w1 H1 w'' H2 ∧ At X.K w'' σ2 H2 ρ'' S'' ∧ oS X.K W w'' H2 D0 (forD o g b (items.drop (i + 1)) ρ'' S'')), fun σ2 H2 z => z, fun x H2 y => ?_⟩
      obtain ⟨st2, sr2, dr⟩ := hy x H2 y
      have a2 : At X.K w' σ' H2 ρ' S' := a'.to st2 sr2
      refine ⟨w', ρ', S', d, a2, dr, oR_imp (oS_toS a2.ok a2.sl (oS_step a'.ok st2 h')) fun w3 H3 S3 ρ3 st3 sr3 h3 σ3 sl3 => ?_⟩
      refine ⟨w3, ρ3, S3, ⟨sr3, sl3⟩, ?_⟩
      have base : Step w1 H1 w3 H3 := (st'.trans a1.ok st2).trans a1.ok st3
      revert h3
      cases b ρ3 S3 with
      | nx ρ4 S4 => exact fun h3 w4 H4 σ4 st4 sr4 sl4 => ⟨m - 1, by omega, by omega, w4, ρ4, S4, base.trans a1.ok st4, ⟨sr4, sl4⟩, oS_step sr3.ok st4 h3⟩
      | ct ρ4 S4 => exact fun h3 w4 H4 σ4 st4 sr4 sl4 => ⟨m - 1, by omega, by omega, w4, ρ4, S4, base.trans a1.ok st4, ⟨sr4, sl4⟩, oS_step sr3.ok st4 h3⟩
      | bk ρ4 S4 => exact fun h3 w4 H4 σ4 st4 sr4 sl4 => h3 w4 H4 σ4 st4 sr4 sl4
      | ret d4 S4 => exact fun h3 => h3
      | exc x4 ρ4 S4 => exact fun h3 => h3
      | stuck => exact fun h3 => h3
    · exact h'.elim
theorem ss_for {tg iter : Expr} {body : List Stmt} {fi : Env → Store → R Src} {g : FG} {b : FC} (hc : X.calm = true) (hp : PassesOwn (model X.prog X.w) X.A X.env X.xe) (hi : SI X W tg iter fi) (hg : SG X W tg g) (hb : SSs X W body b) (hs : ∀ x, foldedSetIterable iter X.env x = pure x := by intro _; rfl) :
    SS X W (.For tg iter body [] pos) (sFor fi g b) := (ps_for hp hc hi hg hb hs).imp fun D0 σ H h => imp_for (tg := tg) D0 σ H h

/-! ### sources -/
def srcL : D → Store → R Src := fun d S => match d with
  | .p (.lst l) => .ok (l.map .p, none) S
  | .p (.scr l) => .ok (l.map .p, none) S
  | .r n => match S[n]? with
    | some (.lst l) => .ok (l, some (n, l)) S
    | _ => .stuck
  | _ => .stuck
def srcT : D → Store → R Src := fun d S => match d with
  | .p (.tup l) => .ok (l.map .p, none) S
  | _ => .stuck
def iOf (s : D → Store → R Src) (f : FE) : Env → Store → R Src := fun ρ S => (f ρ S).bind fun d S1 => s d S1
/-- a list, as it is walked -/
theorem walk_list {K : PySem.W.Frag} {w : Wd} {H : Hp} {a : Addr} {items : List D} {C : Store → Prop} (J : It)
    (hs : ∀ w' H' S, Step w H w' H' → SRep K w' H' S → C S → ∃ vs, SqL K H' a vs ∧ DReps K w' H' vs items)
    (h1 : ∀ i H' xs, SqL K H' a xs → xs.length ≤ i → J.stop i H') (h2 : ∀ i H' xs x, SqL K H' a xs → xs[i]? = some x → J.go i H')
    (h3 : ∀ i H' xs x y H'', SqL K H' a xs → xs[i]? = some x → J.yld i H' y H'' → ∀ w' S d, SRep K w' H' S → DRep K w' H' x d → items[i]? = some d → Step w' H' w' H'' ∧ SRep K w' H'' S ∧ DRep K w' H'' y d) : ItOk K J w H C items := by
  intro w' H' S st sr hc i
  obtain ⟨vs, hq, r⟩ := hs w' H' S st sr hc
  refine ⟨fun hl => h1 i H' vs hq (by rw [r.length]; exact hl), fun d hd => ?_⟩
  obtain ⟨v, e1, e2⟩ := r.get hd
  exact ⟨h2 i H' vs v hq e1, fun x H'' y => h3 i H' vs v x H'' hq e1 y w' S d sr e2 hd⟩
theorem src_list {K : PySem.W.Frag} {w : Wd} {H : Hp} {S : Store} {v : V} {d : D} {src : Src} {S1 : Store} (sr : SRep K w H S) (r : DRep K w H v d) (h : srcL d S = .ok src S1) :
    ∃ a, v = .ref a ∧ (∃ xs, SqL K H a xs) ∧ ∀ w' H' S, Step w H w' H' → SRep K w' H' S → chk src.2 S → ∃ vs, SqL K H' a vs ∧ DReps K w' H' vs src.1 := by
  unfold srcL at h
  split at h
  · cases h
    cases r with
    | lst hh rr => exact ⟨_, rfl, ⟨_, hh.sq⟩, fun w' H' S st sr' _ => ⟨_, (st.lst sr.ok hh).sq, Reps.ds (w := w') (Reps.step sr.ok st rr)⟩⟩
  · cases h
    cases r with
    | scr hh rr => exact ⟨_, rfl, ⟨_, hh.elim (fun z => z.sq) sqK⟩, fun w' H' S st sr' _ => ⟨_, hh.elim (fun z => (st.lst sr.ok z).sq) sqK, Reps.ds (w := w') (Reps.step sr.ok st rr)⟩⟩
  · rename_i n
    split at h
    · rename_i l e
      cases h
      obtain ⟨a, vs, e1, e2, e3⟩ := sr.cell n _ e
      refine ⟨a, r.2 a e1, ⟨vs, .inl (.inl e2)⟩, fun w' H' S' st sr' hc => ?_⟩
      obtain ⟨a', vs', f1, f2, f3⟩ := sr'.cell n _ (show S'[n]? = some (.lst l) from hc)
      have := st.old n a' r.1 f1
      rw [e1] at this
      cases this
      exact ⟨vs', .inl (.inl f2), f3⟩
    · cases h
  · cases h
theorem src_same {d : D} {S S1 : Store} {src : Src} (h : srcL d S = .ok src S1) : S1 = S := by
  unfold srcL at h
  split at h
  · cases h; rfl
  · cases h; rfl
  · split at h
    · cases h; rfl
    · cases h
  · cases h
theorem si_list {tg : Expr} {f : FE} (he : SE X W e f) : SI X W tg e (iOf srcL f) := (pi_list he).imp fun σ H Q ⟨w, ρ, S, a, h⟩ => tE_of a (oR_bind a.ok h) fun w1 H1 S1 d v st a1 h1 r => by
  cases q : srcL d S1 with
  | ok src S2 =>
    rw [q] at h1
    obtain ⟨ad, rfl, hx, hs⟩ := src_list a1.st r q
    cases src_same q
    refine ⟨ad, rfl, hx, h1 w1 H1 (Step.refl _ _ a1.ok) a1.st _ (walk_list _ hs ?_ ?_ ?_)⟩
    · exact fun i H' xs hq hl => ⟨xs, hq, hl⟩
    · exact fun i H' xs x hq hx => ⟨xs, x, hq, hx⟩
    · rintro i H' xs x y H'' hq hx ⟨rfl, hy⟩ w' S' d' sr' dr _
      have := hy xs hq
      rw [hx] at this
      cases this
      exact ⟨Step.refl _ _ sr'.ok, sr', dr⟩
  | exc x S2 =>
    unfold srcL at q
    split at q
    · cases q
    · cases q
    · split at q <;> cases q
    · cases q
  | stuck => rw [q] at h1; exact h1.elim
theorem si_tup {tg : Expr} {f : FE} (he : SE X W e f) : SI X W tg e (iOf srcT f) := (pi_tup he).imp fun σ H Q ⟨w, ρ, S, a, h⟩ => tE_of a (oR_bind a.ok h) fun w1 H1 S1 d v st a1 h1 r => by
  unfold srcT at h1
  split at h1
  · cases r with
    | tup hh rr =>
      rename_i l ad vs
      refine ⟨ad, rfl, ⟨vs, hh⟩, h1 w1 H1 (Step.refl _ _ a1.ok) a1.st _ fun w' H' S' st' sr' _ i => ?_⟩
      have hq := st'.sqT hh
      have dr := Reps.ds (w := w') (Reps.step a1.ok st' rr)
      refine ⟨fun hl => ⟨vs, hq, by rw [dr.length]; exact hl⟩, fun d hd => ?_⟩
      obtain ⟨v, e1, e2⟩ := dr.get hd
      refine ⟨⟨vs, v, hq, e1⟩, fun x H'' y => ?_⟩
      obtain ⟨rfl, hy⟩ := y
      have := hy vs hq
      rw [e1] at this
      cases this
      exact ⟨Step.refl _ _ sr'.ok, sr', e2⟩
  · exact h1.elim
/-- the numbers lo, lo + 1, .. -/
def upTo (lo : Int) (n : Nat) : List D := (List.range n).map fun i => .p (.int (lo + (i : Nat)))
def srcR1 : List D → Store → R Src := fun ds S => match ds with
  | [.p (.int j)] => if -(2 ^ 62) ≤ j ∧ j < 2 ^ 62 then .ok (upTo 0 j.toNat, none) S else .stuck
  | _ => .stuck
def srcR2 : List D → Store → R Src := fun ds S => match ds with
  | [.p (.int i), .p (.int j)] => if -(2 ^ 62) ≤ i ∧ i < 2 ^ 62 ∧ -(2 ^ 62) ≤ j ∧ j < 2 ^ 62 then .ok (upTo i (j - i).toNat, none) S else .stuck
  | _ => .stuck
def iOfA (s : List D → Store → R Src) (f : FA) : Env → Store → R Src := fun ρ S => (f ρ S).bind fun d S1 => s d S1
theorem walk_range {K : PySem.W.Frag} {w : Wd} {H : Hp} (lo : Int) (n : Nat) : ItOk K (Itr lo n) w H (chk none) (upTo lo n) := by
  intro w' H' S st sr _ i
  unfold upTo
  refine ⟨fun hl => ?_, fun d hd => ?_⟩
  · rw [List.length_map, List.length_range] at hl; exact hl
  · rw [List.getElem?_map] at hd
    rcases Nat.lt_or_ge i n with q | q
    · rw [List.getElem?_range q] at hd
      cases hd
      exact ⟨q, fun x H'' ⟨e1, e2⟩ => by subst e1; subst e2; exact ⟨Step.refl _ _ sr.ok, sr, .int _⟩⟩
    · rw [List.getElem?_eq_none (by rw [List.length_range]; exact q)] at hd; cases hd
theorem reps1 {K : PySem.W.Frag} {w : Wd} {H : Hp} {vs : List V} {i : Int} (r : DReps K w H vs [.p (.int i)]) : vs = [.int i] := by
  cases r with
  | cons h t => cases t; rw [rep_int h]
theorem reps2 {K : PySem.W.Frag} {w : Wd} {H : Hp} {vs : List V} {i j : Int} (r : DReps K w H vs [.p (.int i), .p (.int j)]) : vs = [.int i, .int j] := by
  cases r with
  | cons h t => rw [rep_int h, reps1 t]
theorem si_range1 {tg a : Expr} {f : FA} {p : Pos} (hm : X.mg "range" = none) (ha : SA X W [a] f) (hg : Gl X "range" := by rfl) (hs : starEach [a] X.env = [(false, eval a X.env)] := by rfl) : SI X W tg (.Call (.Name "range" p) [a] [] pos) (iOfA srcR1 f) :=
  (pi_range1 hg hm ha hs).imp fun σ H Q ⟨w, ρ, S, a, h⟩ => tA_of a (oR_bind a.ok h) fun w1 H1 S1 d v st a1 h1 r => by
    unfold srcR1 at h1
    split at h1
    · split at h1
      · rename_i j hj
        exact ⟨j, reps1 r, hj.1, hj.2, h1 w1 H1 (Step.refl _ _ a1.ok) a1.st _ (walk_range 0 _)⟩
      · exact h1.elim
    · exact h1.elim
theorem si_range2 {tg a b : Expr} {f : FA} {p : Pos} (hm : X.mg "range" = none) (ha : SA X W [a, b] f) (hg : Gl X "range" := by rfl) (hs : starEach [a, b] X.env = [(false, eval a X.env), (false, eval b X.env)] := by rfl) (hs2 : starEach [b] X.env = [(false, eval b X.env)] := by rfl) :
    SI X W tg (.Call (.Name "range" p) [a, b] [] pos) (iOfA srcR2 f) :=
  (pi_range2 hg hm ha hs hs2).imp fun σ H Q ⟨w, ρ, S, a, h⟩ => tA_of a (oR_bind a.ok h) fun w1 H1 S1 d v st a1 h1 r => by
    unfold srcR2 at h1
    split at h1
    · split at h1
      · rename_i i j hj
        exact ⟨i, j, reps2 r, hj, h1 w1 H1 (Step.refl _ _ a1.ok) a1.st _ (walk_range i _)⟩
      · exact h1.elim
    · exact h1.elim
end
end FR

set_option Elab.async false
set_option linter.all false
set_option maxRecDepth 100000
set_option maxHeartbeats 1000000
namespace FR
open PySem PySem.Spec PyProof.Rows L2

/-! ### targets, slot by slot -/
abbrev FGp := D → Env → Option Env
def wipeD (ρ : Env) : List Nat → Env
  | [] => ρ
  | v :: vs => (wipeD ρ vs).set v none
theorem Slots.setNone {K : PySem.W.Frag} {w : Wd} {H : Hp} : ∀ {σ : L2.St} {ρ : Env} (i : Nat), Slots K w H σ ρ → Slots K w H (σ.set i none) (ρ.set i none)
  | _, _, _, .nil => .nil
  | _, _, 0, .emp t => .emp t
  | _, _, i + 1, .emp t => .emp (t.setNone i)
  | _, _, 0, .has _ t => .emp t
  | _, _, i + 1, .has h t => .has h (t.setNone i)
theorem Slots.wipe {K : PySem.W.Frag} {w : Wd} {H : Hp} {σ : L2.St} {ρ : Env} (h : Slots K w H σ ρ) : ∀ vs : List Nat, Slots K w H (L2.wipe σ vs) (wipeD ρ vs)
  | [] => h
  | v :: vs => (h.wipe vs).setNone v
theorem wipe_set {σ : L2.St} {i : Nat} {x : Option V} : ∀ {vs : List Nat}, i ∈ vs → L2.wipe (σ.set i x) vs = L2.wipe σ vs
  | [], h => by simp at h
  | v :: vs, h => by
    show (L2.wipe (σ.set i x) vs).set v none = (L2.wipe σ vs).set v none
    by_cases hi : i ∈ vs
    · rw [wipe_set hi]
    · have e : i = v := by
        rcases List.mem_cons.mp h with q | q
        · exact q
        · exact absurd q hi
      subst e
      have aux : ∀ us : List Nat, i ∉ us → L2.wipe (σ.set i x) us = (L2.wipe σ us).set i x := by
        intro us
        induction us with
        | nil => intro _; rfl
        | cons u us ih =>
          intro hu
          show (L2.wipe (σ.set i x) us).set u none = ((L2.wipe σ us).set u none).set i x
          rw [ih (fun z => hu (List.mem_cons_of_mem _ z)), List.set_comm]
          exact fun z => hu (by rw [z]; exact List.mem_cons_self)
      rw [aux vs hi, List.set_set]
structure TgOk (K : PySem.W.Frag) (t : TG) (f : FGp) (own : List Nat) : Prop where
  run : ∀ w H σ ρ v d ρ', Slots K w H σ ρ → DRep K w H v d → f d ρ = some ρ' → ∃ σ', Slots K w H σ' ρ' ∧ (∀ Q : L2.St → Hp → Prop, Q σ' H → t v σ H Q) ∧ ∀ vs, (∀ i ∈ own, i ∈ vs) → L2.wipe σ' vs = L2.wipe σ vs
structure TgsOk (K : PySem.W.Frag) (t : TGs) (f : List P → Env → Option Env) (own : List Nat) : Prop where
  run : ∀ w H σ ρ vs l ρ', Slots K w H σ ρ → Reps K w.L H vs l → f l ρ = some ρ' → ∃ σ', Slots K w H σ' ρ' ∧ (∀ Q : L2.St → Hp → Prop, Q σ' H → t vs σ H Q) ∧ ∀ us, (∀ i ∈ own, i ∈ us) → L2.wipe σ' us = L2.wipe σ us
def pNm (i : Nat) : FGp := fun d ρ => some (ρ.set i (some d))
def pNil : List P → Env → Option Env := fun l ρ => match l with
  | [] => some ρ
  | _ => none
def pCons (f : FGp) (g : List P → Env → Option Env) : List P → Env → Option Env := fun l ρ => match l with
  | a :: r => (f (.p a) ρ).bind fun ρ1 => g r ρ1
  | _ => none
def pTup (n : Nat) (g : List P → Env → Option Env) : FGp := fun d ρ => match d with
  | .p (.tup l) => if l.length = n then g l ρ else none
  | _ => none
theorem tg_nm (K : PySem.W.Frag) (i : Nat) : TgOk K (gName i) (pNm i) [i] :=
  ⟨fun w H σ ρ v d ρ' sl r h => by
    cases h
    exact ⟨σ.set i (some v), sl.set r i, fun Q q => q, fun vs hv => wipe_set (hv i (by simp))⟩⟩
theorem tgs_nil (K : PySem.W.Frag) : TgsOk K gNil pNil [] :=
  ⟨fun w H σ ρ vs l ρ' sl r h => by
    cases r with
    | nil => cases h; exact ⟨σ, sl, fun Q q => ⟨rfl, q⟩, fun _ _ => rfl⟩
    | cons _ _ => cases h⟩
theorem tgs_cons {K : PySem.W.Frag} {t : TG} {u : TGs} {f : FGp} {g : List P → Env → Option Env} {o1 o2 : List Nat} (a : TgOk K t f o1) (b : TgsOk K u g o2) : TgsOk K (gCons t u) (pCons f g) (o1 ++ o2) :=
  ⟨fun w H σ ρ vs l ρ' sl r h => by
    cases r with
    | nil => cases h
    | cons h1 h2 =>
      rename_i v p vs l
      cases q : f (.p p) ρ with
      | none => rw [show pCons f g (p :: l) ρ = (f (.p p) ρ).bind fun ρ1 => g l ρ1 from rfl, q] at h; cases h
      | some ρ1 =>
        rw [show pCons f g (p :: l) ρ = (f (.p p) ρ).bind fun ρ1 => g l ρ1 from rfl, q] at h
        obtain ⟨σ1, s1, q1, k1⟩ := a.run w H σ ρ v (.p p) ρ1 sl h1 q
        obtain ⟨σ2, s2, q2, k2⟩ := b.run w H σ1 ρ1 vs l ρ' s1 h2 h
        exact ⟨σ2, s2, fun Q z => ⟨v, vs, rfl, q1 _ (q2 Q z)⟩, fun us hu => (k2 us fun i hi => hu i (List.mem_append_right _ hi)).trans (k1 us fun i hi => hu i (List.mem_append_left _ hi))⟩⟩
theorem tg_tup {K : PySem.W.Frag} {u : TGs} {g : List P → Env → Option Env} {own : List Nat} {n : Nat} (b : TgsOk K u g own) : TgOk K (gTup K n u) (pTup n g) own :=
  ⟨fun w H σ ρ v d ρ' sl r h => by
    unfold pTup at h
    split at h
    · split at h
      · rename_i l hl
        cases r with
        | tup hh rr =>
          rename_i ad vs
          obtain ⟨σ', s', q', k'⟩ := b.run w H σ ρ vs l ρ' sl rr h
          exact ⟨σ', s', fun Q z => ⟨ad, vs, rfl, hh, by rw [Reps.length rr]; exact hl, q' Q z⟩, k'⟩
      · cases h
    · cases h⟩
def gOf (f : FGp) : FG := fun d ρ S => match f d ρ with
  | some ρ' => .ok ρ' S
  | none => .stuck
theorem sg_of {X : Cx} {W : WX} {tg : Expr} {t : TG} {f : FGp} {own : List Nat} (h : PG X tg t) (ok : TgOk X.K t f own) : SG X W tg (gOf f) :=
  ⟨fun pins s σ H v u Q I r ⟨w, ρ, S, d, a, dr, o⟩ => by
    unfold gOf at o
    split at o
    · rename_i ρ' e
      obtain ⟨σ', s', q', _⟩ := ok.run w H σ ρ v d ρ' a.sl dr e
      exact h.run pins s σ H v u Q I r (q' Q (o w H (Step.refl _ _ a.ok) a.st σ' s'))
    · exact o.elim⟩
section
variable {X : Cx} {W : WX} {e : Expr} {es : List Expr} {pos : Pos}
/-- target = e -/
theorem ss_asg {tg : Expr} {f : FE} {t : TG} {g : FGp} {own : List Nat} (he : SE X W e f) (hg : PG X tg t) (ok : TgOk X.K t g own) (hs : swapsWithSole [tg] e pos.line X.env = pure false := by rfl) (hw : swappedStores [tg] e X.env = pure none := by rfl) (h1 : (assignEach [tg] X.env).map (·.2) = [assign tg X.env] := by rfl) :
    SS X W (.Assign [tg] e pos) (sAsg f (gOf g)) :=
  (ps_asg he hg hs hw h1).imp fun D0 σ H ⟨w, ρ, S, a, h⟩ => tS_tE a h fun w1 H1 S1 d v st a1 r h1 => by
    unfold gOf at h1
    cases q : g d ρ with
    | none => rw [q] at h1; exact h1.elim
    | some ρ' =>
      rw [q] at h1
      obtain ⟨σ', s', q', _⟩ := ok.run w1 H1 σ ρ v d ρ' a1.sl r q
      exact q' _ (h1 w1 H1 σ' (Step.refl _ _ a1.ok) a1.st s')
/-- x op= e -/
theorem ss_aug (i : Nat) {x : Str} {f : FE} {op : Operator} {g : D → D → Store → R D} {pos' : Pos} {ti : TIp} (hN : X.N.Nodup) (he : SE X W e f) (ho : PIp X op ti)
    (hti : ∀ (σ : L2.St) (H : Hp) (w : Wd) (ρ : Env) (S : Store) (x y : V) (dx dy : D) (Q : VK), At X.K w σ H ρ S → DRep X.K w H x dx → DRep X.K w H y dy → oR X.K W σ w H (qE X.K Q) (g dx dy S) → ti x y H Q)
    (hi : X.N[i]? = some x := by rfl) (hx : Loc X.env.scope x := by first | exact Or.inl rfl | exact Or.inr rfl) (hf : X.fn x = true ∨ X.env.scope.names.lookup x = some .local := by first | exact .inl rfl | exact .inr rfl) :
    SS X W (.AugAssign (.Name x pos') op e pos) (sAug i g f) :=
  (ps_aug hN hi hx he ho hf).imp fun D0 σ H ⟨w, ρ, S, a, h⟩ => by
    unfold sAug at h
    split at h
    · rename_i d0 e0
      obtain ⟨v0, hv0, r0⟩ := a.sl.get e0
      refine ⟨v0, hv0, tS_tE a h fun w1 H1 S1 d v st a1 r h1 => ?_⟩
      refine hti σ H1 w1 ρ S1 v0 v d0 d _ a1 (r0.step a.ok st) r ?_
      exact oR_imp (oS_toS a1.ok a1.sl h1) fun w2 H2 S2 z st2 sr2 h2 u ru => h2 w2 H2 _ (Step.refl _ _ sr2.ok) sr2 ((a1.sl.step a1.ok st2).set ru i)
    · exact h.elim
theorem aug_addI (σ : L2.St) (H : Hp) (w : Wd) (ρ : Env) (S : Store) (x y : V) (dx dy : D) (Q : VK) (a : At X.K w σ H ρ S) (r1 : DRep X.K w H x dx) (r2 : DRep X.K w H y dy) (q : oR X.K W σ w H (qE X.K Q) (gAddI dx dy S)) : ipI (fun i j => i + j) x y H Q := by
  unfold gAddI gII at q
  split at q
  · obtain rfl := rep_int r1
    obtain rfl := rep_int r2
    exact ⟨_, _, rfl, rfl, oE_ok a.st q (.int _)⟩
  · exact q.elim
theorem aug_subI (σ : L2.St) (H : Hp) (w : Wd) (ρ : Env) (S : Store) (x y : V) (dx dy : D) (Q : VK) (a : At X.K w σ H ρ S) (r1 : DRep X.K w H x dx) (r2 : DRep X.K w H y dy) (q : oR X.K W σ w H (qE X.K Q) (gSubI dx dy S)) : ipI (fun i j => i - j) x y H Q := by
  unfold gSubI gII at q
  split at q
  · obtain rfl := rep_int r1
    obtain rfl := rep_int r2
    exact ⟨_, _, rfl, rfl, oE_ok a.st q (.int _)⟩
  · exact q.elim
/-- a, b = e1, e2 of two local names -/
def sPar (i j : Nat) (f : FA) : FC := fun ρ S => (f ρ S).toS ρ fun l S1 => match l with
  | [d1, d2] => .nx ((ρ.set i (some d1)).set j (some d2)) S1
  | _ => .stuck
theorem imp_par {K : PySem.W.Frag} {i j : Nat} {f : FA} (D0 : Ends) (σ : L2.St) (H : Hp) (h : tS K W (sPar i j f) D0 σ H) : tPar i j (tA K W f) D0 σ H := by
  obtain ⟨w, ρ, S, a, h⟩ := h
  refine tS_tA a h fun w1 H1 S1 l vs st a1 r h1 => ?_
  split at h1
  · rename_i d1 d2
    cases r with
    | cons ra rb =>
      cases rb with
      | cons rb rc =>
        cases rc
        exact ⟨_, _, rfl, h1 w1 H1 _ (Step.refl _ _ a1.ok) a1.st ((a1.sl.set ra i).set rb j)⟩
  · exact h1.elim

/-! ### comprehensions -/
def belowD (n : Nat) : D → Bool
  | .p _ => true
  | .r m => decide (m < n)
def Cell.below (n : Nat) : Cell → Bool
  | .dead => true
  | .lst l => l.all (belowD n)
  | .ins _ gs => gs.all fun x => belowD n x.2
  | .dK l => l.all fun x => belowD n x.2
@[simp] theorem below_map (n : Nat) (l : List P) : (l.map D.p).all (belowD n) = true := by
  rw [List.all_eq_true]; intro d hd; obtain ⟨q, _, rfl⟩ := List.mem_map.mp hd; rfl
abbrev W0 : WX := fun _ _ _ _ => False
section
open Classical
noncomputable def lcD (o : Option (Nat × List D)) (n0 : Nat) (g : FGp) (t : FT) (f : FE) (ρ0 : Env) : List D → Store → R Unit
  | [], S => if chk o S then .ok () S else .stuck
  | d :: ds, S => if chk o S then (match g d ρ0 with
    | none => .stuck
    | some ρ1 => (match t ρ1 S with
      | .ok true S2 => (match f ρ1 S2 with
        | .ok y S3 => (match S3[n0]? with
          | some (.lst acc) => if acc.length < 1000000 then lcD o n0 g t f ρ0 ds (S3.set n0 (.lst (acc ++ [y]))) else .stuck
          | _ => .stuck)
        | _ => .stuck)
      | .ok false S2 => lcD o n0 g t f ρ0 ds S2
      | _ => .stuck)) else .stuck
/-- what a comprehension hands on: a list that stands still -/
def lcEnd (n0 : Nat) : Unit → Store → R D := fun _ S => match S[n0]? with
  | some (.lst l) => (match pureL l with
    | some k => if (S.take n0).all (Cell.below n0) = true then .ok (.p (.lst k)) (S.take n0) else .stuck
    | none => .stuck)
  | _ => .stuck
noncomputable def fLc (fi : Env → Store → R Src) (g : FGp) (t : FT) (f : FE) (own : List Nat) : FE := fun ρ S => (fi ρ S).bind fun src S1 => (lcD src.2 S1.length g t f (wipeD ρ own) src.1 (S1 ++ [.lst []])).bind (lcEnd S1.length)
end
/-- the world without the cells from n0 on -/
def Wd.cut (w : Wd) (n0 : Nat) : Wd := ⟨fun n => if n < n0 then w.α n else none, fun a => w.L a ∧ ¬ ∃ n, n0 ≤ n ∧ w.α n = some a, n0⟩
theorem cut_at {w : Wd} {n0 n : Nat} {a : Addr} (e : (w.cut n0).α n = some a) : n < n0 ∧ w.α n = some a := by
  have e' : (if n < n0 then w.α n else none) = some a := e
  by_cases q : n < n0
  · rw [if_pos q] at e'; exact ⟨q, e'⟩
  · rw [if_neg q] at e'; cases e'
theorem cut_rep {K : PySem.W.Frag} {w : Wd} {H : Hp} {n0 : Nat} {v : V} {d : D} (hb : belowD n0 d = true) (r : DRep K w H v d) : DRep K (w.cut n0) H v d := by
  cases d with
  | p q => exact Rep.shrink (fun a z => z.1) r
  | r m => exact ⟨of_decide_eq_true hb, fun a e => r.2 a (cut_at e).2⟩
theorem cut_reps {K : PySem.W.Frag} {w : Wd} {H : Hp} {n0 : Nat} : ∀ {vs : List V} {l : List D}, l.all (belowD n0) = true → DReps K w H vs l → DReps K (w.cut n0) H vs l
  | _, _, _, .nil => .nil
  | _, _, hb, .cons h t => by
    rw [List.all_cons, Bool.and_eq_true] at hb
    exact .cons (cut_rep hb.1 h) (cut_reps hb.2 t)
theorem cut_repF {K : PySem.W.Frag} {w : Wd} {H : Hp} {n0 : Nat} : ∀ {fs : List (Str × V)} {l : List (Fld × D)}, (l.all fun x => belowD n0 x.2) = true → DRepF K w H fs l → DRepF K (w.cut n0) H fs l
  | _, _, _, .nil => .nil
  | _, _, hb, .cons h t => by
    rw [List.all_cons, Bool.and_eq_true] at hb
    exact .cons (cut_rep hb.1 h) (cut_repF hb.2 t)
theorem cut_ok {K : PySem.W.Frag} {w0 w : Wd} {H0 H : Hp} {S : Store} (W1 : Wok w0 H0) (st : Step w0 H0 w H) (sr : SRep K w H S) (hb : (S.take w0.N).all (Cell.below w0.N) = true) : Step w0 H0 (w.cut w0.N) H ∧ SRep K (w.cut w0.N) H (S.take w0.N) := by
  have st2 : Step w0 H0 (w.cut w0.N) H := {
    n := Nat.le_refl _
    old := fun n a hn e => st.old n a hn (cut_at e).2
    new := fun n a hn e => absurd (cut_at e).1 (Nat.not_lt.mpr hn)
    kept := st.kept
    there := st.there
    l1 := fun a e => st.l1 a e.1
    l2 := fun a e => by
      rcases st.l2 a e with q | q
      · refine .inl ⟨q, fun ⟨n, hn, z⟩ => ?_⟩
        have h0 := st.new n a hn z
        have := W1.mu a e
        rw [h0] at this
        exact this
      · exact .inr q
    tups := st.tups
    frzs := st.frzs }
  refine ⟨st2, ⟨⟨fun n a e => (cut_at e).1, fun n a e => ⟨sr.ok.live n a (cut_at e).2, fun ⟨m, hm, z⟩ => ?_⟩, fun a e => sr.ok.mu a e.1, fun n m a e1 e2 => sr.ok.inj n m a (cut_at e1).2 (cut_at e2).2⟩, ?_, fun n c e => ?_⟩⟩
  · have := sr.ok.inj m n a z (cut_at e).2
    have := (cut_at e).1
    omega
  · show (S.take w0.N).length = w0.N
    rw [List.length_take, sr.len]
    have := st.n
    omega
  · have hn : n < w0.N := by
      rcases Nat.lt_or_ge n w0.N with q | q
      · exact q
      · rw [List.getElem?_eq_none (by rw [List.length_take]; omega)] at e; cases e
    have hbc := List.all_eq_true.mp hb c (List.mem_of_getElem? e)
    rw [List.getElem?_take_of_lt hn] at e
    have hα : ∀ a, w.α n = some a → (w.cut w0.N).α n = some a := fun a z => by
      show (if n < w0.N then w.α n else none) = some a
      rw [if_pos hn]; exact z
    have hc := sr.cell n c e
    cases c with
    | dead => trivial
    | lst l =>
      obtain ⟨a, vs, h1, h2, h3⟩ := hc
      exact ⟨a, vs, hα a h1, h2, cut_reps hbc h3⟩
    | ins c gs =>
      obtain ⟨a, dx, fs, h1, h2, h3⟩ := hc
      exact ⟨a, dx, fs, hα a h1, h2, cut_repF hbc h3⟩
    | dK l =>
      obtain ⟨a, kvs, h1, h2, h4, h3⟩ := hc
      exact ⟨a, kvs, hα a h1, h2, h4, cut_reps (by rw [List.all_map]; exact hbc) h3⟩
theorem imp_lc {K : PySem.W.Frag} {fi : Env → Store → R Src} {g : FGp} {tg : TG} {t : FT} {f : FE} {own o1 : List Nat} (ok : TgOk K tg g o1) (ho : ∀ i ∈ o1, i ∈ own) (σ : L2.St) (H : Hp) (Q : VK) (h : tE K W (fLc fi g t f own) σ H Q) :
    tLc (tI K W fi) tg (tT K W0 t) (tE K W0 f) own σ H Q := by
  obtain ⟨w, ρ, S, a, h⟩ := h
  refine ⟨w, ρ, S, a, oR_imp (oR_bind a.ok h) fun w1 H1 S1 src st1 sr1 h1 J hJ D0 hD => ?_⟩
  obtain ⟨items, o⟩ := src
  have a1 : At K w1 σ H1 ρ S1 := a.to st1 sr1
  obtain ⟨stD, srD⟩ := lay_cell (o := .lst []) (c := .lst []) sr1 hD trivial ⟨D0, [], add_self, upd_same, .nil⟩
  cases q : lcD o S1.length g t f (wipeD ρ own) items (S1 ++ [.lst []]) with
  | exc x Sf => exact absurd q (by
      clear q h1 hJ
      generalize S1 ++ [Cell.lst []] = S0
      induction items generalizing S0 with
      | nil => unfold lcD; split <;> simp
      | cons d ds ih =>
        unfold lcD
        split
        · split
          · simp
          · split
            · split
              · split
                · split
                  · exact ih _
                  · simp
                · simp
              · simp
            · exact ih _
            · simp
        · simp)
  | stuck => rw [show (⟨items, o⟩ : Src).1 = items from rfl, show (⟨items, o⟩ : Src).2 = o from rfl, q] at h1; exact h1.elim
  | ok u Sf =>
    rw [show (⟨items, o⟩ : Src).1 = items from rfl, show (⟨items, o⟩ : Src).2 = o from rfl, q] at h1
    refine ⟨fun i m H' => m + i = items.length ∧ ∃ w' S', Step (w1.add D0) (upd H1 D0 (.lst [])) w' H' ∧ SRep K w' H' S' ∧ lcD o S1.length g t f (wipeD ρ own) (items.drop i) S' = .ok u Sf, ⟨items.length, rfl, _, _, Step.refl _ _ srD.ok, srD, q⟩, ?_⟩
    rintro i m H' ⟨hm, w', S', st', sr', q'⟩
    have tot : Step w1 H1 w' H' := stD.trans sr1.ok st'
    have hαD : w'.α S1.length ≠ none → w'.α S1.length = some D0 := fun hne => by
      cases z : w'.α S1.length with
      | none => exact absurd z hne
      | some b =>
        have := st'.old S1.length b (by rw [sr1.len]; exact Nat.lt_succ_self _) z
        rw [sr1.len, add_self] at this
        rw [Option.some.inj this]
    cases hd : items[i]? with
    | none =>
      have hl : items.length ≤ i := List.getElem?_eq_none_iff.mp hd
      rw [List.drop_eq_nil_of_le hl] at q'
      unfold lcD at q'
      split at q'
      · rename_i hc
        injection q' with _ e2
        subst e2
        refine .inl ⟨(hJ w' H' S' tot sr' hc i).1 hl, ?_⟩
        rw [R.bind_ok] at h1
        unfold lcEnd at h1
        split at h1
        · rename_i l hS
          split at h1
          · rename_i k hk
            split at h1
            · rename_i hb
              rw [sr1.len] at hb h1
              obtain ⟨stF, srF⟩ := cut_ok sr1.ok tot sr' hb
              obtain ⟨ad, vs, e1, e2, e3⟩ := sr'.cell _ _ hS
              have ead := hαD (by rw [e1]; simp)
              rw [e1] at ead
              cases ead
              refine h1 _ H' stF srF (.ref D0) ?_
              rw [pureL_eq hk] at e3
              refine .lst (.inl ⟨e2, fun z => z.2 ⟨S1.length, by rw [sr1.len]; exact Nat.le_refl _, e1⟩⟩) (Reps.shrink (fun a z => z.1) e3.pure)
            · exact h1.elim
          · exact h1.elim
        · exact h1.elim
      · cases q'
    | some d =>
      have hl : i < items.length := by
        rcases Nat.lt_or_ge i items.length with z | z
        · exact z
        · rw [List.getElem?_eq_none z] at hd; cases hd
      have hdr : items.drop i = d :: items.drop (i + 1) := by
        rw [List.drop_eq_getElem_cons hl]
        rw [List.getElem?_eq_getElem hl] at hd
        cases hd; rfl
      rw [hdr] at q'
      unfold lcD at q'
      split at q'
      · rename_i hc
        obtain ⟨hgo, hy⟩ := (hJ w' H' S' tot sr' hc i).2 d hd
        refine .inr ⟨hgo, fun H2 => ∃ m', m' < m ∧ (m' + (i + 1) = items.length ∧ ∃ w'' S'', Step (w1.add D0) (upd H1 D0 (.lst [])) w'' H2 ∧ SRep K w'' H2 S'' ∧ lcD o S1.length g t f (wipeD ρ own) (items.drop (i + 1)) S'' = .ok u Sf), fun H2 z => z, fun x H2 y => ?_⟩
        obtain ⟨st2, sr2, dr⟩ := hy x H2 y
        have sl2 : Slots K w' H2 (L2.wipe σ own) (wipeD ρ own) := ((a1.sl.step sr1.ok tot).wipe own).step sr'.ok st2
        split at q'
        · cases q'
        · rename_i ρ1 hg
          obtain ⟨σ', s', qq, kk⟩ := ok.run w' H2 _ _ x d ρ1 sl2 dr hg
          refine qq _ ⟨?_, ?_⟩
          · rw [kk own ho]
            have aux : ∀ us : List Nat, ∀ τ : L2.St, (∀ j ∈ us, ∀ z, τ[j]? = some z → z = none) → L2.wipe τ us = τ := by
              intro us
              induction us with
              | nil => intro τ _; rfl
              | cons v us ih =>
                intro τ hτ
                show (L2.wipe τ us).set v none = τ
                rw [ih τ fun j hj => hτ j (List.mem_cons_of_mem _ hj)]
                apply List.ext_getElem?
                intro j
                by_cases hj : v = j
                · subst hj
                  by_cases hlt : v < τ.length
                  · rw [List.getElem?_set_self hlt]
                    exact ((hτ v List.mem_cons_self _ (List.getElem?_eq_getElem hlt)) ▸ (List.getElem?_eq_getElem hlt)).symm
                  · rw [List.getElem?_eq_none (by rw [List.length_set]; omega), List.getElem?_eq_none (by omega)]
                · rw [List.getElem?_set_ne hj]
            refine aux own _ fun j hj z hz => ?_
            cases z with
            | none => rfl
            | some zz => exact absurd hj (wipe_some hz).2
          · refine ⟨w', ρ1, S', ⟨sr2, s'⟩, ?_⟩
            revert q'
            cases ht : t ρ1 S' with
            | ok b S2 =>
              intro q' w3 H3 st3 sr3
              have sl3 := s'.step sr2.ok st3
              cases b with
              | false => exact ⟨m - 1, by omega, by omega, w3, S2, (st'.trans srD.ok st2).trans srD.ok st3, sr3, q'⟩
              | true =>
                refine ⟨w3, ρ1, S2, ⟨sr3, sl3⟩, ?_⟩
                revert q'
                show (match f ρ1 S2 with | .ok y S3 => _ | _ => R.stuck) = R.ok u Sf → _
                cases hf : f ρ1 S2 with
                | ok yd S3 =>
                  intro q' w4 H4 st4 sr4 y4 dr4
                  dsimp only at q'
                  split at q'
                  · rename_i acc hS3
                    split at q'
                    · rename_i hlen
                      have tot4 : Step (w1.add D0) (upd H1 D0 (.lst [])) w4 H4 := (((st'.trans srD.ok st2).trans srD.ok st3).trans srD.ok st4)
                      obtain ⟨ad, vs, e1, e2, e3⟩ := sr4.cell _ _ hS3
                      have ead : ad = D0 := by
                        have := tot4.old S1.length ad (by rw [sr1.len]; exact Nat.lt_succ_self _) e1
                        rw [sr1.len, add_self] at this
                        exact (Option.some.inj this).symm
                      subst ead
                      have st5 : Step w4 H4 w4 (upd H4 ad (.lst (vs ++ [y4]))) := (write_cell (o := .lst (vs ++ [y4])) (c := .dead) sr4 e1 trivial trivial).1
                      obtain ⟨_, sr5⟩ := write_cell (o := .lst (vs ++ [y4])) (c := .lst (acc ++ [yd])) sr4 e1 trivial ⟨ad, _, e1, upd_same, (e3.app (.cons dr4 .nil)).step sr4.ok st5⟩
                      refine ⟨vs, e2, ?_, m - 1, by omega, by omega, w4, _, tot4.trans srD.ok st5, sr5, q'⟩
                      rw [e3.length, sizeLine_eq]; omega
                    · cases q'
                  · cases q'
                | exc x5 S5 => intro q'; cases q'
                | stuck => intro q'; cases q'
            | exc x5 S5 => intro q'; cases q'
            | stuck => intro q'; cases q'
      · cases q'
end
end FR

set_option Elab.async false
set_option linter.all false
set_option maxRecDepth 100000
set_option maxHeartbeats 1000000
namespace FR
open PySem PySem.Spec PyProof.Rows L2
section
variable {X : Cx} {W : WX} {e : Expr} {es : List Expr} {pos : Pos}

/-! ### comprehensions as expressions, as statements -/
def fYes : FT := fun _ S => .ok true S
abbrev STs (X : Cx) (W : WX) (ifs : List Expr) (f : FT) : Prop := PTs X ifs (tT X.K W f)
theorem sts_nil : STs X W [] fYes := ⟨fun pins s σ H Q I ⟨w, ρ, S, a, h⟩ => pts_nil.run pins s σ H Q I (h w H (Step.refl _ _ a.ok) a.st)⟩
theorem sts_one {c : Expr} {t : FT} (h : ST X W c t) : STs X W [c] t := pts_one h
theorem se_lc {elt tg iter : Expr} {ifs : List Expr} {scope : Scope} {own : List (Str × Nat)} {fi : Env → Store → R Src} {t : TG} {g : FGp} {ft : FT} {f : FE} {o1 : List Nat} (hc : X.calm = true) (hN : X.N.Nodup) (hi : SI X W tg iter fi) (ok : BlkOk X.N X.env.scope scope own)
    (hg : ∀ (s : Shared) (H : Hp) (C : Addr) (cl : List (Str × Addr)) (fp : List Addr), PG (X.blk s H scope (compEnvC scope cl C X.env) fp) tg t) (hok : TgOk X.K t g o1) (ho : ∀ i ∈ o1, i ∈ own.map (·.2))
    (ht : ∀ (s : Shared) (H : Hp) (C : Addr) (cl : List (Str × Addr)) (fp : List Addr), STs (X.blk s H scope (compEnvC scope cl C X.env) fp) W0 ifs ft)
    (he : ∀ (s : Shared) (H : Hp) (C : Addr) (cl : List (Str × Addr)) (fp : List Addr), SE (X.blk s H scope (compEnvC scope cl C X.env) fp) W0 elt f) (hs : ∀ x, foldedSetIterable iter X.env x = pure x := by intro _; rfl) :
    SE X W (.ListComp elt [⟨tg, iter, ifs, 0⟩] scope pos) (fLc fi g ft f (own.map (·.2))) := (pe_lc hc hN hi ok hg ht he hs).imp (imp_lc hok ho)
theorem ss_setLc (i : Nat) {y : Str} {py spos : Pos} {elt tg iter : Expr} {ifs : List Expr} {scope : Scope} {own : List (Str × Nat)} {fi : Env → Store → R Src} {t : TG} {g : FGp} {ft : FT} {f : FE} {o1 : List Nat} (hc : X.calm = true) (hN : X.N.Nodup) (hy : X.N[i]? = some y) (hyl : X.env.scope.names.lookup y = some .local)
    (hsw : swapsWith (.ListComp elt [⟨tg, iter, ifs, 0⟩] scope pos) (some (.Name y py)) spos.line X.env = pure true) (hi : SI X W tg iter fi) (ok : BlkOk X.N X.env.scope scope own)
    (hg : ∀ (s : Shared) (H : Hp) (C : Addr) (cl : List (Str × Addr)) (fp : List Addr), PG (X.blk s H scope (compEnvC scope cl C X.env) fp) tg t) (hok : TgOk X.K t g o1) (ho : ∀ i ∈ o1, i ∈ own.map (·.2))
    (ht : ∀ (s : Shared) (H : Hp) (C : Addr) (cl : List (Str × Addr)) (fp : List Addr), STs (X.blk s H scope (compEnvC scope cl C X.env) fp) W0 ifs ft)
    (he : ∀ (s : Shared) (H : Hp) (C : Addr) (cl : List (Str × Addr)) (fp : List Addr), SE (X.blk s H scope (compEnvC scope cl C X.env) fp) W0 elt f) (hs : ∀ x, foldedSetIterable iter X.env x = pure x := by intro _; rfl) :
    SS X W (.Assign [.Name y py] (.ListComp elt [⟨tg, iter, ifs, 0⟩] scope pos) spos) (sSet i (fLc fi g ft f (own.map (·.2)))) :=
  (ps_setLc hc hN hy hyl hsw hi ok hg ht he hs).imp fun D0 σ H ⟨w, ρ, S, a, h⟩ => imp_lc (W := W) hok ho σ H _ (tS_tE a h fun w1 H1 S1 d v st a1 r h1 => h1 w1 H1 _ (Step.refl _ _ a1.ok) a1.st (a1.sl.set r i))

/-! ### items -/
def gIx : D → D → Store → R D := fun x y S => match x, y with
  | .p (.lst l), .p (.int i) => (match atI l i with
    | some q => .ok (.p q) S
    | none => .stuck)
  | .p (.tup l), .p (.int i) => (match atI l i with
    | some q => .ok (.p q) S
    | none => .stuck)
  | .p (.str z), .p (.int i) => if z.length ≤ 1000000 then (match atI z.cps.toList i with
    | some c => .ok (.p (.str ⟨#[c]⟩)) S
    | none => .stuck) else .stuck
  | .r n, .p (.int i) => (match S[n]? with
    | some (.lst l) => (match atI l i with
      | some d => .ok d S
      | none => .stuck)
    | _ => .stuck)
  | _, _ => .stuck
theorem atI_reps {K : PySem.W.Frag} {L : Addr → Prop} {H : Hp} {vs : List V} {l : List P} {i : Int} {q : P} (r : Reps K L H vs l) (h : atI l i = some q) : ∃ v, atI vs i = some v ∧ Rep K L H v q := by
  unfold atI at h ⊢
  rw [Reps.length r]
  cases e : ixN l.length i with
  | none => rw [e] at h; cases h
  | some j =>
    rw [e] at h
    obtain ⟨v, h1, h2⟩ := Reps.get r h
    exact ⟨v, h1, h2⟩
theorem atI_dreps {K : PySem.W.Frag} {w : Wd} {H : Hp} {vs : List V} {l : List D} {i : Int} {q : D} (r : DReps K w H vs l) (h : atI l i = some q) : ∃ v, atI vs i = some v ∧ DRep K w H v q := by
  unfold atI at h ⊢
  rw [r.length]
  cases e : ixN l.length i with
  | none => rw [e] at h; cases h
  | some j =>
    rw [e] at h
    obtain ⟨v, h1, h2⟩ := r.get h
    exact ⟨v, h1, h2⟩
theorem se_ix {a b : Expr} {fa fb : FE} (ha : SE X W a fa) (hb : SE X W b fb) (hs : PlainIx b := by intro _ _; rfl) : SE X W (.Subscript a b pos) (c2 gIx fa fb) :=
  (pe_ix ix_seq ha hb hs).imp fun σ H Q ⟨w, ρ, S, a, h⟩ => tE_of a (oR_bind a.ok h) fun w1 H1 S1 d v st a1 h1 r => tE_of a1 (oR_bind a1.ok h1) fun w2 H2 S2 d2 v2 st2 a2 h2 r2 => by
    have r' := r.step a1.ok st2
    unfold gIx at h2
    split at h2
    · split at h2
      · rename_i l i _ q hq
        obtain rfl := rep_int r2
        cases r' with
        | lst hh rr =>
          obtain ⟨u, e1, e2⟩ := atI_reps rr hq
          exact .inl ⟨_, _, i, u, rfl, rfl, hh.sq, e1, oE_ok a2.st h2 e2⟩
      · exact h2.elim
    · split at h2
      · rename_i l i _ q hq
        obtain rfl := rep_int r2
        cases r' with
        | tup hh rr =>
          obtain ⟨u, e1, e2⟩ := atI_reps rr hq
          exact .inr (.inl ⟨_, _, i, u, rfl, rfl, hh, e1, oE_ok a2.st h2 e2⟩)
      · exact h2.elim
    · split at h2
      · rename_i hz
        split at h2
        · rename_i z i _ c hq
          obtain rfl := rep_int r2
          obtain rfl := rep_str r'
          exact .inr (.inr ⟨z, i, c, rfl, rfl, line_le hz, hq, oE_ok a2.st h2 (.str _)⟩)
        · exact h2.elim
      · exact h2.elim
    · split at h2
      · rename_i n i _ l hS
        split at h2
        · rename_i _ q hq
          obtain rfl := rep_int r2
          obtain ⟨ad, vs, e1, e2, e3⟩ := a2.st.cell n _ hS
          obtain ⟨u, f1, f2⟩ := atI_dreps e3 hq
          exact .inl ⟨ad, vs, i, u, r'.2 ad e1, rfl, .inl (.inl e2), f1, oE_ok a2.st h2 f2⟩
        · exact h2.elim
      · exact h2.elim
    · exact h2.elim
/-- o[i] = e of a cell that is a list -/
def sIxSet (fo fi fv : FE) : FC := fun ρ S => (fv ρ S).toS ρ fun d S1 => (fo ρ S1).toS ρ fun o S2 => (fi ρ S2).toS ρ fun i S3 => match o, i with
  | .r n, .p (.int k) => (match S3[n]? with
    | some (.lst l) => (match ixN l.length k with
      | some j => .nx ρ (S3.set n (.lst (l.set j d)))
      | none => .stuck)
    | _ => .stuck)
  | _, _ => .stuck
theorem ss_ixset {o i value : Expr} {fo fi fv : FE} {tpos : Pos} (ho : SE X W o fo) (hi : SE X W i fi) (hv : SE X W value fv) (ha : ∀ v, assign (.Subscript o i tpos) X.env v = (do
      let ov ← holding [v] (eval o X.env)
      let iv ← holding [v, ov] (eval i X.env)
      standAt tpos
      holding [v, ov, iv] (setItem ov iv v)
      release [v, ov, iv] []) := by intro _; rfl) (hs : swapsWithSole [.Subscript o i tpos] value pos.line X.env = pure false := by rfl) (hw : swappedStores [.Subscript o i tpos] value X.env = pure none := by rfl)
    (h1 : (assignEach [.Subscript o i tpos] X.env).map (·.2) = [assign (.Subscript o i tpos) X.env] := by rfl) : SS X W (.Assign [.Subscript o i tpos] value pos) (sIxSet fo fi fv) :=
  (ps_asg hv (pg_sub ho hi set_list ha) hs hw h1).imp fun D0 σ H ⟨w, ρ, S, a, h⟩ => tS_tE a h fun w1 H1 S1 d v st a1 r h1 => tS_tE a1 h1 fun w2 H2 S2 od ov st2 a2 r2 h2 => tS_tE a2 h2 fun w3 H3 S3 id iv st3 a3 r3 h3 => by
    split at h3
    · rename_i n k
      split at h3
      · rename_i l hS
        split at h3
        · rename_i j hj
          obtain ⟨ad, vs, e1, e2, e3⟩ := a3.st.cell n _ hS
          obtain rfl := rep_int r3
          have r2' := r2.step a2.ok st3
          have rd := (r.step a1.ok st2).step a2.ok st3
          refine ⟨ad, vs, k, j, r2'.2 ad e1, rfl, e2, by rw [e3.length]; exact hj, ?_⟩
          have st4 : Step w3 H3 w3 (upd H3 ad (.lst (vs.set j v))) := (write_cell (o := .lst (vs.set j v)) (c := .dead) a3.st e1 trivial trivial).1
          obtain ⟨_, sr4⟩ := write_cell (o := .lst (vs.set j v)) (c := .lst (l.set j d)) a3.st e1 trivial ⟨ad, _, e1, upd_same, (e3.setAt rd j).step a3.ok st4⟩
          exact h3 w3 _ σ st4 sr4 (a3.sl.step a3.ok st4)
        · exact h3.elim
      · exact h3.elim
    · exact h3.elim

/-! ### built-ins by their names -/
theorem se_callB {x : Str} {p : Pos} {r : List V → Hp → VK → Prop} {g : List D → Store → R D} {f : FA} {idn : String} (hc : CallR X (.builtin idn) r)
    (hr : ∀ (σ : L2.St) (H : Hp) (w : Wd) (ρ : Env) (S : Store) (vs : List V) (ds : List D) (Q : VK), At X.K w σ H ρ S → DReps X.K w H vs ds → oR X.K W σ w H (qE X.K Q) (g ds S) → r vs H Q)
    (hm : X.mg x = none) (hv : bootBuiltins x = some (.builtin idn)) (ha : SA X W (e :: es) f) (hg : Gl X x := by rfl) (hn : x ≠ "__name__" := by decide) (hdb : (x == ("__debug__" : Str)) = false := by decide)
    (he : starEach (e :: es) X.env = (false, eval e X.env) :: starEach es X.env := by rfl) (hpl : (backTo pos (starEach es X.env)).any (·.1) = false := by rfl) : SE X W (.Call (.Name x p) (e :: es) [] pos) (cA g f) :=
  (pe_callB hc hg hm hv ha hn hdb he hpl).imp fun σ H Q ⟨w, ρ, S, a, h⟩ => tA_of a (oR_bind a.ok h) fun w1 H1 S1 d v st a1 h1 r1 => hr σ H1 w1 ρ S1 v d Q a1 r1 h1
theorem se_callTy {x : Str} {p : Pos} {r : List V → Hp → VK → Prop} {g : List D → Store → R D} {f : FA} {T : String} (hc : CallR X (.type T) r)
    (hr : ∀ (σ : L2.St) (H : Hp) (w : Wd) (ρ : Env) (S : Store) (vs : List V) (ds : List D) (Q : VK), At X.K w σ H ρ S → DReps X.K w H vs ds → oR X.K W σ w H (qE X.K Q) (g ds S) → r vs H Q)
    (hm : X.mg x = none) (hv : bootBuiltins x = some (.type T)) (ha : SA X W (e :: es) f) (hg : Gl X x := by rfl) (hn : x ≠ "__name__" := by decide) (hdb : (x == ("__debug__" : Str)) = false := by decide)
    (he : starEach (e :: es) X.env = (false, eval e X.env) :: starEach es X.env := by rfl) (hpl : (backTo pos (starEach es X.env)).any (·.1) = false := by rfl) : SE X W (.Call (.Name x p) (e :: es) [] pos) (cA g f) :=
  (pe_callTy hc hg hm hv ha hn hdb he hpl).imp fun σ H Q ⟨w, ρ, S, a, h⟩ => tA_of a (oR_bind a.ok h) fun w1 H1 S1 d v st a1 h1 r1 => hr σ H1 w1 ρ S1 v d Q a1 r1 h1
def gLen : List D → Store → R D := fun ds S => match ds with
  | [.p (.lst l)] => .ok (.p (.int l.length)) S
  | [.p (.tup l)] => .ok (.p (.int l.length)) S
  | [.p (.str z)] => if z.length ≤ 1000000 then .ok (.p (.int z.length)) S else .stuck
  | [.r n] => (match S[n]? with
    | some (.lst l) => .ok (.p (.int l.length)) S
    | _ => .stuck)
  | _ => .stuck
theorem reps_one {K : PySem.W.Frag} {w : Wd} {H : Hp} {vs : List V} {d : D} (r : DReps K w H vs [d]) : ∃ v, vs = [v] ∧ DRep K w H v d := by
  cases r with
  | cons h t => cases t; exact ⟨_, rfl, h⟩
theorem reps_two {K : PySem.W.Frag} {w : Wd} {H : Hp} {vs : List V} {d d' : D} (r : DReps K w H vs [d, d']) : ∃ v v', vs = [v, v'] ∧ DRep K w H v d ∧ DRep K w H v' d' := by
  cases r with
  | cons h t =>
    obtain ⟨v', rfl, h'⟩ := reps_one t
    exact ⟨_, _, rfl, h, h'⟩
theorem r_len (σ : L2.St) (H : Hp) (w : Wd) (ρ : Env) (S : Store) (vs : List V) (ds : List D) (Q : VK) (a : At X.K w σ H ρ S) (r : DReps X.K w H vs ds) (h : oR X.K W σ w H (qE X.K Q) (gLen ds S)) : ∃ x n, vs = [x] ∧ LenV X.K x H n ∧ Q (.int n) H := by
  unfold gLen at h
  split at h
  · obtain ⟨v, rfl, hv⟩ := reps_one r
    cases hv with
    | lst hh rr => exact ⟨_, _, rfl, .inl ⟨_, hh.sq, (Reps.length rr).symm⟩, oE_ok a.st h (.int _)⟩
  · obtain ⟨v, rfl, hv⟩ := reps_one r
    cases hv with
    | tup hh rr => exact ⟨_, _, rfl, .inr ⟨_, hh, (Reps.length rr).symm⟩, oE_ok a.st h (.int _)⟩
  · split at h
    · rename_i hz
      obtain ⟨v, rfl, hv⟩ := reps_one r
      obtain rfl := rep_str hv
      exact ⟨_, _, rfl, ⟨line_le hz, rfl⟩, oE_ok a.st h (.int _)⟩
    · exact h.elim
  · split at h
    · rename_i n _ l hS
      obtain ⟨v, rfl, hv⟩ := reps_one r
      obtain ⟨ad, us, e1, e2, e3⟩ := a.st.cell n _ hS
      exact ⟨_, _, rfl, (by rw [hv.2 ad e1]; exact .inl ⟨us, .inl (.inl e2), e3.length.symm⟩), oE_ok a.st h (.int _)⟩
    · exact h.elim
  · exact h.elim
def gAbsI : List D → Store → R D := fun ds S => match ds with
  | [.p (.int i)] => .ok (.p (.int (if i < 0 then -i else i))) S
  | _ => .stuck
theorem r_abs (σ : L2.St) (H : Hp) (w : Wd) (ρ : Env) (S : Store) (vs : List V) (ds : List D) (Q : VK) (a : At X.K w σ H ρ S) (r : DReps X.K w H vs ds) (h : oR X.K W σ w H (qE X.K Q) (gAbsI ds S)) : ∃ i, vs = [.int i] ∧ Q (.int (if i < 0 then -i else i)) H := by
  unfold gAbsI at h
  split at h
  · exact ⟨_, reps1 r, oE_ok a.st h (.int _)⟩
  · exact h.elim
def gMax2 : List D → Store → R D := fun ds S => match ds with
  | [.p (.int i), .p (.int j)] => .ok (.p (.int (if j > i then j else i))) S
  | _ => .stuck
def gMin2 : List D → Store → R D := fun ds S => match ds with
  | [.p (.int i), .p (.int j)] => .ok (.p (.int (if j < i then j else i))) S
  | _ => .stuck
theorem r_max2 (σ : L2.St) (H : Hp) (w : Wd) (ρ : Env) (S : Store) (vs : List V) (ds : List D) (Q : VK) (a : At X.K w σ H ρ S) (r : DReps X.K w H vs ds) (h : oR X.K W σ w H (qE X.K Q) (gMax2 ds S)) : ∃ i j, vs = [.int i, .int j] ∧ Q (.int (if j > i then j else i)) H := by
  unfold gMax2 at h
  split at h
  · exact ⟨_, _, reps2 r, oE_ok a.st h (.int _)⟩
  · exact h.elim
theorem r_min2 (σ : L2.St) (H : Hp) (w : Wd) (ρ : Env) (S : Store) (vs : List V) (ds : List D) (Q : VK) (a : At X.K w σ H ρ S) (r : DReps X.K w H vs ds) (h : oR X.K W σ w H (qE X.K Q) (gMin2 ds S)) : ∃ i j, vs = [.int i, .int j] ∧ Q (.int (if j < i then j else i)) H := by
  unfold gMin2 at h
  split at h
  · exact ⟨_, _, reps2 r, oE_ok a.st h (.int _)⟩
  · exact h.elim
def gInt1 : List D → Store → R D := fun ds S => match ds with
  | [.p (.int i)] => .ok (.p (.int i)) S
  | [.p (.bl k)] => .ok (.p (.int (if k then 1 else 0))) S
  | _ => .stuck
theorem r_int1 (σ : L2.St) (H : Hp) (w : Wd) (ρ : Env) (S : Store) (vs : List V) (ds : List D) (Q : VK) (a : At X.K w σ H ρ S) (r : DReps X.K w H vs ds) (h : oR X.K W σ w H (qE X.K Q) (gInt1 ds S)) :
    (∃ i, vs = [.int i] ∧ Q (.int i) H) ∨ ∃ k, vs = [.bl k] ∧ Q (.int (if k then 1 else 0)) H := by
  unfold gInt1 at h
  split at h
  · exact .inl ⟨_, reps1 r, oE_ok a.st h (.int _)⟩
  · obtain ⟨v, rfl, hv⟩ := reps_one r
    obtain rfl := rep_bl hv
    exact .inr ⟨_, rfl, oE_ok a.st h (.int _)⟩
  · exact h.elim
def gBool1 : List D → Store → R D := fun ds S => match ds with
  | [.p (.int i)] => .ok (.p (.bl (i != 0))) S
  | [.p (.bl k)] => .ok (.p (.bl k)) S
  | _ => .stuck
theorem r_bool1 (σ : L2.St) (H : Hp) (w : Wd) (ρ : Env) (S : Store) (vs : List V) (ds : List D) (Q : VK) (a : At X.K w σ H ρ S) (r : DReps X.K w H vs ds) (h : oR X.K W σ w H (qE X.K Q) (gBool1 ds S)) :
    (∃ i, vs = [.int i] ∧ Q (.bl (i != 0)) H) ∨ ∃ k, vs = [.bl k] ∧ Q (.bl k) H := by
  unfold gBool1 at h
  split at h
  · exact .inl ⟨_, reps1 r, oE_ok a.st h (.bl _)⟩
  · obtain ⟨v, rfl, hv⟩ := reps_one r
    obtain rfl := rep_bl hv
    exact .inr ⟨_, rfl, oE_ok a.st h (.bl _)⟩
  · exact h.elim
def gGcd : List D → Store → R D := fun ds S => match ds with
  | [.p (.int i), .p (.int j)] => .ok (.p (.int ((Nat.gcd i.natAbs j.natAbs : Nat) : Int))) S
  | _ => .stuck
theorem se_gcd {p : Pos} {f : FA} {a b : Expr} (hm : X.mg "gcd" = some (.builtin "math.gcd")) (ha : SA X W [a, b] f) (hg : Gl X "gcd" := by rfl)
    (he : starEach [a, b] X.env = (false, eval a X.env) :: starEach [b] X.env := by rfl) (hpl : (backTo pos (starEach [b] X.env)).any (·.1) = false := by rfl) : SE X W (.Call (.Name "gcd" p) [a, b] [] pos) (cA gGcd f) :=
  (pe_callBfun cr_gcd hg hm ha (by decide) he hpl).imp fun σ H Q ⟨w, ρ, S, a, h⟩ => tA_of a (oR_bind a.ok h) fun w1 H1 S1 d v st a1 h1 r1 => by
    unfold gGcd at h1
    split at h1
    · exact ⟨_, _, reps2 r1, oE_ok a1.st h1 (.int _)⟩
    · exact h1.elim

/-! ### isinstance -/
/-- the type of a value -/
inductive Tg where
  | ty (n : String) | cn (c : Cn)
  deriving DecidableEq
def Tg.v (K : PySem.W.Frag) : Tg → Value
  | .ty n => .type n
  | .cn c => .ref (c.a K)
def tagP : P → Option Tg
  | .non => some (.ty "NoneType") | .bl _ => some (.ty "bool") | .int _ => some (.ty "int") | .str _ => some (.ty "str")
  | .tup _ => some (.ty "tuple") | .lst _ => some (.ty "list") | .obj c _ => some (.cn c) | _ => none
def tagC : Option Cell → Option Tg
  | some (.lst _) => some (.ty "list")
  | some (.ins c _) => some (.cn c)
  | some (.dK _) => some (.ty "dict")
  | _ => none
def tagD : D → Store → Option Tg
  | .p q, _ => tagP q
  | .r n, S => tagC S[n]?
/-- what a class must have for isinstance of its instances -/
structure InsOk (K : PySem.W.Frag) (c : Cn) : Prop where
  cl : Cls K (c.a K)
  at_ : PySem.W.findIn K (.ref (c.a K)) "__class__" = some (some (.builtin "object.__class__"))
  gt : PySem.W.specialIn K (.builtin "object.__class__") "__get__" = some (some (.builtin "getset_descriptor.__get__"))
  tk : PySem.W.takesIn K (.builtin "object.__class__") = some true
  ob : PySem.W.mroIn K (c.a K) (.type "object") = some true
/-- isinstance(x, u): by the tags that may come -/
def gIsi (tbl : List (Tg × Bool)) (u : Tg) : D → Store → R D := fun d S => match tagD d S with
  | some t => (match tbl.lookup t with
    | some b => .ok (.p (.bl b)) S
    | none => .stuck)
  | none => .stuck
structure IsiOk (K : PySem.W.Frag) (tbl : List (Tg × Bool)) (u : Tg) : Prop where
  kit : ∀ p ∈ tbl, PySem.W.kitOne K (p.1.v K) (u.v K) = some p.2
  ins : ∀ p ∈ tbl, ∀ c, p.1 = .cn c → InsOk K c
theorem lookup_mem {α β : Type} [BEq α] [LawfulBEq α] {l : List (α × β)} {a : α} {b : β} (h : l.lookup a = some b) : (a, b) ∈ l := by
  induction l with
  | nil => cases h
  | cons p r ih =>
    obtain ⟨x, y⟩ := p
    rw [List.lookup_cons] at h
    by_cases q : (a == x) = true
    · rw [q] at h
      cases h
      rw [eq_of_beq q]
      exact List.mem_cons_self
    · rw [Bool.eq_false_iff.mpr q] at h
      exact List.mem_cons_of_mem _ (ih h)
theorem tag_ty {K : PySem.W.Frag} {w : Wd} {H : Hp} {S : Store} {v : V} {d : D} {t : Tg} (sr : SRep K w H S) (r : DRep K w H v d) (h : tagD d S = some t) (hi : ∀ c, t = .cn c → InsOk K c) : TyX K H v (t.v K) := by
  cases d with
  | p q =>
    cases r with
    | non => cases h; exact .base .non
    | bl b => cases h; exact .base (.bl b)
    | int b => cases h; exact .base (.int b)
    | str b => cases h; exact .base (.str b)
    | ty b => cases h
    | nm b => cases h
    | tup hh rr =>
      cases h
      rcases hh with (hh | ⟨o, hh⟩) | ⟨o, its, n, hk, hc, _⟩
      · exact .base (.tup hh)
      · exact .fTuple hh
      · exact .kTuple hk hc
    | lst hh rr =>
      cases h
      rcases hh with ⟨hh, _⟩ | ⟨o, hh⟩
      · exact .base (.lst hh)
      · exact .base (.frz hh)
    | scr hh rr => cases h
    | obj hh hl rr =>
      cases h
      have z := hi _ rfl
      exact .base (.ins hh z.cl z.at_ z.gt z.tk z.ob)
  | r n =>
    have h' : tagC S[n]? = some t := h
    cases hS : S[n]? with
    | none => rw [hS] at h'; cases h'
    | some cl =>
      rw [hS] at h'
      cases cl with
      | dead => cases h'
      | lst l =>
        cases h'
        obtain ⟨ad, vs, e1, e2, e3⟩ := sr.cell n _ hS
        rw [r.2 ad e1]
        exact .base (.lst e2)
      | ins c gs =>
        cases h'
        obtain ⟨ad, dx, fs, e1, e2, e3⟩ := sr.cell n _ hS
        rw [r.2 ad e1]
        have z := hi _ rfl
        exact .base (.ins e2 z.cl z.at_ z.gt z.tk z.ob)
      | dK l =>
        cases h'
        obtain ⟨ad, kvs, e1, e2, e3⟩ := sr.cell n _ hS
        rw [r.2 ad e1]
        exact .base (.dK e2)
/-- the class u as an expression -/
structure ClsE (X : Cx) (c : Expr) (u : Tg) : Prop where
  run : ∃ v, ClsV v (u.v X.K) ∧ PE X c (tC v)
theorem cls_ty {n : String} {x : Str} (hm : X.mg x = none) (hv : bootBuiltins x = some (.type n)) (hg : Gl X x := by rfl) (hn : x ≠ "__name__" := by decide) (hd : (x == ("__debug__" : Str)) = false := by decide) : ClsE X (.Name x pos) (.ty n) :=
  ⟨.ty n, .ty n, pe_bltn hg hm hv rfl hn hd⟩
theorem cls_cn {c : Cn} (hm : X.mg c.x = some (.ref (c.a X.K))) (hg : Gl X c.x := by rfl) (hd : (c.x == ("__debug__" : Str)) = false := by decide) : ClsE X (.Name c.x pos) (.cn c) :=
  ⟨.ref _, .own _, pe_glob hg hm rfl hd⟩
theorem se_isi {c : Expr} {p : Pos} {tbl : List (Tg × Bool)} {u : Tg} {f : FE} (hm : X.mg "isinstance" = none) (ok : IsiOk X.K tbl u) (he : SE X W e f) (hc : ClsE X c u) (hg : Gl X "isinstance" := by rfl)
    (h1 : starEach [e, c] X.env = (false, eval e X.env) :: starEach [c] X.env := by rfl) (h3 : starEach [c] X.env = [(false, eval c X.env)] := by rfl) (hpl : (backTo pos (starEach [c] X.env)).any (·.1) = false := by rfl) :
    SE X W (.Call (.Name "isinstance" p) [e, c] [] pos) (c1 (gIsi tbl u) f) := by
  obtain ⟨cv, hcv, hpe⟩ := hc.run
  refine (pe_callB call_isi hg hm PyProof.Rows.boot_isinstance (pa_cons he (pa_cons hpe pa_nil h3) h1) (by decide) (by decide) h1 hpl).imp fun σ H Q ⟨w, ρ, S, a, h⟩ => tE_of a (oR_bind a.ok h) fun w1 H1 S1 d v st a1 h2 r => ?_
  unfold gIsi at h2
  split at h2
  · rename_i t ht
    split at h2
    · rename_i b hb
      have hmem := lookup_mem hb
      exact ⟨v, cv, _, _, b, rfl, hcv, tag_ty a1.st r ht (fun c' e' => ok.ins _ hmem c' e'), ok.kit _ hmem, oE_ok a1.st h2 (.bl _)⟩
    · exact h2.elim
  · exact h2.elim

/-! ### own methods, properties -/
theorem repF_no {K : PySem.W.Frag} {L : Addr → Prop} {H : Hp} {m : Str} (hm : ∀ f : Fld, f.x ≠ m) : ∀ {fs : List (Str × V)} {gs : List (Fld × P)}, RepF K L H fs gs → fs.lookup m = none
  | _, _, .nil => rfl
  | _, _, .cons (f := f) h t => by
    rw [List.lookup_cons, beq_eq_false_iff_ne.mpr fun z => hm f z.symm]
    exact repF_no hm t
theorem drepF_no {K : PySem.W.Frag} {w : Wd} {H : Hp} {m : Str} (hm : ∀ f : Fld, f.x ≠ m) : ∀ {fs : List (Str × V)} {gs : List (Fld × D)}, DRepF K w H fs gs → fs.lookup m = none
  | _, _, .nil => rfl
  | _, _, .cons (f := f) h t => by
    rw [List.lookup_cons, beq_eq_false_iff_ne.mpr fun z => hm f z.symm]
    exact drepF_no hm t
def noFld (m : Str) : Bool := Fld.all.all fun f => !decide (f.x = m)
theorem noFld_ok {m : Str} (h : noFld m = true) (f : Fld) : f.x ≠ m := fun e => by
  have := List.all_eq_true.mp h f f.mem_all
  rw [decide_eq_true e] at this
  cases this
/-- the instance at hand is of the class c -/
def isIns (c : Cn) (d : D) (S : Store) : Bool := match d with
  | .p (.obj c' _) => decide (c' = c)
  | .r n => (match S[n]? with
    | some (.ins c' _) => decide (c' = c)
    | _ => false)
  | _ => false
theorem ins_at {K : PySem.W.Frag} {w : Wd} {H : Hp} {S : Store} {v : V} {d : D} {c : Cn} (sr : SRep K w H S) (r : DRep K w H v d) (h : isIns c d S = true) :
    ∃ a dx fs, v = .ref a ∧ H a = some (.ins (c.a K) dx fs) ∧ ∀ m : Str, noFld m = true → fs.lookup m = none := by
  unfold isIns at h
  split at h
  · have e := of_decide_eq_true h
    subst e
    cases r with
    | obj hh hl rf => exact ⟨_, _, _, rfl, hh, fun m hm => repF_no (noFld_ok hm) rf⟩
  · rename_i n
    split at h
    · rename_i c' gs hS
      have e := of_decide_eq_true h
      subst e
      obtain ⟨ad, dx, fs, e1, e2, e3⟩ := sr.cell n _ hS
      exact ⟨ad, dx, fs, r.2 ad e1, e2, fun m hm => drepF_no (noFld_ok hm) e3⟩
    · cases h
  · cases h
structure MethOk (K : PySem.W.Frag) (c : Cn) (m : Str) (f : Addr) : Prop where
  cl : Cls K (c.a K)
  me : Meth K (c.a K) m f
  no : noFld m = true
def fMeth (c : Cn) (m : Mode) (n : Nat) (F : Fn) (dvs : List P) (fo : FE) (fa : FA) : FE := fun ρ S => (fo ρ S).bind fun o S1 => if isIns c o S1 = true then (fa ρ S1).bind fun l S2 => callN m n F dvs (o :: l) S2 else .stuck
theorem se_meth {o : Expr} {m : Str} {apos : Pos} {c : Cn} {f : Addr} {k n : Nat} {dvs : List P} {F : Fn} {fo : FE} {fa : FA} {pl : Sem Bool} (md : Mode) (M : MethOk X.K c m f) (C : XDef X f k n dvs F) (tk : Takes X W) (hr : Room k X.A) (ho : SE X W o fo) (ha : SA X W (e :: es) fa)
    (hst : starEach (e :: es) X.env = (false, eval e X.env) :: starEach es X.env := by rfl) (hpl : (backTo pos (starEach es X.env)).any (·.1) = false := by rfl)
    (ht : eval (.Call (.Attribute o m apos) (e :: es) [] pos) X.env = (do
      let ov ← eval o X.env
      standAt apos.atName
      let (f, first) ← holding [ov] (getMethod ov m pl)
      callWith pos f first (backTo pos (starEach (e :: es) X.env)) (backToKw pos (keywordEach [] X.env))) := by rfl) : SE X W (.Call (.Attribute o m apos) (e :: es) [] pos) (fMeth c md n F dvs fo fa) := by
  refine ⟨fun pins s σ H Q I ⟨w, ρ, S, a, h⟩ => PySem.W.methodCall_KW (pl := pl) (thn (run_then ho I a h) fun u s1 ⟨x, H1, w1, S1, d, I1, rx, st1, a1, dr, h1⟩ => ?_) ht⟩
  split at h1
  · rename_i hi
    obtain ⟨ad, dx, fs, rfl, hH, hno⟩ := ins_at a1.st dr hi
    obtain rfl : u = Value.ref ad := rx
    refine getmeth_ok I1 hH M.cl M.me (hno m M.no) ?_
    refine PySem.W.callWith_K (first := [.ref ad]) (h₀ := X.base) I.ok.mod.kin M.me.kp (thn (ha.run pos pins s1 σ H1 (fun vs H2 => ∃ w2 S2 l, Step w1 H1 w2 H2 ∧ At X.K w2 σ H2 ρ S2 ∧ DReps X.K w2 H2 vs l ∧ oR X.K W σ w2 H2 (qE X.K Q) (callN md n F dvs (d :: l) S2)) I1 ?_)
      fun us s2 ⟨vs, H2, I2, r, w2, S2, l, st2, a2, drs, h2⟩ => ⟨I2.kIn, go_call' (us := Value.ref ad :: us) (vs := V.ref ad :: vs) md C tk hr I2 (.cons rfl r) a2.st (.cons (dr.step a1.ok st2) drs) h2⟩) hst hpl
    exact tA_of a1 (oR_bind a1.ok h1) fun w2 H2 S2 l vs st2 a2 h2 r => ⟨w2, S2, l, st2, a2, r, h2⟩
  · exact h1.elim
theorem se_meth0 {o : Expr} {m : Str} {apos : Pos} {c : Cn} {f : Addr} {k n : Nat} {dvs : List P} {F : Fn} {fo : FE} {pl : Sem Bool} (md : Mode) (M : MethOk X.K c m f) (C : XDef X f k n dvs F) (tk : Takes X W) (hr : Room k X.A) (ho : SE X W o fo)
    (ht : eval (.Call (.Attribute o m apos) [] [] pos) X.env = (do
      let ov ← eval o X.env
      standAt apos.atName
      let (f, first) ← holding [ov] (getMethod ov m pl)
      callWith pos f first (backTo pos (starEach [] X.env)) (backToKw pos (keywordEach [] X.env))) := by rfl) : SE X W (.Call (.Attribute o m apos) [] [] pos) (fMeth c md n F dvs fo aNil) := by
  refine ⟨fun pins s σ H Q I ⟨w, ρ, S, a, h⟩ => PySem.W.methodCall_KW (pl := pl) (thn (run_then ho I a h) fun u s1 ⟨x, H1, w1, S1, d, I1, rx, st1, a1, dr, h1⟩ => ?_) ht⟩
  split at h1
  · rename_i hi
    obtain ⟨ad, dx, fs, rfl, hH, hno⟩ := ins_at a1.st dr hi
    obtain rfl : u = Value.ref ad := rx
    refine getmeth_ok I1 hH M.cl M.me (hno m M.no) ?_
    exact PySem.W.callWith_K0 (first := [.ref ad]) I1.kIn M.me.kp (go_call' (us := [Value.ref ad]) (vs := [V.ref ad]) md C tk hr I1 (.cons rfl .nil) a1.st (.cons dr .nil) h1)
  · exact h1.elim
/-- an exception may not leave -/
def noX {α : Type} (r : R α) : R α := match r with
  | .exc _ _ => .stuck
  | r => r
theorem oR_noX {α : Type} {K : PySem.W.Frag} {W W' : WX} {σ σ' : L2.St} {w : Wd} {H : Hp} {G : Wd → Hp → Store → α → Prop} {r : R α} (h : oR K W σ w H G (noX r)) : oR K W' σ' w H G r := by
  cases r with
  | ok a S => exact h
  | exc x S => exact h.elim
  | stuck => exact h.elim
structure PropOk (K : PySem.W.Frag) (c : Cn) (x : Str) (p g : Addr) : Prop where
  cl : Cls K (c.a K)
  pr : PropOf K (c.a K) x p g
def gProp (c : Cn) (F : Fn) : D → Store → R D := fun d S => if isIns c d S = true then noX (callP F [] [d] S) else .stuck
theorem se_prop {x : Str} {c : Cn} {p g : Addr} {k : Nat} {F : Fn} {fo : FE} (M : PropOk X.K c x p g) (C : XDef X g k 1 [] F) (hr : Room (k + 1) X.A) (ho : SE X W e fo) (hab : attributeBase e x X.env (eval e X.env) = eval e X.env := by rfl) :
    SE X W (.Attribute e x pos) (c1 (gProp c F) fo) := by
  obtain ⟨fd, ps, ds, zs, hk, hb, hv, hz, hF⟩ := C.ex
  have ez : zs = [] := by
    have := (hz (fun _ => False) (fun _ => none))
    cases this; rfl
  subst ez
  refine (pe_prop ho M.cl M.pr hF hr hb hv passL hab).imp fun σ H Q ⟨w, ρ, S, a, h⟩ => tE_of a (oR_bind a.ok h) fun w1 H1 S1 d v st a1 h1 r => ?_
  unfold gProp at h1
  split at h1
  · rename_i hi
    obtain ⟨ad, dx, fs, rfl, hH, hno⟩ := ins_at a1.st r hi
    exact ⟨ad, dx, fs, rfl, hH, sp_P (vs := [.ref ad]) (zs := []) (W := W0) (σ := σ) a1.st (.cons r .nil) hz rfl (oR_noX h1)⟩
  · exact h1.elim
end
end FR

set_option Elab.async false
set_option linter.all false
set_option maxRecDepth 100000
set_option maxHeartbeats 1000000
namespace FR
open PySem PySem.Spec PyProof.Rows L2
namespace Low
open AutoSeq1 (wpAny_loadPart')
open MeetsSeq MeetsSeq2 MeetsSeq3 SeqRoads2
section
variable {prog : Program} {w : World} {A : Around} {E : Value → Shared → Prop} {s : Shared} {i : Int} {t : Tok} {x : Addr} {o : Obj} {Q : Value → Shared → Prop}
theorem int_add_ni (hx : s.heap.get? x = some o) (hd : o.data = .plain) (h : Q .notImplemented s) : wpAny (model prog w) A (call (.builtin "int.__add__") [.int i t, .ref x]) Q E s := by
  refine GQ.call_here F.slot_int_add (T := "int") rfl F.entry_int_add (F.args_int_add_2 _ _) ?_
  obtain ⟨hp, g, d, tk, os⟩ := s
  obtain ⟨c, dd, dt, sl⟩ := o
  cases hd
  wp_walk using wpAny_loadPart' hx
  exact h
theorem int_sub_ni (hx : s.heap.get? x = some o) (hd : o.data = .plain) (h : Q .notImplemented s) : wpAny (model prog w) A (call (.builtin "int.__sub__") [.int i t, .ref x]) Q E s := by
  refine GQ.call_here F.slot_int_sub (T := "int") rfl F.entry_int_sub (F.args_int_sub_2 _ _) ?_
  obtain ⟨hp, g, d, tk, os⟩ := s
  obtain ⟨c, dd, dt, sl⟩ := o
  cases hd
  wp_walk using wpAny_loadPart' hx
  exact h
theorem int_mul_ni (hx : s.heap.get? x = some o) (hd : o.data = .plain) (h : Q .notImplemented s) : wpAny (model prog w) A (call (.builtin "int.__mul__") [.int i t, .ref x]) Q E s := by
  refine GQ.call_here F.slot_int_mul (T := "int") rfl F.entry_int_mul (F.args_int_mul_2 _ _) ?_
  obtain ⟨hp, g, d, tk, os⟩ := s
  obtain ⟨c, dd, dt, sl⟩ := o
  cases hd
  wp_walk using wpAny_loadPart' hx
  exact h
theorem int_lt_ni (hx : s.heap.get? x = some o) (hd : o.data = .plain) (h : Q .notImplemented s) : wpAny (model prog w) A (call (.builtin "int.__lt__") [.int i t, .ref x]) Q E s := by
  refine GQ.call_here F.slot_int_lt (T := "int") rfl F.entry_int_lt (F.args_int_lt_2 _ _) ?_
  obtain ⟨hp, g, d, tk, os⟩ := s
  obtain ⟨c, dd, dt, sl⟩ := o
  cases hd
  wp_walk using wpAny_loadPart' hx
  exact h
theorem int_le_ni (hx : s.heap.get? x = some o) (hd : o.data = .plain) (h : Q .notImplemented s) : wpAny (model prog w) A (call (.builtin "int.__le__") [.int i t, .ref x]) Q E s := by
  refine GQ.call_here F.slot_int_le (T := "int") rfl F.entry_int_le (F.args_int_le_2 _ _) ?_
  obtain ⟨hp, g, d, tk, os⟩ := s
  obtain ⟨c, dd, dt, sl⟩ := o
  cases hd
  wp_walk using wpAny_loadPart' hx
  exact h
theorem int_gt_ni (hx : s.heap.get? x = some o) (hd : o.data = .plain) (h : Q .notImplemented s) : wpAny (model prog w) A (call (.builtin "int.__gt__") [.int i t, .ref x]) Q E s := by
  refine GQ.call_here F.slot_int_gt (T := "int") rfl F.entry_int_gt (F.args_int_gt_2 _ _) ?_
  obtain ⟨hp, g, d, tk, os⟩ := s
  obtain ⟨c, dd, dt, sl⟩ := o
  cases hd
  wp_walk using wpAny_loadPart' hx
  exact h
theorem int_ge_ni (hx : s.heap.get? x = some o) (hd : o.data = .plain) (h : Q .notImplemented s) : wpAny (model prog w) A (call (.builtin "int.__ge__") [.int i t, .ref x]) Q E s := by
  refine GQ.call_here F.slot_int_ge (T := "int") rfl F.entry_int_ge (F.args_int_ge_2 _ _) ?_
  obtain ⟨hp, g, d, tk, os⟩ := s
  obtain ⟨c, dd, dt, sl⟩ := o
  cases hd
  wp_walk using wpAny_loadPart' hx
  exact h
theorem int_eq_ni (hx : s.heap.get? x = some o) (hd : o.data = .plain) (h : Q .notImplemented s) : wpAny (model prog w) A (call (.builtin "int.__eq__") [.int i t, .ref x]) Q E s := by
  refine GQ.call_here F.slot_int_eq (T := "int") rfl F.entry_int_eq (F.args_int_eq_2 _ _) ?_
  obtain ⟨hp, g, d, tk, os⟩ := s
  obtain ⟨c, dd, dt, sl⟩ := o
  cases hd
  wp_walk using wpAny_loadPart' hx
  exact h
theorem int_ne_ni (hx : s.heap.get? x = some o) (hd : o.data = .plain) (h : Q .notImplemented s) : wpAny (model prog w) A (call (.builtin "int.__ne__") [.int i t, .ref x]) Q E s := by
  refine GQ.call_here F.slot_int_ne (T := "int") rfl F.entry_int_ne (F.args_int_ne_2 _ _) ?_
  obtain ⟨hp, g, d, tk, os⟩ := s
  obtain ⟨c, dd, dt, sl⟩ := o
  cases hd
  wp_walk using wpAny_loadPart' hx
  exact h
end
section
open PySem.W
variable {prog : Program} {w : World} {A : Around} {E : Value → Shared → Prop} {s : Shared} {K : Frag} {x C L f : Addr} {h₀ : Heap} {m : Str → Option Value} {ox : Obj} {od : Option Obj} {nm T : String}
/-- tryMethod of an int that says nothing -/
theorem try_ni {id : String} {name : Str} {i : Int} {t : Tok} {b : Value} {Q : Option Value → Shared → Prop} (slot : Slot "int" name id) (h : ∀ Q' : Value → Shared → Prop, Q' .notImplemented s → wpAny (model prog w) A (call (.builtin id) [.int i t, b]) Q' E s) (q : Q none s) :
    wpAny (model prog w) A (tryMethod (.int i t) name b) Q E s := by
  unfold tryMethod
  refine wpAny_bind (wpAny_callSpecial?_slot (T := "int") rfl slot (h _ ?_))
  exact wpAny_pure q
theorem cmp_ni {id : String} {name : Str} {i : Int} {t : Tok} {b : Value} {Q : Option Value → Shared → Prop} (slot : Slot "int" name id) (h : ∀ Q' : Value → Shared → Prop, Q' .notImplemented s → wpAny (model prog w) A (call (.builtin id) [.int i t, b]) Q' E s) (q : Q none s) :
    wpAny (model prog w) A (tryCompare (.int i t) name b) Q E s := by
  unfold tryCompare
  refine wpAny_bind (wpAny_callSpecialIfBound?_slot (T := "int") rfl slot (h _ ?_))
  exact wpAny_pure q
/-- int op instance: the instance's reflected method -/
theorem rbin {op : Operator} {i : Int} {t : Tok} {id : String} {Q : Value → Shared → Prop} (X : K.In s.heap) (I : InstAt s.heap x ox C od) (hc : selfFirst K C = true)
    (slot : Slot "int" (PySem.dunder op.info.2) id) (fills : fillsNumberSlot (.type "int") op.info.2 = pure true) (ni : ∀ Q' : Value → Shared → Prop, Q' .notImplemented s → wpAny (model prog w) A (call (.builtin id) [.int i t, .ref x]) Q' E s)
    (hs : findIn K (.ref C) (PySem.dunder op.info.2) = some (some (.ref f))) (hr : ∃ f', f' = f) {g : Addr} (hg : findIn K (.ref C) (dunderR op.info.2) = some (some (.ref g))) (hf : isFn K (.ref g) = true) (hsub : subIn K (.ref C) (.type "int") = some false)
    (h : wpAny (model prog w) A (call (.ref g) [.ref x, .int i t]) (PySem.W.CmpBack Q) E s) : wpAny (model prog w) A (binaryOp op (.int i t) (.ref x)) Q E s := by
  obtain ⟨cd, rest, hcd, hm⟩ := ksp_first hc
  rcases hi : op.info with ⟨sym, nm'⟩
  rw [hi] at hs hg slot fills
  dsimp only at hs hg slot fills
  have one := ksp_try X I hg hf h
  have none' : ∀ Q' : Option Value → Shared → Prop, Q' none s → wpAny (model prog w) A (tryMethod (.int i t) (PySem.dunder nm') (.ref x)) Q' E s := fun Q' q => try_ni slot ni q
  obtain ⟨hh, g', d, tt, os⟩ := s
  have L1 : Looks (model prog w) hh (typeOf (.ref x)) (.ref C) := I.type
  have L2 : Looks (model prog w) hh (typeOf (.int i t)) (.type "int") := Looks.of_pure rfl
  have L3 : Looks (model prog w) hh (fillsNumberSlot (.ref C) nm') true := fills_K X hcd hm hs
  have L4 : Looks (model prog w) hh (fillsNumberSlot (.type "int") nm') true := Looks.of_pure fills
  have L5 : Looks (model prog w) hh (isSubtype (.ref C) (.type "int")) false := looks_subIn X hsub
  have L7 : Looks (model prog w) hh (numberSlotInPython (.type "int") nm') false := Looks.of_pure rfl
  have hne : (Value.type "int" == Value.ref C) = false := Bool.eq_false_iff.mpr fun q => by cases beq_iff_eq.mp q
  simp only [binaryOp, hi]
  refine wpAny_holding (wpAny_bind ?_)
  unfold binaryOp1
  refine wpAny_bind (L2.at (wpAny_bind (L1.at (wpAny_bind (L4.at ?_)))))
  simp only [hne, Bool.false_eq_true, if_false]
  ksp_lk
  refine none' _ ?_
  ksp_lk
  refine wpAny_mono one (fun r s' hr' => ?_) fun _ _ e => e
  obtain ⟨v, rfl, hq⟩ := hr'
  ksp_lk
  exact hq
end
end Low
end FR

set_option Elab.async false
set_option linter.all false
set_option maxRecDepth 100000
set_option maxHeartbeats 1000000
namespace FR
open PySem PySem.Spec PyProof.Rows L2
section
variable {X : Cx} {W : WX} {e : Expr} {es : List Expr} {pos : Pos}
theorem ep_back {pins : List (Addr × Obj)} {σ : L2.St} {Q : VK} {v : Value} {s' : Shared} (h : EP X pins σ Q v s') : PySem.W.CmpBack (EP X pins σ Q) v s' := by
  obtain ⟨z, H', I, r, q⟩ := id h
  cases v with
  | notImplemented =>
    cases z with
    | int i => obtain ⟨t, e⟩ := (show ∃ t, Value.notImplemented = Value.int i t from r); cases e
    | str i => obtain ⟨t, e⟩ := (show ∃ t, Value.notImplemented = Value.str i t from r); cases e
    | byt i => obtain ⟨t, e⟩ := (show ∃ t, Value.notImplemented = Value.bytes i t from r); cases e
    | flt i => obtain ⟨t, e⟩ := (show ∃ t, Value.notImplemented = Value.float i t from r); cases e
    | non => cases (show Value.notImplemented = Value.none from r)
    | bl b => cases (show Value.notImplemented = Value.bool b from r)
    | ref b => cases (show Value.notImplemented = Value.ref b from r)
    | ty b => cases (show Value.notImplemented = Value.type b from r)
  | _ => exact h
/-- an instance of the class at hand, as the library's rules want it -/
theorem inst_of {pins : List (Addr × Obj)} {σ : L2.St} {H : Hp} {s : Shared} {a dx C : Addr} {fs : List (Str × V)} (I : Inv X pins σ H s) (h : H a = some (.ins C dx fs)) : ∃ od, PySem.W.InstAt s.heap a (PySem.W.instObj C dx) C (some od) := by
  obtain ⟨mA, O, _⟩ := ins_get I.hok h
  obtain ⟨od, J, _⟩ := O.look
  exact ⟨od, J⟩
/-- an operator's method of the class c; the right side an instance of c too, or an int -/
structure BinOk (K : PySem.W.Frag) (c : Cn) (nm : String) (f : Addr) : Prop where
  sf : PySem.W.selfFirst K (c.a K) = true
  hs : PySem.W.findIn K (.ref (c.a K)) (PySem.dunder nm) = some (some (.ref f))
  hf : PySem.W.isFn K (.ref f) = true
  hr : ∃ rc, PySem.W.findIn K (.ref (c.a K)) (dunderR nm) = some rc ∧ (rc = none ∨ ∃ g : Addr, rc = some (.ref g))
  i1 : ∃ fo, PySem.W.findIn K (.type "int") (PySem.dunder nm) = some fo
  i2 : ∃ ro, PySem.W.findIn K (.type "int") (dunderR nm) = some ro
  sub : PySem.W.subIn K (.type "int") (.ref (c.a K)) = some false
def isInt : D → Bool
  | .p (.int _) => true
  | _ => false
def gOwn (c : Cn) (m : Mode) (F : Fn) : D → D → Store → R D := fun x y S => if isIns c x S = true ∧ (isIns c y S = true ∨ isInt y = true) then callN m 2 F [] [x, y] S else .stuck
theorem o_own {op : Operator} {c : Cn} {f : Addr} {k : Nat} {F : Fn} (m : Mode) (B : BinOk X.K c op.info.2 f) (C : XDef X f k 2 [] F) (tk : Takes X W) (hr : Room k X.A) : OpF X W (binaryOp op) (gOwn c m F) := by
  intro pins s σ H w ρ S x y dx dy v u Q I a r1 r2 rx ry q
  unfold gOwn at q
  split at q
  · rename_i hc
    obtain ⟨a1, d1, f1, rfl, h1, _⟩ := ins_at a.st r1 hc.1
    obtain rfl : v = Value.ref a1 := rx
    obtain ⟨od, J⟩ := inst_of I h1
    obtain ⟨mm, hF⟩ := I.fr
    have run := wpAny_mono (go_call' (us := [Value.ref a1, u]) (vs := [V.ref a1, y]) m C tk hr I (.cons rfl (.cons ry .nil)) a.st (.cons r1 (.cons r2 .nil)) q) (fun v s' z => ep_back z) (fun _ _ z => z)
    rcases hc.2 with hy | hy
    · obtain ⟨a2, d2, f2, rfl, h2, _⟩ := ins_at a.st r2 hy
      obtain rfl : u = Value.ref a2 := ry
      obtain ⟨od2, J2⟩ := inst_of I h2
      exact PySem.W.binop_K hF I.ok.mod.kin J J2.type B.sf B.hs B.hf run
    · cases dy with
      | r n => cases hy
      | p z =>
        cases z with
        | int j =>
          obtain rfl := rep_int r2
          obtain ⟨t, rfl⟩ := ry
          obtain ⟨rc, e1, e2⟩ := B.hr
          obtain ⟨fo, e3⟩ := B.i1
          obtain ⟨ro, e4⟩ := B.i2
          exact PySem.W.ksp_binT hF I.ok.mod.kin J rfl B.sf B.hs B.hf e1 e2 e3 e4 B.sub run
        | _ => cases hy
  · exact q.elim
/-- what an int says to an operator with an instance -/
def NiOk (op : Operator) : Prop := ∃ id, Slot "int" (PySem.dunder op.info.2) id ∧ fillsNumberSlot (.type "int") op.info.2 = pure true ∧
  ∀ (pr : Program) (w : World) (A : Around) (E : Value → Shared → Prop) (s : Shared) (i : Int) (t : Tok) (x : Addr) (o : Obj) (Q : Value → Shared → Prop), s.heap.get? x = some o → o.data = .plain → Q .notImplemented s → wpAny (model pr w) A (call (.builtin id) [.int i t, .ref x]) Q E s
theorem ni_add : NiOk .Add := ⟨_, F.slot_int_add, F.fills_int_add, fun _ _ _ _ _ _ _ _ _ _ h1 h2 h3 => Low.int_add_ni h1 h2 h3⟩
theorem ni_sub : NiOk .Sub := ⟨_, F.slot_int_sub, F.fills_int_sub, fun _ _ _ _ _ _ _ _ _ _ h1 h2 h3 => Low.int_sub_ni h1 h2 h3⟩
theorem ni_mul : NiOk .Mult := ⟨_, F.slot_int_mul, F.fills_int_mul, fun _ _ _ _ _ _ _ _ _ _ h1 h2 h3 => Low.int_mul_ni h1 h2 h3⟩
structure RBinOk (K : PySem.W.Frag) (c : Cn) (nm : String) (g : Addr) : Prop where
  sf : PySem.W.selfFirst K (c.a K) = true
  hs : ∃ f : Addr, PySem.W.findIn K (.ref (c.a K)) (PySem.dunder nm) = some (some (.ref f))
  hg : PySem.W.findIn K (.ref (c.a K)) (dunderR nm) = some (some (.ref g))
  hf : PySem.W.isFn K (.ref g) = true
  sub : PySem.W.subIn K (.ref (c.a K)) (.type "int") = some false
def gOwnR (c : Cn) (m : Mode) (F : Fn) : D → D → Store → R D := fun x y S => if isInt x = true ∧ isIns c y S = true then callN m 2 F [] [y, x] S else .stuck
theorem o_ownR {op : Operator} {c : Cn} {f : Addr} {k : Nat} {F : Fn} (m : Mode) (ni : NiOk op) (B : RBinOk X.K c op.info.2 f) (C : XDef X f k 2 [] F) (tk : Takes X W) (hr : Room k X.A) : OpF X W (binaryOp op) (gOwnR c m F) := by
  intro pins s σ H w ρ S x y dx dy v u Q I a r1 r2 rx ry q
  unfold gOwnR at q
  split at q
  · rename_i hc
    obtain ⟨a2, d2, f2, rfl, h2, _⟩ := ins_at a.st r2 hc.2
    obtain rfl : u = Value.ref a2 := ry
    obtain ⟨od, J⟩ := inst_of I h2
    obtain ⟨id, slot, fills, hni⟩ := ni
    obtain ⟨f', hs⟩ := B.hs
    have run := wpAny_mono (go_call' (us := [Value.ref a2, v]) (vs := [V.ref a2, x]) m C tk hr I (.cons rfl (.cons rx .nil)) a.st (.cons r2 (.cons r1 .nil)) q) (fun v s' z => ep_back z) (fun _ _ z => z)
    cases dx with
    | r n => cases hc.1
    | p z =>
      cases z with
      | int j =>
        obtain rfl := rep_int r1
        obtain ⟨t, rfl⟩ := rx
        exact Low.rbin I.kIn J B.sf slot fills (fun Q' q' => hni _ _ _ _ _ _ _ _ _ Q' J.1 rfl q') hs ⟨f', rfl⟩ B.hg B.hf B.sub run
      | _ => cases hc.1
  · exact q.elim
/-- -x by an own __neg__ -/
structure NegOk (K : PySem.W.Frag) (c : Cn) (f : Addr) : Prop where
  hs : PySem.W.findIn K (.ref (c.a K)) "__neg__" = some (some (.ref f))
  hf : PySem.W.isFn K (.ref f) = true
def gOwn1 (c : Cn) (m : Mode) (F : Fn) : D → Store → R D := fun x S => if isIns c x S = true then callN m 1 F [] [x] S else .stuck
def gOr1 (g g' : D → Store → R D) : D → Store → R D := fun x S => match g x S with
  | .stuck => g' x S
  | r => r
theorem UnF.or {f : Value → Sem Value} {g g' : D → Store → R D} (h : UnF X W f g) (h' : UnF X W f g') : UnF X W f (gOr1 g g') := by
  intro pins s σ H w ρ S x dx v Q I a r1 rx q
  unfold gOr1 at q
  split at q
  · exact h' pins s σ H w ρ S x dx v Q I a r1 rx q
  · exact h pins s σ H w ρ S x dx v Q I a r1 rx q
theorem u_neg {c : Cn} {f : Addr} {k : Nat} {F : Fn} (m : Mode) (B : NegOk X.K c f) (C : XDef X f k 1 [] F) (tk : Takes X W) (hr : Room k X.A) : UnF X W (unaryOp .USub) (gOwn1 c m F) := by
  intro pins s σ H w ρ S x dx v Q I a r1 rx q
  unfold gOwn1 at q
  split at q
  · rename_i hc
    obtain ⟨a1, d1, f1, rfl, h1, _⟩ := ins_at a.st r1 hc
    obtain rfl : v = Value.ref a1 := rx
    obtain ⟨od, J⟩ := inst_of I h1
    obtain ⟨mm, hF⟩ := I.fr
    exact PySem.W.ksp_neg hF I.ok.mod.kin J B.hs B.hf (go_call' (us := [Value.ref a1]) (vs := [V.ref a1]) m C tk hr I (.cons rfl .nil) a.st (.cons r1 .nil) q)
  · exact q.elim
/-- a call within a built-in's body: nothing may be raised -/
theorem go_in1 {pins : List (Addr × Obj)} {σ : L2.St} {H : Hp} {s : Shared} {Q : VK} {us : List Value} {vs : List V} {w : Wd} {S : Store} {ds : List D} {f : Addr} {k n : Nat} {F : Fn} {E' : Value → Shared → Prop} (m : Mode) (C : XDef X f k n [] F) (hr : Room (k + 1) X.A) (I : Inv X pins σ H s) (r : Vals vs us)
    (sr : SRep X.K w H S) (dr : DReps X.K w H vs ds) (h : oR X.K W σ w H (qE X.K Q) (noX (callN m n F [] ds S))) : wpAny (model X.prog X.w) X.A.in1 (call (.ref f) us) (EP X pins σ Q) E' s := by
  obtain ⟨fd, ps, ds', zs, hk, hb, hv, hz, hF⟩ := C.ex
  have ez : zs = [] := by
    have h0 := hz (fun _ => False) (fun _ => none)
    cases h0; rfl
  subst ez
  cases hv
  have h' := oR_noX (W' := W0) (σ' := σ) h
  have hsp : spOf X.K n F (vs ++ []) H Q E0 := by
    unfold callN at h'
    split at h'
    · rename_i hl
      exact sp_M (W := W0) (σ := σ) (zs := []) m sr dr hz (by simp only [List.length_nil]; rw [dr.length]; exact hl) h'
    · exact h'.elim
  rw [List.append_nil] at hsp
  have ll : (us ++ []).length = ps.length := by rw [List.append_nil, ← r.length]; exact hF.len _ _ _ _ hsp
  have hbb := hb s us I.kIn ll
  rw [List.append_nil] at hbb
  refine wpAny_call (codeAny_mono (hF.run X.A.in1 X.stack s H ⟨us, []⟩ us vs Q E0 (hr.in1) I.env0.in1 hbb r hsp) fun o s' ho => ?_)
  cases o with
  | error er => exact ((passL (X := X.nox) pins σ H s er s' (I.wish _) ho) : False).elim
  | ok fl =>
    cases fl with
    | ret u => exact I.after ho
    | _ => exact (show False from ho).elim
/-- abs(x) by an own __abs__ -/
structure AbsOk (K : PySem.W.Frag) (c : Cn) (f : Addr) : Prop where
  hs : PySem.W.findIn K (.ref (c.a K)) "__abs__" = some (some (.ref f))
  hf : PySem.W.isFn K (.ref f) = true
def gAbsO (c : Cn) (F : Fn) : List D → Store → R D := fun ds S => match ds with
  | [x] => if isIns c x S = true then noX (callN .P 1 F [] [x] S) else .stuck
  | _ => .stuck
theorem handed_v {v : V} {u : Value} (r : RelV v u) : PySem.W.handedIn u = true := handed_of r
theorem ca_abs {c : Cn} {f : Addr} {k : Nat} {F : Fn} (B : AbsOk X.K c f) (C : XDef X f k 1 [] F) (hr : Room (k + 1) X.A) : CaF X W (.builtin "abs") (gAbsO c F) := by
  intro pins s σ H w ρ S xs ds us Q I a dr r q
  unfold gAbsO at q
  split at q
  · split at q
    · rename_i x hc
      obtain ⟨v, rfl, hv⟩ := reps_one dr
      obtain ⟨a1, d1, f1, rfl, h1, _⟩ := ins_at a.st hv hc
      obtain ⟨u, rfl, ru⟩ := vals1 r
      obtain rfl : u = Value.ref a1 := ru
      obtain ⟨od, J⟩ := inst_of I h1
      refine PySem.Calls.call_function_entry kind_abs plain_abs entry_abs (args_abs _) ?_
      unfold Builtin.«abs»
      refine wpAny_bind (m := oneArg "abs" _) (wpAny_pure ?_)
      refine wpAny_bind (m := callSpecial? (.ref a1) (Str.ofString "__abs__")) (PySem.W.special_fn I.kIn J B.hs (beq_iff_eq.mp B.hf) ?_)
      refine wpAny_mono (go_in1 (us := [Value.ref a1]) (vs := [V.ref a1]) (Q := Q) .P C hr I (.cons rfl .nil) a.st (.cons hv .nil) q) (fun z s' hz => ?_) (fun _ _ hz => hz)
      exact wpAny_pure ⟨_, rfl, hz⟩
    · exact q.elim
  · exact q.elim
theorem CaF.or {f : Value} {g g' : List D → Store → R D} (h : CaF X W f g) (h' : CaF X W f g') : CaF X W f fun ds S => match g ds S with
  | .stuck => g' ds S
  | r => r := by
  intro pins s σ H w ρ S xs ds us Q I a dr r q
  dsimp only at q
  split at q
  · exact h' pins s σ H w ρ S xs ds us Q I a dr r q
  · exact h pins s σ H w ρ S xs ds us Q I a dr r q
theorem ca_of {idn : String} {r : List V → Hp → VK → Prop} {g : List D → Store → R D} (hc : CallR X (.builtin idn) r)
    (hr : ∀ (σ : L2.St) (H : Hp) (w : Wd) (ρ : Env) (S : Store) (vs : List V) (ds : List D) (Q : VK), At X.K w σ H ρ S → DReps X.K w H vs ds → oR X.K W σ w H (qE X.K Q) (g ds S) → r vs H Q) : CaF X W (.builtin idn) g :=
  fun pins s σ H w ρ S xs ds us Q I a dr rv q => hc pins s σ H xs us Q I rv (hr σ H w ρ S xs ds Q a dr q)
/-- a built-in function by its name, told by CaF -/
theorem se_callC {x : Str} {p : Pos} {g : List D → Store → R D} {f : FA} {idn : String} (hc : CaF X W (.builtin idn) g) (hm : X.mg x = none) (hv : bootBuiltins x = some (.builtin idn)) (ha : SA X W (e :: es) f) (hg : Gl X x := by rfl) (hn : x ≠ "__name__" := by decide) (hdb : (x == ("__debug__" : Str)) = false := by decide)
    (he : starEach (e :: es) X.env = (false, eval e X.env) :: starEach es X.env := by rfl) (hpl : (backTo pos (starEach es X.env)).any (·.1) = false := by rfl) : SE X W (.Call (.Name x p) (e :: es) [] pos) (cA g f) := by
  refine ⟨fun pins s σ H Q I ⟨w, ρ, S, a, h⟩ => wpAny_Call_Name_kw (ld_blt I hg hm hv ?_ hn hdb)⟩
  refine PyProof.Rows.callWith_builtin1 (thn (ha.run pos pins s σ H (fun vs H1 => ∃ w1 S1 l, At X.K w1 σ H1 ρ S1 ∧ DReps X.K w1 H1 vs l ∧ oR X.K W σ w1 H1 (qE X.K Q) (g l S1)) I ?_) fun us s1 ⟨vs, H1, I1, r1, w1, S1, l, a1, dr, q1⟩ => hc pins s1 σ H1 w1 ρ S1 vs l us Q I1 a1 dr r1 q1) he hpl
  exact tA_of a (oR_bind a.ok h) fun w1 H1 S1 l vs st a1 h1 r => ⟨w1, S1, l, a1, r, h1⟩
end
end FR

set_option Elab.async false
set_option linter.all false
set_option maxRecDepth 100000
set_option maxHeartbeats 1000000
namespace FR
open PySem PySem.Spec PyProof.Rows L2
/-! ### defs of the top, wherever they stand -/
structure DefX where
  ad : PySem.W.Frag → Addr
  name : Str
  qual : Str
  params : Arguments
  body : List Stmt
  scope : Scope
  dfl : List He.Dv := []
  kwd : List (Str × He.Dv) := []
  clo : List Str := []
def fnX (K : PySem.W.Frag) (a : Addr) : He.FnW := match K.lookup a with
  | some ⟨_, _, .func fd, _⟩ => some (fd.name, fd.qualname, fd.params, fd.body, fd.scope, fd.globals, fd.closure.map fun p => (p.1, 0), fd.builtins)
  | _ => none
def DefX.val (d : DefX) : He.FnW := some (d.name, d.qual, d.params, .stmts d.body, d.scope, mainGlobals, d.clo.map fun x => (x, 0), builtinsNs)
def DefX.dvs (K : PySem.W.Frag) (d : DefX) : List V := d.dfl.map (He.Dv.v K)
def DefX.kws (K : PySem.W.Frag) (d : DefX) : List (Str × V) := d.kwd.map fun q => (q.1, q.2.v K)
def DefX.ok (K : PySem.W.Frag) (d : DefX) : Bool := PySem.W.keepIn K (.ref (d.ad K)) && (match K.lookup (d.ad K) with
  | some ⟨_, _, .func fd, _⟩ => PySem.W.codeIn K fd.code d.qual && (He.dflB K fd.defaults (d.dvs K) && He.kwdB K fd.kwdefaults (d.kws K))
  | _ => false)
theorem b2 {a b : Bool} (h : (a && b) = true) : a = true ∧ b = true := Bool.and_eq_true_iff.mp h
theorem DefX.funD {K : PySem.W.Frag} {d : DefX} (e : fnX K (d.ad K) = d.val) (c : d.ok K = true) (hcl : d.clo = []) : ∃ fd, FunD K d.name d.qual d.params d.body d.scope (d.dvs K) (d.kws K) (d.ad K) fd := by
  obtain ⟨kp, c2⟩ := b2 c
  unfold fnX at e
  cases q : K.lookup (d.ad K) with
  | none => rw [q] at c2; cases c2
  | some o =>
    obtain ⟨oc, od, dt, osl⟩ := o
    rw [q] at c2 e
    cases dt with
    | func fd =>
      obtain ⟨m1, m2, m3, m4, m5, m6, m7, m8, m9, m10, m11, m12, m13, m14, m15⟩ := fd
      have e2 : (some (m1, m2, m3, m4, m5, m6, m7.map (fun p => (p.1, 0)), m15) : He.FnW) = some (d.name, d.qual, d.params, .stmts d.body, d.scope, mainGlobals, d.clo.map (fun x => (x, 0)), builtinsNs) := e
      rw [hcl] at e2
      simp only [Option.some.injEq, Prod.mk.injEq, List.map_nil, List.map_eq_nil_iff] at e2
      obtain ⟨g1, g2, g3, g4, g5, g6, g7, g8⟩ := e2
      subst g1 g2 g3 g4 g5 g6 g7 g8
      obtain ⟨k1, k2⟩ := b2 (show (PySem.W.codeIn K m13 d.qual && (He.dflB K m8 (d.dvs K) && He.kwdB K m9 (d.kws K))) = true from c2)
      obtain ⟨k3, k4⟩ := b2 k2
      exact ⟨_, ⟨oc, od, m8, m9, m10, m11, m12, m13, m14, osl, rfl, q, k1, He.dflB_ok k3, He.kwdB_ok k4⟩, kp⟩
    | _ => cases c2
/-! ### addresses -/
abbrev aF (x : Str) (K : PySem.W.Frag) : Addr := He.ga K x
abbrev aM (c : Cn) (m : Str) (K : PySem.W.Frag) : Addr := He.ma K (c.a K) m
/-- a property's getter; a classmethod's or staticmethod's function -/
def aR (kind : String) (c : Cn) (m : Str) (K : PySem.W.Frag) : Addr := match PySem.W.recIn K (aM c m K) kind with
  | some (.ref g :: _) => g
  | _ => 0
/-! ### facts about what the top has left -/
/-- an int constant of a class -/
def conB (K : PySem.W.Frag) (c : Cn) (m : Str) (i : Int) : Bool := (He.Fa.cls c.x).ok K && ((match PySem.W.findIn K (.ref (c.a K)) m with
  | some (some (.int j t)) => decide (j = i) && decide (PySem.W.specialIn K (.int j t) "__get__" = some none)
  | _ => false) && (!PySem.W.copiedNames.contains m && noFld m))
inductive Fx where
  | glo (x : Str) | free (x : Str) | bfun (x : Str) (id : String) | int (x : Str) (i : Int)
  | fld (c : Cn) (f : Fld) | mk (c : Cn) | meth (c : Cn) (m : Str) | prop (c : Cn) (m : Str)
  | bin (c : Cn) (nm : String) | rbin (c : Cn) (nm : String) | neg (c : Cn) | abs (c : Cn) | ins (c : Cn) | kit (t u : Tg) (b : Bool) | con (c : Cn) (m : Str) (i : Int) | gen (f : PySem.W.Frag → Bool)
def optO (a : Option (Option Value)) (b : Value) : Bool := decide (a = some (some b))
def Fx.ok (K : PySem.W.Frag) : Fx → Bool
  | .glo x => (He.Fa.glo x).ok K
  | .free x => (He.Fa.free x).ok K
  | .bfun x id => optO (PySem.W.nsIn K mainGlobals x) (.builtin id)
  | .int x i => (He.Fa.int x i).ok K
  | .fld c f => (He.Fa.cls c.x).ok K && (He.Fa.noat c.x f.x).ok K
  | .mk c => (He.Fa.glo c.x).ok K && (He.Fa.mkr c.x).ok K
  | .meth c m => (He.Fa.cls c.x).ok K && ((He.Fa.meth c.x m).ok K && noFld m)
  | .prop c m => (He.Fa.cls c.x).ok K && (optO (PySem.W.findIn K (.ref (c.a K)) m) (.ref (aM c m K)) && (optO (PySem.W.specialIn K (.ref (aM c m K)) "__get__") (.builtin "property.__get__") &&
      (decide (PySem.W.takesIn K (.ref (aM c m K)) = some true) && (match PySem.W.recIn K (aM c m K) "property" with
        | some (.ref _ :: _) => true
        | _ => false))))
  | .bin c nm => PySem.W.selfFirst K (c.a K) && (optO (PySem.W.findIn K (.ref (c.a K)) (PySem.dunder nm)) (.ref (aM c (PySem.dunder nm) K)) && (PySem.W.isFn K (.ref (aM c (PySem.dunder nm) K)) &&
      ((match PySem.W.findIn K (.ref (c.a K)) (dunderR nm) with
        | some none => true
        | some (some (.ref _)) => true
        | _ => false) && ((PySem.W.findIn K (.type "int") (PySem.dunder nm)).isSome && ((PySem.W.findIn K (.type "int") (dunderR nm)).isSome && decide (PySem.W.subIn K (.type "int") (.ref (c.a K)) = some false))))))
  | .rbin c nm => PySem.W.selfFirst K (c.a K) && (optO (PySem.W.findIn K (.ref (c.a K)) (PySem.dunder nm)) (.ref (aM c (PySem.dunder nm) K)) && (optO (PySem.W.findIn K (.ref (c.a K)) (dunderR nm)) (.ref (aM c (dunderR nm) K)) &&
      (PySem.W.isFn K (.ref (aM c (dunderR nm) K)) && decide (PySem.W.subIn K (.ref (c.a K)) (.type "int") = some false))))
  | .neg c => optO (PySem.W.findIn K (.ref (c.a K)) "__neg__") (.ref (aM c "__neg__" K)) && PySem.W.isFn K (.ref (aM c "__neg__" K))
  | .abs c => optO (PySem.W.findIn K (.ref (c.a K)) "__abs__") (.ref (aM c "__abs__" K)) && PySem.W.isFn K (.ref (aM c "__abs__" K))
  | .ins c => (He.Fa.cls c.x).ok K && (optO (PySem.W.findIn K (.ref (c.a K)) "__class__") (.builtin "object.__class__") && (optO (PySem.W.specialIn K (.builtin "object.__class__") "__get__") (.builtin "getset_descriptor.__get__") &&
      (decide (PySem.W.takesIn K (.builtin "object.__class__") = some true) && decide (PySem.W.mroIn K (c.a K) (.type "object") = some true))))
  | .kit t u b => decide (PySem.W.kitOne K (t.v K) (u.v K) = some b)
  | .con c m i => conB K c m i
  | .gen f => f K
section
variable {K : PySem.W.Frag} {h : Heap} {mg : Str → Option Value}
theorem optO_ok {a : Option (Option Value)} {b : Value} (h : optO a b = true) : a = some (some b) := of_decide_eq_true h
theorem glo_f (X : K.In h) (G : h.Ns mainGlobals mg) {x : Str} (c : (Fx.glo x).ok K = true) : mg x = some (.ref (aF x K)) := He.glo_ok X G c
theorem cn_f (X : K.In h) (G : h.Ns mainGlobals mg) {cn : Cn} (c : (Fx.glo cn.x).ok K = true) : mg cn.x = some (.ref (cn.a K)) := He.glo_ok X G c
theorem free_f (X : K.In h) (G : h.Ns mainGlobals mg) {x : Str} (c : (Fx.free x).ok K = true) : mg x = none := He.free_ok X G c
theorem bfun_f (X : K.In h) (G : h.Ns mainGlobals mg) {x : Str} {id : String} (c : (Fx.bfun x id).ok K = true) : mg x = some (.builtin id) := PySem.W.mg_of X G (optO_ok c)
theorem int_f (X : K.In h) (G : h.Ns mainGlobals mg) {x : Str} {i : Int} (c : (Fx.int x i).ok K = true) : ∃ t, mg x = some (.int i t) := He.int_ok X G c
theorem fld_f {c : Cn} {f : Fld} (e : (Fx.fld c f).ok K = true) : FldOk K c f := ⟨He.cls_ok (b2 e).1, He.noat_ok (b2 e).2⟩
theorem mk_f (X : K.In h) (G : h.Ns mainGlobals mg) {c : Cn} (e : (Fx.mk c).ok K = true) : MkOk K mg c (aM c "__init__" K) := ⟨He.mkr_ok (b2 e).2, He.glo_ok X G (b2 e).1⟩
theorem meth_f {c : Cn} {m : Str} (e : (Fx.meth c m).ok K = true) : MethOk K c m (aM c m K) := ⟨He.cls_ok (b2 e).1, He.meth_ok (b2 (b2 e).2).1, (b2 (b2 e).2).2⟩
theorem prop_f {c : Cn} {m : Str} (e : (Fx.prop c m).ok K = true) : PropOk K c m (aM c m K) (aR "property" c m K) := by
  obtain ⟨e1, e⟩ := b2 e
  obtain ⟨e2, e⟩ := b2 e
  obtain ⟨e3, e⟩ := b2 e
  obtain ⟨e4, e5⟩ := b2 e
  refine ⟨He.cls_ok e1, optO_ok e2, optO_ok e3, of_decide_eq_true e4, ?_⟩
  unfold aR
  cases q : PySem.W.recIn K (aM c m K) "property" with
  | none => rw [q] at e5; cases e5
  | some l =>
    rw [q] at e5
    cases l with
    | nil => cases e5
    | cons a r =>
      cases a with
      | ref g => exact ⟨r, rfl⟩
      | _ => cases e5
theorem bin_f {c : Cn} {nm : String} (e : (Fx.bin c nm).ok K = true) : BinOk K c nm (aM c (PySem.dunder nm) K) := by
  obtain ⟨e1, e⟩ := b2 e
  obtain ⟨e2, e⟩ := b2 e
  obtain ⟨e3, e⟩ := b2 e
  obtain ⟨e4, e⟩ := b2 e
  obtain ⟨e5, e⟩ := b2 e
  obtain ⟨e6, e7⟩ := b2 e
  refine ⟨e1, optO_ok e2, e3, ?_, Option.isSome_iff_exists.mp e5, Option.isSome_iff_exists.mp e6, of_decide_eq_true e7⟩
  cases q : PySem.W.findIn K (.ref (c.a K)) (dunderR nm) with
  | none => rw [q] at e4; cases e4
  | some o =>
    rw [q] at e4
    cases o with
    | none => exact ⟨none, rfl, .inl rfl⟩
    | some v =>
      cases v with
      | ref g => exact ⟨_, rfl, .inr ⟨g, rfl⟩⟩
      | _ => cases e4
theorem rbin_f {c : Cn} {nm : String} (e : (Fx.rbin c nm).ok K = true) : RBinOk K c nm (aM c (dunderR nm) K) := by
  obtain ⟨e1, e⟩ := b2 e
  obtain ⟨e2, e⟩ := b2 e
  obtain ⟨e3, e⟩ := b2 e
  obtain ⟨e4, e5⟩ := b2 e
  exact ⟨e1, ⟨_, optO_ok e2⟩, optO_ok e3, e4, of_decide_eq_true e5⟩
theorem neg_f {c : Cn} (e : (Fx.neg c).ok K = true) : NegOk K c (aM c "__neg__" K) := ⟨optO_ok (b2 e).1, (b2 e).2⟩
theorem abs_f {c : Cn} (e : (Fx.abs c).ok K = true) : AbsOk K c (aM c "__abs__" K) := ⟨optO_ok (b2 e).1, (b2 e).2⟩
theorem ins_f {c : Cn} (e : (Fx.ins c).ok K = true) : InsOk K c := by
  obtain ⟨e1, e⟩ := b2 e
  obtain ⟨e2, e⟩ := b2 e
  obtain ⟨e3, e⟩ := b2 e
  obtain ⟨e4, e5⟩ := b2 e
  exact ⟨He.cls_ok e1, optO_ok e2, optO_ok e3, of_decide_eq_true e4, of_decide_eq_true e5⟩
theorem kit_f {t u : Tg} {b : Bool} (e : (Fx.kit t u b).ok K = true) : PySem.W.kitOne K (t.v K) (u.v K) = some b := of_decide_eq_true e
end
/-! ### the Hook -/
abbrev AlX : Type := Bool × List He.FnW
def obsX (fx : List Fx) (fn : List DefX) (K : PySem.W.Frag) : AlX := ((fx.all fun f => f.ok K) && fn.all fun d => d.ok K, fn.map fun d => fnX K (d.ad K))
def valX (fn : List DefX) : AlX := (true, fn.map DefX.val)
def SaysX (fx : List Fx) (fn : List DefX) (K : PySem.W.Frag) : Prop := obsX fx fn K = valX fn
def obsXG (n : Nat) (fx : List Fx) (fn : List DefX) (g : Addr → Option Obj) : AlX := obsX fx fn (He.frG g (He.asD g n ++ [PySem.cStatics]))
def hookX (n : Nat) (fx : List Fx) (fn : List DefX) : PySem.W.Hook where
  α := AlX
  obs := fun s => obsXG n fx fn s.heap.get?
  val := fun _ => valX fn
  says := fun _ h => ∃ K : PySem.W.Frag, K.In h ∧ SaysX fx fn K
  of := fun _ _ e => ⟨_, He.frG_in, e⟩
  keeps := fun _ _ _ ⟨K, hK, c⟩ k => ⟨K, PySem.W.Frag.In.keeps hK k, c⟩
theorem obsXG_eq {n : Nat} {fx : List Fx} {fn : List DefX} {g : Addr → Option Obj} {s : Shared} (h : ∀ a, g a = s.heap.get? a) : obsXG n fx fn g = (hookX n fx fn).obs s := by
  have e : g = s.heap.get? := funext h
  rw [e] <;> rfl
section
variable {fx : List Fx} {fn : List DefX} {K : PySem.W.Frag}
theorem SaysX.fact (c : SaysX fx fn K) (i : Nat) {f : Fx} (h : fx[i]? = some f := by rfl) : f.ok K = true := by
  have c1 := (b2 (show ((fx.all fun f => f.ok K) && fn.all fun d => d.ok K) = true from congrArg (fun z : AlX => z.1) c)).1
  exact List.all_eq_true.mp c1 f (List.mem_of_getElem? h)
theorem SaysX.fn_ (c : SaysX fx fn K) (i : Nat) {d : DefX} (h : fn[i]? = some d := by rfl) : fnX K (d.ad K) = d.val ∧ d.ok K = true := by
  have c2 := (b2 (show ((fx.all fun f => f.ok K) && fn.all fun d => d.ok K) = true from congrArg (fun z : AlX => z.1) c)).2
  have e : fn.map (fun d => fnX K (d.ad K)) = fn.map DefX.val := congrArg (fun z : AlX => z.2) c
  have e2 : (fn.map fun d => fnX K (d.ad K))[i]? = (fn.map DefX.val)[i]? := by rw [e]
  rw [List.getElem?_map, List.getElem?_map, h] at e2
  exact ⟨Option.some.inj e2, List.all_eq_true.mp c2 d (List.mem_of_getElem? h)⟩
theorem SaysX.def_ (c : SaysX fx fn K) (i : Nat) {d : DefX} (h : fn[i]? = some d := by rfl) (hcl : d.clo = [] := by rfl) : ∃ fd, FunD K d.name d.qual d.params d.body d.scope (d.dvs K) (d.kws K) (d.ad K) fd :=
  DefX.funD (c.fn_ i h).1 (c.fn_ i h).2 hcl
end
/-! ### a def that may be called -/
theorem def_all {pr : Program} {w : World} {K : PySem.W.Frag} {mg : Str → Option Value} {base : Heap} {d : DefX} {fd : FuncData} {k n : Nat} {ps : List Str} {F : Fn} (D : FunD K d.name d.qual d.params d.body d.scope (d.dvs K) (d.kws K) (d.ad K) fd)
    (b : Binds K fd ps []) (ok : FnOk pr w K mg base (L2.CX pr w) k (d.ad K) fd ps (spOf K n F)) : Def pr w K mg base (d.ad K) k n [] F := ⟨⟨fd, ps, [], [], D.kp, b, .nil, fun _ _ => .nil, ok⟩⟩
end FR

set_option Elab.async false
set_option linter.all false
set_option maxRecDepth 100000
set_option maxHeartbeats 1000000
namespace FR
open PySem PySem.Spec PyProof.Rows L2
/-! ### == of nested data -/
mutual
def toPD : P → Option PyData
  | .non => some .none
  | .bl b => some (.bool b)
  | .int i => some (.int i)
  | .str x => some (.str x)
  | .tup l => (toPDs l).map .tuple
  | .lst l => (toPDs l).map .list
  | _ => none
def toPDs : List P → Option (List PyData)
  | [] => some []
  | a :: r => (toPD a).bind fun d => (toPDs r).map (d :: ·)
end
section
variable {K : PySem.W.Frag} {L : Addr → Prop} {H : Hp}
mutual
theorem rep_dp : ∀ {v : V} {p : P} {d : PyData}, Rep K L H v p → toPD p = some d → Dp K H v d
  | _, _, _, .non, h => by cases h; exact .non
  | _, _, _, .bl b, h => by cases h; exact .bl b
  | _, _, _, .int b, h => by cases h; exact .int b
  | _, _, _, .str b, h => by cases h; exact .str b
  | _, _, _, .ty b, h => by cases h
  | _, _, _, .nm b, h => by cases h
  | _, _, _, .tup (l := l) hh r, h => by
    unfold toPD at h
    cases q : toPDs l with
    | none => rw [q] at h; cases h
    | some ds => rw [q] at h; cases h; exact .tup hh (reps_dp r q)
  | _, _, _, .lst (l := l) hh r, h => by
    unfold toPD at h
    cases q : toPDs l with
    | none => rw [q] at h; cases h
    | some ds => rw [q] at h; cases h; exact .lst hh.sq (reps_dp r q)
  | _, _, _, .scr _ _, h => by cases h
  | _, _, _, .obj _ _ _, h => by cases h
theorem reps_dp : ∀ {vs : List V} {l : List P} {ds : List PyData}, Reps K L H vs l → toPDs l = some ds → DpAll K H vs ds
  | _, _, _, .nil, h => by cases h; exact .nil
  | _, _, _, .cons (p := p) (l := l) a t, h => by
    unfold toPDs at h
    cases q : toPD p with
    | none => rw [q] at h; cases h
    | some d =>
      rw [q] at h
      cases q2 : toPDs l with
      | none => rw [q2] at h; cases h
      | some ds => rw [q2] at h; cases h; exact .cons (rep_dp a q) (reps_dp t q2)
end
end
def eqD2 (f : Bool → Bool) : D → D → Store → R D := fun x y S => match x, y with
  | .p a, .p b => match toPD a, toPD b with
    | some d, some e => if SeqAt.shaped d = true ∧ SeqAt.shaped e = true then .ok (.p (.bl (f (PyData.eqv d e)))) S else .stuck
    | _, _ => .stuck
  | _, _ => .stuck
def gEqD : D → D → Store → R D := eqD2 id
def gNeD : D → D → Store → R D := eqD2 not
section
variable {X : Cx} {W : WX} {e : Expr} {es : List Expr} {pos : Pos}
theorem o_eqD {k : Nat} (hr : Room k X.A) : OpF X W (compareOp .Eq) gEqD := by
  intro pins s σ H w ρ S x y dx dy v u Q I a r1 r2 rx ry q
  unfold gEqD eqD2 at q
  split at q
  · split at q
    · split at q
      · rename_i d e h1 h2 hs
        exact op_eqD hr.units pins s σ H _ _ v u Q I rx ry ⟨d, e, rep_dp r1 h1, rep_dp r2 h2, hs.1, hs.2, oE_ok a.st q (.bl _)⟩
      · exact q.elim
    · exact q.elim
  · exact q.elim
theorem o_neD {k : Nat} (hr : Room k X.A) : OpF X W (compareOp .NotEq) gNeD := by
  intro pins s σ H w ρ S x y dx dy v u Q I a r1 r2 rx ry q
  unfold gNeD eqD2 at q
  split at q
  · split at q
    · split at q
      · rename_i d e h1 h2 hs
        exact op_neD hr.units pins s σ H _ _ v u Q I rx ry ⟨d, e, rep_dp r1 h1, rep_dp r2 h2, hs.1, hs.2, oE_ok a.st q (.bl _)⟩
      · exact q.elim
    · exact q.elim
  · exact q.elim
/-- a, b = e1, e2 -/
theorem ss_par (i j : Nat) {x y : Str} {a b : Expr} {f : FA} {px py pt : Pos} {kt k2 pt2} (hc : X.calm = true) (hN : X.N.Nodup) (ha : SA X W [a, b] f)
    (hw : swappedStores [.Tuple [.Name x px, .Name y py] kt pt] (.Tuple [a, b] k2 pt2) X.env = pure (some [x, y])) (hi : X.N[i]? = some x := by rfl) (hj : X.N[j]? = some y := by rfl) (hij : i ≠ j := by decide)
    (hx : X.env.scope.names.lookup x = some .local := by rfl) (hy : X.env.scope.names.lookup y = some .local := by rfl) (hs : swapsWithSole [.Tuple [.Name x px, .Name y py] kt pt] (.Tuple [a, b] k2 pt2) pos.line X.env = pure false := by rfl) :
    SS X W (.Assign [.Tuple [.Name x px, .Name y py] kt pt] (.Tuple [a, b] k2 pt2) pos) (sPar i j f) := (ps_par hc hN hi hj hij hx hy ha hw hs).imp imp_par
/-! ### lists that change -/
/-- l.append(e) -/
def fApp (fo : FE) (fa : FA) : FE := fun ρ S => (fo ρ S).bind fun o S1 => (match o with
  | .r n => if tagC S1[n]? = some (.ty "list") then (fa ρ S1).bind fun l S2 => (match S2[n]?, l with
    | some (.lst acc), [d] => if acc.length < 1000000 then .ok (.p .non) (S2.set n (.lst (acc ++ [d]))) else .stuck
    | _, _ => .stuck) else .stuck
  | _ => .stuck)
/-- l + k of lists that stand still -/
def gCatL : D → D → Store → R D := fun x y S => match x, y with
  | .p (.lst a), .p (.lst b) => if a.length ≤ 1000000 ∧ b.length ≤ 1000000 ∧ a.length + b.length ≤ 1000000 then .ok (.p (.lst (a ++ b))) S else .stuck
  | _, _ => .stuck
theorem lst_obj {pins : List (Addr × Obj)} {σ : L2.St} {H : Hp} {s : Shared} {L : Addr → Prop} {a : Addr} {vs : List V} (I : Inv X pins σ H s) (h : LstAt L H a vs) :
    ∃ (its : List Value) (n : Nat), Vals vs its ∧ vs.length ≤ sizeLine ∧ s.heap.get? a = some { cls := .type "list", data := .seq its.toArray n } := by
  rcases h with ⟨h, _⟩ | ⟨o, h⟩
  · obtain ⟨z, its, n, r, e⟩ := (show ObjOk X.prog X.w H s.heap a (.lst vs) from I.hok a _ h)
    exact ⟨its, n, r, z, e⟩
  · obtain ⟨_, z, its, n, r, e⟩ := (show ObjOk X.prog X.w H s.heap a (.frz o (.lst vs)) from I.hok a _ h)
    exact ⟨its, n, r, z, e⟩
theorem o_catL : OpF X W (binaryOp .Add) gCatL := by
  intro pins s σ H w ρ S x y dx dy v u Q I a r1 r2 rx ry q
  unfold gCatL at q
  split at q
  · split at q
    · rename_i l k hl
      cases r1 with
      | lst h1 q1 =>
        cases r2 with
        | lst h2 q2 =>
          cases rx
          cases ry
          obtain ⟨its, n, c1, c2, c3⟩ := lst_obj I h1
          obtain ⟨its2, n2, d1, d2, d3⟩ := lst_obj I h2
          have e1 := c1.length
          have e2 := d1.length
          have g1 := Reps.length q1
          have g2 := Reps.length q2
          refine PySem.P.add_list c3 d3 ?_ (by rw [List.size_toArray, List.size_toArray, ← e1, ← e2, g1, g2, sizeLine_eq]; omega)
          have ea : its.toArray ++ its2.toArray = (its ++ its2).toArray := by simp
          rw [ea]
          obtain ⟨st2, sr2⟩ := lay_pure (o := .lst (_ ++ _)) a.st I.fresh
          exact ⟨.ref _, _, I.lnew (t' := s.toks) (c1.append d1) (by rw [List.length_append, g1, g2, sizeLine_eq]; omega), rfl, q w _ st2 sr2 (.ref _) (show DRep X.K w _ _ (.p (.lst _)) from .lst (.inl ⟨upd_same, nL_of a.st I.fresh⟩) (Reps.app (Reps.step a.ok st2 q1) (Reps.step a.ok st2 q2)))⟩
    · exact q.elim
  · exact q.elim
end
end FR

set_option Elab.async false
set_option linter.all false
set_option maxRecDepth 100000
set_option maxHeartbeats 1000000
namespace FR
open PySem PySem.Spec PyProof.Rows L2
/-! ### what is not told -/
section
variable {X : Cx} {W : WX} {e : Expr} {es : List Expr} {pos : Pos}
def zE : FE := fun _ _ => .stuck
def zT : FT := fun _ _ => .stuck
def zS : FC := fun _ _ => .stuck
theorem se_any : SE X W e zE := ⟨fun pins s σ H Q I ⟨w, ρ, S, a, h⟩ => h.elim⟩
theorem st_any : ST X W e zT := ⟨fun pins s σ H Q I ⟨w, ρ, S, a, h⟩ => h.elim⟩
theorem ss_any {st : Stmt} : SS X W st zS := ⟨fun pins s σ H D I ⟨w, ρ, S, a, h⟩ => h.elim⟩
theorem sss_any {st : List Stmt} : SSs X W st zS := ⟨fun pins s σ H D I ⟨w, ρ, S, a, h⟩ => h.elim⟩
end
/-! ### cells put to rest -/
def frzL (f : D → Store → Option (P × Store)) : List D → Store → Option (List P × Store)
  | [], S => some ([], S)
  | d :: ds, S => match f d S with
    | some (q, S1) => (match frzL f ds S1 with
      | some (k, S2) => some (q :: k, S2)
      | none => none)
    | none => none
def frzF (f : D → Store → Option (P × Store)) : List (Fld × D) → Store → Option (List (Fld × P) × Store)
  | [], S => some ([], S)
  | d :: ds, S => match f d.2 S with
    | some (q, S1) => (match frzF f ds S1 with
      | some (k, S2) => some ((d.1, q) :: k, S2)
      | none => none)
    | none => none
def frz : Nat → D → Store → Option (P × Store)
  | _, .p q, S => some (q, S)
  | 0, .r _, _ => none
  | k + 1, .r n, S => match S[n]? with
    | some (.lst l) => (match frzL (frz k) l (S.set n .dead) with
      | some (q, S1) => some (.lst q, S1)
      | none => none)
    | some (.ins c gs) => (match frzF (frz k) gs (S.set n .dead) with
      | some (q, S1) => some (.obj c q, S1)
      | none => none)
    | _ => none
@[simp] theorem frz_p (k : Nat) (q : P) (S : Store) : frz k (.p q) S = some (q, S) := by cases k <;> rfl
@[simp] theorem frzL_map (k : Nat) (l : List P) (S : Store) : frzL (frz k) (l.map .p) S = some (l, S) := by
  induction l with
  | nil => rfl
  | cons a r ih => simp [frzL, ih]
section
variable {K : PySem.W.Frag} {H : Hp}
def FrzOk (K : PySem.W.Frag) (H : Hp) (f : D → Store → Option (P × Store)) : Prop := ∀ (w : Wd) (S : Store) (v : V) (d : D) (q : P) (S' : Store), SRep K w H S → DRep K w H v d → f d S = some (q, S') → ∃ w', Step w H w' H ∧ SRep K w' H S' ∧ Rep K w'.L H v q
theorem frzL_ok {f : D → Store → Option (P × Store)} (hf : FrzOk K H f) : ∀ {l : List D} {w : Wd} {S : Store} {vs : List V} {q : List P} {S' : Store}, SRep K w H S → DReps K w H vs l → frzL f l S = some (q, S') → ∃ w', Step w H w' H ∧ SRep K w' H S' ∧ Reps K w'.L H vs q
  | [], w, S, vs, q, S', sr, r, h => by
    cases h
    cases r
    exact ⟨w, Step.refl _ _ sr.ok, sr, .nil⟩
  | d :: ds, w, S, vs, q, S', sr, r, h => by
    unfold frzL at h
    cases r with
    | cons h1 t =>
      split at h
      · rename_i q1 S1 e1
        split at h
        · rename_i k S2 e2
          cases h
          obtain ⟨w1, st1, sr1, r1⟩ := hf w S _ d q1 S1 sr h1 e1
          obtain ⟨w2, st2, sr2, r2⟩ := frzL_ok hf sr1 (t.step sr.ok st1) e2
          exact ⟨w2, st1.trans sr.ok st2, sr2, .cons (Rep.step sr1.ok st2 r1) r2⟩
        · cases h
      · cases h
theorem frzF_ok {f : D → Store → Option (P × Store)} (hf : FrzOk K H f) : ∀ {l : List (Fld × D)} {w : Wd} {S : Store} {vs : List (Str × V)} {q : List (Fld × P)} {S' : Store}, SRep K w H S → DRepF K w H vs l → frzF f l S = some (q, S') → ∃ w', Step w H w' H ∧ SRep K w' H S' ∧ RepF K w'.L H vs q
  | [], w, S, vs, q, S', sr, r, h => by
    cases h
    cases r
    exact ⟨w, Step.refl _ _ sr.ok, sr, .nil⟩
  | d :: ds, w, S, vs, q, S', sr, r, h => by
    unfold frzF at h
    cases r with
    | cons h1 t =>
      split at h
      · rename_i q1 S1 e1
        split at h
        · rename_i k S2 e2
          cases h
          obtain ⟨w1, st1, sr1, r1⟩ := hf w S _ _ q1 S1 sr h1 e1
          obtain ⟨w2, st2, sr2, r2⟩ := frzF_ok hf sr1 (t.step sr.ok st1) e2
          exact ⟨w2, st1.trans sr.ok st2, sr2, .cons (Rep.step sr1.ok st2 r1) r2⟩
        · cases h
      · cases h
theorem del_out {w w' : Wd} {n : Nat} {a : Addr} {o : HO} (ha : H a = some o) (st : Step (w.del n a) H w' H) : ¬ w'.L a := fun z => by
  rcases st.l1 a z with q | q
  · exact q.1 rfl
  · rw [ha] at q; cases q
theorem frz_ok : ∀ (k : Nat), FrzOk K H (frz k)
  | k, w, S, v, .p q0, q, S', sr, r, h => by
    rw [frz_p] at h
    cases h
    exact ⟨w, Step.refl _ _ sr.ok, sr, r⟩
  | 0, w, S, v, .r n, q, S', sr, r, h => by cases h
  | k + 1, w, S, v, .r n, q, S', sr, r, h => by
    unfold frz at h
    split at h
    · rename_i l e
      split at h
      · rename_i q1 S1 e1
        cases h
        obtain ⟨a, vs, h1, h2, h3⟩ := sr.cell n _ e
        obtain ⟨st, sr1⟩ := freeze_cell sr h1
        obtain ⟨w2, st2, sr2, r2⟩ := frzL_ok (frz_ok k) sr1 (h3.step sr.ok st) e1
        refine ⟨w2, st.trans sr.ok st2, sr2, ?_⟩
        rw [r.2 a h1]
        exact .lst (.inl ⟨h2, del_out h2 st2⟩) r2
      · cases h
    · rename_i c gs e
      split at h
      · rename_i q1 S1 e1
        cases h
        obtain ⟨a, dx, vs, h1, h2, h3⟩ := sr.cell n _ e
        obtain ⟨st, sr1⟩ := freeze_cell sr h1
        obtain ⟨w2, st2, sr2, r2⟩ := frzF_ok (frz_ok k) sr1 (h3.step sr.ok st) e1
        refine ⟨w2, st.trans sr.ok st2, sr2, ?_⟩
        rw [r.2 a h1]
        exact .obj h2 (del_out h2 st2) r2
      · cases h
    · cases h
end
def fFz (f : FE) : FE := fun ρ S => (f ρ S).bind fun d S1 => match frz 6 d S1 with
  | some (q, S2) => .ok (.p q) S2
  | none => .stuck
section
variable {X : Cx} {W : WX} {e : Expr} {es : List Expr} {pos : Pos}
theorem se_fz {f : FE} (h : SE X W e f) : SE X W e (fFz f) := h.imp fun σ H Q ⟨w, ρ, S, a, h⟩ => tE_of a (oR_bind a.ok h) fun w1 H1 S1 d v st a1 h1 r => by
  split at h1
  · rename_i q S2 e2
    obtain ⟨w2, st2, sr2, r2⟩ := frz_ok 6 w1 S1 v d q S2 a1.st r e2
    exact h1 w2 H1 st2 sr2 v r2
  · exact h1.elim
end
end FR

set_option Elab.async false
set_option linter.all false
set_option maxRecDepth 100000
set_option maxHeartbeats 1000000
namespace FR
open PySem PySem.Spec PyProof.Rows L2
theorem bo_len : bootBuiltins "len" = some (.builtin "len") := by decide +kernel
theorem bo_abs : bootBuiltins "abs" = some (.builtin "abs") := by decide +kernel
theorem bo_max : bootBuiltins "max" = some (.builtin "max") := by decide +kernel
theorem bo_min : bootBuiltins "min" = some (.builtin "min") := by decide +kernel
theorem bo_int : bootBuiltins "int" = some (.type "int") := by decide +kernel
theorem bo_bool : bootBuiltins "bool" = some (.type "bool") := by decide +kernel
theorem bo_str : bootBuiltins "str" = some (.type "str") := by decide +kernel
theorem bo_list : bootBuiltins "list" = some (.type "list") := by decide +kernel
theorem bo_tuple : bootBuiltins "tuple" = some (.type "tuple") := by decide +kernel
theorem bo_dict : bootBuiltins "dict" = some (.type "dict") := by decide +kernel
theorem bo_sum : bootBuiltins "sum" = some (.builtin "sum") := by decide +kernel
theorem bo_range : bootBuiltins "range" = some (.type "range") := by decide +kernel
theorem bo_ValueError : bootBuiltins "ValueError" = some (.type "ValueError") := by decide +kernel
section
variable {K : PySem.W.Frag} {u : Tg}
theorem isi_nil : IsiOk K [] u := ⟨fun p h => by simp at h, fun p h => by simp at h⟩
theorem isi_ty {n : String} {b : Bool} {tbl : List (Tg × Bool)} (h : PySem.W.kitOne K ((Tg.ty n).v K) (u.v K) = some b) (r : IsiOk K tbl u) : IsiOk K ((.ty n, b) :: tbl) u :=
  ⟨fun p hp => by
    rcases List.mem_cons.mp hp with e | e
    · subst e; exact h
    · exact r.kit p e, fun p hp c hc => by
    rcases List.mem_cons.mp hp with e | e
    · subst e; cases hc
    · exact r.ins p e c hc⟩
theorem isi_cn {c : Cn} {b : Bool} {tbl : List (Tg × Bool)} (h : PySem.W.kitOne K ((Tg.cn c).v K) (u.v K) = some b) (hi : InsOk K c) (r : IsiOk K tbl u) : IsiOk K ((.cn c, b) :: tbl) u :=
  ⟨fun p hp => by
    rcases List.mem_cons.mp hp with e | e
    · subst e; exact h
    · exact r.kit p e, fun p hp c' hc => by
    rcases List.mem_cons.mp hp with e | e
    · subst e; cases hc; exact hi
    · exact r.ins p e c' hc⟩
end
/-! ### the head's facts, as one -/
structure Zs (fx : List Fx) (fn : List DefX) (K : PySem.W.Frag) (mg : Str → Option Value) : Prop where
  of ::
  says : SaysX fx fn K
  ex : ∃ h : Heap, K.In h ∧ h.Ns mainGlobals mg
section
variable {fx : List Fx} {fn : List DefX} {K : PySem.W.Frag} {mg : Str → Option Value}
theorem Zs.fact (z : Zs fx fn K mg) (i : Nat) {f : Fx} (h : fx[i]? = some f := by rfl) : f.ok K = true := z.says.fact i h
theorem Zs.glo (z : Zs fx fn K mg) (i : Nat) {x : Str} (h : fx[i]? = some (.glo x) := by rfl) : mg x = some (.ref (aF x K)) := by
  obtain ⟨_, X, G⟩ := z.ex
  exact glo_f X G (z.says.fact i h)
theorem Zs.cn (z : Zs fx fn K mg) (i : Nat) {c : Cn} (h : fx[i]? = some (.glo c.x) := by rfl) : mg c.x = some (.ref (c.a K)) := by
  obtain ⟨_, X, G⟩ := z.ex
  exact cn_f X G (z.says.fact i h)
theorem Zs.free (z : Zs fx fn K mg) (i : Nat) {x : Str} (h : fx[i]? = some (.free x) := by rfl) : mg x = none := by
  obtain ⟨_, X, G⟩ := z.ex
  exact free_f X G (z.says.fact i h)
theorem Zs.bfun (z : Zs fx fn K mg) (i : Nat) {x : Str} {id : String} (h : fx[i]? = some (.bfun x id) := by rfl) : mg x = some (.builtin id) := by
  obtain ⟨_, X, G⟩ := z.ex
  exact bfun_f X G (z.says.fact i h)
theorem Zs.int (z : Zs fx fn K mg) (i : Nat) {x : Str} {v : Int} (h : fx[i]? = some (.int x v) := by rfl) : ∃ t, mg x = some (.int v t) := by
  obtain ⟨_, X, G⟩ := z.ex
  exact int_f X G (z.says.fact i h)
theorem Zs.fld (z : Zs fx fn K mg) (i : Nat) {c : Cn} {f : Fld} (h : fx[i]? = some (.fld c f) := by rfl) : FldOk K c f := fld_f (z.says.fact i h)
theorem Zs.mk (z : Zs fx fn K mg) (i : Nat) {c : Cn} (h : fx[i]? = some (.mk c) := by rfl) : MkOk K mg c (aM c "__init__" K) := by
  obtain ⟨_, X, G⟩ := z.ex
  exact mk_f X G (z.says.fact i h)
theorem Zs.meth (z : Zs fx fn K mg) (i : Nat) {c : Cn} {m : Str} (h : fx[i]? = some (.meth c m) := by rfl) : MethOk K c m (aM c m K) := meth_f (z.says.fact i h)
theorem Zs.prop (z : Zs fx fn K mg) (i : Nat) {c : Cn} {m : Str} (h : fx[i]? = some (.prop c m) := by rfl) : PropOk K c m (aM c m K) (aR "property" c m K) := prop_f (z.says.fact i h)
theorem Zs.bin (z : Zs fx fn K mg) (i : Nat) {c : Cn} {nm : String} (h : fx[i]? = some (.bin c nm) := by rfl) : BinOk K c nm (aM c (PySem.dunder nm) K) := bin_f (z.says.fact i h)
theorem Zs.rbin (z : Zs fx fn K mg) (i : Nat) {c : Cn} {nm : String} (h : fx[i]? = some (.rbin c nm) := by rfl) : RBinOk K c nm (aM c (dunderR nm) K) := rbin_f (z.says.fact i h)
theorem Zs.neg (z : Zs fx fn K mg) (i : Nat) {c : Cn} (h : fx[i]? = some (.neg c) := by rfl) : NegOk K c (aM c "__neg__" K) := neg_f (z.says.fact i h)
theorem Zs.abs (z : Zs fx fn K mg) (i : Nat) {c : Cn} (h : fx[i]? = some (.abs c) := by rfl) : AbsOk K c (aM c "__abs__" K) := abs_f (z.says.fact i h)
theorem Zs.ins (z : Zs fx fn K mg) (i : Nat) {c : Cn} (h : fx[i]? = some (.ins c) := by rfl) : InsOk K c := ins_f (z.says.fact i h)
theorem Zs.kit (z : Zs fx fn K mg) (i : Nat) {t u : Tg} {b : Bool} (h : fx[i]? = some (.kit t u b) := by rfl) : PySem.W.kitOne K (t.v K) (u.v K) = some b := kit_f (z.says.fact i h)
end
end FR

set_option Elab.async false
set_option linter.all false
set_option maxRecDepth 100000
set_option maxHeartbeats 1000000
namespace FR
open PySem PySem.Spec PyProof.Rows L2
theorem cx_no {P : Program} {w : World} {H : Hp} {s : Shared} {e : Value} {s' : Shared} (h : L2.CX P w [] H s (fun _ _ _ => False) e s') : False := by
  unfold L2.CX at h
  simp at h
/-- a law whose def's function gives True at every script -/
theorem walk_F {l : PySem.W.OpenLaw} {n k : Nat} {q : Program} {loose : List Str} {XP : (Str → Option Value) → Heap → Prop} {d : DefRec} {x : Str} {fx : List Fx} {fn : List DefX} {Fl : Fn} {dl : DefX} {hk : Nat}
    (hn : l.most = some n) (hn2 : n ≤ sizeLine) (hdf : d.params.defaults = []) (hr : Room k callerA) (i : Nat) (hg : fx[i]? = some (.glo d.name)) (hdl : ∀ K, dl.ad K = aF d.name K)
    (B : ∀ (w : World) (K : PySem.W.Frag) (mg : Str → Option Value), Zs fx fn K mg → ∃ fd : FuncData, (∀ (s : Shared) (u : Value), BindsTo s fd ⟨[u], []⟩ [(x, u)]) ∧
      ∀ base : Heap, FnOk l.prog w K mg base (L2.CX l.prog w) k (dl.ad K) fd [x] (spOf K 1 Fl))
    (plain : ∀ ns : List Int, ns.length ≤ n → ∃ S, Fl [.p (.scr (ns.map .int))] [] = .ok (.p (.bl true)) S) :
    PySem.W.WalkO q loose XP (hookX hk fx fn).says l.row.toRowW d [] (fun f vs => PySem.call f vs) := by
  refine Att.attach_call hn hdf fun w s₀ s₁ mg mb fa o pm cd doc a vs ns G Y ho hd hcd hmg hobj hints hlen hg' => ?_
  obtain ⟨K, KX, c⟩ := Y
  have z : Zs fx fn K mg := ⟨c, _, KX, G.T.g⟩
  have e := hmg.symm.trans (z.glo i hg)
  cases e
  obtain ⟨fd, hb, hF⟩ := B w K mg z
  rw [hdl] at hF
  refine law_call KX G.T.g G.T.b G.T.builtins G.T.nolimit hg' hobj hints (Nat.le_trans hlen hn2) hr (fun base _ _ => hF base) hb (fun H hO hS => ?_) fun H e s' h => cx_no h
  obtain ⟨S, hp⟩ := plain ns hlen
  have w0 : Wok ⟨fun _ => none, fun _ => False, 0⟩ H := ⟨fun n a e => (by cases e), fun n a e => (by cases e), fun a e => e.elim, fun n m a e _ => (by cases e)⟩
  refine ⟨⟨fun _ => none, fun _ => False, 0⟩, [], [.p (.scr (ns.map .int))], ⟨w0, rfl, fun n c e => by simp at e⟩, .cons ?_ .nil, rfl, ?_⟩
  · show Rep K (fun _ => False) H _ _
    have rr : Reps K (fun _ => False) H (ns.map V.int) (ns.map P.int) := by
      clear hlen hp hints hS
      induction ns with
      | nil => exact .nil
      | cons x r ih => exact .cons (.int x) ih
    rcases hS with (h | ⟨o', h⟩) | h
    · exact .scr (.inl (.inl ⟨h, fun z => z⟩)) rr
    · exact .scr (.inl (.inr ⟨o', h⟩)) rr
    · exact .scr (.inr (.inr h)) rr
  · rw [hp]
    intro w' H' st sr v r
    exact rep_bl r
end FR

set_option Elab.async false
set_option linter.all false
set_option maxRecDepth 100000
set_option maxHeartbeats 1000000
namespace FR
open PySem PySem.Spec PyProof.Rows L2
section
variable {X : Cx} {W : WX} {e : Expr} {es : List Expr} {pos : Pos}
/-! ### lists that change -/
theorem tagC_lst {S : Store} {n : Nat} (h : tagC S[n]? = some (.ty "list")) : ∃ l, S[n]? = some (.lst l) := by
  cases q : S[n]? with
  | none => rw [q] at h; cases h
  | some c =>
    rw [q] at h
    cases c with
    | lst l => exact ⟨l, rfl⟩
    | dead => cases h
    | ins c gs => exact absurd h (by simp [tagC])
    | dK l => exact absurd h (by simp [tagC])
theorem se_app {o : Expr} {apos : Pos} {fo : FE} {fa : FA} (ho : SE X W o fo) (ha : SA X W [e] fa) (hbase : attributeBase o "append" X.env (eval o X.env) = eval o X.env := by rfl)
    (hfew : ((backTo pos (starEach [e] X.env)).all (fun x => !x.1) && (backToKw pos (keywordEach [] X.env)).all (fun x => x.1.isSome)
      && decide ([e].length + ([] : List Keyword).length + (if ([] : List Keyword).isEmpty then 0 else 1) < 30)) = true := by rfl)
    (hline : (apos.endLine == pos.line) = true := by rfl) (hs : starEach [e] X.env = (false, eval e X.env) :: starEach [] X.env := by rfl) (hplain : (backTo pos (starEach [] X.env)).any (·.1) = false := by rfl) :
    SE X W (.Call (.Attribute o "append" apos) [e] [] pos) (fApp fo fa) :=
  (pe_bm PySem.F.plainAttrs_list PySem.F.slot_list_append PySem.F.type_list_append mt_append ho ha hbase hfew hline hs hplain).imp fun σ H Q ⟨w, ρ, S, a, h⟩ => tE_of a (oR_bind a.ok h) fun w1 H1 S1 d v st a1 h1 r => by
    split at h1
    · rename_i n
      split at h1
      · rename_i ht
        obtain ⟨l0, hl0⟩ := tagC_lst ht
        obtain ⟨ad, vs0, e1, e2, e3⟩ := a1.st.cell n _ hl0
        have hv : v = .ref ad := r.2 ad e1
        refine ⟨by rw [hv]; exact .inl ⟨rfl, _, .inl (.inl e2)⟩, tA_of a1 (oR_bind a1.ok h1) fun w2 H2 S2 ds us st2 a2 h2 rs => ?_⟩
        split at h2
        · rename_i n2 ds2 acc dd hS
          split at h2
          · rename_i hz
            obtain ⟨ad2, vs, f1, f2, f3⟩ := a2.st.cell n _ hS
            have hα := st2.old n ad2 r.1 f1
            rw [e1] at hα
            cases hα
            obtain ⟨y, rfl, ry⟩ := reps_one rs
            refine ⟨ad, vs, y, hv, rfl, f2, by rw [f3.length, sizeLine_eq]; omega, ?_⟩
            have st3 : Step w2 H2 w2 (upd H2 ad (.lst (vs ++ [y]))) := (write_cell (o := .lst (vs ++ [y])) (c := .dead) a2.st f1 trivial trivial).1
            obtain ⟨_, sr3⟩ := write_cell (o := .lst (vs ++ [y])) (c := .lst (acc ++ [dd])) a2.st f1 trivial ⟨ad, _, f1, upd_same, (f3.app (.cons ry .nil)).step a2.ok st3⟩
            exact h2 w2 _ st3 sr3 .non .non
          · exact h2.elim
        · exact h2.elim
      · exact h1.elim
    · exact h1.elim
/-! ### list(x), tuple(x), sum(x) -/
def gListP : List D → Store → R D := fun ds S => match ds with
  | [.p (.lst l)] => .ok (.p (.lst l)) S
  | [.p (.tup l)] => .ok (.p (.lst l)) S
  | [.r n] => (match S[n]? with
    | some (.lst l) => (match pureL l with
      | some k => .ok (.p (.lst k)) S
      | none => .stuck)
    | _ => .stuck)
  | _ => .stuck
def gListR : List D → Store → R D := fun ds S => match ds with
  | [.p (.lst l)] => .ok (.r S.length) (S ++ [.lst (l.map .p)])
  | [.p (.tup l)] => .ok (.r S.length) (S ++ [.lst (l.map .p)])
  | [.r n] => (match S[n]? with
    | some (.lst l) => .ok (.r S.length) (S ++ [.lst l])
    | _ => .stuck)
  | _ => .stuck
def gTupC : List D → Store → R D := fun ds S => match ds with
  | [.p (.lst l)] => .ok (.p (.tup l)) S
  | [.p (.tup l)] => .ok (.p (.tup l)) S
  | [.r n] => (match S[n]? with
    | some (.lst l) => (match pureL l with
      | some k => .ok (.p (.tup k)) S
      | none => .stuck)
    | _ => .stuck)
  | _ => .stuck
def asInts : List P → Option (List Int)
  | [] => some []
  | .int i :: r => (asInts r).map (i :: ·)
  | _ => none
theorem asInts_map (l : List Int) : asInts (l.map .int) = some l := by
  induction l with
  | nil => rfl
  | cons a r ih => simp [asInts, ih]
def gSumI : List D → Store → R D := fun ds S => match ds with
  | [.p (.lst l)] => (match asInts l with
    | some k => .ok (.p (.int k.sum)) S
    | none => .stuck)
  | _ => .stuck
theorem asInts_reps {K : PySem.W.Frag} {L : Addr → Prop} {H : Hp} : ∀ {l : List P} {k : List Int} {vs : List V}, Reps K L H vs l → asInts l = some k → vs = k.map V.int
  | [], k, vs, r, h => by
    cases h; cases r; rfl
  | q :: l, k, vs, r, h => by
    cases q with
    | int i =>
      unfold asInts at h
      cases e : asInts l with
      | none => rw [e] at h; cases h
      | some k' =>
        rw [e] at h
        cases h
        cases r with
        | cons h1 t =>
          cases h1
          rw [asInts_reps t e]; rfl
    | _ => cases h
theorem r_sumI (σ : L2.St) (H : Hp) (w : Wd) (ρ : Env) (S : Store) (vs : List V) (ds : List D) (Q : VK) (a : At X.K w σ H ρ S) (r : DReps X.K w H vs ds) (h : oR X.K W σ w H (qE X.K Q) (gSumI ds S)) : ∃ (ad : Addr) (ns : List Int), vs = [V.ref ad] ∧ SqL X.K H ad (ns.map V.int) ∧ Q (.int ns.sum) H := by
  unfold gSumI at h
  split at h
  · split at h
    · rename_i l k e
      obtain ⟨v, rfl, hv⟩ := reps_one r
      cases hv with
      | lst hh rr =>
        have := asInts_reps rr e
        subst this
        exact ⟨_, k, rfl, hh.sq, oE_ok a.st h (.int _)⟩
    · exact h.elim
  · exact h.elim
theorem lay_lst {K : PySem.W.Frag} {w : Wd} {H : Hp} {S : Store} {p : Addr} {vs : List V} {l : List P} (sr : SRep K w H S) (hp : H p = none) (r : Reps K w.L H vs l) : Step w H w (upd H p (.lst vs)) ∧ SRep K w (upd H p (.lst vs)) S ∧ DRep K w (upd H p (.lst vs)) (.ref p) (.p (.lst l)) := by
  obtain ⟨st, sr2⟩ := lay_pure (o := .lst vs) sr hp
  exact ⟨st, sr2, .lst (.inl ⟨upd_same, nL_of sr hp⟩) (Reps.step sr.ok st r)⟩
theorem lay_tup {K : PySem.W.Frag} {w : Wd} {H : Hp} {S : Store} {p : Addr} {vs : List V} {l : List P} (sr : SRep K w H S) (hp : H p = none) (r : Reps K w.L H vs l) : Step w H w (upd H p (.tup vs)) ∧ SRep K w (upd H p (.tup vs)) S ∧ DRep K w (upd H p (.tup vs)) (.ref p) (.p (.tup l)) := by
  obtain ⟨st, sr2⟩ := lay_pure (o := .tup vs) sr hp
  exact ⟨st, sr2, .tup (.inl (.inl upd_same)) (Reps.step sr.ok st r)⟩
theorem lay_lstR {K : PySem.W.Frag} {w : Wd} {H : Hp} {S : Store} {p : Addr} {vs : List V} {l : List D} (sr : SRep K w H S) (hp : H p = none) (r : DReps K w H vs l) : Step w H (w.add p) (upd H p (.lst vs)) ∧ SRep K (w.add p) (upd H p (.lst vs)) (S ++ [.lst l]) ∧ DRep K (w.add p) (upd H p (.lst vs)) (.ref p) (.r S.length) := by
  have st : Step w H (w.add p) (upd H p (.lst vs)) := (lay_cell (o := .lst vs) (c := .dead) sr hp trivial trivial).1
  obtain ⟨_, sr2⟩ := lay_cell (o := .lst vs) (c := .lst l) sr hp trivial ⟨p, vs, add_self, upd_same, r.step sr.ok st⟩
  refine ⟨st, sr2, ?_⟩
  rw [sr.len]
  exact ⟨Nat.lt_succ_self _, fun a e => by rw [add_self] at e; cases e; rfl⟩
theorem r_listP (σ : L2.St) (H : Hp) (w : Wd) (ρ : Env) (S : Store) (vs : List V) (ds : List D) (Q : VK) (a : At X.K w σ H ρ S) (r : DReps X.K w H vs ds) (h : oR X.K W σ w H (qE X.K Q) (gListP ds S)) :
    ∃ p ys, vs = [.ref p] ∧ (SqL X.K H p ys ∨ SqT X.K H p ys) ∧ ∀ l, H l = none → Q (.ref l) (upd H l (.lst ys)) := by
  unfold gListP at h
  split at h
  · obtain ⟨v, rfl, hv⟩ := reps_one r
    cases hv with
    | lst hh rr => exact ⟨_, _, rfl, .inl hh.sq, fun p hp => by
        obtain ⟨st, sr, dr⟩ := lay_lst a.st hp rr
        exact h _ _ st sr _ dr⟩
  · obtain ⟨v, rfl, hv⟩ := reps_one r
    cases hv with
    | tup hh rr => exact ⟨_, _, rfl, .inr hh, fun p hp => by
        obtain ⟨st, sr, dr⟩ := lay_lst a.st hp rr
        exact h _ _ st sr _ dr⟩
  · split at h
    · rename_i n _ l hS
      split at h
      · rename_i k hk
        obtain ⟨v, rfl, hv⟩ := reps_one r
        obtain ⟨ad, us, e1, e2, e3⟩ := a.st.cell n _ hS
        rw [pureL_eq hk] at e3
        exact ⟨ad, us, by rw [hv.2 ad e1], .inl (.inl (.inl e2)), fun p hp => by
          obtain ⟨st, sr, dr⟩ := lay_lst a.st hp e3.pure
          exact h _ _ st sr _ dr⟩
      · exact h.elim
    · exact h.elim
  · exact h.elim
theorem r_listR (σ : L2.St) (H : Hp) (w : Wd) (ρ : Env) (S : Store) (vs : List V) (ds : List D) (Q : VK) (a : At X.K w σ H ρ S) (r : DReps X.K w H vs ds) (h : oR X.K W σ w H (qE X.K Q) (gListR ds S)) :
    ∃ p ys, vs = [.ref p] ∧ (SqL X.K H p ys ∨ SqT X.K H p ys) ∧ ∀ l, H l = none → Q (.ref l) (upd H l (.lst ys)) := by
  unfold gListR at h
  split at h
  · obtain ⟨v, rfl, hv⟩ := reps_one r
    cases hv with
    | lst hh rr => exact ⟨_, _, rfl, .inl hh.sq, fun p hp => by
        obtain ⟨st, sr, dr⟩ := lay_lstR a.st hp (Reps.ds (w := w) rr)
        exact h _ _ st sr _ dr⟩
  · obtain ⟨v, rfl, hv⟩ := reps_one r
    cases hv with
    | tup hh rr => exact ⟨_, _, rfl, .inr hh, fun p hp => by
        obtain ⟨st, sr, dr⟩ := lay_lstR a.st hp (Reps.ds (w := w) rr)
        exact h _ _ st sr _ dr⟩
  · split at h
    · rename_i n _ l hS
      obtain ⟨v, rfl, hv⟩ := reps_one r
      obtain ⟨ad, us, e1, e2, e3⟩ := a.st.cell n _ hS
      exact ⟨ad, us, by rw [hv.2 ad e1], .inl (.inl (.inl e2)), fun p hp => by
        obtain ⟨st, sr, dr⟩ := lay_lstR a.st hp e3
        exact h _ _ st sr _ dr⟩
    · exact h.elim
  · exact h.elim
theorem r_tupC (σ : L2.St) (H : Hp) (w : Wd) (ρ : Env) (S : Store) (vs : List V) (ds : List D) (Q : VK) (a : At X.K w σ H ρ S) (r : DReps X.K w H vs ds) (h : oR X.K W σ w H (qE X.K Q) (gTupC ds S)) :
    ∃ p ys, vs = [.ref p] ∧ ((SqL X.K H p ys ∧ ∀ l, H l = none → Q (.ref l) (upd H l (.tup ys))) ∨ (SqT X.K H p ys ∧ Q (.ref p) H)) := by
  unfold gTupC at h
  split at h
  · obtain ⟨v, rfl, hv⟩ := reps_one r
    cases hv with
    | lst hh rr => exact ⟨_, _, rfl, .inl ⟨hh.sq, fun p hp => by
        obtain ⟨st, sr, dr⟩ := lay_tup a.st hp rr
        exact h _ _ st sr _ dr⟩⟩
  · obtain ⟨v, rfl, hv⟩ := reps_one r
    cases hv with
    | tup hh rr => exact ⟨_, _, rfl, .inr ⟨hh, oE_ok a.st h (show DRep X.K w H _ (.p (.tup _)) from .tup hh rr)⟩⟩
  · split at h
    · rename_i n _ l hS
      split at h
      · rename_i k hk
        obtain ⟨v, rfl, hv⟩ := reps_one r
        obtain ⟨ad, us, e1, e2, e3⟩ := a.st.cell n _ hS
        rw [pureL_eq hk] at e3
        exact ⟨ad, us, by rw [hv.2 ad e1], .inl ⟨.inl (.inl e2), fun p hp => by
          obtain ⟨st, sr, dr⟩ := lay_tup a.st hp e3.pure
          exact h _ _ st sr _ dr⟩⟩
      · exact h.elim
    · exact h.elim
  · exact h.elim
/-! ### while -/
/-- at most n turns -/
def whileN (c : FT) (b : FC) : Nat → Env → Store → Option RS
  | 0, _, _ => none
  | n + 1, ρ, S => match c ρ S with
    | .ok true S1 => (match b ρ S1 with
      | .nx ρ2 S2 => whileN c b n ρ2 S2
      | .ct ρ2 S2 => whileN c b n ρ2 S2
      | .bk ρ2 S2 => some (.nx ρ2 S2)
      | r => some r)
    | .ok false S1 => some (.nx ρ S1)
    | .exc x S1 => some (.exc x ρ S1)
    | .stuck => some .stuck
theorem whileN_up {c : FT} {b : FC} : ∀ {n m : Nat} {ρ : Env} {S : Store} {r : RS}, n ≤ m → whileN c b n ρ S = some r → whileN c b m ρ S = some r
  | 0, _, _, _, _, _, h => by cases h
  | n + 1, 0, _, _, _, hm, _ => by omega
  | n + 1, m + 1, ρ, S, r, hm, h => by
    unfold whileN at h ⊢
    split
    · rename_i S1 e
      simp only [e] at h
      split
      · rename_i ρ2 S2 e2
        simp only [e2] at h
        exact whileN_up (by omega) h
      · rename_i ρ2 S2 e2
        simp only [e2] at h
        exact whileN_up (by omega) h
      · rename_i ρ2 S2 e2
        simp only [e2] at h
        exact h
      · rename_i h1 h2 h3
        cases q : b ρ S1 with
        | nx ρ2 S2 => exact absurd q (h1 ρ2 S2)
        | ct ρ2 S2 => exact absurd q (h2 ρ2 S2)
        | bk ρ2 S2 => exact absurd q (h3 ρ2 S2)
        | ret d S2 => rw [q] at h; exact h
        | exc x ρ2 S2 => rw [q] at h; exact h
        | stuck => rw [q] at h; exact h
    · rename_i S1 e
      simp only [e] at h
      exact h
    · rename_i x S1 e
      simp only [e] at h
      exact h
    · rename_i e
      simp only [e] at h
      exact h
section
open Classical
noncomputable def sWhile (c : FT) (b : FC) : FC := fun ρ S => if h : ∃ r n, whileN c b n ρ S = some r then choose h else .stuck
end
theorem sWhile_ap {c : FT} {b : FC} {n : Nat} {ρ : Env} {S : Store} {r : RS} (h : whileN c b n ρ S = some r) : sWhile c b ρ S = r := by
  have hx : ∃ r n, whileN c b n ρ S = some r := ⟨r, n, h⟩
  unfold sWhile
  rw [dif_pos hx]
  obtain ⟨m, hm⟩ := Classical.choose_spec hx
  have h1 := whileN_up (Nat.le_max_left n m) h
  have h2 := whileN_up (Nat.le_max_right n m) hm
  rw [h1] at h2
  exact (Option.some.inj h2).symm
theorem ss_while {c : Expr} {body : List Stmt} {t : FT} {b : FC} (hp : PassesOwn (model X.prog X.w) X.A X.env X.xe) (hc : ST X W c t) (hb : SSs X W body b) : SS X W (.While c body [] pos) (sWhile t b) :=
  (ps_while hp hc hb).imp fun D0 σ H ⟨w, ρ, S, a, h⟩ => by
    unfold sWhile at h
    split at h
    · rename_i hx
      obtain ⟨n, hn⟩ := Classical.choose_spec hx
      generalize Classical.choose hx = r at *
      refine ⟨fun m σ' H' => ∃ w' ρ' S', At X.K w' σ' H' ρ' S' ∧ whileN t b m ρ' S' = some r ∧ oS X.K W w' H' D0 r, ⟨n, w, ρ, S, a, hn, h⟩, ?_⟩
      rintro m σ1 H1 ⟨w1, ρ1, S1, a1, h1, o1⟩
      cases m with
      | zero => cases h1
      | succ m =>
        unfold whileN at h1
        refine ⟨w1, ρ1, S1, a1, ?_⟩
        revert h1
        cases q : t ρ1 S1 with
        | ok bb S2 =>
          intro h1 w2 H2 st2 sr2
          have a2 : At X.K w2 σ1 H2 ρ1 S2 := a1.to st2 sr2
          have o2 := oS_step a1.ok st2 o1
          cases bb with
          | false =>
            cases h1
            unfold qT
            simp only [Bool.false_eq_true, if_false]
            exact oS_nx a2 o2
          | true =>
            unfold qT
            simp only [if_true]
            refine ⟨fun σ3 H3 => ∃ w' ρ' S', At X.K w' σ3 H3 ρ' S' ∧ whileN t b m ρ' S' = some r ∧ oS X.K W w' H3 D0 r, fun σ3 H3 z => ⟨m, Nat.lt_succ_self m, z⟩, ⟨w2, ρ1, S2, a2, ?_⟩⟩
            revert h1
            dsimp only
            cases b ρ1 S2 with
            | nx ρ3 S3 => exact fun h1 w3 H3 σ3 st3 sr3 sl3 => ⟨w3, ρ3, S3, ⟨sr3, sl3⟩, h1, oS_step a2.ok st3 o2⟩
            | ct ρ3 S3 => exact fun h1 w3 H3 σ3 st3 sr3 sl3 => ⟨w3, ρ3, S3, ⟨sr3, sl3⟩, h1, oS_step a2.ok st3 o2⟩
            | bk ρ3 S3 =>
              intro h1
              cases h1
              exact fun w3 H3 σ3 st3 sr3 sl3 => o2 w3 H3 σ3 st3 sr3 sl3
            | ret d S3 =>
              intro h1
              cases h1
              exact o2
            | exc x ρ3 S3 =>
              intro h1
              cases h1
              exact o2
            | stuck =>
              intro h1
              cases h1
              exact o2
        | exc x S2 =>
          intro h1
          cases h1
          exact fun w2 H2 cl e2 st2 sr2 xr => o1 w2 H2 σ1 cl e2 st2 sr2 (a1.sl.step a1.ok st2) xr
        | stuck =>
          intro h1
          cases h1
          exact o1
    · exact h.elim
end
end FR

set_option Elab.async false
set_option linter.all false
set_option maxRecDepth 100000
set_option maxHeartbeats 1000000
namespace FR
open PySem PySem.Spec PyProof.Rows L2
/-! ### int constants of a class -/
structure ConOk (K : PySem.W.Frag) (c : Cn) (m : Str) (i : Int) : Prop where
  cl : Cls K (c.a K)
  at_ : ∃ t, PySem.W.findIn K (.ref (c.a K)) m = some (some (.int i t)) ∧ PySem.W.specialIn K (.int i t) "__get__" = some none
  cp : PySem.W.copiedNames.contains m = false
  no : noFld m = true
def gCon (c : Cn) (i : Int) : D → Store → R D := fun d S => if isIns c d S = true then .ok (.p (.int i)) S else .stuck
theorem conB_ok {K : PySem.W.Frag} {c : Cn} {m : Str} {i : Int} (h : conB K c m i = true) : ConOk K c m i := by
  obtain ⟨e1, e⟩ := b2 h
  obtain ⟨e2, e⟩ := b2 e
  obtain ⟨e3, e4⟩ := b2 e
  refine ⟨He.cls_ok e1, ?_, by simpa using e3, e4⟩
  cases q : PySem.W.findIn K (.ref (c.a K)) m with
  | none => rw [q] at e2; cases e2
  | some o =>
    rw [q] at e2
    cases o with
    | none => cases e2
    | some v =>
      cases v with
      | int j t =>
        obtain ⟨g1, g2⟩ := b2 e2
        have := of_decide_eq_true g1
        subst this
        exact ⟨t, rfl, of_decide_eq_true g2⟩
      | _ => cases e2
section
variable {X : Cx} {W : WX} {e : Expr} {es : List Expr} {pos : Pos}
theorem se_con {c : Cn} {m : Str} {i : Int} {fo : FE} (h : ConOk X.K c m i) (he : SE X W e fo) (hb : attributeBase e m X.env (eval e X.env) = eval e X.env := by rfl) : SE X W (.Attribute e m pos) (c1 (gCon c i) fo) :=
  (pe_con he hb).imp fun σ H Q ⟨w, ρ, S, a, h0⟩ => tE_of a (oR_bind a.ok h0) fun w1 H1 S1 d v st a1 h1 r => by
    unfold gCon at h1
    split at h1
    · rename_i hi
      obtain ⟨ad, dx, fs, rfl, hH, hno⟩ := ins_at a1.st r hi
      obtain ⟨t, g1, g2⟩ := h.at_
      exact ⟨ad, _, dx, fs, .int i, .int i t, rfl, hH, h.cl, ⟨g1, ⟨t, rfl⟩, g2, h.cp⟩, hno m h.no, oE_ok a1.st h1 (.int i)⟩
    · exact h1.elim
end
theorem Zs.con {fx : List Fx} {fn : List DefX} {K : PySem.W.Frag} {mg : Str → Option Value} (z : Zs fx fn K mg) (i : Nat) {c : Cn} {m : Str} {v : Int} (h : fx[i]? = some (.con c m v) := by rfl) : ConOk K c m v := conB_ok (z.says.fact i h)
/-! ### keywords -/
structure DefK (pr : Program) (w : World) (K : PySem.W.Frag) (mg : Str → Option Value) (base : Heap) (f : Addr) (k n : Nat) (ks : List Str) (F : Fn) : Prop where
  ex : ∃ (fd : FuncData) (ps : List Str), PySem.W.keepIn K (.ref f) = true ∧ KBn K fd ps (n - ks.length) ks (fun us ws => us ++ ws) (fun vs zs => vs ++ zs) ∧ FnOk pr w K mg base (L2.CX pr w) k f fd ps (spOf K n F)
abbrev XDefK (X : Cx) (f : Addr) (k n : Nat) (ks : List Str) (F : Fn) : Prop := DefK X.prog X.w X.K X.mg X.base f k n ks F
theorem kbn_of {K : PySem.W.Frag} {fd : FuncData} {ps : List Str} {n : Nat} {ks : List Str} (h : ∀ (us ws : List Value), us.length = n → ws.length = ks.length → bindArgs fd ⟨us, ks.zip ws⟩ = pure (ps.zip (us ++ ws))) :
    KBn K fd ps n ks (fun us ws => us ++ ws) (fun vs zs => vs ++ zs) :=
  ⟨fun s us ws _ l1 l2 => .of_eq (h us ws l1 l2), fun r1 r2 => r1.append r2⟩
section
variable {K : PySem.W.Frag} {x qual : Str} {params : Arguments} {body : List Stmt} {scope : Scope} {kws : List (Str × V)} {f : Addr} {fd : FuncData} {ps : List Str}
theorem kbn_def (F : FunD K x qual params body scope [] kws f fd) {n : Nat} {ks : List Str}
    (h : ∀ (kV doc pm : Value) (an : Option Addr) (cdv ct : Value) (us ws : List Value), us.length = n → ws.length = ks.length → bindArgs (PySem.W.fnOf x qual params body scope .none kV doc pm an cdv ct) ⟨us, ks.zip ws⟩ = pure (ps.zip (us ++ ws))) :
    KBn K fd ps n ks (fun us ws => us ++ ws) (fun vs zs => vs ++ zs) := by
  obtain ⟨oc, od, dV, kV, doc, pm, an, cdv, ct, osl, rfl, lk, hcd, hD, hK⟩ := F.ex
  rcases hD with ⟨_, rfl⟩ | ⟨e, _⟩
  · exact kbn_of (h kV doc pm an cdv ct)
  · exact absurd rfl e
end
section
variable {X : Cx} {W : WX} {e : Expr} {es : List Expr} {pos : Pos} {f : Addr} {k n : Nat} {ks : List Str} {F : Fn} {kws : List Keyword}
abbrev SK (X : Cx) (W : WX) (e : List Keyword) (f : FA) : Prop := PK X e (tA X.K W f)
theorem sk_nil : SK X W [] aNil := ⟨fun pos pins s σ H Q I ⟨w, ρ, S, a, h⟩ => pk_nil.run pos pins s σ H Q I (h w H (Step.refl _ _ a.ok) a.st [] .nil)⟩
theorem sk_cons {nm : Option Str} {kpos : Pos} {g : FE} {gs : FA} (ha : SE X W e g) (hr : SK X W kws gs) : SK X W (⟨nm, e, kpos⟩ :: kws) (aCons g gs) :=
  ⟨fun pos pins s σ H Q I ⟨w, ρ, S, a, h⟩ => (pk_cons ha hr).run pos pins s σ H Q I (tE_of a (oR_bind a.ok h) fun w1 H1 S1 d v st a1 h1 r => tA_of a1 (oR_bind a1.ok h1) fun w2 H2 S2 l vs st2 a2 h2 rs =>
    h2 w2 H2 (Step.refl _ _ a2.ok) a2.st (v :: vs) (.cons (r.step a1.ok st2) rs))⟩
/-- positional values, then the keywords' values -/
def callK (m : Mode) (n nk : Nat) (F : Fn) (fa fk : FA) : FE := fun ρ S => (fa ρ S).bind fun l S1 => (fk ρ S1).bind fun l2 S2 => if l2.length = nk ∧ l.length = n - nk then callN m n F [] (l ++ l2) S2 else .stuck
theorem go_callK {pins : List (Addr × Obj)} {σ : L2.St} {H : Hp} {s : Shared} {Q : VK} {us ws : List Value} {vs zs : List V} {w : Wd} {S : Store} {ds : List D} (m : Mode) (C : XDefK X f k n ks F) (tk : Takes X W) (hr : Room k X.A) (I : Inv X pins σ H s) (r : Vals vs us) (rz : Vals zs ws)
    (l1 : vs.length = n - ks.length) (l2 : zs.length = ks.length) (sr : SRep X.K w H S) (dr : DReps X.K w H (vs ++ zs) ds) (h : oR X.K W σ w H (qE X.K Q) (callN m n F [] ds S)) : wpAny (model X.prog X.w) X.A (call (.ref f) us (ks.zip ws)) (EP X pins σ Q) X.xe s := by
  obtain ⟨fd, ps, hk, hb, hF⟩ := C.ex
  have hsp : spOf X.K n F (vs ++ zs) H Q fun c d H' => W c d σ H' := by
    unfold callN at h
    split at h
    · rename_i hl
      have := sp_M (n := n) (vs := vs ++ zs) (zs := []) m sr dr (fun _ _ => .nil) (by rw [dr.length]; simpa using hl) h
      rwa [List.append_nil] at this
    · exact h.elim
  have r2 := hb.rel r rz
  refine wpAny_call (codeAny_mono (hF.run X.A X.stack s H ⟨us, ks.zip ws⟩ (us ++ ws) (vs ++ zs) Q (fun c d H' => W c d σ H') hr I.env0 (hb.to s us ws I.kIn (r.length.symm.trans l1) (rz.length.symm.trans l2)) r2 hsp) fun o s' ho => ?_)
  cases o with
  | error er => exact tk er s' (XE.of_call I (fun _ _ _ z => z) ho)
  | ok fl =>
    cases fl with
    | ret u => exact I.after ho
    | _ => exact (show False from ho).elim
theorem se_callK {x : Str} {p : Pos} {g gk : FA} (m : Mode) (C : XDefK X f k n ks F) (tk : Takes X W) (hr : Room k X.A) (hm : X.mg x = some (.ref f)) (ha : SA X W (e :: es) g) (hkw : SK X W kws gk) (hg : Gl X x := by rfl)
    (hall : (backToKw pos (keywordEach kws X.env)).all (·.1.isSome) = true := by rfl) (hks : (backToKw pos (keywordEach kws X.env)).filterMap (·.1) = ks := by rfl)
    (hdb : (x == ("__debug__" : Str)) = false := by decide) (he : starEach (e :: es) X.env = (false, eval e X.env) :: starEach es X.env := by rfl)
    (hpl : ((backTo pos (starEach (e :: es) X.env)).any (·.1) || (backToKw pos (keywordEach kws X.env)).any (·.1.isNone)) = false := by rfl) :
    SE X W (.Call (.Name x p) (e :: es) kws pos) (callK m n ks.length F g gk) := by
  refine ⟨fun pins s σ H Q I ⟨w, ρ, S, a, h⟩ => wpAny_Call_Name_kw (ld_glob I hg hm ?_ hdb)⟩
  obtain ⟨_, _, hk, _, _⟩ := C.ex
  refine PySem.W.callWith_KW (h₀ := X.base) I.ok.mod.kin hk hall (thn (ha.run pos pins s σ H (fun vs H1 => ∃ w1 S1 l, Step w H w1 H1 ∧ At X.K w1 σ H1 ρ S1 ∧ DReps X.K w1 H1 vs l ∧ oR X.K W σ w1 H1 (qE X.K Q) ((gk ρ S1).bind fun l2 S2 => if l2.length = ks.length ∧ l.length = n - ks.length then callN m n F [] (l ++ l2) S2 else .stuck)) I ?_)
    fun us s1 ⟨vs, H1, I1, r, w1, S1, l, st, a1, dr, h1⟩ => ?_) hpl he
  · exact tA_of a (oR_bind a.ok h) fun w1 H1 S1 l vs st a1 h1 r => ⟨w1, S1, l, st, a1, r, h1⟩
  · refine thn (hkw.run pos pins s1 σ H1 (fun zs H2 => ∃ w2 S2 l2, At X.K w2 σ H2 ρ S2 ∧ DReps X.K w2 H2 (vs ++ zs) (l ++ l2) ∧ zs.length = ks.length ∧ vs.length = n - ks.length ∧ oR X.K W σ w2 H2 (qE X.K Q) (callN m n F [] (l ++ l2) S2)) I1 ?_)
      fun ws s2 ⟨zs, H2, I2, rz, w2, S2, l2, a2, dr2, g1, g2, h2⟩ => ⟨I2.kIn, ?_⟩
    · refine tA_of a1 (oR_bind a1.ok h1) fun w2 H2 S2 l2 zs st2 a2 h2 r2 => ?_
      split at h2
      · rename_i hl
        exact ⟨w2, S2, l2, a2, (dr.step a1.ok st2).app r2, by rw [r2.length]; exact hl.1, by rw [dr.length]; exact hl.2, h2⟩
      · exact h2.elim
    · rw [hks]
      exact go_callK m C tk hr I2 r rz g2 g1 a2.st dr2 h2
end
end FR

set_option Elab.async false
set_option linter.all false
set_option maxRecDepth 100000
set_option maxHeartbeats 1000000
/-! isinstance of a caught exception that may have a dict -/
namespace FR.XLow
open PySem PySem.Spec PySem.Calls PySem.W PyProof.Rows
section
variable {prog : Program} {w : World} {A : Around} {E : Value → Shared → Prop} {s : Shared} {K : Frag} {x D : Addr} {ox : Obj} {od : Option Obj}
theorem findObj_bindN {C : Addr} {name : Str} {a g : Value} (hc : (clsIn K C).isSome = true) (ha : findIn K (.ref C) name = some (some a)) (hg : specialIn K a "__get__" = some (some g)) (ht : takesIn K a = some true) : findObj K C od name = some (.bind g a) := by
  obtain ⟨cd, hc⟩ := Option.isSome_iff_exists.mp hc
  unfold findObj
  rw [hc, Option.bind_some, ha, Option.bind_some]
  simp [hg, ht]
theorem kin_class {Q : Option Value → Shared → Prop} (hga : findIn K (.ref D) "__getattribute__" = some (some (.builtin "BaseException.__getattribute__"))) (hgt : findIn K (.ref D) "__getattr__" = some none) (hsub : subIn K (.ref D) (.type "BaseException") = some true)
    (hdct : hasDictIn K D = true) (ha : findIn K (.ref D) "__class__" = some (some (.builtin "object.__class__")))
    (hn : specialIn K (.builtin "object.__class__") "__get__" = some (some (.builtin "getset_descriptor.__get__"))) (htk : takesIn K (.builtin "object.__class__") = some true) (hm : mroIn K D (.type "object") = some true)
    (X : K.In s.heap) (I : InstAt s.heap x ox D od) (h : Q (some (.ref D)) { s with toks := s.toks + 1 }) : wpAny (model prog w) A (getAttr? (.ref x) "__class__") Q E s := by
  have hf : findObj K D od "__class__" = some (.bind (.builtin "getset_descriptor.__get__") (.builtin "object.__class__")) := findObj_bindN (by obtain ⟨cd, hc, _⟩ := any_some hdct; rw [hc]; rfl) ha hn htk
  obtain ⟨hp, g, d, t, os⟩ := s
  have L0 := I.type (M := model prog w)
  have L1 := looks_findIn (M := model prog w) X hga
  have L2 := looks_findIn (M := model prog w) X hgt
  have L3 := looks_find (M := model prog w) X I hf
  have sub : Looks (model prog w) hp (isInstance (.ref x) (.type "BaseException")) true := L0.andThen (looks_subIn X hsub)
  have hx0 : (false && onTheHeap (Value.builtin "BaseException.__getattribute__")) = false := rfl
  have hx2 : (Value.builtin "BaseException.__getattribute__" == Value.builtin "object.__getattribute__") = false := by decide +kernel
  have hx1 : (onTheHeap (Value.ref D) && Value.builtin "BaseException.__getattribute__" == Value.builtin "object.__getattribute__") = false := by rw [hx2]; rfl
  unfold getAttr? getAttrBy? getAttrBy
  refine wpAny_bind (wpAny_mkText (wpAny_bind (wpAny_attempt (wpAny_holding (wpAny_bind (L0.at (wpAny_bind (L1.at ?_))))))))
  show wpAny _ _ (if (onTheHeap (Value.ref D) && Value.builtin "BaseException.__getattribute__" == Value.builtin "object.__getattribute__") = true then _ else _) _ _ _
  rw [hx1, if_neg Bool.false_ne_true]
  unfold getAttrByItsOwn hookBefore
  refine wpAny_bind ?_
  rw [if_pos (show onTheHeap (Value.ref D) = true from rfl)]
  refine L2.at ?_
  refine wpAny_bind (wpAny_attempt (wpAny_holding ?_))
  unfold callGetattribute
  rw [hx0, if_neg Bool.false_ne_true]
  unfold boundAndCalled
  rw [PySem.F.excAttr_ValueError.ga.bind (.ref x)]
  refine wpAny_bind (wpAny_pure ?_)
  show wpAny _ _ (call (.builtin "BaseException.__getattribute__") [.ref x, .str "__class__" t]) _ _ _
  refine wpAny_call (codeAny_call_builtin PySem.F.excAttr_ValueError.ga.plain PySem.F.entry_bexc_ga ?_)
  refine @check_slot (model prog w) _ _ ⟨hp, g, d, t + 1, os⟩ "BaseException.__getattribute__" "BaseException" "__getattribute__" (.ref x) [.str "__class__" t] [] _ (by decide +kernel) (by decide +kernel) sub (PySem.F.args_bexc_ga (.ref x) (.str "__class__" t)) ?_
  unfold Builtin.«object.__getattribute__»
  refine wpAny_bind (wpAny_of_eq (a := ((Value.ref x : Value), [Value.str "__class__" t])) (by first | rfl | (simp only [slotArgs]; rfl)) ?_)
  refine wpAny_bind (wpAny_pure (wpAny_bind (L0.at (wpAny_bind (L3.at ?_)))))
  show wpAny _ _ (holding [Value.builtin "object.__class__"] (call (.builtin "getset_descriptor.__get__") [.builtin "object.__class__", .ref x, .ref D]) >>= ret) _ _ _
  refine wpAny_bind (wpAny_holding (wpAny_call (class_get (s := ⟨hp, g, d, t + 1, os⟩) (ox := ox) (od := od) X I hm ?_)))
  refine wpAny_pure ?_
  show wpAny _ _ (handedOut (.ref D)) _ _ _
  rw [handedOut_of (v := .ref D) rfl]
  first
    | exact wpAny_pure (wpAny_pure h)
    | exact wpAny_pure h
    | exact wpAny_pure (wpAny_bind (wpAny_pure (wpAny_pure h)))
theorem kitx_exn (hga : findIn K (.ref D) "__getattribute__" = some (some (.builtin "BaseException.__getattribute__"))) (hgt : findIn K (.ref D) "__getattr__" = some none) (hsub : subIn K (.ref D) (.type "BaseException") = some true) (hdct : hasDictIn K D = true) (ha : findIn K (.ref D) "__class__" = some (some (.builtin "object.__class__")))
    (hn : specialIn K (.builtin "object.__class__") "__get__" = some (some (.builtin "getset_descriptor.__get__"))) (htk : takesIn K (.builtin "object.__class__") = some true) (hm : mroIn K D (.type "object") = some true) :
    KitX K (.ref x) (.ref D) (fun h => InstAt h x ox D od) where
  ty := fun _ _ _ I => I.type
  it := fun _ _ X _ => by
    obtain ⟨cdD, hcD, _⟩ := any_some hdct
    unfold clsIn at hcD
    split at hcD
    · rename_i c' d' cd' sl' ho
      intro A' Q' E' s' k q
      unfold isType loadHead
      exact wpAny_bind (wpAny_loadPart (k _ _ (X _ _ ho)) (wpAny_pure q))
    · cases hcD
  ne := fun h tp dd its n sl X htp => by
    obtain ⟨cdD, hcD, _⟩ := any_some hdct
    refine Bool.eq_false_iff.mpr fun q => ?_
    have e : D = tp := Value.ref.inj (beq_iff_eq.mp q)
    subst e
    unfold clsIn at hcD
    split at hcD
    · rename_i c' d' cd' sl' ho
      have z := (X _ _ ho).symm.trans htp
      cases z
    · cases hcD
  ca := fun X I k => kin_class hga hgt hsub hdct ha hn htk hm X I k
end
end FR.XLow
namespace FR
open PySem PySem.Spec PyProof.Rows L2
/-! ### several except clauses with names -/
abbrev NmT := Value × (Nat × (Addr → Value → Option Addr → TS))
def endD (i : Nat) (D : Ends) : Ends := { nx := fun σ' H' => D.nx (σ'.set i none) H', rt := D.rt, bk := fun σ' H' => D.bk (σ'.set i none) H', ct := fun σ' H' => D.ct (σ'.set i none) H' }
def wNm (K : PySem.W.Frag) (Wout : WX) (D : Ends) : List NmT → WX
  | [] => Wout
  | (c, i, ts) :: r => fun cls d σ H => ∃ b, PySem.W.exmOne K cls c = some b ∧ (b = true → ∀ a, H a = none → ts a cls d (endD i D) (σ.set i (some (.ref a))) H) ∧ (b = false → wNm K Wout D r cls d σ H)
inductive HdsNm (X : Cx) : List ExceptHandler → List NmT → Prop
  | nil : HdsNm X [] []
  | cons {x n : Str} {i : Nat} {c : Value} {ts : Addr → Value → Option Addr → TS} {b₀ : Stmt} {suite : List Stmt} {np pos' : Pos} {hds : List ExceptHandler} {l : List NmT} (hi : X.N[i]? = some n) (hln : X.env.kindOf n = some .local) (hc : Names X x c)
      (hsu : ∀ (a : Addr) (oe : Obj) (cls : Value) (d : Option Addr) (pn : List (Addr × Obj)), Zc cls d oe → (∃ vs, oe.data = .fields vs) → PSs (X.suite a ((a, oe) :: pn)) (b₀ :: suite) (ts a cls d)) (r : HdsNm X hds l) :
      HdsNm X (.ExceptHandler (some (.Name x np)) (some n) (b₀ :: suite) pos' :: hds) ((c, i, ts) :: l)
section
variable {X : Cx} {body : List Stmt} {h₀ : ExceptHandler} {hds : List ExceptHandler} {l : List NmT} {pos : Pos} {tb : WX → TS} {Wout : WX}
theorem ps_try_nm (hs : X.stack = X.env :: X.outer) (hf : X.env.frame = some X.env.locals) (hN : X.N.Nodup) (tk : Takes X Wout)
    (hb : ∀ (W : WX) (pn : List (Addr × Obj)) (xe : Value → Shared → Prop), Takes (X.tr pn xe) W → PassesOwn (model X.prog X.w) X.A X.env xe → PSs (X.tr pn xe) body (tb W))
    (hh : HdsNm X (h₀ :: hds) l) : PS X (.Try body (h₀ :: hds) [] [] pos) (fun D σ H => tb (wNm X.K Wout D l) D σ H) := by
  refine ⟨fun pins s σ H D I h => ?_⟩
  have ok := I.ok
  have hfr : X.A.frames = some (X.env :: X.outer) := by rw [ok.frames, hs]
  refine wpAny_Try_except ?_
  refine wpAny_mono ((hb (wNm X.K Wout D l) (X.pn ++ pins) (fun e s₁ => wpAny (model X.prog X.w) X.A (noteFrame e X.env) (fun _ s₂ => wpAny (model X.prog X.w) X.A (setFlight e none) (fun _ s₃ =>
    wpAny (model X.prog X.w) X.A (handleBy e X.env (h₀ :: hds)) (SP X pins D) X.xe s₃) X.xe s₂) X.xe s₁) (fun u s' xx => ?_) PassesOwn.looking).run [] s σ H D (I.toTry _) h) (fun f s1 hsp => ?_) (fun e s1 he => he)
  · obtain ⟨a, B, sI, pins', σ', H', cls, d, rfl, J', nb, up, sky, na, os, ag, w⟩ := xx
    have J : Inv X pins σ' H' sI := J'.ofTry ok
    have sky' : Sky B (X.env :: X.outer) a (Zc cls d) X.env.locals s'.heap := by rw [← hs]; exact sky
    show wpAny (model X.prog X.w) X.A (noteFrame (.ref a) X.env) _ _ _
    refine Sky.land Zc.steady hfr hf sky' fun h3 fl3 up3 => ?_
    have J3 : Inv X pins σ' H' { s' with heap := h3 } := J.landed nb fl3.1 (up.trans up3) os ag
    obtain ⟨oe3, vs3, he3, hz3, hd3⟩ := fl3.there
    have notFr : ∀ {h : Heap} {o : Obj} {vs : Array Value}, h.FunFrames B (X.env :: X.outer) → h.get? a = some o → o.data = .fields vs → a ∉ frs (X.env :: X.outer) := fun {h o vs} ff e dd hm => by
      obtain ⟨_, o', e', hnf⟩ := ff.mem hm
      rw [e] at e'; cases e'
      exact hnf _ dd
    have nfr := notFr fl3.2.2.1 he3 hd3
    have nL : a ≠ X.env.locals := fun z => nfr (List.mem_filterMap.mpr ⟨X.env, List.mem_cons_self, by rw [hf, z]⟩)
    have nF : a ∉ X.fs := fun hm => by
      obtain ⟨e, he, q⟩ := List.mem_filterMap.mp hm
      exact nfr (List.mem_filterMap.mpr ⟨e, List.mem_cons_of_mem _ he, q⟩)
    have S3 := J3.suite he3 hd3 na nL nF
    have go : ∀ {hds' : List ExceptHandler} {l' : List NmT}, HdsNm X hds' l' → wNm X.K Wout D l' cls d σ' H' →
        wpAny (model X.prog X.w) X.A (handleBy (.ref a) X.env hds') (SP X pins D) X.xe { s' with heap := h3 } := by
      intro hds' l' hk
      induction hk with
      | nil =>
        intro w
        refine wpAny_handleBy_nil ?_
        obtain ⟨k1, k2, k3, oe, vs, T, oT, ts', he, hz, hd, h1, hr⟩ := id fl3
        unfold PySem.passOn
        refine wpAny_bind (wpAny_field he hd h1 ?_)
        rw [if_neg (show ¬ ((Value.ref T == Value.none) = true) from by simp)]
        have fin : wpAny (model X.prog X.w) X.A (setFlight (.ref a) X.env.frame) (fun _ s4 => wpAny (model X.prog X.w) X.A (throw (.ref a) : Sem Flow) (SP X pins D) X.xe s4) X.xe { s' with heap := h3 } := by
          rw [hf]
          refine HandSPX.setFlight_upZ fl3 fun h4 hh4 up4 => wpAny_throw (tk _ _ ?_)
          exact ⟨a, B, sI, pins, σ', H', cls, d, rfl, J, nb, (up.trans up3).trans up4, .inr (.inr (by rw [hs]; exact hh4)), na, os, ag, w⟩
        first
          | exact wpAny_bind (wpAny_pure (wpAny_bind fin))
          | exact wpAny_bind fin
      | @cons x n i c ts b₀ suite np pos' hds2 l2 hi hln hc hsu r ih =>
        intro w
        obtain ⟨b, hb1, hyes, hno⟩ := w
        have hloc : Loc X.env.scope n := .inl hln
        refine wpAny_handleBy_cons (codeAny_handlers_test ?_) (by intro q; cases q)
        have LT : PySem.W.Looks (model X.prog X.w) h3 (typeOf (.ref a)) cls := fun A Q E s k q => wpAny_typeOf_ref (k _ _ he3) (by rw [hz3.1]; exact q)
        have LM := PySem.W.exm_one (M := model X.prog X.w) (J3.kIn) LT hb1
        have test : ∀ {Q : Value → Shared → Prop} {E : Value → Shared → Prop}, Q c { s' with heap := h3 } → wpAny (model X.prog X.w) (X.A.mark (some (.ref a))) (eval (.Name x np) X.env) Q E { s' with heap := h3 } := fun {Q E} q => by
          obtain ⟨hg, hdbg, hm | ⟨hm, hv, hnn⟩⟩ := hc
          · exact ld_glob (X := X.suite a ((a, oe3) :: (X.pn ++ pins))) S3 hg hm q hdbg
          · exact ld_blt (X := X.suite a ((a, oe3) :: (X.pn ++ pins))) S3 hg hm hv q hnn hdbg
        refine test (LM.here ?_)
        cases b with
        | true =>
          refine codeAny_handlers_suite_as ?_
          refine HandSPX.lands_againZ fl3 fun h4 fl4 up4 => ?_
          have J4 : Inv X pins σ' H' { s' with heap := h4 } := J.landed nb fl4.1 ((up.trans up3).trans up4) os ag
          obtain ⟨oe4, vs4, he4, hz4, hd4⟩ := fl4.there
          have S4 := J4.suite he4 hd4 na nL nF
          refine store_ok (X := X.suite a ((a, oe4) :: (X.pn ++ pins))) (v := .ref a) S4 hN hi hloc rfl (fun s5 S5 => ?_) (.inr hln)
          refine wpAny_mono ((hsu a oe4 cls d (X.pn ++ pins) hz4 ⟨_, hd4⟩).run [] s5 _ H' _ S5 (hyes rfl a na)) (fun f s6 hsp => ?_) (fun _ _ z => False.elim z)
          have end_ : ∀ {σ6 : L2.St} {H6 : Hp} {Q : Shared → Prop}, Inv (X.suite a ((a, oe4) :: (X.pn ++ pins))) [] σ6 H6 s6 → (∀ s7, Inv X pins (σ6.set i none) H6 s7 → Q s7) →
              wpAny (model X.prog X.w) X.A (do bindName X.env n .none; unbindBehindTheSuite X.env n pos') (fun _ s7 => Q s7) X.xe s6 := fun {σ6 H6 Q} S6 hq => gone_ok (S6.unsuite ok) hN hi hln hq
          cases f with
          | next =>
            obtain ⟨σ6, H6, S6, q6⟩ := hsp
            exact end_ S6 fun s7 J7 => ⟨_, _, J7, q6⟩
          | brk =>
            obtain ⟨σ6, H6, S6, q6⟩ := hsp
            exact end_ S6 fun s7 J7 => ⟨_, _, J7, q6⟩
          | cont =>
            obtain ⟨σ6, H6, S6, q6⟩ := hsp
            exact end_ S6 fun s7 J7 => ⟨_, _, J7, q6⟩
          | ret u =>
            obtain ⟨v6, σ6, H6, S6, r6, q6⟩ := hsp
            exact end_ S6 fun s7 J7 => ⟨_, _, _, J7, r6, q6⟩
        | false =>
          show wpAny _ X.A (handleBy (.ref a) X.env hds2) _ _ _
          exact ih (hno rfl)
    exact go hh w
  · cases f with
    | next =>
      obtain ⟨σ', H', J', q⟩ := hsp
      exact wpAny_execs_nil ⟨σ', H', J'.ofTry ok, q⟩
    | brk =>
      obtain ⟨σ', H', J', q⟩ := hsp
      exact ⟨σ', H', J'.ofTry ok, q⟩
    | cont =>
      obtain ⟨σ', H', J', q⟩ := hsp
      exact ⟨σ', H', J'.ofTry ok, q⟩
    | ret u =>
      obtain ⟨v, σ', H', J', r, q⟩ := hsp
      exact ⟨v, σ', H', J'.ofTry ok, r, q⟩
end
/-! ### readings of try -/
def Exc.c : Exc → Cn
  | .mk c _ => c
def Exc.fs : Exc → List (Fld × P)
  | .mk _ f => f
abbrev ClR := List (Cn × Bool) × (Nat × (Exc → FC))
def endX (i : Nat) : RS → RS
  | .nx ρ S => .nx (ρ.set i none) S
  | .bk ρ S => .bk (ρ.set i none) S
  | .ct ρ S => .ct (ρ.set i none) S
  | .ret d S => .ret d S
  | .exc _ _ _ => .stuck
  | .stuck => .stuck
def hand : List ClR → Exc → FC
  | [], x => fun ρ S => .exc x ρ S
  | (tbl, i, g) :: r, x => fun ρ S => match tbl.lookup x.c with
    | some true => if i < ρ.length then endX i (g x (ρ.set i none) S) else .stuck
    | some false => hand r x ρ S
    | none => .stuck
def sTry (fb : FC) (cl : List ClR) : FC := fun ρ S => match fb ρ S with
  | .exc x ρ1 S1 => hand cl x ρ1 S1
  | r => r
theorem Slots.setN {K : PySem.W.Frag} {w : Wd} {H : Hp} {v : Option V} : ∀ {σ : L2.St} {ρ : Env} (i : Nat), Slots K w H σ ρ → Slots K w H (σ.set i v) (ρ.set i none)
  | _, _, _, .nil => .nil
  | _, _, 0, .emp t => .emp t
  | _, _, i + 1, .emp t => .emp (t.setN i)
  | _, _, 0, .has _ t => .emp t
  | _, _, i + 1, .has h t => .has h (t.setN i)
theorem Slots.length {K : PySem.W.Frag} {w : Wd} {H : Hp} : ∀ {σ : L2.St} {ρ : Env}, Slots K w H σ ρ → σ.length = ρ.length
  | _, _, .nil => rfl
  | _, _, .emp t => congrArg (· + 1) t.length
  | _, _, .has _ t => congrArg (· + 1) t.length
theorem XRep.step {K : PySem.W.Frag} {w w' : Wd} {H H' : Hp} {c : Value} {e : Option Addr} {x : Exc} (W : Wok w H) (s : Step w H w' H') (h : XRep K w H c e x) : XRep K w' H' c e x := by
  obtain ⟨cn, fs⟩ := x
  refine ⟨h.1, h.2.imp id fun ⟨d, vs, e1, e2, e3, e4⟩ => ?_⟩
  obtain ⟨g1, g2⟩ := s.still W e2 e3
  exact ⟨d, vs, e1, g1, g2, RepF.step W s e4⟩
/-- a suite's reading -/
def tXS (K : PySem.W.Frag) (i : Nat) (a : Addr) (cls : Value) (d : Option Addr) (g : Exc → FC) : TS := fun D σ H => ∃ w ρ S x, σ[i]? = some (some (.ref a)) ∧ XRep K w H cls d x ∧ At K w σ H ρ S ∧ oS K W0 w H D (g x ρ S)
def tX (K : PySem.W.Frag) (i : Nat) (a : Addr) (cls : Value) (d : Option Addr) (f : Exc → FE) : TE := fun σ H Q => ∃ w ρ S x, σ[i]? = some (some (.ref a)) ∧ XRep K w H cls d x ∧ At K w σ H ρ S ∧ oR K W0 σ w H (qE K Q) (f x ρ S)
def tXA (K : PySem.W.Frag) (i : Nat) (a : Addr) (cls : Value) (d : Option Addr) (f : Exc → FA) : TA := fun σ H Q => ∃ w ρ S x, σ[i]? = some (some (.ref a)) ∧ XRep K w H cls d x ∧ At K w σ H ρ S ∧ oR K W0 σ w H (qA K Q) (f x ρ S)
inductive ClOk (X : Cx) : List ExceptHandler → List ClR → Prop
  | nil : ClOk X [] []
  | cons {x n : Str} {i : Nat} {c : Value} {tbl : List (Cn × Bool)} {g : Exc → FC} {b₀ : Stmt} {suite : List Stmt} {np pos' : Pos} {hds : List ExceptHandler} {l : List ClR} (hi : X.N[i]? = some n) (hln : X.env.kindOf n = some .local) (hc : Names X x c)
      (ht : ∀ p ∈ tbl, PySem.W.exmOne X.K (.ref (p.1.a X.K)) c = some p.2)
      (hsu : ∀ (a : Addr) (oe : Obj) (cls : Value) (d : Option Addr) (pn : List (Addr × Obj)), Zc cls d oe → (∃ vs, oe.data = .fields vs) → PSs (X.suite a ((a, oe) :: pn)) (b₀ :: suite) (tXS X.K i a cls d g)) (r : ClOk X hds l) :
      ClOk X (.ExceptHandler (some (.Name x np)) (some n) (b₀ :: suite) pos' :: hds) ((tbl, i, g) :: l)
theorem oS_endX {K : PySem.W.Frag} {W : WX} {w : Wd} {H : Hp} {D : Ends} {i : Nat} {r : RS} (h : oS K W w H D (endX i r)) : oS K W0 w H (endD i D) r := by
  cases r with
  | nx ρ S => exact fun w' H' σ' st sr sl => h w' H' _ st sr (sl.setN i)
  | bk ρ S => exact fun w' H' σ' st sr sl => h w' H' _ st sr (sl.setN i)
  | ct ρ S => exact fun w' H' σ' st sr sl => h w' H' _ st sr (sl.setN i)
  | ret d S => exact h
  | exc x ρ S => exact h.elim
  | stuck => exact h.elim
section
variable {X : Cx} {W : WX} {body : List Stmt} {h₀ : ExceptHandler} {hds : List ExceptHandler} {l : List ClR} {pos : Pos} {fb : FC}
theorem ClOk.nm {hds : List ExceptHandler} {l : List ClR} (h : ClOk X hds l) : ∃ l' : List NmT, HdsNm X hds l' ∧ ∀ (D : Ends) (w : Wd) (H : Hp) (x : Exc) (ρ : Env) (S : Store), Wok w H → oS X.K W w H D (hand l x ρ S) →
    ∀ w' H' σ' c e, Step w H w' H' → SRep X.K w' H' S → Slots X.K w' H' σ' ρ → XRep X.K w' H' c e x → wNm X.K W D l' c e σ' H' := by
  induction h with
  | nil => exact ⟨[], .nil, fun D w H x ρ S w0 h => h⟩
  | @cons x n i c tbl g b₀ suite np pos' hds l hi hln hc ht hsu r ih =>
    obtain ⟨l', h1, h2⟩ := ih
    refine ⟨(c, i, fun a cls d => tXS X.K i a cls d g) :: l', .cons hi hln hc hsu h1, fun D w H x ρ S w0 h w' H' σ' cc e st sr sl xr => ?_⟩
    unfold hand at h
    unfold wNm
    have xc : cc = .ref (x.c.a X.K) := by obtain ⟨cn, fs⟩ := x; exact xr.1
    have look : ∀ b, tbl.lookup x.c = some b → PySem.W.exmOne X.K cc c = some b := fun b hl => by
      rw [xc]
      exact ht (x.c, b) (lookup_mem hl)
    cases hl : tbl.lookup x.c with
    | none => rw [hl] at h; exact h.elim
    | some b =>
      rw [hl] at h
      cases b with
      | true =>
        refine ⟨true, look true hl, fun _ a na => ?_, fun q => nomatch q⟩
        dsimp only at h
        split at h
        · rename_i hlt
          refine ⟨w', ρ.set i none, S, x, ?_, xr, ⟨sr, sl.setN i⟩, oS_endX (oS_step w0 st h)⟩
          rw [List.getElem?_set_self (by rw [sl.length]; exact hlt)]
        · exact h.elim
      | false => exact ⟨false, look false hl, (fun q => nomatch q), fun _ => h2 D w H x ρ S w0 h w' H' σ' cc e st sr sl xr⟩
theorem ss_try (hs : X.stack = X.env :: X.outer) (hf : X.env.frame = some X.env.locals) (hN : X.N.Nodup) (tk : Takes X W)
    (hb : ∀ (W : WX) (pn : List (Addr × Obj)) (xe : Value → Shared → Prop), Takes (X.tr pn xe) W → PassesOwn (model X.prog X.w) X.A X.env xe → SSs (X.tr pn xe) W body fb)
    (hh : ClOk X (h₀ :: hds) l) : SS X W (.Try body (h₀ :: hds) [] [] pos) (sTry fb l) := by
  obtain ⟨l', h1, h2⟩ := hh.nm (W := W)
  refine (ps_try_nm (tb := fun W => tS X.K W fb) hs hf hN tk hb h1).imp fun D σ H ⟨w, ρ, S, a, h⟩ => ⟨w, ρ, S, a, ?_⟩
  unfold sTry at h
  cases q : fb ρ S with
  | exc x ρ1 S1 => rw [q] at h; exact fun w' H' σ' c e st sr sl xr => h2 D w H x ρ1 S1 a.ok h w' H' σ' c e st sr sl xr
  | nx ρ1 S1 => rw [q] at h; exact h
  | bk ρ1 S1 => rw [q] at h; exact h
  | ct ρ1 S1 => rw [q] at h; exact h
  | ret d S1 => rw [q] at h; exact h
  | stuck => rw [q] at h; exact h
end
/-! ### within a suite -/
section
variable {X : Cx} {e : Expr} {es : List Expr} {pos : Pos} {i : Nat} {a : Addr} {cls : Value} {d : Option Addr}
abbrev SXE (X : Cx) (i : Nat) (a : Addr) (cls : Value) (d : Option Addr) (e : Expr) (f : Exc → FE) : Prop := PE X e (tX X.K i a cls d f)
abbrev SXA (X : Cx) (i : Nat) (a : Addr) (cls : Value) (d : Option Addr) (e : List Expr) (f : Exc → FA) : Prop := PA X e (tXA X.K i a cls d f)
abbrev SXS (X : Cx) (i : Nat) (a : Addr) (cls : Value) (d : Option Addr) (e : List Stmt) (f : Exc → FC) : Prop := PSs X e (tXS X.K i a cls d f)
theorem sx_of {f : FE} (h : SE X W0 e f) : SXE X i a cls d e (fun _ => f) := h.imp fun σ H Q ⟨w, ρ, S, x, hi, xr, at0, h⟩ => ⟨w, ρ, S, at0, h⟩
theorem sxa_nil : SXA X i a cls d [] (fun _ => aNil) := (sa_nil (W := W0)).imp fun σ H Q ⟨w, ρ, S, x, hi, xr, at0, h⟩ => ⟨w, ρ, S, at0, h⟩
theorem tX_of {K : PySem.W.Frag} {f : Exc → FE} {σ : L2.St} {H : Hp} {Q : VK} {w : Wd} {ρ : Env} {S : Store} {x : Exc} {G : Wd → Hp → Store → D → Prop} (hi : σ[i]? = some (some (.ref a))) (xr : XRep K w H cls d x) (at0 : At K w σ H ρ S) (h : oR K W0 σ w H G (f x ρ S))
    (hG : ∀ w' H' S' dd v, Step w H w' H' → At K w' σ H' ρ S' → XRep K w' H' cls d x → G w' H' S' dd → DRep K w' H' v dd → Q v H') : tX K i a cls d f σ H Q :=
  ⟨w, ρ, S, x, hi, xr, at0, oR_imp h fun w' H' S' dd st sr g v r => hG w' H' S' dd v st (at0.to st sr) (xr.step at0.ok st) g r⟩
theorem tXA_of {K : PySem.W.Frag} {f : Exc → FA} {σ : L2.St} {H : Hp} {Q : List V → Hp → Prop} {w : Wd} {ρ : Env} {S : Store} {x : Exc} {G : Wd → Hp → Store → List D → Prop} (hi : σ[i]? = some (some (.ref a))) (xr : XRep K w H cls d x) (at0 : At K w σ H ρ S) (h : oR K W0 σ w H G (f x ρ S))
    (hG : ∀ w' H' S' dd v, Step w H w' H' → At K w' σ H' ρ S' → XRep K w' H' cls d x → G w' H' S' dd → DReps K w' H' v dd → Q v H') : tXA K i a cls d f σ H Q :=
  ⟨w, ρ, S, x, hi, xr, at0, oR_imp h fun w' H' S' dd st sr g v r => hG w' H' S' dd v st (at0.to st sr) (xr.step at0.ok st) g r⟩
theorem sxa_cons {f : Exc → FE} {g : Exc → FA} (ha : SXE X i a cls d e f) (hr : SXA X i a cls d es g) (hs : starEach (e :: es) X.env = (false, eval e X.env) :: starEach es X.env := by rfl) : SXA X i a cls d (e :: es) (fun x => aCons (f x) (g x)) :=
  (pa_cons ha hr hs).imp fun σ H Q ⟨w, ρ, S, x, hi, xr, at0, h⟩ => tX_of hi xr at0 (oR_bind at0.ok h) fun w1 H1 S1 d v st a1 xr1 h1 r => tXA_of hi xr1 a1 (oR_bind a1.ok h1) fun w2 H2 S2 l vs st2 a2 xr2 h2 rs =>
    h2 w2 H2 (Step.refl _ _ a2.ok) a2.st (v :: vs) (.cons (r.step a1.ok st2) rs)
theorem sx_tup {x1} {f : Exc → FA} (h : SXA X i a cls d es f) : SXE X i a cls d (.Tuple es x1 pos) (fun x => fTup (f x)) := (pe_tup h).imp fun σ H Q ⟨w, ρ, S, x, hi, xr, at0, h⟩ => by
  refine tXA_of hi xr at0 (oR_bind at0.ok h) fun w1 H1 S1 l vs st a1 xr1 h1 r => ?_
  split at h1
  · rename_i k e
    split at h1
    · rename_i hk
      rw [pureL_eq e] at r
      refine ⟨by rw [r.length, List.length_map]; exact line_le hk, fun p hp => ?_⟩
      obtain ⟨st2, sr2⟩ := lay_pure (o := .tup vs) a1.st hp
      exact h1 w1 _ st2 sr2 (.ref p) (show DRep X.K w1 _ _ (.p (.tup k)) from .tup (.inl (.inl upd_same)) (Reps.step a1.ok st2 r.pure))
    · exact h1.elim
  · exact h1.elim
theorem sx_and1 {op} {f : Exc → FE} (h : SXE X i a cls d e f) : SXE X i a cls d (.BoolOp op [e] pos) f := pe_one h
theorem sx_and {e2 : Expr} {rest : List Expr} {f g : Exc → FE} (ha : SXE X i a cls d e f) (hb : SXE X i a cls d (.BoolOp .And (e2 :: rest) pos) g) : SXE X i a cls d (.BoolOp .And (e :: e2 :: rest) pos) (fun x => fAndV (f x) (g x)) :=
  (pe_and ha hb).imp fun σ H Q ⟨w, ρ, S, x, hi, xr, at0, h⟩ => tX_of hi xr at0 (oR_bind at0.ok h) fun w1 H1 S1 d v st a1 xr1 h1 r => by
    revert r
    split at h1
    · intro r
      exact ⟨true, rep_bl r, (if_pos rfl).mpr ⟨w1, ρ, S1, x, hi, xr1, a1, h1⟩⟩
    · intro r
      exact ⟨false, rep_bl r, (if_neg Bool.false_ne_true).mpr (oE_ok a1.st h1 (rep_bl r ▸ r))⟩
    · exact h1.elim
/-- e.f -/
def gXf (cs : List Cn) (n : Fld) : Exc → FE := fun x _ S => if x.c ∈ cs then (match x.fs.lookup n with
  | some p => .ok (.p p) S
  | none => .stuck) else .stuck
def XfOk (K : PySem.W.Frag) (cs : List Cn) (n : Fld) : Prop := ∀ c ∈ cs, XfC K (c.a K) ∧ PySem.W.findIn K (.ref (c.a K)) n.x = some none
theorem sx_fld {n : Fld} {cs : List Cn} {nm : Str} {p : Pos} {oe : Obj} {pn : List (Addr × Obj)} (T : XfOk X.K cs n) (hz : Zc cls d oe) (hf : ∃ vs, oe.data = .fields vs) (hN : X.N[i]? = some nm := by rfl) (hv : Vis X.env.scope nm := by first | exact Or.inl rfl | exact Or.inr (Or.inl rfl))
    (hb : attributeBase (.Name nm p) n.x X.env (eval (.Name nm p) X.env) = eval (.Name nm p) X.env := by rfl) (hd : (nm == ("__debug__" : Str)) = false := by decide) (hcd : (nm == ("__classdict__" : Str)) = false := by decide) :
    SXE (X.suite a ((a, oe) :: pn)) i a cls d (.Attribute (.Name nm p) n.x pos) (gXf cs n) := by
  refine ⟨fun pins s σ H Q I ⟨w, ρ, S, x, hi, xr, at0, h⟩ => ?_⟩
  unfold gXf at h
  split at h
  · rename_i hm
    obtain ⟨T1, T2⟩ := T _ hm
    split at h
    · rename_i q hq
      obtain ⟨cn, fs⟩ := x
      obtain ⟨xc, xr⟩ := xr
      rcases xr with ⟨rfl, _⟩ | ⟨dd, vs, e1, e2, e3, e4⟩
      · cases hq
      · obtain ⟨v, l1, l2⟩ := RepF.look e4 hq
        exact (pe_xf T1 T2 hz hf (pe_var (X := X.suite a ((a, oe) :: pn)) hN hv hd hcd) hb).run pins s σ H Q I ⟨.ref a, hi, rfl, xc, dd, vs, v, e1, e2, l1, oE_ok at0.st h l2⟩
    · exact h.elim
  · exact h.elim
/-- isinstance(e, ..) -/
def rIsX (K : PySem.W.Frag) (a : Addr) (D : Addr) (d : Option Addr) : List V → Hp → VK → Prop := fun xs H Q => (d = none ∨ ∃ dd fs, d = some dd ∧ H dd = some (.xd fs)) ∧
  ((∃ (c : V) (cv : Value) (b : Bool), xs = [.ref a, c] ∧ ClsV c cv ∧ PySem.W.kitOne K (.ref D) cv = some b ∧ Q (.bl b) H) ∨
  ∃ (tp : Addr) (cs : List V) (us : List Value) (b : Bool), xs = [.ref a, .ref tp] ∧ H tp = some (.tup cs) ∧ Paired ClsV cs us ∧ PySem.W.kitAny K (.ref D) us = some b ∧ Q (.bl b) H)
theorem call_isX {oe : Obj} {pn : List (Addr × Obj)} {D : Addr} (C : ExcC X.K D) (hz : Zc (.ref D) d oe) (hf : ∃ vs, oe.data = .fields vs) : CallR (X.suite a ((a, oe) :: pn)) (.builtin "isinstance") (rIsX X.K a D d) := by
  intro pins s σ H xs us Q I r h
  obtain ⟨hd, h⟩ := h
  obtain ⟨hget, _⟩ := I.pin (a, oe) (List.mem_append.mpr (.inl List.mem_cons_self))
  have J : ∃ od, PySem.W.InstAt s.heap a oe D od := by
    obtain ⟨vs, hv⟩ := hf
    obtain ⟨oc, od, oda, osl⟩ := oe
    obtain ⟨h1, h2⟩ := hz
    dsimp only at h1 h2 hv
    subst h1 h2 hv
    rcases hd with rfl | ⟨dd, fs, rfl, e2⟩
    · exact ⟨none, hget, rfl, rfl, trivial⟩
    · obtain ⟨mA, hns, hr⟩ := (show ObjOk X.prog X.w H s.heap dd (.xd fs) from I.hok dd _ e2)
      obtain ⟨od, ho, hl⟩ := lookIn_ns hns
      exact ⟨some od, hget, rfl, rfl, ho⟩
  obtain ⟨od, J⟩ := J
  rcases h with ⟨c, cv, b, rfl, hc, e, q⟩ | ⟨tp, cs, ws, b, rfl, hT, k, e, q⟩
  · obtain ⟨u1, u2, rfl, r1, r2⟩ := vals2 r
    have e2 := hc.eq r2
    subst e2
    cases (show u1 = Value.ref a from r1)
    exact PySem.W.kia_one (XLow.kitx_exn C.hg C.hk C.hs C.hd C.ha C.hn C.ht C.hm) I.kIn J e (fun z => nomatch z) fun tk => ⟨.bl b, H, I.kept (t' := tk) fun _ _ z => z, rfl, q⟩
  · obtain ⟨u1, u2, rfl, r1, r2⟩ := vals2 r
    cases (show u1 = Value.ref a from r1)
    cases (show u2 = Value.ref tp from r2)
    obtain ⟨_, its, rv, o, h1, h2, n, h3⟩ := (show ObjOk X.prog X.w H s.heap tp (.tup cs) from I.hok tp _ hT)
    have e3 := ClsV.all k rv
    subst e3
    obtain ⟨oc, od', dt, sl⟩ := o
    simp only at h2 h3
    subst h2 h3
    exact PySem.W.kia_tup (XLow.kitx_exn C.hg C.hk C.hs C.hd C.ha C.hn C.ht C.hm) I.kIn J h1 e (fun z => nomatch z) fun tk => ⟨.bl b, H, I.kept (t' := tk) fun _ _ z => z, rfl, q⟩
def gXi (tbl : List (Cn × Bool)) : Exc → FE := fun x _ S => match tbl.lookup x.c with
  | some b => .ok (.p (.bl b)) S
  | none => .stuck
structure XiOk (K : PySem.W.Frag) (tbl : List (Cn × Bool)) (us : List Tg) : Prop where
  kit : ∀ p ∈ tbl, PySem.W.kitAny K (.ref (p.1.a K)) (us.map (Tg.v K)) = some p.2
  cls : ∀ p ∈ tbl, ExcC K (p.1.a K)
/-- one class, or a tuple of them -/
inductive ClsEs (X : Cx) : List Expr → List Tg → Prop
  | nil : ClsEs X [] []
  | cons {c : Expr} {u : Tg} {cs : List Expr} {us : List Tg} (h : ClsE X c u) (r : ClsEs X cs us) (hs : starEach (c :: cs) X.env = (false, eval c X.env) :: starEach cs X.env := by rfl) : ClsEs X (c :: cs) (u :: us)
theorem ClsEs.pa {cs : List Expr} {us : List Tg} (h : ClsEs X cs us) : ∃ vs, Paired ClsV vs (us.map (Tg.v X.K)) ∧ PA X cs (fun σ H Q => Q vs H) := by
  induction h with
  | nil => exact ⟨[], .nil, ⟨fun pos pins s σ H Q I h => pa_nil.run pos pins s σ H Q I h⟩⟩
  | cons h r hs ih =>
    obtain ⟨vs, h1, h2⟩ := ih
    obtain ⟨v, hv, hp⟩ := h.run
    exact ⟨v :: vs, .cons hv h1, ⟨fun pos pins s σ H Q I h => (pa_cons hp h2 hs).run pos pins s σ H Q I h⟩⟩
theorem kitAny_one {K : PySem.W.Frag} {t c : Value} {b : Bool} (h : PySem.W.kitAny K t [c] = some b) : PySem.W.kitOne K t c = some b := by
  unfold PySem.W.kitAny at h
  split at h
  · rename_i q; cases h; exact q
  · rename_i q; cases h; exact q
  · cases h
theorem sx_isi {c : Expr} {nm : Str} {p pn1 : Pos} {tbl : List (Cn × Bool)} {u : Tg} {oe : Obj} {pn : List (Addr × Obj)} (hm : X.mg "isinstance" = none) (ok : XiOk X.K tbl [u]) (hz : Zc cls d oe) (hf : ∃ vs, oe.data = .fields vs) (hc : ClsE (X.suite a ((a, oe) :: pn)) c u) (hg : Gl X "isinstance" := by rfl)
    (h1 : starEach [.Name nm pn1, c] X.env = (false, eval (.Name nm pn1) X.env) :: starEach [c] X.env := by rfl) (h3 : starEach [c] X.env = [(false, eval c X.env)] := by rfl) (hpl : (backTo pos (starEach [c] X.env)).any (·.1) = false := by rfl)
    (hN : X.N[i]? = some nm := by rfl) (hv : Vis X.env.scope nm := by first | exact Or.inl rfl | exact Or.inr (Or.inl rfl)) (hd : (nm == ("__debug__" : Str)) = false := by decide) (hcd : (nm == ("__classdict__" : Str)) = false := by decide) :
    SXE (X.suite a ((a, oe) :: pn)) i a cls d (.Call (.Name "isinstance" p) [.Name nm pn1, c] [] pos) (gXi tbl) := by
  refine ⟨fun pins s σ H Q I ⟨w, ρ, S, x, hi, xr, at0, h⟩ => ?_⟩
  unfold gXi at h
  split at h
  · rename_i b hb
    have hmem := lookup_mem hb
    obtain ⟨cv, hcv, hpe⟩ := hc.run
    have xc : cls = .ref (x.c.a X.K) := by obtain ⟨cn, fs⟩ := x; exact xr.1
    have xd : d = none ∨ ∃ dd fs, d = some dd ∧ H dd = some (.xd fs) := by
      obtain ⟨cn, fs⟩ := x
      rcases xr.2 with q | ⟨dd, vs, e1, e2, _⟩
      · exact .inl q.2
      · exact .inr ⟨dd, vs, e1, e2⟩
    subst xc
    refine (pe_callB (X := X.suite a ((a, oe) :: pn)) (call_isX (X := X) (ok.cls _ hmem) hz hf) hg hm PyProof.Rows.boot_isinstance (pa_cons (pe_var (X := X.suite a ((a, oe) :: pn)) (i := i) hN hv hd hcd) (pa_cons hpe pa_nil h3) h1) (by decide) (by decide) h1 hpl).run pins s σ H Q I ?_
    exact ⟨.ref a, hi, xd, .inl ⟨cv, _, b, rfl, hcv, kitAny_one (ok.kit _ hmem), oE_ok at0.st h (.bl _)⟩⟩
  · exact h.elim
theorem sx_isiT {cs : List Expr} {k1} {p2 : Pos} {nm : Str} {p pn1 : Pos} {tbl : List (Cn × Bool)} {us : List Tg} {oe : Obj} {pn : List (Addr × Obj)} (hm : X.mg "isinstance" = none) (ok : XiOk X.K tbl us) (hz : Zc cls d oe) (hf : ∃ vs, oe.data = .fields vs) (hc : ClsEs (X.suite a ((a, oe) :: pn)) cs us) (hl : us.length ≤ 1000 := by decide) (hg : Gl X "isinstance" := by rfl)
    (h1 : starEach [.Name nm pn1, .Tuple cs k1 p2] X.env = (false, eval (.Name nm pn1) X.env) :: starEach [.Tuple cs k1 p2] X.env := by rfl) (h3 : starEach [.Tuple cs k1 p2] X.env = [(false, eval (.Tuple cs k1 p2) X.env)] := by rfl) (hpl : (backTo pos (starEach [.Tuple cs k1 p2] X.env)).any (·.1) = false := by rfl)
    (hN : X.N[i]? = some nm := by rfl) (hv : Vis X.env.scope nm := by first | exact Or.inl rfl | exact Or.inr (Or.inl rfl)) (hd : (nm == ("__debug__" : Str)) = false := by decide) (hcd : (nm == ("__classdict__" : Str)) = false := by decide) :
    SXE (X.suite a ((a, oe) :: pn)) i a cls d (.Call (.Name "isinstance" p) [.Name nm pn1, .Tuple cs k1 p2] [] pos) (gXi tbl) := by
  refine ⟨fun pins s σ H Q I ⟨w, ρ, S, x, hi, xr, at0, h⟩ => ?_⟩
  unfold gXi at h
  split at h
  · rename_i b hb
    have hmem := lookup_mem hb
    obtain ⟨vs, hvs, hpa⟩ := hc.pa
    have xc : cls = .ref (x.c.a X.K) := by obtain ⟨cn, fs⟩ := x; exact xr.1
    have xr0 := xr
    have vl : vs.length = us.length := by
      have := hvs.length
      rw [List.length_map] at this; exact this
    subst xc
    refine (pe_callB (X := X.suite a ((a, oe) :: pn)) (call_isX (X := X) (ok.cls _ hmem) hz hf) hg hm PyProof.Rows.boot_isinstance (pa_cons (pe_var (X := X.suite a ((a, oe) :: pn)) (i := i) hN hv hd hcd) (pa_cons (pe_tup hpa) pa_nil h3) h1) (by decide) (by decide) h1 hpl).run pins s σ H Q I ?_
    refine ⟨.ref a, hi, by rw [vl, sizeLine_eq]; omega, fun tp htp => ?_⟩
    obtain ⟨st2, sr2⟩ := lay_pure (o := .tup vs) at0.st htp
    have xr2 := xr0.step at0.ok st2
    have xd : d = none ∨ ∃ dd fs, d = some dd ∧ (upd H tp (.tup vs)) dd = some (.xd fs) := by
      obtain ⟨cn, fs⟩ := x
      rcases xr2.2 with q | ⟨dd, vs, e1, e2, _⟩
      · exact .inl q.2
      · exact .inr ⟨dd, vs, e1, e2⟩
    exact ⟨xd, .inr ⟨tp, vs, _, b, rfl, upd_same, hvs, ok.kit _ hmem, h w _ st2 sr2 (.bl b) (.bl _)⟩⟩
  · exact h.elim
/-! ### a suite's statements -/
theorem sxs_nil : SXS X i a cls d [] (fun _ => sNext) := pss_nil.imp fun D σ H ⟨w, ρ, S, x, hi, xr, at0, h⟩ => imp_next D σ H ⟨w, ρ, S, at0, h⟩
/-- x = e, then the rest -/
def gXset (j : Nat) (f : Exc → FE) (g : Exc → FC) : Exc → FC := fun x ρ S => (f x ρ S).toS ρ fun dd S1 => g x (ρ.set j (some dd)) S1
theorem sxs_set (j : Nat) {y : Str} {py spos : Pos} {rest : List Stmt} {f : Exc → FE} {g : Exc → FC} (hN : X.N.Nodup) (he : SXE X i a cls d e f) (hr : SXS X i a cls d rest g) (hy : X.N[j]? = some y := by rfl) (hji : j ≠ i := by decide) (hx : Loc X.env.scope y := by exact Or.inl rfl)
    (hw : swapsWith e (some (.Name y py)) spos.line X.env = pure false := by rfl) (hf : X.fn y = true ∨ X.env.scope.names.lookup y = some .local := by exact Or.inr rfl) : SXS X i a cls d (.Assign [.Name y py] e spos :: rest) (gXset j f g) :=
  (pss_cons (ps_set hN hy hx he hw hf) hr).imp fun D σ H ⟨w, ρ, S, x, hi, xr, at0, h⟩ => tX_of hi xr at0 (oS_toS at0.ok at0.sl h) fun w1 H1 S1 dd v st a1 xr1 h1 r => ⟨w1, ρ.set j (some dd), S1, x, by rw [List.getElem?_set_ne hji]; exact hi, xr1, ⟨a1.st, a1.sl.set r j⟩, h1⟩
end
/-! ### raise C('..') of an own class without __init__ -/
structure ExcOk (K : PySem.W.Frag) (mg : Str → Option Value) (c : Cn) : Prop where
  gl : mg c.x = some (.ref (c.a K))
  ex : PySem.W.excIn K (c.a K) [.type "ValueError", .type "Exception", .type "BaseException", .type "object"] "ValueError.__new__" = true
  kp : PySem.W.keepIn K (.ref (c.a K)) = true
  sb : PySem.W.subIn K (.ref (c.a K)) (.type "BaseException") = some true
  ty : PySem.W.typeIn K (.ref (c.a K)) = some (.type "type")
def sRaise0 (c : Cn) : FC := fun ρ S => .exc (.mk c []) ρ S
section
variable {X : Cx} {W : WX} {e : Expr} {es : List Expr} {pos : Pos}
theorem ss_raise0 {c : Cn} {m : Str} {j : Nat} {p p2 p3 : Pos} (C : ExcOk X.K X.mg c) (hc : X.calm = true) (tk : Takes X W) (hg : Gl X c.x := by rfl) (hdb : (c.x == ("__debug__" : Str)) = false := by decide) : SS X W (.Raise (some (.Call (.Name c.x p) [.Constant (.str m) j p2] [] p3)) none pos) (sRaise0 c) :=
  (ps_raise hc tk (pmk_own PySem.F.excBase_ValueError C.ex C.gl C.kp (raises_own C.sb C.ty) hg hdb)).imp fun D σ H ⟨w, ρ, S, a, h⟩ => h w H σ _ _ (Step.refl _ _ a.ok) a.st a.sl ⟨rfl, .inl ⟨rfl, rfl⟩⟩
end
end FR

set_option Elab.async false
set_option linter.all false
set_option maxRecDepth 100000
set_option maxHeartbeats 1000000
namespace FR
open PySem PySem.Spec PyProof.Rows L2
/-! ### super().__init__(..) of an own exception over ValueError -/
section
variable {prog : Program} {w : World} {A : Around} {E : Value → Shared → Prop} {h : Heap} {g : Array GenState} {d : Drawn} {t : Nat} {os : OsState}
variable {nm q : Str} {C N : Addr} {bs bm : List Value} {hdct : Bool} {sn : List Str} {sub : List Value} {ab : Bool} {col : Option Bool} {dd : Option Addr} {k0 k1 k2 k3 k5 : Option Value}
theorem call_mw {u e t0 : Addr} {rest : List Value} {Q : Value → Shared → Prop}
    (hC : h.get? C = some (excClassObj nm q C N bs bm hdct sn sub ab col dd k0 k1 k2 k3 k5 "ValueError.__new__")) (he : h.get? e = some (HandSPX.excO C t0)) (hu : h.get? u = some (PySem.W.kxs_mw "ValueError.__init__" e)) (hrest : rest.length ≤ sizeLine)
    (hq : ∀ h' t1, (∀ b o, b ≠ e → h.get? b = some o → h'.get? b = some o) → h'.get? e = some (HandSPX.excO C t1) → Q .none ⟨h', g, d, t, os⟩) :
    wpAny (model prog w) A (call (.ref u) rest) Q E ⟨h, g, d, t, os⟩ := by
  refine wpAny_call (codeAny_of_tree ?_)
  show wpAny _ A.in1 (callAny (.ref u) ⟨rest, []⟩) _ _ _
  simp only [callAny]
  refine wpAny_bind (wpAny_load hu ?_)
  simp only [PySem.W.kxs_mw, show (Value.type "method-wrapper" == Value.type "method" || Value.type "method-wrapper" == Value.type "builtin_function_or_method" || Value.type "method-wrapper" == Value.type "method-wrapper") = true by decide, if_true]
  refine W.KFB.if_so (by decide) ?_
  refine wpAny_bind (PySem.ESX.check_bound F.excBase_ValueError hC he rfl ?_)
  refine wpAny_bind (wpAny_pure (wpAny_pure ?_))
  refine ⟨Code.quiet_builtin _ (by decide +kernel), codeAny_builtin F.excBase_ValueError.initEntry ?_⟩
  rw [Around.under_plainId F.excBase_ValueError.init.plain _]
  wp_walk
  refine hq _ h.objs.size (fun b o hb ho => ?_) ?_
  · rw [Heap.get?_update_other _ _ (Ne.symm hb)]
    exact Heap.get?_push_of_some _ ho
  · rw [Heap.get?_update_self _ (Heap.get?_push_of_some _ he) rfl]
    rfl
end
/-- what the written part says of a class C whose own __init__ stands at f and says super().__init__(..) -/
structure SupK (P : Program) (K : PySem.W.Frag) (mg : Str → Option Value) (C f cc cda : Addr) (fd : FuncData) (x qual : Str) (params : Arguments) (body : List Stmt) (scope : Scope) : Prop where
  T : OexC K C
  fn : ∃ oc od osl dV kV doc pm an ct, fd = PySem.W.fnX x qual params body scope [("__class__", cc)] dV kV doc pm an (.ref cda) ct ∧ K.lookup f = some ⟨oc, od, .func fd, osl⟩
  rec_ : PySem.W.codeIn K (.ref cda) qual = true
  code : ∃ ccl cdd vs ccs file tf, K.lookup cda = some ⟨ccl, cdd, .fields vs, ccs⟩ ∧ vs[2]? = some (.str file tf) ∧ ((P.main.file : Str) == file) = true
  cell : ∃ cl cld csl, K.lookup cc = some ⟨cl, cld, .cell (some (.ref C)), csl⟩
  sub : PySem.W.mroIn K C (.ref C) = some true
  mgs : mg "super" = none
  top : (P.main.scope.names.lookup ("super" : Str)).isSome = false
  opq : PySem.W.nsIn K PySem.cStatics "thirdparty.any" = some none
  sup : PySem.W.ks_superIn K C C "__init__" = some (some (.builtin "ValueError.__init__"))
  isV : PySem.W.subIn K (.ref C) (.type "ValueError") = some true
section
variable {X : Cx} {C f cc cda a : Addr} {fd : FuncData} {x qual : Str} {params : Arguments} {body : List Stmt} {scope : Scope} {pins : List (Addr × Obj)} {σ : L2.St} {H : Hp} {s : Shared} {ta : TA} {E : Expr}
theorem sup_stmt (S : SupK X.prog X.K X.mg C f cc cda fd x qual params body scope) {ar : Arg} {p0 p1 p2 p3 p4 : Pos} {G : Hp → Prop} {E' : Value → Shared → Prop} (I : Inv X [] σ H s)
    (hks : X.env.kindOf "super" = some .globalImplicit) (hkc : X.env.kindOf "__class__" = some .free) (hcl : X.env.cells.lookup ("__class__" : Str) = some cc) (hfu : X.env.func = some f) (hcd : X.env.code = .ref cda)
    (hp : (fd.params.posonlyargs ++ fd.params.args).head? = some ar) (hN : X.N[0]? = some ar.arg) (hv : X.env.kindOf ar.arg = some .local) (hs0 : σ[0]? = some (some (.ref a))) (ha0 : H a = some (exo a C none))
    (ha : PA X [E] ta) (hxe : ∀ e s, X.xe e s → E' e s) (h : ta σ H (fun vs H1 => vs.length ≤ 1000 ∧ H1 a = some (exo a C none) ∧ G H1))
    (hst : starEach [E] X.env = [(false, eval E X.env)] := by rfl)
    (hkw : backToKw p3 (keywordEach [] X.env) = [] := by rfl)
    (hi : interactive X.env = false := by rfl) (hsw : swapsWith (.Call (.Attribute (.Call (.Name "super" p0) [] [] p1) "__init__" p2) [E] [] p3) none p4.line X.env = pure false := by rfl)
    {pl : Sem Bool} (he : eval (.Call (.Attribute (.Call (.Name "super" p0) [] [] p1) "__init__" p2) [E] [] p3) X.env = (do
      let ov ← attributeBase (.Call (.Name "super" p0) [] [] p1) "__init__" X.env (eval (.Call (.Name "super" p0) [] [] p1) X.env)
      standAt p2.atName
      let (f, first) ← holding [ov] (getMethod ov "__init__" pl)
      callWith p3 f first (backTo p3 (starEach [E] X.env)) []) := by rfl) :
    _root_.PySem.wpAt (model X.prog X.w) X.A (.func body X.env) (exec (.Expr (.Call (.Attribute (.Call (.Name "super" p0) [] [] p1) "__init__" p2) [E] [] p3) p4) X.env) (fun fl s' => fl = .next ∧ ∃ H1, Inv X [] σ H1 s' ∧ G H1) E' s := by
  refine ks_wpAt_Expr_any (ks_wpAt_MethodCall ?_ he) hi hsw
  obtain ⟨oc, od, osl, dV, kV, doc, pm, an, ct, hfd, lkf⟩ := S.fn
  obtain ⟨ccl, cdd, vs, ccs, file, tf, lkc, hvs, hfile⟩ := S.code
  obtain ⟨cl, cld, csl, lkl⟩ := S.cell
  obtain ⟨nm, q, N, bs, bm, sn, sub, ab, col, dd, k0, k1, k2, k3, k5, hC, hbm⟩ := S.T.cls
  have X0 := I.kIn
  obtain ⟨t1, ho⟩ := exo_at I.hok ha0
  have hcls : ∃ cd, PySem.W.clsIn X.K C = some cd := ⟨{ name := nm, bases := bs, mro := .ref C :: bm, ns := N, qualname := q, hasDict := true, slotNames := sn, subclasses := sub, abstract := ab, collection := col, hasDel := false }, by unfold PySem.W.clsIn; rw [hC] <;> rfl⟩
  obtain ⟨cd, hcls⟩ := hcls
  refine ks_wpAt_super_base (env := X.env) hks hkc rfl hfu (X0 _ _ lkf) rfl hp hcd (X0 _ _ lkc) rfl hvs hfile S.top ?_
  obtain ⟨mb, hmb, hbt⟩ := I.mod.blt
  refine PySem.W.ks_loadName_global I.ok.kind hks (PySem.Calls.loadGlobal_builtin (env := X.env) (by rw [I.ok.glob]; exact I.mod.glob.keeps I.bk) S.mgs (by rw [I.ok.blt]; exact hmb.keeps I.bk) ((hbt _ (by decide +kernel)).trans PyProof.Rows.Boot.«super») ⟨rfl, ?_⟩)
  refine wpAny_loadName_free I.ok.kind hkc hcl ⟨_, X0 _ _ lkl, rfl⟩ ?_
  obtain ⟨m, hns, hloc⟩ := id I.loc
  obtain ⟨u0, r0, l0⟩ := hloc 0 ar.arg (.ref a) hN hs0 (.inl hv)
  obtain rfl : u0 = Value.ref a := r0
  have hm : m ar.arg = some (Value.ref a) := by
    rcases l0 with l0 | l0
    · exact l0.2
    · rcases l0.1 with z | z <;> rw [hv] at z <;> cases z
  refine wpAny_loadName_local I.ok.kind hv hns hm ?_
  obtain ⟨hp0, g0, d0, tk0, os0⟩ := s
  have hD : ∃ oD, hp0.get? C = some oD ∧ oD.data = .cls cd := by
    unfold PySem.W.clsIn at hcls
    split at hcls
    · rename_i c d cd' sl ho
      cases hcls
      exact ⟨_, X0 _ _ ho, rfl⟩
    · cases hcls
  obtain ⟨oD, hD1, hD2⟩ := hD
  have J0 : PySem.W.InstAt hp0 a (HandSPX.excO C t1) C none := ⟨ho, rfl, rfl, trivial⟩
  refine ks_wpAny_isType_cls hD1 hD2 ⟨rfl, ?_⟩
  refine ks_wpAny_call_super hD1 hD2 J0.at_ J0.cls (fun c e => by cases e) (PySem.W.looks_mroIn X0 S.sub) (fun h' e k => ?_)
  have I1 : Inv X [] σ H ⟨h', g0, d0, tk0, os0⟩ := I.kept (t' := tk0) k
  have X1 := I1.kIn
  have J1 : PySem.W.InstAt h' a (HandSPX.excO C t1) C none := ⟨k _ _ ho, rfl, rfl, trivial⟩
  have hI : PySem.W.Looks (model X.prog X.w) h' (isInstance (.ref a) (.type "ValueError")) true := J1.type.andThen (PySem.W.looks_subIn X1 S.isV)
  have hsup := S.sup
  unfold PySem.W.ks_superIn at hsup
  rw [hcls] at hsup
  refine PySem.W.kxs_getMethod PySem.W.kxs_ValueError e (PySem.W.looks_opaque X1 S.opq) (l₀ := cd.mro) ?_ rfl X1 hsup hI (PySem.W.ks_ne X1 J1 hcls) rfl ?_
  · exact fun A Q E s k q => wpAny_bind ((PySem.W.looks_clsIn X1 hcls) A _ E s k (wpAny_pure q))
  have k2 : ∀ b o, h'.get? b = some o → (h'.push (PySem.W.kxs_mw "ValueError.__init__" a)).get? b = some o := fun b o e => Heap.get?_push_of_some _ e
  have I2 : Inv X [] σ H ⟨h'.push (PySem.W.kxs_mw "ValueError.__init__" a), g0, d0, tk0 + 1, os0⟩ := I1.kept (t' := tk0 + 1) k2
  have hu : (h'.push (PySem.W.kxs_mw "ValueError.__init__" a)).get? h'.objs.size = some (PySem.W.kxs_mw "ValueError.__init__" a) := Heap.get?_push_at rfl rfl
  have I3 : Inv X [(h'.objs.size, PySem.W.kxs_mw "ValueError.__init__" a)] σ H ⟨h'.push (PySem.W.kxs_mw "ValueError.__init__" a), g0, d0, tk0 + 1, os0⟩ := I2.pins_of fun p hp => by
    rcases List.mem_singleton.mp hp with rfl
    exact ⟨hu, I1.hok.fresh (Nat.le_refl _), Nat.ne_of_gt I1.lt, I1.nofs (Nat.le_refl _), fun v z => by cases z⟩
  refine PySem.W.kxs_callWith (i := "ValueError.__init__") (x := a) (by rw [hst]; rfl) ?_
  have key : wpAny (model X.prog X.w) X.A (spliced (backTo p3 (starEach [E] X.env))) (fun vs s₁ => PySem.W.KxsAt "ValueError.__init__" h'.objs.size a s₁.heap ∧ wpAny (model X.prog X.w) X.A (call (.ref h'.objs.size) ([] ++ vs) []) (fun x s' => Flow.next = Flow.next ∧ ∃ H1, Inv X [] σ H1 s' ∧ G H1) E' s₁) E' ⟨h'.push (PySem.W.kxs_mw "ValueError.__init__" a), g0, d0, tk0 + 1, os0⟩ := ?_
  · rw [hst] at key ⊢
    exact PySem.Calls.evalArgs_plain key
  refine wpAny_mono (ha.run p3 _ _ σ H _ I3 h) (fun us s1 hh => ?_) hxe
  obtain ⟨vs1, H1, I4, rv, hl, hH1, hG⟩ := hh
  obtain ⟨hu4, _⟩ := I4.pin (h'.objs.size, PySem.W.kxs_mw "ValueError.__init__" a) (List.mem_append_right _ List.mem_cons_self)
  refine ⟨hu4, ?_⟩
  obtain ⟨t2, ho2⟩ := exo_at I4.hok hH1
  obtain ⟨hp5, g5, d5, tk5, os5⟩ := s1
  refine call_mw (I4.kIn _ _ hC) ho2 hu4 (by show us.length ≤ _; rw [← rv.length, sizeLine_eq]; omega) fun h6 t6 k6 hx6 => ?_
  have J := I4.write (t' := tk5) (x := a) (e := a) (o := exo a C none) (by rw [hH1]; exact True.intro) (.inl rfl) k6 ⟨_, hx6⟩ (exo_ok hx6)
  have eu : upd H1 a (exo a C none) = H1 := by
    funext b
    by_cases hb : b = a
    · rw [hb, upd_same, hH1]
    · rw [upd_ne hb]
  rw [eu] at J
  exact ⟨rfl, H1, J.pins_of (fun p hp => by cases hp), hG⟩
end
end FR

set_option Elab.async false
set_option linter.all false
set_option maxRecDepth 100000
set_option maxHeartbeats 1000000
namespace FR
open PySem PySem.Spec PyProof.Rows L2
/-! ### facts: exceptions -/
section
variable {fx : List Fx} {fn : List DefX} {K : PySem.W.Frag} {mg : Str → Option Value}
theorem Zs.gen (z : Zs fx fn K mg) (i : Nat) {f : PySem.W.Frag → Bool} (h : fx[i]? = some (.gen f) := by rfl) : f K = true := z.says.fact i h
def excB (c : Cn) (K : PySem.W.Frag) : Bool := (He.Fa.exc c.x).ok K
theorem Zs.exc (z : Zs fx fn K mg) (i j : Nat) {c : Cn} (h : fx[i]? = some (.gen (excB c)) := by rfl) (h2 : fx[j]? = some (.glo c.x) := by rfl) : ExcOk K mg c := by
  obtain ⟨a, b, c', d⟩ := He.exc_ok (show (He.Fa.exc c.x).ok K = true from z.gen i h)
  exact ⟨z.cn j h2, a, b, c', d⟩
def exmB (c : Cn) (u : Tg) (b : Bool) (K : PySem.W.Frag) : Bool := decide (PySem.W.exmOne K (.ref (c.a K)) (u.v K) = some b)
theorem Zs.exm (z : Zs fx fn K mg) (i : Nat) {c : Cn} {u : Tg} {b : Bool} (h : fx[i]? = some (.gen (exmB c u b)) := by rfl) : PySem.W.exmOne K (.ref (c.a K)) (u.v K) = some b := of_decide_eq_true (z.gen i h)
def xfiB (c : Cn) (n : Fld) (K : PySem.W.Frag) : Bool := xfB K (c.a K) && decide (PySem.W.findIn K (.ref (c.a K)) n.x = some none)
theorem Zs.xf (z : Zs fx fn K mg) (i : Nat) {c : Cn} {n : Fld} (h : fx[i]? = some (.gen (xfiB c n)) := by rfl) : XfC K (c.a K) ∧ PySem.W.findIn K (.ref (c.a K)) n.x = some none := by
  obtain ⟨a, b⟩ := b2 (z.gen i h)
  exact ⟨xfB_ok a, of_decide_eq_true b⟩
theorem xf_nil {n : Fld} : XfOk K [] n := fun c h => by cases h
theorem xf_cons {n : Fld} {c : Cn} {cs : List Cn} (h : XfC K (c.a K) ∧ PySem.W.findIn K (.ref (c.a K)) n.x = some none) (r : XfOk K cs n) : XfOk K (c :: cs) n := fun c' hc => by
  rcases List.mem_cons.mp hc with rfl | hc
  · exact h
  · exact r c' hc
def excCB (c : Cn) (K : PySem.W.Frag) : Bool := decide (PySem.W.findIn K (.ref (c.a K)) "__getattribute__" = some (some (.builtin "BaseException.__getattribute__"))) && (decide (PySem.W.findIn K (.ref (c.a K)) "__getattr__" = some none) && (decide (PySem.W.subIn K (.ref (c.a K)) (.type "BaseException") = some true) &&
  (PySem.W.hasDictIn K (c.a K) && (decide (PySem.W.findIn K (.ref (c.a K)) "__class__" = some (some (.builtin "object.__class__"))) && (decide (PySem.W.specialIn K (.builtin "object.__class__") "__get__" = some (some (.builtin "getset_descriptor.__get__"))) && (decide (PySem.W.takesIn K (.builtin "object.__class__") = some true) &&
  decide (PySem.W.mroIn K (c.a K) (.type "object") = some true)))))))
theorem Zs.excC (z : Zs fx fn K mg) (i : Nat) {c : Cn} (h : fx[i]? = some (.gen (excCB c)) := by rfl) : ExcC K (c.a K) := by
  obtain ⟨h1, e⟩ := b2 (z.gen i h)
  obtain ⟨h2, e⟩ := b2 e
  obtain ⟨h3, e⟩ := b2 e
  obtain ⟨h4, e⟩ := b2 e
  obtain ⟨h5, e⟩ := b2 e
  obtain ⟨h6, e⟩ := b2 e
  obtain ⟨h7, h8⟩ := b2 e
  exact ⟨of_decide_eq_true h1, of_decide_eq_true h2, of_decide_eq_true h3, h4, of_decide_eq_true h5, of_decide_eq_true h6, of_decide_eq_true h7, of_decide_eq_true h8⟩
def kitAB (c : Cn) (us : List Tg) (b : Bool) (K : PySem.W.Frag) : Bool := decide (PySem.W.kitAny K (.ref (c.a K)) (us.map (Tg.v K)) = some b)
theorem Zs.kitA (z : Zs fx fn K mg) (i : Nat) {c : Cn} {us : List Tg} {b : Bool} (h : fx[i]? = some (.gen (kitAB c us b)) := by rfl) : PySem.W.kitAny K (.ref (c.a K)) (us.map (Tg.v K)) = some b := of_decide_eq_true (z.gen i h)
theorem xi_nil {us : List Tg} : XiOk K [] us := ⟨fun p h => (by cases h), fun p h => (by cases h)⟩
theorem xi_cons {us : List Tg} {c : Cn} {b : Bool} {tbl : List (Cn × Bool)} (h : PySem.W.kitAny K (.ref (c.a K)) (us.map (Tg.v K)) = some b) (hc : ExcC K (c.a K)) (r : XiOk K tbl us) : XiOk K ((c, b) :: tbl) us :=
  ⟨fun p hp => by
    rcases List.mem_cons.mp hp with rfl | hp
    · exact h
    · exact r.kit p hp, fun p hp => by
    rcases List.mem_cons.mp hp with rfl | hp
    · exact hc
    · exact r.cls p hp⟩
/-- the table of an except clause -/
def TblOk (K : PySem.W.Frag) (c : Value) (tbl : List (Cn × Bool)) : Prop := ∀ p ∈ tbl, PySem.W.exmOne K (.ref (p.1.a K)) c = some p.2
theorem tb_nil {c : Value} : TblOk K c [] := fun p h => by cases h
theorem tb_cons {c : Value} {cn : Cn} {b : Bool} {tbl : List (Cn × Bool)} (h : PySem.W.exmOne K (.ref (cn.a K)) c = some b) (r : TblOk K c tbl) : TblOk K c ((cn, b) :: tbl) := fun p hp => by
  rcases List.mem_cons.mp hp with rfl | hp
  · exact h
  · exact r p hp
end
abbrev clsX : Str := "__class__"
abbrev slfX : Str := "self"
/-! ### own exceptions with an own __init__ that says super().__init__(..) and stores one or two fields -/
def oexB (K : PySem.W.Frag) (C : Addr) : Bool := (match K.lookup C with
  | some ⟨.type "type", _, .cls cd, sl⟩ => (match cd.mro, sl.toList with
    | .ref C' :: bm, [_, _, _, _, some (.builtin n), _] => C' == C && (n == "ValueError.__new__" && (!cd.hasDel && (HandSPX.refsVE bm && cd.hasDict)))
    | _, _ => false)
  | _ => false) && (decide (PySem.W.findIn K (.ref C) "__setattr__" = some (some (.builtin "object.__setattr__"))) && (decide (PySem.W.subIn K (.ref C) (.type "BaseException") = some true) && (decide (PySem.W.typeIn K (.ref C) = some (.type "type")) && PySem.W.keepIn K (.ref C))))
theorem oexB_ok {K : PySem.W.Frag} {C : Addr} (h : oexB K C = true) : OexC K C := by
  obtain ⟨h1, e⟩ := b2 h
  obtain ⟨h2, e⟩ := b2 e
  obtain ⟨h3, e⟩ := b2 e
  obtain ⟨h4, h5⟩ := b2 e
  refine ⟨?_, of_decide_eq_true h2, of_decide_eq_true h3, of_decide_eq_true h4, h5⟩
  split at h1
  · rename_i dd cd sl ho
    split at h1
    · rename_i C' bm k0 k1 k2 k3 n k5 hm hs
      obtain ⟨g1, e⟩ := b2 h1
      obtain ⟨g2, e⟩ := b2 e
      obtain ⟨g3, e⟩ := b2 e
      obtain ⟨g4, g5⟩ := b2 e
      obtain rfl := beq_iff_eq.mp g1
      obtain rfl := beq_iff_eq.mp g2
      obtain ⟨nm, bs, mro, ns, qn, hd, sn, sub, ab, col, del⟩ := cd
      dsimp only at hm g3 g5
      subst hm g5
      have hdel : del = false := by simpa using g3
      subst hdel
      have hsl : sl = #[k0, k1, k2, k3, some (.builtin "ValueError.__new__"), k5] := by
        obtain ⟨l⟩ := sl
        simp only at hs
        rw [hs]
      subst hsl
      exact ⟨nm, qn, ns, bs, bm, sn, sub, ab, col, dd, k0, k1, k2, k3, k5, ho, g4⟩
    · cases h1
  · cases h1
def supB (P : Program) (c : Cn) (K : PySem.W.Frag) : Bool := oexB K (c.a K) && (decide (PySem.W.findIn K (.ref (c.a K)) "__init__" = some (some (.ref (aM c "__init__" K)))) && (decide (PySem.W.typeIn K (.ref (aM c "__init__" K)) = some (.type "function")) &&
  ((match K.lookup (aM c "__init__" K) with
    | some ⟨_, _, .func fd, _⟩ => (match fd.closure, fd.code with
      | [(_, cc)], .ref cda => (match K.lookup cda with
          | some ⟨_, _, .fields vs, _⟩ => (match (vs[2]? : Option Value) with
            | some (Value.str fl _) => ((P.main.file : Str) == fl)
            | _ => false)
          | _ => false) && (match K.lookup cc with
          | some ⟨_, _, .cell (some (.ref D)), _⟩ => decide (D = c.a K)
          | _ => false)
      | _, _ => false)
    | _ => false) && (decide (PySem.W.mroIn K (c.a K) (.ref (c.a K)) = some true) && (decide (PySem.W.nsIn K PySem.cStatics "thirdparty.any" = some none) && (decide (PySem.W.ks_superIn K (c.a K) (c.a K) "__init__" = some (some (.builtin "ValueError.__init__"))) &&
    (decide (PySem.W.subIn K (.ref (c.a K)) (.type "ValueError") = some true) && !(P.main.scope.names.lookup ("super" : Str)).isSome)))))))
structure SupOk (P : Program) (K : PySem.W.Frag) (mg : Str → Option Value) (c : Cn) (d : DefX) (fd : FuncData) : Prop where
  s : ∃ cc cda, SupK P K mg (c.a K) (aM c "__init__" K) cc cda fd d.name d.qual d.params d.body d.scope
  ini : PySem.W.findIn K (.ref (c.a K)) "__init__" = some (some (.ref (aM c "__init__" K)))
  ty : PySem.W.typeIn K (.ref (aM c "__init__" K)) = some (.type "function")
  dn : fd.defaults = .none
theorem sup_ok {P : Program} {K : PySem.W.Frag} {mg : Str → Option Value} {c : Cn} {d : DefX} (e : fnX K (d.ad K) = d.val) (ok : d.ok K = true) (b : supB P c K = true) (hms : mg "super" = none) (hcl : d.clo = [clsX] := by rfl) (had : d.ad K = aM c "__init__" K := by rfl) (hdf : d.dfl = [] := by rfl) : ∃ fd, SupOk P K mg c d fd := by
  obtain ⟨h1, b⟩ := b2 b
  obtain ⟨h2, b⟩ := b2 b
  obtain ⟨h3, b⟩ := b2 b
  obtain ⟨h4, b⟩ := b2 b
  obtain ⟨h5, b⟩ := b2 b
  obtain ⟨h6, b⟩ := b2 b
  obtain ⟨h7, b⟩ := b2 b
  obtain ⟨h8, h9⟩ := b2 b
  obtain ⟨kp, c2⟩ := b2 ok
  rw [had] at e c2
  unfold fnX at e
  cases q : K.lookup (aM c "__init__" K) with
  | none => rw [q] at h4; cases h4
  | some o =>
    obtain ⟨oc, od, dt, osl⟩ := o
    rw [q] at c2 e h4
    cases dt with
    | func fd =>
      obtain ⟨m1, m2, m3, m4, m5, m6, m7, m8, m9, m10, m11, m12, m13, m14, m15⟩ := fd
      have e2 : (some (m1, m2, m3, m4, m5, m6, m7.map (fun p => (p.1, 0)), m15) : He.FnW) = some (d.name, d.qual, d.params, .stmts d.body, d.scope, mainGlobals, d.clo.map (fun x => (x, 0)), builtinsNs) := e
      rw [hcl] at e2
      simp only [Option.some.injEq, Prod.mk.injEq, List.map_cons, List.map_nil] at e2
      obtain ⟨g1, g2, g3, g4, g5, g6, g7, g8⟩ := e2
      subst g1 g2 g3 g4 g5 g6 g8
      obtain ⟨k1, k2⟩ := b2 (show (PySem.W.codeIn K m13 d.qual && (He.dflB K m8 (d.dvs K) && He.kwdB K m9 (d.kws K))) = true from c2)
      obtain ⟨k3, k4⟩ := b2 k2
      have hd0 : m8 = .none := by
        unfold DefX.dvs at k3
        rw [hdf] at k3
        rcases He.dflB_ok k3 with z | z
        · exact z.2
        · exact absurd rfl z.1
      cases m7 with
      | nil => cases g7
      | cons p r =>
        obtain ⟨pn, cc⟩ := p
        cases r with
        | cons p2 r2 => simp at g7
        | nil =>
          have : pn = ("__class__" : Str) := by simpa using g7
          subst this
          cases m13 with
          | ref cda =>
            obtain ⟨i1, i2⟩ := b2 h4
            refine ⟨_, ⟨cc, cda, oexB_ok h1, ⟨oc, od, osl, m8, m9, m10, m11, m12, m14, rfl, q⟩, k1, ?_, ?_, of_decide_eq_true h5, hms, by simpa using h9, of_decide_eq_true h6, of_decide_eq_true h7, of_decide_eq_true h8⟩, of_decide_eq_true h2, of_decide_eq_true h3, hd0⟩
            · cases q1 : K.lookup cda with
              | none => rw [q1] at i1; cases i1
              | some o1 =>
                rw [q1] at i1
                obtain ⟨a1, a2, a3, a4⟩ := o1
                cases a3 with
                | fields vs =>
                  dsimp only at i1
                  cases q2 : vs[2]? with
                  | none => rw [q2] at i1; cases i1
                  | some v2 =>
                    rw [q2] at i1
                    cases v2 with
                    | str fl tf => exact ⟨a1, a2, vs, a4, fl, tf, rfl, q2, i1⟩
                    | _ => cases i1
                | _ => cases i1
            · cases q1 : K.lookup cc with
              | none => rw [q1] at i2; cases i2
              | some o1 =>
                rw [q1] at i2
                obtain ⟨a1, a2, a3, a4⟩ := o1
                cases a3 with
                | cell v =>
                  cases v with
                  | none => cases i2
                  | some v =>
                    cases v with
                    | ref D =>
                      have := of_decide_eq_true i2
                      subst this
                      exact ⟨a1, a2, a4, rfl⟩
                    | _ => cases i2
                | _ => cases i2
          | _ => cases h4
    | _ => cases h4
/-- the def's promise: by its first row and what follows -/
theorem fn_sup {P : Program} {w : World} {K : PySem.W.Frag} {mg : Str → Option Value} {base : Heap} {C f cc cda : Addr} {fd : FuncData} {x qual : Str} {params : Arguments} {scope : Scope} {rest : List Stmt} {ps : List Str} {sp : Sp} {k : Nat} {E0 : Expr} {p0 p1 p2 p3 p4 : Pos} {pl : Sem Bool} {ar : Arg}
    (S : SupK P K mg C f cc cda fd x qual params (.Expr (.Call (.Attribute (.Call (.Name "super" p0) [] [] p1) "__init__" p2) [E0] [] p3) p4 :: rest) scope) (NS : NdefX.NScope (ps ++ [clsX]) ps [clsX] scope)
    (hks : scope.names.lookup ("super" : Str) = some .globalImplicit) (hp : (params.posonlyargs ++ params.args).head? = some ar) (hp2 : ps[0]? = some ar.arg) (len : ∀ vs H Q E, sp vs H Q E → vs.length = ps.length)
    (hst : ∀ env : PySem.Env, env.scope = scope → starEach [E0] env = [(false, eval E0 env)]) (hi : ∀ env : PySem.Env, env.scope = scope → interactive env = false)
    (hsw : ∀ env : PySem.Env, env.scope = scope → swapsWith (.Call (.Attribute (.Call (.Name "super" p0) [] [] p1) "__init__" p2) [E0] [] p3) none p4.line env = pure false)
    (he : ∀ env : PySem.Env, env.scope = scope → eval (.Call (.Attribute (.Call (.Name "super" p0) [] [] p1) "__init__" p2) [E0] [] p3) env = (do
      let ov ← attributeBase (.Call (.Name "super" p0) [] [] p1) "__init__" env (eval (.Call (.Name "super" p0) [] [] p1) env)
      standAt p2.atName
      let (f, first) ← holding [ov] (getMethod ov "__init__" pl)
      callWith p3 f first (backTo p3 (starEach [E0] env)) []))
    (hbody : ∀ (X : Cx) (vs : List V) (H : Hp) (Q : VK) (E : XK), X.env.scope = scope → X.N = ps ++ [clsX] → X.K = K → sp vs H Q E →
      ∃ (a : Addr) (ta : TA) (t : TS), vs[0]? = some (.ref a) ∧ H a = some (exo a C none) ∧ PA X [E0] ta ∧ PSs X rest t ∧ ta (NdefX.startF (ps ++ [clsX]) vs [none]) H (fun ws H1 => ws.length ≤ 1000 ∧ H1 a = some (exo a C none) ∧ t { nx := fun _ H' => Q .non H', rt := Q } (NdefX.startF (ps ++ [clsX]) vs [none]) H1)) :
    FnOk P w K mg base (L2.CX P w) (k + 1) f fd ps sp := by
  refine ⟨len, fun A outer s H args us vs Q E hr e0 hb r hsp => ?_⟩
  have hl := len _ _ _ _ hsp
  have KX : K.In s.heap := e0.mod.kin.keeps fun b o e => (e0.bs b o e).1
  have lim : s.heap.NoLimit := e0.mod.nolimit.keeps fun b o e => (e0.bs b o e).1
  obtain ⟨oc, od, osl, dV, kV, doc, pm, an, ct, hfd, lkf⟩ := id S.fn
  obtain ⟨cl, cld, csl, lkl⟩ := id S.cell
  let F : NdefX.NF := ⟨x, qual, params, .Expr (.Call (.Attribute (.Call (.Name "super" p0) [] [] p1) "__init__" p2) [E0] [] p3) p4 :: rest, scope, [("__class__", cc)], cda⟩
  have hcc : base.get? cc = some ⟨cl, cld, .cell (some (.ref C)), csl⟩ := e0.mod.kin _ _ lkl
  have hfd2 : fd.scope = scope ∧ fd.body = .stmts F.body ∧ fd.qualname = qual ∧ fd.code = .ref cda := by rw [hfd]; exact ⟨rfl, rfl, rfl, rfl⟩
  have CA : NdefX.CellsAt F.cl [clsX] [none] s.heap H := by
    refine ⟨rfl, fun y c e => ?_, fun y z c e1 e2 => ?_, fun i y e => ?_⟩
    · have : c = cc := by
        have e' : List.lookup y [(("__class__" : Str), cc)] = some c := e
        rw [List.lookup_cons] at e'
        split at e'
        · cases e'; rfl
        · cases e'
      subst this
      obtain ⟨g1, g2⟩ := e0.bs _ _ hcc
      exact ⟨g2, _, _, g1, rfl⟩
    · have h1 : ∀ {u c}, List.lookup u [(("__class__" : Str), cc)] = some c → u = ("__class__" : Str) := fun {u c} e' => by
        rw [List.lookup_cons] at e'
        split at e'
        · rename_i q; exact eq_of_beq q
        · cases e'
      exact (h1 e1).trans (h1 e2).symm
    · cases i with
      | zero =>
        have : y = ("__class__" : Str) := by simpa using e.symm
        subst this
        exact ⟨cc, by simp [F, List.lookup_cons], fun v z => by simp at z⟩
      | succ i => simp at e
  subst hfd
  refine codeAny_call_function hr.depth (KX _ _ lkf) rfl NS.co NS.gen rfl (PySem.W.codeRec_of KX S.rec_) (hb _ _ _ _ ?_)
  refine wpAny_newFunctionEnv NS.nocell (fun ⟨n, _⟩ hy => NS.par n (List.of_mem_zip hy).1) (fun h₁ hns hsb => ⟨lim.fresh _ hsb, ?_⟩) NS.kind
  show codeAny _ _ (.func F.body (NdefX.envF F f s.heap.objs.size)) _ _
  refine ks_codeAny_funcAt ?_
  have kp : ∀ b o, s.heap.get? b = some o → h₁.get? b = some o := fun b o e => hsb.extBut b o (Nat.ne_of_lt (Heap.lt_size e)) (Heap.get?_push_of_some _ e)
  have I : Inv (NdefX.ncx (L2.CX P w) P w K mg base (ps ++ [clsX]) F f A outer s H E) [] (NdefX.startF (ps ++ [clsX]) vs [none]) H { s with heap := h₁, toks := s.toks + (ps.zip us).length } := NdefX.inv_startN NS hr.hd e0 hl r CA hns kp
  obtain ⟨a, ta, t, hv0, ha0, hpa, hps, hta⟩ := hbody (NdefX.ncx (L2.CX P w) P w K mg base (ps ++ [clsX]) F f A outer s H E) vs H Q E rfl rfl rfl hsp
  have hs0 : (NdefX.startF (ps ++ [clsX]) vs [none])[0]? = some (some (.ref a)) := by
    unfold NdefX.startF
    have hlt : 0 < (vs.map some).length := by
      rw [List.length_map]
      cases vs with
      | nil => cases hv0
      | cons v r => exact Nat.succ_pos _
    rw [List.getElem?_append_left hlt, List.getElem?_map, hv0]
    rfl
  have hv : scope.names.lookup ar.arg = some .local := NS.par _ (List.mem_of_getElem? hp2)
  refine ks_wpAt_execs_cons (ks_wpAt_mono (sup_stmt (X := NdefX.ncx (L2.CX P w) P w K mg base (ps ++ [clsX]) F f A outer s H E) S I hks (NS.frk _ List.mem_cons_self) (by show List.lookup _ [(("__class__" : Str), cc)] = _; simp [List.lookup_cons]) rfl rfl hp
    (by
      show (ps ++ [clsX])[0]? = _
      have : 0 < ps.length := by
        rcases ps with _ | ⟨p, r⟩
        · cases hp2
        · simp
      rw [List.getElem?_append_left this]; exact hp2) hv hs0 ha0 hpa (fun e s z => z) hta (hst _ rfl) rfl (hi _ rfl) (hsw _ rfl) (he _ rfl)) (fun fl s' hh => ?_) fun _ _ z => z)
  obtain ⟨rfl, H1, J, q1⟩ := hh
  refine wpAt_of_wpAny (wpAny_mono (hps.run [] _ _ H1 _ J q1) (fun fl s' hs => ?_) fun e s' hs => hs)
  have fin : ∀ {σ' : L2.St} {H' : Hp} {v : V} {u : Value}, Inv (NdefX.ncx (L2.CX P w) P w K mg base (ps ++ [clsX]) F f A outer s H E) [] σ' H' s' → L2.RelV v u → Q v H' → CE outer P w H s Q u s' :=
    fun {σ' H' v u} J rv q => ⟨v, H', J.os, J.bare, J.base, J.hok, rv, q⟩
  cases fl with
  | ret u =>
    obtain ⟨v, σ', H', J, rv, q⟩ := hs
    exact fin J rv q
  | next =>
    obtain ⟨σ', H', J, q⟩ := hs
    exact fin (v := V.non) (u := Value.none) J rfl q
  | brk =>
    obtain ⟨_, _, _, q⟩ := hs
    exact False.elim q
  | cont =>
    obtain ⟨_, _, _, q⟩ := hs
    exact False.elim q
/-- two fields: name, then another -/
def spX2 (C : Addr) (f1 f2 : Str) : Sp := fun vs H Q _ => ∃ (a : Addr) (x : Str) (y : V), vs = [.ref a, .str x, y] ∧ x.length ≤ 1000 ∧ H a = some (exo a C none) ∧ ∀ dx, H dx = none → dx ≠ a →
  Q .non (upd (upd (upd H dx (exd dx [(f1, .str x)])) a (exo a C (some dx))) dx (exd dx [(f2, y), (f1, .str x)]))
def spX1 (C : Addr) (f1 : Str) : Sp := fun vs H Q _ => ∃ (a : Addr) (y : V), vs = [.ref a, y] ∧ H a = some (exo a C none) ∧ ∀ dx, H dx = none → dx ≠ a → Q .non (upd (upd H dx (exd dx [(f1, y)])) a (exo a C (some dx)))
section
variable {P : Program} {w : World} {K : PySem.W.Frag} {mg : Str → Option Value} {base : Heap} {C f cc cda : Addr} {fd : FuncData} {x qual : Str} {params : Arguments} {scope : Scope}
theorem kind_par {N ps fr : List Str} (NS : NdefX.NScope N ps fr scope) {y : Str} (h : y ∈ ps) {X : Cx} (e : X.env.scope = scope) : Vis X.env.scope y := .inl (by rw [e]; exact NS.par y h)
theorem fn_sup2 {f1 f2 m : Str} {j : Nat} {p0 p1 p2 p3 p4 q1 q2 q3 q4 q5 q6 q7 q8 q9 q10 q11 : Pos} {pl : Sem Bool} {ar : Arg}
    (S : SupK P K mg C f cc cda fd x qual params [.Expr (.Call (.Attribute (.Call (.Name "super" p0) [] [] p1) "__init__" p2) [.BinOp (.Constant (.str m) j q1) .Add (.Name f1 q2) q3] [] p3) p4,
      .Assign [.Attribute (.Name "self" q4) f1 q5] (.Name f1 q6) q7, .Assign [.Attribute (.Name "self" q8) f2 q9] (.Name f2 q10) q11] scope) (NS : NdefX.NScope ([slfX, f1, f2] ++ [clsX]) [slfX, f1, f2] [clsX] scope)
    (hks : scope.names.lookup ("super" : Str) = some .globalImplicit) (hp : (params.posonlyargs ++ params.args).head? = some ar) (hp2 : ar.arg = "self") (hm : m.length ≤ 1000) (h1 : PySem.W.findIn K (.ref C) f1 = some none) (h2 : PySem.W.findIn K (.ref C) f2 = some none)
    (hd1 : (f1 == ("__debug__" : Str)) = false := by decide) (hc1 : (f1 == ("__classdict__" : Str)) = false := by decide) (hd2 : (f2 == ("__debug__" : Str)) = false := by decide) (hc2 : (f2 == ("__classdict__" : Str)) = false := by decide)
    (hst : ∀ env : PySem.Env, env.scope = scope → starEach [.BinOp (.Constant (.str m) j q1) .Add (.Name f1 q2) q3] env = [(false, eval (.BinOp (.Constant (.str m) j q1) .Add (.Name f1 q2) q3) env)] := by intro env _; rfl)
    (hsw : ∀ env : PySem.Env, env.scope = scope → swapsWith (.Call (.Attribute (.Call (.Name "super" p0) [] [] p1) "__init__" p2) [.BinOp (.Constant (.str m) j q1) .Add (.Name f1 q2) q3] [] p3) none p4.line env = pure false := by intro env _; rfl)
    (he : ∀ env : PySem.Env, env.scope = scope → eval (.Call (.Attribute (.Call (.Name "super" p0) [] [] p1) "__init__" p2) [.BinOp (.Constant (.str m) j q1) .Add (.Name f1 q2) q3] [] p3) env = (do
      let ov ← attributeBase (.Call (.Name "super" p0) [] [] p1) "__init__" env (eval (.Call (.Name "super" p0) [] [] p1) env)
      standAt p2.atName
      let (f, first) ← holding [ov] (getMethod ov "__init__" pl)
      callWith p3 f first (backTo p3 (starEach [.BinOp (.Constant (.str m) j q1) .Add (.Name f1 q2) q3] env)) []) := by intro env _; rfl)
    (hw1 : ∀ env : PySem.Env, env.scope = scope → swapsWith (.Name f1 q6) (some (.Attribute (.Name "self" q4) f1 q5)) q7.line env = pure false := by intro env _; rfl)
    (hw2 : ∀ env : PySem.Env, env.scope = scope → swapsWith (.Name f2 q10) (some (.Attribute (.Name "self" q8) f2 q9)) q11.line env = pure false := by intro env _; rfl) :
    FnOk P w K mg base (L2.CX P w) 1 f fd [slfX, f1, f2] (spX2 C f1 f2) := by
  refine fn_sup S NS hks hp (by rw [hp2]; rfl) (fun vs H Q E h => by obtain ⟨_, _, _, rfl, _⟩ := h; rfl) hst (fun env h => by simp [interactive, h, NS.kind]) hsw he fun X vs H Q E hsc hN hK hsp => ?_
  subst hK
  obtain ⟨a, y1, y2, rfl, hl, ha, hq⟩ := hsp
  have v0 : Vis X.env.scope "self" := kind_par NS (by simp) hsc
  have v1 : Vis X.env.scope f1 := kind_par NS (by simp) hsc
  have v2 : Vis X.env.scope f2 := kind_par NS (by simp) hsc
  have n0 : X.N[0]? = some slfX := by rw [hN]; rfl
  have n1 : X.N[1]? = some f1 := by rw [hN]; rfl
  have n2 : X.N[2]? = some f2 := by rw [hN]; rfl
  refine ⟨a, _, _, rfl, ha, pa_cons (pe_op op_add_str pe_str (pe_var (i := 1) n1 v1 hd1 hc1)) pa_nil (hst _ hsc), pss_cons (ps_ost (pe_var (i := 0) n0 v0) (pe_var (i := 1) n1 v1 hd1 hc1) (hw1 _ hsc)) (pss_one (ps_ost (pe_var (i := 0) n0 v0) (pe_var (i := 2) n2 v2 hd2 hc2) (hw2 _ hsc))), ?_⟩
  have T := S.T
  refine ⟨.str y1, rfl, m, y1, rfl, rfl, by rw [sizeLine_eq]; omega, by simp, ha, ?_⟩
  refine ⟨.str y1, rfl, .ref a, rfl, a, C, rfl, T, h1, .inl ⟨ha, fun dx hn hne => ?_⟩⟩
  refine ⟨y2, rfl, .ref a, rfl, a, C, rfl, T, h2, .inr ⟨dx, [(f1, .str y1)], upd_same, by rw [upd_ne hne, upd_same], by simp, hq dx hn hne⟩⟩
theorem fn_sup1 {f1 m : Str} {j : Nat} {p0 p1 p2 p3 p4 q1 q4 q5 q6 q7 : Pos} {pl : Sem Bool} {ar : Arg}
    (S : SupK P K mg C f cc cda fd x qual params [.Expr (.Call (.Attribute (.Call (.Name "super" p0) [] [] p1) "__init__" p2) [.Constant (.str m) j q1] [] p3) p4,
      .Assign [.Attribute (.Name "self" q4) f1 q5] (.Name f1 q6) q7] scope) (NS : NdefX.NScope ([slfX, f1] ++ [clsX]) [slfX, f1] [clsX] scope)
    (hks : scope.names.lookup ("super" : Str) = some .globalImplicit) (hp : (params.posonlyargs ++ params.args).head? = some ar) (hp2 : ar.arg = "self") (h1 : PySem.W.findIn K (.ref C) f1 = some none)
    (hd1 : (f1 == ("__debug__" : Str)) = false := by decide) (hc1 : (f1 == ("__classdict__" : Str)) = false := by decide)
    (hst : ∀ env : PySem.Env, env.scope = scope → starEach [.Constant (.str m) j q1] env = [(false, eval (.Constant (.str m) j q1) env)] := by intro env _; rfl)
    (hsw : ∀ env : PySem.Env, env.scope = scope → swapsWith (.Call (.Attribute (.Call (.Name "super" p0) [] [] p1) "__init__" p2) [.Constant (.str m) j q1] [] p3) none p4.line env = pure false := by intro env _; rfl)
    (he : ∀ env : PySem.Env, env.scope = scope → eval (.Call (.Attribute (.Call (.Name "super" p0) [] [] p1) "__init__" p2) [.Constant (.str m) j q1] [] p3) env = (do
      let ov ← attributeBase (.Call (.Name "super" p0) [] [] p1) "__init__" env (eval (.Call (.Name "super" p0) [] [] p1) env)
      standAt p2.atName
      let (f, first) ← holding [ov] (getMethod ov "__init__" pl)
      callWith p3 f first (backTo p3 (starEach [.Constant (.str m) j q1] env)) []) := by intro env _; rfl)
    (hw1 : ∀ env : PySem.Env, env.scope = scope → swapsWith (.Name f1 q6) (some (.Attribute (.Name "self" q4) f1 q5)) q7.line env = pure false := by intro env _; rfl) :
    FnOk P w K mg base (L2.CX P w) 1 f fd [slfX, f1] (spX1 C f1) := by
  refine fn_sup S NS hks hp (by rw [hp2]; rfl) (fun vs H Q E h => by obtain ⟨_, _, rfl, _⟩ := h; rfl) hst (fun env h => by simp [interactive, h, NS.kind]) hsw he fun X vs H Q E hsc hN hK hsp => ?_
  subst hK
  obtain ⟨a, y1, rfl, ha, hq⟩ := hsp
  have v0 : Vis X.env.scope "self" := kind_par NS (by simp) hsc
  have v1 : Vis X.env.scope f1 := kind_par NS (by simp) hsc
  have n0 : X.N[0]? = some slfX := by rw [hN]; rfl
  have n1 : X.N[1]? = some f1 := by rw [hN]; rfl
  refine ⟨a, _, _, rfl, ha, pa_cons pe_str pa_nil (hst _ hsc), pss_one (ps_ost (pe_var (i := 0) n0 v0) (pe_var (i := 1) n1 v1 hd1 hc1) (hw1 _ hsc)), ?_⟩
  refine ⟨by simp, ha, ?_⟩
  exact ⟨y1, rfl, .ref a, rfl, a, C, rfl, S.T, h1, .inl ⟨ha, fun dx hn hne => hq dx hn hne⟩⟩
end
end FR

set_option Elab.async false
set_option linter.all false
set_option maxRecDepth 100000
set_option maxHeartbeats 1000000
namespace FR
open PySem PySem.Spec PyProof.Rows L2
/-! ### raise C(e, ..) of an own class with such an __init__ -/
structure Rz2 (P : Program) (w : World) (K : PySem.W.Frag) (mg : Str → Option Value) (base : Heap) (c : Cn) (f1 f2 : Fld) : Prop where
  ex : ∃ fd, OexC K (c.a K) ∧ PySem.W.findIn K (.ref (c.a K)) "__init__" = some (some (.ref (aM c "__init__" K))) ∧ PySem.W.typeIn K (.ref (aM c "__init__" K)) = some (.type "function") ∧ Binds K fd [slfX, f1.x, f2.x] [] ∧
    FnOk P w K mg base (L2.CX P w) 1 (aM c "__init__" K) fd [slfX, f1.x, f2.x] (spX2 (c.a K) f1.x f2.x)
  gl : mg c.x = some (.ref (c.a K))
structure Rz1 (P : Program) (w : World) (K : PySem.W.Frag) (mg : Str → Option Value) (base : Heap) (c : Cn) (f1 : Fld) : Prop where
  ex : ∃ fd, OexC K (c.a K) ∧ PySem.W.findIn K (.ref (c.a K)) "__init__" = some (some (.ref (aM c "__init__" K))) ∧ PySem.W.typeIn K (.ref (aM c "__init__" K)) = some (.type "function") ∧ Binds K fd [slfX, f1.x] [] ∧
    FnOk P w K mg base (L2.CX P w) 1 (aM c "__init__" K) fd [slfX, f1.x] (spX1 (c.a K) f1.x)
  gl : mg c.x = some (.ref (c.a K))
section
variable {P : Program} {w : World} {K : PySem.W.Frag} {mg : Str → Option Value} {base : Heap} {c : Cn} {f1 f2 : Fld} {d : DefX}
theorem binds_sup {fd : FuncData} {ps : List Str} (S : SupOk P K mg c d fd) (hb : ∀ (kV doc pm : Value) (an : Option Addr) (cda cc : Addr) (ct : Value) (us : List Value), us.length = ps.length → bindArgs (PySem.W.fnX d.name d.qual d.params d.body d.scope [(clsX, cc)] .none kV doc pm an (.ref cda) ct) ⟨us, []⟩ = pure (ps.zip us)) : Binds K fd ps [] := by
  obtain ⟨cc, cda, s⟩ := S.s
  obtain ⟨oc, od, osl, dV, kV, doc, pm, an, ct, rfl, lk⟩ := s.fn
  have hd : dV = .none := S.dn
  subst hd
  exact .all (hb kV doc pm an cda cc ct)
theorem rz2_mk (e : fnX K (d.ad K) = d.val) (ok : d.ok K = true) (b : supB P c K = true) (hms : mg "super" = none) (hgl : mg c.x = some (.ref (c.a K))) (hcl : d.clo = [clsX]) (had : d.ad K = aM c "__init__" K) (hdf : d.dfl = [])
    (hb : ∀ (kV doc pm : Value) (an : Option Addr) (cda cc : Addr) (ct : Value) (us : List Value), us.length = 3 → bindArgs (PySem.W.fnX d.name d.qual d.params d.body d.scope [(clsX, cc)] .none kV doc pm an (.ref cda) ct) ⟨us, []⟩ = pure ([slfX, f1.x, f2.x].zip us))
    (hf : ∀ (fd : FuncData) (cc cda : Addr), SupK P K mg (c.a K) (aM c "__init__" K) cc cda fd d.name d.qual d.params d.body d.scope → FnOk P w K mg base (L2.CX P w) 1 (aM c "__init__" K) fd [slfX, f1.x, f2.x] (spX2 (c.a K) f1.x f2.x)) : Rz2 P w K mg base c f1 f2 := by
  obtain ⟨fd, S⟩ := sup_ok e ok b hms hcl had hdf
  obtain ⟨cc, cda, s⟩ := S.s
  exact ⟨⟨fd, s.T, S.ini, S.ty, binds_sup S hb, hf fd cc cda s⟩, hgl⟩
theorem rz1_mk (e : fnX K (d.ad K) = d.val) (ok : d.ok K = true) (b : supB P c K = true) (hms : mg "super" = none) (hgl : mg c.x = some (.ref (c.a K))) (hcl : d.clo = [clsX]) (had : d.ad K = aM c "__init__" K) (hdf : d.dfl = [])
    (hb : ∀ (kV doc pm : Value) (an : Option Addr) (cda cc : Addr) (ct : Value) (us : List Value), us.length = 2 → bindArgs (PySem.W.fnX d.name d.qual d.params d.body d.scope [(clsX, cc)] .none kV doc pm an (.ref cda) ct) ⟨us, []⟩ = pure ([slfX, f1.x].zip us))
    (hf : ∀ (fd : FuncData) (cc cda : Addr), SupK P K mg (c.a K) (aM c "__init__" K) cc cda fd d.name d.qual d.params d.body d.scope → FnOk P w K mg base (L2.CX P w) 1 (aM c "__init__" K) fd [slfX, f1.x] (spX1 (c.a K) f1.x)) : Rz1 P w K mg base c f1 := by
  obtain ⟨fd, S⟩ := sup_ok e ok b hms hcl had hdf
  obtain ⟨cc, cda, s⟩ := S.s
  exact ⟨⟨fd, s.T, S.ini, S.ty, binds_sup S hb, hf fd cc cda s⟩, hgl⟩
end
def sRaise2 (c : Cn) (f1 f2 : Fld) (fa : FA) : FC := fun ρ S => (fa ρ S).toS ρ fun l S1 => match l with
  | [.p (.str x), .p q] => if x.length ≤ 1000 then .exc (.mk c [(f2, q), (f1, .str x)]) ρ S1 else .stuck
  | _ => .stuck
def sRaise1 (c : Cn) (f1 : Fld) (fa : FA) : FC := fun ρ S => (fa ρ S).toS ρ fun l S1 => match l with
  | [.p q] => .exc (.mk c [(f1, q)]) ρ S1
  | _ => .stuck
section
variable {X : Cx} {W : WX} {e e2 : Expr} {es : List Expr} {pos : Pos}
theorem upd_xd {H1 : Hp} {a dx : Addr} {o1 o2 o3 o4 o5 : HO} (ha : H1 a = none) (hne : dx ≠ a) : upd (del (upd (upd (upd (upd H1 a o1) dx o2) a o3) dx o4) a) dx o5 = upd H1 dx o5 := by
  funext b
  by_cases h : b = dx
  · subst h; rw [upd_same, upd_same]
  · rw [upd_ne h, upd_ne h]
    by_cases h2 : b = a
    · subst h2; rw [del_same, ha]
    · rw [del_ne h2, upd_ne h, upd_ne h2, upd_ne h, upd_ne h2]
theorem upd_xd1 {H1 : Hp} {a dx : Addr} {o1 o2 o3 o5 : HO} (ha : H1 a = none) (hne : dx ≠ a) : upd (del (upd (upd (upd H1 a o1) dx o2) a o3) a) dx o5 = upd H1 dx o5 := by
  funext b
  by_cases h : b = dx
  · subst h; rw [upd_same, upd_same]
  · rw [upd_ne h, upd_ne h]
    by_cases h2 : b = a
    · subst h2; rw [del_same, ha]
    · rw [del_ne h2, upd_ne h2, upd_ne h, upd_ne h2]
theorem ss_raise2 {c : Cn} {f1 f2 : Fld} {fa : FA} {p p3 : Pos} (R : Rz2 X.prog X.w X.K X.mg X.base c f1 f2) (hc : X.calm = true) (tk : Takes X W) (hr : Room 2 X.A) (ha : SA X W [e, e2] fa) (hg : Gl X c.x := by rfl) (hdb : (c.x == ("__debug__" : Str)) = false := by decide)
    (he : starEach [e, e2] X.env = (false, eval e X.env) :: starEach [e2] X.env := by rfl) (hpl : (backTo p3 (starEach [e2] X.env)).any (·.1) = false := by rfl) : SS X W (.Raise (some (.Call (.Name c.x p) [e, e2] [] p3)) none pos) (sRaise2 c f1 f2 fa) := by
  obtain ⟨fd, T, iC, tI, hb, F⟩ := R.ex
  refine (ps_raise hc tk (pmk_oex T iC tI F hr hb .nil passL hg R.gl ha hdb he hpl)).imp fun D σ H ⟨w, ρ, S, a, h⟩ => tS_tA a h fun w1 H1 S1 l vs st a1 r h1 => ?_
  split at h1
  · rename_i x q
    split at h1
    · rename_i hx
      obtain ⟨v1, v2, rfl, r1, r2⟩ := reps_two r
      obtain rfl := rep_str r1
      refine ⟨by simp, fun a' ha' => ⟨a', x, v2, rfl, hx, upd_same, fun dx hn hne => ?_⟩⟩
      have hn1 : H1 dx = none := by rwa [upd_ne hne] at hn
      refine ⟨rfl, dx, [(f2.x, v2), (f1.x, .str x)], by rw [upd_ne (Ne.symm hne), upd_same], upd_same, hn1, ?_⟩
      rw [upd_xd ha' hne]
      obtain ⟨st2, sr2⟩ := lay_pure (o := .xd [(f2.x, v2), (f1.x, .str x)]) a1.st hn1
      exact h1 w1 _ σ _ _ st2 sr2 (a1.sl.step a1.ok st2) ⟨rfl, .inr ⟨dx, _, rfl, upd_same, nL_of a1.st hn1, .cons (Rep.step a1.ok st2 r2) (.cons (.str x) .nil)⟩⟩
    · exact h1.elim
  · exact h1.elim
theorem ss_raise1 {c : Cn} {f1 : Fld} {fa : FA} {p p3 : Pos} (R : Rz1 X.prog X.w X.K X.mg X.base c f1) (hc : X.calm = true) (tk : Takes X W) (hr : Room 2 X.A) (ha : SA X W [e] fa) (hg : Gl X c.x := by rfl) (hdb : (c.x == ("__debug__" : Str)) = false := by decide)
    (he : starEach [e] X.env = (false, eval e X.env) :: starEach [] X.env := by rfl) (hpl : (backTo p3 (starEach [] X.env)).any (·.1) = false := by rfl) : SS X W (.Raise (some (.Call (.Name c.x p) [e] [] p3)) none pos) (sRaise1 c f1 fa) := by
  obtain ⟨fd, T, iC, tI, hb, F⟩ := R.ex
  refine (ps_raise hc tk (pmk_oex T iC tI F hr hb .nil passL hg R.gl ha hdb he hpl)).imp fun D σ H ⟨w, ρ, S, a, h⟩ => tS_tA a h fun w1 H1 S1 l vs st a1 r h1 => ?_
  split at h1
  · rename_i q
    obtain ⟨v2, rfl, r2⟩ := reps_one r
    refine ⟨by simp, fun a' ha' => ⟨a', v2, rfl, upd_same, fun dx hn hne => ?_⟩⟩
    have hn1 : H1 dx = none := by rwa [upd_ne hne] at hn
    refine ⟨rfl, dx, [(f1.x, v2)], upd_same, by rw [upd_ne hne, upd_same], hn1, ?_⟩
    rw [upd_xd1 ha' hne]
    obtain ⟨st2, sr2⟩ := lay_pure (o := .xd [(f1.x, v2)]) a1.st hn1
    exact h1 w1 _ σ _ _ st2 sr2 (a1.sl.step a1.ok st2) ⟨rfl, .inr ⟨dx, _, rfl, upd_same, nL_of a1.st hn1, .cons (Rep.step a1.ok st2 r2) .nil⟩⟩
  · exact h1.elim
end
end FR

set_option Elab.async false
set_option linter.all false
set_option maxRecDepth 100000
set_option maxHeartbeats 1000000
namespace FR
open PySem PySem.Spec PyProof.Rows L2
namespace CLow
open PySem.W
section
variable {prog : Program} {w : World} {A : Around} {E : Value → Shared → Prop} {s : Shared} {K : Frag} {x C L f : Addr} {h₀ : Heap} {m : Str → Option Value} {ox : Obj} {od : Option Obj} {b tb : Value}
/-- a built-in special method of an instance -/
theorem ifBound_B {M : Model} {args : List Value} {Q : Option Value → Shared → Prop} {name : Str} {id T : String} {n : Str} (X : K.In s.heap) (I : InstAt s.heap x ox C od) (hs : findIn K (.ref C) name = some (some (.builtin id))) (sl : Slot T n id)
    (h : wpAny M A (call (.builtin id) (.ref x :: args)) (fun v => Q (some v)) E s) : wpAny M A (callSpecialIfBound? (.ref x) name args) Q E s := by
  simp only [callSpecialIfBound?, bindSpecialIfBound?]
  refine wpAny_holding (wpAny_bind (wpAny_bind (wpAny_bind (I.type.here ((looks_findIn X hs).here ?_)))))
  refine wpAny_bind (wpAny_askSetting (wpAny_ite ?_))
  have fin : wpAny M A (call (.builtin id) ([.ref x] ++ args) >>= fun v => pure (some v)) Q E s := wpAny_bind (wpAny_mono h (fun v s' h' => wpAny_pure h') fun _ _ h' => h')
  split
  · exact wpAny_bind (wpAny_of_eq (sl.bind _) (wpAny_pure (by exact fin)))
  · exact wpAny_tryCatch (wpAny_bind (wpAny_of_eq (sl.bind _) (wpAny_pure (by exact fin))))
theorem ne_entry {Q : Fin → Shared → Prop} (hu : A.units < cLine) (X : K.In s.heap) (I : InstAt s.heap x ox C od) (hs : findIn K (.ref C) "__eq__" = some (some (.ref f))) (hf : isFn K (.ref f) = true)
    (h : wpAny (model prog w) A (call (.ref f) [.ref x, b]) (fun v s' => ∃ k, v = .bool k ∧ Q (.done (.ret (.bool (!k)))) s') E s) : wpAny (model prog w) A (Builtin.«object.__ne__» ⟨[.ref x, b], []⟩) Q E s := by
  unfold Builtin.«object.__ne__»
  refine wpAny_bind (wpAny_of_eq (a := ((Value.ref x : Value), [b])) (by first | rfl | (simp only [slotArgs]; rfl)) ?_)
  refine wpAny_bind (wpAny_cRoomFor hu ?_)
  refine wpAny_bind (ifBound_K X I hs hf (wpAny_mono h (fun v s' hv => ?_) fun _ _ e => e))
  obtain ⟨k, rfl, hq⟩ := hv
  refine wpAny_bind (m := truthy (.bool k)) (wpAny_truthy_bool ?_)
  exact wpAny_pure hq
theorem cmp_ne {Q : Value → Shared → Prop} (hu : A.units + 1 < cLine) (F : Fr h₀ L s.heap m) (X₀ : K.In h₀) (I : InstAt s.heap x ox C od) (hb : Looks (model prog w) s.heap (typeOf b) tb) (hn : notFirst K C tb = true)
    (hne : findIn K (.ref C) "__ne__" = some (some (.builtin "object.__ne__"))) (hs : findIn K (.ref C) "__eq__" = some (some (.ref f))) (hf : isFn K (.ref f) = true) (hm : mroIn K C (.type "object") = some true)
    (h : wpAny (model prog w) A.in1 (call (.ref f) [.ref x, b]) (fun v s' => ∃ k, v = .bool k ∧ Q (.bool (!k)) s') E s) : wpAny (model prog w) A (compareOp .NotEq (.ref x) b) Q E s := by
  have X := X₀.keeps F.keep
  have sub : Looks (model prog w) s.heap (isInstance (.ref x) (.type "object")) true := I.type.andThen (looks_mroIn X hm)
  have one : wpAny (model prog w) A (tryCompare (.ref x) "__ne__" b) (fun r s' => ∃ v, r = some v ∧ Q v s') E s := by
    unfold tryCompare
    refine wpAny_bind (ifBound_B X I hne PySem.F.cmp_object.ne (wpAny_call (codeAny_call_builtin PySem.F.cmp_object.ne.plain PySem.F.cmpEntry_ne ?_)))
    refine check_slot PySem.F.cmpKind_ne PySem.F.cmpSplit_ne sub (PySem.F.cmpArgs_ne _ _) ?_
    refine ne_entry (A := A.in1) hu X I hs hf (wpAny_mono h (fun v s' hv => ?_) fun _ _ e => e)
    obtain ⟨k, rfl, hq⟩ := hv
    first | exact ⟨k, rfl, wpAny_pure ⟨_, rfl, hq⟩⟩ | exact ⟨k, rfl, wpAny_pure (wpAny_pure ⟨_, rfl, hq⟩)⟩
  show wpAny _ _ (richCompare .NotEq (.ref x) b) _ _ _
  unfold richCompare
  simp only [oneThing_ref]
  refine wpAny_holding (wpAny_bind (wpAny_cRoomFor (Nat.lt_of_succ_lt hu) ?_))
  refine wpAny_bind (I.type.here (wpAny_bind (hb.here ?_)))
  split
  · rename_i q
    have e : subIn K tb (.ref C) = some false := by
      rcases Bool.or_eq_true_iff.mp hn with e | e
      · rw [beq_iff_eq.mp e] at q; simp at q
      · exact beq_iff_eq.mp e
    refine wpAny_bind ((looks_subIn X e).here ?_)
    simp only [Bool.false_eq_true, if_false]
    refine wpAny_bind (wpAny_mono one (fun r s' z => ?_) fun _ _ e => e)
    obtain ⟨v, rfl, hq⟩ := z
    exact wpAny_pure hq
  · refine wpAny_bind (wpAny_pure ?_)
    simp only [Bool.false_eq_true, if_false]
    refine wpAny_bind (wpAny_mono one (fun r s' z => ?_) fun _ _ e => e)
    obtain ⟨v, rfl, hq⟩ := z
    exact wpAny_pure hq
/-- int op instance: the instance's other method -/
theorem rcmp {op : CmpOp} {i : Int} {t : Tok} {id : String} {Q : Value → Shared → Prop} (hu : A.units < cLine) (F : Fr h₀ L s.heap m) (X₀ : K.In h₀) (I : InstAt s.heap x ox C od) (hsub : subIn K (.ref C) (.type "int") = some false)
    (slot : Slot "int" (cmpInfo op).2.1 id) (ni : ∀ Q' : Value → Shared → Prop, Q' .notImplemented s → wpAny (model prog w) A (call (.builtin id) [.int i t, .ref x]) Q' E s)
    (hs : findIn K (.ref C) (cmpInfo op).2.2 = some (some (.ref f))) (hf : isFn K (.ref f) = true) (hone : oneThing? op (.int i t) (.ref x) = none)
    (h : wpAny (model prog w) A (call (.ref f) [.ref x, .int i t]) (PySem.W.CmpBack Q) E s) : wpAny (model prog w) A (richCompare op (.int i t) (.ref x)) Q E s := by
  have X := X₀.keeps F.keep
  have one : wpAny (model prog w) A (tryCompare (.ref x) (cmpInfo op).2.2 (.int i t)) (fun r s' => ∃ v, r = some v ∧ Q v s') E s := by
    unfold tryCompare
    refine wpAny_bind (ifBound_K X I hs hf (wpAny_mono h (fun v s' hv => ?_) fun _ _ e => e))
    cases v <;> first | exact hv.elim | exact wpAny_pure ⟨_, rfl, hv⟩
  have none' : ∀ Q' : Option Value → Shared → Prop, Q' none s → wpAny (model prog w) A (tryCompare (.int i t) (cmpInfo op).2.1 (.ref x)) Q' E s := fun Q' q => Low.cmp_ni slot ni q
  have L2 : Looks (model prog w) s.heap (typeOf (.int i t)) (.type "int") := Looks.of_pure rfl
  have hne : (Value.type "int" != Value.ref C) = true := by simp
  unfold richCompare
  simp only [hone]
  refine wpAny_holding (wpAny_bind (wpAny_cRoomFor hu ?_))
  refine wpAny_bind (L2.here (wpAny_bind (I.type.here ?_)))
  simp only [hne, if_true]
  refine wpAny_bind ((looks_subIn X hsub).here ?_)
  simp only [Bool.false_eq_true, if_false]
  refine wpAny_bind (none' _ ?_)
  simp only [Bool.not_false, if_true]
  refine wpAny_bind (wpAny_mono one (fun r s' z => ?_) fun _ _ e => e)
  obtain ⟨v, rfl, hq⟩ := z
  exact wpAny_pure hq
end
end CLow
/-! ### comparisons by an own method -/
def cmpTys : List String := ["int", "bool", "str", "NoneType", "tuple", "list"]
structure CmpOk (K : PySem.W.Frag) (c : Cn) (nm : Str) (f : Addr) : Prop where
  hs : PySem.W.findIn K (.ref (c.a K)) nm = some (some (.ref f))
  hf : PySem.W.isFn K (.ref f) = true
  ty : ∀ T ∈ cmpTys, PySem.W.notFirst K (c.a K) (.type T) = true
def cmpB (c : Cn) (nm : Str) (K : PySem.W.Frag) : Bool := optO (PySem.W.findIn K (.ref (c.a K)) nm) (.ref (aM c nm K)) && (PySem.W.isFn K (.ref (aM c nm K)) && cmpTys.all fun T => PySem.W.notFirst K (c.a K) (.type T))
theorem Zs.cmp {fx : List Fx} {fn : List DefX} {K : PySem.W.Frag} {mg : Str → Option Value} (z : Zs fx fn K mg) (i : Nat) {c : Cn} {nm : Str} (h : fx[i]? = some (.gen (cmpB c nm)) := by rfl) : CmpOk K c nm (aM c nm K) := by
  obtain ⟨h1, e⟩ := b2 (z.gen i h)
  obtain ⟨h2, h3⟩ := b2 e
  exact ⟨optO_ok h1, h2, fun T hT => List.all_eq_true.mp h3 T hT⟩
def tyT : P → Option String
  | .int _ => some "int"
  | .bl _ => some "bool"
  | .str _ => some "str"
  | .non => some "NoneType"
  | .tup _ => some "tuple"
  | .lst _ => some "list"
  | _ => none
theorem tyT_mem {p : P} {T : String} (h : tyT p = some T) : T ∈ cmpTys := by
  cases p <;> simp [tyT] at h <;> subst h <;> simp [cmpTys]
def othT (d : D) : Bool := match d with
  | .p q => (tyT q).isSome
  | _ => false
section
variable {X : Cx} {W : WX} {e : Expr} {es : List Expr} {pos : Pos}
theorem ty_of {pins : List (Addr × Obj)} {σ : L2.St} {H : Hp} {s : Shared} {L : Addr → Prop} {v : V} {u : Value} {q : P} {T : String} (I : Inv X pins σ H s) (r : Rep X.K L H v q) (ru : RelV v u) (h : tyT q = some T) : PySem.W.Looks (model X.prog X.w) s.heap (typeOf u) (.type T) := by
  cases r with
  | non => cases h; cases (show u = Value.none from ru); exact .of_pure rfl
  | bl b => cases h; cases (show u = Value.bool b from ru); exact .of_pure rfl
  | int b => cases h; obtain ⟨t, rfl⟩ := (show ∃ t, u = Value.int b t from ru); exact .of_pure rfl
  | str b => cases h; obtain ⟨t, rfl⟩ := (show ∃ t, u = Value.str b t from ru); exact .of_pure rfl
  | ty b => cases h
  | nm b => cases h
  | tup hh rr =>
    cases h
    obtain ⟨its, rv, ⟨o, h1, h2, h3⟩, hz⟩ := I.tuple hh
    cases (show u = Value.ref _ from ru)
    exact fun A Q E s k q => wpAny_typeOf_ref (k _ _ h1) (by rw [h2]; exact q)
  | lst hh rr =>
    cases h
    obtain ⟨its, n, c1, c2, c3⟩ := lst_obj I hh
    cases (show u = Value.ref _ from ru)
    exact fun A Q E s k q => wpAny_typeOf_ref (k _ _ c3) q
  | scr hh rr => cases h
  | obj hh hl rr => cases h
/-- the right side's type comes not first -/
theorem oth_of {pins : List (Addr × Obj)} {σ : L2.St} {H : Hp} {s : Shared} {w : Wd} {S : Store} {v : V} {u : Value} {d : D} {c : Cn} (I : Inv X pins σ H s) (sr : SRep X.K w H S) (r : DRep X.K w H v d) (ru : RelV v u) (ty : ∀ T ∈ cmpTys, PySem.W.notFirst X.K (c.a X.K) (.type T) = true) (h : isIns c d S = true ∨ othT d = true) :
    ∃ tb, PySem.W.Looks (model X.prog X.w) s.heap (typeOf u) tb ∧ PySem.W.notFirst X.K (c.a X.K) tb = true := by
  rcases h with h | h
  · obtain ⟨a2, d2, f2, rfl, h2, _⟩ := ins_at sr r h
    obtain rfl : u = Value.ref a2 := ru
    obtain ⟨od2, J2⟩ := inst_of I h2
    exact ⟨_, J2.type, by unfold PySem.W.notFirst; simp⟩
  · cases d with
    | r n => cases h
    | p q =>
      obtain ⟨T, hT⟩ := Option.isSome_iff_exists.mp (show (tyT q).isSome = true from h)
      exact ⟨_, ty_of I r ru hT, ty T (tyT_mem hT)⟩
def gCmp (c : Cn) (m : Mode) (F : Fn) : D → D → Store → R D := fun x y S => if isIns c x S = true ∧ (isIns c y S = true ∨ othT y = true) then callN m 2 F [] [x, y] S else .stuck
theorem o_cmp {op : CmpOp} {c : Cn} {f : Addr} {k : Nat} {F : Fn} (m : Mode) (hop : ∀ a b, compareOp op a b = richCompare op a b) (B : CmpOk X.K c (cmpInfo op).2.1 f) (C : XDef X f k 2 [] F) (tk : Takes X W) (hr : Room k X.A) : OpF X W (compareOp op) (gCmp c m F) := by
  intro pins s σ H w ρ S x y dx dy v u Q I a r1 r2 rx ry q
  unfold gCmp at q
  split at q
  · rename_i hc
    obtain ⟨a1, d1, f1, rfl, h1, _⟩ := ins_at a.st r1 hc.1
    obtain rfl : v = Value.ref a1 := rx
    obtain ⟨od, J⟩ := inst_of I h1
    obtain ⟨mm, hF⟩ := I.fr
    obtain ⟨tb, l1, l2⟩ := oth_of I a.st r2 ry B.ty hc.2
    have run := wpAny_mono (go_call' (us := [Value.ref a1, u]) (vs := [V.ref a1, y]) m C tk hr I (.cons rfl (.cons ry .nil)) a.st (.cons r1 (.cons r2 .nil)) q) (fun v s' z => ep_back z) (fun _ _ z => z)
    rw [hop]
    exact PySem.W.cmp_K hr.units0 hF I.ok.mod.kin J l1 l2 B.hs B.hf run
  · exact q.elim
/-- int op instance: the other method -/
def gCmpR (c : Cn) (m : Mode) (F : Fn) : D → D → Store → R D := fun x y S => if isInt x = true ∧ isIns c y S = true then callN m 2 F [] [y, x] S else .stuck
structure CmpROk (K : PySem.W.Frag) (c : Cn) (nm : Str) (f : Addr) : Prop where
  hs : PySem.W.findIn K (.ref (c.a K)) nm = some (some (.ref f))
  hf : PySem.W.isFn K (.ref f) = true
  sub : PySem.W.subIn K (.ref (c.a K)) (.type "int") = some false
def cmpRB (c : Cn) (nm : Str) (K : PySem.W.Frag) : Bool := optO (PySem.W.findIn K (.ref (c.a K)) nm) (.ref (aM c nm K)) && (PySem.W.isFn K (.ref (aM c nm K)) && decide (PySem.W.subIn K (.ref (c.a K)) (.type "int") = some false))
theorem Zs.cmpR {fx : List Fx} {fn : List DefX} {K : PySem.W.Frag} {mg : Str → Option Value} (z : Zs fx fn K mg) (i : Nat) {c : Cn} {nm : Str} (h : fx[i]? = some (.gen (cmpRB c nm)) := by rfl) : CmpROk K c nm (aM c nm K) := by
  obtain ⟨h1, e⟩ := b2 (z.gen i h)
  obtain ⟨h2, h3⟩ := b2 e
  exact ⟨optO_ok h1, h2, of_decide_eq_true h3⟩
def NiCmp (op : CmpOp) : Prop := ∃ id, Slot "int" (cmpInfo op).2.1 id ∧ (∀ a b, compareOp op a b = richCompare op a b) ∧ (∀ i t x, oneThing? op (.int i t) (.ref x) = none) ∧
  ∀ (pr : Program) (w : World) (A : Around) (E : Value → Shared → Prop) (s : Shared) (i : Int) (t : Tok) (x : Addr) (o : Obj) (Q : Value → Shared → Prop), s.heap.get? x = some o → o.data = .plain → Q .notImplemented s → wpAny (model pr w) A (call (.builtin id) [.int i t, .ref x]) Q E s
theorem nic_lt : NiCmp .Lt := ⟨_, F.slot_int_lt, fun _ _ => rfl, fun _ _ _ => rfl, fun _ _ _ _ _ _ _ _ _ _ h1 h2 h3 => Low.int_lt_ni h1 h2 h3⟩
theorem nic_le : NiCmp .LtE := ⟨_, F.slot_int_le, fun _ _ => rfl, fun _ _ _ => rfl, fun _ _ _ _ _ _ _ _ _ _ h1 h2 h3 => Low.int_le_ni h1 h2 h3⟩
theorem nic_gt : NiCmp .Gt := ⟨_, F.slot_int_gt, fun _ _ => rfl, fun _ _ _ => rfl, fun _ _ _ _ _ _ _ _ _ _ h1 h2 h3 => Low.int_gt_ni h1 h2 h3⟩
theorem nic_ge : NiCmp .GtE := ⟨_, F.slot_int_ge, fun _ _ => rfl, fun _ _ _ => rfl, fun _ _ _ _ _ _ _ _ _ _ h1 h2 h3 => Low.int_ge_ni h1 h2 h3⟩
theorem nic_eq : NiCmp .Eq := ⟨_, F.slot_int_eq, fun _ _ => rfl, fun _ _ _ => rfl, fun _ _ _ _ _ _ _ _ _ _ h1 h2 h3 => Low.int_eq_ni h1 h2 h3⟩
theorem o_cmpR {op : CmpOp} {c : Cn} {f : Addr} {k : Nat} {F : Fn} (m : Mode) (ni : NiCmp op) (B : CmpROk X.K c (cmpInfo op).2.2 f) (C : XDef X f k 2 [] F) (tk : Takes X W) (hr : Room k X.A) : OpF X W (compareOp op) (gCmpR c m F) := by
  intro pins s σ H w ρ S x y dx dy v u Q I a r1 r2 rx ry q
  unfold gCmpR at q
  split at q
  · rename_i hc
    obtain ⟨a2, d2, f2, rfl, h2, _⟩ := ins_at a.st r2 hc.2
    obtain rfl : u = Value.ref a2 := ry
    obtain ⟨od, J⟩ := inst_of I h2
    obtain ⟨id, slot, hop, hone, hni⟩ := ni
    obtain ⟨mm, hF⟩ := I.fr
    have run := wpAny_mono (go_call' (us := [Value.ref a2, v]) (vs := [V.ref a2, x]) m C tk hr I (.cons rfl (.cons rx .nil)) a.st (.cons r2 (.cons r1 .nil)) q) (fun v s' z => ep_back z) (fun _ _ z => z)
    cases dx with
    | r n => cases hc.1
    | p z =>
      cases z with
      | int j =>
        obtain rfl := rep_int r1
        obtain ⟨t, rfl⟩ := rx
        rw [hop]
        exact CLow.rcmp hr.units0 hF I.ok.mod.kin J B.sub slot (fun Q' q' => hni _ _ _ _ _ _ _ _ _ Q' J.1 rfl q') B.hs B.hf (hone _ _ _) run
      | _ => cases hc.1
  · exact q.elim
/-- != by an own __eq__ -/
structure NeOk (K : PySem.W.Frag) (c : Cn) (f : Addr) : Prop where
  eq : CmpOk K c "__eq__" f
  ne : PySem.W.findIn K (.ref (c.a K)) "__ne__" = some (some (.builtin "object.__ne__"))
  ob : PySem.W.mroIn K (c.a K) (.type "object") = some true
def neB (c : Cn) (K : PySem.W.Frag) : Bool := cmpB c "__eq__" K && (optO (PySem.W.findIn K (.ref (c.a K)) "__ne__") (.builtin "object.__ne__") && decide (PySem.W.mroIn K (c.a K) (.type "object") = some true))
theorem Zs.ne {fx : List Fx} {fn : List DefX} {K : PySem.W.Frag} {mg : Str → Option Value} (z : Zs fx fn K mg) (i : Nat) {c : Cn} (h : fx[i]? = some (.gen (neB c)) := by rfl) : NeOk K c (aM c "__eq__" K) := by
  obtain ⟨h0, e⟩ := b2 (z.gen i h)
  obtain ⟨h4, h5⟩ := b2 e
  obtain ⟨h1, e⟩ := b2 (show (optO (PySem.W.findIn K (.ref (c.a K)) "__eq__") (.ref (aM c "__eq__" K)) && (PySem.W.isFn K (.ref (aM c "__eq__" K)) && cmpTys.all fun T => PySem.W.notFirst K (c.a K) (.type T))) = true from h0)
  obtain ⟨h2, h3⟩ := b2 e
  exact ⟨⟨optO_ok h1, h2, fun T hT => List.all_eq_true.mp h3 T hT⟩, optO_ok h4, of_decide_eq_true h5⟩
def kNeB : R D → R D
  | .ok (.p (.bl k)) S => .ok (.p (.bl (!k))) S
  | _ => .stuck
def gCmpNe (c : Cn) (F : Fn) : D → D → Store → R D := fun x y S => if isIns c x S = true ∧ (isIns c y S = true ∨ othT y = true) then kNeB (callN .P 2 F [] [x, y] S) else .stuck
theorem o_cmpNe {c : Cn} {f : Addr} {k : Nat} {F : Fn} (B : NeOk X.K c f) (C : XDef X f k 2 [] F) (hr : Room (k + 1) X.A) : OpF X W (compareOp .NotEq) (gCmpNe c F) := by
  intro pins s σ H w ρ S x y dx dy v u Q I a r1 r2 rx ry q
  unfold gCmpNe at q
  split at q
  · rename_i hc
    obtain ⟨a1, d1, f1, rfl, h1, _⟩ := ins_at a.st r1 hc.1
    obtain rfl : v = Value.ref a1 := rx
    obtain ⟨od, J⟩ := inst_of I h1
    obtain ⟨mm, hF⟩ := I.fr
    obtain ⟨tb, l1, l2⟩ := oth_of I a.st r2 ry B.eq.ty hc.2
    refine CLow.cmp_ne (by have := hr.units; omega) hF I.ok.mod.kin J l1 l2 B.ne B.eq.hs B.eq.hf B.ob ?_
    have q' : oR X.K W σ w H (qE X.K fun v H' => ∃ k, v = .bl k ∧ Q (.bl (!k)) H') (noX (callN .P 2 F [] [dx, dy] S)) := by
      revert q
      cases callN .P 2 F [] [dx, dy] S with
      | ok d S' =>
        intro q w' H' st sr v' r'
        cases d with
        | r n => exact q.elim
        | p z =>
          cases z with
          | bl k => exact ⟨k, rep_bl r', q w' H' st sr _ (.bl _)⟩
          | _ => exact q.elim
      | exc x S' => exact fun q => q.elim
      | stuck => exact fun q => q.elim
    refine wpAny_mono (go_in1 (us := [Value.ref a1, u]) (vs := [V.ref a1, y]) (E' := X.xe) .P C hr I (.cons rfl (.cons ry .nil)) a.st (.cons r1 (.cons r2 .nil)) q') (fun v s' ⟨z, H', I', rz, k, ez, qz⟩ => ?_) fun _ _ z => z
    subst ez
    cases rz
    exact ⟨k, rfl, .bl (!k), H', I', rfl, qz⟩
  · exact q.elim
/-! ### truth -/
def truD : D → Store → Option Bool
  | .p .non, _ => some false
  | .p (.bl b), _ => some b
  | .p (.int i), _ => some (i != 0)
  | .p (.str x), _ => if x.length ≤ 1000000 then some ((x.length : Int) != 0) else none
  | .p (.tup l), _ => some (!l.isEmpty)
  | .p (.lst l), _ => some (!l.isEmpty)
  | .r n, S => (match S[n]? with
    | some (.lst l) => some (!l.isEmpty)
    | _ => none)
  | _, _ => none
def kTru : Option Bool → Store → R Bool
  | some b, S => .ok b S
  | none, _ => .stuck
def fTru (f : FE) : FT := fun ρ S => (f ρ S).bind fun d S1 => kTru (truD d S1) S1
theorem isE_reps {K : PySem.W.Frag} {L : Addr → Prop} {H : Hp} {vs : List V} {l : List P} (r : Reps K L H vs l) : (!l.isEmpty) = !vs.isEmpty := by cases r <;> rfl
theorem isE_dreps {K : PySem.W.Frag} {w : Wd} {H : Hp} {vs : List V} {l : List D} (r : DReps K w H vs l) : (!l.isEmpty) = !vs.isEmpty := by cases r <;> rfl
theorem tru_of {K : PySem.W.Frag} {w : Wd} {H : Hp} {S : Store} {v : V} {d : D} {b : Bool} (sr : SRep K w H S) (r : DRep K w H v d) (h : truD d S = some b) : TruV K v H b := by
  cases d with
  | p q =>
    cases r with
    | non => cases h; rfl
    | bl b => cases h; rfl
    | int b => cases h; rfl
    | str x =>
      have h : (if x.length ≤ 1000000 then some ((x.length : Int) != 0) else none) = some b := h
      split at h
      · cases h; exact ⟨line_le ‹_›, rfl⟩
      · cases h
    | ty b => cases h
    | nm b => cases h
    | tup hh rr => cases h; exact .inr (.inl ⟨_, hh, isE_reps rr⟩)
    | lst hh rr => cases h; exact .inl ⟨_, hh.sq, isE_reps rr⟩
    | scr hh rr => cases h
    | obj hh hl rr => cases h
  | r n =>
    have h : (match S[n]? with
      | some (.lst l) => some (!l.isEmpty)
      | _ => none) = some b := h
    split at h
    · rename_i l hS
      cases h
      obtain ⟨ad, vs, e1, e2, e3⟩ := sr.cell n _ hS
      rw [r.2 ad e1]
      exact .inl ⟨vs, .inl (.inl e2), isE_dreps e3⟩
    · cases h
theorem st_tru {f : FE} (h : SE X W e f) (he : ∀ whole, isTrue e X.env whole = (do let v ← whole; standAt e.pos; holding [v] (truthy v)) := by intro _; rfl) : ST X W e (fTru f) :=
  (pt_truth h he).imp fun σ H Q ⟨w, ρ, S, a, h⟩ => tE_of a (oR_bind a.ok h) fun w1 H1 S1 d v st a1 h1 r => by
    cases q : truD d S1 with
    | none => rw [q] at h1; exact h1.elim
    | some b =>
      rw [q] at h1
      exact ⟨b, tru_of a1.st r q, h1 w1 H1 (Step.refl _ _ a1.ok) a1.st⟩
/-- by an own __bool__ -/
structure BoolOk (K : PySem.W.Frag) (c : Cn) (f : Addr) : Prop where
  hs : PySem.W.findIn K (.ref (c.a K)) "__bool__" = some (some (.ref f))
  hf : PySem.W.isFn K (.ref f) = true
def boolB (c : Cn) (K : PySem.W.Frag) : Bool := optO (PySem.W.findIn K (.ref (c.a K)) "__bool__") (.ref (aM c "__bool__" K)) && PySem.W.isFn K (.ref (aM c "__bool__" K))
theorem Zs.bool {fx : List Fx} {fn : List DefX} {K : PySem.W.Frag} {mg : Str → Option Value} (z : Zs fx fn K mg) (i : Nat) {c : Cn} (h : fx[i]? = some (.gen (boolB c)) := by rfl) : BoolOk K c (aM c "__bool__" K) := by
  obtain ⟨h1, h2⟩ := b2 (z.gen i h)
  exact ⟨optO_ok h1, h2⟩
def kBl : R D → R Bool
  | .ok (.p (.bl k)) S => .ok k S
  | .exc x S => .exc x S
  | _ => .stuck
def fTruO (c : Cn) (m : Mode) (F : Fn) (f : FE) : FT := fun ρ S => (f ρ S).bind fun d S1 => if isIns c d S1 = true then kBl (callN m 1 F [] [d] S1) else .stuck
theorem oR_kBl {σ : L2.St} {w : Wd} {H : Hp} {Q : Bool → Hp → Prop} {r : R D} (h : oR X.K W σ w H (qT Q) (kBl r)) : oR X.K W σ w H (qE X.K fun v H' => ∃ k, v = .bl k ∧ Q k H') r := by
  cases r with
  | ok d S' =>
    intro w' H' st sr v' r'
    cases d with
    | r n => exact h.elim
    | p z =>
      cases z with
      | bl k => exact ⟨k, rep_bl r', h w' H' st sr⟩
      | _ => exact h.elim
  | exc x S' => exact h
  | stuck => exact h
theorem st_truO {c : Cn} {f : Addr} {k : Nat} {F : Fn} {fe : FE} (m : Mode) (B : BoolOk X.K c f) (C : XDef X f k 1 [] F) (tk : Takes X W) (hr : Room k X.A) (h : SE X W e fe) (he : ∀ whole, isTrue e X.env whole = (do let v ← whole; standAt e.pos; holding [v] (truthy v)) := by intro _; rfl) : ST X W e (fTruO c m F fe) := by
  refine ⟨fun pins s σ H Q I ⟨w, ρ, S, a, h0⟩ => isTrue_plain (thn (h.run pins s σ H (fun v H1 => ∃ w1 S1 d, At X.K w1 σ H1 ρ S1 ∧ DRep X.K w1 H1 v d ∧ oR X.K W σ w1 H1 (qT Q) (if isIns c d S1 = true then kBl (callN m 1 F [] [d] S1) else .stuck)) I ?_) fun v s1 ⟨x, H1, I1, r1, w1, S1, d, a1, dr, q1⟩ => ?_) (he _)⟩
  · exact tE_of a (oR_bind a.ok h0) fun w1 H1 S1 d v st a1 h1 r => ⟨w1, S1, d, a1, r, h1⟩
  · split at q1
    · rename_i hi
      obtain ⟨a2, d2, f2, rfl, h2, _⟩ := ins_at a1.st dr hi
      obtain rfl : v = Value.ref a2 := r1
      obtain ⟨od, J⟩ := inst_of I1 h2
      obtain ⟨mm, hF⟩ := I1.fr
      refine PySem.W.truthy_K hF I.ok.mod.kin J B.hs B.hf (wpAny_mono (go_call' (us := [Value.ref a2]) (vs := [V.ref a2]) m C tk hr I1 (.cons rfl .nil) a1.st (.cons dr .nil) (oR_kBl q1)) (fun v s' ⟨z, H', I', rz, k, ez, qz⟩ => ?_) fun _ _ z => z)
      subst ez
      cases rz
      exact ⟨H', I', qz⟩
    · exact q1.elim
/-! ### in, not in -/
def fvP : P → Option V
  | .non => some .non
  | .bl b => some (.bl b)
  | .int i => some (.int i)
  | .str x => some (.str x)
  | _ => none
def fvPs : List P → Option (List V)
  | [] => some []
  | a :: r => (match fvP a, fvPs r with
    | some v, some vs => some (v :: vs)
    | _, _ => none)
theorem fvP_ok {K : PySem.W.Frag} {L : Addr → Prop} {H : Hp} {v v' : V} {p : P} (r : Rep K L H v p) (h : fvP p = some v') : v = v' ∧ flatV v = true := by
  cases r <;> first
    | (cases h; exact ⟨rfl, rfl⟩)
    | cases h
theorem fvPs_ok {K : PySem.W.Frag} {L : Addr → Prop} {H : Hp} : ∀ {vs vs' : List V} {l : List P}, Reps K L H vs l → fvPs l = some vs' → vs = vs' ∧ vs.all flatV = true
  | _, _, _, .nil, h => by cases h; exact ⟨rfl, rfl⟩
  | _, _, _, .cons (p := p) (l := l) a t, h => by
    unfold fvPs at h
    cases e1 : fvP p with
    | none => rw [e1] at h; cases h
    | some u =>
      cases e2 : fvPs l with
      | none => rw [e1, e2] at h; cases h
      | some us =>
        rw [e1, e2] at h
        cases h
        obtain ⟨rfl, g1⟩ := fvP_ok a e1
        obtain ⟨rfl, g2⟩ := fvPs_ok t e2
        exact ⟨rfl, by rw [List.all_cons, g1, g2]; rfl⟩
def itemsP : D → Store → Option (List P)
  | .p (.tup l), _ => some l
  | .p (.lst l), _ => some l
  | .r n, S => (match S[n]? with
    | some (.lst l) => pureL l
    | _ => none)
  | _, _ => none
theorem items_ok {K : PySem.W.Frag} {w : Wd} {H : Hp} {S : Store} {v : V} {d : D} {l : List P} (sr : SRep K w H S) (r : DRep K w H v d) (h : itemsP d S = some l) : ∃ p xs, v = .ref p ∧ (SqL K H p xs ∨ SqT K H p xs) ∧ Reps K w.L H xs l := by
  cases d with
  | p q =>
    cases r with
    | tup hh rr => cases h; exact ⟨_, _, rfl, .inr hh, rr⟩
    | lst hh rr => cases h; exact ⟨_, _, rfl, .inl hh.sq, rr⟩
    | _ => cases h
  | r n =>
    have h : (match S[n]? with
      | some (.lst l) => pureL l
      | _ => none) = some l := h
    split at h
    · rename_i l0 hS
      obtain ⟨ad, vs, e1, e2, e3⟩ := sr.cell n _ hS
      rw [pureL_eq h] at e3
      exact ⟨ad, vs, r.2 ad e1, .inl (.inl (.inl e2)), e3.pure⟩
    · cases h
def inP (neg : Bool) (x : P) (l : List P) (S : Store) : R D := match fvP x, fvPs l with
  | some v, some vs => .ok (.p (.bl (if neg then !inV v vs else inV v vs))) S
  | _, _ => .stuck
def gInF (neg : Bool) : D → D → Store → R D := fun x y S => match x, itemsP y S with
  | .p a, some l => inP neg a l S
  | _, _ => .stuck
theorem in_ok {neg : Bool} {op : CmpOp} (ho : OpR X (compareOp op) (rIn X.K neg)) : OpF X W (compareOp op) (gInF neg) := by
  intro pins s σ H w ρ S x y dx dy v u Q I a r1 r2 rx ry q
  unfold gInF at q
  split at q
  · rename_i z l hl
    obtain ⟨p, xs, rfl, hx, rr⟩ := items_ok a.st r2 hl
    unfold inP at q
    split at q
    · rename_i v1 vs1 e1 e2
      obtain ⟨rfl, g1⟩ := fvP_ok r1 e1
      obtain ⟨rfl, g2⟩ := fvPs_ok rr e2
      exact ho pins s σ H _ _ v u Q I rx ry ⟨p, _, rfl, hx, g1, g2, oE_ok a.st q (.bl _)⟩
    · exact q.elim
  · exact q.elim
theorem o_inF {k : Nat} (hr : Room k X.A) : OpF X W (compareOp .In) (gInF false) := in_ok op_in_seq
theorem o_notInF {k : Nat} (hr : Room k X.A) : OpF X W (compareOp .NotIn) (gInF true) := in_ok op_notIn_seq
/-- by an own __contains__ -/
structure HasOk (K : PySem.W.Frag) (c : Cn) (nm : Str) (f : Addr) : Prop where
  hs : PySem.W.findIn K (.ref (c.a K)) nm = some (some (.ref f))
  hf : PySem.W.isFn K (.ref f) = true
def hasB (c : Cn) (nm : Str) (K : PySem.W.Frag) : Bool := optO (PySem.W.findIn K (.ref (c.a K)) nm) (.ref (aM c nm K)) && PySem.W.isFn K (.ref (aM c nm K))
theorem Zs.has {fx : List Fx} {fn : List DefX} {K : PySem.W.Frag} {mg : Str → Option Value} (z : Zs fx fn K mg) (i : Nat) {c : Cn} {nm : Str} (h : fx[i]? = some (.gen (hasB c nm)) := by rfl) : HasOk K c nm (aM c nm K) := by
  obtain ⟨h1, h2⟩ := b2 (z.gen i h)
  exact ⟨optO_ok h1, h2⟩
def kInB (neg : Bool) : R D → R D
  | .ok (.p (.bl k)) S => .ok (.p (.bl (if neg then !k else k))) S
  | .exc x S => .exc x S
  | _ => .stuck
def gInO (neg : Bool) (c : Cn) (m : Mode) (F : Fn) : D → D → Store → R D := fun x y S => if isIns c y S = true then kInB neg (callN m 2 F [] [y, x] S) else .stuck
theorem oR_kInB {neg : Bool} {σ : L2.St} {w : Wd} {H : Hp} {Q : VK} {r : R D} (h : oR X.K W σ w H (qE X.K Q) (kInB neg r)) : oR X.K W σ w H (qE X.K fun v H' => ∃ k, v = .bl k ∧ Q (.bl (if neg then !k else k)) H') r := by
  cases r with
  | ok d S' =>
    intro w' H' st sr v' r'
    cases d with
    | r n => exact h.elim
    | p z =>
      cases z with
      | bl k => exact ⟨k, rep_bl r', h w' H' st sr _ (.bl _)⟩
      | _ => exact h.elim
  | exc x S' => exact h
  | stuck => exact h
theorem o_inO {c : Cn} {f : Addr} {k : Nat} {F : Fn} (m : Mode) (B : HasOk X.K c "__contains__" f) (C : XDef X f k 2 [] F) (tk : Takes X W) (hr : Room k X.A) : OpF X W (compareOp .In) (gInO false c m F) := by
  intro pins s σ H w ρ S x y dx dy v u Q I a r1 r2 rx ry q
  unfold gInO at q
  split at q
  · rename_i hc
    obtain ⟨a1, d1, f1, rfl, h1, _⟩ := ins_at a.st r2 hc
    obtain rfl : u = Value.ref a1 := ry
    obtain ⟨od, J⟩ := inst_of I h1
    obtain ⟨mm, hF⟩ := I.fr
    refine PySem.W.in_K hF I.ok.mod.kin J B.hs B.hf (wpAny_mono (go_call' (us := [Value.ref a1, v]) (vs := [V.ref a1, x]) m C tk hr I (.cons rfl (.cons rx .nil)) a.st (.cons r2 (.cons r1 .nil)) (oR_kInB q)) (fun v s' ⟨z, H', I', rz, k, ez, qz⟩ => ?_) fun _ _ z => z)
    subst ez
    cases rz
    exact wpAny_truthy_bool ⟨.bl k, H', I', rfl, qz⟩
  · exact q.elim
theorem o_notInO {c : Cn} {f : Addr} {k : Nat} {F : Fn} (m : Mode) (B : HasOk X.K c "__contains__" f) (C : XDef X f k 2 [] F) (tk : Takes X W) (hr : Room k X.A) : OpF X W (compareOp .NotIn) (gInO true c m F) := by
  intro pins s σ H w ρ S x y dx dy v u Q I a r1 r2 rx ry q
  unfold gInO at q
  split at q
  · rename_i hc
    obtain ⟨a1, d1, f1, rfl, h1, _⟩ := ins_at a.st r2 hc
    obtain rfl : u = Value.ref a1 := ry
    obtain ⟨od, J⟩ := inst_of I h1
    obtain ⟨mm, hF⟩ := I.fr
    refine PySem.W.notIn_K hF I.ok.mod.kin J B.hs B.hf (wpAny_mono (go_call' (us := [Value.ref a1, v]) (vs := [V.ref a1, x]) m C tk hr I (.cons rfl (.cons rx .nil)) a.st (.cons r2 (.cons r1 .nil)) (oR_kInB q)) (fun v s' ⟨z, H', I', rz, k, ez, qz⟩ => ?_) fun _ _ z => z)
    subst ez
    cases rz
    exact wpAny_truthy_bool ⟨.bl (!k), H', I', rfl, qz⟩
  · exact q.elim
end
end FR

set_option Elab.async false
set_option linter.all false
set_option maxRecDepth 100000
set_option maxHeartbeats 1000000
namespace FR
open PySem PySem.Spec PyProof.Rows L2
/-! ### defaults -/
theorem def_dfl {pr : Program} {w : World} {K : PySem.W.Frag} {mg : Str → Option Value} {base : Heap} {d : DefX} {fd : FuncData} {k n : Nat} {ps : List Str} {F : Fn} {dvs : List P} {ds : List Value} {zs : List V} (D : FunD K d.name d.qual d.params d.body d.scope (d.dvs K) (d.kws K) (d.ad K) fd)
    (b : Binds K fd ps ds) (hv : Vals zs ds) (hz : ∀ L H, Reps K L H zs dvs) (ok : FnOk pr w K mg base (L2.CX pr w) k (d.ad K) fd ps (spOf K n F)) : Def pr w K mg base (d.ad K) k n dvs F := ⟨⟨fd, ps, ds, zs, D.kp, b, hv, hz, ok⟩⟩
section
variable {X : Cx} {W : WX} {e : Expr} {es : List Expr} {pos : Pos} {f : Addr} {k n : Nat} {dvs : List P} {ks : List Str} {F : Fn} {kws : List Keyword} {c : Cn} {fi : Addr}
/-! ### C(e, ..), C held by a name -/
def cV (c : Cn) (fn : FE) (g : List D → Store → R D) (fa : FA) : FE := fun ρ S => (fn ρ S).bind fun d S1 => match d with
  | .p (.nm x) => if x = c.x then (fa ρ S1).bind fun l S2 => g l S2 else .stuck
  | _ => .stuck
theorem se_mkV {x : Str} {p : Pos} {fn : FE} {g : FA} (hn : SE X W (.Name x p) fn) (M : MkOk X.K X.mg c fi) (C : XDef X fi k n dvs F) (tk : Takes X W) (hr : Room (k + 1) X.A) (ha : SA X W (e :: es) g)
    (hcall : ∀ {Q : Value → Shared → Prop} {s : Shared}, wpAny (model X.prog X.w) X.A (eval (.Name x p) X.env) (fun fv s₁ => wpAny (model X.prog X.w) X.A (callWith pos fv [] (backTo pos (starEach (e :: es) X.env)) (backToKw pos (keywordEach [] X.env))) Q X.xe s₁) X.xe s → wpAny (model X.prog X.w) X.A (eval (.Call (.Name x p) (e :: es) [] pos) X.env) Q X.xe s := by intro Q s h; exact PySem.wpAny_Call_Name_kw h)
    (he : starEach (e :: es) X.env = (false, eval e X.env) :: starEach es X.env := by rfl) (hpl : (backTo pos (starEach es X.env)).any (·.1) = false := by rfl) :
    SE X W (.Call (.Name x p) (e :: es) [] pos) (cV c fn (mkP c n F dvs) g) := by
  refine ⟨fun pins s σ H Q I ⟨w, ρ, S, a, h⟩ => hcall (thn (run_then hn I a h) fun u s1 ⟨xv, H1, w1, S1, d, I1, rx, st1, a1, dr, h1⟩ => ?_)⟩
  split at h1
  · rename_i x0
    split at h1
    · rename_i hx
      subst hx
      cases dr
      obtain rfl : u = Value.ref (c.a X.K) := rx
      refine PySem.W.callWith_K (h₀ := X.base) I1.ok.mod.kin M.mm.kp (thn (ha.run pos pins s1 σ H1 (fun vs H2 => ∃ w2 S2 l, Step w1 H1 w2 H2 ∧ At X.K w2 σ H2 ρ S2 ∧ DReps X.K w2 H2 vs l ∧ oR X.K W σ w2 H2 (qE X.K Q) (mkP c n F dvs l S2)) I1 ?_)
        fun us s2 ⟨vs, H2, I2, r, w2, S2, l, st, a2, dr2, h2⟩ => ⟨I2.kIn, go_mk M C tk hr I2 r a2.st dr2 h2⟩) he hpl
      exact tA_of a1 (oR_bind a1.ok h1) fun w2 H2 S2 l vs st a2 h2 r => ⟨w2, S2, l, st, a2, r, h2⟩
    · exact h1.elim
  · exact h1.elim
/-! ### C.m(e, ..), m a classmethod -/
structure CmOk (K : PySem.W.Frag) (mg : Str → Option Value) (c : Cn) (m : Str) (p g : Addr) : Prop where
  gl : mg c.x = some (.ref (c.a K))
  rd : ClX.CRead K (c.a K) (.type "type")
  cm : ClX.CMet K (c.a K) (.type "type") m p g
theorem go_cm {pins : List (Addr × Obj)} {σ : L2.St} {H : Hp} {s : Shared} {Q : VK} {us : List Value} {vs : List V} {w : Wd} {S : Store} {ds : List D} {q g : Addr} (md : Mode) (C : XDef X g k n dvs F) (tk : Takes X W) (hr : Room k X.A) (I : Inv X ((q, PySem.W.methodObj (.ref g) (.ref (c.a X.K))) :: pins) σ H s) (r : Vals vs us)
    (sr : SRep X.K w H S) (dr : DReps X.K w H vs ds) (h : oR X.K W σ w H (qE X.K Q) (callN md n F dvs (.p (.nm c.x) :: ds) S)) : wpAny (model X.prog X.w) X.A (call (.ref q) us) (EP X pins σ Q) X.xe s := by
  obtain ⟨fd, ps, ds', zs, hk, hb, hv, hz, hF⟩ := C.ex
  have dr' : DReps X.K w H (V.ref (c.a X.K) :: vs) (.p (.nm c.x) :: ds) := .cons (show DRep X.K w H _ _ from Rep.nm c.x) dr
  have hsp : spOf X.K n F ((V.ref (c.a X.K) :: vs) ++ zs) H Q fun c d H' => W c d σ H' := by
    unfold callN at h
    split at h
    · rename_i hl
      exact sp_M (W := W) (σ := σ) md sr dr' hz (by rw [dr'.length, Reps.length (hz (fun _ => False) (fun _ => none))]; exact hl) h
    · exact h.elim
  have rr : Vals ((V.ref (c.a X.K) :: vs) ++ zs) ((Value.ref (c.a X.K) :: us) ++ ds') := Vals.append (.cons rfl r) hv
  have ll : ((Value.ref (c.a X.K) :: us) ++ ds').length = ps.length := rr.length.symm.trans (hF.len _ _ _ _ hsp)
  have z : wpAny (model X.prog X.w) X.A (call (.ref q) us) (EP X ((q, PySem.W.methodObj (.ref g) (.ref (c.a X.K))) :: pins) σ Q) X.xe s := by
    refine wpAny_call (PySem.W.method_call (ClX.pin_at I) (codeAny_mono (hF.run X.A X.stack s H ⟨Value.ref (c.a X.K) :: us, []⟩ _ _ Q (fun c d H' => W c d σ H') hr I.env0 (hb s _ I.kIn ll) rr hsp) fun o s' ho => ?_))
    cases o with
    | error er => exact tk er s' (XE.of_call I (fun _ _ _ z => z) ho)
    | ok fl =>
      cases fl with
      | ret u => exact I.after ho
      | _ => exact (show False from ho).elim
  exact thn z fun _ _ y => ClX.unpinE y
def cC (c : Cn) (g : List D → Store → R D) (fa : FA) : FE := fun ρ S => (fa ρ S).bind fun l S2 => g (.p (.nm c.x) :: l) S2
theorem se_cm {m : Str} {apos np : Pos} {p g : Addr} {fa : FA} {pl : Sem Bool} (md : Mode) (M : CmOk X.K X.mg c m p g) (C : XDef X g k n dvs F) (tk : Takes X W) (hr : Room k X.A) (ha : SA X W (e :: es) fa) (hg : Gl X c.x := by rfl) (hdb : (c.x == ("__debug__" : Str)) = false := by decide)
    (hst : starEach (e :: es) X.env = (false, eval e X.env) :: starEach es X.env := by rfl) (hpl : (backTo pos (starEach es X.env)).any (·.1) = false := by rfl)
    (ht : eval (.Call (.Attribute (.Name c.x np) m apos) (e :: es) [] pos) X.env = (do
      let ov ← eval (.Name c.x np) X.env
      standAt apos.atName
      let (f, first) ← holding [ov] (getMethod ov m pl)
      callWith pos f first (backTo pos (starEach (e :: es) X.env)) (backToKw pos (keywordEach [] X.env))) := by rfl) : SE X W (.Call (.Attribute (.Name c.x np) m apos) (e :: es) [] pos) (cC c (callN md n F dvs) fa) := by
  refine ⟨fun pins s σ H Q I ⟨w, ρ, S, a, h⟩ => ?_⟩
  refine PySem.W.methodCall_KW (pl := pl) (ld_glob I hg M.gl ?_ hdb) ht
  refine ClX.getmethcm_ok I M.rd M.cm fun s2 I2 => ?_
  refine ClX.callwith_cm I2 (ClX.base_none I (Nat.le_refl _)) M.cm.fi (thn (ha.run pos _ s2 σ H (fun vs H1 => ∃ w1 S1 l, Step w H w1 H1 ∧ At X.K w1 σ H1 ρ S1 ∧ DReps X.K w1 H1 vs l ∧ oR X.K W σ w1 H1 (qE X.K Q) (callN md n F dvs (.p (.nm c.x) :: l) S1)) I2 ?_)
    fun us s3 ⟨vs, H2, I3, rv, w1, S1, l, st, a1, dr, h1⟩ => ⟨⟨ClX.pin_at I3, I3.kIn⟩, go_cm md C tk hr I3 rv a1.st dr h1⟩) hst hpl
  exact tA_of a (oR_bind a.ok h) fun w1 H1 S1 l vs st a1 h1 r => ⟨w1, S1, l, st, a1, r, h1⟩
/-! ### o.m(e, .., k = v) -/
def fMethK (c : Cn) (m : Mode) (n nk : Nat) (F : Fn) (fo : FE) (fa fk : FA) : FE := fun ρ S => (fo ρ S).bind fun o S1 => if isIns c o S1 = true then (fa ρ S1).bind fun l S2 => (fk ρ S2).bind fun l2 S3 => if l2.length = nk ∧ l.length + 1 = n - nk then callN m n F [] (o :: (l ++ l2)) S3 else .stuck else .stuck
theorem se_methK {o : Expr} {m : Str} {apos : Pos} {fo : FE} {fa fk : FA} {pl : Sem Bool} (md : Mode) (M : MethOk X.K c m f) (C : XDefK X f k n ks F) (tk : Takes X W) (hr : Room k X.A) (ho : SE X W o fo) (ha : SA X W (e :: es) fa) (hkw : SK X W kws fk)
    (hall : (backToKw pos (keywordEach kws X.env)).all (·.1.isSome) = true := by rfl) (hks : (backToKw pos (keywordEach kws X.env)).filterMap (·.1) = ks := by rfl)
    (hst : starEach (e :: es) X.env = (false, eval e X.env) :: starEach es X.env := by rfl)
    (hpl : ((backTo pos (starEach (e :: es) X.env)).any (·.1) || (backToKw pos (keywordEach kws X.env)).any (·.1.isNone)) = false := by rfl)
    (ht : eval (.Call (.Attribute o m apos) (e :: es) kws pos) X.env = (do
      let ov ← eval o X.env
      standAt apos.atName
      let (f, first) ← holding [ov] (getMethod ov m pl)
      callWith pos f first (backTo pos (starEach (e :: es) X.env)) (backToKw pos (keywordEach kws X.env))) := by rfl) : SE X W (.Call (.Attribute o m apos) (e :: es) kws pos) (fMethK c md n ks.length F fo fa fk) := by
  refine ⟨fun pins s σ H Q I ⟨w, ρ, S, a, h⟩ => PySem.W.methodCall_KW (pl := pl) (thn (run_then ho I a h) fun u s1 ⟨x, H1, w1, S1, d, I1, rx, st1, a1, dr, h1⟩ => ?_) ht⟩
  split at h1
  · rename_i hi
    obtain ⟨ad, dx, fs, rfl, hH, hno⟩ := ins_at a1.st dr hi
    obtain rfl : u = Value.ref ad := rx
    refine getmeth_ok I1 hH M.cl M.me (hno m M.no) ?_
    refine PySem.W.callWith_KW (first := [.ref ad]) (h₀ := X.base) I.ok.mod.kin M.me.kp hall (thn (ha.run pos pins s1 σ H1 (fun vs H2 => ∃ w2 S2 l, Step w1 H1 w2 H2 ∧ At X.K w2 σ H2 ρ S2 ∧ DReps X.K w2 H2 vs l ∧ oR X.K W σ w2 H2 (qE X.K Q) ((fk ρ S2).bind fun l2 S3 => if l2.length = ks.length ∧ l.length + 1 = n - ks.length then callN md n F [] (d :: (l ++ l2)) S3 else .stuck)) I1 ?_)
      fun us s2 ⟨vs, H2, I2, r, w2, S2, l, st2, a2, dr2, h2⟩ => ?_) hpl hst
    · exact tA_of a1 (oR_bind a1.ok h1) fun w2 H2 S2 l vs st2 a2 h2 r => ⟨w2, S2, l, st2, a2, r, h2⟩
    · refine thn (hkw.run pos pins s2 σ H2 (fun zs H3 => ∃ w3 S3 l2, At X.K w3 σ H3 ρ S3 ∧ DReps X.K w3 H3 (V.ref ad :: (vs ++ zs)) (d :: (l ++ l2)) ∧ zs.length = ks.length ∧ vs.length + 1 = n - ks.length ∧ oR X.K W σ w3 H3 (qE X.K Q) (callN md n F [] (d :: (l ++ l2)) S3)) I2 ?_)
        fun ws s3 ⟨zs, H3, I3, rz, w3, S3, l2, a3, dr3, g1, g2, h3⟩ => ⟨I3.kIn, ?_⟩
      · refine tA_of a2 (oR_bind a2.ok h2) fun w3 H3 S3 l2 zs st3 a3 h3 r3 => ?_
        split at h3
        · rename_i hl
          exact ⟨w3, S3, l2, a3, .cons ((dr.step a1.ok st2).step a2.ok st3) ((dr2.step a2.ok st3).app r3), by rw [r3.length]; exact hl.1, by rw [dr2.length]; exact hl.2, h3⟩
        · exact h3.elim
      · rw [hks]
        exact go_callK (us := Value.ref ad :: us) (vs := V.ref ad :: vs) (zs := zs) md C tk hr I3 (.cons rfl r) rz (by rw [List.length_cons]; exact g2) g1 a3.st dr3 h3
  · exact h1.elim
/-! ### C(e, .., k = v, ..) -/
def mkK (c : Cn) (n nk : Nat) (F : Fn) (fa fk : FA) : FE := fun ρ S => (fa ρ S).bind fun l S1 => (fk ρ S1).bind fun l2 S2 => if l2.length = nk ∧ l.length + 1 = n - nk then mkP c n F [] (l ++ l2) S2 else .stuck
theorem go_mkK {pins : List (Addr × Obj)} {σ : L2.St} {H : Hp} {s : Shared} {Q : VK} {us ws : List Value} {vs zs : List V} {w : Wd} {S : Store} {ds : List D} (M : MkOk X.K X.mg c fi) (C : XDefK X fi k n ks F) (tk : Takes X W) (hr : Room (k + 1) X.A) (I : Inv X pins σ H s) (r : Vals vs us) (rz : Vals zs ws)
    (l1 : vs.length + 1 = n - ks.length) (l2 : zs.length = ks.length) (sr : SRep X.K w H S) (dr : DReps X.K w H (vs ++ zs) ds) (h : oR X.K W σ w H (qE X.K Q) (mkP c n F [] ds S)) : wpAny (model X.prog X.w) X.A (call (.ref (c.a X.K)) us (ks.zip ws)) (EP X pins σ Q) X.xe s := by
  obtain ⟨fd, ps, hk, hb, hF⟩ := C.ex
  have hx0 : H (s.heap.objs.size + 1) = none := I.hok.fresh (Nat.le_succ _)
  have hd0 : H s.heap.objs.size = none := I.hok.fresh (Nat.le_refl _)
  have hsp := sp_mk (zs := []) (x := s.heap.objs.size + 1) (dx := s.heap.objs.size) hx0 hd0 sr dr (fun _ _ => .nil) h
  rw [List.append_nil] at hsp
  have J := Inv.made (C := c.a X.K) I
  have rr : Vals (V.ref (s.heap.objs.size + 1) :: (vs ++ zs)) (Value.ref (s.heap.objs.size + 1) :: (us ++ ws)) := hb.rel (vs := V.ref (s.heap.objs.size + 1) :: vs) (us := Value.ref (s.heap.objs.size + 1) :: us) (.cons rfl r) rz
  refine wpAny_call (make_map (f := fi) I.kIn M.mm.makes M.mm.init (beq_iff_eq.mp M.mm.fn) (codeAny_mono (hF.run _ X.stack _ _ ⟨Value.ref (s.heap.objs.size + 1) :: us, ks.zip ws⟩ _ _ _ _ (hr.make (c.a X.K) us (ks.zip ws)) (J.env0.make (c.a X.K) us (ks.zip ws)) (hb.to _ (Value.ref (s.heap.objs.size + 1) :: us) ws J.kIn (by rw [List.length_cons, ← r.length]; exact l1) (rz.length.symm.trans l2)) rr hsp) fun o s' ho => ?_))
  cases o with
  | error er => exact tk er s' (XE.of_call J (fun _ _ _ z => z) ho)
  | ok fl =>
    cases fl with
    | ret u =>
      obtain ⟨v, H', I3, rv, ev, q3⟩ := J.after ho
      subst ev
      exact ⟨rv, ⟨V.ref (s.heap.objs.size + 1), H', I3, rfl, q3⟩⟩
    | _ => exact (show False from ho).elim
theorem se_mkK {p : Pos} {g gk : FA} (M : MkOk X.K X.mg c fi) (C : XDefK X fi k n ks F) (tk : Takes X W) (hr : Room (k + 1) X.A) (ha : SA X W (e :: es) g) (hkw : SK X W kws gk) (hg : Gl X c.x := by rfl)
    (hall : (backToKw pos (keywordEach kws X.env)).all (·.1.isSome) = true := by rfl) (hks : (backToKw pos (keywordEach kws X.env)).filterMap (·.1) = ks := by rfl)
    (hdb : (c.x == ("__debug__" : Str)) = false := by decide) (he : starEach (e :: es) X.env = (false, eval e X.env) :: starEach es X.env := by rfl)
    (hpl : ((backTo pos (starEach (e :: es) X.env)).any (·.1) || (backToKw pos (keywordEach kws X.env)).any (·.1.isNone)) = false := by rfl) :
    SE X W (.Call (.Name c.x p) (e :: es) kws pos) (mkK c n ks.length F g gk) := by
  refine ⟨fun pins s σ H Q I ⟨w, ρ, S, a, h⟩ => wpAny_Call_Name_kw (ld_glob I hg M.gl ?_ hdb)⟩
  refine PySem.W.callWith_KW (h₀ := X.base) I.ok.mod.kin M.mm.kp hall (thn (ha.run pos pins s σ H (fun vs H1 => ∃ w1 S1 l, Step w H w1 H1 ∧ At X.K w1 σ H1 ρ S1 ∧ DReps X.K w1 H1 vs l ∧ oR X.K W σ w1 H1 (qE X.K Q) ((gk ρ S1).bind fun l2 S2 => if l2.length = ks.length ∧ l.length + 1 = n - ks.length then mkP c n F [] (l ++ l2) S2 else .stuck)) I ?_)
    fun us s1 ⟨vs, H1, I1, r, w1, S1, l, st, a1, dr, h1⟩ => ?_) hpl he
  · exact tA_of a (oR_bind a.ok h) fun w1 H1 S1 l vs st a1 h1 r => ⟨w1, S1, l, st, a1, r, h1⟩
  · refine thn (hkw.run pos pins s1 σ H1 (fun zs H2 => ∃ w2 S2 l2, At X.K w2 σ H2 ρ S2 ∧ DReps X.K w2 H2 (vs ++ zs) (l ++ l2) ∧ zs.length = ks.length ∧ vs.length + 1 = n - ks.length ∧ oR X.K W σ w2 H2 (qE X.K Q) (mkP c n F [] (l ++ l2) S2)) I1 ?_)
      fun ws s2 ⟨zs, H2, I2, rz, w2, S2, l2, a2, dr2, g1, g2, h2⟩ => ⟨I2.kIn, ?_⟩
    · refine tA_of a1 (oR_bind a1.ok h1) fun w2 H2 S2 l2 zs st2 a2 h2 r2 => ?_
      split at h2
      · rename_i hl
        exact ⟨w2, S2, l2, a2, (dr.step a1.ok st2).app r2, by rw [r2.length]; exact hl.1, by rw [dr.length]; exact hl.2, h2⟩
      · exact h2.elim
    · rw [hks]
      exact go_mkK M C tk hr I2 r rz g2 g1 a2.st dr2 h2
end
/-! ### facts: classmethods -/
def isGetB (o : Option PySem.W.CFound) (a b c d : Value) : Bool := match o with
  | some (.get a' b' c' d') => decide (a' = a) && (decide (b' = b) && (decide (c' = c) && decide (d' = d)))
  | _ => false
theorem isGet_ok {o : Option PySem.W.CFound} {a b c d : Value} (h : isGetB o a b c d = true) : o = some (.get a b c d) := by
  unfold isGetB at h
  split at h
  · obtain ⟨h1, e⟩ := b2 h
    obtain ⟨h2, e⟩ := b2 e
    obtain ⟨h3, h4⟩ := b2 e
    rw [of_decide_eq_true h1, of_decide_eq_true h2, of_decide_eq_true h3, of_decide_eq_true h4]
  · cases h
def cmB (c : Cn) (m : Str) (K : PySem.W.Frag) : Bool := PySem.W.readsIn K (c.a K) (.type "type") && (optO (PySem.W.specialIn K (.ref (c.a K)) "__getattribute__") (.builtin "type.__getattribute__") &&
  (isGetB (PySem.W.findCls K (.ref (c.a K)) (.type "type") m) (.builtin "classmethod.__get__") (.ref (aM c m K)) .none (.ref (c.a K)) && ((match PySem.W.recIn K (aM c m K) "classmethod" with
    | some (.ref _ :: _) => true
    | _ => false) && PySem.W.fnIn K (aR "classmethod" c m K))))
theorem Zs.cm {fx : List Fx} {fn : List DefX} {K : PySem.W.Frag} {mg : Str → Option Value} (z : Zs fx fn K mg) (i j : Nat) {c : Cn} {m : Str} (h : fx[i]? = some (.gen (cmB c m)) := by rfl) (h2 : fx[j]? = some (.glo c.x) := by rfl) : CmOk K mg c m (aM c m K) (aR "classmethod" c m K) := by
  obtain ⟨e1, e⟩ := b2 (z.gen i h)
  obtain ⟨e2, e⟩ := b2 e
  obtain ⟨e3, e⟩ := b2 e
  obtain ⟨e4, e5⟩ := b2 e
  refine ⟨z.cn j h2, ⟨e1, optO_ok e2⟩, ⟨isGet_ok e3, ?_, e5⟩⟩
  unfold aR
  cases q : PySem.W.recIn K (aM c m K) "classmethod" with
  | none => rw [q] at e4; cases e4
  | some l =>
    rw [q] at e4
    cases l with
    | nil => cases e4
    | cons a r =>
      cases a with
      | ref g => exact ⟨r, rfl⟩
      | _ => cases e4
end FR

set_option Elab.async false
set_option linter.all false
set_option maxRecDepth 100000
set_option maxHeartbeats 1000000
namespace FR
open PySem PySem.Spec PyProof.Rows L2
section
variable {X : Cx} {W : WX} {e : Expr} {es : List Expr} {pos : Pos}
/-! o[i] by an own __getitem__ that raises nothing -/
def ixB (c : Cn) (K : PySem.W.Frag) : Bool := hasB c "__getitem__" K && PySem.W.fnIn K (aM c "__getitem__" K)
theorem oR_noX2 {α : Type} {K : PySem.W.Frag} {W W' : WX} {σ σ' : L2.St} {w : Wd} {H : Hp} {G : Wd → Hp → Store → α → Prop} {r : R α} (h : oR K W σ w H G (noX r)) : oR K W' σ' w H G (noX r) := by
  cases r with
  | ok a S => exact h
  | exc x S => exact h.elim
  | stuck => exact h.elim
structure IxOk (K : PySem.W.Frag) (c : Cn) (f : Addr) : Prop where
  has : HasOk K c "__getitem__" f
  fn : PySem.W.fnIn K f = true
theorem Zs.ix {fx : List Fx} {fn : List DefX} {K : PySem.W.Frag} {mg : Str → Option Value} (z : Zs fx fn K mg) (i : Nat) {c : Cn} (h : fx[i]? = some (.gen (ixB c)) := by rfl) : IxOk K c (aM c "__getitem__" K) := by
  obtain ⟨h1, h2⟩ := b2 (z.gen i h)
  obtain ⟨h3, h4⟩ := b2 h1
  exact ⟨⟨optO_ok h3, h4⟩, h2⟩
def gIxO (c : Cn) (F : Fn) : D → D → Store → R D := fun x y S => if isIns c x S = true then noX (callN .P 2 F [] [x, y] S) else .stuck
def rIxO (X : Cx) (c : Cn) (F : Fn) : R2 := fun x y H Q => ∃ σ w S dx dy, SRep X.K w H S ∧ DRep X.K w H x dx ∧ DRep X.K w H y dy ∧ isIns c dx S = true ∧ oR X.K W0 σ w H (qE X.K Q) (noX (callN .P 2 F [] [dx, dy] S))
theorem pe_ixO {a b : Expr} {ta tb : TE} {c : Cn} {f : Addr} {k : Nat} {F : Fn} (B : IxOk X.K c f) (C : XDef X f k 2 [] F) (hr : Room (k + 1) X.A) (ha : PE X a ta) (hb : PE X b tb)
    (hsl : ∀ v u, subscripted b true v u = runValue (.builtin "lifetime.subscript" ⟨[v, u], []⟩)) : PE X (.Subscript a b pos) (tOp (rIxO X c F) ta tb) := by
  refine ⟨fun pins s σ H Q I h => ?_⟩
  refine Subscript_ (binT ha hb I h fun v u s2 x y H2 I2 rx ry q => ?_)
  obtain ⟨σ', w, S, dx, dy, sr, r1, r2, hc, q⟩ := q
  obtain ⟨a1, d1, f1, rfl, h1, _⟩ := ins_at sr r1 hc
  obtain rfl : v = Value.ref a1 := rx
  obtain ⟨od, J⟩ := inst_of I2 h1
  obtain ⟨mm, hF⟩ := I2.fr
  refine PySem.W.sub_K hF I2.ok.mod.kin J B.has.hs B.fn B.has.hf (go_in1 (W := W0) (us := [Value.ref a1, u]) (vs := [V.ref a1, y]) .P C hr I2 (.cons rfl (.cons ry .nil)) sr (.cons r1 (.cons r2 .nil)) ?_) (hsl _ _)
  exact oR_noX2 q
theorem se_ixO {a b : Expr} {fa fb : FE} {c : Cn} {f : Addr} {k : Nat} {F : Fn} (B : IxOk X.K c f) (C : XDef X f k 2 [] F) (hr : Room (k + 1) X.A) (ha : SE X W a fa) (hb : SE X W b fb)
    (hsl : ∀ v u, subscripted b true v u = runValue (.builtin "lifetime.subscript" ⟨[v, u], []⟩) := by intro _ _; with_unfolding_all rfl) : SE X W (.Subscript a b pos) (c2 (gIxO c F) fa fb) :=
  (pe_ixO B C hr ha hb hsl).imp fun σ H Q ⟨w, ρ, S, a, h⟩ => tE_of a (oR_bind a.ok h) fun w1 H1 S1 d v st a1 h1 r => tE_of a1 (oR_bind a1.ok h1) fun w2 H2 S2 d2 v2 st2 a2 h2 r2 => by
    have r' := r.step a1.ok st2
    unfold gIxO at h2
    split at h2
    · rename_i hc
      exact ⟨_, w2, S2, d, d2, a2.st, r', r2, hc, oR_noX2 (σ' := σ) h2⟩
    · exact h2.elim
end
end FR

set_option Elab.async false
set_option linter.all false
set_option maxRecDepth 100000
set_option maxHeartbeats 1000000
namespace FR
open PySem PySem.Spec PyProof.Rows L2
section
variable {X : Cx} {W : WX} {e : Expr} {es : List Expr} {pos p2 : Pos}
/-! slices -/
abbrev FI := FR.Env → Store → R (Option Int)
def tO (K : PySem.W.Frag) (W : WX) (f : FI) : TO := fun σ H Q => ∃ w ρ S, At K w σ H ρ S ∧ oR K W σ w H (fun _ H' _ o => Q o H') (f ρ S)
theorem tO_of {K : PySem.W.Frag} {f : FI} {σ : L2.St} {H : Hp} {Q : Option Int → Hp → Prop} {w : Wd} {ρ : FR.Env} {S : Store} {G : Wd → Hp → Store → Option Int → Prop} (a : At K w σ H ρ S) (h : oR K W σ w H G (f ρ S))
    (hG : ∀ w' H' S' b, Step w H w' H' → At K w' σ H' ρ S' → G w' H' S' b → Q b H') : tO K W f σ H Q :=
  ⟨w, ρ, S, a, oR_imp h fun w' H' S' d st sr g => hG w' H' S' d st (a.to st sr) g⟩
abbrev SP (X : Cx) (W : WX) (lo : Option Expr) (f : FI) : Prop := PO X lo (tO X.K W f)
def iNo : FI := fun _ S => .ok none S
def kAt : D → Store → R (Option Int) := fun d S => match d with
  | .p (.int i) => .ok (some i) S
  | _ => .stuck
def iAt (f : FE) : FI := fun ρ S => (f ρ S).bind kAt
theorem sp_no : SP X W none iNo := ⟨fun pins s σ H Q I ⟨w, ρ, S, a, h⟩ => po_none.run pins s σ H Q I (h w H (Step.refl _ _ a.ok) a.st)⟩
theorem sp_at {f : FE} (hE : SE X W e f) : SP X W (some e) (iAt f) := ⟨fun pins s σ H Q I ⟨w, ρ, S, a, h⟩ => (po_some hE).run pins s σ H Q I (tE_of a (oR_bind a.ok h) fun w1 H1 S1 d v st a1 h1 r => by
  unfold kAt at h1
  split at h1
  · rename_i i
    obtain rfl := rep_int r
    exact ⟨i, rfl, h1 w1 H1 (Step.refl _ _ a1.ok) a1.st⟩
  · exact h1.elim)⟩
def cutP {α : Type} (l : List α) (lo hi : Option Int) : List α := (l.drop (HT.sIx l.length 0 lo)).take (HT.sIx l.length l.length hi - HT.sIx l.length 0 lo)
theorem Reps.drop {K : PySem.W.Frag} {L : Addr → Prop} {H : Hp} : ∀ {vs : List V} {l : List P} (n : Nat), Reps K L H vs l → Reps K L H (vs.drop n) (l.drop n)
  | _, _, 0, r => r
  | _, _, _ + 1, .nil => .nil
  | _, _, n + 1, .cons _ t => Reps.drop n t
theorem Reps.take {K : PySem.W.Frag} {L : Addr → Prop} {H : Hp} : ∀ {vs : List V} {l : List P} (n : Nat), Reps K L H vs l → Reps K L H (vs.take n) (l.take n)
  | _, _, 0, r => by rw [List.take_zero, List.take_zero]; exact .nil
  | _, _, _ + 1, .nil => .nil
  | _, _, n + 1, .cons h t => .cons h (Reps.take n t)
theorem Reps.cut {K : PySem.W.Frag} {L : Addr → Prop} {H : Hp} {vs : List V} {l : List P} (lo hi : Option Int) (r : Reps K L H vs l) : Reps K L H (cutV vs lo hi) (cutP l lo hi) := by
  unfold cutV cutP
  rw [Reps.length r]
  exact Reps.take _ (Reps.drop _ r)
def gSl (o : D) (lo hi : Option Int) (S : Store) : R D := match o with
  | .p (.lst l) => .ok (.p (.lst (cutP l lo hi))) S
  | .p (.tup l) => .ok (.p (.tup (cutP l lo hi))) S
  | .r n => (match S[n]? with
    | some (.lst l) => (match pureL l with
      | some k => .ok (.p (.lst (cutP k lo hi))) S
      | none => .stuck)
    | _ => .stuck)
  | _ => .stuck
def kSl3 (o : D) (lo : Option Int) : Option Int → Store → R D := fun hi S => gSl o lo hi S
def kSl2 (fh : FI) (ρ : FR.Env) (o : D) : Option Int → Store → R D := fun lo S => (fh ρ S).bind (kSl3 o lo)
def kSl1 (fl fh : FI) (ρ : FR.Env) : D → Store → R D := fun o S => (fl ρ S).bind (kSl2 fh ρ o)
def fSl (fo : FE) (fl fh : FI) : FE := fun ρ S => (fo ρ S).bind (kSl1 fl fh ρ)
theorem se_sl {a : Expr} {lo hi : Option Expr} {fa : FE} {fl fh : FI} (ha : SE X W a fa) (hl : SP X W lo fl) (hu : SP X W hi fh) : SE X W (.Subscript a (.Slice lo hi none p2) pos) (fSl fa fl fh) :=
  (pe_slice (SlR.or sl_list sl_tupA) ha hl hu).imp fun σ H Q ⟨w, ρ, S, a, h⟩ => tE_of a (oR_bind a.ok h) fun w1 H1 S1 d v st a1 h1 r => tO_of a1 (oR_bind a1.ok h1) fun w2 H2 S2 l st2 a2 h2 => tO_of a2 (oR_bind a2.ok h2) fun w3 H3 S3 u st3 a3 h3 => by
    have r' := (r.step a1.ok st2).step a2.ok st3
    unfold kSl3 gSl at h3
    split at h3
    · rename_i k
      cases r' with
      | lst hh rr =>
        refine .inl ⟨_, _, rfl, hh.sq, fun p hp => ?_⟩
        obtain ⟨st4, sr4⟩ := lay_pure (o := .lst _) a3.st hp
        exact h3 w3 _ st4 sr4 (.ref p) (show DRep X.K w3 _ _ (.p (.lst _)) from .lst (.inl ⟨upd_same, nL_of a3.st hp⟩) (Reps.cut l u (Reps.step a3.ok st4 rr)))
    · rename_i k
      cases r' with
      | tup hh rr =>
        refine .inr ⟨_, _, rfl, hh, fun hw => ?_, fun hw p hp => ?_⟩
        · have e : cutP k l u = k := by
            unfold cutP
            rw [← Reps.length rr, hw.1, hw.2, List.drop_zero, Nat.sub_zero, Reps.length rr, List.take_length]
          rw [e] at h3
          exact h3 w3 _ (Step.refl _ _ a3.ok) a3.st _ (show DRep X.K w3 _ _ (.p (.tup k)) from .tup hh rr)
        · obtain ⟨st4, sr4, r4⟩ := lay_tup a3.st hp (Reps.cut l u rr)
          exact h3 w3 _ st4 sr4 (.ref p) r4
    · rename_i n
      split at h3
      · rename_i l0 hS
        split at h3
        · rename_i k hk
          obtain ⟨ad, vs, e1, e2, e3⟩ := a3.st.cell n _ hS
          rw [pureL_eq hk] at e3
          refine .inl ⟨ad, vs, r'.2 ad e1, .inl (.inl e2), fun p hp => ?_⟩
          obtain ⟨st4, sr4⟩ := lay_pure (o := .lst _) a3.st hp
          exact h3 w3 _ st4 sr4 (.ref p) (show DRep X.K w3 _ _ (.p (.lst _)) from .lst (.inl ⟨upd_same, nL_of a3.st hp⟩) (Reps.cut l u (Reps.step a3.ok st4 e3.pure)))
        · exact h3.elim
      · exact h3.elim
    · exact h3.elim
section
variable (ρ : FR.Env) (S : Store)
theorem fSl_ap (fo : FE) (fl fh : FI) : fSl fo fl fh ρ S = (fo ρ S).bind (kSl1 fl fh ρ) := rfl
theorem kSl1_ap (fl fh : FI) (o : D) : kSl1 fl fh ρ o S = (fl ρ S).bind (kSl2 fh ρ o) := rfl
theorem kSl2_ap (fh : FI) (o : D) (lo : Option Int) : kSl2 fh ρ o lo S = (fh ρ S).bind (kSl3 o lo) := rfl
theorem kSl3_l (l : List P) (lo hi : Option Int) : kSl3 (.p (.lst l)) lo hi S = .ok (.p (.lst (cutP l lo hi))) S := rfl
theorem kSl3_t (l : List P) (lo hi : Option Int) : kSl3 (.p (.tup l)) lo hi S = .ok (.p (.tup (cutP l lo hi))) S := rfl
theorem iNo_ap : iNo ρ S = .ok none S := rfl
theorem iAt_ap (f : FE) : iAt f ρ S = (f ρ S).bind kAt := rfl
theorem kAt_ap (i : Int) : kAt (.p (.int i)) S = .ok (some i) S := rfl
theorem cutP_nat (l : List P) (a b : Nat) (hb : b ≤ l.length) (ha : a ≤ b) : cutP l (some (a : Int)) (some (b : Int)) = (l.drop a).take (b - a) := by
  unfold cutP
  rw [HT.sIx_nat, HT.sIx_nat, Nat.min_eq_left hb, Nat.min_eq_left (by omega)]
end
end
end FR

set_option Elab.async false
set_option linter.all false
set_option maxRecDepth 100000
set_option maxHeartbeats 1000000
namespace FR
open PySem PySem.Spec PyProof.Rows L2
section
variable {X : Cx} {W : WX} {e : Expr} {es : List Expr} {pos p2 : Pos}
/-! for i, x in enumerate(a list) -/
def enumP (k : List P) : List D := k.mapIdx fun i q => .p (.tup [.int (i : Nat), q])
def srcE : List D → Store → R Src := fun ds S => match ds with
  | [.p (.lst l)] => .ok (enumP l, none) S
  | [.r n] => (match S[n]? with
    | some (.lst l) => (match pureL l with
      | some k => .ok (enumP k, some (n, l)) S
      | none => .stuck)
    | _ => .stuck)
  | _ => .stuck
theorem srcE_ok {ds : List D} {S S1 : Store} {src : Src} (h : srcE ds S = .ok src S1) : ∃ d k, ds = [d] ∧ S1 = S ∧ src.1 = enumP k ∧ srcL d S = .ok (k.map .p, src.2) S := by
  unfold srcE at h
  split at h
  · rename_i l
    cases h
    exact ⟨_, l, rfl, rfl, rfl, rfl⟩
  · rename_i n
    split at h
    · rename_i l e
      split at h
      · rename_i k hk
        cases h
        refine ⟨_, k, rfl, rfl, rfl, ?_⟩
        show (match S[n]? with
          | some (.lst l) => R.ok (l, some (n, l)) S
          | _ => .stuck) = _
        rw [e]
        have := pureL_eq hk
        subst this
        rfl
      · cases h
    · cases h
  · cases h
theorem enum_get {k : List P} {i : Nat} {d : D} (h : (enumP k)[i]? = some d) : ∃ q, k[i]? = some q ∧ d = .p (.tup [.int (i : Nat), q]) := by
  unfold enumP at h
  rw [List.getElem?_mapIdx] at h
  cases e : k[i]? with
  | none => rw [e] at h; cases h
  | some q => rw [e] at h; cases h; exact ⟨q, rfl, rfl⟩
theorem enum_len (k : List P) : (enumP k).length = k.length := by
  unfold enumP
  rw [List.length_mapIdx]
theorem si_enum {elts : List Expr} {kk : Nat} {tpos p : Pos} {f : FA} (hm : X.mg "enumerate" = none) (ha : SA X W [e] f) (hg : Gl X "enumerate" := by rfl) (hs : starEach [e] X.env = [(false, eval e X.env)] := by rfl) :
    SI X W (.Tuple elts kk tpos) (.Call (.Name "enumerate" p) [e] [] pos) (iOfA srcE f) :=
  (pi_enum hg hm ha hs).imp fun σ H Q ⟨w, ρ, S, a, h⟩ => tA_of a (oR_bind a.ok h) fun w1 H1 S1 ds vs st a1 h1 r => by
    cases q : srcE ds S1 with
    | stuck => rw [q] at h1; exact h1.elim
    | exc x S2 =>
      exfalso
      unfold srcE at q
      split at q
      · cases q
      · split at q
        · split at q
          · cases q
          · cases q
        · cases q
      · cases q
    | ok src S2 =>
      rw [q] at h1
      obtain ⟨d, k, rfl, rfl, e1, e2⟩ := srcE_ok q
      obtain ⟨v, rfl, hv⟩ := reps_one r
      obtain ⟨ad, rfl, ⟨xs0, hx⟩, hs'⟩ := src_list a1.st hv e2
      refine ⟨ad, xs0, rfl, hx, h1 w1 H1 (Step.refl _ _ a1.ok) a1.st _ ?_⟩
      intro w' H' S' st' sr' hc i
      obtain ⟨us, hq, rr⟩ := hs' w' H' S' st' sr' hc
      have hl : us.length = k.length := by rw [rr.length, List.length_map]
      rw [e1]
      refine ⟨fun hle => ⟨us, hq, by rw [hl, ← enum_len]; exact hle⟩, fun d2 hd => ?_⟩
      obtain ⟨z, hz, rfl⟩ := enum_get hd
      obtain ⟨u, g1, g2⟩ := rr.get (show (k.map D.p)[i]? = some (.p z) by rw [List.getElem?_map, hz]; rfl)
      refine ⟨⟨us, u, hq, g1⟩, fun y H'' hy => ?_⟩
      obtain ⟨T, x, rfl, hT, rfl, hall⟩ := hy
      have hxu := hall us hq
      rw [g1] at hxu
      cases hxu
      exact lay_tup sr' hT (.cons (.int _) (.cons g2 .nil))
section
variable (S : Store)
theorem srcE_l (l : List P) : srcE [.p (.lst l)] S = .ok (enumP l, none) S := rfl
theorem srcE_0 (k : List P) : srcE [.r 0] (.lst (k.map D.p) :: S) = .ok (enumP k, some (0, k.map D.p)) (.lst (k.map D.p) :: S) := by
  show (match pureL (k.map .p) with
      | some k' => R.ok (enumP k', some (0, k.map D.p)) (.lst (k.map D.p) :: S)
      | none => .stuck) = _
  rw [pureL_map]
end
end
end FR

set_option Elab.async false
set_option linter.all false
set_option maxRecDepth 100000
set_option maxHeartbeats 1000000
namespace FR
open PySem PySem.Spec PyProof.Rows L2
section
variable {X : Cx} {W : WX} {e : Expr} {es : List Expr} {pos : Pos}
/-! len(o) by an own __len__ that raises nothing -/
def gLenO (c : Cn) (F : Fn) : List D → Store → R D := fun ds S => match ds with
  | [x] => if isIns c x S = true then (noX (callN .P 1 F [] [x] S)).bind fun d S' => (match d with
    | .p (.int n) => if 0 ≤ n ∧ n < 9223372036854775808 then .ok (.p (.int n)) S' else .stuck
    | _ => .stuck) else .stuck
  | _ => .stuck
theorem ca_lenO {c : Cn} {f : Addr} {k : Nat} {F : Fn} (B : HasOk X.K c "__len__" f) (C : XDef X f k 1 [] F) (hr : Room (k + 1) X.A) : CaF X W (.builtin "len") (gLenO c F) := by
  intro pins s σ H w ρ S xs ds us Q I a dr r q
  unfold gLenO at q
  split at q
  · split at q
    · rename_i x hc
      obtain ⟨v, rfl, hv⟩ := reps_one dr
      obtain ⟨a1, d1, f1, rfl, h1, _⟩ := ins_at a.st hv hc
      obtain ⟨u, rfl, ru⟩ := vals1 r
      obtain rfl : u = Value.ref a1 := ru
      obtain ⟨od, J⟩ := inst_of I h1
      have q' : oR X.K W σ w H (qE X.K fun v H' => ∃ n : Int, v = V.int n ∧ 0 ≤ n ∧ n < 9223372036854775808 ∧ Q (.int n) H') (noX (callN .P 1 F [] [x] S)) := by
        refine oR_imp (oR_bind a.ok q) fun w' H' S' d st sr g' v r => ?_
        revert r
        split at g'
        · intro r
          split at g'
          · rename_i n hn
            exact ⟨n, rep_int r, hn.1, hn.2, g' w' H' (Step.refl _ _ sr.ok) sr (.int n) (.int n)⟩
          · exact g'.elim
        · exact g'.elim
      refine PySem.Calls.call_function_entry kind_len plain_len entry_len (args_len1 _) ?_
      unfold Builtin.«len»
      refine wpAny_bind (m := oneArg "len" _) (wpAny_pure ?_)
      refine wpAny_bind (m := callSpecial? (.ref a1) (Str.ofString "__len__")) (PySem.W.special_fn I.kIn J B.hs (beq_iff_eq.mp B.hf) ?_)
      refine wpAny_mono (go_in1 (us := [Value.ref a1]) (vs := [V.ref a1]) .P C hr I (.cons rfl .nil) a.st (.cons hv .nil) q') (fun z s' hz => ?_) (fun _ _ hz => hz)
      obtain ⟨y, H', I', ry, n, rfl, h0, h2, hq⟩ := hz
      obtain ⟨t, rfl⟩ := ry
      refine wpAny_bind (wpAny_holding (wpAny_pure ?_))
      refine wpAny_bind (wpAny_letGo ?_)
      show wpAny _ _ (if n < 0 then _ else _) _ _ _
      rw [if_neg (by omega)]
      show wpAny _ _ (if n ≥ 2 ^ 63 then _ else _) _ _ _
      rw [if_neg (by omega)]
      exact wpAny_bind (wpAny_mkInt (wpAny_pure ⟨_, rfl, ⟨V.int n, H', I'.tok _, ⟨_, rfl⟩, hq⟩⟩))
    · exact q.elim
  · exact q.elim
end
end FR

set_option Elab.async false
set_option linter.all false
set_option maxRecDepth 100000
set_option maxHeartbeats 1000000
namespace FR
theorem map3 {α β γ δ : Type} {X : Option α} {f : α → β} {g : α → γ} {h : α → δ} {a : β} {b : γ} {c : δ} (e1 : X.map f = some a) (e2 : X.map g = some b) (e3 : X.map h = some c) : X.map (fun x => (f x, g x, h x)) = some (a, b, c) := by
  cases X with
  | none => cases e1
  | some x =>
    have e1 : some (f x) = some a := e1
    have e2 : some (g x) = some b := e2
    have e3 : some (h x) = some c := e3
    cases e1
    cases e2
    cases e3
    rfl
end FR
namespace FR
open PySem PySem.Spec PyProof.Rows L2
/-! the Hook over written addresses: looking for them in the kernel takes too much memory -/
def obsAG (as : List Addr) (fx : List Fx) (fn : List DefX) (g : Addr → Option Obj) : AlX := obsX fx fn (He.frG g (as ++ [PySem.cStatics]))
def hookA (as : List Addr) (fx : List Fx) (fn : List DefX) : PySem.W.Hook where
  α := AlX
  obs := fun s => obsAG as fx fn s.heap.get?
  val := fun _ => valX fn
  says := fun _ h => ∃ K : PySem.W.Frag, K.In h ∧ SaysX fx fn K
  of := fun _ _ e => ⟨_, He.frG_in, e⟩
  keeps := fun _ _ _ ⟨K, hK, c⟩ k => ⟨K, PySem.W.Frag.In.keeps hK k, c⟩
theorem obsAG_eq {as : List Addr} {fx : List Fx} {fn : List DefX} {g : Addr → Option Obj} {s : Shared} (h : ∀ a, g a = s.heap.get? a) : obsAG as fx fn g = (hookA as fx fn).obs s := by
  have e : g = s.heap.get? := funext h
  rw [e] <;> rfl
end FR

set_option Elab.async false
set_option linter.all false
set_option maxRecDepth 100000
set_option maxHeartbeats 1000000
/-! a list comprehension whose element may raise -/
namespace FR
open PySem PySem.Spec PyProof.Rows L2
section
theorem noteFrame_eq {x : Value} {e1 e2 : PySem.Env} (h : e1.frame = e2.frame) : noteFrame x e1 = noteFrame x e2 := by
  unfold noteFrame PySem.frameOf
  rw [h]
/-- the environment behind XE does not hang on xe -/
theorem inv_xe {X : Cx} {xe : Value → Shared → Prop} {pins : List (Addr × Obj)} {σ : L2.St} {H : Hp} {s : Shared} (I : Inv { X with xe := xe } pins σ H s) : Inv X pins σ H s := by
  obtain ⟨⟨a1, a2, a3, a4, a5, a6, a7, a8, a9, a10, a11, a12, a13, a14, a15, a16, a17, a18⟩, b1, b2, b3, b4, b5, b6, b7, b8, b9, b10⟩ := I
  exact ⟨⟨a1, a2, a3, a4, a5, a6, a7, a8, a9, a10, a11, a12, a13, a14, a15, a16, a17, a18⟩, b1, b2, b3, b4, b5, b6, b7, b8, b9, b10⟩
theorem xe_inv {X : Cx} {xe : Value → Shared → Prop} {pins : List (Addr × Obj)} {σ : L2.St} {H : Hp} {s : Shared} (I : Inv X pins σ H s) : Inv { X with xe := xe } pins σ H s := by
  obtain ⟨⟨a1, a2, a3, a4, a5, a6, a7, a8, a9, a10, a11, a12, a13, a14, a15, a16, a17, a18⟩, b1, b2, b3, b4, b5, b6, b7, b8, b9, b10⟩ := I
  exact ⟨⟨a1, a2, a3, a4, a5, a6, a7, a8, a9, a10, a11, a12, a13, a14, a15, a16, a17, a18⟩, b1, b2, b3, b4, b5, b6, b7, b8, b9, b10⟩
theorem xe_xe {X : Cx} {xe : Value → Shared → Prop} {W : WX} {u : Value} {s' : Shared} (h : XE { X with xe := xe } W u s') : XE X W u s' := by
  obtain ⟨a, B, sI, pins, σ, H, cls, d, e, I, r⟩ := h
  exact ⟨a, B, sI, pins, σ, H, cls, d, e, inv_xe I, r⟩
/-- an exception held by whatever frame is noted by this one -/
theorem looks_anyZ {M : Model} {A : Around} {E : Value → Shared → Prop} {s : Shared} {base : Heap} {env : PySem.Env} {outer : List PySem.Env} {e : Addr} {Z : Obj → Prop} {L C : Addr} {Q : Unit → Shared → Prop} (hZ : HandSPX.Steady Z) (hfr : A.frames = some (env :: outer)) (hf : env.frame = some L)
    (hfl : HandSPX.HeldZ base (env :: outer) e Z C s.heap) (hQ : ∀ h', HandSPX.HeldZ base (env :: outer) e Z L h' → s.heap.UpToSlots h' → Q () { s with heap := h' }) : wpAny M A (noteFrame (.ref e) env) Q E s := by
  by_cases hCL : C = L
  · subst hCL
    exact HandSPX.againZ hf hfl.2.2.2 (hQ s.heap hfl (Heap.UpToSlots.refl _))
  obtain ⟨hkb, hen, hl, oe, vs, T, oT, ts, he, hz, hd, h1, hnT, hTe, hT, hdT, h3⟩ := hfl
  unfold noteFrame
  simp only [hf]
  refine wpAny_bind (wpAny_field he hd h1 ?_)
  rw [if_pos (show (Value.ref T != Value.none) = true from by simp)]
  refine wpAny_bind (wpAny_field hT hdT h3 ?_)
  rw [if_neg (show ¬ ((rawInt C == rawInt L) = true) from by
    intro q
    have q : rawInt (C : Int) = rawInt (L : Int) := by simpa using q
    unfold rawInt at q
    injection q with q
    first | exact hCL (Int.ofNat_inj.mp q) | exact hCL (Int.ofNat.inj q) | exact hCL q)]
  refine wpAny_bind (wpAny_setField hT hdT (Array.getElem?_eq_some_iff.mp h3).1 ?_)
  have other : ∀ b, b ≠ T → (s.heap.update T (Obj.mapFields (·.setIfInBounds 3 Value.none))).get? b = s.heap.get? b := fun b hb => Heap.get?_update_other _ _ (Ne.symm hb)
  have noRecord : ∀ b o, s.heap.get? b = some o → (∀ vs, o.data ≠ .fields vs) → b ≠ T := fun b o hb hnf q => by
    rw [q, hT] at hb; injection hb with hb; subst hb; exact hnf ts hdT
  refine HandSPX.wpAny_entryZ hZ hfr (hl.of_keeps fun b o hb hnf => ⟨o, (other b (noRecord b o hb hnf)).trans hb, rfl⟩) hf ((other e (Ne.symm hTe)).trans he)
    (fun b o hbo => (other b fun q => by rw [q, hnT] at hbo; cases hbo).trans (hkb b o hbo)) hen hd (Array.getElem?_eq_some_iff.mp h1).1 hz fun h' hN => ?_
  obtain ⟨x1, x2, x3, x4⟩ := hN
  exact hQ h' ⟨x1, hen, x2, x3⟩ fun b o hb hnf => x4 b o ((other b (noRecord b o hb hnf)).trans hb) hnf
theorem frames_but {B h h2 : Heap} {C : Addr} (sb : Heap.SameBut C h h2) : ∀ {l : List PySem.Env}, C ∉ frs l → h.FunFrames B l → h2.FunFrames (PySem.W.hideAll B [C]) l
  | [], _, _ => trivial
  | env :: rest, hC, hl => by
    obtain ⟨hk, ⟨L, o, hf, hn, ho, hd⟩, hr⟩ := hl
    have hC' : C ∉ frs rest := fun z => hC (by
      unfold frs
      rw [List.filterMap_cons, hf]
      exact List.mem_cons_of_mem _ z)
    have hL : L ≠ C := fun z => hC (by
      unfold frs
      rw [List.filterMap_cons, hf, z]
      exact List.mem_cons_self)
    refine ⟨hk, ⟨L, o, hf, ?_, (sb.2 L hL).trans ho, hd⟩, frames_but sb hC' hr⟩
    cases q : (PySem.W.hideAll B [C]).get? L with
    | none => rfl
    | some o =>
      have := PySem.W.of_hideAll _ q
      rw [hn] at this
      cases this
/-- base, without one object that is no frame and no record -/
theorem held_but {B h h2 : Heap} {l : List PySem.Env} {a C L : Addr} {Z : Obj → Prop} (hd : HandSPX.HeldZ B l a Z L h) (sb : Heap.SameBut C h h2) {m : Str → Option Value} (hn : h.Ns C m) (hC : C ∉ frs l) :
    HandSPX.HeldZ (PySem.W.hideAll B [C]) l a Z L h2 := by
  obtain ⟨k1, k2, k3, oe, vs, T, oT, ts, he, hz, hd, h1, hnT, hTe, hT, hdT, h3⟩ := hd
  obtain ⟨oc, es, ep, ho, hdc, _⟩ := hn
  have ne : ∀ {b : Addr} {o : Obj} {xs : Array Value}, h.get? b = some o → o.data = .fields xs → b ≠ C := fun hb hx z => by
    rw [z, ho] at hb
    cases hb
    rw [hdc] at hx
    cases hx
  refine ⟨fun b o hb => ?_, ?_, ?_, oe, vs, T, oT, ts, (sb.2 a (ne he hd)).trans he, hz, hd, h1, ?_, hTe, (sb.2 T (ne hT hdT)).trans hT, hdT, h3⟩
  · have hb2 := PySem.W.of_hideAll _ hb
    refine (sb.2 b fun z => ?_).trans (k1 b o hb2)
    rw [z, PySem.W.hideAll_none _ (by simp)] at hb
    cases hb
  · cases q : (PySem.W.hideAll B [C]).get? a with
    | none => rfl
    | some o =>
      have := PySem.W.of_hideAll _ q
      rw [k2] at this
      cases this
  · exact frames_but sb hC k3
  · cases q : (PySem.W.hideAll B [C]).get? T with
    | none => rfl
    | some o =>
      have := PySem.W.of_hideAll _ q
      rw [hnT] at this
      cases this
/-- compPost, the block's environment known -/
def compPostX (M : Model) (A : Around) (E : Value → Shared → Prop) (Q : Value → Shared → Prop) (acc : Value) (cenv : PySem.Env) (r : Result) (s' : Shared) : Prop :=
  match r with
  | .ok _ => ∃ m, s'.heap.Ns cenv.locals m ∧ ∀ h', Heap.SameBut cenv.locals s'.heap h' → Q acc { s' with heap := h' }
  | .error x => ∃ m, s'.heap.Ns cenv.locals m ∧ ∀ h', Heap.SameBut cenv.locals s'.heap h' → wpAny M A (PySem.passOn "comprehension.variables-let-go" x cenv : Sem Value) (fun _ _ => False) E { s' with heap := h' }
theorem compX {M : Model} {A : Around} {E : Value → Shared → Prop} {s : Shared} {env : PySem.Env} {e : Expr} {scope : Scope} {pos : Pos} {newAcc first : Sem Value} {g : Comprehension} {gs : List Comprehension} {cl : List (Str × Addr)}
    {Q : Value → Shared → Prop}
    (hcl : clausesOf e = g :: gs) (hs : ∀ x, foldedSetIterable g.iter env x = pure x) (hclos : closureFor scope env = pure cl)
    (hkind : scope.kind = .function) (hnames : ∀ x ∈ scope.names, x.2 = .local → scope.names.lookup x.1 = some .local)
    (h : wpAny M A first (fun x s₁ => wpAny M A (pyIter x) (fun it s₂ => wpAny M A newAcc (fun acc s₃ =>
      wpAny M A (newFunctionEnv scope env.globals cl [] env.qual none .none (some env)) (fun cenv s₄ =>
        codeAny M A (.compStart e 0 it acc { cenv with scope := relabel scope env }) (compPostX M A E Q acc { cenv with scope := relabel scope env }) s₄) E s₃) E s₂) E s₁) E s) :
    wpAny M A (comprehension e scope env pos newAcc false first none) Q E s := by
  unfold comprehension
  rw [hclos, hcl]
  refine wpAny_bind (wpAny_mono h (fun x s₁ h₁ => wpAny_bind (wpAny_standAt (wpAny_bind (wpAny_of_eq (hs x) (wpAny_bind (wpAny_holding (wpAny_mono h₁ (fun it s₂ h₂ =>
    wpAny_standIf (wpAny_bind (wpAny_mono h₂ (fun acc s₃ h₃ => wpAny_bind (wpAny_pure (wpAny_bind (wpAny_mono h₃ (fun cenv s₄ h₄ => ?_) fun _ _ h' => h')))) fun _ _ h' => h')))
      fun _ _ h' => h'))))))) fun _ _ h' => h')
  dsimp only
  have hv : ∀ x ∈ (scope.names.filter fun x => (x.2 == .local || x.2 == .cell) && x.1 != (".0" : Str)).reverse, x.2 = .local →
      Env.kindOf { cenv with scope := relabel scope env } x.1 = some .local := fun x hx hl => lookup_relabel_local (hnames x (List.mem_filter.mp (List.mem_reverse.mp hx)).1 hl)
  refine wpAny_holding (wpAny_bind (wpAny_attempt (wpAny_holding (wpAny_run (codeAny_mono h₄ fun r s' hr => ?_)))))
  cases r with
  | ok f =>
    obtain ⟨m, hn, hr⟩ := hr
    exact wpAny_bind (wpAny_holding (wpAny_comp_letGo (cenv := { cenv with scope := relabel scope env }) hkind _ s' m hv hn fun h' m' _ hs' => wpAny_pure (hr h' hs')))
  | error x =>
    obtain ⟨m, hn, hr⟩ := hr
    exact wpAny_bind (wpAny_holding (wpAny_comp_letGo (cenv := { cenv with scope := relabel scope env }) hkind _ s' m hv hn fun h' m' _ hs' => wpAny_mono (hr h' hs') (fun _ _ f => f.elim) fun _ _ y => y))
/-- what flies out of the block is in the def's air -/
theorem block_exit {X : Cx} {W : WX} {pins : List (Addr × Obj)} {σ : L2.St} {H3 : Hp} {s3 s' : Shared} {scope : Scope} {ce : PySem.Env} {fp : List Addr} {E : XK} {u : Value} {Q : Value → Shared → Prop} {acc : Value}
    (hst : X.stack = X.env :: X.outer) (hfr : X.env.frame = some X.env.locals) (tk : Takes X W) (hE : ∀ c d H', E c d H' → W c d σ H')
    (I3 : Inv X pins σ H3 s3) (f3 : ∀ b ∈ fp, FpOk X pins H3 b ∧ b < s3.heap.objs.size) (hcl : ce.locals = s3.heap.objs.size) (hcf : ce.frame = X.env.frame)
    (x : XE (X.blk s3 H3 scope ce fp) (wE E) u s') :
    notedBy (model X.prog X.w) X.A ce (fun e s'' => compPostX (model X.prog X.w) X.A X.xe Q acc ce (.error e) s'') u s' := by
  obtain ⟨a, B, sI, pinsI, σI, HI, cls, d, rfl, I6, nb, up, sky, na, os, ag, w⟩ := x
  have hA : X.A.frames = some (X.env :: X.outer) := by rw [I3.ok.frames, hst]
  have sky : Sky B (X.env :: X.outer) a (Zc cls d) ce.locals s'.heap := by
    have z : Sky B X.stack a (Zc cls d) ce.locals s'.heap := sky
    rw [hst] at z
    exact z
  have nC : HI s3.heap.objs.size = none := by
    have z : HI ce.locals = none := I6.free
    rw [hcl] at z
    exact z
  have FC := I3.fpOk (Nat.le_refl _) nC
  have I7 : Inv X pins σ HI sI := I3.call' (ch := fp) I6.os I6.base I6.hok I6.bare fun b hb => ⟨(f3 b hb).1.2.2.2.1, (f3 b hb).1.2.1, (f3 b hb).1.2.2.2.2.1, (f3 b hb).1.2.2.2.2.2⟩
  obtain ⟨m, hn0, _⟩ := I6.loc
  have hn : sI.heap.Ns ce.locals m := hn0
  have hCs : ce.locals ∉ frs (X.env :: X.outer) := by
    rw [hcl]
    intro z
    unfold frs at z
    rw [List.filterMap_cons, hfr] at z
    rcases List.mem_cons.mp z with z | z
    · exact FC.2.1 z
    · exact FC.2.2.1 z
  have fin : ∀ h', HandSPX.HeldZ B (X.env :: X.outer) a (Zc cls d) X.env.locals h' → s'.heap.UpToSlots h' → compPostX (model X.prog X.w) X.A X.xe Q acc ce (.error (.ref a)) { s' with heap := h' } := by
    intro h' hd up'
    have nsh : h'.Ns ce.locals m := up'.ns (up.ns hn)
    refine ⟨m, nsh, fun h2 sb => ?_⟩
    have hd2 := held_but hd sb nsh hCs
    obtain ⟨_, _, _, oe, vs, T, oT, ts, he, hz, hdd, h1, _⟩ := hd2
    have hd2 := held_but hd sb nsh hCs
    unfold PySem.passOn
    refine wpAny_bind (wpAny_field he hdd h1 ?_)
    rw [if_neg (by simp)]
    rw [hcf, hfr]
    refine wpAny_bind (HandSPX.setFlight_onZ hd2 fun h4 hd4 up4 => wpAny_throw ?_)
    refine tk _ _ ⟨a, PySem.W.hideAll B [ce.locals], { sI with heap := PySem.W.hideAll sI.heap [ce.locals] }, pins, σ, HI, cls, d, rfl, ?_, ?_, ?_, ?_, na, os, ag, hE _ _ _ w⟩
    · obtain ⟨f0, f1, f2, f3, f4, f5⟩ := FC
      have := I7.turned (t' := sI.toks) (h' := PySem.W.hideAll sI.heap [ce.locals]) (it := s3.heap.objs.size) (fun b o hb e => PySem.W.hideAll_get _ e (by rw [hcl]; simpa using hb)) f0 f1 f3 f4 f5
      exact this
    · intro b o hb hbf
      have hb' := PySem.W.of_hideAll _ hb
      refine PySem.W.hideAll_get _ (nb b o hb' hbf) fun z => ?_
      rw [List.mem_singleton.mp z, PySem.W.hideAll_none _ (by simp)] at hb
      cases hb
    · intro b o hb hnf
      have hb' := PySem.W.of_hideAll _ hb
      have hbC : b ≠ ce.locals := fun z => by
        rw [z, PySem.W.hideAll_none _ (by simp)] at hb
        cases hb
      obtain ⟨sl1, q1⟩ := up b o hb' hnf
      obtain ⟨sl2, q2⟩ := up' b _ q1 hnf
      obtain ⟨sl3, q3⟩ := up4 b _ ((sb.2 b hbC).trans q2) hnf
      exact ⟨sl3, q3⟩
    · rw [hst]
      exact .inr (.inr hd4)
  unfold notedBy
  rw [noteFrame_eq hcf]
  rcases sky with ⟨hB, hn, hl, oe, vs, he, hz, hd, h1⟩ | fl | hd
  · exact HandSPX.look_newZ Zc.steady hA hl hfr he hB hn hd h1 hz fin
  · exact HandSPX.looks_onZ Zc.steady hA hfr fl fin
  · exact looks_anyZ Zc.steady hA hfr hd fin
abbrev blkX (X : Cx) (s : Shared) (H : Hp) (scope : Scope) (cenv : PySem.Env) (fp : List Addr) (xe : Value → Shared → Prop) : Cx := { X.blk s H scope cenv fp with xe := xe }
/-- a comprehension whose element may raise what W takes: te by what may be raised -/
theorem pe_lcX {X : Cx} {W : WX} {elt tg iter : Expr} {ifs : List Expr} {scope : Scope} {own : List (Str × Nat)} {pos : Pos} {wi : TI} {g : TG} {tt : TT} {te : XK → TE} (hc : X.calm = true) (hN : X.N.Nodup) (hst : X.stack = X.env :: X.outer) (hfr : X.env.frame = some X.env.locals) (tk : Takes X W)
    (hi : PI X tg iter wi) (ok : BlkOk X.N X.env.scope scope own)
    (hg : ∀ (s : Shared) (H : Hp) (C : Addr) (cl : List (Str × Addr)) (fp : List Addr) (xe : Value → Shared → Prop), PG (blkX X s H scope (compEnvC scope cl C X.env) fp xe) tg g)
    (ht : ∀ (s : Shared) (H : Hp) (C : Addr) (cl : List (Str × Addr)) (fp : List Addr) (xe : Value → Shared → Prop), PTs (blkX X s H scope (compEnvC scope cl C X.env) fp xe) ifs tt)
    (he : ∀ (E : XK) (s : Shared) (H : Hp) (C : Addr) (cl : List (Str × Addr)) (fp : List Addr) (xe : Value → Shared → Prop), Takes (blkX X s H scope (compEnvC scope cl C X.env) fp xe) (wE E) → PE (blkX X s H scope (compEnvC scope cl C X.env) fp xe) elt (te E))
    (hs : ∀ x, foldedSetIterable iter X.env x = pure x := by intro _; rfl) :
    PE X (.ListComp elt [⟨tg, iter, ifs, 0⟩] scope pos) (fun σ H Q => tLc wi g tt (te fun c d H' => W c d σ H') (own.map (·.2)) σ H Q) := by
  refine ⟨fun pins s σ H Q I h => ?_⟩
  rw [eval_ListComp]
  have hfree : ∀ y ∈ scope.names, y.2 = .free → ∃ c, X.env.cells.lookup y.1 = some c := fun y hy e => by
    rcases ok.free y hy e with k | k
    · exact I.ok.has _ (.inl k)
    · exact I.ok.has _ (.inr k)
  refine compX rfl hs (closure_ok hfree) ok.kind (fun y hy e => by rw [ok.uniq y hy, e])
    (thn (hi.run pins s σ H _ I h) fun xv s1 hx => thn hx fun itv s2 h2 => ?_)
  obtain ⟨it, fp, tn, J, H2, e, I2, T, st2, f2, q⟩ := h2
  subst e
  refine wpAny_newObj_type (newEnv_comp ?_) (by show 0 ≤ sizeLine; decide)
  generalize hD : s2.heap.objs.size = D
  have hDn : H2 D = none := I2.hok.fresh (Nat.le_of_eq hD)
  obtain ⟨Wt, ⟨m0, w0⟩, turn⟩ := q D hDn
  generalize hs3 : ({ s2 with heap := s2.heap.push { cls := .type "list", data := .seq ([] : List Value).toArray } } : Shared) = s3
  have I3 : Inv X pins σ (upd H2 D (.lst [])) s3 := by
    rw [← hs3]
    refine I2.laid (t' := s2.toks) (fun b o e => Heap.get?_push_of_some _ e) (Nat.le_of_eq hD) ⟨Nat.zero_le _, [], 0, .nil, ?_⟩
    rw [← hD]
    exact Heap.get?_push_size _ rfl
  have h3 : s3.heap = s2.heap.push { cls := .type "list", data := .seq ([] : List Value).toArray } := by rw [← hs3]
  have sz : ∀ b ∈ fp, b < s2.heap.objs.size := fun b hb => by
    obtain ⟨o, e, _⟩ := T.obj _ _ st2 b hb
    exact Heap.lt_size e
  have f3 : ∀ b ∈ fp, FpOk X pins (upd H2 D (.lst [])) b ∧ b < s3.heap.objs.size := fun b hb => by
    have hlt := sz b hb
    refine ⟨⟨?_, (f2 b hb).2⟩, by rw [h3, Heap.size_push]; exact Nat.lt_succ_of_lt hlt⟩
    rw [upd_ne (by rw [← hD]; exact Nat.ne_of_lt hlt)]
    exact (f2 b hb).1
  have st3 : tn 0 s3.heap := T.keep _ _ _ st2 fun b _ o e => by rw [h3]; exact Heap.get?_push_of_some _ e
  have I4 := block_start I3 ok hN f3
  have nfp : ∀ b ∈ fp, (upd H2 D (.lst [])) b = none := fun b hb => (f3 b hb).1.1
  have pg := fun xe => hg s3 (upd H2 D (.lst [])) s3.heap.objs.size (cellsFrom (s3.heap.objs.size + 1) scope.names (cloFrom X.env.cells scope.names [])) fp xe
  have pt := fun xe => ht s3 (upd H2 D (.lst [])) s3.heap.objs.size (cellsFrom (s3.heap.objs.size + 1) scope.names (cloFrom X.env.cells scope.names [])) fp xe
  have pe := fun xe => he (fun c d H' => W c d σ H') s3 (upd H2 D (.lst [])) s3.heap.objs.size (cellsFrom (s3.heap.objs.size + 1) scope.names (cloFrom X.env.cells scope.names [])) fp xe
  show codeAny _ _ (.compStart (.ListComp elt [⟨tg, iter, ifs, 0⟩] scope pos) 0 (.ref it) (.ref D) (compEnvC scope (cellsFrom (s3.heap.objs.size + 1) scope.names (cloFrom X.env.cells scope.names [])) s3.heap.objs.size X.env)) (compPostX (model X.prog X.w) X.A X.xe _ (.ref D) (compEnvC scope (cellsFrom (s3.heap.objs.size + 1) scope.names (cloFrom X.env.cells scope.names [])) s3.heap.objs.size X.env)) { s3 with heap := pushCells (s3.heap.push { cls := .type "dict", data := .dict #[] }) scope.names }
  generalize hce : compEnvC scope (cellsFrom (s3.heap.objs.size + 1) scope.names (cloFrom X.env.cells scope.names [])) s3.heap.objs.size X.env = ce at I4 pg pt pe ⊢
  have cL : ce.locals = s3.heap.objs.size := by subst hce; rfl
  have cF : ce.frame = X.env.frame := by subst hce; rfl
  generalize hH3 : upd H2 D (.lst []) = H3 at I3 I4 pg pt pe w0 nfp f3
  generalize hs4 : ({ s3 with heap := pushCells (s3.heap.push { cls := .type "dict", data := .dict #[] }) scope.names } : Shared) = s4 at I4 ⊢
  have st4 : tn 0 s4.heap := T.keep _ _ _ st3 fun b _ o e => by rw [← hs4]; exact pushCells_keeps _ _ _ _ (Heap.get?_push_of_some _ e)
  -- the block, what flies out of it told
  generalize hxe : (fun u s' => XE (X.blk s3 H3 scope ce fp) (wE fun c d H' => W c d σ H') u s') = xe
  have pg := pg xe
  have pt := pt xe
  have pe := pe xe fun u s' x => by
    rw [← hxe]
    exact xe_xe x
  have out : ∀ u s', xe u s' → notedBy (model X.prog X.w) X.A ce (fun e s'' => compPostX (model X.prog X.w) X.A X.xe (fun v s' => EP X pins σ Q v s') (.ref D) ce (.error e) s'') u s' := fun u s' z => by
    rw [← hxe] at z
    exact block_exit hst hfr tk (fun _ _ _ h => h) I3 f3 cL cF z
  have I4 : Inv (blkX X s3 H3 scope ce fp xe) [] (L2.wipe σ (own.map (·.2))) H3 s4 := xe_inv I4
  have stat : ∀ {σ' : L2.St} {H' : Hp} {s' : Shared}, Inv (blkX X s3 H3 scope ce fp xe) [] σ' H' s' → (∀ b ∈ fp, H' b = none) → ∀ b ∈ fp, FpOk (blkX X s3 H3 scope ce fp xe) [] H' b := fun {σ' H' s'} I' hn b hb =>
    ⟨hn b hb, (I'.ok.exf b hb).1, I'.ok.exfs b hb, .inl hb, fun x c e => (I'.ok.exf b hb).2 x c e, fun p hp => absurd (show p ∈ ([] : List (Addr × Obj)) ++ [] from hp) (by simp)⟩
  have loop : codeAny (model X.prog X.w) X.A (.compLoop (.ListComp elt [⟨tg, iter, ifs, 0⟩] scope pos) 0 (.ref it) (.ref D) ce) (compPostX (model X.prog X.w) X.A X.xe (fun v s' => EP X pins σ Q v s') (.ref D) ce) s4 := by
    refine compLoop_any (fun n s' => ∃ i H', Inv (blkX X s3 H3 scope ce fp xe) [] (L2.wipe σ (own.map (·.2))) H' s' ∧ tn i s'.heap ∧ (∀ b ∈ fp, H' b = none) ∧ Wt i n H') ?_ m0 ⟨0, H3, I4, st4, nfp, w0⟩
    rintro n s5 ⟨i, H5, I5, st5, n5, w5⟩
    rcases turn i n H5 w5 with ⟨stop, qq⟩ | ⟨go, Nx, hNx, step⟩
    · refine thnF (T.done (blkX X s3 H3 scope ce fp xe) rfl rfl rfl hc i [] s5 _ H5 (fun _ _ => False) I5 (stat I5 n5) st5 stop) fun r s6 ⟨hr, I6⟩ => ?_
      subst hr
      have I7 : Inv X pins σ H5 s6 := I3.call' (ch := fp) I6.os I6.base I6.hok I6.bare fun b hb => ⟨(f3 b hb).1.2.2.2.1, (f3 b hb).1.2.1, (f3 b hb).1.2.2.2.2.1, (f3 b hb).1.2.2.2.2.2⟩
      have nC : H5 s3.heap.objs.size = none := by
        have z : H5 ce.locals = none := I6.free
        rw [cL] at z
        exact z
      obtain ⟨m, hn, _⟩ := I6.loc
      obtain ⟨f0, f1, f2, f3', f4, f5⟩ := I3.fpOk (Nat.le_refl _) nC
      refine ⟨m, hn, fun h'' sb => ?_⟩
      rw [cL] at sb
      exact ⟨.ref D, H5, I7.turned (t' := s6.toks) (fun b o hb e => (sb.2 b hb).trans e) f0 f1 f3' f4 f5, rfl, qq⟩
    · refine thnF (T.item (blkX X s3 H3 scope ce fp xe) rfl rfl rfl hc i [] s5 _ H5 (fun _ _ => False) I5 (stat I5 n5) st5 go) fun r s6 ⟨u, hr, h6⟩ => ?_
      subst hr
      refine thnF h6 fun _ s7 ⟨x, H7, I7, r7, y7, st7, n7⟩ => ?_
      have I7' := I7.pinned (stat I7 n7) (T.obj _ _ st7)
      refine wpAny_mono (pg.run _ s7 _ H7 x u _ I7' r7 (step x H7 y7)) (fun _ s8 ⟨σ8, H8, I8, hw8, q8⟩ => ?_) out
      refine wpAny_mono (pt.run _ s8 σ8 H8 _ I8 q8) (fun b s9 ⟨H9, I9, q9⟩ => ?_) out
      have fin : ∀ {s' : Shared} {H' : Hp}, Inv (blkX X s3 H3 scope ce fp xe) ([] ++ pinsAt fp s7.heap) σ8 H' s' → Nx H' → ∃ m, m < n ∧ ∃ i H', Inv (blkX X s3 H3 scope ce fp xe) [] (L2.wipe σ (own.map (·.2))) H' s' ∧ tn i s'.heap ∧ (∀ b ∈ fp, H' b = none) ∧ Wt i m H' := fun {s' H'} I' nx => by
        obtain ⟨m', hm, w'⟩ := hNx H' nx
        have pin' : ∀ b ∈ fp, ∀ o, s7.heap.get? b = some o → s'.heap.get? b = some o ∧ H' b = none := fun b hb o e =>
          let z := I'.pin (b, o) (List.mem_append_right _ (List.mem_append_right _ (mem_pinsAt hb e)))
          ⟨z.1, z.2.1⟩
        have hl : (L2.wipe σ (own.map (·.2))).length = σ8.length := by rw [← hw8, wipe_length]
        refine ⟨m', hm, i + 1, H', (I'.unpinned (pins := [])).weak hl (fun j v e => ?_), T.keep _ _ _ st7 fun b hb o e => (pin' b hb o e).1, fun b hb => ?_, w'⟩
        · rw [← hw8] at e
          exact (wipe_some e).1
        · obtain ⟨o, e, _⟩ := T.obj _ _ st7 b hb
          exact (pin' b hb o e).2
      cases b with
      | false =>
        simp only [Bool.false_eq_true, if_false] at q9 ⊢
        exact fin I9 q9
      | true =>
        simp only [if_true] at q9 ⊢
        refine wpAny_mono (pe.run _ s9 σ8 H9 _ I9 q9) (fun z s10 ⟨yv, H10, I10, r10, acc, hD10, hz10, nx⟩ => ?_) out
        exact app_ok (X := blkX X s3 H3 scope ce fp xe) I10 hD10 hz10 r10 fun s11 I11 => fin I11 nx
  exact codeAny_compStart_list loop (T.self X.A 0 _ _ _ st4 loop)
end
end FR

set_option Elab.async false
set_option linter.all false
set_option maxRecDepth 100000
set_option maxHeartbeats 1000000
/-! the reading of a comprehension whose element may raise -/
namespace FR
open PySem PySem.Spec PyProof.Rows L2
section
open Classical
noncomputable def lcDX (o : Option (Nat × List D)) (n0 : Nat) (g : FGp) (t : FT) (f : FE) (ρ0 : Env) : List D → Store → R Unit
  | [], S => if chk o S then .ok () S else .stuck
  | d :: ds, S => if chk o S then (match g d ρ0 with
    | none => .stuck
    | some ρ1 => (match t ρ1 S with
      | .ok true S2 => (match f ρ1 S2 with
        | .ok y S3 => (match S3[n0]? with
          | some (.lst acc) => if acc.length < 1000000 then lcDX o n0 g t f ρ0 ds (S3.set n0 (.lst (acc ++ [y]))) else .stuck
          | _ => .stuck)
        | .exc x S3 => .exc x S3
        | .stuck => .stuck)
      | .ok false S2 => lcDX o n0 g t f ρ0 ds S2
      | _ => .stuck)) else .stuck
def lcEndX (n0 : Nat) : R Unit → R D
  | .ok u S => lcEnd n0 u S
  | .exc x S => if (S.take n0).all (Cell.below n0) = true then .exc x (S.take n0) else .stuck
  | .stuck => .stuck
noncomputable def fLcX (fi : Env → Store → R Src) (g : FGp) (t : FT) (f : FE) (own : List Nat) : FE := fun ρ S => (fi ρ S).bind fun src S1 => lcEndX S1.length (lcDX src.2 S1.length g t f (wipeD ρ own) src.1 (S1 ++ [.lst []]))
end
theorem cut_xrep {K : PySem.W.Frag} {w : Wd} {H : Hp} {n0 : Nat} {c : Value} {e : Option Addr} {x : Exc} (h : XRep K w H c e x) : XRep K (w.cut n0) H c e x := by
  obtain ⟨cn, fs⟩ := x
  refine ⟨h.1, h.2.imp id fun ⟨d, vs, e1, e2, e3, e4⟩ => ⟨d, vs, e1, e2, fun z => e3 z.1, RepF.shrink (fun a z => z.1) e4⟩⟩
theorem imp_lcX {K : PySem.W.Frag} {W : WX} {fi : Env → Store → R Src} {g : FGp} {tg : TG} {t : FT} {f : FE} {own o1 : List Nat} (ok : TgOk K tg g o1) (ho : ∀ i ∈ o1, i ∈ own) (σ : L2.St) (H : Hp) (Q : VK) (h : tE K W (fLcX fi g t f own) σ H Q) :
    tLc (tI K W fi) tg (tT K W0 t) (tE K (wE fun c d H' => W c d σ H') f) own σ H Q := by
  obtain ⟨w, ρ, S, a, h⟩ := h
  refine ⟨w, ρ, S, a, oR_imp (oR_bind a.ok h) fun w1 H1 S1 src st1 sr1 h1 J hJ D0 hD => ?_⟩
  obtain ⟨items, o⟩ := src
  have a1 : At K w1 σ H1 ρ S1 := a.to st1 sr1
  obtain ⟨stD, srD⟩ := lay_cell (o := .lst []) (c := .lst []) sr1 hD trivial ⟨D0, [], add_self, upd_same, .nil⟩
  have h1 : oR K W σ w1 H1 (qE K Q) (lcEndX S1.length (lcDX o S1.length g t f (wipeD ρ own) items (S1 ++ [.lst []]))) := h1
  generalize q : lcDX o S1.length g t f (wipeD ρ own) items (S1 ++ [.lst []]) = r at h1
  have no : r ≠ .stuck := fun z => by rw [z] at h1; exact h1
  refine ⟨fun i m H' => m + i = items.length ∧ ∃ w' S', Step (w1.add D0) (upd H1 D0 (.lst [])) w' H' ∧ SRep K w' H' S' ∧ lcDX o S1.length g t f (wipeD ρ own) (items.drop i) S' = r, ⟨items.length, rfl, _, _, Step.refl _ _ srD.ok, srD, q⟩, ?_⟩
  rintro i m H' ⟨hm, w', S', st', sr', q'⟩
  have tot : Step w1 H1 w' H' := stD.trans sr1.ok st'
  have hαD : w'.α S1.length ≠ none → w'.α S1.length = some D0 := fun hne => by
    cases z : w'.α S1.length with
    | none => exact absurd z hne
    | some b =>
      have := st'.old S1.length b (by rw [sr1.len]; exact Nat.lt_succ_self _) z
      rw [sr1.len, add_self] at this
      rw [Option.some.inj this]
  cases hd : items[i]? with
  | none =>
    have hl : items.length ≤ i := List.getElem?_eq_none_iff.mp hd
    rw [List.drop_eq_nil_of_le hl] at q'
    unfold lcDX at q'
    split at q'
    · rename_i hc
      subst q'
      refine .inl ⟨(hJ w' H' S' tot sr' hc i).1 hl, ?_⟩
      have h1 : oR K W σ w1 H1 (qE K Q) (lcEnd S1.length () S') := h1
      unfold lcEnd at h1
      split at h1
      · rename_i l hS
        split at h1
        · rename_i k hk
          split at h1
          · rename_i hb
            rw [sr1.len] at hb h1
            obtain ⟨stF, srF⟩ := cut_ok sr1.ok tot sr' hb
            obtain ⟨ad, vs, e1, e2, e3⟩ := sr'.cell _ _ hS
            have ead := hαD (by rw [e1]; simp)
            rw [e1] at ead
            cases ead
            refine h1 _ H' stF srF (.ref D0) ?_
            rw [pureL_eq hk] at e3
            refine .lst (.inl ⟨e2, fun z => z.2 ⟨S1.length, by rw [sr1.len]; exact Nat.le_refl _, e1⟩⟩) (Reps.shrink (fun a z => z.1) e3.pure)
          · exact h1.elim
        · exact h1.elim
      · exact h1.elim
    · exact absurd q'.symm no
  | some d =>
    have hl : i < items.length := by
      rcases Nat.lt_or_ge i items.length with z | z
      · exact z
      · rw [List.getElem?_eq_none z] at hd; cases hd
    have hdr : items.drop i = d :: items.drop (i + 1) := by
      rw [List.drop_eq_getElem_cons hl]
      rw [List.getElem?_eq_getElem hl] at hd
      cases hd; rfl
    rw [hdr] at q'
    unfold lcDX at q'
    split at q'
    · rename_i hc
      obtain ⟨hgo, hy⟩ := (hJ w' H' S' tot sr' hc i).2 d hd
      refine .inr ⟨hgo, fun H2 => ∃ m', m' < m ∧ (m' + (i + 1) = items.length ∧ ∃ w'' S'', Step (w1.add D0) (upd H1 D0 (.lst [])) w'' H2 ∧ SRep K w'' H2 S'' ∧ lcDX o S1.length g t f (wipeD ρ own) (items.drop (i + 1)) S'' = r), fun H2 z => z, fun x H2 y => ?_⟩
      obtain ⟨st2, sr2, dr⟩ := hy x H2 y
      have sl2 : Slots K w' H2 (L2.wipe σ own) (wipeD ρ own) := ((a1.sl.step sr1.ok tot).wipe own).step sr'.ok st2
      split at q'
      · exact absurd q'.symm no
      · rename_i ρ1 hg
        obtain ⟨σ', s', qq, kk⟩ := ok.run w' H2 _ _ x d ρ1 sl2 dr hg
        refine qq _ ⟨?_, ?_⟩
        · rw [kk own ho]
          have aux : ∀ us : List Nat, ∀ τ : L2.St, (∀ j ∈ us, ∀ z, τ[j]? = some z → z = none) → L2.wipe τ us = τ := by
            intro us
            induction us with
            | nil => intro τ _; rfl
            | cons v us ih =>
              intro τ hτ
              show (L2.wipe τ us).set v none = τ
              rw [ih τ fun j hj => hτ j (List.mem_cons_of_mem _ hj)]
              apply List.ext_getElem?
              intro j
              by_cases hj : v = j
              · subst hj
                by_cases hlt : v < τ.length
                · rw [List.getElem?_set_self hlt]
                  exact ((hτ v List.mem_cons_self _ (List.getElem?_eq_getElem hlt)) ▸ (List.getElem?_eq_getElem hlt)).symm
                · rw [List.getElem?_eq_none (by rw [List.length_set]; omega), List.getElem?_eq_none (by omega)]
              · rw [List.getElem?_set_ne hj]
          refine aux own _ fun j hj z hz => ?_
          cases z with
          | none => rfl
          | some zz => exact absurd hj (wipe_some hz).2
        · refine ⟨w', ρ1, S', ⟨sr2, s'⟩, ?_⟩
          revert q'
          cases ht : t ρ1 S' with
          | ok b S2 =>
            intro q' w3 H3 st3 sr3
            have sl3 := s'.step sr2.ok st3
            cases b with
            | false => exact ⟨m - 1, by omega, by omega, w3, S2, (st'.trans srD.ok st2).trans srD.ok st3, sr3, q'⟩
            | true =>
              refine ⟨w3, ρ1, S2, ⟨sr3, sl3⟩, ?_⟩
              revert q'
              show (match f ρ1 S2 with | .ok y S3 => _ | .exc x S3 => R.exc x S3 | .stuck => R.stuck) = r → _
              cases hf : f ρ1 S2 with
              | ok yd S3 =>
                intro q' w4 H4 st4 sr4 y4 dr4
                dsimp only at q'
                split at q'
                · rename_i acc hS3
                  split at q'
                  · rename_i hlen
                    have tot4 : Step (w1.add D0) (upd H1 D0 (.lst [])) w4 H4 := (((st'.trans srD.ok st2).trans srD.ok st3).trans srD.ok st4)
                    obtain ⟨ad, vs, e1, e2, e3⟩ := sr4.cell _ _ hS3
                    have ead : ad = D0 := by
                      have := tot4.old S1.length ad (by rw [sr1.len]; exact Nat.lt_succ_self _) e1
                      rw [sr1.len, add_self] at this
                      exact (Option.some.inj this).symm
                    subst ead
                    have st5 : Step w4 H4 w4 (upd H4 ad (.lst (vs ++ [y4]))) := (write_cell (o := .lst (vs ++ [y4])) (c := .dead) sr4 e1 trivial trivial).1
                    obtain ⟨_, sr5⟩ := write_cell (o := .lst (vs ++ [y4])) (c := .lst (acc ++ [yd])) sr4 e1 trivial ⟨ad, _, e1, upd_same, (e3.app (.cons dr4 .nil)).step sr4.ok st5⟩
                    refine ⟨vs, e2, ?_, m - 1, by omega, by omega, w4, _, tot4.trans srD.ok st5, sr5, q'⟩
                    rw [e3.length, sizeLine_eq]; omega
                  · exact absurd q'.symm no
                · exact absurd q'.symm no
              | exc x5 S5 =>
                intro q' w4 H4 c5 e5 st4 sr4 xr
                dsimp only at q'
                subst q'
                have tot4 : Step w1 H1 w4 H4 := stD.trans sr1.ok (((st'.trans srD.ok st2).trans srD.ok st3).trans srD.ok st4)
                have h1 : oR K W σ w1 H1 (qE K Q) (if (S5.take S1.length).all (Cell.below S1.length) = true then .exc x5 (S5.take S1.length) else .stuck) := h1
                split at h1
                · rename_i hb
                  rw [sr1.len] at hb h1
                  obtain ⟨stF, srF⟩ := cut_ok sr1.ok tot4 sr4 hb
                  exact h1 _ H4 c5 e5 stF srF (cut_xrep xr)
                · exact h1.elim
              | stuck => intro q'; exact absurd q'.symm no
          | exc x5 S5 => intro q'; exact absurd q'.symm no
          | stuck => intro q'; exact absurd q'.symm no
    · exact absurd q'.symm no
section
variable {X : Cx} {W : WX} {e : Expr} {pos : Pos}
theorem se_lcX {elt tg iter : Expr} {ifs : List Expr} {scope : Scope} {own : List (Str × Nat)} {fi : Env → Store → R Src} {t : TG} {g : FGp} {ft : FT} {f : FE} {o1 : List Nat} (hc : X.calm = true) (hN : X.N.Nodup) (hst : X.stack = X.env :: X.outer) (hfr : X.env.frame = some X.env.locals) (tk : Takes X W) (hi : SI X W tg iter fi) (ok : BlkOk X.N X.env.scope scope own)
    (hg : ∀ (s : Shared) (H : Hp) (C : Addr) (cl : List (Str × Addr)) (fp : List Addr) (xe : Value → Shared → Prop), PG (blkX X s H scope (compEnvC scope cl C X.env) fp xe) tg t) (hok : TgOk X.K t g o1) (ho : ∀ i ∈ o1, i ∈ own.map (·.2))
    (ht : ∀ (s : Shared) (H : Hp) (C : Addr) (cl : List (Str × Addr)) (fp : List Addr) (xe : Value → Shared → Prop), STs (blkX X s H scope (compEnvC scope cl C X.env) fp xe) W0 ifs ft)
    (he : ∀ (E : XK) (s : Shared) (H : Hp) (C : Addr) (cl : List (Str × Addr)) (fp : List Addr) (xe : Value → Shared → Prop), Takes (blkX X s H scope (compEnvC scope cl C X.env) fp xe) (wE E) → SE (blkX X s H scope (compEnvC scope cl C X.env) fp xe) (wE E) elt f) (hs : ∀ x, foldedSetIterable iter X.env x = pure x := by intro _; rfl) :
    SE X W (.ListComp elt [⟨tg, iter, ifs, 0⟩] scope pos) (fLcX fi g ft f (own.map (·.2))) := (pe_lcX (te := fun E => tE X.K (wE E) f) hc hN hst hfr tk hi ok hg ht he hs).imp (imp_lcX hok ho)
end
theorem lcDX_of {o : Option (Nat × List D)} {n0 : Nat} {g : FGp} {t : FT} {f : FE} {ρ0 : Env} : ∀ (l : List D) (S : Store) {u : Unit} {S' : Store}, lcD o n0 g t f ρ0 l S = .ok u S' → lcDX o n0 g t f ρ0 l S = .ok u S'
  | [], S, u, S', h => by
    unfold lcD at h
    unfold lcDX
    exact h
  | d :: ds, S, u, S', h => by
    unfold lcD at h
    unfold lcDX
    by_cases hc : chk o S
    · rw [if_pos hc] at h ⊢
      cases hg : g d ρ0 with
      | none => rw [hg] at h; cases h
      | some ρ1 =>
        rw [hg] at h
        dsimp only at h ⊢
        cases ht : t ρ1 S with
        | exc x S2 => rw [ht] at h; cases h
        | stuck => rw [ht] at h; cases h
        | ok b S2 =>
          rw [ht] at h
          cases b with
          | false => exact lcDX_of ds S2 h
          | true =>
            dsimp only at h ⊢
            cases hf : f ρ1 S2 with
            | exc x S3 => rw [hf] at h; cases h
            | stuck => rw [hf] at h; cases h
            | ok y S3 =>
              rw [hf] at h
              dsimp only at h ⊢
              cases hS : S3[n0]? with
              | none => rw [hS] at h; cases h
              | some cl =>
                rw [hS] at h
                cases cl with
                | lst acc =>
                  dsimp only at h ⊢
                  by_cases hl : acc.length < 1000000
                  · rw [if_pos hl] at h ⊢
                    exact lcDX_of ds _ h
                  · rw [if_neg hl] at h; cases h
                | dead => cases h
                | ins c gs => cases h
                | dK l => cases h
    · rw [if_neg hc] at h; cases h
/-- where the reading without exceptions runs, this one does the same -/
theorem fLcX_of {fi : Env → Store → R Src} {g : FGp} {t : FT} {f : FE} {own : List Nat} {ρ : Env} {S S' : Store} {d : D} (h : fLc fi g t f own ρ S = .ok d S') : fLcX fi g t f own ρ S = .ok d S' := by
  unfold fLc at h
  unfold fLcX
  cases q : fi ρ S with
  | exc x S1 => rw [q] at h; cases h
  | stuck => rw [q] at h; cases h
  | ok src S1 =>
    rw [q] at h
    have h : (lcD src.2 S1.length g t f (wipeD ρ own) src.1 (S1 ++ [.lst []])).bind (lcEnd S1.length) = .ok d S' := h
    show lcEndX S1.length (lcDX src.2 S1.length g t f (wipeD ρ own) src.1 (S1 ++ [.lst []])) = _
    cases q2 : lcD src.2 S1.length g t f (wipeD ρ own) src.1 (S1 ++ [.lst []]) with
    | exc x S2 => rw [q2] at h; cases h
    | stuck => rw [q2] at h; cases h
    | ok u S2 =>
      rw [q2] at h
      rw [lcDX_of _ _ q2]
      exact h
theorem chk_none (S : Store) : chk none S := trivial
/-- the first element that raises -/
theorem fLcX_exc {α : Type} {fi : Env → Store → R Src} {g : FGp} {e : FE} {own : List Nat} {ρ : Env} {S S0 : Store} (f h : α → P) (l1 l2 : List α) (x : α) (ex : Exc) (hi : fi ρ S0 = .ok (((l1 ++ x :: l2).map f).map .p, none) S)
    (hb : ∀ y ∈ l1, ∃ ρ1, g (.p (f y)) (wipeD ρ own) = some ρ1 ∧ ∀ ac, e ρ1 (S ++ [.lst ac]) = .ok (.p (h y)) (S ++ [.lst ac]))
    (hx : ∃ ρ1, g (.p (f x)) (wipeD ρ own) = some ρ1 ∧ ∀ ac, e ρ1 (S ++ [.lst ac]) = .exc ex (S ++ [.lst ac])) (hl : l1.length ≤ 1000000) (hS : S.all (Cell.below S.length) = true) :
    fLcX fi g fYes e own ρ S0 = .exc ex S := by
  have key : ∀ (l acc : List α), (∀ y ∈ l, y ∈ l1) → acc.length + l.length ≤ 1000000 → ∃ ac, lcDX none S.length g fYes e (wipeD ρ own) (((l ++ x :: l2).map f).map .p) (S ++ [.lst ((acc.map h).map .p)]) = .exc ex (S ++ [.lst ac]) := by
    intro l
    induction l with
    | nil =>
      intro acc _ _
      obtain ⟨ρ1, e1, e2⟩ := hx
      refine ⟨(acc.map h).map .p, ?_⟩
      show lcDX none S.length g fYes e (wipeD ρ own) (.p (f x) :: _) _ = _
      unfold lcDX
      rw [if_pos (chk_none _), e1]
      show (match e ρ1 (S ++ [.lst ((acc.map h).map .p)]) with | .ok y S3 => _ | .exc x S3 => R.exc x S3 | .stuck => R.stuck) = _
      rw [e2]
    | cons y l ih =>
      intro acc hm hlen
      rw [List.length_cons] at hlen
      obtain ⟨ρ1, e1, e2⟩ := hb y (hm y List.mem_cons_self)
      obtain ⟨ac, r⟩ := ih (acc ++ [y]) (fun z hz => hm z (List.mem_cons_of_mem _ hz)) (by rw [List.length_append]; simp; omega)
      refine ⟨ac, ?_⟩
      show lcDX none S.length g fYes e (wipeD ρ own) (.p (f y) :: ((l ++ x :: l2).map f).map .p) _ = _
      unfold lcDX
      rw [if_pos (chk_none _), e1]
      show (match e ρ1 (S ++ [.lst ((acc.map h).map .p)]) with | .ok y S3 => _ | .exc x S3 => R.exc x S3 | .stuck => R.stuck) = _
      rw [e2]
      dsimp only
      have hn : (S ++ [Cell.lst ((acc.map h).map .p)])[S.length]? = some (.lst ((acc.map h).map .p)) := by simp
      rw [hn]
      dsimp only
      rw [if_pos (by rw [List.length_map, List.length_map]; omega)]
      have hs : (S ++ [Cell.lst ((acc.map h).map .p)]).set S.length (.lst ((acc.map h).map .p ++ [.p (h y)])) = S ++ [.lst (((acc ++ [y]).map h).map .p)] := by
        rw [List.set_append_right _ _ (Nat.le_refl _)]
        simp
      rw [hs]
      exact r
  obtain ⟨ac, r⟩ := key l1 [] (fun _ h => h) (by simpa using hl)
  unfold fLcX
  rw [hi]
  show lcEndX S.length (lcDX none S.length g fYes e (wipeD ρ own) _ (S ++ [.lst []])) = _
  have r : lcDX none S.length g fYes e (wipeD ρ own) (((l1 ++ x :: l2).map f).map .p) (S ++ [.lst []]) = .exc ex (S ++ [.lst ac]) := r
  rw [r]
  show (if ((S ++ [Cell.lst ac]).take S.length).all (Cell.below S.length) = true then R.exc ex ((S ++ [Cell.lst ac]).take S.length) else .stuck) = _
  rw [List.take_left, if_pos hS]
end FR

set_option Elab.async false
set_option linter.all false
set_option maxRecDepth 100000
set_option maxHeartbeats 1000000
/-! math.lcm, xs.extend(ys) -/
namespace FR
open PySem PySem.Spec PyProof.Rows L2
section
variable {X : Cx} {W : WX} {e : Expr} {es : List Expr} {pos : Pos}
def rLcm : List V → Hp → VK → Prop := fun vs H Q => ∃ a b : Int, vs = [.int a, .int b] ∧ a.natAbs < 2 ^ 13000 ∧ b.natAbs < 2 ^ 13000 ∧ Q (.int ((Nat.lcm a.natAbs b.natAbs : Nat) : Int)) H
theorem log_lt {n k : Nat} (hk : 0 < k) (h : n < 2 ^ k) : n.log2 < k := by
  by_cases h0 : n = 0
  · subst h0
    rw [Nat.log2_zero]
    exact hk
  · exact (Nat.log2_lt h0).mpr h
def bdB (i : Int) : Bool := Nat.log2 i.natAbs < 12999
theorem bdB_lt {i : Int} (h : bdB i = true) : i.natAbs < 2 ^ 13000 := by
  have h : Nat.log2 i.natAbs < 12999 := of_decide_eq_true h
  exact Nat.lt_of_lt_of_le (Nat.lt_log2_self) (Nat.pow_le_pow_right (by decide) (by omega))
def gLcm : List D → Store → R D := fun ds S => match ds with
  | [.p (.int i), .p (.int j)] => if bdB i = true ∧ bdB j = true then .ok (.p (.int ((Nat.lcm i.natAbs j.natAbs : Nat) : Int))) S else .stuck
  | _ => .stuck
theorem cr_lcm : CallR X (.builtin "math.lcm") rLcm := by
  intro pins s σ H vs us Q I r h
  obtain ⟨a, b, rfl, ha, hb, q⟩ := h
  obtain ⟨t, u, rfl⟩ := Vals.int2 r
  have e : (Nat.lcm 1 a.natAbs).lcm b.natAbs = Nat.lcm a.natAbs b.natAbs := by rw [Nat.lcm_one_left]
  have h1 : (max 1 a.natAbs).log2 < 13000 := log_lt (by decide) (Nat.max_lt.mpr ⟨Nat.one_lt_two_pow (by decide), ha⟩)
  have h2 : (max a.natAbs b.natAbs).log2 < 13000 := log_lt (by decide) (Nat.max_lt.mpr ⟨ha, hb⟩)
  have hsz : ((((Nat.lcm 1 a.natAbs).lcm b.natAbs : Nat) : Int)).natAbs.log2 < bitsLine := by
    rw [e, Int.natAbs_natCast]
    have hle : Nat.lcm a.natAbs b.natAbs ≤ a.natAbs * b.natAbs := Nat.div_le_self _ _
    have : Nat.lcm a.natAbs b.natAbs < 2 ^ 26000 := by
      refine Nat.lt_of_le_of_lt hle ?_
      rw [show 26000 = 13000 + 13000 from rfl, Nat.pow_add]
      exact Nat.mul_lt_mul'' ha hb
    exact Nat.lt_of_lt_of_le (log_lt (by decide) this) (by decide)
  have g := PySem.W.mg_run_lcm a t b u (by omega) (by omega) hsz
  rw [e] at g
  exact call_function_meets PySem.W.MGF.kind_lcm PySem.W.MGF.plain_lcm PySem.W.MGF.entry_lcm (PySem.W.MGF.args_lcm _ _) g.meets ⟨.int _, H, I.tok _, ⟨_, rfl⟩, q⟩
theorem se_lcm {p : Pos} {f : FA} {a b : Expr} (hm : X.mg "lcm" = some (.builtin "math.lcm")) (ha : SA X W [a, b] f) (hg : Gl X "lcm" := by rfl)
    (he : starEach [a, b] X.env = (false, eval a X.env) :: starEach [b] X.env := by rfl) (hpl : (backTo pos (starEach [b] X.env)).any (·.1) = false := by rfl) : SE X W (.Call (.Name "lcm" p) [a, b] [] pos) (cA gLcm f) :=
  (pe_callBfun cr_lcm hg hm ha (by decide) he hpl).imp fun σ H Q ⟨w, ρ, S, a, h⟩ => tA_of a (oR_bind a.ok h) fun w1 H1 S1 d v st a1 h1 r1 => by
    unfold gLcm at h1
    split at h1
    · split at h1
      · rename_i hc
        exact ⟨_, _, reps2 r1, (bdB_lt hc.1), (bdB_lt hc.2), oE_ok a1.st h1 (.int _)⟩
      · exact h1.elim
    · exact h1.elim
namespace Low
open AutoSeq1 MeetsSeq MeetsSeq2 MeetsSeq3 SeqRoads2
theorem list_extend_any (l : Addr) (items : Array Value) (n : Nat) (b : Addr) (items2 : Array Value) (n2 : Nat) (o : Obj) (h1 : o.cls = .type "list") (h2 : o.dict = none) (h3 : o.data = .seq items2 n2) (hc0 : ¬(!items.isEmpty && Builtin.List.listTooLong (items.size + items2.size)) = true) (hc1 : items.size ≤ sizeLine) (hs2 : items.size + items2.size ≤ sizeLine + 1) :
    Meets (Builtin.«list.extend» ⟨[.ref l, .ref b], []⟩) (fun _ R s => s.heap.get? l = some { cls := .type "list", dict := none, data := .seq items n, slots := #[] } ∧ s.heap.get? b = some o ∧ R (.ok (.ret Value.none)) { s with heap := s.heap.update l (Obj.mapSeq fun x => x ++ items2), toks := s.toks }) :=
  .of_wp fun prog w A R s h => by
    obtain ⟨hp, g, d, tk, os⟩ := s
    obtain ⟨hl, hb, h⟩ := h
    obtain ⟨c, dd, dt, sl⟩ := o
    cases h1
    cases h2
    cases h3
    have f1 := AutoSeq1.idx_int
    have f2 := AutoSeq1.sub_tuple_tuple
    have f3 := AutoSeq1.sub_list_list
    have f4 := AutoSeq1.sub_tuple_list
    have f5 := AutoSeq1.sub_list_tuple
    have hz' : (items ++ items2).size ≤ sizeLine + 1 := by rw [Array.size_append]; exact hs2
    wp_walk using (wpAny_updateSeq hl rfl (hz := hc1) (_hz' := hz')), AutoSeq1.wpAny_loadPart' hl, AutoSeq1.wpAny_loadPart' hb
    exact ⟨_, rfl, h⟩
end Low
def rExt : V → List V → Hp → VK → Prop := fun x vs H Q => ∃ l b xs zs, x = .ref l ∧ vs = [.ref b] ∧ H l = some (.lst xs) ∧ SqL X.K H b zs ∧ xs.length + zs.length ≤ sizeLine ∧ Q .non (upd H l (.lst (xs ++ zs)))
theorem mt_ext : MtM X "list.extend" (rExt (X := X)) := by
  intro pins s σ H x vs v us Q I rx rv h
  obtain ⟨l, b, xs, zs, rfl, rfl, hH, hB, hz, q⟩ := h
  cases rx
  obtain ⟨u, rfl, ru⟩ := rv.one
  cases ru
  obtain ⟨z, its, n, r, hl, e⟩ := I.lstM hH
  obtain ⟨its2, r2, ⟨o, n2, e2, g1, g2, g3⟩, hl2⟩ := I.list hB
  have hl3 : zs.length = its2.length := r2.length
  have hsz : its.toArray.size + its2.toArray.size ≤ sizeLine := by rw [List.size_toArray, List.size_toArray]; omega
  have hlong : ¬ (!its.toArray.isEmpty && Builtin.List.listTooLong (its.toArray.size + its2.toArray.size)) = true := by
    rw [notLongL hsz, Bool.and_false]
    exact Bool.false_ne_true
  refine call_meets F.slot_list_extend ⟨_, e, rfl⟩ F.entry_list_extend (F.args_list_extend_2 _ _)
    (Low.list_extend_any l its.toArray n b its2.toArray n2 o g1 g2 g3 hlong (by rw [List.size_toArray]; omega) (by omega)) ⟨e, e2, ?_⟩
  refine ⟨.non, _, I.lset (its' := its ++ its2) hH e (by simp) (r.append r2) ?_, rfl, q⟩
  rw [List.length_append]
  omega
/-- xs.extend(ys): xs a cell, ys a list that stands still -/
noncomputable def fExt (fo : FE) (fa : FA) : FE := fun ρ S => (fo ρ S).bind fun d S1 => match d with
  | .r n => if tagC S1[n]? = some (.ty "list") then (fa ρ S1).bind fun ds S2 => (match ds, S2[n]? with
      | [.p (.lst l)], some (.lst acc) => if acc.length + l.length < 1000000 then .ok (.p .non) (S2.set n (.lst (acc ++ l.map .p))) else .stuck
      | _, _ => .stuck) else .stuck
  | _ => .stuck
theorem dreps_map {K : PySem.W.Frag} {w : Wd} {H : Hp} : ∀ {vs : List V} {l : List P}, Reps K w.L H vs l → DReps K w H vs (l.map .p)
  | _, _, .nil => .nil
  | _, _, .cons h t => .cons h (dreps_map t)
theorem se_ext {o : Expr} {apos : Pos} {fo : FE} {fa : FA} (ho : SE X W o fo) (ha : SA X W [e] fa) (hbase : attributeBase o "extend" X.env (eval o X.env) = eval o X.env := by rfl)
    (hfew : ((backTo pos (starEach [e] X.env)).all (fun x => !x.1) && (backToKw pos (keywordEach [] X.env)).all (fun x => x.1.isSome)
      && decide ([e].length + ([] : List Keyword).length + (if ([] : List Keyword).isEmpty then 0 else 1) < 30)) = true := by rfl)
    (hline : (apos.endLine == pos.line) = true := by rfl) (hs : starEach [e] X.env = (false, eval e X.env) :: starEach [] X.env := by rfl) (hplain : (backTo pos (starEach [] X.env)).any (·.1) = false := by rfl) :
    SE X W (.Call (.Attribute o "extend" apos) [e] [] pos) (fExt fo fa) :=
  (pe_bm PySem.F.plainAttrs_list PySem.F.slot_list_extend PySem.F.type_list_extend mt_ext ho ha hbase hfew hline hs hplain).imp fun σ H Q ⟨w, ρ, S, a, h⟩ => tE_of a (oR_bind a.ok h) fun w1 H1 S1 d v st a1 h1 r => by
    split at h1
    · rename_i n
      split at h1
      · rename_i ht
        obtain ⟨l0, hl0⟩ := tagC_lst ht
        obtain ⟨ad, vs0, e1, e2, e3⟩ := a1.st.cell n _ hl0
        have hv : v = .ref ad := r.2 ad e1
        refine ⟨by rw [hv]; exact .inl ⟨rfl, _, .inl (.inl e2)⟩, tA_of a1 (oR_bind a1.ok h1) fun w2 H2 S2 ds us st2 a2 h2 rs => ?_⟩
        split at h2
        · rename_i n2 ds2 l acc hS
          split at h2
          · rename_i hz
            obtain ⟨ad2, vs, f1, f2, f3⟩ := a2.st.cell n _ hS
            have hα := st2.old n ad2 r.1 f1
            rw [e1] at hα
            cases hα
            obtain ⟨y, rfl, ry⟩ := reps_one rs
            have ry : Rep X.K w2.L H2 y (.lst l) := ry
            cases ry with
            | lst hb rz =>
              rename_i bd zs
              refine ⟨ad, bd, vs, zs, hv, rfl, f2, hb.sq, by rw [f3.length, Reps.length rz, sizeLine_eq]; omega, ?_⟩
              have st3 : Step w2 H2 w2 (upd H2 ad (.lst (vs ++ zs))) := (write_cell (o := .lst (vs ++ zs)) (c := .dead) a2.st f1 trivial trivial).1
              obtain ⟨_, sr3⟩ := write_cell (o := .lst (vs ++ zs)) (c := .lst (acc ++ l.map .p)) a2.st f1 trivial ⟨ad, _, f1, upd_same, (f3.app (dreps_map rz)).step a2.ok st3⟩
              exact h2 w2 _ st3 sr3 .non .non
          · exact h2.elim
        · exact h2.elim
      · exact h1.elim
    · exact h1.elim
end
end FR

set_option Elab.async false
set_option linter.all false
set_option maxRecDepth 100000
set_option maxHeartbeats 1000000
/-! a new instance some of whose fields are lists that its __init__ made -/
namespace FR
open PySem PySem.Spec PyProof.Rows L2
/-- a field's value, standing still: a list cell of flat items too -/
def stillD (S : Store) : D → Option P
  | .p q => some q
  | .r n => (match S[n]? with
    | some (.lst l) => (pureL l).map .lst
    | _ => none)
def stillF (S : Store) : List (Fld × D) → Option (List (Fld × P))
  | [] => some []
  | (f, d) :: gs => (match stillD S d, stillF S gs with
    | some q, some k => some ((f, q) :: k)
    | _, _ => none)
def mkL (c : Cn) (n : Nat) (F : Fn) (dvs : List P) : List D → Store → R D := fun ds S => match pureL ds with
  | some l => if l.length + dvs.length + 1 = n then (match F (.r 0 :: (l ++ dvs).map .p) [.ins c []] with
    | .ok (.p .non) (.ins c' gs :: S') => (match stillF (.ins c' gs :: S') gs with
      | some k => .ok (.p (.obj c' k)) S
      | none => .stuck)
    | .exc x _ => .exc x S
    | _ => .stuck) else .stuck
  | none => .stuck
section
variable {K : PySem.W.Frag} {w : Wd} {H : Hp} {S : Store} {c : Cn} {x dx : Addr}
theorem ins_backL {w0 : Wd} {H' : Hp} {S0 : Store} (sr : SRep K w H S) (hx : H x = none) (hd : H dx = none) (s : Step (w.one x) (newIns K H c x dx) w0 H') (sr0 : SRep K w0 H' S0) :
    Step w H ⟨w.α, fun a => a ≠ x ∧ w0.L a ∧ ¬ ∃ n, w0.α n = some a, w.N⟩ H' ∧ SRep K ⟨w.α, fun a => a ≠ x ∧ w0.L a ∧ ¬ ∃ n, w0.α n = some a, w.N⟩ H' S := by
  have kp : ∀ a o, H a = some o → H' a = some o := fun a o e => s.kept a o (ins_old hx hd e) fun n z => by
    rw [(one_at z).2] at e; rw [hx] at e; cases e
  have nx : ∀ a, w.L a → a ≠ x := fun a e q => by
    have h0 := sr.ok.mu a e
    rw [q, hx] at h0; exact h0
  have nn : ∀ a, w.L a → ¬ ∃ n, w0.α n = some a := fun a e ⟨n, z⟩ => by
    cases n with
    | zero =>
      have := s.old 0 a Nat.zero_lt_one z
      exact nx a e (one_at this).2
    | succ n =>
      have h0 := s.new (n + 1) a (Nat.succ_le_succ (Nat.zero_le n)) z
      have h1 := sr.ok.mu a e
      cases q : H a with
      | none => rw [q] at h1; exact h1
      | some o => rw [ins_old hx hd q] at h0; cases h0
  have lk : ∀ a, w.L a → a ≠ x ∧ w0.L a ∧ ¬ ∃ n, w0.α n = some a := fun a e => ⟨nx a e, (s.l2 a (.inr e)).elim id fun ⟨n, z⟩ => absurd (one_at z).2 (nx a e), nn a e⟩
  have st : Step w H ⟨w.α, fun a => a ≠ x ∧ w0.L a ∧ ¬ ∃ n, w0.α n = some a, w.N⟩ H' := by
    refine ⟨Nat.le_refl _, fun _ _ _ e => e, fun n a hn e => absurd (sr.ok.lt n a e) (Nat.not_lt.mpr hn), fun a o e _ => kp a o e, fun a e => ?_, fun a e => ?_, fun a e => .inl (lk a e), fun a u e => kp a _ e, fun a u y e => kp a _ e⟩
    · cases q : H a with
      | none => exact absurd q e
      | some o => rw [kp a o q]; simp
    · rcases s.l1 a e.2.1 with q | q
      · rcases q with q | q
        · exact absurd q e.1
        · exact .inl q
      · refine .inr ?_
        cases q2 : H a with
        | none => rfl
        | some o => rw [ins_old hx hd q2] at q; cases q
  refine ⟨st, ⟨⟨sr.ok.lt, fun n a e => lk a (sr.ok.live n a e), fun a e => sr0.ok.mu a e.2.1, sr.ok.inj⟩, sr.len, fun n c' e => (sr.cell n c' e).step sr.ok st (fun a z => z) fun a z => ?_⟩⟩
  have hm := sr.ok.mu a (sr.ok.live n a z)
  cases q : H a with
  | none => rw [q] at hm; exact hm.elim
  | some o => exact kp a o q
theorem stillD_ok {w0 : Wd} {H' : Hp} {S0 : Store} (sr0 : SRep K w0 H' S0) {L' : Addr → Prop} (h1 : ∀ a, L' a → w0.L a) (h2 : ∀ a, L' a → ¬ ∃ n, w0.α n = some a) {v : V} {d : D} {q : P} (r : DRep K w0 H' v d) (h : stillD S0 d = some q) : Rep K L' H' v q := by
  cases d with
  | p p =>
    cases h
    exact Rep.shrink h1 r
  | r n =>
    have h : (match S0[n]? with | some (.lst l) => (pureL l).map .lst | _ => none) = some q := h
    split at h
    · rename_i l hS
      obtain ⟨ad, vs, e1, e2, e3⟩ := sr0.cell n _ hS
      have hv : v = .ref ad := r.2 ad e1
      subst hv
      cases hp : pureL l with
      | none => rw [hp] at h; cases h
      | some k =>
        rw [hp] at h
        cases h
        rw [pureL_eq hp] at e3
        exact .lst (.inl ⟨e2, fun z => h2 ad z ⟨n, e1⟩⟩) (Reps.shrink h1 e3.pure)
    · cases h
theorem stillF_ok {w0 : Wd} {H' : Hp} {S0 : Store} (sr0 : SRep K w0 H' S0) {L' : Addr → Prop} (h1 : ∀ a, L' a → w0.L a) (h2 : ∀ a, L' a → ¬ ∃ n, w0.α n = some a) : ∀ {fs : List (Str × V)} {gs : List (Fld × D)} {k : List (Fld × P)}, DRepF K w0 H' fs gs → stillF S0 gs = some k → RepF K L' H' fs k
  | _, _, _, .nil, h => by cases h; exact .nil
  | _, _, k, .cons (d := d) (gs := gs) r t, h => by
    unfold stillF at h
    cases hd : stillD S0 d with
    | none => rw [hd] at h; cases h
    | some q =>
      cases hg : stillF S0 gs with
      | none => rw [hd, hg] at h; cases h
      | some k' =>
        rw [hd, hg] at h
        cases h
        exact .cons (stillD_ok sr0 h1 h2 r hd) (stillF_ok sr0 h1 h2 t hg)
end
section
variable {X : Cx} {W : WX} {e : Expr} {es : List Expr} {pos : Pos} {fi : Addr} {k n : Nat} {dvs : List P} {F : Fn} {c : Cn}
theorem sp_mkL {K : PySem.W.Frag} {w : Wd} {H : Hp} {S : Store} {σ : L2.St} {Q : VK} {ds : List D} {vs zs : List V} {x dx : Addr} (hx : H x = none) (hd : H dx = none) (sr : SRep K w H S) (r : DReps K w H vs ds) (hz : ∀ L H, Reps K L H zs dvs)
    (h : oR K W σ w H (qE K Q) (mkL c n F dvs ds S)) : spOf K n F (.ref x :: (vs ++ zs)) (newIns K H c x dx) (fun v H2 => v = .non ∧ Q (.ref x) H2) fun cl d H' => W cl d σ H' := by
  unfold mkL at h
  split at h
  · rename_i l e
    split at h
    · rename_i hl
      rw [pureL_eq e] at r
      have rp : Reps K (w.one x).L (newIns K H c x dx) (vs ++ zs) (l ++ dvs) := ins_reps hx hd sr.ok (Reps.app r.pure (hz _ _))
      refine ⟨w.one x, [.ins c []], .r 0 :: (l ++ dvs).map .p, ins_ok sr hx hd, .cons ⟨Nat.zero_lt_one, fun a e => by rw [(one_at e).2]⟩ (Reps.ds (w := w.one x) rp), ?_, ?_⟩
      · rw [List.length_cons, List.length_map, List.length_append]; exact hl
      · revert h
        cases F (.r 0 :: (l ++ dvs).map .p) [.ins c []] with
        | ok d S0 =>
          intro h
          split at h
          · rename_i c' gs rest hq
            cases hq
            split at h
            · rename_i k hk
              intro w0 H' st sr0 v dr
              obtain ⟨st2, sr2⟩ := ins_backL sr hx hd st sr0
              refine ⟨rep_non dr, h _ H' st2 sr2 (.ref x) ?_⟩
              obtain ⟨a, dx', fs, h1, h2, h3⟩ := sr0.cell 0 _ rfl
              obtain ⟨_, rfl⟩ := one_at (st.old 0 a Nat.zero_lt_one h1)
              exact .obj h2 (fun z => z.1 rfl) (stillF_ok sr0 (fun a z => z.2.1) (fun a z => z.2.2) h3 hk)
            · exact h.elim
          · rename_i hq
            cases hq
          · exact h.elim
        | exc y S0 =>
          intro h w0 H' cl d st sr0 xr
          obtain ⟨st2, sr2⟩ := ins_backL sr hx hd st sr0
          obtain ⟨cn, fs⟩ := y
          refine h _ H' cl d st2 sr2 ⟨xr.1, xr.2.imp id fun ⟨d', vs', e1, e2, e3, e4⟩ => ⟨d', vs', e1, e2, fun z => e3 z.2.1, RepF.shrink (fun a z => z.2.1) e4⟩⟩
        | stuck => exact fun h => h.elim
    · exact h.elim
  · exact h.elim
theorem go_mkL {pins : List (Addr × Obj)} {σ : L2.St} {H : Hp} {s : Shared} {Q : VK} {us : List Value} {vs : List V} {w : Wd} {S : Store} {ds : List D} (M : MkOk X.K X.mg c fi) (C : XDef X fi k n dvs F) (tk : Takes X W) (hr : Room (k + 1) X.A) (I : Inv X pins σ H s) (r : Vals vs us)
    (sr : SRep X.K w H S) (dr : DReps X.K w H vs ds) (h : oR X.K W σ w H (qE X.K Q) (mkL c n F dvs ds S)) : wpAny (model X.prog X.w) X.A (call (.ref (c.a X.K)) us) (EP X pins σ Q) X.xe s := by
  obtain ⟨fd, ps, ds', zs, hk, hb, hv, hz, hF⟩ := C.ex
  have hx0 : H (s.heap.objs.size + 1) = none := I.hok.fresh (Nat.le_succ _)
  have hd0 : H s.heap.objs.size = none := I.hok.fresh (Nat.le_refl _)
  have hsp := sp_mkL (x := s.heap.objs.size + 1) (dx := s.heap.objs.size) hx0 hd0 sr dr hz h
  have J := Inv.made (C := c.a X.K) I
  have rr : Vals (V.ref (s.heap.objs.size + 1) :: (vs ++ zs)) (Value.ref (s.heap.objs.size + 1) :: (us ++ ds')) := .cons rfl (r.append hv)
  have ll : (Value.ref (s.heap.objs.size + 1) :: us ++ ds').length = ps.length := rr.length.symm.trans (hF.len _ _ _ _ hsp)
  refine wpAny_call (make_map (f := fi) I.kIn M.mm.makes M.mm.init (beq_iff_eq.mp M.mm.fn) (codeAny_mono (hF.run _ X.stack _ _ ⟨Value.ref (s.heap.objs.size + 1) :: us, []⟩ _ _ _ _ (hr.make (c.a X.K) us []) (J.env0.make (c.a X.K) us []) (hb _ (_ :: us) J.kIn ll) rr hsp) fun o s' ho => ?_))
  cases o with
  | error er => exact tk er s' (XE.of_call J (fun _ _ _ z => z) ho)
  | ok fl =>
    cases fl with
    | ret u =>
      obtain ⟨v, H', I3, rv, ev, q3⟩ := J.after ho
      subst ev
      exact ⟨rv, ⟨V.ref (s.heap.objs.size + 1), H', I3, rfl, q3⟩⟩
    | _ => exact (show False from ho).elim
theorem se_mkL {p : Pos} {g : FA} (M : MkOk X.K X.mg c fi) (C : XDef X fi k n dvs F) (tk : Takes X W) (hr : Room (k + 1) X.A) (ha : SA X W (e :: es) g) (hg : Gl X c.x := by rfl) (hdb : (c.x == ("__debug__" : Str)) = false := by decide)
    (he : starEach (e :: es) X.env = (false, eval e X.env) :: starEach es X.env := by rfl) (hpl : (backTo pos (starEach es X.env)).any (·.1) = false := by rfl) :
    SE X W (.Call (.Name c.x p) (e :: es) [] pos) (cA (mkL c n F dvs) g) := by
  refine ⟨fun pins s σ H Q I ⟨w, ρ, S, a, h⟩ => wpAny_Call_Name_kw (ld_glob I hg M.gl ?_ hdb)⟩
  refine PySem.W.callWith_K (h₀ := X.base) I.ok.mod.kin M.mm.kp (thn (ha.run pos pins s σ H (fun vs H1 => ∃ w1 S1 l, Step w H w1 H1 ∧ At X.K w1 σ H1 ρ S1 ∧ DReps X.K w1 H1 vs l ∧ oR X.K W σ w1 H1 (qE X.K Q) (mkL c n F dvs l S1)) I ?_)
    fun us s1 ⟨vs, H1, I1, r, w1, S1, l, st, a1, dr, h1⟩ => ⟨I1.kIn, go_mkL M C tk hr I1 r a1.st dr h1⟩) he hpl
  exact tA_of a (oR_bind a.ok h) fun w1 H1 S1 l vs st a1 h1 r => ⟨w1, S1, l, st, a1, r, h1⟩
theorem se_mkL0 {p : Pos} (M : MkOk X.K X.mg c fi) (C : XDef X fi k n dvs F) (tk : Takes X W) (hr : Room (k + 1) X.A) (hg : Gl X c.x := by rfl) (hdb : (c.x == ("__debug__" : Str)) = false := by decide) :
    SE X W (.Call (.Name c.x p) [] [] pos) (cA (mkL c n F dvs) aNil) := by
  refine ⟨fun pins s σ H Q I ⟨w, ρ, S, a, h⟩ => wpAny_Call_Name_kw (ld_glob I hg M.gl ?_ hdb)⟩
  exact PySem.W.callWith_K0 I.kIn M.mm.kp (go_mkL (us := []) M C tk hr I .nil a.st .nil h)
end
end FR

set_option Elab.async false
set_option linter.all false
set_option maxRecDepth 100000
set_option maxHeartbeats 1000000
/-! two attributes as targets, keywords some of which lack, static methods -/
namespace FR
open PySem PySem.Spec PyProof.Rows L2
/-- .. o.x as a target -/
def gFldT (K : PySem.W.Frag) (ta : TE) (x : Str) : TG := fun v σ H Q => ta σ H fun o H1 => ∃ a C dx fs, o = .ref a ∧ H1 a = some (.ins C dx fs) ∧ Cls K C ∧ NoAttr K C x ∧ fs.length < 1000 ∧ Q σ (upd H1 a (.ins C dx (putF x v fs)))
section
variable {X : Cx} {W : WX} {e : Expr} {es : List Expr} {pos : Pos}
theorem pg_fld {o : Expr} {ta : TE} {x : Str} (ho : PE X o ta) : PG X (.Attribute o x pos) (gFldT X.K ta x) := by
  refine ⟨fun pins s σ H v u Q I r h => ?_⟩
  rw [PySem.assign_Attribute]
  refine wpAny_bind (wpAny_holding (thn (ho.run pins s σ H _ I h) fun ov s1 ⟨y, H1, I1, ry, a, C, dx, fs, ey, ea, c, n, l, q⟩ => ?_))
  subst ey
  obtain rfl : ov = Value.ref a := ry
  refine wpAny_bind (wpAny_standAt (wpAny_bind (wpAny_holding (setattr_ok I1 ea c n l r fun s2 I2 => wpAny_release ⟨σ, _, I2, q⟩))))
/-- o.x, o.y = e -/
def sFld2 (c : Cn) (x y : Fld) (i : Nat) (fv : FE) : FC := fun ρ S => (fv ρ S).toS ρ fun d S1 => match d, ρ[i]? with
  | .p (.tup [a, b]), some (some (.r n)) => (match S1[n]? with
    | some (.ins c' gs) => if c' = c ∧ gs.length < 900 then .nx ρ (S1.set n (.ins c (putD y (.p b) (putD x (.p a) gs)))) else .stuck
    | _ => .stuck)
  | _, _ => .stuck
theorem putD_len (f : Fld) (d : D) : ∀ gs : List (Fld × D), (putD f d gs).length ≤ gs.length + 1
  | [] => Nat.le_refl _
  | q :: gs => by
    unfold putD
    split
    · exact Nat.le_succ _
    · exact Nat.succ_le_succ (putD_len f d gs)
theorem ss_fld2 {c : Cn} {x y : Fld} {i : Nat} {xs : Str} {value : Expr} {fv : FE} {n1 n2 p1 p2 p3 : Pos} {k : Nat} (h1 : FldOk X.K c x) (h2 : FldOk X.K c y) (hc : X.calm = true) (hN : X.N[i]? = some xs) (hvis : Vis X.env.scope xs) (hv : SE X W value fv)
    (hd : (xs == ("__debug__" : Str)) = false := by decide) (hcd : (xs == ("__classdict__" : Str)) = false := by decide)
    (hn : (assignEach [.Attribute (.Name xs n1) x.x p1, .Attribute (.Name xs n2) y.x p2] X.env).length = 2 := by rfl) (hst : (assignEach [.Attribute (.Name xs n1) x.x p1, .Attribute (.Name xs n2) y.x p2] X.env).findIdx? (·.1) = none := by rfl)
    (ha1 : (assignEach [.Attribute (.Name xs n1) x.x p1, .Attribute (.Name xs n2) y.x p2] X.env).map (·.2) = [assign (.Attribute (.Name xs n1) x.x p1) X.env, assign (.Attribute (.Name xs n2) y.x p2) X.env] := by rfl)
    (hs : swapsWithSole [.Tuple [.Attribute (.Name xs n1) x.x p1, .Attribute (.Name xs n2) y.x p2] k p3] value pos.line X.env = pure false := by rfl) (hw : swappedStores [.Tuple [.Attribute (.Name xs n1) x.x p1, .Attribute (.Name xs n2) y.x p2] k p3] value X.env = pure none := by rfl)
    (ha : (assignEach [.Tuple [.Attribute (.Name xs n1) x.x p1, .Attribute (.Name xs n2) y.x p2] k p3] X.env).map (·.2) = [assign (.Tuple [.Attribute (.Name xs n1) x.x p1, .Attribute (.Name xs n2) y.x p2] k p3) X.env] := by rfl) :
    SS X W (.Assign [.Tuple [.Attribute (.Name xs n1) x.x p1, .Attribute (.Name xs n2) y.x p2] k p3] value pos) (sFld2 c x y i fv) := by
  have ho1 : PE X (.Name xs n1) (tVar i) := pe_var hN hvis hd hcd
  have ho2 : PE X (.Name xs n2) (tVar i) := pe_var hN hvis hd hcd
  have hp : PGs X [.Attribute (.Name xs n1) x.x p1, .Attribute (.Name xs n2) y.x p2] (gCons (gFldT X.K (tVar i) x.x) (gCons (gFldT X.K (tVar i) y.x) gNil)) := by
    refine ⟨fun pins s σ H vs us Q I r h => ?_⟩
    obtain ⟨v1, r1, rfl, h⟩ := h
    rw [ha1]
    cases r with
    | cons rv rt =>
      refine assignInOrder_cons (thn ((pg_fld ho1).run pins s σ H v1 _ _ I rv h) fun _ s1 ⟨σ1, H1, I1, q1⟩ => ?_)
      obtain ⟨v2, r2, rfl, h2⟩ := q1
      cases rt with
      | cons rv2 rt2 =>
        refine assignInOrder_cons (thn ((pg_fld ho2).run pins s1 σ1 H1 v2 _ _ I1 rv2 h2) fun _ s2 ⟨σ2, H2, I2, q2⟩ => ?_)
        obtain ⟨rfl, q2⟩ := q2
        cases rt2
        exact assignInOrder_nil ⟨σ2, H2, I2, q2⟩
  refine (ps_asg hv (pg_tup hc hp hn hst) hs hw ha).imp fun D0 σ H ⟨w, ρ, S, a, h⟩ => tS_tE a h fun w1 H1 S1 d v st a1 r h1' => ?_
  split at h1'
  · rename_i q1 q2 m hρ
    split at h1'
    · rename_i c' gs hS
      split at h1'
      · rename_i hcl
        obtain ⟨rfl, hl⟩ := hcl
        obtain ⟨v0, hv0, r0⟩ := a1.sl.get hρ
        obtain ⟨ad, dx, fs, e0, eH, rf⟩ := a1.st.cell m _ hS
        have ev : v0 = .ref ad := r0.2 ad e0
        subst ev
        have r : Rep X.K w1.L H1 v (.tup [q1, q2]) := r
        cases r with
        | tup hq rr =>
          cases rr with
          | @cons va _ _ _ ra rb =>
            cases rb with
            | @cons vb _ _ _ rb rn =>
              cases rn
              have st1 : Step w1 H1 w1 (upd H1 ad (.ins (c'.a X.K) dx (putF x.x va fs))) := (write_cell (o := .ins (c'.a X.K) dx (putF x.x va fs)) (c := .dead) a1.st e0 trivial trivial).1
              have rf1 : DRepF X.K w1 H1 (putF x.x va fs) (putD x (.p q1) gs) := rf.put (show DRep X.K w1 H1 va (.p q1) from ra)
              obtain ⟨_, sr1⟩ := write_cell (o := .ins (c'.a X.K) dx (putF x.x va fs)) (c := .ins c' (putD x (.p q1) gs)) a1.st e0 trivial ⟨ad, dx, _, e0, upd_same, rf1.step a1.ok st1⟩
              have l2 := putD_len x (.p q1) gs
              have rb1 : DRep X.K w1 (upd H1 ad (.ins (c'.a X.K) dx (putF x.x va fs))) vb (.p q2) := DRep.step a1.ok st1 (show DRep X.K w1 H1 vb (.p q2) from rb)
              have st2 : Step w1 (upd H1 ad (.ins (c'.a X.K) dx (putF x.x va fs))) w1 (upd (upd H1 ad (.ins (c'.a X.K) dx (putF x.x va fs))) ad (.ins (c'.a X.K) dx (putF y.x vb (putF x.x va fs)))) := (write_cell (o := .ins (c'.a X.K) dx (putF y.x vb (putF x.x va fs))) (c := .dead) sr1 e0 trivial trivial).1
              have rf2 := (rf1.step a1.ok st1).put (f := y) rb1
              obtain ⟨_, sr2⟩ := write_cell (o := .ins (c'.a X.K) dx (putF y.x vb (putF x.x va fs))) (c := .ins c' (putD y (.p q2) (putD x (.p q1) gs))) sr1 e0 trivial ⟨ad, dx, _, e0, upd_same, rf2.step sr1.ok st2⟩
              rw [List.set_set] at sr2
              refine ⟨_, _, rfl, hq, rfl, va, [vb], rfl, .ref ad, hv0, ad, _, dx, fs, rfl, eH, h1.cl, h1.no, by rw [rf.len]; omega, ?_⟩
              refine ⟨vb, [], rfl, .ref ad, hv0, ad, _, dx, _, rfl, upd_same, h2.cl, h2.no, by rw [rf1.len]; omega, rfl, ?_⟩
              exact h1' w1 _ σ (st1.trans a1.ok st2) sr2 (a1.sl.step a1.ok (st1.trans a1.ok st2))
      · exact h1'.elim
    · exact h1'.elim
  · exact h1'.elim
end
/-! ### C(e, .., k = v, ..), the last keywords left out -/
structure DefKD (pr : Program) (w : World) (K : PySem.W.Frag) (mg : Str → Option Value) (base : Heap) (f : Addr) (k n : Nat) (ks : List Str) (dvs : List P) (F : Fn) : Prop where
  ex : ∃ (fd : FuncData) (ps : List Str) (mv : List Value) (zs : List V), PySem.W.keepIn K (.ref f) = true ∧ (∀ L H, Reps K L H zs dvs) ∧ KBn K fd ps (n - ks.length - dvs.length) ks (fun us ws => us ++ (ws ++ mv)) (fun vs ys => vs ++ (ys ++ zs)) ∧ FnOk pr w K mg base (L2.CX pr w) k f fd ps (spOf K n F)
abbrev XDefKD (X : Cx) (f : Addr) (k n : Nat) (ks : List Str) (dvs : List P) (F : Fn) : Prop := DefKD X.prog X.w X.K X.mg X.base f k n ks dvs F
theorem kbnD_def {K : PySem.W.Frag} {x qual : Str} {params : Arguments} {body : List Stmt} {scope : Scope} {kws : List (Str × V)} {f : Addr} {fd : FuncData} {ps : List Str} (F : FunD K x qual params body scope [] kws f fd) {n : Nat} {ks : List Str} {dvs : List P} (hk : kws ≠ []) (hz : ∀ L H, Reps K L H (kws.map (·.2)) dvs)
    (h : ∀ (D : Addr) (doc pm : Value) (an : Option Addr) (cdv ct : Value) (us mv ws : List Value), us.length = n → mv.length = kws.length → ws.length = ks.length →
      KwChain D ((kws.map (·.1)).zip mv) (bindArgs (PySem.W.fnOf x qual params body scope .none (.ref D) doc pm an cdv ct) ⟨us, ks.zip ws⟩) (ps.zip (us ++ (ws ++ mv)))) :
    ∃ (mv : List Value) (zs : List V), (∀ L H, Reps K L H zs dvs) ∧ KBn K fd ps n ks (fun us ws => us ++ (ws ++ mv)) (fun vs ys => vs ++ (ys ++ zs)) := by
  obtain ⟨mv, hb⟩ := FunD.kbinds0 F n ks kws (fun us mv ws => us ++ (ws ++ mv)) hk (fun q hq => hq) (fun r1 r2 r3 => r1.append (r3.append r2)) h
  exact ⟨mv, _, hz, hb⟩
section
variable {X : Cx} {W : WX} {e : Expr} {es : List Expr} {pos : Pos} {f : Addr} {k n : Nat} {dvs : List P} {ks : List Str} {F : Fn} {kws : List Keyword} {c : Cn} {fi : Addr}
def mkKD (c : Cn) (n nk : Nat) (F : Fn) (dvs : List P) (fa fk : FA) : FE := fun ρ S => (fa ρ S).bind fun l S1 => (fk ρ S1).bind fun l2 S2 => if l2.length = nk ∧ l.length + 1 = n - nk - dvs.length then mkP c n F dvs (l ++ l2) S2 else .stuck
theorem go_mkKD {pins : List (Addr × Obj)} {σ : L2.St} {H : Hp} {s : Shared} {Q : VK} {us ws : List Value} {vs zs : List V} {w : Wd} {S : Store} {ds : List D} (M : MkOk X.K X.mg c fi) (C : XDefKD X fi k n ks dvs F) (tk : Takes X W) (hr : Room (k + 1) X.A) (I : Inv X pins σ H s) (r : Vals vs us) (rz : Vals zs ws)
    (l1 : vs.length + 1 = n - ks.length - dvs.length) (l2 : zs.length = ks.length) (sr : SRep X.K w H S) (dr : DReps X.K w H (vs ++ zs) ds) (h : oR X.K W σ w H (qE X.K Q) (mkP c n F dvs ds S)) : wpAny (model X.prog X.w) X.A (call (.ref (c.a X.K)) us (ks.zip ws)) (EP X pins σ Q) X.xe s := by
  obtain ⟨fd, ps, mv, ys, hk, hz, hb, hF⟩ := C.ex
  have hx0 : H (s.heap.objs.size + 1) = none := I.hok.fresh (Nat.le_succ _)
  have hd0 : H s.heap.objs.size = none := I.hok.fresh (Nat.le_refl _)
  have hsp := sp_mk (zs := ys) (x := s.heap.objs.size + 1) (dx := s.heap.objs.size) hx0 hd0 sr dr hz h
  rw [List.append_assoc] at hsp
  have J := Inv.made (C := c.a X.K) I
  have rr : Vals (V.ref (s.heap.objs.size + 1) :: (vs ++ (zs ++ ys))) (Value.ref (s.heap.objs.size + 1) :: (us ++ (ws ++ mv))) := hb.rel (vs := V.ref (s.heap.objs.size + 1) :: vs) (us := Value.ref (s.heap.objs.size + 1) :: us) (.cons rfl r) rz
  refine wpAny_call (make_map (f := fi) I.kIn M.mm.makes M.mm.init (beq_iff_eq.mp M.mm.fn) (codeAny_mono (hF.run _ X.stack _ _ ⟨Value.ref (s.heap.objs.size + 1) :: us, ks.zip ws⟩ _ _ _ _ (hr.make (c.a X.K) us (ks.zip ws)) (J.env0.make (c.a X.K) us (ks.zip ws)) (hb.to _ (Value.ref (s.heap.objs.size + 1) :: us) ws J.kIn (by rw [List.length_cons, ← r.length]; exact l1) (rz.length.symm.trans l2)) rr hsp) fun o s' ho => ?_))
  cases o with
  | error er => exact tk er s' (XE.of_call J (fun _ _ _ z => z) ho)
  | ok fl =>
    cases fl with
    | ret u =>
      obtain ⟨v, H', I3, rv, ev, q3⟩ := J.after ho
      subst ev
      exact ⟨rv, ⟨V.ref (s.heap.objs.size + 1), H', I3, rfl, q3⟩⟩
    | _ => exact (show False from ho).elim
theorem se_mkKD {p : Pos} {g gk : FA} (M : MkOk X.K X.mg c fi) (C : XDefKD X fi k n ks dvs F) (tk : Takes X W) (hr : Room (k + 1) X.A) (ha : SA X W (e :: es) g) (hkw : SK X W kws gk) (hg : Gl X c.x := by rfl)
    (hall : (backToKw pos (keywordEach kws X.env)).all (·.1.isSome) = true := by rfl) (hks : (backToKw pos (keywordEach kws X.env)).filterMap (·.1) = ks := by rfl)
    (hdb : (c.x == ("__debug__" : Str)) = false := by decide) (he : starEach (e :: es) X.env = (false, eval e X.env) :: starEach es X.env := by rfl)
    (hpl : ((backTo pos (starEach (e :: es) X.env)).any (·.1) || (backToKw pos (keywordEach kws X.env)).any (·.1.isNone)) = false := by rfl) :
    SE X W (.Call (.Name c.x p) (e :: es) kws pos) (mkKD c n ks.length F dvs g gk) := by
  refine ⟨fun pins s σ H Q I ⟨w, ρ, S, a, h⟩ => wpAny_Call_Name_kw (ld_glob I hg M.gl ?_ hdb)⟩
  refine PySem.W.callWith_KW (h₀ := X.base) I.ok.mod.kin M.mm.kp hall (thn (ha.run pos pins s σ H (fun vs H1 => ∃ w1 S1 l, Step w H w1 H1 ∧ At X.K w1 σ H1 ρ S1 ∧ DReps X.K w1 H1 vs l ∧ oR X.K W σ w1 H1 (qE X.K Q) ((gk ρ S1).bind fun l2 S2 => if l2.length = ks.length ∧ l.length + 1 = n - ks.length - dvs.length then mkP c n F dvs (l ++ l2) S2 else .stuck)) I ?_)
    fun us s1 ⟨vs, H1, I1, r, w1, S1, l, st, a1, dr, h1⟩ => ?_) hpl he
  · exact tA_of a (oR_bind a.ok h) fun w1 H1 S1 l vs st a1 h1 r => ⟨w1, S1, l, st, a1, r, h1⟩
  · refine thn (hkw.run pos pins s1 σ H1 (fun zs H2 => ∃ w2 S2 l2, At X.K w2 σ H2 ρ S2 ∧ DReps X.K w2 H2 (vs ++ zs) (l ++ l2) ∧ zs.length = ks.length ∧ vs.length + 1 = n - ks.length - dvs.length ∧ oR X.K W σ w2 H2 (qE X.K Q) (mkP c n F dvs (l ++ l2) S2)) I1 ?_)
      fun ws s2 ⟨zs, H2, I2, rz, w2, S2, l2, a2, dr2, g1, g2, h2⟩ => ⟨I2.kIn, ?_⟩
    · refine tA_of a1 (oR_bind a1.ok h1) fun w2 H2 S2 l2 zs st2 a2 h2 r2 => ?_
      split at h2
      · rename_i hl
        exact ⟨w2, S2, l2, a2, (dr.step a1.ok st2).app r2, by rw [r2.length]; exact hl.1, by rw [dr.length]; exact hl.2, h2⟩
      · exact h2.elim
    · rw [hks]
      exact go_mkKD M C tk hr I2 r rz g2 g1 a2.st dr2 h2
/-! ### C.m(e, ..), m a staticmethod -/
structure SmOk (K : PySem.W.Frag) (mg : Str → Option Value) (c : Cn) (m : Str) (p g : Addr) : Prop where
  gl : mg c.x = some (.ref (c.a K))
  rd : ClX.CRead K (c.a K) (.type "type")
  at_ : PySem.W.findCls K (.ref (c.a K)) (.type "type") m = some (.get (.builtin "staticmethod.__get__") (.ref p) .none (.ref (c.a K)))
  rc : ∃ rest, PySem.W.recIn K p "staticmethod" = some (.ref g :: rest)
theorem se_sm {m : Str} {apos np : Pos} {p g : Addr} {fa : FA} {pl : Sem Bool} (md : Mode) (M : SmOk X.K X.mg c m p g) (C : XDef X g k n dvs F) (tk : Takes X W) (hr : Room k X.A) (ha : SA X W (e :: es) fa) (hg : Gl X c.x := by rfl) (hdb : (c.x == ("__debug__" : Str)) = false := by decide)
    (hst : starEach (e :: es) X.env = (false, eval e X.env) :: starEach es X.env := by rfl) (hpl : (backTo pos (starEach es X.env)).any (·.1) = false := by rfl)
    (ht : eval (.Call (.Attribute (.Name c.x np) m apos) (e :: es) [] pos) X.env = (do
      let ov ← eval (.Name c.x np) X.env
      standAt apos.atName
      let (f, first) ← holding [ov] (getMethod ov m pl)
      callWith pos f first (backTo pos (starEach (e :: es) X.env)) (backToKw pos (keywordEach [] X.env))) := by rfl) : SE X W (.Call (.Attribute (.Name c.x np) m apos) (e :: es) [] pos) (cA (callN md n F dvs) fa) := by
  refine ⟨fun pins s σ H Q I ⟨w, ρ, S, a, h⟩ => ?_⟩
  obtain ⟨rest, hp⟩ := M.rc
  obtain ⟨_, _, _, _, hk, _⟩ := C.ex
  refine PySem.W.methodCall_KW (pl := pl) (ld_glob I hg M.gl ?_ hdb) ht
  refine PySem.W.method_cls I.kIn M.rd.ga (PySem.W.cls_bind I.kIn M.rd.rd M.at_ (wpAny_call (PySem.W.sm_get (s := { s with toks := s.toks + 1 }) I.kIn hp (PySem.W.handed_on rfl ?_))))
  have I2 : Inv X pins σ H { s with toks := s.toks + 1 } := I.tok _
  refine PySem.W.callWith_K (h₀ := X.base) I2.ok.mod.kin hk (thn (ha.run pos pins _ σ H (fun vs H1 => ∃ w1 S1 l, Step w H w1 H1 ∧ At X.K w1 σ H1 ρ S1 ∧ DReps X.K w1 H1 vs l ∧ oR X.K W σ w1 H1 (qE X.K Q) (callN md n F dvs l S1)) I2 ?_)
    fun us s1 ⟨vs, H1, I1, r, w1, S1, l, st, a1, dr, h1⟩ => ⟨I1.kIn, go_call' md C tk hr I1 r a1.st dr h1⟩) hst hpl
  exact tA_of a (oR_bind a.ok h) fun w1 H1 S1 l vs st a1 h1 r => ⟨w1, S1, l, st, a1, r, h1⟩
end
def smB (c : Cn) (m : Str) (K : PySem.W.Frag) : Bool := PySem.W.readsIn K (c.a K) (.type "type") && (optO (PySem.W.specialIn K (.ref (c.a K)) "__getattribute__") (.builtin "type.__getattribute__") &&
  (isGetB (PySem.W.findCls K (.ref (c.a K)) (.type "type") m) (.builtin "staticmethod.__get__") (.ref (aM c m K)) .none (.ref (c.a K)) && (match PySem.W.recIn K (aM c m K) "staticmethod" with
    | some (.ref _ :: _) => true
    | _ => false)))
theorem Zs.sm {fx : List Fx} {fn : List DefX} {K : PySem.W.Frag} {mg : Str → Option Value} (z : Zs fx fn K mg) (i j : Nat) {c : Cn} {m : Str} (h : fx[i]? = some (.gen (smB c m)) := by rfl) (h2 : fx[j]? = some (.glo c.x) := by rfl) : SmOk K mg c m (aM c m K) (aR "staticmethod" c m K) := by
  obtain ⟨e1, e⟩ := b2 (z.gen i h)
  obtain ⟨e2, e⟩ := b2 e
  obtain ⟨e3, e4⟩ := b2 e
  refine ⟨z.cn j h2, ⟨e1, optO_ok e2⟩, isGet_ok e3, ?_⟩
  unfold aR
  cases q : PySem.W.recIn K (aM c m K) "staticmethod" with
  | none => rw [q] at e4; cases e4
  | some l =>
    rw [q] at e4
    cases l with
    | nil => cases e4
    | cons a r =>
      cases a with
      | ref g => exact ⟨r, rfl⟩
      | _ => cases e4
end FR

set_option Elab.async false
set_option linter.all false
set_option maxRecDepth 100000
set_option maxHeartbeats 4000000
/-! super().__init__(e, .., k = v, ..) in an own class's __init__ -/
namespace FR
open PySem PySem.Spec PyProof.Rows L2
/-- what the written part says of a class C whose own __init__ stands at f and calls the next one, f2, by super() -/
structure SupO (P : Program) (K : PySem.W.Frag) (mg : Str → Option Value) (C f f2 cc cda : Addr) (m : Str) (fd : FuncData) (x qual : Str) (params : Arguments) (body : List Stmt) (scope : Scope) (kws : List (Str × V)) : Prop where
  fn : ∃ oc od osl kV doc pm an ct, fd = PySem.W.fnX x qual params body scope [("__class__", cc)] .none kV doc pm an (.ref cda) ct ∧ K.lookup f = some ⟨oc, od, .func fd, osl⟩ ∧ KwdV K kV kws
  kp : PySem.W.keepIn K (.ref f) = true
  rec_ : PySem.W.codeIn K (.ref cda) qual = true
  code : ∃ ccl cdd vs ccs file tf, K.lookup cda = some ⟨ccl, cdd, .fields vs, ccs⟩ ∧ vs[2]? = some (.str file tf) ∧ ((P.main.file : Str) == file) = true
  cell : ∃ cl cld csl, K.lookup cc = some ⟨cl, cld, .cell (some (.ref C)), csl⟩
  sub : PySem.W.mroIn K C (.ref C) = some true
  mgs : mg "super" = none
  top : (P.main.scope.names.lookup ("super" : Str)).isSome = false
  opq : PySem.W.nsIn K PySem.cStatics "thirdparty.any" = some none
  sup : PySem.W.ks_superIn K C C m = some (some (.ref f2))
  ty : PySem.W.typeIn K (.ref f2) = some (.type "function")
  fi : PySem.W.fnIn K f2 = true
section
variable {M : Model} {A : Around} {E : Value → Shared → Prop} {s : Shared} {env : PySem.Env} {c : Code}
theorem wpAt_MethodCallKW {o : Expr} {name : Str} {apos pos : Pos} {args : List Expr} {kws : List Keyword} {pl : Sem Bool} {Q : Value → Shared → Prop}
    (h : _root_.PySem.wpAt M A c (attributeBase o name env (eval o env)) (fun ov s₁ => wpAny M A (getMethod ov name pl) (fun fx s₂ => wpAny M A (callWith pos fx.1 fx.2 (backTo pos (starEach args env)) (backToKw pos (keywordEach kws env))) Q E s₂) E s₁) E s)
    (he : eval (.Call (.Attribute o name apos) args kws pos) env = (do
      let ov ← attributeBase o name env (eval o env)
      standAt apos.atName
      let (f, first) ← holding [ov] (getMethod ov name pl)
      callWith pos f first (backTo pos (starEach args env)) (backToKw pos (keywordEach kws env))) := by rfl) :
    _root_.PySem.wpAt M A c (eval (.Call (.Attribute o name apos) args kws pos) env) Q E s := by
  rw [he]
  refine _root_.PySem.wpAt_bind (ks_wpAt_mono h (fun ov s₁ h₁ => _root_.PySem.wpAt_of_wpAny (wpAny_bind (wpAny_standAt (wpAny_bind (wpAny_holding (wpAny_mono h₁ (fun fx s₂ h₂ => ?_) fun _ _ x => x)))))) fun _ _ x => x)
  exact h₂
end
theorem callWith_MKW {M : Model} {A : Around} {E : Value → Shared → Prop} {s : Shared} {env : PySem.Env} {K : PySem.W.Frag} {pos : Pos} {first : List Value} {q g : Addr} {self : Value} {Q : Value → Shared → Prop} {e : Expr} {rest : List Expr} {kws : List Keyword} (hf : PySem.W.fnIn K g = true)
    (hall : (backToKw pos (keywordEach kws env)).all (·.1.isSome) = true)
    (h : wpAny M A (spliced (backTo pos (starEach (e :: rest) env))) (fun vs s₁ => wpAny M A (evalAll ((backToKw pos (keywordEach kws env)).map (·.2)))
      (fun ks s₂ => PySem.W.MethP K q g self s₂.heap ∧ wpAny M A (call (.ref q) (first ++ vs) (((backToKw pos (keywordEach kws env)).filterMap (·.1)).zip ks)) Q E s₂) E s₁) E s)
    (hplain : ((backTo pos (starEach (e :: rest) env)).any (·.1) || (backToKw pos (keywordEach kws env)).any (·.1.isNone)) = false) (he : starEach (e :: rest) env = (false, eval e env) :: starEach rest env) :
    wpAny M A (callWith pos (.ref q) first (backTo pos (starEach (e :: rest) env)) (backToKw pos (keywordEach kws env))) Q E s :=
  PySem.W.callWith_of hplain (PySem.W.keeps_M hf) (PyProof.Rows.evalArgs_kw2 hall h he)
/-- the reading of super().m(e, .., k = v, ..) in a method of c: self stands at slot 0 -/
def supK (c : Cn) (n nk : Nat) (F : Fn) (fa fk : FA) : FE := fun ρ S => match ρ[0]? with
  | some (some d) => if isIns c d S = true then (fa ρ S).bind fun l S1 => (fk ρ S1).bind fun l2 S2 => if l2.length = nk ∧ l.length + 1 = n - nk then callN .S n F [] (d :: (l ++ l2)) S2 else .stuck else .stuck
  | _ => .stuck
section
variable {X : Cx} {W : WX} {C f f2 cc cda : Addr} {m : Str} {fd : FuncData} {x qual : Str} {params : Arguments} {body : List Stmt} {scope : Scope} {σ : L2.St} {H : Hp} {s : Shared} {e : Expr} {es : List Expr} {kws : List Keyword} {ks : List Str} {k n : Nat} {F : Fn} {c : Cn}
theorem sup_go {kwd : List (Str × V)} (S0 : SupO X.prog X.K X.mg (c.a X.K) f f2 cc cda m fd x qual params body scope kwd) (Cd : XDefK X f2 k n ks F) (tk : Takes X W) (hr : Room k X.A) {ar : Arg} {p0 p1 p2 p3 : Pos} {fa fk : FA} {Q : VK} (I : Inv X [] σ H s)
    (hks : X.env.kindOf "super" = some .globalImplicit) (hkc : X.env.kindOf "__class__" = some .free) (hcl : X.env.cells.lookup ("__class__" : Str) = some cc) (hfu : X.env.func = some f) (hcd : X.env.code = .ref cda)
    (hp : (fd.params.posonlyargs ++ fd.params.args).head? = some ar) (hN : X.N[0]? = some ar.arg) (hv : X.env.kindOf ar.arg = some .local)
    (ha : SA X W (e :: es) fa) (hkw : SK X W kws fk) {w : Wd} {ρ : Env} {S : Store} (a : At X.K w σ H ρ S) (h : oR X.K W σ w H (qE X.K Q) (supK c n ks.length F fa fk ρ S))
    (hm : (m == ("__class__" : Str)) = false)
    (hall : (backToKw p3 (keywordEach kws X.env)).all (·.1.isSome) = true) (hks2 : (backToKw p3 (keywordEach kws X.env)).filterMap (·.1) = ks)
    (hst : starEach (e :: es) X.env = (false, eval e X.env) :: starEach es X.env)
    (hpl : ((backTo p3 (starEach (e :: es) X.env)).any (·.1) || (backToKw p3 (keywordEach kws X.env)).any (·.1.isNone)) = false)
    {pl : Sem Bool} (he : eval (.Call (.Attribute (.Call (.Name "super" p0) [] [] p1) m p2) (e :: es) kws p3) X.env = (do
      let ov ← attributeBase (.Call (.Name "super" p0) [] [] p1) m X.env (eval (.Call (.Name "super" p0) [] [] p1) X.env)
      standAt p2.atName
      let (f, first) ← holding [ov] (getMethod ov m pl)
      callWith p3 f first (backTo p3 (starEach (e :: es) X.env)) (backToKw p3 (keywordEach kws X.env)))) :
    _root_.PySem.wpAt (model X.prog X.w) X.A (.func body X.env) (eval (.Call (.Attribute (.Call (.Name "super" p0) [] [] p1) m p2) (e :: es) kws p3) X.env) (EP X [] σ Q) X.xe s := by
  refine wpAt_MethodCallKW ?_ he
  obtain ⟨oc, od, osl, kV, doc, pm, an, ct, hfd, lkf, _⟩ := S0.fn
  obtain ⟨ccl, cdd, vs, ccs, file, tf, lkc, hvs, hfile⟩ := S0.code
  obtain ⟨cl, cld, csl, lkl⟩ := S0.cell
  have X0 := I.kIn
  unfold supK at h
  split at h
  case h_2 => exact h.elim
  rename_i dS hρ
  split at h
  case isFalse => exact h.elim
  rename_i hcI
  obtain ⟨v0, hv0, r0⟩ := a.sl.get hρ
  obtain ⟨ad, dx, fs, e0, eH, _⟩ := ins_at a.st r0 hcI
  subst e0
  obtain ⟨mA, O, _, _, _, _⟩ := ins_get I.hok eH
  have hcls : ∃ cd, PySem.W.clsIn X.K (c.a X.K) = some cd := by
    have := S0.sup
    unfold PySem.W.ks_superIn at this
    cases q : PySem.W.clsIn X.K (c.a X.K) with
    | none => rw [q] at this; cases this
    | some cd => exact ⟨cd, rfl⟩
  obtain ⟨cd, hcls⟩ := hcls
  refine ks_wpAt_super_base (env := X.env) hks hkc hm hfu (X0 _ _ lkf) rfl hp hcd (X0 _ _ lkc) rfl hvs hfile S0.top ?_
  obtain ⟨mb, hmb, hbt⟩ := I.mod.blt
  refine PySem.W.ks_loadName_global I.ok.kind hks (PySem.Calls.loadGlobal_builtin (env := X.env) (by rw [I.ok.glob]; exact I.mod.glob.keeps I.bk) S0.mgs (by rw [I.ok.blt]; exact hmb.keeps I.bk) ((hbt _ (by decide +kernel)).trans PyProof.Rows.Boot.«super») ⟨rfl, ?_⟩)
  refine wpAny_loadName_free I.ok.kind hkc hcl ⟨_, X0 _ _ lkl, rfl⟩ ?_
  obtain ⟨mm, hns, hloc⟩ := id I.loc
  obtain ⟨u0, r0', l0⟩ := hloc 0 ar.arg (.ref ad) hN hv0 (.inl hv)
  obtain rfl : u0 = Value.ref ad := r0'
  have hmm : mm ar.arg = some (Value.ref ad) := by
    rcases l0 with l0 | l0
    · exact l0.2
    · rcases l0.1 with z | z <;> rw [hv] at z <;> cases z
  refine wpAny_loadName_local I.ok.kind hv hns hmm ?_
  obtain ⟨hp0, g0, d0, tk0, os0⟩ := s
  have hD : ∃ oD, hp0.get? (c.a X.K) = some oD ∧ oD.data = .cls cd := by
    unfold PySem.W.clsIn at hcls
    split at hcls
    · rename_i c' d cd' sl ho
      cases hcls
      exact ⟨_, X0 _ _ ho, rfl⟩
    · cases hcls
  obtain ⟨oD, hD1, hD2⟩ := hD
  obtain ⟨odo, J0, _⟩ := ObjM.look O
  refine ks_wpAny_isType_cls hD1 hD2 ⟨rfl, ?_⟩
  refine ks_wpAny_call_super hD1 hD2 J0.at_ J0.cls (fun c e => by cases e) (PySem.W.looks_mroIn X0 S0.sub) (fun h' e k => ?_)
  have I1 : Inv X [] σ H ⟨h', g0, d0, tk0, os0⟩ := I.kept (t' := tk0) k
  have X1 := I1.kIn
  obtain ⟨_, O1, _, _, _, _⟩ := ins_get I1.hok eH
  obtain ⟨odo1, J1, _⟩ := ObjM.look O1
  have hsup := S0.sup
  unfold PySem.W.ks_superIn at hsup
  rw [hcls] at hsup
  obtain ⟨of, hof, hofc⟩ : ∃ of, h'.get? f2 = some of ∧ of.cls = .type "function" := by
    have ht' : (X.K.lookup f2).map (·.cls) = some (.type "function") := S0.ty
    cases z : X.K.lookup f2 with
    | none => rw [z] at ht'; cases ht'
    | some of => rw [z] at ht'; exact ⟨of, X1 _ _ z, Option.some.inj ht'⟩
  refine ks_wpAny_getMethod_super e (PySem.W.looks_opaque X1 S0.opq) (l₀ := cd.mro) ?_ rfl X1 hsup hof hofc (PySem.W.ks_ne X1 J1 hcls) hm ?_
  · exact fun A Q E s k q => wpAny_bind ((PySem.W.looks_clsIn X1 hcls) A _ E s k (wpAny_pure q))
  have k2 : ∀ b o, h'.get? b = some o → (h'.push (PySem.W.methodObj (.ref f2) (.ref ad))).get? b = some o := fun b o e => Heap.get?_push_of_some _ e
  have I2 : Inv X [] σ H ⟨h'.push (PySem.W.methodObj (.ref f2) (.ref ad)), g0, d0, tk0 + 1, os0⟩ := I1.kept (t' := tk0 + 1) k2
  have hu : (h'.push (PySem.W.methodObj (.ref f2) (.ref ad))).get? h'.objs.size = some (PySem.W.methodObj (.ref f2) (.ref ad)) := Heap.get?_push_at rfl rfl
  have I3 : Inv X [(h'.objs.size, PySem.W.methodObj (.ref f2) (.ref ad))] σ H ⟨h'.push (PySem.W.methodObj (.ref f2) (.ref ad)), g0, d0, tk0 + 1, os0⟩ := I2.pins_of fun p hp => by
    rcases List.mem_singleton.mp hp with rfl
    exact ⟨hu, I1.hok.fresh (Nat.le_refl _), Nat.ne_of_gt I1.lt, I1.nofs (Nat.le_refl _), fun v z => by cases z⟩
  refine callWith_MKW (K := X.K) (self := .ref ad) S0.fi hall (thn (ha.run p3 _ _ σ H (fun vs H1 => ∃ w1 S1 l, Step w H w1 H1 ∧ At X.K w1 σ H1 ρ S1 ∧ DReps X.K w1 H1 vs l ∧ oR X.K W σ w1 H1 (qE X.K Q) ((fk ρ S1).bind fun l2 S2 => if l2.length = ks.length ∧ l.length + 1 = n - ks.length then callN .S n F [] (dS :: (l ++ l2)) S2 else .stuck)) I3 ?_)
    fun us s1 ⟨vs, H1, I4, r, w1, S1, l, st, a1, dr, h1⟩ => ?_) hpl hst
  · exact tA_of a (oR_bind a.ok h) fun w1 H1 S1 l vs st a1 h1 r => ⟨w1, S1, l, st, a1, r, h1⟩
  · refine thn (hkw.run p3 _ s1 σ H1 (fun zs H2 => ∃ w2 S2 l2, At X.K w2 σ H2 ρ S2 ∧ DReps X.K w2 H2 (V.ref ad :: (vs ++ zs)) (dS :: (l ++ l2)) ∧ zs.length = ks.length ∧ vs.length + 1 = n - ks.length ∧ oR X.K W σ w2 H2 (qE X.K Q) (callN .S n F [] (dS :: (l ++ l2)) S2)) I4 ?_)
      fun ws s2 ⟨zs, H2, I5, rz, w2, S2, l2, a2, dr2, g1, g2, h2⟩ => ⟨⟨ClX.pin_at I5, I5.kIn⟩, ?_⟩
    · refine tA_of a1 (oR_bind a1.ok h1) fun w2 H2 S2 l2 zs st2 a2 h2 r2 => ?_
      split at h2
      · rename_i hl
        refine ⟨w2, S2, l2, a2, .cons ?_ ((dr.step a1.ok st2).app r2), by rw [r2.length]; exact hl.1, by rw [dr.length]; exact hl.2, h2⟩
        exact DRep.step a1.ok st2 (DRep.step a.ok st r0)
      · exact h2.elim
    · rw [hks2]
      obtain ⟨fd2, ps2, hk2, hb2, hF2⟩ := Cd.ex
      have hsp : spOf X.K n F ((V.ref ad :: vs) ++ zs) H2 Q fun c d H' => W c d σ H' := by
        unfold callN at h2
        split at h2
        · rename_i hl
          have := sp_M (n := n) (vs := (V.ref ad :: vs) ++ zs) (zs := []) .S a2.st dr2 (fun _ _ => .nil) (by have e := dr2.length; rw [← List.cons_append] at e; rw [e]; exact hl) h2
          rwa [List.append_nil] at this
        · exact h2.elim
      have rr : Vals (V.ref ad :: vs) (Value.ref ad :: us) := .cons rfl r
      have r2 := hb2.rel rr rz
      have z : wpAny (model X.prog X.w) X.A (call (.ref h'.objs.size) us (ks.zip ws)) (EP X [(h'.objs.size, PySem.W.methodObj (.ref f2) (.ref ad))] σ Q) X.xe s2 := by
        refine wpAny_call (PySem.W.method_call (ClX.pin_at I5) (codeAny_mono (hF2.run X.A X.stack s2 H2 ⟨Value.ref ad :: us, ks.zip ws⟩ _ _ Q (fun c d H' => W c d σ H') hr I5.env0 (hb2.to s2 (Value.ref ad :: us) ws I5.kIn (by rw [List.length_cons, ← r.length]; exact g2) (rz.length.symm.trans g1)) r2 hsp) fun o s' ho => ?_))
        cases o with
        | error er => exact tk er s' (XE.of_call I5 (fun _ _ _ z => z) ho)
        | ok fl =>
          cases fl with
          | ret u => exact I5.after ho
          | _ => exact (show False from ho).elim
      exact thn z fun _ _ y => ClX.unpinE y
end
/-! ### a body with a super() row -/
/-- the rows read f, at the def's own code -/
def SAt (X : Cx) (body : List Stmt) (W : WX) (ss : List Stmt) (f : FC) : Prop := ∀ (s : Shared) (σ : L2.St) (H : Hp) (D0 : Ends), Inv X [] σ H s → tS X.K W f D0 σ H →
  _root_.PySem.wpAt (model X.prog X.w) X.A (.func body X.env) (execs ss X.env) (L2.SP X [] D0) X.xe s
section
variable {X : Cx} {W : WX} {body ss : List Stmt} {f g : FC} {st : Stmt}
theorem sat_of (h : SSs X W ss f) : SAt X body W ss f := fun s σ H D0 I q => _root_.PySem.wpAt_of_wpAny (h.run [] s σ H D0 I q)
theorem sat_cons (h : SS X W st f) (r : SAt X body W ss g) : SAt X body W (st :: ss) (sSeq f g) := fun s σ H D0 I q => by
  obtain ⟨w, ρ, S, a, q⟩ := q
  refine ks_wpAt_execs_cons (_root_.PySem.wpAt_of_wpAny (wpAny_mono (h.run [] s σ H { D0 with nx := tS X.K W g D0 } I ⟨w, ρ, S, a, oS_seq a.ok q⟩) (fun fl s' hs => ?_) (fun _ _ z => z)))
  cases fl with
  | next =>
    obtain ⟨σ', H', J, q⟩ := hs
    exact r s' σ' H' D0 J q
  | ret u => exact hs
  | brk => exact hs
  | cont => exact hs
end
section
variable {X : Cx} {W : WX} {f f2 cc cda : Addr} {m : Str} {fd : FuncData} {x qual : Str} {params : Arguments} {body ss : List Stmt} {scope : Scope} {e : Expr} {es : List Expr} {kws : List Keyword} {ks : List Str} {k n : Nat} {F : Fn} {c : Cn} {g : FC}
theorem sat_sup {kwd : List (Str × V)} (S0 : SupO X.prog X.K X.mg (c.a X.K) f f2 cc cda m fd x qual params body scope kwd) (Cd : XDefK X f2 k n ks F) (tk : Takes X W) (hr : Room k X.A) {ar : Arg} {p0 p1 p2 p3 p4 : Pos} {fa fk : FA}
    (hks : X.env.kindOf "super" = some .globalImplicit) (hkc : X.env.kindOf "__class__" = some .free) (hcl : X.env.cells.lookup ("__class__" : Str) = some cc) (hfu : X.env.func = some f) (hcd : X.env.code = .ref cda)
    (hp : (params.posonlyargs ++ params.args).head? = some ar) (hN : X.N[0]? = some ar.arg) (hv : X.env.kindOf ar.arg = some .local)
    (ha : SA X W (e :: es) fa) (hkw : SK X W kws fk) (rest : SAt X body W ss g)
    (hm : (m == ("__class__" : Str)) = false := by rfl)
    (hall : (backToKw p3 (keywordEach kws X.env)).all (·.1.isSome) = true := by rfl) (hks2 : (backToKw p3 (keywordEach kws X.env)).filterMap (·.1) = ks := by rfl)
    (hst : starEach (e :: es) X.env = (false, eval e X.env) :: starEach es X.env := by rfl)
    (hpl : ((backTo p3 (starEach (e :: es) X.env)).any (·.1) || (backToKw p3 (keywordEach kws X.env)).any (·.1.isNone)) = false := by rfl)
    (hi : interactive X.env = false := by rfl) (hsw : swapsWith (.Call (.Attribute (.Call (.Name "super" p0) [] [] p1) m p2) (e :: es) kws p3) none p4.line X.env = pure false := by rfl)
    {pl : Sem Bool} (he : eval (.Call (.Attribute (.Call (.Name "super" p0) [] [] p1) m p2) (e :: es) kws p3) X.env = (do
      let ov ← attributeBase (.Call (.Name "super" p0) [] [] p1) m X.env (eval (.Call (.Name "super" p0) [] [] p1) X.env)
      standAt p2.atName
      let (f, first) ← holding [ov] (getMethod ov m pl)
      callWith p3 f first (backTo p3 (starEach (e :: es) X.env)) (backToKw p3 (keywordEach kws X.env))) := by rfl) :
    SAt X body W (.Expr (.Call (.Attribute (.Call (.Name "super" p0) [] [] p1) m p2) (e :: es) kws p3) p4 :: ss) (sSeq (sDrop (supK c n ks.length F fa fk)) g) := fun s σ H D0 I q => by
  obtain ⟨w, ρ, S, a, q⟩ := q
  have q2 := oS_seq a.ok q
  have hfp : (fd.params.posonlyargs ++ fd.params.args).head? = some ar := by
    obtain ⟨oc, od, osl, kV, doc, pm, an, ct, hfd, _⟩ := S0.fn
    rw [hfd]
    exact hp
  refine ks_wpAt_execs_cons (ks_wpAt_Expr_any (ks_wpAt_mono (sup_go (Q := fun _ H' => tS X.K W g D0 σ H') S0 Cd tk hr I hks hkc hcl hfu hcd hfp hN hv ha hkw a ?_ hm hall hks2 hst hpl he) (fun v s' hs => ?_) (fun _ _ z => z)) hi hsw)
  · refine oR_imp (oS_toS a.ok a.sl q2) fun w' H' S' b st sr h => ?_
    exact fun v hv => h w' H' σ (Step.refl _ _ sr.ok) sr (a.sl.step a.ok st)
  · obtain ⟨v2, H', J, _, q3⟩ := hs
    exact rest s' σ H' D0 J q3
end
/-! ### the def's promise, its binding -/
section
variable {P : Program} {w : World} {K : PySem.W.Frag} {mg : Str → Option Value} {base : Heap} {C f f2 cc cda : Addr} {m : Str} {fd : FuncData} {x qual : Str} {params : Arguments} {body : List Stmt} {scope : Scope} {kwd : List (Str × V)} {N ps : List Str} {k : Nat} {fb : FC}
theorem fn_supO (S : SupO P K mg C f f2 cc cda m fd x qual params body scope kwd) (NS : NdefX.NScope N ps [clsX] scope)
    (hb : ∀ (A : Around) (outer : List PySem.Env) (s : Shared) (H : Hp) (E : XK), Room k (A.deeper (NdefX.envF ⟨x, qual, params, body, scope, [("__class__", cc)], cda⟩ f s.heap.objs.size)) →
      Takes (NdefX.ncx (L2.CX P w) P w K mg base N ⟨x, qual, params, body, scope, [("__class__", cc)], cda⟩ f A outer s H E) (wE E) →
      SAt (NdefX.ncx (L2.CX P w) P w K mg base N ⟨x, qual, params, body, scope, [("__class__", cc)], cda⟩ f A outer s H E) body (wE E) body fb) :
    FnOk P w K mg base (L2.CX P w) (k + 1) f fd ps (spOf K ps.length (runF N.length fb)) := by
  refine ⟨fun vs H Q E h => spOf_len vs H Q E h, fun A outer s H args us vs Q E hr e0 hbd r hsp => ?_⟩
  have hl := spOf_len vs H Q E hsp
  have KX : K.In s.heap := e0.mod.kin.keeps fun b o e => (e0.bs b o e).1
  have lim : s.heap.NoLimit := e0.mod.nolimit.keeps fun b o e => (e0.bs b o e).1
  obtain ⟨oc, od, osl, kV, doc, pm, an, ct, hfd, lkf, _⟩ := id S.fn
  obtain ⟨cl, cld, csl, lkl⟩ := id S.cell
  let F : NdefX.NF := ⟨x, qual, params, body, scope, [("__class__", cc)], cda⟩
  have hcc : base.get? cc = some ⟨cl, cld, .cell (some (.ref C)), csl⟩ := e0.mod.kin _ _ lkl
  have CA : NdefX.CellsAt F.cl [clsX] [none] s.heap H := by
    refine ⟨rfl, fun y c e => ?_, fun y z c e1 e2 => ?_, fun i y e => ?_⟩
    · have : c = cc := by
        have e' : List.lookup y [(("__class__" : Str), cc)] = some c := e
        rw [List.lookup_cons] at e'
        split at e'
        · cases e'; rfl
        · cases e'
      subst this
      obtain ⟨g1, g2⟩ := e0.bs _ _ hcc
      exact ⟨g2, _, _, g1, rfl⟩
    · have h1 : ∀ {u c}, List.lookup u [(("__class__" : Str), cc)] = some c → u = ("__class__" : Str) := fun {u c} e' => by
        rw [List.lookup_cons] at e'
        split at e'
        · rename_i q; exact eq_of_beq q
        · cases e'
      exact (h1 e1).trans (h1 e2).symm
    · cases i with
      | zero =>
        have : y = ("__class__" : Str) := by simpa using e.symm
        subst this
        exact ⟨cc, by simp [F, List.lookup_cons], fun v z => by simp at z⟩
      | succ i => simp at e
  subst hfd
  refine codeAny_call_function hr.depth (KX _ _ lkf) rfl NS.co NS.gen rfl (PySem.W.codeRec_of KX S.rec_) (hbd _ _ _ _ ?_)
  refine wpAny_newFunctionEnv NS.nocell (fun ⟨n, _⟩ hy => NS.par n (List.of_mem_zip hy).1) (fun h₁ hns hsb => ⟨lim.fresh _ hsb, ?_⟩) NS.kind
  show codeAny _ _ (.func F.body (NdefX.envF F f s.heap.objs.size)) _ _
  refine ks_codeAny_funcAt ?_
  have kp : ∀ b o, s.heap.get? b = some o → h₁.get? b = some o := fun b o e => hsb.extBut b o (Nat.ne_of_lt (Heap.lt_size e)) (Heap.get?_push_of_some _ e)
  have I : Inv (NdefX.ncx (L2.CX P w) P w K mg base N F f A outer s H E) [] (NdefX.startF N vs [none]) H { s with heap := h₁, toks := s.toks + (ps.zip us).length } := NdefX.inv_startN NS hr.hd e0 hl r CA hns kp
  have hb0 := hb A outer s H E (hr.deeper _) (takes_of rfl rfl rfl rfl)
  have hN : vs.length + 1 ≤ N.length := by
    have := congrArg List.length NS.pre
    rw [List.length_take, List.length_append] at this
    have : ([clsX] : List Str).length = 1 := rfl
    omega
  have hst : NdefX.startF N vs [none] = vs.map some ++ List.replicate (N.length - vs.length) none := by
    unfold NdefX.startF
    rw [show N.length - vs.length = (N.length - vs.length - 1) + 1 by omega, List.replicate_succ]
    rfl
  obtain ⟨wd, S0, ds, sr, rr, l, o⟩ := hsp
  have key := hb0 _ (NdefX.startF N vs [none]) H { nx := fun _ H' => Q .non H', rt := Q } I ?_
  · refine ks_wpAt_mono key (fun fl s' hs => ?_) fun e s' hs => hs
    have fin : ∀ {σ' : L2.St} {H' : Hp} {v : V} {u : Value}, Inv (NdefX.ncx (L2.CX P w) P w K mg base N F f A outer s H E) [] σ' H' s' → L2.RelV v u → Q v H' → CE outer P w H s Q u s' :=
      fun {σ' H' v u} J rv q => ⟨v, H', J.os, J.bare, J.base, J.hok, rv, q⟩
    cases fl with
    | ret u =>
      obtain ⟨v, σ', H', J, rv, q⟩ := hs
      exact fin J rv q
    | next =>
      obtain ⟨σ', H', J, q⟩ := hs
      exact fin (v := V.non) (u := Value.none) J rfl q
    | brk =>
      obtain ⟨_, _, _, q⟩ := hs
      exact False.elim q
    | cont =>
      obtain ⟨_, _, _, q⟩ := hs
      exact False.elim q
  · refine ⟨wd, ds.map some ++ List.replicate (N.length - ds.length) none, S0, ⟨sr, ?_⟩, ?_⟩
    · rw [hst, rr.length]
      exact slots_app _ rr
    · unfold runF at o
      revert o
      cases fb (ds.map some ++ List.replicate (N.length - ds.length) none) S0 with
      | nx ρ S' => exact fun o w' H' σ' st sr' sl => o w' H' st sr' .non .non
      | ret d S' => exact fun o w' H' v st sr' dr => o w' H' st sr' v dr
      | bk ρ S' => exact fun o => o.elim
      | ct ρ S' => exact fun o => o.elim
      | exc x ρ S' => exact fun o w' H' σ' c e st sr' sl xr => o w' H' c e st sr' xr
      | stuck => exact fun o => o.elim
theorem SupO.kbinds (S : SupO P K mg C f f2 cc cda m fd x qual params body scope kwd) (n : Nat) (ks : List Str) (ms : List (Str × V)) (g : {α : Type} → List α → List α → List α → List α) (hk : kwd ≠ []) (hms : ∀ q ∈ ms, q ∈ kwd)
    (hrel : ∀ {vs mz zs : List V} {us mv ws : List Value}, Vals vs us → Vals mz mv → Vals zs ws → Vals (g vs mz zs) (g us mv ws))
    (h : ∀ (D : Addr) (doc pm : Value) (an : Option Addr) (ct : Value) (us mv ws : List Value), us.length = n → mv.length = ms.length → ws.length = ks.length →
      KwChain D ((ms.map (·.1)).zip mv) (bindArgs (PySem.W.fnX x qual params body scope [("__class__", cc)] .none (.ref D) doc pm an (.ref cda) ct) ⟨us, ks.zip ws⟩) (ps.zip (g us mv ws))) :
    ∃ mv : List Value, KBn K fd ps n ks (fun us ws => g us mv ws) (fun vs zs => g vs (ms.map (·.2)) zs) := by
  obtain ⟨oc, od, osl, kV, doc, pm, an, ct, rfl, lk, hK⟩ := S.fn
  rcases hK with e | ⟨D, rfl, hq⟩
  · exact absurd e hk
  · obtain ⟨mv, hl, rk, hks⟩ := kwd_vals (ms := ms) fun q hm => hq q (hms q hm)
    exact ⟨mv, ⟨fun s us ws X l1 l2 => BindsTo.of_looks fun M => KwChain.looks X hks (h D doc pm an ct us mv ws l1 hl l2), fun r1 r2 => hrel r1 rk r2⟩⟩
theorem kbn_sup (S : SupO P K mg C f f2 cc cda m fd x qual params body scope kwd) {n : Nat} {ks : List Str}
    (h : ∀ (kV doc pm : Value) (an : Option Addr) (ct : Value) (us ws : List Value), us.length = n → ws.length = ks.length →
      bindArgs (PySem.W.fnX x qual params body scope [("__class__", cc)] .none kV doc pm an (.ref cda) ct) ⟨us, ks.zip ws⟩ = pure (ps.zip (us ++ ws))) :
    KBn K fd ps n ks (fun us ws => us ++ ws) (fun vs zs => vs ++ zs) := by
  obtain ⟨oc, od, osl, kV, doc, pm, an, ct, rfl, lk, hK⟩ := S.fn
  exact ⟨fun s us ws X l1 l2 => BindsTo.of_looks fun M => PySem.W.Looks.of_pure (h kV doc pm an ct us ws l1 l2), fun r1 r2 => r1.append r2⟩
theorem kbnD_sup (S : SupO P K mg C f f2 cc cda m fd x qual params body scope kwd) {n : Nat} {ks : List Str} {dvs : List FR.P} (hk : kwd ≠ []) (hz : ∀ L H, Reps K L H (kwd.map (·.2)) dvs)
    (h : ∀ (D : Addr) (doc pm : Value) (an : Option Addr) (ct : Value) (us mv ws : List Value), us.length = n → mv.length = kwd.length → ws.length = ks.length →
      KwChain D ((kwd.map (·.1)).zip mv) (bindArgs (PySem.W.fnX x qual params body scope [("__class__", cc)] .none (.ref D) doc pm an (.ref cda) ct) ⟨us, ks.zip ws⟩) (ps.zip (us ++ (ws ++ mv)))) :
    ∃ (mv : List Value) (zs : List V), (∀ L H, Reps K L H zs dvs) ∧ KBn K fd ps n ks (fun us ws => us ++ (ws ++ mv)) (fun vs ys => vs ++ (ys ++ zs)) := by
  obtain ⟨mv, hb⟩ := S.kbinds n ks kwd (fun us mv ws => us ++ (ws ++ mv)) hk (fun q hq => hq) (fun r1 r2 r3 => r1.append (r3.append r2)) h
  exact ⟨mv, _, hz, hb⟩
end
/-! ### what the top must have left -/
def supOB (P : Program) (c b : Cn) (m : Str) (K : PySem.W.Frag) : Bool :=
  (match K.lookup (aM c m K) with
    | some ⟨_, _, .func fd, _⟩ => (match fd.closure, fd.code with
      | [(_, cc)], .ref cda => (match K.lookup cda with
          | some ⟨_, _, .fields vs, _⟩ => (match (vs[2]? : Option Value) with
            | some (Value.str fl _) => ((P.main.file : Str) == fl)
            | _ => false)
          | _ => false) && (match K.lookup cc with
          | some ⟨_, _, .cell (some (.ref D)), _⟩ => decide (D = c.a K)
          | _ => false)
      | _, _ => false)
    | _ => false) && (decide (PySem.W.mroIn K (c.a K) (.ref (c.a K)) = some true) && (decide (PySem.W.nsIn K PySem.cStatics "thirdparty.any" = some none) && (decide (PySem.W.ks_superIn K (c.a K) (c.a K) m = some (some (.ref (aM b m K)))) &&
    (decide (PySem.W.typeIn K (.ref (aM b m K)) = some (.type "function")) && (PySem.W.fnIn K (aM b m K) && !(P.main.scope.names.lookup ("super" : Str)).isSome)))))
theorem supO_ok {P : Program} {K : PySem.W.Frag} {mg : Str → Option Value} {c b : Cn} {m : Str} {d : DefX} (e : fnX K (d.ad K) = d.val) (ok : d.ok K = true) (hb : supOB P c b m K = true) (hms : mg "super" = none) (hcl : d.clo = [clsX] := by rfl) (had : d.ad K = aM c m K := by rfl) (hdf : d.dfl = [] := by rfl) :
    ∃ (fd : FuncData) (cc cda : Addr), SupO P K mg (c.a K) (aM c m K) (aM b m K) cc cda m fd d.name d.qual d.params d.body d.scope (d.kws K) := by
  obtain ⟨h4, b⟩ := b2 hb
  obtain ⟨h5, b⟩ := b2 b
  obtain ⟨h6, b⟩ := b2 b
  obtain ⟨h7, b⟩ := b2 b
  obtain ⟨h8, b⟩ := b2 b
  obtain ⟨h9, h10⟩ := b2 b
  obtain ⟨kp, c2⟩ := b2 ok
  rw [had] at e c2 kp
  unfold fnX at e
  cases q : K.lookup (aM c m K) with
  | none => rw [q] at h4; cases h4
  | some o =>
    obtain ⟨oc, od, dt, osl⟩ := o
    rw [q] at c2 e h4
    cases dt with
    | func fd =>
      obtain ⟨m1, m2, m3, m4, m5, m6, m7, m8, m9, m10, m11, m12, m13, m14, m15⟩ := fd
      have e2 : (some (m1, m2, m3, m4, m5, m6, m7.map (fun p => (p.1, 0)), m15) : He.FnW) = some (d.name, d.qual, d.params, .stmts d.body, d.scope, mainGlobals, d.clo.map (fun x => (x, 0)), builtinsNs) := e
      rw [hcl] at e2
      simp only [Option.some.injEq, Prod.mk.injEq, List.map_cons, List.map_nil] at e2
      obtain ⟨g1, g2, g3, g4, g5, g6, g7, g8⟩ := e2
      subst g1 g2 g3 g4 g5 g6 g8
      obtain ⟨k1, k2⟩ := b2 (show (PySem.W.codeIn K m13 d.qual && (He.dflB K m8 (d.dvs K) && He.kwdB K m9 (d.kws K))) = true from c2)
      obtain ⟨k3, k4⟩ := b2 k2
      have hd0 : m8 = .none := by
        unfold DefX.dvs at k3
        rw [hdf] at k3
        rcases He.dflB_ok k3 with z | z
        · exact z.2
        · exact absurd rfl z.1
      subst hd0
      cases m7 with
      | nil => cases g7
      | cons p r =>
        obtain ⟨pn, cc⟩ := p
        cases r with
        | cons p2 r2 => simp at g7
        | nil =>
          have : pn = ("__class__" : Str) := by simpa using g7
          subst this
          cases m13 with
          | ref cda =>
            obtain ⟨i1, i2⟩ := b2 h4
            refine ⟨_, cc, cda, ⟨oc, od, osl, m9, m10, m11, m12, m14, rfl, q, He.kwdB_ok k4⟩, kp, k1, ?_, ?_, of_decide_eq_true h5, hms, by simpa using h10, of_decide_eq_true h6, of_decide_eq_true h7, of_decide_eq_true h8, h9⟩
            · cases q1 : K.lookup cda with
              | none => rw [q1] at i1; cases i1
              | some o1 =>
                rw [q1] at i1
                obtain ⟨a1, a2, a3, a4⟩ := o1
                cases a3 with
                | fields vs =>
                  dsimp only at i1
                  cases q2 : vs[2]? with
                  | none => rw [q2] at i1; cases i1
                  | some v2 =>
                    rw [q2] at i1
                    cases v2 with
                    | str fl tf => exact ⟨a1, a2, vs, a4, fl, tf, rfl, q2, i1⟩
                    | _ => cases i1
                | _ => cases i1
            · cases q1 : K.lookup cc with
              | none => rw [q1] at i2; cases i2
              | some o1 =>
                rw [q1] at i2
                obtain ⟨a1, a2, a3, a4⟩ := o1
                cases a3 with
                | cell v =>
                  cases v with
                  | none => cases i2
                  | some v =>
                    cases v with
                    | ref D =>
                      have := of_decide_eq_true i2
                      subst this
                      exact ⟨a1, a2, a4, rfl⟩
                    | _ => cases i2
                | _ => cases i2
          | _ => cases h4
    | _ => cases h4
end FR

set_option Elab.async false
set_option linter.all false
set_option maxRecDepth 100000
set_option maxHeartbeats 1000000
/-! o[i] by an own __getitem__ that may raise -/
namespace FR
open PySem PySem.Spec PyProof.Rows L2
def gIxX (c : Cn) (F : Fn) : D → D → Store → R D := fun x y S => if isIns c x S = true then callN .P 2 F [] [x, y] S else .stuck
section
variable {X : Cx} {W : WX} {e : Expr} {es : List Expr} {pos : Pos}
/-- a call within a built-in's body that lets an exception through -/
theorem go_inx {pins : List (Addr × Obj)} {σ : L2.St} {H : Hp} {s : Shared} {Q : VK} {us : List Value} {vs : List V} {w : Wd} {S : Store} {ds : List D} {f : Addr} {k n : Nat} {F : Fn} (m : Mode) (C : XDef X f k n [] F) (tk : Takes X W) (hr : Room (k + 1) X.A) (I : Inv X pins σ H s) (r : Vals vs us)
    (sr : SRep X.K w H S) (dr : DReps X.K w H vs ds) (h : oR X.K W σ w H (qE X.K Q) (callN m n F [] ds S)) : wpAny (model X.prog X.w) X.A.in1 (call (.ref f) us) (EP X pins σ Q) X.xe s := by
  obtain ⟨fd, ps, ds', zs, hk, hb, hv, hz, hF⟩ := C.ex
  have ez : zs = [] := by
    have h0 := hz (fun _ => False) (fun _ => none)
    cases h0; rfl
  subst ez
  cases hv
  have hsp : spOf X.K n F (vs ++ []) H Q fun c d H' => W c d σ H' := by
    unfold callN at h
    split at h
    · rename_i hl
      exact sp_M (W := W) (σ := σ) (zs := []) m sr dr hz (by simp only [List.length_nil]; rw [dr.length]; exact hl) h
    · exact h.elim
  rw [List.append_nil] at hsp
  have ll : (us ++ []).length = ps.length := by rw [List.append_nil, ← r.length]; exact hF.len _ _ _ _ hsp
  have hbb := hb s us I.kIn ll
  rw [List.append_nil] at hbb
  refine wpAny_call (codeAny_mono (hF.run X.A.in1 X.stack s H ⟨us, []⟩ us vs Q (fun c d H' => W c d σ H') (hr.in1) I.env0.in1 hbb r hsp) fun o s' ho => ?_)
  cases o with
  | error er => exact tk er s' (XE.of_call I (fun _ _ _ z => z) ho)
  | ok fl =>
    cases fl with
    | ret u => exact I.after ho
    | _ => exact (show False from ho).elim
theorem se_ixX {a b : Expr} {fa fb : FE} {c : Cn} {f : Addr} {k : Nat} {F : Fn} (B : IxOk X.K c f) (C : XDef X f k 2 [] F) (tk : Takes X W) (hr : Room (k + 1) X.A) (ha : SE X W a fa) (hb : SE X W b fb)
    (hsl : ∀ v u, subscripted b true v u = runValue (.builtin "lifetime.subscript" ⟨[v, u], []⟩) := by intro _ _; with_unfolding_all rfl) : SE X W (.Subscript a b pos) (c2 (gIxX c F) fa fb) := by
  refine ⟨fun pins s σ H Q I ⟨w, ρ, S, at0, h⟩ => ?_⟩
  refine Subscript_ (thn (run_then ha I at0 h) fun v s1 ⟨x, H1, w1, S1, d, I1, rx, st1, a1, dr1, h1⟩ => ?_)
  refine thn (run_then hb I1 a1 h1) fun u s2 ⟨y, H2, w2, S2, d2, I2, ry, st2, a2, dr2, q⟩ => ?_
  have r1 := dr1.step a1.ok st2
  unfold gIxX at q
  split at q
  · rename_i hc
    obtain ⟨a3, d3, f3, rfl, h3, _⟩ := ins_at a2.st r1 hc
    obtain rfl : v = Value.ref a3 := rx
    obtain ⟨od, J⟩ := inst_of I2 h3
    obtain ⟨mm, hF⟩ := I2.fr
    exact PySem.W.sub_K hF I2.ok.mod.kin J B.has.hs B.fn B.has.hf (go_inx (W := W) (us := [Value.ref a3, u]) (vs := [V.ref a3, y]) .P C tk hr I2 (.cons rfl (.cons ry .nil)) a2.st (.cons r1 (.cons dr2 .nil)) q) (hsl _ _)
  · exact q.elim
end
end FR

set_option Elab.async false
set_option linter.all false
set_option maxRecDepth 100000
set_option maxHeartbeats 1000000
namespace FR
open PySem PySem.Spec PyProof.Rows L2
section
variable {X : Cx} {W : WX} {e : Expr} {es : List Expr} {pos p2 : Pos}
/-! the items of a list, also of one that is a cell -/
def itemsOf (S : Store) : D → Option (List P)
  | .p (.lst l) => some l
  | .r n => (match S[n]? with
    | some (.lst l) => pureL l
    | _ => none)
  | _ => none
theorem itemsOf_p (S : Store) (l : List P) : itemsOf S (.p (.lst l)) = some l := rfl
theorem itemsOf_0 (S : Store) (l : List P) : itemsOf (.lst (l.map .p) :: S) (.r 0) = some l := pureL_map l
theorem items_rep {K : PySem.W.Frag} {w : Wd} {H : Hp} {S : Store} {v : V} {d : D} {l : List P} (sr : SRep K w H S) (r : DRep K w H v d) (h : itemsOf S d = some l) :
    ∃ a vs, v = .ref a ∧ Reps K w.L H vs l ∧ SqL K H a vs ∧ (H a = some (.lst vs) ∨ ∃ o, H a = some (.frz o (.lst vs))) := by
  unfold itemsOf at h
  split at h
  · cases h
    cases r with
    | lst hh rr => exact ⟨_, _, rfl, rr, hh.sq, hh.imp (fun z => z.1) id⟩
  · split at h
    · rename_i n _ k hS
      obtain ⟨ad, us, e1, e2, e3⟩ := sr.cell n _ hS
      rw [pureL_eq h] at e3
      exact ⟨ad, us, r.2 ad e1, e3.pure, .inl (.inl e2), .inl e2⟩
    · cases h
  · cases h
theorem lst_obj2 {pins : List (Addr × Obj)} {σ : L2.St} {H : Hp} {s : Shared} {a : Addr} {vs : List V} (I : Inv X pins σ H s) (h : H a = some (.lst vs) ∨ ∃ o, H a = some (.frz o (.lst vs))) :
    ∃ (its : List Value) (n : Nat), Vals vs its ∧ vs.length ≤ sizeLine ∧ s.heap.get? a = some { cls := .type "list", data := .seq its.toArray n } :=
  lst_obj (L := fun _ => False) I (h.imp (fun z => ⟨z, id⟩) id)
/-- l + k, also of cells -/
def gCatC : D → D → Store → R D := fun x y S => match itemsOf S x, itemsOf S y with
  | some a, some b => if a.length ≤ 500000 ∧ b.length ≤ 500000 then .ok (.p (.lst (a ++ b))) S else .stuck
  | _, _ => .stuck
def gCatR : D → D → Store → R D := fun x y S => match itemsOf S x, itemsOf S y with
  | some a, some b => if a.length ≤ 500000 ∧ b.length ≤ 500000 then .ok (.r S.length) (S ++ [.lst ((a ++ b).map .p)]) else .stuck
  | _, _ => .stuck
theorem cat_go {pins : List (Addr × Obj)} {s : Shared} {σ : L2.St} {H : Hp} {w : Wd} {ρ : Env} {S : Store} {x y : V} {dx dy : D} {v u : Value} {Q : VK} {l k : List P} (I : Inv X pins σ H s) (a : At X.K w σ H ρ S) (r1 : DRep X.K w H x dx) (r2 : DRep X.K w H y dy) (rx : RelV x v) (ry : RelV y u)
    (h1 : itemsOf S dx = some l) (h2 : itemsOf S dy = some k) (hl : l.length ≤ 500000) (hk : k.length ≤ 500000) (q : ∀ p vs, H p = none → Reps X.K w.L H vs (l ++ k) → Q (.ref p) (upd H p (.lst vs))) : wpAny (model X.prog X.w) X.A (binaryOp .Add v u) (EP X pins σ Q) X.xe s := by
  obtain ⟨b1, vs, rfl, q1, _, z1⟩ := items_rep a.st r1 h1
  obtain ⟨b2, us, rfl, q2, _, z2⟩ := items_rep a.st r2 h2
  cases rx
  cases ry
  obtain ⟨its, n, c1, c2, c3⟩ := lst_obj2 I z1
  obtain ⟨its2, n2, d1, d2, d3⟩ := lst_obj2 I z2
  have e1 := c1.length
  have e2 := d1.length
  have g1 := Reps.length q1
  have g2 := Reps.length q2
  refine PySem.P.add_list c3 d3 ?_ (by rw [List.size_toArray, List.size_toArray, ← e1, ← e2, g1, g2, sizeLine_eq]; omega)
  have ea : its.toArray ++ its2.toArray = (its ++ its2).toArray := by simp
  rw [ea]
  exact ⟨.ref _, _, I.lnew (t' := s.toks) (c1.append d1) (by rw [List.length_append, g1, g2, sizeLine_eq]; omega), rfl, q _ _ I.fresh (Reps.app q1 q2)⟩
theorem o_catC : OpF X W (binaryOp .Add) gCatC := by
  intro pins s σ H w ρ S x y dx dy v u Q I a r1 r2 rx ry q
  unfold gCatC at q
  split at q
  · rename_i l k h1 h2
    split at q
    · rename_i hl
      exact cat_go I a r1 r2 rx ry h1 h2 hl.1 hl.2 fun p vs hp rr => by
        obtain ⟨st, sr, dr⟩ := lay_lst a.st hp rr
        exact q _ _ st sr _ dr
    · exact q.elim
  · exact q.elim
theorem o_catR : OpF X W (binaryOp .Add) gCatR := by
  intro pins s σ H w ρ S x y dx dy v u Q I a r1 r2 rx ry q
  unfold gCatR at q
  split at q
  · rename_i l k h1 h2
    split at q
    · rename_i hl
      exact cat_go I a r1 r2 rx ry h1 h2 hl.1 hl.2 fun p vs hp rr => by
        obtain ⟨st, sr, dr⟩ := lay_lstR a.st hp (Reps.ds (w := w) rr)
        exact q _ _ st sr _ dr
    · exact q.elim
  · exact q.elim
/-- t + u of tuples -/
def gCatT : D → D → Store → R D := fun x y S => match x, y with
  | .p (.tup a), .p (.tup b) => if a.length ≤ 500000 ∧ b.length ≤ 500000 then .ok (.p (.tup (a ++ b))) S else .stuck
  | _, _ => .stuck
theorem o_catT : OpF X W (binaryOp .Add) gCatT := by
  intro pins s σ H w ρ S x y dx dy v u Q I a r1 r2 rx ry q
  unfold gCatT at q
  split at q
  · split at q
    · rename_i l k hl
      cases r1 with
      | tup h1 q1 =>
        cases r2 with
        | tup h2 q2 =>
          have g1 := Reps.length q1
          have g2 := Reps.length q2
          refine op_catA pins s σ H _ _ v u Q I rx ry ⟨_, _, _, _, rfl, rfl, h1, h2, by rw [g1, g2, sizeLine_eq]; omega, fun z => ?_, fun _ z => ?_, fun _ _ p hp => ?_⟩
          · subst z
            have : l = [] := List.length_eq_zero_iff.mp (by rw [← g1]; rfl)
            subst this
            exact oE_ok a.st q (show DRep X.K w H _ (.p (.tup _)) from .tup h2 q2)
          · subst z
            have : k = [] := List.length_eq_zero_iff.mp (by rw [← g2]; rfl)
            subst this
            rw [List.append_nil] at q
            exact oE_ok a.st q (show DRep X.K w H _ (.p (.tup _)) from .tup h1 q1)
          · obtain ⟨st, sr, dr⟩ := lay_tup a.st hp (Reps.app q1 q2)
            exact q _ _ st sr _ dr
    · exact q.elim
  · exact q.elim
/-- texts put together -/
def gCatS : D → D → Store → R D := fun x y S => match x, y with
  | .p (.str a), .p (.str b) => if a.length ≤ 500000 ∧ b.length ≤ 500000 then .ok (.p (.str (a ++ b))) S else .stuck
  | _, _ => .stuck
theorem o_catS : OpF X W (binaryOp .Add) gCatS := by
  intro pins s σ H w ρ S x y dx dy v u Q I a r1 r2 rx ry q
  unfold gCatS at q
  split at q
  · split at q
    · rename_i i j hl
      obtain rfl := rep_str r1
      obtain rfl := rep_str r2
      exact op_add_str pins s σ H _ _ v u Q I rx ry ⟨i, j, rfl, rfl, by rw [sizeLine_eq]; omega, oE_ok a.st q (.str _)⟩
    · exact q.elim
  · exact q.elim
/-- b is c, b is not c -/
def gIsB : D → D → Store → R D := fun x y S => match x, y with
  | .p (.bl a), .p (.bl b) => .ok (.p (.bl (decide (a = b)))) S
  | _, _ => .stuck
def gIsntB : D → D → Store → R D := fun x y S => match x, y with
  | .p (.bl a), .p (.bl b) => .ok (.p (.bl (!decide (a = b)))) S
  | _, _ => .stuck
theorem o_isB : OpF X W (compareOp .Is) gIsB := by
  intro pins s σ H w ρ S x y dx dy v u Q I a r1 r2 rx ry q
  unfold gIsB at q
  split at q
  · obtain rfl := rep_bl r1
    obtain rfl := rep_bl r2
    exact op_isBl pins s σ H _ _ v u Q I rx ry ⟨_, _, rfl, rfl, oE_ok a.st q (.bl _)⟩
  · exact q.elim
theorem o_isntB : OpF X W (compareOp .IsNot) gIsntB := by
  intro pins s σ H w ρ S x y dx dy v u Q I a r1 r2 rx ry q
  unfold gIsntB at q
  split at q
  · obtain rfl := rep_bl r1
    obtain rfl := rep_bl r2
    exact op_notBl pins s σ H _ _ v u Q I rx ry ⟨_, _, rfl, rfl, oE_ok a.st q (.bl _)⟩
  · exact q.elim
/-! ### zip, reversed, range with a step, as sources -/
def zipP : List P → List P → List D
  | a :: l, b :: k => .p (.tup [a, b]) :: zipP l k
  | _, _ => []
theorem zip_len : ∀ l k : List P, (zipP l k).length = min l.length k.length
  | [], _ => by unfold zipP; simp
  | _ :: _, [] => by unfold zipP; simp
  | a :: l, b :: k => by
    unfold zipP
    rw [List.length_cons, zip_len l k, List.length_cons, List.length_cons]
    omega
theorem zip_get : ∀ {l k : List P} {i : Nat} {d : D}, (zipP l k)[i]? = some d → ∃ p q, l[i]? = some p ∧ k[i]? = some q ∧ d = .p (.tup [p, q])
  | [], _, i, d, h => by unfold zipP at h; cases h
  | _ :: _, [], i, d, h => by unfold zipP at h; cases h
  | a :: l, b :: k, i, d, h => by
    unfold zipP at h
    cases i with
    | zero => cases h; exact ⟨a, b, rfl, rfl, rfl⟩
    | succ i => exact zip_get (l := l) (k := k) h
/-- zip of two lists or two tuples that stand still -/
def srcZ : List D → Store → R Src := fun ds S => match ds with
  | [.p (.lst l), .p (.lst k)] => .ok (zipP l k, none) S
  | [.p (.tup l), .p (.tup k)] => .ok (zipP l k, none) S
  | _ => .stuck
theorem si_zip {a b : Expr} {elts : List Expr} {kk : Nat} {tpos p : Pos} {f : FA} (hm : X.mg "zip" = none) (ha : SA X W [a, b] f) (hg : Gl X "zip" := by rfl) (hs : starEach [a, b] X.env = (false, eval a X.env) :: starEach [b] X.env := by rfl) (hpl : (backTo pos (starEach [b] X.env)).any (·.1) = false := by rfl) :
    SI X W (.Tuple elts kk tpos) (.Call (.Name "zip" p) [a, b] [] pos) (iOfA srcZ f) :=
  (RZ.pi_zipA hg hm ha hs hpl).imp fun σ H Q ⟨w, ρ, S, a, h⟩ => tA_of a (oR_bind a.ok h) fun w1 H1 S1 ds vs st a1 h1 r => by
    unfold srcZ at h1
    split at h1
    · rename_i l k
      obtain ⟨v, u, rfl, hv, hu⟩ := reps_two r
      cases hv with
      | lst hh rr =>
        cases hu with
        | lst hh2 rr2 =>
          refine ⟨_, _, _, _, rfl, .inl ⟨hh.sq, hh2.sq, h1 w1 H1 (Step.refl _ _ a1.ok) a1.st _ ?_⟩⟩
          intro w' H' S' st' sr' hc i
          have q1 := LstAt.sq (K := X.K) (st'.lst a1.ok hh)
          have q2 := LstAt.sq (K := X.K) (st'.lst a1.ok hh2)
          have t1 := Reps.step a1.ok st' rr
          have t2 := Reps.step a1.ok st' rr2
          refine ⟨fun hle => ⟨_, _, q1, q2, ?_⟩, fun d2 hd => ?_⟩
          · rw [zip_len] at hle
            rw [Reps.length t1, Reps.length t2]
            omega
          · obtain ⟨p, q, g1, g2, rfl⟩ := zip_get hd
            obtain ⟨x, f1, f2⟩ := Reps.get t1 g1
            obtain ⟨y, f3, f4⟩ := Reps.get t2 g2
            refine ⟨⟨_, _, _, _, q1, q2, f1, f3⟩, fun z H'' hy => ?_⟩
            obtain ⟨T, x', y', rfl, hT, rfl, k1, k2⟩ := hy
            have z1 := k1 _ q1
            have z2 := k2 _ q2
            rw [f1] at z1
            rw [f3] at z2
            cases z1
            cases z2
            exact lay_tup sr' hT (.cons f2 (.cons f4 .nil))
    · rename_i l k
      obtain ⟨v, u, rfl, hv, hu⟩ := reps_two r
      cases hv with
      | tup hh rr =>
        cases hu with
        | tup hh2 rr2 =>
          refine ⟨_, _, _, _, rfl, .inr ⟨hh, hh2, h1 w1 H1 (Step.refl _ _ a1.ok) a1.st _ ?_⟩⟩
          intro w' H' S' st' sr' hc i
          have q1 := st'.sqT hh
          have q2 := st'.sqT hh2
          have t1 := Reps.step a1.ok st' rr
          have t2 := Reps.step a1.ok st' rr2
          refine ⟨fun hle => ⟨_, _, q1, q2, ?_⟩, fun d2 hd => ?_⟩
          · rw [zip_len] at hle
            rw [Reps.length t1, Reps.length t2]
            omega
          · obtain ⟨p, q, g1, g2, rfl⟩ := zip_get hd
            obtain ⟨x, f1, f2⟩ := Reps.get t1 g1
            obtain ⟨y, f3, f4⟩ := Reps.get t2 g2
            refine ⟨⟨_, _, _, _, q1, q2, f1, f3⟩, fun z H'' hy => ?_⟩
            obtain ⟨T, x', y', rfl, hT, rfl, k1, k2⟩ := hy
            have z1 := k1 _ q1
            have z2 := k2 _ q2
            rw [f1] at z1
            rw [f3] at z2
            cases z1
            cases z2
            exact lay_tup sr' hT (.cons f2 (.cons f4 .nil))
    · exact h1.elim
/-- range(i, j, -1) -/
def downTo (i : Int) (n : Nat) : List D := (List.range n).map fun k => .p (.int (i + (k : Nat) * (-1)))
def srcR3 : List D → Store → R Src := fun ds S => match ds with
  | [.p (.int i), .p (.int j), .p (.int c)] => if -(2 ^ 62) ≤ i ∧ i < 2 ^ 62 ∧ -(2 ^ 62) ≤ j ∧ j < 2 ^ 62 ∧ c = -1 then .ok (downTo i (i - j).toNat, none) S else .stuck
  | _ => .stuck
theorem reps_three {K : PySem.W.Frag} {w : Wd} {H : Hp} {vs : List V} {d d' d'' : D} (r : DReps K w H vs [d, d', d'']) : ∃ v v' v'', vs = [v, v', v''] ∧ DRep K w H v d ∧ DRep K w H v' d' ∧ DRep K w H v'' d'' := by
  cases r with
  | cons h t =>
    obtain ⟨v', v'', rfl, h', h''⟩ := reps_two t
    exact ⟨_, _, _, rfl, h, h', h''⟩
theorem si_range3 {tg a b c : Expr} {f : FA} {p : Pos} (hm : X.mg "range" = none) (ha : SA X W [a, b, c] f) (hg : Gl X "range" := by rfl) (hs : starEach [a, b, c] X.env = (false, eval a X.env) :: starEach [b, c] X.env := by rfl) (hpl : (backTo pos (starEach [b, c] X.env)).any (·.1) = false := by rfl) :
    SI X W tg (.Call (.Name "range" p) [a, b, c] [] pos) (iOfA srcR3 f) :=
  (pi_range3 hg hm ha hs hpl).imp fun σ H Q ⟨w, ρ, S, a, h⟩ => tA_of a (oR_bind a.ok h) fun w1 H1 S1 ds vs st a1 h1 r => by
    unfold srcR3 at h1
    split at h1
    · split at h1
      · rename_i i j c hr
        obtain ⟨v, u, z, rfl, hv, hu, hz⟩ := reps_three r
        obtain rfl := rep_int hv
        obtain rfl := rep_int hu
        obtain rfl := rep_int hz
        obtain ⟨r1, r2, r3, r4, rfl⟩ := hr
        refine ⟨i, j, -1, _, rfl, RgC.neg r1 r2 r3 r4, h1 w1 H1 (Step.refl _ _ a1.ok) a1.st _ ?_⟩
        intro w' H' S' st' sr' hc k
        refine ⟨fun hle => ?_, fun d hd => ?_⟩
        · unfold downTo at hle
          rw [List.length_map, List.length_range] at hle
          exact hle
        · unfold downTo at hd
          rw [List.getElem?_map] at hd
          cases e : (List.range (i - j).toNat)[k]? with
          | none => rw [e] at hd; cases hd
          | some m =>
            rw [e] at hd
            cases hd
            obtain ⟨hk, hm⟩ := List.getElem?_eq_some_iff.mp e
            rw [List.getElem_range] at hm
            subst hm
            rw [List.length_range] at hk
            refine ⟨hk, fun x H'' hy => ?_⟩
            obtain ⟨rfl, rfl⟩ := hy
            exact ⟨Step.refl _ _ sr'.ok, sr', .int _⟩
      · exact h1.elim
    · exact h1.elim
/-- reversed of a list or a tuple that stands still -/
def srcV : D → Store → R Src := fun d S => match d with
  | .p (.lst l) => .ok (l.reverse.map .p, none) S
  | .p (.tup l) => .ok (l.reverse.map .p, none) S
  | _ => .stuck
theorem si_rev {tg : Expr} {f : FE} {p : Pos} (hm : X.mg "reversed" = none) (he : SE X W e f) (hg : Gl X "reversed" := by rfl) (hs : starEach [e] X.env = (false, eval e X.env) :: starEach [] X.env := by rfl) :
    SI X W tg (.Call (.Name "reversed" p) [e] [] pos) (iOf srcV f) :=
  (RT.pi_revA hg hm he hs).imp fun σ H Q ⟨w, ρ, S, a, h⟩ => tE_of a (oR_bind a.ok h) fun w1 H1 S1 d v st a1 h1 r => by
    have aux : ∀ (w' : Wd) (H' : Hp) (l : List P) (vs : List V) (k : Nat) (d : D), Reps X.K w'.L H' vs l → (l.reverse.map D.p)[k]? = some d → k < vs.length ∧ ∃ x, vs[vs.length - 1 - k]? = some x ∧ DRep X.K w' H' x d := by
      intro w' H' l vs k d rr hd
      have hl := Reps.length rr
      rw [List.getElem?_map] at hd
      cases e : l.reverse[k]? with
      | none => rw [e] at hd; cases hd
      | some q =>
        rw [e] at hd
        cases hd
        have hk : k < l.length := by
          have := (List.getElem?_eq_some_iff.mp e).1
          rwa [List.length_reverse] at this
        rw [List.getElem?_reverse hk] at e
        obtain ⟨x, g1, g2⟩ := Reps.get rr e
        exact ⟨by omega, x, by rw [hl]; exact g1, g2⟩
    unfold srcV at h1
    split at h1
    · cases r with
      | lst hh rr =>
        refine ⟨_, _, rfl, .inl ⟨hh.sq, h1 w1 H1 (Step.refl _ _ a1.ok) a1.st _ ?_⟩⟩
        intro w' H' S' st' sr' hc k
        have q1 := LstAt.sq (K := X.K) (st'.lst a1.ok hh)
        have t1 := Reps.step a1.ok st' rr
        have hl := Reps.length t1
        refine ⟨fun hle => ?_, fun d hd => ?_⟩
        · rw [List.length_map, List.length_reverse] at hle
          show _ ≤ k
          rw [hl]; exact hle
        · obtain ⟨hk, x, g1, g2⟩ := aux w' H' _ _ k d t1 hd
          refine ⟨⟨hk, _, x, q1, g1⟩, fun y H'' hy => ?_⟩
          obtain ⟨rfl, hy⟩ := hy
          have := hy _ q1
          rw [g1] at this
          cases this
          exact ⟨Step.refl _ _ sr'.ok, sr', g2⟩
    · cases r with
      | tup hh rr =>
        refine ⟨_, _, rfl, .inr ⟨hh, h1 w1 H1 (Step.refl _ _ a1.ok) a1.st _ ?_⟩⟩
        intro w' H' S' st' sr' hc k
        have q1 := st'.sqT hh
        have t1 := Reps.step a1.ok st' rr
        have hl := Reps.length t1
        refine ⟨fun hle => ?_, fun d hd => ?_⟩
        · rw [List.length_map, List.length_reverse] at hle
          show _ ≤ k
          rw [hl]; exact hle
        · obtain ⟨hk, x, g1, g2⟩ := aux w' H' _ _ k d t1 hd
          refine ⟨⟨hk, _, x, q1, g1⟩, fun y H'' hy => ?_⟩
          obtain ⟨rfl, hy⟩ := hy
          have := hy _ q1
          rw [g1] at this
          cases this
          exact ⟨Step.refl _ _ sr'.ok, sr', g2⟩
    · exact h1.elim
end
end FR

set_option Elab.async false
set_option linter.all false
set_option maxRecDepth 100000
set_option maxHeartbeats 1000000
namespace FR
open PySem PySem.Spec PyProof.Rows L2
section
variable {X : Cx} {W : WX} {e : Expr} {es : List Expr} {pos : Pos}
/-! methods of a list that is a cell: g says what comes back and what the list is then -/
abbrev CM := List D → List D → Option (D × List D)
structure CellR (K : PySem.W.Frag) (r : V → List V → Hp → VK → Prop) (g : CM) : Prop where
  run : ∀ (w : Wd) (H : Hp) (a : Addr) (vs us : List V) (acc ds : List D) (res : D) (acc' : List D) (Q : VK), H a = some (.lst vs) → DReps K w H vs acc → DReps K w H us ds → g acc ds = some (res, acc') →
    (∀ v vs', DRep K w H v res → DReps K w H vs' acc' → Q v (upd H a (.lst vs'))) → r (.ref a) us H Q
def cellM (g : CM) (n : Nat) (ds : List D) : Store → R D := fun S => match S[n]? with
  | some (.lst acc) => (match g acc ds with
    | some (d, acc') => .ok d (S.set n (.lst acc'))
    | none => .stuck)
  | _ => .stuck
def fCell0 (g : CM) (fo : FE) : FE := fun ρ S => (fo ρ S).bind fun o S1 => match o with
  | .r n => cellM g n [] S1
  | _ => .stuck
def fCell (g : CM) (fo : FE) (fa : FA) : FE := fun ρ S => (fo ρ S).bind fun o S1 => (match o with
  | .r n => if tagC S1[n]? = some (.ty "list") then (fa ρ S1).bind fun l S2 => cellM g n l S2 else .stuck
  | _ => .stuck)
theorem cell_go {r : V → List V → Hp → VK → Prop} {g : CM} (C : CellR X.K r g) {σ : L2.St} {H : Hp} {w : Wd} {ρ : Env} {S : Store} {v : V} {n : Nat} {us : List V} {ds : List D} {Q : VK} (a : At X.K w σ H ρ S) (hv : DRep X.K w H v (.r n)) (hu : DReps X.K w H us ds)
    (h : oR X.K W σ w H (qE X.K Q) (cellM g n ds S)) : r v us H Q := by
  unfold cellM at h
  split at h
  · rename_i acc hS
    obtain ⟨ad, vs, e1, e2, e3⟩ := a.st.cell n _ hS
    rw [hv.2 ad e1]
    split at h
    · rename_i d acc' hg
      refine C.run w H ad vs us acc ds d acc' Q e2 e3 hu hg fun v' vs' r1 r2 => ?_
      have st3 : Step w H w (upd H ad (.lst vs')) := (write_cell (o := .lst vs') (c := .dead) a.st e1 trivial trivial).1
      obtain ⟨_, sr3⟩ := write_cell (o := .lst vs') (c := .lst acc') a.st e1 trivial ⟨ad, _, e1, upd_same, r2.step a.ok st3⟩
      exact h w _ st3 sr3 _ (r1.step a.ok st3)
    · exact h.elim
  · exact h.elim
theorem cell_ty {σ : L2.St} {H : Hp} {w : Wd} {ρ : Env} {S : Store} {v : V} {n : Nat} {g : CM} {ds : List D} {Q : VK} (a : At X.K w σ H ρ S) (hv : DRep X.K w H v (.r n)) (h : oR X.K W σ w H (qE X.K Q) (cellM g n ds S)) : tyV X.K "list" v H := by
  unfold cellM at h
  split at h
  · rename_i acc hS
    obtain ⟨ad, vs, e1, e2, e3⟩ := a.st.cell n _ hS
    rw [hv.2 ad e1]
    exact .inl ⟨rfl, _, .inl (.inl e2)⟩
  · exact h.elim
theorem se_cell0 {o : Expr} {name : Str} {id : String} {apos : Pos} {fo : FE} {r : V → List V → Hp → VK → Prop} {g : CM} (slot : Slot "list" name id) (hty : typeOf (.builtin id) = pure (.type "method_descriptor")) (hm : MtR X id r) (C : CellR X.K r g) (ho : SE X W o fo)
    (hbase : attributeBase o name X.env (eval o X.env) = eval o X.env := by rfl) (hline : (apos.endLine == pos.line) = true := by rfl) : SE X W (.Call (.Attribute o name apos) [] [] pos) (fCell0 g fo) :=
  (pe_bm0 PySem.F.plainAttrs_list slot hty hm ho hbase hline).imp fun σ H Q ⟨w, ρ, S, a, h⟩ => tE_of a (oR_bind a.ok h) fun w1 H1 S1 d v st a1 h1 hv => by
    split at h1
    · exact ⟨cell_ty a1 hv h1, cell_go C a1 hv .nil h1⟩
    · exact h1.elim
theorem se_cell {o : Expr} {name : Str} {id : String} {apos : Pos} {fo : FE} {fa : FA} {r : V → List V → Hp → VK → Prop} {g : CM} (slot : Slot "list" name id) (hty : typeOf (.builtin id) = pure (.type "method_descriptor")) (hm : MtR X id r) (C : CellR X.K r g) (ho : SE X W o fo) (ha : SA X W (e :: es) fa)
    (hbase : attributeBase o name X.env (eval o X.env) = eval o X.env := by rfl)
    (hfew : ((backTo pos (starEach (e :: es) X.env)).all (fun x => !x.1) && (backToKw pos (keywordEach [] X.env)).all (fun x => x.1.isSome)
      && decide ((e :: es).length + ([] : List Keyword).length + (if ([] : List Keyword).isEmpty then 0 else 1) < 30)) = true := by rfl)
    (hline : (apos.endLine == pos.line) = true := by rfl) (hs : starEach (e :: es) X.env = (false, eval e X.env) :: starEach es X.env := by rfl) (hplain : (backTo pos (starEach es X.env)).any (·.1) = false := by rfl) :
    SE X W (.Call (.Attribute o name apos) (e :: es) [] pos) (fCell g fo fa) :=
  (pe_bm PySem.F.plainAttrs_list slot hty hm ho ha hbase hfew hline hs hplain).imp fun σ H Q ⟨w, ρ, S, a, h⟩ => tE_of a (oR_bind a.ok h) fun w1 H1 S1 d v st a1 h1 hv => by
    split at h1
    · rename_i n
      split at h1
      · rename_i ht
        obtain ⟨l0, hl0⟩ := tagC_lst ht
        obtain ⟨ad, vs0, e1, e2, e3⟩ := a1.st.cell n _ hl0
        refine ⟨by rw [hv.2 ad e1]; exact .inl ⟨rfl, _, .inl (.inl e2)⟩, tA_of a1 (oR_bind a1.ok h1) fun w2 H2 S2 ds us st2 a2 h2 rs => ?_⟩
        exact cell_go C a2 (hv.step a1.ok st2) rs h2
      · exact h1.elim
    · exact h1.elim
/-! the methods -/
def cmPop : CM := fun acc ds => match ds with
  | [] => (match acc[acc.length - 1]? with
    | some d => some (d, acc.dropLast)
    | none => none)
  | _ => none
def cmPopAt : CM := fun acc ds => match ds with
  | [.p (.int i)] => if -(2 ^ 63) ≤ i ∧ i < 2 ^ 63 then (match seqIndex? i acc.length with
    | some k => (match acc[k]? with
      | some d => some (d, acc.eraseIdx k)
      | none => none)
    | none => none) else none
  | _ => none
def cmInsert : CM := fun acc ds => match ds with
  | [.p (.int i), d] => if 0 ≤ i ∧ i < 2 ^ 63 ∧ acc.length < 1000000 then some (.p .non, acc.take i.toNat ++ [d] ++ acc.drop i.toNat) else none
  | _ => none
def cmClear : CM := fun acc ds => match ds with
  | [] => some (.p .non, [])
  | _ => none
theorem dreps_nil {K : PySem.W.Frag} {w : Wd} {H : Hp} {vs : List V} (r : DReps K w H vs []) : vs = [] := by cases r; rfl
theorem DReps.dropLast {K : PySem.W.Frag} {w : Wd} {H : Hp} : ∀ {vs : List V} {l : List D}, DReps K w H vs l → DReps K w H vs.dropLast l.dropLast
  | _, _, .nil => .nil
  | _, _, .cons h .nil => .nil
  | _, _, .cons h (.cons h2 t) => .cons h (DReps.dropLast (.cons h2 t))
theorem DReps.eraseIdx {K : PySem.W.Frag} {w : Wd} {H : Hp} : ∀ {vs : List V} {l : List D} (k : Nat), DReps K w H vs l → DReps K w H (vs.eraseIdx k) (l.eraseIdx k)
  | _, _, _, .nil => .nil
  | _, _, 0, .cons h t => t
  | _, _, k + 1, .cons h t => .cons h (DReps.eraseIdx k t)
theorem DReps.take {K : PySem.W.Frag} {w : Wd} {H : Hp} : ∀ {vs : List V} {l : List D} (k : Nat), DReps K w H vs l → DReps K w H (vs.take k) (l.take k)
  | _, _, 0, _ => by rw [List.take_zero, List.take_zero]; exact .nil
  | _, _, k + 1, .nil => .nil
  | _, _, k + 1, .cons h t => .cons h (DReps.take k t)
theorem DReps.drop {K : PySem.W.Frag} {w : Wd} {H : Hp} : ∀ {vs : List V} {l : List D} (k : Nat), DReps K w H vs l → DReps K w H (vs.drop k) (l.drop k)
  | _, _, 0, r => r
  | _, _, k + 1, .nil => .nil
  | _, _, k + 1, .cons h t => DReps.drop k t
theorem cr_pop (K : PySem.W.Frag) : CellR K rPop cmPop := ⟨fun w H a vs us acc ds res acc' Q ha r1 r2 hg hq => by
  unfold cmPop at hg
  split at hg
  · obtain rfl := dreps_nil r2
    split at hg
    · rename_i d hd
      cases hg
      obtain ⟨v, f1, f2⟩ := r1.get hd
      exact ⟨a, vs, v, rfl, rfl, ha, by rw [r1.length]; exact f1, hq _ _ f2 r1.dropLast⟩
    · cases hg
  · cases hg⟩
theorem cr_popAt (K : PySem.W.Frag) : CellR K rPopAt cmPopAt := ⟨fun w H a vs us acc ds res acc' Q ha r1 r2 hg hq => by
  unfold cmPopAt at hg
  split at hg
  · obtain rfl := reps1 r2
    split at hg
    · rename_i hi
      split at hg
      · rename_i k hk
        split at hg
        · rename_i d hd
          cases hg
          obtain ⟨v, f1, f2⟩ := r1.get hd
          exact ⟨a, vs, _, k, v, rfl, rfl, ha, hi.1, hi.2, by rw [r1.length]; exact hk, f1, hq _ _ f2 (r1.eraseIdx k)⟩
        · cases hg
      · cases hg
    · cases hg
  · cases hg⟩
theorem cr_insert (K : PySem.W.Frag) : CellR K (fun x vs H Q => ∃ (l : Addr) (xs : List V) (i : Int) (y : V), x = .ref l ∧ vs = [.int i, y] ∧ H l = some (.lst xs) ∧ xs.length < sizeLine ∧ 0 ≤ i ∧ i < 2 ^ 63 ∧
    Q .non (upd H l (.lst (xs.take i.toNat ++ [y] ++ xs.drop i.toNat)))) cmInsert := ⟨fun w H a vs us acc ds res acc' Q ha r1 r2 hg hq => by
  unfold cmInsert at hg
  split at hg
  · split at hg
    · rename_i i d hi
      cases hg
      obtain ⟨v, y, rfl, f1, f2⟩ := reps_two r2
      obtain rfl := rep_int f1
      exact ⟨a, vs, i, y, rfl, rfl, ha, by rw [r1.length, sizeLine_eq]; omega, hi.1, hi.2.1, hq _ _ .non (((r1.take _).app (.cons f2 .nil)).app (r1.drop _))⟩
    · cases hg
  · cases hg⟩
theorem cr_clear (K : PySem.W.Frag) : CellR K rClear cmClear := ⟨fun w H a vs us acc ds res acc' Q ha r1 r2 hg hq => by
  unfold cmClear at hg
  split at hg
  · obtain rfl := dreps_nil r2
    cases hg
    exact ⟨a, vs, rfl, rfl, ha, hq _ _ .non .nil⟩
  · cases hg⟩
theorem se_pop {o : Expr} {apos : Pos} {fo : FE} (ho : SE X W o fo) (hbase : attributeBase o "pop" X.env (eval o X.env) = eval o X.env := by rfl) (hline : (apos.endLine == pos.line) = true := by rfl) : SE X W (.Call (.Attribute o "pop" apos) [] [] pos) (fCell0 cmPop fo) :=
  se_cell0 PySem.F.slot_list_pop PySem.F.type_list_pop mt_pop (cr_pop X.K) ho hbase hline
theorem se_clear {o : Expr} {apos : Pos} {fo : FE} (ho : SE X W o fo) (hbase : attributeBase o "clear" X.env (eval o X.env) = eval o X.env := by rfl) (hline : (apos.endLine == pos.line) = true := by rfl) : SE X W (.Call (.Attribute o "clear" apos) [] [] pos) (fCell0 cmClear fo) :=
  se_cell0 PySem.F.slot_list_clear PySem.F.type_list_clear mt_clear (cr_clear X.K) ho hbase hline
theorem se_popAt {o : Expr} {apos : Pos} {fo : FE} {fa : FA} (ho : SE X W o fo) (ha : SA X W (e :: es) fa)
    (hbase : attributeBase o "pop" X.env (eval o X.env) = eval o X.env := by rfl)
    (hfew : ((backTo pos (starEach (e :: es) X.env)).all (fun x => !x.1) && (backToKw pos (keywordEach [] X.env)).all (fun x => x.1.isSome)
      && decide ((e :: es).length + ([] : List Keyword).length + (if ([] : List Keyword).isEmpty then 0 else 1) < 30)) = true := by rfl)
    (hline : (apos.endLine == pos.line) = true := by rfl) (hs : starEach (e :: es) X.env = (false, eval e X.env) :: starEach es X.env := by rfl) (hplain : (backTo pos (starEach es X.env)).any (·.1) = false := by rfl) :
    SE X W (.Call (.Attribute o "pop" apos) (e :: es) [] pos) (fCell cmPopAt fo fa) :=
  se_cell PySem.F.slot_list_pop PySem.F.type_list_pop mt_popAt (cr_popAt X.K) ho ha hbase hfew hline hs hplain
theorem se_insert {o : Expr} {apos : Pos} {fo : FE} {fa : FA} (ho : SE X W o fo) (ha : SA X W (e :: es) fa)
    (hbase : attributeBase o "insert" X.env (eval o X.env) = eval o X.env := by rfl)
    (hfew : ((backTo pos (starEach (e :: es) X.env)).all (fun x => !x.1) && (backToKw pos (keywordEach [] X.env)).all (fun x => x.1.isSome)
      && decide ((e :: es).length + ([] : List Keyword).length + (if ([] : List Keyword).isEmpty then 0 else 1) < 30)) = true := by rfl)
    (hline : (apos.endLine == pos.line) = true := by rfl) (hs : starEach (e :: es) X.env = (false, eval e X.env) :: starEach es X.env := by rfl) (hplain : (backTo pos (starEach es X.env)).any (·.1) = false := by rfl) :
    SE X W (.Call (.Attribute o "insert" apos) (e :: es) [] pos) (fCell cmInsert fo fa) :=
  se_cell PySem.F.slot_list_insert PySem.F.type_list_insert mt_insert (cr_insert X.K) ho ha hbase hfew hline hs hplain
end
end FR

set_option Elab.async false
set_option linter.all false
set_option maxRecDepth 100000
set_option maxHeartbeats 1000000
namespace FR
open PySem PySem.Spec PyProof.Rows L2
section
variable {X : Cx} {W : WX} {e : Expr} {es : List Expr} {pos : Pos}
/-! a comprehension whose list is a cell -/
def lcEndR (n0 : Nat) : Unit → Store → R D := fun _ S => match S[n0]? with
  | some (.lst l) => if (S.take (n0 + 1)).all (Cell.below (n0 + 1)) = true then .ok (.r n0) (S.take (n0 + 1)) else .stuck
  | _ => .stuck
noncomputable def fLcR (fi : Env → Store → R Src) (g : FGp) (t : FT) (f : FE) (own : List Nat) : FE := fun ρ S => (fi ρ S).bind fun src S1 => (lcD src.2 S1.length g t f (wipeD ρ own) src.1 (S1 ++ [.lst []])).bind (lcEndR S1.length)
theorem imp_lcR {K : PySem.W.Frag} {fi : Env → Store → R Src} {g : FGp} {tg : TG} {t : FT} {f : FE} {own o1 : List Nat} (ok : TgOk K tg g o1) (ho : ∀ i ∈ o1, i ∈ own) (σ : L2.St) (H : Hp) (Q : VK) (h : tE K W (fLcR fi g t f own) σ H Q) :
    tLc (tI K W fi) tg (tT K W0 t) (tE K W0 f) own σ H Q := by
  obtain ⟨w, ρ, S, a, h⟩ := h
  refine ⟨w, ρ, S, a, oR_imp (oR_bind a.ok h) fun w1 H1 S1 src st1 sr1 h1 J hJ D0 hD => ?_⟩
  obtain ⟨items, o⟩ := src
  have a1 : At K w1 σ H1 ρ S1 := a.to st1 sr1
  obtain ⟨stD, srD⟩ := lay_cell (o := .lst []) (c := .lst []) sr1 hD trivial ⟨D0, [], add_self, upd_same, .nil⟩
  cases q : lcD o S1.length g t f (wipeD ρ own) items (S1 ++ [.lst []]) with
  | exc x Sf => exact absurd q (by
      clear q h1 hJ
      generalize S1 ++ [Cell.lst []] = S0
      induction items generalizing S0 with
      | nil => unfold lcD; split <;> simp
      | cons d ds ih =>
        unfold lcD
        split
        · split
          · simp
          · split
            · split
              · split
                · split
                  · exact ih _
                  · simp
                · simp
              · simp
            · exact ih _
            · simp
        · simp)
  | stuck => rw [show (⟨items, o⟩ : Src).1 = items from rfl, show (⟨items, o⟩ : Src).2 = o from rfl, q] at h1; exact h1.elim
  | ok u Sf =>
    rw [show (⟨items, o⟩ : Src).1 = items from rfl, show (⟨items, o⟩ : Src).2 = o from rfl, q] at h1
    refine ⟨fun i m H' => m + i = items.length ∧ ∃ w' S', Step (w1.add D0) (upd H1 D0 (.lst [])) w' H' ∧ SRep K w' H' S' ∧ lcD o S1.length g t f (wipeD ρ own) (items.drop i) S' = .ok u Sf, ⟨items.length, rfl, _, _, Step.refl _ _ srD.ok, srD, q⟩, ?_⟩
    rintro i m H' ⟨hm, w', S', st', sr', q'⟩
    have tot : Step w1 H1 w' H' := stD.trans sr1.ok st'
    have hαD : w'.α S1.length ≠ none → w'.α S1.length = some D0 := fun hne => by
      cases z : w'.α S1.length with
      | none => exact absurd z hne
      | some b =>
        have := st'.old S1.length b (by rw [sr1.len]; exact Nat.lt_succ_self _) z
        rw [sr1.len, add_self] at this
        rw [Option.some.inj this]
    cases hd : items[i]? with
    | none =>
      have hl : items.length ≤ i := List.getElem?_eq_none_iff.mp hd
      rw [List.drop_eq_nil_of_le hl] at q'
      unfold lcD at q'
      split at q'
      · rename_i hc
        injection q' with _ e2
        subst e2
        refine .inl ⟨(hJ w' H' S' tot sr' hc i).1 hl, ?_⟩
        rw [R.bind_ok] at h1
        unfold lcEndR at h1
        split at h1
        · rename_i l hS
          split at h1
          · rename_i hb
            obtain ⟨stF, srF⟩ := cut_ok (w0 := w1.add D0) srD.ok st' sr' (by
              show (S'.take (w1.N + 1)).all (Cell.below (w1.N + 1)) = true
              rw [← sr1.len]; exact hb)
            obtain ⟨ad, vs, e1, e2, e3⟩ := sr'.cell _ _ hS
            have ead := hαD (by rw [e1]; simp)
            rw [e1] at ead
            cases ead
            rw [sr1.len] at h1
            refine h1 _ H' (stD.trans sr1.ok stF) srF (.ref D0) ⟨Nat.lt_succ_self _, fun a z => ?_⟩
            have z2 := (cut_at z).2
            rw [sr1.len] at e1
            rw [e1] at z2
            cases z2
            rfl
          · exact h1.elim
        · exact h1.elim
      · cases q'
    | some d =>
      have hl : i < items.length := by
        rcases Nat.lt_or_ge i items.length with z | z
        · exact z
        · rw [List.getElem?_eq_none z] at hd; cases hd
      have hdr : items.drop i = d :: items.drop (i + 1) := by
        rw [List.drop_eq_getElem_cons hl]
        rw [List.getElem?_eq_getElem hl] at hd
        cases hd; rfl
      rw [hdr] at q'
      unfold lcD at q'
      split at q'
      · rename_i hc
        obtain ⟨hgo, hy⟩ := (hJ w' H' S' tot sr' hc i).2 d hd
        refine .inr ⟨hgo, fun H2 => ∃ m', m' < m ∧ (m' + (i + 1) = items.length ∧ ∃ w'' S'', Step (w1.add D0) (upd H1 D0 (.lst [])) w'' H2 ∧ SRep K w'' H2 S'' ∧ lcD o S1.length g t f (wipeD ρ own) (items.drop (i + 1)) S'' = .ok u Sf), fun H2 z => z, fun x H2 y => ?_⟩
        obtain ⟨st2, sr2, dr⟩ := hy x H2 y
        have sl2 : Slots K w' H2 (L2.wipe σ own) (wipeD ρ own) := ((a1.sl.step sr1.ok tot).wipe own).step sr'.ok st2
        split at q'
        · cases q'
        · rename_i ρ1 hg
          obtain ⟨σ', s', qq, kk⟩ := ok.run w' H2 _ _ x d ρ1 sl2 dr hg
          refine qq _ ⟨?_, ?_⟩
          · rw [kk own ho]
            have aux : ∀ us : List Nat, ∀ τ : L2.St, (∀ j ∈ us, ∀ z, τ[j]? = some z → z = none) → L2.wipe τ us = τ := by
              intro us
              induction us with
              | nil => intro τ _; rfl
              | cons v us ih =>
                intro τ hτ
                show (L2.wipe τ us).set v none = τ
                rw [ih τ fun j hj => hτ j (List.mem_cons_of_mem _ hj)]
                apply List.ext_getElem?
                intro j
                by_cases hj : v = j
                · subst hj
                  by_cases hlt : v < τ.length
                  · rw [List.getElem?_set_self hlt]
                    exact ((hτ v List.mem_cons_self _ (List.getElem?_eq_getElem hlt)) ▸ (List.getElem?_eq_getElem hlt)).symm
                  · rw [List.getElem?_eq_none (by rw [List.length_set]; omega), List.getElem?_eq_none (by omega)]
                · rw [List.getElem?_set_ne hj]
            refine aux own _ fun j hj z hz => ?_
            cases z with
            | none => rfl
            | some zz => exact absurd hj (wipe_some hz).2
          · refine ⟨w', ρ1, S', ⟨sr2, s'⟩, ?_⟩
            revert q'
            cases ht : t ρ1 S' with
            | ok b S2 =>
              intro q' w3 H3 st3 sr3
              have sl3 := s'.step sr2.ok st3
              cases b with
              | false => exact ⟨m - 1, by omega, by omega, w3, S2, (st'.trans srD.ok st2).trans srD.ok st3, sr3, q'⟩
              | true =>
                refine ⟨w3, ρ1, S2, ⟨sr3, sl3⟩, ?_⟩
                revert q'
                show (match f ρ1 S2 with | .ok y S3 => _ | _ => R.stuck) = R.ok u Sf → _
                cases hf : f ρ1 S2 with
                | ok yd S3 =>
                  intro q' w4 H4 st4 sr4 y4 dr4
                  dsimp only at q'
                  split at q'
                  · rename_i acc hS3
                    split at q'
                    · rename_i hlen
                      have tot4 : Step (w1.add D0) (upd H1 D0 (.lst [])) w4 H4 := (((st'.trans srD.ok st2).trans srD.ok st3).trans srD.ok st4)
                      obtain ⟨ad, vs, e1, e2, e3⟩ := sr4.cell _ _ hS3
                      have ead : ad = D0 := by
                        have := tot4.old S1.length ad (by rw [sr1.len]; exact Nat.lt_succ_self _) e1
                        rw [sr1.len, add_self] at this
                        exact (Option.some.inj this).symm
                      subst ead
                      have st5 : Step w4 H4 w4 (upd H4 ad (.lst (vs ++ [y4]))) := (write_cell (o := .lst (vs ++ [y4])) (c := .dead) sr4 e1 trivial trivial).1
                      obtain ⟨_, sr5⟩ := write_cell (o := .lst (vs ++ [y4])) (c := .lst (acc ++ [yd])) sr4 e1 trivial ⟨ad, _, e1, upd_same, (e3.app (.cons dr4 .nil)).step sr4.ok st5⟩
                      refine ⟨vs, e2, ?_, m - 1, by omega, by omega, w4, _, tot4.trans srD.ok st5, sr5, q'⟩
                      rw [e3.length, sizeLine_eq]; omega
                    · cases q'
                  · cases q'
                | exc x5 S5 => intro q'; cases q'
                | stuck => intro q'; cases q'
            | exc x5 S5 => intro q'; cases q'
            | stuck => intro q'; cases q'
      · cases q'
theorem se_lcR {elt tg iter : Expr} {ifs : List Expr} {scope : Scope} {own : List (Str × Nat)} {fi : Env → Store → R Src} {t : TG} {g : FGp} {ft : FT} {f : FE} {o1 : List Nat} (hc : X.calm = true) (hN : X.N.Nodup) (hi : SI X W tg iter fi) (ok : BlkOk X.N X.env.scope scope own)
    (hg : ∀ (s : Shared) (H : Hp) (C : Addr) (cl : List (Str × Addr)) (fp : List Addr), PG (X.blk s H scope (compEnvC scope cl C X.env) fp) tg t) (hok : TgOk X.K t g o1) (ho : ∀ i ∈ o1, i ∈ own.map (·.2))
    (ht : ∀ (s : Shared) (H : Hp) (C : Addr) (cl : List (Str × Addr)) (fp : List Addr), STs (X.blk s H scope (compEnvC scope cl C X.env) fp) W0 ifs ft)
    (he : ∀ (s : Shared) (H : Hp) (C : Addr) (cl : List (Str × Addr)) (fp : List Addr), SE (X.blk s H scope (compEnvC scope cl C X.env) fp) W0 elt f) (hs : ∀ x, foldedSetIterable iter X.env x = pure x := by intro _; rfl) :
    SE X W (.ListComp elt [⟨tg, iter, ifs, 0⟩] scope pos) (fLcR fi g ft f (own.map (·.2))) := (pe_lc hc hN hi ok hg ht he hs).imp (imp_lcR hok ho)
theorem ss_setLcR (i : Nat) {y : Str} {py spos : Pos} {elt tg iter : Expr} {ifs : List Expr} {scope : Scope} {own : List (Str × Nat)} {fi : Env → Store → R Src} {t : TG} {g : FGp} {ft : FT} {f : FE} {o1 : List Nat} (hc : X.calm = true) (hN : X.N.Nodup) (hy : X.N[i]? = some y) (hyl : X.env.scope.names.lookup y = some .local)
    (hsw : swapsWith (.ListComp elt [⟨tg, iter, ifs, 0⟩] scope pos) (some (.Name y py)) spos.line X.env = pure true) (hi : SI X W tg iter fi) (ok : BlkOk X.N X.env.scope scope own)
    (hg : ∀ (s : Shared) (H : Hp) (C : Addr) (cl : List (Str × Addr)) (fp : List Addr), PG (X.blk s H scope (compEnvC scope cl C X.env) fp) tg t) (hok : TgOk X.K t g o1) (ho : ∀ i ∈ o1, i ∈ own.map (·.2))
    (ht : ∀ (s : Shared) (H : Hp) (C : Addr) (cl : List (Str × Addr)) (fp : List Addr), STs (X.blk s H scope (compEnvC scope cl C X.env) fp) W0 ifs ft)
    (he : ∀ (s : Shared) (H : Hp) (C : Addr) (cl : List (Str × Addr)) (fp : List Addr), SE (X.blk s H scope (compEnvC scope cl C X.env) fp) W0 elt f) (hs : ∀ x, foldedSetIterable iter X.env x = pure x := by intro _; rfl) :
    SS X W (.Assign [.Name y py] (.ListComp elt [⟨tg, iter, ifs, 0⟩] scope pos) spos) (sSet i (fLcR fi g ft f (own.map (·.2)))) :=
  (ps_setLc hc hN hy hyl hsw hi ok hg ht he hs).imp fun D0 σ H ⟨w, ρ, S, a, h⟩ => imp_lcR (W := W) hok ho σ H _ (tS_tE a h fun w1 H1 S1 d v st a1 r h1 => h1 w1 H1 _ (Step.refl _ _ a1.ok) a1.st (a1.sl.set r i))
end
end FR

set_option Elab.async false
set_option linter.all false
set_option maxRecDepth 100000
set_option maxHeartbeats 1000000
namespace FR
open PySem PySem.Spec PyProof.Rows L2
/-! defs with a starred parameter -/
/-- the promise: n arguments, the others as a tuple -/
def spS (K : PySem.W.Frag) (n : Nat) (F : Fn) : Sp := fun vs H Q E => ∃ ws rest, vs = ws ++ rest ∧ ws.length = n ∧ rest.length ≤ sizeLine ∧ ∀ p, H p = Option.none → spOf K (n + 1) F (ws ++ [V.ref p]) (upd H p (.tup rest)) Q E
structure DefS (pr : Program) (w : World) (K : PySem.W.Frag) (mg : Str → Option Value) (base : Heap) (f : Addr) (k n : Nat) (F : Fn) : Prop where
  kp : PySem.W.keepIn K (.ref f) = true
  fn : FnR pr w K mg base (L2.CX pr w) k f (spS K n F)
abbrev XDefS (X : Cx) (f : Addr) (k n : Nat) (F : Fn) : Prop := DefS X.prog X.w X.K X.mg X.base f k n F
/-- the arguments as the def sees them -/
def starD (n : Nat) (ds : List D) : Option (List D) := if n ≤ ds.length ∧ ds.length ≤ 1000000 then (pureL (ds.drop n)).map fun l => ds.take n ++ [.p (.tup l)] else none
theorem starD_ok {n : Nat} {ds ds' : List D} (h : starD n ds = some ds') : ∃ l, pureL (ds.drop n) = some l ∧ ds' = ds.take n ++ [.p (.tup l)] ∧ n ≤ ds.length ∧ ds.length ≤ 1000000 := by
  unfold starD at h
  split at h
  · rename_i hl
    cases e : pureL (ds.drop n) with
    | none => rw [e] at h; cases h
    | some l => rw [e] at h; cases h; exact ⟨l, rfl, rfl, hl.1, hl.2⟩
  · cases h
theorem star_lay {K : PySem.W.Frag} {w : Wd} {H : Hp} {S : Store} {n : Nat} {vs : List V} {ds ds' : List D} {p : Addr} (sr : SRep K w H S) (r : DReps K w H vs ds) (h : starD n ds = some ds') (hp : H p = none) :
    Step w H w (upd H p (.tup (vs.drop n))) ∧ SRep K w (upd H p (.tup (vs.drop n))) S ∧ DReps K w (upd H p (.tup (vs.drop n))) (vs.take n ++ [.ref p]) ds' := by
  obtain ⟨l, e1, rfl, _, _⟩ := starD_ok h
  have rd := r.drop n
  rw [pureL_eq e1] at rd
  obtain ⟨st, sr2, dr⟩ := lay_tup sr hp rd.pure
  exact ⟨st, sr2, ((r.take n).step sr.ok st).app (.cons dr .nil)⟩
/-- f(a, ..), the callee with a store of its own -/
def callStar (n : Nat) (F : Fn) : List D → Store → R D := fun ds S => match starD n ds with
  | some ds' => callP F [] ds' S
  | none => .stuck
theorem sp_star {K : PySem.W.Frag} {W : WX} {w : Wd} {H : Hp} {S : Store} {σ : L2.St} {Q : VK} {n : Nat} {F : Fn} {ds : List D} {vs : List V} (sr : SRep K w H S) (r : DReps K w H vs ds) (h : oR K W σ w H (qE K Q) (callStar n F ds S)) :
    spS K n F vs H Q fun c d H' => W c d σ H' := by
  unfold callStar at h
  cases e : starD n ds with
  | none => rw [e] at h; exact h.elim
  | some ds' =>
    rw [e] at h
    obtain ⟨l, e1, e2, h1, h2⟩ := starD_ok e
    have hl := r.length
    refine ⟨vs.take n, vs.drop n, (List.take_append_drop n vs).symm, by rw [List.length_take]; omega, by rw [List.length_drop, sizeLine_eq]; omega, fun p hp => ?_⟩
    obtain ⟨st, sr2, dr⟩ := star_lay sr r e hp
    have := sp_P (dvs := []) (zs := []) (n := n + 1) sr2 dr (fun _ _ => .nil) (by rw [List.length_append, List.length_take]; simp; omega) (oR_step sr.ok st h)
    rw [List.append_nil] at this
    exact this
/-- C(a, ..): g makes the instance -/
def mkStar (n : Nat) (g : List D → Store → R D) : List D → Store → R D := fun ds S => match starD n ds with
  | some ds' => g ds' S
  | none => .stuck
theorem ok_star {pr : Program} {w : World} {K : PySem.W.Frag} {mg : Str → Option Value} {base : Heap} {x qual pv : Str} {params : Arguments} {body : List Stmt} {scope : Scope} {kws : List (Str × V)} {f : Addr} {fd : FuncData}
    {N ps : List Str} {k : Nat} {fb : FC} (F : FunD K x qual params body scope [] kws f fd) (Sc : FnScope N (ps ++ [pv]) scope)
    (hbd : ∀ (kV doc pm : Value) (an : Option Addr) (cdv ct : Value) (us rest : List Value), us.length = ps.length → bindArgs (PySem.W.fnOf x qual params body scope .none kV doc pm an cdv ct) ⟨us ++ rest, []⟩ = (newTuple rest >>= fun t => pure (ps.zip us ++ [(pv, t)])))
    (hb : ∀ (cdv : Value) (A : Around) (outer : List PySem.Env) (s : Shared) (H : Hp) (E : XK), Room k (A.deeper (envOfC qual scope s.heap.objs.size f cdv)) → Takes (cxOf (L2.CX pr w) pr w K mg base N qual scope f cdv A outer s H E) (wE E) →
      SSs (cxOf (L2.CX pr w) pr w K mg base N qual scope f cdv A outer s H E) (wE E) body fb) :
    DefS pr w K mg base f (k + 1) ps.length (runF N.length fb) := by
  obtain ⟨oc, od, dV, kV, doc, pm, an, cdv, ct, osl, rfl, lk, hcd, hD, _⟩ := F.ex
  rcases hD with ⟨_, rfl⟩ | ⟨e, _⟩
  rotate_left
  · exact absurd rfl e
  refine ⟨F.kp, StX.fn_star lk hcd Sc StX.cxUp (hbd kV doc pm an cdv ct) (sp := spOf K (ps.length + 1) (runF N.length fb)) fun A outer s H vs Q E hr h => ?_⟩
  refine ⟨_, hb cdv A outer s H E hr (takes_of rfl rfl rfl rfl), ?_⟩
  obtain ⟨wd, S, ds, sr, r, l, o⟩ := h
  refine ⟨wd, ds.map some ++ List.replicate (N.length - ds.length) none, S, ⟨sr, ?_⟩, ?_⟩
  · unfold L2.start
    rw [r.length]
    exact slots_app _ r
  · unfold runF at o
    revert o
    cases fb (ds.map some ++ List.replicate (N.length - ds.length) none) S with
    | nx ρ S' => exact fun o w' H' σ' st sr' sl => o w' H' st sr' .non .non
    | ret d S' => exact fun o w' H' v st sr' dr => o w' H' st sr' v dr
    | bk ρ S' => exact fun o => o.elim
    | ct ρ S' => exact fun o => o.elim
    | exc x ρ S' => exact fun o w' H' σ' c e st sr' sl xr => o w' H' c e st sr' xr
    | stuck => exact fun o => o.elim
theorem bind_star0 {B : List Value → Sem (List (Str × Value))} {pv : Str} (h0 : B [] = (newTuple [] >>= fun t => pure [(pv, t)])) (h1 : ∀ r rs, B (r :: rs) = (newTuple (r :: rs) >>= fun t => pure [(pv, t)])) :
    ∀ us rest : List Value, us.length = ([] : List Str).length → B (us ++ rest) = (newTuple rest >>= fun t => pure (([] : List Str).zip us ++ [(pv, t)])) := by
  intro us rest h
  obtain rfl := List.length_eq_zero_iff.mp h
  cases rest with
  | nil => exact h0
  | cons r rs => exact h1 r rs
section
variable {X : Cx} {W : WX} {e : Expr} {es : List Expr} {pos : Pos} {f fi : Addr} {k n : Nat} {F : Fn} {c : Cn}
theorem go_callSt {pins : List (Addr × Obj)} {σ : L2.St} {H : Hp} {s : Shared} {Q : VK} {us : List Value} {vs : List V} (C : XDefS X f k n F) (tk : Takes X W) (hr : Room k X.A) (I : Inv X pins σ H s) (r : Vals vs us)
    (hsp : spS X.K n F vs H Q fun c d H' => W c d σ H') : wpAny (model X.prog X.w) X.A (call (.ref f) us) (EP X pins σ Q) X.xe s := by
  refine wpAny_call (codeAny_mono (C.fn X.A X.stack s H us vs Q (fun c d H' => W c d σ H') hr I.env0 r hsp) fun o s' ho => ?_)
  cases o with
  | error er => exact tk er s' (XE.of_call I (fun _ _ _ z => z) ho)
  | ok fl =>
    cases fl with
    | ret u => exact I.after ho
    | _ => exact (show False from ho).elim
theorem se_callSt {x : Str} {p : Pos} {g : FA} (C : XDefS X f k n F) (tk : Takes X W) (hr : Room k X.A) (hm : X.mg x = some (.ref f)) (ha : SA X W (e :: es) g) (hg : Gl X x := by rfl) (hdb : (x == ("__debug__" : Str)) = false := by decide)
    (he : starEach (e :: es) X.env = (false, eval e X.env) :: starEach es X.env := by rfl) (hpl : (backTo pos (starEach es X.env)).any (·.1) = false := by rfl) :
    SE X W (.Call (.Name x p) (e :: es) [] pos) (cA (callStar n F) g) := by
  refine ⟨fun pins s σ H Q I ⟨w, ρ, S, a, h⟩ => wpAny_Call_Name_kw (ld_glob I hg hm ?_ hdb)⟩
  refine PySem.W.callWith_K (h₀ := X.base) I.ok.mod.kin C.kp (thn (ha.run pos pins s σ H (fun vs H1 => ∃ w1 S1 l, Step w H w1 H1 ∧ At X.K w1 σ H1 ρ S1 ∧ DReps X.K w1 H1 vs l ∧ oR X.K W σ w1 H1 (qE X.K Q) (callStar n F l S1)) I ?_)
    fun us s1 ⟨vs, H1, I1, r, w1, S1, l, st, a1, dr, h1⟩ => ⟨I1.kIn, go_callSt C tk hr I1 r (sp_star a1.st dr h1)⟩) he hpl
  exact tA_of a (oR_bind a.ok h) fun w1 H1 S1 l vs st a1 h1 r => ⟨w1, S1, l, st, a1, r, h1⟩
/-- f(*y) -/
def starOf (d : D) : Option (List D) := match d with
  | .p (.tup l) => some (l.map .p)
  | .p (.lst l) => some (l.map .p)
  | _ => none
def cStar (g : List D → Store → R D) (f : FE) : FE := fun ρ S => (f ρ S).bind fun d S1 => match starOf d with
  | some l => g l S1
  | none => .stuck
theorem starOf_rep {K : PySem.W.Frag} {w : Wd} {H : Hp} {v : V} {d : D} {l : List D} (r : DRep K w H v d) (h : starOf d = some l) : ∃ a xs, v = .ref a ∧ (SqT K H a xs ∨ SqL K H a xs) ∧ DReps K w H xs l := by
  unfold starOf at h
  split at h
  · cases h
    cases r with
    | tup hh rr => exact ⟨_, _, rfl, .inl hh, Reps.ds (w := w) rr⟩
  · cases h
    cases r with
    | lst hh rr => exact ⟨_, _, rfl, .inr hh.sq, Reps.ds (w := w) rr⟩
  · cases h
theorem se_callSt1 {x : Str} {p sp_ : Pos} {g : FE} (C : XDefS X f k n F) (tk : Takes X W) (hr : Room k X.A) (hm : X.mg x = some (.ref f)) (ha : SE X W e g) (hg : Gl X x := by rfl) (hdb : (x == ("__debug__" : Str)) = false := by decide)
    (hst : starEach [.Starred e sp_] X.env = [(true, eval e X.env)] := by rfl) :
    SE X W (.Call (.Name x p) [.Starred e sp_] [] pos) (cStar (callStar n F) g) := by
  refine ⟨fun pins s σ H Q I ⟨w, ρ, S, a, h⟩ => wpAny_Call_Name_kw (ld_glob I hg hm ?_ hdb)⟩
  refine PySem.W.callWith_S (h₀ := X.base) I.ok.mod.kin C.kp (thn (run_then ha I a h) fun u s1 ⟨y, H1, w1, S1, d, I1, ry, st, a1, dr, h1⟩ => ?_) hst
  cases e1 : starOf d with
  | none => rw [e1] at h1; exact h1.elim
  | some l =>
    rw [e1] at h1
    obtain ⟨b, xs, rfl, hx, rr⟩ := starOf_rep dr e1
    obtain rfl : u = Value.ref b := ry
    exact StX.star_any I1 hx fun us s2 I2 r2 => ⟨I2.kIn, go_callSt C tk hr I2 r2 (sp_star a1.st rr h1)⟩
/-! classes -/
theorem sp_mkSt {K : PySem.W.Frag} {w : Wd} {H : Hp} {S : Store} {σ : L2.St} {Q : VK} {g : List D → Store → R D} {ds : List D} {vs : List V} {x dx : Addr} (hx : H x = none) (hd : H dx = none) (hxd : dx ≠ x) (sr : SRep K w H S) (r : DReps K w H vs ds)
    (hgo : ∀ (H1 : Hp) (us : List V) (ds1 : List D), H1 x = none → H1 dx = none → SRep K w H1 S → DReps K w H1 us ds1 → us.length = n + 1 → oR K W σ w H1 (qE K Q) (g ds1 S) → spOf K (n + 2) F (.ref x :: us) (newIns K H1 c x dx) (fun v H2 => v = .non ∧ Q (.ref x) H2) fun cl d H' => W cl d σ H')
    (h : oR K W σ w H (qE K Q) (mkStar n g ds S)) : spS K (n + 1) F (.ref x :: vs) (newIns K H c x dx) (fun v H2 => v = .non ∧ Q (.ref x) H2) fun cl d H' => W cl d σ H' := by
  unfold mkStar at h
  cases e : starD n ds with
  | none => rw [e] at h; exact h.elim
  | some ds' =>
    rw [e] at h
    obtain ⟨l, e1, e2, h1, h2⟩ := starD_ok e
    have hl := r.length
    refine ⟨.ref x :: vs.take n, vs.drop n, by rw [List.cons_append, List.take_append_drop], by rw [List.length_cons, List.length_take]; omega, by rw [List.length_drop, sizeLine_eq]; omega, fun p hp => ?_⟩
    have px : p ≠ x := fun z => by
      rw [z] at hp
      rw [show newIns K H c x dx x = some (.ins (c.a K) dx []) from upd_same] at hp
      cases hp
    have pd : p ≠ dx := fun z => by
      rw [z] at hp
      rw [show newIns K H c x dx dx = upd H dx (.own x) dx from upd_ne hxd, upd_same] at hp
      cases hp
    have hp0 : H p = none := by
      rw [show newIns K H c x dx p = upd H dx (.own x) p from upd_ne px, upd_ne pd] at hp
      exact hp
    obtain ⟨st, sr2, dr⟩ := star_lay sr r e hp0
    have eH : upd (newIns K H c x dx) p (.tup (vs.drop n)) = newIns K (upd H p (.tup (vs.drop n))) c x dx := by
      funext b
      show (if b = p then _ else if b = x then _ else if b = dx then _ else H b) = (if b = x then _ else if b = dx then _ else if b = p then _ else H b)
      by_cases b1 : b = p
      · rw [if_pos b1, if_neg (by rw [b1]; exact px), if_neg (by rw [b1]; exact pd), if_pos b1]
      · rw [if_neg b1, if_neg b1]
    rw [eH]
    have := hgo (upd H p (.tup (vs.drop n))) (vs.take n ++ [.ref p]) ds' (by rw [upd_ne (Ne.symm px)]; exact hx) (by rw [upd_ne (Ne.symm pd)]; exact hd) sr2 dr (by rw [List.length_append, List.length_take]; simp; omega) (oR_step sr.ok st h)
    exact this
theorem go_mkSt {pins : List (Addr × Obj)} {σ : L2.St} {H : Hp} {s : Shared} {Q : VK} {us : List Value} {vs : List V} {w : Wd} {S : Store} {ds : List D} {g : List D → Store → R D} (M : MkOk X.K X.mg c fi) (C : XDefS X fi k (n + 1) F) (tk : Takes X W) (hr : Room (k + 1) X.A) (I : Inv X pins σ H s) (r : Vals vs us)
    (sr : SRep X.K w H S) (dr : DReps X.K w H vs ds)
    (hgo : ∀ (x dx : Addr) (H1 : Hp) (us : List V) (ds1 : List D), H1 x = none → H1 dx = none → SRep X.K w H1 S → DReps X.K w H1 us ds1 → us.length = n + 1 → oR X.K W σ w H1 (qE X.K Q) (g ds1 S) → spOf X.K (n + 2) F (.ref x :: us) (newIns X.K H1 c x dx) (fun v H2 => v = .non ∧ Q (.ref x) H2) fun cl d H' => W cl d σ H')
    (h : oR X.K W σ w H (qE X.K Q) (mkStar n g ds S)) : wpAny (model X.prog X.w) X.A (call (.ref (c.a X.K)) us) (EP X pins σ Q) X.xe s := by
  have hx0 : H (s.heap.objs.size + 1) = none := I.hok.fresh (Nat.le_succ _)
  have hd0 : H s.heap.objs.size = none := I.hok.fresh (Nat.le_refl _)
  have hsp := sp_mkSt (W := W) (c := c) (F := F) (x := s.heap.objs.size + 1) (dx := s.heap.objs.size) hx0 hd0 (Nat.ne_of_lt (Nat.lt_succ_self _)) sr dr (hgo _ _) h
  have J := Inv.made (C := c.a X.K) I
  have rr : Vals (V.ref (s.heap.objs.size + 1) :: vs) (Value.ref (s.heap.objs.size + 1) :: us) := .cons rfl r
  refine wpAny_call (make_map (f := fi) I.kIn M.mm.makes M.mm.init (beq_iff_eq.mp M.mm.fn) (codeAny_mono (C.fn _ X.stack _ _ (Value.ref (s.heap.objs.size + 1) :: us) _ _ _ (hr.make (c.a X.K) us []) (J.env0.make (c.a X.K) us []) rr hsp) fun o s' ho => ?_))
  cases o with
  | error er => exact tk er s' (XE.of_call J (fun _ _ _ z => z) ho)
  | ok fl =>
    cases fl with
    | ret u =>
      obtain ⟨v, H', I3, rv, ev, q3⟩ := J.after ho
      subst ev
      exact ⟨rv, ⟨V.ref (s.heap.objs.size + 1), H', I3, rfl, q3⟩⟩
    | _ => exact (show False from ho).elim
theorem mkP_go {σ : L2.St} {Q : VK} {w : Wd} {S : Store} (x dx : Addr) (H1 : Hp) (us : List V) (ds1 : List D) (hx : H1 x = none) (hd : H1 dx = none) (sr : SRep X.K w H1 S) (dr : DReps X.K w H1 us ds1) (hl : us.length = n + 1) (h : oR X.K W σ w H1 (qE X.K Q) (mkP c (n + 2) F [] ds1 S)) :
    spOf X.K (n + 2) F (.ref x :: us) (newIns X.K H1 c x dx) (fun v H2 => v = .non ∧ Q (.ref x) H2) fun cl d H' => W cl d σ H' := by
  have := sp_mk (dx := dx) hx hd sr dr (zs := []) (fun _ _ => .nil) h
  rwa [List.append_nil] at this
theorem mkL_go {σ : L2.St} {Q : VK} {w : Wd} {S : Store} (x dx : Addr) (H1 : Hp) (us : List V) (ds1 : List D) (hx : H1 x = none) (hd : H1 dx = none) (sr : SRep X.K w H1 S) (dr : DReps X.K w H1 us ds1) (hl : us.length = n + 1) (h : oR X.K W σ w H1 (qE X.K Q) (mkL c (n + 2) F [] ds1 S)) :
    spOf X.K (n + 2) F (.ref x :: us) (newIns X.K H1 c x dx) (fun v H2 => v = .non ∧ Q (.ref x) H2) fun cl d H' => W cl d σ H' := by
  have := sp_mkL (dx := dx) hx hd sr dr (zs := []) (fun _ _ => .nil) h
  rwa [List.append_nil] at this
theorem se_mkSt {p : Pos} {ga : FA} (M : MkOk X.K X.mg c fi) (C : XDefS X fi k (n + 1) F) (tk : Takes X W) (hr : Room (k + 1) X.A) (ha : SA X W (e :: es) ga) (hg : Gl X c.x := by rfl) (hdb : (c.x == ("__debug__" : Str)) = false := by decide)
    (he : starEach (e :: es) X.env = (false, eval e X.env) :: starEach es X.env := by rfl) (hpl : (backTo pos (starEach es X.env)).any (·.1) = false := by rfl) :
    SE X W (.Call (.Name c.x p) (e :: es) [] pos) (cA (mkStar n (mkL c (n + 2) F [])) ga) := by
  refine ⟨fun pins s σ H Q I ⟨w, ρ, S, a, h⟩ => wpAny_Call_Name_kw (ld_glob I hg M.gl ?_ hdb)⟩
  refine PySem.W.callWith_K (h₀ := X.base) I.ok.mod.kin M.mm.kp (thn (ha.run pos pins s σ H (fun vs H1 => ∃ w1 S1 l, Step w H w1 H1 ∧ At X.K w1 σ H1 ρ S1 ∧ DReps X.K w1 H1 vs l ∧ oR X.K W σ w1 H1 (qE X.K Q) (mkStar n (mkL c (n + 2) F []) l S1)) I ?_)
    fun us s1 ⟨vs, H1, I1, r, w1, S1, l, st, a1, dr, h1⟩ => ⟨I1.kIn, go_mkSt M C tk hr I1 r a1.st dr (fun x dx => mkL_go x dx) h1⟩) he hpl
  exact tA_of a (oR_bind a.ok h) fun w1 H1 S1 l vs st a1 h1 r => ⟨w1, S1, l, st, a1, r, h1⟩
theorem se_mkSt0 {p : Pos} (M : MkOk X.K X.mg c fi) (C : XDefS X fi k (n + 1) F) (tk : Takes X W) (hr : Room (k + 1) X.A) (hg : Gl X c.x := by rfl) (hdb : (c.x == ("__debug__" : Str)) = false := by decide) :
    SE X W (.Call (.Name c.x p) [] [] pos) (cA (mkStar n (mkL c (n + 2) F [])) aNil) := by
  refine ⟨fun pins s σ H Q I ⟨w, ρ, S, a, h⟩ => wpAny_Call_Name_kw (ld_glob I hg M.gl ?_ hdb)⟩
  exact PySem.W.callWith_K0 I.kIn M.mm.kp (go_mkSt (us := []) M C tk hr I .nil a.st .nil (fun x dx => mkL_go x dx) h)
theorem se_mkStS {p sp_ : Pos} {ga : FE} (M : MkOk X.K X.mg c fi) (C : XDefS X fi k (n + 1) F) (tk : Takes X W) (hr : Room (k + 1) X.A) (ha : SE X W e ga) (hg : Gl X c.x := by rfl) (hdb : (c.x == ("__debug__" : Str)) = false := by decide)
    (hst : starEach [.Starred e sp_] X.env = [(true, eval e X.env)] := by rfl) :
    SE X W (.Call (.Name c.x p) [.Starred e sp_] [] pos) (cStar (mkStar n (mkL c (n + 2) F [])) ga) := by
  refine ⟨fun pins s σ H Q I ⟨w, ρ, S, a, h⟩ => wpAny_Call_Name_kw (ld_glob I hg M.gl ?_ hdb)⟩
  refine PySem.W.callWith_S (h₀ := X.base) I.ok.mod.kin M.mm.kp (thn (run_then ha I a h) fun u s1 ⟨y, H1, w1, S1, d, I1, ry, st, a1, dr, h1⟩ => ?_) hst
  cases e1 : starOf d with
  | none => rw [e1] at h1; exact h1.elim
  | some l =>
    rw [e1] at h1
    obtain ⟨b, xs, rfl, hx, rr⟩ := starOf_rep dr e1
    obtain rfl : u = Value.ref b := ry
    exact StX.star_any I1 hx fun us s2 I2 r2 => ⟨I2.kIn, go_mkSt M C tk hr I2 r2 a1.st rr (fun x dx => mkL_go x dx) h1⟩
/-- cls(..) -/
theorem se_mkVSt {x : Str} {p : Pos} {fn : FE} {g : FA} (hn : SE X W (.Name x p) fn) (M : MkOk X.K X.mg c fi) (C : XDefS X fi k (n + 1) F) (tk : Takes X W) (hr : Room (k + 1) X.A) (ha : SA X W (e :: es) g)
    (hcall : ∀ {Q : Value → Shared → Prop} {s : Shared}, wpAny (model X.prog X.w) X.A (eval (.Name x p) X.env) (fun fv s₁ => wpAny (model X.prog X.w) X.A (callWith pos fv [] (backTo pos (starEach (e :: es) X.env)) (backToKw pos (keywordEach [] X.env))) Q X.xe s₁) X.xe s → wpAny (model X.prog X.w) X.A (eval (.Call (.Name x p) (e :: es) [] pos) X.env) Q X.xe s := by intro Q s h; exact PySem.wpAny_Call_Name_kw h)
    (he : starEach (e :: es) X.env = (false, eval e X.env) :: starEach es X.env := by rfl) (hpl : (backTo pos (starEach es X.env)).any (·.1) = false := by rfl) :
    SE X W (.Call (.Name x p) (e :: es) [] pos) (cV c fn (mkStar n (mkL c (n + 2) F [])) g) := by
  refine ⟨fun pins s σ H Q I ⟨w, ρ, S, a, h⟩ => hcall (thn (run_then hn I a h) fun u s1 ⟨xv, H1, w1, S1, d, I1, rx, st1, a1, dr, h1⟩ => ?_)⟩
  split at h1
  · rename_i x0
    split at h1
    · rename_i hx
      subst hx
      cases dr
      obtain rfl : u = Value.ref (c.a X.K) := rx
      refine PySem.W.callWith_K (h₀ := X.base) I1.ok.mod.kin M.mm.kp (thn (ha.run pos pins s1 σ H1 (fun vs H2 => ∃ w2 S2 l, Step w1 H1 w2 H2 ∧ At X.K w2 σ H2 ρ S2 ∧ DReps X.K w2 H2 vs l ∧ oR X.K W σ w2 H2 (qE X.K Q) (mkStar n (mkL c (n + 2) F []) l S2)) I1 ?_)
        fun us s2 ⟨vs, H2, I2, r, w2, S2, l, st, a2, dr2, h2⟩ => ⟨I2.kIn, go_mkSt M C tk hr I2 r a2.st dr2 (fun x dx => mkL_go x dx) h2⟩) he hpl
      exact tA_of a1 (oR_bind a1.ok h1) fun w2 H2 S2 l vs st a2 h2 r => ⟨w2, S2, l, st, a2, r, h2⟩
    · exact h1.elim
  · exact h1.elim
end
end FR

set_option Elab.async false
set_option linter.all false
set_option maxRecDepth 100000
set_option maxHeartbeats 1000000
namespace FR
open PySem PySem.Spec PyProof.Rows L2
/-! instances called -/
theorem Def.fnR {pr : Program} {w : World} {K : PySem.W.Frag} {mg : Str → Option Value} {base : Heap} {f : Addr} {k n : Nat} {F : Fn} (C : Def pr w K mg base f k n [] F) : FnR pr w K mg base (L2.CX pr w) k f (spOf K n F) := by
  obtain ⟨fd, ps, ds, zs, hk, hb, hv, hz, hF⟩ := C.ex
  intro A outer s H us vs Q E hr e0 r hsp
  have KX : K.In s.heap := e0.mod.kin.keeps fun b o e => (e0.bs b o e).1
  have hz0 := hz (fun _ => False) H
  cases hz0
  cases hv
  have ll : us.length = ps.length := r.length.symm.trans (hF.len _ _ _ _ hsp)
  have hb' := hb s us KX (by rw [List.append_nil]; exact ll)
  rw [List.append_nil] at hb'
  exact hF.run A outer s H ⟨us, []⟩ us vs Q E hr e0 hb' r hsp
def callOB (c : Cn) (K : PySem.W.Frag) : Bool := hasB c "__call__" K && PySem.W.fnIn K (aM c "__call__" K)
theorem Zs.callO {fx : List Fx} {fn : List DefX} {K : PySem.W.Frag} {mg : Str → Option Value} (z : Zs fx fn K mg) (i : Nat) {c : Cn} (h : fx[i]? = some (.gen (callOB c)) := by rfl) : StX.CallO K (c.a K) (aM c "__call__" K) := by
  obtain ⟨h0, h3⟩ := b2 (z.gen i h)
  obtain ⟨h1, h2⟩ := b2 h0
  exact ⟨optO_ok h1, h2, h3⟩
section
variable {X : Cx} {W : WX} {e : Expr} {es : List Expr} {pos : Pos} {f : Addr} {k n : Nat} {F : Fn} {c : Cn}
/-- o(a, ..) of an instance that stands still -/
def fCallO (c : Cn) (n : Nat) (F : Fn) (fo : FE) (fa : FA) : FE := fun ρ S => (fo ρ S).bind fun o S1 => match o with
  | .p (.obj c' gs) => if c' = c then (fa ρ S1).bind fun l S2 => callN .P n F [] (.p (.obj c' gs) :: l) S2 else .stuck
  | _ => .stuck
theorem se_callO {fe : Expr} {fo : FE} {fa : FA} (co : StX.CallO X.K (c.a X.K) f) (C : XDef X f k n [] F) (tk : Takes X W) (hr : Room k X.A) (ho : SE X W fe fo) (ha : SA X W (e :: es) fa)
    (ht : eval (.Call fe (e :: es) [] pos) X.env = (do callWith pos (← eval fe X.env) [] (backTo pos (starEach (e :: es) X.env)) (backToKw pos (keywordEach [] X.env))) := by rfl)
    (he : starEach (e :: es) X.env = (false, eval e X.env) :: starEach es X.env := by rfl) (hpl : (backTo pos (starEach es X.env)).any (·.1) = false := by rfl) : SE X W (.Call fe (e :: es) [] pos) (fCallO c n F fo fa) := by
  refine ⟨fun pins s σ H Q I ⟨w, ρ, S, a, h⟩ => ?_⟩
  refine Call_ (thn (run_then ho I a h) fun u s1 ⟨y, H1, w1, S1, d, I1, ry, st, a1, dr, h1⟩ => ?_) ht
  split at h1
  · rename_i c' gs
    split at h1
    · rename_i hc
      subst hc
      have hob := dr
      cases dr with
      | obj hH hl rr =>
        rename_i ad dx fs
        obtain rfl : u = Value.ref ad := ry
        refine StX.callO_with (thn (ha.run pos pins s1 σ H1 (fun vs H2 => ∃ w2 S2 l, Step w1 H1 w2 H2 ∧ At X.K w2 σ H2 ρ S2 ∧ DReps X.K w2 H2 vs l ∧ oR X.K W σ w2 H2 (qE X.K Q) (callN .P n F [] (.p (.obj c' gs) :: l) S2)) I1 ?_)
          fun us s2 ⟨vs, H2, I2, r, w2, S2, l, st2, a2, dr2, h2⟩ => ?_) he hpl
        · exact tA_of a1 (oR_bind a1.ok h1) fun w2 H2 S2 l vs st a2 h2 r => ⟨w2, S2, l, st, a2, r, h2⟩
        · have hob2 : DRep X.K w2 H2 (.ref ad) (.p (.obj c' gs)) := hob.step a1.ok st2
          have hins : StX.InsC X H2 ad (c'.a X.K) := by
            cases hob2 with
            | obj hH2 _ _ => exact .inr ⟨_, _, hH2⟩
          obtain ⟨ox, od, J, hd⟩ := StX.insC_at I2 hins
          refine ⟨⟨_, ox, od, J, hd⟩, ?_⟩
          unfold callN at h2
          split at h2
          · rename_i hn
            have rr : DReps X.K w2 H2 (.ref ad :: vs) (.p (.obj c' gs) :: l) := .cons hob2 dr2
            have hsp := sp_P (n := n) (zs := []) a2.st rr (fun _ _ => .nil) (by rw [rr.length]; exact hn) h2
            rw [List.append_nil] at hsp
            refine wpAny_call (PySem.W.kco_code I2.kIn J hd co.at_ co.fn co.fi (codeAny_mono (C.fnR X.A X.stack s2 H2 (.ref ad :: us) (.ref ad :: vs) Q (fun c d H' => W c d σ H') hr I2.env0 (.cons rfl r) hsp) fun o s' ho => ?_))
            cases o with
            | error er => exact tk er s' (XE.of_call I2 (fun _ _ _ z => z) ho)
            | ok fl =>
              cases fl with
              | ret u => exact I2.after ho
              | _ => exact (show False from ho).elim
          · exact h2.elim
    · exact h1.elim
  · exact h1.elim
end
end FR

set_option Elab.async false
set_option linter.all false
set_option maxRecDepth 100000
set_option maxHeartbeats 1000000
namespace FR
open PySem PySem.Spec PyProof.Rows L2
section
variable {X : Cx} {W : WX} {e : Expr} {es : List Expr} {pos : Pos}
/-! a field stored, read, where the instance may be of one of some classes -/
structure FldOks (K : PySem.W.Frag) (cs : List Cn) (x : Fld) : Prop where
  all : ∀ c ∈ cs, FldOk K c x
theorem fo_nil {K : PySem.W.Frag} {x : Fld} : FldOks K [] x := ⟨fun _ h => by cases h⟩
theorem fo_cons {K : PySem.W.Frag} {x : Fld} {c : Cn} {cs : List Cn} (h : FldOk K c x) (t : FldOks K cs x) : FldOks K (c :: cs) x := ⟨fun d hd => by
  rcases List.mem_cons.mp hd with rfl | hd
  · exact h
  · exact t.all d hd⟩
def sFldSetC (cs : List Cn) (x : Fld) (fo fv : FE) : FC := fun ρ S => (fv ρ S).toS ρ fun d S1 => (fo ρ S1).toS ρ fun o S2 => match o with
  | .r n => match S2[n]? with
    | some (.ins c' gs) => if c' ∈ cs ∧ gs.length < 900 then .nx ρ (S2.set n (.ins c' (putD x d gs))) else .stuck
    | _ => .stuck
  | _ => .stuck
theorem ss_fldC {cs : List Cn} {x : Fld} {value : Expr} {fo fv : FE} {pos' : Pos} (h : FldOks X.K cs x) (ho : SE X W e fo) (hv : SE X W value fv) (hs : swapsWith value (some (.Attribute e x.x pos')) pos.line X.env = pure false := by rfl) :
    SS X W (.Assign [.Attribute e x.x pos'] value pos) (sFldSetC cs x fo fv) := by
  refine (ps_fld ho hv hs).imp fun D0 σ H ⟨w, ρ, S, a, h0⟩ => tS_tE a h0 fun w1 H1 S1 d v st a1 r h1 => tS_tE a1 h1 fun w2 H2 S2 o u st2 a2 r2 h2 => ?_
  split at h2
  · rename_i m
    split at h2
    · rename_i c' gs hS
      split at h2
      · rename_i hc
        obtain ⟨hm, hl⟩ := hc
        obtain ⟨ad, dx, fs, e0, eH, rf⟩ := a2.st.cell m _ hS
        have r' := r.step a1.ok st2
        refine ⟨ad, _, dx, fs, r2.2 ad e0, eH, (h.all c' hm).cl, (h.all c' hm).no, by rw [rf.len]; omega, ?_⟩
        have st3 : Step w2 H2 w2 (upd H2 ad (.ins (c'.a X.K) dx (putF x.x v fs))) := (write_cell (o := .ins (c'.a X.K) dx (putF x.x v fs)) (c := .dead) a2.st e0 trivial trivial).1
        obtain ⟨_, sr3⟩ := write_cell (o := .ins (c'.a X.K) dx (putF x.x v fs)) (c := .ins c' (putD x d gs)) a2.st e0 trivial ⟨ad, dx, _, e0, upd_same, (rf.put r').step a2.ok st3⟩
        exact h2 w2 _ σ st3 sr3 (a2.sl.step a2.ok st3)
      · exact h2.elim
    · exact h2.elim
  · exact h2.elim
/-- a += by ints -/
def addII : D → D → Option D
  | .p (.int i), .p (.int j) => some (.p (.int (i + j)))
  | _, _ => none
/-- o.f += v -/
def sFldAug (c : Cn) (x : Fld) (fo fv : FE) : FC := fun ρ S => (fo ρ S).toS ρ fun o S1 => match o with
  | .r n => (match S1[n]? with
    | some (.ins c' gs) => if c' = c then (match gs.lookup x with
      | some d0 => (fv ρ S1).toS ρ fun d S2 => (match addII d0 d, S2[n]? with
        | some z, some (.ins c2 gs2) => if c2 = c ∧ gs2.length < 900 then .nx ρ (S2.set n (.ins c (putD x z gs2))) else .stuck
        | _, _ => .stuck)
      | none => .stuck) else .stuck
    | _ => .stuck)
  | _ => .stuck
theorem ss_fldaug {c : Cn} {x : Fld} {value : Expr} {fo fv : FE} {tpos : Pos} (h : FldOk X.K c x) (ho : SE X W e fo) (hv : SE X W value fv) : SS X W (.AugAssign (.Attribute e x.x tpos) .Add value pos) (sFldAug c x fo fv) := by
  refine (ps_fldaug ho hv in_add).imp fun D0 σ H ⟨w, ρ, S, a, h0⟩ => tS_tE a h0 fun w1 H1 S1 o v st a1 r h1 => ?_
  split at h1
  · rename_i m
    split at h1
    · rename_i c' gs hS
      split at h1
      · rename_i hc
        subst hc
        split at h1
        · rename_i d0 hd0
          obtain ⟨ad, dx, fs, e0, eH, rf⟩ := a1.st.cell m _ hS
          obtain ⟨v0, f1, f2⟩ := rf.look hd0
          refine ⟨ad, _, dx, fs, v0, r.2 ad e0, eH, h.cl, h.no, f1, tS_tE a1 h1 fun w2 H2 S2 d u st2 a2 r2 h2 => ?_⟩
          split at h2
          · rename_i z c2 gs2 hz hS2
            split at h2
            · rename_i hc2
              obtain ⟨rfl, hl⟩ := hc2
              unfold addII at hz
              split at hz
              · rename_i i j
                cases hz
                obtain rfl := rep_int f2
                obtain rfl := rep_int r2
                obtain ⟨ad2, dx2, fs2, g0, gH, gf⟩ := a2.st.cell m _ hS2
                have hα := st2.old m ad2 r.1 g0
                rw [e0] at hα
                cases hα
                refine ⟨i, j, rfl, rfl, dx2, fs2, gH, by rw [gf.len]; omega, ?_⟩
                have st3 : Step w2 H2 w2 (upd H2 ad (.ins (c2.a X.K) dx2 (putF x.x (.int (i + j)) fs2))) := (write_cell (o := .ins (c2.a X.K) dx2 (putF x.x (.int (i + j)) fs2)) (c := .dead) a2.st g0 trivial trivial).1
                obtain ⟨_, sr3⟩ := write_cell (o := .ins (c2.a X.K) dx2 (putF x.x (.int (i + j)) fs2)) (c := .ins c2 (putD x (.p (.int (i + j))) gs2)) a2.st g0 trivial ⟨ad, dx2, _, g0, upd_same, (gf.put (v := .int (i + j)) (show DRep X.K w2 H2 (.int (i + j)) (.p (.int (i + j))) from .int _)).step a2.ok st3⟩
                exact h2 w2 _ σ st3 sr3 (a2.sl.step a2.ok st3)
              · cases hz
            · exact h2.elim
          · exact h2.elim
        · exact h1.elim
      · exact h1.elim
    · exact h1.elim
  · exact h1.elim
/-- l[i] += v of a cell; g by values -/
def sIxAug (g : D → D → Store → R D) (fo fi fv : FE) : FC := fun ρ S => (fo ρ S).toS ρ fun o S1 => (fi ρ S1).toS ρ fun i S2 => match o, i with
  | .r n, .p (.int k) => (match S2[n]? with
    | some (.lst l) => (match atI l k with
      | some d0 => (fv ρ S2).toS ρ fun d S3 => (g d0 d S3).toS ρ fun z S4 => (match S4[n]? with
        | some (.lst l4) => (match ixN l4.length k with
          | some j => .nx ρ (S4.set n (.lst (l4.set j z)))
          | none => .stuck)
        | _ => .stuck)
      | none => .stuck)
    | _ => .stuck)
  | _, _ => .stuck
theorem get_list : PGet X (rIxL X.K) := by
  intro pins s σ H x y v u Q I rx ry h
  obtain ⟨p, xs, i, z, rfl, rfl, hq, he, q⟩ := h
  cases rx
  obtain ⟨t, rfl⟩ := ry
  obtain ⟨its, r, pl, hz⟩ := I.list hq
  obtain ⟨j, h1, h2, h3, h4, h5⟩ := atI_get he
  obtain ⟨w, ew, rw'⟩ := r.get h2
  have hl := r.length
  have hn := line63
  have fin : EP X pins σ Q w s := ⟨z, H, I, rw', q⟩
  by_cases h0 : 0 ≤ i
  · have hj : i.toNat = j := by
      rw [seqIndex_of h0 h5] at h1
      exact Option.some.inj h1
    exact wpAny_getItem_list pl.isList h0 (by omega) (by rw [hj]; simpa using ew) fin
  · have hj : (i + (its.toArray.size : Int)).toNat = j := by
      rw [seqIndex_neg (by omega) h4] at h1
      rw [List.size_toArray, ← hl]
      exact Option.some.inj h1
    exact wpAny_getItem_list_neg pl.isList (by omega) (by rw [List.size_toArray] <;> omega) (by omega) (by rw [hj]; simpa using ew) fin
theorem ss_ixaug {o i value : Expr} {op : Operator} {g : D → D → Store → R D} {ti : TIp} {fo fi fv : FE} {tpos : Pos} (ho : SE X W o fo) (hi : SE X W i fi) (hv : SE X W value fv) (hp : PIp X op ti)
    (hti : ∀ (σ : L2.St) (H : Hp) (w : Wd) (ρ : Env) (S : Store) (x y : V) (dx dy : D) (Q : VK), At X.K w σ H ρ S → DRep X.K w H x dx → DRep X.K w H y dy → oR X.K W σ w H (qE X.K Q) (g dx dy S) → ti x y H Q)
    (ha : ∀ ov iv new, augStore i ov iv new = (do holding [new, ov, iv] (setItem ov iv new); release [new, ov, iv] []; pure .next) := by intros; rfl) : SS X W (.AugAssign (.Subscript o i tpos) op value pos) (sIxAug g fo fi fv) := by
  refine (ps_augS ho hi get_list hv hp set_list ha).imp fun D0 σ H ⟨w, ρ, S, a, h0⟩ => tS_tE a h0 fun w1 H1 S1 od ov st a1 r h1 => tS_tE a1 h1 fun w2 H2 S2 id iv st2 a2 r2 h2 => ?_
  split at h2
  · rename_i n k
    split at h2
    · rename_i l hS
      split at h2
      · rename_i d0 hd0
        obtain ⟨ad, vs, e1, e2, e3⟩ := a2.st.cell n _ hS
        obtain rfl := rep_int r2
        have r' := r.step a1.ok st2
        obtain ⟨u0, f1, f2⟩ := atI_dreps e3 hd0
        have hov := r'.2 ad e1
        subst hov
        refine ⟨ad, vs, k, u0, rfl, rfl, .inl (.inl e2), f1, tS_tE a2 h2 fun w3 H3 S3 d v st3 a3 r3 h3 => ?_⟩
        refine hti σ H3 w3 ρ S3 u0 v d0 d _ a3 (f2.step a2.ok st3) r3 ?_
        refine oR_imp (oS_toS a3.ok a3.sl h3) fun w4 H4 S4 z st4 sr4 h4 y ry => ?_
        have a4 : At X.K w4 σ H4 ρ S4 := a3.to st4 sr4
        split at h4
        · rename_i l4 hS4
          split at h4
          · rename_i j hj
            obtain ⟨ad4, vs4, g1, g2, g3⟩ := sr4.cell n _ hS4
            have r4 := (r'.step a2.ok st3).step a3.ok st4
            have := r4.2 ad4 g1
            cases this
            refine ⟨ad, vs4, k, j, rfl, rfl, g2, by rw [g3.length]; exact hj, ?_⟩
            have st5 : Step w4 H4 w4 (upd H4 ad (.lst (vs4.set j y))) := (write_cell (o := .lst (vs4.set j y)) (c := .dead) sr4 g1 trivial trivial).1
            obtain ⟨_, sr5⟩ := write_cell (o := .lst (vs4.set j y)) (c := .lst (l4.set j z)) sr4 g1 trivial ⟨ad, _, g1, upd_same, (g3.setAt ry j).step sr4.ok st5⟩
            exact h4 w4 _ σ st5 sr5 (a4.sl.step sr4.ok st5)
          · exact h4.elim
        · exact h4.elim
      · exact h2.elim
    · exact h2.elim
  · exact h2.elim
/-- l[::-1] -/
def gRevL : D → Store → R D := fun d S => match itemsOf S d with
  | some l => .ok (.p (.lst l.reverse)) S
  | none => .stuck
theorem Reps.rev {K : PySem.W.Frag} {L : Addr → Prop} {H : Hp} : ∀ {vs : List V} {l : List P}, Reps K L H vs l → Reps K L H vs.reverse l.reverse
  | _, _, .nil => .nil
  | _, _, .cons h t => by
    rw [List.reverse_cons, List.reverse_cons]
    exact Reps.app (Reps.rev t) (.cons h .nil)
theorem se_revL {fo : FE} {k : Nat} {p1 p2 p3 : Pos} (he : SE X W e fo) : SE X W (.Subscript e (.Slice none none (some (.UnaryOp .USub (.Constant (.int 1) k p1) p2)) p3) pos) (c1 gRevL fo) :=
  (pe_revL he).imp fun σ H Q ⟨w, ρ, S, a, h⟩ => tE_of a (oR_bind a.ok h) fun w1 H1 S1 d v st a1 h1 r => by
    unfold gRevL at h1
    split at h1
    · rename_i l hl
      obtain ⟨ad, vs, rfl, rr, sq, _⟩ := items_rep a1.st r hl
      refine ⟨ad, vs, rfl, sq, fun p hp => ?_⟩
      obtain ⟨st2, sr2, dr2⟩ := lay_lst a1.st hp (Reps.rev rr)
      exact h1 _ _ st2 sr2 _ dr2
    · exact h1.elim
/-- int constants of a class, read off the class -/
structure CConOk (K : PySem.W.Frag) (mg : Str → Option Value) (c : Cn) (m : Str) (i : Int) : Prop where
  gl : mg c.x = some (.ref (c.a K))
  rd : ClX.CRead K (c.a K) (.type "type")
  va : ∃ t, PySem.W.findCls K (.ref (c.a K)) (.type "type") m = some (.val (.int i t))
def cconB (c : Cn) (m : Str) (i : Int) (K : PySem.W.Frag) : Bool := PySem.W.readsIn K (c.a K) (.type "type") && (optO (PySem.W.specialIn K (.ref (c.a K)) "__getattribute__") (.builtin "type.__getattribute__") &&
  (match PySem.W.findCls K (.ref (c.a K)) (.type "type") m with
    | some (.val (.int j _)) => decide (j = i)
    | _ => false))
theorem Zs.ccon {fx : List Fx} {fn : List DefX} {K : PySem.W.Frag} {mg : Str → Option Value} (z : Zs fx fn K mg) (i j : Nat) {c : Cn} {m : Str} {v : Int} (h : fx[i]? = some (.gen (cconB c m v)) := by rfl) (h2 : fx[j]? = some (.glo c.x) := by rfl) : CConOk K mg c m v := by
  obtain ⟨e1, e⟩ := b2 (z.gen i h)
  obtain ⟨e2, e3⟩ := b2 e
  refine ⟨z.cn j h2, ⟨e1, optO_ok e2⟩, ?_⟩
  split at e3
  · rename_i j t q
    have := of_decide_eq_true e3
    subst this
    exact ⟨t, q⟩
  · cases e3
theorem se_ccon {c : Cn} {m : Str} {i : Int} {np : Pos} (h : CConOk X.K X.mg c m i) (hg : Gl X c.x := by rfl) (hd : (c.x == ("__debug__" : Str)) = false := by decide) (hb : attributeBase (.Name c.x np) m X.env (eval (.Name c.x np) X.env) = eval (.Name c.x np) X.env := by rfl) :
    SE X W (.Attribute (.Name c.x np) m pos) (fC (.int i)) :=
  (ClX.pe_cval (pe_glob hg h.gl (v := .ref (c.a X.K)) rfl hd) hb).imp fun σ H Q ⟨w, ρ, S, a, h0⟩ => by
    obtain ⟨t, ht⟩ := h.va
    exact ⟨_, _, .int i, .int i t, rfl, h.rd, ⟨ht, ⟨t, rfl⟩⟩, oE_ok a.st h0 (show DRep X.K w H (.int i) (.p (.int i)) from .int i)⟩
end
end FR

set_option Elab.async false
set_option linter.all false
set_option maxRecDepth 100000
set_option maxHeartbeats 1000000
namespace FR
open PySem PySem.Spec PyProof.Rows L2
section
variable {X : Cx} {W : WX} {e : Expr} {es : List Expr} {pos : Pos}
/-- self.x, self.y = e, the instance of one of some classes -/
def sFld2C (cs : List Cn) (x y : Fld) (i : Nat) (fv : FE) : FC := fun ρ S => (fv ρ S).toS ρ fun d S1 => match d, ρ[i]? with
  | .p (.tup [a, b]), some (some (.r n)) => (match S1[n]? with
    | some (.ins c' gs) => if c' ∈ cs ∧ gs.length < 900 then .nx ρ (S1.set n (.ins c' (putD y (.p b) (putD x (.p a) gs)))) else .stuck
    | _ => .stuck)
  | _, _ => .stuck
theorem ss_fld2C {cs : List Cn} {x y : Fld} {i : Nat} {xs : Str} {value : Expr} {fv : FE} {n1 n2 p1 p2 p3 : Pos} {k : Nat} (h1 : FldOks X.K cs x) (h2 : FldOks X.K cs y) (hc : X.calm = true) (hN : X.N[i]? = some xs) (hvis : Vis X.env.scope xs) (hv : SE X W value fv)
    (hd : (xs == ("__debug__" : Str)) = false := by decide) (hcd : (xs == ("__classdict__" : Str)) = false := by decide)
    (hn : (assignEach [.Attribute (.Name xs n1) x.x p1, .Attribute (.Name xs n2) y.x p2] X.env).length = 2 := by rfl) (hst : (assignEach [.Attribute (.Name xs n1) x.x p1, .Attribute (.Name xs n2) y.x p2] X.env).findIdx? (·.1) = none := by rfl)
    (ha1 : (assignEach [.Attribute (.Name xs n1) x.x p1, .Attribute (.Name xs n2) y.x p2] X.env).map (·.2) = [assign (.Attribute (.Name xs n1) x.x p1) X.env, assign (.Attribute (.Name xs n2) y.x p2) X.env] := by rfl)
    (hs : swapsWithSole [.Tuple [.Attribute (.Name xs n1) x.x p1, .Attribute (.Name xs n2) y.x p2] k p3] value pos.line X.env = pure false := by rfl) (hw : swappedStores [.Tuple [.Attribute (.Name xs n1) x.x p1, .Attribute (.Name xs n2) y.x p2] k p3] value X.env = pure none := by rfl)
    (ha : (assignEach [.Tuple [.Attribute (.Name xs n1) x.x p1, .Attribute (.Name xs n2) y.x p2] k p3] X.env).map (·.2) = [assign (.Tuple [.Attribute (.Name xs n1) x.x p1, .Attribute (.Name xs n2) y.x p2] k p3) X.env] := by rfl) :
    SS X W (.Assign [.Tuple [.Attribute (.Name xs n1) x.x p1, .Attribute (.Name xs n2) y.x p2] k p3] value pos) (sFld2C cs x y i fv) := by
  have ho1 : PE X (.Name xs n1) (tVar i) := pe_var hN hvis hd hcd
  have ho2 : PE X (.Name xs n2) (tVar i) := pe_var hN hvis hd hcd
  have hp : PGs X [.Attribute (.Name xs n1) x.x p1, .Attribute (.Name xs n2) y.x p2] (gCons (gFldT X.K (tVar i) x.x) (gCons (gFldT X.K (tVar i) y.x) gNil)) := by
    refine ⟨fun pins s σ H vs us Q I r h => ?_⟩
    obtain ⟨v1, r1, rfl, h⟩ := h
    rw [ha1]
    cases r with
    | cons rv rt =>
      refine assignInOrder_cons (thn ((pg_fld ho1).run pins s σ H v1 _ _ I rv h) fun _ s1 ⟨σ1, H1, I1, q1⟩ => ?_)
      obtain ⟨v2, r2, rfl, h2⟩ := q1
      cases rt with
      | cons rv2 rt2 =>
        refine assignInOrder_cons (thn ((pg_fld ho2).run pins s1 σ1 H1 v2 _ _ I1 rv2 h2) fun _ s2 ⟨σ2, H2, I2, q2⟩ => ?_)
        obtain ⟨rfl, q2⟩ := q2
        cases rt2
        exact assignInOrder_nil ⟨σ2, H2, I2, q2⟩
  refine (ps_asg hv (pg_tup hc hp hn hst) hs hw ha).imp fun D0 σ H ⟨w, ρ, S, a, h⟩ => tS_tE a h fun w1 H1 S1 d v st a1 r h1' => ?_
  split at h1'
  · rename_i q1 q2 m hρ
    split at h1'
    · rename_i c' gs hS
      split at h1'
      · rename_i hcl
        obtain ⟨hm, hl⟩ := hcl
        obtain ⟨v0, hv0, r0⟩ := a1.sl.get hρ
        obtain ⟨ad, dx, fs, e0, eH, rf⟩ := a1.st.cell m _ hS
        have ev : v0 = .ref ad := r0.2 ad e0
        subst ev
        have r : Rep X.K w1.L H1 v (.tup [q1, q2]) := r
        cases r with
        | tup hq rr =>
          cases rr with
          | @cons va _ _ _ ra rb =>
            cases rb with
            | @cons vb _ _ _ rb rn =>
              cases rn
              have st1 : Step w1 H1 w1 (upd H1 ad (.ins (c'.a X.K) dx (putF x.x va fs))) := (write_cell (o := .ins (c'.a X.K) dx (putF x.x va fs)) (c := .dead) a1.st e0 trivial trivial).1
              have rf1 : DRepF X.K w1 H1 (putF x.x va fs) (putD x (.p q1) gs) := rf.put (show DRep X.K w1 H1 va (.p q1) from ra)
              obtain ⟨_, sr1⟩ := write_cell (o := .ins (c'.a X.K) dx (putF x.x va fs)) (c := .ins c' (putD x (.p q1) gs)) a1.st e0 trivial ⟨ad, dx, _, e0, upd_same, rf1.step a1.ok st1⟩
              have l2 := putD_len x (.p q1) gs
              have rb1 : DRep X.K w1 (upd H1 ad (.ins (c'.a X.K) dx (putF x.x va fs))) vb (.p q2) := DRep.step a1.ok st1 (show DRep X.K w1 H1 vb (.p q2) from rb)
              have st2 : Step w1 (upd H1 ad (.ins (c'.a X.K) dx (putF x.x va fs))) w1 (upd (upd H1 ad (.ins (c'.a X.K) dx (putF x.x va fs))) ad (.ins (c'.a X.K) dx (putF y.x vb (putF x.x va fs)))) := (write_cell (o := .ins (c'.a X.K) dx (putF y.x vb (putF x.x va fs))) (c := .dead) sr1 e0 trivial trivial).1
              have rf2 := (rf1.step a1.ok st1).put (f := y) rb1
              obtain ⟨_, sr2⟩ := write_cell (o := .ins (c'.a X.K) dx (putF y.x vb (putF x.x va fs))) (c := .ins c' (putD y (.p q2) (putD x (.p q1) gs))) sr1 e0 trivial ⟨ad, dx, _, e0, upd_same, rf2.step sr1.ok st2⟩
              rw [List.set_set] at sr2
              refine ⟨_, _, rfl, hq, rfl, va, [vb], rfl, .ref ad, hv0, ad, _, dx, fs, rfl, eH, (h1.all c' hm).cl, (h1.all c' hm).no, by rw [rf.len]; omega, ?_⟩
              refine ⟨vb, [], rfl, .ref ad, hv0, ad, _, dx, _, rfl, upd_same, (h2.all c' hm).cl, (h2.all c' hm).no, by rw [rf1.len]; omega, rfl, ?_⟩
              exact h1' w1 _ σ (st1.trans a1.ok st2) sr2 (a1.sl.step a1.ok (st1.trans a1.ok st2))
      · exact h1'.elim
    · exact h1'.elim
  · exact h1'.elim

/-! == of data, also of lists that are cells -/
def asPD (S : Store) (d : D) : Option PyData := match d with
  | .p q => toPD q
  | .r n => (itemsOf S (.r n)).bind fun l => (toPDs l).map .list
theorem asPD_dp {K : PySem.W.Frag} {w : Wd} {H : Hp} {S : Store} {v : V} {d : D} {x : PyData} (sr : SRep K w H S) (r : DRep K w H v d) (h : asPD S d = some x) : Dp K H v x := by
  cases d with
  | p q => exact rep_dp r h
  | r n =>
    unfold asPD at h
    dsimp only at h
    cases e : itemsOf S (.r n) with
    | none => rw [e] at h; cases h
    | some l =>
      rw [e] at h
      have h : (toPDs l).map PyData.list = some x := h
      cases q : toPDs l with
      | none => rw [q] at h; cases h
      | some ds =>
        rw [q] at h
        cases h
        obtain ⟨a, vs, rfl, rr, sq, _⟩ := items_rep sr r e
        exact .lst sq (reps_dp rr q)
def eqC2 (f : Bool → Bool) : D → D → Store → R D := fun x y S => match asPD S x, asPD S y with
  | some d, some e => if SeqAt.shaped d = true ∧ SeqAt.shaped e = true then .ok (.p (.bl (f (PyData.eqv d e)))) S else .stuck
  | _, _ => .stuck
def gEqC : D → D → Store → R D := eqC2 id
def gNeC : D → D → Store → R D := eqC2 not
theorem o_eqC {k : Nat} (hr : Room k X.A) : OpF X W (compareOp .Eq) gEqC := by
  intro pins s σ H w ρ S x y dx dy v u Q I a r1 r2 rx ry q
  unfold gEqC eqC2 at q
  split at q
  · split at q
    · rename_i d e h1 h2 hs
      exact op_eqD hr.units pins s σ H _ _ v u Q I rx ry ⟨d, e, asPD_dp a.st r1 h1, asPD_dp a.st r2 h2, hs.1, hs.2, oE_ok a.st q (.bl _)⟩
    · exact q.elim
  · exact q.elim
theorem o_neC {k : Nat} (hr : Room k X.A) : OpF X W (compareOp .NotEq) gNeC := by
  intro pins s σ H w ρ S x y dx dy v u Q I a r1 r2 rx ry q
  unfold gNeC eqC2 at q
  split at q
  · split at q
    · rename_i d e h1 h2 hs
      exact op_neD hr.units pins s σ H _ _ v u Q I rx ry ⟨d, e, asPD_dp a.st r1 h1, asPD_dp a.st r2 h2, hs.1, hs.2, oE_ok a.st q (.bl _)⟩
    · exact q.elim
  · exact q.elim
/-- not x, by truth -/
def fNotTV (f : FE) : FE := fun ρ S => (f ρ S).bind fun d S1 => match truD d S1 with
  | some b => .ok (.p (.bl (!b))) S1
  | none => .stuck
theorem se_notT {f : FE} (h : SE X W e f) : SE X W (.UnaryOp .Not e pos) (fNotTV f) :=
  (pe_notT h).imp fun σ H Q ⟨w, ρ, S, a, h⟩ => tE_of a (oR_bind a.ok h) fun w1 H1 S1 d v st a1 h1 r => by
    cases q : truD d S1 with
    | none => rw [q] at h1; exact h1.elim
    | some b =>
      rw [q] at h1
      exact ⟨b, tru_of a1.st r q, oE_ok a1.st h1 (.bl _)⟩
/-- l * k -/
def gRep : D → D → Store → R D := fun x y S => match itemsOf S x, y with
  | some l, .p (.int k) => if -(2 ^ 63) ≤ k ∧ k < 2 ^ 63 ∧ l.length * k.toNat ≤ 1000000 then .ok (.p (.lst (List.replicate k.toNat l).flatten)) S else .stuck
  | _, _ => .stuck
theorem Reps.rep {K : PySem.W.Frag} {L : Addr → Prop} {H : Hp} {vs : List V} {l : List P} (r : Reps K L H vs l) : ∀ n : Nat, Reps K L H (List.replicate n vs).flatten (List.replicate n l).flatten
  | 0 => .nil
  | n + 1 => by
    rw [List.replicate_succ, List.replicate_succ, List.flatten_cons, List.flatten_cons]
    exact Reps.app r (Reps.rep r n)
theorem rep_go {pins : List (Addr × Obj)} {σ : L2.St} {H : Hp} {s : Shared} {l : Addr} {k : Int} {t : Tok} {xs : List V} {Q : VK} (I : Inv X pins σ H s) (hL : H l = some (.lst xs) ∨ ∃ o, H l = some (.frz o (.lst xs))) (h1 : -(2 ^ 63) ≤ k) (h2 : k < 2 ^ 63) (hz : xs.length * k.toNat ≤ sizeLine)
    (q : ∀ p, H p = none → Q (.ref p) (upd H p (.lst (List.replicate k.toNat xs).flatten))) : wpAny (model X.prog X.w) X.A (binaryOp .Mult (.ref l) (.int k t)) (EP X pins σ Q) X.xe s := by
  obtain ⟨its, n, r, z, e⟩ := lst_obj2 I hL
  have hl : xs.length = its.length := r.length
  have hlen : its.toArray.size * k.toNat ≤ sizeLine := by rw [List.size_toArray, ← hl]; exact hz
  have hcap : ¬ its.toArray.size * k.toNat > (2 ^ 63 - 1) / 8 := by
    have : (sizeLine : Nat) ≤ (2 ^ 63 - 1) / 8 := by decide
    omega
  have hfit : ¬ (!Builtin.List.listFitsIndex k) = true := by
    rw [fitsIndex_both h1 h2]
    exact Bool.false_ne_true
  have hlong : ¬ Builtin.List.listTooLong (its.toArray.size * k.toNat) = true := by
    rw [notLongL hlen]
    exact Bool.false_ne_true
  have hnew : List.foldl (fun x1 x2 => x1 ++ x2) #[] (List.replicate (if its.toArray.isEmpty = true then 0 else k.toNat) its.toArray) = (List.replicate k.toNat its).flatten.toArray := by
    have f0 : ∀ m : Nat, List.foldl (fun x1 x2 => x1 ++ x2) #[] (List.replicate m its.toArray) = (List.replicate m its).flatten.toArray := fun m => by
      have := foldl_rep its m []
      rw [List.nil_append] at this
      exact this
    rw [f0]
    cases its with
    | nil => simp
    | cons a r' => rw [if_neg (by simp)]
  refine wpAny_binaryOp_repeat_ref (T := "list") (U := "int") (by decide) ⟨_, e, rfl⟩ (fun s' => typeIs_int s' k t) noFill_list_mul F.fills_int_mul F.slot_int_rmul repeat_list F.slot_int_index.lookup
    (call_meets F.slot_int_rmul (typeIs_int s k t) F.entry_int_rmul (F.args_int_rmul_2 _ _) (int___rmul___int_list k t l its.toArray n)
      ⟨e, rfl, ⟨_, e, rfl⟩, call_meets F.slot_list_mul ⟨_, e, rfl⟩ F.entry_list_mul (F.args_list_mul_2 _ _) (AutoListH.list___mul___list_int_3 l its.toArray n k t hfit hcap hlong) ⟨e, ?_⟩⟩)
  rw [hnew]
  exact ⟨.ref _, _, I.lnew (t' := s.toks) (r.rep k.toNat) (by rw [PyProof.Rows.lm_len_rep_flat, Nat.mul_comm]; exact hz), rfl, q _ I.fresh⟩
theorem o_rep : OpF X W (binaryOp .Mult) gRep := by
  intro pins s σ H w ρ S x y dx dy v u Q I a r1 r2 rx ry q
  unfold gRep at q
  split at q
  · rename_i l k hl
    split at q
    · rename_i hk
      obtain rfl := rep_int r2
      obtain ⟨b, vs, rfl, rr, _, z⟩ := items_rep a.st r1 hl
      cases rx
      obtain ⟨t, rfl⟩ := ry
      refine rep_go I z hk.1 hk.2.1 (by rw [Reps.length rr, sizeLine_eq]; omega) fun p hp => ?_
      obtain ⟨st, sr, dr⟩ := lay_lst a.st hp (Reps.rep rr k.toNat)
      exact q _ _ st sr _ dr
    · exact q.elim
  · exact q.elim
/-- any(a list of truth values) -/
def asBls : List P → Option (List Bool)
  | [] => some []
  | .bl b :: r => (asBls r).map (b :: ·)
  | _ => none
theorem asBls_map (l : List Bool) : asBls (l.map .bl) = some l := by
  induction l with
  | nil => rfl
  | cons a r ih => simp [asBls, ih]
theorem asBls_reps {K : PySem.W.Frag} {L : Addr → Prop} {H : Hp} : ∀ {l : List P} {k : List Bool} {vs : List V}, Reps K L H vs l → asBls l = some k → vs = k.map V.bl
  | [], k, vs, r, h => by
    cases h; cases r; rfl
  | q :: l, k, vs, r, h => by
    cases q with
    | bl i =>
      unfold asBls at h
      cases e : asBls l with
      | none => rw [e] at h; cases h
      | some k' =>
        rw [e] at h
        cases h
        cases r with
        | cons h1 t =>
          cases h1
          rw [asBls_reps t e]; rfl
    | _ => cases h
def gAny : List D → Store → R D := fun ds S => match ds with
  | [.p (.lst l)] => (match asBls l with
    | some k => .ok (.p (.bl (k.any id))) S
    | none => .stuck)
  | _ => .stuck
theorem r_any (σ : L2.St) (H : Hp) (w : Wd) (ρ : Env) (S : Store) (vs : List V) (ds : List D) (Q : VK) (a : At X.K w σ H ρ S) (r : DReps X.K w H vs ds) (h : oR X.K W σ w H (qE X.K Q) (gAny ds S)) : rAny X.K vs H Q := by
  unfold gAny at h
  split at h
  · split at h
    · rename_i l k e
      obtain ⟨v, rfl, hv⟩ := reps_one r
      cases hv with
      | lst hh rr =>
        have := asBls_reps rr e
        subst this
        exact ⟨_, k, rfl, hh.sq, oE_ok a.st h (.bl _)⟩
    · exact h.elim
  · exact h.elim
/-- str(an int) -/
def gStrI : List D → Store → R D := fun ds S => match ds with
  | [.p (.int i)] => if i.natAbs.log2 < 1920 then .ok (.p (.str (toString i))) S else .stuck
  | _ => .stuck
theorem r_strI (σ : L2.St) (H : Hp) (w : Wd) (ρ : Env) (S : Store) (vs : List V) (ds : List D) (Q : VK) (a : At X.K w σ H ρ S) (r : DReps X.K w H vs ds) (h : oR X.K W σ w H (qE X.K Q) (gStrI ds S)) : ∃ i, vs = [.int i] ∧ i.natAbs.log2 < 1920 ∧ Q (.str (toString i)) H := by
  unfold gStrI at h
  split at h
  · split at h
    · rename_i i hi
      exact ⟨i, reps1 r, hi, oE_ok a.st h (.str _)⟩
    · exact h.elim
  · exact h.elim
end
end FR

set_option Elab.async false
set_option linter.all false
set_option maxRecDepth 100000
set_option maxHeartbeats 1000000
namespace FR
open PySem PySem.Spec PyProof.Rows L2
/-! dicts that are cells, their keys ints or texts -/
def keyP : P → Option Key
  | .int i => some (.inl i)
  | .str x => some (.inr x)
  | _ => none
def keyD : D → Option Key
  | .p q => keyP q
  | .r _ => none
def kyP : Key → P
  | .inl i => .int i
  | .inr x => .str x
section
variable {K : PySem.W.Frag} {w : Wd} {H : Hp}
theorem key_rep {v : V} {d : D} {k : Key} (r : DRep K w H v d) (h : keyD d = some k) : v = kV k := by
  cases d with
  | r n => cases h
  | p q =>
    cases r with
    | int i => cases h; rfl
    | str x => cases h; rfl
    | _ => cases h
theorem kyP_rep (L : Addr → Prop) (k : Key) : Rep K L H (kV k) (kyP k) := by
  cases k with
  | inl i => exact .int i
  | inr x => exact .str x
def valD (l : List (Key × D)) (k : Key) : Option D := (l.find? fun kv => decide (kv.1 = k)).map (·.2)
def putKD (l : List (Key × D)) (k : Key) (d : D) : List (Key × D) := if (l.any fun kv => decide (kv.1 = k)) = true then l.map (fun kv => if kv.1 = k then (kv.1, d) else kv) else l ++ [(k, d)]
inductive KRep (K : PySem.W.Frag) (w : Wd) (H : Hp) : List (Key × V) → List (Key × D) → Prop where
  | nil : KRep K w H [] []
  | cons {k : Key} {v : V} {d : D} {kvs : List (Key × V)} {l : List (Key × D)} (h : DRep K w H v d) (t : KRep K w H kvs l) : KRep K w H ((k, v) :: kvs) ((k, d) :: l)
theorem KRep.of : ∀ {kvs : List (Key × V)} {l : List (Key × D)}, kvs.map (·.1) = l.map (·.1) → DReps K w H (kvs.map (·.2)) (l.map (·.2)) → KRep K w H kvs l
  | [], [], _, _ => .nil
  | [], _ :: _, h, _ => by cases h
  | _ :: _, [], h, _ => by cases h
  | (k, v) :: kvs, (k', d) :: l, h, r => by
    cases r with
    | cons h1 t =>
      have h2 := (List.cons.inj h)
      have : k = k' := h2.1
      subst this
      exact .cons h1 (KRep.of h2.2 t)
theorem KRep.keys : ∀ {kvs : List (Key × V)} {l : List (Key × D)}, KRep K w H kvs l → kvs.map (·.1) = l.map (·.1)
  | _, _, .nil => rfl
  | _, _, .cons h t => by rw [List.map_cons, List.map_cons, KRep.keys t]
theorem KRep.vals : ∀ {kvs : List (Key × V)} {l : List (Key × D)}, KRep K w H kvs l → DReps K w H (kvs.map (·.2)) (l.map (·.2))
  | _, _, .nil => .nil
  | _, _, .cons h t => .cons h (KRep.vals t)
theorem KRep.len {kvs : List (Key × V)} {l : List (Key × D)} (r : KRep K w H kvs l) : kvs.length = l.length := by
  have := congrArg List.length r.keys
  rwa [List.length_map, List.length_map] at this
theorem KRep.step {w' : Wd} {H' : Hp} (W : Wok w H) (s : Step w H w' H') : ∀ {kvs : List (Key × V)} {l : List (Key × D)}, KRep K w H kvs l → KRep K w' H' kvs l
  | _, _, .nil => .nil
  | _, _, .cons h t => .cons (h.step W s) (KRep.step W s t)
theorem KRep.val : ∀ {kvs : List (Key × V)} {l : List (Key × D)} (k : Key), KRep K w H kvs l → (∃ v d, valV kvs k = some v ∧ valD l k = some d ∧ DRep K w H v d) ∨ (valV kvs k = none ∧ valD l k = none)
  | _, _, k, .nil => .inr ⟨rfl, rfl⟩
  | _, _, k, .cons (k := k') (v := v) (d := d) (l := l) h t => by
    by_cases e : k' = k
    · exact .inl ⟨v, d, valV_pos e, by simp [valD, List.find?_cons, e], h⟩
    · rcases KRep.val k t with ⟨v', d', e1, e2, e3⟩ | ⟨e1, e2⟩
      · exact .inl ⟨v', d', by rw [valV_neg e]; exact e1, by
          have : valD ((k', d) :: l) k = valD l k := by simp [valD, List.find?_cons, e]
          rw [this]; exact e2, e3⟩
      · exact .inr ⟨by rw [valV_neg e]; exact e1, by
          have : valD ((k', d) :: l) k = valD l k := by simp [valD, List.find?_cons, e]
          rw [this]; exact e2⟩
theorem KRep.any (k : Key) : ∀ {kvs : List (Key × V)} {l : List (Key × D)}, KRep K w H kvs l → (kvs.any fun kv => decide (kv.1 = k)) = (l.any fun kv => decide (kv.1 = k))
  | _, _, .nil => rfl
  | _, _, .cons h t => by rw [List.any_cons, List.any_cons, KRep.any k t]
theorem KRep.app : ∀ {kvs us : List (Key × V)} {l m : List (Key × D)}, KRep K w H kvs l → KRep K w H us m → KRep K w H (kvs ++ us) (l ++ m)
  | _, _, _, _, .nil, r => r
  | _, _, _, _, .cons h t, r => .cons h (KRep.app t r)
theorem KRep.mapset {k : Key} {v : V} {d : D} (r : DRep K w H v d) : ∀ {kvs : List (Key × V)} {l : List (Key × D)}, KRep K w H kvs l → KRep K w H (kvs.map (fun kv => if kv.1 = k then (kv.1, v) else kv)) (l.map (fun kv => if kv.1 = k then (kv.1, d) else kv))
  | _, _, .nil => .nil
  | _, _, .cons (k := k') h t => by
    rw [List.map_cons, List.map_cons]
    by_cases e : k' = k
    · rw [if_pos e, if_pos e]
      exact .cons r (KRep.mapset r t)
    · rw [if_neg e, if_neg e]
      exact .cons h (KRep.mapset r t)
theorem KRep.put {k : Key} {v : V} {d : D} {kvs : List (Key × V)} {l : List (Key × D)} (t : KRep K w H kvs l) (r : DRep K w H v d) : KRep K w H (putK kvs k v) (putKD l k d) := by
  unfold putK putKD
  rw [t.any k]
  split
  · exact t.mapset r
  · exact t.app (.cons r .nil)
theorem dict_cell {S : Store} {n : Nat} {l : List (Key × D)} (sr : SRep K w H S) (h : S[n]? = some (.dK l)) : ∃ a kvs, w.α n = some a ∧ H a = some (.dK kvs) ∧ KRep K w H kvs l := by
  obtain ⟨a, kvs, e1, e2, e3, e4⟩ := sr.cell n _ h
  exact ⟨a, kvs, e1, e2, .of e3 e4⟩
theorem dict_write {S : Store} {n : Nat} {a : Addr} {kvs : List (Key × V)} {l : List (Key × D)} (sr : SRep K w H S) (hα : w.α n = some a) (r : KRep K w H kvs l) : Step w H w (upd H a (.dK kvs)) ∧ SRep K w (upd H a (.dK kvs)) (S.set n (.dK l)) := by
  have st : Step w H w (upd H a (.dK kvs)) := (write_cell (o := .dK kvs) (c := .dead) sr hα trivial trivial).1
  have r2 := r.step sr.ok st
  exact write_cell (o := .dK kvs) (c := .dK l) sr hα trivial ⟨a, kvs, hα, upd_same, r2.keys, r2.vals⟩
end
section
variable {X : Cx} {W : WX} {e : Expr} {es : List Expr} {pos : Pos}
/-- d[k] -/
def gIxD : D → D → Store → R D := fun x y S => match x, keyD y with
  | .r n, some k => (match S[n]? with
    | some (.dK l) => (match valD l k with
      | some d => .ok d S
      | none => .stuck)
    | _ => .stuck)
  | _, _ => .stuck
theorem se_dget {a b : Expr} {fa fb : FE} {k : Nat} (hr : Room k X.A) (ha : SE X W a fa) (hb : SE X W b fb) (hs : NoSl b := by intro _ _; rfl) : SE X W (.Subscript a b pos) (c2 gIxD fa fb) :=
  (pe_dget (by have := hr.units; omega) ha hb hs).imp fun σ H Q ⟨w, ρ, S, a, h⟩ => tE_of a (oR_bind a.ok h) fun w1 H1 S1 d v st a1 h1 r => tE_of a1 (oR_bind a1.ok h1) fun w2 H2 S2 d2 v2 st2 a2 h2 r2 => by
    have r' := r.step a1.ok st2
    unfold gIxD at h2
    split at h2
    · rename_i n k hk
      split at h2
      · rename_i l hS
        split at h2
        · rename_i d hd
          obtain ⟨ad, kvs, e1, e2, kr⟩ := dict_cell a2.st hS
          obtain rfl := key_rep r2 hk
          rcases kr.val k with ⟨u, d', f1, f2, f3⟩ | ⟨_, f2⟩
          · rw [hd] at f2
            cases f2
            exact ⟨ad, u, r'.2 ad e1, f1 ▸ DGet.k e2, oE_ok a2.st h2 f3⟩
          · rw [hd] at f2; cases f2
        · exact h2.elim
      · exact h2.elim
    · exact h2.elim
/-- d[k] = v -/
def sDPutD (fo fi fv : FE) : FC := fun ρ S => (fv ρ S).toS ρ fun d S1 => (fo ρ S1).toS ρ fun o S2 => (fi ρ S2).toS ρ fun i S3 => match o, keyD i with
  | .r n, some k => (match S3[n]? with
    | some (.dK l) => if l.length < 1000000 then .nx ρ (S3.set n (.dK (putKD l k d))) else .stuck
    | _ => .stuck)
  | _, _ => .stuck
theorem ss_dput {o i value : Expr} {fo fi fv : FE} {tpos : Pos} {k : Nat} (hr : Room k X.A) (ho : SE X W o fo) (hi : SE X W i fi) (hv : SE X W value fv) (hs : swapsWith value (some (.Subscript o i tpos)) pos.line X.env = pure false := by rfl) :
    SS X W (.Assign [.Subscript o i tpos] value pos) (sDPutD fo fi fv) :=
  (ps_dput (by have := hr.units; omega) ho hi hv hs).imp fun D0 σ H ⟨w, ρ, S, a, h⟩ => tS_tE a h fun w1 H1 S1 d v st a1 r h1 => tS_tE a1 h1 fun w2 H2 S2 od ov st2 a2 r2 h2 => tS_tE a2 h2 fun w3 H3 S3 id iv st3 a3 r3 h3 => by
    split at h3
    · rename_i n k hk
      split at h3
      · rename_i l hS
        split at h3
        · rename_i hl
          obtain ⟨ad, kvs, e1, e2, kr⟩ := dict_cell a3.st hS
          obtain rfl := key_rep r3 hk
          have r2' := r2.step a2.ok st3
          have rd := (r.step a1.ok st2).step a2.ok st3
          obtain ⟨st4, sr4⟩ := dict_write a3.st e1 (kr.put (k := k) rd)
          refine ⟨ad, _, r2'.2 ad e1, DPut.k e2 (by rw [kr.len, sizeLine_eq]; omega), h3 w3 _ σ st4 sr4 (a3.sl.step a3.ok st4)⟩
        · exact h3.elim
      · exact h3.elim
    · exact h3.elim
/-- k in d -/
def gInD (neg : Bool) : D → D → Store → R D := fun x y S => match keyD x, y with
  | some k, .r n => (match S[n]? with
    | some (.dK l) => .ok (.p (.bl (if neg then !(valD l k).isSome else (valD l k).isSome))) S
    | _ => .stuck)
  | _, _ => .stuck
/-- {} -/
def fDNew : FE := fun _ S => .ok (.r S.length) (S ++ [.dK []])
theorem se_dnew : SE X W (.Dict [] [] pos) fDNew :=
  pe_dnewK.imp fun σ H Q ⟨w, ρ, S, a, h⟩ p hp => by
    have st : Step w H (w.add p) (upd H p (.dK [])) := (lay_cell (o := .dK []) (c := .dead) a.st hp trivial trivial).1
    obtain ⟨_, sr2⟩ := lay_cell (o := .dK []) (c := .dK []) a.st hp trivial ⟨p, [], add_self, upd_same, rfl, .nil⟩
    refine h _ _ st sr2 _ ?_
    rw [a.st.len]
    exact ⟨Nat.lt_succ_self _, fun b z => by rw [add_self] at z; cases z; rfl⟩
/-- {k: v} -/
def fDisp1 (fk fv : FE) : FE := fun ρ S => (fk ρ (S ++ [.dK []])).bind fun dk S1 => (fv ρ S1).bind fun dv S2 => match keyD dk, S2[S.length]? with
  | some k, some (.dK []) => .ok (.r S.length) (S2.set S.length (.dK [(k, dv)]))
  | _, _ => .stuck
theorem se_disp1 {k v : Expr} {fk fv : FE} (hk : SE X W k fk) (hv : SE X W v fv) : SE X W (.Dict [some k] [v] pos) (fDisp1 fk fv) :=
  (pe_disp (pps_cons hk hv pps_nil) rfl rfl (by simp) (by simp)).imp fun σ H Q ⟨w, ρ, S, a, h⟩ p hp => by
    have st : Step w H (w.add p) (upd H p (.dK [])) := (lay_cell (o := .dK []) (c := .dead) a.st hp trivial trivial).1
    obtain ⟨_, sr2⟩ := lay_cell (o := .dK []) (c := .dK []) a.st hp trivial ⟨p, [], add_self, upd_same, rfl, .nil⟩
    have a1 := a.to st sr2
    have h' := oR_step a.ok st h
    refine tE_of a1 (oR_bind a1.ok h') fun w1 H1 S1 dk kv st1 a2 h1 r => tE_of a2 (oR_bind a2.ok h1) fun w2 H2 S2 dv vv st2 a3 h2 r2 => ?_
    split at h2
    · rename_i kk hkk hS
      obtain rfl := key_rep r hkk
      obtain ⟨ad, kvs, e1, e2, kr⟩ := dict_cell a3.st hS
      have ed : ad = p := by
        have z := st1.old S.length ad (by rw [a.st.len]; exact Nat.lt_succ_self _) (st2.old S.length ad (Nat.lt_of_lt_of_le (by rw [a.st.len]; exact Nat.lt_succ_self _) st1.n) e1)
        rw [a.st.len, add_self] at z
        exact (Option.some.inj z).symm
      subst ed
      cases kr
      refine ⟨e2, [(kk, vv)], rfl, by simp, ?_⟩
      have em : mergeK [] [(kk, vv)] = [(kk, vv)] := rfl
      rw [em]
      obtain ⟨st4, sr4⟩ := dict_write a3.st e1 (.cons (k := kk) r2 .nil)
      refine h2 w2 _ st4 sr4 (.ref ad) ⟨?_, fun b z => ?_⟩
      · have := st1.n
        have := st2.n
        have : S.length < (w.add ad).N := by rw [a.st.len]; exact Nat.lt_succ_self _
        omega
      · rw [e1] at z; cases z; rfl
    · exact h2.elim
end
end FR

set_option Elab.async false
set_option linter.all false
set_option maxRecDepth 100000
set_option maxHeartbeats 1000000
namespace FR
open PySem PySem.Spec PyProof.Rows L2
/-! a comprehension over the keys of a dict that is a cell: the dict is locked while it is walked -/
/-- does not speak of cell n -/
def noRD (n : Nat) : D → Bool
  | .p _ => true
  | .r m => decide (m ≠ n)
def Cell.noR (n : Nat) : Cell → Bool
  | .dead => true
  | .lst l => l.all (noRD n)
  | .ins _ gs => gs.all fun x => noRD n x.2
  | .dK l => l.all fun x => noRD n x.2
section
variable {K : PySem.W.Frag} {L L' : Addr → Prop} {H H' : Hp} {d : Addr} {od : Obj} {kvs : List (Key × V)}
structure Swap (L L' : Addr → Prop) (H H' : Hp) (d : Addr) (od : Obj) (kvs : List (Key × V)) : Prop where
  at_ : H d = some (.frz od (.dK kvs))
  ne : ∀ a, a ≠ d → H' a = H a
  l : ∀ a, L' a → a = d ∨ L a
theorem Swap.sqT (s : Swap L L' H H' d od kvs) {a : Addr} {vs : List V} (h : SqT K H a vs) : SqT K H' a vs := by
  rcases h with (h | ⟨o, h⟩) | h
  · have hn : a ≠ d := fun e => by rw [e, s.at_] at h; cases h
    exact .inl (.inl (by rw [s.ne a hn]; exact h))
  · have hn : a ≠ d := fun e => by rw [e, s.at_] at h; cases h
    exact .inl (.inr ⟨o, by rw [s.ne a hn]; exact h⟩)
  · exact .inr h
theorem Swap.lst (s : Swap L L' H H' d od kvs) {a : Addr} {vs : List V} (h : LstAt L H a vs) : LstAt L' H' a vs := by
  rcases h with ⟨h, hl⟩ | ⟨o, h⟩
  · have hn : a ≠ d := fun e => by rw [e, s.at_] at h; cases h
    exact .inl ⟨by rw [s.ne a hn]; exact h, fun z => (s.l a z).elim hn hl⟩
  · have hn : a ≠ d := fun e => by rw [e, s.at_] at h; cases h
    exact .inr ⟨o, by rw [s.ne a hn]; exact h⟩
mutual
theorem Rep.swap (s : Swap L L' H H' d od kvs) : ∀ {v : V} {p : P}, Rep K L H v p → Rep K L' H' v p
  | _, _, .non => .non
  | _, _, .bl b => .bl b
  | _, _, .int b => .int b
  | _, _, .str b => .str b
  | _, _, .ty b => .ty b
  | _, _, .nm b => .nm b
  | _, _, .tup h r => .tup (s.sqT h) (Reps.swap s r)
  | _, _, .lst h r => .lst (s.lst h) (Reps.swap s r)
  | _, _, .scr h r => .scr (h.imp s.lst id) (Reps.swap s r)
  | _, _, .obj (a := a) h hl r => by
    have hn : a ≠ d := fun e => by rw [e, s.at_] at h; cases h
    exact .obj (by rw [s.ne a hn]; exact h) (fun z => (s.l a z).elim hn hl) (RepF.swap s r)
theorem Reps.swap (s : Swap L L' H H' d od kvs) : ∀ {vs : List V} {l : List P}, Reps K L H vs l → Reps K L' H' vs l
  | _, _, .nil => .nil
  | _, _, .cons h t => .cons (Rep.swap s h) (Reps.swap s t)
theorem RepF.swap (s : Swap L L' H H' d od kvs) : ∀ {fs : List (Str × V)} {gs : List (Fld × P)}, RepF K L H fs gs → RepF K L' H' fs gs
  | _, _, .nil => .nil
  | _, _, .cons h t => .cons (Rep.swap s h) (RepF.swap s t)
end
end
section
variable {K : PySem.W.Frag} {w w2 : Wd} {H H2 : Hp} {S S2 : Store} {n : Nat} {d : Addr} {od : Obj} {kvs : List (Key × V)} {l : List (Key × D)}
/-- the dict's cell put away -/
def Wd.off (w : Wd) (n : Nat) (d : Addr) : Wd := ⟨fun m => if m = n then none else w.α m, fun a => w.L a ∧ a ≠ d, w.N⟩
/-- .. and back -/
def Wd.on (w : Wd) (n : Nat) (d : Addr) : Wd := ⟨fun m => if m = n then some d else w.α m, fun a => a = d ∨ w.L a, w.N⟩
theorem off_at {m : Nat} {a : Addr} (e : (w.off n d).α m = some a) : m ≠ n ∧ w.α m = some a := by
  have e' : (if m = n then none else w.α m) = some a := e
  by_cases q : m = n
  · rw [if_pos q] at e'; cases e'
  · rw [if_neg q] at e'; exact ⟨q, e'⟩
theorem on_at {m : Nat} {a : Addr} (e : (w.on n d).α m = some a) : (m = n ∧ a = d) ∨ (m ≠ n ∧ w.α m = some a) := by
  have e' : (if m = n then some d else w.α m) = some a := e
  by_cases q : m = n
  · rw [if_pos q] at e'; cases e'; exact .inl ⟨q, rfl⟩
  · rw [if_neg q] at e'; exact .inr ⟨q, e'⟩
theorem lock_ok (sr : SRep K w H S) (e1 : w.α n = some d) (e2 : H d = some (.dK kvs)) (hn : n < S.length) : Step w H (w.off n d) (upd H d (.frz od (.dK kvs))) ∧ SRep K (w.off n d) (upd H d (.frz od (.dK kvs))) (S.set n .dead) := by
  have ne : ∀ a o, H a = some o → (∀ m, w.α m ≠ some a) → a ≠ d := fun a o _ hm e => hm n (by rw [e]; exact e1)
  have st : Step w H (w.off n d) (upd H d (.frz od (.dK kvs))) := by
    refine ⟨Nat.le_refl _, fun m a _ e => (off_at e).2, fun m a hm e => absurd (sr.ok.lt m a (off_at e).2) (Nat.not_lt.mpr hm), fun a o e hm => ?_, fun a e => ?_, fun a e => .inl e.1, fun a e => ?_, fun a vs e => ?_, fun a o u e => ?_⟩
    · rw [upd_ne (ne a o e hm)]; exact e
    · by_cases q : a = d
      · rw [q, upd_same]; simp
      · rw [upd_ne q]; exact e
    · by_cases q : a = d
      · exact .inr ⟨n, by rw [q]; exact e1⟩
      · exact .inl ⟨e, q⟩
    · have q : a ≠ d := fun z => by rw [z, e2] at e; cases e
      rw [upd_ne q]; exact e
    · have q : a ≠ d := fun z => by rw [z, e2] at e; cases e
      rw [upd_ne q]; exact e
  refine ⟨st, ⟨⟨fun m a e => sr.ok.lt m a (off_at e).2, fun m a e => ⟨sr.ok.live m a (off_at e).2, fun z => ?_⟩, fun a e => ?_, fun m m' a e e' => sr.ok.inj m m' a (off_at e).2 (off_at e').2⟩, by rw [List.length_set]; exact sr.len, fun m c e => ?_⟩⟩
  · rw [z] at e
    exact (off_at e).1 (sr.ok.inj m n d (off_at e).2 e1)
  · show Mut (upd H d (.frz od (.dK kvs)) a)
    rw [upd_ne e.2]
    exact sr.ok.mu a e.1
  · by_cases q : m = n
    · subst q
      rw [List.getElem?_set_self hn] at e
      cases e
      trivial
    · rw [List.getElem?_set_ne (Ne.symm q)] at e
      refine (sr.cell m c e).step sr.ok st (fun a z => ?_) fun a z => ?_
      · show (if m = n then none else w.α m) = some a
        rw [if_neg q]; exact z
      · exact upd_ne fun z2 => q (sr.ok.inj m n d (by rw [← z2]; exact z) e1)
theorem unlock_ok (sr : SRep K w H S) (e1 : w.α n = some d) (e2 : H d = some (.dK kvs)) (kr : KRep K w H kvs l) (hn : n < S.length)
    (st : Step (w.off n d) (upd H d (.frz od (.dK kvs))) w2 H2) (sr2 : SRep K w2 H2 S2) (hno : S2.all (Cell.noR n) = true) :
    H2 d = some (.frz od (.dK kvs)) ∧ Step w H (w2.on n d) (upd H2 d (.dK kvs)) ∧ SRep K (w2.on n d) (upd H2 d (.dK kvs)) (S2.set n (.dK l)) ∧ ∀ v q, DRep K w2 H2 v (.p q) → DRep K (w2.on n d) (upd H2 d (.dK kvs)) v (.p q) := by
  have hd : H2 d = some (.frz od (.dK kvs)) := st.frzs d od (.dK kvs) upd_same
  have hN : n < w.N := sr.ok.lt n d e1
  have nd : ∀ m, w2.α m ≠ some d := fun m e => by
    have := sr2.ok.mu d (sr2.ok.live m d e)
    rw [hd] at this
    exact this
  have nL : ¬ w2.L d := fun e => by
    have := sr2.ok.mu d e
    rw [hd] at this
    exact this
  have h1 : ∀ a, a ≠ d → upd H d (.frz od (.dK kvs)) a = H a := fun a q => upd_ne q
  have h3 : ∀ a, a ≠ d → upd H2 d (.dK kvs) a = H2 a := fun a q => upd_ne q
  have sw : Swap w2.L (w2.on n d).L H2 (upd H2 d (.dK kvs)) d od kvs := ⟨hd, h3, fun a e => e⟩
  have stF : Step w H (w2.on n d) (upd H2 d (.dK kvs)) := by
    refine ⟨st.n, fun m a hm e => ?_, fun m a hm e => ?_, fun a o e hm => ?_, fun a e => ?_, fun a e => ?_, fun a e => ?_, fun a vs e => ?_, fun a o u e => ?_⟩
    · rcases on_at e with ⟨rfl, rfl⟩ | ⟨_, e⟩
      · exact e1
      · exact (off_at (st.old m a hm e)).2
    · rcases on_at e with ⟨rfl, rfl⟩ | ⟨_, e⟩
      · exact absurd hN (Nat.not_lt.mpr hm)
      · have := st.new m a hm e
        have q : a ≠ d := fun z => by rw [z, upd_same] at this; cases this
        rw [h1 a q] at this
        exact this
    · have q : a ≠ d := fun z => hm n (by rw [z]; exact e1)
      rw [h3 a q]
      exact st.kept a o (by rw [h1 a q]; exact e) fun m z => hm m (off_at z).2
    · by_cases q : a = d
      · rw [q, upd_same]; simp
      · rw [h3 a q]
        exact st.there a (by rw [h1 a q]; exact e)
    · rcases e with e | e
      · exact .inl (by rw [e]; exact sr.ok.live n d e1)
      · rcases st.l1 a e with z | z
        · exact .inl z.1
        · refine .inr ?_
          have q : a ≠ d := fun z2 => by rw [z2, upd_same] at z; cases z
          rw [h1 a q] at z
          exact z
    · by_cases q : a = d
      · exact .inl (.inl q)
      · rcases st.l2 a ⟨e, q⟩ with z | ⟨m, z⟩
        · exact .inl (.inr z)
        · exact .inr ⟨m, (off_at z).2⟩
    · have q : a ≠ d := fun z => by rw [z, e2] at e; cases e
      rw [h3 a q]
      exact st.tups a vs (by rw [h1 a q]; exact e)
    · have q : a ≠ d := fun z => by rw [z, e2] at e; cases e
      rw [h3 a q]
      exact st.frzs a o u (by rw [h1 a q]; exact e)
  have kr3 := kr.step sr.ok stF
  have hn2 : n < S2.length := by rw [sr2.len]; exact Nat.lt_of_lt_of_le hN st.n
  have dsw : ∀ v x, noRD n x = true → DRep K w2 H2 v x → DRep K (w2.on n d) (upd H2 d (.dK kvs)) v x := fun v x hx r => by
    cases x with
    | p q => exact Rep.swap sw r
    | r m =>
      have hm : m ≠ n := of_decide_eq_true hx
      refine ⟨r.1, fun a e => ?_⟩
      rcases on_at e with ⟨rfl, _⟩ | ⟨_, e⟩
      · exact absurd rfl hm
      · exact r.2 a e
  have dsws : ∀ (vs : List V) (xs : List D), xs.all (noRD n) = true → DReps K w2 H2 vs xs → DReps K (w2.on n d) (upd H2 d (.dK kvs)) vs xs := by
    intro vs xs hx r
    induction r with
    | nil => exact .nil
    | cons h t ih =>
      obtain ⟨z1, z2⟩ := Bool.and_eq_true_iff.mp hx
      exact .cons (dsw _ _ z1 h) (ih z2)
  have dswf : ∀ (fs : List (Str × V)) (gs : List (Fld × D)), (gs.all fun x => noRD n x.2) = true → DRepF K w2 H2 fs gs → DRepF K (w2.on n d) (upd H2 d (.dK kvs)) fs gs := by
    intro vs xs hx r
    induction r with
    | nil => exact .nil
    | cons h t ih =>
      obtain ⟨z1, z2⟩ := Bool.and_eq_true_iff.mp hx
      exact .cons (dsw _ _ z1 h) (ih z2)
  refine ⟨hd, stF, ⟨⟨fun m a e => ?_, fun m a e => ?_, fun a e => ?_, fun m m' a e e' => ?_⟩, by rw [List.length_set]; exact sr2.len, fun m c e => ?_⟩, fun v q r => dsw v (.p q) rfl r⟩
  · rcases on_at e with ⟨rfl, rfl⟩ | ⟨_, e⟩
    · exact Nat.lt_of_lt_of_le hN st.n
    · exact sr2.ok.lt m a e
  · rcases on_at e with ⟨rfl, rfl⟩ | ⟨_, e⟩
    · exact .inl rfl
    · exact .inr (sr2.ok.live m a e)
  · rcases e with e | e
    · rw [e, upd_same]; trivial
    · have q : a ≠ d := fun z => nL (by rw [← z]; exact e)
      rw [h3 a q]
      exact sr2.ok.mu a e
  · rcases on_at e with ⟨z1, rfl⟩ | ⟨z1, z⟩
    · rcases on_at e' with ⟨z2, _⟩ | ⟨_, y⟩
      · rw [z1, z2]
      · exact absurd y (nd m')
    · rcases on_at e' with ⟨z2, y⟩ | ⟨z2, y⟩
      · rw [y] at z; exact absurd z (nd m)
      · exact sr2.ok.inj m m' a z y
  · by_cases q : m = n
    · subst q
      rw [List.getElem?_set_self hn2] at e
      cases e
      exact ⟨d, kvs, by show (if m = m then some d else w2.α m) = some d; rw [if_pos rfl], upd_same, kr3.keys, kr3.vals⟩
    · rw [List.getElem?_set_ne (Ne.symm q)] at e
      have hb := List.all_eq_true.mp hno c (List.mem_of_getElem? e)
      have hα : ∀ a, w2.α m = some a → (w2.on n d).α m = some a := fun a z => by
        show (if m = n then some d else w2.α m) = some a
        rw [if_neg q]; exact z
      have hc := sr2.cell m c e
      cases c with
      | dead => trivial
      | lst xs =>
        obtain ⟨a, vs, g1, g2, g3⟩ := hc
        exact ⟨a, vs, hα a g1, by rw [h3 a fun z => nd m (by rw [← z]; exact g1)]; exact g2, dsws _ _ hb g3⟩
      | ins c gs =>
        obtain ⟨a, dx, fs, g1, g2, g3⟩ := hc
        exact ⟨a, dx, fs, hα a g1, by rw [h3 a fun z => nd m (by rw [← z]; exact g1)]; exact g2, dswf _ _ hb g3⟩
      | dK xs =>
        obtain ⟨a, us, g1, g2, g4, g3⟩ := hc
        exact ⟨a, us, hα a g1, by rw [h3 a fun z => nd m (by rw [← z]; exact g1)]; exact g2, g4, dsws _ _ (by rw [List.all_map]; exact hb) g3⟩
end
theorem lcD_noexc (o : Option (Nat × List D)) (n0 : Nat) (g : FGp) (t : FT) (f : FE) (ρ0 : Env) (x : Exc) (Sf : Store) : ∀ (items : List D) (S0 : Store), lcD o n0 g t f ρ0 items S0 ≠ .exc x Sf := by
  intro items
  induction items with
  | nil => intro S0; unfold lcD; split <;> simp
  | cons d ds ih =>
    intro S0
    unfold lcD
    split
    · split
      · simp
      · split
        · split
          · split
            · split
              · exact ih _
              · simp
            · simp
          · simp
        · exact ih _
        · simp
    · simp
section
variable {X : Cx} {W : WX} {e : Expr} {es : List Expr} {pos : Pos}
def keysOf (l : List (Key × D)) : List D := l.map fun kv => .p (kyP kv.1)
def kLcK (n : Nat) (l : List (Key × D)) : D → Store → R D := fun v S2 => match v with
  | .p q => if S2.all (Cell.noR n) = true then .ok (.p q) (S2.set n (.dK l)) else .stuck
  | .r _ => .stuck
noncomputable def fLcK (i : Nat) (g : FGp) (t : FT) (f : FE) (own : List Nat) : FE := fun ρ S => match ρ[i]? with
  | some (some (.r n)) => (match S[n]? with
    | some (.dK l) => (fLc (fun _ S' => .ok (keysOf l, none) S') g t f own ρ (S.set n .dead)).bind (kLcK n l)
    | _ => .stuck)
  | _ => .stuck
theorem keys_it {K : PySem.W.Frag} {w : Wd} {H : Hp} {d : Addr} {od : Obj} {kvs : List (Key × V)} {l : List (Key × D)} (hd : H d = some (.frz od (.dK kvs))) (hk : kvs.map (·.1) = l.map (·.1)) : ItOk K (Itk d od kvs) w H (chk none) (keysOf l) := by
  have hl : kvs.length = l.length := by have := congrArg List.length hk; rwa [List.length_map, List.length_map] at this
  intro w' H' S st sr _ i
  have hd' := st.frzs d od (.dK kvs) hd
  refine ⟨fun hle => ⟨hd', by unfold keysOf at hle; rw [List.length_map] at hle; omega⟩, fun x hx => ?_⟩
  unfold keysOf at hx
  rw [List.getElem?_map] at hx
  cases e : l[i]? with
  | none => rw [e] at hx; cases hx
  | some kv =>
    rw [e] at hx
    cases hx
    have hi : i < l.length := (List.getElem?_eq_some_iff.mp e).1
    refine ⟨⟨hd', by omega⟩, fun y H'' hy => ?_⟩
    obtain ⟨rfl, k, v, hkv, rfl⟩ := hy
    refine ⟨Step.refl _ _ sr.ok, sr, ?_⟩
    have e1 : (kvs.map (·.1))[i]? = some k := by rw [List.getElem?_map, hkv]; rfl
    rw [hk, List.getElem?_map, e] at e1
    have : kv.1 = k := Option.some.inj e1
    show Rep K w'.L H'' (kV k) (kyP kv.1)
    rw [this]
    exact kyP_rep _ k
theorem se_lcK {elt tg : Expr} {ifs : List Expr} {scope : Scope} {own : List (Str × Nat)} {t : TG} {g : FGp} {ft : FT} {f : FE} {o1 : List Nat} {i : Nat} {x : Str} {np : Pos} (hc : X.calm = true) (hN : X.N.Nodup) (hi : X.N[i]? = some x) (hv : Vis X.env.scope x) (ok : BlkOk X.N X.env.scope scope own)
    (hg : ∀ (s : Shared) (H : Hp) (C : Addr) (cl : List (Str × Addr)) (fp : List Addr), PG (X.blk s H scope (compEnvC scope cl C X.env) fp) tg t) (hok : TgOk X.K t g o1) (ho : ∀ i ∈ o1, i ∈ own.map (·.2))
    (ht : ∀ (s : Shared) (H : Hp) (C : Addr) (cl : List (Str × Addr)) (fp : List Addr), STs (X.blk s H scope (compEnvC scope cl C X.env) fp) W0 ifs ft)
    (he : ∀ (s : Shared) (H : Hp) (C : Addr) (cl : List (Str × Addr)) (fp : List Addr), SE (X.blk s H scope (compEnvC scope cl C X.env) fp) W0 elt f)
    (hd : (x == ("__debug__" : Str)) = false := by decide) (hcd : (x == ("__classdict__" : Str)) = false := by decide) (hs : ∀ y, foldedSetIterable (.Name x np) X.env y = pure y := by intro _; rfl) :
    SE X W (.ListComp elt [⟨tg, .Name x np, ifs, 0⟩] scope pos) (fLcK i g ft f (own.map (·.2))) :=
  (pe_lock (pe_lc hc hN (pi_keys (pe_var hi hv hd hcd)) ok hg ht he hs)).imp fun σ H Q ⟨w, ρ, S, a, h⟩ => by
    unfold fLcK at h
    split at h
    · rename_i n hρ
      split at h
      · rename_i l hS
        obtain ⟨v0, hv0, r0⟩ := a.sl.get hρ
        obtain ⟨ad, kvs, e1, e2, kr⟩ := dict_cell a.st hS
        have ev : v0 = .ref ad := r0.2 ad e1
        subst ev
        have hn : n < S.length := (List.getElem?_eq_some_iff.mp hS).1
        refine ⟨ad, .dK kvs, e2, trivial, fun od => ?_⟩
        obtain ⟨st1, sr1⟩ := lock_ok (od := od) a.st e1 e2 hn
        have a1 : At X.K (w.off n ad) σ (upd H ad (.frz od (.dK kvs))) ρ (S.set n .dead) := ⟨sr1, a.sl.step a.ok st1⟩
        have key : tE X.K W (fLc (fun _ S' => .ok (keysOf l, none) S') g ft f (own.map (·.2))) σ (upd H ad (.frz od (.dK kvs))) fun v H' => H' ad = some (.frz od (.dK kvs)) ∧ Q v (upd H' ad (.dK kvs)) := by
          refine ⟨_, ρ, _, a1, ?_⟩
          revert h
          cases q : fLc (fun _ S' => .ok (keysOf l, none) S') g ft f (own.map (·.2)) ρ (S.set n .dead) with
          | stuck => exact fun h => h.elim
          | exc y Sf =>
            exfalso
            unfold fLc at q
            rw [R.bind_ok] at q
            revert q
            cases q2 : lcD none (S.set n .dead).length g ft f (wipeD ρ (own.map (·.2))) (keysOf l) (S.set n .dead ++ [.lst []]) with
            | exc y2 S2 => exact absurd q2 (lcD_noexc _ _ _ _ _ _ _ _ _ _)
            | stuck => intro q; cases q
            | ok u S2 =>
              intro q
              have q : lcEnd (S.set n .dead).length u S2 = .exc y Sf := q
              unfold lcEnd at q
              split at q
              · split at q
                · split at q <;> cases q
                · cases q
              · cases q
          | ok vd S2 =>
            intro h
            have h : oR X.K W σ w H (qE X.K Q) (kLcK n l vd S2) := h
            cases vd with
            | r m => exact h.elim
            | p q0 =>
              unfold kLcK at h
              dsimp only at h
              split at h
              · rename_i hno
                intro w2 H2 st2 sr2 v' dr
                obtain ⟨g1, g2, g3, g4⟩ := unlock_ok a.st e1 e2 kr hn st2 sr2 hno
                exact ⟨g1, h _ _ g2 g3 v' (g4 v' q0 dr)⟩
              · exact h.elim
        have lc := imp_lc (W := W) hok ho σ _ _ key
        have hd1 : (upd H ad (.frz od (.dK kvs))) ad = some (.frz od (.dK kvs)) := upd_same
        have mono : ∀ R, tI X.K W (fun _ S' => .ok (keysOf l, none) S') σ (upd H ad (.frz od (.dK kvs))) R → iKeys (tVar i) σ (upd H ad (.frz od (.dK kvs))) R := by
          rintro R ⟨w3, ρ3, S3, a3, h3⟩
          refine ⟨.ref ad, hv0, ad, od, rfl, .inl ⟨kvs, hd1, ?_⟩⟩
          exact h3 w3 _ (Step.refl _ _ a3.ok) a3.st _ (keys_it hd1 kr.keys)
        exact mono _ lc
      · exact h.elim
    · exact h.elim
end
end FR

set_option Elab.async false
set_option linter.all false
set_option maxRecDepth 100000
set_option maxHeartbeats 1000000
namespace FR
open PySem PySem.Spec PyProof.Rows L2
section
variable {X : Cx} {W : WX} {e : Expr} {es : List Expr} {pos : Pos}
/-! k in d, sorted(ints) -/
theorem o_inD {k : Nat} (hr : Room k X.A) : OpF X W (compareOp .In) (gInD false) := by
  intro pins s σ H w ρ S x y dx dy v u Q I a r1 r2 rx ry q
  unfold gInD at q
  split at q
  · rename_i k n hk
    split at q
    · rename_i l hS
      obtain ⟨ad, kvs, e1, e2, kr⟩ := dict_cell a.st hS
      obtain rfl := key_rep r1 hk
      obtain rfl : y = .ref ad := r2.2 ad e1
      obtain rfl : u = Value.ref ad := ry
      refine d_in (by have := hr.units; omega) I (DGet.k e2) rx fun s3 I3 => ⟨.bl (valV kvs k).isSome, H, I3, rfl, ?_⟩
      have : (valV kvs k).isSome = (valD l k).isSome := by
        rcases kr.val k with ⟨u, d', f1, f2, f3⟩ | ⟨f1, f2⟩ <;> rw [f1, f2] <;> rfl
      rw [this]
      exact oE_ok a.st q (.bl _)
    · exact q.elim
  · exact q.elim
theorem o_notInD {k : Nat} (hr : Room k X.A) : OpF X W (compareOp .NotIn) (gInD true) := by
  intro pins s σ H w ρ S x y dx dy v u Q I a r1 r2 rx ry q
  unfold gInD at q
  split at q
  · rename_i k n hk
    split at q
    · rename_i l hS
      obtain ⟨ad, kvs, e1, e2, kr⟩ := dict_cell a.st hS
      obtain rfl := key_rep r1 hk
      obtain rfl : y = .ref ad := r2.2 ad e1
      obtain rfl : u = Value.ref ad := ry
      refine d_notIn (by have := hr.units; omega) I (DGet.k e2) rx fun s3 I3 => ⟨.bl (!(valV kvs k).isSome), H, I3, rfl, ?_⟩
      have : (valV kvs k).isSome = (valD l k).isSome := by
        rcases kr.val k with ⟨u, d', f1, f2, f3⟩ | ⟨f1, f2⟩ <;> rw [f1, f2] <;> rfl
      rw [this]
      exact oE_ok a.st q (.bl _)
    · exact q.elim
  · exact q.elim
def sortI (l : List Int) : List Int := l.mergeSort fun a b => decide (a ≤ b)
theorem sortI_perm (l : List Int) : (sortI l).Perm l := List.mergeSort_perm l _
theorem sortI_ord (l : List Int) : (sortI l).Pairwise (· ≤ ·) := by
  have := List.pairwise_mergeSort (le := fun a b : Int => decide (a ≤ b)) (fun a b c h1 h2 => by simp at *; omega) (fun a b => by simp; omega) l
  exact this.imp fun h => by simpa using h
theorem sortI_uniq {l l' : List Int} (hp : l'.Perm l) (ho : l'.Pairwise (· ≤ ·)) : l' = sortI l :=
  List.Perm.eq_of_pairwise (fun a b _ _ h1 h2 => Int.le_antisymm h1 h2) ho (sortI_ord l) (hp.trans (sortI_perm l).symm)
def gSortI : List D → Store → R D := fun ds S => match ds with
  | [d] => (match (itemsOf S d).bind asInts with
    | some k => .ok (.p (.lst ((sortI k).map .int))) S
    | none => .stuck)
  | _ => .stuck
theorem ints_reps {K : PySem.W.Frag} {L : Addr → Prop} {H : Hp} : ∀ l : List Int, Reps K L H (l.map V.int) (l.map P.int)
  | [] => .nil
  | i :: l => .cons (.int i) (ints_reps l)
theorem r_sortI (σ : L2.St) (H : Hp) (w : Wd) (ρ : Env) (S : Store) (vs : List V) (ds : List D) (Q : VK) (a : At X.K w σ H ρ S) (r : DReps X.K w H vs ds) (h : oR X.K W σ w H (qE X.K Q) (gSortI ds S)) : rSortedI X.K vs H Q := by
  unfold gSortI at h
  split at h
  · rename_i d
    cases e : itemsOf S d with
    | none => rw [e] at h; exact h.elim
    | some l =>
      rw [e] at h
      have h : oR X.K W σ w H (qE X.K Q) (match asInts l with
        | some k => .ok (.p (.lst ((sortI k).map .int))) S
        | none => .stuck) := h
      cases e2 : asInts l with
      | none => rw [e2] at h; exact h.elim
      | some k =>
        rw [e2] at h
        obtain ⟨v, rfl, hv⟩ := reps_one r
        obtain ⟨ad, us, rfl, rr, sq, _⟩ := items_rep a.st hv e
        have := asInts_reps rr e2
        subst this
        refine ⟨ad, k, rfl, sq, fun ns' p hp ho hH => ?_⟩
        rw [sortI_uniq hp ho]
        obtain ⟨st, sr, dr⟩ := lay_lst a.st hH (ints_reps (sortI k))
        exact h _ _ st sr _ dr
  · exact h.elim
theorem bo_any : bootBuiltins "any" = some (.builtin "any") := by decide +kernel
theorem bo_sorted : bootBuiltins "sorted" = some (.builtin "sorted") := by decide +kernel
end
end FR

set_option Elab.async false
set_option linter.all false
set_option maxRecDepth 100000
set_option maxHeartbeats 1000000
namespace FR
open PySem PySem.Spec PyProof.Rows L2
section
variable {X : Cx} {W : WX} {e : Expr} {es : List Expr} {pos : Pos}
/-! list(range(a, b)) -/
def rgP (i j : Int) : List P := (List.range (j - i).toNat).map fun k => .int (i + (k : Nat))
def rgIn (i j : Int) : Prop := -(2 ^ 62) ≤ i ∧ i < 2 ^ 62 ∧ -(2 ^ 62) ≤ j ∧ j < 2 ^ 62 ∧ (j - i).toNat ≤ 1000000
instance (i j : Int) : Decidable (rgIn i j) := by unfold rgIn; infer_instance
def gLR (cell : Bool) : D → D → Store → R D := fun x y S => match x, y with
  | .p (.int i), .p (.int j) => if rgIn i j then (if cell then .ok (.r S.length) (S ++ [.lst ((rgP i j).map .p)]) else .ok (.p (.lst (rgP i j))) S) else .stuck
  | _, _ => .stuck
theorem rg_reps {K : PySem.W.Frag} {L : Addr → Prop} {H : Hp} (i : Int) : ∀ ks : List Nat, Reps K L H (ks.map fun k => V.int (i + (k : Nat))) (ks.map fun k => P.int (i + (k : Nat)))
  | [] => .nil
  | _ :: ks => .cons (.int _) (rg_reps i ks)
theorem se_lstRg {a b : Expr} {fa fb : FE} {p p2 pos2 : Pos} (cell : Bool) (hc : X.calm = true) (hm : X.mg "list" = none) (hm2 : X.mg "range" = none) (ha : SE X W a fa) (hb : SE X W b fb) (hg : Gl X "list" := by rfl) (hg2 : Gl X "range" := by rfl)
    (hs : starEach [a, b] X.env = (false, eval a X.env) :: starEach [b] X.env := by rfl) (hs1 : starEach [b] X.env = (false, eval b X.env) :: starEach [] X.env := by rfl) (hp : (backTo pos2 (starEach [b] X.env)).any (·.1) = false := by rfl)
    (na : starEach [.Call (.Name "range" p2) [a, b] [] pos2] X.env = (false, eval (.Call (.Name "range" p2) [a, b] [] pos2) X.env) :: starEach [] X.env := by rfl) :
    SE X W (.Call (.Name "list" p) [.Call (.Name "range" p2) [a, b] [] pos2] [] pos) (c2 (gLR cell) fa fb) :=
  (pe_listRg hc hg hm (prg_2 hg2 hm2 ha hb hs hs1 hp) na).imp fun σ H Q ⟨w, ρ, S, a0, h⟩ => tE_of a0 (oR_bind a0.ok h) fun w1 H1 S1 d v st a1 h1 r => tE_of a1 (oR_bind a1.ok h1) fun w2 H2 S2 d2 v2 st2 a2 h2 r2 => by
    have r' := r.step a1.ok st2
    unfold gLR at h2
    split at h2
    · rename_i i j
      obtain rfl := rep_int r'
      obtain rfl := rep_int r2
      split at h2
      · rename_i hr
        obtain ⟨g1, g2, g3, g4, g5⟩ := hr
        refine ⟨i, j, rfl, rfl, ⟨g1, g2, g3, g4, by omega⟩, fun q hq => ?_⟩
        split at h2
        · obtain ⟨st3, sr3, dr3⟩ := lay_lstR a2.st hq (Reps.ds (w := w2) (rg_reps i (List.range (j - i).toNat)))
          exact h2 _ _ st3 sr3 _ dr3
        · obtain ⟨st3, sr3, dr3⟩ := lay_lst a2.st hq (rg_reps i (List.range (j - i).toNat))
          exact h2 _ _ st3 sr3 _ dr3
      · exact h2.elim
    · exact h2.elim
end
end FR

set_option Elab.async false
set_option linter.all false
set_option maxRecDepth 100000
set_option maxHeartbeats 1000000
namespace FR
open PySem PySem.Spec PyProof.Rows L2
/-! ### readings run, step by step: rows for simp -/
section
variable {α : Type} (ρ : Env) (S : Store)
def K2 (g : D → D → Store → R D) (fb : FE) (ρ : Env) (x : D) (S1 : Store) : R D := (fb ρ S1).bind (g x)
def KC (g : FA) (ρ : Env) (d : D) (S1 : Store) : R (List D) := (g ρ S1).bind fun l S2 => .ok (d :: l) S2
def kB (d : D) (S1 : Store) : R Bool := match d with
  | .p (.bl b) => .ok b S1
  | _ => .stuck
def kAnd (g : FT) (ρ : Env) (b : Bool) (S1 : Store) : R Bool := if b = true then g ρ S1 else .ok false S1
def kOr (g : FT) (ρ : Env) (b : Bool) (S1 : Store) : R Bool := if b = true then .ok true S1 else g ρ S1
def kAndV (g : FE) (ρ : Env) (d : D) (S1 : Store) : R D := match d with
  | .p (.bl true) => g ρ S1
  | .p (.bl false) => .ok (.p (.bl false)) S1
  | _ => .stuck
def kOrV (g : FE) (ρ : Env) (d : D) (S1 : Store) : R D := match d with
  | .p (.bl true) => .ok (.p (.bl true)) S1
  | .p (.bl false) => g ρ S1
  | _ => .stuck
def kNotV (d : D) (S1 : Store) : R D := match d with
  | .p (.bl b) => .ok (.p (.bl (!b))) S1
  | _ => .stuck
def kIfE (f g : FE) (ρ : Env) (b : Bool) (S1 : Store) : R D := if b = true then f ρ S1 else g ρ S1
def kTup (l : List D) (S1 : Store) : R D := match pureL l with
  | some k => if k.length ≤ 1000000 then .ok (.p (.tup k)) S1 else .stuck
  | none => .stuck
def RS.seq (r : RS) (g : FC) : RS := match r with
  | .nx ρ' S' => g ρ' S'
  | r => r
def kSI (f g : FC) (ρ : Env) (b : Bool) (S1 : Store) : RS := if b = true then f ρ S1 else g ρ S1
def kSet (i : Nat) (ρ : Env) (d : D) (S1 : Store) : RS := .nx (ρ.set i (some d)) S1
def kRet (d : D) (S1 : Store) : RS := .ret d S1
def kDrop (ρ : Env) (_ : D) (S1 : Store) : RS := .nx ρ S1
def kIx3 (ρ : Env) (d o i : D) (S3 : Store) : RS := match o, i with
  | .r n, .p (.int k) => (match S3[n]? with
    | some (.lst l) => (match ixN l.length k with
      | some j => .nx ρ (S3.set n (.lst (l.set j d)))
      | none => .stuck)
    | _ => .stuck)
  | _, _ => .stuck
def kIx2 (fi : FE) (ρ : Env) (d o : D) (S2 : Store) : RS := (fi ρ S2).toS ρ (kIx3 ρ d o)
def kIx1 (fo fi : FE) (ρ : Env) (d : D) (S1 : Store) : RS := (fo ρ S1).toS ρ (kIx2 fi ρ d)
def kFl2 (c : Cn) (x : Fld) (ρ : Env) (d o : D) (S2 : Store) : RS := match o with
  | .r n => match S2[n]? with
    | some (.ins c' gs) => if c' = c ∧ gs.length < 900 then .nx ρ (S2.set n (.ins c (putD x d gs))) else .stuck
    | _ => .stuck
  | _ => .stuck
def kFl1 (c : Cn) (x : Fld) (fo : FE) (ρ : Env) (d : D) (S1 : Store) : RS := (fo ρ S1).toS ρ (kFl2 c x ρ d)
noncomputable def kFor (g : FG) (b : FC) (ρ : Env) (src : Src) (S1 : Store) : RS := forD src.2 g b src.1 ρ S1
def RS.loop (r : RS) (k : FC) : RS := match r with
  | .nx ρ2 S2 => k ρ2 S2
  | .ct ρ2 S2 => k ρ2 S2
  | .bk ρ2 S2 => .nx ρ2 S2
  | r => r
noncomputable def kF1 (o : Option (Nat × List D)) (g : FG) (b : FC) (ds : List D) (ρ1 : Env) (S1 : Store) : RS := (b ρ1 S1).loop (forD o g b ds)
def RS.fin (r : RS) : R D := match r with
  | .nx _ S' => .ok (.p .non) S'
  | .ret d S' => .ok d S'
  | .exc x _ S' => .exc x S'
  | _ => .stuck
def kPar (i j : Nat) (ρ : Env) (l : List D) (S1 : Store) : RS := match l with
  | [d1, d2] => .nx ((ρ.set i (some d1)).set j (some d2)) S1
  | _ => .stuck
def kAug2 (i : Nat) (ρ : Env) (z : D) (S2 : Store) : RS := .nx (ρ.set i (some z)) S2
def kAug1 (i : Nat) (g : D → D → Store → R D) (d0 : D) (ρ : Env) (d : D) (S1 : Store) : RS := (g d0 d S1).toS ρ (kAug2 i ρ)
def kAug (i : Nat) (g : D → D → Store → R D) (f : FE) (ρ : Env) (S : Store) : Option (Option D) → RS
  | some (some d0) => (f ρ S).toS ρ (kAug1 i g d0 ρ)
  | _ => .stuck
def optD (S : Store) : Option (Option D) → R D
  | some (some d) => .ok d S
  | _ => .stuck
end
end FR
namespace FR
open PySem PySem.Spec PyProof.Rows L2
section
variable {α : Type} (ρ : Env) (S : Store)
theorem c1_ap (g : D → Store → R D) (f : FE) : c1 g f ρ S = (f ρ S).bind g := rfl
theorem cA_ap (g : List D → Store → R D) (f : FA) : cA g f ρ S = (f ρ S).bind g := rfl
theorem c2_ap (g : D → D → Store → R D) (fa fb : FE) : c2 g fa fb ρ S = (fa ρ S).bind (K2 g fb ρ) := rfl
theorem K2_ap (g : D → D → Store → R D) (fb : FE) (x : D) : K2 g fb ρ x S = (fb ρ S).bind (g x) := rfl
theorem aCons_ap (f : FE) (g : FA) : aCons f g ρ S = (f ρ S).bind (KC g ρ) := rfl
theorem KC_ap (g : FA) (d : D) : KC g ρ d S = (g ρ S).bind fun l S2 => .ok (d :: l) S2 := rfl
theorem aNil_ap : aNil ρ S = .ok [] S := rfl
theorem fVar_ap (i : Nat) : fVar i ρ S = optD S ρ[i]? := by
  unfold fVar optD
  cases ρ[i]? with
  | none => rfl
  | some o => cases o <;> rfl
theorem optD_ss (d : D) : optD S (some (some d)) = .ok d S := rfl
theorem fC_ap (p : P) : fC p ρ S = .ok (.p p) S := rfl
theorem fBool_ap (f : FE) : fBool f ρ S = (f ρ S).bind kB := rfl
theorem kB_ap (b : Bool) : kB (.p (.bl b)) S = .ok b S := rfl
theorem fNotT_ap (f : FT) : fNotT f ρ S = (f ρ S).bind fun b S1 => .ok (!b) S1 := rfl
theorem fAndT_ap (f g : FT) : fAndT f g ρ S = (f ρ S).bind (kAnd g ρ) := rfl
theorem fOrT_ap (f g : FT) : fOrT f g ρ S = (f ρ S).bind (kOr g ρ) := rfl
theorem kAnd_t (g : FT) : kAnd g ρ true S = g ρ S := rfl
theorem kAnd_f (g : FT) : kAnd g ρ false S = .ok false S := rfl
theorem kOr_t (g : FT) : kOr g ρ true S = .ok true S := rfl
theorem kOr_f (g : FT) : kOr g ρ false S = g ρ S := rfl
theorem fAndV_ap (f g : FE) : fAndV f g ρ S = (f ρ S).bind (kAndV g ρ) := by unfold fAndV kAndV; rfl
theorem fOrV_ap (f g : FE) : fOrV f g ρ S = (f ρ S).bind (kOrV g ρ) := by unfold fOrV kOrV; rfl
theorem fNotV_ap (f : FE) : fNotV f ρ S = (f ρ S).bind kNotV := by unfold fNotV kNotV; rfl
theorem kAndV_t (g : FE) : kAndV g ρ (.p (.bl true)) S = g ρ S := rfl
theorem kAndV_f (g : FE) : kAndV g ρ (.p (.bl false)) S = .ok (.p (.bl false)) S := rfl
theorem kOrV_t (g : FE) : kOrV g ρ (.p (.bl true)) S = .ok (.p (.bl true)) S := rfl
theorem kOrV_f (g : FE) : kOrV g ρ (.p (.bl false)) S = g ρ S := rfl
theorem kNotV_ap (b : Bool) : kNotV (.p (.bl b)) S = .ok (.p (.bl (!b))) S := rfl
theorem fIfE_ap (c : FT) (f g : FE) : fIfE c f g ρ S = (c ρ S).bind (kIfE f g ρ) := rfl
theorem kIfE_t (f g : FE) : kIfE f g ρ true S = f ρ S := rfl
theorem kIfE_f (f g : FE) : kIfE f g ρ false S = g ρ S := rfl
theorem fTup_ap (f : FA) : fTup f ρ S = (f ρ S).bind kTup := by unfold fTup kTup; rfl
theorem kTup_ap (k : List P) (l : List D) (h : pureL l = some k) (hl : k.length ≤ 1000000) : kTup l S = .ok (.p (.tup k)) S := by
  unfold kTup
  rw [h]
  exact if_pos hl
theorem sSeq_ap (f g : FC) : sSeq f g ρ S = (f ρ S).seq g := by unfold sSeq RS.seq; rfl
theorem seq_nx (ρ' : Env) (g : FC) : (RS.nx ρ' S).seq g = g ρ' S := rfl
theorem seq_ret (d : D) (g : FC) : (RS.ret d S).seq g = .ret d S := rfl
theorem seq_bk (g : FC) : (RS.bk ρ S).seq g = .bk ρ S := rfl
theorem seq_ct (g : FC) : (RS.ct ρ S).seq g = .ct ρ S := rfl
theorem seq_exc (x : Exc) (g : FC) : (RS.exc x ρ S).seq g = .exc x ρ S := rfl
theorem sNext_ap : sNext ρ S = .nx ρ S := rfl
theorem sIf_ap (c : FT) (f g : FC) : sIf c f g ρ S = (c ρ S).toS ρ (kSI f g ρ) := rfl
theorem kSI_t (f g : FC) : kSI f g ρ true S = f ρ S := rfl
theorem kSI_f (f g : FC) : kSI f g ρ false S = g ρ S := rfl
theorem sSet_ap (i : Nat) (f : FE) : sSet i f ρ S = (f ρ S).toS ρ (kSet i ρ) := rfl
theorem kSet_ap (i : Nat) (d : D) : kSet i ρ d S = .nx (ρ.set i (some d)) S := rfl
theorem sRet_ap (f : FE) : sRet f ρ S = (f ρ S).toS ρ kRet := rfl
theorem kRet_ap (d : D) : kRet d S = .ret d S := rfl
theorem sRetN_ap : sRetN ρ S = .ret (.p .non) S := rfl
theorem sDrop_ap (f : FE) : sDrop f ρ S = (f ρ S).toS ρ (kDrop ρ) := rfl
theorem kDrop_ap (d : D) : kDrop ρ d S = .nx ρ S := rfl
theorem sBreak_ap : sBreak ρ S = .bk ρ S := rfl
theorem sCont_ap : sCont ρ S = .ct ρ S := rfl
theorem sIxSet_ap (fo fi fv : FE) : sIxSet fo fi fv ρ S = (fv ρ S).toS ρ (kIx1 fo fi ρ) := by unfold sIxSet kIx1 kIx2 kIx3; rfl
theorem kIx1_ap (fo fi : FE) (d : D) : kIx1 fo fi ρ d S = (fo ρ S).toS ρ (kIx2 fi ρ d) := rfl
theorem kIx2_ap (fi : FE) (d o : D) : kIx2 fi ρ d o S = (fi ρ S).toS ρ (kIx3 ρ d o) := rfl
theorem kIx3_ap (d : D) (n : Nat) (k : Int) (l : List D) (j : Nat) (h : S[n]? = some (.lst l)) (hj : ixN l.length k = some j) : kIx3 ρ d (.r n) (.p (.int k)) S = .nx ρ (S.set n (.lst (l.set j d))) := by
  unfold kIx3
  simp only [h, hj]
theorem kIx3_0 (d : D) (k : Int) (l : List D) : kIx3 ρ d (.r 0) (.p (.int k)) (.lst l :: S) = (match ixN l.length k with
      | some j => .nx ρ (.lst (l.set j d) :: S)
      | none => .stuck) := rfl
theorem sFldSet_ap (c : Cn) (x : Fld) (fo fv : FE) : sFldSet c x fo fv ρ S = (fv ρ S).toS ρ (kFl1 c x fo ρ) := by unfold sFldSet kFl1 kFl2; rfl
theorem kFl1_ap (c : Cn) (x : Fld) (fo : FE) (d : D) : kFl1 c x fo ρ d S = (fo ρ S).toS ρ (kFl2 c x ρ d) := rfl
theorem kFl2_0 (c : Cn) (x : Fld) (d : D) (gs : List (Fld × D)) (h : gs.length ≤ 800) : kFl2 c x ρ d (.r 0) (.ins c gs :: S) = .nx ρ (.ins c (putD x d gs) :: S) := by
  unfold kFl2
  show (if c = c ∧ gs.length < 900 then _ else _) = _
  rw [if_pos ⟨rfl, by omega⟩]; rfl
theorem sFor_ap (fi : Env → Store → R Src) (g : FG) (b : FC) : sFor fi g b ρ S = (fi ρ S).toS ρ (kFor g b ρ) := rfl
theorem kFor_ap (g : FG) (b : FC) (l : List D) (o : Option (Nat × List D)) : kFor g b ρ (l, o) S = forD o g b l ρ S := rfl
theorem forD_nil (g : FG) (b : FC) : forD none g b [] ρ S = .nx ρ S := by
  unfold forD
  exact if_pos trivial
theorem forD_cons (g : FG) (b : FC) (d : D) (ds : List D) : forD none g b (d :: ds) ρ S = (g d ρ S).toS ρ (kF1 none g b ds) := by
  rw [forD]
  exact if_pos trivial
theorem kF1_ap (o : Option (Nat × List D)) (g : FG) (b : FC) (ds : List D) : kF1 o g b ds ρ S = (b ρ S).loop (forD o g b ds) := rfl
theorem loop_nx (k : FC) : (RS.nx ρ S).loop k = k ρ S := rfl
theorem loop_ct (k : FC) : (RS.ct ρ S).loop k = k ρ S := rfl
theorem loop_bk (k : FC) : (RS.bk ρ S).loop k = .nx ρ S := rfl
theorem loop_ret (d : D) (k : FC) : (RS.ret d S).loop k = .ret d S := rfl
theorem loop_exc (x : Exc) (k : FC) : (RS.exc x ρ S).loop k = .exc x ρ S := rfl
theorem gNm_ap (i : Nat) (d : D) : gNm i d ρ S = .ok (ρ.set i (some d)) S := rfl
theorem sPar_ap (i j : Nat) (f : FA) : sPar i j f ρ S = (f ρ S).toS ρ (kPar i j ρ) := by unfold sPar kPar; rfl
theorem kPar_ap (i j : Nat) (d1 d2 : D) : kPar i j ρ [d1, d2] S = .nx ((ρ.set i (some d1)).set j (some d2)) S := rfl
theorem sAug_ap (i : Nat) (g : D → D → Store → R D) (f : FE) : sAug i g f ρ S = kAug i g f ρ S ρ[i]? := by
  unfold sAug kAug
  cases ρ[i]? with
  | none => rfl
  | some o => cases o <;> rfl
theorem kAug_ap (i : Nat) (g : D → D → Store → R D) (f : FE) (d0 : D) : kAug i g f ρ S (some (some d0)) = (f ρ S).toS ρ (kAug1 i g d0 ρ) := rfl
theorem kAug1_ap (i : Nat) (g : D → D → Store → R D) (d0 d : D) : kAug1 i g d0 ρ d S = (g d0 d S).toS ρ (kAug2 i ρ) := rfl
theorem kAug2_ap (i : Nat) (z : D) : kAug2 i ρ z S = .nx (ρ.set i (some z)) S := rfl
theorem runF_ap (n : Nat) (f : FC) (ds : List D) : runF n f ds S = (f (ds.map some ++ List.replicate (n - ds.length) none) S).fin := by unfold runF RS.fin; rfl
theorem fin_nx : (RS.nx ρ S).fin = .ok (.p .non) S := rfl
theorem fin_ret (d : D) : (RS.ret d S).fin = .ok d S := rfl
theorem fin_exc (x : Exc) : (RS.exc x ρ S).fin = .exc x S := rfl
theorem zS_ap : zS ρ S = .stuck := rfl
def kP (S : Store) : R D → R D
  | .ok (.p q) _ => .ok (.p q) S
  | .exc x _ => .exc x S
  | _ => .stuck
def kPL (F : Fn) (dvs : List P) (S : Store) : Option (List P) → R D
  | some l => kP S (F ((l ++ dvs).map .p) [])
  | none => .stuck
theorem callP_ap (F : Fn) (dvs : List P) (ds : List D) : callP F dvs ds S = kPL F dvs S (pureL ds) := by
  unfold callP kPL
  cases pureL ds with
  | none => rfl
  | some l =>
    show _ = kP S (F ((l ++ dvs).map .p) [])
    dsimp only
    cases F ((l ++ dvs).map .p) [] with
    | ok d S' => cases d <;> rfl
    | exc x S' => rfl
    | stuck => rfl
theorem kPL_ap (F : Fn) (dvs : List P) (l : List P) : kPL F dvs S (some l) = kP S (F ((l ++ dvs).map .p) []) := rfl
theorem kP_ok (q : P) (S' : Store) : kP S (.ok (.p q) S') = .ok (.p q) S := rfl
theorem kP_exc (x : Exc) (S' : Store) : kP S (.exc x S') = .exc x S := rfl
theorem callN_ap (m : Mode) (n : Nat) (F : Fn) (dvs : List P) (ds : List D) (h : ds.length + dvs.length = n) : callN m n F dvs ds S = callM m F dvs ds S := if_pos h
theorem callM_S (F : Fn) (dvs : List P) (ds : List D) : callM .S F dvs ds S = F (ds ++ dvs.map .p) S := rfl
theorem callM_P (F : Fn) (dvs : List P) (ds : List D) : callM .P F dvs ds S = callP F dvs ds S := rfl
theorem pureL_nil : pureL [] = some [] := rfl
theorem pureL_cons (q : P) (l : List D) : pureL (.p q :: l) = (pureL l).map (q :: ·) := rfl
/-! operators -/
variable (i j : Int)
theorem gAddI_ap : gAddI (.p (.int i)) (.p (.int j)) S = .ok (.p (.int (i + j))) S := rfl
theorem gSubI_ap : gSubI (.p (.int i)) (.p (.int j)) S = .ok (.p (.int (i - j))) S := rfl
theorem gMulI_ok (h : mulOk i j = true) : gMulI (.p (.int i)) (.p (.int j)) S = .ok (.p (.int (i * j))) S := by
  unfold gMulI gII
  simp only [h, if_true]
theorem log2_lt {n k : Nat} (h : n < 2 ^ k) (hk : 0 < k) : n.log2 < k := by
  by_cases h0 : n = 0
  · subst h0; simpa using hk
  · exact (Nat.log2_lt h0).mpr h
theorem gMulI_l (h1 : -1000000000000000000 < i) (h2 : i < 1000000000000000000) : gMulI (.p (.int i)) (.p (.int j)) S = .ok (.p (.int (i * j))) S :=
  gMulI_ok S i j (by unfold mulOk; exact decide_eq_true (.inl (log2_lt (by omega) (by decide))))
theorem gMulI_r (h1 : -1000000000000000000 < j) (h2 : j < 1000000000000000000) : gMulI (.p (.int i)) (.p (.int j)) S = .ok (.p (.int (i * j))) S :=
  gMulI_ok S i j (by unfold mulOk; exact decide_eq_true (.inr (.inl (log2_lt (by omega) (by decide)))))
theorem gDivI_ok (h : divOk j = true) : gDivI (.p (.int i)) (.p (.int j)) S = .ok (.p (.int (i.fdiv j))) S := by
  unfold gDivI gII
  simp only [h, if_true]
theorem gDivI_s (h0 : j ≠ 0) (h1 : -1000000000000000000 < j) (h2 : j < 1000000000000000000) : gDivI (.p (.int i)) (.p (.int j)) S = .ok (.p (.int (i.fdiv j))) S :=
  gDivI_ok S i j (by
    unfold divOk
    have h : j.natAbs.log2 < 60 := log2_lt (by omega) (by decide)
    exact decide_eq_true ⟨h0, by omega⟩)
theorem gModI_ap (h : j ≠ 0) : gModI (.p (.int i)) (.p (.int j)) S = .ok (.p (.int (i.fmod j))) S := by
  unfold gModI gII
  simp only [ne_eq, h, not_false_eq_true, if_true]
theorem gPow_18 : gPowI (.p (.int 10)) (.p (.int 18)) S = .ok (.p (.int 1000000000000000000)) S := rfl
theorem gPow_6 : gPowI (.p (.int 10)) (.p (.int 6)) S = .ok (.p (.int 1000000)) S := rfl
theorem gPow_60 : gPowI (.p (.int 10)) (.p (.int 60)) S = .ok (.p (.int 1000000000000000000000000000000000000000000000000000000000000)) S := rfl
theorem gLtI_ap : gLtI (.p (.int i)) (.p (.int j)) S = .ok (.p (.bl (decide (i < j)))) S := rfl
theorem gLeI_ap : gLeI (.p (.int i)) (.p (.int j)) S = .ok (.p (.bl (decide (i ≤ j)))) S := rfl
theorem gGtI_ap : gGtI (.p (.int i)) (.p (.int j)) S = .ok (.p (.bl (decide (j < i)))) S := rfl
theorem gGeI_ap : gGeI (.p (.int i)) (.p (.int j)) S = .ok (.p (.bl (decide (j ≤ i)))) S := rfl
theorem gEqF_ii : gEqF (.p (.int i)) (.p (.int j)) S = .ok (.p (.bl (decide (i = j)))) S := rfl
theorem gNeF_ii : gNeF (.p (.int i)) (.p (.int j)) S = .ok (.p (.bl (!decide (i = j)))) S := rfl
theorem gNegI_ap : gNegI (.p (.int i)) S = .ok (.p (.int (-i))) S := rfl
theorem gAbsI_ap : gAbsI [.p (.int i)] S = .ok (.p (.int (if i < 0 then -i else i))) S := rfl
theorem gInt1_ap : gInt1 [.p (.int i)] S = .ok (.p (.int i)) S := rfl
theorem gMax2_ap : gMax2 [.p (.int i), .p (.int j)] S = .ok (.p (.int (if j > i then j else i))) S := rfl
theorem gMin2_ap : gMin2 [.p (.int i), .p (.int j)] S = .ok (.p (.int (if j < i then j else i))) S := rfl
theorem gGcd_ap : gGcd [.p (.int i), .p (.int j)] S = .ok (.p (.int ((Nat.gcd i.natAbs j.natAbs : Nat) : Int))) S := rfl
theorem gLen_lst (l : List P) : gLen [.p (.lst l)] S = .ok (.p (.int l.length)) S := rfl
theorem gLen_tup (l : List P) : gLen [.p (.tup l)] S = .ok (.p (.int l.length)) S := rfl
theorem gIx_0 (l : List D) (k : Int) : gIx (.r 0) (.p (.int k)) (.lst l :: S) = (match atI l k with
      | some d => .ok d (.lst l :: S)
      | none => .stuck) := rfl
theorem gIx_tup (l : List P) (k : Int) (q : P) (h : atI l k = some q) : gIx (.p (.tup l)) (.p (.int k)) S = .ok (.p q) S := by
  unfold gIx
  simp only [h]
theorem gIx_lst (l : List P) (k : Int) (q : P) (h : atI l k = some q) : gIx (.p (.lst l)) (.p (.int k)) S = .ok (.p q) S := by
  unfold gIx
  simp only [h]
theorem iOfA_ap (s : List D → Store → R Src) (f : FA) : iOfA s f ρ S = (f ρ S).bind s := rfl
theorem iOf_ap (s : D → Store → R Src) (f : FE) : iOf s f ρ S = (f ρ S).bind s := rfl
theorem srcL_lst (l : List P) : srcL (.p (.lst l)) S = .ok (l.map .p, none) S := rfl
theorem srcL_scr (l : List P) : srcL (.p (.scr l)) S = .ok (l.map .p, none) S := rfl
theorem srcT_ap (l : List P) : srcT (.p (.tup l)) S = .ok (l.map .p, none) S := rfl
theorem srcR1_ap (h1 : -(2 ^ 62) ≤ j) (h2 : j < 2 ^ 62) : srcR1 [.p (.int j)] S = .ok (upTo 0 j.toNat, none) S := if_pos ⟨h1, h2⟩
theorem srcR2_ap (h1 : -(2 ^ 62) ≤ i) (h2 : i < 2 ^ 62) (h3 : -(2 ^ 62) ≤ j) (h4 : j < 2 ^ 62) : srcR2 [.p (.int i), .p (.int j)] S = .ok (upTo i (j - i).toNat, none) S := if_pos ⟨h1, h2, h3, h4⟩
theorem gFld_obj (c : Cn) (x : Fld) (gs : List (Fld × P)) (q : P) (h : gs.lookup x = some q) : gFld c x (.p (.obj c gs)) S = .ok (.p q) S := by
  unfold gFld
  simp only [if_true, h]
theorem gIsi_ap (tbl : List (Tg × Bool)) (u : Tg) (d : D) (t : Tg) (b : Bool) (ht : tagD d S = some t) (hb : tbl.lookup t = some b) : gIsi tbl u d S = .ok (.p (.bl b)) S := by
  unfold gIsi
  simp only [ht, hb]
theorem gOwn_ap (c : Cn) (m : Mode) (F : Fn) (x y : D) (h : isIns c x S = true ∧ (isIns c y S = true ∨ isInt y = true)) : gOwn c m F x y S = callN m 2 F [] [x, y] S := if_pos h
theorem gOwnR_ap (c : Cn) (m : Mode) (F : Fn) (x y : D) (h : isInt x = true ∧ isIns c y S = true) : gOwnR c m F x y S = callN m 2 F [] [y, x] S := if_pos h
theorem gOwn1_ap (c : Cn) (m : Mode) (F : Fn) (x : D) (h : isIns c x S = true) : gOwn1 c m F x S = callN m 1 F [] [x] S := if_pos h
theorem fLst_ap (f : FA) (k : List P) (l : List D) (S1 : Store) (h : f ρ S = .ok l S1) (hp : pureL l = some k) (hl : k.length ≤ 1000000) : fLst f ρ S = .ok (.p (.lst k)) S1 := by
  unfold fLst
  rw [h]
  simp only [R.bind_ok, hp]
  exact if_pos hl
end
end FR
namespace FR
open PySem PySem.Spec PyProof.Rows L2
section
variable {α : Type} (ρ : Env) (S : Store)
def kTupP (S : Store) : Option (List P) → R D
  | some k => if k.length ≤ 1000000 then .ok (.p (.tup k)) S else .stuck
  | none => .stuck
theorem kTup_eq (l : List D) : kTup l S = kTupP S (pureL l) := by
  unfold kTup kTupP
  cases pureL l <;> rfl
theorem kTupP_ap (k : List P) (h : k.length ≤ 1000000) : kTupP S (some k) = .ok (.p (.tup k)) S := if_pos h
def kLst (l : List D) (S1 : Store) : R D := match pureL l with
  | some k => if k.length ≤ 1000000 then .ok (.p (.lst k)) S1 else .stuck
  | none => .stuck
def kLstP (S : Store) : Option (List P) → R D
  | some k => if k.length ≤ 1000000 then .ok (.p (.lst k)) S else .stuck
  | none => .stuck
theorem fLst_eq (f : FA) : fLst f ρ S = (f ρ S).bind kLst := by unfold fLst kLst; rfl
theorem kLst_ap (l : List D) : kLst l S = kLstP S (pureL l) := by
  unfold kLst kLstP
  cases pureL l <;> rfl
theorem kLstP_ap (k : List P) (h : k.length ≤ 1000000) : kLstP S (some k) = .ok (.p (.lst k)) S := if_pos h
def kLstR (l : List D) (S1 : Store) : R D := if l.length ≤ 1000000 then .ok (.r S1.length) (S1 ++ [.lst l]) else .stuck
theorem fLstR_eq (f : FA) : fLstR f ρ S = (f ρ S).bind kLstR := by unfold fLstR kLstR; rfl
theorem kLstR_ap (l : List D) (h : l.length ≤ 1000000) : kLstR l S = .ok (.r S.length) (S ++ [.lst l]) := if_pos h
def oD (S : Store) : Option D → R D
  | some d => .ok d S
  | none => .stuck
def oP (S : Store) : Option P → R D
  | some d => .ok (.p d) S
  | none => .stuck
theorem oD_some (d : D) : oD S (some d) = .ok d S := rfl
theorem oP_some (d : P) : oP S (some d) = .ok (.p d) S := rfl
theorem gIx_r0 (l : List D) (k : Int) : gIx (.r 0) (.p (.int k)) (.lst l :: S) = oD (.lst l :: S) (atI l k) := by
  rw [gIx_0]
  cases atI l k <;> rfl
theorem gIx_t0 (l : List P) (k : Int) : gIx (.p (.tup l)) (.p (.int k)) S = (match atI l k with
      | some q => .ok (.p q) S
      | none => .stuck) := rfl
theorem gIx_t (l : List P) (k : Int) : gIx (.p (.tup l)) (.p (.int k)) S = oP S (atI l k) := by
  rw [gIx_t0]
  cases atI l k <;> rfl
theorem gIx_l0 (l : List P) (k : Int) : gIx (.p (.lst l)) (.p (.int k)) S = (match atI l k with
      | some q => .ok (.p q) S
      | none => .stuck) := rfl
theorem gIx_l (l : List P) (k : Int) : gIx (.p (.lst l)) (.p (.int k)) S = oP S (atI l k) := by
  rw [gIx_l0]
  cases atI l k <;> rfl
theorem at_n {α : Type} (l : List α) (n : Nat) (h : n < l.length) : atI l (n : Int) = l[n]? := by
  unfold atI ixN
  rw [if_pos (Int.natCast_nonneg n), if_pos (by omega)]
  simp
theorem at_0 {α : Type} (a : α) (l : List α) : atI (a :: l) 0 = some a := at_n (a :: l) 0 (by simp)
theorem at_1 {α : Type} (a b : α) (l : List α) : atI (a :: b :: l) 1 = some b := at_n (a :: b :: l) 1 (by simp)
theorem at_2 {α : Type} (a b c : α) (l : List α) : atI (a :: b :: c :: l) 2 = some c := at_n (a :: b :: c :: l) 2 (by simp)
theorem at_3 {α : Type} (a b c d : α) (l : List α) : atI (a :: b :: c :: d :: l) 3 = some d := at_n (a :: b :: c :: d :: l) 3 (by simp)
theorem at_4 {α : Type} (a b c d e : α) (l : List α) : atI (a :: b :: c :: d :: e :: l) 4 = some e := at_n (a :: b :: c :: d :: e :: l) 4 (by simp)
theorem ix_n (m n : Nat) (h : n < m) : ixN m (n : Int) = some n := by
  unfold ixN
  rw [if_pos (Int.natCast_nonneg n), if_pos (by omega)]
  simp
theorem ks_n (d : D) (n : Nat) (l : List D) (h : n < l.length) : kIx3 ρ d (.r 0) (.p (.int (n : Int))) (.lst l :: S) = .nx ρ (.lst (l.set n d) :: S) := by
  rw [kIx3_0, ix_n _ _ h]
theorem ks_0 (d a : D) (l : List D) : kIx3 ρ d (.r 0) (.p (.int 0)) (.lst (a :: l) :: S) = .nx ρ (.lst (d :: l) :: S) := ks_n ρ S d 0 _ (by simp)
theorem ks_1 (d a b : D) (l : List D) : kIx3 ρ d (.r 0) (.p (.int 1)) (.lst (a :: b :: l) :: S) = .nx ρ (.lst (a :: d :: l) :: S) := ks_n ρ S d 1 _ (by simp)
theorem ks_2 (d a b c : D) (l : List D) : kIx3 ρ d (.r 0) (.p (.int 2)) (.lst (a :: b :: c :: l) :: S) = .nx ρ (.lst (a :: b :: d :: l) :: S) := ks_n ρ S d 2 _ (by simp)
theorem ks_3 (d a b c e : D) (l : List D) : kIx3 ρ d (.r 0) (.p (.int 3)) (.lst (a :: b :: c :: e :: l) :: S) = .nx ρ (.lst (a :: b :: c :: d :: l) :: S) := ks_n ρ S d 3 _ (by simp)
theorem ks_4 (d a b c e f : D) (l : List D) : kIx3 ρ d (.r 0) (.p (.int 4)) (.lst (a :: b :: c :: e :: f :: l) :: S) = .nx ρ (.lst (a :: b :: c :: e :: d :: l) :: S) := ks_n ρ S d 4 _ (by simp)
/-! the script's pool -/
def pool (cs : List Int) (a b c t : Int) : Cell := .lst [.p (.lst (cs.map .int)), .p (.int a), .p (.int b), .p (.int c), .p (.int t)]
theorem at_ints (cs : List Int) (a : Int) (h0 : 0 ≤ a) (h1 : a < cs.length) : ∃ x, atI (cs.map P.int) a = some (.int x) := by
  obtain ⟨n, rfl⟩ := Int.eq_ofNat_of_zero_le h0
  have hn : n < cs.length := by omega
  refine ⟨cs[n], ?_⟩
  have := at_n (cs.map P.int) n (by rw [List.length_map]; exact hn)
  rw [this]
  simp [hn]
end
end FR
namespace FR
open PySem PySem.Spec PyProof.Rows L2
section
variable (F : Fn) (S : Store)
theorem cP0 : callN .P 0 F [] [] S = kP S (F [] []) := (callN_ap S .P 0 F [] [] rfl).trans (callP_ap S F [] [])
theorem cS0 : callN .S 0 F [] [] S = F [] S := rfl
theorem cP1 (a0 : P) : callN .P 1 F [] [.p a0] S = kP S (F [.p a0] []) := (callN_ap S .P 1 F [] [.p a0] rfl).trans (callP_ap S F [] [.p a0])
theorem cS1 (a0 : D) : callN .S 1 F [] [a0] S = F [a0] S := rfl
theorem cP2 (a0 a1 : P) : callN .P 2 F [] [.p a0, .p a1] S = kP S (F [.p a0, .p a1] []) := (callN_ap S .P 2 F [] [.p a0, .p a1] rfl).trans (callP_ap S F [] [.p a0, .p a1])
theorem cS2 (a0 a1 : D) : callN .S 2 F [] [a0, a1] S = F [a0, a1] S := rfl
theorem cP3 (a0 a1 a2 : P) : callN .P 3 F [] [.p a0, .p a1, .p a2] S = kP S (F [.p a0, .p a1, .p a2] []) := (callN_ap S .P 3 F [] [.p a0, .p a1, .p a2] rfl).trans (callP_ap S F [] [.p a0, .p a1, .p a2])
theorem cS3 (a0 a1 a2 : D) : callN .S 3 F [] [a0, a1, a2] S = F [a0, a1, a2] S := rfl
theorem cP4 (a0 a1 a2 a3 : P) : callN .P 4 F [] [.p a0, .p a1, .p a2, .p a3] S = kP S (F [.p a0, .p a1, .p a2, .p a3] []) := (callN_ap S .P 4 F [] [.p a0, .p a1, .p a2, .p a3] rfl).trans (callP_ap S F [] [.p a0, .p a1, .p a2, .p a3])
theorem cS4 (a0 a1 a2 a3 : D) : callN .S 4 F [] [a0, a1, a2, a3] S = F [a0, a1, a2, a3] S := rfl
theorem cP5 (a0 a1 a2 a3 a4 : P) : callN .P 5 F [] [.p a0, .p a1, .p a2, .p a3, .p a4] S = kP S (F [.p a0, .p a1, .p a2, .p a3, .p a4] []) := (callN_ap S .P 5 F [] [.p a0, .p a1, .p a2, .p a3, .p a4] rfl).trans (callP_ap S F [] [.p a0, .p a1, .p a2, .p a3, .p a4])
theorem cS5 (a0 a1 a2 a3 a4 : D) : callN .S 5 F [] [a0, a1, a2, a3, a4] S = F [a0, a1, a2, a3, a4] S := rfl
theorem cP6 (a0 a1 a2 a3 a4 a5 : P) : callN .P 6 F [] [.p a0, .p a1, .p a2, .p a3, .p a4, .p a5] S = kP S (F [.p a0, .p a1, .p a2, .p a3, .p a4, .p a5] []) := (callN_ap S .P 6 F [] [.p a0, .p a1, .p a2, .p a3, .p a4, .p a5] rfl).trans (callP_ap S F [] [.p a0, .p a1, .p a2, .p a3, .p a4, .p a5])
theorem cS6 (a0 a1 a2 a3 a4 a5 : D) : callN .S 6 F [] [a0, a1, a2, a3, a4, a5] S = F [a0, a1, a2, a3, a4, a5] S := rfl
theorem cP7 (a0 a1 a2 a3 a4 a5 a6 : P) : callN .P 7 F [] [.p a0, .p a1, .p a2, .p a3, .p a4, .p a5, .p a6] S = kP S (F [.p a0, .p a1, .p a2, .p a3, .p a4, .p a5, .p a6] []) := (callN_ap S .P 7 F [] [.p a0, .p a1, .p a2, .p a3, .p a4, .p a5, .p a6] rfl).trans (callP_ap S F [] [.p a0, .p a1, .p a2, .p a3, .p a4, .p a5, .p a6])
theorem cS7 (a0 a1 a2 a3 a4 a5 a6 : D) : callN .S 7 F [] [a0, a1, a2, a3, a4, a5, a6] S = F [a0, a1, a2, a3, a4, a5, a6] S := rfl
theorem cP8 (a0 a1 a2 a3 a4 a5 a6 a7 : P) : callN .P 8 F [] [.p a0, .p a1, .p a2, .p a3, .p a4, .p a5, .p a6, .p a7] S = kP S (F [.p a0, .p a1, .p a2, .p a3, .p a4, .p a5, .p a6, .p a7] []) := (callN_ap S .P 8 F [] [.p a0, .p a1, .p a2, .p a3, .p a4, .p a5, .p a6, .p a7] rfl).trans (callP_ap S F [] [.p a0, .p a1, .p a2, .p a3, .p a4, .p a5, .p a6, .p a7])
theorem cS8 (a0 a1 a2 a3 a4 a5 a6 a7 : D) : callN .S 8 F [] [a0, a1, a2, a3, a4, a5, a6, a7] S = F [a0, a1, a2, a3, a4, a5, a6, a7] S := rfl
end
end FR
namespace FR
open PySem PySem.Spec PyProof.Rows L2
/-! comprehensions -/
theorem lc_go {g : FGp} {t : FT} {f : FE} {ρ0 : Env} {S : Store} {keep : P → Bool} {h : P → P} : ∀ (l : List P) (acc : List P), (∀ q ∈ l, ∃ ρ1, g (.p q) ρ0 = some ρ1 ∧ ∀ ac, t ρ1 (S ++ [.lst ac]) = .ok (keep q) (S ++ [.lst ac]) ∧ (keep q = true → f ρ1 (S ++ [.lst ac]) = .ok (.p (h q)) (S ++ [.lst ac]))) → acc.length + l.length ≤ 1000000 →
    lcD none S.length g t f ρ0 (l.map .p) (S ++ [.lst (acc.map .p)]) = .ok () (S ++ [.lst ((acc ++ (l.filter keep).map h).map .p)])
  | [], acc, _, _ => by
    show lcD none S.length g t f ρ0 [] _ = _
    unfold lcD
    simp [chk]
  | q :: l, acc, hq, hl => by
    obtain ⟨ρ1, e1, e2⟩ := hq q List.mem_cons_self
    obtain ⟨e3, e4⟩ := e2 (acc.map .p)
    show lcD none S.length g t f ρ0 (.p q :: l.map .p) _ = _
    rw [lcD]
    rw [if_pos (show chk none _ from trivial)]
    simp only [e1, e3]
    have hr : ∀ x ∈ l, ∃ ρ1, g (.p x) ρ0 = some ρ1 ∧ ∀ ac, t ρ1 (S ++ [.lst ac]) = .ok (keep x) (S ++ [.lst ac]) ∧ (keep x = true → f ρ1 (S ++ [.lst ac]) = .ok (.p (h x)) (S ++ [.lst ac])) := fun x hx => hq x (List.mem_cons_of_mem _ hx)
    rw [List.length_cons] at hl
    cases hk : keep q with
    | true =>
      simp only [e4 hk]
      have hg : (S ++ [Cell.lst (acc.map D.p)])[S.length]? = some (.lst (acc.map .p)) := by simp
      simp only [hg]
      rw [if_pos (by rw [List.length_map]; omega)]
      have hs : (S ++ [Cell.lst (acc.map D.p)]).set S.length (.lst (acc.map .p ++ [.p (h q)])) = S ++ [.lst ((acc ++ [h q]).map .p)] := by simp
      rw [hs, lc_go l (acc ++ [h q]) hr (by rw [List.length_append]; simp; omega)]
      rw [List.filter_cons_of_pos (by exact hk)]
      simp
    | false =>
      simp only
      rw [lc_go l acc hr (by omega), List.filter_cons_of_neg (by simp [hk])]
theorem lc_filter {fi : Env → Store → R Src} {g : FGp} {t : FT} {f : FE} {own : List Nat} {ρ : Env} {S S0 : Store} {keep : P → Bool} {h : P → P} (l : List P) (hi : fi ρ S0 = .ok (l.map .p, none) S)
    (hb : ∀ q ∈ l, ∃ ρ1, g (.p q) (wipeD ρ own) = some ρ1 ∧ ∀ ac, t ρ1 (S ++ [.lst ac]) = .ok (keep q) (S ++ [.lst ac]) ∧ (keep q = true → f ρ1 (S ++ [.lst ac]) = .ok (.p (h q)) (S ++ [.lst ac]))) (hl : l.length ≤ 1000000) (hS : S.all (Cell.below S.length) = true) :
    fLc fi g t f own ρ S0 = .ok (.p (.lst ((l.filter keep).map h))) S := by
  unfold fLc
  rw [hi]
  simp only [R.bind_ok]
  have e := lc_go (g := g) (t := t) (f := f) (ρ0 := wipeD ρ own) (S := S) l [] hb (by simpa using hl)
  simp only [List.map_nil, List.nil_append] at e
  rw [e]
  simp only [R.bind_ok]
  unfold lcEnd
  have h1 : (S ++ [Cell.lst (((l.filter keep).map h).map .p)])[S.length]? = some (.lst (((l.filter keep).map h).map .p)) := by simp
  have h2 : (S ++ [Cell.lst (((l.filter keep).map h).map .p)]).take S.length = S := by simp
  simp only [h1, pureL_map, h2]
  rw [if_pos hS]
theorem lc_map {fi : Env → Store → R Src} {g : FGp} {f : FE} {own : List Nat} {ρ : Env} {S S0 : Store} {h : P → P} (l : List P) (hi : fi ρ S0 = .ok (l.map .p, none) S)
    (hb : ∀ q ∈ l, ∃ ρ1, g (.p q) (wipeD ρ own) = some ρ1 ∧ ∀ ac, f ρ1 (S ++ [.lst ac]) = .ok (.p (h q)) (S ++ [.lst ac])) (hl : l.length ≤ 1000000) (hS : S.all (Cell.below S.length) = true) :
    fLc fi g fYes f own ρ S0 = .ok (.p (.lst (l.map h))) S := by
  have := lc_filter (fi := fi) (g := g) (t := fYes) (f := f) (own := own) (ρ := ρ) (S := S) (S0 := S0) (keep := fun _ => true) (h := h) l hi (fun q hq => by
    obtain ⟨ρ1, e1, e2⟩ := hb q hq
    exact ⟨ρ1, e1, fun ac => ⟨rfl, fun _ => e2 ac⟩⟩) hl hS
  rw [this, List.filter_eq_self.mpr fun _ _ => rfl]
/-! bounds -/
theorem mulOk_b {i j : Int} (k m : Nat) (hi : i.natAbs < 2 ^ k) (hj : j.natAbs < 2 ^ m) (h : k + m < 100000000) : mulOk i j = true := by
  unfold mulOk
  refine decide_eq_true (.inr (.inr ?_))
  have l : ∀ {n k : Nat}, n < 2 ^ k → n.log2 ≤ k := fun {n k} hn => by
    by_cases h0 : n = 0
    · subst h0; simp
    · exact Nat.le_of_lt ((Nat.log2_lt h0).mpr hn)
  have h1 := l hi
  have h2 := l hj
  omega
theorem divOk_b {j : Int} (m : Nat) (h0 : j ≠ 0) (hj : j.natAbs < 2 ^ m) (h : m < 9000) : divOk j = true := by
  unfold divOk
  refine decide_eq_true ⟨h0, ?_⟩
  have : j.natAbs ≠ 0 := by omega
  have := (Nat.log2_lt this).mpr hj
  omega
/-- |x| < 2^k -/
def Bd (k : Nat) (x : Int) : Prop := x.natAbs < 2 ^ k
theorem Bd.mono {k m : Nat} {x : Int} (h : Bd k x) (hk : k ≤ m) : Bd m x := Nat.lt_of_lt_of_le h (Nat.pow_le_pow_right (by decide) hk)
theorem Bd.mul {k m : Nat} {x y : Int} (h : Bd k x) (h2 : Bd m y) : Bd (k + m) (x * y) := by
  unfold Bd at *
  rw [Int.natAbs_mul, Nat.pow_add]
  exact Nat.mul_lt_mul_of_lt_of_le h (Nat.le_of_lt h2) (Nat.lt_of_le_of_lt (Nat.zero_le _) h2)
theorem Bd.add {k : Nat} {x y : Int} (h : Bd k x) (h2 : Bd k y) : Bd (k + 1) (x + y) := by
  unfold Bd at *
  rw [Nat.pow_succ]
  omega
theorem Bd.sub {k : Nat} {x y : Int} (h : Bd k x) (h2 : Bd k y) : Bd (k + 1) (x - y) := by
  unfold Bd at *
  rw [Nat.pow_succ]
  omega
theorem Bd.neg {k : Nat} {x : Int} (h : Bd k x) : Bd k (-x) := by
  unfold Bd at *
  omega
theorem Bd.mulOk {k m : Nat} {x y : Int} (h : Bd k x) (h2 : Bd m y) (hk : k + m < 100000000) : mulOk x y = true := mulOk_b k m h h2 hk
theorem Bd.divOk {k : Nat} {x : Int} (h : Bd k x) (h0 : x ≠ 0) (hk : k < 9000) : FR.divOk x = true := divOk_b k h0 h hk
theorem Bd.of_le {k : Nat} {x y : Int} (h : Bd k y) (hx : x.natAbs ≤ y.natAbs) : Bd k x := Nat.lt_of_le_of_lt hx h
end FR
namespace FR
open PySem PySem.Spec PyProof.Rows L2
section
variable (S : Store)
def orR (r : R D) (g : Store → R D) (S : Store) : R D := match r with
  | .stuck => g S
  | r => r
theorem gOr_ap (g g' : D → D → Store → R D) (x y : D) : gOr g g' x y S = orR (g x y S) (g' x y) S := by
  unfold gOr orR
  cases g x y S <;> rfl
theorem gOr1_ap (g g' : D → Store → R D) (x : D) : gOr1 g g' x S = orR (g x S) (g' x) S := by
  unfold gOr1 orR
  cases g x S <;> rfl
theorem orR_ok (d : D) (S' : Store) (g : Store → R D) : orR (.ok d S') g S = .ok d S' := rfl
theorem orR_st (g : Store → R D) : orR .stuck g S = g S := rfl
theorem orR_exc (x : Exc) (S' : Store) (g : Store → R D) : orR (.exc x S') g S = .exc x S' := rfl
end
theorem pNm_ap (i : Nat) (d : D) (ρ : Env) : pNm i d ρ = some (ρ.set i (some d)) := rfl
end FR
namespace FR
open PySem PySem.Spec PyProof.Rows L2
section
variable (S : Store) (F : Fn) (c : Cn)
def kMkF (S : Store) (c : Cn) : Option (List (Fld × P)) → R D
  | some k => .ok (.p (.obj c k)) S
  | none => .stuck
def kMk (S : Store) : R D → R D
  | .ok (.p .non) (.ins c' gs :: _) => kMkF S c' (pureF gs)
  | .exc x _ => .exc x S
  | _ => .stuck
theorem mkP_ap (n : Nat) (l : List P) (h : l.length + 1 = n) : mkP c n F [] (l.map .p) S = kMk S (F (.r 0 :: l.map .p) [.ins c []]) := by
  unfold mkP
  rw [pureL_map]
  dsimp only
  rw [if_pos (by simpa using h), List.append_nil]
  cases F (.r 0 :: l.map .p) [.ins c []] with
  | ok d S' =>
    cases d with
    | p q =>
      cases q with
      | non =>
        cases S' with
        | nil => rfl
        | cons x r =>
          cases x with
          | ins c' gs =>
            unfold kMk kMkF
            dsimp only
            all_goals (cases pureF gs <;> rfl)
          | _ => rfl
      | _ => rfl
    | r m => rfl
  | exc x S' => rfl
  | stuck => rfl
theorem kMk_ok (c' : Cn) (gs : List (Fld × D)) (r : Store) : kMk S (.ok (.p .non) (.ins c' gs :: r)) = kMkF S c' (pureF gs) := rfl
theorem kMk_exc (x : Exc) (S' : Store) : kMk S (.exc x S') = .exc x S := rfl
theorem kMkF_ap (k : List (Fld × P)) : kMkF S c (some k) = .ok (.p (.obj c k)) S := rfl
theorem pureF_nil : pureF [] = some [] := rfl
theorem pureF_cons (f : Fld) (q : P) (l : List (Fld × D)) : pureF ((f, .p q) :: l) = (pureF l).map ((f, q) :: ·) := rfl
theorem putD_nil (f : Fld) (d : D) : putD f d [] = [(f, d)] := rfl
theorem putD_cons (f g : Fld) (d x : D) (r : List (Fld × D)) (h : (g == f) = false) : putD f d ((g, x) :: r) = (g, x) :: putD f d r := by
  have : g ≠ f := fun e => by rw [e] at h; simp at h
  show (if g = f then _ else _) = _
  rw [if_neg this]
theorem mk0 : mkP c 1 F [] [] S = kMk S (F [.r 0] [.ins c []]) := mkP_ap S F c 1 [] rfl
theorem mk1 (a0 : P) : mkP c 2 F [] [.p a0] S = kMk S (F [.r 0, .p a0] [.ins c []]) := mkP_ap S F c 2 [a0] rfl
theorem mk2 (a0 a1 : P) : mkP c 3 F [] [.p a0, .p a1] S = kMk S (F [.r 0, .p a0, .p a1] [.ins c []]) := mkP_ap S F c 3 [a0, a1] rfl
theorem mk3 (a0 a1 a2 : P) : mkP c 4 F [] [.p a0, .p a1, .p a2] S = kMk S (F [.r 0, .p a0, .p a1, .p a2] [.ins c []]) := mkP_ap S F c 4 [a0, a1, a2] rfl
theorem mk4 (a0 a1 a2 a3 : P) : mkP c 5 F [] [.p a0, .p a1, .p a2, .p a3] S = kMk S (F [.r 0, .p a0, .p a1, .p a2, .p a3] [.ins c []]) := mkP_ap S F c 5 [a0, a1, a2, a3] rfl
theorem mk5 (a0 a1 a2 a3 a4 : P) : mkP c 6 F [] [.p a0, .p a1, .p a2, .p a3, .p a4] S = kMk S (F [.r 0, .p a0, .p a1, .p a2, .p a3, .p a4] [.ins c []]) := mkP_ap S F c 6 [a0, a1, a2, a3, a4] rfl
theorem mk6 (a0 a1 a2 a3 a4 a5 : P) : mkP c 7 F [] [.p a0, .p a1, .p a2, .p a3, .p a4, .p a5] S = kMk S (F [.r 0, .p a0, .p a1, .p a2, .p a3, .p a4, .p a5] [.ins c []]) := mkP_ap S F c 7 [a0, a1, a2, a3, a4, a5] rfl
theorem mk7 (a0 a1 a2 a3 a4 a5 a6 : P) : mkP c 8 F [] [.p a0, .p a1, .p a2, .p a3, .p a4, .p a5, .p a6] S = kMk S (F [.r 0, .p a0, .p a1, .p a2, .p a3, .p a4, .p a5, .p a6] [.ins c []]) := mkP_ap S F c 8 [a0, a1, a2, a3, a4, a5, a6] rfl
theorem mk8 (a0 a1 a2 a3 a4 a5 a6 a7 : P) : mkP c 9 F [] [.p a0, .p a1, .p a2, .p a3, .p a4, .p a5, .p a6, .p a7] S = kMk S (F [.r 0, .p a0, .p a1, .p a2, .p a3, .p a4, .p a5, .p a6, .p a7] [.ins c []]) := mkP_ap S F c 9 [a0, a1, a2, a3, a4, a5, a6, a7] rfl
end
end FR
namespace FR
open PySem PySem.Spec PyProof.Rows L2
section
variable (S : Store)
def kIsi (S : Store) : Option Bool → R D
  | some b => .ok (.p (.bl b)) S
  | none => .stuck
def kIsiT (tbl : List (Tg × Bool)) (S : Store) : Option Tg → R D
  | some t => kIsi S (tbl.lookup t)
  | none => .stuck
theorem gIsi_eq (tbl : List (Tg × Bool)) (u : Tg) (d : D) : gIsi tbl u d S = kIsiT tbl S (tagD d S) := by
  unfold gIsi kIsiT kIsi
  cases tagD d S with
  | none => rfl
  | some t => dsimp only; all_goals (cases tbl.lookup t <;> rfl)
theorem kIsiT_ap (tbl : List (Tg × Bool)) (t : Tg) : kIsiT tbl S (some t) = kIsi S (tbl.lookup t) := rfl
theorem kIsi_ap (b : Bool) : kIsi S (some b) = .ok (.p (.bl b)) S := rfl
theorem look_hit (t : Tg) (b : Bool) (l : List (Tg × Bool)) : List.lookup t ((t, b) :: l) = some b := by simp [List.lookup_cons]
theorem look_miss (t k : Tg) (b : Bool) (l : List (Tg × Bool)) (h : (t == k) = false) : List.lookup t ((k, b) :: l) = List.lookup t l := by rw [List.lookup_cons, h]
theorem tag_p (q : P) : tagD (.p q) S = tagP q := rfl
theorem tag_int (i : Int) : tagP (.int i) = some (.ty "int") := rfl
theorem tag_bl (i : Bool) : tagP (.bl i) = some (.ty "bool") := rfl
theorem tag_non : tagP .non = some (.ty "NoneType") := rfl
theorem tag_str (i : Str) : tagP (.str i) = some (.ty "str") := rfl
theorem tag_tup (l : List P) : tagP (.tup l) = some (.ty "tuple") := rfl
theorem tag_lst (l : List P) : tagP (.lst l) = some (.ty "list") := rfl
theorem tag_obj (c : Cn) (l : List (Fld × P)) : tagP (.obj c l) = some (.cn c) := rfl
end
end FR

set_option Elab.async false
set_option linter.all false
set_option maxRecDepth 100000
set_option maxHeartbeats 1000000
namespace FR
open PySem PySem.Spec PyProof.Rows L2
/-! ### ratios -/
def rat (t u : Int) : P := .obj .Ratio [(.top, .int t), (.under, .int u)]
/-- p is the ratio t / u, in its lowest terms -/
def IsR (p : P) (t u : Int) : Prop := ∃ a b : Int, p = rat a b ∧ 0 < b ∧ a * u = t * b ∧ Int.gcd a b = 1
theorem cancel {u x y : Int} (hu : u ≠ 0) (h : u * x = u * y) : x = y := Int.eq_of_mul_eq_mul_left hu h
theorem IsR.to {p : P} {t u t' u' : Int} (h : IsR p t u) (hu : 0 < u) (e : t * u' = t' * u) : IsR p t' u' := by
  obtain ⟨a, b, e1, e2, e3, e4⟩ := h
  refine ⟨a, b, e1, e2, cancel (u := u) (by omega) ?_, e4⟩
  grind
theorem fdiv_g {t : Int} {g : Nat} (hg : 0 < g) (h : (g : Int) ∣ t) : t.fdiv g * g = t := by
  rw [Int.fdiv_eq_ediv_of_nonneg _ (Int.natCast_nonneg g)]
  exact Int.ediv_mul_cancel h
theorem IsR.mk {t u : Int} (hu : 0 < u) : IsR (rat (t.fdiv (Nat.gcd t.natAbs u.natAbs : Nat)) (u.fdiv (Nat.gcd t.natAbs u.natAbs : Nat))) t u := by
  have hg : 0 < Nat.gcd t.natAbs u.natAbs := Nat.gcd_pos_of_pos_right _ (by omega)
  have d1 : ((Nat.gcd t.natAbs u.natAbs : Nat) : Int) ∣ t := Int.ofNat_dvd_left.mpr (Nat.gcd_dvd_left _ _)
  have d2 : ((Nat.gcd t.natAbs u.natAbs : Nat) : Int) ∣ u := Int.ofNat_dvd_left.mpr (Nat.gcd_dvd_right _ _)
  have e1 := fdiv_g hg d1
  have e2 := fdiv_g hg d2
  generalize hG : Nat.gcd t.natAbs u.natAbs = g at *
  refine ⟨_, _, rfl, ?_, ?_, ?_⟩
  · rw [Int.fdiv_eq_ediv_of_nonneg _ (Int.natCast_nonneg g)]
    exact Int.ediv_pos_of_pos_of_dvd hu (Int.natCast_nonneg g) d2
  · have hg' : (g : Int) ≠ 0 := by omega
    refine cancel hg' ?_
    grind
  · have h3 : Int.gcd (t.fdiv g * g) (u.fdiv g * g) = Int.gcd (t.fdiv g) (u.fdiv g) * g := by
      rw [Int.gcd_mul_right, Int.natAbs_natCast]
    rw [e1, e2] at h3
    have h4 : Int.gcd t u = g := hG
    rw [h4] at h3
    have : 1 * g = Int.gcd (t.fdiv g) (u.fdiv g) * g := by rw [Nat.one_mul]; exact h3
    exact (Nat.eq_of_mul_eq_mul_right hg this).symm
theorem IsR.int (t : Int) : IsR (rat t 1) t 1 := ⟨t, 1, rfl, by decide, rfl, by simp⟩
/-- what a ratio's parts divide -/
theorem IsR.bd {p : P} {t u : Int} {k m : Nat} (h : IsR p t u) (hu : 0 < u) (ht : Bd k t) (hu2 : Bd m u) : ∃ a b : Int, p = rat a b ∧ 0 < b ∧ a * u = t * b ∧ Int.gcd a b = 1 ∧ Bd k a ∧ Bd m b := by
  obtain ⟨a, b, e1, e2, e3, e4⟩ := h
  refine ⟨a, b, e1, e2, e3, e4, ?_, ?_⟩
  · by_cases h0 : t = 0
    · subst h0
      rw [Int.zero_mul] at e3
      rcases Int.mul_eq_zero.mp e3 with z | z
      · subst z; exact ht
      · omega
    · have : a ∣ t * b := ⟨u, e3.symm⟩
      have d : a.natAbs ∣ t.natAbs := by
        have h1 : a.natAbs ∣ t.natAbs * b.natAbs := by rw [← Int.natAbs_mul]; exact Int.natAbs_dvd_natAbs.mpr this
        exact Nat.Coprime.dvd_of_dvd_mul_right e4 h1
      exact ht.of_le (Nat.le_of_dvd (by omega) d)
  · have : b ∣ a * u := ⟨t, by rw [e3, Int.mul_comm]⟩
    have d : b.natAbs ∣ u.natAbs := by
      have h1 : b.natAbs ∣ a.natAbs * u.natAbs := by rw [← Int.natAbs_mul]; exact Int.natAbs_dvd_natAbs.mpr this
      exact Nat.Coprime.dvd_of_dvd_mul_left (Nat.Coprime.symm e4) h1
    exact hu2.of_le (Nat.le_of_dvd (by omega) d)
theorem gFld_top (a b : P) (S : Store) : gFld .Ratio .top (.p (.obj .Ratio [(.top, a), (.under, b)])) S = .ok (.p a) S := rfl
theorem gFld_under (a b : P) (S : Store) : gFld .Ratio .under (.p (.obj .Ratio [(.top, a), (.under, b)])) S = .ok (.p b) S := rfl
theorem rat_top (a b : Int) (S : Store) : gFld .Ratio .top (.p (rat a b)) S = .ok (.p (.int a)) S := rfl
theorem rat_under (a b : Int) (S : Store) : gFld .Ratio .under (.p (rat a b)) S = .ok (.p (.int b)) S := rfl
theorem isIns_rat (a b : Int) (S : Store) : isIns .Ratio (.p (rat a b)) S = true := rfl
theorem isIns_int (c : Cn) (a : Int) (S : Store) : isIns c (.p (.int a)) S = false := rfl
theorem isInt_int (a : Int) : isInt (.p (.int a)) = true := rfl
theorem isInt_rat (a b : Int) : isInt (.p (rat a b)) = false := rfl
theorem gOwn_rr (F : Fn) (a b c d : Int) (S : Store) : gOwn .Ratio .P F (.p (rat a b)) (.p (rat c d)) S = kP S (F [.p (rat a b), .p (rat c d)] []) := (gOwn_ap S .Ratio .P F _ _ ⟨rfl, .inl rfl⟩).trans (cP2 F S _ _)
theorem gOwn_ri (F : Fn) (a b c : Int) (S : Store) : gOwn .Ratio .P F (.p (rat a b)) (.p (.int c)) S = kP S (F [.p (rat a b), .p (.int c)] []) := (gOwn_ap S .Ratio .P F _ _ ⟨rfl, .inr rfl⟩).trans (cP2 F S _ _)
theorem gOwn_ir (F : Fn) (a b c : Int) (S : Store) : gOwn .Ratio .P F (.p (.int c)) (.p (rat a b)) S = .stuck := rfl
theorem gOwnR_ir (F : Fn) (a b c : Int) (S : Store) : gOwnR .Ratio .P F (.p (.int c)) (.p (rat a b)) S = kP S (F [.p (rat a b), .p (.int c)] []) := (gOwnR_ap S .Ratio .P F _ _ ⟨rfl, rfl⟩).trans (cP2 F S _ _)
theorem gOwn1_r (F : Fn) (a b : Int) (S : Store) : gOwn1 .Ratio .P F (.p (rat a b)) S = kP S (F [.p (rat a b)] []) := (gOwn1_ap S .Ratio .P F _ rfl).trans (cP1 F S _)
theorem noX_kP (S : Store) (r : R D) (q : P) (S' : Store) (h : r = .ok (.p q) S') : noX (kP S r) = .ok (.p q) S := by rw [h]; rfl
theorem gAbsO_r (F : Fn) (a b : Int) (S : Store) : gAbsO .Ratio F [.p (rat a b)] S = noX (kP S (F [.p (rat a b)] [])) := by
  show (if isIns Cn.Ratio (D.p (rat a b)) S = true then noX (callN Mode.P 1 F [] [.p (rat a b)] S) else R.stuck) = _
  rw [if_pos (isIns_rat a b S), cP1]
theorem noX_ok (q : P) (S : Store) : noX (.ok (D.p q) S) = .ok (.p q) S := rfl
theorem tag_rat (a b : Int) : tagP (rat a b) = some (.cn .Ratio) := rfl
theorem gcd_step {a b : Int} (ha : 0 ≤ a) (hb : 0 ≤ b) : Int.gcd b (a.fmod b) = Int.gcd a b := by
  rw [Int.fmod_eq_emod_of_nonneg _ hb]
  obtain ⟨n, rfl⟩ := Int.eq_ofNat_of_zero_le ha
  obtain ⟨m, rfl⟩ := Int.eq_ofNat_of_zero_le hb
  rw [← Int.natCast_emod]
  show Nat.gcd m (n % m) = Nat.gcd n m
  rw [Nat.gcd_comm m (n % m), ← Nat.gcd_rec, Nat.gcd_comm]
end FR
namespace FR
open PySem PySem.Spec PyProof.Rows L2
theorem gCatL_ap (a b : List P) (S : Store) (h : a.length ≤ 500000) (h2 : b.length ≤ 500000) : gCatL (.p (.lst a)) (.p (.lst b)) S = .ok (.p (.lst (a ++ b))) S := if_pos ⟨by omega, by omega, by omega⟩
instance (k : Nat) (x : Int) : Decidable (Bd k x) := by unfold Bd; infer_instance
theorem gEqD_4 (a b c d : Int) (S : Store) : gEqD (.p (.tup [.int a, .int b, .int c, .int d])) (.p (.tup [.int a, .int b, .int c, .int d])) S = .ok (.p (.bl true)) S := by
  simp [gEqD, eqD2, toPD, toPDs, SeqAt.shaped, PyData.eqv, PyData.canLay0, PyData.depth, PyData.eqvAll, PyData.canLayAll0, PyData.depthAll]
end FR

set_option Elab.async false
set_option linter.all false
set_option maxRecDepth 100000
set_option maxHeartbeats 1000000
namespace FR
open PySem PySem.Spec PyProof.Rows L2
section
variable (ρ : Env) (S : Store)
/-! exceptions -/
theorem sRaise0_ap (c : Cn) : sRaise0 c ρ S = .exc (.mk c []) ρ S := rfl
def kRz2 (c : Cn) (f1 f2 : Fld) (ρ : Env) (l : List D) (S1 : Store) : RS := match l with
  | [.p (.str x), .p q] => if x.length ≤ 1000 then .exc (.mk c [(f2, q), (f1, .str x)]) ρ S1 else .stuck
  | _ => .stuck
def kRz1 (c : Cn) (f1 : Fld) (ρ : Env) (l : List D) (S1 : Store) : RS := match l with
  | [.p q] => .exc (.mk c [(f1, q)]) ρ S1
  | _ => .stuck
theorem sRaise2_ap (c : Cn) (f1 f2 : Fld) (fa : FA) : sRaise2 c f1 f2 fa ρ S = (fa ρ S).toS ρ (kRz2 c f1 f2 ρ) := by unfold sRaise2 kRz2; rfl
theorem sRaise1_ap (c : Cn) (f1 : Fld) (fa : FA) : sRaise1 c f1 fa ρ S = (fa ρ S).toS ρ (kRz1 c f1 ρ) := by unfold sRaise1 kRz1; rfl
theorem kRz2_ap (c : Cn) (f1 f2 : Fld) (x : Str) (q : P) (h : x.length ≤ 1000) : kRz2 c f1 f2 ρ [.p (.str x), .p q] S = .exc (.mk c [(f2, q), (f1, .str x)]) ρ S := if_pos h
theorem kRz1_ap (c : Cn) (f1 : Fld) (q : P) : kRz1 c f1 ρ [.p q] S = .exc (.mk c [(f1, q)]) ρ S := rfl
def kTry (cl : List ClR) : RS → RS
  | .exc x ρ1 S1 => hand cl x ρ1 S1
  | r => r
theorem sTry_ap (fb : FC) (cl : List ClR) : sTry fb cl ρ S = kTry cl (fb ρ S) := by unfold sTry kTry; rfl
theorem kTry_nx (cl : List ClR) : kTry cl (.nx ρ S) = .nx ρ S := rfl
theorem kTry_bk (cl : List ClR) : kTry cl (.bk ρ S) = .bk ρ S := rfl
theorem kTry_ct (cl : List ClR) : kTry cl (.ct ρ S) = .ct ρ S := rfl
theorem kTry_ret (cl : List ClR) (d : D) : kTry cl (.ret d S) = .ret d S := rfl
theorem kTry_exc (cl : List ClR) (x : Exc) : kTry cl (.exc x ρ S) = hand cl x ρ S := rfl
def kHand (i : Nat) (g : Exc → FC) (r : List ClR) (x : Exc) (ρ : Env) (S : Store) : Option Bool → RS
  | some true => if i < ρ.length then endX i (g x (ρ.set i none) S) else .stuck
  | some false => hand r x ρ S
  | none => .stuck
theorem hand_nil (x : Exc) : hand [] x ρ S = .exc x ρ S := rfl
theorem hand_cons (tbl : List (Cn × Bool)) (i : Nat) (g : Exc → FC) (r : List ClR) (c : Cn) (fs : List (Fld × P)) : hand ((tbl, i, g) :: r) (.mk c fs) ρ S = kHand i g r (.mk c fs) ρ S (tbl.lookup c) := by
  rw [hand]
  show (match tbl.lookup c with
    | some true => _
    | some false => _
    | none => _) = _
  cases tbl.lookup c with
  | none => rfl
  | some b => cases b <;> rfl
def kH2 (i : Nat) (g : Exc → FC) (x : Exc) (ρ : Env) (S : Store) : Option (Option D) → RS
  | some _ => endX i (g x (ρ.set i none) S)
  | none => .stuck
theorem kHand_t (i : Nat) (g : Exc → FC) (r : List ClR) (x : Exc) : kHand i g r x ρ S (some true) = kH2 i g x ρ S ρ[i]? := by
  show (if i < ρ.length then _ else _) = _
  by_cases h : i < ρ.length
  · rw [if_pos h, List.getElem?_eq_getElem h]; rfl
  · rw [if_neg h, List.getElem?_eq_none (by omega)]; rfl
theorem kH2_ap (i : Nat) (g : Exc → FC) (x : Exc) (o : Option D) : kH2 i g x ρ S (some o) = endX i (g x (ρ.set i none) S) := rfl
theorem kHand_f (i : Nat) (g : Exc → FC) (r : List ClR) (x : Exc) : kHand i g r x ρ S (some false) = hand r x ρ S := rfl
theorem lookC_hit (c : Cn) (b : Bool) (l : List (Cn × Bool)) : List.lookup c ((c, b) :: l) = some b := by simp [List.lookup_cons]
theorem lookC_miss (c k : Cn) (b : Bool) (l : List (Cn × Bool)) (h : (c == k) = false) : List.lookup c ((k, b) :: l) = List.lookup c l := by rw [List.lookup_cons, h]
theorem lookF_hit (c : Fld) (b : P) (l : List (Fld × P)) : List.lookup c ((c, b) :: l) = some b := by simp [List.lookup_cons]
theorem lookF_miss (c k : Fld) (b : P) (l : List (Fld × P)) (h : (c == k) = false) : List.lookup c ((k, b) :: l) = List.lookup c l := by rw [List.lookup_cons, h]
theorem lookD_hit (c : Fld) (b : D) (l : List (Fld × D)) : List.lookup c ((c, b) :: l) = some b := by simp [List.lookup_cons]
theorem lookD_miss (c k : Fld) (b : D) (l : List (Fld × D)) (h : (c == k) = false) : List.lookup c ((k, b) :: l) = List.lookup c l := by rw [List.lookup_cons, h]
theorem endX_nx (i : Nat) : endX i (.nx ρ S) = .nx (ρ.set i none) S := rfl
theorem endX_bk (i : Nat) : endX i (.bk ρ S) = .bk (ρ.set i none) S := rfl
theorem endX_ct (i : Nat) : endX i (.ct ρ S) = .ct (ρ.set i none) S := rfl
theorem endX_ret (i : Nat) (d : D) : endX i (.ret d S) = .ret d S := rfl
def kXset (j : Nat) (g : Exc → FC) (x : Exc) (ρ : Env) (dd : D) (S1 : Store) : RS := g x (ρ.set j (some dd)) S1
theorem gXset_ap (j : Nat) (f : Exc → FE) (g : Exc → FC) (x : Exc) : gXset j f g x ρ S = (f x ρ S).toS ρ (kXset j g x ρ) := rfl
theorem kXset_ap (j : Nat) (g : Exc → FC) (x : Exc) (d : D) : kXset j g x ρ d S = g x (ρ.set j (some d)) S := rfl
theorem gXf_ap (cs : List Cn) (n : Fld) (c : Cn) (fs : List (Fld × P)) (h : cs.contains c = true) : gXf cs n (.mk c fs) ρ S = oP S (fs.lookup n) := by
  unfold gXf
  have hc0 : c ∈ cs := by simpa using h
  have hc : (Exc.mk c fs).c ∈ cs := hc0
  rw [if_pos hc]
  show (match fs.lookup n with
    | some p => _
    | none => _) = _
  cases fs.lookup n <;> rfl
theorem gXi_ap (tbl : List (Cn × Bool)) (c : Cn) (fs : List (Fld × P)) : gXi tbl (.mk c fs) ρ S = kIsi S (tbl.lookup c) := by
  unfold gXi
  show (match tbl.lookup c with
    | some b => _
    | none => _) = _
  cases tbl.lookup c <;> rfl
theorem toS_excX {α : Type} (x : Exc) (k : α → Store → RS) : (R.exc x S : R α).toS ρ k = .exc x ρ S := rfl
/-! truth -/
def kTruD (d : D) (S1 : Store) : R Bool := kTru (truD d S1) S1
theorem fTru_ap (f : FE) : fTru f ρ S = (f ρ S).bind kTruD := rfl
theorem kTruD_non : kTruD (.p .non) S = .ok false S := rfl
theorem kTruD_bl (b : Bool) : kTruD (.p (.bl b)) S = .ok b S := rfl
theorem kTruD_int (i : Int) : kTruD (.p (.int i)) S = .ok (i != 0) S := rfl
theorem kTruD_tup (l : List P) : kTruD (.p (.tup l)) S = .ok (!l.isEmpty) S := rfl
theorem kTruD_lst (l : List P) : kTruD (.p (.lst l)) S = .ok (!l.isEmpty) S := rfl
theorem kTruD_r0 (l : List D) : kTruD (.r 0) (.lst l :: S) = .ok (!l.isEmpty) (.lst l :: S) := rfl
def kTruO (c : Cn) (m : Mode) (F : Fn) (d : D) (S1 : Store) : R Bool := if isIns c d S1 = true then kBl (callN m 1 F [] [d] S1) else .stuck
theorem fTruO_ap (c : Cn) (m : Mode) (F : Fn) (f : FE) : fTruO c m F f ρ S = (f ρ S).bind (kTruO c m F) := rfl
theorem kTruO_r (F : Fn) (a b : Int) : kTruO .Ratio .P F (.p (rat a b)) S = kBl (kP S (F [.p (rat a b)] [])) := (if_pos (isIns_rat a b S)).trans (by rw [cP1])
theorem kBl_ok (b : Bool) : kBl (.ok (.p (.bl b)) S) = .ok b S := rfl
theorem kBl_exc (x : Exc) : kBl (.exc x S) = .exc x S := rfl
/-! comparisons -/
theorem isIns_o (c : Cn) (gs : List (Fld × P)) : isIns c (.p (.obj c gs)) S = true := by show decide (c = c) = true; simp
theorem gCmp_ap (c : Cn) (m : Mode) (F : Fn) (x y : D) (h : isIns c x S = true ∧ (isIns c y S = true ∨ othT y = true)) : gCmp c m F x y S = callN m 2 F [] [x, y] S := if_pos h
theorem gCmp_rr (F : Fn) (a b c d : Int) : gCmp .Ratio .P F (.p (rat a b)) (.p (rat c d)) S = kP S (F [.p (rat a b), .p (rat c d)] []) := (gCmp_ap S .Ratio .P F _ _ ⟨rfl, .inl rfl⟩).trans (cP2 F S _ _)
theorem gCmp_ri (F : Fn) (a b c : Int) : gCmp .Ratio .P F (.p (rat a b)) (.p (.int c)) S = kP S (F [.p (rat a b), .p (.int c)] []) := (gCmp_ap S .Ratio .P F _ _ ⟨rfl, .inr rfl⟩).trans (cP2 F S _ _)
theorem gCmp_i (c : Cn) (m : Mode) (F : Fn) (a : Int) (y : D) : gCmp c m F (.p (.int a)) y S = .stuck := if_neg (fun h => by cases h.1)
theorem gCmp_t (c : Cn) (m : Mode) (F : Fn) (a : List P) (y : D) : gCmp c m F (.p (.tup a)) y S = .stuck := if_neg (fun h => by cases h.1)
theorem gCmp_oo (c : Cn) (F : Fn) (gs hs : List (Fld × P)) : gCmp c .P F (.p (.obj c gs)) (.p (.obj c hs)) S = kP S (F [.p (.obj c gs), .p (.obj c hs)] []) := (gCmp_ap S c .P F _ _ ⟨isIns_o S c gs, .inl (isIns_o S c hs)⟩).trans (cP2 F S _ _)
theorem gCmp_ot (c : Cn) (F : Fn) (gs : List (Fld × P)) (l : List P) : gCmp c .P F (.p (.obj c gs)) (.p (.tup l)) S = kP S (F [.p (.obj c gs), .p (.tup l)] []) := (gCmp_ap S c .P F _ _ ⟨isIns_o S c gs, .inr rfl⟩).trans (cP2 F S _ _)
theorem gCmpR_ir (F : Fn) (a b c : Int) : gCmpR .Ratio .P F (.p (.int c)) (.p (rat a b)) S = kP S (F [.p (rat a b), .p (.int c)] []) := (if_pos ⟨rfl, rfl⟩).trans (cP2 F S _ _)
theorem gCmpNe_ap (c : Cn) (F : Fn) (x y : D) (h : isIns c x S = true ∧ (isIns c y S = true ∨ othT y = true)) : gCmpNe c F x y S = kNeB (callN .P 2 F [] [x, y] S) := if_pos h
theorem gCmpNe_rr (F : Fn) (a b c d : Int) : gCmpNe .Ratio F (.p (rat a b)) (.p (rat c d)) S = kNeB (kP S (F [.p (rat a b), .p (rat c d)] [])) := (gCmpNe_ap S .Ratio F _ _ ⟨rfl, .inl rfl⟩).trans (by rw [cP2])
theorem gCmpNe_ri (F : Fn) (a b c : Int) : gCmpNe .Ratio F (.p (rat a b)) (.p (.int c)) S = kNeB (kP S (F [.p (rat a b), .p (.int c)] [])) := (gCmpNe_ap S .Ratio F _ _ ⟨rfl, .inr rfl⟩).trans (by rw [cP2])
theorem kNeB_ap (b : Bool) : kNeB (.ok (.p (.bl b)) S) = .ok (.p (.bl (!b))) S := rfl
/-! in -/
def kInF (neg : Bool) (a : P) (S : Store) : Option (List P) → R D
  | some l => inP neg a l S
  | none => .stuck
theorem gInF_ap (neg : Bool) (a : P) (y : D) : gInF neg (.p a) y S = kInF neg a S (itemsP y S) := by
  unfold gInF kInF
  cases itemsP y S <;> rfl
theorem items_t (l : List P) : itemsP (.p (.tup l)) S = some l := rfl
theorem items_l (l : List P) : itemsP (.p (.lst l)) S = some l := rfl
theorem kInF_ap (neg : Bool) (a : P) (l : List P) : kInF neg a S (some l) = inP neg a l S := rfl
theorem inP_3 (neg : Bool) (i a b c : Int) : inP neg (.int i) [.int a, .int b, .int c] S = .ok (.p (.bl (if neg then !decide (i = a ∨ i = b ∨ i = c) else decide (i = a ∨ i = b ∨ i = c)))) S := by
  have : inV (.int i) [.int a, .int b, .int c] = decide (i = a ∨ i = b ∨ i = c) := by
    simp [inV, eqV, Bool.decide_or, eq_comm, BEq.beq]
  show R.ok (D.p (P.bl (if neg then !inV (.int i) [.int a, .int b, .int c] else inV (.int i) [.int a, .int b, .int c]))) S = _
  rw [this]
theorem gInO_ap (neg : Bool) (c : Cn) (F : Fn) (a : P) (gs : List (Fld × P)) : gInO neg c .P F (.p a) (.p (.obj c gs)) S = kInB neg (kP S (F [.p (.obj c gs), .p a] [])) := (if_pos (isIns_o S c gs)).trans (by rw [cP2])
theorem kInB_t (b : Bool) : kInB true (.ok (.p (.bl b)) S) = .ok (.p (.bl (!b))) S := rfl
theorem kInB_f (b : Bool) : kInB false (.ok (.p (.bl b)) S) = .ok (.p (.bl b)) S := rfl
/-! classes, methods, keywords -/
def kC (c : Cn) (g : List D → Store → R D) (l : List D) (S2 : Store) : R D := g (.p (.nm c.x) :: l) S2
theorem cC_ap (c : Cn) (g : List D → Store → R D) (fa : FA) : cC c g fa ρ S = (fa ρ S).bind (kC c g) := rfl
theorem kC_ap (c : Cn) (g : List D → Store → R D) (l : List D) : kC c g l S = g (.p (.nm c.x) :: l) S := rfl
def kV (c : Cn) (g : List D → Store → R D) (fa : FA) (ρ : Env) (d : D) (S1 : Store) : R D := match d with
  | .p (.nm x) => if x = c.x then (fa ρ S1).bind fun l S2 => g l S2 else .stuck
  | _ => .stuck
theorem cV_ap (c : Cn) (fn : FE) (g : List D → Store → R D) (fa : FA) : cV c fn g fa ρ S = (fn ρ S).bind (kV c g fa ρ) := by unfold cV kV; rfl
theorem kV_ap (c : Cn) (g : List D → Store → R D) (fa : FA) : kV c g fa ρ (.p (.nm c.x)) S = (fa ρ S).bind g := if_pos rfl
def kMeth2 (m : Mode) (n : Nat) (F : Fn) (dvs : List P) (o : D) (l : List D) (S2 : Store) : R D := callN m n F dvs (o :: l) S2
def kMeth (c : Cn) (m : Mode) (n : Nat) (F : Fn) (dvs : List P) (fa : FA) (ρ : Env) (o : D) (S1 : Store) : R D := if isIns c o S1 = true then (fa ρ S1).bind (kMeth2 m n F dvs o) else .stuck
theorem fMeth_ap (c : Cn) (m : Mode) (n : Nat) (F : Fn) (dvs : List P) (fo : FE) (fa : FA) : fMeth c m n F dvs fo fa ρ S = (fo ρ S).bind (kMeth c m n F dvs fa ρ) := rfl
theorem kMeth_o (c : Cn) (m : Mode) (n : Nat) (F : Fn) (dvs : List P) (fa : FA) (gs : List (Fld × P)) : kMeth c m n F dvs fa ρ (.p (.obj c gs)) S = (fa ρ S).bind (kMeth2 m n F dvs (.p (.obj c gs))) := if_pos (isIns_o S c gs)
theorem kMeth_r (m : Mode) (n : Nat) (F : Fn) (dvs : List P) (fa : FA) (a b : Int) : kMeth .Ratio m n F dvs fa ρ (.p (rat a b)) S = (fa ρ S).bind (kMeth2 m n F dvs (.p (rat a b))) := if_pos rfl
theorem kMeth2_ap (m : Mode) (n : Nat) (F : Fn) (dvs : List P) (o : D) (l : List D) : kMeth2 m n F dvs o l S = callN m n F dvs (o :: l) S := rfl
def kMethK3 (m : Mode) (n nk : Nat) (F : Fn) (o : D) (l l2 : List D) (S3 : Store) : R D := if l2.length = nk ∧ l.length + 1 = n - nk then callN m n F [] (o :: (l ++ l2)) S3 else .stuck
def kMethK2 (m : Mode) (n nk : Nat) (F : Fn) (fk : FA) (ρ : Env) (o : D) (l : List D) (S2 : Store) : R D := (fk ρ S2).bind (kMethK3 m n nk F o l)
def kMethK (c : Cn) (m : Mode) (n nk : Nat) (F : Fn) (fa fk : FA) (ρ : Env) (o : D) (S1 : Store) : R D := if isIns c o S1 = true then (fa ρ S1).bind (kMethK2 m n nk F fk ρ o) else .stuck
theorem fMethK_ap (c : Cn) (m : Mode) (n nk : Nat) (F : Fn) (fo : FE) (fa fk : FA) : fMethK c m n nk F fo fa fk ρ S = (fo ρ S).bind (kMethK c m n nk F fa fk ρ) := rfl
theorem kMethK_o (c : Cn) (m : Mode) (n nk : Nat) (F : Fn) (fa fk : FA) (gs : List (Fld × P)) : kMethK c m n nk F fa fk ρ (.p (.obj c gs)) S = (fa ρ S).bind (kMethK2 m n nk F fk ρ (.p (.obj c gs))) := if_pos (isIns_o S c gs)
theorem kMethK2_ap (m : Mode) (n nk : Nat) (F : Fn) (fk : FA) (o : D) (l : List D) : kMethK2 m n nk F fk ρ o l S = (fk ρ S).bind (kMethK3 m n nk F o l) := rfl
theorem kMethK3_ap (m : Mode) (n nk : Nat) (F : Fn) (o : D) (l l2 : List D) (h : (decide (l2.length = nk) && decide (l.length + 1 = n - nk)) = true) : kMethK3 m n nk F o l l2 S = callN m n F [] (o :: (l ++ l2)) S := if_pos (by simpa using h)
def kCallK2 (m : Mode) (n nk : Nat) (F : Fn) (l l2 : List D) (S2 : Store) : R D := if l2.length = nk ∧ l.length = n - nk then callN m n F [] (l ++ l2) S2 else .stuck
def kCallK (m : Mode) (n nk : Nat) (F : Fn) (fk : FA) (ρ : Env) (l : List D) (S1 : Store) : R D := (fk ρ S1).bind (kCallK2 m n nk F l)
theorem callK_ap (m : Mode) (n nk : Nat) (F : Fn) (fa fk : FA) : callK m n nk F fa fk ρ S = (fa ρ S).bind (kCallK m n nk F fk ρ) := rfl
theorem kCallK_ap (m : Mode) (n nk : Nat) (F : Fn) (fk : FA) (l : List D) : kCallK m n nk F fk ρ l S = (fk ρ S).bind (kCallK2 m n nk F l) := rfl
theorem kCallK2_ap (m : Mode) (n nk : Nat) (F : Fn) (l l2 : List D) (h : (decide (l2.length = nk) && decide (l.length = n - nk)) = true) : kCallK2 m n nk F l l2 S = callN m n F [] (l ++ l2) S := if_pos (by simpa using h)
def kMkK2 (c : Cn) (n nk : Nat) (F : Fn) (l l2 : List D) (S2 : Store) : R D := if l2.length = nk ∧ l.length + 1 = n - nk then mkP c n F [] (l ++ l2) S2 else .stuck
def kMkK (c : Cn) (n nk : Nat) (F : Fn) (fk : FA) (ρ : Env) (l : List D) (S1 : Store) : R D := (fk ρ S1).bind (kMkK2 c n nk F l)
theorem mkK_ap (c : Cn) (n nk : Nat) (F : Fn) (fa fk : FA) : mkK c n nk F fa fk ρ S = (fa ρ S).bind (kMkK c n nk F fk ρ) := rfl
theorem kMkK_ap (c : Cn) (n nk : Nat) (F : Fn) (fk : FA) (l : List D) : kMkK c n nk F fk ρ l S = (fk ρ S).bind (kMkK2 c n nk F l) := rfl
theorem kMkK2_ap (c : Cn) (n nk : Nat) (F : Fn) (l l2 : List D) (h : (decide (l2.length = nk) && decide (l.length + 1 = n - nk)) = true) : kMkK2 c n nk F l l2 S = mkP c n F [] (l ++ l2) S := if_pos (by simpa using h)
/-! with one default -/
variable (F : Fn)
theorem eP0 (q : P) : callN .P 1 F [q] [] S = kP S (F [.p q] []) := (callN_ap S .P 1 F [q] [] rfl).trans (callP_ap S F [q] [])
theorem eP1 (q a0 : P) : callN .P 2 F [q] [.p a0] S = kP S (F [.p a0, .p q] []) := (callN_ap S .P 2 F [q] [.p a0] rfl).trans (callP_ap S F [q] [.p a0])
theorem eP2 (q a0 a1 : P) : callN .P 3 F [q] [.p a0, .p a1] S = kP S (F [.p a0, .p a1, .p q] []) := (callN_ap S .P 3 F [q] [.p a0, .p a1] rfl).trans (callP_ap S F [q] [.p a0, .p a1])
theorem eP3 (q a0 a1 a2 : P) : callN .P 4 F [q] [.p a0, .p a1, .p a2] S = kP S (F [.p a0, .p a1, .p a2, .p q] []) := (callN_ap S .P 4 F [q] [.p a0, .p a1, .p a2] rfl).trans (callP_ap S F [q] [.p a0, .p a1, .p a2])
theorem mkP_apd (c : Cn) (n : Nat) (l dvs : List P) (h : l.length + dvs.length + 1 = n) : mkP c n F dvs (l.map .p) S = kMk S (F (.r 0 :: (l ++ dvs).map .p) [.ins c []]) := by
  have e : mkP c n F [] ((l ++ dvs).map .p) S = kMk S (F (.r 0 :: (l ++ dvs).map .p) [.ins c []]) := mkP_ap S F c n (l ++ dvs) (by rw [List.length_append]; exact h)
  rw [← e]
  unfold mkP
  rw [pureL_map, pureL_map]
  dsimp only
  rw [if_pos h, if_pos (by rw [List.length_append]; exact h), List.append_nil]
theorem mkd1 (c : Cn) (q a0 : P) : mkP c 3 F [q] [.p a0] S = kMk S (F [.r 0, .p a0, .p q] [.ins c []]) := mkP_apd S F c 3 [a0] [q] rfl
theorem mkd2 (c : Cn) (q a0 a1 : P) : mkP c 4 F [q] [.p a0, .p a1] S = kMk S (F [.r 0, .p a0, .p a1, .p q] [.ins c []]) := mkP_apd S F c 4 [a0, a1] [q] rfl
/-! fields, properties, constants -/
theorem gProp_o (c : Cn) (gs : List (Fld × P)) : gProp c F (.p (.obj c gs)) S = noX (kP S (F [.p (.obj c gs)] [])) := (if_pos (isIns_o S c gs)).trans (by rw [callP_ap]; rfl)
theorem gProp_r (a b : Int) : gProp .Ratio F (.p (rat a b)) S = noX (kP S (F [.p (rat a b)] [])) := gProp_o S F .Ratio _
theorem gCon_o (c : Cn) (i : Int) (gs : List (Fld × P)) : gCon c i (.p (.obj c gs)) S = .ok (.p (.int i)) S := if_pos (isIns_o S c gs)
theorem gCon_c (c : Cn) (i : Int) (gs : List (Fld × D)) : gCon c i (.r 0) (.ins c gs :: S) = .ok (.p (.int i)) (.ins c gs :: S) := if_pos (by show decide (c = c) = true; simp)
theorem gCon_r (i a b : Int) : gCon .Ratio i (.p (rat a b)) S = .ok (.p (.int i)) S := gCon_o S .Ratio i _
theorem gFld_o (c : Cn) (x : Fld) (gs : List (Fld × P)) : gFld c x (.p (.obj c gs)) S = oP S (gs.lookup x) := by
  unfold gFld
  simp only [if_true]
  cases gs.lookup x <;> rfl
theorem gFld_c (c : Cn) (x : Fld) (gs : List (Fld × D)) : gFld c x (.r 0) (.ins c gs :: S) = oD (.ins c gs :: S) (gs.lookup x) := by
  show (if c = c then _ else _) = _
  rw [if_pos rfl]
  cases gs.lookup x <;> rfl
theorem gInt1_bl (b : Bool) : gInt1 [.p (.bl b)] S = .ok (.p (.int (if b then 1 else 0))) S := rfl
theorem gBool1_i (i : Int) : gBool1 [.p (.int i)] S = .ok (.p (.bl (i != 0))) S := rfl
theorem gBool1_b (b : Bool) : gBool1 [.p (.bl b)] S = .ok (.p (.bl b)) S := rfl
theorem gSumI_ap (l : List Int) : gSumI [.p (.lst (l.map .int))] S = .ok (.p (.int l.sum)) S := by
  show (match asInts (l.map .int) with
    | some k => _
    | none => _) = _
  rw [asInts_map]
theorem fChain_ap (g g' : D → D → Store → R D) (fa fb fc : FE) : fChain g g' fa fb fc ρ S = (fa ρ S).bind fun x S1 => (fb ρ S1).bind fun y S2 => (g x y S2).bind fun z S3 => match z with
  | .p (.bl true) => (fc ρ S3).bind fun t S4 => g' y t S4
  | .p (.bl false) => .ok (.p (.bl false)) S3
  | _ => .stuck := rfl
def kCh3 (g' : D → D → Store → R D) (y : D) (t : D) (S4 : Store) : R D := g' y t S4
def kCh2 (g' : D → D → Store → R D) (fc : FE) (ρ : Env) (y z : D) (S3 : Store) : R D := match z with
  | .p (.bl true) => (fc ρ S3).bind (kCh3 g' y)
  | .p (.bl false) => .ok (.p (.bl false)) S3
  | _ => .stuck
def kCh1 (g g' : D → D → Store → R D) (fc : FE) (ρ : Env) (x y : D) (S2 : Store) : R D := (g x y S2).bind (kCh2 g' fc ρ y)
def kCh0 (g g' : D → D → Store → R D) (fb fc : FE) (ρ : Env) (x : D) (S1 : Store) : R D := (fb ρ S1).bind (kCh1 g g' fc ρ x)
theorem fChain_eq (g g' : D → D → Store → R D) (fa fb fc : FE) : fChain g g' fa fb fc ρ S = (fa ρ S).bind (kCh0 g g' fb fc ρ) := by unfold fChain kCh0 kCh1 kCh2 kCh3; rfl
theorem kCh0_ap (g g' : D → D → Store → R D) (fb fc : FE) (x : D) : kCh0 g g' fb fc ρ x S = (fb ρ S).bind (kCh1 g g' fc ρ x) := rfl
theorem kCh1_ap (g g' : D → D → Store → R D) (fc : FE) (x y : D) : kCh1 g g' fc ρ x y S = (g x y S).bind (kCh2 g' fc ρ y) := rfl
theorem kCh2_t (g' : D → D → Store → R D) (fc : FE) (y : D) : kCh2 g' fc ρ y (.p (.bl true)) S = (fc ρ S).bind (kCh3 g' y) := rfl
theorem kCh2_f (g' : D → D → Store → R D) (fc : FE) (y : D) : kCh2 g' fc ρ y (.p (.bl false)) S = .ok (.p (.bl false)) S := rfl
theorem kCh3_ap (g' : D → D → Store → R D) (y t : D) : kCh3 g' y t S = g' y t S := rfl
theorem gIsN_non : gIsN (.p .non) (.p .non) S = .ok (.p (.bl true)) S := rfl
theorem gIsN_int (i : Int) : gIsN (.p (.int i)) (.p .non) S = .ok (.p (.bl false)) S := rfl
theorem gIsN_tup (i : List P) : gIsN (.p (.tup i)) (.p .non) S = .ok (.p (.bl false)) S := rfl
theorem gNotN_non : gNotN (.p .non) (.p .non) S = .ok (.p (.bl false)) S := rfl
theorem gNotN_int (i : Int) : gNotN (.p (.int i)) (.p .non) S = .ok (.p (.bl true)) S := rfl
theorem gNotN_tup (i : List P) : gNotN (.p (.tup i)) (.p .non) S = .ok (.p (.bl true)) S := rfl
theorem isNotO (b : Bool) : (!(!b)) = b := by cases b <;> rfl
end
end FR

set_option Elab.async false
set_option linter.all false
set_option maxRecDepth 100000
set_option maxHeartbeats 1000000
namespace FR
open PySem PySem.Spec PyProof.Rows L2
theorem IsR.uniq {p q : P} {t u : Int} (hu : 0 < u) (hp : IsR p t u) (hq : IsR q t u) : p = q := by
  obtain ⟨a, b, rfl, b0, e1, g1⟩ := hp
  obtain ⟨c, d, rfl, d0, e2, g2⟩ := hq
  have e : a * d = c * b := by
    refine cancel (u := u) (by omega) ?_
    grind
  have h1 : b.natAbs ∣ d.natAbs := by
    have : b.natAbs ∣ a.natAbs * d.natAbs := by rw [← Int.natAbs_mul, e, Int.natAbs_mul]; exact Nat.dvd_mul_left _ _
    exact Nat.Coprime.dvd_of_dvd_mul_left (Nat.Coprime.symm g1) this
  have h2 : d.natAbs ∣ b.natAbs := by
    have : d.natAbs ∣ c.natAbs * b.natAbs := by rw [← Int.natAbs_mul, ← e, Int.natAbs_mul]; exact Nat.dvd_mul_left _ _
    exact Nat.Coprime.dvd_of_dvd_mul_left (Nat.Coprime.symm g2) this
  have h3 := Nat.dvd_antisymm h1 h2
  have h4 : b = d := by omega
  subst h4
  have : a = c := Int.eq_of_mul_eq_mul_right (by omega) e
  rw [this]
theorem isR_rat {a b t u : Int} (hb : 0 < b) (he : a * u = t * b) (hg : Int.gcd a b = 1) : IsR (rat a b) t u := ⟨a, b, rfl, hb, he, hg⟩
/-- a whole number -/
theorem IsR.of_int {p : P} {t : Int} (h : IsR p t 1) : p = rat t 1 := IsR.uniq (by decide) h (IsR.int t)
theorem rat_inj {a b c d : Int} (h : rat a b = rat c d) : a = c ∧ b = d := by
  unfold rat at h
  simp only [P.obj.injEq, List.cons.injEq, Prod.mk.injEq, P.int.injEq, true_and, and_true] at h
  exact h
theorem Bd.one {k : Nat} (h : 0 < k) : Bd k 1 := Bd.mono (show Bd 1 1 by decide) h
theorem Bd.zero {k : Nat} : Bd k 0 := by unfold Bd; exact Nat.pow_pos (by decide)
theorem bd200 {x : Int} (h1 : -1000000000000000000000000000000000000000000000000000000000000 ≤ x) (h2 : x ≤ 1000000000000000000000000000000000000000000000000000000000000) : Bd 200 x := by
  show x.natAbs < 2 ^ 200
  have : (2 : Nat) ^ 200 = 1606938044258990275541962092341162602522202993782792835301376 := by decide
  rw [this]
  omega
theorem bd60 {x : Int} (h1 : -1000000000000000000 < x) (h2 : x < 1000000000000000000) : Bd 60 x := by
  show x.natAbs < 2 ^ 60
  have : (2 : Nat) ^ 60 = 1152921504606846976 := by decide
  rw [this]
  omega
theorem fdiv_neg_neg (a b : Int) : (-a).fdiv (-b) = a.fdiv b := Int.neg_fdiv_neg a b
end FR
namespace FR
open PySem PySem.Spec PyProof.Rows L2
theorem fdiv_pos_iff {x y k : Int} (hy : 0 < y) (h1 : k * y ≤ x) (h2 : x < (k + 1) * y) : x.fdiv y = k := by
  rw [Int.fdiv_eq_ediv_of_nonneg _ (by omega)]
  have a : k ≤ x / y := (Int.le_ediv_iff_mul_le hy).mpr h1
  have b : x / y < k + 1 := (Int.ediv_lt_iff_lt_mul hy).mpr h2
  omega
theorem fdiv_le {x y : Int} (hy : 0 < y) : x.fdiv y * y ≤ x := by
  rw [Int.fdiv_eq_ediv_of_nonneg _ (by omega)]
  exact Int.ediv_mul_le _ (by omega)
theorem fdiv_lt {x y : Int} (hy : 0 < y) : x < (x.fdiv y + 1) * y := by
  rw [Int.fdiv_eq_ediv_of_nonneg _ (by omega)]
  exact Int.lt_ediv_add_one_mul_self _ hy
theorem fdiv_cross_pos {x y x' y' : Int} (hy : 0 < y) (hy' : 0 < y') (h : x * y' = x' * y) : x.fdiv y = x'.fdiv y' := by
  symm
  refine fdiv_pos_iff hy' ?_ ?_
  · have h1 := fdiv_le (x := x) hy
    have h2 : x.fdiv y * y * y' ≤ x * y' := Int.mul_le_mul_of_nonneg_right h1 (by omega)
    rw [h] at h2
    refine Int.le_of_mul_le_mul_right (a := y) ?_ hy
    have e : x.fdiv y * y * y' = x.fdiv y * y' * y := by grind
    omega
  · have h1 := fdiv_lt (x := x) hy
    have h2 : x * y' < (x.fdiv y + 1) * y * y' := Int.mul_lt_mul_of_pos_right h1 hy'
    rw [h] at h2
    refine Int.lt_of_mul_lt_mul_right (a := y) ?_ (by omega)
    have e : (x.fdiv y + 1) * y * y' = (x.fdiv y + 1) * y' * y := by grind
    omega
theorem fdiv_cross {x y x' y' : Int} (hy : y ≠ 0) (hy' : y' ≠ 0) (h : x * y' = x' * y) : x.fdiv y = x'.fdiv y' := by
  rcases Int.lt_or_gt_of_ne hy with z | z <;> rcases Int.lt_or_gt_of_ne hy' with z' | z'
  · rw [← fdiv_neg_neg x y, ← fdiv_neg_neg x' y']
    exact fdiv_cross_pos (by omega) (by omega) (by grind)
  · rw [← fdiv_neg_neg x y]
    exact fdiv_cross_pos (by omega) z' (by grind)
  · rw [← fdiv_neg_neg x' y']
    exact fdiv_cross_pos z (by omega) (by grind)
  · exact fdiv_cross_pos z z' h
theorem Bd.fdiv {k : Nat} {x y : Int} (h : Bd k x) (hy : 0 < y) : Bd k (x.fdiv y) := by
  refine h.of_le ?_
  have h1 := fdiv_le (x := x) hy
  have h2 := fdiv_lt (x := x) hy
  by_cases h0 : 0 ≤ x.fdiv y
  · have : x.fdiv y ≤ x.fdiv y * y := by
      have := Int.mul_le_mul_of_nonneg_left (show (1 : Int) ≤ y by omega) h0
      omega
    omega
  · have : (x.fdiv y + 1) * y ≤ (x.fdiv y + 1) * 1 := Int.mul_le_mul_of_nonpos_left (by omega) (show (1 : Int) ≤ y by omega)
    omega
theorem Bd.fdiv' {k : Nat} {x y : Int} (h : Bd k x) (hy : y ≠ 0) : Bd k (x.fdiv y) := by
  rcases Int.lt_or_gt_of_ne hy with z | z
  · rw [← fdiv_neg_neg]
    exact h.neg.fdiv (by omega)
  · exact h.fdiv z
/-- the right side, as as_ratio makes it -/
def RSide (q : P) (t u : Int) : Prop := IsR q t u ∨ (q = .int t ∧ u = 1)
end FR
namespace FR
open PySem PySem.Spec PyProof.Rows L2
def kAsg2 : FR.Env → Store → RS := fun ρ' S2 => .nx ρ' S2
def kAsg (g : FG) (ρ : FR.Env) (d : D) (S1 : Store) : RS := (g d ρ S1).toS ρ kAsg2
theorem sAsg_ap (ρ : FR.Env) (S : Store) (f : FE) (g : FG) : sAsg f g ρ S = (f ρ S).toS ρ (kAsg g ρ) := rfl
theorem kAsg_ap (ρ : FR.Env) (S : Store) (g : FG) (d : D) : kAsg g ρ d S = (g d ρ S).toS ρ kAsg2 := rfl
theorem kAsg2_ap (ρ : FR.Env) (S : Store) : kAsg2 ρ S = .nx ρ S := rfl
def ofE (S : Store) : Option FR.Env → R FR.Env
  | some ρ => .ok ρ S
  | none => .stuck
theorem gOf_ap (ρ : FR.Env) (S : Store) (f : FGp) (d : D) : gOf f d ρ S = ofE S (f d ρ) := by
  unfold gOf ofE
  cases f d ρ <;> rfl
theorem ofE_some (ρ : FR.Env) (S : Store) : ofE S (some ρ) = .ok ρ S := rfl
section
variable (g : List P → FR.Env → Option FR.Env) (ρ : FR.Env)
theorem pTup_1 (a : P) : pTup 1 g (.p (.tup [a])) ρ = g [a] ρ := rfl
theorem pTup_2 (a b : P) : pTup 2 g (.p (.tup [a, b])) ρ = g [a, b] ρ := rfl
theorem pTup_3 (a b c : P) : pTup 3 g (.p (.tup [a, b, c])) ρ = g [a, b, c] ρ := rfl
theorem pTup_4 (a b c d : P) : pTup 4 g (.p (.tup [a, b, c, d])) ρ = g [a, b, c, d] ρ := rfl
theorem pTup_5 (a b c d e : P) : pTup 5 g (.p (.tup [a, b, c, d, e])) ρ = g [a, b, c, d, e] ρ := rfl
theorem pCons_ap (f : FGp) (a : P) (r : List P) : pCons f g (a :: r) ρ = (f (.p a) ρ).bind (g r) := rfl
theorem pNil_ap : pNil [] ρ = some ρ := rfl
theorem o_bind_some {α β : Type} (a : α) (f : α → Option β) : (some a).bind f = f a := rfl
end
end FR
namespace FR
open PySem PySem.Spec PyProof.Rows L2
section
variable (m : Mode) (F : Fn) (o a b c d e : D) (S : Store)
theorem kMethK3_01 : kMethK3 m 2 1 F o [] [a] S = callN m 2 F [] [o, a] S := rfl
theorem kMethK3_11 : kMethK3 m 3 1 F o [a] [b] S = callN m 3 F [] [o, a, b] S := rfl
theorem kMethK3_21 : kMethK3 m 4 1 F o [a, b] [c] S = callN m 4 F [] [o, a, b, c] S := rfl
theorem kMethK3_31 : kMethK3 m 5 1 F o [a, b, c] [d] S = callN m 5 F [] [o, a, b, c, d] S := rfl
theorem kCallK2_11 : kCallK2 m 2 1 F [a] [b] S = callN m 2 F [] [a, b] S := rfl
theorem kCallK2_21 : kCallK2 m 3 1 F [a, b] [c] S = callN m 3 F [] [a, b, c] S := rfl
theorem kCallK2_31 : kCallK2 m 4 1 F [a, b, c] [d] S = callN m 4 F [] [a, b, c, d] S := rfl
theorem kCallK2_41 : kCallK2 m 5 1 F [a, b, c, d] [e] S = callN m 5 F [] [a, b, c, d, e] S := rfl
end
end FR
namespace FR
open PySem PySem.Spec PyProof.Rows L2
/-! a comprehension over a list that is a cell -/
theorem lcO_go {o : Option (Nat × List D)} {g : FGp} {t : FT} {f : FE} {ρ0 : FR.Env} {S : Store} {keep : P → Bool} {h : P → P} (hc : ∀ ac, chk o (S ++ [.lst ac])) : ∀ (l : List P) (acc : List P), (∀ q ∈ l, ∃ ρ1, g (.p q) ρ0 = some ρ1 ∧ ∀ ac, t ρ1 (S ++ [.lst ac]) = .ok (keep q) (S ++ [.lst ac]) ∧ (keep q = true → f ρ1 (S ++ [.lst ac]) = .ok (.p (h q)) (S ++ [.lst ac]))) → acc.length + l.length ≤ 1000000 →
    lcD o S.length g t f ρ0 (l.map .p) (S ++ [.lst (acc.map .p)]) = .ok () (S ++ [.lst ((acc ++ (l.filter keep).map h).map .p)])
  | [], acc, _, _ => by
    show lcD o S.length g t f ρ0 [] _ = _
    unfold lcD
    rw [if_pos (hc _)]
    simp
  | q :: l, acc, hq, hl => by
    obtain ⟨ρ1, e1, e2⟩ := hq q List.mem_cons_self
    obtain ⟨e3, e4⟩ := e2 (acc.map .p)
    show lcD o S.length g t f ρ0 (.p q :: l.map .p) _ = _
    rw [lcD]
    rw [if_pos (hc _)]
    simp only [e1, e3]
    have hr : ∀ x ∈ l, ∃ ρ1, g (.p x) ρ0 = some ρ1 ∧ ∀ ac, t ρ1 (S ++ [.lst ac]) = .ok (keep x) (S ++ [.lst ac]) ∧ (keep x = true → f ρ1 (S ++ [.lst ac]) = .ok (.p (h x)) (S ++ [.lst ac])) := fun x hx => hq x (List.mem_cons_of_mem _ hx)
    rw [List.length_cons] at hl
    cases hk : keep q with
    | true =>
      simp only [e4 hk]
      have hg : (S ++ [Cell.lst (acc.map D.p)])[S.length]? = some (.lst (acc.map .p)) := by simp
      simp only [hg]
      rw [if_pos (by rw [List.length_map]; omega)]
      have hs : (S ++ [Cell.lst (acc.map D.p)]).set S.length (.lst (acc.map .p ++ [.p (h q)])) = S ++ [.lst ((acc ++ [h q]).map .p)] := by simp
      rw [hs, lcO_go hc l (acc ++ [h q]) hr (by rw [List.length_append]; simp; omega)]
      rw [List.filter_cons_of_pos (by exact hk)]
      simp
    | false =>
      simp only
      rw [lcO_go hc l acc hr (by omega), List.filter_cons_of_neg (by simp [hk])]
theorem lcO_map {o : Option (Nat × List D)} {fi : FR.Env → Store → R Src} {g : FGp} {f : FE} {own : List Nat} {ρ : FR.Env} {S S0 : Store} {h : P → P} (hc : ∀ ac, chk o (S ++ [.lst ac])) (l : List P) (hi : fi ρ S0 = .ok (l.map .p, o) S)
    (hb : ∀ q ∈ l, ∃ ρ1, g (.p q) (wipeD ρ own) = some ρ1 ∧ ∀ ac, f ρ1 (S ++ [.lst ac]) = .ok (.p (h q)) (S ++ [.lst ac])) (hl : l.length ≤ 1000000) (hS : S.all (Cell.below S.length) = true) :
    fLc fi g fYes f own ρ S0 = .ok (.p (.lst (l.map h))) S := by
  unfold fLc
  rw [hi]
  simp only [R.bind_ok]
  have e := lcO_go (g := g) (t := fYes) (f := f) (ρ0 := wipeD ρ own) (S := S) (keep := fun _ => true) (h := h) hc l [] (fun q hq => by
    obtain ⟨ρ1, e1, e2⟩ := hb q hq
    exact ⟨ρ1, e1, fun ac => ⟨rfl, fun _ => e2 ac⟩⟩) (by simpa using hl)
  simp only [List.map_nil, List.nil_append] at e
  rw [e]
  simp only [R.bind_ok]
  unfold lcEnd
  rw [List.filter_eq_self.mpr fun _ _ => rfl]
  have h1 : (S ++ [Cell.lst ((l.map h).map .p)])[S.length]? = some (.lst ((l.map h).map .p)) := by simp
  have h2 : (S ++ [Cell.lst ((l.map h).map .p)]).take S.length = S := by simp
  simp only [h1, pureL_map, h2]
  rw [if_pos hS]
end FR

set_option Elab.async false
set_option linter.all false
set_option maxRecDepth 100000
set_option maxHeartbeats 1000000
namespace FR
open PySem PySem.Spec PyProof.Rows L2
/-! rows for simp: two attributes as targets, keywords left out -/
section
variable (ρ : Env) (S : Store)
def kF2 (c : Cn) (x y : Fld) (ρ : Env) (o : Option (Option D)) (d : D) (S1 : Store) : RS := match d, o with
  | .p (.tup [a, b]), some (some (.r n)) => (match S1[n]? with
    | some (.ins c' gs) => if c' = c ∧ gs.length < 900 then .nx ρ (S1.set n (.ins c (putD y (.p b) (putD x (.p a) gs)))) else .stuck
    | _ => .stuck)
  | _, _ => .stuck
theorem sFld2_ap (c : Cn) (x y : Fld) (i : Nat) (fv : FE) : sFld2 c x y i fv ρ S = (fv ρ S).toS ρ (kF2 c x y ρ ρ[i]?) := rfl
theorem kF2_0 (c : Cn) (x y : Fld) (a b : P) (gs : List (Fld × D)) (h : gs.length ≤ 800) : kF2 c x y ρ (some (some (.r 0))) (.p (.tup [a, b])) (.ins c gs :: S) = .nx ρ (.ins c (putD y (.p b) (putD x (.p a) gs)) :: S) := if_pos ⟨rfl, by omega⟩
theorem gIsN_lst (l : List P) : gIsN (.p (.lst l)) (.p .non) S = .ok (.p (.bl false)) S := rfl
theorem gNotN_lst (l : List P) : gNotN (.p (.lst l)) (.p .non) S = .ok (.p (.bl true)) S := rfl
theorem gIsN_obj (c : Cn) (l : List (Fld × P)) : gIsN (.p (.obj c l)) (.p .non) S = .ok (.p (.bl false)) S := rfl
theorem gNotN_obj (c : Cn) (l : List (Fld × P)) : gNotN (.p (.obj c l)) (.p .non) S = .ok (.p (.bl true)) S := rfl
def kMkKD2 (c : Cn) (n nk : Nat) (F : Fn) (dvs : List P) (l l2 : List D) (S2 : Store) : R D := if l2.length = nk ∧ l.length + 1 = n - nk - dvs.length then mkP c n F dvs (l ++ l2) S2 else .stuck
def kMkKD (c : Cn) (n nk : Nat) (F : Fn) (dvs : List P) (fk : FA) (ρ : Env) (l : List D) (S1 : Store) : R D := (fk ρ S1).bind (kMkKD2 c n nk F dvs l)
theorem mkKD_ap (c : Cn) (n nk : Nat) (F : Fn) (dvs : List P) (fa fk : FA) : mkKD c n nk F dvs fa fk ρ S = (fa ρ S).bind (kMkKD c n nk F dvs fk ρ) := rfl
theorem kMkKD_ap (c : Cn) (n nk : Nat) (F : Fn) (dvs : List P) (fk : FA) (l : List D) : kMkKD c n nk F dvs fk ρ l S = (fk ρ S).bind (kMkKD2 c n nk F dvs l) := rfl
theorem kMkKD2_ap (c : Cn) (n nk : Nat) (F : Fn) (dvs : List P) (l l2 : List D) (h : (decide (l2.length = nk) && decide (l.length + 1 = n - nk - dvs.length)) = true) : kMkKD2 c n nk F dvs l l2 S = mkP c n F dvs (l ++ l2) S := if_pos (by simpa using h)
theorem kMkKD2_13 (c : Cn) (F : Fn) (q : P) (a b d e : D) : kMkKD2 c 6 3 F [q] [a] [b, d, e] S = mkP c 6 F [q] [a, b, d, e] S := if_pos ⟨rfl, rfl⟩
theorem kMkK2_14 (c : Cn) (F : Fn) (a b d e f : D) : kMkK2 c 6 4 F [a] [b, d, e, f] S = mkP c 6 F [] [a, b, d, e, f] S := if_pos ⟨rfl, rfl⟩
theorem mkd4 (F : Fn) (c : Cn) (q a0 a1 a2 a3 : P) : mkP c 6 F [q] [.p a0, .p a1, .p a2, .p a3] S = kMk S (F [.r 0, .p a0, .p a1, .p a2, .p a3, .p q] [.ins c []]) := mkP_apd S F c 6 [a0, a1, a2, a3] [q] rfl
end
end FR

set_option Elab.async false
set_option linter.all false
set_option maxRecDepth 100000
set_option maxHeartbeats 1000000
namespace FR
open PySem PySem.Spec PyProof.Rows L2
/-! ### what a reading hands on, by what shall hold of it -/
/-- it ends well, and Q holds -/
def okR {α : Type} (r : R α) (Q : α → Store → Prop) : Prop := match r with
  | .ok a S => Q a S
  | _ => False
/-- it goes on with N, or ends otherwise with E -/
def okS (r : RS) (N : Env → Store → Prop) (E : RS → Prop) : Prop := match r with
  | .nx ρ S => N ρ S
  | .stuck => False
  | r => E r
def retE (Q : D → Store → Prop) : RS → Prop
  | .ret d S => Q d S
  | _ => False
/-- what a loop does with the end of a turn -/
def loopE (I N : Env → Store → Prop) (E : RS → Prop) : RS → Prop
  | .ct ρ S => I ρ S
  | .bk ρ S => N ρ S
  | r => E r
def isP (d : D) (Q : D → Prop) : Prop := match d with
  | .p q => Q (.p q)
  | _ => False
section
variable {α β : Type} {Q : β → Store → Prop} {N : Env → Store → Prop} {E : RS → Prop} {QD : D → Store → Prop}
theorem okR_ok (a : β) (S : Store) : okR (.ok a S) Q = Q a S := (rfl)
theorem okR_bind (r : R α) (k : α → Store → R β) : okR (r.bind k) Q = okR r (fun a S => okR (k a S) Q) := by cases r <;> rfl
theorem okS_nx (ρ : Env) (S : Store) : okS (.nx ρ S) N E = N ρ S := (rfl)
theorem okS_ret (d : D) (S : Store) : okS (.ret d S) N E = E (.ret d S) := (rfl)
theorem okS_bk (ρ : Env) (S : Store) : okS (.bk ρ S) N E = E (.bk ρ S) := (rfl)
theorem okS_ct (ρ : Env) (S : Store) : okS (.ct ρ S) N E = E (.ct ρ S) := (rfl)
theorem okS_seq (r : RS) (g : FC) : okS (r.seq g) N E = okS r (fun ρ S => okS (g ρ S) N E) E := by cases r <;> rfl
theorem okS_toS (r : R α) (ρ : Env) (k : α → Store → RS) (h : ∀ x S, ¬ E (.exc x ρ S)) : okS (r.toS ρ k) N E = okR r (fun a S => okS (k a S) N E) := by
  cases r with
  | ok a S => rfl
  | exc x S => exact propext ⟨fun z => h x S z, fun z => z.elim⟩
  | stuck => rfl
theorem okS_toS_ret (r : R α) (ρ : Env) (k : α → Store → RS) : okS (r.toS ρ k) N (retE QD) = okR r (fun a S => okS (k a S) N (retE QD)) := okS_toS r ρ k fun _ _ h => h
theorem okS_toS_loop (I N' : Env → Store → Prop) (r : R α) (ρ : Env) (k : α → Store → RS) : okS (r.toS ρ k) N (loopE I N' (retE QD)) = okR r (fun a S => okS (k a S) N (loopE I N' (retE QD))) := okS_toS r ρ k fun _ _ h => h
theorem okS_toS_loop2 (I N' I2 N2 : Env → Store → Prop) (r : R α) (ρ : Env) (k : α → Store → RS) : okS (r.toS ρ k) N (loopE I N' (loopE I2 N2 (retE QD))) = okR r (fun a S => okS (k a S) N (loopE I N' (loopE I2 N2 (retE QD)))) := okS_toS r ρ k fun _ _ h => h
theorem okS_loop (r : RS) (k : FC) : okS (r.loop k) N E = okS r (fun ρ S => okS (k ρ S) N E) (loopE (fun ρ S => okS (k ρ S) N E) N E) := by cases r <;> rfl
theorem okR_fin (r : RS) : okR r.fin QD = okS r (fun _ S => QD (.p .non) S) (retE QD) := by cases r <;> rfl
theorem retE_ret (d : D) (S : Store) : retE QD (.ret d S) = QD d S := (rfl)
theorem loopE_ret (I N' : Env → Store → Prop) (d : D) (S : Store) : loopE I N' E (.ret d S) = E (.ret d S) := (rfl)
theorem loopE_ct (I N' : Env → Store → Prop) (ρ : Env) (S : Store) : loopE I N' E (.ct ρ S) = I ρ S := (rfl)
theorem loopE_bk (I N' : Env → Store → Prop) (ρ : Env) (S : Store) : loopE I N' E (.bk ρ S) = N' ρ S := (rfl)
theorem isP_p (q : P) (Q : D → Prop) : isP (.p q) Q = Q (.p q) := (rfl)
theorem okR_kP (S : Store) (r : R D) : okR (kP S r) QD = okR r (fun d _ => isP d fun d => QD d S) := by
  cases r with
  | ok d S' => cases d <;> rfl
  | exc x S' => rfl
  | stuck => rfl
theorem okR_imp {r : R β} {P' : β → Store → Prop} (h : okR r P') (hi : ∀ a S, P' a S → Q a S) : okR r Q := by
  cases r with
  | ok d S' => exact hi _ _ h
  | exc x S' => exact h
  | stuck => exact h
theorem okS_imp {r : RS} {N' : Env → Store → Prop} {E' : RS → Prop} (h : okS r N' E') (hn : ∀ ρ S, N' ρ S → N ρ S) (he : ∀ r, E' r → E r) : okS r N E := by
  cases r with
  | nx ρ S' => exact hn _ _ h
  | stuck => exact h
  | _ => exact he _ h
theorem okS_go {r : RS} {N' : Env → Store → Prop} (h : okS r N' (retE fun _ _ => False)) (hn : ∀ ρ S, N' ρ S → N ρ S) : okS r N E := by
  cases r with
  | nx ρ S' => exact hn _ _ h
  | stuck => exact h
  | _ => exact h.elim
/-- only going on -/
theorem okS_cut {r : RS} (N' : Env → Store → Prop) (h : okS r N' E) (hn : ∀ ρ S, N' ρ S → N ρ S) : okS r N E := okS_imp h hn fun _ h => h
theorem okR_ex {r : R D} : okR r QD ↔ ∃ d S, r = .ok d S ∧ QD d S := by
  cases r with
  | ok d S => exact ⟨fun h => ⟨d, S, rfl, h⟩, fun ⟨d', S', e, h⟩ => (by cases e; exact h)⟩
  | exc x S => exact ⟨fun h => h.elim, fun ⟨d', S', e, h⟩ => (by cases e)⟩
  | stuck => exact ⟨fun h => h.elim, fun ⟨d', S', e, h⟩ => (by cases e)⟩
theorem okR_of {r : R β} {a : β} {S : Store} (e : r = .ok a S) (h : Q a S) : okR r Q := by rw [e]; exact h
theorem okR_nx {r : R β} (h : okR r Q) : ∃ a S, r = .ok a S ∧ Q a S := by
  cases r with
  | ok d S => exact ⟨d, S, rfl, h⟩
  | exc x S => exact h.elim
  | stuck => exact h.elim
theorem okS_if (f g : FC) (ρ : Env) (b : Bool) (S : Store) : okS (kSI f g ρ b S) N E = ((b = true → okS (f ρ S) N E) ∧ (b = false → okS (g ρ S) N E)) := by
  cases b
  · exact propext ⟨fun h => ⟨fun z => (by cases z), fun _ => h⟩, fun h => h.2 rfl⟩
  · exact propext ⟨fun h => ⟨fun _ => h, fun z => (by cases z)⟩, fun h => h.1 rfl⟩
/-! loops -/
theorem okS_for {g : FG} {b : FC} (I : List D → Env → Store → Prop) {o : Option (Nat × List D)} (hc : ∀ ds ρ S, I ds ρ S → chk o S) (hn : ∀ ρ S, I [] ρ S → N ρ S)
    (h : ∀ d ds ρ S, I (d :: ds) ρ S → okR (g d ρ S) fun ρ1 S1 => okS (b ρ1 S1) (I ds) (loopE (I ds) N E)) : ∀ (ds : List D) (ρ : Env) (S : Store), I ds ρ S → okS (forD o g b ds ρ S) N E := by
  intro ds
  induction ds with
  | nil =>
    intro ρ S hi
    unfold forD
    rw [if_pos (hc _ _ _ hi)]
    exact hn ρ S hi
  | cons d ds ih =>
    intro ρ S hi
    rw [forD]
    dsimp only
    rw [if_pos (hc _ _ _ hi)]
    have := h d ds ρ S hi
    cases q : g d ρ S with
    | ok ρ1 S1 =>
      rw [q] at this
      have this : okS (b ρ1 S1) (I ds) (loopE (I ds) N E) := this
      show okS (match b ρ1 S1 with
        | .nx ρ2 S2 => forD o g b ds ρ2 S2
        | .ct ρ2 S2 => forD o g b ds ρ2 S2
        | .bk ρ2 S2 => .nx ρ2 S2
        | r => r) N E
      cases p : b ρ1 S1 with
      | nx ρ2 S2 => rw [p] at this; exact ih ρ2 S2 this
      | ct ρ2 S2 => rw [p] at this; exact ih ρ2 S2 this
      | bk ρ2 S2 => rw [p] at this; exact this
      | ret d2 S2 => rw [p] at this; exact this
      | exc x ρ2 S2 => rw [p] at this; exact this
      | stuck => rw [p] at this; exact this
    | exc x S1 => rw [q] at this; exact this.elim
    | stuck => rw [q] at this; exact this.elim
theorem okS_for0 {g : FG} {b : FC} (I : List D → Env → Store → Prop) (hn : ∀ ρ S, I [] ρ S → N ρ S)
    (h : ∀ d ds ρ S, I (d :: ds) ρ S → okR (g d ρ S) fun ρ1 S1 => okS (b ρ1 S1) (I ds) (loopE (I ds) N E)) (ds : List D) (ρ : Env) (S : Store) (hi : I ds ρ S) : okS (forD none g b ds ρ S) N E :=
  okS_for (o := none) I (fun _ _ _ _ => trivial) hn h ds ρ S hi
theorem okS_while {c : FT} {b : FC} (I : Nat → Env → Store → Prop)
    (h : ∀ n ρ S, I n ρ S → okR (c ρ S) fun t S1 => if t = true then okS (b ρ S1) (fun ρ2 S2 => ∃ m, m < n ∧ I m ρ2 S2) (loopE (fun ρ2 S2 => ∃ m, m < n ∧ I m ρ2 S2) N (retE QD)) else N ρ S1) (n : Nat) (ρ : Env) (S : Store) (hi : I n ρ S) : okS (sWhile c b ρ S) N (retE QD) := by
  have key : ∀ (n : Nat) (ρ : Env) (S : Store), I n ρ S → ∃ k r, whileN c b k ρ S = some r ∧ okS r N (retE QD) := by
    intro n
    induction n using Nat.strongRecOn with
    | ind n ih =>
      intro ρ S hi
      obtain ⟨t, S1, e1, h1⟩ := okR_nx (h n ρ S hi)
      cases t with
      | false =>
        refine ⟨1, .nx ρ S1, ?_, h1⟩
        unfold whileN
        rw [e1]
      | true =>
        have h1 : okS (b ρ S1) (fun ρ2 S2 => ∃ m, m < n ∧ I m ρ2 S2) (loopE (fun ρ2 S2 => ∃ m, m < n ∧ I m ρ2 S2) N (retE QD)) := h1
        cases p : b ρ S1 with
        | nx ρ2 S2 =>
          rw [p] at h1
          obtain ⟨m, hm, h2⟩ := h1
          obtain ⟨k, r, e3, h3⟩ := ih m hm ρ2 S2 h2
          refine ⟨k + 1, r, ?_, h3⟩
          unfold whileN
          rw [e1]
          simp only [p]
          exact e3
        | ct ρ2 S2 =>
          rw [p] at h1
          obtain ⟨m, hm, h2⟩ := h1
          obtain ⟨k, r, e3, h3⟩ := ih m hm ρ2 S2 h2
          refine ⟨k + 1, r, ?_, h3⟩
          unfold whileN
          rw [e1]
          simp only [p]
          exact e3
        | bk ρ2 S2 =>
          rw [p] at h1
          refine ⟨1, .nx ρ2 S2, ?_, h1⟩
          unfold whileN
          rw [e1]
          simp only [p]
        | ret d2 S2 =>
          rw [p] at h1
          refine ⟨1, .ret d2 S2, ?_, h1⟩
          unfold whileN
          rw [e1]
          simp only [p]
        | exc x ρ2 S2 => rw [p] at h1; exact h1.elim
        | stuck => rw [p] at h1; exact h1.elim
  obtain ⟨k, r, e, hr⟩ := key n ρ S hi
  rw [sWhile_ap e]
  exact hr
/-- a comprehension without an if, its turns free to change the store -/
theorem okR_lc {g : FGp} {f : FE} {own : List Nat} {fi : Env → Store → R Src} {ρ : Env} {S S1 : Store} {l : List D} (J : List D → List P → Store → Prop) (hi : fi ρ S = .ok (l, none) S1) (hJ : J l [] S1)
    (hb : ∀ d ds acc S2, J (d :: ds) acc S2 → S2.length = S1.length ∧ ∃ ρ1, g d (wipeD ρ own) = some ρ1 ∧ ∀ ac, okR (f ρ1 (S2 ++ [.lst ac])) fun y S3 => ∃ q S4, y = .p q ∧ S3 = S4 ++ [.lst ac] ∧ S4.length = S1.length ∧ J ds (acc ++ [q]) S4) (hl : l.length ≤ 1000000)
    (hq : ∀ acc S2, J [] acc S2 → S2.length = S1.length ∧ S2.all (Cell.below S2.length) = true ∧ QD (.p (.lst acc)) S2) : okR (fLc fi g fYes f own ρ S) QD := by
  have key : ∀ (ds : List D) (acc : List P) (S2 : Store), S2.length = S1.length → J ds acc S2 → acc.length + ds.length ≤ 1000000 → ∃ acc' S4, lcD none S1.length g fYes f (wipeD ρ own) ds (S2 ++ [.lst (acc.map .p)]) = .ok () (S4 ++ [.lst (acc'.map .p)]) ∧ J [] acc' S4 := by
    intro ds
    induction ds with
    | nil =>
      intro acc S2 hS hJ _
      refine ⟨acc, S2, ?_, hJ⟩
      unfold lcD
      exact if_pos trivial
    | cons d ds ih =>
      intro acc S2 hS hJ hl2
      obtain ⟨_, ρ1, e1, h1⟩ := hb d ds acc S2 hJ
      obtain ⟨y, S3, e2, q, S4, rfl, rfl, h4, h5⟩ := okR_nx (h1 (acc.map .p))
      rw [List.length_cons] at hl2
      obtain ⟨acc', S5, e5, h6⟩ := ih (acc ++ [q]) S4 h4 h5 (by rw [List.length_append]; simp; omega)
      refine ⟨acc', S5, ?_, h6⟩
      rw [lcD, if_pos (show chk none _ from trivial)]
      simp only [e1]
      show (match f ρ1 (S2 ++ [.lst (acc.map .p)]) with
        | .ok y S3 => _
        | _ => _) = _
      rw [e2]
      have hg : (S4 ++ [Cell.lst (acc.map D.p)])[S1.length]? = some (.lst (acc.map .p)) := by rw [← h4]; simp
      simp only [hg]
      rw [if_pos (by rw [List.length_map]; omega)]
      have hs : (S4 ++ [Cell.lst (acc.map D.p)]).set S1.length (.lst (acc.map .p ++ [.p q])) = S4 ++ [.lst ((acc ++ [q]).map .p)] := by rw [← h4]; simp
      rw [hs]
      exact e5
  obtain ⟨acc', S4, e, h⟩ := key l [] S1 rfl hJ (by simpa using hl)
  obtain ⟨h1, h2, h3⟩ := hq acc' S4 h
  unfold fLc
  rw [hi]
  simp only [R.bind_ok]
  rw [List.map_nil] at e
  rw [e]
  simp only [R.bind_ok]
  unfold lcEnd
  have g1 : (S4 ++ [Cell.lst (acc'.map .p)])[S1.length]? = some (.lst (acc'.map .p)) := by rw [← h1]; simp
  have g2 : (S4 ++ [Cell.lst (acc'.map .p)]).take S1.length = S4 := by rw [← h1]; simp
  simp only [g1, pureL_map, g2]
  rw [if_pos (by rw [← h1]; exact h2)]
  exact h3
/-- a comprehension that leaves the store -/
theorem okR_lc0 {g : FGp} {f : FE} {own : List Nat} {fi : Env → Store → R Src} {ρ : Env} {S S1 : Store} {l : List P} (h : P → P) (hi : fi ρ S = .ok (l.map .p, none) S1)
    (hb : ∀ q ∈ l, ∃ ρ1, g (.p q) (wipeD ρ own) = some ρ1 ∧ ∀ ac, f ρ1 (S1 ++ [.lst ac]) = .ok (.p (h q)) (S1 ++ [.lst ac])) (hl : l.length ≤ 1000000) (hS : S1.all (Cell.below S1.length) = true) (hq : QD (.p (.lst (l.map h))) S1) : okR (fLc fi g fYes f own ρ S) QD :=
  okR_of (lc_map l hi hb hl hS) hq
end
/-! ### cells, wherever they lie -/
section
variable (ρ : Env) (S : Store)
def kApp2T (n : Nat) (d : D) (S2 : Store) : Option Cell → R D
  | some (.lst acc) => if acc.length < 1000000 then .ok (.p .non) (S2.set n (.lst (acc ++ [d]))) else .stuck
  | _ => .stuck
def kApp2 (n : Nat) : List D → Store → R D := fun l S2 => match S2[n]?, l with
  | some (.lst acc), [d] => if acc.length < 1000000 then .ok (.p .non) (S2.set n (.lst (acc ++ [d]))) else .stuck
  | _, _ => .stuck
def kAppT (fa : FA) (ρ : Env) (n : Nat) (S1 : Store) : Option Cell → R D
  | some (.lst _) => (fa ρ S1).bind (kApp2 n)
  | _ => .stuck
def kApp (fa : FA) (ρ : Env) : D → Store → R D := fun o S1 => match o with
  | .r n => if tagC S1[n]? = some (.ty "list") then (fa ρ S1).bind (kApp2 n) else .stuck
  | _ => .stuck
theorem fApp_ap (fo : FE) (fa : FA) : fApp fo fa ρ S = (fo ρ S).bind (kApp fa ρ) := by
  unfold fApp kApp kApp2
  rfl
theorem kApp_r (fa : FA) (n : Nat) : kApp fa ρ (.r n) S = kAppT fa ρ n S S[n]? := by
  show (if tagC S[n]? = some (.ty "list") then (fa ρ S).bind (kApp2 n) else .stuck) = _
  unfold kAppT
  cases S[n]? with
  | none => rfl
  | some c => cases c <;> rfl
theorem kAppT_ap (fa : FA) (n : Nat) (l : List D) : kAppT fa ρ n S (some (.lst l)) = (fa ρ S).bind (kApp2 n) := (rfl)
theorem kApp2_r (n : Nat) (d : D) : kApp2 n [d] S = kApp2T n d S S[n]? := by
  unfold kApp2 kApp2T
  cases S[n]? with
  | none => rfl
  | some c => cases c <;> rfl
theorem kApp2T_ap (n : Nat) (d : D) (l : List D) (h : Nat.blt l.length 1000000 = true) : kApp2T n d S (some (.lst l)) = .ok (.p .non) (S.set n (.lst (l ++ [d]))) := if_pos (by simpa using h)
theorem kApp2T_lt (n : Nat) (d : D) (l : List D) (h : l.length < 1000000) : kApp2T n d S (some (.lst l)) = .ok (.p .non) (S.set n (.lst (l ++ [d]))) := if_pos h
def gIxT (k : Int) (S : Store) : Option Cell → R D
  | some (.lst l) => oD S (atI l k)
  | _ => .stuck
def gLenT (S : Store) : Option Cell → R D
  | some (.lst l) => .ok (.p (.int l.length)) S
  | _ => .stuck
theorem gLen_rT (n : Nat) : gLen [.r n] S = gLenT S S[n]? := by
  show (match S[n]? with
    | some (.lst l) => _
    | _ => _) = _
  unfold gLenT
  cases S[n]? with
  | none => rfl
  | some c => cases c <;> rfl
theorem gLenT_ap (l : List D) : gLenT S (some (.lst l)) = .ok (.p (.int l.length)) S := (rfl)
theorem gIx_rT (n : Nat) (k : Int) : gIx (.r n) (.p (.int k)) S = gIxT k S S[n]? := by
  show (match S[n]? with
    | some (.lst l) => (match atI l k with
      | some d => R.ok d S
      | none => .stuck)
    | _ => .stuck) = _
  unfold gIxT oD
  cases S[n]? with
  | none => rfl
  | some c => cases c <;> rfl
theorem gIxT_ap (k : Int) (l : List D) : gIxT k S (some (.lst l)) = oD S (atI l k) := (rfl)
def kIx3T2 (ρ : Env) (n : Nat) (d : D) (l : List D) (S : Store) : Option Nat → RS
  | some j => .nx ρ (S.set n (.lst (l.set j d)))
  | none => .stuck
def kIx3T (ρ : Env) (n : Nat) (d : D) (k : Int) (S : Store) : Option Cell → RS
  | some (.lst l) => kIx3T2 ρ n d l S (ixN l.length k)
  | _ => .stuck
theorem kIx3_rT (d : D) (n : Nat) (k : Int) : kIx3 ρ d (.r n) (.p (.int k)) S = kIx3T ρ n d k S S[n]? := by
  show (match S[n]? with
    | some (.lst l) => (match ixN l.length k with
      | some j => RS.nx ρ (S.set n (.lst (l.set j d)))
      | none => .stuck)
    | _ => .stuck) = _
  unfold kIx3T kIx3T2
  cases S[n]? with
  | none => rfl
  | some c => cases c <;> rfl
theorem kIx3T_ap (n : Nat) (d : D) (k : Int) (l : List D) : kIx3T ρ n d k S (some (.lst l)) = kIx3T2 ρ n d l S (ixN l.length k) := (rfl)
theorem kIx3T2_ap (n : Nat) (d : D) (l : List D) (j : Nat) : kIx3T2 ρ n d l S (some j) = .nx ρ (S.set n (.lst (l.set j d))) := (rfl)
theorem gLenO_o (c : Cn) (F : Fn) (gs : List (Fld × P)) (n : Int) (h : noX (kP S (F [.p (.obj c gs)] [])) = .ok (.p (.int n)) S) (h0 : 0 ≤ n) (h1 : n < 9223372036854775808) : gLenO c F [.p (.obj c gs)] S = .ok (.p (.int n)) S := by
  show (if isIns c (.p (.obj c gs)) S = true then (noX (callN .P 1 F [] [.p (.obj c gs)] S)).bind _ else .stuck) = _
  rw [if_pos (isIns_o S c gs), cP1, h, R.bind_ok]
  exact if_pos ⟨h0, h1⟩
def srcLT (n : Nat) (S : Store) : Option Cell → R Src
  | some (.lst l) => .ok (l, some (n, l)) S
  | _ => .stuck
theorem srcL_rT (n : Nat) : srcL (.r n) S = srcLT n S S[n]? := by
  show (match S[n]? with
    | some (.lst l) => _
    | _ => _) = _
  unfold srcLT
  cases S[n]? with
  | none => rfl
  | some c => cases c <;> rfl
theorem srcLT_ap (n : Nat) (l : List D) : srcLT n S (some (.lst l)) = .ok (l, some (n, l)) S := (rfl)
def kFz : D → Store → R D := fun d S1 => match frz 6 d S1 with
  | some (q, S2) => .ok (.p q) S2
  | none => .stuck
theorem fFz_ap (f : FE) : fFz f ρ S = (f ρ S).bind kFz := (rfl)
theorem kFz_p (q : P) : kFz (.p q) S = .ok (.p q) S := by
  unfold kFz
  rw [frz_p]
def kFzT (n : Nat) (S : Store) : Option Cell → R D
  | some (.lst l) => match pureL l with
    | some k => .ok (.p (.lst k)) (S.set n .dead)
    | none => .stuck
  | _ => .stuck
theorem kFz_pl (n : Nat) (k : List P) (h : S[n]? = some (.lst (k.map .p))) : kFz (.r n) S = .ok (.p (.lst k)) (S.set n .dead) := by
  unfold kFz
  have : frz 6 (.r n) S = some (.lst k, S.set n .dead) := by
    unfold frz
    rw [h]
    show (match frzL (frz 5) (k.map .p) (S.set n .dead) with
      | some (q, S1) => some (P.lst q, S1)
      | none => none) = _
    rw [frzL_map]
  rw [this]
theorem get_last (c : Cell) (T : Store) : (T ++ [c])[T.length]? = some c := by simp
theorem set_last (c d : Cell) (T : Store) : (T ++ [c]).set T.length d = T ++ [d] := by simp
end
end FR
namespace FR
open PySem PySem.Spec PyProof.Rows L2
theorem belowD_mono {n m : Nat} (h : n ≤ m) {d : D} (hd : belowD n d = true) : belowD m d = true := by
  cases d with
  | p q => rfl
  | r k =>
    have : k < n := of_decide_eq_true hd
    exact decide_eq_true (by omega)
theorem below_mono {n m : Nat} (h : n ≤ m) {c : Cell} (hc : c.below n = true) : c.below m = true := by
  cases c with
  | dead => rfl
  | lst l => exact List.all_eq_true.mpr fun d hd => belowD_mono h (List.all_eq_true.mp hc d hd)
  | ins c gs => exact List.all_eq_true.mpr fun d hd => belowD_mono h (List.all_eq_true.mp hc d hd)
  | dK l => exact List.all_eq_true.mpr fun d hd => belowD_mono h (List.all_eq_true.mp hc d hd)
/-- a store whose cells hold pure data -/
def Calm (S : Store) : Prop := ∀ c ∈ S, c.below 0 = true
theorem Calm.all {S : Store} (h : Calm S) (n : Nat) : S.all (Cell.below n) = true := List.all_eq_true.mpr fun c hc => below_mono (Nat.zero_le n) (h c hc)
theorem Calm.nil : Calm [] := fun _ h => by cases h
theorem Calm.cons {c : Cell} {S : Store} (hc : c.below 0 = true) (h : Calm S) : Calm (c :: S) := fun d hd => by
  rcases List.mem_cons.mp hd with rfl | hd
  · exact hc
  · exact h d hd
theorem Calm.app {S T : Store} (h : Calm S) (h2 : Calm T) : Calm (S ++ T) := fun d hd => by
  rcases List.mem_append.mp hd with hd | hd
  · exact h d hd
  · exact h2 d hd
theorem Calm.one {c : Cell} (hc : c.below 0 = true) : Calm [c] := Calm.cons hc .nil
theorem calm_lst (l : List P) : (Cell.lst (l.map .p)).below 0 = true := below_map 0 l
theorem calm_pool (cs : List Int) (a b c t : Int) : (pool cs a b c t).below 0 = true := rfl
/-- a comprehension with an if over a list, also one that is a cell -/
theorem lcO_filter {o : Option (Nat × List D)} {fi : FR.Env → Store → R Src} {g : FGp} {t : FT} {f : FE} {own : List Nat} {ρ : FR.Env} {S S0 : Store} {keep : P → Bool} {h : P → P} (hc : ∀ ac, chk o (S ++ [.lst ac])) (l : List P) (hi : fi ρ S0 = .ok (l.map .p, o) S)
    (hb : ∀ q ∈ l, ∃ ρ1, g (.p q) (wipeD ρ own) = some ρ1 ∧ ∀ ac, t ρ1 (S ++ [.lst ac]) = .ok (keep q) (S ++ [.lst ac]) ∧ (keep q = true → f ρ1 (S ++ [.lst ac]) = .ok (.p (h q)) (S ++ [.lst ac]))) (hl : l.length ≤ 1000000) (hS : S.all (Cell.below S.length) = true) :
    fLc fi g t f own ρ S0 = .ok (.p (.lst ((l.filter keep).map h))) S := by
  unfold fLc
  rw [hi]
  simp only [R.bind_ok]
  have e := lcO_go (g := g) (t := t) (f := f) (ρ0 := wipeD ρ own) (S := S) (keep := keep) (h := h) hc l [] hb (by simpa using hl)
  simp only [List.map_nil, List.nil_append] at e
  rw [e]
  simp only [R.bind_ok]
  unfold lcEnd
  have h1 : (S ++ [Cell.lst (((l.filter keep).map h).map .p)])[S.length]? = some (.lst (((l.filter keep).map h).map .p)) := by simp
  have h2 : (S ++ [Cell.lst (((l.filter keep).map h).map .p)]).take S.length = S := by simp
  simp only [h1, pureL_map, h2]
  rw [if_pos hS]
theorem chk_app {n : Nat} {l : List D} {S : Store} (h : S[n]? = some (.lst l)) (c : Cell) : chk (some (n, l)) (S ++ [c]) := by
  show (S ++ [c])[n]? = some (.lst l)
  have : n < S.length := by
    rcases Nat.lt_or_ge n S.length with z | z
    · exact z
    · rw [List.getElem?_eq_none z] at h; cases h
  rw [List.getElem?_append_left this]
  exact h
/-! the script's pool, at any of its states -/
def Pool (cs : List Int) (C : Cell) : Prop := ∃ a b c t, C = pool cs a b c t ∧ 0 ≤ a ∧ 0 ≤ b
theorem Pool.calm {cs : List Int} {C : Cell} (h : Pool cs C) : C.below 0 = true := by
  obtain ⟨a, b, c, t, rfl, _⟩ := h
  rfl
theorem Pool.new (cs : List Int) : Pool cs (pool cs 0 0 1 0) := ⟨0, 0, 1, 0, rfl, by decide, by decide⟩
theorem gEqD_33 (a b c d e f : Int) (S : Store) : gEqD (.p (.tup [.int a, .int b, .int c])) (.p (.tup [.int d, .int e, .int f])) S = .ok (.p (.bl (decide (a = d ∧ b = e ∧ c = f)))) S := by
  simp [gEqD, eqD2, toPD, toPDs, SeqAt.shaped, PyData.eqv, PyData.canLay0, PyData.depth, PyData.eqvAll, PyData.canLayAll0, PyData.depthAll, Bool.decide_and]
  rfl
end FR
namespace FR
open PySem PySem.Spec PyProof.Rows L2
section
variable {N : Env → Store → Prop} {E : RS → Prop} {g : FG} {b : FC}
/-- for over a list that stands still -/
theorem okS_map {α : Type} (f : α → D) (I : List α → Env → Store → Prop) (hn : ∀ ρ S, I [] ρ S → N ρ S)
    (h : ∀ x xs ρ S, I (x :: xs) ρ S → okR (g (f x) ρ S) fun ρ1 S1 => okS (b ρ1 S1) (I xs) (loopE (I xs) N E)) (l : List α) (ρ : Env) (S : Store) (hi : I l ρ S) : okS (forD none g b (l.map f) ρ S) N E := by
  refine okS_for0 (fun ds ρ S => ∃ xs, ds = xs.map f ∧ I xs ρ S) ?_ ?_ _ _ _ ⟨l, rfl, hi⟩
  · rintro ρ S ⟨xs, e, hx⟩
    cases xs with
    | nil => exact hn ρ S hx
    | cons a r => cases e
  · rintro d ds ρ S ⟨xs, e, hx⟩
    cases xs with
    | nil => cases e
    | cons a r =>
      rw [List.map_cons, List.cons.injEq] at e
      obtain ⟨rfl, rfl⟩ := e
      refine okR_imp (h a r ρ S hx) fun ρ1 S1 h1 => okS_imp h1 (fun ρ2 S2 h2 => ⟨r, rfl, h2⟩) fun x hx => ?_
      cases x with
      | ct ρ2 S2 => exact ⟨r, rfl, hx⟩
      | bk ρ2 S2 => exact hx
      | _ => exact hx
/-- .. over a list of data -/
theorem okS_mapP {α : Type} (f : α → P) (I : List α → Env → Store → Prop) (hn : ∀ ρ S, I [] ρ S → N ρ S)
    (h : ∀ x xs ρ S, I (x :: xs) ρ S → okR (g (.p (f x)) ρ S) fun ρ1 S1 => okS (b ρ1 S1) (I xs) (loopE (I xs) N E)) (l : List α) (ρ : Env) (S : Store) (hi : I l ρ S) : okS (forD none g b ((l.map f).map .p) ρ S) N E := by
  rw [List.map_map]
  exact okS_map (fun x => D.p (f x)) I hn h l ρ S hi
/-- .. what is asked of the items at hand -/
theorem okS_mapM {α : Type} (f : α → P) (I : List α → Env → Store → Prop) (l : List α) (hn : ∀ ρ S, I [] ρ S → N ρ S)
    (h : ∀ x xs ρ S, x ∈ l → I (x :: xs) ρ S → okR (g (.p (f x)) ρ S) fun ρ1 S1 => okS (b ρ1 S1) (I xs) (loopE (I xs) N E)) (ρ : Env) (S : Store) (hi : I l ρ S) : okS (forD none g b ((l.map f).map .p) ρ S) N E := by
  refine okS_mapP f (fun xs ρ S => (∀ x ∈ xs, x ∈ l) ∧ I xs ρ S) (fun ρ S h => hn ρ S h.2) ?_ l ρ S ⟨fun _ h => h, hi⟩
  intro x xs ρ S hI
  refine okR_imp (h x xs ρ S (hI.1 x List.mem_cons_self) hI.2) fun ρ1 S1 h1 => okS_imp h1 (fun ρ2 S2 h2 => ⟨fun y hy => hI.1 y (List.mem_cons_of_mem _ hy), h2⟩) fun r hr => ?_
  cases r with
  | ct ρ2 S2 => exact ⟨fun y hy => hI.1 y (List.mem_cons_of_mem _ hy), hr⟩
  | bk ρ2 S2 => exact hr
  | _ => exact hr
/-- for over a range -/
theorem okS_range (a : Int) (n : Nat) (I : Nat → Env → Store → Prop) (hn : ∀ ρ S, I n ρ S → N ρ S)
    (h : ∀ i ρ S, i < n → I i ρ S → okR (g (.p (.int (a + (i : Nat)))) ρ S) fun ρ1 S1 => okS (b ρ1 S1) (I (i + 1)) (loopE (I (i + 1)) N E)) (ρ : Env) (S : Store) (hi : I 0 ρ S) : okS (forD none g b (upTo a n) ρ S) N E := by
  have e : upTo a n = (List.range' 0 n).map fun (j : Nat) => D.p (.int (a + (j : Nat))) := by
    unfold upTo
    rw [List.range_eq_range']
  rw [e]
  refine okS_map (fun (j : Nat) => D.p (.int (a + (j : Nat)))) (fun xs ρ S => ∃ i, i + xs.length = n ∧ xs = List.range' i (n - i) ∧ I i ρ S) ?_ ?_ _ _ _ ⟨0, by simp, by simp, hi⟩
  · rintro ρ S ⟨i, e1, _, h1⟩
    have : i = n := by simpa using e1
    rw [this] at h1
    exact hn ρ S h1
  · rintro x xs ρ S ⟨i, e1, e2, h1⟩
    rw [List.length_cons] at e1
    rw [show n - i = (n - (i + 1)) + 1 by omega, List.range'_succ, List.cons.injEq] at e2
    obtain ⟨rfl, rfl⟩ := e2
    refine okR_imp (h x ρ S (by omega) h1) fun ρ1 S1 h2 => okS_imp h2 (fun ρ2 S2 h3 => ⟨x + 1, by simp; omega, rfl, h3⟩) fun r hr => ?_
    cases r with
    | ct ρ2 S2 => exact ⟨x + 1, by simp; omega, rfl, hr⟩
    | bk ρ2 S2 => exact hr
    | _ => exact hr
end
theorem okS_range0 {N : Env → Store → Prop} {E : RS → Prop} {g : FG} {b : FC} (n : Nat) (I : Nat → Env → Store → Prop) (hn : ∀ ρ S, I n ρ S → N ρ S)
    (h : ∀ (i : Nat) ρ S, i < n → I i ρ S → okR (g (.p (.int (i : Int))) ρ S) fun ρ1 S1 => okS (b ρ1 S1) (I (i + 1)) (loopE (I (i + 1)) N E)) (ρ : Env) (S : Store) (hi : I 0 ρ S) : okS (forD none g b (upTo 0 n) ρ S) N E :=
  okS_range 0 n I hn (fun i ρ S hi hI => by rw [Int.zero_add]; exact h i ρ S hi hI) ρ S hi
theorem at_map {α : Type} (f : α → P) (l : List α) (i : Nat) (h : i < l.length) : atI (l.map f) ((i : Nat) : Int) = some (f l[i]) := by
  rw [at_n _ _ (by rw [List.length_map]; exact h)]
  simp [h]
theorem upTo_zero (a : Int) : upTo a 0 = [] := rfl
theorem upTo_succ (a : Int) (k : Nat) : upTo a (k + 1) = .p (.int a) :: upTo (a + 1) k := by
  unfold upTo
  rw [List.range_succ_eq_map, List.map_cons, List.map_map]
  congr 1
  · simp
  · refine List.map_congr_left fun j _ => ?_
    show D.p (.int (a + ((j + 1 : Nat) : Int))) = D.p (.int (a + 1 + (j : Int)))
    rw [show a + ((j + 1 : Nat) : Int) = a + 1 + (j : Int) by omega]
theorem dec_self {α : Type} [DecidableEq α] (a : α) : decide (a = a) = true := decide_eq_true rfl
theorem upTo_len (i : Int) (n : Nat) : (upTo i n).length = n := by
  unfold upTo
  rw [List.length_map, List.length_range]
end FR
namespace FR
open PySem PySem.Spec PyProof.Rows L2
theorem at_some {α : Type} (f : α → P) (l : List α) (r : Int) (h0 : 0 ≤ r) (h1 : r < l.length) : ∃ x ∈ l, atI (l.map f) r = some (f x) := by
  obtain ⟨n, rfl⟩ := Int.eq_ofNat_of_zero_le h0
  have hn : n < l.length := by omega
  exact ⟨l[n], List.getElem_mem hn, at_map f l n hn⟩
theorem okR_true {F : Fn} {ds : List D} (h : okR (F ds []) fun d _ => d = .p (.bl true)) : ∃ S, F ds [] = .ok (.p (.bl true)) S := by
  obtain ⟨d, S, e, rfl⟩ := okR_nx h
  exact ⟨S, e⟩
theorem okR_eq {r : R D} {d : D} {S : Store} (h : okR r fun d' S' => d' = d ∧ S' = S) : r = .ok d S := by
  obtain ⟨d', S', e, rfl, rfl⟩ := okR_nx h
  exact e
theorem upTo2 : upTo 0 (2 : Int).toNat = [.p (.int 0), .p (.int 1)] := rfl
theorem upTo3 : upTo 0 (3 : Int).toNat = [.p (.int 0), .p (.int 1), .p (.int 2)] := rfl
end FR
namespace FR
open PySem PySem.Spec PyProof.Rows L2
/-! ### .. also where an exception may be raised -/
def okX {α : Type} (r : R α) (Q : α → Store → Prop) (X : Exc → Store → Prop) : Prop := match r with
  | .ok a S => Q a S
  | .exc x S => X x S
  | .stuck => False
def exE (Q : D → Store → Prop) (X : Exc → Store → Prop) : RS → Prop
  | .ret d S => Q d S
  | .exc x _ S => X x S
  | _ => False
section
variable {α β : Type} {Q : β → Store → Prop} {N : Env → Store → Prop} {E : RS → Prop} {QD : D → Store → Prop} {X : Exc → Store → Prop}
theorem okX_ok (a : β) (S : Store) : okX (.ok a S) Q X = Q a S := (rfl)
theorem okX_exc (x : Exc) (S : Store) : okX (.exc x S : R β) Q X = X x S := (rfl)
theorem okX_bind (r : R α) (k : α → Store → R β) : okX (r.bind k) Q X = okX r (fun a S => okX (k a S) Q X) X := by cases r <;> rfl
theorem okS_exc (x : Exc) (ρ : Env) (S : Store) : okS (.exc x ρ S) N E = E (.exc x ρ S) := (rfl)
theorem okS_toX (r : R α) (ρ : Env) (k : α → Store → RS) : okS (r.toS ρ k) N (exE QD X) = okX r (fun a S => okS (k a S) N (exE QD X)) X := by cases r <;> rfl
theorem okS_toX_loop (I N' : Env → Store → Prop) (r : R α) (ρ : Env) (k : α → Store → RS) : okS (r.toS ρ k) N (loopE I N' (exE QD X)) = okX r (fun a S => okS (k a S) N (loopE I N' (exE QD X))) X := by cases r <;> rfl
theorem okX_fin (r : RS) : okX r.fin QD X = okS r (fun _ S => QD (.p .non) S) (exE QD X) := by cases r <;> rfl
theorem exE_ret (d : D) (S : Store) : exE QD X (.ret d S) = QD d S := (rfl)
theorem exE_exc (x : Exc) (ρ : Env) (S : Store) : exE QD X (.exc x ρ S) = X x S := (rfl)
theorem loopE_exc (I N' : Env → Store → Prop) (x : Exc) (ρ : Env) (S : Store) : loopE I N' E (.exc x ρ S) = E (.exc x ρ S) := (rfl)
theorem okX_kP (S : Store) (r : R D) : okX (kP S r) QD X = okX r (fun d _ => isP d fun d => QD d S) (fun x _ => X x S) := by
  cases r with
  | ok d S' => cases d <;> rfl
  | exc x S' => rfl
  | stuck => rfl
theorem okX_eq_ok {r : R D} {d : D} {S : Store} (h : okX r (fun d' S' => d' = d ∧ S' = S) fun _ _ => False) : r = .ok d S := by
  cases r with
  | ok d' S' => obtain ⟨rfl, rfl⟩ := h; rfl
  | exc x S' => exact h.elim
  | stuck => exact h.elim
theorem okX_eq_exc {r : R D} {x : Exc} {S : Store} (h : okX r (fun _ _ => False) fun x' S' => x' = x ∧ S' = S) : r = .exc x S := by
  cases r with
  | ok d' S' => exact h.elim
  | exc x' S' => obtain ⟨rfl, rfl⟩ := h; rfl
  | stuck => exact h.elim
theorem okX_exists {r : R D} {x : Exc} (h : okX r (fun _ _ => False) fun x' _ => x' = x) : ∃ S, r = .exc x S := by
  cases r with
  | ok d' S' => exact h.elim
  | exc x' S' => cases h; exact ⟨S', rfl⟩
  | stuck => exact h.elim
end
/-- for over enumerate(list) -/
theorem okS_enum {α : Type} {N : Env → Store → Prop} {E : RS → Prop} {g : FG} {b : FC} {o : Option (Nat × List D)} (f : α → P) (l : List α) (I : Nat → Env → Store → Prop) (hc : ∀ i ρ S, I i ρ S → chk o S) (hn : ∀ ρ S, I l.length ρ S → N ρ S)
    (h : ∀ (i : Nat) (hi : i < l.length) ρ S, I i ρ S → okR (g (.p (.tup [.int (i : Nat), f l[i]])) ρ S) fun ρ1 S1 => okS (b ρ1 S1) (I (i + 1)) (loopE (I (i + 1)) N E)) (ρ : Env) (S : Store) (hi : I 0 ρ S) : okS (forD o g b (enumP (l.map f)) ρ S) N E := by
  have hlen : (enumP (l.map f)).length = l.length := by unfold enumP; rw [List.length_mapIdx, List.length_map]
  refine okS_for (fun ds ρ S => ∃ i, i + ds.length = l.length ∧ ds = (enumP (l.map f)).drop i ∧ I i ρ S) (fun ds ρ S ⟨i, _, _, hI⟩ => hc i ρ S hI) ?_ ?_ _ _ _ ⟨0, by omega, rfl, hi⟩
  · rintro ρ S ⟨i, e1, _, hI⟩
    rw [List.length_nil, Nat.add_zero] at e1
    rw [e1] at hI
    exact hn ρ S hI
  · rintro d ds ρ S ⟨i, e1, e2, hI⟩
    rw [List.length_cons] at e1
    have hi : i < l.length := by omega
    have hi' : i < (enumP (l.map f)).length := by omega
    rw [List.drop_eq_getElem_cons hi', List.cons.injEq] at e2
    obtain ⟨e3, e4⟩ := e2
    have e5 : (enumP (l.map f))[i] = .p (.tup [.int (i : Nat), f l[i]]) := by
      simp only [enumP, List.getElem_mapIdx, List.getElem_map]
    rw [e5] at e3
    subst e3
    refine okR_imp (h i hi ρ S hI) fun ρ1 S1 h2 => okS_imp h2 (fun ρ2 S2 h3 => ⟨i + 1, by omega, e4, h3⟩) fun r hr => ?_
    cases r with
    | ct ρ2 S2 => exact ⟨i + 1, by omega, e4, hr⟩
    | bk ρ2 S2 => exact hr
    | _ => exact hr
end FR
namespace FR
open PySem PySem.Spec PyProof.Rows L2
/-- a comprehension over items told by f, its elements told by h -/
theorem lc_mapA {α : Type} {fi : Env → Store → R Src} {g : FGp} {e : FE} {own : List Nat} {ρ : Env} {S S0 : Store} (f h : α → P) (l : List α) (hi : fi ρ S0 = .ok ((l.map f).map .p, none) S)
    (hb : ∀ x ∈ l, ∃ ρ1, g (.p (f x)) (wipeD ρ own) = some ρ1 ∧ ∀ ac, e ρ1 (S ++ [.lst ac]) = .ok (.p (h x)) (S ++ [.lst ac])) (hl : l.length ≤ 1000000) (hS : S.all (Cell.below S.length) = true) :
    fLc fi g fYes e own ρ S0 = .ok (.p (.lst (l.map h))) S := by
  refine okR_eq (okR_lc (S1 := S) (l := (l.map f).map .p) (fun ds acc S2 => ∃ done rest, l = done ++ rest ∧ ds = (rest.map f).map .p ∧ acc = done.map h ∧ S2 = S) hi ⟨[], l, rfl, rfl, rfl, rfl⟩ ?_ (by rw [List.length_map, List.length_map]; exact hl) ?_)
  · rintro d ds acc S2 ⟨done, rest, e1, e2, rfl, rfl⟩
    cases rest with
    | nil => cases e2
    | cons x rest =>
      rw [List.map_cons, List.map_cons, List.cons.injEq] at e2
      obtain ⟨rfl, rfl⟩ := e2
      have hx : x ∈ l := by rw [e1]; simp
      obtain ⟨ρ1, h1, h2⟩ := hb x hx
      refine ⟨rfl, ρ1, h1, fun ac => ?_⟩
      rw [h2 ac]
      exact ⟨h x, S2, rfl, rfl, rfl, done ++ [x], rest, by rw [e1]; simp, rfl, by simp, rfl⟩
  · rintro acc S2 ⟨done, rest, e1, e2, rfl, rfl⟩
    cases rest with
    | cons x rest => cases e2
    | nil =>
      rw [List.append_nil] at e1
      subst e1
      exact ⟨rfl, hS, rfl, rfl⟩
end FR

set_option Elab.async false
set_option linter.all false
set_option maxRecDepth 100000
set_option maxHeartbeats 1000000
namespace FR
open PySem PySem.Spec PyProof.Rows L2
/-! the rows for simp, as one -/
theorem WS : (type_of% @c1_ap) ∧
  (type_of% @cA_ap) ∧
  (type_of% @c2_ap) ∧
  (type_of% @aCons_ap) ∧
  (type_of% @aNil_ap) ∧
  (type_of% @fVar_ap) ∧
  (type_of% @optD_ss) ∧
  (type_of% @fC_ap) ∧
  (type_of% @fBool_ap) ∧
  (type_of% @kB_ap) ∧
  (type_of% @fNotT_ap) ∧
  (type_of% @fAndT_ap) ∧
  (type_of% @fOrT_ap) ∧
  (type_of% @kAnd_t) ∧
  (type_of% @kAnd_f) ∧
  (type_of% @kOr_t) ∧
  (type_of% @kOr_f) ∧
  (type_of% @fAndV_ap) ∧
  (type_of% @fOrV_ap) ∧
  (type_of% @fNotV_ap) ∧
  (type_of% @kAndV_t) ∧
  (type_of% @kAndV_f) ∧
  (type_of% @kOrV_t) ∧
  (type_of% @kOrV_f) ∧
  (type_of% @kNotV_ap) ∧
  (type_of% @fIfE_ap) ∧
  (type_of% @kIfE_t) ∧
  (type_of% @kIfE_f) ∧
  (type_of% @fTup_ap) ∧
  (type_of% @kTup_eq) ∧
  (type_of% @kTupP_ap) ∧
  (type_of% @sSeq_ap) ∧
  (type_of% @seq_nx) ∧
  (type_of% @seq_ret) ∧
  (type_of% @seq_bk) ∧
  (type_of% @seq_ct) ∧
  (type_of% @seq_exc) ∧
  (type_of% @sNext_ap) ∧
  (type_of% @sIf_ap) ∧
  (type_of% @kSI_t) ∧
  (type_of% @kSI_f) ∧
  (type_of% @sSet_ap) ∧
  (type_of% @kSet_ap) ∧
  (type_of% @sRet_ap) ∧
  (type_of% @kRet_ap) ∧
  (type_of% @sRetN_ap) ∧
  (type_of% @sDrop_ap) ∧
  (type_of% @kDrop_ap) ∧
  (type_of% @sBreak_ap) ∧
  (type_of% @sCont_ap) ∧
  (type_of% @sIxSet_ap) ∧
  (type_of% @kIx1_ap) ∧
  (type_of% @kIx2_ap) ∧
  (type_of% @sFldSet_ap) ∧
  (type_of% @kFl1_ap) ∧
  (type_of% @kFl2_0) ∧
  (type_of% @sFor_ap) ∧
  (type_of% @kFor_ap) ∧
  (type_of% @forD_nil) ∧
  (type_of% @forD_cons) ∧
  (type_of% @kF1_ap) ∧
  (type_of% @loop_nx) ∧
  (type_of% @loop_ct) ∧
  (type_of% @loop_bk) ∧
  (type_of% @loop_ret) ∧
  (type_of% @loop_exc) ∧
  (type_of% @gNm_ap) ∧
  (type_of% @sPar_ap) ∧
  (type_of% @kPar_ap) ∧
  (type_of% @sAug_ap) ∧
  (type_of% @kAug_ap) ∧
  (type_of% @kAug1_ap) ∧
  (type_of% @kAug2_ap) ∧
  (type_of% @runF_ap) ∧
  (type_of% @fin_nx) ∧
  (type_of% @fin_ret) ∧
  (type_of% @fin_exc) ∧
  (type_of% @callP_ap) ∧
  (type_of% @kPL_ap) ∧
  (type_of% @kP_ok) ∧
  (type_of% @kP_exc) ∧
  (type_of% @cP0) ∧
  (type_of% @cS0) ∧
  (type_of% @cP1) ∧
  (type_of% @cS1) ∧
  (type_of% @cP2) ∧
  (type_of% @cS2) ∧
  (type_of% @cP3) ∧
  (type_of% @cS3) ∧
  (type_of% @cP4) ∧
  (type_of% @cS4) ∧
  (type_of% @cP5) ∧
  (type_of% @cS5) ∧
  (type_of% @cP6) ∧
  (type_of% @cS6) ∧
  (type_of% @cP7) ∧
  (type_of% @cS7) ∧
  (type_of% @cP8) ∧
  (type_of% @cS8) ∧
  (type_of% @pureL_nil) ∧
  (type_of% @pureL_cons) ∧
  (type_of% @gAddI_ap) ∧
  (type_of% @gSubI_ap) ∧
  (type_of% @gMulI_l) ∧
  (type_of% @gMulI_r) ∧
  (type_of% @gDivI_s) ∧
  (type_of% @gModI_ap) ∧
  (type_of% @gPow_18) ∧
  (type_of% @gPow_6) ∧
  (type_of% @gPow_60) ∧
  (type_of% @gLtI_ap) ∧
  (type_of% @gLeI_ap) ∧
  (type_of% @gGtI_ap) ∧
  (type_of% @gGeI_ap) ∧
  (type_of% @gEqF_ii) ∧
  (type_of% @gNeF_ii) ∧
  (type_of% @gNegI_ap) ∧
  (type_of% @gAbsI_ap) ∧
  (type_of% @gInt1_ap) ∧
  (type_of% @gMax2_ap) ∧
  (type_of% @gMin2_ap) ∧
  (type_of% @gGcd_ap) ∧
  (type_of% @gLen_lst) ∧
  (type_of% @gLen_tup) ∧
  (type_of% @gIx_t) ∧
  (type_of% @gIx_l) ∧
  (type_of% @oD_some) ∧
  (type_of% @oP_some) ∧
  (type_of% @at_0) ∧
  (type_of% @at_1) ∧
  (type_of% @at_2) ∧
  (type_of% @at_3) ∧
  (type_of% @at_4) ∧
  (type_of% @iOfA_ap) ∧
  (type_of% @iOf_ap) ∧
  (type_of% @srcL_lst) ∧
  (type_of% @srcL_scr) ∧
  (type_of% @srcT_ap) ∧
  (type_of% @fLst_eq) ∧
  (type_of% @kLst_ap) ∧
  (type_of% @kLstP_ap) ∧
  (type_of% @fLstR_eq) ∧
  (type_of% @kLstR_ap) ∧
  (type_of% @rat_top) ∧
  (type_of% @rat_under) ∧
  (type_of% @gOwn_rr) ∧
  (type_of% @gOwn_ri) ∧
  (type_of% @gOwn_ir) ∧
  (type_of% @gOwnR_ir) ∧
  (type_of% @gOwn1_r) ∧
  (type_of% @gAbsO_r) ∧
  (type_of% @noX_ok) ∧
  (type_of% @gIsi_eq) ∧
  (type_of% @kIsiT_ap) ∧
  (type_of% @kIsi_ap) ∧
  (type_of% @look_hit) ∧
  (type_of% @look_miss) ∧
  (type_of% @tag_p) ∧
  (type_of% @tag_int) ∧
  (type_of% @tag_bl) ∧
  (type_of% @tag_non) ∧
  (type_of% @tag_str) ∧
  (type_of% @tag_tup) ∧
  (type_of% @tag_lst) ∧
  (type_of% @tag_obj) ∧
  (type_of% @tag_rat) ∧
  (type_of% @gOr_ap) ∧
  (type_of% @gOr1_ap) ∧
  (type_of% @orR_ok) ∧
  (type_of% @orR_st) ∧
  (type_of% @orR_exc) ∧
  (type_of% @pNm_ap) ∧
  (type_of% @kMk_ok) ∧
  (type_of% @kMk_exc) ∧
  (type_of% @kMkF_ap) ∧
  (type_of% @pureF_nil) ∧
  (type_of% @pureF_cons) ∧
  (type_of% @putD_nil) ∧
  (type_of% @putD_cons) ∧
  (type_of% @sRaise0_ap) ∧
  (type_of% @sRaise2_ap) ∧
  (type_of% @sRaise1_ap) ∧
  (type_of% @kRz2_ap) ∧
  (type_of% @kRz1_ap) ∧
  (type_of% @sTry_ap) ∧
  (type_of% @kTry_nx) ∧
  (type_of% @kTry_bk) ∧
  (type_of% @kTry_ct) ∧
  (type_of% @kTry_ret) ∧
  (type_of% @kTry_exc) ∧
  (type_of% @hand_nil) ∧
  (type_of% @hand_cons) ∧
  (type_of% @kHand_t) ∧
  (type_of% @kH2_ap) ∧
  (type_of% @kHand_f) ∧
  (type_of% @lookC_hit) ∧
  (type_of% @lookC_miss) ∧
  (type_of% @lookF_hit) ∧
  (type_of% @lookF_miss) ∧
  (type_of% @lookD_hit) ∧
  (type_of% @lookD_miss) ∧
  (type_of% @endX_nx) ∧
  (type_of% @endX_bk) ∧
  (type_of% @endX_ct) ∧
  (type_of% @endX_ret) ∧
  (type_of% @gXset_ap) ∧
  (type_of% @kXset_ap) ∧
  (type_of% @gXf_ap) ∧
  (type_of% @gXi_ap) ∧
  (type_of% @fTru_ap) ∧
  (type_of% @kTruD_non) ∧
  (type_of% @kTruD_bl) ∧
  (type_of% @kTruD_int) ∧
  (type_of% @kTruD_tup) ∧
  (type_of% @kTruD_lst) ∧
  (type_of% @kTruD_r0) ∧
  (type_of% @fTruO_ap) ∧
  (type_of% @kTruO_r) ∧
  (type_of% @kBl_ok) ∧
  (type_of% @kBl_exc) ∧
  (type_of% @gCmp_rr) ∧
  (type_of% @gCmp_ri) ∧
  (type_of% @gCmp_i) ∧
  (type_of% @gCmp_t) ∧
  (type_of% @gCmp_oo) ∧
  (type_of% @gCmp_ot) ∧
  (type_of% @gCmpR_ir) ∧
  (type_of% @gCmpNe_rr) ∧
  (type_of% @gCmpNe_ri) ∧
  (type_of% @kNeB_ap) ∧
  (type_of% @gInF_ap) ∧
  (type_of% @items_t) ∧
  (type_of% @items_l) ∧
  (type_of% @kInF_ap) ∧
  (type_of% @inP_3) ∧
  (type_of% @gInO_ap) ∧
  (type_of% @kInB_t) ∧
  (type_of% @kInB_f) ∧
  (type_of% @cC_ap) ∧
  (type_of% @kC_ap) ∧
  (type_of% @cV_ap) ∧
  (type_of% @kV_ap) ∧
  (type_of% @fMeth_ap) ∧
  (type_of% @kMeth_o) ∧
  (type_of% @kMeth_r) ∧
  (type_of% @kMeth2_ap) ∧
  (type_of% @fMethK_ap) ∧
  (type_of% @kMethK_o) ∧
  (type_of% @kMethK2_ap) ∧
  (type_of% @kMethK3_ap) ∧
  (type_of% @callK_ap) ∧
  (type_of% @kCallK_ap) ∧
  (type_of% @kCallK2_ap) ∧
  (type_of% @mkK_ap) ∧
  (type_of% @kMkK_ap) ∧
  (type_of% @kMkK2_ap) ∧
  (type_of% @eP0) ∧
  (type_of% @eP1) ∧
  (type_of% @eP2) ∧
  (type_of% @eP3) ∧
  (type_of% @mk0) ∧
  (type_of% @mk1) ∧
  (type_of% @mk3) ∧
  (type_of% @mk4) ∧
  (type_of% @mk5) ∧
  (type_of% @mk6) ∧
  (type_of% @mkd2) ∧
  (type_of% @sFld2_ap) ∧
  (type_of% @kF2_0) ∧
  (type_of% @gIsN_lst) ∧
  (type_of% @gNotN_lst) ∧
  (type_of% @gIsN_obj) ∧
  (type_of% @gNotN_obj) ∧
  (type_of% @mkKD_ap) ∧
  (type_of% @kMkKD_ap) ∧
  (type_of% @kMkKD2_ap) ∧
  (type_of% @kMkKD2_13) ∧
  (type_of% @kMkK2_14) ∧
  (type_of% @mkd4) ∧
  (type_of% @gProp_o) ∧
  (type_of% @gProp_r) ∧
  (type_of% @gCon_o) ∧
  (type_of% @gCon_c) ∧
  (type_of% @gCon_r) ∧
  (type_of% @gFld_o) ∧
  (type_of% @gFld_c) ∧
  (type_of% @gInt1_bl) ∧
  (type_of% @gBool1_i) ∧
  (type_of% @gBool1_b) ∧
  (type_of% @gSumI_ap) ∧
  (type_of% @fChain_eq) ∧
  (type_of% @kCh0_ap) ∧
  (type_of% @kCh1_ap) ∧
  (type_of% @kCh2_t) ∧
  (type_of% @kCh2_f) ∧
  (type_of% @kCh3_ap) ∧
  (type_of% @gIsN_non) ∧
  (type_of% @gIsN_int) ∧
  (type_of% @gIsN_tup) ∧
  (type_of% @gNotN_non) ∧
  (type_of% @gNotN_int) ∧
  (type_of% @gNotN_tup) ∧
  (type_of% @fSl_ap) ∧
  (type_of% @kSl1_ap) ∧
  (type_of% @kSl2_ap) ∧
  (type_of% @kSl3_l) ∧
  (type_of% @kSl3_t) ∧
  (type_of% @iNo_ap) ∧
  (type_of% @iAt_ap) ∧
  (type_of% @kAt_ap) ∧
  (type_of% @kMethK3_01) ∧
  (type_of% @kMethK3_11) ∧
  (type_of% @kMethK3_21) ∧
  (type_of% @kMethK3_31) ∧
  (type_of% @kCallK2_11) ∧
  (type_of% @kCallK2_21) ∧
  (type_of% @kCallK2_31) ∧
  (type_of% @kCallK2_41) ∧
  (type_of% @sAsg_ap) ∧
  (type_of% @kAsg_ap) ∧
  (type_of% @kAsg2_ap) ∧
  (type_of% @gOf_ap) ∧
  (type_of% @ofE_some) ∧
  (type_of% @pTup_1) ∧
  (type_of% @pTup_2) ∧
  (type_of% @pTup_3) ∧
  (type_of% @pTup_4) ∧
  (type_of% @pTup_5) ∧
  (type_of% @pCons_ap) ∧
  (type_of% @pNil_ap) ∧
  (type_of% @o_bind_some) ∧
  (type_of% @okR_ok) ∧
  (type_of% @okR_bind) ∧
  (type_of% @okS_nx) ∧
  (type_of% @okS_ret) ∧
  (type_of% @okS_bk) ∧
  (type_of% @okS_ct) ∧
  (type_of% @okS_seq) ∧
  (type_of% @okS_toS_ret) ∧
  (type_of% @okS_toS_loop) ∧
  (type_of% @okS_toS_loop2) ∧
  (type_of% @okS_loop) ∧
  (type_of% @okR_fin) ∧
  (type_of% @retE_ret) ∧
  (type_of% @loopE_ret) ∧
  (type_of% @loopE_ct) ∧
  (type_of% @loopE_bk) ∧
  (type_of% @isP_p) ∧
  (type_of% @okR_kP) ∧
  (type_of% @okX_ok) ∧
  (type_of% @okX_exc) ∧
  (type_of% @okX_bind) ∧
  (type_of% @okS_exc) ∧
  (type_of% @okS_toX) ∧
  (type_of% @okS_toX_loop) ∧
  (type_of% @okX_fin) ∧
  (type_of% @exE_ret) ∧
  (type_of% @exE_exc) ∧
  (type_of% @loopE_exc) ∧
  (type_of% @okX_kP) ∧
  (type_of% @fApp_ap) ∧
  (type_of% @kApp_r) ∧
  (type_of% @kAppT_ap) ∧
  (type_of% @kApp2_r) ∧
  (type_of% @kApp2T_ap) ∧
  (type_of% @gIx_rT) ∧
  (type_of% @gIxT_ap) ∧
  (type_of% @kIx3_rT) ∧
  (type_of% @kIx3T_ap) ∧
  (type_of% @kIx3T2_ap) ∧
  (type_of% @gLen_rT) ∧
  (type_of% @gLenT_ap) ∧
  (type_of% @srcL_rT) ∧
  (type_of% @srcLT_ap) ∧
  (type_of% @fFz_ap) ∧
  (type_of% @kFz_p) ∧
  (type_of% @get_last) ∧
  (type_of% @set_last) :=
  ⟨@c1_ap, @cA_ap, @c2_ap, @aCons_ap, @aNil_ap, @fVar_ap, @optD_ss, @fC_ap, @fBool_ap, @kB_ap, @fNotT_ap, @fAndT_ap, @fOrT_ap, @kAnd_t, @kAnd_f, @kOr_t, @kOr_f, @fAndV_ap, @fOrV_ap, @fNotV_ap, @kAndV_t, @kAndV_f, @kOrV_t, @kOrV_f, @kNotV_ap, @fIfE_ap, @kIfE_t, @kIfE_f, @fTup_ap, @kTup_eq, @kTupP_ap, @sSeq_ap, @seq_nx, @seq_ret, @seq_bk, @seq_ct, @seq_exc, @sNext_ap, @sIf_ap, @kSI_t, @kSI_f, @sSet_ap, @kSet_ap, @sRet_ap, @kRet_ap, @sRetN_ap, @sDrop_ap, @kDrop_ap, @sBreak_ap, @sCont_ap, @sIxSet_ap, @kIx1_ap, @kIx2_ap, @sFldSet_ap, @kFl1_ap, @kFl2_0, @sFor_ap, @kFor_ap, @forD_nil, @forD_cons, @kF1_ap, @loop_nx, @loop_ct, @loop_bk, @loop_ret, @loop_exc, @gNm_ap, @sPar_ap, @kPar_ap, @sAug_ap, @kAug_ap, @kAug1_ap, @kAug2_ap, @runF_ap, @fin_nx, @fin_ret, @fin_exc, @callP_ap, @kPL_ap, @kP_ok, @kP_exc, @cP0, @cS0, @cP1, @cS1, @cP2, @cS2, @cP3, @cS3, @cP4, @cS4, @cP5, @cS5, @cP6, @cS6, @cP7, @cS7, @cP8, @cS8, @pureL_nil, @pureL_cons, @gAddI_ap, @gSubI_ap, @gMulI_l, @gMulI_r, @gDivI_s, @gModI_ap, @gPow_18, @gPow_6, @gPow_60, @gLtI_ap, @gLeI_ap, @gGtI_ap, @gGeI_ap, @gEqF_ii, @gNeF_ii, @gNegI_ap, @gAbsI_ap, @gInt1_ap, @gMax2_ap, @gMin2_ap, @gGcd_ap, @gLen_lst, @gLen_tup, @gIx_t, @gIx_l, @oD_some, @oP_some, @at_0, @at_1, @at_2, @at_3, @at_4, @iOfA_ap, @iOf_ap, @srcL_lst, @srcL_scr, @srcT_ap, @fLst_eq, @kLst_ap, @kLstP_ap, @fLstR_eq, @kLstR_ap, @rat_top, @rat_under, @gOwn_rr, @gOwn_ri, @gOwn_ir, @gOwnR_ir, @gOwn1_r, @gAbsO_r, @noX_ok, @gIsi_eq, @kIsiT_ap, @kIsi_ap, @look_hit, @look_miss, @tag_p, @tag_int, @tag_bl, @tag_non, @tag_str, @tag_tup, @tag_lst, @tag_obj, @tag_rat, @gOr_ap, @gOr1_ap, @orR_ok, @orR_st, @orR_exc, @pNm_ap, @kMk_ok, @kMk_exc, @kMkF_ap, @pureF_nil, @pureF_cons, @putD_nil, @putD_cons, @sRaise0_ap, @sRaise2_ap, @sRaise1_ap, @kRz2_ap, @kRz1_ap, @sTry_ap, @kTry_nx, @kTry_bk, @kTry_ct, @kTry_ret, @kTry_exc, @hand_nil, @hand_cons, @kHand_t, @kH2_ap, @kHand_f, @lookC_hit, @lookC_miss, @lookF_hit, @lookF_miss, @lookD_hit, @lookD_miss, @endX_nx, @endX_bk, @endX_ct, @endX_ret, @gXset_ap, @kXset_ap, @gXf_ap, @gXi_ap, @fTru_ap, @kTruD_non, @kTruD_bl, @kTruD_int, @kTruD_tup, @kTruD_lst, @kTruD_r0, @fTruO_ap, @kTruO_r, @kBl_ok, @kBl_exc, @gCmp_rr, @gCmp_ri, @gCmp_i, @gCmp_t, @gCmp_oo, @gCmp_ot, @gCmpR_ir, @gCmpNe_rr, @gCmpNe_ri, @kNeB_ap, @gInF_ap, @items_t, @items_l, @kInF_ap, @inP_3, @gInO_ap, @kInB_t, @kInB_f, @cC_ap, @kC_ap, @cV_ap, @kV_ap, @fMeth_ap, @kMeth_o, @kMeth_r, @kMeth2_ap, @fMethK_ap, @kMethK_o, @kMethK2_ap, @kMethK3_ap, @callK_ap, @kCallK_ap, @kCallK2_ap, @mkK_ap, @kMkK_ap, @kMkK2_ap, @eP0, @eP1, @eP2, @eP3, @mk0, @mk1, @mk3, @mk4, @mk5, @mk6, @mkd2, @sFld2_ap, @kF2_0, @gIsN_lst, @gNotN_lst, @gIsN_obj, @gNotN_obj, @mkKD_ap, @kMkKD_ap, @kMkKD2_ap, @kMkKD2_13, @kMkK2_14, @mkd4, @gProp_o, @gProp_r, @gCon_o, @gCon_c, @gCon_r, @gFld_o, @gFld_c, @gInt1_bl, @gBool1_i, @gBool1_b, @gSumI_ap, @fChain_eq, @kCh0_ap, @kCh1_ap, @kCh2_t, @kCh2_f, @kCh3_ap, @gIsN_non, @gIsN_int, @gIsN_tup, @gNotN_non, @gNotN_int, @gNotN_tup, @fSl_ap, @kSl1_ap, @kSl2_ap, @kSl3_l, @kSl3_t, @iNo_ap, @iAt_ap, @kAt_ap, @kMethK3_01, @kMethK3_11, @kMethK3_21, @kMethK3_31, @kCallK2_11, @kCallK2_21, @kCallK2_31, @kCallK2_41, @sAsg_ap, @kAsg_ap, @kAsg2_ap, @gOf_ap, @ofE_some, @pTup_1, @pTup_2, @pTup_3, @pTup_4, @pTup_5, @pCons_ap, @pNil_ap, @o_bind_some, @okR_ok, @okR_bind, @okS_nx, @okS_ret, @okS_bk, @okS_ct, @okS_seq, @okS_toS_ret, @okS_toS_loop, @okS_toS_loop2, @okS_loop, @okR_fin, @retE_ret, @loopE_ret, @loopE_ct, @loopE_bk, @isP_p, @okR_kP, @okX_ok, @okX_exc, @okX_bind, @okS_exc, @okS_toX, @okS_toX_loop, @okX_fin, @exE_ret, @exE_exc, @loopE_exc, @okX_kP, @fApp_ap, @kApp_r, @kAppT_ap, @kApp2_r, @kApp2T_ap, @gIx_rT, @gIxT_ap, @kIx3_rT, @kIx3T_ap, @kIx3T2_ap, @gLen_rT, @gLenT_ap, @srcL_rT, @srcLT_ap, @fFz_ap, @kFz_p, @get_last, @set_last⟩
end FR

set_option Elab.async false
set_option linter.all false
set_option maxRecDepth 100000
set_option maxHeartbeats 1000000
namespace FR
open PySem PySem.Spec PyProof.Rows L2
/-! ### ratios by what they are worth -/
abbrev ofQ (q : Rat) : P := rat q.num q.den
theorem q_den_pos (q : Rat) : (0 : Int) < q.den := by have := q.den_pos; omega
theorem ofQ_isR (q : Rat) : IsR (ofQ q) q.num q.den := ⟨q.num, q.den, rfl, q_den_pos q, rfl, by
  show Nat.gcd q.num.natAbs (q.den : Int).natAbs = 1
  rw [Int.natAbs_natCast]
  exact q.reduced⟩
theorem q_nz {u : Int} (h : 0 < u) : (u : Rat) ≠ 0 := fun e => by
  have : (u : Rat) = ((0 : Int) : Rat) := e
  have := Rat.intCast_inj.mp this
  omega
theorem q_div (q : Rat) : q = (q.num : Rat) / (q.den : Int) := by
  have h := Rat.num_divInt_den q
  rw [Rat.divInt_eq_div] at h
  exact h.symm
theorem q_cross {t u t' u' : Int} (hu : 0 < u) (hu' : 0 < u') : (t : Rat) / u = (t' : Rat) / u' ↔ t * u' = t' * u := by
  have a := q_nz hu
  have b := q_nz hu'
  constructor
  · intro h
    have : ((t * u' : Int) : Rat) = ((t' * u : Int) : Rat) := by
      rw [Rat.intCast_mul, Rat.intCast_mul]
      grind
    exact Rat.intCast_inj.mp this
  · intro h
    have : ((t * u' : Int) : Rat) = ((t' * u : Int) : Rat) := by rw [h]
    rw [Rat.intCast_mul, Rat.intCast_mul] at this
    grind
theorem IsR.toQ {p : P} {t u : Int} (h : IsR p t u) (hu : 0 < u) : p = ofQ ((t : Rat) / u) := by
  refine IsR.uniq hu h ?_
  have e := q_div ((t : Rat) / u)
  refine (ofQ_isR ((t : Rat) / u)).to (q_den_pos _) ?_
  exact (q_cross (q_den_pos _) hu).mp e.symm
theorem ofQ_R {q : Rat} {t u : Int} (hu : 0 < u) (e : q = (t : Rat) / u) : IsR (ofQ q) t u := by
  subst e
  refine (ofQ_isR ((t : Rat) / u)).to (q_den_pos _) ?_
  exact (q_cross (q_den_pos _) hu).mp (q_div _).symm
theorem ofQ_int (t : Int) : ofQ (t : Rat) = rat t 1 := by
  show rat (t : Rat).num (t : Rat).den = _
  rw [Rat.num_intCast, Rat.den_intCast]
  rfl
theorem ofQ_inj {x y : Rat} (h : ofQ x = ofQ y) : x = y := by
  obtain ⟨e1, e2⟩ := rat_inj h
  exact Rat.ext e1 (by omega)
/-- few bits above and below the line -/
def QB (k : Nat) (q : Rat) : Prop := Bd k q.num ∧ Bd k (q.den : Int)
theorem QB.mono {k m : Nat} {q : Rat} (h : QB k q) (hk : k ≤ m) : QB m q := ⟨h.1.mono hk, h.2.mono hk⟩
theorem QB.of {k : Nat} {t u : Int} (hu : 0 < u) (ht : Bd k t) (hub : Bd k u) : QB k ((t : Rat) / u) := by
  obtain ⟨a, b, e, h1, h2, h3, h4, h5⟩ := (ofQ_R hu (rfl : (t : Rat) / u = (t : Rat) / u)).bd hu ht hub
  obtain ⟨e1, e2⟩ := rat_inj e
  exact ⟨by rw [e1]; exact h4, by rw [e2]; exact h5⟩
theorem QB.of' {k : Nat} {q : Rat} {t u : Int} (hu : 0 < u) (e : q = (t : Rat) / u) (ht : Bd k t) (hub : Bd k u) : QB k q := e ▸ QB.of hu ht hub
theorem QB.int {k : Nat} {t : Int} (ht : Bd k t) (hk : 0 < k) : QB k (t : Rat) := ⟨by rw [Rat.num_intCast]; exact ht, by rw [Rat.den_intCast]; exact Bd.one hk⟩
theorem QB.pos {k : Nat} {q : Rat} (h : QB k q) : 0 < k := by
  have h1 := h.2
  have h2 := q_den_pos q
  cases k with
  | zero =>
    have : (q.den : Int).natAbs < 1 := h1
    omega
  | succ k => omega
theorem q_add (x y : Rat) : x + y = ((x.num * y.den + y.num * x.den : Int) : Rat) / ((x.den : Int) * (y.den : Int) : Int) := by
  have a := q_nz (q_den_pos x)
  have b := q_nz (q_den_pos y)
  rw [Rat.intCast_add, Rat.intCast_mul, Rat.intCast_mul, Rat.intCast_mul]
  conv => lhs; rw [q_div x, q_div y]
  grind
theorem q_mul (x y : Rat) : x * y = ((x.num * y.num : Int) : Rat) / ((x.den : Int) * (y.den : Int) : Int) := by
  have a := q_nz (q_den_pos x)
  have b := q_nz (q_den_pos y)
  rw [Rat.intCast_mul, Rat.intCast_mul]
  conv => lhs; rw [q_div x, q_div y]
  grind
theorem QB.add {k m : Nat} {x y : Rat} (h : QB k x) (h2 : QB m y) : QB (k + m + 1) (x + y) := by
  refine QB.of' (Int.mul_pos (q_den_pos x) (q_den_pos y)) (q_add x y) ?_ ((h.2.mul h2.2).mono (by omega))
  exact (h.1.mul h2.2).add ((h2.1.mul h.2).mono (by omega))
theorem QB.mul {k m : Nat} {x y : Rat} (h : QB k x) (h2 : QB m y) : QB (k + m) (x * y) :=
  QB.of' (Int.mul_pos (q_den_pos x) (q_den_pos y)) (q_mul x y) (h.1.mul h2.1) (h.2.mul h2.2)
theorem QB.neg {k : Nat} {x : Rat} (h : QB k x) : QB k (-x) := ⟨by rw [Rat.neg_num]; exact h.1.neg, by rw [Rat.neg_den]; exact h.2⟩
theorem QB.sub {k m : Nat} {x y : Rat} (h : QB k x) (h2 : QB m y) : QB (k + m + 1) (x - y) := by
  rw [Rat.sub_eq_add_neg]
  exact h.add h2.neg
theorem q_lt (x y : Rat) : x < y ↔ x.num * y.den < y.num * x.den := Rat.lt_iff x y
end FR
namespace FR
open PySem PySem.Spec PyProof.Rows L2
/-- a multiple of 1 / d, at most m -/
def QD (d : Int) (m : Nat) (q : Rat) : Prop := ∃ a : Int, q = (a : Rat) / d ∧ a.natAbs ≤ m * d.natAbs
theorem QD.zero {d : Int} {m : Nat} (hd : 0 < d) : QD d m 0 := ⟨0, by have := q_nz hd; grind, by simp⟩
theorem QD.add {d : Int} {m n : Nat} {x y : Rat} (hd : 0 < d) (h : QD d m x) (h2 : QD d n y) : QD d (m + n) (x + y) := by
  obtain ⟨a, rfl, ha⟩ := h
  obtain ⟨b, rfl, hb⟩ := h2
  refine ⟨a + b, ?_, ?_⟩
  · have := q_nz hd
    rw [Rat.intCast_add]
    grind
  · rw [Nat.add_mul]
    omega
theorem QD.mono {d : Int} {m n : Nat} {x : Rat} (h : QD d m x) (hm : m ≤ n) : QD d n x := by
  obtain ⟨a, e, ha⟩ := h
  exact ⟨a, e, Nat.le_trans ha (Nat.mul_le_mul_right _ hm)⟩
theorem QD.qb {d : Int} {m k : Nat} {x : Rat} (hd : 0 < d) (h : QD d m x) (hk : Bd k d) (hm : m < 1000000) : QB (k + 20) x := by
  obtain ⟨a, e, ha⟩ := h
  refine QB.of' hd e ?_ (hk.mono (by omega))
  show a.natAbs < 2 ^ (k + 20)
  rw [Nat.pow_add]
  refine Nat.lt_of_le_of_lt ha ?_
  have h1 : m * d.natAbs ≤ 1000000 * d.natAbs := Nat.mul_le_mul_right _ (by omega)
  have h2 : d.natAbs < 2 ^ k := hk
  have h3 : (2 : Nat) ^ 20 = 1048576 := by decide
  have h4 : d.natAbs ≠ 0 := by omega
  generalize 2 ^ k = z at *
  rw [h3]
  omega
end FR
namespace FR
section
variable {α β : Type}
theorem qs_add (f g : α → Rat) : ∀ l : List α, (l.map fun x => f x + g x).sum = (l.map f).sum + (l.map g).sum
  | [] => by simp only [List.map_nil, List.sum_nil]; grind
  | a :: l => by
    have := qs_add f g l
    simp only [List.map_cons, List.sum_cons]
    rw [this]
    grind
theorem qs_mul (c : Rat) (f : α → Rat) : ∀ l : List α, (l.map fun x => c * f x).sum = c * (l.map f).sum
  | [] => by simp only [List.map_nil, List.sum_nil]; grind
  | a :: l => by
    have := qs_mul c f l
    simp only [List.map_cons, List.sum_cons]
    rw [this]
    grind
theorem qs_zero : ∀ l : List α, (l.map fun _ => (0 : Rat)).sum = 0
  | [] => by simp only [List.map_nil, List.sum_nil]
  | a :: l => by
    have := qs_zero l
    simp only [List.map_cons, List.sum_cons]
    rw [this]
    grind
theorem qs_congr {f g : α → Rat} : ∀ {l : List α}, (∀ x ∈ l, f x = g x) → (l.map f).sum = (l.map g).sum
  | [], _ => rfl
  | a :: l, h => by
    simp only [List.map_cons, List.sum_cons]
    rw [h a List.mem_cons_self, qs_congr fun x hx => h x (List.mem_cons_of_mem _ hx)]
theorem qs_swap (f : α → β → Rat) : ∀ (xs : List α) (ys : List β), (xs.map fun x => (ys.map fun y => f x y).sum).sum = (ys.map fun y => (xs.map fun x => f x y).sum).sum
  | [], ys => by
    simp only [List.map_nil, List.sum_nil]
    exact (qs_zero ys).symm
  | a :: xs, ys => by
    simp only [List.map_cons, List.sum_cons]
    rw [qs_add, qs_swap f xs ys]
end
end FR

set_option Elab.async false
set_option linter.all false
set_option maxRecDepth 100000
set_option maxHeartbeats 1000000
namespace FR
open PySem PySem.Spec PyProof.Rows L2
/-! rows for simp over the readings of FR34 .. FR44 -/
section
variable (ρ : Env) (S : Store)
theorem gCatT_ap (a b : List P) (h : a.length ≤ 500000) (h2 : b.length ≤ 500000) : gCatT (.p (.tup a)) (.p (.tup b)) S = .ok (.p (.tup (a ++ b))) S := if_pos ⟨h, h2⟩
theorem gCatS_ap (a b : Str) (h : a.length ≤ 500000) (h2 : b.length ≤ 500000) : gCatS (.p (.str a)) (.p (.str b)) S = .ok (.p (.str (a ++ b))) S := if_pos ⟨h, h2⟩
def kCatC (S : Store) : Option (List P) → Option (List P) → R D
  | some a, some b => if a.length ≤ 500000 ∧ b.length ≤ 500000 then .ok (.p (.lst (a ++ b))) S else .stuck
  | _, _ => .stuck
theorem gCatC_ap (x y : D) : gCatC x y S = kCatC S (itemsOf S x) (itemsOf S y) := by unfold gCatC kCatC; cases itemsOf S x <;> cases itemsOf S y <;> rfl
theorem kCatC_ap (a b : List P) (h : a.length ≤ 500000) (h2 : b.length ≤ 500000) : kCatC S (some a) (some b) = .ok (.p (.lst (a ++ b))) S := if_pos ⟨h, h2⟩
def kCatR (S : Store) : Option (List P) → Option (List P) → R D
  | some a, some b => if a.length ≤ 500000 ∧ b.length ≤ 500000 then .ok (.r S.length) (S ++ [.lst ((a ++ b).map .p)]) else .stuck
  | _, _ => .stuck
theorem gCatR_ap (x y : D) : gCatR x y S = kCatR S (itemsOf S x) (itemsOf S y) := by unfold gCatR kCatR; cases itemsOf S x <;> cases itemsOf S y <;> rfl
theorem kCatR_ap (a b : List P) (h : a.length ≤ 500000) (h2 : b.length ≤ 500000) : kCatR S (some a) (some b) = .ok (.r S.length) (S ++ [.lst ((a ++ b).map .p)]) := if_pos ⟨h, h2⟩
theorem itemsOf_l (l : List P) : itemsOf S (.p (.lst l)) = some l := rfl
def itemsT : Option Cell → Option (List P)
  | some (.lst l) => pureL l
  | _ => none
theorem itemsOf_r (n : Nat) : itemsOf S (.r n) = itemsT S[n]? := by
  show (match S[n]? with
    | some (.lst l) => pureL l
    | _ => none) = _
  cases S[n]? with
  | none => rfl
  | some c => cases c <;> rfl
theorem itemsT_ap (l : List P) : itemsT (some (.lst (l.map .p))) = some l := pureL_map l
theorem gIsB_ap (a b : Bool) : gIsB (.p (.bl a)) (.p (.bl b)) S = .ok (.p (.bl (decide (a = b)))) S := rfl
theorem gIsntB_ap (a b : Bool) : gIsntB (.p (.bl a)) (.p (.bl b)) S = .ok (.p (.bl (!decide (a = b)))) S := rfl
theorem srcZ_l (l k : List P) : srcZ [.p (.lst l), .p (.lst k)] S = .ok (zipP l k, none) S := rfl
theorem srcZ_t (l k : List P) : srcZ [.p (.tup l), .p (.tup k)] S = .ok (zipP l k, none) S := rfl
theorem srcV_l (l : List P) : srcV (.p (.lst l)) S = .ok (l.reverse.map .p, none) S := rfl
theorem srcV_t (l : List P) : srcV (.p (.tup l)) S = .ok (l.reverse.map .p, none) S := rfl
theorem srcR3_ap (i j : Int) (h1 : -(2 ^ 62) ≤ i) (h2 : i < 2 ^ 62) (h3 : -(2 ^ 62) ≤ j) (h4 : j < 2 ^ 62) : srcR3 [.p (.int i), .p (.int j), .p (.int (-1))] S = .ok (downTo i (i - j).toNat, none) S := if_pos ⟨h1, h2, h3, h4, rfl⟩
/-! methods of cells -/
def kC0 (g : CM) (o : D) (S1 : Store) : R D := match o with
  | .r n => cellM g n [] S1
  | _ => .stuck
theorem fCell0_ap (g : CM) (fo : FE) : fCell0 g fo ρ S = (fo ρ S).bind (kC0 g) := rfl
theorem kC0_r (g : CM) (n : Nat) : kC0 g (.r n) S = cellM g n [] S := rfl
def kC2 (g : CM) (n : Nat) (l : List D) (S2 : Store) : R D := cellM g n l S2
def kC1 (g : CM) (fa : FA) (ρ : Env) (o : D) (S1 : Store) : R D := match o with
  | .r n => if tagC S1[n]? = some (.ty "list") then (fa ρ S1).bind (kC2 g n) else .stuck
  | _ => .stuck
def kC1T (g : CM) (fa : FA) (ρ : Env) (n : Nat) (S1 : Store) : Option Cell → R D
  | some (.lst _) => (fa ρ S1).bind (kC2 g n)
  | _ => .stuck
theorem fCell_ap (g : CM) (fo : FE) (fa : FA) : fCell g fo fa ρ S = (fo ρ S).bind (kC1 g fa ρ) := rfl
theorem kC1_r (g : CM) (fa : FA) (n : Nat) : kC1 g fa ρ (.r n) S = kC1T g fa ρ n S S[n]? := by
  show (if tagC S[n]? = some (.ty "list") then (fa ρ S).bind (kC2 g n) else .stuck) = _
  unfold kC1T
  cases S[n]? with
  | none => rfl
  | some c =>
    cases c with
    | lst l => exact if_pos rfl
    | dead => exact if_neg (by simp [tagC])
    | ins c gs => exact if_neg (by simp [tagC])
    | dK l => exact if_neg (by simp [tagC])
theorem kC1T_ap (g : CM) (fa : FA) (n : Nat) (l : List D) : kC1T g fa ρ n S (some (.lst l)) = (fa ρ S).bind (kC2 g n) := rfl
def kCM2 (n : Nat) (S : Store) : Option (D × List D) → R D
  | some (d, acc') => .ok d (S.set n (.lst acc'))
  | none => .stuck
def kCM (g : CM) (n : Nat) (ds : List D) (S : Store) : Option Cell → R D
  | some (.lst acc) => kCM2 n S (g acc ds)
  | _ => .stuck
theorem kC2_ap (g : CM) (n : Nat) (ds : List D) : kC2 g n ds S = cellM g n ds S := rfl
theorem cellM_ap (g : CM) (n : Nat) (ds : List D) : cellM g n ds S = kCM g n ds S S[n]? := by
  unfold cellM kCM kCM2
  cases S[n]? with
  | none => rfl
  | some c =>
    cases c with
    | lst l =>
      dsimp only
      all_goals (cases g l ds <;> rfl)
    | _ => rfl
theorem kCM_ap (g : CM) (n : Nat) (ds acc : List D) : kCM g n ds S (some (.lst acc)) = kCM2 n S (g acc ds) := rfl
theorem kCM2_ap (n : Nat) (d : D) (acc' : List D) : kCM2 n S (some (d, acc')) = .ok d (S.set n (.lst acc')) := rfl
theorem cmInsert_ap (acc : List D) (i : Int) (d : D) (h0 : 0 ≤ i) (h1 : i < 2 ^ 63) (hl : acc.length < 1000000) : cmInsert acc [.p (.int i), d] = some (.p .non, acc.take i.toNat ++ [d] ++ acc.drop i.toNat) := if_pos ⟨h0, h1, hl⟩
theorem cmClear_ap (acc : List D) : cmClear acc [] = some (.p .non, []) := rfl
theorem cmPop_app (acc : List D) (d : D) : cmPop (acc ++ [d]) [] = some (d, acc) := by
  unfold cmPop
  simp
/-! fields -/
def kFA2 (c : Cn) (x : Fld) (n : Nat) (d0 : D) (ρ : Env) (d : D) (S2 : Store) : RS := match addII d0 d, S2[n]? with
  | some z, some (.ins c2 gs2) => if c2 = c ∧ gs2.length < 900 then .nx ρ (S2.set n (.ins c (putD x z gs2))) else .stuck
  | _, _ => .stuck
def kFAL (c : Cn) (x : Fld) (fv : FE) (ρ : Env) (S1 : Store) : Option D → RS
  | some d0 => (fv ρ S1).toS ρ (kFA2 c x 0 d0 ρ)
  | none => .stuck
def kFA1 (c : Cn) (x : Fld) (fv : FE) (ρ : Env) (o : D) (S1 : Store) : RS := match o with
  | .r n => (match S1[n]? with
    | some (.ins c' gs) => if c' = c then (match gs.lookup x with
      | some d0 => (fv ρ S1).toS ρ (kFA2 c x n d0 ρ)
      | none => .stuck) else .stuck
    | _ => .stuck)
  | _ => .stuck
theorem sFldAug_ap (c : Cn) (x : Fld) (fo fv : FE) : sFldAug c x fo fv ρ S = (fo ρ S).toS ρ (kFA1 c x fv ρ) := rfl
theorem kFA1_0 (c : Cn) (x : Fld) (fv : FE) (gs : List (Fld × D)) : kFA1 c x fv ρ (.r 0) (.ins c gs :: S) = kFAL c x fv ρ (.ins c gs :: S) (gs.lookup x) := by
  show (if c = c then _ else _) = _
  rw [if_pos rfl]
  cases gs.lookup x <;> rfl
theorem kFAL_ap (c : Cn) (x : Fld) (fv : FE) (d0 : D) : kFAL c x fv ρ S (some d0) = (fv ρ S).toS ρ (kFA2 c x 0 d0 ρ) := rfl
theorem kFA2_0 (c : Cn) (x : Fld) (i j : Int) (gs : List (Fld × D)) (h : gs.length ≤ 800) : kFA2 c x 0 (.p (.int i)) ρ (.p (.int j)) (.ins c gs :: S) = .nx ρ (.ins c (putD x (.p (.int (i + j))) gs) :: S) := by
  show (if c = c ∧ gs.length < 900 then _ else _) = _
  rw [if_pos ⟨rfl, by omega⟩]
  rfl
def kFC2 (cs : List Cn) (x : Fld) (ρ : Env) (d o : D) (S2 : Store) : RS := match o with
  | .r n => match S2[n]? with
    | some (.ins c' gs) => if c' ∈ cs ∧ gs.length < 900 then .nx ρ (S2.set n (.ins c' (putD x d gs))) else .stuck
    | _ => .stuck
  | _ => .stuck
def kFC1 (cs : List Cn) (x : Fld) (fo : FE) (ρ : Env) (d : D) (S1 : Store) : RS := (fo ρ S1).toS ρ (kFC2 cs x ρ d)
theorem sFldSetC_ap (cs : List Cn) (x : Fld) (fo fv : FE) : sFldSetC cs x fo fv ρ S = (fv ρ S).toS ρ (kFC1 cs x fo ρ) := rfl
theorem kFC1_ap (cs : List Cn) (x : Fld) (fo : FE) (d : D) : kFC1 cs x fo ρ d S = (fo ρ S).toS ρ (kFC2 cs x ρ d) := rfl
theorem kFC2_0 (cs : List Cn) (c : Cn) (x : Fld) (d : D) (gs : List (Fld × D)) (hc : cs.elem c = true) (h : gs.length ≤ 800) : kFC2 cs x ρ d (.r 0) (.ins c gs :: S) = .nx ρ (.ins c (putD x d gs) :: S) := by
  show (if c ∈ cs ∧ gs.length < 900 then _ else _) = _
  rw [if_pos ⟨by simpa using hc, by omega⟩]
  rfl
def kF2C (cs : List Cn) (x y : Fld) (ρ : Env) (o : Option (Option D)) (d : D) (S1 : Store) : RS := match d, o with
  | .p (.tup [a, b]), some (some (.r n)) => (match S1[n]? with
    | some (.ins c' gs) => if c' ∈ cs ∧ gs.length < 900 then .nx ρ (S1.set n (.ins c' (putD y (.p b) (putD x (.p a) gs)))) else .stuck
    | _ => .stuck)
  | _, _ => .stuck
theorem sFld2C_ap (cs : List Cn) (x y : Fld) (i : Nat) (fv : FE) : sFld2C cs x y i fv ρ S = (fv ρ S).toS ρ (kF2C cs x y ρ ρ[i]?) := rfl
theorem kF2C_0 (cs : List Cn) (c : Cn) (x y : Fld) (a b : P) (gs : List (Fld × D)) (hc : cs.elem c = true) (h : gs.length ≤ 800) : kF2C cs x y ρ (some (some (.r 0))) (.p (.tup [a, b])) (.ins c gs :: S) = .nx ρ (.ins c (putD y (.p b) (putD x (.p a) gs)) :: S) := if_pos ⟨by simpa using hc, by omega⟩
/-! starred defs -/
def kStar (g : List D → Store → R D) (S : Store) : Option (List D) → R D
  | some ds' => g ds' S
  | none => .stuck
theorem mkStar_ap (n : Nat) (g : List D → Store → R D) (ds : List D) : mkStar n g ds S = kStar g S (starD n ds) := by unfold mkStar kStar; cases starD n ds <;> rfl
theorem callStar_ap (n : Nat) (F : Fn) (ds : List D) : callStar n F ds S = kStar (callP F []) S (starD n ds) := by unfold callStar kStar; cases starD n ds <;> rfl
theorem kStar_ap (g : List D → Store → R D) (ds : List D) : kStar g S (some ds) = g ds S := rfl
theorem starD_ps (l : List P) (h : l.length ≤ 1000000) : starD 0 (l.map .p) = some [.p (.tup l)] := by
  unfold starD
  rw [if_pos ⟨Nat.zero_le _, by rw [List.length_map]; exact h⟩, List.drop_zero, pureL_map]
  rfl
theorem starD_1 (a : P) : starD 0 [.p a] = some [.p (.tup [a])] := starD_ps [a] (by simp)
theorem starD_2 (a b : P) : starD 0 [.p a, .p b] = some [.p (.tup [a, b])] := starD_ps [a, b] (by simp)
theorem starD_3 (a b c : P) : starD 0 [.p a, .p b, .p c] = some [.p (.tup [a, b, c])] := starD_ps [a, b, c] (by simp)
theorem starD_4 (a b c d : P) : starD 0 [.p a, .p b, .p c, .p d] = some [.p (.tup [a, b, c, d])] := starD_ps [a, b, c, d] (by simp)
def kStarO (g : List D → Store → R D) (S1 : Store) : Option (List D) → R D
  | some l => g l S1
  | none => .stuck
def kCStar (g : List D → Store → R D) (d : D) (S1 : Store) : R D := kStarO g S1 (starOf d)
theorem cStar_ap (g : List D → Store → R D) (f : FE) : cStar g f ρ S = (f ρ S).bind (kCStar g) := by
  show R.bind _ _ = R.bind _ _
  refine congrArg _ ?_
  funext d S1
  unfold kCStar kStarO
  cases starOf d <;> rfl
theorem kCStar_l (g : List D → Store → R D) (l : List P) : kCStar g (.p (.lst l)) S = g (l.map .p) S := rfl
theorem kCStar_t (g : List D → Store → R D) (l : List P) : kCStar g (.p (.tup l)) S = g (l.map .p) S := rfl
/-! instances called -/
def kCO2 (n : Nat) (F : Fn) (o : D) (l : List D) (S2 : Store) : R D := callN .P n F [] (o :: l) S2
def kCO1 (c : Cn) (n : Nat) (F : Fn) (fa : FA) (ρ : Env) (o : D) (S1 : Store) : R D := match o with
  | .p (.obj c' gs) => if c' = c then (fa ρ S1).bind (kCO2 n F (.p (.obj c' gs))) else .stuck
  | _ => .stuck
theorem fCallO_ap (c : Cn) (n : Nat) (F : Fn) (fo : FE) (fa : FA) : fCallO c n F fo fa ρ S = (fo ρ S).bind (kCO1 c n F fa ρ) := rfl
theorem kCO1_o (c : Cn) (n : Nat) (F : Fn) (fa : FA) (gs : List (Fld × P)) : kCO1 c n F fa ρ (.p (.obj c gs)) S = (fa ρ S).bind (kCO2 n F (.p (.obj c gs))) := if_pos rfl
theorem kCO2_ap (n : Nat) (F : Fn) (o : D) (l : List D) : kCO2 n F o l S = callN .P n F [] (o :: l) S := rfl
/-! lists -/
theorem gRevL_l (l : List P) : gRevL (.p (.lst l)) S = .ok (.p (.lst l.reverse)) S := rfl
theorem gLR_p (i j : Int) (h : rgIn i j) : gLR false (.p (.int i)) (.p (.int j)) S = .ok (.p (.lst (rgP i j))) S := if_pos h
theorem gLR_c (i j : Int) (h : rgIn i j) : gLR true (.p (.int i)) (.p (.int j)) S = .ok (.r S.length) (S ++ [.lst ((rgP i j).map .p)]) := if_pos h
theorem gAny_l (l : List Bool) : gAny [.p (.lst (l.map .bl))] S = .ok (.p (.bl (l.any id))) S := by
  simp only [gAny, asBls_map]
theorem gSortI_l (l : List Int) : gSortI [.p (.lst (l.map .int))] S = .ok (.p (.lst ((sortI l).map .int))) S := by
  simp only [gSortI, itemsOf_l, Option.bind_some, asInts_map]
theorem fNotTV_ap (f : FE) : fNotTV f ρ S = (f ρ S).bind (fun d S1 => match truD d S1 with
  | some b => .ok (.p (.bl (!b))) S1
  | none => .stuck) := rfl
/-! l[i] += v -/
def kIA4 (n : Nat) (k : Int) (ρ : Env) (z : D) (S4 : Store) : RS := match S4[n]? with
  | some (.lst l4) => (match ixN l4.length k with
    | some j => .nx ρ (S4.set n (.lst (l4.set j z)))
    | none => .stuck)
  | _ => .stuck
def kIA3 (g : D → D → Store → R D) (n : Nat) (k : Int) (d0 : D) (ρ : Env) (d : D) (S3 : Store) : RS := (g d0 d S3).toS ρ (kIA4 n k ρ)
def kIAL (g : D → D → Store → R D) (n : Nat) (k : Int) (fv : FE) (ρ : Env) (S2 : Store) : Option D → RS
  | some d0 => (fv ρ S2).toS ρ (kIA3 g n k d0 ρ)
  | none => .stuck
def kIAC (g : D → D → Store → R D) (n : Nat) (k : Int) (fv : FE) (ρ : Env) (S2 : Store) : Option Cell → RS
  | some (.lst l) => kIAL g n k fv ρ S2 (atI l k)
  | _ => .stuck
def kIA2 (g : D → D → Store → R D) (fv : FE) (ρ : Env) (o i : D) (S2 : Store) : RS := match o, i with
  | .r n, .p (.int k) => kIAC g n k fv ρ S2 S2[n]?
  | _, _ => .stuck
def kIA1 (g : D → D → Store → R D) (fi fv : FE) (ρ : Env) (o : D) (S1 : Store) : RS := (fi ρ S1).toS ρ (kIA2 g fv ρ o)
theorem sIxAug_ap (g : D → D → Store → R D) (fo fi fv : FE) : sIxAug g fo fi fv ρ S = (fo ρ S).toS ρ (kIA1 g fi fv ρ) := by
  unfold sIxAug
  refine congrArg _ ?_
  funext o S1
  unfold kIA1
  refine congrArg _ ?_
  funext i S2
  cases o with
  | p q => rfl
  | r n =>
    cases i with
    | r m => rfl
    | p q =>
      cases q with
      | int k =>
        show _ = kIAC g n k fv ρ S2 S2[n]?
        unfold kIAC kIAL kIA3 kIA4
        dsimp only
        all_goals (
          cases e : S2[n]? with
          | none => rfl
          | some c =>
            cases c with
            | lst l =>
              dsimp only
              all_goals (cases atI l k <;> rfl)
            | _ => rfl)
      | _ => rfl
theorem kIA1_ap (g : D → D → Store → R D) (fi fv : FE) (o : D) : kIA1 g fi fv ρ o S = (fi ρ S).toS ρ (kIA2 g fv ρ o) := rfl
theorem kIA2_r (g : D → D → Store → R D) (fv : FE) (n : Nat) (k : Int) : kIA2 g fv ρ (.r n) (.p (.int k)) S = kIAC g n k fv ρ S S[n]? := rfl
theorem kIAC_ap (g : D → D → Store → R D) (n : Nat) (k : Int) (fv : FE) (l : List D) : kIAC g n k fv ρ S (some (.lst l)) = kIAL g n k fv ρ S (atI l k) := rfl
theorem kIAL_ap (g : D → D → Store → R D) (n : Nat) (k : Int) (fv : FE) (d0 : D) : kIAL g n k fv ρ S (some d0) = (fv ρ S).toS ρ (kIA3 g n k d0 ρ) := rfl
theorem kIA3_ap (g : D → D → Store → R D) (n : Nat) (k : Int) (d0 d : D) : kIA3 g n k d0 ρ d S = (g d0 d S).toS ρ (kIA4 n k ρ) := rfl
end
/-! comprehensions that give a cell -/
theorem okR_lcR {QD : D → Store → Prop} {g : FGp} {f : FE} {own : List Nat} {fi : Env → Store → R Src} {ρ : Env} {S S1 : Store} {l : List D} (J : List D → List P → Store → Prop) (hi : fi ρ S = .ok (l, none) S1) (hJ : J l [] S1)
    (hb : ∀ d ds acc S2, J (d :: ds) acc S2 → S2.length = S1.length ∧ ∃ ρ1, g d (wipeD ρ own) = some ρ1 ∧ ∀ ac : List P, okR (f ρ1 (S2 ++ [.lst (ac.map .p)])) fun y S3 => ∃ q S4, y = .p q ∧ S3 = S4 ++ [.lst (ac.map .p)] ∧ S4.length = S1.length ∧ J ds (acc ++ [q]) S4) (hl : l.length ≤ 1000000)
    (hq : ∀ acc S2, J [] acc S2 → S2.length = S1.length ∧ S2.all (Cell.below S2.length) = true ∧ QD (.r S1.length) (S2 ++ [.lst (acc.map .p)])) : okR (fLcR fi g fYes f own ρ S) QD := by
  have key : ∀ (ds : List D) (acc : List P) (S2 : Store), S2.length = S1.length → J ds acc S2 → acc.length + ds.length ≤ 1000000 → ∃ acc' S4, lcD none S1.length g fYes f (wipeD ρ own) ds (S2 ++ [.lst (acc.map .p)]) = .ok () (S4 ++ [.lst (acc'.map .p)]) ∧ J [] acc' S4 := by
    intro ds
    induction ds with
    | nil =>
      intro acc S2 hS hJ _
      refine ⟨acc, S2, ?_, hJ⟩
      unfold lcD
      exact if_pos trivial
    | cons d ds ih =>
      intro acc S2 hS hJ hl2
      obtain ⟨_, ρ1, e1, h1⟩ := hb d ds acc S2 hJ
      obtain ⟨y, S3, e2, q, S4, rfl, rfl, h4, h5⟩ := okR_nx (h1 acc)
      rw [List.length_cons] at hl2
      obtain ⟨acc', S5, e5, h6⟩ := ih (acc ++ [q]) S4 h4 h5 (by rw [List.length_append]; simp; omega)
      refine ⟨acc', S5, ?_, h6⟩
      rw [lcD, if_pos (show chk none _ from trivial)]
      simp only [e1]
      show (match f ρ1 (S2 ++ [.lst (acc.map .p)]) with
        | .ok y S3 => _
        | _ => _) = _
      rw [e2]
      have hg : (S4 ++ [Cell.lst (acc.map D.p)])[S1.length]? = some (.lst (acc.map .p)) := by rw [← h4]; simp
      simp only [hg]
      rw [if_pos (by rw [List.length_map]; omega)]
      have hs : (S4 ++ [Cell.lst (acc.map D.p)]).set S1.length (.lst (acc.map .p ++ [.p q])) = S4 ++ [.lst ((acc ++ [q]).map .p)] := by
        rw [← h4]
        simp
      rw [hs]
      exact e5
  obtain ⟨acc', S4, e5, h6⟩ := key l [] S1 rfl hJ (by simpa using hl)
  obtain ⟨h7, h8, h9⟩ := hq acc' S4 h6
  unfold fLcR
  rw [hi, R.bind_ok]
  rw [List.map_nil] at e5
  rw [show (⟨l, none⟩ : Src).2 = none from rfl, show (⟨l, none⟩ : Src).1 = l from rfl, e5, R.bind_ok]
  unfold lcEndR
  have hg : (S4 ++ [Cell.lst (acc'.map D.p)])[S1.length]? = some (.lst (acc'.map .p)) := by rw [← h7]; simp
  simp only [hg]
  have ht : (S4 ++ [Cell.lst (acc'.map D.p)]).take (S1.length + 1) = S4 ++ [Cell.lst (acc'.map D.p)] := List.take_of_length_le (by simp; omega)
  rw [ht, if_pos]
  · exact h9
  · rw [List.all_append, Bool.and_eq_true_iff]
    refine ⟨List.all_eq_true.mpr fun c hc => below_mono (by omega) (List.all_eq_true.mp h8 c hc), ?_⟩
    rw [List.all_cons, List.all_nil, Bool.and_true]
    exact below_mono (Nat.zero_le _) (calm_lst acc')
/-- .. over items told by f, the store at rest -/
theorem lcR_mapA {α : Type} {fi : Env → Store → R Src} {g : FGp} {e : FE} {own : List Nat} {ρ : Env} {S S0 : Store} (f h : α → P) (l : List α) (hi : fi ρ S0 = .ok ((l.map f).map .p, none) S)
    (hb : ∀ x ∈ l, ∃ ρ1, g (.p (f x)) (wipeD ρ own) = some ρ1 ∧ ∀ ac : List P, e ρ1 (S ++ [.lst (ac.map .p)]) = .ok (.p (h x)) (S ++ [.lst (ac.map .p)])) (hl : l.length ≤ 1000000) (hS : S.all (Cell.below S.length) = true) :
    fLcR fi g fYes e own ρ S0 = .ok (.r S.length) (S ++ [.lst ((l.map h).map .p)]) := by
  refine okR_eq (okR_lcR (S1 := S) (l := (l.map f).map .p) (fun ds acc S2 => ∃ done rest, l = done ++ rest ∧ ds = (rest.map f).map .p ∧ acc = done.map h ∧ S2 = S) hi ⟨[], l, rfl, rfl, rfl, rfl⟩ ?_ (by rw [List.length_map, List.length_map]; exact hl) ?_)
  · rintro d ds acc S2 ⟨done, rest, e1, e2, rfl, rfl⟩
    cases rest with
    | nil => cases e2
    | cons x rest =>
      rw [List.map_cons, List.map_cons, List.cons.injEq] at e2
      obtain ⟨rfl, rfl⟩ := e2
      have hx : x ∈ l := by rw [e1]; simp
      obtain ⟨ρ1, h1, h2⟩ := hb x hx
      refine ⟨rfl, ρ1, h1, fun ac => ?_⟩
      rw [h2 ac]
      exact ⟨h x, S2, rfl, rfl, rfl, done ++ [x], rest, by rw [e1]; simp, rfl, by simp, rfl⟩
  · rintro acc S2 ⟨done, rest, e1, e2, rfl, rfl⟩
    cases rest with
    | cons x rest => cases e2
    | nil =>
      rw [List.append_nil] at e1
      subst e1
      exact ⟨rfl, hS, rfl, rfl⟩
/-! .. the element reads a store whose last cell is pure -/
theorem okR_lcB {QD : D → Store → Prop} {g : FGp} {f : FE} {own : List Nat} {fi : Env → Store → R Src} {ρ : Env} {S S1 : Store} {l : List D} (J : List D → List P → Store → Prop) (hi : fi ρ S = .ok (l, none) S1) (hJ : J l [] S1)
    (hb : ∀ d ds acc S2, J (d :: ds) acc S2 → S2.length = S1.length ∧ ∃ ρ1, g d (wipeD ρ own) = some ρ1 ∧ ∀ ac : List P, okR (f ρ1 (S2 ++ [.lst (ac.map .p)])) fun y S3 => ∃ q S4, y = .p q ∧ S3 = S4 ++ [.lst (ac.map .p)] ∧ S4.length = S1.length ∧ J ds (acc ++ [q]) S4) (hl : l.length ≤ 1000000)
    (hq : ∀ acc S2, J [] acc S2 → S2.length = S1.length ∧ S2.all (Cell.below S2.length) = true ∧ QD (.p (.lst acc)) S2) : okR (fLc fi g fYes f own ρ S) QD := by
  have key : ∀ (ds : List D) (acc : List P) (S2 : Store), S2.length = S1.length → J ds acc S2 → acc.length + ds.length ≤ 1000000 → ∃ acc' S4, lcD none S1.length g fYes f (wipeD ρ own) ds (S2 ++ [.lst (acc.map .p)]) = .ok () (S4 ++ [.lst (acc'.map .p)]) ∧ J [] acc' S4 := by
    intro ds
    induction ds with
    | nil =>
      intro acc S2 hS hJ _
      refine ⟨acc, S2, ?_, hJ⟩
      unfold lcD
      exact if_pos trivial
    | cons d ds ih =>
      intro acc S2 hS hJ hl2
      obtain ⟨_, ρ1, e1, h1⟩ := hb d ds acc S2 hJ
      obtain ⟨y, S3, e2, q, S4, rfl, rfl, h4, h5⟩ := okR_nx (h1 acc)
      rw [List.length_cons] at hl2
      obtain ⟨acc', S5, e5, h6⟩ := ih (acc ++ [q]) S4 h4 h5 (by rw [List.length_append]; simp; omega)
      refine ⟨acc', S5, ?_, h6⟩
      rw [lcD, if_pos (show chk none _ from trivial)]
      simp only [e1]
      show (match f ρ1 (S2 ++ [.lst (acc.map .p)]) with
        | .ok y S3 => _
        | _ => _) = _
      rw [e2]
      have hg : (S4 ++ [Cell.lst (acc.map D.p)])[S1.length]? = some (.lst (acc.map .p)) := by rw [← h4]; simp
      simp only [hg]
      rw [if_pos (by rw [List.length_map]; omega)]
      have hs : (S4 ++ [Cell.lst (acc.map D.p)]).set S1.length (.lst (acc.map .p ++ [.p q])) = S4 ++ [.lst ((acc ++ [q]).map .p)] := by
        rw [← h4]
        simp
      rw [hs]
      exact e5
  obtain ⟨acc', S4, e5, h6⟩ := key l [] S1 rfl hJ (by simpa using hl)
  obtain ⟨h7, h8, h9⟩ := hq acc' S4 h6
  unfold fLc
  rw [hi, R.bind_ok]
  rw [List.map_nil] at e5
  rw [show (⟨l, none⟩ : Src).2 = none from rfl, show (⟨l, none⟩ : Src).1 = l from rfl, e5, R.bind_ok]
  unfold lcEnd
  have hg : (S4 ++ [Cell.lst (acc'.map D.p)])[S1.length]? = some (.lst (acc'.map .p)) := by rw [← h7]; simp
  have ht : (S4 ++ [Cell.lst (acc'.map D.p)]).take S1.length = S4 := by rw [← h7]; simp
  simp only [hg, pureL_map, ht]
  rw [if_pos (by rw [← h7]; exact h8)]
  exact h9
/-- .. over items told by f, the store at rest -/
theorem lc_mapB {α : Type} {fi : Env → Store → R Src} {g : FGp} {e : FE} {own : List Nat} {ρ : Env} {S S0 : Store} (f h : α → P) (l : List α) (hi : fi ρ S0 = .ok ((l.map f).map .p, none) S)
    (hb : ∀ x ∈ l, ∃ ρ1, g (.p (f x)) (wipeD ρ own) = some ρ1 ∧ ∀ ac : List P, e ρ1 (S ++ [.lst (ac.map .p)]) = .ok (.p (h x)) (S ++ [.lst (ac.map .p)])) (hl : l.length ≤ 1000000) (hS : S.all (Cell.below S.length) = true) :
    fLc fi g fYes e own ρ S0 = .ok (.p (.lst (l.map h))) S := by
  refine okR_eq (okR_lcB (S1 := S) (l := (l.map f).map .p) (fun ds acc S2 => ∃ done rest, l = done ++ rest ∧ ds = (rest.map f).map .p ∧ acc = done.map h ∧ S2 = S) hi ⟨[], l, rfl, rfl, rfl, rfl⟩ ?_ (by rw [List.length_map, List.length_map]; exact hl) ?_)
  · rintro d ds acc S2 ⟨done, rest, e1, e2, rfl, rfl⟩
    cases rest with
    | nil => cases e2
    | cons x rest =>
      rw [List.map_cons, List.map_cons, List.cons.injEq] at e2
      obtain ⟨rfl, rfl⟩ := e2
      have hx : x ∈ l := by rw [e1]; simp
      obtain ⟨ρ1, h1, h2⟩ := hb x hx
      refine ⟨rfl, ρ1, h1, fun ac => ?_⟩
      rw [h2 ac]
      exact ⟨h x, S2, rfl, rfl, rfl, done ++ [x], rest, by rw [e1]; simp, rfl, by simp, rfl⟩
  · rintro acc S2 ⟨done, rest, e1, e2, rfl, rfl⟩
    cases rest with
    | cons x rest => cases e2
    | nil =>
      rw [List.append_nil] at e1
      subst e1
      exact ⟨rfl, hS, rfl, rfl⟩
end FR

set_option Elab.async false
set_option linter.all false
set_option maxRecDepth 100000
set_option maxHeartbeats 1000000
namespace FR
open PySem PySem.Spec PyProof.Rows L2
/-! the newer rows for simp, as one -/
theorem WS2 : (type_of% @gCatT_ap) ∧
  (type_of% @gCatS_ap) ∧
  (type_of% @gCatC_ap) ∧
  (type_of% @kCatC_ap) ∧
  (type_of% @gCatR_ap) ∧
  (type_of% @kCatR_ap) ∧
  (type_of% @itemsOf_l) ∧
  (type_of% @itemsOf_r) ∧
  (type_of% @itemsT_ap) ∧
  (type_of% @gIsB_ap) ∧
  (type_of% @gIsntB_ap) ∧
  (type_of% @srcZ_l) ∧
  (type_of% @srcZ_t) ∧
  (type_of% @srcV_l) ∧
  (type_of% @srcV_t) ∧
  (type_of% @srcR3_ap) ∧
  (type_of% @fCell0_ap) ∧
  (type_of% @kC0_r) ∧
  (type_of% @fCell_ap) ∧
  (type_of% @kC1_r) ∧
  (type_of% @kC1T_ap) ∧
  (type_of% @kC2_ap) ∧
  (type_of% @cellM_ap) ∧
  (type_of% @kCM_ap) ∧
  (type_of% @kCM2_ap) ∧
  (type_of% @cmInsert_ap) ∧
  (type_of% @cmClear_ap) ∧
  (type_of% @cmPop_app) ∧
  (type_of% @sFldAug_ap) ∧
  (type_of% @kFA1_0) ∧
  (type_of% @kFAL_ap) ∧
  (type_of% @kFA2_0) ∧
  (type_of% @sFldSetC_ap) ∧
  (type_of% @kFC1_ap) ∧
  (type_of% @kFC2_0) ∧
  (type_of% @sFld2C_ap) ∧
  (type_of% @kF2C_0) ∧
  (type_of% @mkStar_ap) ∧
  (type_of% @callStar_ap) ∧
  (type_of% @kStar_ap) ∧
  (type_of% @starD_1) ∧
  (type_of% @starD_2) ∧
  (type_of% @starD_3) ∧
  (type_of% @starD_4) ∧
  (type_of% @cStar_ap) ∧
  (type_of% @kCStar_l) ∧
  (type_of% @kCStar_t) ∧
  (type_of% @fCallO_ap) ∧
  (type_of% @kCO1_o) ∧
  (type_of% @kCO2_ap) ∧
  (type_of% @gRevL_l) ∧
  (type_of% @gLR_p) ∧
  (type_of% @gLR_c) ∧
  (type_of% @gAny_l) ∧
  (type_of% @gSortI_l) ∧
  (type_of% @sIxAug_ap) ∧
  (type_of% @kIA1_ap) ∧
  (type_of% @kIA2_r) ∧
  (type_of% @kIAC_ap) ∧
  (type_of% @kIAL_ap) ∧
  (type_of% @kIA3_ap) :=
  ⟨@gCatT_ap, @gCatS_ap, @gCatC_ap, @kCatC_ap, @gCatR_ap, @kCatR_ap, @itemsOf_l, @itemsOf_r, @itemsT_ap, @gIsB_ap, @gIsntB_ap, @srcZ_l, @srcZ_t, @srcV_l, @srcV_t, @srcR3_ap, @fCell0_ap, @kC0_r, @fCell_ap, @kC1_r, @kC1T_ap, @kC2_ap, @cellM_ap, @kCM_ap, @kCM2_ap, @cmInsert_ap, @cmClear_ap, @cmPop_app, @sFldAug_ap, @kFA1_0, @kFAL_ap, @kFA2_0, @sFldSetC_ap, @kFC1_ap, @kFC2_0, @sFld2C_ap, @kF2C_0, @mkStar_ap, @callStar_ap, @kStar_ap, @starD_1, @starD_2, @starD_3, @starD_4, @cStar_ap, @kCStar_l, @kCStar_t, @fCallO_ap, @kCO1_o, @kCO2_ap, @gRevL_l, @gLR_p, @gLR_c, @gAny_l, @gSortI_l, @sIxAug_ap, @kIA1_ap, @kIA2_r, @kIAC_ap, @kIAL_ap, @kIA3_ap⟩
end FR

set_option linter.all false
set_option maxRecDepth 100000
namespace G_fieldlots_k42_spreads_counted
open PySem PySem.Spec PyProof.Rows L2 FR
noncomputable def F__law_pool : Fn := runF 2 ((sRet (fLstR (aCons (fLc (iOf srcL (fVar 0)) (pNm 1) fYes (cA gInt1 (aCons (fVar 1) aNil)) [1]) (aCons (fC (.int 0)) (aCons (fC (.int 0)) (aCons (fC (.int 1)) (aCons (fC (.int 0)) aNil))))))))
noncomputable def F__law_mix : Fn := runF 5 ((sSeq (sSet 3 (c2 gModI (cA gInt1 (aCons (c2 gAddI (c2 gAddI (c2 gMulI (fVar 0) (fC (.int 16807))) (c2 gMulI (fVar 1) (fC (.int 7919)))) (fC (.int 101))) aNil)) (fC (.int 2147483629)))) (sSeq (sSet 4 (c2 gModI (cA gInt1 (aCons (c2 gAddI (c2 gAddI (c2 gMulI (fVar 3) (fVar 3)) (c2 gMulI (fVar 1) (fC (.int 104729)))) (fVar 0)) aNil)) (fC (.int 2147483587)))) (sRet (c2 gModI (cA gInt1 (aCons (c2 gDivI (fVar 4) (fC (.int 11))) aNil)) (fVar 2))))))
noncomputable def B__law_draw_1 : FC := (sSeq (sIf (fBool (c2 gGtI (c2 gIx (fVar 0) (fC (.int 2))) (fC (.int 1)))) (sSeq (sSet 4 (c2 gModI (cA gInt1 (aCons (c2 gIx (fVar 0) (fC (.int 2))) aNil)) (fVar 1))) (sSeq (sIxSet (fVar 0) (fC (.int 2)) (c2 gDivI (c2 gIx (fVar 0) (fC (.int 2))) (fVar 1))) (sRet (fVar 4)))) sNext) (sSeq (sIf (fBool (c2 gGeI (c2 gIx (fVar 0) (fC (.int 1))) (cA gLen (aCons (c2 gIx (fVar 0) (fC (.int 0))) aNil)))) (sRet (cA (callN .P 3 F__law_mix []) (aCons (c2 gIx (fVar 0) (fC (.int 3))) (aCons (c2 gIx (fVar 0) (fC (.int 4))) (aCons (fVar 1) aNil))))) sNext) (sSeq (sSet 3 (c2 gIx (c2 gIx (fVar 0) (fC (.int 0))) (c2 gIx (fVar 0) (fC (.int 1))))) (sSeq (sIxSet (fVar 0) (fC (.int 1)) (c2 gAddI (c2 gIx (fVar 0) (fC (.int 1))) (fC (.int 1)))) (sSeq (sIxSet (fVar 0) (fC (.int 3)) (c2 gModI (cA gInt1 (aCons (c2 gAddI (c2 gAddI (c2 gMulI (c2 gIx (fVar 0) (fC (.int 3))) (fC (.int 48271))) (c2 gMulI (fVar 3) (fC (.int 69621)))) (fC (.int 11))) aNil)) (fC (.int 2147483647)))) (sSeq (sIf (fBool (c2 gLtI (fVar 3) (c2 gPowI (fC (.int 10)) (fC (.int 18))))) (sRet (cA (callN .P 3 F__law_mix []) (aCons (c2 gIx (fVar 0) (fC (.int 3))) (aCons (c2 gIx (fVar 0) (fC (.int 4))) (aCons (fVar 1) aNil))))) sNext) (sIxSet (fVar 0) (fC (.int 2)) (c2 gSubI (fVar 3) (c2 gPowI (fC (.int 10)) (fC (.int 18)))))))))))
theorem B__law_draw_1_ap (ρ : FR.Env) (S : Store) : B__law_draw_1 ρ S = (sSeq (sIf (fBool (c2 gGtI (c2 gIx (fVar 0) (fC (.int 2))) (fC (.int 1)))) (sSeq (sSet 4 (c2 gModI (cA gInt1 (aCons (c2 gIx (fVar 0) (fC (.int 2))) aNil)) (fVar 1))) (sSeq (sIxSet (fVar 0) (fC (.int 2)) (c2 gDivI (c2 gIx (fVar 0) (fC (.int 2))) (fVar 1))) (sRet (fVar 4)))) sNext) (sSeq (sIf (fBool (c2 gGeI (c2 gIx (fVar 0) (fC (.int 1))) (cA gLen (aCons (c2 gIx (fVar 0) (fC (.int 0))) aNil)))) (sRet (cA (callN .P 3 F__law_mix []) (aCons (c2 gIx (fVar 0) (fC (.int 3))) (aCons (c2 gIx (fVar 0) (fC (.int 4))) (aCons (fVar 1) aNil))))) sNext) (sSeq (sSet 3 (c2 gIx (c2 gIx (fVar 0) (fC (.int 0))) (c2 gIx (fVar 0) (fC (.int 1))))) (sSeq (sIxSet (fVar 0) (fC (.int 1)) (c2 gAddI (c2 gIx (fVar 0) (fC (.int 1))) (fC (.int 1)))) (sSeq (sIxSet (fVar 0) (fC (.int 3)) (c2 gModI (cA gInt1 (aCons (c2 gAddI (c2 gAddI (c2 gMulI (c2 gIx (fVar 0) (fC (.int 3))) (fC (.int 48271))) (c2 gMulI (fVar 3) (fC (.int 69621)))) (fC (.int 11))) aNil)) (fC (.int 2147483647)))) (sSeq (sIf (fBool (c2 gLtI (fVar 3) (c2 gPowI (fC (.int 10)) (fC (.int 18))))) (sRet (cA (callN .P 3 F__law_mix []) (aCons (c2 gIx (fVar 0) (fC (.int 3))) (aCons (c2 gIx (fVar 0) (fC (.int 4))) (aCons (fVar 1) aNil))))) sNext) (sIxSet (fVar 0) (fC (.int 2)) (c2 gSubI (fVar 3) (c2 gPowI (fC (.int 10)) (fC (.int 18))))))))))) ρ S := rfl
noncomputable def F__law_draw : Fn := runF 5 ((sSeq (sIf (fOrT (fBool (c2 gLtI (fVar 1) (fC (.int 2)))) (fBool (c2 gEqF (cA gLen (aCons (c2 gIx (fVar 0) (fC (.int 0))) aNil)) (fC (.int 0))))) (sRet (fC (.int 0))) sNext) (sSeq (sIxSet (fVar 0) (fC (.int 4)) (c2 gAddI (c2 gIx (fVar 0) (fC (.int 4))) (fC (.int 1)))) (sSeq (sFor (iOfA srcR1 (aCons (fC (.int 64)) aNil)) (gNm 2) B__law_draw_1) (sRet (cA (callN .P 3 F__law_mix []) (aCons (c2 gIx (fVar 0) (fC (.int 3))) (aCons (c2 gIx (fVar 0) (fC (.int 4))) (aCons (fVar 1) aNil)))))))))
noncomputable def T__law_classes_b1_5 : FC := (sDrop (fApp (fVar 4) (aCons (fTup (aCons (fVar 7) (aCons (c2 gAddI (fC (.int 1)) (fVar 6)) aNil))) aNil)))
theorem T__law_classes_b1_5_ap (ρ : FR.Env) (S : Store) : T__law_classes_b1_5 ρ S = (sDrop (fApp (fVar 4) (aCons (fTup (aCons (fVar 7) (aCons (c2 gAddI (fC (.int 1)) (fVar 6)) aNil))) aNil))) ρ S := rfl
noncomputable def T__law_classes_b1_4 : FC := (sSeq (sIf (fBool (c2 gEqF (cA (callN .S 2 F__law_draw []) (aCons (fVar 0) (aCons (fC (.int 4)) aNil))) (fC (.int 1)))) (sSet 7 (c2 gAddI (fC (.int 1)) (cA (callN .S 2 F__law_draw []) (aCons (fVar 0) (aCons (fC (.int 1000)) aNil))))) sNext) T__law_classes_b1_5)
theorem T__law_classes_b1_4_ap (ρ : FR.Env) (S : Store) : T__law_classes_b1_4 ρ S = (sSeq (sIf (fBool (c2 gEqF (cA (callN .S 2 F__law_draw []) (aCons (fVar 0) (aCons (fC (.int 4)) aNil))) (fC (.int 1)))) (sSet 7 (c2 gAddI (fC (.int 1)) (cA (callN .S 2 F__law_draw []) (aCons (fVar 0) (aCons (fC (.int 1000)) aNil))))) sNext) T__law_classes_b1_5) ρ S := rfl
noncomputable def T__law_classes_b1_3 : FC := (sSeq (sSet 7 (c2 gAddI (fC (.int 1)) (cA (callN .S 2 F__law_draw []) (aCons (fVar 0) (aCons (fC (.int 5)) aNil))))) T__law_classes_b1_4)
theorem T__law_classes_b1_3_ap (ρ : FR.Env) (S : Store) : T__law_classes_b1_3 ρ S = (sSeq (sSet 7 (c2 gAddI (fC (.int 1)) (cA (callN .S 2 F__law_draw []) (aCons (fVar 0) (aCons (fC (.int 5)) aNil))))) T__law_classes_b1_4) ρ S := rfl
noncomputable def T__law_classes_b1_2 : FC := (sSeq (sSet 3 (c2 gSubI (fVar 3) (fVar 6))) T__law_classes_b1_3)
theorem T__law_classes_b1_2_ap (ρ : FR.Env) (S : Store) : T__law_classes_b1_2 ρ S = (sSeq (sSet 3 (c2 gSubI (fVar 3) (fVar 6))) T__law_classes_b1_3) ρ S := rfl
noncomputable def T__law_classes_b1_1 : FC := (sSeq (sIf (fBool (c2 gLtI (c2 gAddI (fVar 5) (fC (.int 1))) (fVar 2))) (sSet 6 (cA (callN .S 2 F__law_draw []) (aCons (fVar 0) (aCons (c2 gAddI (fVar 3) (fC (.int 1))) aNil)))) sNext) T__law_classes_b1_2)
theorem T__law_classes_b1_1_ap (ρ : FR.Env) (S : Store) : T__law_classes_b1_1 ρ S = (sSeq (sIf (fBool (c2 gLtI (c2 gAddI (fVar 5) (fC (.int 1))) (fVar 2))) (sSet 6 (cA (callN .S 2 F__law_draw []) (aCons (fVar 0) (aCons (c2 gAddI (fVar 3) (fC (.int 1))) aNil)))) sNext) T__law_classes_b1_2) ρ S := rfl
noncomputable def B__law_classes_1 : FC := (sSeq (sSet 6 (fVar 3)) T__law_classes_b1_1)
theorem B__law_classes_1_ap (ρ : FR.Env) (S : Store) : B__law_classes_1 ρ S = (sSeq (sSet 6 (fVar 3)) T__law_classes_b1_1) ρ S := rfl
noncomputable def T__law_classes_6 : FC := (sRet (fFz (fVar 4)))
theorem T__law_classes_6_ap (ρ : FR.Env) (S : Store) : T__law_classes_6 ρ S = (sRet (fFz (fVar 4))) ρ S := rfl
noncomputable def T__law_classes_5 : FC := (sSeq (sFor (iOfA srcR1 (aCons (fVar 2) aNil)) (gNm 5) B__law_classes_1) T__law_classes_6)
theorem T__law_classes_5_ap (ρ : FR.Env) (S : Store) : T__law_classes_5 ρ S = (sSeq (sFor (iOfA srcR1 (aCons (fVar 2) aNil)) (gNm 5) B__law_classes_1) T__law_classes_6) ρ S := rfl
noncomputable def T__law_classes_4 : FC := (sSeq (sSet 4 (fLstR aNil)) T__law_classes_5)
theorem T__law_classes_4_ap (ρ : FR.Env) (S : Store) : T__law_classes_4 ρ S = (sSeq (sSet 4 (fLstR aNil)) T__law_classes_5) ρ S := rfl
noncomputable def T__law_classes_3 : FC := (sSeq (sSet 3 (cA gMin2 (aCons (cA gInt1 (aCons (fVar 3) aNil)) (aCons (c2 gSubI (fVar 1) (fVar 2)) aNil)))) T__law_classes_4)
theorem T__law_classes_3_ap (ρ : FR.Env) (S : Store) : T__law_classes_3 ρ S = (sSeq (sSet 3 (cA gMin2 (aCons (cA gInt1 (aCons (fVar 3) aNil)) (aCons (c2 gSubI (fVar 1) (fVar 2)) aNil)))) T__law_classes_4) ρ S := rfl
noncomputable def T__law_classes_2 : FC := (sSeq (sIf (fBool (c2 gEqF (cA (callN .S 2 F__law_draw []) (aCons (fVar 0) (aCons (fC (.int 4)) aNil))) (fC (.int 1)))) (sSet 3 (cA (callN .S 2 F__law_draw []) (aCons (fVar 0) (aCons (fVar 1) aNil)))) sNext) T__law_classes_3)
theorem T__law_classes_2_ap (ρ : FR.Env) (S : Store) : T__law_classes_2 ρ S = (sSeq (sIf (fBool (c2 gEqF (cA (callN .S 2 F__law_draw []) (aCons (fVar 0) (aCons (fC (.int 4)) aNil))) (fC (.int 1)))) (sSet 3 (cA (callN .S 2 F__law_draw []) (aCons (fVar 0) (aCons (fVar 1) aNil)))) sNext) T__law_classes_3) ρ S := rfl
noncomputable def T__law_classes_1 : FC := (sSeq (sSet 3 (cA (callN .S 2 F__law_draw []) (aCons (fVar 0) (aCons (fC (.int 4)) aNil)))) T__law_classes_2)
theorem T__law_classes_1_ap (ρ : FR.Env) (S : Store) : T__law_classes_1 ρ S = (sSeq (sSet 3 (cA (callN .S 2 F__law_draw []) (aCons (fVar 0) (aCons (fC (.int 4)) aNil)))) T__law_classes_2) ρ S := rfl
noncomputable def F__law_classes : Fn := runF 8 ((sSeq (sSet 2 (c2 gAddI (fC (.int 1)) (cA (callN .S 2 F__law_draw []) (aCons (fVar 0) (aCons (cA gMin2 (aCons (fC (.int 4)) (aCons (fVar 1) aNil))) aNil))))) T__law_classes_1))
noncomputable def F__law_total : Fn := runF 2 ((sSeq (sSet 1 (cA (callN .S 2 F__law_draw []) (aCons (fVar 0) (aCons (fC (.int 4)) aNil)))) (sSeq (sIf (fBool (c2 gEqF (fVar 1) (fC (.int 0)))) (sRet (c2 gAddI (fC (.int 3)) (cA (callN .S 2 F__law_draw []) (aCons (fVar 0) (aCons (fC (.int 10)) aNil))))) sNext) (sSeq (sIf (fBool (c2 gEqF (fVar 1) (fC (.int 1)))) (sRet (cA (callN .S 2 F__law_draw []) (aCons (fVar 0) (aCons (fC (.int 41)) aNil)))) sNext) (sSeq (sIf (fBool (c2 gEqF (fVar 1) (fC (.int 2)))) (sRet (c2 gSubI (fC (.int 40)) (cA (callN .S 2 F__law_draw []) (aCons (fVar 0) (aCons (fC (.int 3)) aNil))))) sNext) (sRet (cA (callN .S 2 F__law_draw []) (aCons (fVar 0) (aCons (fC (.int 5)) aNil)))))))))
noncomputable def B__law_counts_1 : FC := (sIxSet (fVar 2) (fVar 5) (c2 gAddI (c2 gIx (fVar 2) (fVar 5)) (c2 gIx (fVar 2) (c2 gSubI (fVar 5) (fVar 4)))))
theorem B__law_counts_1_ap (ρ : FR.Env) (S : Store) : B__law_counts_1 ρ S = (sIxSet (fVar 2) (fVar 5) (c2 gAddI (c2 gIx (fVar 2) (fVar 5)) (c2 gIx (fVar 2) (c2 gSubI (fVar 5) (fVar 4))))) ρ S := rfl
noncomputable def B__law_counts_2 : FC := (sFor (iOfA srcR2 (aCons (fVar 4) (aCons (c2 gAddI (fVar 1) (fC (.int 1))) aNil))) (gNm 5) B__law_counts_1)
theorem B__law_counts_2_ap (ρ : FR.Env) (S : Store) : B__law_counts_2 ρ S = (sFor (iOfA srcR2 (aCons (fVar 4) (aCons (c2 gAddI (fVar 1) (fC (.int 1))) aNil))) (gNm 5) B__law_counts_1) ρ S := rfl
noncomputable def B__law_counts_3 : FC := (sFor (iOfA srcR2 (aCons (fC (.int 1)) (aCons (c2 gAddI (c2 gIx (fVar 3) (fC (.int 1))) (fC (.int 1))) aNil))) (gNm 4) B__law_counts_2)
theorem B__law_counts_3_ap (ρ : FR.Env) (S : Store) : B__law_counts_3 ρ S = (sFor (iOfA srcR2 (aCons (fC (.int 1)) (aCons (c2 gAddI (c2 gIx (fVar 3) (fC (.int 1))) (fC (.int 1))) aNil))) (gNm 4) B__law_counts_2) ρ S := rfl
noncomputable def F__law_counts : Fn := runF 6 ((sSeq (sSet 2 (fLcR (iOfA srcR1 (aCons (c2 gAddI (fVar 1) (fC (.int 1))) aNil)) (pNm 5) fYes (cA gInt1 (aCons (c2 gEqF (fVar 5) (fC (.int 0))) aNil)) [5])) (sSeq (sFor (iOf srcL (fVar 0)) (gNm 3) B__law_counts_3) (sRet (fFz (fVar 2))))))
noncomputable def F__law_near : Fn := runF 5 ((sSeq (sSet 2 (c2 gIx (c2 gIx (fVar 0) (fVar 1)) (fC (.int 0)))) (sSeq (sSet 3 (c2 gIx (c2 gIx (fVar 0) (fVar 1)) (fC (.int 1)))) (sSeq (sIf (fBool (c2 gLtI (cA gSumI (aCons (fLc (iOf srcL (fVar 0)) (pNm 4) fYes (c2 gIx (fVar 4) (fC (.int 1))) [4]) aNil)) (fC (.int 12)))) (sRet (c2 gCatL (c2 gCatL (fSl (fVar 0) iNo (iAt (fVar 1))) (fLst (aCons (fTup (aCons (fVar 2) (aCons (c2 gAddI (fVar 3) (fC (.int 1))) aNil))) aNil))) (fSl (fVar 0) (iAt (c2 gAddI (fVar 1) (fC (.int 1)))) iNo))) sNext) (sSeq (sIf (fBool (c2 gGtI (fVar 3) (fC (.int 1)))) (sRet (c2 gCatL (c2 gCatL (fSl (fVar 0) iNo (iAt (fVar 1))) (fLst (aCons (fTup (aCons (fVar 2) (aCons (c2 gSubI (fVar 3) (fC (.int 1))) aNil))) aNil))) (fSl (fVar 0) (iAt (c2 gAddI (fVar 1) (fC (.int 1)))) iNo))) sNext) (sRet (fFz (fVar 0))))))))
noncomputable def B_Ground___init___1 : FC := (sSeq (sIf (fNotT (fBool (fChain gLeI gLeI (fC (.int 1)) (fVar 2) (c1 (gCon .Ground 1000) (fVar 0))))) (sRaise2 .BadNumber .name .value (aCons (fC (.str "worth")) (aCons (fVar 2) aNil))) sNext) (sSeq (sIf (fBool (c2 gLtI (fVar 3) (fC (.int 1)))) (sRaise2 .BadNumber .name .value (aCons (fC (.str "many")) (aCons (fVar 3) aNil))) sNext) (sSeq (sDrop (fApp (c1 (gFld .Ground .classes) (fVar 0)) (aCons (fTup (aCons (fVar 2) (aCons (fVar 3) aNil))) aNil))) (sFldAug .Ground .fields (fVar 0) (fVar 3)))))
theorem B_Ground___init___1_ap (ρ : FR.Env) (S : Store) : B_Ground___init___1 ρ S = (sSeq (sIf (fNotT (fBool (fChain gLeI gLeI (fC (.int 1)) (fVar 2) (c1 (gCon .Ground 1000) (fVar 0))))) (sRaise2 .BadNumber .name .value (aCons (fC (.str "worth")) (aCons (fVar 2) aNil))) sNext) (sSeq (sIf (fBool (c2 gLtI (fVar 3) (fC (.int 1)))) (sRaise2 .BadNumber .name .value (aCons (fC (.str "many")) (aCons (fVar 3) aNil))) sNext) (sSeq (sDrop (fApp (c1 (gFld .Ground .classes) (fVar 0)) (aCons (fTup (aCons (fVar 2) (aCons (fVar 3) aNil))) aNil))) (sFldAug .Ground .fields (fVar 0) (fVar 3))))) ρ S := rfl
noncomputable def F_Ground___init__ : Fn := runF 4 ((sSeq (sIf (fBool (c2 gLtI (cA gLen (aCons (fVar 1) aNil)) (fC (.int 1)))) (sRaise2 .BadNumber .name .value (aCons (fC (.str "classes")) (aCons (fC (.int 0)) aNil))) sNext) (sSeq (sIf (fBool (c2 gGtI (cA gLen (aCons (fVar 1) aNil)) (c1 (gCon .Ground 4) (fVar 0)))) (sRaise2 .TooMany .name .most (aCons (fC (.str "classes")) (aCons (c1 (gCon .Ground 4) (fVar 0)) aNil))) sNext) (sSeq (sFldSet .Ground .classes (fVar 0) (fLstR aNil)) (sSeq (sFldSet .Ground .fields (fVar 0) (fC (.int 0))) (sSeq (sFor (iOf srcT (fVar 1)) (gOf (pTup 2 (pCons (pNm 2) (pCons (pNm 3) pNil)))) B_Ground___init___1) (sIf (fBool (c2 gGtI (c1 (gFld .Ground .fields) (fVar 0)) (c1 (gCon .Ground 12) (fVar 0)))) (sRaise2 .TooMany .name .most (aCons (fC (.str "fields")) (aCons (c1 (gCon .Ground 12) (fVar 0)) aNil))) sNext)))))))
noncomputable def F__law_ground : Fn := runF 1 ((sSeq (sIf (fBool (c2 gEqF (cA gLen (aCons (fVar 0) aNil)) (fC (.int 1)))) (sRet (cA (mkStar 0 (mkL .Ground 2 F_Ground___init__ [])) (aCons (c2 gIx (fVar 0) (fC (.int 0))) aNil))) sNext) (sSeq (sIf (fBool (c2 gEqF (cA gLen (aCons (fVar 0) aNil)) (fC (.int 2)))) (sRet (cA (mkStar 0 (mkL .Ground 2 F_Ground___init__ [])) (aCons (c2 gIx (fVar 0) (fC (.int 0))) (aCons (c2 gIx (fVar 0) (fC (.int 1))) aNil)))) sNext) (sSeq (sIf (fBool (c2 gEqF (cA gLen (aCons (fVar 0) aNil)) (fC (.int 3)))) (sRet (cA (mkStar 0 (mkL .Ground 2 F_Ground___init__ [])) (aCons (c2 gIx (fVar 0) (fC (.int 0))) (aCons (c2 gIx (fVar 0) (fC (.int 1))) (aCons (c2 gIx (fVar 0) (fC (.int 2))) aNil))))) sNext) (sRet (cA (mkStar 0 (mkL .Ground 2 F_Ground___init__ [])) (aCons (c2 gIx (fVar 0) (fC (.int 0))) (aCons (c2 gIx (fVar 0) (fC (.int 1))) (aCons (c2 gIx (fVar 0) (fC (.int 2))) (aCons (c2 gIx (fVar 0) (fC (.int 3))) aNil))))))))))
noncomputable def B_parts_of_1 : FC := (sIxSet (fVar 2) (fVar 4) (c2 gAddI (c2 gIx (fVar 2) (fVar 4)) (c2 gIx (fVar 2) (c2 gSubI (fVar 4) (fVar 3)))))
theorem B_parts_of_1_ap (ρ : FR.Env) (S : Store) : B_parts_of_1 ρ S = (sIxSet (fVar 2) (fVar 4) (c2 gAddI (c2 gIx (fVar 2) (fVar 4)) (c2 gIx (fVar 2) (c2 gSubI (fVar 4) (fVar 3))))) ρ S := rfl
noncomputable def B_parts_of_2 : FC := (sFor (iOfA srcR2 (aCons (fVar 3) (aCons (c2 gAddI (fVar 0) (fC (.int 1))) aNil))) (gNm 4) B_parts_of_1)
theorem B_parts_of_2_ap (ρ : FR.Env) (S : Store) : B_parts_of_2 ρ S = (sFor (iOfA srcR2 (aCons (fVar 3) (aCons (c2 gAddI (fVar 0) (fC (.int 1))) aNil))) (gNm 4) B_parts_of_1) ρ S := rfl
noncomputable def F_parts_of : Fn := runF 6 ((sSeq (sSet 2 (c2 gCatR (fLst (aCons (fC (.int 1)) aNil)) (fLc (iOfA srcR1 (aCons (fVar 0) aNil)) (pNm 5) fYes (fC (.int 0)) [5]))) (sSeq (sFor (iOfA srcR2 (aCons (fC (.int 1)) (aCons (c2 gAddI (fVar 1) (fC (.int 1))) aNil))) (gNm 3) B_parts_of_2) (sRet (fFz (fVar 2))))))
noncomputable def B_Ground_count_spreads_1 : FC := (sSeq (sSet 5 (cA (callN .P 2 F_parts_of []) (aCons (fVar 1) (aCons (fVar 4) aNil)))) (sSet 2 (fLc (iOfA srcR1 (aCons (c2 gAddI (fVar 1) (fC (.int 1))) aNil)) (pNm 6) fYes (cA gSumI (aCons (fLc (iOfA srcR1 (aCons (c2 gAddI (fVar 6) (fC (.int 1))) aNil)) (pNm 7) fYes (c2 gMulI (c2 gIx (fVar 2) (fVar 7)) (c2 gIx (fVar 5) (c2 gSubI (fVar 6) (fVar 7)))) [7]) aNil)) [6])))
theorem B_Ground_count_spreads_1_ap (ρ : FR.Env) (S : Store) : B_Ground_count_spreads_1 ρ S = (sSeq (sSet 5 (cA (callN .P 2 F_parts_of []) (aCons (fVar 1) (aCons (fVar 4) aNil)))) (sSet 2 (fLc (iOfA srcR1 (aCons (c2 gAddI (fVar 1) (fC (.int 1))) aNil)) (pNm 6) fYes (cA gSumI (aCons (fLc (iOfA srcR1 (aCons (c2 gAddI (fVar 6) (fC (.int 1))) aNil)) (pNm 7) fYes (c2 gMulI (c2 gIx (fVar 2) (fVar 7)) (c2 gIx (fVar 5) (c2 gSubI (fVar 6) (fVar 7)))) [7]) aNil)) [6]))) ρ S := rfl
noncomputable def F_Ground_count_spreads : Fn := runF 8 ((sSeq (sIf (fNotT (fBool (fChain gLeI gLeI (fC (.int 0)) (fVar 1) (c1 (gCon .Ground 40) (fVar 0))))) (sRaise2 .BadNumber .name .value (aCons (fC (.str "total")) (aCons (fVar 1) aNil))) sNext) (sSeq (sSet 2 (c2 gCatL (fLst (aCons (fC (.int 1)) aNil)) (fLc (iOfA srcR1 (aCons (fVar 1) aNil)) (pNm 3) fYes (fC (.int 0)) [3]))) (sSeq (sFor (iOf srcL (c1 (gFld .Ground .classes) (fVar 0))) (gOf (pTup 2 (pCons (pNm 3) (pCons (pNm 4) pNil)))) B_Ground_count_spreads_1) (sRet (c2 gIx (fVar 2) (fVar 1)))))))
noncomputable def F__law_whole : Fn := runF 1 ((sRet (fAndV (c1 (gIsi [(.ty "int", true)] (.ty "int")) (fVar 0)) (fNotV (c1 (gIsi [(.ty "int", false)] (.ty "bool")) (fVar 0))))))
noncomputable def F__law_right : Fn := runF 4 ((sSeq (sSet 3 (fMeth .Ground .P 2 F_Ground_count_spreads [] (cA (callN .P 1 F__law_ground []) (aCons (fFz (fVar 0)) aNil)) (aCons (fVar 1) aNil))) (sRet (fAndV (cA (callN .P 1 F__law_whole []) (aCons (fVar 3) aNil)) (c2 gEqF (fVar 3) (fVar 2))))))
noncomputable def T_law_15 : FC := (sRet (c2 gEqF (fMeth .Ground .P 2 F_Ground_count_spreads [] (fVar 8) (aCons (fVar 3) aNil)) (c2 gIx (fVar 4) (fVar 3))))
theorem T_law_15_ap (ρ : FR.Env) (S : Store) : T_law_15 ρ S = (sRet (c2 gEqF (fMeth .Ground .P 2 F_Ground_count_spreads [] (fVar 8) (aCons (fVar 3) aNil)) (c2 gIx (fVar 4) (fVar 3)))) ρ S := rfl
noncomputable def T_law_14 : FC := (sSeq (sIf (fNotT (fBool (cA (callN .P 3 F__law_right []) (aCons (fFz (fVar 6)) (aCons (fVar 3) (aCons (c2 gIx (fVar 11) (fVar 3)) aNil)))))) (sRet (fC (.bl false))) sNext) T_law_15)
theorem T_law_14_ap (ρ : FR.Env) (S : Store) : T_law_14 ρ S = (sSeq (sIf (fNotT (fBool (cA (callN .P 3 F__law_right []) (aCons (fFz (fVar 6)) (aCons (fVar 3) (aCons (c2 gIx (fVar 11) (fVar 3)) aNil)))))) (sRet (fC (.bl false))) sNext) T_law_15) ρ S := rfl
noncomputable def T_law_13 : FC := (sSeq (sSet 11 (cA (callN .P 2 F__law_counts []) (aCons (fFz (fVar 6)) (aCons (fVar 3) aNil)))) T_law_14)
theorem T_law_13_ap (ρ : FR.Env) (S : Store) : T_law_13 ρ S = (sSeq (sSet 11 (cA (callN .P 2 F__law_counts []) (aCons (fFz (fVar 6)) (aCons (fVar 3) aNil)))) T_law_14) ρ S := rfl
noncomputable def T_law_12 : FC := (sSeq (sIf (fNotT (fBool (cA (callN .P 3 F__law_right []) (aCons (fVar 7) (aCons (fVar 3) (aCons (c2 gIx (fVar 4) (fVar 3)) aNil)))))) (sRet (fC (.bl false))) sNext) T_law_13)
theorem T_law_12_ap (ρ : FR.Env) (S : Store) : T_law_12 ρ S = (sSeq (sIf (fNotT (fBool (cA (callN .P 3 F__law_right []) (aCons (fVar 7) (aCons (fVar 3) (aCons (c2 gIx (fVar 4) (fVar 3)) aNil)))))) (sRet (fC (.bl false))) sNext) T_law_13) ρ S := rfl
noncomputable def T_law_11 : FC := (sSeq (sIf (fOrT (fBool (c2 gNeF (fVar 9) (c2 gIx (fVar 4) (fVar 3)))) (fBool (c2 gNeF (fVar 10) (c2 gIx (fVar 4) (fVar 5))))) (sRet (fC (.bl false))) sNext) T_law_12)
theorem T_law_11_ap (ρ : FR.Env) (S : Store) : T_law_11 ρ S = (sSeq (sIf (fOrT (fBool (c2 gNeF (fVar 9) (c2 gIx (fVar 4) (fVar 3)))) (fBool (c2 gNeF (fVar 10) (c2 gIx (fVar 4) (fVar 5))))) (sRet (fC (.bl false))) sNext) T_law_12) ρ S := rfl
noncomputable def T_law_10 : FC := (sSeq (sIf (fOrT (fNotT (fBool (cA (callN .P 1 F__law_whole []) (aCons (fVar 9) aNil)))) (fNotT (fBool (cA (callN .P 1 F__law_whole []) (aCons (fVar 10) aNil))))) (sRet (fC (.bl false))) sNext) T_law_11)
theorem T_law_10_ap (ρ : FR.Env) (S : Store) : T_law_10 ρ S = (sSeq (sIf (fOrT (fNotT (fBool (cA (callN .P 1 F__law_whole []) (aCons (fVar 9) aNil)))) (fNotT (fBool (cA (callN .P 1 F__law_whole []) (aCons (fVar 10) aNil))))) (sRet (fC (.bl false))) sNext) T_law_11) ρ S := rfl
noncomputable def T_law_9 : FC := (sSeq (sSet 10 (fMeth .Ground .P 2 F_Ground_count_spreads [] (fVar 8) (aCons (fVar 5) aNil))) T_law_10)
theorem T_law_9_ap (ρ : FR.Env) (S : Store) : T_law_9 ρ S = (sSeq (sSet 10 (fMeth .Ground .P 2 F_Ground_count_spreads [] (fVar 8) (aCons (fVar 5) aNil))) T_law_10) ρ S := rfl
noncomputable def T_law_8 : FC := (sSeq (sSet 9 (fMeth .Ground .P 2 F_Ground_count_spreads [] (fVar 8) (aCons (fVar 3) aNil))) T_law_9)
theorem T_law_8_ap (ρ : FR.Env) (S : Store) : T_law_8 ρ S = (sSeq (sSet 9 (fMeth .Ground .P 2 F_Ground_count_spreads [] (fVar 8) (aCons (fVar 3) aNil))) T_law_9) ρ S := rfl
noncomputable def T_law_7 : FC := (sSeq (sSet 8 (cA (callN .P 1 F__law_ground []) (aCons (fFz (fVar 2)) aNil))) T_law_8)
theorem T_law_7_ap (ρ : FR.Env) (S : Store) : T_law_7 ρ S = (sSeq (sSet 8 (cA (callN .P 1 F__law_ground []) (aCons (fFz (fVar 2)) aNil))) T_law_8) ρ S := rfl
noncomputable def T_law_6 : FC := (sSeq (sSet 7 (fLc (iOf srcL (c1 gRevL (fVar 2))) (pNm 12) fYes (fTup (aCons (c2 gAddI (c2 gModI (cA gInt1 (aCons (c2 gIx (fVar 12) (fC (.int 0))) aNil)) (fC (.int 1000))) (fC (.int 1))) (aCons (c2 gIx (fVar 12) (fC (.int 1))) aNil))) [12])) T_law_7)
theorem T_law_6_ap (ρ : FR.Env) (S : Store) : T_law_6 ρ S = (sSeq (sSet 7 (fLc (iOf srcL (c1 gRevL (fVar 2))) (pNm 12) fYes (fTup (aCons (c2 gAddI (c2 gModI (cA gInt1 (aCons (c2 gIx (fVar 12) (fC (.int 0))) aNil)) (fC (.int 1000))) (fC (.int 1))) (aCons (c2 gIx (fVar 12) (fC (.int 1))) aNil))) [12])) T_law_7) ρ S := rfl
noncomputable def T_law_5 : FC := (sSeq (sSet 6 (cA (callN .P 2 F__law_near []) (aCons (fFz (fVar 2)) (aCons (cA (callN .S 2 F__law_draw []) (aCons (fVar 1) (aCons (cA gLen (aCons (fVar 2) aNil)) aNil))) aNil)))) T_law_6)
theorem T_law_5_ap (ρ : FR.Env) (S : Store) : T_law_5 ρ S = (sSeq (sSet 6 (cA (callN .P 2 F__law_near []) (aCons (fFz (fVar 2)) (aCons (cA (callN .S 2 F__law_draw []) (aCons (fVar 1) (aCons (cA gLen (aCons (fVar 2) aNil)) aNil))) aNil)))) T_law_6) ρ S := rfl
noncomputable def T_law_4 : FC := (sSeq (sSet 5 (cA (callN .S 2 F__law_draw []) (aCons (fVar 1) (aCons (c2 gAddI (fVar 3) (fC (.int 1))) aNil)))) T_law_5)
theorem T_law_4_ap (ρ : FR.Env) (S : Store) : T_law_4 ρ S = (sSeq (sSet 5 (cA (callN .S 2 F__law_draw []) (aCons (fVar 1) (aCons (c2 gAddI (fVar 3) (fC (.int 1))) aNil)))) T_law_5) ρ S := rfl
noncomputable def T_law_3 : FC := (sSeq (sSet 4 (cA (callN .P 2 F__law_counts []) (aCons (fFz (fVar 2)) (aCons (fVar 3) aNil)))) T_law_4)
theorem T_law_3_ap (ρ : FR.Env) (S : Store) : T_law_3 ρ S = (sSeq (sSet 4 (cA (callN .P 2 F__law_counts []) (aCons (fFz (fVar 2)) (aCons (fVar 3) aNil)))) T_law_4) ρ S := rfl
noncomputable def T_law_2 : FC := (sSeq (sSet 3 (cA (callN .S 1 F__law_total []) (aCons (fVar 1) aNil))) T_law_3)
theorem T_law_2_ap (ρ : FR.Env) (S : Store) : T_law_2 ρ S = (sSeq (sSet 3 (cA (callN .S 1 F__law_total []) (aCons (fVar 1) aNil))) T_law_3) ρ S := rfl
noncomputable def T_law_1 : FC := (sSeq (sSet 2 (cA (callN .S 2 F__law_classes []) (aCons (fVar 1) (aCons (fC (.int 12)) aNil)))) T_law_2)
theorem T_law_1_ap (ρ : FR.Env) (S : Store) : T_law_1 ρ S = (sSeq (sSet 2 (cA (callN .S 2 F__law_classes []) (aCons (fVar 1) (aCons (fC (.int 12)) aNil)))) T_law_2) ρ S := rfl
noncomputable def F_law : Fn := runF 13 ((sSeq (sSet 1 (cA (callN .S 1 F__law_pool []) (aCons (fVar 0) aNil))) T_law_1))
end G_fieldlots_k42_spreads_counted

set_option Elab.async false
set_option linter.all false
set_option maxRecDepth 100000
set_option maxHeartbeats 4000000
namespace G_fieldlots_k42_spreads_counted
open PySem PySem.Spec PyProof.Rows L2 FR
def topS (i : Nat) : Stmt := PySem.Challenge.pw_fieldlots_k42_spreads_counted.main.body.getD i (.Pass ⟨0, 0, 0, 0⟩)
abbrev PR : Program := PySem.W.OpenLaw.prog PySem.Challenge.rw_fieldlots_k42_spreads_counted
/-! ### the defs as data -/
def S__law_pool : Stmt := (topS 11)
def x__law_pool : DefX := { ad := aF "_law_pool", name := "_law_pool", qual := "_law_pool", params := defArgs S__law_pool, body := defBody S__law_pool, scope := defScope S__law_pool }
theorem sc__law_pool : FnScope ["_law_script", "_law_cell"] ["_law_script"] (defScope S__law_pool) := ⟨rfl, rfl, rfl, by decide +kernel, rfl, by decide +kernel, by decide +kernel⟩
def S__law_mix : Stmt := (topS 12)
def x__law_mix : DefX := { ad := aF "_law_mix", name := "_law_mix", qual := "_law_mix", params := defArgs S__law_mix, body := defBody S__law_mix, scope := defScope S__law_mix }
theorem sc__law_mix : FnScope ["_law_state", "_law_turn", "_law_many", "_law_first", "_law_second"] ["_law_state", "_law_turn", "_law_many"] (defScope S__law_mix) := ⟨rfl, rfl, rfl, by decide +kernel, rfl, by decide +kernel, by decide +kernel⟩
def S__law_draw : Stmt := (topS 13)
def x__law_draw : DefX := { ad := aF "_law_draw", name := "_law_draw", qual := "_law_draw", params := defArgs S__law_draw, body := defBody S__law_draw, scope := defScope S__law_draw }
theorem sc__law_draw : FnScope ["_law_pool_here", "_law_many", "_law_spare", "_law_cell", "_law_found"] ["_law_pool_here", "_law_many"] (defScope S__law_draw) := ⟨rfl, rfl, rfl, by decide +kernel, rfl, by decide +kernel, by decide +kernel⟩
def S__law_classes : Stmt := (topS 15)
def x__law_classes : DefX := { ad := aF "_law_classes", name := "_law_classes", qual := "_law_classes", params := defArgs S__law_classes, body := defBody S__law_classes, scope := defScope S__law_classes }
theorem sc__law_classes : FnScope ["_law_pool_here", "_law_most", "_law_many", "_law_extra", "_law_classes_here", "_law_index", "_law_own", "_law_worth"] ["_law_pool_here", "_law_most"] (defScope S__law_classes) := ⟨rfl, rfl, rfl, by decide +kernel, rfl, by decide +kernel, by decide +kernel⟩
def S__law_total : Stmt := (topS 18)
def x__law_total : DefX := { ad := aF "_law_total", name := "_law_total", qual := "_law_total", params := defArgs S__law_total, body := defBody S__law_total, scope := defScope S__law_total }
theorem sc__law_total : FnScope ["_law_pool_here", "_law_way"] ["_law_pool_here"] (defScope S__law_total) := ⟨rfl, rfl, rfl, by decide +kernel, rfl, by decide +kernel, by decide +kernel⟩
def S__law_counts : Stmt := (topS 17)
def x__law_counts : DefX := { ad := aF "_law_counts", name := "_law_counts", qual := "_law_counts", params := defArgs S__law_counts, body := defBody S__law_counts, scope := defScope S__law_counts }
theorem sc__law_counts : FnScope ["_law_classes_here", "_law_total_here", "_law_ways", "_law_row", "_law_part", "_law_force"] ["_law_classes_here", "_law_total_here"] (defScope S__law_counts) := ⟨rfl, rfl, rfl, by decide +kernel, rfl, by decide +kernel, by decide +kernel⟩
def S__law_near : Stmt := (topS 19)
def x__law_near : DefX := { ad := aF "_law_near", name := "_law_near", qual := "_law_near", params := defArgs S__law_near, body := defBody S__law_near, scope := defScope S__law_near }
theorem sc__law_near : FnScope ["_law_classes_here", "_law_at", "_law_worth", "_law_many", "_law_row"] ["_law_classes_here", "_law_at"] (defScope S__law_near) := ⟨rfl, rfl, rfl, by decide +kernel, rfl, by decide +kernel, by decide +kernel⟩
def S_Ground___init__ : Stmt := (inClass (topS 7) 4)
def x_Ground___init__ : DefX := { ad := aM .Ground "__init__", name := "__init__", qual := "Ground.__init__", params := defArgs S_Ground___init__, body := defBody S_Ground___init__, scope := defScope S_Ground___init__ }
theorem sc_Ground___init__ : FnScope ["self", "classes", "worth", "many"] ["self", "classes"] (defScope S_Ground___init__) := ⟨rfl, rfl, rfl, by decide +kernel, rfl, by decide +kernel, by decide +kernel⟩
def S__law_ground : Stmt := (topS 16)
def x__law_ground : DefX := { ad := aF "_law_ground", name := "_law_ground", qual := "_law_ground", params := defArgs S__law_ground, body := defBody S__law_ground, scope := defScope S__law_ground }
theorem sc__law_ground : FnScope ["_law_classes_here"] ["_law_classes_here"] (defScope S__law_ground) := ⟨rfl, rfl, rfl, by decide +kernel, rfl, by decide +kernel, by decide +kernel⟩
def S_parts_of : Stmt := (topS 9)
def x_parts_of : DefX := { ad := aF "parts_of", name := "parts_of", qual := "parts_of", params := defArgs S_parts_of, body := defBody S_parts_of, scope := defScope S_parts_of }
theorem sc_parts_of : FnScope ["total", "many", "ways", "part", "force", "_"] ["total", "many"] (defScope S_parts_of) := ⟨rfl, rfl, rfl, by decide +kernel, rfl, by decide +kernel, by decide +kernel⟩
def S_Ground_count_spreads : Stmt := (inClass (topS 7) 10)
def x_Ground_count_spreads : DefX := { ad := aM .Ground "count_spreads", name := "count_spreads", qual := "Ground.count_spreads", params := defArgs S_Ground_count_spreads, body := defBody S_Ground_count_spreads, scope := defScope S_Ground_count_spreads }
theorem sc_Ground_count_spreads : FnScope ["self", "total", "ways", "_", "many", "own", "force", "k"] ["self", "total"] (defScope S_Ground_count_spreads) := ⟨rfl, rfl, rfl, by decide +kernel, rfl, by decide +kernel, by decide +kernel⟩
def S__law_whole : Stmt := (topS 14)
def x__law_whole : DefX := { ad := aF "_law_whole", name := "_law_whole", qual := "_law_whole", params := defArgs S__law_whole, body := defBody S__law_whole, scope := defScope S__law_whole }
theorem sc__law_whole : FnScope ["_law_actual"] ["_law_actual"] (defScope S__law_whole) := ⟨rfl, rfl, rfl, by decide +kernel, rfl, by decide +kernel, by decide +kernel⟩
def S__law_right : Stmt := (topS 20)
def x__law_right : DefX := { ad := aF "_law_right", name := "_law_right", qual := "_law_right", params := defArgs S__law_right, body := defBody S__law_right, scope := defScope S__law_right }
theorem sc__law_right : FnScope ["_law_classes_here", "_law_total_here", "_law_due", "_law_counted"] ["_law_classes_here", "_law_total_here", "_law_due"] (defScope S__law_right) := ⟨rfl, rfl, rfl, by decide +kernel, rfl, by decide +kernel, by decide +kernel⟩
def S_law : Stmt := (topS 21)
def x_law : DefX := { ad := aF "law", name := "law", qual := "law", params := defArgs S_law, body := defBody S_law, scope := defScope S_law }
theorem sc_law : FnScope ["_law_script", "_law_pool_here", "_law_classes_here", "_law_total_here", "_law_ways", "_law_less", "_law_near_here", "_law_turned", "_law_ground_here", "_law_first", "_law_second", "_law_beside", "_law_row"] ["_law_script"] (defScope S_law) := ⟨rfl, rfl, rfl, by decide +kernel, rfl, by decide +kernel, by decide +kernel⟩
def S_BadNumber___init__ : Stmt := (inClass (topS 3) 0)
def x_BadNumber___init__ : DefX := { ad := aM .BadNumber "__init__", name := "__init__", qual := "BadNumber.__init__", params := defArgs S_BadNumber___init__, body := defBody S_BadNumber___init__, scope := defScope S_BadNumber___init__, clo := [clsX] }
def S_TooMany___init__ : Stmt := (inClass (topS 4) 0)
def x_TooMany___init__ : DefX := { ad := aM .TooMany "__init__", name := "__init__", qual := "TooMany.__init__", params := defArgs S_TooMany___init__, body := defBody S_TooMany___init__, scope := defScope S_TooMany___init__, clo := [clsX] }
def fn : List DefX := [x__law_pool, x__law_mix, x__law_draw, x__law_classes, x__law_total, x__law_counts, x__law_near, x_BadNumber___init__, x_TooMany___init__, x_Ground___init__, x__law_ground, x_parts_of, x_Ground_count_spreads, x__law_whole, x__law_right, x_law]
def fx : List Fx := [.free "int", .glo "_law_pool", .free "len", .free "range", .glo "_law_mix", .free "min", .glo "_law_draw", .glo "_law_classes", .glo "_law_total", .glo "_law_counts", .free "sum", .glo "_law_near", .gen (xfiB .BadNumber .name), .gen (xfiB .BadNumber .value), .gen (supB PR .BadNumber), .free "super", .glo Cn.BadNumber.x, .con .Ground "MOST_CLASSES" 4, .gen (xfiB .TooMany .name), .gen (xfiB .TooMany .most), .gen (supB PR .TooMany), .glo Cn.TooMany.x, .fld .Ground .classes, .fld .Ground .fields, .con .Ground "MOST_WORTH" 1000, .con .Ground "MOST_FIELDS" 12, .mk .Ground, .glo "_law_ground", .con .Ground "MOST_FORCES" 40, .glo "parts_of", .meth .Ground "count_spreads", .kit (.ty "int") (.ty "int") true, .free "isinstance", .kit (.ty "int") (.ty "bool") false, .free "bool", .glo "_law_whole", .glo "_law_right", .glo "law"]
/-! ### they do -/
theorem r_BadNumber {w : World} {K : PySem.W.Frag} {mg : Str → Option Value} {base : Heap} (z : Zs fx fn K mg) : Rz2 PR w K mg base .BadNumber .name .value := by
  obtain ⟨e, ok⟩ := z.says.fn_ 7 (d := x_BadNumber___init__)
  exact rz2_mk e ok (z.gen 14) (z.free 15) (z.cn (c := .BadNumber) 16) rfl rfl rfl (fun kV doc pm an cda cc ct us hl => match us, hl with | [_, _, _], _ => rfl) (fun fd cc cda S => fn_sup2 S (NdefX.nscope_by (by decide +kernel)) rfl rfl rfl (by decide) (z.xf (c := .BadNumber) (n := .name) 12).2 (z.xf (c := .BadNumber) (n := .value) 13).2)
theorem r_TooMany {w : World} {K : PySem.W.Frag} {mg : Str → Option Value} {base : Heap} (z : Zs fx fn K mg) : Rz2 PR w K mg base .TooMany .name .most := by
  obtain ⟨e, ok⟩ := z.says.fn_ 8 (d := x_TooMany___init__)
  exact rz2_mk e ok (z.gen 20) (z.free 15) (z.cn (c := .TooMany) 21) rfl rfl rfl (fun kV doc pm an cda cc ct us hl => match us, hl with | [_, _, _], _ => rfl) (fun fd cc cda S => fn_sup2 S (NdefX.nscope_by (by decide +kernel)) rfl rfl rfl (by decide) (z.xf (c := .TooMany) (n := .name) 18).2 (z.xf (c := .TooMany) (n := .most) 19).2)
theorem d__law_pool {w : World} {K : PySem.W.Frag} {mg : Str → Option Value} {base : Heap} (z : Zs fx fn K mg) : Def PR w K mg base (x__law_pool.ad K) 1 1 [] F__law_pool := by
  obtain ⟨fd, D⟩ := z.says.def_ 0 (d := x__law_pool)
  refine def_all D (FunD.bindsN D fun _ _ _ _ _ _ us hl => match us, hl with | [_], _ => rfl) (ok_def D sc__law_pool fun cdv A outer s H E hr tk => ?_)
  exact (ss_one (ss_ret (se_lstR (sa_cons (se_lc rfl sc__law_pool.nd (si_list (se_var 0 rfl (.inl rfl))) (own := [("_law_cell", 1)]) (blkOk_by (by rfl)) (fun _ _ _ _ _ => (pg_name sc__law_pool.nd (i := 1) rfl (.inl rfl) (.inr rfl))) (tg_nm _ 1) (by decide) (fun _ _ _ _ _ => sts_nil) (fun _ _ _ _ _ => (se_callTy call_int1 r_int1 (z.free 0) bo_int (sa_cons (se_var 1 rfl (.inl rfl)) sa_nil)))) (sa_cons se_int (sa_cons se_int (sa_cons se_int (sa_cons se_int sa_nil))))))))
theorem d__law_mix {w : World} {K : PySem.W.Frag} {mg : Str → Option Value} {base : Heap} (z : Zs fx fn K mg) : Def PR w K mg base (x__law_mix.ad K) 1 3 [] F__law_mix := by
  obtain ⟨fd, D⟩ := z.says.def_ 1 (d := x__law_mix)
  refine def_all D (FunD.bindsN D fun _ _ _ _ _ _ us hl => match us, hl with | [_, _, _], _ => rfl) (ok_def D sc__law_mix fun cdv A outer s H E hr tk => ?_)
  exact (ss_cons (ss_set 3 sc__law_mix.nd (se_bin o_modI (se_callTy call_int1 r_int1 (z.free 0) bo_int (sa_cons (se_bin o_addI (se_bin o_addI (se_bin o_mulI (se_var 0 rfl (.inl rfl)) se_int) (se_bin o_mulI (se_var 1 rfl (.inl rfl)) se_int)) se_int) sa_nil)) se_int) rfl (.inl rfl) (by rfl) (.inr rfl))
    (ss_cons (ss_set 4 sc__law_mix.nd (se_bin o_modI (se_callTy call_int1 r_int1 (z.free 0) bo_int (sa_cons (se_bin o_addI (se_bin o_addI (se_bin o_mulI (se_var 3 rfl (.inl rfl)) (se_var 3 rfl (.inl rfl))) (se_bin o_mulI (se_var 1 rfl (.inl rfl)) se_int)) (se_var 0 rfl (.inl rfl))) sa_nil)) se_int) rfl (.inl rfl) (by rfl) (.inr rfl))
    (ss_one (ss_ret (se_bin o_modI (se_callTy call_int1 r_int1 (z.free 0) bo_int (sa_cons (se_bin o_divI (se_var 4 rfl (.inl rfl)) se_int) sa_nil)) (se_var 2 rfl (.inl rfl)))))))
theorem d__law_draw {w : World} {K : PySem.W.Frag} {mg : Str → Option Value} {base : Heap} (z : Zs fx fn K mg) : Def PR w K mg base (x__law_draw.ad K) 2 2 [] F__law_draw := by
  obtain ⟨fd, D⟩ := z.says.def_ 2 (d := x__law_draw)
  refine def_all D (FunD.bindsN D fun _ _ _ _ _ _ us hl => match us, hl with | [_, _], _ => rfl) (ok_def D sc__law_draw fun cdv A outer s H E hr tk => ?_)
  exact (ss_cons (ss_if (SW.st (sw_or (st_cmp o_ltI (se_var 1 rfl (.inl rfl)) se_int (nomark _)) (sw_or1 (st_cmp o_eqF (se_callB call_len r_len (z.free 2) bo_len (sa_cons (se_ix (se_var 0 rfl (.inl rfl)) se_int) sa_nil)) se_int (nomark _))))) (ss_one (ss_ret se_int)) ss_nil)
    (ss_cons (ss_ixset (se_var 0 rfl (.inl rfl)) se_int (se_bin o_addI (se_ix (se_var 0 rfl (.inl rfl)) se_int) se_int))
    (ss_cons (ss_for rfl (passes_of rfl) (si_range1 (z.free 3) (sa_cons se_int sa_nil)) (sg_name 2 sc__law_draw.nd rfl (.inl rfl) (.inr rfl)) (ss_cons (ss_if (st_cmp o_gtI (se_ix (se_var 0 rfl (.inl rfl)) se_int) se_int (nomark _)) (ss_cons (ss_set 4 sc__law_draw.nd (se_bin o_modI (se_callTy call_int1 r_int1 (z.free 0) bo_int (sa_cons (se_ix (se_var 0 rfl (.inl rfl)) se_int) sa_nil)) (se_var 1 rfl (.inl rfl))) rfl (.inl rfl) (by rfl) (.inr rfl))
    (ss_cons (ss_ixset (se_var 0 rfl (.inl rfl)) se_int (se_bin o_divI (se_ix (se_var 0 rfl (.inl rfl)) se_int) (se_var 1 rfl (.inl rfl))))
    (ss_one (ss_ret (se_var 4 rfl (.inl rfl)))))) ss_nil)
    (ss_cons (ss_if (st_cmp o_geI (se_ix (se_var 0 rfl (.inl rfl)) se_int) (se_callB call_len r_len (z.free 2) bo_len (sa_cons (se_ix (se_var 0 rfl (.inl rfl)) se_int) sa_nil)) (nomark _)) (ss_one (ss_ret (se_call .P (d__law_mix z) tk (hr.mono (by decide)) (z.glo 4) (sa_cons (se_ix (se_var 0 rfl (.inl rfl)) se_int) (sa_cons (se_ix (se_var 0 rfl (.inl rfl)) se_int) (sa_cons (se_var 1 rfl (.inl rfl)) sa_nil)))))) ss_nil)
    (ss_cons (ss_set 3 sc__law_draw.nd (se_ix (se_ix (se_var 0 rfl (.inl rfl)) se_int) (se_ix (se_var 0 rfl (.inl rfl)) se_int)) rfl (.inl rfl) (by rfl) (.inr rfl))
    (ss_cons (ss_ixset (se_var 0 rfl (.inl rfl)) se_int (se_bin o_addI (se_ix (se_var 0 rfl (.inl rfl)) se_int) se_int))
    (ss_cons (ss_ixset (se_var 0 rfl (.inl rfl)) se_int (se_bin o_modI (se_callTy call_int1 r_int1 (z.free 0) bo_int (sa_cons (se_bin o_addI (se_bin o_addI (se_bin o_mulI (se_ix (se_var 0 rfl (.inl rfl)) se_int) se_int) (se_bin o_mulI (se_var 3 rfl (.inl rfl)) se_int)) se_int) sa_nil)) se_int))
    (ss_cons (ss_if (st_cmp o_ltI (se_var 3 rfl (.inl rfl)) (se_bin o_powI se_int se_int) (nomark _)) (ss_one (ss_ret (se_call .P (d__law_mix z) tk (hr.mono (by decide)) (z.glo 4) (sa_cons (se_ix (se_var 0 rfl (.inl rfl)) se_int) (sa_cons (se_ix (se_var 0 rfl (.inl rfl)) se_int) (sa_cons (se_var 1 rfl (.inl rfl)) sa_nil)))))) ss_nil)
    (ss_one (ss_ixset (se_var 0 rfl (.inl rfl)) se_int (se_bin o_subI (se_var 3 rfl (.inl rfl)) (se_bin o_powI se_int se_int)))))))))))
    (ss_one (ss_ret (se_call .P (d__law_mix z) tk (hr.mono (by decide)) (z.glo 4) (sa_cons (se_ix (se_var 0 rfl (.inl rfl)) se_int) (sa_cons (se_ix (se_var 0 rfl (.inl rfl)) se_int) (sa_cons (se_var 1 rfl (.inl rfl)) sa_nil)))))))))
theorem d__law_classes {w : World} {K : PySem.W.Frag} {mg : Str → Option Value} {base : Heap} (z : Zs fx fn K mg) : Def PR w K mg base (x__law_classes.ad K) 3 2 [] F__law_classes := by
  obtain ⟨fd, D⟩ := z.says.def_ 3 (d := x__law_classes)
  refine def_all D (FunD.bindsN D fun _ _ _ _ _ _ us hl => match us, hl with | [_, _], _ => rfl) (ok_def D sc__law_classes fun cdv A outer s H E hr tk => ?_)
  exact (ss_cons (ss_set 2 sc__law_classes.nd (se_bin o_addI se_int (se_call .S (d__law_draw z) tk (hr.mono (by decide)) (z.glo 6) (sa_cons (se_var 0 rfl (.inl rfl)) (sa_cons (se_callB (call_min2 rfl) r_min2 (z.free 5) bo_min (sa_cons se_int (sa_cons (se_var 1 rfl (.inl rfl)) sa_nil))) sa_nil)))) rfl (.inl rfl) (by rfl) (.inr rfl))
    (ss_cons (ss_set 3 sc__law_classes.nd (se_call .S (d__law_draw z) tk (hr.mono (by decide)) (z.glo 6) (sa_cons (se_var 0 rfl (.inl rfl)) (sa_cons se_int sa_nil))) rfl (.inl rfl) (by rfl) (.inr rfl))
    (ss_cons (ss_if (st_cmp o_eqF (se_call .S (d__law_draw z) tk (hr.mono (by decide)) (z.glo 6) (sa_cons (se_var 0 rfl (.inl rfl)) (sa_cons se_int sa_nil))) se_int (nomark _)) (ss_one (ss_set 3 sc__law_classes.nd (se_call .S (d__law_draw z) tk (hr.mono (by decide)) (z.glo 6) (sa_cons (se_var 0 rfl (.inl rfl)) (sa_cons (se_var 1 rfl (.inl rfl)) sa_nil))) rfl (.inl rfl) (by rfl) (.inr rfl))) ss_nil)
    (ss_cons (ss_set 3 sc__law_classes.nd (se_callB (call_min2 rfl) r_min2 (z.free 5) bo_min (sa_cons (se_callTy call_int1 r_int1 (z.free 0) bo_int (sa_cons (se_var 3 rfl (.inl rfl)) sa_nil)) (sa_cons (se_bin o_subI (se_var 1 rfl (.inl rfl)) (se_var 2 rfl (.inl rfl))) sa_nil))) rfl (.inl rfl) (by rfl) (.inr rfl))
    (ss_cons (ss_set 4 sc__law_classes.nd (se_lstR sa_nil) rfl (.inl rfl) (by rfl) (.inr rfl))
    (ss_cons (ss_for rfl (passes_of rfl) (si_range1 (z.free 3) (sa_cons (se_var 2 rfl (.inl rfl)) sa_nil)) (sg_name 5 sc__law_classes.nd rfl (.inl rfl) (.inr rfl)) (ss_cons (ss_set 6 sc__law_classes.nd (se_var 3 rfl (.inl rfl)) rfl (.inl rfl) (by rfl) (.inr rfl))
    (ss_cons (ss_if (st_cmp o_ltI (se_bin o_addI (se_var 5 rfl (.inl rfl)) se_int) (se_var 2 rfl (.inl rfl)) (nomark _)) (ss_one (ss_set 6 sc__law_classes.nd (se_call .S (d__law_draw z) tk (hr.mono (by decide)) (z.glo 6) (sa_cons (se_var 0 rfl (.inl rfl)) (sa_cons (se_bin o_addI (se_var 3 rfl (.inl rfl)) se_int) sa_nil))) rfl (.inl rfl) (by rfl) (.inr rfl))) ss_nil)
    (ss_cons (ss_set 3 sc__law_classes.nd (se_bin o_subI (se_var 3 rfl (.inl rfl)) (se_var 6 rfl (.inl rfl))) rfl (.inl rfl) (by rfl) (.inr rfl))
    (ss_cons (ss_set 7 sc__law_classes.nd (se_bin o_addI se_int (se_call .S (d__law_draw z) tk (hr.mono (by decide)) (z.glo 6) (sa_cons (se_var 0 rfl (.inl rfl)) (sa_cons se_int sa_nil)))) rfl (.inl rfl) (by rfl) (.inr rfl))
    (ss_cons (ss_if (st_cmp o_eqF (se_call .S (d__law_draw z) tk (hr.mono (by decide)) (z.glo 6) (sa_cons (se_var 0 rfl (.inl rfl)) (sa_cons se_int sa_nil))) se_int (nomark _)) (ss_one (ss_set 7 sc__law_classes.nd (se_bin o_addI se_int (se_call .S (d__law_draw z) tk (hr.mono (by decide)) (z.glo 6) (sa_cons (se_var 0 rfl (.inl rfl)) (sa_cons se_int sa_nil)))) rfl (.inl rfl) (by rfl) (.inr rfl))) ss_nil)
    (ss_one (ss_expr (se_app (se_var 4 rfl (.inl rfl)) (sa_cons (se_tup (sa_cons (se_var 7 rfl (.inl rfl)) (sa_cons (se_bin o_addI se_int (se_var 6 rfl (.inl rfl))) sa_nil))) sa_nil))))))))))
    (ss_one (ss_ret (se_fz (se_var 4 rfl (.inl rfl)))))))))))
theorem d__law_total {w : World} {K : PySem.W.Frag} {mg : Str → Option Value} {base : Heap} (z : Zs fx fn K mg) : Def PR w K mg base (x__law_total.ad K) 3 1 [] F__law_total := by
  obtain ⟨fd, D⟩ := z.says.def_ 4 (d := x__law_total)
  refine def_all D (FunD.bindsN D fun _ _ _ _ _ _ us hl => match us, hl with | [_], _ => rfl) (ok_def D sc__law_total fun cdv A outer s H E hr tk => ?_)
  exact (ss_cons (ss_set 1 sc__law_total.nd (se_call .S (d__law_draw z) tk (hr.mono (by decide)) (z.glo 6) (sa_cons (se_var 0 rfl (.inl rfl)) (sa_cons se_int sa_nil))) rfl (.inl rfl) (by rfl) (.inr rfl))
    (ss_cons (ss_if (st_cmp o_eqF (se_var 1 rfl (.inl rfl)) se_int (nomark _)) (ss_one (ss_ret (se_bin o_addI se_int (se_call .S (d__law_draw z) tk (hr.mono (by decide)) (z.glo 6) (sa_cons (se_var 0 rfl (.inl rfl)) (sa_cons se_int sa_nil)))))) ss_nil)
    (ss_cons (ss_if (st_cmp o_eqF (se_var 1 rfl (.inl rfl)) se_int (nomark _)) (ss_one (ss_ret (se_call .S (d__law_draw z) tk (hr.mono (by decide)) (z.glo 6) (sa_cons (se_var 0 rfl (.inl rfl)) (sa_cons se_int sa_nil))))) ss_nil)
    (ss_cons (ss_if (st_cmp o_eqF (se_var 1 rfl (.inl rfl)) se_int (nomark _)) (ss_one (ss_ret (se_bin o_subI se_int (se_call .S (d__law_draw z) tk (hr.mono (by decide)) (z.glo 6) (sa_cons (se_var 0 rfl (.inl rfl)) (sa_cons se_int sa_nil)))))) ss_nil)
    (ss_one (ss_ret (se_call .S (d__law_draw z) tk (hr.mono (by decide)) (z.glo 6) (sa_cons (se_var 0 rfl (.inl rfl)) (sa_cons se_int sa_nil)))))))))
theorem d__law_counts {w : World} {K : PySem.W.Frag} {mg : Str → Option Value} {base : Heap} (z : Zs fx fn K mg) : Def PR w K mg base (x__law_counts.ad K) 1 2 [] F__law_counts := by
  obtain ⟨fd, D⟩ := z.says.def_ 5 (d := x__law_counts)
  refine def_all D (FunD.bindsN D fun _ _ _ _ _ _ us hl => match us, hl with | [_, _], _ => rfl) (ok_def D sc__law_counts fun cdv A outer s H E hr tk => ?_)
  exact (ss_cons (ss_setLcR 2 rfl sc__law_counts.nd rfl rfl (by rfl) (si_range1 (z.free 3) (sa_cons (se_bin o_addI (se_var 1 rfl (.inl rfl)) se_int) sa_nil)) (own := [("_law_force", 5)]) (blkOk_by (by rfl)) (fun _ _ _ _ _ => (pg_name sc__law_counts.nd (i := 5) rfl (.inl rfl) (.inr rfl))) (tg_nm _ 5) (by decide) (fun _ _ _ _ _ => sts_nil) (fun _ _ _ _ _ => (se_callTy call_int1 r_int1 (z.free 0) bo_int (sa_cons (se_cmp o_eqF (se_var 5 rfl (.inl rfl)) se_int (nomark _)) sa_nil))))
    (ss_cons (ss_for rfl (passes_of rfl) (si_list (se_var 0 rfl (.inl rfl))) (sg_name 3 sc__law_counts.nd rfl (.inl rfl) (.inr rfl)) (ss_one (ss_for rfl (passes_of rfl) (si_range2 (z.free 3) (sa_cons se_int (sa_cons (se_bin o_addI (se_ix (se_var 3 rfl (.inl rfl)) se_int) se_int) sa_nil))) (sg_name 4 sc__law_counts.nd rfl (.inl rfl) (.inr rfl)) (ss_one (ss_for rfl (passes_of rfl) (si_range2 (z.free 3) (sa_cons (se_var 4 rfl (.inl rfl)) (sa_cons (se_bin o_addI (se_var 1 rfl (.inl rfl)) se_int) sa_nil))) (sg_name 5 sc__law_counts.nd rfl (.inl rfl) (.inr rfl)) (ss_one (ss_ixset (se_var 2 rfl (.inl rfl)) (se_var 5 rfl (.inl rfl)) (se_bin o_addI (se_ix (se_var 2 rfl (.inl rfl)) (se_var 5 rfl (.inl rfl))) (se_ix (se_var 2 rfl (.inl rfl)) (se_bin o_subI (se_var 5 rfl (.inl rfl)) (se_var 4 rfl (.inl rfl))))))))))))
    (ss_one (ss_ret (se_fz (se_var 2 rfl (.inl rfl)))))))
theorem d__law_near {w : World} {K : PySem.W.Frag} {mg : Str → Option Value} {base : Heap} (z : Zs fx fn K mg) : Def PR w K mg base (x__law_near.ad K) 1 2 [] F__law_near := by
  obtain ⟨fd, D⟩ := z.says.def_ 6 (d := x__law_near)
  refine def_all D (FunD.bindsN D fun _ _ _ _ _ _ us hl => match us, hl with | [_, _], _ => rfl) (ok_def D sc__law_near fun cdv A outer s H E hr tk => ?_)
  exact (ss_cons (ss_set 2 sc__law_near.nd (se_ix (se_ix (se_var 0 rfl (.inl rfl)) (se_var 1 rfl (.inl rfl))) se_int) rfl (.inl rfl) (by rfl) (.inr rfl))
    (ss_cons (ss_set 3 sc__law_near.nd (se_ix (se_ix (se_var 0 rfl (.inl rfl)) (se_var 1 rfl (.inl rfl))) se_int) rfl (.inl rfl) (by rfl) (.inr rfl))
    (ss_cons (ss_if (st_cmp o_ltI (se_callB (cr_sum rfl) r_sumI (z.free 10) bo_sum (sa_cons (se_lc rfl sc__law_near.nd (si_list (se_var 0 rfl (.inl rfl))) (own := [("_law_row", 4)]) (blkOk_by (by rfl)) (fun _ _ _ _ _ => (pg_name sc__law_near.nd (i := 4) rfl (.inl rfl) (.inr rfl))) (tg_nm _ 4) (by decide) (fun _ _ _ _ _ => sts_nil) (fun _ _ _ _ _ => (se_ix (se_var 4 rfl (.inl rfl)) se_int))) sa_nil)) se_int (nomark _)) (ss_one (ss_ret (se_bin o_catL (se_bin o_catL (se_sl (se_var 0 rfl (.inl rfl)) sp_no (sp_at (se_var 1 rfl (.inl rfl)))) (se_lst (sa_cons (se_tup (sa_cons (se_var 2 rfl (.inl rfl)) (sa_cons (se_bin o_addI (se_var 3 rfl (.inl rfl)) se_int) sa_nil))) sa_nil))) (se_sl (se_var 0 rfl (.inl rfl)) (sp_at (se_bin o_addI (se_var 1 rfl (.inl rfl)) se_int)) sp_no)))) ss_nil)
    (ss_cons (ss_if (st_cmp o_gtI (se_var 3 rfl (.inl rfl)) se_int (nomark _)) (ss_one (ss_ret (se_bin o_catL (se_bin o_catL (se_sl (se_var 0 rfl (.inl rfl)) sp_no (sp_at (se_var 1 rfl (.inl rfl)))) (se_lst (sa_cons (se_tup (sa_cons (se_var 2 rfl (.inl rfl)) (sa_cons (se_bin o_subI (se_var 3 rfl (.inl rfl)) se_int) sa_nil))) sa_nil))) (se_sl (se_var 0 rfl (.inl rfl)) (sp_at (se_bin o_addI (se_var 1 rfl (.inl rfl)) se_int)) sp_no)))) ss_nil)
    (ss_one (ss_ret (se_fz (se_var 0 rfl (.inl rfl)))))))))
theorem d_Ground___init__ {w : World} {K : PySem.W.Frag} {mg : Str → Option Value} {base : Heap} (z : Zs fx fn K mg) : DefS PR w K mg base (x_Ground___init__.ad K) 3 1 F_Ground___init__ := by
  obtain ⟨fd, D⟩ := z.says.def_ 9 (d := x_Ground___init__)
  exact ok_star (ps := ["self"]) (pv := "classes") D sc_Ground___init__ (fun kV doc pm an cdv ct => StX.bind_star1 (B := fun xs => bindArgs (PySem.W.fnOf x_Ground___init__.name x_Ground___init__.qual x_Ground___init__.params x_Ground___init__.body x_Ground___init__.scope .none kV doc pm an cdv ct) ⟨xs, []⟩) (fun _ => rfl) (fun _ _ _ => rfl)) fun cdv A outer s H E hr tk =>
   (ss_cons (ss_if (st_cmp o_ltI (se_callB call_len r_len (z.free 2) bo_len (sa_cons (se_var 1 rfl (.inl rfl)) sa_nil)) se_int (nomark _)) (ss_one (ss_raise2 (c := .BadNumber) (r_BadNumber z) rfl tk (hr.mono (by decide)) (sa_cons se_str (sa_cons se_int sa_nil)))) ss_nil)
    (ss_cons (ss_if (st_cmp o_gtI (se_callB call_len r_len (z.free 2) bo_len (sa_cons (se_var 1 rfl (.inl rfl)) sa_nil)) (se_con (c := .Ground) (m := "MOST_CLASSES") (i := 4) (z.con 17) (se_var 0 rfl (.inl rfl))) (nomark _)) (ss_one (ss_raise2 (c := .TooMany) (r_TooMany z) rfl tk (hr.mono (by decide)) (sa_cons se_str (sa_cons (se_con (c := .Ground) (m := "MOST_CLASSES") (i := 4) (z.con 17) (se_var 0 rfl (.inl rfl))) sa_nil)))) ss_nil)
    (ss_cons (ss_fld (c := .Ground) (x := .classes) (z.fld 22) (se_var 0 rfl (.inl rfl)) (se_lstR sa_nil))
    (ss_cons (ss_fld (c := .Ground) (x := .fields) (z.fld 23) (se_var 0 rfl (.inl rfl)) se_int)
    (ss_cons (ss_for rfl (passes_of rfl) (si_tup (se_var 1 rfl (.inl rfl))) (sg_of (pg_tup rfl (pgs_cons (pg_name sc_Ground___init__.nd (i := 2) rfl (.inl rfl) (.inr rfl)) (pgs_cons (pg_name sc_Ground___init__.nd (i := 3) rfl (.inl rfl) (.inr rfl)) pgs_nil))) (tg_tup (tgs_cons (tg_nm _ 2) (tgs_cons (tg_nm _ 3) (tgs_nil _))))) (ss_cons (ss_if (st_not (st_chain o_leI o_leI se_int (se_var 2 rfl (.inl rfl)) (se_con (c := .Ground) (m := "MOST_WORTH") (i := 1000) (z.con 24) (se_var 0 rfl (.inl rfl))))) (ss_one (ss_raise2 (c := .BadNumber) (r_BadNumber z) rfl tk (hr.mono (by decide)) (sa_cons se_str (sa_cons (se_var 2 rfl (.inl rfl)) sa_nil)))) ss_nil)
    (ss_cons (ss_if (st_cmp o_ltI (se_var 3 rfl (.inl rfl)) se_int (nomark _)) (ss_one (ss_raise2 (c := .BadNumber) (r_BadNumber z) rfl tk (hr.mono (by decide)) (sa_cons se_str (sa_cons (se_var 3 rfl (.inl rfl)) sa_nil)))) ss_nil)
    (ss_cons (ss_expr (se_app (se_fld (c := .Ground) (x := .classes) (z.fld 22) (se_var 0 rfl (.inl rfl))) (sa_cons (se_tup (sa_cons (se_var 2 rfl (.inl rfl)) (sa_cons (se_var 3 rfl (.inl rfl)) sa_nil))) sa_nil)))
    (ss_one (ss_fldaug (c := .Ground) (x := .fields) (z.fld 23) (se_var 0 rfl (.inl rfl)) (se_var 3 rfl (.inl rfl))))))))
    (ss_one (ss_if (st_cmp o_gtI (se_fld (c := .Ground) (x := .fields) (z.fld 23) (se_var 0 rfl (.inl rfl))) (se_con (c := .Ground) (m := "MOST_FIELDS") (i := 12) (z.con 25) (se_var 0 rfl (.inl rfl))) (nomark _)) (ss_one (ss_raise2 (c := .TooMany) (r_TooMany z) rfl tk (hr.mono (by decide)) (sa_cons se_str (sa_cons (se_con (c := .Ground) (m := "MOST_FIELDS") (i := 12) (z.con 25) (se_var 0 rfl (.inl rfl))) sa_nil)))) ss_nil)))))))
theorem d__law_ground {w : World} {K : PySem.W.Frag} {mg : Str → Option Value} {base : Heap} (z : Zs fx fn K mg) : Def PR w K mg base (x__law_ground.ad K) 5 1 [] F__law_ground := by
  obtain ⟨fd, D⟩ := z.says.def_ 10 (d := x__law_ground)
  refine def_all D (FunD.bindsN D fun _ _ _ _ _ _ us hl => match us, hl with | [_], _ => rfl) (ok_def D sc__law_ground fun cdv A outer s H E hr tk => ?_)
  exact (ss_cons (ss_if (st_cmp o_eqF (se_callB call_len r_len (z.free 2) bo_len (sa_cons (se_var 0 rfl (.inl rfl)) sa_nil)) se_int (nomark _)) (ss_one (ss_ret (se_mkSt (c := .Ground) (z.mk 26) (d_Ground___init__ z) tk (hr.mono (by decide)) (sa_cons (se_ix (se_var 0 rfl (.inl rfl)) se_int) sa_nil)))) ss_nil)
    (ss_cons (ss_if (st_cmp o_eqF (se_callB call_len r_len (z.free 2) bo_len (sa_cons (se_var 0 rfl (.inl rfl)) sa_nil)) se_int (nomark _)) (ss_one (ss_ret (se_mkSt (c := .Ground) (z.mk 26) (d_Ground___init__ z) tk (hr.mono (by decide)) (sa_cons (se_ix (se_var 0 rfl (.inl rfl)) se_int) (sa_cons (se_ix (se_var 0 rfl (.inl rfl)) se_int) sa_nil))))) ss_nil)
    (ss_cons (ss_if (st_cmp o_eqF (se_callB call_len r_len (z.free 2) bo_len (sa_cons (se_var 0 rfl (.inl rfl)) sa_nil)) se_int (nomark _)) (ss_one (ss_ret (se_mkSt (c := .Ground) (z.mk 26) (d_Ground___init__ z) tk (hr.mono (by decide)) (sa_cons (se_ix (se_var 0 rfl (.inl rfl)) se_int) (sa_cons (se_ix (se_var 0 rfl (.inl rfl)) se_int) (sa_cons (se_ix (se_var 0 rfl (.inl rfl)) se_int) sa_nil)))))) ss_nil)
    (ss_one (ss_ret (se_mkSt (c := .Ground) (z.mk 26) (d_Ground___init__ z) tk (hr.mono (by decide)) (sa_cons (se_ix (se_var 0 rfl (.inl rfl)) se_int) (sa_cons (se_ix (se_var 0 rfl (.inl rfl)) se_int) (sa_cons (se_ix (se_var 0 rfl (.inl rfl)) se_int) (sa_cons (se_ix (se_var 0 rfl (.inl rfl)) se_int) sa_nil))))))))))
theorem d_parts_of {w : World} {K : PySem.W.Frag} {mg : Str → Option Value} {base : Heap} (z : Zs fx fn K mg) : Def PR w K mg base (x_parts_of.ad K) 1 2 [] F_parts_of := by
  obtain ⟨fd, D⟩ := z.says.def_ 11 (d := x_parts_of)
  refine def_all D (FunD.bindsN D fun _ _ _ _ _ _ us hl => match us, hl with | [_, _], _ => rfl) (ok_def D sc_parts_of fun cdv A outer s H E hr tk => ?_)
  exact (ss_cons (ss_set 2 sc_parts_of.nd (se_bin o_catR (se_lst (sa_cons se_int sa_nil)) (se_lc rfl sc_parts_of.nd (si_range1 (z.free 3) (sa_cons (se_var 0 rfl (.inl rfl)) sa_nil)) (own := [("_", 5)]) (blkOk_by (by rfl)) (fun _ _ _ _ _ => (pg_name sc_parts_of.nd (i := 5) rfl (.inl rfl) (.inr rfl))) (tg_nm _ 5) (by decide) (fun _ _ _ _ _ => sts_nil) (fun _ _ _ _ _ => se_int))) rfl (.inl rfl) (by rfl) (.inr rfl))
    (ss_cons (ss_for rfl (passes_of rfl) (si_range2 (z.free 3) (sa_cons se_int (sa_cons (se_bin o_addI (se_var 1 rfl (.inl rfl)) se_int) sa_nil))) (sg_name 3 sc_parts_of.nd rfl (.inl rfl) (.inr rfl)) (ss_one (ss_for rfl (passes_of rfl) (si_range2 (z.free 3) (sa_cons (se_var 3 rfl (.inl rfl)) (sa_cons (se_bin o_addI (se_var 0 rfl (.inl rfl)) se_int) sa_nil))) (sg_name 4 sc_parts_of.nd rfl (.inl rfl) (.inr rfl)) (ss_one (ss_ixset (se_var 2 rfl (.inl rfl)) (se_var 4 rfl (.inl rfl)) (se_bin o_addI (se_ix (se_var 2 rfl (.inl rfl)) (se_var 4 rfl (.inl rfl))) (se_ix (se_var 2 rfl (.inl rfl)) (se_bin o_subI (se_var 4 rfl (.inl rfl)) (se_var 3 rfl (.inl rfl))))))))))
    (ss_one (ss_ret (se_fz (se_var 2 rfl (.inl rfl)))))))
theorem d_Ground_count_spreads {w : World} {K : PySem.W.Frag} {mg : Str → Option Value} {base : Heap} (z : Zs fx fn K mg) : Def PR w K mg base (x_Ground_count_spreads.ad K) 3 2 [] F_Ground_count_spreads := by
  obtain ⟨fd, D⟩ := z.says.def_ 12 (d := x_Ground_count_spreads)
  refine def_all D (FunD.bindsN D fun _ _ _ _ _ _ us hl => match us, hl with | [_, _], _ => rfl) (ok_def D sc_Ground_count_spreads fun cdv A outer s H E hr tk => ?_)
  exact (ss_cons (ss_if (st_not (st_chain o_leI o_leI se_int (se_var 1 rfl (.inl rfl)) (se_con (c := .Ground) (m := "MOST_FORCES") (i := 40) (z.con 28) (se_var 0 rfl (.inl rfl))))) (ss_one (ss_raise2 (c := .BadNumber) (r_BadNumber z) rfl tk (hr.mono (by decide)) (sa_cons se_str (sa_cons (se_var 1 rfl (.inl rfl)) sa_nil)))) ss_nil)
    (ss_cons (ss_set 2 sc_Ground_count_spreads.nd (se_bin o_catL (se_lst (sa_cons se_int sa_nil)) (se_lc rfl sc_Ground_count_spreads.nd (si_range1 (z.free 3) (sa_cons (se_var 1 rfl (.inl rfl)) sa_nil)) (own := [("_", 3)]) (blkOk_by (by rfl)) (fun _ _ _ _ _ => (pg_name sc_Ground_count_spreads.nd (i := 3) rfl (.inl rfl) (.inr rfl))) (tg_nm _ 3) (by decide) (fun _ _ _ _ _ => sts_nil) (fun _ _ _ _ _ => se_int))) rfl (.inr rfl) (by rfl) (.inl rfl))
    (ss_cons (ss_for rfl (passes_of rfl) (si_list (se_fld (c := .Ground) (x := .classes) (z.fld 22) (se_var 0 rfl (.inl rfl)))) (sg_of (pg_tup rfl (pgs_cons (pg_name sc_Ground_count_spreads.nd (i := 3) rfl (.inl rfl) (.inr rfl)) (pgs_cons (pg_name sc_Ground_count_spreads.nd (i := 4) rfl (.inl rfl) (.inr rfl)) pgs_nil))) (tg_tup (tgs_cons (tg_nm _ 3) (tgs_cons (tg_nm _ 4) (tgs_nil _))))) (ss_cons (ss_set 5 sc_Ground_count_spreads.nd (se_call .P (d_parts_of z) tk (hr.mono (by decide)) (z.glo 29) (sa_cons (se_var 1 rfl (.inl rfl)) (sa_cons (se_var 4 rfl (.inl rfl)) sa_nil))) rfl (.inr rfl) (by rfl) (.inl rfl))
    (ss_one (ss_set 2 sc_Ground_count_spreads.nd (se_lc rfl sc_Ground_count_spreads.nd (si_range1 (z.free 3) (sa_cons (se_bin o_addI (se_var 1 rfl (.inl rfl)) se_int) sa_nil)) (own := [("force", 6)]) (blkOk_by (by rfl)) (fun _ _ _ _ _ => (pg_name sc_Ground_count_spreads.nd (i := 6) rfl (by first | exact .inl rfl | exact .inr rfl) (by first | exact .inr rfl | exact .inl rfl))) (tg_nm _ 6) (by decide) (fun _ _ _ _ _ => sts_nil) (fun _ _ _ _ _ => (se_callB (cr_sum rfl) r_sumI (z.free 10) bo_sum (sa_cons (se_lc rfl sc_Ground_count_spreads.nd (si_range1 (z.free 3) (sa_cons (se_bin o_addI (se_var 6 rfl (by first | exact .inl rfl | exact .inr (.inl rfl) | exact .inr (.inr rfl))) se_int) sa_nil)) (own := [("k", 7)]) (blkOk_by (by rfl)) (fun _ _ _ _ _ => (pg_name sc_Ground_count_spreads.nd (i := 7) rfl (by first | exact .inl rfl | exact .inr rfl) (by first | exact .inr rfl | exact .inl rfl))) (tg_nm _ 7) (by decide) (fun _ _ _ _ _ => sts_nil) (fun _ _ _ _ _ => (se_bin o_mulI (se_ix (se_var 2 rfl (by first | exact .inl rfl | exact .inr (.inl rfl) | exact .inr (.inr rfl))) (se_var 7 rfl (by first | exact .inl rfl | exact .inr (.inl rfl) | exact .inr (.inr rfl)))) (se_ix (se_var 5 rfl (by first | exact .inl rfl | exact .inr (.inl rfl) | exact .inr (.inr rfl))) (se_bin o_subI (se_var 6 rfl (by first | exact .inl rfl | exact .inr (.inl rfl) | exact .inr (.inr rfl))) (se_var 7 rfl (by first | exact .inl rfl | exact .inr (.inl rfl) | exact .inr (.inr rfl)))))))) sa_nil)))) rfl (.inr rfl) (by rfl) (.inl rfl)))))
    (ss_one (ss_ret (se_ix (se_var 2 rfl (.inr (.inl rfl))) (se_var 1 rfl (.inl rfl))))))))
theorem d__law_whole {w : World} {K : PySem.W.Frag} {mg : Str → Option Value} {base : Heap} (z : Zs fx fn K mg) : Def PR w K mg base (x__law_whole.ad K) 1 1 [] F__law_whole := by
  obtain ⟨fd, D⟩ := z.says.def_ 13 (d := x__law_whole)
  refine def_all D (FunD.bindsN D fun _ _ _ _ _ _ us hl => match us, hl with | [_], _ => rfl) (ok_def D sc__law_whole fun cdv A outer s H E hr tk => ?_)
  exact (ss_one (ss_ret (se_and (se_isi (tbl := [(.ty "int", true)]) (u := .ty "int") (z.free 32) (isi_ty (z.kit 31) isi_nil) (se_var 0 rfl (.inl rfl)) (cls_ty (z.free 0) bo_int)) (se_one (se_not (se_isi (tbl := [(.ty "int", false)]) (u := .ty "bool") (z.free 32) (isi_ty (z.kit 33) isi_nil) (se_var 0 rfl (.inl rfl)) (cls_ty (z.free 34) bo_bool)))))))
theorem d__law_right {w : World} {K : PySem.W.Frag} {mg : Str → Option Value} {base : Heap} (z : Zs fx fn K mg) : Def PR w K mg base (x__law_right.ad K) 6 3 [] F__law_right := by
  obtain ⟨fd, D⟩ := z.says.def_ 14 (d := x__law_right)
  refine def_all D (FunD.bindsN D fun _ _ _ _ _ _ us hl => match us, hl with | [_, _, _], _ => rfl) (ok_def D sc__law_right fun cdv A outer s H E hr tk => ?_)
  exact (ss_cons (ss_set 3 sc__law_right.nd (se_meth .P (z.meth 30) (d_Ground_count_spreads z) tk (hr.mono (by decide)) (se_call .P (d__law_ground z) tk (hr.mono (by decide)) (z.glo 27) (sa_cons (se_fz (se_var 0 rfl (.inl rfl))) sa_nil)) (sa_cons (se_var 1 rfl (.inl rfl)) sa_nil)) rfl (.inl rfl) (by rfl) (.inr rfl))
    (ss_one (ss_ret (se_and (se_call .P (d__law_whole z) tk (hr.mono (by decide)) (z.glo 35) (sa_cons (se_var 3 rfl (.inl rfl)) sa_nil)) (se_one (se_cmp o_eqF (se_var 3 rfl (.inl rfl)) (se_var 2 rfl (.inl rfl)) (nomark _)))))))
theorem ok_law {w : World} {K : PySem.W.Frag} {mg : Str → Option Value} {base : Heap} (z : Zs fx fn K mg) {fd : FuncData} (D : FunD K x_law.name x_law.qual x_law.params x_law.body x_law.scope (x_law.dvs K) (x_law.kws K) (x_law.ad K) fd) : FnOk PR w K mg base (L2.CX PR w) 7 (x_law.ad K) fd ["_law_script"] (spOf K 1 F_law) := by
  refine ok_def D sc_law fun cdv A outer s H E hr tk => ?_
  exact (ss_cons (ss_set 1 sc_law.nd (se_call .S (d__law_pool z) tk (hr.mono (by decide)) (z.glo 1) (sa_cons (se_var 0 rfl (.inl rfl)) sa_nil)) rfl (.inl rfl) (by rfl) (.inr rfl))
    (ss_cons (ss_set 2 sc_law.nd (se_call .S (d__law_classes z) tk (hr.mono (by decide)) (z.glo 7) (sa_cons (se_var 1 rfl (.inl rfl)) (sa_cons se_int sa_nil))) rfl (.inl rfl) (by rfl) (.inr rfl))
    (ss_cons (ss_set 3 sc_law.nd (se_call .S (d__law_total z) tk (hr.mono (by decide)) (z.glo 8) (sa_cons (se_var 1 rfl (.inl rfl)) sa_nil)) rfl (.inl rfl) (by rfl) (.inr rfl))
    (ss_cons (ss_set 4 sc_law.nd (se_call .P (d__law_counts z) tk (hr.mono (by decide)) (z.glo 9) (sa_cons (se_fz (se_var 2 rfl (.inl rfl))) (sa_cons (se_var 3 rfl (.inl rfl)) sa_nil))) rfl (.inl rfl) (by rfl) (.inr rfl))
    (ss_cons (ss_set 5 sc_law.nd (se_call .S (d__law_draw z) tk (hr.mono (by decide)) (z.glo 6) (sa_cons (se_var 1 rfl (.inl rfl)) (sa_cons (se_bin o_addI (se_var 3 rfl (.inl rfl)) se_int) sa_nil))) rfl (.inl rfl) (by rfl) (.inr rfl))
    (ss_cons (ss_set 6 sc_law.nd (se_call .P (d__law_near z) tk (hr.mono (by decide)) (z.glo 11) (sa_cons (se_fz (se_var 2 rfl (.inl rfl))) (sa_cons (se_call .S (d__law_draw z) tk (hr.mono (by decide)) (z.glo 6) (sa_cons (se_var 1 rfl (.inl rfl)) (sa_cons (se_callB call_len r_len (z.free 2) bo_len (sa_cons (se_var 2 rfl (.inl rfl)) sa_nil)) sa_nil))) sa_nil))) rfl (.inl rfl) (by rfl) (.inr rfl))
    (ss_cons (ss_setLc 7 rfl sc_law.nd rfl rfl (by rfl) (si_list (se_revL (se_var 2 rfl (.inl rfl)))) (own := [("_law_row", 12)]) (blkOk_by (by rfl)) (fun _ _ _ _ _ => (pg_name sc_law.nd (i := 12) rfl (.inl rfl) (.inr rfl))) (tg_nm _ 12) (by decide) (fun _ _ _ _ _ => sts_nil) (fun _ _ _ _ _ => (se_tup (sa_cons (se_bin o_addI (se_bin o_modI (se_callTy call_int1 r_int1 (z.free 0) bo_int (sa_cons (se_ix (se_var 12 rfl (.inl rfl)) se_int) sa_nil)) se_int) se_int) (sa_cons (se_ix (se_var 12 rfl (.inl rfl)) se_int) sa_nil)))))
    (ss_cons (ss_set 8 sc_law.nd (se_call .P (d__law_ground z) tk (hr.mono (by decide)) (z.glo 27) (sa_cons (se_fz (se_var 2 rfl (.inl rfl))) sa_nil)) rfl (.inl rfl) (by rfl) (.inr rfl))
    (ss_cons (ss_set 9 sc_law.nd (se_meth .P (z.meth 30) (d_Ground_count_spreads z) tk (hr.mono (by decide)) (se_var 8 rfl (.inl rfl)) (sa_cons (se_var 3 rfl (.inl rfl)) sa_nil)) rfl (.inl rfl) (by rfl) (.inr rfl))
    (ss_cons (ss_set 10 sc_law.nd (se_meth .P (z.meth 30) (d_Ground_count_spreads z) tk (hr.mono (by decide)) (se_var 8 rfl (.inl rfl)) (sa_cons (se_var 5 rfl (.inl rfl)) sa_nil)) rfl (.inl rfl) (by rfl) (.inr rfl))
    (ss_cons (ss_if (SW.st (sw_or (st_not (st_val (se_call .P (d__law_whole z) tk (hr.mono (by decide)) (z.glo 35) (sa_cons (se_var 9 rfl (.inl rfl)) sa_nil)))) (sw_or1 (st_not (st_val (se_call .P (d__law_whole z) tk (hr.mono (by decide)) (z.glo 35) (sa_cons (se_var 10 rfl (.inl rfl)) sa_nil))))))) (ss_one (ss_ret se_bl)) ss_nil)
    (ss_cons (ss_if (SW.st (sw_or (st_cmp o_neF (se_var 9 rfl (.inl rfl)) (se_ix (se_var 4 rfl (.inl rfl)) (se_var 3 rfl (.inl rfl))) (nomark _)) (sw_or1 (st_cmp o_neF (se_var 10 rfl (.inl rfl)) (se_ix (se_var 4 rfl (.inl rfl)) (se_var 5 rfl (.inl rfl))) (nomark _))))) (ss_one (ss_ret se_bl)) ss_nil)
    (ss_cons (ss_if (st_not (st_val (se_call .P (d__law_right z) tk (hr.mono (by decide)) (z.glo 36) (sa_cons (se_var 7 rfl (.inl rfl)) (sa_cons (se_var 3 rfl (.inl rfl)) (sa_cons (se_ix (se_var 4 rfl (.inl rfl)) (se_var 3 rfl (.inl rfl))) sa_nil)))))) (ss_one (ss_ret se_bl)) ss_nil)
    (ss_cons (ss_set 11 sc_law.nd (se_call .P (d__law_counts z) tk (hr.mono (by decide)) (z.glo 9) (sa_cons (se_fz (se_var 6 rfl (.inl rfl))) (sa_cons (se_var 3 rfl (.inl rfl)) sa_nil))) rfl (.inl rfl) (by rfl) (.inr rfl))
    (ss_cons (ss_if (st_not (st_val (se_call .P (d__law_right z) tk (hr.mono (by decide)) (z.glo 36) (sa_cons (se_fz (se_var 6 rfl (.inl rfl))) (sa_cons (se_var 3 rfl (.inl rfl)) (sa_cons (se_ix (se_var 11 rfl (.inl rfl)) (se_var 3 rfl (.inl rfl))) sa_nil)))))) (ss_one (ss_ret se_bl)) ss_nil)
    (ss_one (ss_ret (se_cmp o_eqF (se_meth .P (z.meth 30) (d_Ground_count_spreads z) tk (hr.mono (by decide)) (se_var 8 rfl (.inl rfl)) (sa_cons (se_var 3 rfl (.inl rfl)) sa_nil)) (se_ix (se_var 4 rfl (.inl rfl)) (se_var 3 rfl (.inl rfl))) (nomark _)))))))))))))))))))
/-! ### the head -/
abbrev R : PySem.W.OpenRow := PySem.W.OpenLaw.row PySem.Challenge.rw_fieldlots_k42_spreads_counted
def ads : List Addr := ([3, 6, 4, 21, 31, 53, 74, 86, 146, 157, 162, 167, 174, 181, 188, 195, 202, 207, 214, 219, 226, 231, 0, 20, 30, 52, 73, 85, 145, 156, 161, 166, 173, 180, 187, 194, 201, 206, 213, 218] : List Addr) ++ ([225, 230, 15, 16, 17, 18, 19, 29, 32, 50, 51, 71, 72, 84, 102, 111, 119, 126, 131, 138, 143, 144, 147, 148, 151, 152, 153, 154, 155, 158, 159, 160, 163, 164, 165, 168, 169, 170, 171, 172] : List Addr) ++ ([175, 176, 177, 178, 179, 182, 183, 184, 185, 186, 189, 190, 191, 192, 193, 196, 197, 198, 199, 200, 203, 204, 205, 208, 209, 210, 211, 212, 215, 216, 217, 220, 221, 222, 223, 224, 227, 228, 229, 49] : List Addr) ++ ([38, 70, 59, 101, 109, 110, 118, 125, 130, 137, 142, 44, 45, 46, 47, 48, 65, 66, 67, 68, 69, 96, 97, 98, 99, 100, 108, 112, 113, 114, 115, 116, 117, 120, 121, 122, 123, 124, 127, 128] : List Addr) ++ ([129, 132, 133, 134, 135, 136, 139, 140, 141, 103, 104, 105, 106, 107] : List Addr)
abbrev hk : PySem.W.Hook := hookA ads fx fn
def ob (s : PySem.W.SharedT) : AlX := obsAG ads fx fn (HandSHeadRun.getT s)
theorem ob_eq (s : PySem.W.SharedT) : ob s = hk.obs s.abs := obsAG_eq (HandSHeadRun.getT_eq s)
theorem runL (w : World) (os : OsState) : (HandSHeadRun.endF (HandSHeadRun.stepQ (HandSHeadRun.denQ HandSHeadRun.tabQ) R.prog w) 20000 R.prog w os).map (fun x => HandSHeadRun.looksF R.prog (PySem.W.boot_heap w.params) x.abs) = some (true) := by
  kernel_rfl
theorem runS (w : World) (os : OsState) : (HandSHeadRun.endF (HandSHeadRun.stepQ (HandSHeadRun.denQ HandSHeadRun.tabQ) R.prog w) 20000 R.prog w os).map (fun x => HandSHeadRun.seenQ (PySem.W.view R.prog [21]) (["_wall", "LotError", "BadNumber", "TooMany", "BadSpread", "Ground", "filled", "parts_of", "_law_pool", "_law_mix", "_law_draw", "_law_whole", "_law_classes", "_law_ground", "_law_counts", "_law_total", "_law_near", "_law_right"] : List PySem.Str) (importedModules R.prog.main.body) (fun s => PySem.W.xlAt (PySem.W.view R.prog [21]) [] s && PySem.W.recOk R.toRowW.records s) x.abs) = some (PySem.W.openGood (PySem.W.view R.prog [21]) (["_wall", "LotError", "BadNumber", "TooMany", "BadSpread", "Ground", "filled", "parts_of", "_law_pool", "_law_mix", "_law_draw", "_law_whole", "_law_classes", "_law_ground", "_law_counts", "_law_total", "_law_near", "_law_right"] : List PySem.Str)) := by
  kernel_rfl
theorem runO (w : World) (os : OsState) : (HandSHeadRun.endF (HandSHeadRun.stepQ (HandSHeadRun.denQ HandSHeadRun.tabQ) R.prog w) 20000 R.prog w os).map (fun x => ob x) = some (hk.val w) := by
  kernel_rfl
theorem run (w : World) : HandSHeadRun.RunEq R (PySem.W.view R.prog [21]) hk ob 20000 (["_wall", "LotError", "BadNumber", "TooMany", "BadSpread", "Ground", "filled", "parts_of", "_law_pool", "_law_mix", "_law_draw", "_law_whole", "_law_classes", "_law_ground", "_law_counts", "_law_total", "_law_near", "_law_right"] : List PySem.Str) w := by
  intro os
  exact map3 (runL w os) (runS w os) (runO w os)
/-- what is left: the plain law -/
abbrev Plain : Prop := ∀ ns : List Int, ns.length ≤ 63 → ∃ S, F_law [.p (.scr (ns.map .int))] [] = .ok (.p (.bl true)) S
open PySem.W PySem.Calls in
theorem holds (h : Plain) : PySem.Challenge.rw_fieldlots_k42_spreads_counted.Holds := by
  w_on; o_law
  refine HandSHeadRun.head_any (r := OpenLaw.row PySem.Challenge.rw_fieldlots_k42_spreads_counted) (q := view (OpenLaw.row PySem.Challenge.rw_fieldlots_k42_spreads_counted).prog [21]) (H := hk) (ob := ob) (M := 20000) (loose := (["_wall", "LotError", "BadNumber", "TooMany", "BadSpread", "Ground", "filled", "parts_of", "_law_pool", "_law_mix", "_law_draw", "_law_whole", "_law_classes", "_law_ground", "_law_counts", "_law_total", "_law_near", "_law_right"] : List PySem.Str)) (d := HandSHeadRun.topDef (OpenLaw.row PySem.Challenge.rw_fieldlots_k42_spreads_counted).prog 21) (kwd := []) ob_eq
    (by kernel_rfl) (fun s => by kernel_rfl) run (by kernel_rfl) (by kernel_rfl) (by kernel_rfl) (by rfl) (by first | assumption | decide +kernel) (by decide +kernel) ⟨rfl, rfl, rfl, rfl, rfl, by decide +kernel⟩ ?hw ?hc
  case hw => w_witness2
  case hc =>
    refine walk_F (hk := 0) (l := PySem.Challenge.rw_fieldlots_k42_spreads_counted) (n := 63) (k := 7) (x := "_law_script") (dl := x_law) (Fl := F_law) rfl (by decide) (by kernel_rfl) ⟨rfl, by decide, by decide⟩ 37 (by kernel_rfl) (fun K => by rfl) (fun w K mg z => ?_) h
    obtain ⟨fd, D⟩ := z.says.def_ 15 (d := x_law)
    refine ⟨fd, fun s u => FunD.bindsA (ps := ["_law_script"]) D (fun _ _ _ _ _ _ us hl => match us, hl with | [_], _ => rfl) s [u] rfl, fun base => ?_⟩
    exact ok_law z D
end G_fieldlots_k42_spreads_counted

namespace G_fieldlots_k42_spreads_counted
open PySem PySem.Spec PyProof.Rows L2 FR
theorem fmod_b (x m : Int) (h : 0 < m) : 0 ≤ x.fmod m ∧ x.fmod m < m := ⟨Int.fmod_nonneg_of_pos x h, Int.fmod_lt_of_pos x h⟩
theorem mix_ok (s t m : Int) (S : Store) (h : 0 < m) : ∃ r, F__law_mix [.p (.int s), .p (.int t), .p (.int m)] S = .ok (.p (.int r)) S ∧ 0 ≤ r ∧ r < m := by
  refine ⟨_, ?_, fmod_b ?x m h⟩
  case x =>
    exact (((s * 16807 + t * 7919 + 101).fmod 2147483629 * (s * 16807 + t * 7919 + 101).fmod 2147483629 + t * 104729 + s).fmod 2147483587).fdiv 11
  have h1 := fmod_b (s * 16807 + t * 7919 + 101) 2147483629 (by decide)
  unfold F__law_mix
  simp (disch := first | omega | rfl | decide | exact Nat.le_of_ble_eq_true rfl) only [c1_ap, cA_ap, c2_ap, K2_ap, aCons_ap, KC_ap, aNil_ap, fVar_ap, optD_ss, fC_ap, fBool_ap, kB_ap, fNotT_ap, fAndT_ap, fOrT_ap, kAnd_t, kAnd_f, kOr_t, kOr_f, fAndV_ap, fOrV_ap, fNotV_ap, kAndV_t, kAndV_f, kOrV_t, kOrV_f, kNotV_ap, fIfE_ap, kIfE_t, kIfE_f, fTup_ap, kTup_eq, kTupP_ap, sSeq_ap, seq_nx, seq_ret, seq_bk, seq_ct, seq_exc, sNext_ap, sIf_ap, kSI_t, kSI_f, sSet_ap, kSet_ap, sRet_ap, kRet_ap, sRetN_ap, sDrop_ap, kDrop_ap, sBreak_ap, sCont_ap, sIxSet_ap, kIx1_ap, kIx2_ap, ks_0, ks_1, ks_2, ks_3, ks_4, sFldSet_ap, kFl1_ap, kFl2_0, sFor_ap, kFor_ap, forD_nil, forD_cons, kF1_ap, loop_nx, loop_ct, loop_bk, loop_ret, loop_exc, gNm_ap, sPar_ap, kPar_ap, sAug_ap, kAug_ap, kAug1_ap, kAug2_ap, runF_ap, fin_nx, fin_ret, fin_exc, callP_ap, kPL_ap, kP_ok, kP_exc, cP0, cS0, cP1, cS1, cP2, cS2, cP3, cS3, cP4, cS4, cP5, cS5, cP6, cS6, cP7, cS7, cP8, cS8, pureL_nil, pureL_cons, gAddI_ap, gSubI_ap, gMulI_l, gMulI_r, gDivI_s, gModI_ap, gPow_18, gPow_6, gPow_60, gLtI_ap, gLeI_ap, gGtI_ap, gGeI_ap, gEqF_ii, gNeF_ii, gNegI_ap, gAbsI_ap, gInt1_ap, gMax2_ap, gMin2_ap, gGcd_ap, gLen_lst, gLen_tup, gIx_r0, gIx_t, gIx_l, oD_some, oP_some, at_0, at_1, at_2, at_3, at_4, iOfA_ap, iOf_ap, srcL_lst, srcL_scr, srcT_ap, srcR1_ap, srcR2_ap, fLst_eq, kLst_ap, kLstP_ap, fLstR_eq, kLstR_ap, FR.R.bind_ok, FR.R.bind_exc, FR.R.toS_ok, FR.R.toS_exc, List.getElem?_cons_zero, List.getElem?_cons_succ, List.set_cons_zero, List.set_cons_succ, List.map_cons, List.map_nil, List.cons_append, List.nil_append, List.append_nil, List.length_cons, List.length_nil, List.length_map, Option.map_some, Bool.not_true, Bool.not_false, decide_true, decide_false, if_true, if_false, List.reduceReplicate, Nat.reduceAdd, Nat.reduceSub, rat_top, rat_under, gOwn_rr, gOwn_ri, gOwn_ir, gOwnR_ir, gOwn1_r, gAbsO_r, noX_ok, gIsi_eq, kIsiT_ap, kIsi_ap, look_hit, look_miss, tag_p, tag_int, tag_bl, tag_non, tag_str, tag_tup, tag_lst, tag_obj, tag_rat, gOr_ap, gOr1_ap, orR_ok, orR_st, orR_exc, pNm_ap, kMk_ok, kMk_exc, kMkF_ap, pureF_nil, pureF_cons, putD_nil, putD_cons, sRaise0_ap, sRaise2_ap, sRaise1_ap, kRz2_ap, kRz1_ap, sTry_ap, kTry_nx, kTry_bk, kTry_ct, kTry_ret, kTry_exc, hand_nil, hand_cons, kHand_t, kH2_ap, kHand_f, lookC_hit, lookC_miss, lookF_hit, lookF_miss, lookD_hit, lookD_miss, endX_nx, endX_bk, endX_ct, endX_ret, gXset_ap, kXset_ap, gXf_ap, gXi_ap, fTru_ap, kTruD_non, kTruD_bl, kTruD_int, kTruD_tup, kTruD_lst, kTruD_r0, fTruO_ap, kTruO_r, kBl_ok, kBl_exc, gCmp_rr, gCmp_ri, gCmp_i, gCmp_t, gCmp_oo, gCmp_ot, gCmpR_ir, gCmpNe_rr, gCmpNe_ri, kNeB_ap, gInF_ap, items_t, items_l, kInF_ap, inP_3, gInO_ap, kInB_t, kInB_f, cC_ap, kC_ap, cV_ap, kV_ap, fMeth_ap, kMeth_o, kMeth_r, kMeth2_ap, fMethK_ap, kMethK_o, kMethK2_ap, kMethK3_ap, callK_ap, kCallK_ap, kCallK2_ap, mkK_ap, kMkK_ap, kMkK2_ap, eP0, eP1, eP2, eP3, mk0, mk1, mk3, mk4, mk5, mk6, mkd2, sFld2_ap, kF2_0, gIsN_lst, gNotN_lst, gIsN_obj, gNotN_obj, mkKD_ap, kMkKD_ap, kMkKD2_ap, kMkKD2_13, kMkK2_14, mkd4, gProp_o, gProp_r, gCon_o, gCon_c, gCon_r, gFld_o, gFld_c, gInt1_bl, gBool1_i, gBool1_b, gSumI_ap, fChain_eq, kCh0_ap, kCh1_ap, kCh2_t, kCh2_f, kCh3_ap, gIsN_non, gIsN_int, gIsN_tup, gNotN_non, gNotN_int, gNotN_tup, fSl_ap, kSl1_ap, kSl2_ap, kSl3_l, kSl3_t, iNo_ap, iAt_ap, kAt_ap, kMethK3_01, kMethK3_11, kMethK3_21, kMethK3_31, kCallK2_11, kCallK2_21, kCallK2_31, kCallK2_41, sAsg_ap, kAsg_ap, kAsg2_ap, gOf_ap, ofE_some, pTup_1, pTup_2, pTup_3, pTup_4, pTup_5, pCons_ap, pNil_ap, o_bind_some, Bool.if_true_left, Bool.not_not, List.isEmpty_cons, List.isEmpty_nil, Bool.false_eq_true, if_false, if_true]
theorem draw_loop (cs : List Int) (m t : Int) (S : Store) (hm : 0 < m) (hm2 : m < 1000000000) : ∀ (ds : List D) (a b c : Int) (x2 x3 x4 : Option D), 0 ≤ a → 0 ≤ b → ∃ r a' b' c',
    ((forD none (gNm 2) B__law_draw_1 ds [some (.r 0), some (.p (.int m)), x2, x3, x4] (pool cs a b c t :: S)).seq (sRet (cA (callN .P 3 F__law_mix []) (aCons (c2 gIx (fVar 0) (fC (.int 3))) (aCons (c2 gIx (fVar 0) (fC (.int 4))) (aCons (fVar 1) aNil)))))) = .ret (.p (.int r)) (pool cs a' b' c' t :: S)
      ∧ 0 ≤ r ∧ r < m ∧ 0 ≤ a' ∧ 0 ≤ b' := by
  intro ds
  induction ds with
  | nil =>
    intro a b c x2 x3 x4 ha hb
    obtain ⟨r, h1, h2, h3⟩ := mix_ok c t m [] hm
    refine ⟨r, a, b, c, ?_, h2, h3, ha, hb⟩
    unfold pool
    simp (disch := first | omega | rfl | decide | exact Nat.le_of_ble_eq_true rfl) only [c1_ap, cA_ap, c2_ap, K2_ap, aCons_ap, KC_ap, aNil_ap, fVar_ap, optD_ss, fC_ap, fBool_ap, kB_ap, fNotT_ap, fAndT_ap, fOrT_ap, kAnd_t, kAnd_f, kOr_t, kOr_f, fAndV_ap, fOrV_ap, fNotV_ap, kAndV_t, kAndV_f, kOrV_t, kOrV_f, kNotV_ap, fIfE_ap, kIfE_t, kIfE_f, fTup_ap, kTup_eq, kTupP_ap, sSeq_ap, seq_nx, seq_ret, seq_bk, seq_ct, seq_exc, sNext_ap, sIf_ap, kSI_t, kSI_f, sSet_ap, kSet_ap, sRet_ap, kRet_ap, sRetN_ap, sDrop_ap, kDrop_ap, sBreak_ap, sCont_ap, sIxSet_ap, kIx1_ap, kIx2_ap, ks_0, ks_1, ks_2, ks_3, ks_4, sFldSet_ap, kFl1_ap, kFl2_0, sFor_ap, kFor_ap, forD_nil, forD_cons, kF1_ap, loop_nx, loop_ct, loop_bk, loop_ret, loop_exc, gNm_ap, sPar_ap, kPar_ap, sAug_ap, kAug_ap, kAug1_ap, kAug2_ap, runF_ap, fin_nx, fin_ret, fin_exc, callP_ap, kPL_ap, kP_ok, kP_exc, cP0, cS0, cP1, cS1, cP2, cS2, cP3, cS3, cP4, cS4, cP5, cS5, cP6, cS6, cP7, cS7, cP8, cS8, pureL_nil, pureL_cons, gAddI_ap, gSubI_ap, gMulI_l, gMulI_r, gDivI_s, gModI_ap, gPow_18, gPow_6, gPow_60, gLtI_ap, gLeI_ap, gGtI_ap, gGeI_ap, gEqF_ii, gNeF_ii, gNegI_ap, gAbsI_ap, gInt1_ap, gMax2_ap, gMin2_ap, gGcd_ap, gLen_lst, gLen_tup, gIx_r0, gIx_t, gIx_l, oD_some, oP_some, at_0, at_1, at_2, at_3, at_4, iOfA_ap, iOf_ap, srcL_lst, srcL_scr, srcT_ap, srcR1_ap, srcR2_ap, fLst_eq, kLst_ap, kLstP_ap, fLstR_eq, kLstR_ap, FR.R.bind_ok, FR.R.bind_exc, FR.R.toS_ok, FR.R.toS_exc, List.getElem?_cons_zero, List.getElem?_cons_succ, List.set_cons_zero, List.set_cons_succ, List.map_cons, List.map_nil, List.cons_append, List.nil_append, List.append_nil, List.length_cons, List.length_nil, List.length_map, Option.map_some, Bool.not_true, Bool.not_false, decide_true, decide_false, if_true, if_false, List.reduceReplicate, Nat.reduceAdd, Nat.reduceSub, rat_top, rat_under, gOwn_rr, gOwn_ri, gOwn_ir, gOwnR_ir, gOwn1_r, gAbsO_r, noX_ok, gIsi_eq, kIsiT_ap, kIsi_ap, look_hit, look_miss, tag_p, tag_int, tag_bl, tag_non, tag_str, tag_tup, tag_lst, tag_obj, tag_rat, gOr_ap, gOr1_ap, orR_ok, orR_st, orR_exc, pNm_ap, kMk_ok, kMk_exc, kMkF_ap, pureF_nil, pureF_cons, putD_nil, putD_cons, sRaise0_ap, sRaise2_ap, sRaise1_ap, kRz2_ap, kRz1_ap, sTry_ap, kTry_nx, kTry_bk, kTry_ct, kTry_ret, kTry_exc, hand_nil, hand_cons, kHand_t, kH2_ap, kHand_f, lookC_hit, lookC_miss, lookF_hit, lookF_miss, lookD_hit, lookD_miss, endX_nx, endX_bk, endX_ct, endX_ret, gXset_ap, kXset_ap, gXf_ap, gXi_ap, fTru_ap, kTruD_non, kTruD_bl, kTruD_int, kTruD_tup, kTruD_lst, kTruD_r0, fTruO_ap, kTruO_r, kBl_ok, kBl_exc, gCmp_rr, gCmp_ri, gCmp_i, gCmp_t, gCmp_oo, gCmp_ot, gCmpR_ir, gCmpNe_rr, gCmpNe_ri, kNeB_ap, gInF_ap, items_t, items_l, kInF_ap, inP_3, gInO_ap, kInB_t, kInB_f, cC_ap, kC_ap, cV_ap, kV_ap, fMeth_ap, kMeth_o, kMeth_r, kMeth2_ap, fMethK_ap, kMethK_o, kMethK2_ap, kMethK3_ap, callK_ap, kCallK_ap, kCallK2_ap, mkK_ap, kMkK_ap, kMkK2_ap, eP0, eP1, eP2, eP3, mk0, mk1, mk3, mk4, mk5, mk6, mkd2, sFld2_ap, kF2_0, gIsN_lst, gNotN_lst, gIsN_obj, gNotN_obj, mkKD_ap, kMkKD_ap, kMkKD2_ap, kMkKD2_13, kMkK2_14, mkd4, gProp_o, gProp_r, gCon_o, gCon_c, gCon_r, gFld_o, gFld_c, gInt1_bl, gBool1_i, gBool1_b, gSumI_ap, fChain_eq, kCh0_ap, kCh1_ap, kCh2_t, kCh2_f, kCh3_ap, gIsN_non, gIsN_int, gIsN_tup, gNotN_non, gNotN_int, gNotN_tup, fSl_ap, kSl1_ap, kSl2_ap, kSl3_l, kSl3_t, iNo_ap, iAt_ap, kAt_ap, kMethK3_01, kMethK3_11, kMethK3_21, kMethK3_31, kCallK2_11, kCallK2_21, kCallK2_31, kCallK2_41, sAsg_ap, kAsg_ap, kAsg2_ap, gOf_ap, ofE_some, pTup_1, pTup_2, pTup_3, pTup_4, pTup_5, pCons_ap, pNil_ap, o_bind_some, Bool.if_true_left, Bool.not_not, List.isEmpty_cons, List.isEmpty_nil, Bool.false_eq_true, if_false, if_true, h1]
  | cons d ds ih =>
    intro a b c x2 x3 x4 ha hb
    unfold pool
    simp (disch := first | omega | rfl | decide | exact Nat.le_of_ble_eq_true rfl) only [c1_ap, cA_ap, c2_ap, K2_ap, aCons_ap, KC_ap, aNil_ap, fVar_ap, optD_ss, fC_ap, fBool_ap, kB_ap, fNotT_ap, fAndT_ap, fOrT_ap, kAnd_t, kAnd_f, kOr_t, kOr_f, fAndV_ap, fOrV_ap, fNotV_ap, kAndV_t, kAndV_f, kOrV_t, kOrV_f, kNotV_ap, fIfE_ap, kIfE_t, kIfE_f, fTup_ap, kTup_eq, kTupP_ap, sSeq_ap, seq_nx, seq_ret, seq_bk, seq_ct, seq_exc, sNext_ap, sIf_ap, kSI_t, kSI_f, sSet_ap, kSet_ap, sRet_ap, kRet_ap, sRetN_ap, sDrop_ap, kDrop_ap, sBreak_ap, sCont_ap, sIxSet_ap, kIx1_ap, kIx2_ap, ks_0, ks_1, ks_2, ks_3, ks_4, sFldSet_ap, kFl1_ap, kFl2_0, sFor_ap, kFor_ap, forD_nil, forD_cons, kF1_ap, loop_nx, loop_ct, loop_bk, loop_ret, loop_exc, gNm_ap, sPar_ap, kPar_ap, sAug_ap, kAug_ap, kAug1_ap, kAug2_ap, runF_ap, fin_nx, fin_ret, fin_exc, callP_ap, kPL_ap, kP_ok, kP_exc, cP0, cS0, cP1, cS1, cP2, cS2, cP3, cS3, cP4, cS4, cP5, cS5, cP6, cS6, cP7, cS7, cP8, cS8, pureL_nil, pureL_cons, gAddI_ap, gSubI_ap, gMulI_l, gMulI_r, gDivI_s, gModI_ap, gPow_18, gPow_6, gPow_60, gLtI_ap, gLeI_ap, gGtI_ap, gGeI_ap, gEqF_ii, gNeF_ii, gNegI_ap, gAbsI_ap, gInt1_ap, gMax2_ap, gMin2_ap, gGcd_ap, gLen_lst, gLen_tup, gIx_r0, gIx_t, gIx_l, oD_some, oP_some, at_0, at_1, at_2, at_3, at_4, iOfA_ap, iOf_ap, srcL_lst, srcL_scr, srcT_ap, srcR1_ap, srcR2_ap, fLst_eq, kLst_ap, kLstP_ap, fLstR_eq, kLstR_ap, FR.R.bind_ok, FR.R.bind_exc, FR.R.toS_ok, FR.R.toS_exc, List.getElem?_cons_zero, List.getElem?_cons_succ, List.set_cons_zero, List.set_cons_succ, List.map_cons, List.map_nil, List.cons_append, List.nil_append, List.append_nil, List.length_cons, List.length_nil, List.length_map, Option.map_some, Bool.not_true, Bool.not_false, decide_true, decide_false, if_true, if_false, List.reduceReplicate, Nat.reduceAdd, Nat.reduceSub, rat_top, rat_under, gOwn_rr, gOwn_ri, gOwn_ir, gOwnR_ir, gOwn1_r, gAbsO_r, noX_ok, gIsi_eq, kIsiT_ap, kIsi_ap, look_hit, look_miss, tag_p, tag_int, tag_bl, tag_non, tag_str, tag_tup, tag_lst, tag_obj, tag_rat, gOr_ap, gOr1_ap, orR_ok, orR_st, orR_exc, pNm_ap, kMk_ok, kMk_exc, kMkF_ap, pureF_nil, pureF_cons, putD_nil, putD_cons, sRaise0_ap, sRaise2_ap, sRaise1_ap, kRz2_ap, kRz1_ap, sTry_ap, kTry_nx, kTry_bk, kTry_ct, kTry_ret, kTry_exc, hand_nil, hand_cons, kHand_t, kH2_ap, kHand_f, lookC_hit, lookC_miss, lookF_hit, lookF_miss, lookD_hit, lookD_miss, endX_nx, endX_bk, endX_ct, endX_ret, gXset_ap, kXset_ap, gXf_ap, gXi_ap, fTru_ap, kTruD_non, kTruD_bl, kTruD_int, kTruD_tup, kTruD_lst, kTruD_r0, fTruO_ap, kTruO_r, kBl_ok, kBl_exc, gCmp_rr, gCmp_ri, gCmp_i, gCmp_t, gCmp_oo, gCmp_ot, gCmpR_ir, gCmpNe_rr, gCmpNe_ri, kNeB_ap, gInF_ap, items_t, items_l, kInF_ap, inP_3, gInO_ap, kInB_t, kInB_f, cC_ap, kC_ap, cV_ap, kV_ap, fMeth_ap, kMeth_o, kMeth_r, kMeth2_ap, fMethK_ap, kMethK_o, kMethK2_ap, kMethK3_ap, callK_ap, kCallK_ap, kCallK2_ap, mkK_ap, kMkK_ap, kMkK2_ap, eP0, eP1, eP2, eP3, mk0, mk1, mk3, mk4, mk5, mk6, mkd2, sFld2_ap, kF2_0, gIsN_lst, gNotN_lst, gIsN_obj, gNotN_obj, mkKD_ap, kMkKD_ap, kMkKD2_ap, kMkKD2_13, kMkK2_14, mkd4, gProp_o, gProp_r, gCon_o, gCon_c, gCon_r, gFld_o, gFld_c, gInt1_bl, gBool1_i, gBool1_b, gSumI_ap, fChain_eq, kCh0_ap, kCh1_ap, kCh2_t, kCh2_f, kCh3_ap, gIsN_non, gIsN_int, gIsN_tup, gNotN_non, gNotN_int, gNotN_tup, fSl_ap, kSl1_ap, kSl2_ap, kSl3_l, kSl3_t, iNo_ap, iAt_ap, kAt_ap, kMethK3_01, kMethK3_11, kMethK3_21, kMethK3_31, kCallK2_11, kCallK2_21, kCallK2_31, kCallK2_41, sAsg_ap, kAsg_ap, kAsg2_ap, gOf_ap, ofE_some, pTup_1, pTup_2, pTup_3, pTup_4, pTup_5, pCons_ap, pNil_ap, o_bind_some, Bool.if_true_left, Bool.not_not, List.isEmpty_cons, List.isEmpty_nil, Bool.false_eq_true, if_false, if_true, B__law_draw_1_ap]
    by_cases h1 : 1 < b
    · refine ⟨_, a, b.fdiv m, c, ?_, (fmod_b b m hm).1, (fmod_b b m hm).2, ha, Int.fdiv_nonneg hb (by omega)⟩
      simp (disch := first | omega | rfl | decide | exact Nat.le_of_ble_eq_true rfl) only [c1_ap, cA_ap, c2_ap, K2_ap, aCons_ap, KC_ap, aNil_ap, fVar_ap, optD_ss, fC_ap, fBool_ap, kB_ap, fNotT_ap, fAndT_ap, fOrT_ap, kAnd_t, kAnd_f, kOr_t, kOr_f, fAndV_ap, fOrV_ap, fNotV_ap, kAndV_t, kAndV_f, kOrV_t, kOrV_f, kNotV_ap, fIfE_ap, kIfE_t, kIfE_f, fTup_ap, kTup_eq, kTupP_ap, sSeq_ap, seq_nx, seq_ret, seq_bk, seq_ct, seq_exc, sNext_ap, sIf_ap, kSI_t, kSI_f, sSet_ap, kSet_ap, sRet_ap, kRet_ap, sRetN_ap, sDrop_ap, kDrop_ap, sBreak_ap, sCont_ap, sIxSet_ap, kIx1_ap, kIx2_ap, ks_0, ks_1, ks_2, ks_3, ks_4, sFldSet_ap, kFl1_ap, kFl2_0, sFor_ap, kFor_ap, forD_nil, forD_cons, kF1_ap, loop_nx, loop_ct, loop_bk, loop_ret, loop_exc, gNm_ap, sPar_ap, kPar_ap, sAug_ap, kAug_ap, kAug1_ap, kAug2_ap, runF_ap, fin_nx, fin_ret, fin_exc, callP_ap, kPL_ap, kP_ok, kP_exc, cP0, cS0, cP1, cS1, cP2, cS2, cP3, cS3, cP4, cS4, cP5, cS5, cP6, cS6, cP7, cS7, cP8, cS8, pureL_nil, pureL_cons, gAddI_ap, gSubI_ap, gMulI_l, gMulI_r, gDivI_s, gModI_ap, gPow_18, gPow_6, gPow_60, gLtI_ap, gLeI_ap, gGtI_ap, gGeI_ap, gEqF_ii, gNeF_ii, gNegI_ap, gAbsI_ap, gInt1_ap, gMax2_ap, gMin2_ap, gGcd_ap, gLen_lst, gLen_tup, gIx_r0, gIx_t, gIx_l, oD_some, oP_some, at_0, at_1, at_2, at_3, at_4, iOfA_ap, iOf_ap, srcL_lst, srcL_scr, srcT_ap, srcR1_ap, srcR2_ap, fLst_eq, kLst_ap, kLstP_ap, fLstR_eq, kLstR_ap, FR.R.bind_ok, FR.R.bind_exc, FR.R.toS_ok, FR.R.toS_exc, List.getElem?_cons_zero, List.getElem?_cons_succ, List.set_cons_zero, List.set_cons_succ, List.map_cons, List.map_nil, List.cons_append, List.nil_append, List.append_nil, List.length_cons, List.length_nil, List.length_map, Option.map_some, Bool.not_true, Bool.not_false, decide_true, decide_false, if_true, if_false, List.reduceReplicate, Nat.reduceAdd, Nat.reduceSub, rat_top, rat_under, gOwn_rr, gOwn_ri, gOwn_ir, gOwnR_ir, gOwn1_r, gAbsO_r, noX_ok, gIsi_eq, kIsiT_ap, kIsi_ap, look_hit, look_miss, tag_p, tag_int, tag_bl, tag_non, tag_str, tag_tup, tag_lst, tag_obj, tag_rat, gOr_ap, gOr1_ap, orR_ok, orR_st, orR_exc, pNm_ap, kMk_ok, kMk_exc, kMkF_ap, pureF_nil, pureF_cons, putD_nil, putD_cons, sRaise0_ap, sRaise2_ap, sRaise1_ap, kRz2_ap, kRz1_ap, sTry_ap, kTry_nx, kTry_bk, kTry_ct, kTry_ret, kTry_exc, hand_nil, hand_cons, kHand_t, kH2_ap, kHand_f, lookC_hit, lookC_miss, lookF_hit, lookF_miss, lookD_hit, lookD_miss, endX_nx, endX_bk, endX_ct, endX_ret, gXset_ap, kXset_ap, gXf_ap, gXi_ap, fTru_ap, kTruD_non, kTruD_bl, kTruD_int, kTruD_tup, kTruD_lst, kTruD_r0, fTruO_ap, kTruO_r, kBl_ok, kBl_exc, gCmp_rr, gCmp_ri, gCmp_i, gCmp_t, gCmp_oo, gCmp_ot, gCmpR_ir, gCmpNe_rr, gCmpNe_ri, kNeB_ap, gInF_ap, items_t, items_l, kInF_ap, inP_3, gInO_ap, kInB_t, kInB_f, cC_ap, kC_ap, cV_ap, kV_ap, fMeth_ap, kMeth_o, kMeth_r, kMeth2_ap, fMethK_ap, kMethK_o, kMethK2_ap, kMethK3_ap, callK_ap, kCallK_ap, kCallK2_ap, mkK_ap, kMkK_ap, kMkK2_ap, eP0, eP1, eP2, eP3, mk0, mk1, mk3, mk4, mk5, mk6, mkd2, sFld2_ap, kF2_0, gIsN_lst, gNotN_lst, gIsN_obj, gNotN_obj, mkKD_ap, kMkKD_ap, kMkKD2_ap, kMkKD2_13, kMkK2_14, mkd4, gProp_o, gProp_r, gCon_o, gCon_c, gCon_r, gFld_o, gFld_c, gInt1_bl, gBool1_i, gBool1_b, gSumI_ap, fChain_eq, kCh0_ap, kCh1_ap, kCh2_t, kCh2_f, kCh3_ap, gIsN_non, gIsN_int, gIsN_tup, gNotN_non, gNotN_int, gNotN_tup, fSl_ap, kSl1_ap, kSl2_ap, kSl3_l, kSl3_t, iNo_ap, iAt_ap, kAt_ap, kMethK3_01, kMethK3_11, kMethK3_21, kMethK3_31, kCallK2_11, kCallK2_21, kCallK2_31, kCallK2_41, sAsg_ap, kAsg_ap, kAsg2_ap, gOf_ap, ofE_some, pTup_1, pTup_2, pTup_3, pTup_4, pTup_5, pCons_ap, pNil_ap, o_bind_some, Bool.if_true_left, Bool.not_not, List.isEmpty_cons, List.isEmpty_nil, Bool.false_eq_true, if_false, if_true, h1]
    · simp (disch := first | omega | rfl | decide | exact Nat.le_of_ble_eq_true rfl) only [c1_ap, cA_ap, c2_ap, K2_ap, aCons_ap, KC_ap, aNil_ap, fVar_ap, optD_ss, fC_ap, fBool_ap, kB_ap, fNotT_ap, fAndT_ap, fOrT_ap, kAnd_t, kAnd_f, kOr_t, kOr_f, fAndV_ap, fOrV_ap, fNotV_ap, kAndV_t, kAndV_f, kOrV_t, kOrV_f, kNotV_ap, fIfE_ap, kIfE_t, kIfE_f, fTup_ap, kTup_eq, kTupP_ap, sSeq_ap, seq_nx, seq_ret, seq_bk, seq_ct, seq_exc, sNext_ap, sIf_ap, kSI_t, kSI_f, sSet_ap, kSet_ap, sRet_ap, kRet_ap, sRetN_ap, sDrop_ap, kDrop_ap, sBreak_ap, sCont_ap, sIxSet_ap, kIx1_ap, kIx2_ap, ks_0, ks_1, ks_2, ks_3, ks_4, sFldSet_ap, kFl1_ap, kFl2_0, sFor_ap, kFor_ap, forD_nil, forD_cons, kF1_ap, loop_nx, loop_ct, loop_bk, loop_ret, loop_exc, gNm_ap, sPar_ap, kPar_ap, sAug_ap, kAug_ap, kAug1_ap, kAug2_ap, runF_ap, fin_nx, fin_ret, fin_exc, callP_ap, kPL_ap, kP_ok, kP_exc, cP0, cS0, cP1, cS1, cP2, cS2, cP3, cS3, cP4, cS4, cP5, cS5, cP6, cS6, cP7, cS7, cP8, cS8, pureL_nil, pureL_cons, gAddI_ap, gSubI_ap, gMulI_l, gMulI_r, gDivI_s, gModI_ap, gPow_18, gPow_6, gPow_60, gLtI_ap, gLeI_ap, gGtI_ap, gGeI_ap, gEqF_ii, gNeF_ii, gNegI_ap, gAbsI_ap, gInt1_ap, gMax2_ap, gMin2_ap, gGcd_ap, gLen_lst, gLen_tup, gIx_r0, gIx_t, gIx_l, oD_some, oP_some, at_0, at_1, at_2, at_3, at_4, iOfA_ap, iOf_ap, srcL_lst, srcL_scr, srcT_ap, srcR1_ap, srcR2_ap, fLst_eq, kLst_ap, kLstP_ap, fLstR_eq, kLstR_ap, FR.R.bind_ok, FR.R.bind_exc, FR.R.toS_ok, FR.R.toS_exc, List.getElem?_cons_zero, List.getElem?_cons_succ, List.set_cons_zero, List.set_cons_succ, List.map_cons, List.map_nil, List.cons_append, List.nil_append, List.append_nil, List.length_cons, List.length_nil, List.length_map, Option.map_some, Bool.not_true, Bool.not_false, decide_true, decide_false, if_true, if_false, List.reduceReplicate, Nat.reduceAdd, Nat.reduceSub, rat_top, rat_under, gOwn_rr, gOwn_ri, gOwn_ir, gOwnR_ir, gOwn1_r, gAbsO_r, noX_ok, gIsi_eq, kIsiT_ap, kIsi_ap, look_hit, look_miss, tag_p, tag_int, tag_bl, tag_non, tag_str, tag_tup, tag_lst, tag_obj, tag_rat, gOr_ap, gOr1_ap, orR_ok, orR_st, orR_exc, pNm_ap, kMk_ok, kMk_exc, kMkF_ap, pureF_nil, pureF_cons, putD_nil, putD_cons, sRaise0_ap, sRaise2_ap, sRaise1_ap, kRz2_ap, kRz1_ap, sTry_ap, kTry_nx, kTry_bk, kTry_ct, kTry_ret, kTry_exc, hand_nil, hand_cons, kHand_t, kH2_ap, kHand_f, lookC_hit, lookC_miss, lookF_hit, lookF_miss, lookD_hit, lookD_miss, endX_nx, endX_bk, endX_ct, endX_ret, gXset_ap, kXset_ap, gXf_ap, gXi_ap, fTru_ap, kTruD_non, kTruD_bl, kTruD_int, kTruD_tup, kTruD_lst, kTruD_r0, fTruO_ap, kTruO_r, kBl_ok, kBl_exc, gCmp_rr, gCmp_ri, gCmp_i, gCmp_t, gCmp_oo, gCmp_ot, gCmpR_ir, gCmpNe_rr, gCmpNe_ri, kNeB_ap, gInF_ap, items_t, items_l, kInF_ap, inP_3, gInO_ap, kInB_t, kInB_f, cC_ap, kC_ap, cV_ap, kV_ap, fMeth_ap, kMeth_o, kMeth_r, kMeth2_ap, fMethK_ap, kMethK_o, kMethK2_ap, kMethK3_ap, callK_ap, kCallK_ap, kCallK2_ap, mkK_ap, kMkK_ap, kMkK2_ap, eP0, eP1, eP2, eP3, mk0, mk1, mk3, mk4, mk5, mk6, mkd2, sFld2_ap, kF2_0, gIsN_lst, gNotN_lst, gIsN_obj, gNotN_obj, mkKD_ap, kMkKD_ap, kMkKD2_ap, kMkKD2_13, kMkK2_14, mkd4, gProp_o, gProp_r, gCon_o, gCon_c, gCon_r, gFld_o, gFld_c, gInt1_bl, gBool1_i, gBool1_b, gSumI_ap, fChain_eq, kCh0_ap, kCh1_ap, kCh2_t, kCh2_f, kCh3_ap, gIsN_non, gIsN_int, gIsN_tup, gNotN_non, gNotN_int, gNotN_tup, fSl_ap, kSl1_ap, kSl2_ap, kSl3_l, kSl3_t, iNo_ap, iAt_ap, kAt_ap, kMethK3_01, kMethK3_11, kMethK3_21, kMethK3_31, kCallK2_11, kCallK2_21, kCallK2_31, kCallK2_41, sAsg_ap, kAsg_ap, kAsg2_ap, gOf_ap, ofE_some, pTup_1, pTup_2, pTup_3, pTup_4, pTup_5, pCons_ap, pNil_ap, o_bind_some, Bool.if_true_left, Bool.not_not, List.isEmpty_cons, List.isEmpty_nil, Bool.false_eq_true, if_false, if_true, h1]
      by_cases h2 : (cs.length : Int) ≤ a
      · obtain ⟨r, h3, h4, h5⟩ := mix_ok c t m [] hm
        refine ⟨r, a, b, c, ?_, h4, h5, ha, hb⟩
        simp (disch := first | omega | rfl | decide | exact Nat.le_of_ble_eq_true rfl) only [c1_ap, cA_ap, c2_ap, K2_ap, aCons_ap, KC_ap, aNil_ap, fVar_ap, optD_ss, fC_ap, fBool_ap, kB_ap, fNotT_ap, fAndT_ap, fOrT_ap, kAnd_t, kAnd_f, kOr_t, kOr_f, fAndV_ap, fOrV_ap, fNotV_ap, kAndV_t, kAndV_f, kOrV_t, kOrV_f, kNotV_ap, fIfE_ap, kIfE_t, kIfE_f, fTup_ap, kTup_eq, kTupP_ap, sSeq_ap, seq_nx, seq_ret, seq_bk, seq_ct, seq_exc, sNext_ap, sIf_ap, kSI_t, kSI_f, sSet_ap, kSet_ap, sRet_ap, kRet_ap, sRetN_ap, sDrop_ap, kDrop_ap, sBreak_ap, sCont_ap, sIxSet_ap, kIx1_ap, kIx2_ap, ks_0, ks_1, ks_2, ks_3, ks_4, sFldSet_ap, kFl1_ap, kFl2_0, sFor_ap, kFor_ap, forD_nil, forD_cons, kF1_ap, loop_nx, loop_ct, loop_bk, loop_ret, loop_exc, gNm_ap, sPar_ap, kPar_ap, sAug_ap, kAug_ap, kAug1_ap, kAug2_ap, runF_ap, fin_nx, fin_ret, fin_exc, callP_ap, kPL_ap, kP_ok, kP_exc, cP0, cS0, cP1, cS1, cP2, cS2, cP3, cS3, cP4, cS4, cP5, cS5, cP6, cS6, cP7, cS7, cP8, cS8, pureL_nil, pureL_cons, gAddI_ap, gSubI_ap, gMulI_l, gMulI_r, gDivI_s, gModI_ap, gPow_18, gPow_6, gPow_60, gLtI_ap, gLeI_ap, gGtI_ap, gGeI_ap, gEqF_ii, gNeF_ii, gNegI_ap, gAbsI_ap, gInt1_ap, gMax2_ap, gMin2_ap, gGcd_ap, gLen_lst, gLen_tup, gIx_r0, gIx_t, gIx_l, oD_some, oP_some, at_0, at_1, at_2, at_3, at_4, iOfA_ap, iOf_ap, srcL_lst, srcL_scr, srcT_ap, srcR1_ap, srcR2_ap, fLst_eq, kLst_ap, kLstP_ap, fLstR_eq, kLstR_ap, FR.R.bind_ok, FR.R.bind_exc, FR.R.toS_ok, FR.R.toS_exc, List.getElem?_cons_zero, List.getElem?_cons_succ, List.set_cons_zero, List.set_cons_succ, List.map_cons, List.map_nil, List.cons_append, List.nil_append, List.append_nil, List.length_cons, List.length_nil, List.length_map, Option.map_some, Bool.not_true, Bool.not_false, decide_true, decide_false, if_true, if_false, List.reduceReplicate, Nat.reduceAdd, Nat.reduceSub, rat_top, rat_under, gOwn_rr, gOwn_ri, gOwn_ir, gOwnR_ir, gOwn1_r, gAbsO_r, noX_ok, gIsi_eq, kIsiT_ap, kIsi_ap, look_hit, look_miss, tag_p, tag_int, tag_bl, tag_non, tag_str, tag_tup, tag_lst, tag_obj, tag_rat, gOr_ap, gOr1_ap, orR_ok, orR_st, orR_exc, pNm_ap, kMk_ok, kMk_exc, kMkF_ap, pureF_nil, pureF_cons, putD_nil, putD_cons, sRaise0_ap, sRaise2_ap, sRaise1_ap, kRz2_ap, kRz1_ap, sTry_ap, kTry_nx, kTry_bk, kTry_ct, kTry_ret, kTry_exc, hand_nil, hand_cons, kHand_t, kH2_ap, kHand_f, lookC_hit, lookC_miss, lookF_hit, lookF_miss, lookD_hit, lookD_miss, endX_nx, endX_bk, endX_ct, endX_ret, gXset_ap, kXset_ap, gXf_ap, gXi_ap, fTru_ap, kTruD_non, kTruD_bl, kTruD_int, kTruD_tup, kTruD_lst, kTruD_r0, fTruO_ap, kTruO_r, kBl_ok, kBl_exc, gCmp_rr, gCmp_ri, gCmp_i, gCmp_t, gCmp_oo, gCmp_ot, gCmpR_ir, gCmpNe_rr, gCmpNe_ri, kNeB_ap, gInF_ap, items_t, items_l, kInF_ap, inP_3, gInO_ap, kInB_t, kInB_f, cC_ap, kC_ap, cV_ap, kV_ap, fMeth_ap, kMeth_o, kMeth_r, kMeth2_ap, fMethK_ap, kMethK_o, kMethK2_ap, kMethK3_ap, callK_ap, kCallK_ap, kCallK2_ap, mkK_ap, kMkK_ap, kMkK2_ap, eP0, eP1, eP2, eP3, mk0, mk1, mk3, mk4, mk5, mk6, mkd2, sFld2_ap, kF2_0, gIsN_lst, gNotN_lst, gIsN_obj, gNotN_obj, mkKD_ap, kMkKD_ap, kMkKD2_ap, kMkKD2_13, kMkK2_14, mkd4, gProp_o, gProp_r, gCon_o, gCon_c, gCon_r, gFld_o, gFld_c, gInt1_bl, gBool1_i, gBool1_b, gSumI_ap, fChain_eq, kCh0_ap, kCh1_ap, kCh2_t, kCh2_f, kCh3_ap, gIsN_non, gIsN_int, gIsN_tup, gNotN_non, gNotN_int, gNotN_tup, fSl_ap, kSl1_ap, kSl2_ap, kSl3_l, kSl3_t, iNo_ap, iAt_ap, kAt_ap, kMethK3_01, kMethK3_11, kMethK3_21, kMethK3_31, kCallK2_11, kCallK2_21, kCallK2_31, kCallK2_41, sAsg_ap, kAsg_ap, kAsg2_ap, gOf_ap, ofE_some, pTup_1, pTup_2, pTup_3, pTup_4, pTup_5, pCons_ap, pNil_ap, o_bind_some, Bool.if_true_left, Bool.not_not, List.isEmpty_cons, List.isEmpty_nil, Bool.false_eq_true, if_false, if_true, h2, h3]
      · simp (disch := first | omega | rfl | decide | exact Nat.le_of_ble_eq_true rfl) only [c1_ap, cA_ap, c2_ap, K2_ap, aCons_ap, KC_ap, aNil_ap, fVar_ap, optD_ss, fC_ap, fBool_ap, kB_ap, fNotT_ap, fAndT_ap, fOrT_ap, kAnd_t, kAnd_f, kOr_t, kOr_f, fAndV_ap, fOrV_ap, fNotV_ap, kAndV_t, kAndV_f, kOrV_t, kOrV_f, kNotV_ap, fIfE_ap, kIfE_t, kIfE_f, fTup_ap, kTup_eq, kTupP_ap, sSeq_ap, seq_nx, seq_ret, seq_bk, seq_ct, seq_exc, sNext_ap, sIf_ap, kSI_t, kSI_f, sSet_ap, kSet_ap, sRet_ap, kRet_ap, sRetN_ap, sDrop_ap, kDrop_ap, sBreak_ap, sCont_ap, sIxSet_ap, kIx1_ap, kIx2_ap, ks_0, ks_1, ks_2, ks_3, ks_4, sFldSet_ap, kFl1_ap, kFl2_0, sFor_ap, kFor_ap, forD_nil, forD_cons, kF1_ap, loop_nx, loop_ct, loop_bk, loop_ret, loop_exc, gNm_ap, sPar_ap, kPar_ap, sAug_ap, kAug_ap, kAug1_ap, kAug2_ap, runF_ap, fin_nx, fin_ret, fin_exc, callP_ap, kPL_ap, kP_ok, kP_exc, cP0, cS0, cP1, cS1, cP2, cS2, cP3, cS3, cP4, cS4, cP5, cS5, cP6, cS6, cP7, cS7, cP8, cS8, pureL_nil, pureL_cons, gAddI_ap, gSubI_ap, gMulI_l, gMulI_r, gDivI_s, gModI_ap, gPow_18, gPow_6, gPow_60, gLtI_ap, gLeI_ap, gGtI_ap, gGeI_ap, gEqF_ii, gNeF_ii, gNegI_ap, gAbsI_ap, gInt1_ap, gMax2_ap, gMin2_ap, gGcd_ap, gLen_lst, gLen_tup, gIx_r0, gIx_t, gIx_l, oD_some, oP_some, at_0, at_1, at_2, at_3, at_4, iOfA_ap, iOf_ap, srcL_lst, srcL_scr, srcT_ap, srcR1_ap, srcR2_ap, fLst_eq, kLst_ap, kLstP_ap, fLstR_eq, kLstR_ap, FR.R.bind_ok, FR.R.bind_exc, FR.R.toS_ok, FR.R.toS_exc, List.getElem?_cons_zero, List.getElem?_cons_succ, List.set_cons_zero, List.set_cons_succ, List.map_cons, List.map_nil, List.cons_append, List.nil_append, List.append_nil, List.length_cons, List.length_nil, List.length_map, Option.map_some, Bool.not_true, Bool.not_false, decide_true, decide_false, if_true, if_false, List.reduceReplicate, Nat.reduceAdd, Nat.reduceSub, rat_top, rat_under, gOwn_rr, gOwn_ri, gOwn_ir, gOwnR_ir, gOwn1_r, gAbsO_r, noX_ok, gIsi_eq, kIsiT_ap, kIsi_ap, look_hit, look_miss, tag_p, tag_int, tag_bl, tag_non, tag_str, tag_tup, tag_lst, tag_obj, tag_rat, gOr_ap, gOr1_ap, orR_ok, orR_st, orR_exc, pNm_ap, kMk_ok, kMk_exc, kMkF_ap, pureF_nil, pureF_cons, putD_nil, putD_cons, sRaise0_ap, sRaise2_ap, sRaise1_ap, kRz2_ap, kRz1_ap, sTry_ap, kTry_nx, kTry_bk, kTry_ct, kTry_ret, kTry_exc, hand_nil, hand_cons, kHand_t, kH2_ap, kHand_f, lookC_hit, lookC_miss, lookF_hit, lookF_miss, lookD_hit, lookD_miss, endX_nx, endX_bk, endX_ct, endX_ret, gXset_ap, kXset_ap, gXf_ap, gXi_ap, fTru_ap, kTruD_non, kTruD_bl, kTruD_int, kTruD_tup, kTruD_lst, kTruD_r0, fTruO_ap, kTruO_r, kBl_ok, kBl_exc, gCmp_rr, gCmp_ri, gCmp_i, gCmp_t, gCmp_oo, gCmp_ot, gCmpR_ir, gCmpNe_rr, gCmpNe_ri, kNeB_ap, gInF_ap, items_t, items_l, kInF_ap, inP_3, gInO_ap, kInB_t, kInB_f, cC_ap, kC_ap, cV_ap, kV_ap, fMeth_ap, kMeth_o, kMeth_r, kMeth2_ap, fMethK_ap, kMethK_o, kMethK2_ap, kMethK3_ap, callK_ap, kCallK_ap, kCallK2_ap, mkK_ap, kMkK_ap, kMkK2_ap, eP0, eP1, eP2, eP3, mk0, mk1, mk3, mk4, mk5, mk6, mkd2, sFld2_ap, kF2_0, gIsN_lst, gNotN_lst, gIsN_obj, gNotN_obj, mkKD_ap, kMkKD_ap, kMkKD2_ap, kMkKD2_13, kMkK2_14, mkd4, gProp_o, gProp_r, gCon_o, gCon_c, gCon_r, gFld_o, gFld_c, gInt1_bl, gBool1_i, gBool1_b, gSumI_ap, fChain_eq, kCh0_ap, kCh1_ap, kCh2_t, kCh2_f, kCh3_ap, gIsN_non, gIsN_int, gIsN_tup, gNotN_non, gNotN_int, gNotN_tup, fSl_ap, kSl1_ap, kSl2_ap, kSl3_l, kSl3_t, iNo_ap, iAt_ap, kAt_ap, kMethK3_01, kMethK3_11, kMethK3_21, kMethK3_31, kCallK2_11, kCallK2_21, kCallK2_31, kCallK2_41, sAsg_ap, kAsg_ap, kAsg2_ap, gOf_ap, ofE_some, pTup_1, pTup_2, pTup_3, pTup_4, pTup_5, pCons_ap, pNil_ap, o_bind_some, Bool.if_true_left, Bool.not_not, List.isEmpty_cons, List.isEmpty_nil, Bool.false_eq_true, if_false, if_true, h2]
        obtain ⟨x, hx⟩ := at_ints cs a ha (by omega)
        simp (disch := first | omega | rfl | decide | exact Nat.le_of_ble_eq_true rfl) only [c1_ap, cA_ap, c2_ap, K2_ap, aCons_ap, KC_ap, aNil_ap, fVar_ap, optD_ss, fC_ap, fBool_ap, kB_ap, fNotT_ap, fAndT_ap, fOrT_ap, kAnd_t, kAnd_f, kOr_t, kOr_f, fAndV_ap, fOrV_ap, fNotV_ap, kAndV_t, kAndV_f, kOrV_t, kOrV_f, kNotV_ap, fIfE_ap, kIfE_t, kIfE_f, fTup_ap, kTup_eq, kTupP_ap, sSeq_ap, seq_nx, seq_ret, seq_bk, seq_ct, seq_exc, sNext_ap, sIf_ap, kSI_t, kSI_f, sSet_ap, kSet_ap, sRet_ap, kRet_ap, sRetN_ap, sDrop_ap, kDrop_ap, sBreak_ap, sCont_ap, sIxSet_ap, kIx1_ap, kIx2_ap, ks_0, ks_1, ks_2, ks_3, ks_4, sFldSet_ap, kFl1_ap, kFl2_0, sFor_ap, kFor_ap, forD_nil, forD_cons, kF1_ap, loop_nx, loop_ct, loop_bk, loop_ret, loop_exc, gNm_ap, sPar_ap, kPar_ap, sAug_ap, kAug_ap, kAug1_ap, kAug2_ap, runF_ap, fin_nx, fin_ret, fin_exc, callP_ap, kPL_ap, kP_ok, kP_exc, cP0, cS0, cP1, cS1, cP2, cS2, cP3, cS3, cP4, cS4, cP5, cS5, cP6, cS6, cP7, cS7, cP8, cS8, pureL_nil, pureL_cons, gAddI_ap, gSubI_ap, gMulI_l, gMulI_r, gDivI_s, gModI_ap, gPow_18, gPow_6, gPow_60, gLtI_ap, gLeI_ap, gGtI_ap, gGeI_ap, gEqF_ii, gNeF_ii, gNegI_ap, gAbsI_ap, gInt1_ap, gMax2_ap, gMin2_ap, gGcd_ap, gLen_lst, gLen_tup, gIx_r0, gIx_t, gIx_l, oD_some, oP_some, at_0, at_1, at_2, at_3, at_4, iOfA_ap, iOf_ap, srcL_lst, srcL_scr, srcT_ap, srcR1_ap, srcR2_ap, fLst_eq, kLst_ap, kLstP_ap, fLstR_eq, kLstR_ap, FR.R.bind_ok, FR.R.bind_exc, FR.R.toS_ok, FR.R.toS_exc, List.getElem?_cons_zero, List.getElem?_cons_succ, List.set_cons_zero, List.set_cons_succ, List.map_cons, List.map_nil, List.cons_append, List.nil_append, List.append_nil, List.length_cons, List.length_nil, List.length_map, Option.map_some, Bool.not_true, Bool.not_false, decide_true, decide_false, if_true, if_false, List.reduceReplicate, Nat.reduceAdd, Nat.reduceSub, rat_top, rat_under, gOwn_rr, gOwn_ri, gOwn_ir, gOwnR_ir, gOwn1_r, gAbsO_r, noX_ok, gIsi_eq, kIsiT_ap, kIsi_ap, look_hit, look_miss, tag_p, tag_int, tag_bl, tag_non, tag_str, tag_tup, tag_lst, tag_obj, tag_rat, gOr_ap, gOr1_ap, orR_ok, orR_st, orR_exc, pNm_ap, kMk_ok, kMk_exc, kMkF_ap, pureF_nil, pureF_cons, putD_nil, putD_cons, sRaise0_ap, sRaise2_ap, sRaise1_ap, kRz2_ap, kRz1_ap, sTry_ap, kTry_nx, kTry_bk, kTry_ct, kTry_ret, kTry_exc, hand_nil, hand_cons, kHand_t, kH2_ap, kHand_f, lookC_hit, lookC_miss, lookF_hit, lookF_miss, lookD_hit, lookD_miss, endX_nx, endX_bk, endX_ct, endX_ret, gXset_ap, kXset_ap, gXf_ap, gXi_ap, fTru_ap, kTruD_non, kTruD_bl, kTruD_int, kTruD_tup, kTruD_lst, kTruD_r0, fTruO_ap, kTruO_r, kBl_ok, kBl_exc, gCmp_rr, gCmp_ri, gCmp_i, gCmp_t, gCmp_oo, gCmp_ot, gCmpR_ir, gCmpNe_rr, gCmpNe_ri, kNeB_ap, gInF_ap, items_t, items_l, kInF_ap, inP_3, gInO_ap, kInB_t, kInB_f, cC_ap, kC_ap, cV_ap, kV_ap, fMeth_ap, kMeth_o, kMeth_r, kMeth2_ap, fMethK_ap, kMethK_o, kMethK2_ap, kMethK3_ap, callK_ap, kCallK_ap, kCallK2_ap, mkK_ap, kMkK_ap, kMkK2_ap, eP0, eP1, eP2, eP3, mk0, mk1, mk3, mk4, mk5, mk6, mkd2, sFld2_ap, kF2_0, gIsN_lst, gNotN_lst, gIsN_obj, gNotN_obj, mkKD_ap, kMkKD_ap, kMkKD2_ap, kMkKD2_13, kMkK2_14, mkd4, gProp_o, gProp_r, gCon_o, gCon_c, gCon_r, gFld_o, gFld_c, gInt1_bl, gBool1_i, gBool1_b, gSumI_ap, fChain_eq, kCh0_ap, kCh1_ap, kCh2_t, kCh2_f, kCh3_ap, gIsN_non, gIsN_int, gIsN_tup, gNotN_non, gNotN_int, gNotN_tup, fSl_ap, kSl1_ap, kSl2_ap, kSl3_l, kSl3_t, iNo_ap, iAt_ap, kAt_ap, kMethK3_01, kMethK3_11, kMethK3_21, kMethK3_31, kCallK2_11, kCallK2_21, kCallK2_31, kCallK2_41, sAsg_ap, kAsg_ap, kAsg2_ap, gOf_ap, ofE_some, pTup_1, pTup_2, pTup_3, pTup_4, pTup_5, pCons_ap, pNil_ap, o_bind_some, Bool.if_true_left, Bool.not_not, List.isEmpty_cons, List.isEmpty_nil, Bool.false_eq_true, if_false, if_true, hx]
        by_cases h3 : x < 1000000000000000000
        · obtain ⟨r, h4, h5, h6⟩ := mix_ok ((c * 48271 + x * 69621 + 11).fmod 2147483647) t m [] hm
          refine ⟨r, a + 1, b, (c * 48271 + x * 69621 + 11).fmod 2147483647, ?_, h5, h6, by omega, hb⟩
          simp (disch := first | omega | rfl | decide | exact Nat.le_of_ble_eq_true rfl) only [c1_ap, cA_ap, c2_ap, K2_ap, aCons_ap, KC_ap, aNil_ap, fVar_ap, optD_ss, fC_ap, fBool_ap, kB_ap, fNotT_ap, fAndT_ap, fOrT_ap, kAnd_t, kAnd_f, kOr_t, kOr_f, fAndV_ap, fOrV_ap, fNotV_ap, kAndV_t, kAndV_f, kOrV_t, kOrV_f, kNotV_ap, fIfE_ap, kIfE_t, kIfE_f, fTup_ap, kTup_eq, kTupP_ap, sSeq_ap, seq_nx, seq_ret, seq_bk, seq_ct, seq_exc, sNext_ap, sIf_ap, kSI_t, kSI_f, sSet_ap, kSet_ap, sRet_ap, kRet_ap, sRetN_ap, sDrop_ap, kDrop_ap, sBreak_ap, sCont_ap, sIxSet_ap, kIx1_ap, kIx2_ap, ks_0, ks_1, ks_2, ks_3, ks_4, sFldSet_ap, kFl1_ap, kFl2_0, sFor_ap, kFor_ap, forD_nil, forD_cons, kF1_ap, loop_nx, loop_ct, loop_bk, loop_ret, loop_exc, gNm_ap, sPar_ap, kPar_ap, sAug_ap, kAug_ap, kAug1_ap, kAug2_ap, runF_ap, fin_nx, fin_ret, fin_exc, callP_ap, kPL_ap, kP_ok, kP_exc, cP0, cS0, cP1, cS1, cP2, cS2, cP3, cS3, cP4, cS4, cP5, cS5, cP6, cS6, cP7, cS7, cP8, cS8, pureL_nil, pureL_cons, gAddI_ap, gSubI_ap, gMulI_l, gMulI_r, gDivI_s, gModI_ap, gPow_18, gPow_6, gPow_60, gLtI_ap, gLeI_ap, gGtI_ap, gGeI_ap, gEqF_ii, gNeF_ii, gNegI_ap, gAbsI_ap, gInt1_ap, gMax2_ap, gMin2_ap, gGcd_ap, gLen_lst, gLen_tup, gIx_r0, gIx_t, gIx_l, oD_some, oP_some, at_0, at_1, at_2, at_3, at_4, iOfA_ap, iOf_ap, srcL_lst, srcL_scr, srcT_ap, srcR1_ap, srcR2_ap, fLst_eq, kLst_ap, kLstP_ap, fLstR_eq, kLstR_ap, FR.R.bind_ok, FR.R.bind_exc, FR.R.toS_ok, FR.R.toS_exc, List.getElem?_cons_zero, List.getElem?_cons_succ, List.set_cons_zero, List.set_cons_succ, List.map_cons, List.map_nil, List.cons_append, List.nil_append, List.append_nil, List.length_cons, List.length_nil, List.length_map, Option.map_some, Bool.not_true, Bool.not_false, decide_true, decide_false, if_true, if_false, List.reduceReplicate, Nat.reduceAdd, Nat.reduceSub, rat_top, rat_under, gOwn_rr, gOwn_ri, gOwn_ir, gOwnR_ir, gOwn1_r, gAbsO_r, noX_ok, gIsi_eq, kIsiT_ap, kIsi_ap, look_hit, look_miss, tag_p, tag_int, tag_bl, tag_non, tag_str, tag_tup, tag_lst, tag_obj, tag_rat, gOr_ap, gOr1_ap, orR_ok, orR_st, orR_exc, pNm_ap, kMk_ok, kMk_exc, kMkF_ap, pureF_nil, pureF_cons, putD_nil, putD_cons, sRaise0_ap, sRaise2_ap, sRaise1_ap, kRz2_ap, kRz1_ap, sTry_ap, kTry_nx, kTry_bk, kTry_ct, kTry_ret, kTry_exc, hand_nil, hand_cons, kHand_t, kH2_ap, kHand_f, lookC_hit, lookC_miss, lookF_hit, lookF_miss, lookD_hit, lookD_miss, endX_nx, endX_bk, endX_ct, endX_ret, gXset_ap, kXset_ap, gXf_ap, gXi_ap, fTru_ap, kTruD_non, kTruD_bl, kTruD_int, kTruD_tup, kTruD_lst, kTruD_r0, fTruO_ap, kTruO_r, kBl_ok, kBl_exc, gCmp_rr, gCmp_ri, gCmp_i, gCmp_t, gCmp_oo, gCmp_ot, gCmpR_ir, gCmpNe_rr, gCmpNe_ri, kNeB_ap, gInF_ap, items_t, items_l, kInF_ap, inP_3, gInO_ap, kInB_t, kInB_f, cC_ap, kC_ap, cV_ap, kV_ap, fMeth_ap, kMeth_o, kMeth_r, kMeth2_ap, fMethK_ap, kMethK_o, kMethK2_ap, kMethK3_ap, callK_ap, kCallK_ap, kCallK2_ap, mkK_ap, kMkK_ap, kMkK2_ap, eP0, eP1, eP2, eP3, mk0, mk1, mk3, mk4, mk5, mk6, mkd2, sFld2_ap, kF2_0, gIsN_lst, gNotN_lst, gIsN_obj, gNotN_obj, mkKD_ap, kMkKD_ap, kMkKD2_ap, kMkKD2_13, kMkK2_14, mkd4, gProp_o, gProp_r, gCon_o, gCon_c, gCon_r, gFld_o, gFld_c, gInt1_bl, gBool1_i, gBool1_b, gSumI_ap, fChain_eq, kCh0_ap, kCh1_ap, kCh2_t, kCh2_f, kCh3_ap, gIsN_non, gIsN_int, gIsN_tup, gNotN_non, gNotN_int, gNotN_tup, fSl_ap, kSl1_ap, kSl2_ap, kSl3_l, kSl3_t, iNo_ap, iAt_ap, kAt_ap, kMethK3_01, kMethK3_11, kMethK3_21, kMethK3_31, kCallK2_11, kCallK2_21, kCallK2_31, kCallK2_41, sAsg_ap, kAsg_ap, kAsg2_ap, gOf_ap, ofE_some, pTup_1, pTup_2, pTup_3, pTup_4, pTup_5, pCons_ap, pNil_ap, o_bind_some, Bool.if_true_left, Bool.not_not, List.isEmpty_cons, List.isEmpty_nil, Bool.false_eq_true, if_false, if_true, h3, h4]
        · simp (disch := first | omega | rfl | decide | exact Nat.le_of_ble_eq_true rfl) only [c1_ap, cA_ap, c2_ap, K2_ap, aCons_ap, KC_ap, aNil_ap, fVar_ap, optD_ss, fC_ap, fBool_ap, kB_ap, fNotT_ap, fAndT_ap, fOrT_ap, kAnd_t, kAnd_f, kOr_t, kOr_f, fAndV_ap, fOrV_ap, fNotV_ap, kAndV_t, kAndV_f, kOrV_t, kOrV_f, kNotV_ap, fIfE_ap, kIfE_t, kIfE_f, fTup_ap, kTup_eq, kTupP_ap, sSeq_ap, seq_nx, seq_ret, seq_bk, seq_ct, seq_exc, sNext_ap, sIf_ap, kSI_t, kSI_f, sSet_ap, kSet_ap, sRet_ap, kRet_ap, sRetN_ap, sDrop_ap, kDrop_ap, sBreak_ap, sCont_ap, sIxSet_ap, kIx1_ap, kIx2_ap, ks_0, ks_1, ks_2, ks_3, ks_4, sFldSet_ap, kFl1_ap, kFl2_0, sFor_ap, kFor_ap, forD_nil, forD_cons, kF1_ap, loop_nx, loop_ct, loop_bk, loop_ret, loop_exc, gNm_ap, sPar_ap, kPar_ap, sAug_ap, kAug_ap, kAug1_ap, kAug2_ap, runF_ap, fin_nx, fin_ret, fin_exc, callP_ap, kPL_ap, kP_ok, kP_exc, cP0, cS0, cP1, cS1, cP2, cS2, cP3, cS3, cP4, cS4, cP5, cS5, cP6, cS6, cP7, cS7, cP8, cS8, pureL_nil, pureL_cons, gAddI_ap, gSubI_ap, gMulI_l, gMulI_r, gDivI_s, gModI_ap, gPow_18, gPow_6, gPow_60, gLtI_ap, gLeI_ap, gGtI_ap, gGeI_ap, gEqF_ii, gNeF_ii, gNegI_ap, gAbsI_ap, gInt1_ap, gMax2_ap, gMin2_ap, gGcd_ap, gLen_lst, gLen_tup, gIx_r0, gIx_t, gIx_l, oD_some, oP_some, at_0, at_1, at_2, at_3, at_4, iOfA_ap, iOf_ap, srcL_lst, srcL_scr, srcT_ap, srcR1_ap, srcR2_ap, fLst_eq, kLst_ap, kLstP_ap, fLstR_eq, kLstR_ap, FR.R.bind_ok, FR.R.bind_exc, FR.R.toS_ok, FR.R.toS_exc, List.getElem?_cons_zero, List.getElem?_cons_succ, List.set_cons_zero, List.set_cons_succ, List.map_cons, List.map_nil, List.cons_append, List.nil_append, List.append_nil, List.length_cons, List.length_nil, List.length_map, Option.map_some, Bool.not_true, Bool.not_false, decide_true, decide_false, if_true, if_false, List.reduceReplicate, Nat.reduceAdd, Nat.reduceSub, rat_top, rat_under, gOwn_rr, gOwn_ri, gOwn_ir, gOwnR_ir, gOwn1_r, gAbsO_r, noX_ok, gIsi_eq, kIsiT_ap, kIsi_ap, look_hit, look_miss, tag_p, tag_int, tag_bl, tag_non, tag_str, tag_tup, tag_lst, tag_obj, tag_rat, gOr_ap, gOr1_ap, orR_ok, orR_st, orR_exc, pNm_ap, kMk_ok, kMk_exc, kMkF_ap, pureF_nil, pureF_cons, putD_nil, putD_cons, sRaise0_ap, sRaise2_ap, sRaise1_ap, kRz2_ap, kRz1_ap, sTry_ap, kTry_nx, kTry_bk, kTry_ct, kTry_ret, kTry_exc, hand_nil, hand_cons, kHand_t, kH2_ap, kHand_f, lookC_hit, lookC_miss, lookF_hit, lookF_miss, lookD_hit, lookD_miss, endX_nx, endX_bk, endX_ct, endX_ret, gXset_ap, kXset_ap, gXf_ap, gXi_ap, fTru_ap, kTruD_non, kTruD_bl, kTruD_int, kTruD_tup, kTruD_lst, kTruD_r0, fTruO_ap, kTruO_r, kBl_ok, kBl_exc, gCmp_rr, gCmp_ri, gCmp_i, gCmp_t, gCmp_oo, gCmp_ot, gCmpR_ir, gCmpNe_rr, gCmpNe_ri, kNeB_ap, gInF_ap, items_t, items_l, kInF_ap, inP_3, gInO_ap, kInB_t, kInB_f, cC_ap, kC_ap, cV_ap, kV_ap, fMeth_ap, kMeth_o, kMeth_r, kMeth2_ap, fMethK_ap, kMethK_o, kMethK2_ap, kMethK3_ap, callK_ap, kCallK_ap, kCallK2_ap, mkK_ap, kMkK_ap, kMkK2_ap, eP0, eP1, eP2, eP3, mk0, mk1, mk3, mk4, mk5, mk6, mkd2, sFld2_ap, kF2_0, gIsN_lst, gNotN_lst, gIsN_obj, gNotN_obj, mkKD_ap, kMkKD_ap, kMkKD2_ap, kMkKD2_13, kMkK2_14, mkd4, gProp_o, gProp_r, gCon_o, gCon_c, gCon_r, gFld_o, gFld_c, gInt1_bl, gBool1_i, gBool1_b, gSumI_ap, fChain_eq, kCh0_ap, kCh1_ap, kCh2_t, kCh2_f, kCh3_ap, gIsN_non, gIsN_int, gIsN_tup, gNotN_non, gNotN_int, gNotN_tup, fSl_ap, kSl1_ap, kSl2_ap, kSl3_l, kSl3_t, iNo_ap, iAt_ap, kAt_ap, kMethK3_01, kMethK3_11, kMethK3_21, kMethK3_31, kCallK2_11, kCallK2_21, kCallK2_31, kCallK2_41, sAsg_ap, kAsg_ap, kAsg2_ap, gOf_ap, ofE_some, pTup_1, pTup_2, pTup_3, pTup_4, pTup_5, pCons_ap, pNil_ap, o_bind_some, Bool.if_true_left, Bool.not_not, List.isEmpty_cons, List.isEmpty_nil, Bool.false_eq_true, if_false, if_true, h3]
          exact ih (a + 1) _ _ _ _ _ (by omega) (by omega)

theorem draw_ok (cs : List Int) (m a b c t : Int) (S : Store) (hm : 0 < m) (hm2 : m < 1000000000) (ha : 0 ≤ a) (hb : 0 ≤ b) : ∃ r a' b' c' t', F__law_draw [.r 0, .p (.int m)] (pool cs a b c t :: S) = .ok (.p (.int r)) (pool cs a' b' c' t' :: S)
      ∧ 0 ≤ r ∧ r < m ∧ 0 ≤ a' ∧ 0 ≤ b' := by
  unfold F__law_draw
  by_cases h1 : m < 2
  · refine ⟨0, a, b, c, t, ?_, by omega, by omega, ha, hb⟩
    unfold pool
    simp (disch := first | omega | rfl | decide | exact Nat.le_of_ble_eq_true rfl) only [c1_ap, cA_ap, c2_ap, K2_ap, aCons_ap, KC_ap, aNil_ap, fVar_ap, optD_ss, fC_ap, fBool_ap, kB_ap, fNotT_ap, fAndT_ap, fOrT_ap, kAnd_t, kAnd_f, kOr_t, kOr_f, fAndV_ap, fOrV_ap, fNotV_ap, kAndV_t, kAndV_f, kOrV_t, kOrV_f, kNotV_ap, fIfE_ap, kIfE_t, kIfE_f, fTup_ap, kTup_eq, kTupP_ap, sSeq_ap, seq_nx, seq_ret, seq_bk, seq_ct, seq_exc, sNext_ap, sIf_ap, kSI_t, kSI_f, sSet_ap, kSet_ap, sRet_ap, kRet_ap, sRetN_ap, sDrop_ap, kDrop_ap, sBreak_ap, sCont_ap, sIxSet_ap, kIx1_ap, kIx2_ap, ks_0, ks_1, ks_2, ks_3, ks_4, sFldSet_ap, kFl1_ap, kFl2_0, sFor_ap, kFor_ap, forD_nil, forD_cons, kF1_ap, loop_nx, loop_ct, loop_bk, loop_ret, loop_exc, gNm_ap, sPar_ap, kPar_ap, sAug_ap, kAug_ap, kAug1_ap, kAug2_ap, runF_ap, fin_nx, fin_ret, fin_exc, callP_ap, kPL_ap, kP_ok, kP_exc, cP0, cS0, cP1, cS1, cP2, cS2, cP3, cS3, cP4, cS4, cP5, cS5, cP6, cS6, cP7, cS7, cP8, cS8, pureL_nil, pureL_cons, gAddI_ap, gSubI_ap, gMulI_l, gMulI_r, gDivI_s, gModI_ap, gPow_18, gPow_6, gPow_60, gLtI_ap, gLeI_ap, gGtI_ap, gGeI_ap, gEqF_ii, gNeF_ii, gNegI_ap, gAbsI_ap, gInt1_ap, gMax2_ap, gMin2_ap, gGcd_ap, gLen_lst, gLen_tup, gIx_r0, gIx_t, gIx_l, oD_some, oP_some, at_0, at_1, at_2, at_3, at_4, iOfA_ap, iOf_ap, srcL_lst, srcL_scr, srcT_ap, srcR1_ap, srcR2_ap, fLst_eq, kLst_ap, kLstP_ap, fLstR_eq, kLstR_ap, FR.R.bind_ok, FR.R.bind_exc, FR.R.toS_ok, FR.R.toS_exc, List.getElem?_cons_zero, List.getElem?_cons_succ, List.set_cons_zero, List.set_cons_succ, List.map_cons, List.map_nil, List.cons_append, List.nil_append, List.append_nil, List.length_cons, List.length_nil, List.length_map, Option.map_some, Bool.not_true, Bool.not_false, decide_true, decide_false, if_true, if_false, List.reduceReplicate, Nat.reduceAdd, Nat.reduceSub, rat_top, rat_under, gOwn_rr, gOwn_ri, gOwn_ir, gOwnR_ir, gOwn1_r, gAbsO_r, noX_ok, gIsi_eq, kIsiT_ap, kIsi_ap, look_hit, look_miss, tag_p, tag_int, tag_bl, tag_non, tag_str, tag_tup, tag_lst, tag_obj, tag_rat, gOr_ap, gOr1_ap, orR_ok, orR_st, orR_exc, pNm_ap, kMk_ok, kMk_exc, kMkF_ap, pureF_nil, pureF_cons, putD_nil, putD_cons, sRaise0_ap, sRaise2_ap, sRaise1_ap, kRz2_ap, kRz1_ap, sTry_ap, kTry_nx, kTry_bk, kTry_ct, kTry_ret, kTry_exc, hand_nil, hand_cons, kHand_t, kH2_ap, kHand_f, lookC_hit, lookC_miss, lookF_hit, lookF_miss, lookD_hit, lookD_miss, endX_nx, endX_bk, endX_ct, endX_ret, gXset_ap, kXset_ap, gXf_ap, gXi_ap, fTru_ap, kTruD_non, kTruD_bl, kTruD_int, kTruD_tup, kTruD_lst, kTruD_r0, fTruO_ap, kTruO_r, kBl_ok, kBl_exc, gCmp_rr, gCmp_ri, gCmp_i, gCmp_t, gCmp_oo, gCmp_ot, gCmpR_ir, gCmpNe_rr, gCmpNe_ri, kNeB_ap, gInF_ap, items_t, items_l, kInF_ap, inP_3, gInO_ap, kInB_t, kInB_f, cC_ap, kC_ap, cV_ap, kV_ap, fMeth_ap, kMeth_o, kMeth_r, kMeth2_ap, fMethK_ap, kMethK_o, kMethK2_ap, kMethK3_ap, callK_ap, kCallK_ap, kCallK2_ap, mkK_ap, kMkK_ap, kMkK2_ap, eP0, eP1, eP2, eP3, mk0, mk1, mk3, mk4, mk5, mk6, mkd2, sFld2_ap, kF2_0, gIsN_lst, gNotN_lst, gIsN_obj, gNotN_obj, mkKD_ap, kMkKD_ap, kMkKD2_ap, kMkKD2_13, kMkK2_14, mkd4, gProp_o, gProp_r, gCon_o, gCon_c, gCon_r, gFld_o, gFld_c, gInt1_bl, gBool1_i, gBool1_b, gSumI_ap, fChain_eq, kCh0_ap, kCh1_ap, kCh2_t, kCh2_f, kCh3_ap, gIsN_non, gIsN_int, gIsN_tup, gNotN_non, gNotN_int, gNotN_tup, fSl_ap, kSl1_ap, kSl2_ap, kSl3_l, kSl3_t, iNo_ap, iAt_ap, kAt_ap, kMethK3_01, kMethK3_11, kMethK3_21, kMethK3_31, kCallK2_11, kCallK2_21, kCallK2_31, kCallK2_41, sAsg_ap, kAsg_ap, kAsg2_ap, gOf_ap, ofE_some, pTup_1, pTup_2, pTup_3, pTup_4, pTup_5, pCons_ap, pNil_ap, o_bind_some, Bool.if_true_left, Bool.not_not, List.isEmpty_cons, List.isEmpty_nil, Bool.false_eq_true, if_false, if_true, h1]
  · by_cases h2 : (cs.length : Int) = 0
    · refine ⟨0, a, b, c, t, ?_, by omega, by omega, ha, hb⟩
      unfold pool
      simp (disch := first | omega | rfl | decide | exact Nat.le_of_ble_eq_true rfl) only [c1_ap, cA_ap, c2_ap, K2_ap, aCons_ap, KC_ap, aNil_ap, fVar_ap, optD_ss, fC_ap, fBool_ap, kB_ap, fNotT_ap, fAndT_ap, fOrT_ap, kAnd_t, kAnd_f, kOr_t, kOr_f, fAndV_ap, fOrV_ap, fNotV_ap, kAndV_t, kAndV_f, kOrV_t, kOrV_f, kNotV_ap, fIfE_ap, kIfE_t, kIfE_f, fTup_ap, kTup_eq, kTupP_ap, sSeq_ap, seq_nx, seq_ret, seq_bk, seq_ct, seq_exc, sNext_ap, sIf_ap, kSI_t, kSI_f, sSet_ap, kSet_ap, sRet_ap, kRet_ap, sRetN_ap, sDrop_ap, kDrop_ap, sBreak_ap, sCont_ap, sIxSet_ap, kIx1_ap, kIx2_ap, ks_0, ks_1, ks_2, ks_3, ks_4, sFldSet_ap, kFl1_ap, kFl2_0, sFor_ap, kFor_ap, forD_nil, forD_cons, kF1_ap, loop_nx, loop_ct, loop_bk, loop_ret, loop_exc, gNm_ap, sPar_ap, kPar_ap, sAug_ap, kAug_ap, kAug1_ap, kAug2_ap, runF_ap, fin_nx, fin_ret, fin_exc, callP_ap, kPL_ap, kP_ok, kP_exc, cP0, cS0, cP1, cS1, cP2, cS2, cP3, cS3, cP4, cS4, cP5, cS5, cP6, cS6, cP7, cS7, cP8, cS8, pureL_nil, pureL_cons, gAddI_ap, gSubI_ap, gMulI_l, gMulI_r, gDivI_s, gModI_ap, gPow_18, gPow_6, gPow_60, gLtI_ap, gLeI_ap, gGtI_ap, gGeI_ap, gEqF_ii, gNeF_ii, gNegI_ap, gAbsI_ap, gInt1_ap, gMax2_ap, gMin2_ap, gGcd_ap, gLen_lst, gLen_tup, gIx_r0, gIx_t, gIx_l, oD_some, oP_some, at_0, at_1, at_2, at_3, at_4, iOfA_ap, iOf_ap, srcL_lst, srcL_scr, srcT_ap, srcR1_ap, srcR2_ap, fLst_eq, kLst_ap, kLstP_ap, fLstR_eq, kLstR_ap, FR.R.bind_ok, FR.R.bind_exc, FR.R.toS_ok, FR.R.toS_exc, List.getElem?_cons_zero, List.getElem?_cons_succ, List.set_cons_zero, List.set_cons_succ, List.map_cons, List.map_nil, List.cons_append, List.nil_append, List.append_nil, List.length_cons, List.length_nil, List.length_map, Option.map_some, Bool.not_true, Bool.not_false, decide_true, decide_false, if_true, if_false, List.reduceReplicate, Nat.reduceAdd, Nat.reduceSub, rat_top, rat_under, gOwn_rr, gOwn_ri, gOwn_ir, gOwnR_ir, gOwn1_r, gAbsO_r, noX_ok, gIsi_eq, kIsiT_ap, kIsi_ap, look_hit, look_miss, tag_p, tag_int, tag_bl, tag_non, tag_str, tag_tup, tag_lst, tag_obj, tag_rat, gOr_ap, gOr1_ap, orR_ok, orR_st, orR_exc, pNm_ap, kMk_ok, kMk_exc, kMkF_ap, pureF_nil, pureF_cons, putD_nil, putD_cons, sRaise0_ap, sRaise2_ap, sRaise1_ap, kRz2_ap, kRz1_ap, sTry_ap, kTry_nx, kTry_bk, kTry_ct, kTry_ret, kTry_exc, hand_nil, hand_cons, kHand_t, kH2_ap, kHand_f, lookC_hit, lookC_miss, lookF_hit, lookF_miss, lookD_hit, lookD_miss, endX_nx, endX_bk, endX_ct, endX_ret, gXset_ap, kXset_ap, gXf_ap, gXi_ap, fTru_ap, kTruD_non, kTruD_bl, kTruD_int, kTruD_tup, kTruD_lst, kTruD_r0, fTruO_ap, kTruO_r, kBl_ok, kBl_exc, gCmp_rr, gCmp_ri, gCmp_i, gCmp_t, gCmp_oo, gCmp_ot, gCmpR_ir, gCmpNe_rr, gCmpNe_ri, kNeB_ap, gInF_ap, items_t, items_l, kInF_ap, inP_3, gInO_ap, kInB_t, kInB_f, cC_ap, kC_ap, cV_ap, kV_ap, fMeth_ap, kMeth_o, kMeth_r, kMeth2_ap, fMethK_ap, kMethK_o, kMethK2_ap, kMethK3_ap, callK_ap, kCallK_ap, kCallK2_ap, mkK_ap, kMkK_ap, kMkK2_ap, eP0, eP1, eP2, eP3, mk0, mk1, mk3, mk4, mk5, mk6, mkd2, sFld2_ap, kF2_0, gIsN_lst, gNotN_lst, gIsN_obj, gNotN_obj, mkKD_ap, kMkKD_ap, kMkKD2_ap, kMkKD2_13, kMkK2_14, mkd4, gProp_o, gProp_r, gCon_o, gCon_c, gCon_r, gFld_o, gFld_c, gInt1_bl, gBool1_i, gBool1_b, gSumI_ap, fChain_eq, kCh0_ap, kCh1_ap, kCh2_t, kCh2_f, kCh3_ap, gIsN_non, gIsN_int, gIsN_tup, gNotN_non, gNotN_int, gNotN_tup, fSl_ap, kSl1_ap, kSl2_ap, kSl3_l, kSl3_t, iNo_ap, iAt_ap, kAt_ap, kMethK3_01, kMethK3_11, kMethK3_21, kMethK3_31, kCallK2_11, kCallK2_21, kCallK2_31, kCallK2_41, sAsg_ap, kAsg_ap, kAsg2_ap, gOf_ap, ofE_some, pTup_1, pTup_2, pTup_3, pTup_4, pTup_5, pCons_ap, pNil_ap, o_bind_some, Bool.if_true_left, Bool.not_not, List.isEmpty_cons, List.isEmpty_nil, Bool.false_eq_true, if_false, if_true, h1, h2]
    · obtain ⟨r, a', b', c', h3, h4, h5, h6, h7⟩ := draw_loop cs m (t + 1) S hm hm2 (upTo 0 (64 : Int).toNat) a b c none none none ha hb
      refine ⟨r, a', b', c', t + 1, ?_, h4, h5, h6, h7⟩
      unfold pool at *
      simp (disch := first | omega | rfl | decide | exact Nat.le_of_ble_eq_true rfl) only [c1_ap, cA_ap, c2_ap, K2_ap, aCons_ap, KC_ap, aNil_ap, fVar_ap, optD_ss, fC_ap, fBool_ap, kB_ap, fNotT_ap, fAndT_ap, fOrT_ap, kAnd_t, kAnd_f, kOr_t, kOr_f, fAndV_ap, fOrV_ap, fNotV_ap, kAndV_t, kAndV_f, kOrV_t, kOrV_f, kNotV_ap, fIfE_ap, kIfE_t, kIfE_f, fTup_ap, kTup_eq, kTupP_ap, sSeq_ap, seq_nx, seq_ret, seq_bk, seq_ct, seq_exc, sNext_ap, sIf_ap, kSI_t, kSI_f, sSet_ap, kSet_ap, sRet_ap, kRet_ap, sRetN_ap, sDrop_ap, kDrop_ap, sBreak_ap, sCont_ap, sIxSet_ap, kIx1_ap, kIx2_ap, ks_0, ks_1, ks_2, ks_3, ks_4, sFldSet_ap, kFl1_ap, kFl2_0, sFor_ap, kFor_ap, forD_nil, forD_cons, kF1_ap, loop_nx, loop_ct, loop_bk, loop_ret, loop_exc, gNm_ap, sPar_ap, kPar_ap, sAug_ap, kAug_ap, kAug1_ap, kAug2_ap, runF_ap, fin_nx, fin_ret, fin_exc, callP_ap, kPL_ap, kP_ok, kP_exc, cP0, cS0, cP1, cS1, cP2, cS2, cP3, cS3, cP4, cS4, cP5, cS5, cP6, cS6, cP7, cS7, cP8, cS8, pureL_nil, pureL_cons, gAddI_ap, gSubI_ap, gMulI_l, gMulI_r, gDivI_s, gModI_ap, gPow_18, gPow_6, gPow_60, gLtI_ap, gLeI_ap, gGtI_ap, gGeI_ap, gEqF_ii, gNeF_ii, gNegI_ap, gAbsI_ap, gInt1_ap, gMax2_ap, gMin2_ap, gGcd_ap, gLen_lst, gLen_tup, gIx_r0, gIx_t, gIx_l, oD_some, oP_some, at_0, at_1, at_2, at_3, at_4, iOfA_ap, iOf_ap, srcL_lst, srcL_scr, srcT_ap, srcR1_ap, srcR2_ap, fLst_eq, kLst_ap, kLstP_ap, fLstR_eq, kLstR_ap, FR.R.bind_ok, FR.R.bind_exc, FR.R.toS_ok, FR.R.toS_exc, List.getElem?_cons_zero, List.getElem?_cons_succ, List.set_cons_zero, List.set_cons_succ, List.map_cons, List.map_nil, List.cons_append, List.nil_append, List.append_nil, List.length_cons, List.length_nil, List.length_map, Option.map_some, Bool.not_true, Bool.not_false, decide_true, decide_false, if_true, if_false, List.reduceReplicate, Nat.reduceAdd, Nat.reduceSub, rat_top, rat_under, gOwn_rr, gOwn_ri, gOwn_ir, gOwnR_ir, gOwn1_r, gAbsO_r, noX_ok, gIsi_eq, kIsiT_ap, kIsi_ap, look_hit, look_miss, tag_p, tag_int, tag_bl, tag_non, tag_str, tag_tup, tag_lst, tag_obj, tag_rat, gOr_ap, gOr1_ap, orR_ok, orR_st, orR_exc, pNm_ap, kMk_ok, kMk_exc, kMkF_ap, pureF_nil, pureF_cons, putD_nil, putD_cons, sRaise0_ap, sRaise2_ap, sRaise1_ap, kRz2_ap, kRz1_ap, sTry_ap, kTry_nx, kTry_bk, kTry_ct, kTry_ret, kTry_exc, hand_nil, hand_cons, kHand_t, kH2_ap, kHand_f, lookC_hit, lookC_miss, lookF_hit, lookF_miss, lookD_hit, lookD_miss, endX_nx, endX_bk, endX_ct, endX_ret, gXset_ap, kXset_ap, gXf_ap, gXi_ap, fTru_ap, kTruD_non, kTruD_bl, kTruD_int, kTruD_tup, kTruD_lst, kTruD_r0, fTruO_ap, kTruO_r, kBl_ok, kBl_exc, gCmp_rr, gCmp_ri, gCmp_i, gCmp_t, gCmp_oo, gCmp_ot, gCmpR_ir, gCmpNe_rr, gCmpNe_ri, kNeB_ap, gInF_ap, items_t, items_l, kInF_ap, inP_3, gInO_ap, kInB_t, kInB_f, cC_ap, kC_ap, cV_ap, kV_ap, fMeth_ap, kMeth_o, kMeth_r, kMeth2_ap, fMethK_ap, kMethK_o, kMethK2_ap, kMethK3_ap, callK_ap, kCallK_ap, kCallK2_ap, mkK_ap, kMkK_ap, kMkK2_ap, eP0, eP1, eP2, eP3, mk0, mk1, mk3, mk4, mk5, mk6, mkd2, sFld2_ap, kF2_0, gIsN_lst, gNotN_lst, gIsN_obj, gNotN_obj, mkKD_ap, kMkKD_ap, kMkKD2_ap, kMkKD2_13, kMkK2_14, mkd4, gProp_o, gProp_r, gCon_o, gCon_c, gCon_r, gFld_o, gFld_c, gInt1_bl, gBool1_i, gBool1_b, gSumI_ap, fChain_eq, kCh0_ap, kCh1_ap, kCh2_t, kCh2_f, kCh3_ap, gIsN_non, gIsN_int, gIsN_tup, gNotN_non, gNotN_int, gNotN_tup, fSl_ap, kSl1_ap, kSl2_ap, kSl3_l, kSl3_t, iNo_ap, iAt_ap, kAt_ap, kMethK3_01, kMethK3_11, kMethK3_21, kMethK3_31, kCallK2_11, kCallK2_21, kCallK2_31, kCallK2_41, sAsg_ap, kAsg_ap, kAsg2_ap, gOf_ap, ofE_some, pTup_1, pTup_2, pTup_3, pTup_4, pTup_5, pCons_ap, pNil_ap, o_bind_some, Bool.if_true_left, Bool.not_not, List.isEmpty_cons, List.isEmpty_nil, Bool.false_eq_true, if_false, if_true, h1, h2, h3]
theorem pool_ok (ns : List Int) (h : ns.length ≤ 63) : F__law_pool [.p (.scr (ns.map .int))] [] = .ok (.r 0) [pool ns 0 0 1 0] := by
  unfold F__law_pool
  have e := lc_map (fi := iOf srcL (fVar 0)) (g := pNm 1) (f := cA gInt1 (aCons (fVar 1) aNil)) (own := [1]) (ρ := [some (.p (.scr (ns.map .int))), none]) (S := []) (S0 := []) (h := id) (ns.map .int) rfl
    (fun q hq => by
      obtain ⟨x, _, rfl⟩ := List.mem_map.mp hq
      exact ⟨_, rfl, fun ac => rfl⟩) (by rw [List.length_map]; omega) rfl
  simp (disch := first | omega | rfl | decide | exact Nat.le_of_ble_eq_true rfl) only [c1_ap, cA_ap, c2_ap, K2_ap, aCons_ap, KC_ap, aNil_ap, fVar_ap, optD_ss, fC_ap, fBool_ap, kB_ap, fNotT_ap, fAndT_ap, fOrT_ap, kAnd_t, kAnd_f, kOr_t, kOr_f, fAndV_ap, fOrV_ap, fNotV_ap, kAndV_t, kAndV_f, kOrV_t, kOrV_f, kNotV_ap, fIfE_ap, kIfE_t, kIfE_f, fTup_ap, kTup_eq, kTupP_ap, sSeq_ap, seq_nx, seq_ret, seq_bk, seq_ct, seq_exc, sNext_ap, sIf_ap, kSI_t, kSI_f, sSet_ap, kSet_ap, sRet_ap, kRet_ap, sRetN_ap, sDrop_ap, kDrop_ap, sBreak_ap, sCont_ap, sIxSet_ap, kIx1_ap, kIx2_ap, ks_0, ks_1, ks_2, ks_3, ks_4, sFldSet_ap, kFl1_ap, kFl2_0, sFor_ap, kFor_ap, forD_nil, forD_cons, kF1_ap, loop_nx, loop_ct, loop_bk, loop_ret, loop_exc, gNm_ap, sPar_ap, kPar_ap, sAug_ap, kAug_ap, kAug1_ap, kAug2_ap, runF_ap, fin_nx, fin_ret, fin_exc, callP_ap, kPL_ap, kP_ok, kP_exc, cP0, cS0, cP1, cS1, cP2, cS2, cP3, cS3, cP4, cS4, cP5, cS5, cP6, cS6, cP7, cS7, cP8, cS8, pureL_nil, pureL_cons, gAddI_ap, gSubI_ap, gMulI_l, gMulI_r, gDivI_s, gModI_ap, gPow_18, gPow_6, gPow_60, gLtI_ap, gLeI_ap, gGtI_ap, gGeI_ap, gEqF_ii, gNeF_ii, gNegI_ap, gAbsI_ap, gInt1_ap, gMax2_ap, gMin2_ap, gGcd_ap, gLen_lst, gLen_tup, gIx_r0, gIx_t, gIx_l, oD_some, oP_some, at_0, at_1, at_2, at_3, at_4, iOfA_ap, iOf_ap, srcL_lst, srcL_scr, srcT_ap, srcR1_ap, srcR2_ap, fLst_eq, kLst_ap, kLstP_ap, fLstR_eq, kLstR_ap, FR.R.bind_ok, FR.R.bind_exc, FR.R.toS_ok, FR.R.toS_exc, List.getElem?_cons_zero, List.getElem?_cons_succ, List.set_cons_zero, List.set_cons_succ, List.map_cons, List.map_nil, List.cons_append, List.nil_append, List.append_nil, List.length_cons, List.length_nil, List.length_map, Option.map_some, Bool.not_true, Bool.not_false, decide_true, decide_false, if_true, if_false, List.reduceReplicate, Nat.reduceAdd, Nat.reduceSub, rat_top, rat_under, gOwn_rr, gOwn_ri, gOwn_ir, gOwnR_ir, gOwn1_r, gAbsO_r, noX_ok, gIsi_eq, kIsiT_ap, kIsi_ap, look_hit, look_miss, tag_p, tag_int, tag_bl, tag_non, tag_str, tag_tup, tag_lst, tag_obj, tag_rat, gOr_ap, gOr1_ap, orR_ok, orR_st, orR_exc, pNm_ap, kMk_ok, kMk_exc, kMkF_ap, pureF_nil, pureF_cons, putD_nil, putD_cons, sRaise0_ap, sRaise2_ap, sRaise1_ap, kRz2_ap, kRz1_ap, sTry_ap, kTry_nx, kTry_bk, kTry_ct, kTry_ret, kTry_exc, hand_nil, hand_cons, kHand_t, kH2_ap, kHand_f, lookC_hit, lookC_miss, lookF_hit, lookF_miss, lookD_hit, lookD_miss, endX_nx, endX_bk, endX_ct, endX_ret, gXset_ap, kXset_ap, gXf_ap, gXi_ap, fTru_ap, kTruD_non, kTruD_bl, kTruD_int, kTruD_tup, kTruD_lst, kTruD_r0, fTruO_ap, kTruO_r, kBl_ok, kBl_exc, gCmp_rr, gCmp_ri, gCmp_i, gCmp_t, gCmp_oo, gCmp_ot, gCmpR_ir, gCmpNe_rr, gCmpNe_ri, kNeB_ap, gInF_ap, items_t, items_l, kInF_ap, inP_3, gInO_ap, kInB_t, kInB_f, cC_ap, kC_ap, cV_ap, kV_ap, fMeth_ap, kMeth_o, kMeth_r, kMeth2_ap, fMethK_ap, kMethK_o, kMethK2_ap, kMethK3_ap, callK_ap, kCallK_ap, kCallK2_ap, mkK_ap, kMkK_ap, kMkK2_ap, eP0, eP1, eP2, eP3, mk0, mk1, mk3, mk4, mk5, mk6, mkd2, sFld2_ap, kF2_0, gIsN_lst, gNotN_lst, gIsN_obj, gNotN_obj, mkKD_ap, kMkKD_ap, kMkKD2_ap, kMkKD2_13, kMkK2_14, mkd4, gProp_o, gProp_r, gCon_o, gCon_c, gCon_r, gFld_o, gFld_c, gInt1_bl, gBool1_i, gBool1_b, gSumI_ap, fChain_eq, kCh0_ap, kCh1_ap, kCh2_t, kCh2_f, kCh3_ap, gIsN_non, gIsN_int, gIsN_tup, gNotN_non, gNotN_int, gNotN_tup, fSl_ap, kSl1_ap, kSl2_ap, kSl3_l, kSl3_t, iNo_ap, iAt_ap, kAt_ap, kMethK3_01, kMethK3_11, kMethK3_21, kMethK3_31, kCallK2_11, kCallK2_21, kCallK2_31, kCallK2_41, sAsg_ap, kAsg_ap, kAsg2_ap, gOf_ap, ofE_some, pTup_1, pTup_2, pTup_3, pTup_4, pTup_5, pCons_ap, pNil_ap, o_bind_some, Bool.if_true_left, Bool.not_not, List.isEmpty_cons, List.isEmpty_nil, Bool.false_eq_true, if_false, if_true, e]
  simp [pool]

section
variable {cs : List Int} {C : Cell} {S : Store} {Q : D → Store → Prop}
theorem wdraw (m : Int) (h : Pool cs C) (hm : 0 < m) (hm2 : m < 1000000000) (k : ∀ r C', 0 ≤ r → r < m → Pool cs C' → Q (.p (.int r)) (C' :: S)) : okR (F__law_draw [.r 0, .p (.int m)] (C :: S)) Q := by
  obtain ⟨a, b, c, t, rfl, ha, hb⟩ := h
  obtain ⟨r, a', b', c', t', e, h1, h2, h3, h4⟩ := draw_ok cs m a b c t S hm hm2 ha hb
  exact okR_of e (k r _ h1 h2 ⟨a', b', c', t', rfl, h3, h4⟩)
end

theorem whole_int (i : Int) (S : Store) : F__law_whole [.p (.int i)] S = .ok (.p (.bl true)) S := by
  unfold F__law_whole
  simp (disch := first | omega | rfl | decide | exact Nat.le_of_ble_eq_true rfl) only [c1_ap, cA_ap, c2_ap, K2_ap, aCons_ap, KC_ap, aNil_ap, fVar_ap, optD_ss, fC_ap, fBool_ap, kB_ap, fNotT_ap, fAndT_ap, fOrT_ap, kAnd_t, kAnd_f, kOr_t, kOr_f, fAndV_ap, fOrV_ap, fNotV_ap, kAndV_t, kAndV_f, kOrV_t, kOrV_f, kNotV_ap, fIfE_ap, kIfE_t, kIfE_f, fTup_ap, kTup_eq, kTupP_ap, sSeq_ap, seq_nx, seq_ret, seq_bk, seq_ct, seq_exc, sNext_ap, sIf_ap, kSI_t, kSI_f, sSet_ap, kSet_ap, sRet_ap, kRet_ap, sRetN_ap, sDrop_ap, kDrop_ap, sBreak_ap, sCont_ap, sIxSet_ap, kIx1_ap, kIx2_ap, ks_0, ks_1, ks_2, ks_3, ks_4, sFldSet_ap, kFl1_ap, kFl2_0, sFor_ap, kFor_ap, forD_nil, forD_cons, kF1_ap, loop_nx, loop_ct, loop_bk, loop_ret, loop_exc, gNm_ap, sPar_ap, kPar_ap, sAug_ap, kAug_ap, kAug1_ap, kAug2_ap, runF_ap, fin_nx, fin_ret, fin_exc, callP_ap, kPL_ap, kP_ok, kP_exc, cP0, cS0, cP1, cS1, cP2, cS2, cP3, cS3, cP4, cS4, cP5, cS5, cP6, cS6, cP7, cS7, cP8, cS8, pureL_nil, pureL_cons, gAddI_ap, gSubI_ap, gMulI_l, gMulI_r, gDivI_s, gModI_ap, gPow_18, gPow_6, gPow_60, gLtI_ap, gLeI_ap, gGtI_ap, gGeI_ap, gEqF_ii, gNeF_ii, gNegI_ap, gAbsI_ap, gInt1_ap, gMax2_ap, gMin2_ap, gGcd_ap, gLen_lst, gLen_tup, gIx_r0, gIx_t, gIx_l, oD_some, oP_some, at_0, at_1, at_2, at_3, at_4, iOfA_ap, iOf_ap, srcL_lst, srcL_scr, srcT_ap, srcR1_ap, srcR2_ap, fLst_eq, kLst_ap, kLstP_ap, fLstR_eq, kLstR_ap, FR.R.bind_ok, FR.R.bind_exc, FR.R.toS_ok, FR.R.toS_exc, List.getElem?_cons_zero, List.getElem?_cons_succ, List.set_cons_zero, List.set_cons_succ, List.map_cons, List.map_nil, List.cons_append, List.nil_append, List.append_nil, List.length_cons, List.length_nil, List.length_map, Option.map_some, Bool.not_true, Bool.not_false, decide_true, decide_false, if_true, if_false, List.reduceReplicate, Nat.reduceAdd, Nat.reduceSub, rat_top, rat_under, gOwn_rr, gOwn_ri, gOwn_ir, gOwnR_ir, gOwn1_r, gAbsO_r, noX_ok, gIsi_eq, kIsiT_ap, kIsi_ap, look_hit, look_miss, tag_p, tag_int, tag_bl, tag_non, tag_str, tag_tup, tag_lst, tag_obj, tag_rat, gOr_ap, gOr1_ap, orR_ok, orR_st, orR_exc, pNm_ap, kMk_ok, kMk_exc, kMkF_ap, pureF_nil, pureF_cons, putD_nil, putD_cons, sRaise0_ap, sRaise2_ap, sRaise1_ap, kRz2_ap, kRz1_ap, sTry_ap, kTry_nx, kTry_bk, kTry_ct, kTry_ret, kTry_exc, hand_nil, hand_cons, kHand_t, kH2_ap, kHand_f, lookC_hit, lookC_miss, lookF_hit, lookF_miss, lookD_hit, lookD_miss, endX_nx, endX_bk, endX_ct, endX_ret, gXset_ap, kXset_ap, gXf_ap, gXi_ap, fTru_ap, kTruD_non, kTruD_bl, kTruD_int, kTruD_tup, kTruD_lst, kTruD_r0, fTruO_ap, kTruO_r, kBl_ok, kBl_exc, gCmp_rr, gCmp_ri, gCmp_i, gCmp_t, gCmp_oo, gCmp_ot, gCmpR_ir, gCmpNe_rr, gCmpNe_ri, kNeB_ap, gInF_ap, items_t, items_l, kInF_ap, inP_3, gInO_ap, kInB_t, kInB_f, cC_ap, kC_ap, cV_ap, kV_ap, fMeth_ap, kMeth_o, kMeth_r, kMeth2_ap, fMethK_ap, kMethK_o, kMethK2_ap, kMethK3_ap, callK_ap, kCallK_ap, kCallK2_ap, mkK_ap, kMkK_ap, kMkK2_ap, eP0, eP1, eP2, eP3, mk0, mk1, mk3, mk4, mk5, mk6, mkd2, sFld2_ap, kF2_0, gIsN_lst, gNotN_lst, gIsN_obj, gNotN_obj, mkKD_ap, kMkKD_ap, kMkKD2_ap, kMkKD2_13, kMkK2_14, mkd4, gProp_o, gProp_r, gCon_o, gCon_c, gCon_r, gFld_o, gFld_c, gInt1_bl, gBool1_i, gBool1_b, gSumI_ap, fChain_eq, kCh0_ap, kCh1_ap, kCh2_t, kCh2_f, kCh3_ap, gIsN_non, gIsN_int, gIsN_tup, gNotN_non, gNotN_int, gNotN_tup, fSl_ap, kSl1_ap, kSl2_ap, kSl3_l, kSl3_t, iNo_ap, iAt_ap, kAt_ap, kMethK3_01, kMethK3_11, kMethK3_21, kMethK3_31, kCallK2_11, kCallK2_21, kCallK2_31, kCallK2_41, sAsg_ap, kAsg_ap, kAsg2_ap, gOf_ap, ofE_some, pTup_1, pTup_2, pTup_3, pTup_4, pTup_5, pCons_ap, pNil_ap, o_bind_some, Bool.if_true_left, Bool.not_not, List.isEmpty_cons, List.isEmpty_nil, Bool.false_eq_true, if_false, if_true]

/-! sequences of counts: adding a part -/
def Ap (p : Nat) (f : Nat → Int) (n : Nat) : Int := f n + if h : 1 ≤ p ∧ p ≤ n then Ap p f (n - p) else 0
termination_by n
decreasing_by omega
theorem Ap_lt {p n : Nat} {f : Nat → Int} (h : n < p) : Ap p f n = f n := by
  rw [Ap, dif_neg (by omega)]
  omega
theorem Ap_ge {p n : Nat} {f : Nat → Int} (hp : 1 ≤ p) (h : p ≤ n) : Ap p f n = f n + Ap p f (n - p) := by
  rw [Ap, dif_pos ⟨hp, h⟩]
def rs (f : Nat → Int) : Nat → Int
  | 0 => 0
  | n + 1 => rs f n + f n
theorem rs_congr {f g : Nat → Int} : ∀ {n : Nat}, (∀ k, k < n → f k = g k) → rs f n = rs g n
  | 0, _ => rfl
  | n + 1, h => by
    show rs f n + f n = rs g n + g n
    rw [rs_congr fun k hk => h k (by omega), h n (by omega)]
theorem rs_add (f g : Nat → Int) : ∀ n : Nat, rs (fun k => f k + g k) n = rs f n + rs g n
  | 0 => rfl
  | n + 1 => by
    show rs (fun k => f k + g k) n + (f n + g n) = rs f n + f n + (rs g n + g n)
    rw [rs_add f g n]
    omega
theorem rs_cut {f : Nat → Int} {m : Nat} : ∀ {n : Nat}, m ≤ n → (∀ k, m ≤ k → k < n → f k = 0) → rs f n = rs f m
  | 0, h, _ => by
    have : m = 0 := by omega
    rw [this]
  | n + 1, h, h0 => by
    by_cases e : m = n + 1
    · rw [e]
    · show rs f n + f n = rs f m
      rw [rs_cut (n := n) (by omega) fun k h1 h2 => h0 k h1 (by omega), h0 n (by omega) (by omega)]
      omega
def cv (f g : Nat → Int) (n : Nat) : Int := rs (fun k => f k * g (n - k)) (n + 1)
def dl : Nat → Int := fun n => if n = 0 then 1 else 0
theorem cv_dl (f : Nat → Int) (n : Nat) : cv f dl n = f n := by
  show rs (fun k => f k * dl (n - k)) n + f n * dl (n - n) = f n
  rw [rs_cut (m := 0) (Nat.zero_le _) fun k _ hk => by
    show f k * (if n - k = 0 then 1 else 0) = 0
    rw [if_neg (by omega), Int.mul_zero]]
  show 0 + f n * (if n - n = 0 then 1 else 0) = f n
  rw [if_pos (by omega)]
  omega
theorem cv_Ap {p : Nat} (hp : 1 ≤ p) (f g : Nat → Int) (n : Nat) : cv f (Ap p g) n = Ap p (cv f g) n := by
  induction n using Nat.strongRecOn with
  | ind n ih =>
    by_cases h : n < p
    · rw [Ap_lt h]
      exact rs_congr fun k hk => by rw [Ap_lt (by omega)]
    · have h : p ≤ n := by omega
      rw [Ap_ge hp h, ← ih (n - p) (by omega)]
      have e1 : cv f (Ap p g) n = rs (fun k => f k * g (n - k) + f k * (if p ≤ n - k then Ap p g (n - k - p) else 0)) (n + 1) := rs_congr fun k hk => by
        by_cases hk2 : p ≤ n - k
        · rw [if_pos hk2, Ap_ge hp hk2, Int.mul_add]
        · rw [if_neg hk2, Ap_lt (by omega), Int.mul_zero, Int.add_zero]
      rw [e1, rs_add]
      congr 1
      rw [rs_cut (m := n - p + 1) (by omega) fun k h1 h2 => by rw [if_neg (by omega), Int.mul_zero]]
      exact rs_congr fun k hk => by rw [if_pos (by omega), show n - k - p = n - p - k by omega]
theorem Ap_comm {p q : Nat} (hp : 1 ≤ p) (hq : 1 ≤ q) (f : Nat → Int) (n : Nat) : Ap p (Ap q f) n = Ap q (Ap p f) n := by
  induction n using Nat.strongRecOn with
  | ind n ih =>
    by_cases h1 : p ≤ n
    · rw [Ap_ge hp h1]
      by_cases h2 : q ≤ n
      · rw [Ap_ge hq h2, Ap_ge (p := q) hq h2, Ap_ge hp h1, ← ih (n - q) (by omega), ih (n - p) (by omega)]
        by_cases h3 : p + q ≤ n
        · rw [Ap_ge (n := n - p) hq (by omega), Ap_ge (n := n - q) hp (by omega), ih (n - q - p) (by omega), show n - q - p = n - p - q by omega]
          omega
        · rw [Ap_lt (n := n - p) (p := q) (by omega), Ap_lt (n := n - q) (p := p) (by omega)]
          omega
      · rw [Ap_lt (n := n) (p := q) (by omega), Ap_lt (n := n) (p := q) (by omega), Ap_ge hp h1, ih (n - p) (by omega), Ap_lt (n := n - p) (p := q) (by omega)]
    · rw [Ap_lt (n := n) (p := p) (by omega)]
      by_cases h2 : q ≤ n
      · rw [Ap_ge hq h2, Ap_ge (p := q) hq h2, ← ih (n - q) (by omega), Ap_lt (n := n) (p := p) (by omega), Ap_lt (n := n - q) (p := p) (by omega)]
      · rw [Ap_lt (n := n) (p := q) (by omega), Ap_lt (n := n) (p := q) (by omega), Ap_lt (n := n) (p := p) (by omega)]
def prt : Nat → (Nat → Int) → Nat → Int
  | 0, f => f
  | m + 1, f => Ap (m + 1) (prt m f)
theorem prt_Ap {q : Nat} (hq : 1 ≤ q) (f : Nat → Int) : ∀ m : Nat, prt m (Ap q f) = Ap q (prt m f)
  | 0 => rfl
  | m + 1 => by
    show Ap (m + 1) (prt m (Ap q f)) = Ap q (Ap (m + 1) (prt m f))
    rw [prt_Ap hq f m]
    funext n
    exact Ap_comm (by omega) hq _ n
theorem prt_comm (f : Nat → Int) (k : Nat) : ∀ m : Nat, prt m (prt k f) = prt k (prt m f)
  | 0 => rfl
  | m + 1 => by
    show Ap (m + 1) (prt m (prt k f)) = prt k (Ap (m + 1) (prt m f))
    rw [prt_comm f k m, prt_Ap (by omega)]
theorem cv_prt (f g : Nat → Int) : ∀ m : Nat, cv f (prt m g) = prt m (cv f g)
  | 0 => rfl
  | m + 1 => by
    show cv f (Ap (m + 1) (prt m g)) = Ap (m + 1) (prt m (cv f g))
    rw [← cv_prt f g m]
    funext n
    exact cv_Ap (by omega) f _ n
theorem cv_prt_dl (f : Nat → Int) (m : Nat) : cv f (prt m dl) = prt m f := by
  rw [cv_prt]
  congr 1
  funext n
  exact cv_dl f n
def cnt (w : Nat → Int) (ms : List Nat) : Nat → Int := ms.foldl (fun w m => prt m w) w
theorem cnt_prt (m : Nat) : ∀ (ms : List Nat) (w : Nat → Int), cnt (prt m w) ms = prt m (cnt w ms)
  | [], _ => rfl
  | k :: ms, w => by
    show cnt (prt k (prt m w)) ms = prt m (cnt (prt k w) ms)
    rw [prt_comm, cnt_prt m ms]
theorem cnt_rev (w : Nat → Int) : ∀ ms : List Nat, cnt w ms.reverse = cnt w ms
  | [] => rfl
  | m :: ms => by
    rw [List.reverse_cons]
    show (ms.reverse ++ [m]).foldl (fun w m => prt m w) w = cnt (prt m w) ms
    rw [List.foldl_append, cnt_prt, ← cnt_rev w ms]
    rfl
/-! how great they are -/
def Bnd (M : Nat) (f : Nat → Int) : Prop := ∀ n, n ≤ 40 → 0 ≤ f n ∧ f n ≤ ((64 ^ M : Nat) : Int)
theorem bnd_dl : Bnd 0 dl := fun n _ => by
  show 0 ≤ (if n = 0 then (1 : Int) else 0) ∧ (if n = 0 then (1 : Int) else 0) ≤ ((64 ^ 0 : Nat) : Int)
  split <;> simp
theorem Ap_bd {M p : Nat} (hp : 1 ≤ p) {f : Nat → Int} (h : Bnd M f) (n : Nat) (hn : n ≤ 40) : 0 ≤ Ap p f n ∧ Ap p f n ≤ ((n + 1 : Nat) : Int) * ((64 ^ M : Nat) : Int) := by
  induction n using Nat.strongRecOn with
  | ind n ih =>
    obtain ⟨h0, h1⟩ := h n hn
    have hB : (0 : Int) ≤ ((64 ^ M : Nat) : Int) := by omega
    by_cases e : n < p
    · rw [Ap_lt e]
      refine ⟨h0, ?_⟩
      have := Int.mul_le_mul_of_nonneg_right (show (1 : Int) ≤ ((n + 1 : Nat) : Int) by omega) hB
      omega
    · obtain ⟨i0, i1⟩ := ih (n - p) (by omega) (by omega)
      rw [Ap_ge hp (by omega)]
      refine ⟨by omega, ?_⟩
      have h2 := Int.mul_le_mul_of_nonneg_right (show ((n - p + 1 : Nat) : Int) ≤ ((n : Nat) : Int) by omega) hB
      have h3 : ((n + 1 : Nat) : Int) * ((64 ^ M : Nat) : Int) = ((n : Nat) : Int) * ((64 ^ M : Nat) : Int) + ((64 ^ M : Nat) : Int) := by
        rw [Int.natCast_add, Int.add_mul]
        omega
      omega
theorem Bnd.Ap {M p : Nat} (hp : 1 ≤ p) {f : Nat → Int} (h : Bnd M f) : Bnd (M + 1) (Ap p f) := fun n hn => by
  obtain ⟨h0, h1⟩ := Ap_bd hp h n hn
  refine ⟨h0, Std.le_trans h1 ?_⟩
  have hB : (0 : Int) ≤ ((64 ^ M : Nat) : Int) := Int.natCast_nonneg _
  have := Int.mul_le_mul_of_nonneg_right (show ((n + 1 : Nat) : Int) ≤ 64 by omega) hB
  have e : ((64 ^ (M + 1) : Nat) : Int) = 64 * ((64 ^ M : Nat) : Int) := by rw [Nat.pow_succ, Nat.mul_comm, Int.natCast_mul]; rfl
  rw [e]
  exact this
theorem Bnd.prt {M : Nat} {f : Nat → Int} (h : Bnd M f) : ∀ m : Nat, Bnd (M + m) (prt m f)
  | 0 => h
  | m + 1 => (Bnd.prt h m).Ap (by omega)
theorem Bnd.mono {M N : Nat} {f : Nat → Int} (h : Bnd M f) (hm : M ≤ N) : Bnd N f := fun n hn => by
  obtain ⟨h0, h1⟩ := h n hn
  refine ⟨h0, Std.le_trans h1 ?_⟩
  exact Int.ofNat_le.mpr (Nat.pow_le_pow_right (by decide) hm)
theorem Bnd.bd {f : Nat → Int} (h : Bnd 12 f) {n : Nat} (hn : n ≤ 40) : Bd 80 (f n) := by
  obtain ⟨h0, h1⟩ := h n hn
  show (f n).natAbs < 2 ^ 80
  have e1 : ((64 ^ 12 : Nat) : Int) = 4722366482869645213696 := by decide +kernel
  have e2 : (2 : Nat) ^ 80 = 1208925819614629174706176 := by decide +kernel
  rw [e1] at h1
  rw [e2]
  omega

/-! a ground made -/
abbrev GR := Int × Int
def grP (r : GR) : P := .tup [.int r.1, .int r.2]
def grS (l : List GR) : Int := (l.map (·.2)).sum
def grdP (l : List GR) : P := .obj .Ground [(.classes, .lst (l.map grP)), (.fields, .int (grS l))]
structure GrOk (l : List GR) : Prop where
  l1 : 1 ≤ l.length
  l4 : l.length ≤ 4
  w : ∀ r ∈ l, 1 ≤ r.1 ∧ r.1 ≤ 1000 ∧ 1 ≤ r.2
  s : grS l ≤ 12
theorem grS_snoc (l : List GR) (r : GR) : grS (l ++ [r]) = grS l + r.2 := by
  unfold grS
  rw [List.map_append, List.sum_append]
  simp
theorem ground_init {l : List GR} (h : GrOk l) : F_Ground___init__ [.r 0, .p (.tup (l.map grP))] [.ins .Ground []] = .ok (.p .non) [.ins .Ground [(.classes, .r 1), (.fields, .p (.int (grS l)))], .lst ((l.map grP).map .p)] := by
  have h1 := h.l1
  have h4 := h.l4
  have hs := h.s
  refine okR_eq ?_
  unfold F_Ground___init__
  have c1 : ((((l.map grP).length : Nat) : Int) < 1) = False := eq_false (by rw [List.length_map]; omega)
  have c2 : ((((l.map grP).length : Nat) : Int) > 4) = False := eq_false (by rw [List.length_map]; omega)
  rw [List.length_map] at c1 c2
  simp -implicitDefEqProofs (maxSteps := 2000000) (disch := first | omega | rfl | decide | exact Nat.le_of_ble_eq_true rfl) only [WS, WS2, K2_ap, KC_ap, FR.R.bind_ok, FR.R.bind_exc, FR.R.toS_ok, FR.R.toS_exc, List.getElem?_cons_zero, List.getElem?_cons_succ, List.set_cons_zero, List.set_cons_succ, List.map_cons, List.map_nil, List.cons_append, List.nil_append, List.append_nil, List.length_cons, List.length_nil, List.length_map, Option.map_some, Bool.not_true, Bool.not_false, decide_true, decide_false, if_true, if_false, List.reduceReplicate, Nat.reduceAdd, Nat.reduceSub, Bool.if_true_left, Bool.not_not, List.isEmpty_cons, List.isEmpty_nil, Bool.false_eq_true, Int.cast_ofNat_Int, Int.natCast_zero, Int.natCast_one, dec_self, Int.reduceLT, Int.reduceLE, Int.reduceEq, c1, c2]
  refine okS_mapM grP (fun xs ρ S => ∃ (tk : List GR) (x2 x3 : Option FR.D), tk ++ xs = l ∧ ρ = [some (.r 0), some (.p (.tup (l.map grP))), x2, x3] ∧ S = [.ins .Ground [(.classes, .r 1), (.fields, .p (.int (grS tk)))], .lst ((tk.map grP).map .p)]) l ?_ ?_ _ _ ⟨[], none, none, rfl, rfl, rfl⟩
  · rintro _ _ ⟨tk, x2, x3, e, rfl, rfl⟩
    rw [List.append_nil] at e
    subst e
    have c3 : (grS tk > 12) = False := eq_false (by omega)
    simp -implicitDefEqProofs (maxSteps := 2000000) (disch := first | omega | rfl | decide | exact Nat.le_of_ble_eq_true rfl) only [WS, WS2, K2_ap, KC_ap, FR.R.bind_ok, FR.R.bind_exc, FR.R.toS_ok, FR.R.toS_exc, List.getElem?_cons_zero, List.getElem?_cons_succ, List.set_cons_zero, List.set_cons_succ, List.map_cons, List.map_nil, List.cons_append, List.nil_append, List.append_nil, List.length_cons, List.length_nil, List.length_map, Option.map_some, Bool.not_true, Bool.not_false, decide_true, decide_false, if_true, if_false, List.reduceReplicate, Nat.reduceAdd, Nat.reduceSub, Bool.if_true_left, Bool.not_not, List.isEmpty_cons, List.isEmpty_nil, Bool.false_eq_true, Int.cast_ofNat_Int, Int.natCast_zero, Int.natCast_one, dec_self, Int.reduceLT, Int.reduceLE, Int.reduceEq, c3]
    exact ⟨(by first | rfl | trivial), (by first | rfl | trivial)⟩
  · rintro x xs _ _ hx ⟨tk, x2, x3, e, rfl, rfl⟩
    obtain ⟨w1, w2, m1⟩ := h.w x hx
    have c4 : (1 ≤ x.1) = True := eq_true w1
    have c5 : (x.1 ≤ 1000) = True := eq_true w2
    have c6 : (x.2 < 1) = False := eq_false (by omega)
    have tl : Nat.blt ((tk.map grP).map FR.D.p).length 1000000 = true := by
      have : tk.length ≤ 4 := by rw [← e, List.length_append] at h4; omega
      simp only [Nat.blt_eq, List.length_map]
      omega
    unfold grP at *
    simp -implicitDefEqProofs (maxSteps := 2000000) (disch := first | omega | rfl | decide | exact Nat.le_of_ble_eq_true rfl) only [WS, WS2, K2_ap, KC_ap, FR.R.bind_ok, FR.R.bind_exc, FR.R.toS_ok, FR.R.toS_exc, List.getElem?_cons_zero, List.getElem?_cons_succ, List.set_cons_zero, List.set_cons_succ, List.map_cons, List.map_nil, List.cons_append, List.nil_append, List.append_nil, List.length_cons, List.length_nil, List.length_map, Option.map_some, Bool.not_true, Bool.not_false, decide_true, decide_false, if_true, if_false, List.reduceReplicate, Nat.reduceAdd, Nat.reduceSub, Bool.if_true_left, Bool.not_not, List.isEmpty_cons, List.isEmpty_nil, Bool.false_eq_true, Int.cast_ofNat_Int, Int.natCast_zero, Int.natCast_one, dec_self, Int.reduceLT, Int.reduceLE, Int.reduceEq, B_Ground___init___1_ap, c4, c5, c6, tl]
    refine ⟨tk ++ [x], _, _, by rw [← e, List.append_assoc]; rfl, (by first | rfl | trivial), ?_⟩
    rw [grS_snoc, List.map_append, List.map_append]
    rfl

/-! a table of values 0 .. T as a list -/
def tabP (f : Nat → Int) (T : Nat) : List P := (List.range (T + 1)).map fun i => .int (f i)
theorem tab_len (f : Nat → Int) (T : Nat) : (tabP f T).length = T + 1 := by
  unfold tabP
  rw [List.length_map, List.length_range]
theorem tab_get {f : Nat → Int} {T i : Nat} (h : i ≤ T) : (tabP f T)[i]? = some (.int (f i)) := by
  unfold tabP
  rw [List.getElem?_map, List.getElem?_range (by omega)]
  rfl
theorem tab_ix {f : Nat → Int} {T j : Nat} (h : j ≤ T) {k : Int} (e : k = j) : ixN (tabP f T).length k = some j := by
  rw [tab_len, e]
  exact ix_n _ _ (by omega)
theorem tab_atP {f : Nat → Int} {T i : Nat} (h : i ≤ T) {k : Int} (e : k = i) : atI (tabP f T) k = some (.int (f i)) := by
  unfold atI
  rw [tab_ix h e]
  exact tab_get h
theorem tab_at {f : Nat → Int} {T i : Nat} (h : i ≤ T) {k : Int} (e : k = i) : atI ((tabP f T).map FR.D.p) k = some (.p (.int (f i))) := by
  unfold atI
  rw [List.length_map, tab_ix h e]
  show ((tabP f T).map FR.D.p)[i]? = _
  rw [List.getElem?_map, tab_get h]
  rfl
theorem tab_congr {f g : Nat → Int} {T : Nat} (h : ∀ n, n ≤ T → f n = g n) : tabP f T = tabP g T := by
  unfold tabP
  refine List.map_congr_left fun i hi => ?_
  rw [h i (by have := List.mem_range.mp hi; omega)]
theorem tab_set {f : Nat → Int} {T j : Nat} (v : Int) : ((tabP f T).map FR.D.p).set j (.p (.int v)) = (tabP (fun n => if n = j then v else f n) T).map FR.D.p := by
  refine List.ext_getElem? fun i => ?_
  by_cases hi : i ≤ T
  · rw [List.getElem?_map, tab_get hi]
    by_cases e : j = i
    · subst e
      rw [List.getElem?_set_self (by rw [List.length_map, tab_len]; omega), if_pos rfl]
      rfl
    · rw [List.getElem?_set_ne e, List.getElem?_map, tab_get hi, if_neg (Ne.symm e)]
  · rw [List.getElem?_eq_none (by rw [List.length_set, List.length_map, tab_len]; omega), List.getElem?_eq_none (by rw [List.length_map, tab_len]; omega)]
theorem tab_src (T : Nat) : FR.upTo 0 (T + 1) = ((List.range (T + 1)).map fun i : Nat => P.int (i : Int)).map FR.D.p := by
  unfold FR.upTo
  rw [List.map_map]
  refine List.map_congr_left fun i _ => ?_
  show FR.D.p (.int (0 + (i : Int))) = FR.D.p (.int (i : Int))
  rw [Int.zero_add]
/-- where a part is being added -/
def half (p i : Nat) (f : Nat → Int) : Nat → Int := fun n => if n < p + i then Ap p f n else f n
theorem half_0 (p : Nat) (f : Nat → Int) (T : Nat) : tabP (half p 0 f) T = tabP f T := tab_congr fun n _ => by
  unfold half
  split
  · exact Ap_lt (by omega)
  · rfl
theorem half_end {p T : Nat} {f : Nat → Int} {i : Nat} (h : T < p + i) : tabP (half p i f) T = tabP (Ap p f) T := tab_congr fun n hn => by
  unfold half
  rw [if_pos (by omega)]
theorem half_step {p i T : Nat} (hp : 1 ≤ p) {f : Nat → Int} : tabP (fun n => if n = p + i then half p i f (p + i) + half p i f i else half p i f n) T = tabP (half p (i + 1) f) T := tab_congr fun n _ => by
  unfold half
  by_cases e : n = p + i
  · subst e
    rw [if_pos rfl, if_neg (Nat.lt_irrefl _), if_pos (show i < p + i by omega), if_pos (show p + i < p + (i + 1) by omega), Ap_ge (n := p + i) hp (by omega), show p + i - p = i by omega]
  · rw [if_neg e]
    by_cases e2 : n < p + i
    · rw [if_pos e2, if_pos (by omega)]
    · rw [if_neg e2, if_neg (by omega)]

/-! the loops that add parts -/
theorem counts_in {T p : Nat} (hp : 1 ≤ p) (hT : T ≤ 40) (f : Nat → Int) (x0 x3 x5 : Option FR.D) {E : RS → Prop} : okS (forD none (gNm 5) B__law_counts_1 (FR.upTo (p : Int) ((T : Int) + 1 - (p : Int)).toNat) [x0, some (.p (.int T)), some (.r 0), x3, some (.p (.int p)), x5] [.lst ((tabP f T).map .p)])
    (fun ρ S => ∃ y : Option FR.D, ρ = [x0, some (.p (.int T)), some (.r 0), x3, some (.p (.int p)), y] ∧ S = [.lst ((tabP (Ap p f) T).map .p)]) E := by
  refine okS_range (p : Int) _ (fun i ρ S => ∃ y : Option FR.D, ρ = [x0, some (.p (.int T)), some (.r 0), x3, some (.p (.int p)), y] ∧ S = [.lst ((tabP (half p i f) T).map .p)]) ?_ ?_ _ _ ⟨_, rfl, by rw [half_0]⟩
  · rintro _ _ ⟨y, rfl, rfl⟩
    exact ⟨y, rfl, by rw [half_end (by omega)]⟩
  · rintro i _ _ hi ⟨y, rfl, rfl⟩
    have A1 := tab_at (f := half p i f) (T := T) (i := p + i) (by omega) (k := (p : Int) + (i : Int)) (by omega)
    have A2 := tab_at (f := half p i f) (T := T) (i := i) (by omega) (k := (p : Int) + (i : Int) - (p : Int)) (by omega)
    have IX := tab_ix (f := half p i f) (T := T) (j := p + i) (by omega) (k := (p : Int) + (i : Int)) (by omega)
    simp -implicitDefEqProofs (maxSteps := 2000000) (disch := first | omega | rfl | decide | exact Nat.le_of_ble_eq_true rfl) only [WS, WS2, K2_ap, KC_ap, FR.R.bind_ok, FR.R.bind_exc, FR.R.toS_ok, FR.R.toS_exc, List.getElem?_cons_zero, List.getElem?_cons_succ, List.set_cons_zero, List.set_cons_succ, List.map_cons, List.map_nil, List.cons_append, List.nil_append, List.append_nil, List.length_cons, List.length_nil, List.length_map, Option.map_some, Bool.not_true, Bool.not_false, decide_true, decide_false, if_true, if_false, List.reduceReplicate, Nat.reduceAdd, Nat.reduceSub, Bool.if_true_left, Bool.not_not, List.isEmpty_cons, List.isEmpty_nil, Bool.false_eq_true, Int.cast_ofNat_Int, Int.natCast_zero, Int.natCast_one, dec_self, Int.reduceLT, Int.reduceLE, Int.reduceEq, B__law_counts_1_ap, A1, A2, IX]
    exact ⟨_, (by first | rfl | trivial), by rw [tab_set, half_step hp]⟩
theorem counts_mid {T m : Nat} (hT : T ≤ 40) (hm : m ≤ 12) (f : Nat → Int) (x0 x3 x4 x5 : Option FR.D) {E : RS → Prop} : okS (forD none (gNm 4) B__law_counts_2 (FR.upTo 1 m) [x0, some (.p (.int T)), some (.r 0), x3, x4, x5] [.lst ((tabP f T).map .p)])
    (fun ρ S => ∃ y z : Option FR.D, ρ = [x0, some (.p (.int T)), some (.r 0), x3, y, z] ∧ S = [.lst ((tabP (prt m f) T).map .p)]) E := by
  refine okS_range 1 m (fun i ρ S => ∃ y z : Option FR.D, ρ = [x0, some (.p (.int T)), some (.r 0), x3, y, z] ∧ S = [.lst ((tabP (prt i f) T).map .p)]) ?_ ?_ _ _ ⟨_, _, rfl, rfl⟩
  · rintro _ _ ⟨y, z, rfl, rfl⟩
    exact ⟨y, z, rfl, rfl⟩
  · rintro i _ _ hi ⟨y, z, rfl, rfl⟩
    have e : (1 : Int) + (i : Int) = ((i + 1 : Nat) : Int) := by omega
    rw [e]
    simp -implicitDefEqProofs (maxSteps := 2000000) (disch := first | omega | rfl | decide | exact Nat.le_of_ble_eq_true rfl) only [WS, WS2, K2_ap, KC_ap, FR.R.bind_ok, FR.R.bind_exc, FR.R.toS_ok, FR.R.toS_exc, List.getElem?_cons_zero, List.getElem?_cons_succ, List.set_cons_zero, List.set_cons_succ, List.map_cons, List.map_nil, List.cons_append, List.nil_append, List.append_nil, List.length_cons, List.length_nil, List.length_map, Option.map_some, Bool.not_true, Bool.not_false, decide_true, decide_false, if_true, if_false, List.reduceReplicate, Nat.reduceAdd, Nat.reduceSub, Bool.if_true_left, Bool.not_not, List.isEmpty_cons, List.isEmpty_nil, Bool.false_eq_true, Int.cast_ofNat_Int, Int.natCast_zero, Int.natCast_one, dec_self, Int.reduceLT, Int.reduceLE, Int.reduceEq, srcR1_ap, srcR2_ap, B__law_counts_2_ap]
    have H := fun E => counts_in (E := E) (p := i + 1) (by omega) hT (prt i f) x0 x3 z
    refine okS_imp (H (retE fun _ _ => False)) ?_ ?_
    · rintro _ _ ⟨w, rfl, rfl⟩
      exact ⟨_, _, rfl, rfl⟩
    · intro r hr
      cases r <;> exact hr.elim
theorem parts_in {T p : Nat} (hp : 1 ≤ p) (hT : T ≤ 40) (f : Nat → Int) (x1 x4 x5 : Option FR.D) {E : RS → Prop} : okS (forD none (gNm 4) B_parts_of_1 (FR.upTo (p : Int) ((T : Int) + 1 - (p : Int)).toNat) [some (.p (.int T)), x1, some (.r 0), some (.p (.int p)), x4, x5] [.lst ((tabP f T).map .p)])
    (fun ρ S => ∃ y : Option FR.D, ρ = [some (.p (.int T)), x1, some (.r 0), some (.p (.int p)), y, x5] ∧ S = [.lst ((tabP (Ap p f) T).map .p)]) E := by
  refine okS_range (p : Int) _ (fun i ρ S => ∃ y : Option FR.D, ρ = [some (.p (.int T)), x1, some (.r 0), some (.p (.int p)), y, x5] ∧ S = [.lst ((tabP (half p i f) T).map .p)]) ?_ ?_ _ _ ⟨_, rfl, by rw [half_0]⟩
  · rintro _ _ ⟨y, rfl, rfl⟩
    exact ⟨y, rfl, by rw [half_end (by omega)]⟩
  · rintro i _ _ hi ⟨y, rfl, rfl⟩
    have A1 := tab_at (f := half p i f) (T := T) (i := p + i) (by omega) (k := (p : Int) + (i : Int)) (by omega)
    have A2 := tab_at (f := half p i f) (T := T) (i := i) (by omega) (k := (p : Int) + (i : Int) - (p : Int)) (by omega)
    have IX := tab_ix (f := half p i f) (T := T) (j := p + i) (by omega) (k := (p : Int) + (i : Int)) (by omega)
    simp -implicitDefEqProofs (maxSteps := 2000000) (disch := first | omega | rfl | decide | exact Nat.le_of_ble_eq_true rfl) only [WS, WS2, K2_ap, KC_ap, FR.R.bind_ok, FR.R.bind_exc, FR.R.toS_ok, FR.R.toS_exc, List.getElem?_cons_zero, List.getElem?_cons_succ, List.set_cons_zero, List.set_cons_succ, List.map_cons, List.map_nil, List.cons_append, List.nil_append, List.append_nil, List.length_cons, List.length_nil, List.length_map, Option.map_some, Bool.not_true, Bool.not_false, decide_true, decide_false, if_true, if_false, List.reduceReplicate, Nat.reduceAdd, Nat.reduceSub, Bool.if_true_left, Bool.not_not, List.isEmpty_cons, List.isEmpty_nil, Bool.false_eq_true, Int.cast_ofNat_Int, Int.natCast_zero, Int.natCast_one, dec_self, Int.reduceLT, Int.reduceLE, Int.reduceEq, B_parts_of_1_ap, A1, A2, IX]
    exact ⟨_, (by first | rfl | trivial), by rw [tab_set, half_step hp]⟩
theorem parts_mid {T m : Nat} (hT : T ≤ 40) (hm : m ≤ 12) (f : Nat → Int) (x1 x3 x4 x5 : Option FR.D) {E : RS → Prop} : okS (forD none (gNm 3) B_parts_of_2 (FR.upTo 1 m) [some (.p (.int T)), x1, some (.r 0), x3, x4, x5] [.lst ((tabP f T).map .p)])
    (fun ρ S => ∃ y z : Option FR.D, ρ = [some (.p (.int T)), x1, some (.r 0), y, z, x5] ∧ S = [.lst ((tabP (prt m f) T).map .p)]) E := by
  refine okS_range 1 m (fun i ρ S => ∃ y z : Option FR.D, ρ = [some (.p (.int T)), x1, some (.r 0), y, z, x5] ∧ S = [.lst ((tabP (prt i f) T).map .p)]) ?_ ?_ _ _ ⟨_, _, rfl, rfl⟩
  · rintro _ _ ⟨y, z, rfl, rfl⟩
    exact ⟨y, z, rfl, rfl⟩
  · rintro i _ _ hi ⟨y, z, rfl, rfl⟩
    have e : (1 : Int) + (i : Int) = ((i + 1 : Nat) : Int) := by omega
    rw [e]
    simp -implicitDefEqProofs (maxSteps := 2000000) (disch := first | omega | rfl | decide | exact Nat.le_of_ble_eq_true rfl) only [WS, WS2, K2_ap, KC_ap, FR.R.bind_ok, FR.R.bind_exc, FR.R.toS_ok, FR.R.toS_exc, List.getElem?_cons_zero, List.getElem?_cons_succ, List.set_cons_zero, List.set_cons_succ, List.map_cons, List.map_nil, List.cons_append, List.nil_append, List.append_nil, List.length_cons, List.length_nil, List.length_map, Option.map_some, Bool.not_true, Bool.not_false, decide_true, decide_false, if_true, if_false, List.reduceReplicate, Nat.reduceAdd, Nat.reduceSub, Bool.if_true_left, Bool.not_not, List.isEmpty_cons, List.isEmpty_nil, Bool.false_eq_true, Int.cast_ofNat_Int, Int.natCast_zero, Int.natCast_one, dec_self, Int.reduceLT, Int.reduceLE, Int.reduceEq, srcR1_ap, srcR2_ap, B_parts_of_2_ap]
    have H := fun E => parts_in (E := E) (p := i + 1) (by omega) hT (prt i f) x1 z x5
    refine okS_imp (H (retE fun _ _ => False)) ?_ ?_
    · rintro _ _ ⟨w, rfl, rfl⟩
      exact ⟨_, _, rfl, rfl⟩
    · intro r hr
      cases r <;> exact hr.elim

/-! what the law counts, what the program counts -/
def gm (r : GR) : Nat := r.2.toNat
theorem law_counts_ok {l : List GR} (hl : ∀ r ∈ l, 1 ≤ r.2 ∧ r.2 ≤ 12) (h4 : l.length ≤ 4) {T : Nat} (hT : T ≤ 40) : F__law_counts [.p (.lst (l.map grP)), .p (.int T)] [] = .ok (.p (.lst (tabP (cnt dl (l.map gm)) T))) [.dead] := by
  refine okR_eq ?_
  have CR := lcR_mapA (fi := iOfA srcR1 (aCons (c2 gAddI (fVar 1) (fC (.int 1))) aNil)) (g := pNm 5) (e := cA gInt1 (aCons (c2 gEqF (fVar 5) (fC (.int 0))) aNil)) (own := [5]) (ρ := [some (.p (.lst (l.map grP))), some (.p (.int T)), none, none, none, none]) (S := []) (S0 := []) (fun i : Nat => P.int i) (fun i => .int (dl i)) (List.range (T + 1))
    (by simp -implicitDefEqProofs (maxSteps := 2000000) (disch := first | omega | rfl | decide | exact Nat.le_of_ble_eq_true rfl) only [WS, WS2, K2_ap, KC_ap, FR.R.bind_ok, FR.R.bind_exc, FR.R.toS_ok, FR.R.toS_exc, List.getElem?_cons_zero, List.getElem?_cons_succ, List.set_cons_zero, List.set_cons_succ, List.map_cons, List.map_nil, List.cons_append, List.nil_append, List.append_nil, List.length_cons, List.length_nil, List.length_map, Option.map_some, Bool.not_true, Bool.not_false, decide_true, decide_false, if_true, if_false, List.reduceReplicate, Nat.reduceAdd, Nat.reduceSub, Bool.if_true_left, Bool.not_not, List.isEmpty_cons, List.isEmpty_nil, Bool.false_eq_true, Int.cast_ofNat_Int, Int.natCast_zero, Int.natCast_one, dec_self, Int.reduceLT, Int.reduceLE, Int.reduceEq, srcR1_ap, srcR2_ap]; rw [show ((T : Int) + 1).toNat = T + 1 by omega, tab_src])
    (fun i hi => ⟨_, rfl, fun ac => by
      unfold dl
      by_cases z : i = 0
      · subst z
        simp -implicitDefEqProofs (maxSteps := 2000000) (disch := first | omega | rfl | decide | exact Nat.le_of_ble_eq_true rfl) only [WS, WS2, K2_ap, KC_ap, FR.R.bind_ok, FR.R.bind_exc, FR.R.toS_ok, FR.R.toS_exc, List.getElem?_cons_zero, List.getElem?_cons_succ, List.set_cons_zero, List.set_cons_succ, List.map_cons, List.map_nil, List.cons_append, List.nil_append, List.append_nil, List.length_cons, List.length_nil, List.length_map, Option.map_some, Bool.not_true, Bool.not_false, decide_true, decide_false, if_true, if_false, List.reduceReplicate, Nat.reduceAdd, Nat.reduceSub, Bool.if_true_left, Bool.not_not, List.isEmpty_cons, List.isEmpty_nil, Bool.false_eq_true, Int.cast_ofNat_Int, Int.natCast_zero, Int.natCast_one, dec_self, Int.reduceLT, Int.reduceLE, Int.reduceEq, wipeD]
      · have z2 : ((i : Int) = 0) = False := eq_false (by omega)
        simp -implicitDefEqProofs (maxSteps := 2000000) (disch := first | omega | rfl | decide | exact Nat.le_of_ble_eq_true rfl) only [WS, WS2, K2_ap, KC_ap, FR.R.bind_ok, FR.R.bind_exc, FR.R.toS_ok, FR.R.toS_exc, List.getElem?_cons_zero, List.getElem?_cons_succ, List.set_cons_zero, List.set_cons_succ, List.map_cons, List.map_nil, List.cons_append, List.nil_append, List.append_nil, List.length_cons, List.length_nil, List.length_map, Option.map_some, Bool.not_true, Bool.not_false, decide_true, decide_false, if_true, if_false, List.reduceReplicate, Nat.reduceAdd, Nat.reduceSub, Bool.if_true_left, Bool.not_not, List.isEmpty_cons, List.isEmpty_nil, Bool.false_eq_true, Int.cast_ofNat_Int, Int.natCast_zero, Int.natCast_one, dec_self, Int.reduceLT, Int.reduceLE, Int.reduceEq, wipeD, z, z2]⟩) (by rw [List.length_range]; omega) rfl
  rw [List.nil_append] at CR
  unfold F__law_counts
  simp -implicitDefEqProofs (maxSteps := 2000000) (disch := first | omega | rfl | decide | exact Nat.le_of_ble_eq_true rfl) only [WS, WS2, K2_ap, KC_ap, FR.R.bind_ok, FR.R.bind_exc, FR.R.toS_ok, FR.R.toS_exc, List.getElem?_cons_zero, List.getElem?_cons_succ, List.set_cons_zero, List.set_cons_succ, List.map_cons, List.map_nil, List.cons_append, List.nil_append, List.append_nil, List.length_cons, List.length_nil, List.length_map, Option.map_some, Bool.not_true, Bool.not_false, decide_true, decide_false, if_true, if_false, List.reduceReplicate, Nat.reduceAdd, Nat.reduceSub, Bool.if_true_left, Bool.not_not, List.isEmpty_cons, List.isEmpty_nil, Bool.false_eq_true, Int.cast_ofNat_Int, Int.natCast_zero, Int.natCast_one, dec_self, Int.reduceLT, Int.reduceLE, Int.reduceEq, CR]
  refine okS_mapM grP (fun xs ρ S => ∃ (tk : List GR) (x3 x4 x5 : Option FR.D), tk ++ xs = l ∧ ρ = [some (.p (.lst (l.map grP))), some (.p (.int T)), some (.r 0), x3, x4, x5] ∧ S = [.lst ((tabP (cnt dl (tk.map gm)) T).map .p)]) l ?_ ?_ _ _ ⟨[], none, none, none, rfl, rfl, rfl⟩
  · rintro _ _ ⟨tk, x3, x4, x5, e, rfl, rfl⟩
    rw [List.append_nil] at e
    subst e
    have FZ := kFz_pl [Cell.lst ((tabP (cnt dl (tk.map gm)) T).map .p)] 0 (tabP (cnt dl (tk.map gm)) T) rfl
    simp -implicitDefEqProofs (maxSteps := 2000000) (disch := first | omega | rfl | decide | exact Nat.le_of_ble_eq_true rfl) only [WS, WS2, K2_ap, KC_ap, FR.R.bind_ok, FR.R.bind_exc, FR.R.toS_ok, FR.R.toS_exc, List.getElem?_cons_zero, List.getElem?_cons_succ, List.set_cons_zero, List.set_cons_succ, List.map_cons, List.map_nil, List.cons_append, List.nil_append, List.append_nil, List.length_cons, List.length_nil, List.length_map, Option.map_some, Bool.not_true, Bool.not_false, decide_true, decide_false, if_true, if_false, List.reduceReplicate, Nat.reduceAdd, Nat.reduceSub, Bool.if_true_left, Bool.not_not, List.isEmpty_cons, List.isEmpty_nil, Bool.false_eq_true, Int.cast_ofNat_Int, Int.natCast_zero, Int.natCast_one, dec_self, Int.reduceLT, Int.reduceLE, Int.reduceEq, FZ]
    exact ⟨(by first | rfl | trivial), (by first | rfl | trivial)⟩
  · rintro x xs _ _ hx ⟨tk, x3, x4, x5, e, rfl, rfl⟩
    obtain ⟨m1, m2⟩ := hl x hx
    have ex : (x.2 + 1 - 1).toNat = gm x := by unfold gm; omega
    have hm : gm x ≤ 12 := by unfold gm; omega
    unfold grP
    simp -implicitDefEqProofs (maxSteps := 2000000) (disch := first | omega | rfl | decide | exact Nat.le_of_ble_eq_true rfl) only [WS, WS2, K2_ap, KC_ap, FR.R.bind_ok, FR.R.bind_exc, FR.R.toS_ok, FR.R.toS_exc, List.getElem?_cons_zero, List.getElem?_cons_succ, List.set_cons_zero, List.set_cons_succ, List.map_cons, List.map_nil, List.cons_append, List.nil_append, List.append_nil, List.length_cons, List.length_nil, List.length_map, Option.map_some, Bool.not_true, Bool.not_false, decide_true, decide_false, if_true, if_false, List.reduceReplicate, Nat.reduceAdd, Nat.reduceSub, Bool.if_true_left, Bool.not_not, List.isEmpty_cons, List.isEmpty_nil, Bool.false_eq_true, Int.cast_ofNat_Int, Int.natCast_zero, Int.natCast_one, dec_self, Int.reduceLT, Int.reduceLE, Int.reduceEq, srcR1_ap, srcR2_ap, B__law_counts_3_ap]
    rw [ex]
    have H := fun E => counts_mid (E := E) hT hm (cnt dl (tk.map gm)) (some (.p (.lst (l.map grP)))) (some (.p (.tup [.int x.1, .int x.2]))) x4 x5
    refine okS_imp (H (retE fun _ _ => False)) ?_ ?_
    · rintro _ _ ⟨y, z, rfl, rfl⟩
      refine ⟨tk ++ [x], _, _, _, by rw [← e, List.append_assoc]; rfl, rfl, ?_⟩
      rw [List.map_append]
      show _ = [Cell.lst ((tabP ((tk.map gm ++ [gm x]).foldl (fun w m => prt m w) dl) T).map .p)]
      rw [List.foldl_append]
      rfl
    · intro r hr
      cases r <;> exact hr.elim
theorem ones (T : Nat) : P.int 1 :: ((List.range T).map fun _ => P.int 0) = tabP dl T := by
  unfold tabP
  rw [List.range_succ_eq_map, List.map_cons, List.map_map]
  rfl
theorem ones1 (T : Nat) : FR.D.p (P.int 1) :: ((List.range T).map fun _ => P.int 0).map FR.D.p = (tabP dl T).map FR.D.p := by
  rw [← ones, List.map_cons]
theorem ones_lc {T : Nat} (hT : T ≤ 40) {ρ : FR.Env} {i j : Nat} (hρ : ρ[i]? = some (some (.p (.int (T : Int))))) (S : Store) (hS : S.all (Cell.below S.length) = true) :
    fLc (iOfA srcR1 (aCons (fVar i) aNil)) (pNm j) fYes (fC (.int 0)) [j] ρ S = .ok (.p (.lst ((List.range T).map fun _ => P.int 0))) S := by
  refine lc_mapA (fun k : Nat => P.int k) (fun _ => P.int 0) (List.range T) ?_ (fun k _ => ⟨_, rfl, fun ac => rfl⟩) (by rw [List.length_range]; omega) hS
  have e : FR.upTo 0 T = ((List.range T).map fun k : Nat => P.int (k : Int)).map FR.D.p := by
    unfold FR.upTo
    rw [List.map_map]
    refine List.map_congr_left fun k _ => ?_
    show FR.D.p (.int (0 + (k : Int))) = FR.D.p (.int (k : Int))
    rw [Int.zero_add]
  simp -implicitDefEqProofs (maxSteps := 2000000) (disch := first | omega | rfl | decide | exact Nat.le_of_ble_eq_true rfl) only [WS, WS2, K2_ap, KC_ap, FR.R.bind_ok, FR.R.bind_exc, FR.R.toS_ok, FR.R.toS_exc, List.getElem?_cons_zero, List.getElem?_cons_succ, List.set_cons_zero, List.set_cons_succ, List.map_cons, List.map_nil, List.cons_append, List.nil_append, List.append_nil, List.length_cons, List.length_nil, List.length_map, Option.map_some, Bool.not_true, Bool.not_false, decide_true, decide_false, if_true, if_false, List.reduceReplicate, Nat.reduceAdd, Nat.reduceSub, Bool.if_true_left, Bool.not_not, List.isEmpty_cons, List.isEmpty_nil, Bool.false_eq_true, Int.cast_ofNat_Int, Int.natCast_zero, Int.natCast_one, dec_self, Int.reduceLT, Int.reduceLE, Int.reduceEq, srcR1_ap, srcR2_ap, hρ]
  rw [show ((T : Int)).toNat = T by omega, e]
theorem parts_ok {T m : Nat} (hT : T ≤ 40) (hm : m ≤ 12) : F_parts_of [.p (.int T), .p (.int m)] [] = .ok (.p (.lst (tabP (prt m dl) T))) [.dead] := by
  refine okR_eq ?_
  have LC := ones_lc (T := T) hT (ρ := [some (.p (.int T)), some (.p (.int m)), none, none, none, none]) (i := 0) (j := 5) rfl [] rfl
  have l1 : ((List.range T).map fun _ => P.int 0).length ≤ 500000 := by rw [List.length_map, List.length_range]; omega
  have KC := kCatR_ap [] [P.int 1] ((List.range T).map fun _ => P.int 0) (by decide) l1
  unfold F_parts_of
  simp -implicitDefEqProofs (maxSteps := 2000000) (disch := first | omega | rfl | decide | exact Nat.le_of_ble_eq_true rfl) only [WS, WS2, K2_ap, KC_ap, FR.R.bind_ok, FR.R.bind_exc, FR.R.toS_ok, FR.R.toS_exc, List.getElem?_cons_zero, List.getElem?_cons_succ, List.set_cons_zero, List.set_cons_succ, List.map_cons, List.map_nil, List.cons_append, List.nil_append, List.append_nil, List.length_cons, List.length_nil, List.length_map, Option.map_some, Bool.not_true, Bool.not_false, decide_true, decide_false, if_true, if_false, List.reduceReplicate, Nat.reduceAdd, Nat.reduceSub, Bool.if_true_left, Bool.not_not, List.isEmpty_cons, List.isEmpty_nil, Bool.false_eq_true, Int.cast_ofNat_Int, Int.natCast_zero, Int.natCast_one, dec_self, Int.reduceLT, Int.reduceLE, Int.reduceEq, srcR1_ap, srcR2_ap, LC, KC]
  rw [show ((m : Int) + 1 - 1).toNat = m by omega, ones1]
  have H := fun E => parts_mid (E := E) hT hm dl (some (.p (.int m))) none none none
  refine okS_imp (H (retE fun _ _ => False)) ?_ ?_
  · rintro _ _ ⟨y, z, rfl, rfl⟩
    have FZ := kFz_pl [Cell.lst ((tabP (prt m dl) T).map .p)] 0 (tabP (prt m dl) T) rfl
    simp -implicitDefEqProofs (maxSteps := 2000000) (disch := first | omega | rfl | decide | exact Nat.le_of_ble_eq_true rfl) only [WS, WS2, K2_ap, KC_ap, FR.R.bind_ok, FR.R.bind_exc, FR.R.toS_ok, FR.R.toS_exc, List.getElem?_cons_zero, List.getElem?_cons_succ, List.set_cons_zero, List.set_cons_succ, List.map_cons, List.map_nil, List.cons_append, List.nil_append, List.append_nil, List.length_cons, List.length_nil, List.length_map, Option.map_some, Bool.not_true, Bool.not_false, decide_true, decide_false, if_true, if_false, List.reduceReplicate, Nat.reduceAdd, Nat.reduceSub, Bool.if_true_left, Bool.not_not, List.isEmpty_cons, List.isEmpty_nil, Bool.false_eq_true, Int.cast_ofNat_Int, Int.natCast_zero, Int.natCast_one, dec_self, Int.reduceLT, Int.reduceLE, Int.reduceEq, FZ]
    exact ⟨(by first | rfl | trivial), (by first | rfl | trivial)⟩
  · intro r hr
    cases r <;> exact hr.elim
theorem sum_rs (h : Nat → Int) : ∀ n : Nat, ((List.range n).map h).sum = rs h n
  | 0 => rfl
  | n + 1 => by
    rw [List.range_succ, List.map_append, List.sum_append, sum_rs h n]
    show rs h n + (h n + 0) = rs h n + h n
    omega
theorem conv_ok {T : Nat} (hT : T ≤ 40) {f g : Nat → Int} (hf : Bnd 12 f) (hg : Bnd 12 g) (x0 x3 x4 x6 x7 : Option FR.D) :
    fLc (iOfA srcR1 (aCons (c2 gAddI (fVar 1) (fC (.int 1))) aNil)) (pNm 6) fYes (cA gSumI (aCons (fLc (iOfA srcR1 (aCons (c2 gAddI (fVar 6) (fC (.int 1))) aNil)) (pNm 7) fYes (c2 gMulI (c2 gIx (fVar 2) (fVar 7)) (c2 gIx (fVar 5) (c2 gSubI (fVar 6) (fVar 7)))) [7]) aNil)) [6]
      [x0, some (.p (.int T)), some (.p (.lst (tabP f T))), x3, x4, some (.p (.lst (tabP g T))), x6, x7] [] = .ok (.p (.lst (tabP (cv f g) T))) [] := by
  refine lc_mapB (fun i : Nat => P.int i) (fun i => .int (cv f g i)) (List.range (T + 1)) ?_ (fun n hn => ⟨_, rfl, fun ac => ?_⟩) (by rw [List.length_range]; omega) rfl
  · simp -implicitDefEqProofs (maxSteps := 2000000) (disch := first | omega | rfl | decide | exact Nat.le_of_ble_eq_true rfl) only [WS, WS2, K2_ap, KC_ap, FR.R.bind_ok, FR.R.bind_exc, FR.R.toS_ok, FR.R.toS_exc, List.getElem?_cons_zero, List.getElem?_cons_succ, List.set_cons_zero, List.set_cons_succ, List.map_cons, List.map_nil, List.cons_append, List.nil_append, List.append_nil, List.length_cons, List.length_nil, List.length_map, Option.map_some, Bool.not_true, Bool.not_false, decide_true, decide_false, if_true, if_false, List.reduceReplicate, Nat.reduceAdd, Nat.reduceSub, Bool.if_true_left, Bool.not_not, List.isEmpty_cons, List.isEmpty_nil, Bool.false_eq_true, Int.cast_ofNat_Int, Int.natCast_zero, Int.natCast_one, dec_self, Int.reduceLT, Int.reduceLE, Int.reduceEq, srcR1_ap, srcR2_ap]
    rw [show ((T : Int) + 1).toNat = T + 1 by omega, tab_src]
  · have hn' : n ≤ T := by have := List.mem_range.mp hn; omega
    have LC := lc_mapB (fi := iOfA srcR1 (aCons (c2 gAddI (fVar 6) (fC (.int 1))) aNil)) (g := pNm 7) (e := c2 gMulI (c2 gIx (fVar 2) (fVar 7)) (c2 gIx (fVar 5) (c2 gSubI (fVar 6) (fVar 7)))) (own := [7]) (ρ := [x0, some (.p (.int T)), some (.p (.lst (tabP f T))), x3, x4, some (.p (.lst (tabP g T))), some (.p (.int n)), x7]) (S := [.lst (ac.map .p)]) (S0 := [.lst (ac.map .p)]) (fun i : Nat => P.int i) (fun k => .int (f k * g (n - k))) (List.range (n + 1))
      (by simp -implicitDefEqProofs (maxSteps := 2000000) (disch := first | omega | rfl | decide | exact Nat.le_of_ble_eq_true rfl) only [WS, WS2, K2_ap, KC_ap, FR.R.bind_ok, FR.R.bind_exc, FR.R.toS_ok, FR.R.toS_exc, List.getElem?_cons_zero, List.getElem?_cons_succ, List.set_cons_zero, List.set_cons_succ, List.map_cons, List.map_nil, List.cons_append, List.nil_append, List.append_nil, List.length_cons, List.length_nil, List.length_map, Option.map_some, Bool.not_true, Bool.not_false, decide_true, decide_false, if_true, if_false, List.reduceReplicate, Nat.reduceAdd, Nat.reduceSub, Bool.if_true_left, Bool.not_not, List.isEmpty_cons, List.isEmpty_nil, Bool.false_eq_true, Int.cast_ofNat_Int, Int.natCast_zero, Int.natCast_one, dec_self, Int.reduceLT, Int.reduceLE, Int.reduceEq, srcR1_ap, srcR2_ap]; rw [show ((n : Int) + 1).toNat = n + 1 by omega, tab_src])
      (fun k hk => ⟨_, rfl, fun ac2 => by
        have hk' : k ≤ n := by have := List.mem_range.mp hk; omega
        have A1 := tab_atP (f := f) (T := T) (i := k) (by omega) (k := (k : Int)) rfl
        have A2 := tab_atP (f := g) (T := T) (i := n - k) (by omega) (k := (n : Int) - (k : Int)) (by omega)
        have M := fun S => gMulI_ok S (f k) (g (n - k)) ((hf.bd (by omega)).mulOk (hg.bd (by omega)) (by decide))
        simp -implicitDefEqProofs (maxSteps := 2000000) (disch := first | omega | rfl | decide | exact Nat.le_of_ble_eq_true rfl) only [WS, WS2, K2_ap, KC_ap, FR.R.bind_ok, FR.R.bind_exc, FR.R.toS_ok, FR.R.toS_exc, List.getElem?_cons_zero, List.getElem?_cons_succ, List.set_cons_zero, List.set_cons_succ, List.map_cons, List.map_nil, List.cons_append, List.nil_append, List.append_nil, List.length_cons, List.length_nil, List.length_map, Option.map_some, Bool.not_true, Bool.not_false, decide_true, decide_false, if_true, if_false, List.reduceReplicate, Nat.reduceAdd, Nat.reduceSub, Bool.if_true_left, Bool.not_not, List.isEmpty_cons, List.isEmpty_nil, Bool.false_eq_true, Int.cast_ofNat_Int, Int.natCast_zero, Int.natCast_one, dec_self, Int.reduceLT, Int.reduceLE, Int.reduceEq, wipeD, A1, A2, M]⟩) (by rw [List.length_range]; omega) (Calm.all (Calm.one (calm_lst ac)) _)
    have e : ((List.range (n + 1)).map fun k => P.int (f k * g (n - k))) = ((List.range (n + 1)).map fun k => f k * g (n - k)).map P.int := by rw [List.map_map]; rfl
    rw [e] at LC
    simp -implicitDefEqProofs (maxSteps := 2000000) (disch := first | omega | rfl | decide | exact Nat.le_of_ble_eq_true rfl) only [WS, WS2, K2_ap, KC_ap, FR.R.bind_ok, FR.R.bind_exc, FR.R.toS_ok, FR.R.toS_exc, List.getElem?_cons_zero, List.getElem?_cons_succ, List.set_cons_zero, List.set_cons_succ, List.map_cons, List.map_nil, List.cons_append, List.nil_append, List.append_nil, List.length_cons, List.length_nil, List.length_map, Option.map_some, Bool.not_true, Bool.not_false, decide_true, decide_false, if_true, if_false, List.reduceReplicate, Nat.reduceAdd, Nat.reduceSub, Bool.if_true_left, Bool.not_not, List.isEmpty_cons, List.isEmpty_nil, Bool.false_eq_true, Int.cast_ofNat_Int, Int.natCast_zero, Int.natCast_one, dec_self, Int.reduceLT, Int.reduceLE, Int.reduceEq, wipeD, LC]
    rw [sum_rs]
    rfl
theorem spreads_ok {l : List GR} (h : GrOk l) {T : Nat} (hT : T ≤ 40) : F_Ground_count_spreads [.p (grdP l), .p (.int T)] [] = .ok (.p (.int (cnt dl (l.map gm) T))) [] := by
  refine okR_eq ?_
  have LC := ones_lc (T := T) hT (ρ := [some (.p (grdP l)), some (.p (.int T)), none, none, none, none, none, none]) (i := 1) (j := 3) rfl [] rfl
  have l1 : ((List.range T).map fun _ => P.int 0).length ≤ 500000 := by rw [List.length_map, List.length_range]; omega
  have KC := gCatL_ap [P.int 1] ((List.range T).map fun _ => P.int 0) [] (by decide) l1
  have c1 : ((0 : Int) ≤ (T : Int)) = True := eq_true (by omega)
  have c2 : ((T : Int) ≤ 40) = True := eq_true (by omega)
  unfold F_Ground_count_spreads
  unfold grdP at *
  simp -implicitDefEqProofs (maxSteps := 2000000) (disch := first | omega | rfl | decide | exact Nat.le_of_ble_eq_true rfl) only [WS, WS2, K2_ap, KC_ap, FR.R.bind_ok, FR.R.bind_exc, FR.R.toS_ok, FR.R.toS_exc, List.getElem?_cons_zero, List.getElem?_cons_succ, List.set_cons_zero, List.set_cons_succ, List.map_cons, List.map_nil, List.cons_append, List.nil_append, List.append_nil, List.length_cons, List.length_nil, List.length_map, Option.map_some, Bool.not_true, Bool.not_false, decide_true, decide_false, if_true, if_false, List.reduceReplicate, Nat.reduceAdd, Nat.reduceSub, Bool.if_true_left, Bool.not_not, List.isEmpty_cons, List.isEmpty_nil, Bool.false_eq_true, Int.cast_ofNat_Int, Int.natCast_zero, Int.natCast_one, dec_self, Int.reduceLT, Int.reduceLE, Int.reduceEq, c1, c2, LC, KC]
  rw [ones]
  refine okS_mapM grP (fun xs ρ S => ∃ (tk : List GR) (x3 x4 x5 x6 x7 : Option FR.D), tk ++ xs = l ∧ Bnd (grS tk).toNat (cnt dl (tk.map gm)) ∧ ρ = [some (.p (.obj .Ground [(.classes, .lst (l.map grP)), (.fields, .int (grS l))])), some (.p (.int T)), some (.p (.lst (tabP (cnt dl (tk.map gm)) T))), x3, x4, x5, x6, x7] ∧ S = []) l ?_ ?_ _ _ ⟨[], none, none, none, none, none, rfl, bnd_dl, rfl, rfl⟩
  · rintro _ _ ⟨tk, x3, x4, x5, x6, x7, e, hb, rfl, rfl⟩
    rw [List.append_nil] at e
    subst e
    have A := tab_atP (f := cnt dl (tk.map gm)) (T := T) (i := T) (by omega) (k := (T : Int)) rfl
    simp -implicitDefEqProofs (maxSteps := 2000000) (disch := first | omega | rfl | decide | exact Nat.le_of_ble_eq_true rfl) only [WS, WS2, K2_ap, KC_ap, FR.R.bind_ok, FR.R.bind_exc, FR.R.toS_ok, FR.R.toS_exc, List.getElem?_cons_zero, List.getElem?_cons_succ, List.set_cons_zero, List.set_cons_succ, List.map_cons, List.map_nil, List.cons_append, List.nil_append, List.append_nil, List.length_cons, List.length_nil, List.length_map, Option.map_some, Bool.not_true, Bool.not_false, decide_true, decide_false, if_true, if_false, List.reduceReplicate, Nat.reduceAdd, Nat.reduceSub, Bool.if_true_left, Bool.not_not, List.isEmpty_cons, List.isEmpty_nil, Bool.false_eq_true, Int.cast_ofNat_Int, Int.natCast_zero, Int.natCast_one, dec_self, Int.reduceLT, Int.reduceLE, Int.reduceEq, A]
    exact ⟨(by first | rfl | trivial), (by first | rfl | trivial)⟩
  · rintro x xs _ _ hx ⟨tk, x3, x4, x5, x6, x7, e, hb, rfl, rfl⟩
    have m1 := (h.w x hx).2.2
    have hs := h.s
    have s0 : ∀ l : List GR, (∀ r ∈ l, 1 ≤ r.2) → 0 ≤ grS l := by
      intro l
      induction l with
      | nil => intro _; decide
      | cons a l ih =>
        intro hh
        have := ih fun r hr => hh r (List.mem_cons_of_mem _ hr)
        have := hh a List.mem_cons_self
        show 0 ≤ a.2 + grS l
        omega
    have mem : ∀ z ∈ tk, z ∈ l := fun z hz => by rw [← e]; exact List.mem_append_left _ hz
    have memx : ∀ z ∈ xs, z ∈ l := fun z hz => by rw [← e]; exact List.mem_append_right _ (List.mem_cons_of_mem _ hz)
    have s1 := s0 tk fun r hr => (h.w r (mem r hr)).2.2
    have s2 := s0 xs fun r hr => (h.w r (memx r hr)).2.2
    have es : grS l = grS tk + (x.2 + grS xs) := by
      rw [← e]
      unfold grS
      rw [List.map_append, List.sum_append]
      rfl
    have hm : gm x ≤ 12 := by unfold gm; omega
    have em : x.2 = (gm x : Int) := by unfold gm; omega
    have PO := parts_ok hT hm
    have CV := conv_ok hT (hb.mono (show (grS tk).toNat ≤ 12 by omega)) ((bnd_dl.prt (gm x)).mono (show 0 + gm x ≤ 12 by omega)) (some (.p (.obj .Ground [(.classes, .lst (l.map grP)), (.fields, .int (grS l))]))) (some (.p (.int x.1))) (some (.p (.int (gm x)))) x6 x7
    rw [cv_prt_dl] at CV
    unfold grP
    rw [em]
    unfold grP at CV
    simp -implicitDefEqProofs (maxSteps := 2000000) (disch := first | omega | rfl | decide | exact Nat.le_of_ble_eq_true rfl) only [WS, WS2, K2_ap, KC_ap, FR.R.bind_ok, FR.R.bind_exc, FR.R.toS_ok, FR.R.toS_exc, List.getElem?_cons_zero, List.getElem?_cons_succ, List.set_cons_zero, List.set_cons_succ, List.map_cons, List.map_nil, List.cons_append, List.nil_append, List.append_nil, List.length_cons, List.length_nil, List.length_map, Option.map_some, Bool.not_true, Bool.not_false, decide_true, decide_false, if_true, if_false, List.reduceReplicate, Nat.reduceAdd, Nat.reduceSub, Bool.if_true_left, Bool.not_not, List.isEmpty_cons, List.isEmpty_nil, Bool.false_eq_true, Int.cast_ofNat_Int, Int.natCast_zero, Int.natCast_one, dec_self, Int.reduceLT, Int.reduceLE, Int.reduceEq, B_Ground_count_spreads_1_ap, PO, CV]
    have ec : cnt dl ((tk ++ [x]).map gm) = prt (gm x) (cnt dl (tk.map gm)) := by
      rw [List.map_append]
      show (tk.map gm ++ [gm x]).foldl (fun w m => prt m w) dl = _
      rw [List.foldl_append]
      rfl
    have hb2 : Bnd (grS (tk ++ [x])).toNat (cnt dl ((tk ++ [x]).map gm)) := by
      rw [grS_snoc, show (grS tk + x.2).toNat = (grS tk).toNat + gm x by unfold gm; omega, ec]
      exact hb.prt (gm x)
    rw [← ec]
    exact ⟨tk ++ [x], _, _, _, _, _, by rw [← e, List.append_assoc]; rfl, hb2, rfl, (by first | rfl | trivial)⟩
theorem mk_ground {l : List GR} (h : GrOk l) (S : Store) : mkL .Ground 2 F_Ground___init__ [] [.p (.tup (l.map grP))] S = .ok (.p (grdP l)) S := by
  unfold mkL
  rw [show pureL [FR.D.p (.tup (l.map grP))] = some [P.tup (l.map grP)] from rfl]
  show (if [P.tup (l.map grP)].length + ([] : List P).length + 1 = 2 then (match F_Ground___init__ [.r 0, .p (.tup (l.map grP))] [.ins .Ground []] with
    | .ok (.p .non) (.ins c' gs :: S') => (match stillF (.ins c' gs :: S') gs with
      | some k => FR.R.ok (FR.D.p (.obj c' k)) S
      | none => .stuck)
    | .exc x _ => .exc x S
    | _ => .stuck) else .stuck) = _
  rw [if_pos (by rfl), ground_init h]
  dsimp only
  have : stillF [.ins .Ground [(.classes, .r 1), (.fields, .p (.int (grS l)))], .lst ((l.map grP).map .p)] [(.classes, .r 1), (.fields, .p (.int (grS l)))] = some [(.classes, .lst (l.map grP)), (.fields, .int (grS l))] := by
    have h1 : stillD [.ins .Ground [(.classes, .r 1), (.fields, .p (.int (grS l)))], .lst ((l.map grP).map .p)] (.r 1) = some (.lst (l.map grP)) := by
      show (pureL ((l.map grP).map .p)).map P.lst = _
      rw [pureL_map]
      rfl
    show (match stillD _ (.r 1), some [(Fld.fields, P.int (grS l))] with
      | some q, some k => some ((Fld.classes, q) :: k)
      | _, _ => none) = _
    rw [h1]
  rw [this]
  rfl
theorem law_ground_ok {l : List GR} (h : GrOk l) : F__law_ground [.p (.lst (l.map grP))] [] = .ok (.p (grdP l)) [] := by
  have M := fun S => mk_ground h S
  have h1 := h.l1
  have h4 := h.l4
  clear h
  unfold grdP at M ⊢
  match l, h1, h4 with
  | [a], _, _ =>
    simp only [List.map_cons, List.map_nil] at M ⊢
    unfold F__law_ground
    simp -implicitDefEqProofs (maxSteps := 2000000) (disch := first | omega | rfl | decide | exact Nat.le_of_ble_eq_true rfl) only [WS, WS2, K2_ap, KC_ap, FR.R.bind_ok, FR.R.bind_exc, FR.R.toS_ok, FR.R.toS_exc, List.getElem?_cons_zero, List.getElem?_cons_succ, List.set_cons_zero, List.set_cons_succ, List.map_cons, List.map_nil, List.cons_append, List.nil_append, List.append_nil, List.length_cons, List.length_nil, List.length_map, Option.map_some, Bool.not_true, Bool.not_false, decide_true, decide_false, if_true, if_false, List.reduceReplicate, Nat.reduceAdd, Nat.reduceSub, Bool.if_true_left, Bool.not_not, List.isEmpty_cons, List.isEmpty_nil, Bool.false_eq_true, Int.cast_ofNat_Int, Int.natCast_zero, Int.natCast_one, dec_self, Int.reduceLT, Int.reduceLE, Int.reduceEq, M]
  | [a, b], _, _ =>
    simp only [List.map_cons, List.map_nil] at M ⊢
    unfold F__law_ground
    simp -implicitDefEqProofs (maxSteps := 2000000) (disch := first | omega | rfl | decide | exact Nat.le_of_ble_eq_true rfl) only [WS, WS2, K2_ap, KC_ap, FR.R.bind_ok, FR.R.bind_exc, FR.R.toS_ok, FR.R.toS_exc, List.getElem?_cons_zero, List.getElem?_cons_succ, List.set_cons_zero, List.set_cons_succ, List.map_cons, List.map_nil, List.cons_append, List.nil_append, List.append_nil, List.length_cons, List.length_nil, List.length_map, Option.map_some, Bool.not_true, Bool.not_false, decide_true, decide_false, if_true, if_false, List.reduceReplicate, Nat.reduceAdd, Nat.reduceSub, Bool.if_true_left, Bool.not_not, List.isEmpty_cons, List.isEmpty_nil, Bool.false_eq_true, Int.cast_ofNat_Int, Int.natCast_zero, Int.natCast_one, dec_self, Int.reduceLT, Int.reduceLE, Int.reduceEq, M]
  | [a, b, c], _, _ =>
    simp only [List.map_cons, List.map_nil] at M ⊢
    unfold F__law_ground
    simp -implicitDefEqProofs (maxSteps := 2000000) (disch := first | omega | rfl | decide | exact Nat.le_of_ble_eq_true rfl) only [WS, WS2, K2_ap, KC_ap, FR.R.bind_ok, FR.R.bind_exc, FR.R.toS_ok, FR.R.toS_exc, List.getElem?_cons_zero, List.getElem?_cons_succ, List.set_cons_zero, List.set_cons_succ, List.map_cons, List.map_nil, List.cons_append, List.nil_append, List.append_nil, List.length_cons, List.length_nil, List.length_map, Option.map_some, Bool.not_true, Bool.not_false, decide_true, decide_false, if_true, if_false, List.reduceReplicate, Nat.reduceAdd, Nat.reduceSub, Bool.if_true_left, Bool.not_not, List.isEmpty_cons, List.isEmpty_nil, Bool.false_eq_true, Int.cast_ofNat_Int, Int.natCast_zero, Int.natCast_one, dec_self, Int.reduceLT, Int.reduceLE, Int.reduceEq, M]
  | [a, b, c, d], _, _ =>
    simp only [List.map_cons, List.map_nil] at M ⊢
    unfold F__law_ground
    simp -implicitDefEqProofs (maxSteps := 2000000) (disch := first | omega | rfl | decide | exact Nat.le_of_ble_eq_true rfl) only [WS, WS2, K2_ap, KC_ap, FR.R.bind_ok, FR.R.bind_exc, FR.R.toS_ok, FR.R.toS_exc, List.getElem?_cons_zero, List.getElem?_cons_succ, List.set_cons_zero, List.set_cons_succ, List.map_cons, List.map_nil, List.cons_append, List.nil_append, List.append_nil, List.length_cons, List.length_nil, List.length_map, Option.map_some, Bool.not_true, Bool.not_false, decide_true, decide_false, if_true, if_false, List.reduceReplicate, Nat.reduceAdd, Nat.reduceSub, Bool.if_true_left, Bool.not_not, List.isEmpty_cons, List.isEmpty_nil, Bool.false_eq_true, Int.cast_ofNat_Int, Int.natCast_zero, Int.natCast_one, dec_self, Int.reduceLT, Int.reduceLE, Int.reduceEq, M]

section
variable {cs : List Int} {C : Cell} {Q : FR.D → Store → Prop}
theorem wclasses (h : Pool cs C) (k : ∀ l C', GrOk l → Pool cs C' → Q (.p (.lst (l.map grP))) [C', .dead]) : okR (F__law_classes [.r 0, .p (.int 12)] [C]) Q := by
  unfold F__law_classes
  simp -implicitDefEqProofs (maxSteps := 2000000) (disch := first | omega | rfl | decide | exact Nat.le_of_ble_eq_true rfl) only [WS, WS2, K2_ap, KC_ap, FR.R.bind_ok, FR.R.bind_exc, FR.R.toS_ok, FR.R.toS_exc, List.getElem?_cons_zero, List.getElem?_cons_succ, List.set_cons_zero, List.set_cons_succ, List.map_cons, List.map_nil, List.cons_append, List.nil_append, List.append_nil, List.length_cons, List.length_nil, List.length_map, Option.map_some, Bool.not_true, Bool.not_false, decide_true, decide_false, if_true, if_false, List.reduceReplicate, Nat.reduceAdd, Nat.reduceSub, Bool.if_true_left, Bool.not_not, List.isEmpty_cons, List.isEmpty_nil, Bool.false_eq_true, Int.cast_ofNat_Int, Int.natCast_zero, Int.natCast_one, dec_self, Int.reduceLT, Int.reduceLE, Int.reduceEq]
  refine wdraw 4 h (by decide) (by decide) fun r C1 r0 r1 h1 => ?_
  simp -implicitDefEqProofs (maxSteps := 2000000) (disch := first | omega | rfl | decide | exact Nat.le_of_ble_eq_true rfl) only [WS, WS2, K2_ap, KC_ap, FR.R.bind_ok, FR.R.bind_exc, FR.R.toS_ok, FR.R.toS_exc, List.getElem?_cons_zero, List.getElem?_cons_succ, List.set_cons_zero, List.set_cons_succ, List.map_cons, List.map_nil, List.cons_append, List.nil_append, List.append_nil, List.length_cons, List.length_nil, List.length_map, Option.map_some, Bool.not_true, Bool.not_false, decide_true, decide_false, if_true, if_false, List.reduceReplicate, Nat.reduceAdd, Nat.reduceSub, Bool.if_true_left, Bool.not_not, List.isEmpty_cons, List.isEmpty_nil, Bool.false_eq_true, Int.cast_ofNat_Int, Int.natCast_zero, Int.natCast_one, dec_self, Int.reduceLT, Int.reduceLE, Int.reduceEq, T__law_classes_1_ap]
  refine wdraw 4 h1 (by decide) (by decide) fun e C2 e0 e1 h2 => ?_
  try simp -implicitDefEqProofs (maxSteps := 2000000) (disch := first | omega | rfl | decide | exact Nat.le_of_ble_eq_true rfl) only [WS, WS2, K2_ap, KC_ap, FR.R.bind_ok, FR.R.bind_exc, FR.R.toS_ok, FR.R.toS_exc, List.getElem?_cons_zero, List.getElem?_cons_succ, List.set_cons_zero, List.set_cons_succ, List.map_cons, List.map_nil, List.cons_append, List.nil_append, List.append_nil, List.length_cons, List.length_nil, List.length_map, Option.map_some, Bool.not_true, Bool.not_false, decide_true, decide_false, if_true, if_false, List.reduceReplicate, Nat.reduceAdd, Nat.reduceSub, Bool.if_true_left, Bool.not_not, List.isEmpty_cons, List.isEmpty_nil, Bool.false_eq_true, Int.cast_ofNat_Int, Int.natCast_zero, Int.natCast_one, dec_self, Int.reduceLT, Int.reduceLE, Int.reduceEq]
  rw [T__law_classes_2_ap, sSeq_ap, okS_seq]
  refine okS_cut (fun ρ S => ∃ (e' : Int) (C' : Cell), 0 ≤ e' ∧ e' < 12 ∧ Pool cs C' ∧ ρ = [some (.r 0), some (.p (.int 12)), some (.p (.int (1 + r))), some (.p (.int e')), none, none, none, none] ∧ S = [C']) ?_ ?_
  · simp -implicitDefEqProofs (maxSteps := 2000000) (disch := first | omega | rfl | decide | exact Nat.le_of_ble_eq_true rfl) only [WS, WS2, K2_ap, KC_ap, FR.R.bind_ok, FR.R.bind_exc, FR.R.toS_ok, FR.R.toS_exc, List.getElem?_cons_zero, List.getElem?_cons_succ, List.set_cons_zero, List.set_cons_succ, List.map_cons, List.map_nil, List.cons_append, List.nil_append, List.append_nil, List.length_cons, List.length_nil, List.length_map, Option.map_some, Bool.not_true, Bool.not_false, decide_true, decide_false, if_true, if_false, List.reduceReplicate, Nat.reduceAdd, Nat.reduceSub, Bool.if_true_left, Bool.not_not, List.isEmpty_cons, List.isEmpty_nil, Bool.false_eq_true, Int.cast_ofNat_Int, Int.natCast_zero, Int.natCast_one, dec_self, Int.reduceLT, Int.reduceLE, Int.reduceEq]
    refine wdraw 4 h2 (by decide) (by decide) fun z C3 z0 z1 h3 => ?_
    by_cases zz : z = 1
    · simp -implicitDefEqProofs (maxSteps := 2000000) (disch := first | omega | rfl | decide | exact Nat.le_of_ble_eq_true rfl) only [WS, WS2, K2_ap, KC_ap, FR.R.bind_ok, FR.R.bind_exc, FR.R.toS_ok, FR.R.toS_exc, List.getElem?_cons_zero, List.getElem?_cons_succ, List.set_cons_zero, List.set_cons_succ, List.map_cons, List.map_nil, List.cons_append, List.nil_append, List.append_nil, List.length_cons, List.length_nil, List.length_map, Option.map_some, Bool.not_true, Bool.not_false, decide_true, decide_false, if_true, if_false, List.reduceReplicate, Nat.reduceAdd, Nat.reduceSub, Bool.if_true_left, Bool.not_not, List.isEmpty_cons, List.isEmpty_nil, Bool.false_eq_true, Int.cast_ofNat_Int, Int.natCast_zero, Int.natCast_one, dec_self, Int.reduceLT, Int.reduceLE, Int.reduceEq, zz]
      refine wdraw 12 h3 (by decide) (by decide) fun y C4 y0 y1 h4 => ?_
      try simp -implicitDefEqProofs (maxSteps := 2000000) (disch := first | omega | rfl | decide | exact Nat.le_of_ble_eq_true rfl) only [WS, WS2, K2_ap, KC_ap, FR.R.bind_ok, FR.R.bind_exc, FR.R.toS_ok, FR.R.toS_exc, List.getElem?_cons_zero, List.getElem?_cons_succ, List.set_cons_zero, List.set_cons_succ, List.map_cons, List.map_nil, List.cons_append, List.nil_append, List.append_nil, List.length_cons, List.length_nil, List.length_map, Option.map_some, Bool.not_true, Bool.not_false, decide_true, decide_false, if_true, if_false, List.reduceReplicate, Nat.reduceAdd, Nat.reduceSub, Bool.if_true_left, Bool.not_not, List.isEmpty_cons, List.isEmpty_nil, Bool.false_eq_true, Int.cast_ofNat_Int, Int.natCast_zero, Int.natCast_one, dec_self, Int.reduceLT, Int.reduceLE, Int.reduceEq]
      exact ⟨y, C4, y0, y1, h4, (by first | rfl | trivial), (by first | rfl | trivial)⟩
    · simp -implicitDefEqProofs (maxSteps := 2000000) (disch := first | omega | rfl | decide | exact Nat.le_of_ble_eq_true rfl) only [WS, WS2, K2_ap, KC_ap, FR.R.bind_ok, FR.R.bind_exc, FR.R.toS_ok, FR.R.toS_exc, List.getElem?_cons_zero, List.getElem?_cons_succ, List.set_cons_zero, List.set_cons_succ, List.map_cons, List.map_nil, List.cons_append, List.nil_append, List.append_nil, List.length_cons, List.length_nil, List.length_map, Option.map_some, Bool.not_true, Bool.not_false, decide_true, decide_false, if_true, if_false, List.reduceReplicate, Nat.reduceAdd, Nat.reduceSub, Bool.if_true_left, Bool.not_not, List.isEmpty_cons, List.isEmpty_nil, Bool.false_eq_true, Int.cast_ofNat_Int, Int.natCast_zero, Int.natCast_one, dec_self, Int.reduceLT, Int.reduceLE, Int.reduceEq, zz]
      exact ⟨e, C3, e0, by omega, h3, (by first | rfl | trivial), (by first | rfl | trivial)⟩
  rintro _ _ ⟨e', C3, e0, e1, h3, rfl, rfl⟩
  simp -implicitDefEqProofs (maxSteps := 2000000) (disch := first | omega | rfl | decide | exact Nat.le_of_ble_eq_true rfl) only [WS, WS2, K2_ap, KC_ap, FR.R.bind_ok, FR.R.bind_exc, FR.R.toS_ok, FR.R.toS_exc, List.getElem?_cons_zero, List.getElem?_cons_succ, List.set_cons_zero, List.set_cons_succ, List.map_cons, List.map_nil, List.cons_append, List.nil_append, List.append_nil, List.length_cons, List.length_nil, List.length_map, Option.map_some, Bool.not_true, Bool.not_false, decide_true, decide_false, if_true, if_false, List.reduceReplicate, Nat.reduceAdd, Nat.reduceSub, Bool.if_true_left, Bool.not_not, List.isEmpty_cons, List.isEmpty_nil, Bool.false_eq_true, Int.cast_ofNat_Int, Int.natCast_zero, Int.natCast_one, dec_self, Int.reduceLT, Int.reduceLE, Int.reduceEq, srcR1_ap, srcR2_ap, T__law_classes_3_ap, T__law_classes_4_ap, T__law_classes_5_ap]
  obtain ⟨x, hx, x0, x1⟩ : ∃ x : Int, (if 12 - (1 + r) < e' then 12 - (1 + r) else e') = x ∧ 0 ≤ x ∧ x ≤ 12 - (1 + r) := ⟨_, rfl, by split <;> omega, by split <;> omega⟩
  rw [hx]
  refine okS_range0 _ (fun i ρ S => ∃ (l : List GR) (C : Cell) (ext : Int) (x5 x6 x7 : Option FR.D), l.length = i ∧ (∀ q ∈ l, 1 ≤ q.1 ∧ q.1 ≤ 1000 ∧ 1 ≤ q.2) ∧ 0 ≤ ext ∧ grS l + (1 + r - i) + ext ≤ 12 ∧ Pool cs C ∧
    ρ = [some (.r 0), some (.p (.int 12)), some (.p (.int (1 + r))), some (.p (.int ext)), some (.r 1), x5, x6, x7] ∧ S = [C, .lst ((l.map grP).map .p)]) ?_ ?_ _ _ ⟨[], C3, x, none, none, none, rfl, (fun _ h => by cases h), x0, by show (0 : Int) + _ + _ ≤ 12; omega, h3, rfl, rfl⟩
  · rintro _ _ ⟨l, C4, ext, x5, x6, x7, hl, hw, he, hs, h4, rfl, rfl⟩
    have FZ := kFz_pl [C4, Cell.lst ((l.map grP).map .p)] 1 (l.map grP) rfl
    simp -implicitDefEqProofs (maxSteps := 2000000) (disch := first | omega | rfl | decide | exact Nat.le_of_ble_eq_true rfl) only [WS, WS2, K2_ap, KC_ap, FR.R.bind_ok, FR.R.bind_exc, FR.R.toS_ok, FR.R.toS_exc, List.getElem?_cons_zero, List.getElem?_cons_succ, List.set_cons_zero, List.set_cons_succ, List.map_cons, List.map_nil, List.cons_append, List.nil_append, List.append_nil, List.length_cons, List.length_nil, List.length_map, Option.map_some, Bool.not_true, Bool.not_false, decide_true, decide_false, if_true, if_false, List.reduceReplicate, Nat.reduceAdd, Nat.reduceSub, Bool.if_true_left, Bool.not_not, List.isEmpty_cons, List.isEmpty_nil, Bool.false_eq_true, Int.cast_ofNat_Int, Int.natCast_zero, Int.natCast_one, dec_self, Int.reduceLT, Int.reduceLE, Int.reduceEq, T__law_classes_6_ap, FZ]
    exact k l C4 ⟨by omega, by omega, hw, by omega⟩ h4
  · rintro i _ _ hi ⟨l, C4, ext, x5, x6, x7, hl, hw, he, hs, h4, rfl, rfl⟩
    have g0 : ∀ l : List GR, (∀ q ∈ l, 1 ≤ q.1 ∧ q.1 ≤ 1000 ∧ 1 ≤ q.2) → 0 ≤ grS l := by
      intro l
      induction l with
      | nil => intro _; decide
      | cons a l ih =>
        intro hh
        have := ih fun r hr => hh r (List.mem_cons_of_mem _ hr)
        have := (hh a List.mem_cons_self).2.2
        show 0 ≤ a.2 + grS l
        omega
    have gl := g0 l hw
    simp -implicitDefEqProofs (maxSteps := 2000000) (disch := first | omega | rfl | decide | exact Nat.le_of_ble_eq_true rfl) only [WS, WS2, K2_ap, KC_ap, FR.R.bind_ok, FR.R.bind_exc, FR.R.toS_ok, FR.R.toS_exc, List.getElem?_cons_zero, List.getElem?_cons_succ, List.set_cons_zero, List.set_cons_succ, List.map_cons, List.map_nil, List.cons_append, List.nil_append, List.append_nil, List.length_cons, List.length_nil, List.length_map, Option.map_some, Bool.not_true, Bool.not_false, decide_true, decide_false, if_true, if_false, List.reduceReplicate, Nat.reduceAdd, Nat.reduceSub, Bool.if_true_left, Bool.not_not, List.isEmpty_cons, List.isEmpty_nil, Bool.false_eq_true, Int.cast_ofNat_Int, Int.natCast_zero, Int.natCast_one, dec_self, Int.reduceLT, Int.reduceLE, Int.reduceEq, B__law_classes_1_ap]
    rw [T__law_classes_b1_1_ap, sSeq_ap, okS_seq]
    refine okS_cut (fun ρ S => ∃ (o : Int) (C' : Cell), 0 ≤ o ∧ o ≤ ext ∧ Pool cs C' ∧ ρ = [some (.r 0), some (.p (.int 12)), some (.p (.int (1 + r))), some (.p (.int ext)), some (.r 1), some (.p (.int (i : Int))), some (.p (.int o)), x7] ∧ S = [C', .lst ((l.map grP).map .p)]) ?_ ?_
    · simp -implicitDefEqProofs (maxSteps := 2000000) (disch := first | omega | rfl | decide | exact Nat.le_of_ble_eq_true rfl) only [WS, WS2, K2_ap, KC_ap, FR.R.bind_ok, FR.R.bind_exc, FR.R.toS_ok, FR.R.toS_exc, List.getElem?_cons_zero, List.getElem?_cons_succ, List.set_cons_zero, List.set_cons_succ, List.map_cons, List.map_nil, List.cons_append, List.nil_append, List.append_nil, List.length_cons, List.length_nil, List.length_map, Option.map_some, Bool.not_true, Bool.not_false, decide_true, decide_false, if_true, if_false, List.reduceReplicate, Nat.reduceAdd, Nat.reduceSub, Bool.if_true_left, Bool.not_not, List.isEmpty_cons, List.isEmpty_nil, Bool.false_eq_true, Int.cast_ofNat_Int, Int.natCast_zero, Int.natCast_one, dec_self, Int.reduceLT, Int.reduceLE, Int.reduceEq]
      by_cases z : (i : Int) + 1 < 1 + r
      · simp -implicitDefEqProofs (maxSteps := 2000000) (disch := first | omega | rfl | decide | exact Nat.le_of_ble_eq_true rfl) only [WS, WS2, K2_ap, KC_ap, FR.R.bind_ok, FR.R.bind_exc, FR.R.toS_ok, FR.R.toS_exc, List.getElem?_cons_zero, List.getElem?_cons_succ, List.set_cons_zero, List.set_cons_succ, List.map_cons, List.map_nil, List.cons_append, List.nil_append, List.append_nil, List.length_cons, List.length_nil, List.length_map, Option.map_some, Bool.not_true, Bool.not_false, decide_true, decide_false, if_true, if_false, List.reduceReplicate, Nat.reduceAdd, Nat.reduceSub, Bool.if_true_left, Bool.not_not, List.isEmpty_cons, List.isEmpty_nil, Bool.false_eq_true, Int.cast_ofNat_Int, Int.natCast_zero, Int.natCast_one, dec_self, Int.reduceLT, Int.reduceLE, Int.reduceEq, z]
        refine wdraw (ext + 1) h4 (by omega) (by omega) fun o C5 o0 o1 h5 => ?_
        try simp -implicitDefEqProofs (maxSteps := 2000000) (disch := first | omega | rfl | decide | exact Nat.le_of_ble_eq_true rfl) only [WS, WS2, K2_ap, KC_ap, FR.R.bind_ok, FR.R.bind_exc, FR.R.toS_ok, FR.R.toS_exc, List.getElem?_cons_zero, List.getElem?_cons_succ, List.set_cons_zero, List.set_cons_succ, List.map_cons, List.map_nil, List.cons_append, List.nil_append, List.append_nil, List.length_cons, List.length_nil, List.length_map, Option.map_some, Bool.not_true, Bool.not_false, decide_true, decide_false, if_true, if_false, List.reduceReplicate, Nat.reduceAdd, Nat.reduceSub, Bool.if_true_left, Bool.not_not, List.isEmpty_cons, List.isEmpty_nil, Bool.false_eq_true, Int.cast_ofNat_Int, Int.natCast_zero, Int.natCast_one, dec_self, Int.reduceLT, Int.reduceLE, Int.reduceEq]
        exact ⟨o, C5, o0, by omega, h5, (by first | rfl | trivial), (by first | rfl | trivial)⟩
      · simp -implicitDefEqProofs (maxSteps := 2000000) (disch := first | omega | rfl | decide | exact Nat.le_of_ble_eq_true rfl) only [WS, WS2, K2_ap, KC_ap, FR.R.bind_ok, FR.R.bind_exc, FR.R.toS_ok, FR.R.toS_exc, List.getElem?_cons_zero, List.getElem?_cons_succ, List.set_cons_zero, List.set_cons_succ, List.map_cons, List.map_nil, List.cons_append, List.nil_append, List.append_nil, List.length_cons, List.length_nil, List.length_map, Option.map_some, Bool.not_true, Bool.not_false, decide_true, decide_false, if_true, if_false, List.reduceReplicate, Nat.reduceAdd, Nat.reduceSub, Bool.if_true_left, Bool.not_not, List.isEmpty_cons, List.isEmpty_nil, Bool.false_eq_true, Int.cast_ofNat_Int, Int.natCast_zero, Int.natCast_one, dec_self, Int.reduceLT, Int.reduceLE, Int.reduceEq, z]
        exact ⟨ext, C4, he, by omega, h4, (by first | rfl | trivial), (by first | rfl | trivial)⟩
    rintro _ _ ⟨o, C5, o0, o1, h5, rfl, rfl⟩
    simp -implicitDefEqProofs (maxSteps := 2000000) (disch := first | omega | rfl | decide | exact Nat.le_of_ble_eq_true rfl) only [WS, WS2, K2_ap, KC_ap, FR.R.bind_ok, FR.R.bind_exc, FR.R.toS_ok, FR.R.toS_exc, List.getElem?_cons_zero, List.getElem?_cons_succ, List.set_cons_zero, List.set_cons_succ, List.map_cons, List.map_nil, List.cons_append, List.nil_append, List.append_nil, List.length_cons, List.length_nil, List.length_map, Option.map_some, Bool.not_true, Bool.not_false, decide_true, decide_false, if_true, if_false, List.reduceReplicate, Nat.reduceAdd, Nat.reduceSub, Bool.if_true_left, Bool.not_not, List.isEmpty_cons, List.isEmpty_nil, Bool.false_eq_true, Int.cast_ofNat_Int, Int.natCast_zero, Int.natCast_one, dec_self, Int.reduceLT, Int.reduceLE, Int.reduceEq, T__law_classes_b1_2_ap, T__law_classes_b1_3_ap]
    refine wdraw 5 h5 (by decide) (by decide) fun w C6 w0 w1 h6 => ?_
    try simp -implicitDefEqProofs (maxSteps := 2000000) (disch := first | omega | rfl | decide | exact Nat.le_of_ble_eq_true rfl) only [WS, WS2, K2_ap, KC_ap, FR.R.bind_ok, FR.R.bind_exc, FR.R.toS_ok, FR.R.toS_exc, List.getElem?_cons_zero, List.getElem?_cons_succ, List.set_cons_zero, List.set_cons_succ, List.map_cons, List.map_nil, List.cons_append, List.nil_append, List.append_nil, List.length_cons, List.length_nil, List.length_map, Option.map_some, Bool.not_true, Bool.not_false, decide_true, decide_false, if_true, if_false, List.reduceReplicate, Nat.reduceAdd, Nat.reduceSub, Bool.if_true_left, Bool.not_not, List.isEmpty_cons, List.isEmpty_nil, Bool.false_eq_true, Int.cast_ofNat_Int, Int.natCast_zero, Int.natCast_one, dec_self, Int.reduceLT, Int.reduceLE, Int.reduceEq]
    rw [T__law_classes_b1_4_ap, sSeq_ap, okS_seq]
    refine okS_cut (fun ρ S => ∃ (v : Int) (C' : Cell), 1 ≤ v ∧ v ≤ 1000 ∧ Pool cs C' ∧ ρ = [some (.r 0), some (.p (.int 12)), some (.p (.int (1 + r))), some (.p (.int (ext - o))), some (.r 1), some (.p (.int (i : Int))), some (.p (.int o)), some (.p (.int v))] ∧ S = [C', .lst ((l.map grP).map .p)]) ?_ ?_
    · simp -implicitDefEqProofs (maxSteps := 2000000) (disch := first | omega | rfl | decide | exact Nat.le_of_ble_eq_true rfl) only [WS, WS2, K2_ap, KC_ap, FR.R.bind_ok, FR.R.bind_exc, FR.R.toS_ok, FR.R.toS_exc, List.getElem?_cons_zero, List.getElem?_cons_succ, List.set_cons_zero, List.set_cons_succ, List.map_cons, List.map_nil, List.cons_append, List.nil_append, List.append_nil, List.length_cons, List.length_nil, List.length_map, Option.map_some, Bool.not_true, Bool.not_false, decide_true, decide_false, if_true, if_false, List.reduceReplicate, Nat.reduceAdd, Nat.reduceSub, Bool.if_true_left, Bool.not_not, List.isEmpty_cons, List.isEmpty_nil, Bool.false_eq_true, Int.cast_ofNat_Int, Int.natCast_zero, Int.natCast_one, dec_self, Int.reduceLT, Int.reduceLE, Int.reduceEq]
      refine wdraw 4 h6 (by decide) (by decide) fun z C7 z0 z1 h7 => ?_
      by_cases zz : z = 1
      · simp -implicitDefEqProofs (maxSteps := 2000000) (disch := first | omega | rfl | decide | exact Nat.le_of_ble_eq_true rfl) only [WS, WS2, K2_ap, KC_ap, FR.R.bind_ok, FR.R.bind_exc, FR.R.toS_ok, FR.R.toS_exc, List.getElem?_cons_zero, List.getElem?_cons_succ, List.set_cons_zero, List.set_cons_succ, List.map_cons, List.map_nil, List.cons_append, List.nil_append, List.append_nil, List.length_cons, List.length_nil, List.length_map, Option.map_some, Bool.not_true, Bool.not_false, decide_true, decide_false, if_true, if_false, List.reduceReplicate, Nat.reduceAdd, Nat.reduceSub, Bool.if_true_left, Bool.not_not, List.isEmpty_cons, List.isEmpty_nil, Bool.false_eq_true, Int.cast_ofNat_Int, Int.natCast_zero, Int.natCast_one, dec_self, Int.reduceLT, Int.reduceLE, Int.reduceEq, zz]
        refine wdraw 1000 h7 (by decide) (by decide) fun y C8 y0 y1 h8 => ?_
        try simp -implicitDefEqProofs (maxSteps := 2000000) (disch := first | omega | rfl | decide | exact Nat.le_of_ble_eq_true rfl) only [WS, WS2, K2_ap, KC_ap, FR.R.bind_ok, FR.R.bind_exc, FR.R.toS_ok, FR.R.toS_exc, List.getElem?_cons_zero, List.getElem?_cons_succ, List.set_cons_zero, List.set_cons_succ, List.map_cons, List.map_nil, List.cons_append, List.nil_append, List.append_nil, List.length_cons, List.length_nil, List.length_map, Option.map_some, Bool.not_true, Bool.not_false, decide_true, decide_false, if_true, if_false, List.reduceReplicate, Nat.reduceAdd, Nat.reduceSub, Bool.if_true_left, Bool.not_not, List.isEmpty_cons, List.isEmpty_nil, Bool.false_eq_true, Int.cast_ofNat_Int, Int.natCast_zero, Int.natCast_one, dec_self, Int.reduceLT, Int.reduceLE, Int.reduceEq]
        exact ⟨1 + y, C8, by omega, by omega, h8, (by first | rfl | trivial), (by first | rfl | trivial)⟩
      · simp -implicitDefEqProofs (maxSteps := 2000000) (disch := first | omega | rfl | decide | exact Nat.le_of_ble_eq_true rfl) only [WS, WS2, K2_ap, KC_ap, FR.R.bind_ok, FR.R.bind_exc, FR.R.toS_ok, FR.R.toS_exc, List.getElem?_cons_zero, List.getElem?_cons_succ, List.set_cons_zero, List.set_cons_succ, List.map_cons, List.map_nil, List.cons_append, List.nil_append, List.append_nil, List.length_cons, List.length_nil, List.length_map, Option.map_some, Bool.not_true, Bool.not_false, decide_true, decide_false, if_true, if_false, List.reduceReplicate, Nat.reduceAdd, Nat.reduceSub, Bool.if_true_left, Bool.not_not, List.isEmpty_cons, List.isEmpty_nil, Bool.false_eq_true, Int.cast_ofNat_Int, Int.natCast_zero, Int.natCast_one, dec_self, Int.reduceLT, Int.reduceLE, Int.reduceEq, zz]
        exact ⟨1 + w, C7, by omega, by omega, h7, (by first | rfl | trivial), (by first | rfl | trivial)⟩
    rintro _ _ ⟨v, C7, v0, v1, h7, rfl, rfl⟩
    have tl : Nat.blt ((l.map grP).map FR.D.p).length 1000000 = true := by
      simp only [Nat.blt_eq, List.length_map]
      omega
    simp -implicitDefEqProofs (maxSteps := 2000000) (disch := first | omega | rfl | decide | exact Nat.le_of_ble_eq_true rfl) only [WS, WS2, K2_ap, KC_ap, FR.R.bind_ok, FR.R.bind_exc, FR.R.toS_ok, FR.R.toS_exc, List.getElem?_cons_zero, List.getElem?_cons_succ, List.set_cons_zero, List.set_cons_succ, List.map_cons, List.map_nil, List.cons_append, List.nil_append, List.append_nil, List.length_cons, List.length_nil, List.length_map, Option.map_some, Bool.not_true, Bool.not_false, decide_true, decide_false, if_true, if_false, List.reduceReplicate, Nat.reduceAdd, Nat.reduceSub, Bool.if_true_left, Bool.not_not, List.isEmpty_cons, List.isEmpty_nil, Bool.false_eq_true, Int.cast_ofNat_Int, Int.natCast_zero, Int.natCast_one, dec_self, Int.reduceLT, Int.reduceLE, Int.reduceEq, T__law_classes_b1_5_ap, tl]
    refine ⟨l ++ [(v, 1 + o)], C7, ext - o, _, _, _, by rw [List.length_append, hl]; rfl, ?_, by omega, ?_, h7, (by first | rfl | trivial), ?_⟩
    · intro q hq
      rcases List.mem_append.mp hq with hq | hq
      · exact hw q hq
      · rw [List.mem_singleton.mp hq]
        exact ⟨v0, v1, by show 1 ≤ 1 + o; omega⟩
    · rw [grS_snoc]
      show grS l + (1 + o) + _ + _ ≤ 12
      rw [Int.natCast_add]
      show grS l + (1 + o) + (1 + r - ((i : Int) + 1)) + (ext - o) ≤ 12
      omega
    · rw [List.map_append, List.map_append]
      rfl
theorem wtotal {S : Store} (h : Pool cs C) (k : ∀ (T : Nat) C', T ≤ 40 → Pool cs C' → Q (.p (.int T)) (C' :: S)) : okR (F__law_total [.r 0] (C :: S)) Q := by
  have up : ∀ (z : Int) C', 0 ≤ z → z ≤ 40 → Pool cs C' → Q (.p (.int z)) (C' :: S) := fun z C' z0 z1 h' => by
    have := k z.toNat C' (by omega) h'
    rwa [show ((z.toNat : Nat) : Int) = z by omega] at this
  unfold F__law_total
  simp -implicitDefEqProofs (maxSteps := 2000000) (disch := first | omega | rfl | decide | exact Nat.le_of_ble_eq_true rfl) only [WS, WS2, K2_ap, KC_ap, FR.R.bind_ok, FR.R.bind_exc, FR.R.toS_ok, FR.R.toS_exc, List.getElem?_cons_zero, List.getElem?_cons_succ, List.set_cons_zero, List.set_cons_succ, List.map_cons, List.map_nil, List.cons_append, List.nil_append, List.append_nil, List.length_cons, List.length_nil, List.length_map, Option.map_some, Bool.not_true, Bool.not_false, decide_true, decide_false, if_true, if_false, List.reduceReplicate, Nat.reduceAdd, Nat.reduceSub, Bool.if_true_left, Bool.not_not, List.isEmpty_cons, List.isEmpty_nil, Bool.false_eq_true, Int.cast_ofNat_Int, Int.natCast_zero, Int.natCast_one, dec_self, Int.reduceLT, Int.reduceLE, Int.reduceEq]
  refine wdraw 4 h (by decide) (by decide) fun w C1 w0 w1 h1 => ?_
  by_cases z0 : w = 0
  · simp -implicitDefEqProofs (maxSteps := 2000000) (disch := first | omega | rfl | decide | exact Nat.le_of_ble_eq_true rfl) only [WS, WS2, K2_ap, KC_ap, FR.R.bind_ok, FR.R.bind_exc, FR.R.toS_ok, FR.R.toS_exc, List.getElem?_cons_zero, List.getElem?_cons_succ, List.set_cons_zero, List.set_cons_succ, List.map_cons, List.map_nil, List.cons_append, List.nil_append, List.append_nil, List.length_cons, List.length_nil, List.length_map, Option.map_some, Bool.not_true, Bool.not_false, decide_true, decide_false, if_true, if_false, List.reduceReplicate, Nat.reduceAdd, Nat.reduceSub, Bool.if_true_left, Bool.not_not, List.isEmpty_cons, List.isEmpty_nil, Bool.false_eq_true, Int.cast_ofNat_Int, Int.natCast_zero, Int.natCast_one, dec_self, Int.reduceLT, Int.reduceLE, Int.reduceEq, z0]
    refine wdraw 10 h1 (by decide) (by decide) fun y C2 y0 y1 h2 => ?_
    try simp -implicitDefEqProofs (maxSteps := 2000000) (disch := first | omega | rfl | decide | exact Nat.le_of_ble_eq_true rfl) only [WS, WS2, K2_ap, KC_ap, FR.R.bind_ok, FR.R.bind_exc, FR.R.toS_ok, FR.R.toS_exc, List.getElem?_cons_zero, List.getElem?_cons_succ, List.set_cons_zero, List.set_cons_succ, List.map_cons, List.map_nil, List.cons_append, List.nil_append, List.append_nil, List.length_cons, List.length_nil, List.length_map, Option.map_some, Bool.not_true, Bool.not_false, decide_true, decide_false, if_true, if_false, List.reduceReplicate, Nat.reduceAdd, Nat.reduceSub, Bool.if_true_left, Bool.not_not, List.isEmpty_cons, List.isEmpty_nil, Bool.false_eq_true, Int.cast_ofNat_Int, Int.natCast_zero, Int.natCast_one, dec_self, Int.reduceLT, Int.reduceLE, Int.reduceEq]
    exact up (3 + y) C2 (by omega) (by omega) h2
  · by_cases z1 : w = 1
    · simp -implicitDefEqProofs (maxSteps := 2000000) (disch := first | omega | rfl | decide | exact Nat.le_of_ble_eq_true rfl) only [WS, WS2, K2_ap, KC_ap, FR.R.bind_ok, FR.R.bind_exc, FR.R.toS_ok, FR.R.toS_exc, List.getElem?_cons_zero, List.getElem?_cons_succ, List.set_cons_zero, List.set_cons_succ, List.map_cons, List.map_nil, List.cons_append, List.nil_append, List.append_nil, List.length_cons, List.length_nil, List.length_map, Option.map_some, Bool.not_true, Bool.not_false, decide_true, decide_false, if_true, if_false, List.reduceReplicate, Nat.reduceAdd, Nat.reduceSub, Bool.if_true_left, Bool.not_not, List.isEmpty_cons, List.isEmpty_nil, Bool.false_eq_true, Int.cast_ofNat_Int, Int.natCast_zero, Int.natCast_one, dec_self, Int.reduceLT, Int.reduceLE, Int.reduceEq, z1]
      refine wdraw 41 h1 (by decide) (by decide) fun y C2 y0 y1 h2 => ?_
      try simp -implicitDefEqProofs (maxSteps := 2000000) (disch := first | omega | rfl | decide | exact Nat.le_of_ble_eq_true rfl) only [WS, WS2, K2_ap, KC_ap, FR.R.bind_ok, FR.R.bind_exc, FR.R.toS_ok, FR.R.toS_exc, List.getElem?_cons_zero, List.getElem?_cons_succ, List.set_cons_zero, List.set_cons_succ, List.map_cons, List.map_nil, List.cons_append, List.nil_append, List.append_nil, List.length_cons, List.length_nil, List.length_map, Option.map_some, Bool.not_true, Bool.not_false, decide_true, decide_false, if_true, if_false, List.reduceReplicate, Nat.reduceAdd, Nat.reduceSub, Bool.if_true_left, Bool.not_not, List.isEmpty_cons, List.isEmpty_nil, Bool.false_eq_true, Int.cast_ofNat_Int, Int.natCast_zero, Int.natCast_one, dec_self, Int.reduceLT, Int.reduceLE, Int.reduceEq]
      exact up y C2 (by omega) (by omega) h2
    · by_cases z2 : w = 2
      · simp -implicitDefEqProofs (maxSteps := 2000000) (disch := first | omega | rfl | decide | exact Nat.le_of_ble_eq_true rfl) only [WS, WS2, K2_ap, KC_ap, FR.R.bind_ok, FR.R.bind_exc, FR.R.toS_ok, FR.R.toS_exc, List.getElem?_cons_zero, List.getElem?_cons_succ, List.set_cons_zero, List.set_cons_succ, List.map_cons, List.map_nil, List.cons_append, List.nil_append, List.append_nil, List.length_cons, List.length_nil, List.length_map, Option.map_some, Bool.not_true, Bool.not_false, decide_true, decide_false, if_true, if_false, List.reduceReplicate, Nat.reduceAdd, Nat.reduceSub, Bool.if_true_left, Bool.not_not, List.isEmpty_cons, List.isEmpty_nil, Bool.false_eq_true, Int.cast_ofNat_Int, Int.natCast_zero, Int.natCast_one, dec_self, Int.reduceLT, Int.reduceLE, Int.reduceEq, z2]
        refine wdraw 3 h1 (by decide) (by decide) fun y C2 y0 y1 h2 => ?_
        try simp -implicitDefEqProofs (maxSteps := 2000000) (disch := first | omega | rfl | decide | exact Nat.le_of_ble_eq_true rfl) only [WS, WS2, K2_ap, KC_ap, FR.R.bind_ok, FR.R.bind_exc, FR.R.toS_ok, FR.R.toS_exc, List.getElem?_cons_zero, List.getElem?_cons_succ, List.set_cons_zero, List.set_cons_succ, List.map_cons, List.map_nil, List.cons_append, List.nil_append, List.append_nil, List.length_cons, List.length_nil, List.length_map, Option.map_some, Bool.not_true, Bool.not_false, decide_true, decide_false, if_true, if_false, List.reduceReplicate, Nat.reduceAdd, Nat.reduceSub, Bool.if_true_left, Bool.not_not, List.isEmpty_cons, List.isEmpty_nil, Bool.false_eq_true, Int.cast_ofNat_Int, Int.natCast_zero, Int.natCast_one, dec_self, Int.reduceLT, Int.reduceLE, Int.reduceEq]
        exact up (40 - y) C2 (by omega) (by omega) h2
      · simp -implicitDefEqProofs (maxSteps := 2000000) (disch := first | omega | rfl | decide | exact Nat.le_of_ble_eq_true rfl) only [WS, WS2, K2_ap, KC_ap, FR.R.bind_ok, FR.R.bind_exc, FR.R.toS_ok, FR.R.toS_exc, List.getElem?_cons_zero, List.getElem?_cons_succ, List.set_cons_zero, List.set_cons_succ, List.map_cons, List.map_nil, List.cons_append, List.nil_append, List.append_nil, List.length_cons, List.length_nil, List.length_map, Option.map_some, Bool.not_true, Bool.not_false, decide_true, decide_false, if_true, if_false, List.reduceReplicate, Nat.reduceAdd, Nat.reduceSub, Bool.if_true_left, Bool.not_not, List.isEmpty_cons, List.isEmpty_nil, Bool.false_eq_true, Int.cast_ofNat_Int, Int.natCast_zero, Int.natCast_one, dec_self, Int.reduceLT, Int.reduceLE, Int.reduceEq, z0, z1, z2]
        refine wdraw 5 h1 (by decide) (by decide) fun y C2 y0 y1 h2 => ?_
        try simp -implicitDefEqProofs (maxSteps := 2000000) (disch := first | omega | rfl | decide | exact Nat.le_of_ble_eq_true rfl) only [WS, WS2, K2_ap, KC_ap, FR.R.bind_ok, FR.R.bind_exc, FR.R.toS_ok, FR.R.toS_exc, List.getElem?_cons_zero, List.getElem?_cons_succ, List.set_cons_zero, List.set_cons_succ, List.map_cons, List.map_nil, List.cons_append, List.nil_append, List.append_nil, List.length_cons, List.length_nil, List.length_map, Option.map_some, Bool.not_true, Bool.not_false, decide_true, decide_false, if_true, if_false, List.reduceReplicate, Nat.reduceAdd, Nat.reduceSub, Bool.if_true_left, Bool.not_not, List.isEmpty_cons, List.isEmpty_nil, Bool.false_eq_true, Int.cast_ofNat_Int, Int.natCast_zero, Int.natCast_one, dec_self, Int.reduceLT, Int.reduceLE, Int.reduceEq]
        exact up y C2 (by omega) (by omega) h2
end
theorem map_len_at {l : List GR} {n : Nat} (h : n < l.length) : atI (l.map grP) (n : Int) = some (grP l[n]) := at_map grP l n h
theorem near_ok {l : List GR} (h : GrOk l) {n : Nat} (hn : n < l.length) : ∃ l', GrOk l' ∧ F__law_near [.p (.lst (l.map grP)), .p (.int n)] [] = .ok (.p (.lst (l'.map grP))) [] := by
  have A := map_len_at hn
  have w := h.w l[n] (List.getElem_mem hn)
  have h4 := h.l4
  have hs := h.s
  have SM := lc_mapA (fi := iOf srcL (fVar 0)) (g := pNm 4) (e := c2 gIx (fVar 4) (fC (.int 1))) (own := [4]) (ρ := [some (.p (.lst (l.map grP))), some (.p (.int n)), some (.p (.int l[n].1)), some (.p (.int l[n].2)), none]) (S := []) (S0 := []) grP (fun x => .int x.2) l rfl
    (fun x hx => ⟨_, rfl, fun ac => rfl⟩) (by omega) rfl
  have es : (l.map fun x => P.int x.2) = (l.map (·.2)).map P.int := by rw [List.map_map]; rfl
  rw [es] at SM
  have ok2 : ∀ v : Int, 1 ≤ v → grS l + v - l[n].2 ≤ 12 → GrOk (l.take n ++ [(l[n].1, v)] ++ l.drop (n + 1)) := by
    intro v v1 vs
    have el : l = l.take n ++ [l[n]] ++ l.drop (n + 1) := by
      rw [List.append_assoc, List.singleton_append, ← List.drop_eq_getElem_cons hn, List.take_append_drop]
    refine ⟨by rw [List.length_append, List.length_append]; simp; omega, ?_, ?_, ?_⟩
    · rw [List.length_append, List.length_append, List.length_take, List.length_drop]
      simp
      omega
    · intro q hq
      rcases List.mem_append.mp hq with hq | hq
      · rcases List.mem_append.mp hq with hq | hq
        · exact h.w q (List.mem_of_mem_take hq)
        · rw [List.mem_singleton.mp hq]
          exact ⟨w.1, w.2.1, v1⟩
      · exact h.w q (List.mem_of_mem_drop hq)
    · have e1 : grS l = grS (l.take n) + l[n].2 + grS (l.drop (n + 1)) := by
        conv => lhs; rw [el]
        unfold grS
        rw [List.map_append, List.sum_append, List.map_append, List.sum_append]
        simp
      have e2 : grS (l.take n ++ [(l[n].1, v)] ++ l.drop (n + 1)) = grS (l.take n) + v + grS (l.drop (n + 1)) := by
        unfold grS
        rw [List.map_append, List.sum_append, List.map_append, List.sum_append]
        simp
      omega
  have cut1 : cutP (l.map grP) none (some (n : Int)) = (l.take n).map grP := by
    unfold cutP
    rw [HT.sIx_nat]
    show ((l.map grP).drop 0).take (min n (l.map grP).length - 0) = _
    rw [List.length_map, Nat.min_eq_left (by omega), List.drop_zero, Nat.sub_zero, List.map_take]
  have cut2 : cutP (l.map grP) (some ((n : Int) + 1)) none = (l.drop (n + 1)).map grP := by
    unfold cutP
    rw [show (n : Int) + 1 = ((n + 1 : Nat) : Int) by omega, HT.sIx_nat]
    show ((l.map grP).drop (min (n + 1) (l.map grP).length)).take ((l.map grP).length - min (n + 1) (l.map grP).length) = _
    rw [List.length_map, Nat.min_eq_left (by omega), List.take_of_length_le (by rw [List.length_drop, List.length_map]; omega), List.map_drop]
  have lc : ∀ v : Int, ((l.take n).map grP ++ [P.tup [.int l[n].1, .int v]]).length ≤ 500000 ∧ ((l.take n).map grP).length ≤ 500000 ∧ ((l.drop (n + 1)).map grP).length ≤ 500000 := by
    intro v
    rw [List.length_append, List.length_map, List.length_map, List.length_take, List.length_drop]
    simp
    omega
  have C1 := fun (v : Int) (S : Store) => gCatL_ap ((l.take n).map grP) [P.tup [.int l[n].1, .int v]] S (lc v).2.1 (by simp)
  have C2 := fun (v : Int) (S : Store) => gCatL_ap ((l.take n).map grP ++ [P.tup [.int l[n].1, .int v]]) ((l.drop (n + 1)).map grP) S (lc v).1 (lc v).2.2
  have fin : ∀ v : Int, ((l.take n).map grP ++ [P.tup [.int l[n].1, .int v]]) ++ (l.drop (n + 1)).map grP = (l.take n ++ [(l[n].1, v)] ++ l.drop (n + 1)).map grP := fun v => by
    rw [List.map_append, List.map_append]
    rfl
  have eg : grP l[n] = .tup [.int l[n].1, .int l[n].2] := rfl
  rw [eg] at A
  have gs : (l.map (·.2)).sum = grS l := rfl
  generalize l[n].1 = a at *
  generalize l[n].2 = b at *
  by_cases z : grS l < 12
  · refine ⟨_, ok2 (b + 1) (by omega) (by omega), ?_⟩
    rw [← fin]
    unfold F__law_near
    simp -implicitDefEqProofs (maxSteps := 2000000) (disch := first | omega | rfl | decide | exact Nat.le_of_ble_eq_true rfl) only [WS, WS2, K2_ap, KC_ap, FR.R.bind_ok, FR.R.bind_exc, FR.R.toS_ok, FR.R.toS_exc, List.getElem?_cons_zero, List.getElem?_cons_succ, List.set_cons_zero, List.set_cons_succ, List.map_cons, List.map_nil, List.cons_append, List.nil_append, List.append_nil, List.length_cons, List.length_nil, List.length_map, Option.map_some, Bool.not_true, Bool.not_false, decide_true, decide_false, if_true, if_false, List.reduceReplicate, Nat.reduceAdd, Nat.reduceSub, Bool.if_true_left, Bool.not_not, List.isEmpty_cons, List.isEmpty_nil, Bool.false_eq_true, Int.cast_ofNat_Int, Int.natCast_zero, Int.natCast_one, dec_self, Int.reduceLT, Int.reduceLE, Int.reduceEq, A, SM, gs, z, cut1, cut2, C1, C2]
  · by_cases y : b > 1
    · refine ⟨_, ok2 (b - 1) (by omega) (by omega), ?_⟩
      rw [← fin]
      unfold F__law_near
      simp -implicitDefEqProofs (maxSteps := 2000000) (disch := first | omega | rfl | decide | exact Nat.le_of_ble_eq_true rfl) only [WS, WS2, K2_ap, KC_ap, FR.R.bind_ok, FR.R.bind_exc, FR.R.toS_ok, FR.R.toS_exc, List.getElem?_cons_zero, List.getElem?_cons_succ, List.set_cons_zero, List.set_cons_succ, List.map_cons, List.map_nil, List.cons_append, List.nil_append, List.append_nil, List.length_cons, List.length_nil, List.length_map, Option.map_some, Bool.not_true, Bool.not_false, decide_true, decide_false, if_true, if_false, List.reduceReplicate, Nat.reduceAdd, Nat.reduceSub, Bool.if_true_left, Bool.not_not, List.isEmpty_cons, List.isEmpty_nil, Bool.false_eq_true, Int.cast_ofNat_Int, Int.natCast_zero, Int.natCast_one, dec_self, Int.reduceLT, Int.reduceLE, Int.reduceEq, A, SM, gs, z, y, cut1, cut2, C1, C2]
    · refine ⟨l, h, ?_⟩
      unfold F__law_near
      simp -implicitDefEqProofs (maxSteps := 2000000) (disch := first | omega | rfl | decide | exact Nat.le_of_ble_eq_true rfl) only [WS, WS2, K2_ap, KC_ap, FR.R.bind_ok, FR.R.bind_exc, FR.R.toS_ok, FR.R.toS_exc, List.getElem?_cons_zero, List.getElem?_cons_succ, List.set_cons_zero, List.set_cons_succ, List.map_cons, List.map_nil, List.cons_append, List.nil_append, List.append_nil, List.length_cons, List.length_nil, List.length_map, Option.map_some, Bool.not_true, Bool.not_false, decide_true, decide_false, if_true, if_false, List.reduceReplicate, Nat.reduceAdd, Nat.reduceSub, Bool.if_true_left, Bool.not_not, List.isEmpty_cons, List.isEmpty_nil, Bool.false_eq_true, Int.cast_ofNat_Int, Int.natCast_zero, Int.natCast_one, dec_self, Int.reduceLT, Int.reduceLE, Int.reduceEq, A, SM, gs, z, y]

theorem right_ok {l : List GR} (h : GrOk l) {T : Nat} (hT : T ≤ 40) {v : Int} (e : cnt dl (l.map gm) T = v) : F__law_right [.p (.lst (l.map grP)), .p (.int T), .p (.int v)] [] = .ok (.p (.bl true)) [] := by
  have G := law_ground_ok h
  have SP := spreads_ok h hT
  have W := fun S => whole_int v S
  rw [e] at SP
  unfold grdP at *
  unfold F__law_right
  simp -implicitDefEqProofs (maxSteps := 2000000) (disch := first | omega | rfl | decide | exact Nat.le_of_ble_eq_true rfl) only [WS, WS2, K2_ap, KC_ap, FR.R.bind_ok, FR.R.bind_exc, FR.R.toS_ok, FR.R.toS_exc, List.getElem?_cons_zero, List.getElem?_cons_succ, List.set_cons_zero, List.set_cons_succ, List.map_cons, List.map_nil, List.cons_append, List.nil_append, List.append_nil, List.length_cons, List.length_nil, List.length_map, Option.map_some, Bool.not_true, Bool.not_false, decide_true, decide_false, if_true, if_false, List.reduceReplicate, Nat.reduceAdd, Nat.reduceSub, Bool.if_true_left, Bool.not_not, List.isEmpty_cons, List.isEmpty_nil, Bool.false_eq_true, Int.cast_ofNat_Int, Int.natCast_zero, Int.natCast_one, dec_self, Int.reduceLT, Int.reduceLE, Int.reduceEq, G, SP, W]
theorem plain : ∀ ns : List Int, ns.length ≤ 63 → ∃ S, F_law [.p (.scr (ns.map .int))] [] = .ok (.p (.bl true)) S := by
  intro ns hn
  refine okR_true ?_
  unfold F_law
  simp -implicitDefEqProofs (maxSteps := 2000000) (disch := first | omega | rfl | decide | exact Nat.le_of_ble_eq_true rfl) only [WS, WS2, K2_ap, KC_ap, FR.R.bind_ok, FR.R.bind_exc, FR.R.toS_ok, FR.R.toS_exc, List.getElem?_cons_zero, List.getElem?_cons_succ, List.set_cons_zero, List.set_cons_succ, List.map_cons, List.map_nil, List.cons_append, List.nil_append, List.append_nil, List.length_cons, List.length_nil, List.length_map, Option.map_some, Bool.not_true, Bool.not_false, decide_true, decide_false, if_true, if_false, List.reduceReplicate, Nat.reduceAdd, Nat.reduceSub, Bool.if_true_left, Bool.not_not, List.isEmpty_cons, List.isEmpty_nil, Bool.false_eq_true, Int.cast_ofNat_Int, Int.natCast_zero, Int.natCast_one, dec_self, Int.reduceLT, Int.reduceLE, Int.reduceEq, pool_ok ns hn, T_law_1_ap]
  refine wclasses (Pool.new ns) fun l C1 hl h1 => ?_
  have h4 := hl.l4
  have l1 := hl.l1
  simp -implicitDefEqProofs (maxSteps := 2000000) (disch := first | omega | rfl | decide | exact Nat.le_of_ble_eq_true rfl) only [WS, WS2, K2_ap, KC_ap, FR.R.bind_ok, FR.R.bind_exc, FR.R.toS_ok, FR.R.toS_exc, List.getElem?_cons_zero, List.getElem?_cons_succ, List.set_cons_zero, List.set_cons_succ, List.map_cons, List.map_nil, List.cons_append, List.nil_append, List.append_nil, List.length_cons, List.length_nil, List.length_map, Option.map_some, Bool.not_true, Bool.not_false, decide_true, decide_false, if_true, if_false, List.reduceReplicate, Nat.reduceAdd, Nat.reduceSub, Bool.if_true_left, Bool.not_not, List.isEmpty_cons, List.isEmpty_nil, Bool.false_eq_true, Int.cast_ofNat_Int, Int.natCast_zero, Int.natCast_one, dec_self, Int.reduceLT, Int.reduceLE, Int.reduceEq, T_law_2_ap]
  refine wtotal h1 fun T C2 hT h2 => ?_
  have rows12 : ∀ {l : List GR}, GrOk l → ∀ r ∈ l, 1 ≤ r.2 ∧ r.2 ≤ 12 := by
    intro l hl r hr
    have m := hl.w
    have hs := hl.s
    refine ⟨(m r hr).2.2, ?_⟩
    have : ∀ l : List GR, (∀ q ∈ l, 1 ≤ q.2) → r ∈ l → r.2 ≤ grS l ∧ 0 ≤ grS l := by
      intro l
      induction l with
      | nil => intro _ h; cases h
      | cons a l ih =>
        intro hh hr
        have ha := hh a List.mem_cons_self
        have g0 : ∀ l : List GR, (∀ q ∈ l, 1 ≤ q.2) → 0 ≤ grS l := by
          intro l
          induction l with
          | nil => intro _; decide
          | cons a l ih =>
            intro hh
            have := ih fun r hr => hh r (List.mem_cons_of_mem _ hr)
            have := hh a List.mem_cons_self
            show 0 ≤ a.2 + grS l
            omega
        have gl := g0 l fun q hq => hh q (List.mem_cons_of_mem _ hq)
        show r.2 ≤ a.2 + grS l ∧ 0 ≤ a.2 + grS l
        rcases List.mem_cons.mp hr with rfl | hr
        · omega
        · have := ih (fun q hq => hh q (List.mem_cons_of_mem _ hq)) hr
          omega
    have := (this l (fun q hq => (m q hq).2.2) hr).1
    omega
  have LC := law_counts_ok (rows12 hl) h4 hT
  simp -implicitDefEqProofs (maxSteps := 2000000) (disch := first | omega | rfl | decide | exact Nat.le_of_ble_eq_true rfl) only [WS, WS2, K2_ap, KC_ap, FR.R.bind_ok, FR.R.bind_exc, FR.R.toS_ok, FR.R.toS_exc, List.getElem?_cons_zero, List.getElem?_cons_succ, List.set_cons_zero, List.set_cons_succ, List.map_cons, List.map_nil, List.cons_append, List.nil_append, List.append_nil, List.length_cons, List.length_nil, List.length_map, Option.map_some, Bool.not_true, Bool.not_false, decide_true, decide_false, if_true, if_false, List.reduceReplicate, Nat.reduceAdd, Nat.reduceSub, Bool.if_true_left, Bool.not_not, List.isEmpty_cons, List.isEmpty_nil, Bool.false_eq_true, Int.cast_ofNat_Int, Int.natCast_zero, Int.natCast_one, dec_self, Int.reduceLT, Int.reduceLE, Int.reduceEq, T_law_3_ap, LC, T_law_4_ap]
  refine wdraw (T + 1) h2 (by omega) (by omega) fun x C3 x0 x1 h3 => ?_
  obtain ⟨X, rfl⟩ := Int.eq_ofNat_of_zero_le x0
  simp -implicitDefEqProofs (maxSteps := 2000000) (disch := first | omega | rfl | decide | exact Nat.le_of_ble_eq_true rfl) only [WS, WS2, K2_ap, KC_ap, FR.R.bind_ok, FR.R.bind_exc, FR.R.toS_ok, FR.R.toS_exc, List.getElem?_cons_zero, List.getElem?_cons_succ, List.set_cons_zero, List.set_cons_succ, List.map_cons, List.map_nil, List.cons_append, List.nil_append, List.append_nil, List.length_cons, List.length_nil, List.length_map, Option.map_some, Bool.not_true, Bool.not_false, decide_true, decide_false, if_true, if_false, List.reduceReplicate, Nat.reduceAdd, Nat.reduceSub, Bool.if_true_left, Bool.not_not, List.isEmpty_cons, List.isEmpty_nil, Bool.false_eq_true, Int.cast_ofNat_Int, Int.natCast_zero, Int.natCast_one, dec_self, Int.reduceLT, Int.reduceLE, Int.reduceEq, T_law_5_ap]
  refine wdraw l.length h3 (by omega) (by omega) fun n C4 n0 n1 h4' => ?_
  obtain ⟨N, rfl⟩ := Int.eq_ofNat_of_zero_le n0
  obtain ⟨l2, hl2, NE⟩ := near_ok hl (n := N) (by omega)
  have TR := lc_mapA (fi := iOf srcL (c1 gRevL (fVar 2))) (g := pNm 12) (e := fTup (aCons (c2 gAddI (c2 gModI (cA gInt1 (aCons (c2 gIx (fVar 12) (fC (.int 0))) aNil)) (fC (.int 1000))) (fC (.int 1))) (aCons (c2 gIx (fVar 12) (fC (.int 1))) aNil))) (own := [12])
    (ρ := [some (.p (.scr (ns.map .int))), some (.r 0), some (.p (.lst (l.map grP))), some (.p (.int T)), some (.p (.lst (tabP (cnt dl (l.map gm)) T))), some (.p (.int (X : Int))), some (.p (.lst (l2.map grP))), none, none, none, none, none, none]) (S := [C4, .dead]) (S0 := [C4, .dead]) grP (fun x => grP (x.1 % 1000 + 1, x.2)) l.reverse
    (by simp -implicitDefEqProofs (maxSteps := 2000000) (disch := first | omega | rfl | decide | exact Nat.le_of_ble_eq_true rfl) only [WS, WS2, K2_ap, KC_ap, FR.R.bind_ok, FR.R.bind_exc, FR.R.toS_ok, FR.R.toS_exc, List.getElem?_cons_zero, List.getElem?_cons_succ, List.set_cons_zero, List.set_cons_succ, List.map_cons, List.map_nil, List.cons_append, List.nil_append, List.append_nil, List.length_cons, List.length_nil, List.length_map, Option.map_some, Bool.not_true, Bool.not_false, decide_true, decide_false, if_true, if_false, List.reduceReplicate, Nat.reduceAdd, Nat.reduceSub, Bool.if_true_left, Bool.not_not, List.isEmpty_cons, List.isEmpty_nil, Bool.false_eq_true, Int.cast_ofNat_Int, Int.natCast_zero, Int.natCast_one, dec_self, Int.reduceLT, Int.reduceLE, Int.reduceEq]; rw [List.map_reverse, List.map_reverse, List.map_reverse])
    (fun x hx => ⟨_, rfl, fun ac => by
      have m1 : x.1.fmod 1000 = x.1 % 1000 := Int.fmod_eq_emod_of_nonneg _ (by decide)
      unfold grP
      simp -implicitDefEqProofs (maxSteps := 2000000) (disch := first | omega | rfl | decide | exact Nat.le_of_ble_eq_true rfl) only [WS, WS2, K2_ap, KC_ap, FR.R.bind_ok, FR.R.bind_exc, FR.R.toS_ok, FR.R.toS_exc, List.getElem?_cons_zero, List.getElem?_cons_succ, List.set_cons_zero, List.set_cons_succ, List.map_cons, List.map_nil, List.cons_append, List.nil_append, List.append_nil, List.length_cons, List.length_nil, List.length_map, Option.map_some, Bool.not_true, Bool.not_false, decide_true, decide_false, if_true, if_false, List.reduceReplicate, Nat.reduceAdd, Nat.reduceSub, Bool.if_true_left, Bool.not_not, List.isEmpty_cons, List.isEmpty_nil, Bool.false_eq_true, Int.cast_ofNat_Int, Int.natCast_zero, Int.natCast_one, dec_self, Int.reduceLT, Int.reduceLE, Int.reduceEq, wipeD, m1]⟩) (by rw [List.length_reverse]; omega) (Calm.all (Calm.cons h4'.calm (Calm.one rfl)) _)
  have et : (l.reverse.map fun x => grP (x.1 % 1000 + 1, x.2)) = (l.reverse.map fun x => ((x.1 % 1000 + 1, x.2) : GR)).map grP := by rw [List.map_map]; rfl
  rw [et] at TR
  have ok3 : GrOk (l.reverse.map fun x => ((x.1 % 1000 + 1, x.2) : GR)) := by
    refine ⟨by rw [List.length_map, List.length_reverse]; exact l1, by rw [List.length_map, List.length_reverse]; exact h4, fun q hq => ?_, ?_⟩
    · obtain ⟨y, hy, rfl⟩ := List.mem_map.mp hq
      have := (hl.w y (List.mem_reverse.mp hy)).2.2
      refine ⟨?_, ?_, this⟩ <;> dsimp only <;> omega
    · have : grS (l.reverse.map fun x => ((x.1 % 1000 + 1, x.2) : GR)) = grS l := by
        unfold grS
        rw [List.map_map]
        show (l.reverse.map (·.2)).sum = _
        rw [List.map_reverse, List.sum_reverse]
      rw [this]
      exact hl.s
  have e3 : cnt dl ((l.reverse.map fun x => ((x.1 % 1000 + 1, x.2) : GR)).map gm) = cnt dl (l.map gm) := by
    rw [List.map_map]
    show cnt dl (l.reverse.map gm) = _
    rw [List.map_reverse, cnt_rev]
  have G := law_ground_ok hl
  have S1 := spreads_ok hl hT
  have S2 := spreads_ok hl (T := X) (by omega)
  have W1 := fun S => whole_int (cnt dl (l.map gm) T) S
  have W2 := fun S => whole_int (cnt dl (l.map gm) X) S
  have A1 := tab_atP (f := cnt dl (l.map gm)) (T := T) (i := T) (by omega) (k := (T : Int)) rfl
  have A2 := tab_atP (f := cnt dl (l.map gm)) (T := T) (i := X) (by omega) (k := (X : Int)) rfl
  have R1 := right_ok ok3 hT (congrFun e3 T)
  have LC2 := law_counts_ok (rows12 hl2) hl2.l4 hT
  have A3 := tab_atP (f := cnt dl (l2.map gm)) (T := T) (i := T) (by omega) (k := (T : Int)) rfl
  have R2 := right_ok hl2 hT (rfl : cnt dl (l2.map gm) T = _)
  unfold grdP at *
  simp -implicitDefEqProofs (maxSteps := 2000000) (disch := first | omega | rfl | decide | exact Nat.le_of_ble_eq_true rfl) only [WS, WS2, K2_ap, KC_ap, FR.R.bind_ok, FR.R.bind_exc, FR.R.toS_ok, FR.R.toS_exc, List.getElem?_cons_zero, List.getElem?_cons_succ, List.set_cons_zero, List.set_cons_succ, List.map_cons, List.map_nil, List.cons_append, List.nil_append, List.append_nil, List.length_cons, List.length_nil, List.length_map, Option.map_some, Bool.not_true, Bool.not_false, decide_true, decide_false, if_true, if_false, List.reduceReplicate, Nat.reduceAdd, Nat.reduceSub, Bool.if_true_left, Bool.not_not, List.isEmpty_cons, List.isEmpty_nil, Bool.false_eq_true, Int.cast_ofNat_Int, Int.natCast_zero, Int.natCast_one, dec_self, Int.reduceLT, Int.reduceLE, Int.reduceEq, NE, T_law_6_ap, TR, T_law_7_ap, G, T_law_8_ap, S1, T_law_9_ap, S2, T_law_10_ap, W1, W2, T_law_11_ap, A1, A2, T_law_12_ap, R1, T_law_13_ap, LC2, T_law_14_ap, A3, R2, T_law_15_ap, S1, A1]

end G_fieldlots_k42_spreads_counted
theorem PySem.Challenge.cw_fieldlots_k42_spreads_counted_holds : PySem.Challenge.rw_fieldlots_k42_spreads_counted.Holds := by
  exact G_fieldlots_k42_spreads_counted.holds G_fieldlots_k42_spreads_counted.plain
