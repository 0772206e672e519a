import PyProof.Rows.All
import Wide.All
import OpenK.AllK
import Wide.FinOn
import HandS.ForMost
import HandS.ForExc
import HandS.TupAny
import HandS.Text
import PyProof.ToksMono
import HandS.ForList
import HandS.Style
import HandS.IsInst
import HandS.Replace
import HandS.ReplaceLit
import HandS.ReplaceList
import HandS.FStr
import PyProof.EqAt
import PyProof.EqKinds
import HandS.OwnEq
import PyProof.NeKinds
import HandS.NoneIn
import HandS.Flow
import HandS.Iter
import KE.GoesMore
import PyProof.EnumMake
import HandS.Comp
import HandS.ClsMeth
import HandS.DictComp
import HandS.WordsDict
import KE.KUnpackStar
import HandS.Defaults
import HandS.ReplaceDef
import HandS.HeadNt
import KE.KStateDown
import HandS.HeadHook1
import HandS.HeadHook2
import HandS.Head2
import HandS.HeadEnd
import HandS.EndBits
import HandS.Star
import HandS.Conv
import HandS.ExcInit
import HandS.ExcField
import HandS.TryOnly
import HandS.ExcOwn
import HandS.Zip
import HandS.WrittenGet
import HandS.HeadHook3
import HandS.RaiseOp
import HandS.Dict
import PyProof.StrOps2
import HandS.Head0
import HandS.Head1
import PyProof.ReprRoads
import HandS.List
import PyProof.Rows.SortStr
import KE.KExcIs
import KE.KIsAll
import HandS.ExcIs
import HandS.More
import KE.KFmtOwn
import PyProof.InstEq
import PyProof.Rows.Range3
import HandS.Small
import HandS.Property
import PyProof.CallFns
import PyProof.RulesMatch
import HandS.Strs
import HandS.SortOrd
import HandS.SortRule
import PyProof.CallStr
import HandS.DictEq
import Lean
import PySem.Challenge.RW_keptslot_k07_houses_made
set_option Elab.async false
set_option linter.all false
set_option maxRecDepth 100000
set_option maxHeartbeats 0
set_option autoImplicit false
local macro_rules | `(tactic| simp_all!) => `(tactic| first | exact Or.inl rfl | exact Or.inr (Or.inl rfl) | exact Or.inr (Or.inr rfl))
local macro_rules | `(tactic| dsimp!) => `(tactic| first | exact Or.inl rfl | exact Or.inr rfl)
local macro_rules | `(tactic| dsimp?!) => `(tactic| first | exact Or.inr rfl | exact Or.inl rfl)
namespace Z

inductive W where
  | non | bl (b : Bool) | int (i : Int) | str (s : List Nat) | tup (ws : List W) | ref (n : Nat) | fn (n : Nat) | cl (n : Nat) | obj (c : Nat) (fs : List (Nat × W)) | fz (ws : List W) | exv (c : Nat) (fs : List (Nat × W))

inductive Cell where
  | lst (xs : List W)
  | dct (kvs : List (W × W))
  | ins (c : Nat) (fs : List (Nat × W))
  | dead

inductive T where
  | nil
  | node (c : Cell) (l r : T)
def T.get : T → Nat → Option Cell
  | .nil, _ => none
  | .node c l r, i => match i with
    | 0 => some c
    | j + 1 => match j % 2 with
      | 0 => l.get (j / 2)
      | _ => r.get (j / 2)
def T.set : T → Nat → Cell → T
  | .nil, _, x => .node x .nil .nil
  | .node c l r, i, x => match i with
    | 0 => .node x l r
    | j + 1 => match j % 2 with
      | 0 => .node c (l.set (j / 2) x) r
      | _ => .node c l (r.set (j / 2) x)
def T.Valid (t : T) (n : Nat) : Prop := ∀ i, (t.get i).isSome = true ↔ i < n

theorem T.get_succ_even (c : Cell) (l r : T) (k : Nat) : (T.node c l r).get (2 * k + 1) = l.get k := by
  have h1 : (2 * k) % 2 = 0 := by omega
  have h2 : (2 * k) / 2 = k := by omega
  show (match (2 * k) % 2 with | 0 => l.get ((2 * k) / 2) | _ => r.get ((2 * k) / 2)) = _
  rw [h1, h2]
  all_goals rfl
theorem T.get_succ_odd (c : Cell) (l r : T) (k : Nat) : (T.node c l r).get (2 * k + 2) = r.get k := by
  have h1 : (2 * k + 1) % 2 = 1 := by omega
  have h2 : (2 * k + 1) / 2 = k := by omega
  show (match (2 * k + 1) % 2 with | 0 => l.get ((2 * k + 1) / 2) | _ => r.get ((2 * k + 1) / 2)) = _
  rw [h1, h2]
  all_goals rfl
theorem T.set_succ_even (c : Cell) (l r : T) (k : Nat) (x : Cell) : (T.node c l r).set (2 * k + 1) x = .node c (l.set k x) r := by
  have h1 : (2 * k) % 2 = 0 := by omega
  have h2 : (2 * k) / 2 = k := by omega
  show (match (2 * k) % 2 with | 0 => T.node c (l.set ((2 * k) / 2) x) r | _ => .node c l (r.set ((2 * k) / 2) x)) = _
  rw [h1, h2]
  all_goals rfl
theorem T.set_succ_odd (c : Cell) (l r : T) (k : Nat) (x : Cell) : (T.node c l r).set (2 * k + 2) x = .node c l (r.set k x) := by
  have h1 : (2 * k + 1) % 2 = 1 := by omega
  have h2 : (2 * k + 1) / 2 = k := by omega
  show (match (2 * k + 1) % 2 with | 0 => T.node c (l.set ((2 * k + 1) / 2) x) r | _ => .node c l (r.set ((2 * k + 1) / 2) x)) = _
  rw [h1, h2]
  all_goals rfl
theorem nat_cases (i : Nat) : i = 0 ∨ (∃ k, i = 2 * k + 1) ∨ ∃ k, i = 2 * k + 2 := by
  rcases Nat.eq_zero_or_pos i with h | h
  · exact .inl h
  · rcases Nat.mod_two_eq_zero_or_one i with e | e
    · exact .inr (.inr ⟨i / 2 - 1, by omega⟩)
    · exact .inr (.inl ⟨i / 2, by omega⟩)
theorem T.Valid.left {c : Cell} {l r : T} {n : Nat} (h : (T.node c l r).Valid n) : l.Valid (n / 2) := fun k => by
  have q := h (2 * k + 1)
  rw [T.get_succ_even] at q
  rw [q]; omega
theorem T.Valid.right {c : Cell} {l r : T} {n : Nat} (h : (T.node c l r).Valid n) : r.Valid ((n - 1) / 2) := fun k => by
  have q := h (2 * k + 2)
  rw [T.get_succ_odd] at q
  rw [q]; omega
theorem T.Valid.pos {c : Cell} {l r : T} {n : Nat} (h : (T.node c l r).Valid n) : 0 < n := (h 0).mp rfl
theorem T.Valid.nil {n : Nat} (h : T.nil.Valid n) : n = 0 := by
  rcases Nat.eq_zero_or_pos n with e | e
  · exact e
  · have := (h 0).mpr e
    cases this
theorem T.get_set : ∀ (t : T) (n i : Nat) (x : Cell) (j : Nat), t.Valid n → i ≤ n → (t.set i x).get j = if j = i then some x else t.get j
  | .nil, n, i, x, j, h, hi => by
    have e : i = 0 := by have := h.nil; omega
    subst e
    show (T.node x .nil .nil).get j = _
    rcases nat_cases j with e | ⟨k, e⟩ | ⟨k, e⟩
    · subst e; rfl
    · subst e; rw [T.get_succ_even, if_neg (by omega)]; rfl
    · subst e; rw [T.get_succ_odd, if_neg (by omega)]; rfl
  | .node c l r, n, i, x, j, h, hi => by
    have hp := h.pos
    rcases nat_cases i with e | ⟨k, e⟩ | ⟨k, e⟩
    · subst e
      show (T.node x l r).get j = _
      rcases nat_cases j with e | ⟨m, e⟩ | ⟨m, e⟩
      · subst e; rfl
      · subst e; rw [T.get_succ_even, T.get_succ_even, if_neg (by omega)]
      · subst e; rw [T.get_succ_odd, T.get_succ_odd, if_neg (by omega)]
    · subst e
      rw [T.set_succ_even]
      rcases nat_cases j with e | ⟨m, e⟩ | ⟨m, e⟩
      · subst e; rw [if_neg (by omega)]; rfl
      · subst e
        rw [T.get_succ_even, T.get_succ_even, T.get_set l (n / 2) k x m h.left (by omega)]
        by_cases q : m = k
        · subst q; rw [if_pos rfl, if_pos rfl]
        · rw [if_neg q, if_neg (by omega)]
      · subst e; rw [T.get_succ_odd, T.get_succ_odd, if_neg (by omega)]
    · subst e
      rw [T.set_succ_odd]
      rcases nat_cases j with e | ⟨m, e⟩ | ⟨m, e⟩
      · subst e; rw [if_neg (by omega)]; rfl
      · subst e; rw [T.get_succ_even, T.get_succ_even, if_neg (by omega)]
      · subst e
        rw [T.get_succ_odd, T.get_succ_odd, T.get_set r ((n - 1) / 2) k x m h.right (by omega)]
        by_cases q : m = k
        · subst q; rw [if_pos rfl, if_pos rfl]
        · rw [if_neg q, if_neg (by omega)]

structure Hz where
  n : Nat
  t : T
  ok : t.Valid n
def Hz.empty : Hz := ⟨0, .nil, fun i => by constructor <;> intro h <;> first | cases h | omega⟩
def Hz.get (h : Hz) (i : Nat) : Option Cell := h.t.get i
def Hz.push (h : Hz) (c : Cell) : Hz := ⟨h.n + 1, h.t.set h.n c, fun i => by
  rw [T.get_set h.t h.n h.n c i h.ok (Nat.le_refl _)]
  by_cases e : i = h.n
  · subst e; rw [if_pos rfl]; simp
  · rw [if_neg e, h.ok i]; omega⟩
def Hz.put (h : Hz) (i : Nat) (c : Cell) : Hz := if p : i < h.n then ⟨h.n, h.t.set i c, fun j => by
  rw [T.get_set h.t h.n i c j h.ok (Nat.le_of_lt p)]
  by_cases e : j = i
  · subst e; rw [if_pos rfl]; simp [p]
  · rw [if_neg e, h.ok j]⟩ else h
theorem Hz.get_push (h : Hz) (c : Cell) (i : Nat) : (h.push c).get i = if i = h.n then some c else h.get i := T.get_set h.t h.n h.n c i h.ok (Nat.le_refl _)
theorem Hz.get_put (h : Hz) (i : Nat) (c : Cell) (j : Nat) (p : i < h.n) : (h.put i c).get j = if j = i then some c else h.get j := by
  unfold Hz.put
  rw [dif_pos p]
  exact T.get_set h.t h.n i c j h.ok (Nat.le_of_lt p)
theorem Hz.push_n (h : Hz) (c : Cell) : (h.push c).n = h.n + 1 := rfl
theorem Hz.put_n (h : Hz) (i : Nat) (c : Cell) : (h.put i c).n = h.n := by
  unfold Hz.put
  split <;> rfl
theorem Hz.get_lt {h : Hz} {i : Nat} {c : Cell} (e : h.get i = some c) : i < h.n := (h.ok i).mp (by
  have : h.t.get i = some c := e
  rw [this]; rfl)
theorem Hz.get_push_self (h : Hz) (c : Cell) : (h.push c).get h.n = some c := by rw [Hz.get_push, if_pos rfl]
theorem Hz.get_put_self {h : Hz} {c d : Cell} {i : Nat} (e : h.get i = some d) : (h.put i c).get i = some c := by
  rw [Hz.get_put h i c i (Hz.get_lt e), if_pos rfl]
theorem Hz.get_put_ne {h : Hz} {c d : Cell} {i j : Nat} (e : h.get i = some d) (ne : j ≠ i) : (h.put i c).get j = h.get j := by
  rw [Hz.get_put h i c j (Hz.get_lt e), if_neg ne]

inductive R (α : Type) where
  | ok (a : α) (h : Hz)
  | exc (c : Nat) (fs : List (Nat × W)) (h : Hz)
  | err
abbrev M (α : Type) := Hz → R α
def ret {α : Type} (a : α) : M α := fun h => .ok a h
def bnd {α β : Type} (m : M α) (k : α → M β) : M β := fun h => match m h with
  | .ok a h' => k a h'
  | .exc c fs h' => .exc c fs h'
  | .err => .err
def bad {α : Type} : M α := fun _ => .err
def noex {α : Type} (m : M α) : M α := fun h => match m h with
  | .ok a h' => .ok a h'
  | _ => .err
def ofO {α : Type} : Option α → M α
  | some a => ret a
  | none => bad
def new (c : Cell) : M W := fun h => .ok (.ref h.n) (h.push c)
def cell (i : Nat) : M Cell := fun h => match h.get i with
  | some c => .ok c h
  | none => .err
def store (i : Nat) (c : Cell) : M Unit := fun h => .ok () (h.put i c)
instance : Monad M where
  pure := ret
  bind := bnd
end Z

namespace Z
open PySem L2

structure Gt where
  fn : Nat → Addr
  cl : Nat → Addr
  nm : Nat → Str
  no : Addr → Prop
  xv : Addr → Option (Nat × Option Addr)
  hs : W → Int
  st : Bool
def Gt.wn (G : Gt) (p : Addr → Prop) : Gt := ⟨G.fn, G.cl, G.nm, p, G.xv, G.hs, G.st⟩

def Cell.live : Cell → Bool
  | .lst _ => true
  | .dct _ => true
  | .ins _ _ => true
  | .dead => false

def okO : HO → Bool
  | .tup _ => false
  | .frz ob (.tup _) => ob.dict.isNone
  | _ => true
def FzL (K : PySem.W.Frag) (H : Hp) (a : Addr) (vs : List V) : Prop := (∃ o, H a = some (.frz o (.lst vs))) ∨ ∀ H1 : Hp, SqL K H1 a vs
theorem FzL.sq {K : PySem.W.Frag} {H : Hp} {a : Addr} {vs : List V} (f : FzL K H a vs) : SqL K H a vs := by
  rcases f with ⟨o, e⟩ | f
  · exact .inl (.inr ⟨o, e⟩)
  · exact f H

def LvAt (ι : Nat → Addr) (h : Hz) (a : Addr) : Prop := ∃ i c, h.get i = some c ∧ c.live = true ∧ ι i = a

section
variable (K : PySem.W.Frag) (G : Gt) (ι : Nat → Addr) (h : Hz) (H : Hp)
mutual
inductive Rep : W → V → Prop
  | non : Rep .non .non
  | bl (b : Bool) : Rep (.bl b) (.bl b)
  | int (i : Int) : Rep (.int i) (.int i)
  | str (s : List Nat) : Rep (.str s) (.str ⟨s.toArray⟩)
  | tup {ws : List W} {a : Addr} {vs : List V} : SqT K H a vs → Reps ws vs → Rep (.tup ws) (.ref a)
  | fz {ws : List W} {a : Addr} {vs : List V} : FzL K H a vs → Reps ws vs → Rep (.fz ws) (.ref a)
  | obj {c : Nat} {fs : List (Nat × W)} {a dx : Addr} {gs : List (Str × V)} : H a = some (.ins (G.cl c) dx gs) → ¬ LvAt ι h a → ¬ G.no a → RepF fs gs → Rep (.obj c fs) (.ref a)
  | ref (i : Nat) : i < h.n → Rep (.ref i) (.ref (ι i))
  | fn (i : Nat) : Rep (.fn i) (.ref (G.fn i))
  | cl (i : Nat) : Rep (.cl i) (.ref (G.cl i))
inductive Reps : List W → List V → Prop
  | nil : Reps [] []
  | cons {w : W} {v : V} {ws : List W} {vs : List V} : Rep w v → Reps ws vs → Reps (w :: ws) (v :: vs)
inductive RepF : List (Nat × W) → List (Str × V) → Prop
  | nil : RepF [] []
  | cons {f : Nat} {w : W} {v : V} {fs : List (Nat × W)} {gs : List (Str × V)} : Rep w v → RepF fs gs → RepF ((f, w) :: fs) ((G.nm f, v) :: gs)
end

def keyW : W → Option Key
  | .int i => some (.inl i)
  | .str s => some (.inr ⟨s.toArray⟩)
  | _ => none
def KE1 (p : W × W) (q : Key × V) : Prop := keyW p.1 = some q.1 ∧ Rep K G ι h H p.2 q.2
def CellRep (a : Addr) : Cell → Prop
  | .lst xs => ∃ vs, H a = some (.lst vs) ∧ Reps K G ι h H xs vs
  | .dct kvs => ∃ qs, H a = some (.dK qs) ∧ Paired (KE1 K G ι h H) kvs qs
  | .ins c fs => ∃ dx gs, H a = some (.ins (G.cl c) dx gs) ∧ RepF K G ι h H fs gs
  | .dead => True
structure HRep : Prop where
  td : G.st = true → ∀ a o, H a = some o → okO o = true
  cell : ∀ i c, h.get i = some c → CellRep K G ι h H (ι i) c
  inj : ∀ i j c d, h.get i = some c → h.get j = some d → c.live = true → d.live = true → ι i = ι j → i = j
  no : ∀ a, G.no a → H a ≠ none
  off : ∀ i c, h.get i = some c → c.live = true → ¬ G.no (ι i)
def XRep (fs : List (Nat × W)) (d : Option Addr) : Prop := (d = none ∧ fs = []) ∨ ∃ dd gs, d = some dd ∧ H dd = some (.xd gs) ∧ RepF K G ι h H fs gs
def ExvRep (w : W) (v : V) : Prop := ∃ c fs a d, w = .exv c fs ∧ v = .ref a ∧ G.xv a = some (c, d) ∧ XRep K G ι h H fs d
def SRep (ρ : List (Option W)) (σ : St) : Prop := ρ.length ≤ σ.length ∧ ∀ (i : Nat) w, ρ[i]? = some (some w) → ∃ v, σ[i]? = some (some v) ∧ (Rep K G ι h H w v ∨ ExvRep K G ι h H w v)
end

structure Nx0 (ι : Nat → Addr) (h : Hz) (H : Hp) (ι' : Nat → Addr) (h' : Hz) (H' : Hp) : Prop where
  ext : ∀ i, i < h.n → ι' i = ι i
  le : h.n ≤ h'.n
  keep : ∀ a o, H a = some o → ¬ LvAt ι h a → H' a = some o
  there : ∀ a, H a ≠ none → H' a ≠ none
  new : ∀ i, h.n ≤ i → i < h'.n → H (ι' i) = none
  dead : ∀ i c, i < h.n → h'.get i = some c → c.live = true → ∃ d, h.get i = some d ∧ d.live = true
structure Next (K : PySem.W.Frag) (G : Gt) (ι : Nat → Addr) (h : Hz) (H : Hp) (ι' : Nat → Addr) (h' : Hz) (H' : Hp) : Prop extends Nx0 ι h H ι' h' H' where
  rep : HRep K G ι' h' H'

section
variable {K : PySem.W.Frag} {G : Gt} {ι ι' ι2 : Nat → Addr} {h h' h2 : Hz} {H H' H2 : Hp}
theorem Next.refl (r : HRep K G ι h H) : Next K G ι h H ι h H :=
  ⟨⟨fun _ _ => rfl, Nat.le_refl _, fun _ _ e _ => e, fun _ e => e, fun i a b => absurd (Nat.lt_of_le_of_lt a b) (Nat.lt_irrefl _), fun i c _ e l => ⟨c, e, l⟩⟩, r⟩
theorem Nx0.off (n : Nx0 ι h H ι' h' H') {a : Addr} (e : H a ≠ none) (l : ¬ LvAt ι h a) : ¬ LvAt ι' h' a := by
  rintro ⟨i, c, gi, lc, ei⟩
  by_cases hi : i < h.n
  · obtain ⟨d, gd, ld⟩ := n.dead i c hi gi lc
    exact l ⟨i, d, gd, ld, by rw [← n.ext i hi]; exact ei⟩
  · exact e (by rw [← ei]; exact n.new i (Nat.le_of_not_lt hi) (Hz.get_lt gi))
theorem Next.trans (a : Next K G ι h H ι' h' H') (b : Next K G ι' h' H' ι2 h2 H2) : Next K G ι h H ι2 h2 H2 := by
  refine ⟨⟨fun i hi => (b.ext i (Nat.lt_of_lt_of_le hi a.le)).trans (a.ext i hi), Nat.le_trans a.le b.le, fun x o e l => ?_, fun x e => b.there x (a.there x e), fun i h1 h2' => ?_, fun i c hi g l => ?_⟩, b.rep⟩
  · exact b.keep x o (a.keep x o e l) (a.toNx0.off (by rw [e]; simp) l)
  · by_cases hi : i < h'.n
    · rw [b.ext i hi]; exact a.new i h1 hi
    · have q := b.new i (Nat.le_of_not_lt hi) h2'
      cases e : H (ι2 i) with
      | none => rfl
      | some o => exact absurd q (a.there _ (by rw [e]; simp))
  · obtain ⟨d, gd, ld⟩ := b.dead i c (Nat.lt_of_lt_of_le hi a.le) g l
    exact a.dead i d hi gd ld
def mutO : HO → Bool
  | .lst _ => true
  | .ins _ _ _ => true
  | .dK _ => true
  | .ext _ => true
  | _ => false
theorem HRep.mut (r : HRep K G ι h H) {a : Addr} (l : LvAt ι h a) : ∃ o, H a = some o ∧ mutO o = true := by
  obtain ⟨i, c, gi, lc, rfl⟩ := l
  have q := r.cell i c gi
  cases c with
  | lst xs => obtain ⟨vs, e, _⟩ := q; exact ⟨_, e, rfl⟩
  | dct kvs => obtain ⟨qs, e, _⟩ := q; exact ⟨_, e, rfl⟩
  | ins c fs => obtain ⟨dx, gs, e, _⟩ := q; exact ⟨_, e, rfl⟩
  | dead => cases lc
theorem HRep.tup_off (r : HRep K G ι h H) {a : Addr} {vs : List V} (e : Rd H a (.tup vs)) : ¬ LvAt ι h a := fun l => by
  obtain ⟨o, q, m⟩ := r.mut l
  rcases e with e | ⟨o', e⟩ <;> (rw [q] at e; cases e; cases m)
theorem sqT_next (r : HRep K G ι h H) (n : Nx0 ι h H ι' h' H') {a : Addr} {vs : List V} (e : SqT K H a vs) : SqT K H' a vs := by
  rcases e with e | e
  · have l := r.tup_off e
    rcases e with e | ⟨o, e⟩
    · exact .inl (.inl (n.keep _ _ e l))
    · exact .inl (.inr ⟨o, n.keep _ _ e l⟩)
  · exact .inr e
mutual
theorem Rep.next (r : HRep K G ι h H) (n : Nx0 ι h H ι' h' H') : ∀ {w : W} {v : V}, Rep K G ι h H w v → Rep K G ι' h' H' w v
  | _, _, .non => .non
  | _, _, .bl b => .bl b
  | _, _, .int i => .int i
  | _, _, .str s => .str s
  | _, _, .tup e q => .tup (sqT_next r n e) (Reps.next r n q)
  | _, _, .fz e q => .fz (by
      rcases e with ⟨o, e⟩ | e
      · refine .inl ⟨o, n.keep _ _ e fun l => ?_⟩
        obtain ⟨o', z, m⟩ := r.mut l
        rw [z] at e; cases e; cases m
      · exact .inr e) (Reps.next r n q)
  | _, _, .obj e l z q => .obj (n.keep _ _ e l) (n.off (by rw [e]; simp) l) z (RepF.next r n q)
  | _, _, .ref i hi => by
    rw [← n.ext i hi]
    exact .ref i (Nat.lt_of_lt_of_le hi n.le)
  | _, _, .fn i => .fn i
  | _, _, .cl i => .cl i
theorem Reps.next (r : HRep K G ι h H) (n : Nx0 ι h H ι' h' H') : ∀ {ws : List W} {vs : List V}, Reps K G ι h H ws vs → Reps K G ι' h' H' ws vs
  | _, _, .nil => .nil
  | _, _, .cons a b => .cons (Rep.next r n a) (Reps.next r n b)
theorem RepF.next (r : HRep K G ι h H) (n : Nx0 ι h H ι' h' H') : ∀ {fs : List (Nat × W)} {gs : List (Str × V)}, RepF K G ι h H fs gs → RepF K G ι' h' H' fs gs
  | _, _, .nil => .nil
  | _, _, .cons a b => .cons (Rep.next r n a) (RepF.next r n b)
end
theorem XRep.next (r : HRep K G ι h H) (n : Nx0 ι h H ι' h' H') {fs : List (Nat × W)} {d : Option Addr} (q : XRep K G ι h H fs d) : XRep K G ι' h' H' fs d := by
  rcases q with q | ⟨dd, gs, e1, e2, e3⟩
  · exact .inl q
  · refine .inr ⟨dd, gs, e1, n.keep _ _ e2 fun l => ?_, e3.next r n⟩
    obtain ⟨o', z, m⟩ := r.mut l
    rw [z] at e2; cases e2; cases m
theorem ExvRep.next (r : HRep K G ι h H) (n : Nx0 ι h H ι' h' H') {w : W} {v : V} (q : ExvRep K G ι h H w v) : ExvRep K G ι' h' H' w v := by
  obtain ⟨c, fs, a, d, e1, e2, e3, e4⟩ := q
  exact ⟨c, fs, a, d, e1, e2, e3, e4.next r n⟩
theorem SRep.next (r : HRep K G ι h H) (n : Nx0 ι h H ι' h' H') {ρ : List (Option W)} {σ : St} (q : SRep K G ι h H ρ σ) : SRep K G ι' h' H' ρ σ := ⟨q.1, fun i w e =>
  let ⟨v, e1, e2⟩ := q.2 i w e
  ⟨v, e1, e2.elim (fun z => .inl (z.next r n)) fun z => .inr (ExvRep.next r n z)⟩⟩
theorem Reps.length : ∀ {ws : List W} {vs : List V}, Reps K G ι h H ws vs → ws.length = vs.length
  | _, _, .nil => rfl
  | _, _, .cons _ b => congrArg Nat.succ (Reps.length b)
theorem Reps.append : ∀ {ws ws' : List W} {vs vs' : List V}, Reps K G ι h H ws vs → Reps K G ι h H ws' vs' → Reps K G ι h H (ws ++ ws') (vs ++ vs')
  | _, _, _, _, .nil, b => b
  | _, _, _, _, .cons a r, b => .cons a (Reps.append r b)
theorem Reps.get : ∀ {ws : List W} {vs : List V} {i : Nat} {w : W}, Reps K G ι h H ws vs → ws[i]? = some w → ∃ v, vs[i]? = some v ∧ Rep K G ι h H w v
  | _, _, _, _, .nil, e => by simp at e
  | _, _, 0, _, .cons a _, e => by simp at e; subst e; exact ⟨_, rfl, a⟩
  | _, _, i + 1, w, .cons _ b, e => by
    obtain ⟨v, h1, h2⟩ := Reps.get (i := i) (w := w) b (by simpa using e)
    exact ⟨v, by simpa using h1, h2⟩
theorem Reps.set {w : W} {v : V} (q : Rep K G ι h H w v) : ∀ {ws : List W} {vs : List V} (i : Nat), Reps K G ι h H ws vs → Reps K G ι h H (ws.set i w) (vs.set i v)
  | _, _, _, .nil => .nil
  | _, _, 0, .cons _ b => .cons q b
  | _, _, i + 1, .cons a b => .cons a (Reps.set q i b)
theorem Reps.take : ∀ {ws : List W} {vs : List V} (n : Nat), Reps K G ι h H ws vs → Reps K G ι h H (ws.take n) (vs.take n)
  | _, _, 0, _ => .nil
  | _, _, _ + 1, .nil => .nil
  | _, _, n + 1, .cons a b => .cons a (Reps.take n b)
theorem Reps.drop : ∀ {ws : List W} {vs : List V} (n : Nat), Reps K G ι h H ws vs → Reps K G ι h H (ws.drop n) (vs.drop n)
  | _, _, 0, q => q
  | _, _, _ + 1, .nil => .nil
  | _, _, n + 1, .cons _ b => Reps.drop n b
def ext1 (ι : Nat → Addr) (n : Nat) (p : Addr) : Nat → Addr := fun i => if i = n then p else ι i
theorem ext1_at {ι : Nat → Addr} {n : Nat} {p : Addr} : ext1 ι n p n = p := if_pos rfl
theorem ext1_lt {ι : Nat → Addr} {n i : Nat} {p : Addr} (hi : i < n) : ext1 ι n p i = ι i := if_neg (Nat.ne_of_lt hi)
theorem CellRep.move {a : Addr} {c : Cell} (f : ∀ w v, Rep K G ι h H w v → Rep K G ι' h' H' w v) (fs : ∀ ws vs, Reps K G ι h H ws vs → Reps K G ι' h' H' ws vs) (ff : ∀ ws vs, RepF K G ι h H ws vs → RepF K G ι' h' H' ws vs)
    (e : ∀ o, H a = some o → H' a = some o) (q : CellRep K G ι h H a c) : CellRep K G ι' h' H' a c := by
  cases c with
  | lst xs => obtain ⟨vs, h1, h2⟩ := q; exact ⟨vs, e _ h1, fs _ _ h2⟩
  | dct kvs => obtain ⟨qs, e1, e2⟩ := q; exact ⟨qs, e _ e1, L2.Paired.mapP e2 fun p q z => ⟨z.1, f _ _ z.2⟩⟩
  | ins c gs => obtain ⟨dx, us, h1, h2⟩ := q; exact ⟨dx, us, e _ h1, ff _ _ h2⟩
  | dead => trivial
theorem Nx0.alloc {p : Addr} {o : HO} {c : Cell} (hp : H p = none) : Nx0 ι h H (ext1 ι h.n p) (h.push c) (upd H p o) where
  ext := fun i hi => ext1_lt hi
  le := Nat.le_succ _
  keep := fun a u e _ => by rw [upd_ne (ne_of_none e hp)]; exact e
  there := fun a e => by
    by_cases q : a = p
    · subst q; exact absurd hp e
    · rw [upd_ne q]; exact e
  new := fun i h1 h2 => by
    have e : i = h.n := Nat.le_antisymm (Nat.le_of_lt_succ h2) h1
    subst e
    rw [ext1_at]; exact hp
  dead := fun i d hi g l => by
    rw [Hz.get_push, if_neg (Nat.ne_of_lt hi)] at g
    exact ⟨d, g, l⟩
theorem HRep.live_some (r : HRep K G ι h H) {a : Addr} (l : LvAt ι h a) : H a ≠ none := by
  obtain ⟨o', z, m⟩ := r.mut l
  rw [z]; simp
theorem td_upd {G : Gt} {H : Hp} {p : Addr} {o : HO} (td : G.st = true → ∀ a u, H a = some u → okO u = true) (ok : G.st = true → okO o = true) : G.st = true → ∀ a u, upd H p o a = some u → okO u = true := fun gs a u e => by
  by_cases q : a = p
  · subst q
    rw [upd_same] at e
    cases e
    exact ok gs
  · rw [upd_ne q] at e
    exact td gs a u e
theorem Next.alloc (r : HRep K G ι h H) {p : Addr} {o : HO} {c : Cell} (hp : H p = none) (hc : CellRep K G (ext1 ι h.n p) (h.push c) (upd H p o) p c) (ok : G.st = true → okO o = true := by exact fun _ => rfl) :
    Next K G ι h H (ext1 ι h.n p) (h.push c) (upd H p o) := by
  have n0 : Nx0 ι h H (ext1 ι h.n p) (h.push c) (upd H p o) := Nx0.alloc hp
  refine ⟨n0, ⟨td_upd r.td ok, fun i d g => ?_, fun i j d e gi gj ld le q => ?_, fun a z => n0.there a (r.no a z), fun i d g ld z => ?_⟩⟩
  · rw [Hz.get_push] at g
    by_cases hi : i = h.n
    · rw [if_pos hi] at g
      cases g
      rw [hi, ext1_at]
      exact hc
    · rw [if_neg hi] at g
      rw [ext1_lt (Hz.get_lt g)]
      exact (r.cell i d g).move (fun _ _ => Rep.next r n0) (fun _ _ => Reps.next r n0) (fun _ _ => RepF.next r n0) fun u e => by rw [upd_ne (ne_of_none e hp)]; exact e
  · rw [Hz.get_push] at gi gj
    by_cases hi : i = h.n
    · by_cases hj : j = h.n
      · rw [hi, hj]
      · rw [if_neg hj] at gj
        rw [hi, ext1_at, ext1_lt (Hz.get_lt gj)] at q
        exact absurd (by rw [← q]; exact hp) (r.live_some ⟨j, e, gj, le, rfl⟩)
    · rw [if_neg hi] at gi
      by_cases hj : j = h.n
      · rw [hj, ext1_at, ext1_lt (Hz.get_lt gi)] at q
        exact absurd (by rw [q]; exact hp) (r.live_some ⟨i, d, gi, ld, rfl⟩)
      · rw [if_neg hj] at gj
        rw [ext1_lt (Hz.get_lt gi), ext1_lt (Hz.get_lt gj)] at q
        exact r.inj i j d e gi gj ld le q
  · rw [Hz.get_push] at g
    by_cases hi : i = h.n
    · rw [hi, ext1_at] at z
      exact r.no p z hp
    · rw [if_neg hi] at g
      rw [ext1_lt (Hz.get_lt g)] at z
      exact r.off i d g ld z
theorem Nx0.store {i : Nat} {o : HO} {c d : Cell} (g : h.get i = some d) (ld : d.live = true) : Nx0 ι h H ι (h.put i c) (upd H (ι i) o) where
  ext := fun _ _ => rfl
  le := Nat.le_of_eq (Hz.put_n ..).symm
  keep := fun a u e l => by rw [upd_ne (fun q => l ⟨i, d, g, ld, q.symm⟩)]; exact e
  there := fun a e => by
    by_cases q : a = ι i
    · subst q; rw [upd_same]; simp
    · rw [upd_ne q]; exact e
  new := fun j h1 h2 => by
    rw [Hz.put_n] at h2
    exact absurd (Nat.lt_of_le_of_lt h1 h2) (Nat.lt_irrefl _)
  dead := fun j e hj gj l => by
    by_cases q : j = i
    · subst q; exact ⟨d, g, ld⟩
    · rw [Hz.get_put_ne g q] at gj; exact ⟨e, gj, l⟩
theorem Next.store (r : HRep K G ι h H) {i : Nat} {o : HO} {c d : Cell} (g : h.get i = some d) (ld : d.live = true) (lc : c.live = true) (hc : CellRep K G ι (h.put i c) (upd H (ι i) o) (ι i) c) (ok : G.st = true → okO o = true := by exact fun _ => rfl) :
    Next K G ι h H ι (h.put i c) (upd H (ι i) o) := by
  have n0 : Nx0 ι h H ι (h.put i c) (upd H (ι i) o) := Nx0.store g ld
  have old : ∀ j e, (h.put i c).get j = some e → e.live = true → ∃ e', h.get j = some e' ∧ e'.live = true := fun j e gj l => n0.dead j e (by have := Hz.get_lt gj; rw [Hz.put_n] at this; exact this) gj l
  refine ⟨n0, ⟨td_upd r.td ok, fun j e gj => ?_, fun j k e f gj gk le lf q => ?_, fun a z => n0.there a (r.no a z), fun j e gj le z => ?_⟩⟩
  · by_cases q : j = i
    · subst q
      rw [Hz.get_put_self g] at gj
      cases gj
      exact hc
    · rw [Hz.get_put_ne g q] at gj
      cases le : e.live with
      | false => cases e <;> first | trivial | cases le
      | true =>
        refine (r.cell j e gj).move (fun _ _ => Rep.next r n0) (fun _ _ => Reps.next r n0) (fun _ _ => RepF.next r n0) fun u z => ?_
        rw [upd_ne (fun z' => q (r.inj j i e d gj g le ld z'))]; exact z
  · obtain ⟨e', ge, le'⟩ := old j e gj le
    obtain ⟨f', gf, lf'⟩ := old k f gk lf
    exact r.inj j k e' f' ge gf le' lf' q
  · obtain ⟨e', ge, le'⟩ := old j e gj le
    exact r.off j e' ge le' z
theorem Next.freeze (r : HRep K G ι h H) {i : Nat} {d : Cell} (g : h.get i = some d) : Next K G ι h H ι (h.put i .dead) H := by
  have n0 : Nx0 ι h H ι (h.put i .dead) H := ⟨fun _ _ => rfl, Nat.le_of_eq (Hz.put_n ..).symm, fun _ _ e _ => e, fun _ e => e, fun j h1 h2 => by
      rw [Hz.put_n] at h2
      exact absurd (Nat.lt_of_le_of_lt h1 h2) (Nat.lt_irrefl _), fun j e hj gj l => by
      by_cases q : j = i
      · subst q; rw [Hz.get_put_self g] at gj; cases gj; cases l
      · rw [Hz.get_put_ne g q] at gj; exact ⟨e, gj, l⟩⟩
  refine ⟨n0, ⟨r.td, fun j e gj => ?_, fun j k e f gj gk le lf q => ?_, r.no, fun j e gj le z => ?_⟩⟩
  · by_cases q : j = i
    · subst q
      rw [Hz.get_put_self g] at gj
      cases gj
      trivial
    · rw [Hz.get_put_ne g q] at gj
      exact (r.cell j e gj).move (fun _ _ => Rep.next r n0) (fun _ _ => Reps.next r n0) (fun _ _ => RepF.next r n0) fun u z => z
  · have nj : j ≠ i := fun z => by subst z; rw [Hz.get_put_self g] at gj; cases gj; cases le
    have nk : k ≠ i := fun z => by subst z; rw [Hz.get_put_self g] at gk; cases gk; cases lf
    rw [Hz.get_put_ne g nj] at gj
    rw [Hz.get_put_ne g nk] at gk
    exact r.inj j k e f gj gk le lf q
  · have nj : j ≠ i := fun z => by subst z; rw [Hz.get_put_self g] at gj; cases gj; cases le
    rw [Hz.get_put_ne g nj] at gj
    exact r.off j e gj le z
theorem Rep.frozen (r : HRep K G ι h H) {i c : Nat} {fs : List (Nat × W)} (g : h.get i = some (.ins c fs)) : Rep K G ι (h.put i .dead) H (.obj c fs) (.ref (ι i)) := by
  obtain ⟨dx, gs, e, q⟩ := r.cell i _ g
  refine .obj e ?_ (r.off i _ g rfl) (RepF.next r (Next.freeze r g).toNx0 q)
  rintro ⟨j, d, gj, ld, ej⟩
  have nj : j ≠ i := fun z => by subst z; rw [Hz.get_put_self g] at gj; cases gj; cases ld
  rw [Hz.get_put_ne g nj] at gj
  exact nj (r.inj j i d _ gj g ld rfl ej)
theorem Next.beside (r : HRep K G ι h H) {p : Addr} {o : HO} (hp : H p = none) (ok : G.st = true → okO o = true := by exact fun _ => rfl) : Next K G ι h H ι h (upd H p o) := by
  have n0 : Nx0 ι h H ι h (upd H p o) := ⟨fun _ _ => rfl, Nat.le_refl _, fun a u e _ => by rw [upd_ne (ne_of_none e hp)]; exact e, fun a e => by
      by_cases q : a = p
      · subst q; exact absurd hp e
      · rw [upd_ne q]; exact e, fun i a b => absurd (Nat.lt_of_le_of_lt a b) (Nat.lt_irrefl _), fun i c _ e l => ⟨c, e, l⟩⟩
  exact ⟨n0, ⟨td_upd r.td ok, fun i d g => (r.cell i d g).move (fun _ _ => Rep.next r n0) (fun _ _ => Reps.next r n0) (fun _ _ => RepF.next r n0) fun u e => by rw [upd_ne (ne_of_none e hp)]; exact e, r.inj, fun a z => n0.there a (r.no a z), r.off⟩⟩
theorem SqT.fz {K : PySem.W.Frag} {H : Hp} {a : Addr} {xs : List V} {ob : Obj} (e : H a = some (.frz ob (.tup xs))) : SqT K H a xs := .inl (.inr ⟨ob, e⟩)
def tob (its : List Value) : Obj := { cls := .type "tuple", data := .seq its.toArray }
abbrev fzt (its : List Value) (xs : List V) : HO := .frz (tob its) (.tup xs)
theorem fzt_ok {P : Program} {w : World} {H : Hp} {hh : Heap} {xs : List V} {its : List Value} (z : xs.length ≤ sizeLine) (rv : Vals xs its) : ObjOk P w H (hh.push (tob its)) hh.objs.size (fzt its xs) :=
  ⟨Heap.get?_push_size _ rfl, z, its, rv, ⟨_, Heap.get?_push_size _ rfl, rfl, _, rfl⟩⟩
end
end Z

namespace Z
open PySem L2
open PyProof.Rows hiding St
section
variable {X : Cx} {pins : List (Addr × Obj)} {s : Shared} {σ : St} {H : Hp} {Q : VK}
theorem laid_fz {k : Nat} {xs : List V} {its : List Value} (I : Inv X pins σ H s) (z : xs.length ≤ sizeLine) (rv : Vals xs its) (q : ∀ p, H p = none → Q (.ref p) (upd H p (fzt its xs))) :
    EP X pins σ Q (.ref s.heap.objs.size) { s with toks := k, heap := s.heap.push (tob its) } :=
  ⟨.ref s.heap.objs.size, _, I.laid (o := fzt its xs) (fun c u e => Heap.get?_push_of_some _ e) (Nat.le_refl _) (fzt_ok z rv), rfl, q _ (I.hok.fresh (Nat.le_refl _))⟩
def rCatF (K : PySem.W.Frag) : R2 := fun x y H Q => ∃ a b xs ys, x = .ref a ∧ y = .ref b ∧ SqT K H a xs ∧ SqT K H b ys ∧ xs.length + ys.length ≤ sizeLine ∧
  (xs = [] → Q (.ref b) H) ∧ (xs ≠ [] → ys = [] → Q (.ref a) H) ∧ (∀ its p, H p = none → Q (.ref p) (upd H p (fzt its (xs ++ ys))))
theorem op_catF : OpR X (binaryOp .Add) (rCatF X.K) := by
  intro pins s σ H x y v u Q I rx ry hh
  obtain ⟨a, b, xs, ys, e1, e2, ha, hb, hz, q0, q1, q2⟩ := hh
  subst e1 e2
  cases rx
  cases ry
  obtain ⟨ja, ra, pa, _⟩ := I.tuple ha
  obtain ⟨jb, rb, pb, _⟩ := I.tuple hb
  by_cases hx : xs = []
  · subst hx
    cases ra
    exact cat_tup0 pa pb ⟨.ref b, H, I, rfl, q0 rfl⟩
  · refine HT.cat_tup pa pb (fun z => hx (ra.nil_iff.mp z)) (fun z => ⟨.ref a, H, I, rfl, q1 hx (rb.nil_iff.mp z)⟩) (fun z => ?_) (by rw [← ra.length, ← rb.length]; exact hz)
    exact laid_fz (k := s.toks) I (by rw [List.length_append]; exact hz) (ra.append rb) (q2 _)
def rSlF (K : PySem.W.Frag) : V → Option Int → Option Int → Hp → VK → Prop := fun x lo hi H Q => ∃ a xs, x = .ref a ∧ SqT K H a xs ∧
  (HT.sIx xs.length 0 lo = 0 ∧ HT.sIx xs.length xs.length hi = xs.length → Q (.ref a) H) ∧ (∀ its p, H p = none → Q (.ref p) (upd H p (fzt its (cutV xs lo hi))))
theorem sl_tupF : SlR X (rSlF X.K) := by
  intro pins s σ H x v vl vu lo hi sl Q I rx hs pl pu hh
  obtain ⟨a, xs, e1, hx, q1, q2⟩ := hh
  subst e1
  cases rx
  obtain ⟨ja, ra, ta, hz⟩ := I.tuple hx
  have hl : ja.toArray.size = xs.length := by rw [List.size_toArray]; exact ra.length.symm
  refine ⟨"tuple", _, PyProof.Rows.slot_tuple_getitem.lookup, ta.typeIs, ?_⟩
  by_cases hw : HT.sIx xs.length 0 lo = 0 ∧ HT.sIx xs.length xs.length hi = xs.length
  · exact getItem_tuple_whole ta hs pl pu (by rw [hl]; exact hw) ⟨.ref a, H, I, rfl, q1 hw⟩
  · refine HT.getItem_tuple_cut ta hs pl pu (by rw [hl]; exact hw) ?_ (by rw [hl]; exact hz)
    rw [hl]
    exact laid_fz (k := s.toks) I (Nat.le_trans (cutV_length xs lo hi) hz) ((ra.drop (HT.sIx xs.length 0 lo)).take (HT.sIx xs.length xs.length hi - HT.sIx xs.length 0 lo)) (q2 _)
end
end Z

namespace Z
open PySem L2
open PyProof.Rows hiding St

def Tk (b : Bool) (s : Shared) : Prop := b = true → 1 ≤ s.toks
theorem Tk.mono {b : Bool} {s s' : Shared} (t : Tk b s) (h : s.toks ≤ s'.toks) : Tk b s' := fun e => Nat.le_trans (t e) h

abbrev RP (α β : Type) := (Nat → Addr) → Hz → Hp → α → β → Prop
abbrev rpW (K : PySem.W.Frag) (G : Gt) : RP W V := fun ι h H => Rep K G ι h H
abbrev rpWs (K : PySem.W.Frag) (G : Gt) : RP (List W) (List V) := fun ι h H => Reps K G ι h H
abbrev rpE {α : Type} : RP α α := fun _ _ _ x y => x = y

section
variable (K : PySem.W.Frag) (G : Gt) (Wf : WX) (σ : St)
def Aft {α β : Type} (P : RP α β) (ι : Nat → Addr) (h : Hz) (H : Hp) (r : R α) (Q : β → Hp → Prop) : Prop := match r with
  | .ok w h' => ∀ ι' H' v, Next K G ι h H ι' h' H' → P ι' h' H' w v → Q v H'
  | .exc c fs h' => ∀ ι' H' d, Next K G ι h H ι' h' H' → XRep K G ι' h' H' fs d → Wf (.ref (G.cl c)) d σ H'
  | .err => False
end
section
variable {K : PySem.W.Frag} {G : Gt} {Wf : WX} {σ : St} {α β γ δ : Type} {P : RP α β} {P' : RP γ δ} {ι ι1 : Nat → Addr} {h h1 : Hz} {H H1 : Hp}
theorem Aft.step {r : R α} {Q : β → Hp → Prop} (a : Aft K G Wf σ P ι h H r Q) (n : Next K G ι h H ι1 h1 H1) : Aft K G Wf σ P ι1 h1 H1 r Q := by
  cases r with
  | ok w h' => exact fun ι' H' v n' p => a ι' H' v (n.trans n') p
  | exc c fs h' => exact fun ι' H' d n' q => a ι' H' d (n.trans n') q
  | err => exact a
theorem Aft.bnd {m : M α} {k : α → M γ} {Q : δ → Hp → Prop} (a : Aft K G Wf σ P' ι h H (bnd m k h) Q) :
    Aft K G Wf σ P ι h H (m h) fun v H1 => ∃ ι1 h1 w, Next K G ι h H ι1 h1 H1 ∧ P ι1 h1 H1 w v ∧ Aft K G Wf σ P' ι1 h1 H1 (k w h1) Q := by
  unfold Z.bnd at a
  cases e : m h with
  | ok w h' =>
    rw [e] at a
    exact fun ι' H' v n p => ⟨ι', h', w, n, p, Aft.step a n⟩
  | exc c fs h' =>
    rw [e] at a
    exact a
  | err =>
    rw [e] at a
    exact a
theorem Aft.ret {w : α} {v : β} {Q : β → Hp → Prop} (a : Aft K G Wf σ P ι h H (Z.ret w h) Q) (r : HRep K G ι h H) (p : P ι h H w v) : Q v H := a ι H v (Next.refl r) p
theorem Aft.imp {r : R α} {Q Q' : β → Hp → Prop} (a : Aft K G Wf σ P ι h H r Q) (f : ∀ v H, Q v H → Q' v H) : Aft K G Wf σ P ι h H r Q' := by
  cases r with
  | ok w h' => exact fun ι' H' v n p => f _ _ (a ι' H' v n p)
  | exc c fs h' => exact a
  | err => exact a
end

abbrev Ev := List (Option W)
structure PZ (b : Bool) (X : Cx) (G : Gt) (Wf : WX) (e : Expr) (m : Ev → M W) : Prop where
  run : ∀ (pins : List (Addr × Obj)) (s : Shared) (σ : St) (H : Hp) (ι : Nat → Addr) (h : Hz) (ρ : Ev) (Q : VK), Tk b s → Inv X pins σ H s → HRep X.K G ι h H → SRep X.K G ι h H ρ σ → Aft X.K G Wf σ (rpW X.K G) ι h H (m ρ h) Q →
    wpAny (model X.prog X.w) X.A (eval e X.env) (fun u s' => Tk b s' ∧ EP X pins σ Q u s') X.xe s
structure PZT (b : Bool) (X : Cx) (G : Gt) (Wf : WX) (e : Expr) (m : Ev → M Bool) : Prop where
  run : ∀ (pins : List (Addr × Obj)) (s : Shared) (σ : St) (H : Hp) (ι : Nat → Addr) (h : Hz) (ρ : Ev) (Q : Bool → Hp → Prop) (whole : Sem Value), whole = eval e X.env → Tk b s → Inv X pins σ H s → HRep X.K G ι h H → SRep X.K G ι h H ρ σ → Aft X.K G Wf σ rpE ι h H (m ρ h) Q →
    wpAny (model X.prog X.w) X.A (isTrue e X.env whole) (fun u s' => Tk b s' ∧ TP X pins σ Q u s') X.xe s
structure PZA (b : Bool) (X : Cx) (G : Gt) (Wf : WX) (es : List Expr) (m : Ev → M (List W)) : Prop where
  run : ∀ (pos : Pos) (pins : List (Addr × Obj)) (s : Shared) (σ : St) (H : Hp) (ι : Nat → Addr) (h : Hz) (ρ : Ev) (Q : List V → Hp → Prop), Tk b s → Inv X pins σ H s → HRep X.K G ι h H → SRep X.K G ι h H ρ σ → Aft X.K G Wf σ (rpWs X.K G) ι h H (m ρ h) Q →
    wpAny (model X.prog X.w) X.A (spliced (backTo pos (starEach es X.env))) (fun u s' => Tk b s' ∧ AP X pins σ Q u s') X.xe s

section
variable {b : Bool} {X : Cx} {G : Gt} {Wf : WX} {e a c d : Expr} {m ma mc md : Ev → M W} {pos : Pos}
theorem withTk {α : Type} {t : Sem α} {Q : α → Shared → Prop} {E : Value → Shared → Prop} {M : Model} {A : Around} {s : Shared} (tk : Tk b s) (h : wpAny M A t Q E s) : wpAny M A t (fun a s' => Tk b s' ∧ Q a s') E s :=
  wpAny_mono (wpAny_toks h) (fun _ _ q => ⟨tk.mono q.1, q.2⟩) fun _ _ q => q.2
theorem PZ.of {t : TE} (hp : PE X e t) (f : ∀ σ H ι h ρ Q, HRep X.K G ι h H → SRep X.K G ι h H ρ σ → Aft X.K G Wf σ (rpW X.K G) ι h H (m ρ h) Q → t σ H Q) : PZ b X G Wf e m :=
  ⟨fun pins s σ H ι h ρ Q tk I r sr a => withTk tk (hp.run pins s σ H Q I (f σ H ι h ρ Q r sr a))⟩
def tZ (K : PySem.W.Frag) (G : Gt) (Wf : WX) (m : Ev → M W) : TE := fun σ H Q => ∃ ι h ρ, HRep K G ι h H ∧ SRep K G ι h H ρ σ ∧ Aft K G Wf σ (rpW K G) ι h H (m ρ h) Q
theorem PZ.pe (p : PZ false X G Wf e m) : PE X e (tZ X.K G Wf m) := ⟨fun pins s σ H Q I ⟨ι, h, ρ, r, sr, a⟩ => thn (p.run pins s σ H ι h ρ Q (fun z => nomatch z) I r sr a) fun _ _ q => q.2⟩

def zvar (i : Nat) : Ev → M W := fun ρ => match ρ.getD i none with
  | some (.exv _ _) => bad
  | some w => ret w
  | none => bad
theorem getD_some {ρ : Ev} {i : Nat} {w : W} (e : ρ.getD i none = some w) : ρ[i]? = some (some w) := by
  rw [List.getD_eq_getElem?_getD] at e
  cases q : ρ[i]? with
  | none => rw [q] at e; cases e
  | some o =>
    rw [q] at e
    have : o = some w := e
    rw [this]
theorem pz_var {i : Nat} {x : Str} (hN : X.N[i]? = some x) (hv : Vis X.env.scope x) (hd : (x == ("__debug__" : Str)) = false) (hcd : (x == ("__classdict__" : Str)) = false) : PZ b X G Wf (.Name x pos) (zvar i) := by
  refine PZ.of (pe_var hN hv hd hcd) fun σ H ι h ρ Q r sr a => ?_
  unfold zvar at a
  cases q : ρ.getD i none with
  | none => rw [q] at a; exact False.elim a
  | some w =>
    rw [q] at a
    obtain ⟨v, e1, e2⟩ := sr.2 i w (getD_some q)
    refine ⟨v, e1, ?_⟩
    rcases e2 with e2 | ⟨c, fs, ad, d, ew, _⟩
    · cases w with
      | exv c fs => cases e2
      | _ => exact a.ret r e2
    · subst ew
      exact False.elim a
theorem pz_c {t : V} {w : W} (hp : PE X e (tC t)) (hr : ∀ ι h H, HRep X.K G ι h H → Rep X.K G ι h H w t) : PZ b X G Wf e (fun _ => ret w) :=
  PZ.of hp fun σ H ι h ρ Q r sr a => a.ret r (hr ι h H r)
theorem pz_int {i : Int} {j : Nat} : PZ b X G Wf (.Constant (.int i) j pos) (fun _ => ret (.int i)) := pz_c pe_int fun _ _ _ _ => .int i
theorem pz_bl {k : Bool} {j : Nat} : PZ b X G Wf (.Constant (.bool k) j pos) (fun _ => ret (.bl k)) := pz_c pe_bl fun _ _ _ _ => .bl k
theorem pz_non {j : Nat} : PZ b X G Wf (.Constant .none j pos) (fun _ => ret .non) := pz_c pe_non fun _ _ _ _ => .non
theorem pz_str {x : Str} {z : List Nat} {j : Nat} (e : x = ⟨z.toArray⟩) : PZ b X G Wf (.Constant (.str x) j pos) (fun _ => ret (.str z)) := pz_c pe_str fun _ _ _ _ => by rw [e]; exact .str z

def OpZ (X : Cx) (G : Gt) (Wf : WX) (F : Value → Value → Sem Value) (f : W → W → M W) : Prop :=
  ∀ (pins : List (Addr × Obj)) (s : Shared) (σ : St) (H : Hp) (ι : Nat → Addr) (h : Hz) (x y : W) (v1 v2 : V) (u1 u2 : Value) (Q : VK), Inv X pins σ H s → HRep X.K G ι h H → Rep X.K G ι h H x v1 → Rep X.K G ι h H y v2 → RelV v1 u1 → RelV v2 u2 →
    Aft X.K G Wf σ (rpW X.K G) ι h H (f x y h) Q → wpAny (model X.prog X.w) X.A (F u1 u2) (EP X pins σ Q) X.xe s
theorem OpZ.of {F : Value → Value → Sem Value} {f : W → W → M W} {r : R2} (ho : OpR X F r)
    (g : ∀ σ H ι h x y v1 v2 Q, HRep X.K G ι h H → Rep X.K G ι h H x v1 → Rep X.K G ι h H y v2 → Aft X.K G Wf σ (rpW X.K G) ι h H (f x y h) Q → r v1 v2 H Q) : OpZ X G Wf F f :=
  fun pins s σ H ι h x y v1 v2 u1 u2 Q I rp p1 p2 r1 r2 a => ho pins s σ H v1 v2 u1 u2 Q I r1 r2 (g σ H ι h x y v1 v2 Q rp p1 p2 a)
def zbin (f : W → W → M W) (ma mc : Ev → M W) : Ev → M W := fun ρ => bnd (ma ρ) fun x => bnd (mc ρ) fun y => f x y
theorem two {F : Value → Value → Sem Value} {f : W → W → M W} (ho : OpZ X G Wf F f) (ha : PZ b X G Wf a ma) (hc : PZ b X G Wf c mc)
    {pins : List (Addr × Obj)} {s : Shared} {σ : St} {H : Hp} {ι : Nat → Addr} {h : Hz} {ρ : Ev} {Q : VK} (tk : Tk b s) (I : Inv X pins σ H s) (r : HRep X.K G ι h H) (sr : SRep X.K G ι h H ρ σ) (aft : Aft X.K G Wf σ (rpW X.K G) ι h H (zbin f ma mc ρ h) Q) :
    wpAny (model X.prog X.w) X.A (eval a X.env) (fun v s1 => wpAny (model X.prog X.w) X.A (eval c X.env) (fun u s2 => wpAny (model X.prog X.w) X.A (F v u) (fun z s' => Tk b s' ∧ EP X pins σ Q z s') X.xe s2) X.xe s1) X.xe s := by
  refine thn (ha.run pins s σ H ι h ρ _ tk I r sr (aft.bnd (P := rpW X.K G))) fun v s1 ⟨tk1, v1, H1, I1, r1, ι1, h1, w1, n1, p1, a1⟩ => ?_
  refine thn (hc.run pins s1 σ H1 ι1 h1 ρ _ tk1 I1 n1.rep (sr.next r n1.toNx0) (a1.bnd (P := rpW X.K G))) fun u s2 ⟨tk2, v2, H2, I2, r2, ι2, h2, w2, n2, p2, a2⟩ => ?_
  exact withTk tk2 (ho pins s2 σ H2 ι2 h2 w1 w2 v1 v2 v u Q I2 n2.rep (Rep.next n1.rep n2.toNx0 p1) p2 r1 r2 a2)
theorem pz_bin {op : Operator} {f : W → W → M W} (ho : OpZ X G Wf (binaryOp op) f) (ha : PZ b X G Wf a ma) (hc : PZ b X G Wf c mc) : PZ b X G Wf (.BinOp a op c pos) (zbin f ma mc) :=
  ⟨fun pins s σ H ι h ρ Q tk I r sr aft => wpAny_BinOp (two ho ha hc tk I r sr aft)⟩
theorem pz_cmp {op : CmpOp} {f : W → W → M W} (ho : OpZ X G Wf (compareOp op) f) (ha : PZ b X G Wf a ma) (hc : PZ b X G Wf c mc) (hm : behindInMarks op c = false) : PZ b X G Wf (.Compare a [op] [c] pos) (zbin f ma mc) :=
  ⟨fun pins s σ H ι h ρ Q tk I r sr aft => wpAny_Compare1 (two ho ha hc tk I r sr aft) hm⟩
def UnZ (X : Cx) (G : Gt) (Wf : WX) (F : Value → Sem Value) (f : W → M W) : Prop :=
  ∀ (pins : List (Addr × Obj)) (s : Shared) (σ : St) (H : Hp) (ι : Nat → Addr) (h : Hz) (x : W) (v1 : V) (u1 : Value) (Q : VK), Inv X pins σ H s → HRep X.K G ι h H → Rep X.K G ι h H x v1 → RelV v1 u1 →
    Aft X.K G Wf σ (rpW X.K G) ι h H (f x h) Q → wpAny (model X.prog X.w) X.A (F u1) (EP X pins σ Q) X.xe s
def zun (f : W → M W) (ma : Ev → M W) : Ev → M W := fun ρ => bnd (ma ρ) f
theorem pz_un {op : UnaryOp} {f : W → M W} (ho : UnZ X G Wf (unaryOp op) f) (ha : PZ b X G Wf a ma) : PZ b X G Wf (.UnaryOp op a pos) (zun f ma) := by
  refine ⟨fun pins s σ H ι h ρ Q tk I r sr aft => ?_⟩
  refine UnaryOp_ (thn (ha.run pins s σ H ι h ρ _ tk I r sr (aft.bnd (P := rpW X.K G))) fun v s1 ⟨tk1, v1, H1, I1, r1, ι1, h1, w1, n1, p1, a1⟩ => ?_)
  exact withTk tk1 (ho pins s1 σ H1 ι1 h1 w1 v1 v Q I1 n1.rep p1 r1 a1)

def zasB (w : W) : M Bool := match w with
  | .bl k => ret k
  | _ => bad
def ztest (ma : Ev → M W) : Ev → M Bool := fun ρ => bnd (ma ρ) zasB
theorem asB_after {σ : St} {ι : Nat → Addr} {h : Hz} {H : Hp} {w : W} {v : V} {Q : Bool → Hp → Prop} (r : HRep X.K G ι h H) (p : Rep X.K G ι h H w v) (a : Aft X.K G Wf σ rpE ι h H (zasB w h) Q) : ∃ k, v = .bl k ∧ Q k H := by
  cases p with
  | bl k => exact ⟨k, rfl, a.ret r rfl⟩
  | _ => exact False.elim a
def Plain (e : Expr) (env : Env) : Prop := ∀ whole, isTrue e env whole = (do let v ← whole; standAt e.pos; holding [v] (truthy v))
theorem pzt_val (ha : PZ b X G Wf a ma) (he : Plain a X.env) : PZT b X G Wf a (ztest ma) := by
  refine ⟨fun pins s σ H ι h ρ Q whole hw tk I r sr aft => ?_⟩
  subst hw
  refine isTrue_plain (thn (ha.run pins s σ H ι h ρ _ tk I r sr (aft.bnd (P := rpW X.K G))) fun v s1 ⟨tk1, v1, H1, I1, r1, ι1, h1, w1, n1, p1, a1⟩ => ?_) (he _)
  obtain ⟨k, e1, q⟩ := asB_after n1.rep p1 a1
  subst e1
  cases r1
  exact wpAny_truthy_bool ⟨tk1, H1, I1, q⟩
theorem pzt_cmp {op : CmpOp} {f : W → W → M W} (ho : OpZ X G Wf (compareOp op) f) (ha : PZ b X G Wf a ma) (hc : PZ b X G Wf c mc) (hm : behindInMarks op c = false) : PZT b X G Wf (.Compare a [op] [c] pos) (ztest (zbin f ma mc)) := by
  refine ⟨fun pins s σ H ι h ρ Q whole hw tk I r sr aft => ?_⟩
  refine wpAny_isTrue_Compare1 (thn (two (Q := fun v H => ∃ k, v = .bl k ∧ Q k H) ho ha hc tk I r sr ?_) fun v s1 q1 => thn q1 fun u s2 q2 => thn q2 fun z s3 ⟨tk3, v3, H3, I3, r3, k, e1, q⟩ => ?_) hm
  · exact (aft.bnd (P := rpW X.K G)).imp fun v H1 ⟨ι1, h1, w1, n1, p1, a1⟩ => asB_after n1.rep p1 a1
  · subst e1
    cases r3
    exact wpAny_truthy_bool ⟨tk3, H3, I3, q⟩
def zchain (f g : W → W → M W) (ma mc md : Ev → M W) : Ev → M W := fun ρ => bnd (ma ρ) fun x => bnd (mc ρ) fun y => bnd (f x y) fun z => bnd (zasB z) fun k => if k = true then bnd (md ρ) fun w => g y w else ret (.bl false)
theorem pz_chain {op op' : CmpOp} {f g : W → W → M W} (ho : OpZ X G Wf (compareOp op) f) (ho' : OpZ X G Wf (compareOp op') g) (ha : PZ b X G Wf a ma) (hc : PZ b X G Wf c mc) (hd : PZ b X G Wf d md)
    (hm : lastMarks [op, op'] [c, d] = false) : PZ b X G Wf (.Compare a [op, op'] [c, d] pos) (zchain f g ma mc md) := by
  refine ⟨fun pins s σ H ι h ρ Q tk I r sr aft => ?_⟩
  refine Compare_chain (thn (ha.run pins s σ H ι h ρ _ tk I r sr (aft.bnd (P := rpW X.K G))) fun v s1 ⟨tk1, v1, H1, I1, r1, ι1, h1, w1, n1, p1, a1⟩ => chain_link
    (thn (hc.run pins s1 σ H1 ι1 h1 ρ _ tk1 I1 n1.rep (sr.next r n1.toNx0) (a1.bnd (P := rpW X.K G))) fun u s2 ⟨tk2, v2, H2, I2, r2, ι2, h2, w2, n2, p2, a2⟩ =>
      thn (withTk tk2 (ho pins s2 σ H2 ι2 h2 w1 w2 v1 v2 v u _ I2 n2.rep (Rep.next n1.rep n2.toNx0 p1) p2 r1 r2 (a2.bnd (P := rpW X.K G)))) fun z s3 ⟨tk3, v3, H3, I3, r3, ι3, h3, w3, n3, p3, a3⟩ => ?_)) hm
  obtain ⟨k, e1, q⟩ := asB_after n3.rep p3 (a3.bnd (P := rpE))
  subst e1
  cases r3
  obtain ⟨ι4, h4, k', n4, ek, a4⟩ := q
  subst ek
  refine wpAny_truthy_bool ?_
  have sr4 := ((sr.next r n1.toNx0).next n1.rep n2.toNx0).next n2.rep (n3.trans n4).toNx0
  cases k' with
  | false => exact ite_ff ⟨tk3, .bl false, H3, I3, rfl, a4.ret n4.rep (.bl false)⟩
  | true =>
    refine ite_tt (chain_last (thn (hd.run pins s3 σ H3 ι4 h4 ρ _ tk3 I3 n4.rep sr4 (Aft.bnd (P := rpW X.K G) a4)) fun w' s5 ⟨tk5, v5, H5, I5, r5, ι5, h5, w5, n5, p5, a5⟩ => ?_))
    exact withTk tk5 (ho' pins s5 σ H5 ι5 h5 w2 w5 v2 v5 u w' Q I5 n5.rep (Rep.next n2.rep ((n3.trans n4).trans n5).toNx0 p2) p5 r2 r5 a5)
end
end Z

namespace Z
open PySem L2
open PyProof.Rows hiding St

structure PZW (b : Bool) (X : Cx) (G : Gt) (Wf : WX) (e : Expr) (m : Ev → M Bool) : Prop where
  run : ∀ (pins : List (Addr × Obj)) (s : Shared) (σ : St) (H : Hp) (ι : Nat → Addr) (h : Hz) (ρ : Ev) (Q : Bool → Hp → Prop) (whole : Sem Value), Tk b s → Inv X pins σ H s → HRep X.K G ι h H → SRep X.K G ι h H ρ σ → Aft X.K G Wf σ rpE ι h H (m ρ h) Q →
    wpAny (model X.prog X.w) X.A (isTrue e X.env whole) (fun u s' => Tk b s' ∧ TP X pins σ Q u s') X.xe s
section
variable {b : Bool} {X : Cx} {G : Gt} {Wf : WX} {e a c d : Expr} {m ma mc md : Ev → M W} {na nc nd : Ev → M Bool} {rest : List Expr} {pos : Pos}
theorem PZW.t (h : PZW b X G Wf e na) : PZT b X G Wf e na := ⟨fun pins s σ H ι h' ρ Q whole _ tk I r sr aft => h.run pins s σ H ι h' ρ Q whole tk I r sr aft⟩
def zand (na nc : Ev → M Bool) : Ev → M Bool := fun ρ => bnd (na ρ) fun k => if k = true then nc ρ else ret false
def zor (na nc : Ev → M Bool) : Ev → M Bool := fun ρ => bnd (na ρ) fun k => if k = true then ret true else nc ρ
def znot (na : Ev → M Bool) : Ev → M Bool := fun ρ => bnd (na ρ) fun k => ret (!k)
theorem pzw_and1 (ha : PZT b X G Wf a na) : PZW b X G Wf (.BoolOp .And [a] pos) na := by
  refine ⟨fun pins s σ H ι h ρ Q whole tk I r sr aft => ?_⟩
  refine isTrue_and (thn (ha.run pins s σ H ι h ρ Q _ rfl tk I r sr aft) fun k s1 q => ?_)
  cases k with
  | true => exact isTrue_and_nil q
  | false => exact q
theorem pzw_or1 (ha : PZT b X G Wf a na) : PZW b X G Wf (.BoolOp .Or [a] pos) na := by
  refine ⟨fun pins s σ H ι h ρ Q whole tk I r sr aft => ?_⟩
  refine isTrue_or (thn (ha.run pins s σ H ι h ρ Q _ rfl tk I r sr aft) fun k s1 q => ?_)
  cases k with
  | true => exact q
  | false => exact isTrue_or_nil q
theorem pzw_and (ha : PZT b X G Wf a na) (hc : PZW b X G Wf (.BoolOp .And (c :: rest) pos) nc) : PZW b X G Wf (.BoolOp .And (a :: c :: rest) pos) (zand na nc) := by
  refine ⟨fun pins s σ H ι h ρ Q whole tk I r sr aft => ?_⟩
  refine isTrue_and (thn (ha.run pins s σ H ι h ρ _ _ rfl tk I r sr (aft.bnd (P := rpE))) fun k s1 ⟨tk1, H1, I1, ι1, h1, k', n1, ek, a1⟩ => ?_)
  cases ek
  cases k with
  | true => exact hc.run pins s1 σ H1 ι1 h1 ρ Q whole tk1 I1 n1.rep (sr.next r n1.toNx0) a1
  | false => exact ⟨tk1, H1, I1, Aft.ret (P := rpE) a1 n1.rep rfl⟩
theorem pzw_or (ha : PZT b X G Wf a na) (hc : PZW b X G Wf (.BoolOp .Or (c :: rest) pos) nc) : PZW b X G Wf (.BoolOp .Or (a :: c :: rest) pos) (zor na nc) := by
  refine ⟨fun pins s σ H ι h ρ Q whole tk I r sr aft => ?_⟩
  refine isTrue_or (thn (ha.run pins s σ H ι h ρ _ _ rfl tk I r sr (aft.bnd (P := rpE))) fun k s1 ⟨tk1, H1, I1, ι1, h1, k', n1, ek, a1⟩ => ?_)
  cases ek
  cases k with
  | false => exact hc.run pins s1 σ H1 ι1 h1 ρ Q whole tk1 I1 n1.rep (sr.next r n1.toNx0) a1
  | true => exact ⟨tk1, H1, I1, Aft.ret (P := rpE) a1 n1.rep rfl⟩
theorem pzt_not (ha : PZT b X G Wf a na) : PZT b X G Wf (.UnaryOp .Not a pos) (znot na) := by
  refine ⟨fun pins s σ H ι h ρ Q whole hw tk I r sr aft => ?_⟩
  have q := ha.run pins s σ H ι h ρ _ _ rfl tk I r sr (aft.bnd (P := rpE))
  refine isTrue_not (thn q fun k s1 ⟨tk1, H1, I1, ι1, h1, k', n1, ek, a1⟩ => ?_)
  cases ek
  exact ⟨tk1, H1, I1, Aft.ret (P := rpE) a1 n1.rep rfl⟩
def zandV (ma mc : Ev → M W) : Ev → M W := fun ρ => bnd (ma ρ) fun x => bnd (zasB x) fun k => if k = true then mc ρ else ret (.bl false)
def zorV (ma mc : Ev → M W) : Ev → M W := fun ρ => bnd (ma ρ) fun x => bnd (zasB x) fun k => if k = true then ret (.bl true) else mc ρ
def znotV (x : W) : M W := bnd (zasB x) fun k => ret (.bl (!k))
theorem pz_one {op : BoolOp} (ha : PZ b X G Wf a ma) : PZ b X G Wf (.BoolOp op [a] pos) ma := ⟨fun pins s σ H ι h ρ Q tk I r sr aft => BoolOp_one (ha.run pins s σ H ι h ρ Q tk I r sr aft)⟩
theorem pz_and (ha : PZ b X G Wf a ma) (hc : PZ b X G Wf (.BoolOp .And (c :: rest) pos) mc) : PZ b X G Wf (.BoolOp .And (a :: c :: rest) pos) (zandV ma mc) := by
  refine ⟨fun pins s σ H ι h ρ Q tk I r sr aft => ?_⟩
  refine BoolOp_and (thn (ha.run pins s σ H ι h ρ _ tk I r sr (aft.bnd (P := rpW X.K G))) fun v s1 ⟨tk1, v1, H1, I1, r1, ι1, h1, w1, n1, p1, a1⟩ => ?_)
  obtain ⟨k, e1, ι2, h2, k', n2, ek, a2⟩ := asB_after n1.rep p1 (a1.bnd (P := rpE))
  subst e1
  cases r1
  cases ek
  refine wpAny_truthy_bool ?_
  cases k with
  | true => exact hc.run pins s1 σ H1 ι2 h2 ρ Q tk1 I1 n2.rep (sr.next r (n1.trans n2).toNx0) a2
  | false => exact ⟨tk1, .bl false, H1, I1, rfl, Aft.ret (P := rpW X.K G) a2 n2.rep (.bl false)⟩
theorem un_not : UnZ X G Wf (unaryOp .Not) znotV := by
  intro pins s σ H ι h x v1 u1 Q I r p1 r1 aft
  obtain ⟨k, e1, ι2, h2, k', n2, ek, a2⟩ := asB_after r p1 (aft.bnd (P := rpE))
  subst e1
  cases r1
  cases ek
  exact not_of (wpAny_truthy_bool ⟨.bl (!k), H, I, rfl, Aft.ret (P := rpW X.K G) a2 n2.rep (.bl _)⟩)
def zif (nd : Ev → M Bool) (ma mc : Ev → M W) : Ev → M W := fun ρ => bnd (nd ρ) fun k => if k = true then ma ρ else mc ρ
theorem pz_ifExp (hd : PZT b X G Wf d nd) (ha : PZ b X G Wf a ma) (hc : PZ b X G Wf c mc) : PZ b X G Wf (.IfExp d a c pos) (zif nd ma mc) := by
  refine ⟨fun pins s σ H ι h ρ Q tk I r sr aft => ?_⟩
  refine wpAny_IfExp (thn (hd.run pins s σ H ι h ρ _ _ rfl tk I r sr (aft.bnd (P := rpE))) fun k s1 ⟨tk1, H1, I1, ι1, h1, k', n1, ek, a1⟩ => ?_)
  cases ek
  cases k with
  | true => exact ha.run pins s1 σ H1 ι1 h1 ρ Q tk1 I1 n1.rep (sr.next r n1.toNx0) a1
  | false => exact hc.run pins s1 σ H1 ι1 h1 ρ Q tk1 I1 n1.rep (sr.next r n1.toNx0) a1
end

def znil : Ev → M (List W) := fun _ => ret []
def zcons (ma : Ev → M W) (mr : Ev → M (List W)) : Ev → M (List W) := fun ρ => bnd (ma ρ) fun x => bnd (mr ρ) fun xs => ret (x :: xs)
section
variable {b : Bool} {X : Cx} {G : Gt} {Wf : WX} {e : Expr} {es : List Expr} {m : Ev → M W} {mr : Ev → M (List W)} {pos : Pos}
theorem pza_nil : PZA b X G Wf [] znil :=
  ⟨fun _ _ s σ H ι h ρ Q tk I r sr aft => Calls.spliced_nil ⟨tk, [], H, I, .nil, Aft.ret (P := rpWs X.K G) aft r .nil⟩⟩
theorem pza_cons (ha : PZ b X G Wf e m) (hr : PZA b X G Wf es mr) (hs : starEach (e :: es) X.env = (false, eval e X.env) :: starEach es X.env) : PZA b X G Wf (e :: es) (zcons m mr) := by
  refine ⟨fun pos pins s σ H ι h ρ Q tk I r sr aft => ?_⟩
  rw [hs]
  show wpAny _ _ (spliced ((false, eval e X.env) :: backTo pos (starEach es X.env))) _ _ s
  refine Calls.spliced_cons (thn (ha.run pins s σ H ι h ρ _ tk I r sr (aft.bnd (P := rpW X.K G))) fun u s1 ⟨tk1, v1, H1, I1, r1, ι1, h1, w1, n1, p1, a1⟩ => ?_)
  refine thn (hr.run pos pins s1 σ H1 ι1 h1 ρ _ tk1 I1 n1.rep (sr.next r n1.toNx0) (a1.bnd (P := rpWs X.K G))) fun us s2 ⟨tk2, vs, H2, I2, r2, ι2, h2, ws, n2, p2, a2⟩ => ?_
  exact ⟨tk2, v1 :: vs, H2, I2, .cons r1 r2, Aft.ret (P := rpWs X.K G) a2 n2.rep (.cons (Rep.next n1.rep n2.toNx0 p1) p2)⟩
def tZA (K : PySem.W.Frag) (G : Gt) (Wf : WX) (m : Ev → M (List W)) : TA := fun σ H Q => ∃ ι h ρ, HRep K G ι h H ∧ SRep K G ι h H ρ σ ∧ Aft K G Wf σ (rpWs K G) ι h H (m ρ h) Q
theorem PZA.pa (p : PZA false X G Wf es mr) : PA X es (tZA X.K G Wf mr) := ⟨fun pos pins s σ H Q I ⟨ι, h, ρ, r, sr, a⟩ => thn (p.run pos pins s σ H ι h ρ Q (fun z => nomatch z) I r sr a) fun _ _ q => q.2⟩
def LIM : Nat := 16777216
theorem lim_eq : LIM = sizeLine := by rw [sizeLine_eq]; rfl
def ztupW (ws : List W) : M W := if ws.length ≤ LIM then ret (.tup ws) else bad
def zlstW (ws : List W) : M W := if ws.length ≤ LIM then new (.lst ws) else bad
def ztup (mr : Ev → M (List W)) : Ev → M W := fun ρ => bnd (mr ρ) ztupW
def zlst (mr : Ev → M (List W)) : Ev → M W := fun ρ => bnd (mr ρ) zlstW
theorem tup_after {σ : St} {ι : Nat → Addr} {h : Hz} {H : Hp} {ws : List W} {vs : List V} {Q : VK} (r : HRep X.K G ι h H) (p : Reps X.K G ι h H ws vs) (a : Aft X.K G Wf σ (rpW X.K G) ι h H (ztupW ws h) Q) :
    vs.length ≤ sizeLine ∧ ∀ its q, H q = none → Q (.ref q) (upd H q (fzt its vs)) := by
  unfold ztupW at a
  split at a
  · rename_i hl
    refine ⟨by rw [← p.length, ← lim_eq]; exact hl, fun its q hq => ?_⟩
    have n := Next.beside (o := fzt its vs) r hq
    exact a ι _ _ n (.tup (SqT.fz upd_same) (p.next r n.toNx0))
  · exact False.elim a
theorem lst_new {σ : St} {ι : Nat → Addr} {h : Hz} {H : Hp} {ws : List W} {vs : List V} {Q : VK} (r : HRep X.K G ι h H) (p : Reps X.K G ι h H ws vs) (a : Aft X.K G Wf σ (rpW X.K G) ι h H (new (.lst ws) h) Q) :
    ∀ q, H q = none → Q (.ref q) (upd H q (.lst vs)) := fun q hq => by
  have n0 : Nx0 ι h H (ext1 ι h.n q) (h.push (.lst ws)) (upd H q (.lst vs)) := Nx0.alloc hq
  have n := Next.alloc (c := .lst ws) r hq ⟨vs, upd_same, p.next r n0⟩
  have e : V.ref q = V.ref (ext1 ι h.n q h.n) := by rw [ext1_at]
  refine a _ _ _ n ?_
  rw [e]
  exact .ref _ (Nat.lt_succ_self _)
theorem lst_after {σ : St} {ι : Nat → Addr} {h : Hz} {H : Hp} {ws : List W} {vs : List V} {Q : VK} (r : HRep X.K G ι h H) (p : Reps X.K G ι h H ws vs) (a : Aft X.K G Wf σ (rpW X.K G) ι h H (zlstW ws h) Q) :
    vs.length ≤ sizeLine ∧ ∀ q, H q = none → Q (.ref q) (upd H q (.lst vs)) := by
  unfold zlstW at a
  split at a
  · rename_i hl
    exact ⟨by rw [← p.length, ← lim_eq]; exact hl, lst_new r p a⟩
  · exact False.elim a
theorem pz_tup {k : Nat} (hr : PZA b X G Wf es mr) : PZ b X G Wf (.Tuple es k pos) (ztup mr) := by
  refine ⟨fun pins s σ H ι h ρ Q tk I r sr aft => ?_⟩
  refine wpAny_Tuple_spliced (thn (hr.run pos pins s σ H ι h ρ _ tk I r sr (aft.bnd (P := rpWs X.K G))) fun us s1 ⟨tk1, vs, H1, I1, r1, ι1, h1, ws, n1, p1, a1⟩ => ?_)
  obtain ⟨z, q⟩ := tup_after n1.rep p1 a1
  have hf : H1 s1.heap.objs.size = none := I1.hok.fresh (Nat.le_refl _)
  refine ⟨by rw [← r1.length]; exact z, tk1, .ref s1.heap.objs.size, upd H1 s1.heap.objs.size (fzt us vs), I1.laid (t' := s1.toks) (fun b u e => Heap.get?_push_of_some _ e) (Nat.le_refl _) ?_, rfl, q us _ hf⟩
  exact fzt_ok z r1
theorem pz_lst (hr : PZA b X G Wf es mr) : PZ b X G Wf (.List es pos) (zlst mr) := by
  refine ⟨fun pins s σ H ι h ρ Q tk I r sr aft => ?_⟩
  refine wpAny_List_spliced (thn (hr.run pos pins s σ H ι h ρ _ tk I r sr (aft.bnd (P := rpWs X.K G))) fun us s1 ⟨tk1, vs, H1, I1, r1, ι1, h1, ws, n1, p1, a1⟩ => ?_)
  obtain ⟨z, q⟩ := lst_after n1.rep p1 a1
  have hf : H1 s1.heap.objs.size = none := I1.hok.fresh (Nat.le_refl _)
  refine ⟨by rw [← r1.length]; exact z, tk1, .ref s1.heap.objs.size, upd H1 s1.heap.objs.size (.lst vs), I1.laid (t' := s1.toks) (fun b u e => Heap.get?_push_of_some _ e) (Nat.le_refl _) ?_, rfl, q _ hf⟩
  exact ⟨z, us, 0, r1, Heap.get?_push_size _ rfl⟩
end

section
variable {b : Bool} {X : Cx} {G : Gt} {Wf : WX} {e : Expr} {m : Ev → M W} {pos : Pos}
def NmInj (G : Gt) : Prop := ∀ f g, G.nm f = G.nm g → f = g
theorem nm_beq (nj : NmInj G) (f g : Nat) : (G.nm f == G.nm g) = (f == g) := by
  by_cases c : f = g
  · subst c; simp
  · rw [beq_eq_false_iff_ne.mpr c]
    exact beq_eq_false_iff_ne.mpr fun z => c (nj f g z)
theorem RepF.look {ι : Nat → Addr} {h : Hz} {H : Hp} {f : Nat} (nj : NmInj G) {w : W} : ∀ {fs : List (Nat × W)} {gs : List (Str × V)}, RepF X.K G ι h H fs gs → fs.lookup f = some w → ∃ v, gs.lookup (G.nm f) = some v ∧ Rep X.K G ι h H w v
  | [], _, _, e => by simp at e
  | (g, w') :: fs', _, q, e => by
    cases q with
    | cons p q =>
      rw [List.lookup_cons] at e
      rw [List.lookup_cons, nm_beq nj]
      cases c : (f == g) with
      | true => rw [c] at e; cases e; exact ⟨_, rfl, p⟩
      | false => rw [c] at e; exact RepF.look nj q e
theorem RepF.none_of {ι : Nat → Addr} {h : Hz} {H : Hp} {f : Nat} (nj : NmInj G) : ∀ {fs : List (Nat × W)} {gs : List (Str × V)}, RepF X.K G ι h H fs gs → fs.lookup f = none → gs.lookup (G.nm f) = none
  | [], _, q, e => by cases q; rfl
  | (g, w') :: fs', _, q, e => by
    cases q with
    | cons p q =>
      rw [List.lookup_cons] at e
      rw [List.lookup_cons, nm_beq nj]
      cases c : (f == g) with
      | true => rw [c] at e; cases e
      | false => rw [c] at e; exact RepF.none_of nj q e
def NoAt (K : PySem.W.Frag) (G : Gt) (f : Nat) (cs : List Nat) : Prop := ∀ c ∈ cs, Cls K (G.cl c) ∧ NoAttr K (G.cl c) (G.nm f)
def zfldW (cs : List Nat) (f : Nat) (w : W) : M W := match w with
  | .obj c fs => if cs.contains c = true then ofO (fs.lookup f) else bad
  | .ref i => fun h => match h.get i with
    | some (.ins c fs) => if cs.contains c = true then ofO (fs.lookup f) h else .err
    | _ => .err
  | _ => bad
def zfld (cs : List Nat) (f : Nat) (ma : Ev → M W) : Ev → M W := fun ρ => bnd (ma ρ) (zfldW cs f)
theorem ofO_after {α β : Type} {P : RP α β} {σ : St} {ι : Nat → Addr} {h : Hz} {H : Hp} {o : Option α} {Q : β → Hp → Prop} (a : Aft X.K G Wf σ P ι h H (ofO o h) Q) : ∃ w, o = some w ∧ Aft X.K G Wf σ P ι h H (ret w h) Q := by
  cases o with
  | none => exact False.elim a
  | some w => exact ⟨w, rfl, a⟩
theorem pz_fld {cs : List Nat} {f : Nat} {x : Str} (nj : NmInj G) (hx : G.nm f = x) (hn : NoAt X.K G f cs) (ha : PZ b X G Wf e m) (hb : attributeBase e x X.env (eval e X.env) = eval e X.env) : PZ b X G Wf (.Attribute e x pos) (zfld cs f m) := by
  subst hx
  refine ⟨fun pins s σ H ι h ρ Q tk I r sr aft => ?_⟩
  refine attr_of hb (thn (ha.run pins s σ H ι h ρ _ tk I r sr (aft.bnd (P := rpW X.K G))) fun u s1 ⟨tk1, v1, H1, I1, r1, ι1, h1, w1, n1, p1, a1⟩ => ?_)
  have main : ∀ (a c : Nat) (dx : Addr) (fs : List (Nat × W)) (gs : List (Str × V)), v1 = .ref a → H1 a = some (.ins (G.cl c) dx gs) → RepF X.K G ι1 h1 H1 fs gs → c ∈ cs → Aft X.K G Wf σ (rpW X.K G) ι1 h1 H1 (ofO (fs.lookup f) h1) Q →
      wpAny (model X.prog X.w) X.A (getAttr u (G.nm f) true) (fun u s' => Tk b s' ∧ EP X pins σ Q u s') X.xe s1 := by
    intro a c dx fs gs ev ea rf hc a2
    subst ev
    obtain rfl : u = Value.ref a := r1
    obtain ⟨w, ew, a3⟩ := ofO_after a2
    obtain ⟨v, lv, pv⟩ := rf.look nj ew
    obtain ⟨c1, c2⟩ := hn c hc
    exact withTk tk1 (getattr_ok I1 ea c1 c2 lv fun u' s2 I2 ru => ⟨v, H1, I2, ru, Aft.ret (P := rpW X.K G) a3 n1.rep pv⟩)
  cases p1 with
  | obj ea l _ rf =>
    have a2 : Aft X.K G Wf σ (rpW X.K G) ι1 h1 H1 ((if cs.contains _ = true then ofO (List.lookup f _) else bad) h1) Q := a1
    split at a2
    · rename_i hc
      exact main _ _ _ _ _ rfl ea rf (by simpa using hc) a2
    · exact False.elim a2
  | ref i hi =>
    have a2 : Aft X.K G Wf σ (rpW X.K G) ι1 h1 H1 (match h1.get i with
      | some (.ins c fs) => if cs.contains c = true then ofO (fs.lookup f) h1 else .err
      | _ => .err) Q := a1
    cases g : h1.get i with
    | none => rw [g] at a2; exact False.elim a2
    | some d =>
      rw [g] at a2
      cases d with
      | ins c fs =>
        obtain ⟨dx, gs, ea, rf⟩ := n1.rep.cell i _ g
        have a3 : Aft X.K G Wf σ (rpW X.K G) ι1 h1 H1 (if cs.contains c = true then ofO (fs.lookup f) h1 else .err) Q := a2
        split at a3
        · rename_i hc
          exact main _ _ _ _ _ rfl ea rf (by simpa using hc) a3
        · exact False.elim a3
      | lst xs => exact False.elim a2
      | dct kvs => exact False.elim a2
      | dead => exact False.elim a2
  | _ => exact False.elim a1
end
end Z

namespace Z
open PySem L2
open PyProof.Rows hiding St

structure Room (k : Nat) (A : Around) : Prop where
  rm : L2.Room k A
  gd : A.guards = some []
theorem Room.mono {j k : Nat} {A : Around} (r : Room k A) (h : j ≤ k) : Room j A := ⟨r.rm.mono h, r.gd⟩
theorem Room.deeper {k : Nat} {A : Around} (r : Room (k + 1) A) (env : Env) : Room k (A.deeper env) := ⟨r.rm.deeper env, r.gd⟩
theorem Room.make {k : Nat} {A : Around} (r : Room (k + 1) A) (C : Addr) (us : List Value) (kw : List (Str × Value)) : Room k (A.under (.builtin "type.__call__" ⟨.ref C :: us, kw⟩)) :=
  ⟨r.rm.make C us kw, by
    have e : (Code.builtin "type.__call__" ⟨.ref C :: us, kw⟩).guards = [] := by simp [Code.guards, Code.isGuard, guardIds]
    simp only [Around.under, e, r.gd]
    rfl⟩
structure FnOk (P : Program) (w : World) (K : PySem.W.Frag) (mg : Str → Option Value) (base : Heap) (CX : CXT) (k : Nat) (f : Addr) (fd : FuncData) (ps : List Str) (sp : Sp) : Prop where
  len : ∀ vs H Q E, sp vs H Q E → vs.length = ps.length
  run : ∀ (A : Around) (outer : List Env) (s : Shared) (H : Hp) (args : Args) (us : List Value) (vs : List V) (Q : VK) (E : XK), Room k A → Env0 P w K mg base A outer s H → BindsTo s fd args (ps.zip us) → Vals vs us → sp vs H Q E →
    codeAny (model P w) A (.call (.ref f) args) (CR CX outer P w H s Q E) s
theorem FnOk.mono {P : Program} {w : World} {K : PySem.W.Frag} {mg : Str → Option Value} {base : Heap} {CX : CXT} {j k : Nat} {f : Addr} {fd : FuncData} {ps : List Str} {sp : Sp} (F : FnOk P w K mg base CX j f fd ps sp) (h : j ≤ k) :
    FnOk P w K mg base CX k f fd ps sp := ⟨F.len, fun A outer s H args us vs Q E hr => F.run A outer s H args us vs Q E (hr.mono h)⟩
theorem FnOk.imp {P : Program} {w : World} {K : PySem.W.Frag} {mg : Str → Option Value} {base : Heap} {CX : CXT} {k : Nat} {f : Addr} {fd : FuncData} {ps : List Str} {sp sp' : Sp} (F : FnOk P w K mg base CX k f fd ps sp)
    (h : ∀ vs H Q E, sp' vs H Q E → sp vs H Q E) : FnOk P w K mg base CX k f fd ps sp' :=
  ⟨fun vs H Q E q => F.len vs H Q E (h _ _ _ _ q), fun A outer s H args us vs Q E hr he hb hv hs => F.run A outer s H args us vs Q E hr he hb hv (h _ _ _ _ hs)⟩
def spZ (K : PySem.W.Frag) (G : Gt) (n : Nat) (f : List W → M W) : Sp := fun vs H Q E => vs.length = n ∧ ∃ no ι h ws, HRep K (G.wn no) ι h H ∧ Reps K (G.wn no) ι h H ws vs ∧ Aft K (G.wn no) (fun cls d _ H' => E cls d H') [] (rpW K (G.wn no)) ι h H (f ws h) Q
section
variable {b : Bool} {X : Cx} {G : Gt} {Wf : WX} {e o : Expr} {es : List Expr} {m ma : Ev → M W} {mr : Ev → M (List W)} {p pos apos : Pos} {x : Str} {k : Nat}
theorem run_zC {pins : List (Addr × Obj)} {σ : St} {H : Hp} {s : Shared} {ι : Nat → Addr} {h : Hz} {Q : VK} {f : Addr} {fd : FuncData} {ps : List Str} {n : Nat} {fn : List W → M W} {us zs : List Value} {kw : List (Str × Value)} {vs : List V} {ws : List W}
    (F : FnOk X.prog X.w X.K X.mg X.base (CX X.prog X.w) k f fd ps (spZ X.K G n fn)) (hn : ps.length = n) (hr : Room k X.A) (hb : BindsTo s fd ⟨us, kw⟩ (ps.zip zs)) (tk : Takes X Wf) (I : Inv X pins σ H s) (r : HRep X.K G ι h H) (rv : Vals vs zs) (rp : Reps X.K G ι h H ws vs) (hl : vs.length = n)
    (aft : Aft X.K G Wf σ (rpW X.K G) ι h H (fn ws h) Q) : codeAny (model X.prog X.w) X.A (.call (.ref f) ⟨us, kw⟩) (fun r s' => match r with | .ok (.ret v) => EP X pins σ Q v s' | .ok _ => False | .error e => X.xe e s') s := by
  refine (codeAny_mono (F.run X.A X.stack s H ⟨us, kw⟩ zs vs Q (fun cls d H' => Wf cls d σ H') hr I.env0 hb rv ⟨hl, G.no, ι, h, ws, r, rp, ?_⟩) fun r s' hq => ?_)
  · cases q : fn ws h with
    | ok w h' => rw [q] at aft; exact aft
    | exc c fs h' => rw [q] at aft; exact aft
    | err => rw [q] at aft; exact aft
  · cases r with
    | error e => exact tk e s' (XE.of_call I (fun _ _ _ q => q) hq)
    | ok fl =>
      cases fl with
      | ret u => exact I.after hq
      | next => exact False.elim hq
      | brk => exact False.elim hq
      | cont => exact False.elim hq

structure PZK (b : Bool) (X : Cx) (G : Gt) (Wf : WX) (kws : List Keyword) (m : Ev → M (List W)) : Prop where
  run : ∀ (pos : Pos) (pins : List (Addr × Obj)) (s : Shared) (σ : St) (H : Hp) (ι : Nat → Addr) (h : Hz) (ρ : Ev) (Q : List V → Hp → Prop), Tk b s → Inv X pins σ H s → HRep X.K G ι h H → SRep X.K G ι h H ρ σ → Aft X.K G Wf σ (rpWs X.K G) ι h H (m ρ h) Q →
    wpAny (model X.prog X.w) X.A (evalAll ((backToKw pos (keywordEach kws X.env)).map (·.2))) (fun u s' => Tk b s' ∧ AP X pins σ Q u s') X.xe s
theorem pzk_nil : PZK b X G Wf [] znil :=
  ⟨fun _ _ s σ H ι h ρ Q tk I r sr aft => wpAny_evalAll_nil ⟨tk, [], H, I, .nil, Aft.ret (P := rpWs X.K G) aft r .nil⟩⟩
theorem pzk_cons {nm : Option Str} {kpos : Pos} {kws : List Keyword} (ha : PZ b X G Wf e m) (hr : PZK b X G Wf kws mr) : PZK b X G Wf (⟨nm, e, kpos⟩ :: kws) (zcons m mr) := by
  refine ⟨fun pos pins s σ H ι h ρ Q tk I r sr aft => ?_⟩
  show wpAny _ _ (evalAll ((do let v ← eval e X.env; standAt pos; pure v) :: (backToKw pos (keywordEach kws X.env)).map (·.2))) _ _ s
  refine wpAny_evalAll_cons (wpAny_bind (thn (ha.run pins s σ H ι h ρ _ tk I r sr (aft.bnd (P := rpW X.K G))) fun u s1 ⟨tk1, v1, H1, I1, r1, ι1, h1, w1, n1, p1, a1⟩ => wpAny_bind (wpAny_standAt (wpAny_pure ?_))))
  refine thn (hr.run pos pins s1 σ H1 ι1 h1 ρ _ tk1 I1 n1.rep (sr.next r n1.toNx0) (a1.bnd (P := rpWs X.K G))) fun us s2 ⟨tk2, vs, H2, I2, r2, ι2, h2, ws, n2, p2, a2⟩ => ?_
  exact ⟨tk2, v1 :: vs, H2, I2, .cons r1 r2, Aft.ret (P := rpWs X.K G) a2 n2.rep (.cons (Rep.next n1.rep n2.toNx0 p1) p2)⟩

def isStar : Expr → Bool
  | .Starred _ _ => true
  | _ => false
theorem starEach_cons {e : Expr} {es : List Expr} {env : Env} (he : isStar e = false) : starEach (e :: es) env = (false, eval e env) :: starEach es env := by
  cases e <;> first | rfl | cases he
theorem starEach_no : ∀ {es : List Expr} {env : Env} {pos : Pos}, es.all (fun e => !isStar e) = true → (backTo pos (starEach es env)).any (·.1) = false
  | [], _, _, _ => rfl
  | e :: es, env, pos, h => by
    rw [List.all_cons] at h
    have h1 : isStar e = false := by simpa using (Bool.and_eq_true_iff.mp h).1
    have h2 : (es.all fun e => !isStar e) = true := (Bool.and_eq_true_iff.mp h).2
    rw [starEach_cons h1]
    show ((false || (backTo pos (starEach es env)).any (·.1))) = false
    rw [starEach_no h2]
    rfl
def kwNames (kws : List Keyword) : Option (List Str) := kws.mapM fun k => k.arg
theorem kw_names : ∀ {kws : List Keyword} {ks : List Str} {env : Env} {pos : Pos}, kwNames kws = some ks →
    (backToKw pos (keywordEach kws env)).all (·.1.isSome) = true ∧ (backToKw pos (keywordEach kws env)).filterMap (·.1) = ks ∧ (backToKw pos (keywordEach kws env)).any (·.1.isNone) = false ∧ kws.length = ks.length
  | [], ks, env, pos, h => by
    have e : ks = [] := by simpa [kwNames] using h.symm
    subst e
    exact ⟨rfl, rfl, rfl, rfl⟩
  | ⟨nm, v, kp⟩ :: r, ks, env, pos, h => by
    cases nm with
    | none => simp [kwNames] at h
    | some x =>
      cases q : kwNames r with
      | none =>
        have q' : List.mapM (fun k : Keyword => k.arg) r = none := q
        simp [kwNames, q'] at h
      | some ks' =>
        have q' : List.mapM (fun k : Keyword => k.arg) r = some ks' := q
        have e : ks = x :: ks' := by
          simp [kwNames, q'] at h
          exact h.symm
        subst e
        obtain ⟨h1, h2, h3, h4⟩ := kw_names (env := env) (pos := pos) q
        refine ⟨?_, ?_, ?_, congrArg Nat.succ h4⟩
        · show (true && (backToKw pos (keywordEach r env)).all (·.1.isSome)) = true
          rw [h1]; rfl
        · show x :: (backToKw pos (keywordEach r env)).filterMap (·.1) = _
          rw [h2]
        · show (false || (backToKw pos (keywordEach r env)).any (·.1.isNone)) = false
          rw [h3]; rfl
def noSuper : Expr → Bool
  | .Call (.Name id _) [] [] _ => id != "super"
  | _ => true
theorem attrBase_of {e : Expr} {f : Str} {env : Env} {w : Sem Value} (h : noSuper e = true) : attributeBase e f env w = w := by
  unfold attributeBase
  split
  · rename_i id p q
    have h' : (id != ("super" : Str)) = true := h
    simp only [h', Bool.true_or, if_true]
    try simp
  · rfl
theorem cw_args {e : Expr} {es : List Expr} {kws : List Keyword} {mk : Ev → M (List W)} {ks : List Str} {f : Value} {first : List Value} {pins : List (Addr × Obj)} {s : Shared} {σ : St} {H : Hp} {ι : Nat → Addr} {h : Hz} {ρ : Ev} {Q : Value → Shared → Prop} {Q2 : VK} {fin : List W → List W → M W}
    (hk : PySem.W.keepIn X.K f = true) (ha : PZA b X G Wf (e :: es) mr) (hkw : PZK b X G Wf kws mk) (hst : (e :: es).all (fun e => !isStar e) = true) (hks : kwNames kws = some ks) (tk : Tk b s) (I : Inv X pins σ H s) (r : HRep X.K G ι h H) (sr : SRep X.K G ι h H ρ σ)
    (aft : Aft X.K G Wf σ (rpW X.K G) ι h H (bnd (mr ρ) (fun ws => bnd (mk ρ) fun qs => fin ws qs) h) Q2)
    (go : ∀ (s2 : Shared) (H2 : Hp) (ι2 : Nat → Addr) (h2 : Hz) (us zs : List Value) (vs ys : List V) (ws qs : List W), Tk b s2 → Inv X pins σ H2 s2 → Next X.K G ι h H ι2 h2 H2 → Vals vs us → Vals ys zs → Reps X.K G ι2 h2 H2 ws vs → Reps X.K G ι2 h2 H2 qs ys →
      Aft X.K G Wf σ (rpW X.K G) ι2 h2 H2 (fin ws qs h2) Q2 → wpAny (model X.prog X.w) X.A (call f (first ++ us) (ks.zip zs)) Q X.xe s2) :
    wpAny (model X.prog X.w) X.A (callWith pos f first (backTo pos (starEach (e :: es) X.env)) (backToKw pos (keywordEach kws X.env))) Q X.xe s := by
  obtain ⟨k1, k2, k3, k4⟩ := kw_names (env := X.env) (pos := pos) hks
  have hpl : ((backTo pos (starEach (e :: es) X.env)).any (·.1) || (backToKw pos (keywordEach kws X.env)).any (·.1.isNone)) = false := by rw [starEach_no hst, k3]; rfl
  rw [List.all_cons] at hst
  have h1 : isStar e = false := by simpa using (Bool.and_eq_true_iff.mp hst).1
  refine PySem.W.callWith_KW (h₀ := X.base) I.ok.mod.kin hk k1 (thn (ha.run pos pins s σ H ι h ρ _ tk I r sr (aft.bnd (P := rpWs X.K G))) fun us s1 ⟨tk1, vs, H1, I1, r1, ι1, h1, ws, n1, p1, a1⟩ => ?_) hpl (starEach_cons h1)
  refine thn (hkw.run pos pins s1 σ H1 ι1 h1 ρ _ tk1 I1 n1.rep (sr.next r n1.toNx0) (a1.bnd (P := rpWs X.K G))) fun zs s2 ⟨tk2, ys, H2, I2, r2, ι2, h2, qs, n2, p2, a2⟩ => ⟨I2.kIn, ?_⟩
  rw [k2]
  exact go s2 H2 ι2 h2 us zs vs ys ws qs tk2 I2 (n1.trans n2) r1 r2 (Reps.next n1.rep n2.toNx0 p1) p2 a2
theorem cw_args0 {kws : List Keyword} {mk : Ev → M (List W)} {ks : List Str} {f : Value} {first : List Value} {pins : List (Addr × Obj)} {s : Shared} {σ : St} {H : Hp} {ι : Nat → Addr} {h : Hz} {ρ : Ev} {Q : Value → Shared → Prop} {Q2 : VK} {fin : List W → M W}
    (hk : PySem.W.keepIn X.K f = true) (hkw : PZK b X G Wf kws mk) (hks : kwNames kws = some ks) (tk : Tk b s) (I : Inv X pins σ H s) (r : HRep X.K G ι h H) (sr : SRep X.K G ι h H ρ σ)
    (aft : Aft X.K G Wf σ (rpW X.K G) ι h H (bnd (mk ρ) fin h) Q2)
    (go : ∀ (s2 : Shared) (H2 : Hp) (ι2 : Nat → Addr) (h2 : Hz) (zs : List Value) (ys : List V) (qs : List W), Tk b s2 → Inv X pins σ H2 s2 → Next X.K G ι h H ι2 h2 H2 → Vals ys zs → Reps X.K G ι2 h2 H2 qs ys →
      Aft X.K G Wf σ (rpW X.K G) ι2 h2 H2 (fin qs h2) Q2 → wpAny (model X.prog X.w) X.A (call f (first ++ []) (ks.zip zs)) Q X.xe s2) :
    wpAny (model X.prog X.w) X.A (callWith pos f first (backTo pos (starEach [] X.env)) (backToKw pos (keywordEach kws X.env))) Q X.xe s := by
  obtain ⟨k1, k2, k3, k4⟩ := kw_names (env := X.env) (pos := pos) hks
  have hpl : ((backTo pos (starEach [] X.env)).any (·.1) || (backToKw pos (keywordEach kws X.env)).any (·.1.isNone)) = false := by rw [k3]; rfl
  refine PySem.W.callWith_KW0 (h₀ := X.base) I.ok.mod.kin hk k1 ?_ hpl
  refine thn (hkw.run pos pins s σ H ι h ρ _ tk I r sr (aft.bnd (P := rpWs X.K G))) fun zs s2 ⟨tk2, ys, H2, I2, r2, ι2, h2, qs, n2, p2, a2⟩ => ⟨I2.kIn, ?_⟩
  rw [k2]
  exact go s2 H2 ι2 h2 zs ys qs tk2 I2 n2 r2 p2 a2

def BnOk (X : Cx) (G : Gt) (fd : FuncData) (ps : List Str) (n : Nat) (ks : List Str) (g : List W → List W → List W) : Prop :=
  ∀ (s : Shared) (H : Hp) (ι : Nat → Addr) (h : Hz) (us zs : List Value) (vs ys : List V) (ws qs : List W), X.K.In s.heap → HRep X.K G ι h H → us.length = n → zs.length = ks.length → Vals vs us → Vals ys zs → Reps X.K G ι h H ws vs → Reps X.K G ι h H qs ys →
    ∃ bs vs', BindsTo s fd ⟨us, ks.zip zs⟩ (ps.zip bs) ∧ Vals vs' bs ∧ Reps X.K G ι h H (g ws qs) vs' ∧ vs'.length = ps.length
def CallOk (X : Cx) (G : Gt) (k : Nat) (i n : Nat) (ks : List Str) (g : List W → List W → List W) (fn : List W → M W) : Prop :=
  PySem.W.keepIn X.K (.ref (G.fn i)) = true ∧ ∃ fd ps, FnOk X.prog X.w X.K X.mg X.base (CX X.prog X.w) k (G.fn i) fd ps (spZ X.K G ps.length fn) ∧ BnOk X G fd ps n ks g
def zcall (n m : Nat) (g : List W → List W → List W) (fn : List W → M W) (ws qs : List W) : M W := if ws.length = n ∧ qs.length = m then fn (g ws qs) else bad
theorem run_callC {i n : Nat} {ks : List Str} {g : List W → List W → List W} {fn : List W → M W} (C : CallOk X G k i n ks g fn) (hr : Room k X.A) (tkx : Takes X Wf) {pins : List (Addr × Obj)} {s : Shared} {σ : St} {H : Hp} {ι : Nat → Addr} {h : Hz} {Q : VK}
    {us zs : List Value} {vs ys : List V} {ws qs : List W} (I : Inv X pins σ H s) (r : HRep X.K G ι h H) (r1 : Vals vs us) (r2 : Vals ys zs) (p1 : Reps X.K G ι h H ws vs) (p2 : Reps X.K G ι h H qs ys)
    (aft : Aft X.K G Wf σ (rpW X.K G) ι h H (zcall n ks.length g fn ws qs h) Q) : codeAny (model X.prog X.w) X.A (.call (.ref (G.fn i)) ⟨us, ks.zip zs⟩) (fun r s' => match r with | .ok (.ret v) => EP X pins σ Q v s' | .ok _ => False | .error e => X.xe e s') s := by
  obtain ⟨kp, fd, ps, F, B⟩ := C
  unfold zcall at aft
  split at aft
  · rename_i hl
    have l1 : us.length = n := by rw [← r1.length, ← p1.length]; exact hl.1
    have l2 : zs.length = ks.length := by rw [← r2.length, ← p2.length]; exact hl.2
    obtain ⟨bs, vs', hb, rv, rp, hl'⟩ := B s H ι h us zs vs ys ws qs I.kIn r l1 l2 r1 r2 p1 p2
    exact run_zC F rfl hr hb tkx I r rv rp hl' aft
  · exact False.elim aft
theorem run_call {i n : Nat} {ks : List Str} {g : List W → List W → List W} {fn : List W → M W} (C : CallOk X G k i n ks g fn) (hr : Room k X.A) (tkx : Takes X Wf) {pins : List (Addr × Obj)} {s : Shared} {σ : St} {H : Hp} {ι : Nat → Addr} {h : Hz} {Q : VK}
    {us zs : List Value} {vs ys : List V} {ws qs : List W} (I : Inv X pins σ H s) (r : HRep X.K G ι h H) (r1 : Vals vs us) (r2 : Vals ys zs) (p1 : Reps X.K G ι h H ws vs) (p2 : Reps X.K G ι h H qs ys)
    (aft : Aft X.K G Wf σ (rpW X.K G) ι h H (zcall n ks.length g fn ws qs h) Q) : wpAny (model X.prog X.w) X.A (call (.ref (G.fn i)) us (ks.zip zs)) (EP X pins σ Q) X.xe s :=
  wpAny_call (run_callC C hr tkx I r r1 r2 p1 p2 aft)
def zfun (mr mk : Ev → M (List W)) (f : List W → List W → M W) : Ev → M W := fun ρ => bnd (mr ρ) fun ws => bnd (mk ρ) fun qs => f ws qs
theorem pz_call {i n : Nat} {ks : List Str} {g : List W → List W → List W} {fn : List W → M W} {kws : List Keyword} {mk : Ev → M (List W)} (C : CallOk X G k i n ks g fn) (hr : Room k X.A) (tkx : Takes X Wf) (hg : Gl X x) (hm : X.mg x = some (.ref (G.fn i)))
    (ha : PZA b X G Wf (e :: es) mr) (hkw : PZK b X G Wf kws mk) (hst : (e :: es).all (fun e => !isStar e) = true) (hks : kwNames kws = some ks) (hdb : (x == ("__debug__" : Str)) = false) :
    PZ b X G Wf (.Call (.Name x p) (e :: es) kws pos) (zfun mr mk (zcall n ks.length g fn)) := by
  refine ⟨fun pins s σ H ι h ρ Q tk I r sr aft => ?_⟩
  refine wpAny_Call_Name_kw (ld_glob I hg hm ?_ hdb)
  refine cw_args C.1 ha hkw hst hks tk I r sr aft fun s2 H2 ι2 h2 us zs vs ys ws qs tk2 I2 n2 r1 r2 p1 p2 a2 => ?_
  exact withTk tk2 (run_call C hr tkx I2 n2.rep r1 r2 p1 p2 a2)
def zfun0 (mk : Ev → M (List W)) (f : List W → List W → M W) : Ev → M W := fun ρ => bnd (mk ρ) fun qs => f [] qs
end
end Z

namespace Z
open PySem L2
open PyProof.Rows hiding St

theorem few_all : ∀ {es : List Expr} {env : Env} {pos : Pos}, es.all (fun e => !isStar e) = true → (backTo pos (starEach es env)).all (fun x => !x.1) = true
  | [], _, _, _ => rfl
  | e :: es, env, pos, h => by
    rw [List.all_cons] at h
    have h1 : isStar e = false := by simpa using (Bool.and_eq_true_iff.mp h).1
    rw [starEach_cons h1]
    show (true && (backTo pos (starEach es env)).all (fun x => !x.1)) = true
    rw [few_all (Bool.and_eq_true_iff.mp h).2]; rfl
theorem few_of {es : List Expr} {kws : List Keyword} {ks : List Str} {env : Env} {pos : Pos} (h1 : es.all (fun e => !isStar e) = true) (h2 : kwNames kws = some ks) (h3 : es.length + kws.length < 29) :
    methodCallForm (es.length + kws.length) (backTo pos (starEach es env)) (backToKw pos (keywordEach kws env)) = true := by
  obtain ⟨k1, _, _, _⟩ := kw_names (env := env) (pos := pos) h2
  unfold methodCallForm
  rw [few_all h1, k1]
  show decide (_ < 30) = true
  refine decide_eq_true ?_
  split <;> omega
theorem meth_tree {o : Expr} {m : Str} {apos pos : Pos} {es : List Expr} {kws : List Keyword} {env : Env} (hb : noSuper o = true) (hf : methodCallForm (es.length + kws.length) (backTo pos (starEach es env)) (backToKw pos (keywordEach kws env)) = true) (hl : (apos.endLine == pos.line) = true) :
    eval (.Call (.Attribute o m apos) es kws pos) env = (do
      let ov ← eval o env
      standAt apos.atName
      let (f, first) ← holding [ov] (getMethod ov m (do return (← importBound o env).getD true))
      callWith pos f first (backTo pos (starEach es env)) (backToKw pos (keywordEach kws env))) := by
  rw [arm_eval_Call, attrBase_of hb]
  unfold methodCall calleeOf methodCallPos
  rw [hf, hl]
  rfl

section
variable {b : Bool} {X : Cx} {G : Gt} {Wf : WX} {e o : Expr} {es : List Expr} {m ma : Ev → M W} {mr mk : Ev → M (List W)} {p pos apos : Pos} {x : Str} {k : Nat} {kws : List Keyword} {ks : List Str}
def MtOk (X : Cx) (G : Gt) (k : Nat) (mi : Nat) (n : Nat) (ks : List Str) (T : List (Nat × Nat)) (g : Nat → List W → List W → List W) (fn : Nat → List W → M W) : Prop :=
  ∀ c i, T.lookup c = some i → Cls X.K (G.cl c) ∧ Meth X.K (G.cl c) (G.nm mi) (G.fn i) ∧ CallOk X G k i (n + 1) ks (g i) (fn i)
def zins (w : W) : M (Nat × List (Nat × W)) := match w with
  | .obj c fs => ret (c, fs)
  | .ref i => fun h => match h.get i with
    | some (.ins c fs) => .ok (c, fs) h
    | _ => .err
  | _ => bad
theorem ins_after {α β : Type} {P : RP α β} {σ : St} {ι : Nat → Addr} {h : Hz} {H : Hp} {w : W} {v : V} {kk : Nat × List (Nat × W) → M α} {Q : β → Hp → Prop} (r : HRep X.K G ι h H) (p : Rep X.K G ι h H w v) (a : Aft X.K G Wf σ P ι h H (bnd (zins w) kk h) Q) :
    ∃ c fs ad dx gs, v = .ref ad ∧ H ad = some (.ins (G.cl c) dx gs) ∧ RepF X.K G ι h H fs gs ∧ Aft X.K G Wf σ P ι h H (kk (c, fs) h) Q := by
  cases p with
  | obj ea l _ rf => exact ⟨_, _, _, _, _, rfl, ea, rf, a⟩
  | ref i hi =>
    have bad_ : ∀ d : Option Cell, h.get i = d → (∀ c fs, d ≠ some (.ins c fs)) → bnd (zins (.ref i)) kk h = .err := fun d g nd => by
      unfold bnd zins
      dsimp only
      rw [g]
      cases d with
      | none => rfl
      | some d => cases d <;> first | rfl | exact absurd rfl (nd _ _)
    cases g : h.get i with
    | none => rw [bad_ _ g (by simp)] at a; exact False.elim a
    | some d =>
      cases d with
      | ins c fs =>
        obtain ⟨dx, gs, ea, rf⟩ := r.cell i _ g
        have e : bnd (zins (.ref i)) kk h = kk (c, fs) h := by
          unfold bnd zins
          simp only [g]
        rw [e] at a
        exact ⟨_, _, _, _, _, rfl, ea, rf, a⟩
      | lst xs => rw [bad_ _ g (by simp)] at a; exact False.elim a
      | dct kvs => rw [bad_ _ g (by simp)] at a; exact False.elim a
      | dead => rw [bad_ _ g (by simp)] at a; exact False.elim a
  | _ => exact False.elim a
def zfind (mi : Nat) (T : List (Nat × Nat)) (q : Nat × List (Nat × W)) : M Nat := match q.2.lookup mi with
  | none => ofO (T.lookup q.1)
  | some _ => bad
def zmeth (mi n m : Nat) (T : List (Nat × Nat)) (g : Nat → List W → List W → List W) (fn : Nat → List W → M W) (ma : Ev → M W) (mr mk : Ev → M (List W)) : Ev → M W := fun ρ =>
  bnd (ma ρ) fun w => bnd (zins w) fun q => bnd (zfind mi T q) fun i => bnd (mr ρ) fun ws => bnd (mk ρ) fun qs => zcall (n + 1) m (g i) (fn i) (w :: ws) qs
theorem find_after {α β : Type} {P : RP α β} {σ : St} {ι : Nat → Addr} {h : Hz} {H : Hp} {mi : Nat} {T : List (Nat × Nat)} {q : Nat × List (Nat × W)} {kk : Nat → M α} {Q : β → Hp → Prop} (a : Aft X.K G Wf σ P ι h H (bnd (zfind mi T q) kk h) Q) :
    ∃ i, q.2.lookup mi = none ∧ T.lookup q.1 = some i ∧ Aft X.K G Wf σ P ι h H (kk i h) Q := by
  unfold zfind at a
  cases e1 : q.2.lookup mi with
  | some _ => rw [e1] at a; exact False.elim a
  | none =>
    rw [e1] at a
    cases e2 : T.lookup q.1 with
    | none => rw [e2] at a; exact False.elim a
    | some i => rw [e2] at a; exact ⟨i, rfl, rfl, a⟩
def zmeth0 (mi m : Nat) (T : List (Nat × Nat)) (g : Nat → List W → List W → List W) (fn : Nat → List W → M W) (ma : Ev → M W) (mk : Ev → M (List W)) : Ev → M W := fun ρ =>
  bnd (ma ρ) fun w => bnd (zins w) fun q => bnd (zfind mi T q) fun i => bnd (mk ρ) fun qs => zcall 1 m (g i) (fn i) [w] qs
theorem pz_meth0 {mi : Nat} {T : List (Nat × Nat)} {g : Nat → List W → List W → List W} {fn : Nat → List W → M W} (nj : NmInj G) (hx : G.nm mi = x) (Mt : MtOk X G k mi 0 ks T g fn) (hr : Room k X.A) (tkx : Takes X Wf) (ho : PZ b X G Wf o ma)
    (hkw : PZK b X G Wf kws mk) (hks : kwNames kws = some ks) (hb : noSuper o = true) (hl : (apos.endLine == pos.line) = true) (h29 : kws.length < 29) :
    PZ b X G Wf (.Call (.Attribute o x apos) [] kws pos) (zmeth0 mi ks.length T g fn ma mk) := by
  subst hx
  refine ⟨fun pins s σ H ι h ρ Q tk I r sr aft => ?_⟩
  refine PySem.W.methodCall_KW (thn (ho.run pins s σ H ι h ρ _ tk I r sr (aft.bnd (P := rpW X.K G))) fun u s1 ⟨tk1, v1, H1, I1, r1, ι1, h1, w1, n1, p1, a1⟩ => ?_) (meth_tree (es := []) hb (few_of (es := []) rfl hks (by simpa using h29)) hl)
  obtain ⟨c, fs, ad, dx, gs, ev, ea, rf, a2⟩ := ins_after n1.rep p1 a1
  obtain ⟨i, f1, f2, a3⟩ := find_after a2
  obtain ⟨c1, c2, C⟩ := Mt c i f2
  subst ev
  obtain rfl : u = Value.ref ad := r1
  refine getmeth_ok I1 ea c1 c2 (rf.none_of nj f1) ?_
  refine cw_args0 (first := [.ref ad]) C.1 hkw hks tk1 I1 n1.rep (sr.next r n1.toNx0) a3 fun s2 H2 ι2 h2 zs ys qs tk2 I2 n2 r2 p3 a4 => ?_
  exact withTk tk2 (run_call (us := [Value.ref ad]) (vs := [V.ref ad]) C hr tkx I2 n2.rep (.cons rfl .nil) r2 (.cons (Rep.next n1.rep n2.toNx0 p1) .nil) p3 a4)

def MkOk (X : Cx) (G : Gt) (k : Nat) (c i n : Nat) (ks : List Str) (g : List W → List W → List W) (fn : List W → M W) : Prop :=
  Mk X.K (G.cl c) (G.fn i) ∧ CallOk X G k i (n + 1) ks g fn
def zmkW (fr : Bool) (c : Nat) (n m : Nat) (g : List W → List W → List W) (fn : List W → M W) (ws qs : List W) : M W := fun h => match zcall (n + 1) m g fn (.ref h.n :: ws) qs (h.push (.ins c [])) with
  | .ok .non h' => if fr = true then (match h'.get h.n with
    | some (.ins c' fs) => .ok (.obj c' fs) (h'.put h.n .dead)
    | _ => .err) else .ok (.ref h.n) h'
  | .ok _ _ => .err
  | .exc e fs h' => .exc e fs h'
  | .err => .err
theorem run_mk {fr : Bool} {c i n : Nat} {g : List W → List W → List W} {fn : List W → M W} (Mo : MkOk X G k c i n ks g fn) (hr : Room (k + 1) X.A) (tkx : Takes X Wf) {pins : List (Addr × Obj)} {s : Shared} {σ : St} {H : Hp} {ι : Nat → Addr} {h : Hz} {Q : VK}
    {us zs : List Value} {vs ys : List V} {ws qs : List W} (I : Inv X pins σ H s) (r : HRep X.K G ι h H) (r1 : Vals vs us) (r2 : Vals ys zs) (p1 : Reps X.K G ι h H ws vs) (p2 : Reps X.K G ι h H qs ys)
    (aft : Aft X.K G Wf σ (rpW X.K G) ι h H (zmkW fr c n ks.length g fn ws qs h) Q) : wpAny (model X.prog X.w) X.A (call (.ref (G.cl c)) us (ks.zip zs)) (EP X pins σ Q) X.xe s := by
  obtain ⟨M, kp, fd, ps, F, B⟩ := Mo
  have fx : H (s.heap.objs.size + 1) = none := I.hok.fresh (Nat.le_succ _)
  have fd' : H s.heap.objs.size = none := I.hok.fresh (Nat.le_refl _)
  have I2 := Inv.made (C := G.cl c) I
  have nb := Next.beside (o := .own (s.heap.objs.size + 1)) r fd'
  have fx2 : (upd H s.heap.objs.size (.own (s.heap.objs.size + 1))) (s.heap.objs.size + 1) = none := by rw [upd_ne (Nat.ne_of_gt (Nat.lt_succ_self _))]; exact fx
  have na := Next.alloc (c := .ins c []) (o := .ins (G.cl c) s.heap.objs.size []) nb.rep fx2 ⟨s.heap.objs.size, [], upd_same, .nil⟩
  have nn := nb.trans na
  generalize hH2 : upd (upd H s.heap.objs.size (.own (s.heap.objs.size + 1))) (s.heap.objs.size + 1) (.ins (G.cl c) s.heap.objs.size []) = H2 at I2 na nn
  generalize hι2 : ext1 ι h.n (s.heap.objs.size + 1) = ι2 at na nn
  have eι : ι2 h.n = s.heap.objs.size + 1 := by rw [← hι2, ext1_at]
  have pself : Rep X.K G ι2 (h.push (.ins c [])) H2 (.ref h.n) (.ref (s.heap.objs.size + 1)) := by
    rw [← eι]
    exact .ref _ (Nat.lt_succ_self _)
  by_cases hl : (W.ref h.n :: ws).length = n + 1 ∧ qs.length = ks.length
  · have l1 : (Value.ref (s.heap.objs.size + 1) :: us).length = n + 1 := by
      have e1 := hl.1
      have e2 := r1.length
      have e3 := p1.length
      simp only [List.length_cons] at e1 ⊢
      omega
    have l2 : zs.length = ks.length := by rw [← r2.length, ← p2.length]; exact hl.2
    obtain ⟨bs, vs', hb, rv, rp, hl'⟩ := B _ H2 ι2 (h.push (.ins c [])) (Value.ref (s.heap.objs.size + 1) :: us) zs (V.ref (s.heap.objs.size + 1) :: vs) ys (.ref h.n :: ws) qs I2.kIn na.rep l1 l2 (.cons rfl r1) r2 (.cons pself (Reps.next r nn.toNx0 p1)) (Reps.next r nn.toNx0 p2)
    have efn : zcall (n + 1) ks.length g fn (.ref h.n :: ws) qs (h.push (.ins c [])) = fn (g (.ref h.n :: ws) qs) (h.push (.ins c [])) := by
      unfold zcall
      rw [if_pos hl]
    unfold zmkW at aft
    rw [efn] at aft
    refine wpAny_call (make_map (f := G.fn i) I.kIn M.makes M.init (beq_iff_eq.mp M.fn) (codeAny_mono (F.run _ X.stack _ H2 ⟨Value.ref (s.heap.objs.size + 1) :: us, ks.zip zs⟩ bs vs' (fun v H3 => v = .non ∧ Q (.ref (s.heap.objs.size + 1)) H3)
      (fun cls d H' => Wf cls d σ H') (hr.make (G.cl c) us (ks.zip zs)) (I2.env0.make (G.cl c) us (ks.zip zs)) hb rv ⟨hl', G.no, ι2, h.push (.ins c []), g (.ref h.n :: ws) qs, na.rep, rp, ?_⟩) fun r s' hq' => ?_))
    · cases q : fn (g (.ref h.n :: ws) qs) (h.push (.ins c [])) with
      | err => rw [q] at aft; exact aft
      | exc c fs h' =>
        rw [q] at aft
        exact fun ι' H' d n' q => aft ι' H' d (nn.trans n') q
      | ok w h' =>
        rw [q] at aft
        intro ι3 H3 v3 n3 p3
        have e3 : ι3 h.n = s.heap.objs.size + 1 := by rw [n3.ext _ (Nat.lt_succ_self _), eι]
        have hn3 : h.n < h'.n := Nat.lt_of_lt_of_le (Nat.lt_succ_self _) n3.le
        cases p3 with
        | non =>
          refine ⟨rfl, ?_⟩
          have aft2 : Aft X.K G Wf σ (rpW X.K G) ι h H (if fr = true then (match h'.get h.n with
              | some (.ins c' fs) => .ok (.obj c' fs) (h'.put h.n .dead)
              | _ => .err) else .ok (.ref h.n) h') Q := aft
          split at aft2
          · cases g3 : h'.get h.n with
            | none => rw [g3] at aft2; exact False.elim aft2
            | some d =>
              rw [g3] at aft2
              cases d with
              | ins c' fs =>
                have z := aft2 ι3 H3 (.ref (ι3 h.n)) ((nn.trans n3).trans (Next.freeze n3.rep g3)) (Rep.frozen n3.rep g3)
                rw [e3] at z
                exact z
              | lst xs => exact False.elim aft2
              | dct kvs => exact False.elim aft2
              | dead => exact False.elim aft2
          · have z := aft2 ι3 H3 (.ref (ι3 h.n)) (nn.trans n3) (.ref _ hn3)
            rw [e3] at z
            exact z
        | _ => exact False.elim aft
    · cases r with
      | error e => exact tkx e s' (XE.of_call I2 (fun _ _ _ q => q) hq')
      | ok fl =>
        cases fl with
        | ret u =>
          obtain ⟨v, H', I3, rv, ev, q3⟩ := I2.after hq'
          subst ev
          exact ⟨rv, ⟨V.ref (s.heap.objs.size + 1), H', I3, rfl, q3⟩⟩
        | next => exact False.elim hq'
        | brk => exact False.elim hq'
        | cont => exact False.elim hq'
  · unfold zmkW zcall at aft
    rw [if_neg hl] at aft
    exact False.elim aft
theorem pz_mk {fr : Bool} {c i n : Nat} {g : List W → List W → List W} {fn : List W → M W} (Mo : MkOk X G k c i n ks g fn) (hr : Room (k + 1) X.A) (tkx : Takes X Wf) (hg : Gl X x) (hm : X.mg x = some (.ref (G.cl c)))
    (ha : PZA b X G Wf (e :: es) mr) (hkw : PZK b X G Wf kws mk) (hst : (e :: es).all (fun e => !isStar e) = true) (hks : kwNames kws = some ks) (hdb : (x == ("__debug__" : Str)) = false) :
    PZ b X G Wf (.Call (.Name x p) (e :: es) kws pos) (zfun mr mk (zmkW fr c n ks.length g fn)) := by
  refine ⟨fun pins s σ H ι h ρ Q tk I r sr aft => ?_⟩
  refine wpAny_Call_Name_kw (ld_glob I hg hm ?_ hdb)
  refine cw_args Mo.1.kp ha hkw hst hks tk I r sr aft fun s2 H2 ι2 h2 us zs vs ys ws qs tk2 I2 n2 r1 r2 p1 p2 a2 => ?_
  exact withTk tk2 (run_mk Mo hr tkx I2 n2.rep r1 r2 p1 p2 a2)
theorem pz_mk0 {fr : Bool} {c i n : Nat} {g : List W → List W → List W} {fn : List W → M W} (Mo : MkOk X G k c i n ks g fn) (hr : Room (k + 1) X.A) (tkx : Takes X Wf) (hg : Gl X x) (hm : X.mg x = some (.ref (G.cl c)))
    (hkw : PZK b X G Wf kws mk) (hks : kwNames kws = some ks) (hdb : (x == ("__debug__" : Str)) = false) :
    PZ b X G Wf (.Call (.Name x p) [] kws pos) (zfun0 mk (zmkW fr c n ks.length g fn)) := by
  refine ⟨fun pins s σ H ι h ρ Q tk I r sr aft => ?_⟩
  refine wpAny_Call_Name_kw (ld_glob I hg hm ?_ hdb)
  refine cw_args0 Mo.1.kp hkw hks tk I r sr aft fun s2 H2 ι2 h2 zs ys qs tk2 I2 n2 r2 p2 a2 => ?_
  exact withTk tk2 (run_mk (us := []) Mo hr tkx I2 n2.rep .nil r2 .nil p2 a2)
end
end Z

namespace Z
open PySem L2
open PyProof.Rows hiding St

section
variable {b : Bool} {X : Cx} {G : Gt} {Wf : WX} {a c d e : Expr} {m ma mc md : Ev → M W} {pos : Pos}

def zseq (w : W) : M (Bool × List W) := match w with
  | .tup ws => ret (true, ws)
  | .fz ws => ret (false, ws)
  | .ref i => fun h => match h.get i with
    | some (.lst xs) => .ok (false, xs) h
    | _ => .err
  | _ => bad
def SqB (K : PySem.W.Frag) (H : Hp) (t : Bool) (a : Addr) (vs : List V) : Prop := if t = true then SqT K H a vs else SqL K H a vs
theorem seq_after {α β : Type} {P : RP α β} {σ : St} {ι : Nat → Addr} {h : Hz} {H : Hp} {w : W} {v : V} {kk : Bool × List W → M α} {Q : β → Hp → Prop} (r : HRep X.K G ι h H) (p : Rep X.K G ι h H w v) (q : Aft X.K G Wf σ P ι h H (bnd (zseq w) kk h) Q) :
    ∃ t ws ad vs, v = .ref ad ∧ SqB X.K H t ad vs ∧ Reps X.K G ι h H ws vs ∧ Aft X.K G Wf σ P ι h H (kk (t, ws) h) Q ∧ (t = true → w = .tup ws) := by
  cases p with
  | tup e rs => exact ⟨true, _, _, _, rfl, e, rs, q, fun _ => rfl⟩
  | fz e rs => exact ⟨false, _, _, _, rfl, e.sq, rs, q, fun z => nomatch z⟩
  | ref i hi =>
    have bad_ : ∀ o : Option Cell, h.get i = o → (∀ xs, o ≠ some (.lst xs)) → bnd (zseq (.ref i)) kk h = .err := fun o g nd => by
      unfold bnd zseq
      dsimp only
      rw [g]
      cases o with
      | none => rfl
      | some o => cases o <;> first | rfl | exact absurd rfl (nd _)
    cases g : h.get i with
    | none => rw [bad_ _ g (by simp)] at q; exact False.elim q
    | some o =>
      cases o with
      | lst xs =>
        obtain ⟨vs, ea, rs⟩ := r.cell i _ g
        have e : bnd (zseq (.ref i)) kk h = kk (false, xs) h := by
          unfold bnd zseq
          simp only [g]
        rw [e] at q
        exact ⟨false, _, _, _, rfl, SqL.of ea, rs, q, fun z => nomatch z⟩
      | ins c fs => rw [bad_ _ g (by simp)] at q; exact False.elim q
      | dct kvs => rw [bad_ _ g (by simp)] at q; exact False.elim q
      | dead => rw [bad_ _ g (by simp)] at q; exact False.elim q
  | _ => exact False.elim q
def zlref (w : W) : M (Nat × List W) := match w with
  | .ref i => fun h => match h.get i with
    | some (.lst xs) => .ok (i, xs) h
    | _ => .err
  | _ => bad
theorem lref_after {α β : Type} {P : RP α β} {σ : St} {ι : Nat → Addr} {h : Hz} {H : Hp} {w : W} {v : V} {kk : Nat × List W → M α} {Q : β → Hp → Prop} (r : HRep X.K G ι h H) (p : Rep X.K G ι h H w v) (q : Aft X.K G Wf σ P ι h H (bnd (zlref w) kk h) Q) :
    ∃ i xs vs, w = .ref i ∧ v = .ref (ι i) ∧ h.get i = some (.lst xs) ∧ H (ι i) = some (.lst vs) ∧ Reps X.K G ι h H xs vs ∧ Aft X.K G Wf σ P ι h H (kk (i, xs) h) Q := by
  cases p with
  | ref i hi =>
    have bad_ : ∀ o : Option Cell, h.get i = o → (∀ xs, o ≠ some (.lst xs)) → bnd (zlref (.ref i)) kk h = .err := fun o g nd => by
      unfold bnd zlref
      dsimp only
      rw [g]
      cases o with
      | none => rfl
      | some o => cases o <;> first | rfl | exact absurd rfl (nd _)
    cases g : h.get i with
    | none => rw [bad_ _ g (by simp)] at q; exact False.elim q
    | some o =>
      cases o with
      | lst xs =>
        obtain ⟨vs, ea, rs⟩ := r.cell i _ g
        have e : bnd (zlref (.ref i)) kk h = kk (i, xs) h := by
          unfold bnd zlref
          simp only [g]
        rw [e] at q
        exact ⟨i, xs, vs, rfl, rfl, g, ea, rs, q⟩
      | ins c fs => rw [bad_ _ g (by simp)] at q; exact False.elim q
      | dct kvs => rw [bad_ _ g (by simp)] at q; exact False.elim q
      | dead => rw [bad_ _ g (by simp)] at q; exact False.elim q
  | _ => exact False.elim q
theorem put_after {σ : St} {ι : Nat → Addr} {h : Hz} {H : Hp} {i : Nat} {xs ys : List W} {us : List V} {Q : VK} (r : HRep X.K G ι h H) (g : h.get i = some (.lst xs)) (p : Reps X.K G ι h H ys us)
    (q : Aft X.K G Wf σ (rpW X.K G) ι h H (bnd (store i (.lst ys)) (fun _ => ret .non) h) Q) : Q .non (upd H (ι i) (.lst us)) := by
  have n0 : Nx0 ι h H ι (h.put i (.lst ys)) (upd H (ι i) (.lst us)) := Nx0.store g rfl
  have n := Next.store (o := .lst us) (c := .lst ys) r g rfl rfl ⟨us, upd_same, p.next r n0⟩
  exact q ι _ .non n .non

abbrev S (l : List Nat) : Str := ⟨l.toArray⟩
theorem S_app (x y : List Nat) : S x ++ S y = S (x ++ y) := by
  show Str.append _ _ = _
  simp [Str.append, S]
theorem S_len (x : List Nat) : (S x).length = x.length := by simp [Str.length, S]
theorem S_tl (x : List Nat) : (S x).cps.toList = x := by simp [S]
theorem S_of (x : Str) : S x.cps.toList = x := by cases x; simp [S]

def zadd (x y : W) : M W := match x, y with
  | .int i, .int j => ret (.int (i + j))
  | .str s, .str t => if s.length + t.length ≤ LIM then ret (.str (s ++ t)) else bad
  | .tup xs, .tup ys => if xs.length + ys.length ≤ LIM then ret (.tup (xs ++ ys)) else bad
  | .ref i, .ref j => bnd (zlref (.ref i)) fun p => bnd (zlref (.ref j)) fun q => zlstW (p.2 ++ q.2)
  | _, _ => bad
theorem op_zadd : OpZ X G Wf (binaryOp .Add) zadd := by
  intro pins s σ H ι h x y v1 v2 u1 u2 Q I r p1 p2 r1 r2 aft
  cases p1 with
  | int i =>
    cases p2 with
    | int j => exact op_add pins s σ H _ _ u1 u2 Q I r1 r2 ⟨i, j, rfl, rfl, Aft.ret (P := rpW X.K G) aft r (.int _)⟩
    | _ => exact False.elim aft
  | str x =>
    cases p2 with
    | str y =>
      have aft2 : Aft X.K G Wf σ (rpW X.K G) ι h H ((if x.length + y.length ≤ LIM then ret (.str (x ++ y)) else bad) h) Q := aft
      split at aft2
      · rename_i hl
        refine op_add_str pins s σ H _ _ u1 u2 Q I r1 r2 ⟨_, _, rfl, rfl, by rw [← lim_eq]; simpa [Str.length] using hl, ?_⟩
        rw [S_app]
        exact Aft.ret (P := rpW X.K G) aft2 r (.str _)
      · exact False.elim aft2
    | _ => exact False.elim aft
  | @tup xs ad vs ea rs =>
    cases p2 with
    | @tup ys bd us eb rt =>
      have aft2 : Aft X.K G Wf σ (rpW X.K G) ι h H ((if xs.length + ys.length ≤ LIM then ret (.tup (xs ++ ys)) else bad) h) Q := aft
      split at aft2
      · rename_i hl
        refine op_catF pins s σ H _ _ u1 u2 Q I r1 r2 ⟨_, _, _, _, rfl, rfl, ea, eb, by rw [← rs.length, ← rt.length, ← lim_eq]; exact hl, fun e0 => ?_, fun _ e0 => ?_, fun its q hq => ?_⟩
        · subst e0
          cases rs
          exact Aft.ret (P := rpW X.K G) aft2 r (.tup eb rt)
        · subst e0
          cases rt
          rw [List.append_nil] at aft2
          exact Aft.ret (P := rpW X.K G) aft2 r (.tup ea rs)
        · have n := Next.beside (o := fzt its (vs ++ us)) r hq
          exact aft2 ι _ _ n (.tup (SqT.fz upd_same) ((rs.append rt).next r n.toNx0))
      · exact False.elim aft2
    | _ => exact False.elim aft
  | ref i hi =>
    cases p2 with
    | ref j hj =>
      have aft2 : Aft X.K G Wf σ (rpW X.K G) ι h H (bnd (zlref (.ref i)) (fun p => bnd (zlref (.ref j)) fun q => zlstW (p.2 ++ q.2)) h) Q := aft
      obtain ⟨i', xs, vs, e1, e2, g1, ea, rs, a3⟩ := lref_after r (.ref i hi) aft2
      obtain ⟨j', ys, us, e3, e4, g2, eb, rt, a4⟩ := lref_after r (.ref j hj) a3
      cases e1
      cases e3
      obtain ⟨z, q⟩ := lst_after r (rs.append rt) a4
      refine op_cat pins s σ H _ _ u1 u2 Q I r1 r2 ⟨_, _, _, _, rfl, rfl, ea, eb, ?_, q⟩
      rw [List.length_append] at z
      exact z
    | _ => exact False.elim aft
  | _ => exact False.elim aft

def zint2 (f : Int → Int → M W) (x y : W) : M W := match x, y with
  | .int i, .int j => f i j
  | _, _ => bad
theorem op_int2 {F : Value → Value → Sem Value} {f : Int → Int → M W} {C : Int → Int → Prop} {g : Int → Int → V} (ho : OpR X F (rI C g))
    (hf : ∀ i j σ ι h H Q, HRep X.K G ι h H → Aft X.K G Wf σ (rpW X.K G) ι h H (f i j h) Q → C i j ∧ Q (g i j) H) : OpZ X G Wf F (zint2 f) := by
  intro pins s σ H ι h x y v1 v2 u1 u2 Q I r p1 p2 r1 r2 aft
  cases p1 with
  | int i =>
    cases p2 with
    | int j =>
      obtain ⟨hc, q⟩ := hf i j σ ι h H Q r aft
      exact ho pins s σ H _ _ u1 u2 Q I r1 r2 ⟨i, j, rfl, rfl, hc, q⟩
    | _ => exact False.elim aft
  | _ => exact False.elim aft
theorem op_int0 {F : Value → Value → Sem Value} {f : Int → Int → W} {g : Int → Int → V} (ho : OpR X F (rI0 g)) (hf : ∀ i j ι h H, Rep X.K G ι h H (f i j) (g i j)) : OpZ X G Wf F (zint2 fun i j => ret (f i j)) := by
  intro pins s σ H ι h x y v1 v2 u1 u2 Q I r p1 p2 r1 r2 aft
  cases p1 with
  | int i =>
    cases p2 with
    | int j => exact ho pins s σ H _ _ u1 u2 Q I r1 r2 ⟨i, j, rfl, rfl, Aft.ret (P := rpW X.K G) aft r (hf i j ι h H)⟩
    | _ => exact False.elim aft
  | _ => exact False.elim aft
def P64 : Int := 18446744073709551616
def zmul : W → W → M W := zint2 fun i j => if (decide (-P64 < i) && decide (i < P64)) || (decide (-P64 < j) && decide (j < P64)) then ret (.int (i * j)) else bad
theorem op_zmul : OpZ X G Wf (binaryOp .Mult) zmul := op_int2 op_mul fun i j σ ι h H Q r a => by
  split at a
  · rename_i hc
    refine ⟨?_, Aft.ret (P := rpW X.K G) a r (.int _)⟩
    unfold CMul
    simp only [Bool.or_eq_true, Bool.and_eq_true, decide_eq_true_eq] at hc
    exact hc
  · exact False.elim a
def zmod : W → W → M W := zint2 fun i j => if decide (0 < j) = true then ret (.int (i % j)) else bad
theorem op_zmod : OpZ X G Wf (binaryOp .Mod) zmod := op_int2 op_mod fun i j σ ι h H Q r a => by
  split at a
  · rename_i hc
    exact ⟨of_decide_eq_true hc, Aft.ret (P := rpW X.K G) a r (.int _)⟩
  · exact False.elim a
def zfdiv : W → W → M W := zint2 fun i j => if (decide (0 < j) && decide (j < 1073741824)) = true then ret (.int (i / j)) else bad
theorem op_zfdiv : OpZ X G Wf (binaryOp .FloorDiv) zfdiv := op_int2 op_fdiv fun i j σ ι h H Q r a => by
  split at a
  · rename_i hc
    simp only [Bool.and_eq_true, decide_eq_true_eq] at hc
    exact ⟨hc, Aft.ret (P := rpW X.K G) a r (.int _)⟩
  · exact False.elim a
def zpow : W → W → M W := zint2 fun i j => if (decide (0 ≤ j) && decide (j ≤ 1000000) && decide (i.natAbs < 18446744073709551616)) = true then ret (.int (i ^ j.toNat)) else bad
theorem op_zpow : OpZ X G Wf (binaryOp .Pow) zpow := op_int2 op_pow fun i j σ ι h H Q r a => by
  split at a
  · rename_i hc
    simp only [Bool.and_eq_true, decide_eq_true_eq] at hc
    exact ⟨⟨hc.1.1, hc.1.2, hc.2⟩, Aft.ret (P := rpW X.K G) a r (.int _)⟩
  · exact False.elim a
def zlt : W → W → M W := zint2 fun i j => ret (.bl (decide (i < j)))
def zle : W → W → M W := zint2 fun i j => ret (.bl (decide (i ≤ j)))
def zgt : W → W → M W := zint2 fun i j => ret (.bl (decide (j < i)))
def zge : W → W → M W := zint2 fun i j => ret (.bl (decide (j ≤ i)))
theorem op_zlt : OpZ X G Wf (compareOp .Lt) zlt := op_int0 op_lt fun _ _ _ _ _ => .bl _
theorem op_zle : OpZ X G Wf (compareOp .LtE) zle := op_int0 op_le fun _ _ _ _ _ => .bl _
theorem op_zgt : OpZ X G Wf (compareOp .Gt) zgt := op_int0 op_gt fun _ _ _ _ _ => .bl _
theorem op_zge : OpZ X G Wf (compareOp .GtE) zge := op_int0 op_ge fun _ _ _ _ _ => .bl _

def isNonW : W → Bool
  | .non => true
  | _ => false
theorem non_iff {ι : Nat → Addr} {h : Hz} {H : Hp} {w : W} {v : V} (p : Rep X.K G ι h H w v) : decide (v = .non) = isNonW w := by
  cases p <;> first | rfl | exact decide_eq_false (fun z => nomatch z)
def zis (x y : W) : M W := match y with
  | .non => ret (.bl (isNonW x))
  | .bl k => match x with
    | .bl j => ret (.bl (j == k))
    | _ => bad
  | _ => bad
def zisnot (x y : W) : M W := match y with
  | .non => ret (.bl (!isNonW x))
  | .bl k => match x with
    | .bl j => ret (.bl (!(j == k)))
    | _ => bad
  | _ => bad
theorem beq_dec (j k : Bool) : decide (j = k) = (j == k) := by cases j <;> cases k <;> rfl
theorem op_zis : OpZ X G Wf (compareOp .Is) zis := by
  intro pins s σ H ι h x y v1 v2 u1 u2 Q I r p1 p2 r1 r2 aft
  cases p2 with
  | non =>
    refine op_isN pins s σ H _ _ u1 u2 Q I r1 r2 ⟨rfl, ?_⟩
    rw [non_iff p1]
    exact Aft.ret (P := rpW X.K G) aft r (.bl _)
  | bl k =>
    cases p1 with
    | bl j =>
      refine op_isBl pins s σ H _ _ u1 u2 Q I r1 r2 ⟨_, _, rfl, rfl, ?_⟩
      rw [beq_dec]
      exact Aft.ret (P := rpW X.K G) aft r (.bl _)
    | _ => exact False.elim aft
  | _ => exact False.elim aft
theorem op_zisnot : OpZ X G Wf (compareOp .IsNot) zisnot := by
  intro pins s σ H ι h x y v1 v2 u1 u2 Q I r p1 p2 r1 r2 aft
  cases p2 with
  | non =>
    refine op_notN pins s σ H _ _ u1 u2 Q I r1 r2 ⟨rfl, ?_⟩
    rw [non_iff p1]
    exact Aft.ret (P := rpW X.K G) aft r (.bl _)
  | bl k =>
    cases p1 with
    | bl j =>
      refine op_notBl pins s σ H _ _ u1 u2 Q I r1 r2 ⟨_, _, rfl, rfl, ?_⟩
      rw [beq_dec]
      exact Aft.ret (P := rpW X.K G) aft r (.bl _)
    | _ => exact False.elim aft
  | _ => exact False.elim aft

def zix (x y : W) : M W := match y with
  | .int i => match x with
    | .str s => if s.length ≤ LIM then ofO ((atI s i).map fun c => .str [c]) else bad
    | _ => bnd (zseq x) fun p => ofO (atI p.2 i)
  | _ => bad
theorem Reps.atI {ι : Nat → Addr} {h : Hz} {H : Hp} {ws : List W} {vs : List V} {i : Int} {w : W} (rs : Reps X.K G ι h H ws vs) (e : atI ws i = some w) : ∃ v, L2.atI vs i = some v ∧ Rep X.K G ι h H w v := by
  unfold L2.atI at e ⊢
  rw [← rs.length]
  cases q : ixN ws.length i with
  | none => rw [q] at e; cases e
  | some j =>
    rw [q] at e
    obtain ⟨v, e1, e2⟩ := rs.get (i := j) e
    exact ⟨v, e1, e2⟩
theorem ix_z {value slice : Expr} {pins : List (Addr × Obj)} {s : Shared} {σ : St} {H : Hp} {ι : Nat → Addr} {h : Hz} {x y : W} {v1 v2 : V} {u1 u2 : Value} {Q : VK} (I : Inv X pins σ H s) (r : HRep X.K G ι h H) (p1 : Rep X.K G ι h H x v1) (p2 : Rep X.K G ι h H y v2) (r1 : RelV v1 u1) (r2 : RelV v2 u2)
    (aft : Aft X.K G Wf σ (rpW X.K G) ι h H (zix x y h) Q) (hs : subscripted slice false u1 u2 = operate [u1, u2] (getItem u1 u2)) : wpAny (model X.prog X.w) X.A (subscriptTail value slice u1 u2) (EP X pins σ Q) X.xe s := by
  cases p2 with
  | int i =>
    have seqs : (∀ z, x ≠ .str z) → wpAny (model X.prog X.w) X.A (subscriptTail value slice u1 u2) (EP X pins σ Q) X.xe s := fun nx => by
      have aft2 : Aft X.K G Wf σ (rpW X.K G) ι h H (bnd (zseq x) (fun p => ofO (atI p.2 i)) h) Q := by
        cases x <;> first | exact aft | exact absurd rfl (nx _)
      obtain ⟨t, ws, ad, vs, e1, sq, rs, a2, tt⟩ := seq_after r p1 aft2
      obtain ⟨w, ew, a3⟩ := ofO_after a2
      obtain ⟨v, ev, pv⟩ := rs.atI ew
      have q := Aft.ret (P := rpW X.K G) a3 r pv
      cases t with
      | true => exact ix_seq value slice pins s σ H _ _ u1 u2 Q I r1 r2 (.inr (.inl ⟨ad, vs, i, v, e1, rfl, sq, ev, q⟩)) hs
      | false => exact ix_seq value slice pins s σ H _ _ u1 u2 Q I r1 r2 (.inl ⟨ad, vs, i, v, e1, rfl, sq, ev, q⟩) hs
    cases p1 with
    | str z =>
      have aft2 : Aft X.K G Wf σ (rpW X.K G) ι h H ((if z.length ≤ LIM then ofO ((atI z i).map fun c => .str [c]) else bad) h) Q := aft
      split at aft2
      · rename_i hl
        obtain ⟨w, ew, a3⟩ := ofO_after aft2
        cases q : atI z i with
        | none => rw [q] at ew; cases ew
        | some c =>
          rw [q] at ew
          cases ew
          refine ix_seq value slice pins s σ H _ _ u1 u2 Q I r1 r2 (.inr (.inr ⟨S z, i, c, rfl, rfl, ?_, ?_, Aft.ret (P := rpW X.K G) a3 r (.str [c])⟩)) hs
          · rw [S_len, ← lim_eq]; exact hl
          · rw [S_tl]; exact q
      · exact False.elim aft2
    | _ => exact seqs (fun z e => by cases e)
  | _ => exact False.elim aft
theorem pz_ix (ha : PZ b X G Wf a ma) (hc : PZ b X G Wf c mc) (hs : PlainIx c) : PZ b X G Wf (.Subscript a c pos) (zbin zix ma mc) := by
  refine ⟨fun pins s σ H ι h ρ Q tk I r sr aft => ?_⟩
  refine Subscript_ (thn (ha.run pins s σ H ι h ρ _ tk I r sr (aft.bnd (P := rpW X.K G))) fun v s1 ⟨tk1, v1, H1, I1, r1, ι1, h1, w1, n1, p1, a1⟩ => ?_)
  refine thn (hc.run pins s1 σ H1 ι1 h1 ρ _ tk1 I1 n1.rep (sr.next r n1.toNx0) (a1.bnd (P := rpW X.K G))) fun u s2 ⟨tk2, v2, H2, I2, r2, ι2, h2, w2, n2, p2, a2⟩ => ?_
  exact withTk tk2 (ix_z I2 n2.rep (Rep.next n1.rep n2.toNx0 p1) p2 r1 r2 a2 (hs _ _))

def cutW {α : Type} (xs : List α) (lo hi : Option Int) : List α := (xs.drop (HT.sIx xs.length 0 lo)).take (HT.sIx xs.length xs.length hi - HT.sIx xs.length 0 lo)
def zcut (x : W) (lo hi : Option Int) : M W := match x with
  | .str s => if s.length ≤ LIM then ret (.str (cutW s lo hi)) else bad
  | .tup ws => ret (.tup (cutW ws lo hi))
  | _ => bnd (zseq x) fun p => new (.lst (cutW p.2 lo hi))
theorem Reps.cut {ι : Nat → Addr} {h : Hz} {H : Hp} {ws : List W} {vs : List V} (rs : Reps X.K G ι h H ws vs) (lo hi : Option Int) : Reps X.K G ι h H (cutW ws lo hi) (cutV vs lo hi) := by
  unfold cutW cutV
  rw [rs.length]
  exact (rs.drop _).take _
theorem cut_whole {α : Type} {xs : List α} {lo hi : Option Int} (h : HT.sIx xs.length 0 lo = 0 ∧ HT.sIx xs.length xs.length hi = xs.length) : cutW xs lo hi = xs := by
  unfold cutW
  rw [h.1, h.2, List.drop_zero, Nat.sub_zero, List.take_length]
theorem sl_z {pins : List (Addr × Obj)} {s : Shared} {σ : St} {H : Hp} {ι : Nat → Addr} {h : Hz} {x : W} {v1 : V} {u1 vl vu : Value} {lo hi : Option Int} {sl : Addr} {Q : VK} (I : Inv X pins σ H s) (r : HRep X.K G ι h H) (p1 : Rep X.K G ι h H x v1) (r1 : RelV v1 u1)
    (hs : s.heap.IsSliceOf sl vl vu .none) (pl : IsPart vl lo) (pu : IsPart vu hi) (aft : Aft X.K G Wf σ (rpW X.K G) ι h H (zcut x lo hi h) Q) :
    ∃ T id, typeLookup (.type T) "__getitem__" = pure (some (.builtin id)) ∧ s.TypeIs u1 T ∧ wpAny (model X.prog X.w) X.A (getItem u1 (.ref sl)) (EP X pins σ Q) X.xe s := by
  have lists : (∀ z, x ≠ .str z) → (∀ z, x ≠ .tup z) → ∃ T id, typeLookup (.type T) "__getitem__" = pure (some (.builtin id)) ∧ s.TypeIs u1 T ∧ wpAny (model X.prog X.w) X.A (getItem u1 (.ref sl)) (EP X pins σ Q) X.xe s := fun nx ny => by
    have aft2 : Aft X.K G Wf σ (rpW X.K G) ι h H (bnd (zseq x) (fun p => new (.lst (cutW p.2 lo hi))) h) Q := by
      cases x <;> first | exact aft | exact absurd rfl (nx _) | exact absurd rfl (ny _)
    obtain ⟨t, ws, ad, vs, e1, sq, rs, a2, tt⟩ := seq_after r p1 aft2
    cases t with
    | true => exact absurd (tt rfl) (ny _)
    | false => exact sl_list pins s σ H _ u1 vl vu lo hi sl Q I r1 hs pl pu ⟨ad, vs, e1, sq, lst_new r (rs.cut lo hi) a2⟩
  cases p1 with
  | str z =>
    have aft2 : Aft X.K G Wf σ (rpW X.K G) ι h H ((if z.length ≤ LIM then ret (.str (cutW z lo hi)) else bad) h) Q := aft
    split at aft2
    · rename_i hl
      refine sl_str pins s σ H _ u1 vl vu lo hi sl Q I r1 hs pl pu ⟨S z, rfl, by rw [S_len, ← lim_eq]; exact hl, ?_⟩
      have e : cutS (S z) lo hi = S (cutW z lo hi) := by
        unfold cutS cutW
        rw [S_tl, S_len]
      rw [e]
      exact Aft.ret (P := rpW X.K G) aft2 r (.str _)
    · exact False.elim aft2
  | @tup ws ad vs ea rs =>
    refine sl_tupF pins s σ H _ u1 vl vu lo hi sl Q I r1 hs pl pu ⟨ad, vs, rfl, ea, fun hw => ?_, fun its q hq => ?_⟩
    · rw [← rs.length] at hw
      have aft2 : Aft X.K G Wf σ (rpW X.K G) ι h H (ret (.tup (cutW ws lo hi)) h) Q := aft
      rw [cut_whole hw] at aft2
      exact Aft.ret (P := rpW X.K G) aft2 r (.tup ea rs)
    · have n := Next.beside (o := fzt its (cutV vs lo hi)) r hq
      exact aft ι _ _ n (.tup (SqT.fz upd_same) ((rs.cut lo hi).next r n.toNx0))
  | fz e q => exact lists (fun z e => by cases e) (fun z e => by cases e)
  | ref i hi => exact lists (fun z e => by cases e) (fun z e => by cases e)
  | _ => exact False.elim aft
def zasI (w : W) : M (Option Int) := match w with
  | .int i => ret (some i)
  | _ => bad
def PZO (b : Bool) (X : Cx) (G : Gt) (Wf : WX) (o : Option Expr) (m : Ev → M (Option Int)) : Prop :=
  ∀ (pins : List (Addr × Obj)) (s : Shared) (σ : St) (H : Hp) (ι : Nat → Addr) (h : Hz) (ρ : Ev) (Q : Option Int → Hp → Prop), Tk b s → Inv X pins σ H s → HRep X.K G ι h H → SRep X.K G ι h H ρ σ → Aft X.K G Wf σ rpE ι h H (m ρ h) Q →
    wpAny (model X.prog X.w) X.A (evalPart o X.env) (fun u s' => Tk b s' ∧ ∃ k H', Inv X pins σ H' s' ∧ IsPart u k ∧ Q k H') X.xe s
theorem pzo_none : PZO b X G Wf none (fun _ => ret none) := by
  intro pins s σ H ι h ρ Q tk I r sr aft
  rw [evalPart_none]
  exact wpAny_pure ⟨tk, none, H, I, .none, Aft.ret (P := rpE) aft r rfl⟩
def zpart (ma : Ev → M W) : Ev → M (Option Int) := fun ρ => bnd (ma ρ) zasI
theorem pzo_some (ha : PZ b X G Wf a ma) : PZO b X G Wf (some a) (zpart ma) := by
  intro pins s σ H ι h ρ Q tk I r sr aft
  rw [evalPart_some]
  refine thn (ha.run pins s σ H ι h ρ _ tk I r sr (aft.bnd (P := rpW X.K G))) fun u s1 ⟨tk1, v1, H1, I1, r1, ι1, h1, w1, n1, p1, a1⟩ => ?_
  cases p1 with
  | int i =>
    obtain ⟨t, rfl⟩ := r1
    exact ⟨tk1, some i, H1, I1, .int i t, Aft.ret (P := rpE) a1 n1.rep rfl⟩
  | _ => exact False.elim a1
def zslice (ma : Ev → M W) (ml mh : Ev → M (Option Int)) : Ev → M W := fun ρ => bnd (ma ρ) fun x => bnd (ml ρ) fun lo => bnd (mh ρ) fun hi => zcut x lo hi
theorem pz_slice {lo hi : Option Expr} {ml mh : Ev → M (Option Int)} {p2 : Pos} (ha : PZ b X G Wf a ma) (hl : PZO b X G Wf lo ml) (hh : PZO b X G Wf hi mh) : PZ b X G Wf (.Subscript a (.Slice lo hi none p2) pos) (zslice ma ml mh) := by
  refine ⟨fun pins s σ H ι h ρ Q tk I r sr aft => ?_⟩
  refine Subscript_ (thn (ha.run pins s σ H ι h ρ _ tk I r sr (aft.bnd (P := rpW X.K G))) fun v s1 ⟨tk1, v1, H1, I1, r1, ι1, h1, w1, n1, p1, a1⟩ => ?_)
  refine wpAny_Slice (thn (hl pins s1 σ H1 ι1 h1 ρ _ tk1 I1 n1.rep (sr.next r n1.toNx0) (a1.bnd (P := rpE))) fun vl s2 ⟨tk2, l, H2, I2, pl, ι2, h2, l', n2, el, a2⟩ => ?_)
  cases el
  refine thn (hh pins s2 σ H2 ι2 h2 ρ _ tk2 I2 n2.rep ((sr.next r n1.toNx0).next n1.rep n2.toNx0) (a2.bnd (P := rpE))) fun vu s3 ⟨tk3, u, H3, I3, pu, ι3, h3, u', n3, eu, a3⟩ => ?_
  cases eu
  rw [evalPart_none]
  refine wpAny_pure ?_
  have I4 : Inv X pins σ H3 { s3 with heap := s3.heap.push { cls := .type "slice", data := .fields #[vl, vu, .none] } } := I3.kept (t' := s3.toks) fun b ob q => Heap.get?_push_of_some _ q
  obtain ⟨T, id, hT, ht, hg⟩ := sl_z I4 n3.rep (Rep.next n1.rep (n2.trans n3).toNx0 p1) r1 (Heap.IsSliceOf.new ..) pl pu a3
  show wpAny (model X.prog X.w) X.A (subscriptTail a (.Slice lo hi none p2) v (.ref s3.heap.objs.size)) _ X.xe { s3 with heap := s3.heap.push { cls := .type "slice", data := .fields #[vl, vu, .none] } }
  have tk4 : Tk b ({ s3 with heap := s3.heap.push { cls := .type "slice", data := .fields #[vl, vu, .none] } } : Shared) := tk3
  exact withTk tk4 (tail_any (ops := [.ref s3.heap.objs.size, v]) ht hT hg (by with_unfolding_all rfl))
end
end Z

namespace Z
open PySem PySem.SeqAt L2
open AutoSeq1 (wpAny_loadPart')
open MeetsSeq MeetsSeq2 MeetsSeq3 SeqRoads2
abbrev lsO (its : Array Value) (n : Nat) (dd : Option Addr) (sl : Array (Option Value)) : Obj := { cls := .type "list", dict := dd, data := .seq its n, slots := sl }
abbrev tpO (its : Array Value) (n : Nat) (dd : Option Addr) (sl : Array (Option Value)) : Obj := { cls := .type "tuple", dict := dd, data := .seq its n, slots := sl }
def LsAt (h : Heap) (l : Addr) (N : Nat) (P : Array Value → Prop) : Prop := ∃ its n dd sl, h.get? l = some (lsO its n dd sl) ∧ its.size = N ∧ P its

section
variable {prog : Program} {w : World} {A : Around} {R : Result → Shared → Prop}
theorem eq_loopB (l b : Addr) (N : Nat) (e : Nat → Bool) (J : Shared → Prop)
    (hl : ∀ s, J s → LsAt s.heap l N fun its => LsAt s.heap b N fun its2 => ∀ i (h1 : i < its.size) (h2 : i < its2.size), wpAny (model prog w) A.in1 (eqBool its[i] its2[i]) (fun r s' => r = e i ∧ J s') (fun x s' => R (.error x) s') s)
    (k : Nat) : ∀ i : Nat, N - i = k → i ≤ N → (∀ s, J s → R (.ok (.ret (.bool (((List.range N).drop i).all e)))) s) → ∀ s, J s →
      wpAny (model prog w) A.in1 (Builtin.«list.__eq__.loop» ⟨[.ref l, .ref b, rawInt i, rawInt 2], []⟩) (GQ.FinOf prog w A R) (fun x s' => R (.error x) s') s := by
  induction k with
  | zero =>
    intro i hk hi fin s h
    obtain ⟨its, n, dd, sl, g1, z1, its2, n2, dd2, sl2, g2, z2, _⟩ := hl s h
    have e0 : i = N := by omega
    have hR := fin s h
    rw [e0, List.drop_of_length_le (by simp)] at hR
    obtain ⟨hp, g, d, tk, os⟩ := s
    wp_walk using wpAny_loadPart' g1, wpAny_loadPart' g2
    have i1 : its[((i : Nat) : Int).toNat]? = none := by simp; omega
    have i2 : its2[((i : Nat) : Int).toNat]? = none := by simp; omega
    rw [i1, i2]
    wp_walk using wpAny_loadPart' g1, wpAny_loadPart' g2
    show R (.ok (.ret (.bool (its.size == its2.size)))) _
    rw [z1, z2]
    simpa using hR
  | succ k ih =>
    intro i hk hi fin s h
    obtain ⟨its, n, dd, sl, g1, z1, its2, n2, dd2, sl2, g2, z2, turn⟩ := hl s h
    have l1 : i < its.size := by omega
    have l2 : i < its2.size := by omega
    have ht := turn i l1 l2
    have hd : (List.range N).drop i = i :: (List.range N).drop (i + 1) := by
      rw [List.drop_eq_getElem_cons (by simp; omega)]; simp
    rw [hd, List.all_cons] at fin
    obtain ⟨hp, g, d, tk, os⟩ := s
    wp_walk using wpAny_loadPart' g1, wpAny_loadPart' g2
    have i1 : its[((i : Nat) : Int).toNat]? = some its[i] := by simp [l1]
    have i2 : its2[((i : Nat) : Int).toNat]? = some its2[i] := by simp [l2]
    have hc : ((i : Int) + 1) = ((i + 1 : Nat) : Int) := by omega
    rw [i1, i2]
    refine wpAny_bind (wpAny_mono ht (fun r s2 h2 => ?_) fun _ _ x => x)
    obtain ⟨hr, h2⟩ := h2
    subst hr
    cases he : e i with
    | true =>
      rw [he] at fin
      have hrec := ih (i + 1) (by omega) (by omega) (by simpa using fin) s2 h2
      obtain ⟨hp2, g3, d2, tk2, os2⟩ := s2
      wp_walk
      rw [hc]
      exact ⟨plainId_quiet plain_eq_loop _, codeAny_builtin entry_eq_loop (by
        rw [Around.under_plainId plain_eq_loop _]; exact hrec)⟩
    | false =>
      rw [he] at fin
      have hR := fin s2 h2
      obtain ⟨jts, k1, dd3, sl3, g4, z3, jts2, k2, dd4, sl4, g5, z4, _⟩ := hl s2 h2
      obtain ⟨hp2, g3, d2, tk2, os2⟩ := s2
      wp_walk using wpAny_loadPart' g4, wpAny_loadPart' g5
      have j1 : jts[((i : Nat) : Int).toNat]? = some (jts[i]'(by omega)) := by simp
      have j2 : jts2[((i : Nat) : Int).toNat]? = some (jts2[i]'(by omega)) := by simp
      rw [j1, j2]
      wp_walk
      simpa using hR
theorem list_eqB (l b : Addr) (N : Nat) (e : Nat → Bool) (J : Shared → Prop)
    (hl : ∀ s, J s → LsAt s.heap l N fun its => LsAt s.heap b N fun its2 => ∀ i (h1 : i < its.size) (h2 : i < its2.size), wpAny (model prog w) A.in1 (eqBool its[i] its2[i]) (fun r s' => r = e i ∧ J s') (fun x s' => R (.error x) s') s)
    (fin : ∀ s, J s → R (.ok (.ret (.bool ((List.range N).all e)))) s) {s : Shared} (h : J s) :
    wpAny (model prog w) A.in1 (Builtin.«list.__eq__» ⟨[.ref l, .ref b], []⟩) (GQ.FinOf prog w A R) (fun x s' => R (.error x) s') s := by
  obtain ⟨its, n, dd, sl, g1, z1, its2, n2, dd2, sl2, g2, z2, _⟩ := hl s h
  have hrec := eq_loopB (A := A) (R := R) l b N e J hl _ 0 rfl (Nat.zero_le _) (by simpa using fin) s h
  obtain ⟨hp, g, d, tk, os⟩ := s
  have f3 := AutoSeq1.sub_list_list
  have hne : ¬ (its.size != its2.size) = true := by simp [z1, z2]
  wp_walk using wpAny_loadPart' g1, wpAny_loadPart' g2
  exact ⟨plainId_quiet plain_eq_loop _, codeAny_builtin entry_eq_loop (by
    rw [Around.under_plainId plain_eq_loop _]; exact hrec)⟩
theorem tuple_eqB (l b : Addr) (items items2 : Array Value) (n n2 : Nat) (dd dd2 : Option Addr) (sl sl2 : Array (Option Value)) (e : Nat → Bool) (J : Shared → Prop)
    (turn : ∀ i (h1 : i < items.size) (h2 : i < items2.size) s, J s → wpAny (model prog w) A.in1 (eqBool items[i] items2[i]) (fun r s' => r = e i ∧ J s') (fun x s' => R (.error x) s') s)
    (fin : ∀ s, J s → R (.ok (.ret (.bool ((List.range (min items.size items2.size)).all e && items.size == items2.size)))) s) {s : Shared} (g1 : s.heap.get? l = some (tpO items n dd sl)) (g2 : s.heap.get? b = some (tpO items2 n2 dd2 sl2)) (h : J s) :
    wpAny (model prog w) A.in1 (Builtin.«tuple.__eq__» ⟨[.ref l, .ref b], []⟩) (GQ.FinOf prog w A R) (fun x s' => R (.error x) s') s := by
  have f2 := AutoSeq1.sub_tuple_tuple
  have hZ : (items.toList.zip items2.toList).length = min items.size items2.size := by simp
  have h0 := h
  obtain ⟨hp, g, d, tk, os⟩ := s
  wp_walk using wpAny_loadPart' g1, wpAny_loadPart' g2, wpAny_forIn_list _ (fun rest b s' => b.1 = none ∧ J s' ∧ ∃ i, rest = (items.toList.zip items2.toList).drop i ∧
    ∀ s, J s → R (.ok (.ret (.bool (((List.range (min items.size items2.size)).drop i).all e && items.size == items2.size)))) s) _
  case turn =>
    rintro ⟨y, x⟩ rest b s' ⟨hb', hJ, i, hz, hR⟩
    have hlt : i < (items.toList.zip items2.toList).length := by
      rcases Nat.lt_or_ge i (items.toList.zip items2.toList).length with h' | h'
      · exact h'
      · rw [List.drop_of_length_le h'] at hz; cases hz
    have hm : i < min items.size items2.size := hZ ▸ hlt
    have h1 : i < items.size := Nat.lt_of_lt_of_le hm (Nat.min_le_left _ _)
    have h2 : i < items2.size := Nat.lt_of_lt_of_le hm (Nat.min_le_right _ _)
    rw [List.drop_eq_getElem_cons hlt] at hz
    injection hz with hyx hrest
    have hy : y = items[i] := by have := congrArg Prod.fst hyx; simpa using this
    have hx : x = items2[i] := by have := congrArg Prod.snd hyx; simpa using this
    subst hy hx
    have hd : (List.range (min items.size items2.size)).drop i = i :: (List.range (min items.size items2.size)).drop (i + 1) := by simp [List.drop_eq_getElem_cons, hm]
    rw [hd, List.all_cons] at hR
    refine wpAny_bind (wpAny_mono (turn i h1 h2 s' hJ) (fun r s2 q2 => ?_) fun _ _ x => x)
    obtain ⟨hr, q2⟩ := q2
    subst hr
    cases hy : e i with
    | true =>
      rw [hy] at hR
      wp_walk
      exact ⟨rfl, q2, i + 1, hrest, by simpa using hR⟩
    | false =>
      rw [hy] at hR
      have hR2 := hR s2 q2
      wp_walk
      simpa using hR2
  case fin =>
    rintro ⟨b1, b2⟩ s' ⟨hb', hJ, i, hz, hR⟩
    simp only at hb'
    subst hb'
    have hge : min items.size items2.size ≤ i := by
      rcases Nat.lt_or_ge i (items.toList.zip items2.toList).length with h' | h'
      · rw [List.drop_eq_getElem_cons h'] at hz; cases hz
      · exact hZ ▸ h'
    have hR2 := hR s' hJ
    rw [List.drop_of_length_le (by simpa using hge)] at hR2
    wp_walk
    simpa [Builtin.Tuple.tupleCompareSizes] using hR2
  case h =>
    exact ⟨rfl, h0, 0, rfl, by simpa using fin⟩

theorem contains_loopB (l : Addr) (N : Nat) (x : Value) (e : Nat → Bool) (J : Shared → Prop)
    (hl : ∀ s, J s → LsAt s.heap l N fun its => ∀ i (h1 : i < its.size), wpAny (model prog w) A.in1 (eqBool its[i] x) (fun r s' => r = e i ∧ J s') (fun x s' => R (.error x) s') s)
    (k : Nat) : ∀ i : Nat, N - i = k → i ≤ N → (∀ s, J s → R (.ok (.ret (.bool (((List.range N).drop i).any e)))) s) → ∀ s, J s →
      wpAny (model prog w) A.in1 (Builtin.«list.__contains__.loop» ⟨[.ref l, x, rawInt i], []⟩) (GQ.FinOf prog w A R) (fun x s' => R (.error x) s') s := by
  induction k with
  | zero =>
    intro i hk hi fin s h
    obtain ⟨its, n, dd, sl, g1, z1, _⟩ := hl s h
    have e0 : i = N := by omega
    have hR := fin s h
    rw [e0, List.drop_of_length_le (by simp)] at hR
    obtain ⟨hp, g, d, tk, os⟩ := s
    wp_walk using wpAny_loadPart' g1
    have i1 : its[((i : Nat) : Int).toNat]? = none := by simp; omega
    rw [i1]
    wp_walk
    simpa using hR
  | succ k ih =>
    intro i hk hi fin s h
    obtain ⟨its, n, dd, sl, g1, z1, turn⟩ := hl s h
    have l1 : i < its.size := by omega
    have ht := turn i l1
    have hd : (List.range N).drop i = i :: (List.range N).drop (i + 1) := by
      rw [List.drop_eq_getElem_cons (by simp; omega)]; simp
    rw [hd, List.any_cons] at fin
    obtain ⟨hp, g, d, tk, os⟩ := s
    wp_walk using wpAny_loadPart' g1
    have i1 : its[((i : Nat) : Int).toNat]? = some its[i] := by simp [l1]
    have hc : ((i : Int) + 1) = ((i + 1 : Nat) : Int) := by omega
    rw [i1]
    refine wpAny_bind (wpAny_mono ht (fun r s2 h2 => ?_) fun _ _ x => x)
    obtain ⟨hr, h2⟩ := h2
    subst hr
    cases he : e i with
    | false =>
      rw [he] at fin
      have hrec := ih (i + 1) (by omega) (by omega) (by simpa using fin) s2 h2
      obtain ⟨hp2, g3, d2, tk2, os2⟩ := s2
      wp_walk
      rw [hc]
      exact ⟨plainId_quiet plain_contains_loop _, codeAny_builtin entry_contains_loop (by
        rw [Around.under_plainId plain_contains_loop _]; exact hrec)⟩
    | true =>
      rw [he] at fin
      have hR := fin s2 h2
      obtain ⟨hp2, g3, d2, tk2, os2⟩ := s2
      wp_walk
      simpa using hR
theorem list_containsB (l : Addr) (N : Nat) (x : Value) (e : Nat → Bool) (J : Shared → Prop)
    (hl : ∀ s, J s → LsAt s.heap l N fun its => ∀ i (h1 : i < its.size), wpAny (model prog w) A.in1 (eqBool its[i] x) (fun r s' => r = e i ∧ J s') (fun x s' => R (.error x) s') s)
    (fin : ∀ s, J s → R (.ok (.ret (.bool ((List.range N).any e)))) s) {s : Shared} (h : J s) :
    wpAny (model prog w) A.in1 (Builtin.«list.__contains__» ⟨[.ref l, x], []⟩) (GQ.FinOf prog w A R) (fun x s' => R (.error x) s') s := by
  obtain ⟨its, n, dd, sl, g1, z1, _⟩ := hl s h
  have hrec := contains_loopB (A := A) (R := R) l N x e J hl _ 0 rfl (Nat.zero_le _) (by simpa using fin) s h
  obtain ⟨hp, g, d, tk, os⟩ := s
  wp_walk using wpAny_loadPart' g1
  exact ⟨plainId_quiet plain_contains_loop _, codeAny_builtin entry_contains_loop (by
    rw [Around.under_plainId plain_contains_loop _]; exact hrec)⟩
theorem tuple_containsB (l : Addr) (items : Array Value) (n : Nat) (dd : Option Addr) (sl : Array (Option Value)) (x : Value) (e : Nat → Bool) (J : Shared → Prop)
    (turn : ∀ i (h1 : i < items.size) s, J s → wpAny (model prog w) A.in1 (eqBool items[i] x) (fun r s' => r = e i ∧ J s') (fun x s' => R (.error x) s') s)
    (fin : ∀ s, J s → R (.ok (.ret (.bool ((List.range items.size).any e)))) s) {s : Shared} (g1 : s.heap.get? l = some (tpO items n dd sl)) (h : J s) :
    wpAny (model prog w) A.in1 (Builtin.«tuple.__contains__» ⟨[.ref l, x], []⟩) (GQ.FinOf prog w A R) (fun x s' => R (.error x) s') s := by
  have h0 := h
  obtain ⟨hp, g, d, tk, os⟩ := s
  wp_walk using wpAny_loadPart' g1, wpAny_forIn_array _ (fun rest b s' => b.1 = none ∧ J s' ∧ ∃ i, rest = items.toList.drop i ∧ ∀ s, J s → R (.ok (.ret (.bool (((List.range items.size).drop i).any e)))) s) _
  case turn =>
    rintro y rest b s' ⟨hb, hJ, i, hz, hR⟩
    have hlt : i < items.toList.length := by
      rcases Nat.lt_or_ge i items.toList.length with h' | h'
      · exact h'
      · rw [List.drop_of_length_le h'] at hz; cases hz
    have h1 : i < items.size := by simpa using hlt
    rw [List.drop_eq_getElem_cons hlt] at hz
    injection hz with hy hrest
    have hy' : y = items[i] := by simpa using hy
    subst hy'
    have hd : (List.range items.size).drop i = i :: (List.range items.size).drop (i + 1) := by simp [List.drop_eq_getElem_cons, h1]
    rw [hd, List.any_cons] at hR
    refine wpAny_bind (wpAny_mono (turn i h1 s' hJ) (fun r s2 q2 => ?_) fun _ _ x => x)
    obtain ⟨hr, q2⟩ := q2
    subst hr
    cases hy : e i with
    | true =>
      rw [hy] at hR
      have hR2 := hR s2 q2
      wp_walk
      simpa using hR2
    | false =>
      rw [hy] at hR
      wp_walk
      exact ⟨rfl, q2, i + 1, hrest, by simpa using hR⟩
  case fin =>
    rintro ⟨b1, b2⟩ s' ⟨hb, hJ, i, hz, hR⟩
    simp only at hb
    subst hb
    have hge : items.size ≤ i := by
      rcases Nat.lt_or_ge i items.toList.length with h' | h'
      · rw [List.drop_eq_getElem_cons h'] at hz; cases hz
      · simpa using h'
    have hR2 := hR s' hJ
    rw [List.drop_of_length_le (by simpa using hge)] at hR2
    wp_walk
    simpa using hR2
  case h =>
    exact ⟨rfl, h0, 0, by simp, by simpa using fin⟩

end

section
variable {prog : Program} {w : World} {A : Around} {E : Value → Shared → Prop} {s : Shared}
theorem rc_listB {l b : Addr} {N : Nat} {e : Nat → Bool} {Q : Value → Shared → Prop} (hu : A.units < cLine) (J : Shared → Prop)
    (hl : ∀ s, J s → LsAt s.heap l N fun its => LsAt s.heap b N fun its2 => ∀ i (h1 : i < its.size) (h2 : i < its2.size), wpAny (model prog w) A.in1 (eqBool its[i] its2[i]) (fun r s' => r = e i ∧ J s') E s)
    (fin : ∀ s, J s → Q (.bool ((List.range N).all e)) s) (h : J s) : wpAny (model prog w) A (richCompare .Eq (.ref l) (.ref b)) Q E s := by
  obtain ⟨its, n, dd, sl, g1, z1, its2, n2, dd2, sl2, g2, z2, _⟩ := hl s h
  refine wpAny_richCompare_same_room (op := .Eq) ⟨_, g1, rfl⟩ ⟨_, g2, rfl⟩ F.slot_list_eq (GQ.call_here F.slot_list_eq ⟨_, g1, rfl⟩ F.entry_list_eq (F.args_list_eq_2 _ _) ?_) hu
  exact list_eqB (R := wants (fun v s' => v ≠ .notImplemented ∧ Q v s') E) l b N e J hl (fun s' q => ⟨(fun x => nomatch x), fin s' q⟩) h
theorem rc_tupB {l b : Addr} {items items2 : Array Value} {e : Nat → Bool} {Q : Value → Shared → Prop} (hu : A.units < cLine) (J : Shared → Prop) (hl : s.heap.IsTuple l items) (hb : s.heap.IsTuple b items2)
    (turn : ∀ i (h1 : i < items.size) (h2 : i < items2.size) s, J s → wpAny (model prog w) A.in1 (eqBool items[i] items2[i]) (fun r s' => r = e i ∧ J s') E s)
    (fin : ∀ s, J s → Q (.bool ((List.range (min items.size items2.size)).all e && items.size == items2.size)) s) (h : J s) : wpAny (model prog w) A (richCompare .Eq (.ref l) (.ref b)) Q E s := by
  obtain ⟨⟨cls, dd, data, sl⟩, ho, hc, n, hd⟩ := id hl
  obtain ⟨⟨cls2, dd2, data2, sl2⟩, ho2, hc2, n2, hd2⟩ := id hb
  simp only at hc hd hc2 hd2
  subst hc hd hc2 hd2
  refine wpAny_richCompare_same_room (op := .Eq) ⟨_, ho, rfl⟩ ⟨_, ho2, rfl⟩ F.slot_tuple_eq (GQ.call_here F.slot_tuple_eq ⟨_, ho, rfl⟩ F.entry_tuple_eq (F.args_tuple_eq_2 _ _) ?_) hu
  exact tuple_eqB (R := wants (fun v s' => v ≠ .notImplemented ∧ Q v s') E) l b items items2 n n2 dd dd2 sl sl2 e J turn (fun s' q => ⟨(fun x => nomatch x), fin s' q⟩) ho ho2 h
theorem in_listB {l : Addr} {N : Nat} {x : Value} {e : Nat → Bool} {Q : Bool → Shared → Prop} (J : Shared → Prop)
    (hl : ∀ s, J s → LsAt s.heap l N fun its => ∀ i (h1 : i < its.size), wpAny (model prog w) A.in1 (eqBool its[i] x) (fun r s' => r = e i ∧ J s') E s)
    (fin : ∀ s, J s → Q ((List.range N).any e) s) (h : J s) : wpAny (model prog w) A (contains (.ref l) x) Q E s := by
  obtain ⟨its, n, dd, sl, g1, z1, _⟩ := hl s h
  refine wpAny_contains_slot (T := "list") ⟨_, g1, rfl⟩ F.slot_list_contains (wpAny_mono (GQ.call_here (Q := fun v s' => ∃ k, v = .bool k ∧ Q k s') F.slot_list_contains ⟨_, g1, rfl⟩ F.entry_list_contains (F.args_list_contains_2 _ _) ?_) (fun v s' hv => ?_) fun _ _ e => e)
  · exact list_containsB (R := wants (fun v s' => ∃ k, v = .bool k ∧ Q k s') E) l N x e J hl (fun s' q => ⟨_, rfl, fin s' q⟩) h
  · obtain ⟨k, rfl, hq⟩ := hv
    exact wpAny_truthy_bool hq
theorem in_tupB {l : Addr} {items : Array Value} {x : Value} {e : Nat → Bool} {Q : Bool → Shared → Prop} (J : Shared → Prop) (hl : s.heap.IsTuple l items)
    (turn : ∀ i (h1 : i < items.size) s, J s → wpAny (model prog w) A.in1 (eqBool items[i] x) (fun r s' => r = e i ∧ J s') E s)
    (fin : ∀ s, J s → Q ((List.range items.size).any e) s) (h : J s) : wpAny (model prog w) A (contains (.ref l) x) Q E s := by
  obtain ⟨⟨cls, dd, data, sl⟩, ho, hc, n, hd⟩ := id hl
  simp only at hc hd
  subst hc hd
  refine wpAny_contains_slot (T := "tuple") ⟨_, ho, rfl⟩ F.slot_tuple_contains (wpAny_mono (GQ.call_here (Q := fun v s' => ∃ k, v = .bool k ∧ Q k s') F.slot_tuple_contains ⟨_, ho, rfl⟩ F.entry_tuple_contains (F.args_tuple_contains_2 _ _) ?_) (fun v s' hv => ?_) fun _ _ e => e)
  · exact tuple_containsB (R := wants (fun v s' => ∃ k, v = .bool k ∧ Q k s') E) l items n dd sl x e J turn (fun s' q => ⟨_, rfl, fin s' q⟩) ho h
  · obtain ⟨k, rfl, hq⟩ := hv
    exact wpAny_truthy_bool hq
end
end Z

namespace Z
open PySem PySem.SeqAt L2
open PyProof.Rows hiding St

inductive Kd where
  | non | bl (b : Bool) | int (i : Int) | str (s : List Nat) | tup (ws : List W) | lst (ws : List W) | obj (c : Nat) (fs : List (Nat × W)) | no
def kindC : Option Cell → Kd
  | some (.lst xs) => .lst xs
  | some (.ins c fs) => .obj c fs
  | _ => .no
def kind (h : Hz) : W → Kd
  | .non => .non
  | .bl b => .bl b
  | .int i => .int i
  | .str s => .str s
  | .tup ws => .tup ws
  | .fz ws => .lst ws
  | .obj c fs => .obj c fs
  | .ref i => kindC (h.get i)
  | _ => .no
def eqN : List Nat → List Nat → Bool
  | [], [] => true
  | a :: x, b :: y => match Nat.beq a b with
    | true => eqN x y
    | false => false
  | _, _ => false
theorem eqN_eq : ∀ x y : List Nat, eqN x y = decide (x = y)
  | [], [] => by simp [eqN]
  | [], b :: y => by simp [eqN]
  | a :: x, [] => by simp [eqN]
  | a :: x, b :: y => by
    unfold eqN
    cases q : Nat.beq a b with
    | true =>
      have e : a = b := Nat.eq_of_beq_eq_true q
      subst e
      simp [eqN_eq x y]
    | false =>
      have e : a ≠ b := Nat.ne_of_beq_eq_false q
      simp [e]
def zall (f : W → W → Option Bool) : List W → List W → Option Bool
  | x :: xs, y :: ys => match f x y with
    | some p => match zall f xs ys with
      | some q => some (p && q)
      | none => none
    | none => none
  | [], [] => some true
  | _, _ => some false
def zflds (f : W → W → Option Bool) (fs gs : List (Nat × W)) : List Nat → Option Bool
  | [] => some true
  | k :: ks => match fs.lookup k, gs.lookup k with
    | some x, some y => match f x y with
      | some p => match zflds f fs gs ks with
        | some q => some (p && q)
        | none => none
      | none => none
    | _, _ => none
abbrev ET := List (Nat × List Nat)
def b2z : Bool → Int
  | true => 1
  | false => 0
def zeqO (E : ET) (f : W → W → Option Bool) (c : Nat) (fs : List (Nat × W)) (k : Kd) : Option Bool := match E.lookup c with
  | none => none
  | some ks => match k with
    | .no => none
    | .obj d gs => if c = d then zflds f fs gs ks else (E.lookup d).map fun _ => false
    | _ => some false
def zeqK (E : ET) (f : W → W → Option Bool) : Kd → Kd → Option Bool
  | .no, _ => none
  | .obj c fs, k => zeqO E f c fs k
  | .non, k => match k with
    | .non => some true
    | .no => none
    | .obj _ _ => none
    | _ => some false
  | .bl a, k => match k with
    | .bl b => some (a == b)
    | .int j => some (decide (b2z a = j))
    | .no => none
    | .obj _ _ => none
    | _ => some false
  | .int i, k => match k with
    | .bl b => some (decide (i = b2z b))
    | .int j => some (decide (i = j))
    | .no => none
    | .obj _ _ => none
    | _ => some false
  | .str s, k => match k with
    | .str t => some (eqN s t)
    | .no => none
    | .obj _ _ => none
    | _ => some false
  | .tup xs, k => match k with
    | .tup ys => zall f xs ys
    | .no => none
    | .obj _ _ => none
    | _ => some false
  | .lst xs, k => match k with
    | .lst ys => zall f xs ys
    | .no => none
    | .obj _ _ => none
    | _ => some false
def zeq (E : ET) (h : Hz) : Nat → W → W → Option Bool
  | 0, _, _ => none
  | n + 1, x, y => zeqK E (zeq E h n) (kind h x) (kind h y)

section
variable {X : Cx} {G : Gt}
inductive KdAt (K : PySem.W.Frag) (G : Gt) (ι : Nat → Addr) (h : Hz) (H : Hp) : Kd → V → Prop
  | non : KdAt K G ι h H .non .non
  | bl (b : Bool) : KdAt K G ι h H (.bl b) (.bl b)
  | int (i : Int) : KdAt K G ι h H (.int i) (.int i)
  | str (s : List Nat) : KdAt K G ι h H (.str s) (.str (S s))
  | tup {ws : List W} {a : Addr} {vs : List V} : SqT K H a vs → Reps K G ι h H ws vs → KdAt K G ι h H (.tup ws) (.ref a)
  | lst {ws : List W} {a : Addr} {vs : List V} : SqL K H a vs → Reps K G ι h H ws vs → KdAt K G ι h H (.lst ws) (.ref a)
  | obj {c : Nat} {fs : List (Nat × W)} {a dx : Addr} {gs : List (Str × V)} : H a = some (.ins (G.cl c) dx gs) → RepF K G ι h H fs gs → KdAt K G ι h H (.obj c fs) (.ref a)
  | no (v : V) : KdAt K G ι h H .no v
theorem kind_at {K : PySem.W.Frag} {ι : Nat → Addr} {h : Hz} {H : Hp} (r : HRep K G ι h H) {w : W} {v : V} (p : Rep K G ι h H w v) : KdAt K G ι h H (kind h w) v := by
  cases p with
  | non => exact .non
  | bl b => exact .bl b
  | int i => exact .int i
  | str s => exact .str s
  | tup e q => exact .tup e q
  | fz e q => exact .lst e.sq q
  | obj e l _ q => exact .obj e q
  | ref i hi =>
    show KdAt K G ι h H (kindC (h.get i)) _
    cases g : h.get i with
    | none => exact .no _
    | some c =>
      have q := r.cell i c g
      cases c with
      | lst xs => obtain ⟨vs, e, q⟩ := q; exact .lst (SqL.of e) q
      | ins c fs => obtain ⟨dx, gs, e, q⟩ := q; exact .obj e q
      | dct kvs => exact .no _
      | dead => exact .no _
  | fn i => exact .no _
  | cl i => exact .no _

def EqOut (X : Cx) (G : Gt) (pins : List (Addr × Obj)) (σ : St) (ι : Nat → Addr) (h : Hz) (H : Hp) (s' : Shared) : Prop := ∃ H', Inv X pins σ H' s' ∧ Next X.K G ι h H ι h H'
def EqS (X : Cx) (G : Gt) (E : ET) (n : Nat) : Prop := ∀ (A : Around) (pins : List (Addr × Obj)) (s : Shared) (σ : St) (H : Hp) (ι : Nat → Addr) (h : Hz) (x y : W) (v1 v2 : V) (u1 u2 : Value) (k : Bool), Sub X n A → Inv X pins σ H s → HRep X.K G ι h H →
  Rep X.K G ι h H x v1 → Rep X.K G ι h H y v2 → RelV v1 u1 → RelV v2 u2 → zeq E h n x y = some k → wpAny (model X.prog X.w) A (richCompare .Eq u1 u2) (fun r s' => r = .bool k ∧ EqOut X G pins σ ι h H s') X.xe s
def EqB (X : Cx) (G : Gt) (E : ET) (n : Nat) : Prop := ∀ (A : Around) (pins : List (Addr × Obj)) (s : Shared) (σ : St) (H : Hp) (ι : Nat → Addr) (h : Hz) (x y : W) (v1 v2 : V) (u1 u2 : Value) (k : Bool), Sub X n A → Inv X pins σ H s → HRep X.K G ι h H →
  Rep X.K G ι h H x v1 → Rep X.K G ι h H y v2 → RelV v1 u1 → RelV v2 u2 → zeq E h n x y = some k → wpAny (model X.prog X.w) A (eqBool u1 u2) (fun r s' => r = k ∧ EqOut X G pins σ ι h H s') X.xe s
def OwnS (X : Cx) (G : Gt) (E : ET) (n : Nat) : Prop := ∀ (c : Nat) (ks : List Nat), E.lookup c = some ks → Cls X.K (G.cl c) ∧ (∀ d, (E.lookup d).isSome = true → PySem.W.notFirst X.K (G.cl c) (.ref (G.cl d)) = true) ∧ ∃ f, PySem.W.findIn X.K (.ref (G.cl c)) "__eq__" = some (some (.ref f)) ∧ PySem.W.isFn X.K (.ref f) = true ∧
  ∀ (A : Around) (pins : List (Addr × Obj)) (s : Shared) (σ : St) (H : Hp) (ι : Nat → Addr) (h : Hz) (x y : W) (v1 v2 : V) (u1 u2 : Value) (k : Bool) (fs : List (Nat × W)), Sub X (n + 1) A → Inv X pins σ H s → HRep X.K G ι h H →
    Rep X.K G ι h H x v1 → Rep X.K G ι h H y v2 → RelV v1 u1 → RelV v2 u2 → kind h x = .obj c fs → zeqK E (zeq E h n) (.obj c fs) (kind h y) = some k → wpAny (model X.prog X.w) A (call (.ref f) [u1, u2]) (fun r s' => r = .bool k ∧ EqOut X G pins σ ι h H s') X.xe s
theorem EqOut.same {pins : List (Addr × Obj)} {σ : St} {ι : Nat → Addr} {h : Hz} {H : Hp} {s : Shared} (I : Inv X pins σ H s) (r : HRep X.K G ι h H) : EqOut X G pins σ ι h H s := ⟨H, I, Next.refl r⟩

theorem zall_get {f : W → W → Option Bool} : ∀ {xs ys : List W} {k : Bool}, zall f xs ys = some k → ∃ e : Nat → Bool, (∀ i x y, xs[i]? = some x → ys[i]? = some y → f x y = some (e i)) ∧ k = ((List.range (min xs.length ys.length)).all e && xs.length == ys.length)
  | [], [], k, h => ⟨fun _ => true, fun i x y h1 _ => by simp at h1, by simp [zall] at h; simp [h]⟩
  | [], y :: ys, k, h => ⟨fun _ => true, fun i x y h1 _ => by simp at h1, by simp [zall] at h; simp [h]⟩
  | x :: xs, [], k, h => ⟨fun _ => true, fun i x y _ h2 => by simp at h2, by simp [zall] at h; simp [h]⟩
  | x :: xs, y :: ys, k, h => by
    unfold zall at h
    cases e1 : f x y with
    | none => rw [e1] at h; cases h
    | some p =>
      rw [e1] at h
      cases e2 : zall f xs ys with
      | none => rw [e2] at h; cases h
      | some q =>
        rw [e2] at h
        obtain ⟨e, h1, h2⟩ := zall_get e2
        refine ⟨fun i => match i with | 0 => p | i + 1 => e i, fun i a c ha hc => ?_, ?_⟩
        · cases i with
          | zero => simp at ha hc; subst ha hc; exact e1
          | succ i => exact h1 i a c (by simpa using ha) (by simpa using hc)
        · have hk : (p && q) = k := by simpa using h
          rw [← hk, h2]
          have hm : min (x :: xs).length (y :: ys).length = min xs.length ys.length + 1 := by simp only [List.length_cons]; omega
          rw [hm, List.range_succ_eq_map]
          simp only [List.all_cons, List.all_map, List.length_cons, Bool.and_assoc]
          congr 2
          exact Bool.eq_iff_iff.mpr (by simp)
theorem Reps.paired {K : PySem.W.Frag} {ι : Nat → Addr} {h : Hz} {H : Hp} {ws : List W} {vs : List V} {us : List Value} (rs : Reps K G ι h H ws vs) (rv : Vals vs us) (i : Nat) (hi : i < us.toArray.size) :
    ∃ w v, ws[i]? = some w ∧ Rep K G ι h H w v ∧ RelV v us.toArray[i] := by
  have l1 : i < ws.length := by rw [rs.length, rv.length]; simpa using hi
  obtain ⟨v, e1, e2⟩ := rs.get (List.getElem?_eq_getElem l1)
  obtain ⟨u, e3, e4⟩ := rv.get e1
  have e5 : us[i]? = some us.toArray[i] := by
    have hi' : i < us.length := by simpa using hi
    rw [List.getElem?_eq_getElem hi'] <;> simp
  rw [e5] at e3
  cases e3
  exact ⟨_, v, List.getElem?_eq_getElem l1, e2, e4⟩
theorem list_again {pins : List (Addr × Obj)} {σ : St} {ι : Nat → Addr} {h : Hz} {H H' : Hp} {s' : Shared} (r : HRep X.K G ι h H) {w : W} {ws : List W} {ad : Addr} (p : Rep X.K G ι h H w (.ref ad)) (k : kind h w = .lst ws) (I' : Inv X pins σ H' s') (n : Next X.K G ι h H ι h H') :
    ∃ vs its m dd sl, s'.heap.get? ad = some (lsO (List.toArray its) m dd sl) ∧ Vals vs its ∧ Reps X.K G ι h H' ws vs := by
  have p' := Rep.next r n.toNx0 p
  have q := kind_at n.rep p'
  rw [k] at q
  cases q with
  | lst sq rs =>
    obtain ⟨its, rv, ⟨⟨cls, dd, data, sl⟩, m, ho, hc, hd, hdt⟩, _⟩ := I'.list sq
    simp only at hc hdt
    subst hc hdt
    exact ⟨_, its, m, dd, sl, ho, rv, rs⟩
theorem EqOut.trans {pins : List (Addr × Obj)} {σ : St} {ι : Nat → Addr} {h : Hz} {H H1 : Hp} {s' : Shared} (n : Next X.K G ι h H ι h H1) (q : EqOut X G pins σ ι h H1 s') : EqOut X G pins σ ι h H s' :=
  let ⟨H2, I2, n2⟩ := q
  ⟨H2, I2, n.trans n2⟩

theorem type_looks {pins : List (Addr × Obj)} {σ : St} {ι : Nat → Addr} {h : Hz} {H : Hp} {s : Shared} (I : Inv X pins σ H s) {k : Kd} {v : V} {u : Value} (q : KdAt X.K G ι h H k v) (ru : RelV v u) (hk : ∀ c fs, k ≠ .obj c fs) (hn : k ≠ .no) (C : Addr) :
    ∃ T, PySem.W.Looks (model X.prog X.w) s.heap (typeOf u) (.type T) ∧ PySem.W.notFirst X.K C (.type T) = true := by
  have nf : ∀ T : String, PySem.W.subIn X.K (.type T) (.ref C) = some false → PySem.W.notFirst X.K C (.type T) = true := fun T e => by
    unfold PySem.W.notFirst
    rw [e]
    exact Bool.or_true _
  cases q with
  | non => cases (show u = Value.none from ru); exact ⟨"NoneType", PySem.W.Looks.of_pure rfl, nf _ rfl⟩
  | bl b => cases (show u = Value.bool b from ru); exact ⟨"bool", PySem.W.Looks.of_pure rfl, nf _ rfl⟩
  | int i => obtain ⟨t, rfl⟩ := ru; exact ⟨"int", PySem.W.Looks.of_pure rfl, nf _ rfl⟩
  | str z => obtain ⟨t, rfl⟩ := ru; exact ⟨"str", PySem.W.Looks.of_pure rfl, nf _ rfl⟩
  | @tup ws a vs e rs =>
    cases (show u = Value.ref a from ru)
    obtain ⟨its, rv, ⟨o, ho, hc, _⟩, _⟩ := I.tuple e
    exact ⟨"tuple", fun A Q E s k q => wpAny_typeOf_ref (k _ _ ho) (by rw [hc]; exact q), nf _ rfl⟩
  | @lst ws a vs e rs =>
    cases (show u = Value.ref a from ru)
    obtain ⟨its, rv, ⟨o, m, ho, hc, _⟩, _⟩ := I.list e
    exact ⟨"list", fun A Q E s k q => wpAny_typeOf_ref (k _ _ ho) (by rw [hc]; exact q), nf _ rfl⟩
  | obj e q => exact absurd rfl (hk _ _)
  | no => exact absurd rfl hn
end
end Z

namespace Z
open PySem PySem.SeqAt L2
open PyProof.Rows hiding St

section
variable {X : Cx} {G : Gt} {E : ET} {n : Nat}
def ClInj (G : Gt) (E : ET) : Prop := ∀ c d, (E.lookup c).isSome = true → (E.lookup d).isSome = true → G.cl c = G.cl d → c = d
theorem tyNe {a b : Value} (h : a = b) (hne : (a == b) = false := by rfl) : False := by
  subst h
  rw [beq_self_eq_true] at hne
  cases hne
theorem cls_tup {pins : List (Addr × Obj)} {σ : St} {H : Hp} {s : Shared} (I : Inv X pins σ H s) {a : Addr} {vs : List V} (e : SqT X.K H a vs) : ∃ o, s.heap.get? a = some o ∧ o.cls = .type "tuple" := by
  obtain ⟨its, rv, ⟨o, ho, hc, _⟩, _⟩ := I.tuple e
  exact ⟨o, ho, hc⟩
theorem cls_lst {pins : List (Addr × Obj)} {σ : St} {H : Hp} {s : Shared} (I : Inv X pins σ H s) {a : Addr} {vs : List V} (e : SqL X.K H a vs) : ∃ o, s.heap.get? a = some o ∧ o.cls = .type "list" := by
  obtain ⟨its, rv, ⟨o, m, ho, hc, _⟩, _⟩ := I.list e
  exact ⟨o, ho, hc⟩
theorem cls_obj {pins : List (Addr × Obj)} {σ : St} {H : Hp} {s : Shared} (I : Inv X pins σ H s) {a C dx : Addr} {gs : List (Str × V)} (e : H a = some (.ins C dx gs)) : ∃ o, s.heap.get? a = some o ∧ o.cls = .ref C := by
  obtain ⟨mA, O, _⟩ := ins_get I.hok e
  obtain ⟨od, J, _⟩ := O.look
  exact ⟨_, J.at_, J.cls⟩
theorem tup_fn {pins : List (Addr × Obj)} {σ : St} {H : Hp} {s : Shared} (I : Inv X pins σ H s) {a : Addr} {vs us : List V} (e : SqT X.K H a vs) (f : SqT X.K H a us) : vs = us := by
  obtain ⟨its, rv, ⟨o, ho, hc, m, hd⟩, _⟩ := I.tuple e
  obtain ⟨its2, rv2, ⟨o2, ho2, hc2, m2, hd2⟩, _⟩ := I.tuple f
  rw [ho] at ho2
  cases ho2
  rw [hd] at hd2
  injection hd2 with h1 h2
  have h3 : its = its2 := by simpa using h1
  subst h3
  exact Vals.inj rv rv2
theorem lst_fn {pins : List (Addr × Obj)} {σ : St} {H : Hp} {s : Shared} (I : Inv X pins σ H s) {a : Addr} {vs us : List V} (e : SqL X.K H a vs) (f : SqL X.K H a us) : vs = us := by
  obtain ⟨its, rv, ⟨o, m, ho, hc, _, hd⟩, _⟩ := I.list e
  obtain ⟨its2, rv2, ⟨o2, m2, ho2, hc2, _, hd2⟩, _⟩ := I.list f
  rw [ho] at ho2
  cases ho2
  rw [hd] at hd2
  injection hd2 with h1 h2
  have h3 : its = its2 := by simpa using h1
  subst h3
  exact Vals.inj rv rv2
theorem zall_self {f : W → W → Option Bool} {K : PySem.W.Frag} {ι : Nat → Addr} {h : Hz} {H : Hp} (hf : ∀ x y v k, Rep K G ι h H x v → Rep K G ι h H y v → f x y = some k → k = true) : ∀ {xs ys : List W} {vs : List V} {k : Bool}, Reps K G ι h H xs vs → Reps K G ι h H ys vs → zall f xs ys = some k → k = true
  | _, _, _, k, .nil, .nil, e => by simp [zall] at e; exact e
  | x :: xs, y :: ys, _, k, .cons p ps, .cons q qs, e => by
    unfold zall at e
    cases e1 : f x y with
    | none => rw [e1] at e; cases e
    | some a =>
      rw [e1] at e
      cases e2 : zall f xs ys with
      | none => rw [e2] at e; cases e
      | some b =>
        rw [e2] at e
        cases e
        rw [hf x y _ a p q e1, zall_self hf ps qs e2]
        rfl
theorem zflds_self {f : W → W → Option Bool} {ι : Nat → Addr} {h : Hz} {H : Hp} (nj : NmInj G) (hf : ∀ x y v k, Rep X.K G ι h H x v → Rep X.K G ι h H y v → f x y = some k → k = true) {fs fs' : List (Nat × W)} {gs : List (Str × V)} (r1 : RepF X.K G ι h H fs gs) (r2 : RepF X.K G ι h H fs' gs) :
    ∀ {ks : List Nat} {k : Bool}, zflds f fs fs' ks = some k → k = true
  | [], k, e => by simp [zflds] at e; exact e
  | m :: ks, k, e => by
    unfold zflds at e
    cases e1 : fs.lookup m with
    | none => rw [e1] at e; cases e
    | some a =>
      cases e2 : fs'.lookup m with
      | none => rw [e1, e2] at e; cases e
      | some b =>
        rw [e1, e2] at e
        obtain ⟨v, l1, p1⟩ := r1.look nj e1
        obtain ⟨v', l2, p2⟩ := r2.look nj e2
        rw [l1] at l2
        cases l2
        cases e3 : f a b with
        | none => simp only [e3] at e; cases e
        | some p =>
          simp only [e3] at e
          cases e4 : zflds f fs fs' ks with
          | none => rw [e4] at e; cases e
          | some q =>
            rw [e4] at e
            cases e
            rw [hf a b v p p1 p2 e3, zflds_self nj hf r1 r2 e4]
            rfl
theorem zeq_self {pins : List (Addr × Obj)} {σ : St} {ι : Nat → Addr} {h : Hz} {H : Hp} {s : Shared} (nj : NmInj G) (cj : ClInj G E) (I : Inv X pins σ H s) (r : HRep X.K G ι h H) : ∀ (n : Nat) (x y : W) (v : V) (k : Bool), Rep X.K G ι h H x v → Rep X.K G ι h H y v → zeq E h n x y = some k → k = true
  | 0, _, _, _, _, _, _, e => by cases e
  | n + 1, x, y, v, k, p1, p2, e => by
    have hf := zeq_self nj cj I r n
    have e' : zeqK E (zeq E h n) (kind h x) (kind h y) = some k := e
    have q1 := kind_at r p1
    have q2 := kind_at r p2
    generalize kind h x = kx at e' q1
    generalize kind h y = ky at e' q2
    cases q1 with
    | non => cases q2 <;> simp [zeqK] at e' <;> exact e'
    | bl b => cases q2 <;> simp [zeqK] at e' <;> exact e'
    | int i => cases q2 <;> simp [zeqK] at e' <;> exact e'
    | str z =>
      generalize hv : V.str (S z) = v' at q2
      cases q2 with
      | str z' =>
        have hz : z = z' := by
          have h1 : S z = S z' := by injection hv
          have h2 := congrArg (fun t : Str => t.cps.toList) h1
          simpa using h2
        subst hz
        simp only [zeqK, eqN_eq] at e'
        simpa using e'.symm
      | no => simp [zeqK] at e'
      | _ => cases hv
    | tup sa ra =>
      cases q2 with
      | tup sb rb =>
        cases tup_fn I sa sb
        exact zall_self hf ra rb e'
      | lst sb rb =>
        obtain ⟨o, h1, h2⟩ := cls_tup I sa
        obtain ⟨o', h3, h4⟩ := cls_lst I sb
        rw [h1] at h3; cases h3; rw [h2] at h4; exact (tyNe h4).elim
      | obj ea ra => simp [zeqK] at e'
      | no => simp [zeqK] at e'
    | lst sa ra =>
      cases q2 with
      | lst sb rb =>
        cases lst_fn I sa sb
        exact zall_self hf ra rb e'
      | tup sb rb =>
        obtain ⟨o, h1, h2⟩ := cls_lst I sa
        obtain ⟨o', h3, h4⟩ := cls_tup I sb
        rw [h1] at h3; cases h3; rw [h2] at h4; exact (tyNe h4).elim
      | obj ea ra => simp [zeqK] at e'
      | no => simp [zeqK] at e'
    | @obj c fs a dx gs ea rf =>
      replace e' : zeqO E (zeq E h n) c fs ky = some k := e'
      unfold zeqO at e'
      cases ec : E.lookup c with
      | none => rw [ec] at e'; cases e'
      | some ks =>
        rw [ec] at e'
        cases q2 with
        | @obj d fs' _ dx' gs' eb rf' =>
          rw [ea] at eb
          injection eb with eb
          injection eb with e1 e2 e3
          subst e3
          have e'' : (if c = d then zflds (zeq E h n) fs fs' ks else (E.lookup d).map fun _ => false) = some k := e'
          by_cases hcd : c = d
          · rw [if_pos hcd] at e''
            exact zflds_self nj hf rf rf' e''
          · rw [if_neg hcd] at e''
            cases ed : E.lookup d with
            | none => rw [ed] at e''; cases e''
            | some kd => exact absurd (cj c d (by rw [ec]; rfl) (by rw [ed]; rfl) e1) hcd
        | tup sb rb =>
          obtain ⟨o, h1, h2⟩ := cls_obj I ea
          obtain ⟨o', h3, h4⟩ := cls_tup I sb
          rw [h1] at h3; cases h3; rw [h2] at h4; exact (tyNe h4).elim
        | lst sb rb =>
          obtain ⟨o, h1, h2⟩ := cls_obj I ea
          obtain ⟨o', h3, h4⟩ := cls_lst I sb
          rw [h1] at h3; cases h3; rw [h2] at h4; exact (tyNe h4).elim
        | no => cases e'
    | no => simp [zeqK] at e'
theorem rel_fn {v v' : V} {u : Value} (h1 : RelV v u) (h2 : RelV v' u) : v = v' := by
  have q : Vals [v] [u] := .cons h1 .nil
  have q' : Vals [v'] [u] := .cons h2 .nil
  have := Vals.inj q q'
  injection this
theorem rep_noflt {K : PySem.W.Frag} {ι : Nat → Addr} {h : Hz} {H : Hp} {w : W} {v : V} (p : Rep K G ι h H w v) (b : UInt64) : v ≠ .flt b := by
  cases p <;> exact fun z => nomatch z
theorem eqB_of (nj : NmInj G) (cj : ClInj G E) (es : EqS X G E n) : EqB X G E n := by
  intro A pins s σ H ι h x y v1 v2 u1 u2 k sb I r p1 p2 r1 r2 e
  unfold eqBool
  refine wpAny_holding ?_
  refine wpAny_ite_split (fun hab => ?_) (fun hab => ?_)
  · have e1 : u1 = u2 := eq_of_beq hab
    subst e1
    cases rel_fn r1 r2
    have hk := zeq_self nj cj I r n x y v1 k p1 p2 e
    exact wpAny_bind (wpAny_rule (wpAny_pure ⟨hk.symm, EqOut.same I r⟩))
  · have go : wpAny (model X.prog X.w) A (do truthOfDropped (← richCompare .Eq u1 u2)) (fun r s' => r = k ∧ EqOut X G pins σ ι h H s') X.xe s := by
      refine wpAny_bind (wpAny_mono (es A pins s σ H ι h x y v1 v2 u1 u2 k sb I r p1 p2 r1 r2 e) (fun v s' hv => ?_) fun _ _ x => x)
      obtain ⟨rfl, q⟩ := hv
      exact wpAny_truthy_bool ⟨rfl, q⟩
    have nf : ∀ b t, u1 ≠ .float b t := fun b t z => by
      subst z
      cases v1 <;> first | exact rep_noflt p1 _ rfl | (obtain ⟨t', q⟩ := r1; cases q) | cases r1
    cases u1 <;> first | exact go | exact absurd rfl (nf _ _)
end
end Z

namespace Z
open PySem PySem.SeqAt L2
open PyProof.Rows hiding St

section
variable {X : Cx} {G : Gt} {E : ET} {n : Nat}
theorem b2z_if (b : Bool) : (if b = true then (1 : Int) else 0) = b2z b := by cases b <;> rfl
theorem int_beq (i j : Int) : (i == j) = decide (i = j) := by
  by_cases c : i = j
  · subst c; simp
  · rw [decide_eq_false c]; exact beq_eq_false_iff_ne.mpr c
theorem str_eqN (s t : List Nat) : (S s == S t) = eqN s t := by
  rw [eqN_eq]
  by_cases c : s = t
  · subst c; simp
  · rw [decide_eq_false c]
    refine beq_eq_false_iff_ne.mpr fun z => c ?_
    have h2 := congrArg (fun t : Str => t.cps.toList) z
    simpa using h2
theorem eqS_step (eb : EqB X G E n) (ow : OwnS X G E n) : EqS X G E (n + 1) := by
  intro A pins s σ H ι h x y v1 v2 u1 u2 k sb I r p1 p2 r1 r2 e
  have hu : A.units < cLine := sb.room.units0
  have e0 : zeqK E (zeq E h n) (kind h x) (kind h y) = some k := e
  have q1 := kind_at r p1
  have q2 := kind_at r p2
  have same : ∀ {k' : Bool}, k' = k → (fun (r : Value) s' => r = .bool k ∧ EqOut X G pins σ ι h H s') (.bool k') s := fun hk => ⟨by rw [hk], EqOut.same I r⟩
  cases kx : kind h x with
  | no => rw [kx] at e0; simp [zeqK] at e0
  | obj c fs =>
    rw [kx] at e0 q1
    have hc : ∃ ks, E.lookup c = some ks := by
      have e' : zeqO E (zeq E h n) c fs (kind h y) = some k := e0
      unfold zeqO at e'
      cases ec : E.lookup c with
      | none => rw [ec] at e'; cases e'
      | some ks => exact ⟨ks, rfl⟩
    obtain ⟨ks, ec⟩ := hc
    obtain ⟨cl, nf, f, hs, hf, run⟩ := ow c ks ec
    cases q1 with
    | @obj _ _ a dx gs ea rf =>
      have r1' := r1
      cases (show u1 = Value.ref a from r1)
      obtain ⟨mA, O, _⟩ := ins_get I.hok ea
      obtain ⟨od, J, _⟩ := O.look
      obtain ⟨m, hF⟩ := I.fr
      have go : ∀ tb, PySem.W.Looks (model X.prog X.w) s.heap (typeOf u2) tb → PySem.W.notFirst X.K (G.cl c) tb = true → wpAny (model X.prog X.w) A (richCompare .Eq (.ref a) u2) (fun r s' => r = .bool k ∧ EqOut X G pins σ ι h H s') X.xe s := fun tb hb hn =>
        PySem.W.cmp_K (op := .Eq) (tb := tb) hu hF I.ok.mod.kin J hb hn hs hf (wpAny_mono (run A pins s σ H ι h x y _ v2 _ u2 k fs sb I r p1 p2 r1' r2 kx e0) (fun v s' hv => by
          obtain ⟨rfl, q⟩ := hv
          exact ⟨rfl, q⟩) fun _ _ z => z)
      cases ky : kind h y with
      | no =>
        rw [ky] at e0
        have e' : zeqO E (zeq E h n) c fs .no = some k := e0
        unfold zeqO at e'
        rw [ec] at e'
        cases e'
      | obj d gs' =>
        rw [ky] at q2 e0
        have hd : (E.lookup d).isSome = true := by
          have e' : zeqO E (zeq E h n) c fs (.obj d gs') = some k := e0
          unfold zeqO at e'
          rw [ec] at e'
          have e'' : (if c = d then zflds (zeq E h n) fs gs' ks else (E.lookup d).map fun _ => false) = some k := e'
          by_cases hcd : c = d
          · subst hcd; rw [ec]; rfl
          · rw [if_neg hcd] at e''
            cases ed : E.lookup d with
            | none => rw [ed] at e''; cases e''
            | some _ => rfl
        cases q2 with
        | @obj _ _ a2 dx2 gs2 ea2 rf2 =>
          cases (show u2 = Value.ref a2 from r2)
          obtain ⟨mA2, O2, _⟩ := ins_get I.hok ea2
          obtain ⟨od2, J2, _⟩ := O2.look
          exact go _ J2.type (nf d hd)
      | _ =>
        rw [ky] at q2
        obtain ⟨T, l1, l2⟩ := type_looks I q2 r2 (fun _ _ z => nomatch z) (fun z => nomatch z) (G.cl c)
        exact go _ l1 l2
  | non =>
    rw [kx] at e0 q1
    cases q1
    cases (show u1 = Value.none from r1)
    cases ky : kind h y with
    | non =>
      rw [ky] at e0 q2; cases q2; cases (show u2 = Value.none from r2)
      simp only [zeqK, Option.some.injEq] at e0
      exact RcAt.none_none X.prog X.w X.xe _ (same e0)
    | bl b =>
      rw [ky] at e0 q2; cases q2; cases (show u2 = Value.bool b from r2)
      simp only [zeqK, Option.some.injEq] at e0
      exact RcAt.none_bool b X.prog X.w X.xe _ (same e0)
    | int j =>
      rw [ky] at e0 q2; cases q2; obtain ⟨t, rfl⟩ := r2
      simp only [zeqK, Option.some.injEq] at e0
      exact RcAt.none_int j t X.prog X.w X.xe _ (same e0)
    | str z =>
      rw [ky] at e0 q2; cases q2; obtain ⟨t, rfl⟩ := r2
      simp only [zeqK, Option.some.injEq] at e0
      exact RcAt.none_str _ t X.prog X.w X.xe _ (same e0)
    | tup ws =>
      rw [ky] at e0 q2
      cases q2 with
      | @tup _ a2 vs e2 rs =>
        cases (show u2 = Value.ref a2 from r2)
        obtain ⟨its, rv, ht, _⟩ := I.tuple e2
        simp only [zeqK, Option.some.injEq] at e0
        exact RcAt.none_tuple ht hu X.prog X.w X.xe _ (same e0)
    | lst ws =>
      rw [ky] at e0 q2
      cases q2 with
      | @lst _ a2 vs e2 rs =>
        cases (show u2 = Value.ref a2 from r2)
        obtain ⟨its, rv, ht, _⟩ := I.list e2
        simp only [zeqK, Option.some.injEq] at e0
        exact RcAt.none_list ht.isList hu X.prog X.w X.xe _ (same e0)
    | obj d gs => rw [ky] at e0; simp [zeqK] at e0
    | no => rw [ky] at e0; simp [zeqK] at e0
  | bl b =>
    rw [kx] at e0 q1
    cases q1
    cases (show u1 = Value.bool b from r1)
    cases ky : kind h y with
    | non =>
      rw [ky] at e0 q2; cases q2; cases (show u2 = Value.none from r2)
      simp only [zeqK, Option.some.injEq] at e0
      exact RcAt.bool_none b X.prog X.w X.xe _ (same e0)
    | bl c =>
      rw [ky] at e0 q2; cases q2; cases (show u2 = Value.bool c from r2)
      simp only [zeqK, Option.some.injEq] at e0
      exact RcAt.bool_bool b c X.prog X.w X.xe _ (same e0)
    | int j =>
      rw [ky] at e0 q2; cases q2; obtain ⟨t, rfl⟩ := r2
      simp only [zeqK, Option.some.injEq] at e0
      refine RcAt.bool_int b j t X.prog X.w X.xe _ (same ?_)
      rw [b2z_if, int_beq]; exact e0
    | str z =>
      rw [ky] at e0 q2; cases q2; obtain ⟨t, rfl⟩ := r2
      simp only [zeqK, Option.some.injEq] at e0
      exact RcAt.bool_str b _ t X.prog X.w X.xe _ (same e0)
    | tup ws =>
      rw [ky] at e0 q2
      cases q2 with
      | @tup _ a2 vs e2 rs =>
        cases (show u2 = Value.ref a2 from r2)
        obtain ⟨its, rv, ht, _⟩ := I.tuple e2
        simp only [zeqK, Option.some.injEq] at e0
        exact RcAt.bool_tuple b ht hu X.prog X.w X.xe _ (same e0)
    | lst ws =>
      rw [ky] at e0 q2
      cases q2 with
      | @lst _ a2 vs e2 rs =>
        cases (show u2 = Value.ref a2 from r2)
        obtain ⟨its, rv, ht, _⟩ := I.list e2
        simp only [zeqK, Option.some.injEq] at e0
        exact RcAt.bool_list b ht.isList hu X.prog X.w X.xe _ (same e0)
    | obj d gs => rw [ky] at e0; simp [zeqK] at e0
    | no => rw [ky] at e0; simp [zeqK] at e0
  | int i =>
    rw [kx] at e0 q1
    cases q1
    obtain ⟨t1, rfl⟩ := r1
    cases ky : kind h y with
    | non =>
      rw [ky] at e0 q2; cases q2; cases (show u2 = Value.none from r2)
      simp only [zeqK, Option.some.injEq] at e0
      exact RcAt.int_none i t1 X.prog X.w X.xe _ (same e0)
    | bl c =>
      rw [ky] at e0 q2; cases q2; cases (show u2 = Value.bool c from r2)
      simp only [zeqK, Option.some.injEq] at e0
      refine RcAt.int_bool i t1 c X.prog X.w X.xe _ (same ?_)
      rw [b2z_if, int_beq]; exact e0
    | int j =>
      rw [ky] at e0 q2; cases q2; obtain ⟨t, rfl⟩ := r2
      simp only [zeqK, Option.some.injEq] at e0
      refine RcAt.int_int i t1 j t X.prog X.w X.xe _ (same ?_)
      rw [int_beq]; exact e0
    | str z =>
      rw [ky] at e0 q2; cases q2; obtain ⟨t, rfl⟩ := r2
      simp only [zeqK, Option.some.injEq] at e0
      exact RcAt.int_str i t1 _ t X.prog X.w X.xe _ (same e0)
    | tup ws =>
      rw [ky] at e0 q2
      cases q2 with
      | @tup _ a2 vs e2 rs =>
        cases (show u2 = Value.ref a2 from r2)
        obtain ⟨its, rv, ht, _⟩ := I.tuple e2
        simp only [zeqK, Option.some.injEq] at e0
        exact RcAt.int_tuple i t1 ht hu X.prog X.w X.xe _ (same e0)
    | lst ws =>
      rw [ky] at e0 q2
      cases q2 with
      | @lst _ a2 vs e2 rs =>
        cases (show u2 = Value.ref a2 from r2)
        obtain ⟨its, rv, ht, _⟩ := I.list e2
        simp only [zeqK, Option.some.injEq] at e0
        exact RcAt.int_list i t1 ht.isList hu X.prog X.w X.xe _ (same e0)
    | obj d gs => rw [ky] at e0; simp [zeqK] at e0
    | no => rw [ky] at e0; simp [zeqK] at e0
  | str z =>
    rw [kx] at e0 q1
    generalize hv : v1 = v' at q1
    cases q1
    subst hv
    obtain ⟨t1, rfl⟩ := r1
    cases ky : kind h y with
    | non =>
      rw [ky] at e0 q2; cases q2; cases (show u2 = Value.none from r2)
      simp only [zeqK, Option.some.injEq] at e0
      exact RcAt.str_none _ t1 X.prog X.w X.xe _ (same e0)
    | bl c =>
      rw [ky] at e0 q2; cases q2; cases (show u2 = Value.bool c from r2)
      simp only [zeqK, Option.some.injEq] at e0
      exact RcAt.str_bool _ t1 c X.prog X.w X.xe _ (same e0)
    | int j =>
      rw [ky] at e0 q2; cases q2; obtain ⟨t, rfl⟩ := r2
      simp only [zeqK, Option.some.injEq] at e0
      exact RcAt.str_int _ t1 j t X.prog X.w X.xe _ (same e0)
    | str z2 =>
      rw [ky] at e0 q2; cases q2; obtain ⟨t, rfl⟩ := r2
      simp only [zeqK, Option.some.injEq] at e0
      refine RcAt.str_str _ t1 _ t X.prog X.w X.xe _ (same ?_)
      rw [str_eqN]; exact e0
    | tup ws =>
      rw [ky] at e0 q2
      cases q2 with
      | @tup _ a2 vs e2 rs =>
        cases (show u2 = Value.ref a2 from r2)
        obtain ⟨its, rv, ht, _⟩ := I.tuple e2
        simp only [zeqK, Option.some.injEq] at e0
        exact RcAt.str_tuple _ t1 ht hu X.prog X.w X.xe _ (same e0)
    | lst ws =>
      rw [ky] at e0 q2
      cases q2 with
      | @lst _ a2 vs e2 rs =>
        cases (show u2 = Value.ref a2 from r2)
        obtain ⟨its, rv, ht, _⟩ := I.list e2
        simp only [zeqK, Option.some.injEq] at e0
        exact RcAt.str_list _ t1 ht.isList hu X.prog X.w X.xe _ (same e0)
    | obj d gs => rw [ky] at e0; simp [zeqK] at e0
    | no => rw [ky] at e0; simp [zeqK] at e0
  | tup ws =>
    rw [kx] at e0 q1
    cases q1 with
    | @tup _ a1 vs1 e1 rs1 =>
      cases (show u1 = Value.ref a1 from r1)
      obtain ⟨its1, rv1, ht1, _⟩ := I.tuple e1
      cases ky : kind h y with
      | non =>
        rw [ky] at e0 q2; cases q2; cases (show u2 = Value.none from r2)
        simp only [zeqK, Option.some.injEq] at e0
        exact RcAt.tuple_none ht1 hu X.prog X.w X.xe _ (same e0)
      | bl c =>
        rw [ky] at e0 q2; cases q2; cases (show u2 = Value.bool c from r2)
        simp only [zeqK, Option.some.injEq] at e0
        exact RcAt.tuple_bool c ht1 hu X.prog X.w X.xe _ (same e0)
      | int j =>
        rw [ky] at e0 q2; cases q2; obtain ⟨t, rfl⟩ := r2
        simp only [zeqK, Option.some.injEq] at e0
        exact RcAt.tuple_int j t ht1 hu X.prog X.w X.xe _ (same e0)
      | str z2 =>
        rw [ky] at e0 q2; cases q2; obtain ⟨t, rfl⟩ := r2
        simp only [zeqK, Option.some.injEq] at e0
        exact RcAt.tuple_str _ t ht1 hu X.prog X.w X.xe _ (same e0)
      | lst ws2 =>
        rw [ky] at e0 q2
        cases q2 with
        | @lst _ a2 vs e2 rs =>
          cases (show u2 = Value.ref a2 from r2)
          obtain ⟨its, rv, ht, _⟩ := I.list e2
          simp only [zeqK, Option.some.injEq] at e0
          exact RcAt.tuple_list ht1 ht.isList hu X.prog X.w X.xe _ (same e0)
      | tup ws2 =>
        rw [ky] at e0 q2
        cases q2 with
        | @tup _ a2 vs2 e2 rs2 =>
          cases (show u2 = Value.ref a2 from r2)
          obtain ⟨its2, rv2, ht2, _⟩ := I.tuple e2
          obtain ⟨ef, g1, g2⟩ := zall_get (show zall (zeq E h n) ws ws2 = some k from e0)
          refine rc_tupB (e := ef) hu (fun s' => EqOut X G pins σ ι h H s') ht1 ht2 (fun i h1 h2 s' ⟨H', I', n'⟩ => ?_) (fun s' q => ⟨?_, q⟩) (EqOut.same I r)
          · obtain ⟨w1, z1, l1, m1, o1⟩ := rs1.paired rv1 i h1
            obtain ⟨w2, z2, l2, m2, o2⟩ := rs2.paired rv2 i h2
            refine wpAny_mono (eb A.in1 pins s' σ H' ι h w1 w2 z1 z2 _ _ (ef i) sb.in1 I' n'.rep (Rep.next r n'.toNx0 m1) (Rep.next r n'.toNx0 m2) o1 o2 (g1 i w1 w2 l1 l2)) (fun v s2 hv => ⟨hv.1, EqOut.trans n' hv.2⟩) fun _ _ z => z
          · rw [g2, List.size_toArray, List.size_toArray, rs1.length, rs2.length, rv1.length, rv2.length]
      | obj d gs => rw [ky] at e0; simp [zeqK] at e0
      | no => rw [ky] at e0; simp [zeqK] at e0
  | lst ws =>
    rw [kx] at e0 q1
    cases q1 with
    | @lst _ a1 vs1 e1 rs1 =>
      cases (show u1 = Value.ref a1 from r1)
      obtain ⟨its1, rv1, ht1, _⟩ := I.list e1
      cases ky : kind h y with
      | non =>
        rw [ky] at e0 q2; cases q2; cases (show u2 = Value.none from r2)
        simp only [zeqK, Option.some.injEq] at e0
        exact RcAt.list_none ht1.isList hu X.prog X.w X.xe _ (same e0)
      | bl c =>
        rw [ky] at e0 q2; cases q2; cases (show u2 = Value.bool c from r2)
        simp only [zeqK, Option.some.injEq] at e0
        exact RcAt.list_bool c ht1.isList hu X.prog X.w X.xe _ (same e0)
      | int j =>
        rw [ky] at e0 q2; cases q2; obtain ⟨t, rfl⟩ := r2
        simp only [zeqK, Option.some.injEq] at e0
        exact RcAt.list_int j t ht1.isList hu X.prog X.w X.xe _ (same e0)
      | str z2 =>
        rw [ky] at e0 q2; cases q2; obtain ⟨t, rfl⟩ := r2
        simp only [zeqK, Option.some.injEq] at e0
        exact RcAt.list_str _ t ht1.isList hu X.prog X.w X.xe _ (same e0)
      | tup ws2 =>
        rw [ky] at e0 q2
        cases q2 with
        | @tup _ a2 vs e2 rs =>
          cases (show u2 = Value.ref a2 from r2)
          obtain ⟨its, rv, ht, _⟩ := I.tuple e2
          simp only [zeqK, Option.some.injEq] at e0
          exact RcAt.list_tuple ht1.isList ht hu X.prog X.w X.xe _ (same e0)
      | lst ws2 =>
        rw [ky] at e0 q2
        cases q2 with
        | @lst _ a2 vs2 e2 rs2 =>
          have p2' := p2
          cases (show u2 = Value.ref a2 from r2)
          obtain ⟨its2, rv2, ht2, _⟩ := I.list e2
          obtain ⟨ef, g1, g2⟩ := zall_get (show zall (zeq E h n) ws ws2 = some k from e0)
          by_cases hl : ws.length = ws2.length
          · refine rc_listB (N := ws.length) (e := ef) hu (fun s' => EqOut X G pins σ ι h H s') (fun s' q => ?_) (fun s' q => ⟨?_, q⟩) (EqOut.same I r)
            · obtain ⟨H', I', n'⟩ := q
              obtain ⟨vs3, its3, m3, dd3, sl3, o3, rv3, rs3⟩ := list_again r p1 kx I' n'
              obtain ⟨vs4, its4, m4, dd4, sl4, o4, rv4, rs4⟩ := list_again r p2' ky I' n'
              refine ⟨_, m3, dd3, sl3, o3, by rw [List.size_toArray, rs3.length, rv3.length], _, m4, dd4, sl4, o4, by rw [List.size_toArray, hl, rs4.length, rv4.length], fun i h1 h2 => ?_⟩
              obtain ⟨w1, z1, l1, m1, o1⟩ := rs3.paired rv3 i h1
              obtain ⟨w2, z2, l2, m2, o2⟩ := rs4.paired rv4 i h2
              refine wpAny_mono (eb A.in1 pins s' σ H' ι h w1 w2 z1 z2 _ _ (ef i) sb.in1 I' n'.rep m1 m2 o1 o2 (g1 i w1 w2 l1 l2)) (fun v s2 hv => ⟨hv.1, EqOut.trans n' hv.2⟩) fun _ _ z => z
            · rw [g2, ← hl, Nat.min_self]
              simp
          · refine RcAt.lists_lengths ht1.isList ht2.isList ?_ hu X.prog X.w X.xe _ (same ?_)
            · rw [List.size_toArray, List.size_toArray, ← rv1.length, ← rv2.length, ← rs1.length, ← rs2.length]
              simpa using hl
            · rw [g2]
              simp [hl]
      | obj d gs => rw [ky] at e0; simp [zeqK] at e0
      | no => rw [ky] at e0; simp [zeqK] at e0
theorem eqS_zero : EqS X G E 0 := by
  intro A pins s σ H ι h x y v1 v2 u1 u2 k sb I r p1 p2 r1 r2 e
  cases e
end
end Z

namespace Z
open PySem PySem.SeqAt L2
open AutoSeq1 (wpAny_loadPart')
open MeetsSeq MeetsSeq2 MeetsSeq3 SeqRoads2
section
variable {prog : Program} {w : World} {A : Around} {R : Result → Shared → Prop}
theorem ne_loopB (l b : Addr) (N : Nat) (e : Nat → Bool) (J : Shared → Prop)
    (hl : ∀ s, J s → LsAt s.heap l N fun its => LsAt s.heap b N fun its2 => ∀ i (h1 : i < its.size) (h2 : i < its2.size), wpAny (model prog w) A.in1 (eqBool its[i] its2[i]) (fun r s' => r = e i ∧ J s') (fun x s' => R (.error x) s') s)
    (k : Nat) : ∀ i : Nat, N - i = k → i ≤ N → (∀ s, J s → R (.ok (.ret (.bool (!((List.range N).drop i).all e)))) s) → ∀ s, J s →
      wpAny (model prog w) A.in1 (Builtin.«list.__eq__.loop» ⟨[.ref l, .ref b, rawInt i, rawInt 3], []⟩) (GQ.FinOf prog w A R) (fun x s' => R (.error x) s') s := by
  induction k with
  | zero =>
    intro i hk hi fin s h
    obtain ⟨its, n, dd, sl, g1, z1, its2, n2, dd2, sl2, g2, z2, _⟩ := hl s h
    have e0 : i = N := by omega
    have hR := fin s h
    rw [e0, List.drop_of_length_le (by simp)] at hR
    obtain ⟨hp, g, d, tk, os⟩ := s
    wp_walk using wpAny_loadPart' g1, wpAny_loadPart' g2
    have i1 : its[((i : Nat) : Int).toNat]? = none := by simp; omega
    have i2 : its2[((i : Nat) : Int).toNat]? = none := by simp; omega
    rw [i1, i2]
    wp_walk using wpAny_loadPart' g1, wpAny_loadPart' g2
    show R (.ok (.ret (.bool (its.size != its2.size)))) _
    rw [z1, z2]
    simpa using hR
  | succ k ih =>
    intro i hk hi fin s h
    obtain ⟨its, n, dd, sl, g1, z1, its2, n2, dd2, sl2, g2, z2, turn⟩ := hl s h
    have l1 : i < its.size := by omega
    have l2 : i < its2.size := by omega
    have ht := turn i l1 l2
    have hd : (List.range N).drop i = i :: (List.range N).drop (i + 1) := by
      rw [List.drop_eq_getElem_cons (by simp; omega)]; simp
    rw [hd, List.all_cons] at fin
    obtain ⟨hp, g, d, tk, os⟩ := s
    wp_walk using wpAny_loadPart' g1, wpAny_loadPart' g2
    have i1 : its[((i : Nat) : Int).toNat]? = some its[i] := by simp [l1]
    have i2 : its2[((i : Nat) : Int).toNat]? = some its2[i] := by simp [l2]
    have hc : ((i : Int) + 1) = ((i + 1 : Nat) : Int) := by omega
    rw [i1, i2]
    refine wpAny_bind (wpAny_mono ht (fun r s2 h2 => ?_) fun _ _ x => x)
    obtain ⟨hr, h2⟩ := h2
    subst hr
    cases he : e i with
    | true =>
      rw [he] at fin
      have hrec := ih (i + 1) (by omega) (by omega) (by simpa using fin) s2 h2
      obtain ⟨hp2, g3, d2, tk2, os2⟩ := s2
      wp_walk
      rw [hc]
      exact ⟨plainId_quiet plain_eq_loop _, codeAny_builtin entry_eq_loop (by
        rw [Around.under_plainId plain_eq_loop _]; exact hrec)⟩
    | false =>
      rw [he] at fin
      have hR := fin s2 h2
      obtain ⟨jts, k1, dd3, sl3, g4, z3, jts2, k2, dd4, sl4, g5, z4, _⟩ := hl s2 h2
      obtain ⟨hp2, g3, d2, tk2, os2⟩ := s2
      wp_walk using wpAny_loadPart' g4, wpAny_loadPart' g5
      have j1 : jts[((i : Nat) : Int).toNat]? = some (jts[i]'(by omega)) := by simp
      have j2 : jts2[((i : Nat) : Int).toNat]? = some (jts2[i]'(by omega)) := by simp
      rw [j1, j2]
      wp_walk
      simpa using hR
theorem list_neB (l b : Addr) (N : Nat) (e : Nat → Bool) (J : Shared → Prop)
    (hl : ∀ s, J s → LsAt s.heap l N fun its => LsAt s.heap b N fun its2 => ∀ i (h1 : i < its.size) (h2 : i < its2.size), wpAny (model prog w) A.in1 (eqBool its[i] its2[i]) (fun r s' => r = e i ∧ J s') (fun x s' => R (.error x) s') s)
    (fin : ∀ s, J s → R (.ok (.ret (.bool (!(List.range N).all e)))) s) {s : Shared} (h : J s) :
    wpAny (model prog w) A.in1 (Builtin.«list.__ne__» ⟨[.ref l, .ref b], []⟩) (GQ.FinOf prog w A R) (fun x s' => R (.error x) s') s := by
  obtain ⟨its, n, dd, sl, g1, z1, its2, n2, dd2, sl2, g2, z2, _⟩ := hl s h
  have hrec := ne_loopB (A := A) (R := R) l b N e J hl _ 0 rfl (Nat.zero_le _) (by simpa using fin) s h
  obtain ⟨hp, g, d, tk, os⟩ := s
  have f3 := AutoSeq1.sub_list_list
  have hne : ¬ (its.size != its2.size) = true := by simp [z1, z2]
  wp_walk using wpAny_loadPart' g1, wpAny_loadPart' g2
  exact ⟨plainId_quiet plain_eq_loop _, codeAny_builtin entry_eq_loop (by
    rw [Around.under_plainId plain_eq_loop _]; exact hrec)⟩
theorem tuple_neB (l b : Addr) (items items2 : Array Value) (n n2 : Nat) (dd dd2 : Option Addr) (sl sl2 : Array (Option Value)) (e : Nat → Bool) (J : Shared → Prop)
    (turn : ∀ i (h1 : i < items.size) (h2 : i < items2.size) s, J s → wpAny (model prog w) A.in1 (eqBool items[i] items2[i]) (fun r s' => r = e i ∧ J s') (fun x s' => R (.error x) s') s)
    (fin : ∀ s, J s → R (.ok (.ret (.bool (!((List.range (min items.size items2.size)).all e && items.size == items2.size))))) s) {s : Shared} (g1 : s.heap.get? l = some (tpO items n dd sl)) (g2 : s.heap.get? b = some (tpO items2 n2 dd2 sl2)) (h : J s) :
    wpAny (model prog w) A.in1 (Builtin.«tuple.__ne__» ⟨[.ref l, .ref b], []⟩) (GQ.FinOf prog w A R) (fun x s' => R (.error x) s') s := by
  have f2 := AutoSeq1.sub_tuple_tuple
  have hZ : (items.toList.zip items2.toList).length = min items.size items2.size := by simp
  have h0 := h
  obtain ⟨hp, g, d, tk, os⟩ := s
  wp_walk using wpAny_loadPart' g1, wpAny_loadPart' g2, wpAny_forIn_list _ (fun rest b s' => b.1 = none ∧ J s' ∧ ∃ i, rest = (items.toList.zip items2.toList).drop i ∧
    ∀ s, J s → R (.ok (.ret (.bool (!(((List.range (min items.size items2.size)).drop i).all e && items.size == items2.size))))) s) _
  case turn =>
    rintro ⟨y, x⟩ rest b s' ⟨hb', hJ, i, hz, hR⟩
    have hlt : i < (items.toList.zip items2.toList).length := by
      rcases Nat.lt_or_ge i (items.toList.zip items2.toList).length with h' | h'
      · exact h'
      · rw [List.drop_of_length_le h'] at hz; cases hz
    have hm : i < min items.size items2.size := hZ ▸ hlt
    have h1 : i < items.size := Nat.lt_of_lt_of_le hm (Nat.min_le_left _ _)
    have h2 : i < items2.size := Nat.lt_of_lt_of_le hm (Nat.min_le_right _ _)
    rw [List.drop_eq_getElem_cons hlt] at hz
    injection hz with hyx hrest
    have hy : y = items[i] := by have := congrArg Prod.fst hyx; simpa using this
    have hx : x = items2[i] := by have := congrArg Prod.snd hyx; simpa using this
    subst hy hx
    have hd : (List.range (min items.size items2.size)).drop i = i :: (List.range (min items.size items2.size)).drop (i + 1) := by simp [List.drop_eq_getElem_cons, hm]
    rw [hd, List.all_cons] at hR
    refine wpAny_bind (wpAny_mono (turn i h1 h2 s' hJ) (fun r s2 q2 => ?_) fun _ _ x => x)
    obtain ⟨hr, q2⟩ := q2
    subst hr
    cases hy : e i with
    | true =>
      rw [hy] at hR
      wp_walk
      exact ⟨rfl, q2, i + 1, hrest, by simpa using hR⟩
    | false =>
      rw [hy] at hR
      have hR2 := hR s2 q2
      wp_walk
      simpa using hR2
  case fin =>
    rintro ⟨b1, b2⟩ s' ⟨hb', hJ, i, hz, hR⟩
    simp only at hb'
    subst hb'
    have hge : min items.size items2.size ≤ i := by
      rcases Nat.lt_or_ge i (items.toList.zip items2.toList).length with h' | h'
      · rw [List.drop_eq_getElem_cons h'] at hz; cases hz
      · exact hZ ▸ h'
    have hR2 := hR s' hJ
    rw [List.drop_of_length_le (by simpa using hge)] at hR2
    wp_walk
    simpa [Builtin.Tuple.tupleCompareSizes, bne] using hR2
  case h =>
    exact ⟨rfl, h0, 0, rfl, by simpa using fin⟩

end
section
variable {prog : Program} {w : World} {A : Around} {E : Value → Shared → Prop} {s : Shared}
theorem rcn_listB {l b : Addr} {N : Nat} {e : Nat → Bool} {Q : Value → Shared → Prop} (hu : A.units < cLine) (J : Shared → Prop)
    (hl : ∀ s, J s → LsAt s.heap l N fun its => LsAt s.heap b N fun its2 => ∀ i (h1 : i < its.size) (h2 : i < its2.size), wpAny (model prog w) A.in1 (eqBool its[i] its2[i]) (fun r s' => r = e i ∧ J s') E s)
    (fin : ∀ s, J s → Q (.bool (!(List.range N).all e)) s) (h : J s) : wpAny (model prog w) A (richCompare .NotEq (.ref l) (.ref b)) Q E s := by
  obtain ⟨its, n, dd, sl, g1, z1, its2, n2, dd2, sl2, g2, z2, _⟩ := hl s h
  refine wpAny_richCompare_same_room (op := .NotEq) ⟨_, g1, rfl⟩ ⟨_, g2, rfl⟩ F.slot_list_ne (GQ.call_here F.slot_list_ne ⟨_, g1, rfl⟩ F.entry_list_ne (F.args_list_ne_2 _ _) ?_) hu
  exact list_neB (R := wants (fun v s' => v ≠ .notImplemented ∧ Q v s') E) l b N e J hl (fun s' q => ⟨(fun x => nomatch x), fin s' q⟩) h
theorem rcn_tupB {l b : Addr} {items items2 : Array Value} {e : Nat → Bool} {Q : Value → Shared → Prop} (hu : A.units < cLine) (J : Shared → Prop) (hl : s.heap.IsTuple l items) (hb : s.heap.IsTuple b items2)
    (turn : ∀ i (h1 : i < items.size) (h2 : i < items2.size) s, J s → wpAny (model prog w) A.in1 (eqBool items[i] items2[i]) (fun r s' => r = e i ∧ J s') E s)
    (fin : ∀ s, J s → Q (.bool (!((List.range (min items.size items2.size)).all e && items.size == items2.size))) s) (h : J s) : wpAny (model prog w) A (richCompare .NotEq (.ref l) (.ref b)) Q E s := by
  obtain ⟨⟨cls, dd, data, sl⟩, ho, hc, n, hd⟩ := id hl
  obtain ⟨⟨cls2, dd2, data2, sl2⟩, ho2, hc2, n2, hd2⟩ := id hb
  simp only at hc hd hc2 hd2
  subst hc hd hc2 hd2
  refine wpAny_richCompare_same_room (op := .NotEq) ⟨_, ho, rfl⟩ ⟨_, ho2, rfl⟩ F.slot_tuple_ne (GQ.call_here F.slot_tuple_ne ⟨_, ho, rfl⟩ F.entry_tuple_ne (F.args_tuple_ne_2 _ _) ?_) hu
  exact tuple_neB (R := wants (fun v s' => v ≠ .notImplemented ∧ Q v s') E) l b items items2 n n2 dd dd2 sl sl2 e J turn (fun s' q => ⟨(fun x => nomatch x), fin s' q⟩) ho ho2 h
end
section
variable {X : Cx} {G : Gt} {E : ET} {n : Nat}
def NeS (X : Cx) (G : Gt) (E : ET) (n : Nat) : Prop := ∀ (A : Around) (pins : List (Addr × Obj)) (s : Shared) (σ : St) (H : Hp) (ι : Nat → Addr) (h : Hz) (x y : W) (v1 v2 : V) (u1 u2 : Value) (k : Bool), Sub X n A → Inv X pins σ H s → HRep X.K G ι h H →
  Rep X.K G ι h H x v1 → Rep X.K G ι h H y v2 → RelV v1 u1 → RelV v2 u2 → (∀ c fs, kind h x ≠ .obj c fs) → zeq E h n x y = some k → wpAny (model X.prog X.w) A (richCompare .NotEq u1 u2) (fun r s' => r = .bool (!k) ∧ EqOut X G pins σ ι h H s') X.xe s
theorem neS_step (eb : EqB X G E n) : NeS X G E (n + 1) := by
  intro A pins s σ H ι h x y v1 v2 u1 u2 k sb I r p1 p2 r1 r2 no e
  have hu : A.units < cLine := sb.room.units0
  have e0 : zeqK E (zeq E h n) (kind h x) (kind h y) = some k := e
  have q1 := kind_at r p1
  have q2 := kind_at r p2
  have same : ∀ {k' : Bool}, k' = (!k) → (fun (r : Value) s' => r = .bool (!k) ∧ EqOut X G pins σ ι h H s') (.bool k') s := fun hk => ⟨by rw [hk], EqOut.same I r⟩
  cases kx : kind h x with
  | no => rw [kx] at e0; simp [zeqK] at e0
  | obj c fs => exact absurd kx (no c fs)
  | non =>
    rw [kx] at e0 q1
    cases q1
    cases (show u1 = Value.none from r1)
    cases ky : kind h y with
    | non =>
      rw [ky] at e0 q2; cases q2; cases (show u2 = Value.none from r2)
      simp only [zeqK, Option.some.injEq] at e0
      exact RcNeAt.none_none X.prog X.w X.xe _ (same (by rw [← e0] <;> rfl))
    | bl b =>
      rw [ky] at e0 q2; cases q2; cases (show u2 = Value.bool b from r2)
      simp only [zeqK, Option.some.injEq] at e0
      exact RcNeAt.none_bool b X.prog X.w X.xe _ (same (by rw [← e0] <;> rfl))
    | int j =>
      rw [ky] at e0 q2; cases q2; obtain ⟨t, rfl⟩ := r2
      simp only [zeqK, Option.some.injEq] at e0
      exact RcNeAt.none_int j t X.prog X.w X.xe _ (same (by rw [← e0] <;> rfl))
    | str z =>
      rw [ky] at e0 q2; cases q2; obtain ⟨t, rfl⟩ := r2
      simp only [zeqK, Option.some.injEq] at e0
      exact RcNeAt.none_str _ t X.prog X.w X.xe _ (same (by rw [← e0] <;> rfl))
    | tup ws =>
      rw [ky] at e0 q2
      cases q2 with
      | @tup _ a2 vs e2 rs =>
        cases (show u2 = Value.ref a2 from r2)
        obtain ⟨its, rv, ht, _⟩ := I.tuple e2
        simp only [zeqK, Option.some.injEq] at e0
        exact RcNeAt.none_tuple ht hu X.prog X.w X.xe _ (same (by rw [← e0] <;> rfl))
    | lst ws =>
      rw [ky] at e0 q2
      cases q2 with
      | @lst _ a2 vs e2 rs =>
        cases (show u2 = Value.ref a2 from r2)
        obtain ⟨its, rv, ht, _⟩ := I.list e2
        simp only [zeqK, Option.some.injEq] at e0
        exact RcNeAt.none_list ht.isList hu X.prog X.w X.xe _ (same (by rw [← e0] <;> rfl))
    | obj d gs => rw [ky] at e0; simp [zeqK] at e0
    | no => rw [ky] at e0; simp [zeqK] at e0
  | bl b =>
    rw [kx] at e0 q1
    cases q1
    cases (show u1 = Value.bool b from r1)
    cases ky : kind h y with
    | non =>
      rw [ky] at e0 q2; cases q2; cases (show u2 = Value.none from r2)
      simp only [zeqK, Option.some.injEq] at e0
      exact RcNeAt.bool_none b X.prog X.w X.xe _ (same (by rw [← e0] <;> rfl))
    | bl c =>
      rw [ky] at e0 q2; cases q2; cases (show u2 = Value.bool c from r2)
      simp only [zeqK, Option.some.injEq] at e0
      exact RcNeAt.bool_bool b c X.prog X.w X.xe _ (same (by rw [← e0] <;> rfl))
    | int j =>
      rw [ky] at e0 q2; cases q2; obtain ⟨t, rfl⟩ := r2
      simp only [zeqK, Option.some.injEq] at e0
      refine RcNeAt.bool_int b j t X.prog X.w X.xe _ (same ?_)
      rw [b2z_if, int_beq, e0]
    | str z =>
      rw [ky] at e0 q2; cases q2; obtain ⟨t, rfl⟩ := r2
      simp only [zeqK, Option.some.injEq] at e0
      exact RcNeAt.bool_str b _ t X.prog X.w X.xe _ (same (by rw [← e0] <;> rfl))
    | tup ws =>
      rw [ky] at e0 q2
      cases q2 with
      | @tup _ a2 vs e2 rs =>
        cases (show u2 = Value.ref a2 from r2)
        obtain ⟨its, rv, ht, _⟩ := I.tuple e2
        simp only [zeqK, Option.some.injEq] at e0
        exact RcNeAt.bool_tuple b ht hu X.prog X.w X.xe _ (same (by rw [← e0] <;> rfl))
    | lst ws =>
      rw [ky] at e0 q2
      cases q2 with
      | @lst _ a2 vs e2 rs =>
        cases (show u2 = Value.ref a2 from r2)
        obtain ⟨its, rv, ht, _⟩ := I.list e2
        simp only [zeqK, Option.some.injEq] at e0
        exact RcNeAt.bool_list b ht.isList hu X.prog X.w X.xe _ (same (by rw [← e0] <;> rfl))
    | obj d gs => rw [ky] at e0; simp [zeqK] at e0
    | no => rw [ky] at e0; simp [zeqK] at e0
  | int i =>
    rw [kx] at e0 q1
    cases q1
    obtain ⟨t1, rfl⟩ := r1
    cases ky : kind h y with
    | non =>
      rw [ky] at e0 q2; cases q2; cases (show u2 = Value.none from r2)
      simp only [zeqK, Option.some.injEq] at e0
      exact RcNeAt.int_none i t1 X.prog X.w X.xe _ (same (by rw [← e0] <;> rfl))
    | bl c =>
      rw [ky] at e0 q2; cases q2; cases (show u2 = Value.bool c from r2)
      simp only [zeqK, Option.some.injEq] at e0
      refine RcNeAt.int_bool i t1 c X.prog X.w X.xe _ (same ?_)
      rw [b2z_if, int_beq, e0]
    | int j =>
      rw [ky] at e0 q2; cases q2; obtain ⟨t, rfl⟩ := r2
      simp only [zeqK, Option.some.injEq] at e0
      refine RcNeAt.int_int i t1 j t X.prog X.w X.xe _ (same ?_)
      rw [int_beq, e0]
    | str z =>
      rw [ky] at e0 q2; cases q2; obtain ⟨t, rfl⟩ := r2
      simp only [zeqK, Option.some.injEq] at e0
      exact RcNeAt.int_str i t1 _ t X.prog X.w X.xe _ (same (by rw [← e0] <;> rfl))
    | tup ws =>
      rw [ky] at e0 q2
      cases q2 with
      | @tup _ a2 vs e2 rs =>
        cases (show u2 = Value.ref a2 from r2)
        obtain ⟨its, rv, ht, _⟩ := I.tuple e2
        simp only [zeqK, Option.some.injEq] at e0
        exact RcNeAt.int_tuple i t1 ht hu X.prog X.w X.xe _ (same (by rw [← e0] <;> rfl))
    | lst ws =>
      rw [ky] at e0 q2
      cases q2 with
      | @lst _ a2 vs e2 rs =>
        cases (show u2 = Value.ref a2 from r2)
        obtain ⟨its, rv, ht, _⟩ := I.list e2
        simp only [zeqK, Option.some.injEq] at e0
        exact RcNeAt.int_list i t1 ht.isList hu X.prog X.w X.xe _ (same (by rw [← e0] <;> rfl))
    | obj d gs => rw [ky] at e0; simp [zeqK] at e0
    | no => rw [ky] at e0; simp [zeqK] at e0
  | str z =>
    rw [kx] at e0 q1
    generalize hv : v1 = v' at q1
    cases q1
    subst hv
    obtain ⟨t1, rfl⟩ := r1
    cases ky : kind h y with
    | non =>
      rw [ky] at e0 q2; cases q2; cases (show u2 = Value.none from r2)
      simp only [zeqK, Option.some.injEq] at e0
      exact RcNeAt.str_none _ t1 X.prog X.w X.xe _ (same (by rw [← e0] <;> rfl))
    | bl c =>
      rw [ky] at e0 q2; cases q2; cases (show u2 = Value.bool c from r2)
      simp only [zeqK, Option.some.injEq] at e0
      exact RcNeAt.str_bool _ t1 c X.prog X.w X.xe _ (same (by rw [← e0] <;> rfl))
    | int j =>
      rw [ky] at e0 q2; cases q2; obtain ⟨t, rfl⟩ := r2
      simp only [zeqK, Option.some.injEq] at e0
      exact RcNeAt.str_int _ t1 j t X.prog X.w X.xe _ (same (by rw [← e0] <;> rfl))
    | str z2 =>
      rw [ky] at e0 q2; cases q2; obtain ⟨t, rfl⟩ := r2
      simp only [zeqK, Option.some.injEq] at e0
      refine RcNeAt.str_str _ t1 _ t X.prog X.w X.xe _ (same ?_)
      rw [str_eqN, e0]
    | tup ws =>
      rw [ky] at e0 q2
      cases q2 with
      | @tup _ a2 vs e2 rs =>
        cases (show u2 = Value.ref a2 from r2)
        obtain ⟨its, rv, ht, _⟩ := I.tuple e2
        simp only [zeqK, Option.some.injEq] at e0
        exact RcNeAt.str_tuple _ t1 ht hu X.prog X.w X.xe _ (same (by rw [← e0] <;> rfl))
    | lst ws =>
      rw [ky] at e0 q2
      cases q2 with
      | @lst _ a2 vs e2 rs =>
        cases (show u2 = Value.ref a2 from r2)
        obtain ⟨its, rv, ht, _⟩ := I.list e2
        simp only [zeqK, Option.some.injEq] at e0
        exact RcNeAt.str_list _ t1 ht.isList hu X.prog X.w X.xe _ (same (by rw [← e0] <;> rfl))
    | obj d gs => rw [ky] at e0; simp [zeqK] at e0
    | no => rw [ky] at e0; simp [zeqK] at e0
  | tup ws =>
    rw [kx] at e0 q1
    cases q1 with
    | @tup _ a1 vs1 e1 rs1 =>
      cases (show u1 = Value.ref a1 from r1)
      obtain ⟨its1, rv1, ht1, _⟩ := I.tuple e1
      cases ky : kind h y with
      | non =>
        rw [ky] at e0 q2; cases q2; cases (show u2 = Value.none from r2)
        simp only [zeqK, Option.some.injEq] at e0
        exact RcNeAt.tuple_none ht1 hu X.prog X.w X.xe _ (same (by rw [← e0] <;> rfl))
      | bl c =>
        rw [ky] at e0 q2; cases q2; cases (show u2 = Value.bool c from r2)
        simp only [zeqK, Option.some.injEq] at e0
        exact RcNeAt.tuple_bool c ht1 hu X.prog X.w X.xe _ (same (by rw [← e0] <;> rfl))
      | int j =>
        rw [ky] at e0 q2; cases q2; obtain ⟨t, rfl⟩ := r2
        simp only [zeqK, Option.some.injEq] at e0
        exact RcNeAt.tuple_int j t ht1 hu X.prog X.w X.xe _ (same (by rw [← e0] <;> rfl))
      | str z2 =>
        rw [ky] at e0 q2; cases q2; obtain ⟨t, rfl⟩ := r2
        simp only [zeqK, Option.some.injEq] at e0
        exact RcNeAt.tuple_str _ t ht1 hu X.prog X.w X.xe _ (same (by rw [← e0] <;> rfl))
      | lst ws2 =>
        rw [ky] at e0 q2
        cases q2 with
        | @lst _ a2 vs e2 rs =>
          cases (show u2 = Value.ref a2 from r2)
          obtain ⟨its, rv, ht, _⟩ := I.list e2
          simp only [zeqK, Option.some.injEq] at e0
          exact RcNeAt.tuple_list ht1 ht.isList hu X.prog X.w X.xe _ (same (by rw [← e0] <;> rfl))
      | tup ws2 =>
        rw [ky] at e0 q2
        cases q2 with
        | @tup _ a2 vs2 e2 rs2 =>
          cases (show u2 = Value.ref a2 from r2)
          obtain ⟨its2, rv2, ht2, _⟩ := I.tuple e2
          obtain ⟨ef, g1, g2⟩ := zall_get (show zall (zeq E h n) ws ws2 = some k from e0)
          refine rcn_tupB (e := ef) hu (fun s' => EqOut X G pins σ ι h H s') ht1 ht2 (fun i h1 h2 s' ⟨H', I', n'⟩ => ?_) (fun s' q => ⟨?_, q⟩) (EqOut.same I r)
          · obtain ⟨w1, z1, l1, m1, o1⟩ := rs1.paired rv1 i h1
            obtain ⟨w2, z2, l2, m2, o2⟩ := rs2.paired rv2 i h2
            refine wpAny_mono (eb A.in1 pins s' σ H' ι h w1 w2 z1 z2 _ _ (ef i) sb.in1 I' n'.rep (Rep.next r n'.toNx0 m1) (Rep.next r n'.toNx0 m2) o1 o2 (g1 i w1 w2 l1 l2)) (fun v s2 hv => ⟨hv.1, EqOut.trans n' hv.2⟩) fun _ _ z => z
          · rw [g2, List.size_toArray, List.size_toArray, rs1.length, rs2.length, rv1.length, rv2.length]
      | obj d gs => rw [ky] at e0; simp [zeqK] at e0
      | no => rw [ky] at e0; simp [zeqK] at e0
  | lst ws =>
    rw [kx] at e0 q1
    cases q1 with
    | @lst _ a1 vs1 e1 rs1 =>
      cases (show u1 = Value.ref a1 from r1)
      obtain ⟨its1, rv1, ht1, _⟩ := I.list e1
      cases ky : kind h y with
      | non =>
        rw [ky] at e0 q2; cases q2; cases (show u2 = Value.none from r2)
        simp only [zeqK, Option.some.injEq] at e0
        exact RcNeAt.list_none ht1.isList hu X.prog X.w X.xe _ (same (by rw [← e0] <;> rfl))
      | bl c =>
        rw [ky] at e0 q2; cases q2; cases (show u2 = Value.bool c from r2)
        simp only [zeqK, Option.some.injEq] at e0
        exact RcNeAt.list_bool c ht1.isList hu X.prog X.w X.xe _ (same (by rw [← e0] <;> rfl))
      | int j =>
        rw [ky] at e0 q2; cases q2; obtain ⟨t, rfl⟩ := r2
        simp only [zeqK, Option.some.injEq] at e0
        exact RcNeAt.list_int j t ht1.isList hu X.prog X.w X.xe _ (same (by rw [← e0] <;> rfl))
      | str z2 =>
        rw [ky] at e0 q2; cases q2; obtain ⟨t, rfl⟩ := r2
        simp only [zeqK, Option.some.injEq] at e0
        exact RcNeAt.list_str _ t ht1.isList hu X.prog X.w X.xe _ (same (by rw [← e0] <;> rfl))
      | tup ws2 =>
        rw [ky] at e0 q2
        cases q2 with
        | @tup _ a2 vs e2 rs =>
          cases (show u2 = Value.ref a2 from r2)
          obtain ⟨its, rv, ht, _⟩ := I.tuple e2
          simp only [zeqK, Option.some.injEq] at e0
          exact RcNeAt.list_tuple ht1.isList ht hu X.prog X.w X.xe _ (same (by rw [← e0] <;> rfl))
      | lst ws2 =>
        rw [ky] at e0 q2
        cases q2 with
        | @lst _ a2 vs2 e2 rs2 =>
          have p2' := p2
          cases (show u2 = Value.ref a2 from r2)
          obtain ⟨its2, rv2, ht2, _⟩ := I.list e2
          obtain ⟨ef, g1, g2⟩ := zall_get (show zall (zeq E h n) ws ws2 = some k from e0)
          by_cases hl : ws.length = ws2.length
          · refine rcn_listB (N := ws.length) (e := ef) hu (fun s' => EqOut X G pins σ ι h H s') (fun s' q => ?_) (fun s' q => ⟨?_, q⟩) (EqOut.same I r)
            · obtain ⟨H', I', n'⟩ := q
              obtain ⟨vs3, its3, m3, dd3, sl3, o3, rv3, rs3⟩ := list_again r p1 kx I' n'
              obtain ⟨vs4, its4, m4, dd4, sl4, o4, rv4, rs4⟩ := list_again r p2' ky I' n'
              refine ⟨_, m3, dd3, sl3, o3, by rw [List.size_toArray, rs3.length, rv3.length], _, m4, dd4, sl4, o4, by rw [List.size_toArray, hl, rs4.length, rv4.length], fun i h1 h2 => ?_⟩
              obtain ⟨w1, z1, l1, m1, o1⟩ := rs3.paired rv3 i h1
              obtain ⟨w2, z2, l2, m2, o2⟩ := rs4.paired rv4 i h2
              refine wpAny_mono (eb A.in1 pins s' σ H' ι h w1 w2 z1 z2 _ _ (ef i) sb.in1 I' n'.rep m1 m2 o1 o2 (g1 i w1 w2 l1 l2)) (fun v s2 hv => ⟨hv.1, EqOut.trans n' hv.2⟩) fun _ _ z => z
            · rw [g2, ← hl, Nat.min_self]
              simp
          · refine RcNeAt.lists_lengths ht1.isList ht2.isList ?_ hu X.prog X.w X.xe _ (same ?_)
            · rw [List.size_toArray, List.size_toArray, ← rv1.length, ← rv2.length, ← rs1.length, ← rs2.length]
              simpa using hl
            · rw [g2]
              simp [hl]
      | obj d gs => rw [ky] at e0; simp [zeqK] at e0
      | no => rw [ky] at e0; simp [zeqK] at e0
theorem neS_zero : NeS X G E 0 := by
  intro A pins s σ H ι h x y v1 v2 u1 u2 k sb I r p1 p2 r1 r2 no e
  cases e
end
end Z

namespace Z
open PySem PySem.SeqAt L2
open PyProof.Rows hiding St

theorem tlS (x : List Nat) : TL.tl (S x) = x := by show (S x).cps.toList = x; simp
def fidx (y : List Nat) : List Nat → Option Nat
  | [] => none
  | c :: r => match TL.pre y (c :: r) with
    | true => some 0
    | false => match fidx y r with
      | some i => some (i + 1)
      | none => none
theorem fidx_some {y : List Nat} : ∀ {l : List Nat} {i : Nat}, fidx y l = some i → TL.pre y (l.drop i) = true ∧ ∀ j, j < i → TL.pre y (l.drop j) = false
  | [], i, e => by cases e
  | c :: r, i, e => by
    unfold fidx at e
    cases q : TL.pre y (c :: r) with
    | true =>
      rw [q] at e
      cases e
      exact ⟨q, fun j hj => absurd hj (Nat.not_lt_zero _)⟩
    | false =>
      rw [q] at e
      cases q2 : fidx y r with
      | none => rw [q2] at e; cases e
      | some k =>
        rw [q2] at e
        cases e
        obtain ⟨h1, h2⟩ := fidx_some q2
        refine ⟨h1, fun j hj => ?_⟩
        cases j with
        | zero => exact q
        | succ j => exact h2 j (by omega)
theorem fidx_none {y : List Nat} (hy : y ≠ []) : ∀ {l : List Nat}, fidx y l = none → ∀ j, TL.pre y (l.drop j) = false
  | [], e, j => by rw [List.drop_nil]; exact TL.pre_nil hy
  | c :: r, e, j => by
    unfold fidx at e
    cases q : TL.pre y (c :: r) with
    | true => rw [q] at e; cases e
    | false =>
      rw [q] at e
      cases q2 : fidx y r with
      | some k => rw [q2] at e; cases e
      | none =>
        cases j with
        | zero => exact q
        | succ j => exact fidx_none hy q2 j
theorem occ_fidx {x y : List Nat} (hy : y ≠ []) {i : Nat} (e : fidx y x = some i) : ∃ rest, Builtin.Str.occurrences (S x) (S y) 0 (S x).length 1 = i :: rest := by
  have hy' : TL.tl (S y) ≠ [] := by rw [tlS]; exact hy
  obtain ⟨h1, h2⟩ := fidx_some e
  have a1 : StrLaws.At (S x) (S y) (S x).length i := (TL.at_iff hy' i).mpr (by rw [tlS, tlS]; exact h1)
  rcases StrLaws.occ_head (S x) (S y) 1 (Nat.le_refl _) with ⟨e1, hn⟩ | ⟨k, rest, e1, ha, hn⟩
  · exact absurd a1 (hn i)
  · have hk : k = i := by
      rcases Nat.lt_trichotomy k i with h | h | h
      · have := (TL.at_iff hy' k).mp ha
        rw [tlS, tlS, h2 k h] at this
        cases this
      · exact h
      · exact absurd a1 (hn i h)
    subst hk
    exact ⟨rest, e1⟩
theorem occ_isEmpty {x y : List Nat} (hy : y ≠ []) : (!(Builtin.Str.occurrences (S x) (S y) 0 (S x).length 1).isEmpty) = (fidx y x).isSome := by
  cases e : fidx y x with
  | some i =>
    obtain ⟨r, q⟩ := occ_fidx hy e
    rw [q]; rfl
  | none =>
    have hy' : TL.tl (S y) ≠ [] := by rw [tlS]; exact hy
    rcases StrLaws.occ_head (S x) (S y) 1 (Nat.le_refl _) with ⟨e1, hn⟩ | ⟨k, rest, e1, ha, hn⟩
    · rw [e1]; rfl
    · have := (TL.at_iff hy' k).mp ha
      rw [tlS, tlS, fidx_none hy e k] at this
      cases this
section
variable {b : Bool} {X : Cx} {G : Gt} {Wf : WX} {E : ET} {n : Nat}
def zcmpEq (E : ET) (n : Nat) (x y : W) : M W := fun h => match zeq E h n x y with
  | some k => .ok (.bl k) h
  | none => .err
theorem op_zeq (es : EqS X G E n) (hr : L2.Room n X.A) : OpZ X G Wf (compareOp .Eq) (zcmpEq E n) := by
  intro pins s σ H ι h x y v1 v2 u1 u2 Q I r p1 p2 r1 r2 aft
  unfold zcmpEq at aft
  cases e : zeq E h n x y with
  | none => rw [e] at aft; exact False.elim aft
  | some k =>
    rw [e] at aft
    refine wpAny_mono (es X.A pins s σ H ι h x y v1 v2 u1 u2 k ⟨hr, rfl⟩ I r p1 p2 r1 r2 e) (fun v s' hv => ?_) fun _ _ z => z
    obtain ⟨rfl, H', I', n'⟩ := hv
    exact ⟨.bl k, H', I', rfl, aft ι H' _ n' (.bl k)⟩
def isObjK : Kd → Bool
  | .obj _ _ => true
  | _ => false
def zcmpNe (E : ET) (n : Nat) (x y : W) : M W := fun h => match isObjK (kind h x) with
  | true => .err
  | false => match zeq E h n x y with
    | some k => .ok (.bl (!k)) h
    | none => .err
theorem op_zne (es : NeS X G E n) (hr : L2.Room n X.A) : OpZ X G Wf (compareOp .NotEq) (zcmpNe E n) := by
  intro pins s σ H ι h x y v1 v2 u1 u2 Q I r p1 p2 r1 r2 aft
  unfold zcmpNe at aft
  cases e0 : isObjK (kind h x) with
  | true => rw [e0] at aft; exact False.elim aft
  | false =>
    rw [e0] at aft
    cases e : zeq E h n x y with
    | none => rw [e] at aft; exact False.elim aft
    | some k =>
      rw [e] at aft
      refine wpAny_mono (es X.A pins s σ H ι h x y v1 v2 u1 u2 k ⟨hr, rfl⟩ I r p1 p2 r1 r2 (fun c fs z => by rw [z] at e0; cases e0) e) (fun v s' hv => ?_) fun _ _ z => z
      obtain ⟨rfl, H', I', n'⟩ := hv
      exact ⟨.bl (!k), H', I', rfl, aft ι H' _ n' (.bl _)⟩

def zany (f : W → Option Bool) : List W → Option Bool
  | [] => some false
  | x :: xs => match f x with
    | some p => match zany f xs with
      | some q => some (p || q)
      | none => none
    | none => none
theorem zany_get {f : W → Option Bool} : ∀ {xs : List W} {k : Bool}, zany f xs = some k → ∃ e : Nat → Bool, (∀ i x, xs[i]? = some x → f x = some (e i)) ∧ k = (List.range xs.length).any e
  | [], k, h => ⟨fun _ => true, fun i x h1 => by simp at h1, by simp [zany] at h; simp [h]⟩
  | x :: xs, k, h => by
    unfold zany at h
    cases e1 : f x with
    | none => rw [e1] at h; cases h
    | some p =>
      rw [e1] at h
      cases e2 : zany f xs with
      | none => rw [e2] at h; cases h
      | some q =>
        rw [e2] at h
        obtain ⟨e, h1, h2⟩ := zany_get e2
        refine ⟨fun i => match i with | 0 => p | i + 1 => e i, fun i a ha => ?_, ?_⟩
        · cases i with
          | zero => simp at ha; subst ha; exact e1
          | succ i => exact h1 i a (by simpa using ha)
        · have hk : (p || q) = k := by simpa using h
          rw [← hk, h2, List.length_cons, List.range_succ_eq_map]
          simp only [List.any_cons, List.any_map]
          congr 1
def zinK (E : ET) (n : Nat) (h : Hz) (x y : W) : Option Bool := match y with
  | .str t => match x with
    | .str s => match s with
      | [] => none
      | _ => some (fidx s t).isSome
    | _ => none
  | _ => match kind h y with
    | .tup ws => zany (fun w => zeq E h n w x) ws
    | .lst ws => zany (fun w => zeq E h n w x) ws
    | _ => none
theorem zin_ok (eb : EqB X G E n) (hr : L2.Room (n + 1) X.A) {pins : List (Addr × Obj)} {s : Shared} {σ : St} {H : Hp} {ι : Nat → Addr} {h : Hz} {x y : W} {v1 v2 : V} {u1 u2 : Value} {k : Bool} (I : Inv X pins σ H s) (r : HRep X.K G ι h H) (p1 : Rep X.K G ι h H x v1) (p2 : Rep X.K G ι h H y v2) (r1 : RelV v1 u1) (r2 : RelV v2 u2)
    (e : zinK E n h x y = some k) (ns : ∀ t, y ≠ .str t) : wpAny (model X.prog X.w) X.A (contains u2 u1) (fun c s' => c = k ∧ EqOut X G pins σ ι h H s') X.xe s := by
  have e0 : (match kind h y with
    | .tup ws => zany (fun w => zeq E h n w x) ws
    | .lst ws => zany (fun w => zeq E h n w x) ws
    | _ => none) = some k := by
    cases y <;> first | exact e | exact absurd rfl (ns _)
  have q2 := kind_at r p2
  have sb : Sub X (n + 1) X.A := ⟨hr, rfl⟩
  cases ky : kind h y with
  | tup ws =>
    rw [ky] at e0 q2
    cases q2 with
    | @tup _ a2 vs2 e2 rs2 =>
      cases (show u2 = Value.ref a2 from r2)
      obtain ⟨its2, rv2, ht2, _⟩ := I.tuple e2
      obtain ⟨ef, g1, g2⟩ := zany_get e0
      refine in_tupB (e := ef) (fun s' => EqOut X G pins σ ι h H s') ht2 (fun i h1 s' ⟨H', I', n'⟩ => ?_) (fun s' q => ⟨?_, q⟩) (EqOut.same I r)
      · obtain ⟨w1, z1, l1, m1, o1⟩ := rs2.paired rv2 i h1
        refine wpAny_mono (eb X.A.in1 pins s' σ H' ι h w1 x z1 v1 _ _ (ef i) sb.in1 I' n'.rep (Rep.next r n'.toNx0 m1) (Rep.next r n'.toNx0 p1) o1 r1 (g1 i w1 l1)) (fun v s2 hv => ⟨hv.1, EqOut.trans n' hv.2⟩) fun _ _ z => z
      · rw [g2, List.size_toArray, rs2.length, rv2.length]
  | lst ws =>
    rw [ky] at e0 q2
    cases q2 with
    | @lst _ a2 vs2 e2 rs2 =>
      have p2' := p2
      cases (show u2 = Value.ref a2 from r2)
      obtain ⟨ef, g1, g2⟩ := zany_get e0
      refine in_listB (N := ws.length) (e := ef) (fun s' => EqOut X G pins σ ι h H s') (fun s' q => ?_) (fun s' q => ⟨g2.symm, q⟩) (EqOut.same I r)
      obtain ⟨H', I', n'⟩ := q
      obtain ⟨vs3, its3, m3, dd3, sl3, o3, rv3, rs3⟩ := list_again r p2' ky I' n'
      refine ⟨_, m3, dd3, sl3, o3, by rw [List.size_toArray, rs3.length, rv3.length], fun i h1 => ?_⟩
      obtain ⟨w1, z1, l1, m1, o1⟩ := rs3.paired rv3 i h1
      refine wpAny_mono (eb X.A.in1 pins s' σ H' ι h w1 x z1 v1 _ _ (ef i) sb.in1 I' n'.rep m1 (Rep.next r n'.toNx0 p1) o1 r1 (g1 i w1 l1)) (fun v s2 hv => ⟨hv.1, EqOut.trans n' hv.2⟩) fun _ _ z => z
  | _ => rw [ky] at e0; cases e0
def zin (E : ET) (n : Nat) (x y : W) : M W := fun h => match zinK E n h x y with
  | some k => .ok (.bl k) h
  | none => .err
def znotin (E : ET) (n : Nat) (x y : W) : M W := fun h => match zinK E n h x y with
  | some k => .ok (.bl (!k)) h
  | none => .err
theorem zin_str {h : Hz} {x : W} {t : List Nat} {k : Bool} (e : zinK E n h x (.str t) = some k) : ∃ s, x = .str s ∧ s ≠ [] ∧ k = (fidx s t).isSome := by
  unfold zinK at e
  cases x with
  | str s =>
    cases s with
    | nil => cases e
    | cons c s =>
      have e' : some (fidx (c :: s) t).isSome = some k := e
      exact ⟨_, rfl, by simp, (Option.some.inj e').symm⟩
  | _ => cases e
theorem op_zin (eb : EqB X G E n) (hr : L2.Room (n + 1) X.A) : OpZ X G Wf (compareOp .In) (zin E n) := by
  intro pins s σ H ι h x y v1 v2 u1 u2 Q I r p1 p2 r1 r2 aft
  unfold zin at aft
  cases e : zinK E n h x y with
  | none => rw [e] at aft; exact False.elim aft
  | some k =>
    rw [e] at aft
    by_cases hs : ∃ t, y = .str t
    · obtain ⟨t, rfl⟩ := hs
      obtain ⟨z, rfl, hz, rfl⟩ := zin_str e
      cases p1
      cases p2
      refine op_in_str pins s σ H _ _ u1 u2 Q I r1 r2 ⟨_, _, rfl, rfl, ?_⟩
      have q := aft ι H (.bl (fidx z t).isSome) (Next.refl r) (.bl _)
      rw [← occ_isEmpty hz] at q
      exact q
    · show wpAny (model X.prog X.w) X.A (do return Value.bool (← contains u2 u1)) (EP X pins σ Q) X.xe s
      refine wpAny_bind (wpAny_mono (zin_ok eb hr I r p1 p2 r1 r2 e (fun t z => hs ⟨t, z⟩)) (fun c s' hv => ?_) fun _ _ z => z)
      obtain ⟨rfl, H', I', n'⟩ := hv
      exact wpAny_pure ⟨.bl c, H', I', rfl, aft ι H' _ n' (.bl c)⟩
end
end Z

namespace Z
open PySem PySem.SeqAt L2
open PyProof.Rows hiding St

section
variable {b : Bool} {X : Cx} {G : Gt} {Wf : WX} {E : ET} {n : Nat} {e o : Expr} {es : List Expr} {m ma : Ev → M W} {mr : Ev → M (List W)} {p pos apos : Pos} {x : Str} {id : String}
def CallZ (X : Cx) (G : Gt) (Wf : WX) (f : Value) (fw : List W → M W) : Prop :=
  ∀ (pins : List (Addr × Obj)) (s : Shared) (σ : St) (H : Hp) (ι : Nat → Addr) (h : Hz) (ws : List W) (vs : List V) (us : List Value) (Q : VK), Inv X pins σ H s → HRep X.K G ι h H → Reps X.K G ι h H ws vs → Vals vs us →
    Aft X.K G Wf σ (rpW X.K G) ι h H (fw ws h) Q → wpAny (model X.prog X.w) X.A (call f us) (EP X pins σ Q) X.xe s
def zb (fw : List W → M W) (mr : Ev → M (List W)) : Ev → M W := fun ρ => bnd (mr ρ) fw
theorem pz_callB {fw : List W → M W} (hc : CallZ X G Wf (.builtin id) fw) (hg : Gl X x) (hm : X.mg x = none) (hv : bootBuiltins x = some (.builtin id)) (ha : PZA b X G Wf (e :: es) mr) (hst : (e :: es).all (fun e => !isStar e) = true)
    (hn : x ≠ "__name__") (hdb : (x == ("__debug__" : Str)) = false) : PZ b X G Wf (.Call (.Name x p) (e :: es) [] pos) (zb fw mr) := by
  refine ⟨fun pins s σ H ι h ρ Q tk I r sr aft => ?_⟩
  have h1 : isStar e = false := by
    rw [List.all_cons] at hst
    simpa using (Bool.and_eq_true_iff.mp hst).1
  have h2 : es.all (fun e => !isStar e) = true := by
    rw [List.all_cons] at hst
    exact (Bool.and_eq_true_iff.mp hst).2
  refine wpAny_Call_Name_kw (ld_blt I hg hm hv ?_ hn hdb)
  exact PyProof.Rows.callWith_builtin1 (thn (ha.run pos pins s σ H ι h ρ _ tk I r sr (aft.bnd (P := rpWs X.K G))) fun us s1 ⟨tk1, vs, H1, I1, r1, ι1, h1, ws, n1, p1, a1⟩ =>
    withTk tk1 (hc pins s1 σ H1 ι1 h1 ws vs us Q I1 n1.rep p1 r1 a1)) (starEach_cons h1) (starEach_no h2)
theorem pz_callT {T : String} {fw : List W → M W} (hc : CallZ X G Wf (.type T) fw) (hg : Gl X x) (hm : X.mg x = none) (hv : bootBuiltins x = some (.type T)) (ha : PZA b X G Wf (e :: es) mr) (hst : (e :: es).all (fun e => !isStar e) = true)
    (hn : x ≠ "__name__") (hdb : (x == ("__debug__" : Str)) = false) : PZ b X G Wf (.Call (.Name x p) (e :: es) [] pos) (zb fw mr) := by
  refine ⟨fun pins s σ H ι h ρ Q tk I r sr aft => ?_⟩
  have h1 : isStar e = false := by
    rw [List.all_cons] at hst
    simpa using (Bool.and_eq_true_iff.mp hst).1
  have h2 : es.all (fun e => !isStar e) = true := by
    rw [List.all_cons] at hst
    exact (Bool.and_eq_true_iff.mp hst).2
  refine wpAny_Call_Name_kw (ld_blt I hg hm hv ?_ hn hdb)
  exact PyProof.Rows.callWith_type1 (thn (ha.run pos pins s σ H ι h ρ _ tk I r sr (aft.bnd (P := rpWs X.K G))) fun us s1 ⟨tk1, vs, H1, I1, r1, ι1, h1, ws, n1, p1, a1⟩ =>
    withTk tk1 (hc pins s1 σ H1 ι1 h1 ws vs us Q I1 n1.rep p1 r1 a1)) (starEach_cons h1) (starEach_no h2)
def one1 (f : W → M W) (ws : List W) : M W := match ws with
  | [w] => f w
  | _ => bad
theorem one1_of {F : Value} {f : W → M W} (go : ∀ (pins : List (Addr × Obj)) (s : Shared) (σ : St) (H : Hp) (ι : Nat → Addr) (h : Hz) (w : W) (v : V) (us : List Value) (Q : VK), Inv X pins σ H s → HRep X.K G ι h H → Rep X.K G ι h H w v → Vals [v] us → Aft X.K G Wf σ (rpW X.K G) ι h H (f w h) Q →
    wpAny (model X.prog X.w) X.A (call F us) (EP X pins σ Q) X.xe s) : CallZ X G Wf F (one1 f) := by
  intro pins s σ H ι h ws vs us Q I r p1 r1 aft
  cases p1 with
  | nil => exact False.elim aft
  | cons q qs =>
    cases qs with
    | nil => exact go pins s σ H ι h _ _ us Q I r q r1 aft
    | cons q2 qs => exact False.elim aft
def two2 (f : W → W → M W) (ws : List W) : M W := match ws with
  | [w, v] => f w v
  | _ => bad
theorem two2_of {F : Value} {f : W → W → M W} (go : ∀ (pins : List (Addr × Obj)) (s : Shared) (σ : St) (H : Hp) (ι : Nat → Addr) (h : Hz) (w w2 : W) (v v2 : V) (us : List Value) (Q : VK), Inv X pins σ H s → HRep X.K G ι h H → Rep X.K G ι h H w v → Rep X.K G ι h H w2 v2 → Vals [v, v2] us → Aft X.K G Wf σ (rpW X.K G) ι h H (f w w2 h) Q →
    wpAny (model X.prog X.w) X.A (call F us) (EP X pins σ Q) X.xe s) : CallZ X G Wf F (two2 f) := by
  intro pins s σ H ι h ws vs us Q I r p1 r1 aft
  cases p1 with
  | nil => exact False.elim aft
  | cons q qs =>
    cases qs with
    | nil => exact False.elim aft
    | cons q2 qs =>
      cases qs with
      | nil => exact go pins s σ H ι h _ _ _ _ us Q I r q q2 r1 aft
      | cons q3 qs => exact False.elim aft
def zlen (w : W) : M W := match w with
  | .str s => if s.length ≤ LIM then ret (.int s.length) else bad
  | _ => bnd (zseq w) fun q => ret (.int q.2.length)
theorem call_zlen : CallZ X G Wf (.builtin "len") (one1 zlen) := by
  refine one1_of fun pins s σ H ι h w v us Q I r p r1 aft => ?_
  have seqs : (∀ z, w ≠ .str z) → wpAny (model X.prog X.w) X.A (call (.builtin "len") us) (EP X pins σ Q) X.xe s := fun nx => by
    have aft2 : Aft X.K G Wf σ (rpW X.K G) ι h H (bnd (zseq w) (fun q => ret (.int q.2.length)) h) Q := by
      cases w <;> first | exact aft | exact absurd rfl (nx _)
    obtain ⟨t, ws, ad, vs, e1, sq, rs, a2, tt⟩ := seq_after r p aft2
    subst e1
    have q := Aft.ret (P := rpW X.K G) a2 r (.int _)
    refine call_len pins s σ H [.ref ad] us Q I r1 ⟨_, ws.length, rfl, ?_, q⟩
    cases t with
    | true => exact .inr ⟨vs, sq, rs.length⟩
    | false => exact .inl ⟨vs, sq, rs.length⟩
  cases p with
  | str z =>
    have aft2 : Aft X.K G Wf σ (rpW X.K G) ι h H ((if z.length ≤ LIM then ret (.int z.length) else bad) h) Q := aft
    split at aft2
    · rename_i hl
      refine call_len pins s σ H _ us Q I r1 ⟨_, z.length, rfl, ⟨by rw [S_len, ← lim_eq]; exact hl, (S_len z).symm⟩, Aft.ret (P := rpW X.K G) aft2 r (.int _)⟩
    · exact False.elim aft2
  | _ => exact seqs (fun z e => by cases e)
def asBs : List W → Option (List Bool)
  | [] => some []
  | .bl k :: r => match asBs r with
    | some ks => some (k :: ks)
    | none => none
  | _ => none
def zallB (w : W) : M W := bnd (zseq w) fun q => match q.1 with
  | true => bad
  | false => match asBs q.2 with
    | some ks => ret (.bl (ks.all fun k => k))
    | none => bad
def ztuple (w : W) : M W := bnd (zseq w) fun q => ret (.tup q.2)
def zint1 (w : W) : M W := match w with
  | .int i => ret (.int i)
  | .bl k => ret (.int (b2z k))
  | _ => bad
theorem call_zint : CallZ X G Wf (.type "int") (one1 zint1) := by
  refine one1_of fun pins s σ H ι h w v us Q I r p r1 aft => ?_
  cases p with
  | int i => exact call_int1 pins s σ H _ us Q I r1 (.inl ⟨i, rfl, Aft.ret (P := rpW X.K G) aft r (.int i)⟩)
  | bl k =>
    refine call_int1 pins s σ H _ us Q I r1 (.inr ⟨k, rfl, ?_⟩)
    rw [b2z_if]
    exact Aft.ret (P := rpW X.K G) aft r (.int _)
  | _ => exact False.elim aft
def zabs (w : W) : M W := match w with
  | .int i => ret (.int (if i < 0 then -i else i))
  | _ => bad
theorem call_zabs : CallZ X G Wf (.builtin "abs") (one1 zabs) := by
  refine one1_of fun pins s σ H ι h w v us Q I r p r1 aft => ?_
  cases p with
  | int i => exact call_abs pins s σ H _ us Q I r1 ⟨i, rfl, Aft.ret (P := rpW X.K G) aft r (.int _)⟩
  | _ => exact False.elim aft
def zmax (v w : W) : M W := match v, w with
  | .int i, .int j => ret (.int (if j > i then j else i))
  | _, _ => bad
def zmin (v w : W) : M W := match v, w with
  | .int i, .int j => ret (.int (if j < i then j else i))
  | _, _ => bad
theorem call_zmax (hc : X.calm = true) : CallZ X G Wf (.builtin "max") (two2 zmax) := by
  refine two2_of fun pins s σ H ι h w w2 v v2 us Q I r p p2 r1 aft => ?_
  cases p with
  | int i =>
    cases p2 with
    | int j => exact call_max2 hc pins s σ H _ us Q I r1 ⟨i, j, rfl, Aft.ret (P := rpW X.K G) aft r (.int _)⟩
    | _ => exact False.elim aft
  | _ => exact False.elim aft
theorem call_zmin (hc : X.calm = true) : CallZ X G Wf (.builtin "min") (two2 zmin) := by
  refine two2_of fun pins s σ H ι h w w2 v v2 us Q I r p p2 r1 aft => ?_
  cases p with
  | int i =>
    cases p2 with
    | int j => exact call_min2 hc pins s σ H _ us Q I r1 ⟨i, j, rfl, Aft.ret (P := rpW X.K G) aft r (.int _)⟩
    | _ => exact False.elim aft
  | _ => exact False.elim aft

theorem call_isiF {X : Cx} : CallR X (.builtin "isinstance") (fun xs H Q => ∃ (x : V) (tp : Addr) (ob : Obj) (cs : List V) (t : Value) (us : List Value) (k : Bool), xs = [x, .ref tp] ∧ H tp = some (.frz ob (.tup cs)) ∧ Paired ClsV cs us ∧ TyX X.K H x t ∧ PySem.W.kitAny X.K t us = some k ∧ Q (.bl k) H) := by
  intro pins s σ H xs us Q I rr hh
  obtain ⟨x, tp, ob, cs, t, ws, k, e0, hT, kk, ty, e, q⟩ := hh
  subst e0
  obtain ⟨u1, u2, e1, r1, r2⟩ := vals2 rr
  subst e1
  cases (show u2 = Value.ref tp from r2)
  obtain ⟨P, Z, p, hx⟩ := kit_of I r1 ty
  obtain ⟨_, its, rv, o, g1, g2, n, g3⟩ := (show ObjOk X.prog X.w H s.heap tp (.tup cs) from (I.hok tp _ hT).2)
  cases ClsV.all kk rv
  obtain ⟨oc, od, dt, sl⟩ := o
  dsimp only at g2 g3
  subst g2 g3
  exact PySem.W.kia_tup Z I.kIn p g1 e hx fun tk => ⟨.bl k, H, I.tok tk, rfl, q⟩
inductive CA (G : Gt) : List Value → Hp → Value → Prop
  | one {H : Hp} {cv : V} {u u' : Value} : ClsV cv u' → RelV cv u → CA G [u'] H u
  | tup {H : Hp} {tp : Addr} {ob : Obj} {cs : List V} {us : List Value} : H tp = some (.frz ob (.tup cs)) → Paired ClsV cs us → CA G us H (.ref tp)
def tyKd (G : Gt) : Kd → Option Value
  | .non => some (.type "NoneType")
  | .bl _ => some (.type "bool")
  | .int _ => some (.type "int")
  | .str _ => some (.type "str")
  | .tup _ => some (.type "tuple")
  | .lst _ => some (.type "list")
  | .obj c _ => some (.ref (G.cl c))
  | .no => none
structure IsiOk (K : PySem.W.Frag) (G : Gt) (us : List Value) (f : Kd → Option Bool) : Prop where
  no : f .no = none
  ans : ∀ k t c, tyKd G k = some t → f k = some c → PySem.W.kitAny K t us = some c
  ins : ∀ c fs, (f (.obj c fs)).isSome = true → ∀ (H : Hp) (a dx : Addr) (gs : List (Str × V)), H a = some (.ins (G.cl c) dx gs) → TyX K H (.ref a) (.ref (G.cl c))
theorem kitAny_one {K : PySem.W.Frag} {t u : Value} {c : Bool} (h : PySem.W.kitAny K t [u] = some c) : PySem.W.kitOne K t u = some c := by
  unfold PySem.W.kitAny at h
  cases e : PySem.W.kitOne K t u with
  | none => rw [e] at h; cases h
  | some k =>
    rw [e] at h
    cases k with
    | true => exact h
    | false => exact h
theorem sqL_ty {pins : List (Addr × Obj)} {σ : St} {H : Hp} {s : Shared} {a : Addr} {vs : List V} (I : Inv X pins σ H s) (e : SqL X.K H a vs) : TyX X.K H (.ref a) (.type "list") := by
  rcases e with (e | ⟨o, e⟩) | e
  · exact .base (.lst e)
  · exact .base (.frz e)
  · obtain ⟨o, its, m, hk, hc, _⟩ := e
    exact .kList hk hc
theorem sqT_ty {pins : List (Addr × Obj)} {σ : St} {H : Hp} {s : Shared} {a : Addr} {vs : List V} (I : Inv X pins σ H s) (e : SqT X.K H a vs) : TyX X.K H (.ref a) (.type "tuple") := by
  rcases e with (e | ⟨o, e⟩) | e
  · exact .base (.tup e)
  · exact .fTuple e
  · obtain ⟨o, its, m, hk, hc, _⟩ := e
    exact .kTuple hk hc
def CAr (X : Cx) (G : Gt) (c : Expr) (us : List Value) : Prop := ∀ (pins : List (Addr × Obj)) (s : Shared) (σ : St) (H : Hp) (ι : Nat → Addr) (h : Hz), Inv X pins σ H s → HRep X.K G ι h H →
  wpAny (model X.prog X.w) X.A (eval c X.env) (fun u s' => ∃ H', Inv X pins σ H' s' ∧ Next X.K G ι h H ι h H' ∧ CA G us H' u) X.xe s
def zisi (f : Kd → Option Bool) (ma : Ev → M W) : Ev → M W := fun ρ => bnd (ma ρ) fun w h => match f (kind h w) with
  | some k => .ok (.bl k) h
  | none => .err
theorem pz_isi {c : Expr} {us : List Value} {f : Kd → Option Bool} (hf : IsiOk X.K G us f) (hg : Gl X "isinstance") (hm : X.mg "isinstance" = none) (ha : PZ b X G Wf e ma) (hc : CAr X G c us) (hst : [e, c].all (fun e => !isStar e) = true) :
    PZ b X G Wf (.Call (.Name "isinstance" p) [e, c] [] pos) (zisi f ma) := by
  refine ⟨fun pins s σ H ι h ρ Q tk I r sr aft => ?_⟩
  have h1 : isStar e = false ∧ isStar c = false := by simpa using hst
  refine wpAny_Call_Name_kw (ld_blt I hg hm (u := .builtin "isinstance") rfl ?_ (by decide) (by decide))
  refine PyProof.Rows.callWith_builtin1 ?_ (starEach_cons h1.1) (starEach_no (by simpa using h1.2))
  rw [starEach_cons h1.1, starEach_cons h1.2]
  show wpAny _ _ (spliced ((false, eval e X.env) :: (false, eval c X.env) :: [])) _ _ s
  refine Calls.spliced_cons (thn (ha.run pins s σ H ι h ρ _ tk I r sr (aft.bnd (P := rpW X.K G))) fun u s1 ⟨tk1, v1, H1, I1, r1, ι1, h1, w1, n1, p1, a1⟩ => ?_)
  refine Calls.spliced_cons (thn (withTk tk1 (hc pins s1 σ H1 ι1 h1 I1 n1.rep)) fun u2 s2 ⟨tk2, H2, I2, n2, ca⟩ => Calls.spliced_nil ?_)
  have a2 : Aft X.K G Wf σ (rpW X.K G) ι1 h1 H1 (match f (kind h1 w1) with | some k => .ok (.bl k) h1 | none => .err) Q := a1
  have p2 := Rep.next n1.rep n2.toNx0 p1
  cases ek : f (kind h1 w1) with
  | none => rw [ek] at a2; exact False.elim a2
  | some k =>
    rw [ek] at a2
    have q : Q (.bl k) H2 := a2 ι1 H2 _ n2 (.bl k)
    have ty : ∃ t, tyKd G (kind h1 w1) = some t ∧ TyX X.K H2 v1 t := by
      have kd := kind_at n2.rep p2
      cases hk : kind h1 w1 with
      | non => rw [hk] at kd; cases kd; exact ⟨_, rfl, .base .non⟩
      | bl k => rw [hk] at kd; cases kd; exact ⟨_, rfl, .base (.bl _)⟩
      | int k => rw [hk] at kd; cases kd; exact ⟨_, rfl, .base (.int _)⟩
      | str k => rw [hk] at kd; cases kd; exact ⟨_, rfl, .base (.str _)⟩
      | tup ws => rw [hk] at kd; cases kd with | tup sq rs => exact ⟨_, rfl, sqT_ty I2 sq⟩
      | lst ws => rw [hk] at kd; cases kd with | lst sq rs => exact ⟨_, rfl, sqL_ty I2 sq⟩
      | obj c fs =>
        rw [hk] at kd ek
        cases kd with
        | obj ea rf => exact ⟨_, rfl, hf.ins c fs (by rw [ek]; rfl) H2 _ _ _ ea⟩
      | no =>
        rw [hk] at ek
        exact absurd ek (by intro z; have := hf.no; rw [this] at z; cases z)
    obtain ⟨t, et, ty⟩ := ty
    have an := hf.ans _ t k et ek
    cases ca with
    | one cv ru => exact withTk tk2 (call_isi pins s2 σ H2 [v1, _] [u, u2] Q I2 (.cons r1 (.cons ru .nil)) ⟨v1, _, t, _, k, rfl, cv, ty, kitAny_one an, q⟩)
    | tup ht cs => exact withTk tk2 (call_isiF pins s2 σ H2 [v1, .ref _] [u, _] Q I2 (.cons r1 (.cons rfl .nil)) ⟨v1, _, _, _, t, _, k, rfl, ht, cs, ty, an, q⟩)

def MtZ (X : Cx) (G : Gt) (Wf : WX) (id : String) (fw : W → List W → M W) : Prop :=
  ∀ (pins : List (Addr × Obj)) (s : Shared) (σ : St) (H : Hp) (ι : Nat → Addr) (h : Hz) (w : W) (v : V) (u : Value) (ws : List W) (vs : List V) (us : List Value) (Q : VK), Inv X pins σ H s → HRep X.K G ι h H → Rep X.K G ι h H w v → RelV v u → Reps X.K G ι h H ws vs → Vals vs us →
    Aft X.K G Wf σ (rpW X.K G) ι h H (fw w ws h) Q → wpAny (model X.prog X.w) X.A (call (.builtin id) (u :: us)) (EP X pins σ Q) X.xe s
def zty (t : Bool) (w : W) : M Unit := match t with
  | true => match w with
    | .str _ => ret ()
    | _ => bad
  | false => bnd (zseq w) fun q => match q.1 with
    | true => bad
    | false => ret ()
def tyN (t : Bool) : String := if t = true then "str" else "list"
theorem ty_after {α β : Type} {P : RP α β} {σ : St} {ι : Nat → Addr} {h : Hz} {H : Hp} {t : Bool} {w : W} {v : V} {kk : M α} {Q : β → Hp → Prop} (r : HRep X.K G ι h H) (p : Rep X.K G ι h H w v) (q : Aft X.K G Wf σ P ι h H (bnd (zty t w) (fun _ => kk) h) Q) :
    tyV X.K (tyN t) v H ∧ Aft X.K G Wf σ P ι h H (kk h) Q := by
  cases t with
  | true =>
    cases p with
    | str z => exact ⟨rfl, q⟩
    | _ => exact False.elim q
  | false =>
    have q' : Aft X.K G Wf σ P ι h H (bnd (bnd (zseq w) fun q => match q.1 with | true => bad | false => ret ()) (fun _ : Unit => kk) h) Q := q
    have q2 : Aft X.K G Wf σ P ι h H (bnd (zseq w) (fun q => bnd (match q.1 with | true => bad | false => ret ()) (fun _ : Unit => kk)) h) Q := by
      have e : bnd (bnd (zseq w) fun q => match q.1 with | true => bad | false => ret ()) (fun _ : Unit => kk) h = bnd (zseq w) (fun q => bnd (match q.1 with | true => bad | false => ret ()) (fun _ : Unit => kk)) h := by
        unfold bnd
        cases zseq w h <;> rfl
      rw [e] at q'
      exact q'
    obtain ⟨t, ws, ad, vs, e1, sq, rs, a2, tt⟩ := seq_after r p q2
    subst e1
    cases t with
    | true => exact False.elim a2
    | false => exact ⟨.inl ⟨rfl, vs, sq⟩, a2⟩
def zbm (t : Bool) (fw : W → List W → M W) (ma : Ev → M W) (mr : Ev → M (List W)) : Ev → M W := fun ρ => bnd (ma ρ) fun w => bnd (zty t w) fun _ => bnd (mr ρ) fun ws => fw w ws
theorem pz_bm {t : Bool} {name : Str} {fw : W → List W → M W} (pa : PlainAttrs (tyN t)) (slot : Slot (tyN t) name id) (hty : typeOf (.builtin id) = pure (.type "method_descriptor")) (hm : MtZ X G Wf id fw) (ho : PZ b X G Wf o ma) (ha : PZA b X G Wf (e :: es) mr)
    (hst : (e :: es).all (fun e => !isStar e) = true) (hb : noSuper o = true) (hl : (apos.endLine == pos.line) = true) (h29 : (e :: es).length < 29) : PZ b X G Wf (.Call (.Attribute o name apos) (e :: es) [] pos) (zbm t fw ma mr) := by
  refine ⟨fun pins s σ H ι h ρ Q tk I r sr aft => ?_⟩
  refine wpAny_Call_method_late (attrBase_of hb) (few_of (kws := []) hst rfl (by simpa using h29)) hl rfl (thn (ho.run pins s σ H ι h ρ _ tk I r sr (aft.bnd (P := rpW X.K G))) fun u s1 ⟨tk1, v1, H1, I1, r1, ι1, h1, w1, n1, p1, a1⟩ => ?_)
  obtain ⟨ty, a2⟩ := ty_after n1.rep p1 a1
  obtain ⟨t1, t2⟩ := tyV_is I1 r1 ty
  refine ⟨tyN t, id, pa, slot, hty, t1, t2, ?_⟩
  have hA := ha.run pos pins s1 σ H1 ι1 h1 ρ _ tk1 I1 n1.rep (sr.next r n1.toNx0) (a2.bnd (P := rpWs X.K G))
  have hno := starEach_no (env := X.env) (pos := pos) hst
  have h0 : isStar e = false := by
    rw [List.all_cons] at hst
    simpa using (Bool.and_eq_true_iff.mp hst).1
  rw [starEach_cons h0] at hA hno ⊢
  refine Calls.callWith_builtin hno (Calls.evalArgs_plain ?_)
  exact thn hA fun us s2 ⟨tk2, vs, H2, I2, r2, ι2, h2, ws, n2, p2, a3⟩ => withTk tk2 (hm pins s2 σ H2 ι2 h2 w1 v1 u ws vs us Q I2 n2.rep (Rep.next n1.rep n2.toNx0 p1) r1 p2 r2 a3)
end
end Z

namespace Z
open PySem PySem.SeqAt L2
open PyProof.Rows hiding St

section
variable {b : Bool} {X : Cx} {G : Gt} {Wf : WX} {E : ET} {n : Nat} {e o : Expr} {es : List Expr} {m ma : Ev → M W} {mr : Ev → M (List W)} {p pos apos : Pos} {x : Str}
def mAppend (w : W) (ws : List W) : M W := match ws with
  | [x] => bnd (zlref w) fun q => if q.2.length < LIM then bnd (store q.1 (.lst (q.2 ++ [x]))) fun _ => ret .non else bad
  | _ => bad
theorem mt_zappend : MtZ X G Wf "list.append" mAppend := by
  intro pins s σ H ι h w v u ws vs us Q I r p1 r1 p2 r2 aft
  cases p2 with
  | nil => exact False.elim aft
  | cons q qs =>
    cases qs with
    | cons _ _ => exact False.elim aft
    | nil =>
      obtain ⟨i, xs, vs, e1, e2, g, ea, rs, a2⟩ := lref_after r p1 aft
      subst e2
      split at a2
      · rename_i hl
        refine mt_append pins s σ H _ _ u us Q I r1 r2 ⟨_, vs, _, rfl, rfl, ea, by rw [← rs.length, ← lim_eq]; exact hl, ?_⟩
        exact put_after r g (rs.append (.cons q .nil)) a2
      · exact False.elim a2
end
end Z

namespace Z
open PySem L2
open PyProof.Rows hiding St

inductive Fl where
  | next | ret (w : W) | brk | cnt
inductive RS where
  | ok (f : Fl) (ρ : Ev) (h : Hz)
  | exc (c : Nat) (fs : List (Nat × W)) (ρ : Ev) (h : Hz)
  | err
abbrev MS := Ev → Hz → RS
def sbnd {α : Type} (m : M α) (ρ : Ev) (k : α → Hz → RS) : Hz → RS := fun h => match m h with
  | .ok a h' => k a h'
  | .exc c fs h' => .exc c fs ρ h'
  | .err => .err
def sseq (m k : MS) : MS := fun ρ h => match m ρ h with
  | .ok .next ρ' h' => k ρ' h'
  | r => r
def snil : MS := fun ρ h => .ok .next ρ h
def sbad : MS := fun _ _ => .err

section
variable (K : PySem.W.Frag) (G : Gt) (Wf : WX)
def AftS (ι : Nat → Addr) (h : Hz) (H : Hp) (r : RS) (D : Ends) : Prop := match r with
  | .ok .next ρ' h' => ∀ ι' H' σ', Next K G ι h H ι' h' H' → SRep K G ι' h' H' ρ' σ' → D.nx σ' H'
  | .ok (.ret w) _ h' => ∀ ι' H' v, Next K G ι h H ι' h' H' → Rep K G ι' h' H' w v → D.rt v H'
  | .ok .brk ρ' h' => ∀ ι' H' σ', Next K G ι h H ι' h' H' → SRep K G ι' h' H' ρ' σ' → D.bk σ' H'
  | .ok .cnt ρ' h' => ∀ ι' H' σ', Next K G ι h H ι' h' H' → SRep K G ι' h' H' ρ' σ' → D.ct σ' H'
  | .exc c fs ρ' h' => ∀ ι' H' σ' d, Next K G ι h H ι' h' H' → SRep K G ι' h' H' ρ' σ' → XRep K G ι' h' H' fs d → Wf (.ref (G.cl c)) d σ' H'
  | .err => False
end
section
variable {K : PySem.W.Frag} {G : Gt} {Wf : WX} {ι ι1 : Nat → Addr} {h h1 : Hz} {H H1 : Hp} {D : Ends}
theorem AftS.step {r : RS} (a : AftS K G Wf ι h H r D) (n : Next K G ι h H ι1 h1 H1) : AftS K G Wf ι1 h1 H1 r D := by
  cases r with
  | ok f ρ' h' =>
    cases f with
    | next => exact fun ι' H' σ' n' s => a ι' H' σ' (n.trans n') s
    | ret w => exact fun ι' H' v n' p => a ι' H' v (n.trans n') p
    | brk => exact fun ι' H' σ' n' s => a ι' H' σ' (n.trans n') s
    | cnt => exact fun ι' H' σ' n' s => a ι' H' σ' (n.trans n') s
  | exc c fs ρ' h' => exact fun ι' H' σ' d n' s q => a ι' H' σ' d (n.trans n') s q
  | err => exact a
theorem AftS.bnd {α β : Type} {P : RP α β} {m : M α} {ρ : Ev} {σ : St} {k : α → Hz → RS} (a : AftS K G Wf ι h H (sbnd m ρ k h) D) (r : HRep K G ι h H) (sr : SRep K G ι h H ρ σ) :
    Aft K G Wf σ P ι h H (m h) fun v H1 => ∃ ι1 h1 w, Next K G ι h H ι1 h1 H1 ∧ P ι1 h1 H1 w v ∧ SRep K G ι1 h1 H1 ρ σ ∧ AftS K G Wf ι1 h1 H1 (k w h1) D := by
  unfold sbnd at a
  cases e : m h with
  | ok w h' =>
    rw [e] at a
    exact fun ι' H' v n p => ⟨ι', h', w, n, p, sr.next r n.toNx0, AftS.step a n⟩
  | exc c fs h' =>
    rw [e] at a
    exact fun ι' H' d n q => a ι' H' σ d n (sr.next r n.toNx0) q
  | err =>
    rw [e] at a
    exact a
def seqD (K : PySem.W.Frag) (G : Gt) (Wf : WX) (ι : Nat → Addr) (h : Hz) (H : Hp) (k : MS) (D : Ends) : Ends :=
  { D with nx := fun σ' H' => ∃ ι' h' ρ', Next K G ι h H ι' h' H' ∧ SRep K G ι' h' H' ρ' σ' ∧ AftS K G Wf ι' h' H' (k ρ' h') D }
theorem AftS.seq {m k : MS} {ρ : Ev} (a : AftS K G Wf ι h H (sseq m k ρ h) D) : AftS K G Wf ι h H (m ρ h) (seqD K G Wf ι h H k D) := by
  unfold sseq at a
  cases e : m ρ h with
  | ok f ρ' h' =>
    rw [e] at a
    cases f with
    | next => exact fun ι' H' σ' n s => ⟨ι', h', ρ', n, s, AftS.step a n⟩
    | ret w => exact a
    | brk => exact a
    | cnt => exact a
  | exc c fs ρ' h' => rw [e] at a; exact a
  | err => rw [e] at a; exact a
theorem AftS.imp {r : RS} {D' : Ends} (a : AftS K G Wf ι h H r D) (nx : ∀ σ H, D.nx σ H → D'.nx σ H) (rt : ∀ v H, D.rt v H → D'.rt v H) (bk : ∀ σ H, D.bk σ H → D'.bk σ H) (ct : ∀ σ H, D.ct σ H → D'.ct σ H) : AftS K G Wf ι h H r D' := by
  cases r with
  | ok f ρ' h' =>
    cases f with
    | next => exact fun ι' H' σ' n' s => nx _ _ (a ι' H' σ' n' s)
    | ret w => exact fun ι' H' v n' p => rt _ _ (a ι' H' v n' p)
    | brk => exact fun ι' H' σ' n' s => bk _ _ (a ι' H' σ' n' s)
    | cnt => exact fun ι' H' σ' n' s => ct _ _ (a ι' H' σ' n' s)
  | exc c fs ρ' h' => exact a
  | err => exact a
end

structure PZS (b : Bool) (X : Cx) (G : Gt) (Wf : WX) (st : Stmt) (m : MS) : Prop where
  run : ∀ (pins : List (Addr × Obj)) (s : Shared) (σ : St) (H : Hp) (ι : Nat → Addr) (h : Hz) (ρ : Ev) (D : Ends), Tk b s → Inv X pins σ H s → HRep X.K G ι h H → SRep X.K G ι h H ρ σ → AftS X.K G Wf ι h H (m ρ h) D →
    wpAny (model X.prog X.w) X.A (exec st X.env) (fun f s' => Tk b s' ∧ SP X pins D f s') X.xe s
structure PZSs (b : Bool) (X : Cx) (G : Gt) (Wf : WX) (sts : List Stmt) (m : MS) : Prop where
  run : ∀ (pins : List (Addr × Obj)) (s : Shared) (σ : St) (H : Hp) (ι : Nat → Addr) (h : Hz) (ρ : Ev) (D : Ends), Tk b s → Inv X pins σ H s → HRep X.K G ι h H → SRep X.K G ι h H ρ σ → AftS X.K G Wf ι h H (m ρ h) D →
    wpAny (model X.prog X.w) X.A (execs sts X.env) (fun f s' => Tk b s' ∧ SP X pins D f s') X.xe s
abbrev gD (Q : St → Hp → Prop) : Ends := { nx := Q, rt := fun _ _ => False, bk := fun _ _ => False, ct := fun _ _ => False }
structure PZG (b : Bool) (X : Cx) (G : Gt) (Wf : WX) (tg : Expr) (g : W → MS) : Prop where
  run : ∀ (pins : List (Addr × Obj)) (s : Shared) (σ : St) (H : Hp) (ι : Nat → Addr) (h : Hz) (ρ : Ev) (w : W) (v : V) (u : Value) (Q : St → Hp → Prop), Tk b s → Inv X pins σ H s → HRep X.K G ι h H → SRep X.K G ι h H ρ σ → Rep X.K G ι h H w v → RelV v u → AftS X.K G Wf ι h H (g w ρ h) (gD Q) →
    wpAny (model X.prog X.w) X.A (assign tg X.env u) (fun _ s' => Tk b s' ∧ ∃ σ' H', Inv X pins σ' H' s' ∧ Q σ' H') X.xe s
section
variable {b : Bool} {X : Cx} {G : Gt} {Wf : WX} {st : Stmt} {sts : List Stmt} {ms ms2 : MS} {e tg : Expr} {ma : Ev → M W} {nt : Ev → M Bool} {pos : Pos} {g : W → MS}
theorem pzs_bad : PZS b X G Wf st sbad := ⟨fun _ _ _ _ _ _ _ _ _ _ _ _ a => False.elim a⟩
theorem pzss_nil : PZSs b X G Wf [] snil := ⟨fun pins s σ H ι h ρ D tk I r sr a => wpAny_execs_nil ⟨tk, σ, H, I, a ι H σ (Next.refl r) sr⟩⟩
theorem pzss_cons (h1 : PZS b X G Wf st ms) (h2 : PZSs b X G Wf sts ms2) : PZSs b X G Wf (st :: sts) (sseq ms ms2) := by
  refine ⟨fun pins s σ H ι h ρ D tk I r sr a => ?_⟩
  refine wpAny_execs_cons (thn (h1.run pins s σ H ι h ρ _ tk I r sr a.seq) fun f s1 q => ?_)
  cases f with
  | next =>
    obtain ⟨tk1, σ1, H1, I1, ι1, h1, ρ1, n1, sr1, a1⟩ := q
    exact h2.run pins s1 σ1 H1 ι1 h1 ρ1 D tk1 I1 n1.rep sr1 a1
  | ret v => exact q
  | brk => exact q
  | cont => exact q
def sexpr (ma : Ev → M W) : MS := fun ρ => sbnd (ma ρ) ρ fun _ h => .ok .next ρ h
theorem pzs_expr (ha : PZ b X G Wf e ma) (hs : swapsWith e none pos.line X.env = pure false) : PZS b X G Wf (.Expr e pos) (sexpr ma) := by
  refine ⟨fun pins s σ H ι h ρ D tk I r sr a => ?_⟩
  refine wpAny_Expr_any (thn (ha.run pins s σ H ι h ρ _ tk I r sr (a.bnd (P := rpW X.K G) r sr)) fun u s1 ⟨tk1, v1, H1, I1, r1, ι1, h1, w1, n1, p1, sr1, a1⟩ => ?_) I.quiet hs
  exact ⟨tk1, σ, H1, I1, a1 ι1 H1 σ (Next.refl n1.rep) sr1⟩
def sret (ma : Ev → M W) : MS := fun ρ => sbnd (ma ρ) ρ fun w h => .ok (.ret w) ρ h
theorem pzs_ret (ha : PZ b X G Wf e ma) : PZS b X G Wf (.Return (some e) pos) (sret ma) := by
  refine ⟨fun pins s σ H ι h ρ D tk I r sr a => ?_⟩
  refine wpAny_Return_some (thn (ha.run pins s σ H ι h ρ _ tk I r sr (a.bnd (P := rpW X.K G) r sr)) fun u s1 ⟨tk1, v1, H1, I1, r1, ι1, h1, w1, n1, p1, sr1, a1⟩ => ?_)
  exact ⟨tk1, v1, σ, H1, I1, r1, a1 ι1 H1 v1 (Next.refl n1.rep) p1⟩
def sif (nt : Ev → M Bool) (m k : MS) : MS := fun ρ => sbnd (nt ρ) ρ fun t h => if t = true then m ρ h else k ρ h
theorem pzs_if {p q : List Stmt} (ht : PZT b X G Wf e nt) (hp : PZSs b X G Wf p ms) (hq : PZSs b X G Wf q ms2) : PZS b X G Wf (.If e p q pos) (sif nt ms ms2) := by
  refine ⟨fun pins s σ H ι h ρ D tk I r sr a => ?_⟩
  refine wpAny_If (thn (ht.run pins s σ H ι h ρ _ _ rfl tk I r sr (a.bnd (P := rpE) r sr)) fun t s1 ⟨tk1, H1, I1, ι1, h1, t', n1, et, sr1, a1⟩ => ?_)
  cases et
  cases t with
  | true => exact hp.run pins s1 σ H1 ι1 h1 ρ D tk1 I1 n1.rep sr1 a1
  | false => exact hq.run pins s1 σ H1 ι1 h1 ρ D tk1 I1 n1.rep sr1 a1

theorem SRep.set {ι : Nat → Addr} {h : Hz} {H : Hp} {ρ : Ev} {σ : St} {w : W} {v : V} (sr : SRep X.K G ι h H ρ σ) (p : Rep X.K G ι h H w v) (i : Nat) (hl : i < σ.length) : SRep X.K G ι h H (ρ.set i (some w)) (σ.set i (some v)) := by
  refine ⟨by rw [List.length_set, List.length_set]; exact sr.1, ?_⟩
  intro j x e
  by_cases q : i = j
  · subst q
    have hr : i < ρ.length := by
      rcases Nat.lt_or_ge i ρ.length with z | z
      · exact z
      · rw [List.getElem?_eq_none (by simpa using z)] at e; cases e
    rw [List.getElem?_set_self hr] at e
    cases e
    exact ⟨v, List.getElem?_set_self hl, .inl p⟩
  · rw [List.getElem?_set_ne q] at e
    obtain ⟨v', e1, e2⟩ := sr.2 j x e
    exact ⟨v', by rw [List.getElem?_set_ne q]; exact e1, e2⟩
def gname (i : Nat) (w : W) : MS := fun ρ h => .ok .next (ρ.set i (some w)) h
theorem pzg_name {i : Nat} {x : Str} (hN : X.N.Nodup) (hi : X.N[i]? = some x) (hx : Loc X.env.scope x) (hf : X.fn x = true ∨ X.env.scope.names.lookup x = some .local) : PZG b X G Wf (.Name x pos) (gname i) := by
  refine ⟨fun pins s σ H ι h ρ w v u Q tk I r sr p ru a => ?_⟩
  refine withTk tk ((pg_name hN hi hx hf).run pins s σ H v u Q I ru ?_)
  refine a ι H _ (Next.refl r) (sr.set p i ?_)
  rw [I.len]
  exact (List.getElem?_eq_some_iff.mp hi).1
def gnil (ws : List W) : MS := fun ρ h => match ws with
  | [] => .ok .next ρ h
  | _ => .err
def gcons (g : W → MS) (gs : List W → MS) (ws : List W) : MS := match ws with
  | [] => sbad
  | w :: r => sseq (g w) (gs r)
def gtup (n : Nat) (gs : List W → MS) (w : W) : MS := fun ρ => sbnd (zseq w) ρ fun q h => if q.2.length = n then gs q.2 ρ h else .err
def sasg (ma : Ev → M W) (g : W → MS) : MS := fun ρ => sbnd (ma ρ) ρ fun w h => g w ρ h
theorem pzs_asg (ha : PZ b X G Wf e ma) (hg : PZG b X G Wf tg g) (hs : swapsWithSole [tg] e pos.line X.env = pure false) (hw : swappedStores [tg] e X.env = pure none)
    (hE : (assignEach [tg] X.env).map (·.2) = [assign tg X.env]) (hN : ∀ w ρ h f ρ' h', g w ρ h = .ok f ρ' h' → f = .next) : PZS b X G Wf (.Assign [tg] e pos) (sasg ma g) := by
  refine ⟨fun pins s σ H ι h ρ D tk I r sr a => ?_⟩
  refine wpAny_Assign_stores (thn (ha.run pins s σ H ι h ρ _ tk I r sr (a.bnd (P := rpW X.K G) r sr)) fun u s1 ⟨tk1, v1, H1, I1, r1, ι1, h1, w1, n1, p1, sr1, a1⟩ => ?_) hs hw
  rw [hE]
  have a2 : AftS X.K G Wf ι1 h1 H1 (g w1 ρ h1) (gD D.nx) := by
    cases q : g w1 ρ h1 with
    | ok f ρ' h' =>
      rw [q] at a1
      cases hN w1 ρ h1 f ρ' h' q
      exact a1
    | exc c fs ρ' h' => rw [q] at a1; exact a1
    | err => rw [q] at a1; exact a1
  exact thn (hg.run pins s1 σ H1 ι1 h1 ρ w1 v1 u D.nx tk1 I1 n1.rep sr1 p1 r1 a2) fun _ s2 q => q
end
end Z

namespace Z
open PySem L2
open PyProof.Rows hiding St

section
variable {b : Bool} {X : Cx} {G : Gt} {Wf : WX} {st : Stmt} {sts : List Stmt} {ms ms2 : MS} {e tg : Expr} {ma : Ev → M W} {nt : Ev → M Bool} {pos : Pos} {g : W → MS}
def parSet : List Nat → List W → Ev → Ev
  | i :: is, w :: ws, ρ => parSet is ws (ρ.set i (some w))
  | _, _, ρ => ρ
def NmsOk (X : Cx) (ps : List (Nat × Str)) : Prop := ∀ p ∈ ps, X.N[p.1]? = some p.2 ∧ X.env.scope.names.lookup p.2 = some .local
theorem par_run (hN : X.N.Nodup) {pins : List (Addr × Obj)} {H : Hp} {ι : Nat → Addr} {h : Hz} {Q : Unit → Shared → Prop} : ∀ (ps : List (Nat × Str)) (ws : List W) (vs : List V) (us : List Value) (s : Shared) (σ : St) (ρ : Ev), NmsOk X ps → ps.length = us.length → Tk b s → Inv X pins σ H s → SRep X.K G ι h H ρ σ →
    Reps X.K G ι h H ws vs → Vals vs us → (∀ s' σ', Tk b s' → Inv X pins σ' H s' → SRep X.K G ι h H (parSet (ps.map (·.1)) ws ρ) σ' → Q () s') → wpAny (model X.prog X.w) X.A (assignInOrder (ps.map fun p v => bindName X.env p.2 v) us) Q X.xe s
  | [], ws, vs, us, s, σ, ρ, ok, hl, tk, I, sr, rs, rv, k => by
    cases us with
    | nil =>
      refine assignInOrder_nil (k s σ tk I ?_)
      cases ws <;> exact sr
    | cons _ _ => cases hl
  | p :: ps, ws, vs, us, s, σ, ρ, ok, hl, tk, I, sr, rs, rv, k => by
    cases rv with
    | nil => cases hl
    | cons r1 r2 =>
      cases rs with
      | cons q1 q2 =>
        obtain ⟨h1, h2⟩ := ok p (List.mem_cons_self ..)
        show wpAny _ _ (assignInOrder ((fun v => bindName X.env p.2 v) :: ps.map fun p v => bindName X.env p.2 v) _) _ _ s
        refine assignInOrder_cons (wpAny_bindName (wpAny_mono (withTk tk (store_ok (Q := fun _ s' => Inv X pins _ H s') I hN h1 (.inl h2) r1 (fun s' I' => I') (.inr h2))) (fun _ s' q => ?_) fun _ _ z => z))
        have hlen : p.1 < σ.length := by rw [I.len]; exact (List.getElem?_eq_some_iff.mp h1).1
        exact par_run hN ps _ _ _ s' _ _ (fun p' hp' => ok p' (List.mem_cons_of_mem _ hp')) (by simpa using hl) q.1 q.2 (sr.set q1 p.1 hlen) q2 r2 k
theorem Reps.reverse {K : PySem.W.Frag} {ι : Nat → Addr} {h : Hz} {H : Hp} : ∀ {ws : List W} {vs : List V}, Reps K G ι h H ws vs → Reps K G ι h H ws.reverse vs.reverse
  | _, _, .nil => .nil
  | _, _, .cons a r => by
    rw [List.reverse_cons, List.reverse_cons]
    exact Reps.append (Reps.reverse r) (.cons a .nil)
def spar (is : List Nat) (ma : Ev → M W) : MS := fun ρ => sbnd (ma ρ) ρ fun w h => match w with
  | .tup ws => if ws.length = is.length then .ok .next (parSet is.reverse ws.reverse ρ) h else .err
  | _ => .err
theorem pzs_par {ts : List Expr} {kt : Nat} {pt : Pos} {ps : List (Nat × Str)} (hc : X.calm = true) (hN : X.N.Nodup) (ok : NmsOk X ps) (ha : PZ b X G Wf e ma) (hw : swappedStores [.Tuple ts kt pt] e X.env = pure (some (ps.map (·.2)))) (hs : swapsWithSole [.Tuple ts kt pt] e pos.line X.env = pure false) :
    PZS b X G Wf (.Assign [.Tuple ts kt pt] e pos) (spar (ps.map (·.1)) ma) := by
  refine ⟨fun pins s σ H ι h ρ D tk I r sr a => ?_⟩
  rw [exec_Assign_arm]
  refine wpAny_bind (wpAny_standAt ?_)
  rw [hs]
  refine wpAny_bind (wpAny_pure ?_)
  rw [if_neg (by decide)]
  refine wpAny_bind (thn (ha.run pins s σ H ι h ρ _ tk I r sr (a.bnd (P := rpW X.K G) r sr)) fun u s1 ⟨tk1, v1, H1, I1, r1, ι1, h1, w1, n1, p1, sr1, a1⟩ => ?_)
  rw [hw]
  refine wpAny_bind (wpAny_pure ?_)
  cases p1 with
  | @tup ws ad vs sq rs =>
    have a2 : AftS X.K G Wf ι1 h1 H1 (if ws.length = (ps.map (·.1)).length then .ok .next (parSet (ps.map (·.1)).reverse ws.reverse ρ) h1 else .err) D := a1
    split at a2
    · rename_i hl
      cases (show u = Value.ref ad from r1)
      obtain ⟨its, rv, ht, hz⟩ := I1.tuple sq
      have el : its.length = ps.length := by rw [← rv.length, ← rs.length, hl, List.length_map]
      unfold assignStores
      dsimp only
      have el2 : (ps.map (·.2)).length = its.toArray.size := by rw [List.length_map, List.size_toArray, el]
      rw [el2]
      refine wpAny_bind (wpAny_rule (wpAny_bind (unpackItems_tuple (items := its.toArray) (I.ok.hd hc) ht fun h' hx' => ?_)))
      have I3 := I1.kept (h' := h') (t' := s1.toks) fun b o e => hx' b o (Nat.ne_of_lt (Heap.lt_size e)) e
      have e1 : (ps.map (·.2)).reverse.map (fun n v => bindName X.env n v) = ps.reverse.map fun p v => bindName X.env p.2 v := by
        rw [← List.map_reverse, List.map_map]; rfl
      rw [e1]
      refine wpAny_bind (par_run hN ps.reverse ws.reverse vs.reverse its.toArray.toList.reverse { s1 with heap := h' } σ ρ (fun p hp => ok p (List.mem_reverse.mp hp)) (by simp [el]) tk1 I3 sr1 rs.reverse ?_ fun s' σ' tk' I' sr' => wpAny_pure ⟨tk', σ', H1, I', ?_⟩)
      · have : Vals vs.reverse its.reverse := rv.reverse
        simpa using this
      · refine a2 ι1 H1 σ' (Next.refl n1.rep) ?_
        rw [← List.map_reverse]
        exact sr'
    · exact False.elim a2
  | _ => exact False.elim a1

inductive Itz where
  | fix (ws : List W)
  | live (e : Bool) (j : Nat) (xs : List W)
def wrapE (e : Bool) (i : Nat) (w : W) : W := match e with
  | false => w
  | true => .tup [.int i, w]
def zitem (z : Itz) (i : Nat) (h : Hz) : Option (Option W) := match z with
  | .fix ws => some ws[i]?
  | .live e j _ => match h.get j with
    | some (.lst xs) => (match xs[i]? with
      | some w => some (some (wrapE e i w))
      | none => some none)
    | _ => none
def ItOk (K : PySem.W.Frag) (G : Gt) (z : Itz) (J : It) (ι : Nat → Addr) (h : Hz) (H : Hp) : Prop := ∀ (ι' : Nat → Addr) (h' : Hz) (H' : Hp) (i : Nat), Next K G ι h H ι' h' H' → match zitem z i h' with
  | some (some w) => J.go i H' ∧ ∀ x H2, J.yld i H' x H2 → Next K G ι' h' H' ι' h' H2 ∧ Rep K G ι' h' H2 w x
  | some none => (∀ ws, z = .fix ws → i = ws.length) → J.stop i H'
  | none => True
abbrev rpI (K : PySem.W.Frag) (G : Gt) : RP Itz It := fun ι h H z J => ItOk K G z J ι h H
structure PZI (b : Bool) (X : Cx) (G : Gt) (Wf : WX) (tg iter : Expr) (m : Ev → M Itz) : Prop where
  run : ∀ (pins : List (Addr × Obj)) (s : Shared) (σ : St) (H : Hp) (ι : Nat → Addr) (h : Hz) (ρ : Ev) (R : It → Hp → Prop), Tk b s → Inv X pins σ H s → HRep X.K G ι h H → SRep X.K G ι h H ρ σ → Aft X.K G Wf σ (rpI X.K G) ι h H (m ρ h) R →
    wpAny (model X.prog X.w) X.A (eval iter X.env) (fun v s1 => wpAny (model X.prog X.w) X.A (pyIter v) (fun itv s2 => Tk b s2 ∧ PIE X pins σ tg R itv s2) X.xe s1) X.xe s
def floop (g : W → MS) (m : MS) (k : MS) (w : W) : MS := fun ρ h => match g w ρ h with
  | .ok f ρ1 h1 => match f with
    | .next => match m ρ1 h1 with
      | .ok f2 ρ2 h2 => match f2 with
        | .next => k ρ2 h2
        | .cnt => k ρ2 h2
        | .brk => .ok .next ρ2 h2
        | .ret x => .ok (.ret x) ρ2 h2
      | .exc c fs ρ2 h2 => .exc c fs ρ2 h2
      | .err => .err
    | _ => .err
  | .exc c fs ρ1 h1 => .exc c fs ρ1 h1
  | .err => .err
def sloopF (g : W → MS) (m : MS) : List W → MS
  | [] => snil
  | w :: ws => floop g m (sloopF g m ws) w
def sloopL (e : Bool) (g : W → MS) (m : MS) (j : Nat) : List W → Nat → MS
  | fuel, i => fun ρ h => match h.get j with
    | some (.lst xs) => match xs[i]? with
      | none => .ok .next ρ h
      | some w => match fuel with
        | [] => .err
        | _ :: fuel => floop g m (sloopL e g m j fuel (i + 1)) (wrapE e i w) ρ h
    | _ => .err
def sloop (g : W → MS) (m : MS) (z : Itz) : MS := match z with
  | .fix ws => sloopF g m ws
  | .live e j xs => sloopL e g m j xs 0
def srest (g : W → MS) (m : MS) (z : Itz) (n i : Nat) : MS := match z with
  | .fix ws => sloopF g m (ws.drop i)
  | .live e j _ => fun ρ h => sloopL e g m j (List.replicate n .non) i ρ h
theorem sloopL_fuel (e : Bool) (g : W → MS) (m : MS) (j : Nat) : ∀ (f f2 : List W) (i : Nat), f.length = f2.length → sloopL e g m j f i = sloopL e g m j f2 i
  | [], [], i, _ => rfl
  | a :: f, b :: f2, i, hl => by
    have ih := sloopL_fuel e g m j f f2 (i + 1) (by simpa using hl)
    funext ρ h
    unfold sloopL
    dsimp only
    rw [ih]
  | [], _ :: _, _, hl => by cases hl
  | _ :: _, [], _, hl => by cases hl
theorem srest_at {g : W → MS} {m : MS} {z : Itz} {n i : Nat} {ρ : Ev} {h : Hz} (ne : srest g m z n i ρ h ≠ .err) (hn : ∀ ws, z = .fix ws → n + i = ws.length) :
    (zitem z i h = some none ∧ srest g m z n i ρ h = .ok .next ρ h ∧ ∀ ws, z = .fix ws → i = ws.length) ∨ ∃ w n', n = n' + 1 ∧ zitem z i h = some (some w) ∧ srest g m z n i ρ h = floop g m (srest g m z n' (i + 1)) w ρ h := by
  cases z with
  | fix ws =>
    have hl := hn ws rfl
    cases n with
    | zero =>
      refine .inl ⟨?_, ?_, fun ws' e => by cases e; omega⟩
      · show some ws[i]? = some none
        rw [List.getElem?_eq_none (by omega)]
      · show sloopF g m (ws.drop i) ρ h = _
        rw [List.drop_of_length_le (by omega)]
        rfl
    | succ n =>
      have hi : i < ws.length := by omega
      refine .inr ⟨ws[i], n, rfl, ?_, ?_⟩
      · show some ws[i]? = some (some ws[i])
        rw [List.getElem?_eq_getElem hi]
      · show sloopF g m (ws.drop i) ρ h = _
        rw [List.drop_eq_getElem_cons hi]
        rfl
  | live e j ys =>
    have e0 : srest g m (.live e j ys) n i ρ h = sloopL e g m j (List.replicate n .non) i ρ h := rfl
    rw [e0] at ne ⊢
    unfold sloopL at ne ⊢
    cases gj : h.get j with
    | none => rw [gj] at ne; exact absurd rfl ne
    | some c =>
      cases c with
      | lst xs =>
        have ez : zitem (.live e j ys) i h = (match xs[i]? with | some w => some (some (wrapE e i w)) | none => some none) := by
          unfold zitem
          simp only [gj]
        rw [gj] at ne
        simp only at ne ⊢
        cases gx : xs[i]? with
        | none =>
          refine .inl ⟨by rw [ez, gx], ?_, fun ws' e => by cases e⟩
          simp only [gx]
        | some w =>
          cases n with
          | zero =>
            rw [gx] at ne
            exact absurd rfl ne
          | succ n =>
            refine .inr ⟨wrapE e i w, n, rfl, by rw [ez, gx], ?_⟩
            simp only [gx, List.replicate_succ]
            rfl
      | ins c fs => rw [gj] at ne; exact absurd rfl ne
      | dct kvs => rw [gj] at ne; exact absurd rfl ne
      | dead => rw [gj] at ne; exact absurd rfl ne
theorem floop_split {ι : Nat → Addr} {h : Hz} {H : Hp} {ρ : Ev} {w : W} {k : MS} {D : Ends} (a : AftS X.K G Wf ι h H (floop g ms k w ρ h) D) : AftS X.K G Wf ι h H (g w ρ h) (gD fun σ1 H1 => ∃ ι1 h1 ρ1, Next X.K G ι h H ι1 h1 H1 ∧ SRep X.K G ι1 h1 H1 ρ1 σ1 ∧
    AftS X.K G Wf ι1 h1 H1 (ms ρ1 h1) { nx := fun σ' H' => ∃ ι' h' ρ', Next X.K G ι1 h1 H1 ι' h' H' ∧ SRep X.K G ι' h' H' ρ' σ' ∧ AftS X.K G Wf ι' h' H' (k ρ' h') D, rt := D.rt, bk := D.nx, ct := fun σ' H' => ∃ ι' h' ρ', Next X.K G ι1 h1 H1 ι' h' H' ∧ SRep X.K G ι' h' H' ρ' σ' ∧ AftS X.K G Wf ι' h' H' (k ρ' h') D }) := by
  unfold floop at a
  cases q : g w ρ h with
  | err => rw [q] at a; exact a
  | exc c fs ρ1 h1 => rw [q] at a; exact a
  | ok f ρ1 h1 =>
    rw [q] at a
    cases f with
    | next =>
      intro ι1 H1 σ1 n1 sr1
      refine ⟨ι1, h1, ρ1, n1, sr1, ?_⟩
      have a1 : AftS X.K G Wf ι h H (match ms ρ1 h1 with
        | .ok f2 ρ2 h2 => match f2 with
          | .next => k ρ2 h2
          | .cnt => k ρ2 h2
          | .brk => .ok .next ρ2 h2
          | .ret x => .ok (.ret x) ρ2 h2
        | .exc c fs ρ2 h2 => .exc c fs ρ2 h2
        | .err => .err) D := a
      have a2 := AftS.step a1 n1
      cases q2 : ms ρ1 h1 with
      | ok f2 ρ2 h2 =>
        rw [q2] at a2
        cases f2 with
        | next => exact fun ι' H' σ' n' s' => ⟨ι', h2, ρ2, n', s', AftS.step a2 n'⟩
        | cnt => exact fun ι' H' σ' n' s' => ⟨ι', h2, ρ2, n', s', AftS.step a2 n'⟩
        | brk => exact a2
        | ret x => exact a2
      | exc c fs ρ2 h2 => rw [q2] at a2; exact a2
      | err => rw [q2] at a2; exact a2
    | ret x => exact False.elim a
    | brk => exact False.elim a
    | cnt => exact False.elim a
def sfor (mi : Ev → M Itz) (g : W → MS) (m : MS) : MS := fun ρ => sbnd (mi ρ) ρ fun z h => sloop g m z ρ h
theorem pzs_for {iter : Expr} {body : List Stmt} {mi : Ev → M Itz} (hp : PassesOwn (model X.prog X.w) X.A X.env X.xe) (hc : X.calm = true) (hi : PZI b X G Wf tg iter mi) (hg : PZG b X G Wf tg g) (hb : PZSs b X G Wf body ms) (hs : ∀ x, foldedSetIterable iter X.env x = pure x) : PZS b X G Wf (.For tg iter body [] pos) (sfor mi g ms) := by
  refine ⟨fun pins s σ H ι h ρ D tk I r sr a => ?_⟩
  refine wpAny_For (thn (hi.run pins s σ H ι h ρ _ tk I r sr (a.bnd (P := rpI X.K G) r sr)) fun v s1 h1 => thn h1 fun itv s2 h2 => ?_) hs
  obtain ⟨tk2, it, fp, tn, J, H2, e, I2, T, st2, f2, ι2, hz2, z, n2, ok2, sr2, a2⟩ := h2
  have rp2 := n2.rep
  subst e
  have stat : ∀ {H' : Hp}, (∀ b ∈ fp, H' b = none) → ∀ b ∈ fp, FpOk X pins H' b := fun hn b hb => ⟨hn b hb, (f2 b hb).2⟩
  have fuel : ∃ n, (∀ ws, z = .fix ws → n + 0 = ws.length) ∧ sloop g ms z ρ hz2 = srest g ms z n 0 ρ hz2 := by
    cases z with
    | fix ws => exact ⟨ws.length, fun ws' e => by cases e; rfl, rfl⟩
    | live eb j xs => exact ⟨xs.length, fun ws' e => (by cases e), by
        show sloopL eb g ms j xs 0 ρ hz2 = sloopL eb g ms j (List.replicate xs.length .non) 0 ρ hz2
        rw [sloopL_fuel eb g ms j xs (List.replicate xs.length .non) 0 (by simp)]⟩
  obtain ⟨n0, hn0, en0⟩ := fuel
  rw [en0] at a2
  refine codeAny_forLoop_any (fun n s' => ∃ i σ' H' ι' h' ρ', Tk b s' ∧ Inv X pins σ' H' s' ∧ tn i s'.heap ∧ (∀ b ∈ fp, H' b = none) ∧ Next X.K G ι2 hz2 H2 ι' h' H' ∧ SRep X.K G ι' h' H' ρ' σ' ∧ (∀ ws, z = .fix ws → n + i = ws.length) ∧ AftS X.K G Wf ι' h' H' (srest g ms z n i ρ' h') D) ?_ n0
    ⟨0, σ, H2, ι2, hz2, ρ, tk2, I2, st2, fun b hb => (f2 b hb).1, Next.refl rp2, sr2, hn0, a2⟩
  rintro n s3 ⟨i, σ3, H3, ι3, h3, ρ3, tk3, I3, st3, fr3, n3, sr3, hl3, a3⟩
  have ne : srest g ms z n i ρ3 h3 ≠ .err := fun q => by rw [q] at a3; exact a3
  have okt := ok2 ι3 h3 H3 i n3
  rcases srest_at ne hl3 with ⟨ez, er, el⟩ | ⟨w, n', hn', ez, er⟩
  · rw [ez] at okt
    rw [er] at a3
    refine wpAny_passesOwn hp (thn (withTk tk3 (T.done X rfl rfl rfl hc i pins s3 σ3 H3 X.xe I3 (stat fr3) st3 (okt el))) fun r s4 ⟨tk4, hr, I4⟩ => ?_)
    subst hr
    exact wpAny_passesOwn hp (wpAny_execs_nil ⟨tk4, σ3, H3, I4, a3 ι3 H3 σ3 (Next.refl n3.rep) sr3⟩)
  · rw [ez] at okt
    rw [er] at a3
    obtain ⟨go, yl⟩ := okt
    refine wpAny_passesOwn hp (thn (withTk tk3 (T.item X rfl rfl rfl hc i pins s3 σ3 H3 X.xe I3 (stat fr3) st3 go)) fun r s4 ⟨tk4, u, hr, h4⟩ => ?_)
    subst hr
    refine wpAny_passesOwn hp (thn (withTk tk4 h4) fun _ s5 ⟨tk5, x, H5, I5, r5, y5, st5, fr5⟩ => ?_)
    have I5' := I5.pinned (stat fr5) (T.obj _ _ st5)
    obtain ⟨n5, p5⟩ := yl x H5 y5
    have a5 := floop_split (AftS.step a3 n5)
    refine wpAny_passesOwn hp (thn (hg.run _ s5 σ3 H5 ι3 h3 ρ3 w x u _ tk5 I5' n5.rep (sr3.next n3.rep n5.toNx0) p5 r5 a5) fun _ s6 ⟨tk6, σ6, H6, I6, ι6, h6, ρ6, n6, sr6, a6⟩ => ?_)
    refine wpAny_passesOwn hp (thn (hb.run _ s6 σ6 H6 ι6 h6 ρ6 _ tk6 I6 n6.rep sr6 a6) fun f s7 q7 => ?_)
    have again : ∀ {σ7 : St} {H7 : Hp}, Tk b s7 → Inv X (pins ++ pinsAt fp s5.heap) σ7 H7 s7 → (∃ ι' h' ρ', Next X.K G ι6 h6 H6 ι' h' H7 ∧ SRep X.K G ι' h' H7 ρ' σ7 ∧ AftS X.K G Wf ι' h' H7 (srest g ms z n' (i + 1) ρ' h') D) →
        ∃ m, m < n ∧ ∃ i σ' H' ι' h' ρ', Tk b s7 ∧ Inv X pins σ' H' s7 ∧ tn i s7.heap ∧ (∀ b ∈ fp, H' b = none) ∧ Next X.K G ι2 hz2 H2 ι' h' H' ∧ SRep X.K G ι' h' H' ρ' σ' ∧ (∀ ws, z = .fix ws → m + i = ws.length) ∧ AftS X.K G Wf ι' h' H' (srest g ms z m i ρ' h') D := fun {σ7 H7} tk7 I7 ⟨ι7, h7, ρ7, n7, sr7, a7⟩ => by
      refine ⟨n', by omega, i + 1, σ7, H7, ι7, h7, ρ7, tk7, I7.unpinned, T.keep _ _ _ st5 fun b hb o e => (I7.pin (b, o) (List.mem_append_right _ (List.mem_append_right _ (mem_pinsAt hb e)))).1, fun b hb => ?_, ((n3.trans n5).trans n6).trans n7, sr7, fun ws ew => by have := hl3 ws ew; omega, a7⟩
      obtain ⟨o, e, d⟩ := T.obj _ _ st5 b hb
      exact (I7.pin (b, o) (List.mem_append_right _ (List.mem_append_right _ (mem_pinsAt hb e)))).2.1
    cases f with
    | next => obtain ⟨tk7, σ7, H7, I7, q7⟩ := q7; exact again tk7 I7 q7
    | cont => obtain ⟨tk7, σ7, H7, I7, q7⟩ := q7; exact again tk7 I7 q7
    | brk => obtain ⟨tk7, σ7, H7, I7, q7⟩ := q7; exact ⟨tk7, σ7, H7, I7.unpinned, q7⟩
    | ret v => obtain ⟨tk7, x7, σ7, H7, I7, r7, q7⟩ := q7; exact ⟨tk7, x7, σ7, H7, I7.unpinned, r7, q7⟩
end
end Z

namespace Z
open PySem L2
open PyProof.Rows hiding St

section
variable {b : Bool} {X : Cx} {G : Gt} {Wf : WX} {e tg : Expr} {ma : Ev → M W} {mr : Ev → M (List W)} {pos p : Pos} {K : PySem.W.Frag} {ι : Nat → Addr} {h : Hz} {H : Hp}
def zitOf (w : W) : M Itz := match w with
  | .str s => ret (.fix (s.map fun c => .str [c]))
  | .tup ws => ret (.fix ws)
  | .fz ws => ret (.fix ws)
  | .ref j => fun h => match h.get j with
    | some (.lst xs) => .ok (.live false j xs) h
    | _ => .err
  | _ => bad
def zit (ma : Ev → M W) : Ev → M Itz := fun ρ => bnd (ma ρ) zitOf
def rangeW (lo : Int) : Nat → List W
  | 0 => []
  | n + 1 => .int lo :: rangeW (lo + 1) n
theorem rangeW_get (n : Nat) : ∀ (lo : Int) (i : Nat), (rangeW lo n)[i]? = if i < n then some (.int (lo + i)) else none := by
  induction n with
  | zero => intro lo i; simp [rangeW]
  | succ n ih =>
    intro lo i
    cases i with
    | zero => simp [rangeW]
    | succ i =>
      show (rangeW (lo + 1) n)[i]? = _
      rw [ih]
      by_cases c : i < n
      · rw [if_pos c, if_pos (by omega)]
        have : lo + 1 + (i : Int) = lo + ((i + 1 : Nat) : Int) := by omega
        rw [this]
      · rw [if_neg c, if_neg (by omega)]
theorem itok_range {lo : Int} {n : Nat} : ItOk K G (.fix (rangeW lo n)) (Itr lo n) ι h H := by
  intro ι' h' H' i nx
  show (match some (rangeW lo n)[i]? with | some (some w) => _ | some none => _ | none => True)
  rw [rangeW_get]
  by_cases c : i < n
  · rw [if_pos c]
    refine ⟨c, fun x H2 y => ?_⟩
    obtain ⟨rfl, rfl⟩ := y
    exact ⟨Next.refl nx.rep, .int _⟩
  · rw [if_neg c]
    exact fun _ => Nat.le_of_not_lt c
def P62 : Int := 4611686018427387904
def rgOk (i j : Int) : Bool := decide (-P62 ≤ i) && decide (i < P62) && decide (-P62 ≤ j) && decide (j < P62)
theorem rgOk_of {i j : Int} (h : rgOk i j = true) : (-(2 ^ 62) ≤ i ∧ i < 2 ^ 62) ∧ -(2 ^ 62) ≤ j ∧ j < 2 ^ 62 := by
  unfold rgOk P62 at h
  simp only [Bool.and_eq_true, decide_eq_true_eq] at h
  obtain ⟨⟨⟨h1, h2⟩, h3⟩, h4⟩ := h
  exact ⟨⟨h1, h2⟩, h3, h4⟩
def zrange (ws : List W) : M Itz := match ws with
  | [.int j] => if rgOk 0 j = true then ret (.fix (rangeW 0 j.toNat)) else bad
  | [.int i, .int j] => if rgOk i j = true then ret (.fix (rangeW i (j - i).toNat)) else bad
  | _ => bad
def zitR (mr : Ev → M (List W)) : Ev → M Itz := fun ρ => bnd (mr ρ) zrange
theorem pzi_range {e : Expr} {es : List Expr} (hg : Gl X "range") (hm : X.mg "range" = none) (ha : PZA b X G Wf (e :: es) mr) (hst : (e :: es).all (fun e => !isStar e) = true) : PZI b X G Wf tg (.Call (.Name "range" p) (e :: es) [] pos) (zitR mr) := by
  refine ⟨fun pins s σ H ι h ρ R tk I r sr aft => ?_⟩
  have h1 : isStar e = false := by
    rw [List.all_cons] at hst
    simpa using (Bool.and_eq_true_iff.mp hst).1
  have h2 : es.all (fun e => !isStar e) = true := by
    rw [List.all_cons] at hst
    exact (Bool.and_eq_true_iff.mp hst).2
  refine Call_ (ld_blt I hg hm boot_range (PyProof.Rows.callWith_type1 (thn (ha.run pos pins s σ H ι h ρ _ tk I r sr (aft.bnd (P := rpWs X.K G))) fun us s1 ⟨tk1, vs, H1, I1, r1, ι1, h1, ws, n1, p1, a1⟩ => ?_) (starEach_cons h1) (starEach_no h2)))
  have fin : ∀ {t : Sem Value} {Q : Value → Shared → Prop}, wpAny (model X.prog X.w) X.A t (fun v s' => wpAny (model X.prog X.w) X.A (pyIter v) (PIE X pins σ tg R) X.xe s') X.xe s1 →
      wpAny (model X.prog X.w) X.A t (fun v s' => wpAny (model X.prog X.w) X.A (pyIter v) (fun itv s2 => Tk b s2 ∧ PIE X pins σ tg R itv s2) X.xe s') X.xe s1 := fun {t Q} q => thn (withTk tk1 q) fun v s' ⟨tk', q'⟩ => withTk tk' q'
  refine fin (Q := fun _ _ => True) ?_
  cases p1 with
  | nil => exact False.elim a1
  | cons q1 q2 =>
    cases q1 with
    | int i =>
      cases q2 with
      | nil =>
        have a2 : Aft X.K G Wf σ (rpI X.K G) ι1 h1 H1 ((if rgOk 0 i = true then ret (.fix (rangeW 0 i.toNat)) else bad) h1) R := a1
        split at a2
        · rename_i hc
          obtain ⟨_, g3, g4⟩ := rgOk_of hc
          obtain ⟨u, rfl, ru⟩ := r1.one
          obtain ⟨t, rfl⟩ := ru
          have q : R (Itr 0 i.toNat) H1 := a2 ι1 H1 _ (Next.refl n1.rep) itok_range
          exact call_range_1 (range_it I1 (by omega) (by omega) g3 g4 (by simpa using q))
        · exact False.elim a2
      | cons q3 q4 =>
        cases q3 with
        | int j =>
          cases q4 with
          | nil =>
            have a2 : Aft X.K G Wf σ (rpI X.K G) ι1 h1 H1 ((if rgOk i j = true then ret (.fix (rangeW i (j - i).toNat)) else bad) h1) R := a1
            split at a2
            · rename_i hc
              obtain ⟨⟨g1, g2⟩, g3, g4⟩ := rgOk_of hc
              obtain ⟨u, u', rfl, ru, ru'⟩ := r1.two
              obtain ⟨t, rfl⟩ := ru
              obtain ⟨t', rfl⟩ := ru'
              exact call_range_2 (range_it I1 g1 g2 g3 g4 (a2 ι1 H1 _ (Next.refl n1.rep) itok_range))
            · exact False.elim a2
          | cons _ _ => exact False.elim a1
        | _ => cases q4 <;> exact False.elim a1
    | _ => cases q2 <;> exact False.elim a1
end
end Z

namespace PySem
open Sem (wp)
open AutoSeq1 (wpAny_loadPart')
end PySem
namespace Z
open PySem L2
open PyProof.Rows hiding St
section
variable {b : Bool} {X : Cx} {G : Gt} {Wf : WX} {e tg : Expr} {ma : Ev → M W} {mr : Ev → M (List W)} {pos p : Pos} {K : PySem.W.Frag} {ι : Nat → Addr} {h : Hz} {H : Hp}
def enumW (i : Nat) : List W → List W
  | [] => []
  | w :: ws => .tup [.int (i : Nat), w] :: enumW (i + 1) ws
def zenum (w : W) : M Itz := match w with
  | .str s => ret (.fix (enumW 0 (s.map fun c => .str [c])))
  | .tup ws => ret (.fix (enumW 0 ws))
  | .fz ws => ret (.fix (enumW 0 ws))
  | .ref j => fun h => match h.get j with
    | some (.lst xs) => .ok (.live true j xs) h
    | _ => .err
  | _ => bad
def zitE (ma : Ev → M W) : Ev → M Itz := fun ρ => bnd (ma ρ) zenum
end
end Z

namespace Z
open PySem L2
open PyProof.Rows hiding St

section
variable {K : PySem.W.Frag} {G : Gt} {ι ι1 ι' : Nat → Addr} {h h1 h' : Hz} {H H1 H' : Hp}
def loose : HO → Bool
  | .lst _ => true
  | .dK _ => true
  | _ => false
theorem lv_push {D a : Addr} {ws : List W} {xs : List V} {C dx : Addr} {gs : List (Str × V)} (e : H D = some (.lst xs)) (ea : H a = some (.ins C dx gs)) (l : ¬ LvAt ι h a) : ¬ LvAt (ext1 ι h.n D) (h.push (.lst ws)) a := by
  rintro ⟨i, c, g, lc, q⟩
  rw [Hz.get_push] at g
  by_cases hi : i = h.n
  · rw [hi, ext1_at] at q
    subst q
    rw [e] at ea
    cases ea
  · rw [if_neg hi] at g
    rw [ext1_lt (Hz.get_lt g)] at q
    exact l ⟨i, c, g, lc, q⟩
mutual
theorem Rep.push (D : Addr) {ws : List W} {xs : List V} (nl : ¬ LvAt ι h D) (e : H D = some (.lst xs)) : ∀ {w : W} {v : V}, Rep K G ι h H w v → Rep K G (ext1 ι h.n D) (h.push (.lst ws)) H w v
  | _, _, .non => .non
  | _, _, .bl b => .bl b
  | _, _, .int i => .int i
  | _, _, .str s => .str s
  | _, _, .tup sq q => .tup sq (Reps.push D nl e q)
  | _, _, .fz sq q => .fz sq (Reps.push D nl e q)
  | _, _, .obj z l nn q => .obj z (lv_push e z l) nn (RepF.push D nl e q)
  | _, _, .ref i hi => by
    have z : Rep K G (ext1 ι h.n D) (h.push (.lst ws)) H (.ref i) (.ref (ext1 ι h.n D i)) := .ref i (Nat.lt_succ_of_lt hi)
    rw [ext1_lt hi] at z
    exact z
  | _, _, .fn i => .fn i
  | _, _, .cl i => .cl i
theorem Reps.push (D : Addr) {ws : List W} {xs : List V} (nl : ¬ LvAt ι h D) (e : H D = some (.lst xs)) : ∀ {us : List W} {vs : List V}, Reps K G ι h H us vs → Reps K G (ext1 ι h.n D) (h.push (.lst ws)) H us vs
  | _, _, .nil => .nil
  | _, _, .cons a b => .cons (Rep.push D nl e a) (Reps.push D nl e b)
theorem RepF.push (D : Addr) {ws : List W} {xs : List V} (nl : ¬ LvAt ι h D) (e : H D = some (.lst xs)) : ∀ {fs : List (Nat × W)} {gs : List (Str × V)}, RepF K G ι h H fs gs → RepF K G (ext1 ι h.n D) (h.push (.lst ws)) H fs gs
  | _, _, .nil => .nil
  | _, _, .cons a b => .cons (Rep.push D nl e a) (RepF.push D nl e b)
end
end
inductive CT where
  | nm (i : Nat)
  | tp (is : List Nat)
def CT.own : CT → List Nat
  | .nm i => [i]
  | .tp is => is
def setAll : List Nat → List W → Ev → Option Ev
  | [], [], ρ => some ρ
  | i :: is, w :: ws, ρ => setAll is ws (ρ.set i (some w))
  | _, _, _ => none
def setCT (ct : CT) (w : W) (ρ : Ev) : Option Ev := match ct with
  | .nm i => some (ρ.set i (some w))
  | .tp is => match w with
    | .tup ws => setAll is ws ρ
    | _ => none
def wipeW (ρ : Ev) : List Nat → Ev
  | [] => ρ
  | v :: vs => (wipeW ρ vs).set v none
def clz (z : Itz) (ct : CT) (nt : Ev → M Bool) (me : Ev → M W) (ρ : Ev) : List W → Nat → M (List W)
  | fuel, i => fun h => match zitem z i h with
    | none => .err
    | some none => .ok [] h
    | some (some w) => match fuel with
      | [] => .err
      | _ :: fuel => match setCT ct w ρ with
        | none => .err
        | some ρ2 => bnd (noex (nt ρ2)) (fun t => match t with
          | true => bnd (noex (me ρ2)) fun y => bnd (clz z ct nt me ρ fuel (i + 1)) fun ys => ret (y :: ys)
          | false => clz z ct nt me ρ fuel (i + 1)) h
section
variable {z : Itz} {ct : CT} {nt : Ev → M Bool} {me : Ev → M W} {ρ ρ2 : Ev} {fuel : List W} {i : Nat} {h : Hz} {w f : W}
theorem clz_stop (e : zitem z i h = some none) : clz z ct nt me ρ fuel i h = .ok [] h := by unfold clz; simp only [e]
theorem clz_go (e : zitem z i h = some (some w)) (e2 : setCT ct w ρ = some ρ2) : clz z ct nt me ρ (f :: fuel) i h = bnd (noex (nt ρ2)) (fun t => match t with
    | true => bnd (noex (me ρ2)) fun y => bnd (clz z ct nt me ρ fuel (i + 1)) fun ys => ret (y :: ys)
    | false => clz z ct nt me ρ fuel (i + 1)) h := by conv => lhs; unfold clz; simp only [e, e2]
end
def Itz.fuel : Itz → List W
  | .fix ws => ws
  | .live _ _ xs => xs
def zlc (vs : List Nat) (mi : Ev → M Itz) (ct : CT) (nt : Ev → M Bool) (me : Ev → M W) : Ev → M W := fun ρ => bnd (mi ρ) fun z => bnd (clz z ct nt me (wipeW ρ vs) z.fuel 0) fun ys => if ys.length ≤ LIM then new (.lst ys) else bad
abbrev W0 : WX := fun _ _ _ _ => False
end Z

namespace Z
open PySem L2
open PyProof.Rows hiding St

section
variable {b : Bool} {X : Cx} {G : Gt} {Wf : WX} {e o : Expr} {es : List Expr} {ma mo : Ev → M W} {mr : Ev → M (List W)} {pos p apos : Pos} {x : Str} {k : Nat}
theorem pz_glob {w : W} {v : V} {u : Value} (hg : Gl X x) (hm : X.mg x = some u) (r : RelV v u) (hd : (x == ("__debug__" : Str)) = false) (hr : ∀ ι h H, HRep X.K G ι h H → Rep X.K G ι h H w v) : PZ b X G Wf (.Name x pos) (fun _ => ret w) :=
  pz_c (pe_glob hg hm r hd) hr

def putW (f : Nat) (w : W) : List (Nat × W) → List (Nat × W)
  | [] => [(f, w)]
  | (g, x) :: r => match Nat.beq g f with
    | true => (g, w) :: r
    | false => (g, x) :: putW f w r
theorem RepF.put {K : PySem.W.Frag} {ι : Nat → Addr} {h : Hz} {H : Hp} (nj : NmInj G) {f : Nat} {w : W} {v : V} (p : Rep K G ι h H w v) : ∀ {fs : List (Nat × W)} {gs : List (Str × V)}, RepF K G ι h H fs gs → RepF K G ι h H (putW f w fs) (putF (G.nm f) v gs)
  | _, _, .nil => .cons p .nil
  | _, _, .cons (f := g) (w := x) (v := y) (fs := fs) (gs := gs) q r => by
    show RepF K G ι h H (match Nat.beq g f with | true => (g, w) :: fs | false => (g, x) :: putW f w fs) (if G.nm g = G.nm f then (G.nm g, v) :: gs else (G.nm g, y) :: putF (G.nm f) v gs)
    cases e : Nat.beq g f with
    | true =>
      have e1 : g = f := Nat.eq_of_beq_eq_true e
      rw [if_pos (by rw [e1])]
      exact .cons p r
    | false =>
      have e1 : g ≠ f := Nat.ne_of_beq_eq_false e
      rw [if_neg (fun z => e1 (nj g f z))]
      exact .cons q (RepF.put nj p r)
theorem RepF.length {K : PySem.W.Frag} {ι : Nat → Addr} {h : Hz} {H : Hp} : ∀ {fs : List (Nat × W)} {gs : List (Str × V)}, RepF K G ι h H fs gs → fs.length = gs.length
  | _, _, .nil => rfl
  | _, _, .cons _ r => congrArg Nat.succ (RepF.length r)
def sfldW (cs : List Nat) (f : Nat) (w y : W) : M Unit := match w with
  | .ref i => fun h => match h.get i with
    | some (.ins c fs) => if (cs.contains c && decide (fs.length < 1000)) = true then store i (.ins c (putW f y fs)) h else .err
    | _ => .err
  | _ => bad
def sfld (cs : List Nat) (f : Nat) (mo ma : Ev → M W) : MS := fun ρ => sbnd (ma ρ) ρ fun y => sbnd (mo ρ) ρ fun w => sbnd (sfldW cs f w y) ρ fun _ h => .ok .next ρ h
theorem pzs_fld {cs : List Nat} {f : Nat} {pos' : Pos} (nj : NmInj G) (hx : G.nm f = x) (hn : NoAt X.K G f cs) (ho : PZ b X G Wf o mo) (ha : PZ b X G Wf e ma) (hs : swapsWith e (some (.Attribute o x pos')) pos.line X.env = pure false) :
    PZS b X G Wf (.Assign [.Attribute o x pos'] e pos) (sfld cs f mo ma) := by
  subst hx
  refine ⟨fun pins s σ H ι h ρ D tk I r sr a => ?_⟩
  refine plainObj_wpAny_Assign_Attribute (thn (ha.run pins s σ H ι h ρ _ tk I r sr (a.bnd (P := rpW X.K G) r sr)) fun u s1 ⟨tk1, v1, H1, I1, r1, ι1, h1, w1, n1, p1, sr1, a1⟩ => ?_) hs
  refine thn (ho.run pins s1 σ H1 ι1 h1 ρ _ tk1 I1 n1.rep sr1 (AftS.bnd (P := rpW X.K G) a1 n1.rep sr1)) fun ov s2 ⟨tk2, v2, H2, I2, r2, ι2, h2, w2, n2, p2, sr2, a2⟩ => ?_
  have p1' := Rep.next n1.rep n2.toNx0 p1
  cases p2 with
  | ref i hi =>
    have bad_ : sfldW cs f (.ref i) w1 h2 = .err → False := fun e => by
      unfold sbnd at a2
      rw [e] at a2
      exact a2
    cases g : h2.get i with
    | none => exact (bad_ (by unfold sfldW; simp only [g])).elim
    | some c =>
      cases c with
      | ins c fs =>
        obtain ⟨dx, gs, ea, rf⟩ := n2.rep.cell i _ g
        by_cases hc : (cs.contains c && decide (fs.length < 1000)) = true
        · have e : sfldW cs f (.ref i) w1 h2 = .ok () (h2.put i (.ins c (putW f w1 fs))) := by
            unfold sfldW store
            simp only [g, hc, if_true]
          unfold sbnd at a2
          rw [e] at a2
          have hcs : c ∈ cs := by
            have := (Bool.and_eq_true_iff.mp hc).1
            simpa using this
          have hlen : fs.length < 1000 := of_decide_eq_true (Bool.and_eq_true_iff.mp hc).2
          obtain ⟨c1, c2⟩ := hn c hcs
          cases (show ov = Value.ref (ι2 i) from r2)
          have n0 : Nx0 ι2 h2 H2 ι2 (h2.put i (.ins c (putW f w1 fs))) (upd H2 (ι2 i) (.ins (G.cl c) dx (putF (G.nm f) v1 gs))) := Nx0.store g rfl
          have n3 := Next.store (o := .ins (G.cl c) dx (putF (G.nm f) v1 gs)) (c := .ins c (putW f w1 fs)) n2.rep g rfl rfl ⟨dx, _, upd_same, (RepF.put nj p1' rf).next n2.rep n0⟩
          exact withTk tk2 (setattr_ok I2 ea c1 c2 (by rw [← rf.length]; exact hlen) r1 fun s3 I3 => ⟨σ, _, I3, a2 ι2 _ σ n3 (sr2.next n2.rep n3.toNx0)⟩)
        · exact (bad_ (by unfold sfldW; simp only [g, hc]; rfl)).elim
      | lst xs => exact (bad_ (by unfold sfldW; simp only [g])).elim
      | dct kvs => exact (bad_ (by unfold sfldW; simp only [g])).elim
      | dead => exact (bad_ (by unfold sfldW; simp only [g])).elim
  | _ =>
    unfold sbnd sfldW at a2
    exact False.elim a2

end
end Z

namespace Z
open PySem L2
open PyProof.Rows hiding St

section
variable {b : Bool} {X : Cx} {G : Gt} {Wf : WX} {e o : Expr} {es : List Expr} {ma mo : Ev → M W} {mr mk : Ev → M (List W)} {pos p apos : Pos} {x : Str} {k : Nat} {ks : List Str} {kws : List Keyword}
theorem S_inj {x y : List Nat} (h : S x = S y) : x = y := by
  have := congrArg (fun t : Str => t.cps.toList) h
  simpa using this
end
end Z

namespace Z
open PySem L2
open PyProof.Rows hiding St

def startZ (n : Nat) (ws : List W) : Ev := ws.map some ++ List.replicate (n - ws.length) none
def endZ : RS → R W
  | .ok .next _ h => .ok .non h
  | .ok (.ret w) _ h => .ok w h
  | .ok .brk _ _ => .err
  | .ok .cnt _ _ => .err
  | .exc c fs _ h => .exc c fs h
  | .err => .err
def runZ (n : Nat) (m : MS) (ws : List W) : M W := fun h => endZ (m (startZ n ws) h)

section
variable {P : Program} {w : World} {K : PySem.W.Frag} {mg : Str → Option Value} {base : Heap} {G : Gt} {x qual : Str} {params : Arguments} {body : List Stmt} {scope : Scope} {dvs : List V} {kws : List (Str × V)} {f : Addr} {fd : FuncData} {N ps : List Str} {k n : Nat} {m : MS}
abbrev cxZ (P : Program) (w : World) (K : PySem.W.Frag) (mg : Str → Option Value) (base : Heap) (N : List Str) (qual : Str) (scope : Scope) (f : Addr) (cdv : Value) (A : Around) (outer : List Env) (s : Shared) (H : Hp) (E : XK) : Cx := cxOf (CX P w) P w K mg base N qual scope f cdv A outer s H E
abbrev wfZ (E : XK) : WX := fun cls d _ H' => E cls d H'
theorem takesZ {cdv : Value} {A : Around} {outer : List Env} {s : Shared} {H : Hp} {E : XK} : Takes (cxZ P w K mg base N qual scope f cdv A outer s H E) (wfZ E) :=
  takes_of (E₁ := fun e' s'' => CX P w outer H s E e' s'') rfl rfl rfl rfl
theorem ownZ {cdv : Value} {A : Around} {outer : List Env} {s : Shared} {H : Hp} {E : XK} : PassesOwn (model P w) (cxZ P w K mg base N qual scope f cdv A outer s H E).A (cxZ P w K mg base N qual scope f cdv A outer s H E).env (cxZ P w K mg base N qual scope f cdv A outer s H E).xe :=
  passes_of (X := cxZ P w K mg base N qual scope f cdv A outer s H E) (K := fun e s'' => CX P w outer H s E e s'') (E₁ := fun e' s'' => CX P w outer H s E e' s'') rfl
theorem start_rep {ι : Nat → Addr} {h : Hz} {H : Hp} {ws : List W} {vs : List V} (rs : Reps K G ι h H ws vs) (hn : N.length = n) : SRep K G ι h H (startZ n ws) (L2.start N vs) := by
  refine ⟨by unfold startZ L2.start; simp only [List.length_append, List.length_map, List.length_replicate, rs.length, hn]; omega, ?_⟩
  intro i v e
  unfold startZ at e
  unfold L2.start
  by_cases hi : i < ws.length
  · rw [List.getElem?_append_left (by simpa using hi), List.getElem?_map] at e
    cases q : ws[i]? with
    | none => rw [q] at e; cases e
    | some w' =>
      rw [q] at e
      cases e
      obtain ⟨u, eu, pu⟩ := rs.get q
      refine ⟨u, ?_, .inl pu⟩
      rw [List.getElem?_append_left (by simpa [rs.length] using hi), List.getElem?_map, eu]
      rfl
  · rw [List.getElem?_append_right (by simpa using hi)] at e
    have := List.mem_of_getElem? e
    have z := List.eq_of_mem_replicate this
    cases z
theorem end_after {ι : Nat → Addr} {h : Hz} {H : Hp} {r : RS} {Q : VK} {E : XK} (a : Aft K G (wfZ E) [] (rpW K G) ι h H (endZ r) Q) : AftS K G (wfZ E) ι h H r { nx := fun _ H' => Q .non H', rt := Q, bk := fun _ _ => False, ct := fun _ _ => False } := by
  cases r with
  | ok fl ρ h' =>
    cases fl with
    | next => exact fun ι' H' σ' n' _ => a ι' H' .non n' .non
    | ret w => exact a
    | brk => exact False.elim a
    | cnt => exact False.elim a
  | exc c fs ρ h' => exact fun ι' H' σ' d n' _ q => a ι' H' d n' q
  | err => exact a
theorem fn_in {CX : CXT} {sp : Sp} (F : FunD K x qual params body scope dvs kws f fd) (S : FnScope N ps scope) (len : ∀ vs H Q E, sp vs H Q E → vs.length = ps.length)
    (hbody : ∀ (cdv : Value) (A : Around) (outer : List Env) (s : Shared) (H : Hp) (vs : List V) (Q : VK) (E : XK), Room k (A.deeper (envOfC qual scope s.heap.objs.size f cdv)) → sp vs H Q E →
      ∃ t, PSs (cxOf CX P w K mg base N qual scope f cdv A outer s H E) body t ∧ t { nx := fun _ H' => Q .non H', rt := Q } (start N vs) H) : FnOk P w K mg base CX (k + 1) f fd ps sp := by
  obtain ⟨oc, od, dV, kV, doc, pm, an, cdv, ct, osl, rfl, lk, hcd, _, _⟩ := F.ex
  refine ⟨len, fun A outer s H args us vs Q E hr e0 hb r q => ?_⟩
  have kx := e0.mod.kin.keeps fun b o e => (e0.bs b o e).1
  have lm := e0.mod.nolimit.keeps fun b o e => (e0.bs b o e).1
  refine codeAny_call_function hr.rm.depth (kx _ _ lk) rfl S.co S.gen rfl (PySem.W.codeRec_of kx hcd) (hb _ _ _ _ (wpAny_newFunctionEnv_cells S.kind (fun y hy => ?_) fun env he s1 x => ?_))
  · rcases S.par y.1 (List.of_mem_zip (show (y.1, y.2) ∈ ps.zip us from hy)).1 with z | z
    · exact .inl z
    · exact .inr ⟨z, PySem.W.cellsFrom_some _ _ _ (.inl z)⟩
  · subst he
    obtain ⟨t, ht, hq⟩ := hbody cdv A outer s H vs Q E (hr.deeper _) q
    refine ⟨lm.keeps x.toInCall.keep, codeAny_func (wpAny_mono (ht.run [] s1 (start N vs) H _ (inv_start S hr.rm.hd e0 (len _ _ _ _ q) r x) hq) (fun fl s' z => ?_) fun _ _ z => z)⟩
    cases fl with
    | ret u => obtain ⟨v, _, H', J, rv, z⟩ := z; exact ⟨v, H', J.os, J.bare, J.base, J.hok, rv, z⟩
    | next => obtain ⟨_, H', J, z⟩ := z; exact ⟨.non, H', J.os, J.bare, J.base, J.hok, rfl, z⟩
    | brk => obtain ⟨_, _, _, z⟩ := z; exact False.elim z
    | cont => obtain ⟨_, _, _, z⟩ := z; exact False.elim z
theorem fnZ (F : FunD K x qual params body scope dvs kws f fd) (S : FnScope N ps scope) (hn : N.length = n)
    (hb : ∀ (cdv : Value) (A : Around) (outer : List Env) (s : Shared) (H : Hp) (E : XK) (no : Addr → Prop), Room k (A.deeper (envOfC qual scope s.heap.objs.size f cdv)) → PZSs false (cxZ P w K mg base N qual scope f cdv A outer s H E) (G.wn no) (wfZ E) body m) :
    FnOk P w K mg base (CX P w) (k + 1) f fd ps (spZ K G ps.length (runZ n m)) := by
  refine fn_in F S (fun vs H Q E h => h.1) fun cdv A outer s H vs Q E hr h => ?_
  obtain ⟨hl, no, ι, h, ws, r, rs, a⟩ := h
  refine ⟨fun D σ H' => ∃ ι h ρ, HRep K (G.wn no) ι h H' ∧ SRep K (G.wn no) ι h H' ρ σ ∧ AftS K (G.wn no) (wfZ E) ι h H' (m ρ h) D, ⟨fun pins s' σ H' D I ⟨ι, h, ρ, r, sr, a⟩ => thn ((hb cdv A outer s H E no hr).run pins s' σ H' ι h ρ D (fun z => nomatch z) I r sr a) fun _ _ q => q.2⟩, ι, h, startZ n ws, r, start_rep rs hn, ?_⟩
  exact (end_after a).imp (fun _ _ q => q) (fun _ _ q => q) (fun _ _ q => q.elim) (fun _ _ q => q.elim)
theorem fn_bad {F : FuncData} : FnOk P w K mg base (CX P w) k f fd ps (spZ K G ps.length (fun _ => bad)) :=
  ⟨fun vs H Q E h => h.1, fun A outer s H args us vs Q E hr e0 hb r h => False.elim (by obtain ⟨_, _, ι, h, ws, _, _, a⟩ := h; exact a)⟩
end

section
variable {X : Cx} {G : Gt} {x qual : Str} {params : Arguments} {body : List Stmt} {scope : Scope} {dvs : List V} {kws : List (Str × V)} {f : Addr} {fd : FuncData} {ps : List Str} {k : Nat}
def gId : List W → List W → List W := fun ws _ => ws
theorem bn_all (F : FunD X.K x qual params body scope [] kws f fd)
    (h : ∀ (kV doc pm : Value) (an : Option Addr) (cdv ct : Value) (us : List Value), us.length = ps.length → bindArgs (PySem.W.fnOf x qual params body scope .none kV doc pm an cdv ct) ⟨us, []⟩ = pure (ps.zip us)) : BnOk X G fd ps ps.length [] gId := by
  intro s H ι h' us zs vs ys ws qs hK r hl hz r1 r2 p1 p2
  have B := F.bindsN h
  refine ⟨us, vs, ?_, r1, p1, by rw [r1.length, hl]⟩
  have q := B s us hK (by simpa using hl)
  rw [List.append_nil] at q
  exact q
theorem bn_dfl {n j : Nat} {dws : List W} (F : FunD X.K x qual params body scope dvs kws f fd) (hd : dvs ≠ []) (hn : n + (dvs.length - j) = ps.length) (hr : ∀ ι h H, HRep X.K G ι h H → Reps X.K G ι h H dws (dvs.drop j))
    (h : ∀ (T : Addr) (kV doc pm : Value) (an : Option Addr) (cdv ct : Value) (us its : List Value), us.length = n → its.length = dvs.length →
      ∃ k, bindArgs (PySem.W.fnOf x qual params body scope (.ref T) kV doc pm an cdv ct) ⟨us, []⟩ = seqItems? (.ref T) >>= k ∧ k (some its.toArray) = pure (ps.zip (us ++ its.drop j))) : BnOk X G fd ps n [] (fun ws _ => ws ++ dws) := by
  intro s H ι h' us zs vs ys ws qs hK r hl hz r1 r2 p1 p2
  obtain ⟨ds, rd, B⟩ := F.binds1 n j hd hn h
  have el : (us ++ ds).length = ps.length := by
    have e1 := rd.length
    rw [List.length_drop] at e1
    rw [List.length_append, hl, ← e1]; exact hn
  exact ⟨us ++ ds, vs ++ dvs.drop j, B s us hK el, r1.append rd, p1.append (hr ι h' H r), by rw [List.length_append, r1.length, rd.length, ← List.length_append, el]⟩
end
end Z

namespace Z
open PySem L2
open PyProof.Rows hiding St

theorem Next.same {K : PySem.W.Frag} {G : Gt} {ι ι' : Nat → Addr} {h : Hz} {H H' : Hp} (n : Next K G ι h H ι' h H') : Next K G ι h H ι h H' := by
  have n0 : Nx0 ι' h H' ι h H' := ⟨fun i hi => (n.ext i hi).symm, Nat.le_refl _, fun _ _ e _ => e, fun _ e => e, fun i a b => absurd (Nat.lt_of_le_of_lt a b) (Nat.lt_irrefl _), fun i c _ e l => ⟨c, e, l⟩⟩
  refine ⟨⟨fun _ _ => rfl, Nat.le_refl _, n.keep, n.there, fun i a b => absurd (Nat.lt_of_le_of_lt a b) (Nat.lt_irrefl _), fun i c _ e l => ⟨c, e, l⟩⟩, ⟨n.rep.td, fun i c g => ?_, fun i j c d gi gj lc ld q => ?_, n.rep.no, fun i c g lc z => n.rep.off i c g lc (by rw [n.ext i (Hz.get_lt g)]; exact z)⟩⟩
  · have cr := n.rep.cell i c g
    rw [n.ext i (Hz.get_lt g)] at cr
    exact cr.move (fun _ _ => Rep.next n.rep n0) (fun _ _ => Reps.next n.rep n0) (fun _ _ => RepF.next n.rep n0) fun u z => z
  · refine n.rep.inj i j c d gi gj lc ld ?_
    rw [n.ext i (Hz.get_lt gi), n.ext j (Hz.get_lt gj)]
    exact q
section
variable {X : Cx} {G : Gt} {Wf : WX} {E : ET} {n : Nat}
structure OwnD (X : Cx) (G : Gt) (E : ET) (n : Nat) (c : Nat) : Prop where
  cls : Cls X.K (G.cl c)
  nf : ∀ d, (E.lookup d).isSome = true → PySem.W.notFirst X.K (G.cl c) (.ref (G.cl d)) = true
  fn : ∃ i fd fw, PySem.W.findIn X.K (.ref (G.cl c)) "__eq__" = some (some (.ref (G.fn i))) ∧ PySem.W.isFn X.K (.ref (G.fn i)) = true ∧ (∃ p q, L2.FnOk X.prog X.w X.K X.mg X.base (CX X.prog X.w) (n + 1) (G.fn i) fd [p, q] (spZ X.K G 2 fw) ∧ Binds X.K fd [p, q] []) ∧
    ∀ (h : Hz) (x y : W) (fs : List (Nat × W)) (k : Bool), kind h x = .obj c fs → zeqK E (zeq E h n) (.obj c fs) (kind h y) = some k → fw [x, y] h = .ok (.bl k) h
theorem ownS_of (tkx : Takes X Wf) (D : ∀ c ks, E.lookup c = some ks → OwnD X G E n c) : OwnS X G E n := by
  intro c ks hc
  obtain ⟨cl, nf, i, fd, fw, hs, hf, ⟨p, q, F, B⟩, val⟩ := D c ks hc
  refine ⟨cl, nf, G.fn i, hs, hf, fun A pins s σ H ι h x y v1 v2 u1 u2 k fs sb I r p1 p2 r1 r2 kx kz => ?_⟩
  have e0 : Env0 X.prog X.w X.K X.mg X.base A X.stack s H := by
    have e := I.env0
    exact ⟨by rw [sb.fr]; exact e.frames, e.mod, e.bs, e.bsz, e.funs, e.frf, e.hok, e.bare⟩
  have rv : Vals [v1, v2] [u1, u2] := .cons r1 (.cons r2 .nil)
  have hb : BindsTo s fd ⟨[u1, u2], []⟩ ([p, q].zip [u1, u2]) := by
    have := B s [u1, u2] I.kIn rfl
    simpa using this
  have sp : spZ X.K G 2 fw [v1, v2] H (fun v H' => v = .bl k ∧ Next X.K G ι h H ι h H') (fun _ _ _ => False) := by
    refine ⟨rfl, G.no, ι, h, [x, y], r, .cons p1 (.cons p2 .nil), ?_⟩
    rw [val h x y fs k kx kz]
    intro ι' H' v nx pv
    cases pv
    exact ⟨rfl, nx.same⟩
  refine wpAny_call (codeAny_mono (F.run A X.stack s H ⟨[u1, u2], []⟩ [u1, u2] [v1, v2] _ _ sb.room e0 hb rv sp) fun res s' hq => ?_)
  cases res with
  | error e => exact tkx e s' (XE.of_call (E := fun _ _ _ => False) I (fun _ _ _ z => z.elim) hq)
  | ok fl =>
    cases fl with
    | ret u =>
      obtain ⟨v, H', I', rv', ev, nx⟩ := I.after hq
      subst ev
      cases rv'
      exact ⟨rfl, H', I', nx⟩
    | next => exact False.elim hq
    | brk => exact False.elim hq
    | cont => exact False.elim hq
theorem eq_all (nj : NmInj G) (cj : ClInj G E) (tkx : Takes X Wf) : ∀ (n : Nat), (∀ j, j < n → ∀ c ks, E.lookup c = some ks → OwnD X G E j c) → EqS X G E n ∧ NeS X G E n
  | 0, _ => ⟨eqS_zero, neS_zero⟩
  | n + 1, D => by
    obtain ⟨e1, _⟩ := eq_all nj cj tkx n fun j hj => D j (Nat.lt_succ_of_lt hj)
    have eb := eqB_of nj cj e1
    exact ⟨eqS_step eb (ownS_of tkx (D n (Nat.lt_succ_self _))), neS_step eb⟩
end

section
variable {K : PySem.W.Frag} {G : Gt}
def tyName : Kd → Option String
  | .non => some "NoneType"
  | .bl _ => some "bool"
  | .int _ => some "int"
  | .str _ => some "str"
  | .tup _ => some "tuple"
  | .lst _ => some "list"
  | _ => none
def isiB (t : Nat) : Kd → Bool
  | .int _ => Nat.beq t 0
  | .bl _ => Nat.beq t 0 || Nat.beq t 1
  | .str _ => Nat.beq t 2
  | .lst _ => Nat.beq t 3
  | .tup _ => Nat.beq t 4
  | _ => false
def isiF (all ts cs : List Nat) (k : Kd) : Option Bool := match k with
  | .no => none
  | .obj c _ => if all.contains c = true then some (cs.any fun d => Nat.beq c d) else none
  | k => some (ts.any fun t => isiB t k)
end
end Z

namespace Z
open PySem L2
open PyProof.Rows hiding St

def tyVal : Nat → Value
  | 0 => .type "int"
  | 1 => .type "bool"
  | 2 => .type "str"
  | 3 => .type "list"
  | _ => .type "tuple"
def six : List String := ["NoneType", "bool", "int", "str", "tuple", "list"]
structure IsT (K : PySem.W.Frag) (G : Gt) (all : List Nat) : Prop where
  own : ∀ c ∈ all, ∀ T ∈ six, PySem.W.kitOne K (.type T) (.ref (G.cl c)) = some false
  bt : ∀ c ∈ all, ∀ t, t < 5 → PySem.W.kitOne K (.ref (G.cl c)) (tyVal t) = some false
  oo : ∀ c ∈ all, ∀ d ∈ all, PySem.W.kitOne K (.ref (G.cl c)) (.ref (G.cl d)) = some (Nat.beq c d)
  ty : ∀ c ∈ all, ∀ (H : Hp) (a dx : Addr) (gs : List (Str × V)), H a = some (.ins (G.cl c) dx gs) → TyX K H (.ref a) (.ref (G.cl c))
theorem IsT.wn {K : PySem.W.Frag} {G : Gt} {all : List Nat} {no : Addr → Prop} {xv : Addr → Option (Nat × Option Addr)} {hs : W → Int} {st : Bool} (d : IsT K G all) : IsT K (Gt.mk G.fn G.cl G.nm no xv hs st) all := ⟨d.own, d.bt, d.oo, d.ty⟩
section
variable {K : PySem.W.Frag} {G : Gt} {all : List Nat}
theorem kitAny_any {t : Value} : ∀ {us : List Value} {bs : List Bool}, us.length = bs.length → (∀ (i : Nat) u b, us[i]? = some u → bs[i]? = some b → PySem.W.kitOne K t u = some b) → PySem.W.kitAny K t us = some (bs.any fun b => b)
  | [], [], _, _ => rfl
  | u :: us, b :: bs, hl, h => by
    have h0 := h 0 u b rfl rfl
    have ih := kitAny_any (us := us) (bs := bs) (by simpa using hl) fun i u b h1 h2 => h (i + 1) u b (by simpa using h1) (by simpa using h2)
    unfold PySem.W.kitAny
    rw [h0]
    cases b with
    | true => rfl
    | false => exact ih
  | [], _ :: _, hl, _ => by cases hl
  | _ :: _, [], hl, _ => by cases hl
theorem kit_ts (t : Nat) (ht : t < 5) (k : Kd) (T : String) (e : tyName k = some T) : PySem.W.kitOne K (.type T) (tyVal t) = some (isiB t k) := by
  have cases5 : t = 0 ∨ t = 1 ∨ t = 2 ∨ t = 3 ∨ t = 4 := by omega
  cases k with
  | non => cases e; rcases cases5 with h | h | h | h | h <;> subst h <;> exact kit_ty (by kernel_rfl)
  | bl b => cases e; rcases cases5 with h | h | h | h | h <;> subst h <;> exact kit_ty (by kernel_rfl)
  | int b => cases e; rcases cases5 with h | h | h | h | h <;> subst h <;> exact kit_ty (by kernel_rfl)
  | str b => cases e; rcases cases5 with h | h | h | h | h <;> subst h <;> exact kit_ty (by kernel_rfl)
  | tup b => cases e; rcases cases5 with h | h | h | h | h <;> subst h <;> exact kit_ty (by kernel_rfl)
  | lst b => cases e; rcases cases5 with h | h | h | h | h <;> subst h <;> exact kit_ty (by kernel_rfl)
  | obj c fs => cases e
  | no => cases e
theorem isi_types (D : IsT K G all) {ts : List Nat} (hts : ∀ t ∈ ts, t < 5) : IsiOk K G (ts.map tyVal) (isiF all ts []) := by
  have bi : ∀ k T, tyName k = some T → PySem.W.kitAny K (.type T) (ts.map tyVal) = some (ts.any fun t => isiB t k) := fun k T e => by
    have q := kitAny_any (K := K) (t := .type T) (us := ts.map tyVal) (bs := ts.map fun t => isiB t k) (by simp) fun i u b h1 h2 => by
      rw [List.getElem?_map] at h1 h2
      cases et : ts[i]? with
      | none => rw [et] at h1; cases h1
      | some t =>
        rw [et] at h1 h2
        cases h1
        cases h2
        exact kit_ts t (hts t (List.mem_of_getElem? et)) k T e
    rw [q, List.any_map]
    rfl
  refine ⟨rfl, fun k t c et ec => ?_, fun c fs hs H a dx gs ha => ?_⟩
  · cases k with
    | no => cases et
    | obj c' fs =>
      cases et
      have ec' : (if all.contains c' = true then some (([] : List Nat).any fun d => Nat.beq c' d) else none) = some c := ec
      split at ec'
      · rename_i hc
        have hm : c' ∈ all := by simpa using hc
        cases ec'
        have q := kitAny_any (K := K) (t := .ref (G.cl c')) (us := ts.map tyVal) (bs := ts.map fun _ => false) (by simp) fun i u b h1 h2 => by
          rw [List.getElem?_map] at h1 h2
          cases et : ts[i]? with
          | none => rw [et] at h1; cases h1
          | some t =>
            rw [et] at h1 h2
            cases h1
            cases h2
            exact D.bt c' hm t (hts t (List.mem_of_getElem? et))
        rw [q]
        simp
      · cases ec'
    | non => cases et; cases ec; exact bi .non _ rfl
    | bl b => cases et; cases ec; exact bi (.bl b) _ rfl
    | int b => cases et; cases ec; exact bi (.int b) _ rfl
    | str b => cases et; cases ec; exact bi (.str b) _ rfl
    | tup b => cases et; cases ec; exact bi (.tup b) _ rfl
    | lst b => cases et; cases ec; exact bi (.lst b) _ rfl
  · have hs' : (if all.contains c = true then some (([] : List Nat).any fun d => Nat.beq c d) else none).isSome = true := hs
    split at hs'
    · rename_i hc
      exact D.ty c (by simpa using hc) H a dx gs ha
    · cases hs'
theorem isi_cls (D : IsT K G all) {d : Nat} (hd : d ∈ all) : IsiOk K G [.ref (G.cl d)] (isiF all [] [d]) := by
  have one : ∀ t b, PySem.W.kitOne K t (.ref (G.cl d)) = some b → PySem.W.kitAny K t [.ref (G.cl d)] = some b := fun t b e => by
    unfold PySem.W.kitAny
    rw [e]
    cases b <;> rfl
  refine ⟨rfl, fun k t c et ec => ?_, fun c fs hs H a dx gs ha => ?_⟩
  · cases k with
    | no => cases et
    | obj c' fs =>
      cases et
      have ec' : (if all.contains c' = true then some ([d].any fun d => Nat.beq c' d) else none) = some c := ec
      split at ec'
      · rename_i hc
        have hm : c' ∈ all := by simpa using hc
        cases ec'
        refine one _ _ ((D.oo c' hm d hd).trans ?_)
        simp
      · cases ec'
    | non => cases et; cases ec; exact one _ _ (D.own d hd _ (by decide))
    | bl b => cases et; cases ec; exact one _ _ (D.own d hd _ (by decide))
    | int b => cases et; cases ec; exact one _ _ (D.own d hd _ (by decide))
    | str b => cases et; cases ec; exact one _ _ (D.own d hd _ (by decide))
    | tup b => cases et; cases ec; exact one _ _ (D.own d hd _ (by decide))
    | lst b => cases et; cases ec; exact one _ _ (D.own d hd _ (by decide))
  · have hs' : (if all.contains c = true then some ([d].any fun d => Nat.beq c d) else none).isSome = true := hs
    split at hs'
    · rename_i hc
      exact D.ty c (by simpa using hc) H a dx gs ha
    · cases hs'
theorem cj_of {E : ET} (D : IsT K G all) (he : ∀ d, (E.lookup d).isSome = true → d ∈ all) : ClInj G E := fun c d hc hd e => by
  have q := D.oo c (he c hc) d (he d hd)
  rw [e] at q
  unfold PySem.W.kitOne at q
  rw [if_pos (by simp)] at q
  have : true = Nat.beq c d := Option.some.inj q
  exact Nat.eq_of_beq_eq_true this.symm
end
section
variable {X : Cx} {G : Gt} {x : Str} {p : Pos}
theorem car_ty {T : String} (hg : Gl X x) (hm : X.mg x = none) (hv : bootBuiltins x = some (.type T)) (hn : x ≠ "__name__") (hdb : (x == ("__debug__" : Str)) = false) : CAr X G (.Name x p) [.type T] := by
  intro pins s σ H ι h I r
  exact ld_blt I hg hm hv ⟨H, I, Next.refl r, .one (.ty T) rfl⟩ hn hdb
theorem car_cls {c : Nat} (hg : Gl X x) (hm : X.mg x = some (.ref (G.cl c))) (hdb : (x == ("__debug__" : Str)) = false) : CAr X G (.Name x p) [.ref (G.cl c)] := by
  intro pins s σ H ι h I r
  exact ld_glob I hg hm ⟨H, I, Next.refl r, .one (.own _) rfl⟩ hdb
end
end Z

namespace Z
open PySem L2
open PyProof.Rows hiding St

def nmOf (nms : List Str) (i : Nat) : Str := match nms[i]? with
  | some x => x
  | none => S (List.replicate (1000 + i) 97)
def gtOf (fns : List (PySem.W.Frag → Addr)) (cls nms : List Str) (K : PySem.W.Frag) : Gt :=
  ⟨fun i => match fns[i]? with | some f => f K | none => 0, fun c => match cls[c]? with | some x => He.ga K x | none => 0, nmOf nms, fun _ => False, fun _ => none, fun _ => 0, true⟩
theorem nj_of {fns : List (PySem.W.Frag → Addr)} {cls nms : List Str} {K : PySem.W.Frag} (nd : nms.Nodup) (sh : nms.all (fun x => decide (x.length < 1000)) = true) : NmInj (gtOf fns cls nms K) := by
  have short : ∀ x ∈ nms, x.length < 1000 := fun x hx => of_decide_eq_true (List.all_eq_true.mp sh x hx)
  intro f g e
  have e' : nmOf nms f = nmOf nms g := e
  unfold nmOf at e'
  cases ef : nms[f]? with
  | none =>
    rw [ef] at e'
    cases eg : nms[g]? with
    | none =>
      rw [eg] at e'
      have q := congrArg List.length (S_inj e')
      simp only [List.length_replicate] at q
      omega
    | some y =>
      rw [eg] at e'
      have hy := short y (List.mem_of_getElem? eg)
      have e2 : S (List.replicate (1000 + f) 97) = y := e'
      rw [← e2, S_len, List.length_replicate] at hy
      omega
  | some x =>
    rw [ef] at e'
    cases eg : nms[g]? with
    | none =>
      rw [eg] at e'
      have hx := short x (List.mem_of_getElem? ef)
      have e2 : x = S (List.replicate (1000 + g) 97) := e'
      rw [e2, S_len, List.length_replicate] at hx
      omega
    | some y =>
      rw [eg] at e'
      have e2 : x = y := e'
      subst e2
      have h1 := (List.getElem?_eq_some_iff.mp ef)
      have h2 := (List.getElem?_eq_some_iff.mp eg)
      obtain ⟨hf, xf⟩ := h1
      obtain ⟨hg, xg⟩ := h2
      exact (List.getElem_inj nd).mp (xf.trans xg.symm)
open He5 (DefA fnA asA)
abbrev AlZ : Type := Bool × List He5.FnW
def obsZ (chk : List (PySem.W.Frag → Bool)) (fn : List DefA) (K : PySem.W.Frag) : AlZ := ((chk.all fun f => f K) && fn.all fun d => d.ok K, fn.map fun d => fnA K (d.at_ K))
def valZ (fn : List DefA) : AlZ := (true, fn.map DefA.val)
def SaysZ (chk : List (PySem.W.Frag → Bool)) (fn : List DefA) (K : PySem.W.Frag) : Prop := obsZ chk fn K = valZ fn
section
variable {chk : List (PySem.W.Frag → Bool)} {fn : List DefA} {K : PySem.W.Frag}
theorem SaysZ.fact (c : SaysZ chk fn K) (i : Nat) {f : PySem.W.Frag → Bool} (h : chk[i]? = some f) : f K = true := by
  have c1 := (He.ba (show ((chk.all fun f => f K) && fn.all fun d => d.ok K) = true from congrArg (fun z : AlZ => z.1) c)).1
  exact List.all_eq_true.mp c1 f (List.mem_of_getElem? h)
theorem SaysZ.def_ (c : SaysZ chk fn K) (i : Nat) {d : DefA} (h : fn[i]? = some d) : ∃ fd, L2.FunD K d.name d.qual d.params d.body d.scope (d.dvs K) (d.kws K) (d.at_ K) fd := by
  have c2 := (He.ba (show ((chk.all fun f => f K) && fn.all fun d => d.ok K) = true from congrArg (fun z : AlZ => z.1) c)).2
  have e : fn.map (fun d => fnA K (d.at_ K)) = fn.map DefA.val := congrArg (fun z : AlZ => z.2) c
  have e2 : (fn.map fun d => fnA K (d.at_ K))[i]? = (fn.map DefA.val)[i]? := by rw [e]
  rw [List.getElem?_map, List.getElem?_map, h] at e2
  exact DefA.funD (Option.some.inj e2) (List.all_eq_true.mp c2 d (List.mem_of_getElem? h))
end
def cGlo (x : Str) (K : PySem.W.Frag) : Bool := (He.Fa.glo x).ok K
def cFrees (xs : List Str) (K : PySem.W.Frag) : Bool := xs.all fun x => (He.Fa.free x).ok K
def cTup (x : Str) (vs : List He.Dv) (K : PySem.W.Frag) : Bool := (He.Fa.glo x).ok K && He.tupB K x vs
def cCls (x : Str) (fs : List Str) (K : PySem.W.Frag) : Bool := (He.Fa.glo x).ok K && ((He.Fa.cls x).ok K && fs.all fun f => (He.Fa.noat x f).ok K)
def cMkr (x : Str) (K : PySem.W.Frag) : Bool := (He.Fa.mkr x).ok K
def cMeth (x m : Str) (K : PySem.W.Frag) : Bool := (He.Fa.meth x m).ok K
def cIsi (xs : List Str) (K : PySem.W.Frag) : Bool := xs.all fun x => (six.all fun T => decide (PySem.W.kitOne K (.type T) (.ref (He.ga K x)) = some false)) && ((List.range 5).all fun t => decide (PySem.W.kitOne K (.ref (He.ga K x)) (tyVal t) = some false)) &&
  (xs.all fun y => decide (PySem.W.kitOne K (.ref (He.ga K x)) (.ref (He.ga K y)) = some (decide (x = y)))) &&
  decide (PySem.W.findIn K (.ref (He.ga K x)) "__class__" = some (some (.builtin "object.__class__"))) && decide (PySem.W.specialIn K (.builtin "object.__class__") "__get__" = some (some (.builtin "getset_descriptor.__get__"))) &&
  decide (PySem.W.takesIn K (.builtin "object.__class__") = some true) && decide (PySem.W.mroIn K (He.ga K x) (.type "object") = some true)
section
variable {K : PySem.W.Frag}
theorem cFrees_ok {h : Heap} {mg : Str → Option Value} (X : K.In h) (G : h.Ns mainGlobals mg) {xs : List Str} (c : cFrees xs K = true) {x : Str} (hx : x ∈ xs) : mg x = none := He.free_ok X G (List.all_eq_true.mp c x hx)
theorem cTup_ok {h : Heap} {mg : Str → Option Value} (X : K.In h) (G : h.Ns mainGlobals mg) {x : Str} {vs : List He.Dv} (c : cTup x vs K = true) : mg x = some (.ref (He.ga K x)) ∧ ∀ H, SqT K H (He.ga K x) (vs.map (He.Dv.v K)) :=
  ⟨He.glo_ok X G (He.ba c).1, fun H => He.tupB_ok (He.ba c).2 H⟩
theorem cCls_ok {h : Heap} {mg : Str → Option Value} (X : K.In h) (G : h.Ns mainGlobals mg) {x : Str} {fs : List Str} (c : cCls x fs K = true) : mg x = some (.ref (He.ga K x)) ∧ Cls K (He.ga K x) ∧ ∀ f ∈ fs, NoAttr K (He.ga K x) f :=
  ⟨He.glo_ok X G (He.ba c).1, He.cls_ok (He.ba (He.ba c).2).1, fun f hf => He.noat_ok (List.all_eq_true.mp (He.ba (He.ba c).2).2 f hf)⟩
end
end Z

namespace Z
open PySem L2
open PyProof.Rows hiding St
abbrev GNx (g : W → MS) : Prop := ∀ w ρ h f ρ' h', g w ρ h = .ok f ρ' h' → f = .next
theorem gn_name {i : Nat} : GNx (gname i) := fun w ρ h f ρ' h' e => by
  unfold gname at e
  cases e
  rfl
end Z
namespace Z
open PySem L2
open PyProof.Rows hiding St
section
variable {X : Cx} {G : Gt} {x qual : Str} {params : Arguments} {body : List Stmt} {scope : Scope} {dvs : List V} {kws : List (Str × V)} {f : Addr} {fd : FuncData} {ps : List Str} {k : Nat}
theorem bn_alld {n j : Nat} (F : FunD X.K x qual params body scope dvs kws f fd) (hd : dvs ≠ []) (hj : j = dvs.length) (hn : n = ps.length)
    (h : ∀ (T : Addr) (kV doc pm : Value) (an : Option Addr) (cdv ct : Value) (us its : List Value), us.length = n → its.length = dvs.length →
      ∃ k, bindArgs (PySem.W.fnOf x qual params body scope (.ref T) kV doc pm an cdv ct) ⟨us, []⟩ = seqItems? (.ref T) >>= k ∧ k (some its.toArray) = pure (ps.zip (us ++ its.drop j))) : BnOk X G fd ps n [] gId := by
  have q := bn_dfl (X := X) (G := G) (dws := []) F hd (by omega) (fun ι h H r => by rw [hj, List.drop_length]; exact .nil) h
  have e : (fun (ws _ : List W) => ws ++ []) = gId := by
    funext ws _
    rw [List.append_nil]
    rfl
  rw [e] at q
  exact q
end
theorem pg_tup' {b : Bool} {X : Cx} {G : Gt} {Wf : WX} {x : Str} {pos : Pos} {a : Addr} {ws : List W} {vs : List V} (hg : Gl X x) (hm : X.mg x = some (.ref a)) (hd : (x == ("__debug__" : Str)) = false) (sq : ∀ H, SqT X.K H a vs) (rs : ∀ ι h H, Reps X.K G ι h H ws vs) : PZ b X G Wf (.Name x pos) (fun _ => ret (.tup ws)) :=
  pz_glob (w := .tup ws) (v := .ref a) hg hm rfl hd fun ι h H _ => .tup (sq H) (rs ι h H)
end Z
namespace Z
open PySem L2
theorem rep_str {K : PySem.W.Frag} {G : Gt} {ι : Nat → Addr} {h : Hz} {H : Hp} {x : Str} (z : List Nat) (e : x = S z) : Rep K G ι h H (.str z) (.str x) := by
  subst e
  exact .str z
end Z

namespace Z
open PySem L2
def clsBd : Stmt → List Stmt
  | .ClassDef (body := b) .. => b
  | _ => []
theorem lk_in {α : Type} : ∀ {E : List (Nat × α)} {c : Nat} {k : α}, E.lookup c = some k → (c, k) ∈ E
  | [], _, _, h => nomatch h
  | (d, x) :: E, c, k, h => by
    rw [List.lookup_cons] at h
    split at h
    · rename_i e
      have e1 : c = d := by simpa using e
      cases h
      subst e1
      exact .head _
    · exact .tail _ (lk_in h)
theorem lk_all {α : Type} {E : List (Nat × α)} {l : List Nat} (h : (E.all fun p => l.contains p.1) = true) (d : Nat) (hd : (E.lookup d).isSome = true) : l.contains d = true := by
  cases e : E.lookup d with
  | none => rw [e] at hd; cases hd
  | some k => exact List.all_eq_true.1 h _ (lk_in e)
theorem lk_mem {α : Type} {E : List (Nat × α)} {l : List Nat} (h : (E.all fun p => l.contains p.1) = true) (d : Nat) (hd : (E.lookup d).isSome = true) : d ∈ l := by
  simpa using lk_all h d hd
end Z

namespace Z
open PySem L2
open PyProof.Rows hiding St
theorem get_empty (i : Nat) : Hz.empty.get i = none := rfl
theorem hrep_empty {K : PySem.W.Frag} {G : Gt} {ι : Nat → Addr} {H : Hp} (td : G.st = true → ∀ a o, H a = some o → okO o = true) (hn : ∀ a, G.no a → H a ≠ none) : HRep K G ι Hz.empty H :=
  ⟨td, fun i c e => (by rw [get_empty] at e; cases e), fun i j c d e _ _ _ _ => (by rw [get_empty] at e; cases e), fun a z => (hn a z), fun i c e => (by rw [get_empty] at e; cases e)⟩
theorem reps_ints {K : PySem.W.Frag} {G : Gt} {ι : Nat → Addr} {h : Hz} {H : Hp} : ∀ ns : List Int, Reps K G ι h H (ns.map W.int) (ns.map V.int)
  | [] => .nil
  | i :: ns => .cons (.int i) (reps_ints ns)
theorem only_ok {H : Hp} (hO : Only H) : ∀ a o, H a = some o → okO o = true := fun a o e => by
  rcases hO a with z | ⟨ob, xs, z⟩
  · rw [z] at e; cases e
  · rw [z] at e
    cases e
    rfl
theorem fz_script {K : PySem.W.Frag} {G : Gt} {ι : Nat → Addr} {h : Hz} {H : Hp} {a : Addr} {ns : List Int} (hO : Only H) (hS : SqL K H a (ns.map V.int)) : Rep K G ι h H (.fz (ns.map W.int)) (.ref a) := by
  refine .fz ?_ (reps_ints ns)
  rcases hS with (e | ⟨o, e⟩) | k
  · rcases hO a with z | ⟨o, xs, z⟩
    · rw [z] at e; cases e
    · rw [z] at e; cases e
  · exact .inl ⟨o, e⟩
  · exact .inr fun H1 => .inr k
theorem call_at {P : Program} {w : World} {K : PySem.W.Frag} {mg mb : Str → Option Value} {CX : CXT} {k : Nat} {fa a : Addr} {fd : FuncData} {x : Str} {sp : Sp} {s₁ : Shared} {vs : List Value} {H : Hp}
    (KX : K.In s₁.heap) (hns : s₁.heap.Ns mainGlobals mg) (hb : s₁.heap.Ns builtinsNs mb) (hbb : ∀ x : Str, x ≠ "__name__" → mb x = bootBuiltins x) (hlim : s₁.heap.NoLimit) (hg : s₁.gens = #[])
    (ha : s₁.heap.get? a = some { cls := .type "list", data := .seq vs.toArray }) (hr : Room k callerA)
    (F : ∀ base : Heap, K.In base → base.Ns mainGlobals mg → FnOk P w K mg base CX k fa fd [x] sp) (hbind : ∀ (s : Shared) (u : Value), BindsTo s fd ⟨[u], []⟩ [(x, u)])
    (hsp : sp [.ref a] H (fun v _ => v = .bl true) fun _ _ _ => False) (hCX : ∀ H e s', CX [] H s₁ (fun _ _ _ => False) e s' → False)
    (hO : Only H) (hok : HOk P w H s₁.heap) (hA : ∀ b, H b ≠ none → b = a) (hK : H a ≠ none → K.lookup a = none) :
    codeAny (model P w) callerA (.call (.ref fa) ⟨[.ref a], []⟩) (fun r s' => r = .ok (.ret (.bool true)) ∧ OldK s₁.heap s'.heap ∧ s'.os = s₁.os ∧ AllBare s'.gens) s₁ := by
  have dn : ∀ {b : Addr} {m : Str → Option Value}, s₁.heap.Ns b m → (hidT s₁.heap H).Ns b m := fun {b m} ⟨o, es, ep, e, d, r⟩ => by
    refine ⟨o, es, ep, hidT_get e ?_, d, r⟩
    refine Classical.byContradiction fun n => ?_
    have eb := hA b n
    rw [eb, ha] at e
    cases e
    exact nomatch (show Data.seq vs.toArray _ = Data.dict es ep from d)
  have kb : K.In (hidT s₁.heap H) := fun b o e => by
    refine hidT_get (KX b o e) (Classical.byContradiction fun n => ?_)
    have eb := hA b n
    rw [eb] at n e
    rw [hK n] at e
    cases e
  have md : Mod K mg (hidT s₁.heap H) := ⟨kb, dn hns, ⟨mb, dn hb, hbb⟩, let ⟨mc, h1, h2⟩ := hlim; ⟨mc, dn h1, h2⟩⟩
  have e0 : Env0 P w K mg (hidT s₁.heap H) callerA [] s₁ H := ⟨rfl, md, fun b o e => of_hidT e, Nat.le_of_eq (hidT_size _ _), trivial, fun b z => absurd (show b ∈ ([] : List Addr) from z) (by simp), hok, .of_eq hg⟩
  refine codeAny_mono ((F _ kb (dn hns)).run callerA [] s₁ H ⟨[.ref a], []⟩ [.ref a] [.ref a] _ _ hr e0 (hbind s₁ (.ref a)) (.cons rfl .nil) hsp) fun r s' h => ?_
  match r, h with
  | .error e, h => exact (hCX H e s' h).elim
  | .ok (.ret u), h =>
    obtain ⟨v, H', os, bare, un, hok', r', q⟩ := h
    cases (show v = .bl true from q)
    obtain rfl : u = Value.bool true := r'
    refine ⟨rfl, OldK.of_keep fun b o e => ?_, os, bare⟩
    rcases hO b with z | ⟨ob, xs, z⟩
    · exact un.keep b o e z (fun y => absurd (show b ∈ ([] : List Addr) from y) (by simp)) (by simp)
    · obtain ⟨e1, _⟩ := hok b _ z
      obtain ⟨e2, _⟩ := hok' b _ (un.frzs b ob _ z)
      rw [e] at e1
      cases e1
      exact e2
theorem law_callZ {P : Program} {w : World} {K : PySem.W.Frag} {mg mb : Str → Option Value} {CX : CXT} {k : Nat} {fa a : Addr} {fd : FuncData} {x : Str} {sp : Sp} {s₁ : Shared} {vs : List Value} {ns : List Int}
    (KX : K.In s₁.heap) (hns : s₁.heap.Ns mainGlobals mg) (hb : s₁.heap.Ns builtinsNs mb) (hbb : ∀ x : Str, x ≠ "__name__" → mb x = bootBuiltins x) (hlim : s₁.heap.NoLimit) (hg : s₁.gens = #[])
    (ha : s₁.heap.get? a = some { cls := .type "list", data := .seq vs.toArray }) (hi : IntsAre vs ns) (hl : ns.length ≤ sizeLine) (hr : Room k callerA)
    (F : ∀ base : Heap, K.In base → base.Ns mainGlobals mg → FnOk P w K mg base CX k fa fd [x] sp) (hbind : ∀ (s : Shared) (u : Value), BindsTo s fd ⟨[u], []⟩ [(x, u)])
    (hsp : ∀ H : Hp, Only H → SqL K H a (ns.map V.int) → sp [.ref a] H (fun v _ => v = .bl true) fun _ _ _ => False)
    (hCX : ∀ H e s', CX [] H s₁ (fun _ _ _ => False) e s' → False) :
    codeAny (model P w) callerA (.call (.ref fa) ⟨[.ref a], []⟩) (fun r s' => r = .ok (.ret (.bool true)) ∧ OldK s₁.heap s'.heap ∧ s'.os = s₁.os ∧ AllBare s'.gens) s₁ := by
  have rv := vals_ints hi
  cases hk : K.lookup a with
  | some o =>
    have e := KX a o hk
    rw [ha] at e
    cases e
    have hO : Only fun _ => none := fun _ => .inl rfl
    exact call_at KX hns hb hbb hlim hg ha hr F hbind (hsp _ hO (.inr ⟨_, vs.toArray, _, hk, rfl, rfl, rfl, by rw [List.size_toArray, hi.length]; exact hl, by simpa using rv⟩)) hCX hO (fun b u z => nomatch (show (none : Option HO) = some u from z)) (fun b z => absurd rfl z) fun z => absurd rfl z
  | none =>
    have hO : Only fun b => if b = a then some (.frz { cls := .type "list", data := .seq vs.toArray } (.lst (ns.map V.int))) else none := fun b => by
      by_cases z : b = a
      · exact .inr ⟨_, _, if_pos z⟩
      · exact .inl (if_neg z)
    refine call_at KX hns hb hbb hlim hg ha hr F hbind (hsp _ hO (.inl (.inr ⟨_, if_pos rfl⟩))) hCX hO (fun b u z => ?_) (fun b z => Classical.byContradiction fun n => z (if_neg n)) fun _ => hk
    by_cases y : b = a
    · cases (if_pos y).symm.trans z
      subst y
      exact ⟨ha, by rw [List.length_map]; exact hl, vs, _, rv, ha⟩
    · exact nomatch (if_neg y).symm.trans z
def LawOk (n : Nat) (fn : List W → M W) : Prop := ∀ ns : List Int, ns.length ≤ n → (∀ z ∈ ns, Builtin.Int.intBits z ≤ 1048576) → ∃ h', fn [.fz (ns.map W.int)] Hz.empty = .ok (.bl true) h'
theorem walk_ofZ {l : PySem.W.OpenLaw} {n k : Nat} {q : Program} {loose : List Str} {XP : (Str → Option Value) → Heap → Prop} {YP : World → Heap → Prop} {d : DefRec} {x : Str} {fn : List W → M W}
    (hn : l.most = some n) (hn2 : n ≤ sizeLine) (hdf : d.params.defaults = []) (hr : Room k callerA) (hl : LawOk n fn)
    (F : ∀ (w : World) (mg : Str → Option Value) (fa : Addr) (h : Heap), YP w h → h.Ns mainGlobals mg → mg d.name = some (.ref fa) →
      ∃ (K : PySem.W.Frag) (fd : FuncData) (G : Gt), K.In h ∧ (∀ (s : Shared) (u : Value), BindsTo s fd ⟨[u], []⟩ [(x, u)]) ∧
        ∀ base : Heap, K.In base → base.Ns mainGlobals mg → FnOk l.prog w K mg base (CX l.prog w) k fa fd [x] (spZ K G 1 fn)) :
    PySem.W.WalkO q loose XP YP l.row.toRowW d [] (fun f vs => PySem.call f vs) := by
  refine Att.attach_callB hn hdf fun w s₀ s₁ mg mb fa o pm cd doc a vs ns G Y ho hd hcd hmg hobj hints hlen hbits hg => ?_
  obtain ⟨K, fd, Gt, KX, hb, hF⟩ := F w mg fa _ Y G.T.g hmg
  refine law_callZ KX G.T.g G.T.b G.T.builtins G.T.nolimit hg hobj hints (Nat.le_trans hlen hn2) hr hF hb (fun H hO hS => ?_) fun H e s' z => ?_
  · obtain ⟨h', e⟩ := hl ns hlen hbits
    refine ⟨rfl, fun _ => False, fun _ => 0, Hz.empty, [.fz (ns.map W.int)], hrep_empty (fun _ => only_ok hO) (fun _ z => z.elim), .cons (fz_script hO hS) .nil, ?_⟩
    rw [e]
    intro ι' H' v _ p
    cases p
    rfl
  · obtain ⟨_, _, _, _, _, _, _, _, _, _, _, _, z⟩ := z
    exact z
end Z

namespace Z
open PySem L2
open PyProof.Rows hiding St

end Z

namespace Z
open PySem L2
open PyProof.Rows hiding St
section
variable {b : Bool} {X : Cx} {G : Gt} {Wf : WX} {e o : Expr} {es : List Expr} {m mo mi : Ev → M W} {mr : Ev → M (List W)} {p pos : Pos}
def zstar (ma : Ev → M W) (mr : Ev → M (List W)) : Ev → M (List W) := fun ρ => bnd (ma ρ) fun w => bnd (zseq w) fun q => bnd (mr ρ) fun xs => ret (q.2 ++ xs)
def zsetL (o i w : W) : M W := bnd (zlref o) fun q => match i with
  | .int k => (match L2.ixN q.2.length k with
    | some j => bnd (store q.1 (.lst (q.2.set j w))) fun _ => ret .non
    | none => bad)
  | _ => bad
def gsub (mo mi : Ev → M W) (w : W) : MS := fun ρ => sbnd (mo ρ) ρ fun o => sbnd (mi ρ) ρ fun i => sbnd (zsetL o i w) ρ fun _ h => .ok .next ρ h
theorem pzg_sub {i : Expr} (ho : PZ b X G Wf o mo) (hi : PZ b X G Wf i mi)
    (ha : ∀ v, assign (.Subscript o i pos) X.env v = (do
      let ov ← holding [v] (eval o X.env)
      let iv ← holding [v, ov] (eval i X.env)
      standAt pos
      holding [v, ov, iv] (setItem ov iv v)
      release [v, ov, iv] [])) : PZG b X G Wf (.Subscript o i pos) (gsub mo mi) := by
  refine ⟨fun pins s σ H ι h ρ w v u Q tk I r sr p ru a => ?_⟩
  rw [ha]
  refine wpAny_bind (wpAny_holding (thn (ho.run pins s σ H ι h ρ _ tk I r sr (a.bnd (P := rpW X.K G) r sr)) fun ov s1 ⟨tk1, v1, H1, I1, r1, ι1, h1, w1, n1, p1, sr1, a1⟩ => ?_))
  refine wpAny_bind (wpAny_holding (thn (hi.run pins s1 σ H1 ι1 h1 ρ _ tk1 I1 n1.rep sr1 (a1.bnd (P := rpW X.K G) n1.rep sr1)) fun iv s2 ⟨tk2, v2, H2, I2, r2, ι2, h2, w2, n2, p2, sr2, a2⟩ => ?_))
  have pv := (p.next r n1.toNx0).next n1.rep n2.toNx0
  have po := p1.next n1.rep n2.toNx0
  have a3 := a2.bnd (P := rpW X.K G) (σ := σ) n2.rep sr2
  unfold zsetL at a3
  obtain ⟨j, xs, vs, e1, e2, gj, hj, rs, a4⟩ := lref_after n2.rep po a3
  subst e1; subst e2
  cases p2 with
  | int k =>
    dsimp only at a4
    cases ek : L2.ixN xs.length k with
    | none => rw [ek] at a4; exact False.elim a4
    | some jj =>
      rw [ek] at a4
      have q4 := put_after n2.rep gj (rs.set pv jj) a4
      obtain ⟨ι5, h5, w5, n5, _, sr5, a5⟩ := q4
      refine wpAny_bind (wpAny_standAt (wpAny_bind (wpAny_holding (thn (withTk tk2 (set_list pins s2 σ H2 _ _ _ ov iv u (fun H3 => H3 = upd H2 (ι2 j) (.lst (vs.set jj v))) I2 r1 r2 ru ⟨_, vs, k, jj, rfl, rfl, hj, by rw [← rs.length]; exact ek, rfl⟩)) fun _ s3 ⟨tk3, H3, I3, e3⟩ => ?_))))
      subst e3
      exact wpAny_release ⟨tk3, σ, _, I3, a5 ι5 _ σ (Next.refl n5.rep) sr5⟩
  | _ => exact False.elim a4
theorem gn_sub : GNx (gsub mo mi) := fun w ρ h f ρ' h' e => by
  unfold gsub sbnd at e
  cases q1 : mo ρ h with
  | exc c fs h1 => rw [q1] at e; cases e
  | err => rw [q1] at e; cases e
  | ok o h1 =>
    rw [q1] at e
    dsimp only at e
    cases q2 : mi ρ h1 with
    | exc c fs h2 => rw [q2] at e; cases e
    | err => rw [q2] at e; cases e
    | ok i h2 =>
      rw [q2] at e
      dsimp only at e
      cases q3 : zsetL o i w h2 with
      | exc c fs h3 => rw [q3] at e; cases e
      | err => rw [q3] at e; cases e
      | ok z h3 => rw [q3] at e; cases e; rfl

end
end Z

namespace Z
open PySem L2
open PyProof.Rows hiding St
def zpush (i : Nat) (y : W) : M W := fun h => match h.get i with
  | some (.lst xs) => if decide (xs.length < LIM) = true then .ok .non (h.put i (.lst (xs ++ [y]))) else .err
  | _ => .err
def lpz (z : Itz) (ct : CT) (nt : Ev → M Bool) (bd : Ev → M W) (ρ : Ev) : List W → Nat → M W
  | fuel, i => fun h => match zitem z i h with
    | none => .err
    | some none => .ok .non h
    | some (some w) => match fuel with
      | [] => .err
      | _ :: fuel => match setCT ct w ρ with
        | none => .err
        | some ρ2 => bnd (noex (nt ρ2)) (fun t => match t with
          | true => bnd (bd ρ2) fun _ => lpz z ct nt bd ρ fuel (i + 1)
          | false => lpz z ct nt bd ρ fuel (i + 1)) h
section
variable {z : Itz} {ct : CT} {nt : Ev → M Bool} {bd : Ev → M W} {ρ ρ2 : Ev} {fuel : List W} {i : Nat} {h : Hz} {w f : W}
theorem lpz_stop (e : zitem z i h = some none) : lpz z ct nt bd ρ fuel i h = .ok .non h := by unfold lpz; simp only [e]
theorem lpz_go (e : zitem z i h = some (some w)) (e2 : setCT ct w ρ = some ρ2) : lpz z ct nt bd ρ (f :: fuel) i h = bnd (noex (nt ρ2)) (fun t => match t with
          | true => bnd (bd ρ2) fun _ => lpz z ct nt bd ρ fuel (i + 1)
          | false => lpz z ct nt bd ρ fuel (i + 1)) h := by
  conv => lhs; unfold lpz
  simp only [e, e2]
end
def zlc2 (vs vs1 : List Nat) (mi : Ev → M Itz) (ct : CT) (nt : Ev → M Bool) (mi1 : Ev → M Itz) (ct1 : CT) (nt1 : Ev → M Bool) (me : Ev → M W) : Ev → M W := fun ρ => bnd (mi ρ) fun z h =>
  bnd (lpz z ct nt (fun ρ2 => bnd (noex (mi1 ρ2)) fun z1 => lpz z1 ct1 nt1 (fun ρ3 => bnd (noex (me ρ3)) fun y => zpush h.n y) (wipeW ρ2 vs1) z1.fuel 0) (wipeW ρ vs) z.fuel 0) (fun _ => ret (.ref h.n)) (h.push (.lst []))
end Z

namespace Z
open PySem L2
open PyProof.Rows hiding St
section
variable {X : Cx} {e : Expr} {es : List Expr} {ta : TA} {p p1 p2 pos : Pos}
theorem pe_slinit {x : Str} {C : Addr} {mc : Value} (hg : Gl X x) (hm : X.mg x = some (.ref C)) (rd : ClX.CRead X.K C mc) (vV : PySem.W.findCls X.K (.ref C) mc "__init__" = some (.val (.builtin "ValueError.__init__"))) (ha : PA X (e :: es) ta) (hd : (x == ("__debug__" : Str)) = false)
    (hl : (p2.endLine == pos.line) = true) (hst : (e :: es).all (fun e => !isStar e) = true) (h29 : (e :: es).length < 29) :
    PE X (.Call (.Attribute (.Name x p1) "__init__" p2) (e :: es) [] pos) (tVeI X.K ta) := by
  refine ⟨fun pins s σ H Q I h => ?_⟩
  have hst' := hst
  rw [List.all_cons] at hst'
  have h1 : isStar e = false := by simpa using (Bool.and_eq_true_iff.mp hst').1
  refine PySem.W.methodCall_KW (ld_glob I hg hm ?_ hd) (meth_tree (kws := []) rfl (few_of (kws := []) hst rfl (by simpa using h29)) hl)
  refine PySem.W.method_cls I.kIn rd.ga (PySem.W.cls_value I.kIn rd.rd vV (by decide +kernel) ?_)
  show wpAny _ _ (callWith pos (Value.builtin "ValueError.__init__") [] (backTo pos (starEach (e :: es) X.env)) []) _ _ _
  refine PyProof.Rows.callWith_method1 (thn (ha.run pos pins _ σ H _ (I.tok _) h) fun us s1 ⟨vs, H1, I1, r1, a, C, ws, ev, hl, T, ea, q⟩ => ?_) (starEach_cons h1) (starEach_no (Bool.and_eq_true_iff.mp hst').2)
  subst ev
  cases r1 with
  | @cons _ u0 _ ur ra rw' =>
    obtain rfl : u0 = Value.ref a := ra
    have hlen : ur.length ≤ sizeLine := by
      rw [← Paired.length rw', sizeLine_eq]
      omega
    exact oinit_ok T I1 ea hlen fun s' J => ⟨.non, H1, J, rfl, q⟩
end
def spX1 (C : Addr) (f : Str) : Sp := fun vs H Q _ => ∃ a y, vs = [.ref a, y] ∧ H a = some (exo a C none) ∧ ∀ dx, H dx = none → dx ≠ a → Q .non (upd (upd H dx (exd dx [(f, y)])) a (exo a C (some dx)))
def XkOk (X : Cx) (G : Gt) (k c f : Nat) : Prop := OexC X.K (G.cl c) ∧ ∃ fI fd p q, PySem.W.findIn X.K (.ref (G.cl c)) "__init__" = some (some (.ref fI)) ∧ PySem.W.typeIn X.K (.ref fI) = some (.type "function") ∧
  L2.FnOk X.prog X.w X.K X.mg X.base (CX X.prog X.w) k fI fd [p, q] (spX1 (G.cl c) (G.nm f)) ∧ Binds X.K fd [p, q] []
section
variable {b : Bool} {X : Cx} {G : Gt} {Wf : WX} {e : Expr} {es : List Expr} {mr : Ev → M (List W)} {p pos pos2 : Pos} {x : Str} {k : Nat}
def sraise (c f : Nat) (mr : Ev → M (List W)) : MS := fun ρ => sbnd (mr ρ) ρ fun ws h => match ws with
  | [w] => .exc c [(f, w)] ρ h
  | _ => .err
theorem passF : Passes (CX X.prog X.w) X (fun _ _ _ => False) := fun _ _ _ _ _ _ _ ⟨_, _, _, _, _, _, _, _, _, _, _, _, z⟩ => z.elim
theorem pzs_raise {c f : Nat} (hc : X.calm = true) (tk : Takes X Wf) (C : XkOk X G k c f) (hr : Room (k + 1) X.A) (hg : Gl X x) (hm : X.mg x = some (.ref (G.cl c))) (ha : PZA false X G Wf (e :: es) mr)
    (hdb : (x == ("__debug__" : Str)) = false) (hst : (e :: es).all (fun e => !isStar e) = true) :
    PZS b X G Wf (.Raise (some (.Call (.Name x p) (e :: es) [] pos2)) none pos) (sraise c f mr) := by
  obtain ⟨T, fI, fd, p1, p2, hI, hT, F, B⟩ := C
  rw [List.all_cons] at hst
  have h1 : isStar e = false := by simpa using (Bool.and_eq_true_iff.mp hst).1
  have P := ps_raise (pos := pos) hc tk (pmk_oex (dvs := []) (ds := []) (p := p) (pos := pos2) T hI hT F hr.rm B .nil passF hg hm ha.pa hdb (starEach_cons h1) (starEach_no (Bool.and_eq_true_iff.mp hst).2))
  refine ⟨fun pins s σ H ι h ρ D tk0 I r sr a => withTk tk0 (P.run pins s σ H D I ⟨ι, h, ρ, r, sr, ?_⟩)⟩
  refine (a.bnd (P := rpWs X.K G) r sr).imp fun vs H1 ⟨ι1, h1, ws, n1, p1, sr1, a1⟩ => ?_
  cases p1 with
  | nil => exact False.elim a1
  | @cons w v ws' vs' pw q =>
    cases q with
    | cons _ _ => exact False.elim a1
    | nil =>
      refine ⟨by simp, fun ad hn => ?_⟩
      refine ⟨ad, v, by simp, upd_same, fun dx hdx hne => ?_⟩
      have hdx1 : H1 dx = none := by rw [upd_ne hne] at hdx; exact hdx
      refine ⟨rfl, dx, [(G.nm f, v)], upd_same, by rw [upd_ne hne]; exact upd_same, hdx1, ?_⟩
      have eH : upd (del (upd (upd (upd H1 ad (exo ad (G.cl c) none)) dx (exd dx [(G.nm f, v)])) ad (exo ad (G.cl c) (some dx))) ad) dx (.xd [(G.nm f, v)]) = upd H1 dx (.xd [(G.nm f, v)]) := by
        funext b
        by_cases hb : b = dx
        · rw [hb, upd_same, upd_same]
        · rw [upd_ne hb, upd_ne hb]
          by_cases hb2 : b = ad
          · rw [hb2, del_same, hn]
          · rw [del_ne hb2, upd_ne hb2, upd_ne hb, upd_ne hb2]
      rw [eH]
      have nb := Next.beside (o := .xd [(G.nm f, v)]) n1.rep hdx1
      exact a1 ι1 _ σ (some dx) nb (sr1.next n1.rep nb.toNx0) (.inr ⟨dx, _, rfl, upd_same, .cons (pw.next n1.rep nb.toNx0) .nil⟩)

theorem x1_pure {K : PySem.W.Frag} {C : Addr} {f txt : Str} {N : List Str} {vs : List V} {H : Hp} {Q : VK} {E : XK} (T : OexC K C) (hno : PySem.W.findIn K (.ref C) f = some none) (h : spX1 C f vs H Q E) :
    tSeq (tDrop (tVeI K (tCons (tVar 0) (tCons (tC (.str txt)) tNil)))) (tOst K f (tVar 0) (tVar 1)) { nx := fun _ H' => Q .non H', rt := Q } (start N vs) H := by
  obtain ⟨a, y, rfl, ea, q⟩ := h
  refine ⟨.ref a, rfl, a, C, [.str txt], rfl, by simp, T, ea, ?_⟩
  exact ⟨y, rfl, .ref a, rfl, a, C, rfl, T, hno, .inl ⟨ea, fun dx h1 h2 => q dx h1 h2⟩⟩
theorem x1_len {C : Addr} {f : Str} {a b : Str} : ∀ vs H Q E, spX1 C f vs H Q E → vs.length = [a, b].length := fun vs H Q E ⟨_, _, e, _⟩ => by subst e; rfl
end
end Z

namespace Z
open PySem L2
open PyProof.Rows hiding St
def noX1 (o : Option W) : Option W := match o with
  | some (.exv _ _) => none
  | o => o
def noX : Ev → Ev
  | [] => []
  | o :: ρ => noX1 o :: noX ρ
def stry (cat : Nat → Option Bool) (i : Nat) (m s : MS) : MS := fun ρ h => match m ρ h with
  | .exc c fs ρ' h' => (match cat c with
    | some true => (match s ((noX ρ').set i (some (.exv c fs))) h' with
      | .ok f ρ2 h2 => .ok f (noX (ρ2.set i none)) h2
      | _ => .err)
    | some false => .exc c fs ρ' h'
    | none => .err)
  | r => r
def one (a : Addr) (c : Nat) (d : Option Addr) : Addr → Option (Nat × Option Addr) := fun x => if x = a then some (c, d) else none
end Z

namespace Z
open PySem L2
open PyProof.Rows hiding St
def zxf (cs : List Nat) (i f : Nat) : Ev → M W := fun ρ => match ρ.getD i none with
  | some (.exv c fs) => if cs.contains c = true then ofO (fs.lookup f) else bad
  | _ => bad
def XfOk (K : PySem.W.Frag) (G : Gt) (f : Nat) (cs : List Nat) : Prop := ∀ c ∈ cs, XfC K (G.cl c) ∧ PySem.W.findIn K (.ref (G.cl c)) (G.nm f) = some none
end Z

namespace Z
open PySem L2
open PyProof.Rows hiding St
theorem pe_strS {X : Cx} {x : Str} {z : List Nat} {j : Nat} {pos : Pos} (e : x = S z) : PE X (.Constant (.str x) j pos) (tC (.str (S z))) := by
  subst e
  exact pe_str
end Z

namespace Z
open PySem L2
open PyProof.Rows hiding St
def oexcls (K : PySem.W.Frag) (C : Addr) : Bool := match K.lookup C with
  | some ⟨.type "type", _, .cls cd, sl⟩ => (match cd.mro, sl.toList with
    | .ref C' :: bm, [_, _, _, _, some (.builtin n), _] => decide (C' = C) && (decide (n = "ValueError.__new__") && (!cd.hasDel && (cd.hasDict && PySem.HandSPX.refsVE bm)))
    | _, _ => false)
  | _ => false
theorem oexcls_ok {K : PySem.W.Frag} {C : Addr} (q : oexcls K C = true) : ∃ nm qn N bs bm sn sub ab col dd k0 k1 k2 k3 k5, K.lookup C = some (excClassObj nm qn C N bs bm true sn sub ab col dd k0 k1 k2 k3 k5 "ValueError.__new__") ∧ PySem.HandSPX.refsVE bm = true := by
  unfold oexcls at q
  split at q
  · rename_i dd cd sl ho
    split at q
    · rename_i C' bm k0 k1 k2 k3 n k5 hm hs
      obtain ⟨q1, q⟩ := He.ba q
      obtain ⟨q2, q⟩ := He.ba q
      obtain ⟨q3, q⟩ := He.ba q
      obtain ⟨q4, q5⟩ := He.ba q
      have e1 : C' = C := of_decide_eq_true q1
      have e2 : n = "ValueError.__new__" := of_decide_eq_true q2
      subst e1 e2
      obtain ⟨nm, bs, mro, ns, qn, hd, sn, sub, ab, col, del⟩ := cd
      dsimp only at hm q3 q4
      subst hm
      have e3 : del = false := by simpa using q3
      have e4 : hd = true := q4
      subst e3 e4
      have hsl : sl = #[k0, k1, k2, k3, some (.builtin "ValueError.__new__"), k5] := by
        obtain ⟨l⟩ := sl
        simp only at hs
        rw [hs]
      subst hsl
      exact ⟨nm, qn, ns, bs, bm, sn, sub, ab, col, dd, k0, k1, k2, k3, k5, ho, q5⟩
    · cases q
  · cases q
def cXc (x : Str) (fs : List Str) (K : PySem.W.Frag) : Bool := (He.Fa.glo x).ok K && (oexcls K (He.ga K x) && (decide (PySem.W.findIn K (.ref (He.ga K x)) "__setattr__" = some (some (.builtin "object.__setattr__"))) &&
  (decide (PySem.W.subIn K (.ref (He.ga K x)) (.type "BaseException") = some true) && (decide (PySem.W.typeIn K (.ref (He.ga K x)) = some (.type "type")) && (PySem.W.keepIn K (.ref (He.ga K x)) &&
  (decide (PySem.W.findIn K (.ref (He.ga K x)) "__init__" = some (some (.ref (He.ma K (He.ga K x) "__init__")))) && (decide (PySem.W.typeIn K (.ref (He.ma K (He.ga K x) "__init__")) = some (.type "function")) &&
  (xfB K (He.ga K x) && fs.all fun f => decide (PySem.W.findIn K (.ref (He.ga K x)) f = some none)))))))))
structure XcF (K : PySem.W.Frag) (x : Str) (fs : List Str) : Prop where
  oex : OexC K (He.ga K x)
  init : PySem.W.findIn K (.ref (He.ga K x)) "__init__" = some (some (.ref (He.ma K (He.ga K x) "__init__")))
  fn : PySem.W.typeIn K (.ref (He.ma K (He.ga K x) "__init__")) = some (.type "function")
  xf : XfC K (He.ga K x)
  no : ∀ f ∈ fs, PySem.W.findIn K (.ref (He.ga K x)) f = some none
theorem cXc_ok {K : PySem.W.Frag} {h : Heap} {mg : Str → Option Value} (X : K.In h) (G : h.Ns mainGlobals mg) {x : Str} {fs : List Str} (c : cXc x fs K = true) : mg x = some (.ref (He.ga K x)) ∧ XcF K x fs := by
  obtain ⟨c0, c⟩ := He.ba c
  obtain ⟨c1, c⟩ := He.ba c
  obtain ⟨c2, c⟩ := He.ba c
  obtain ⟨c3, c⟩ := He.ba c
  obtain ⟨c4, c⟩ := He.ba c
  obtain ⟨c5, c⟩ := He.ba c
  obtain ⟨c6, c⟩ := He.ba c
  obtain ⟨c7, c⟩ := He.ba c
  obtain ⟨c8, c9⟩ := He.ba c
  exact ⟨He.glo_ok X G c0, ⟨oexcls_ok c1, of_decide_eq_true c2, of_decide_eq_true c3, of_decide_eq_true c4, c5⟩, of_decide_eq_true c6, of_decide_eq_true c7, xfB_ok c8, fun f hf => of_decide_eq_true (List.all_eq_true.mp c9 f hf)⟩
def cSl (x : Str) (K : PySem.W.Frag) : Bool := (He.Fa.glo x).ok K && (PySem.W.readsIn K (He.ga K x) (.type "type") && (decide (PySem.W.specialIn K (.ref (He.ga K x)) "__getattribute__" = some (some (.builtin "type.__getattribute__"))) &&
  (match PySem.W.findCls K (.ref (He.ga K x)) (.type "type") "__init__" with
    | some (.val (.builtin n)) => decide (n = "ValueError.__init__")
    | _ => false)))
theorem cSl_ok {K : PySem.W.Frag} {h : Heap} {mg : Str → Option Value} (X : K.In h) (G : h.Ns mainGlobals mg) {x : Str} (c : cSl x K = true) : mg x = some (.ref (He.ga K x)) ∧ ClX.CRead K (He.ga K x) (.type "type") ∧ PySem.W.findCls K (.ref (He.ga K x)) (.type "type") "__init__" = some (.val (.builtin "ValueError.__init__")) := by
  obtain ⟨c0, c⟩ := He.ba c
  obtain ⟨c1, c⟩ := He.ba c
  obtain ⟨c2, c3⟩ := He.ba c
  refine ⟨He.glo_ok X G c0, ⟨c1, of_decide_eq_true c2⟩, ?_⟩
  split at c3
  · rename_i n e
    have : n = "ValueError.__init__" := of_decide_eq_true c3
    rw [e, this]
  · cases c3
open He5 (DefA fnA asA)
def filtZ : List Addr → List Addr → List Addr
  | [], r => r
  | b :: bs, r => match Nat.beq b mainGlobals with
    | true => filtZ bs r
    | false => b :: filtZ bs r
def frontZ (g : Addr → Option Obj) : List Addr → List Addr
  | [] => []
  | a :: as => match g a with
    | some o => filtZ (He.refsD o) (frontZ g as)
    | none => frontZ g as
def asZ0 (g : Addr → Option Obj) : Nat → List Addr → List Addr
  | 0, as => as
  | n + 1, as => as ++ asZ0 g n (frontZ g as)
def asZ (g : Addr → Option Obj) (n : Nat) : List Addr := asZ0 g n [mainGlobals] ++ [cStatics]
abbrev AlY : Type := AlZ × List (Option (List (Option (Str × Int))))
def obsY (chk : List (PySem.W.Frag → Bool)) (fn : List DefA) (ds : List (Str × List Str)) (K : PySem.W.Frag) : AlY := (obsZ chk fn K, ds.map fun d => He.dicW K (He.ga K d.1))
def valY (fn : List DefA) (ds : List (Str × List Str)) (P : Params) : AlY := (valZ fn, ds.map fun d => some (He.keysIn P d.2))
def SaysY (P : Params) (chk : List (PySem.W.Frag → Bool)) (fn : List DefA) (ds : List (Str × List Str)) (K : PySem.W.Frag) : Prop := obsY chk fn ds K = valY fn ds P
def obsYG (n : Nat) (chk : List (PySem.W.Frag → Bool)) (fn : List DefA) (ds : List (Str × List Str)) (g : Addr → Option Obj) : AlY := obsY chk fn ds (He.frG g (asZ g n))
def hookY (n : Nat) (chk : List (PySem.W.Frag → Bool)) (fn : List DefA) (ds : List (Str × List Str)) : PySem.W.Hook where
  α := AlY
  obs := fun s => obsYG n chk fn ds s.heap.get?
  val := fun w => valY fn ds w.params
  says := fun w h => ∃ K : PySem.W.Frag, K.In h ∧ SaysY w.params chk fn ds K
  of := fun _ _ e => ⟨_, He.frG_in, e⟩
  keeps := fun _ _ _ ⟨K, hK, c⟩ k => ⟨K, PySem.W.Frag.In.keeps hK k, c⟩
section
variable {P : Params} {chk : List (PySem.W.Frag → Bool)} {fn : List DefA} {ds : List (Str × List Str)} {K : PySem.W.Frag}
theorem SaysY.z (c : SaysY P chk fn ds K) : SaysZ chk fn K := congrArg (fun z : AlY => z.1) c
end
def gK (k : Nat) (m : MS) : MS := match k with
  | 0 => sbad
  | _ + 1 => m
theorem pzs_gK {b : Bool} {X : Cx} {G : Gt} {Wf : WX} {st : Stmt} {m : MS} {k : Nat} (h : ∀ j, k = j + 1 → PZS b X G Wf st m) : PZS b X G Wf st (gK k m) := by
  cases k with
  | zero => exact pzs_bad
  | succ j => exact h j rfl
theorem pg_int' {b : Bool} {X : Cx} {G : Gt} {Wf : WX} {x : Str} {pos : Pos} {i : Int} (hg : Gl X x) (hm : ∃ t, X.mg x = some (.int i t)) (hd : (x == ("__debug__" : Str)) = false) : PZ b X G Wf (.Name x pos) (fun _ => ret (.int i)) := by
  obtain ⟨t, hm⟩ := hm
  exact pz_glob (w := .int i) (v := .int i) hg hm ⟨t, rfl⟩ hd fun ι h H _ => .int i
end Z

namespace Z
open PySem L2
open PyProof.Rows hiding St
theorem NoAt.sub {K : PySem.W.Frag} {G : Gt} {f : Nat} {cs cs' : List Nat} (h : NoAt K G f cs) (hs : ∀ c ∈ cs', c ∈ cs) : NoAt K G f cs' := fun c hc => h c (hs c hc)
end Z

namespace Z
open PySem L2
open PyProof.Rows hiding St
def repL (s : List Nat) : Nat → List Nat
  | 0 => []
  | n + 1 => s ++ repL s n
theorem repL_nil : ∀ n, repL [] n = []
  | 0 => rfl
  | n + 1 => repL_nil n
theorem repL_len (s : List Nat) : ∀ n, (repL s n).length = s.length * n
  | 0 => rfl
  | n + 1 => by
    show (s ++ repL s n).length = _
    rw [List.length_append, repL_len s n, Nat.mul_succ, Nat.add_comm]
theorem fold_rep (s : List Nat) : ∀ (n : Nat) (acc : Array Nat), ((List.replicate n s.toArray).foldl (· ++ ·) acc).toList = acc.toList ++ repL s n
  | 0, acc => by simp [repL]
  | n + 1, acc => by
    rw [List.replicate_succ, List.foldl_cons, fold_rep s n]
    simp [repL]
def zmulS (s : List Nat) (n : Int) : M W := if decide (n < 1) = true then (if decide (-P62 ≤ n) = true then ret (.str []) else bad) else
  if (decide (n ≤ 1000000) && decide (s.length * n.toNat ≤ 1000000)) = true then ret (.str (repL s n.toNat)) else bad
def zmulA (x y : W) : M W := match x, y with
  | .str s, .int n => zmulS s n
  | x, y => zmul x y
section
variable {X : Cx} {G : Gt} {Wf : WX}
theorem mulS_ok {pins : List (Addr × Obj)} {s : Shared} {σ : St} {H : Hp} {ι : Nat → Addr} {h : Hz} {z : List Nat} {n : Int} {u1 u2 : Value} {Q : VK} (I : Inv X pins σ H s) (r : HRep X.K G ι h H) (r1 : RelV (.str (S z)) u1) (r2 : RelV (.int n) u2)
    (aft : Aft X.K G Wf σ (rpW X.K G) ι h H (zmulS z n h) Q) : wpAny (model X.prog X.w) X.A (binaryOp .Mult u1 u2) (EP X pins σ Q) X.xe s := by
  obtain ⟨t, rfl⟩ := r1
  obtain ⟨t', rfl⟩ := r2
  unfold zmulS at aft
  have hS : sizeLine = 16777216 := sizeLine_eq
  split at aft
  · rename_i hn
    have hn' : n < 1 := of_decide_eq_true hn
    split at aft
    · rename_i hlo
      have hlo' : -P62 ≤ n := of_decide_eq_true hlo
      refine P.mul_str_none hn' (by unfold P62 at hlo'; omega) ⟨.str (S []), H, I.tok _, ⟨_, rfl⟩, aft.ret r (.str [])⟩
    · exact False.elim aft
  · rename_i hn
    have hn' : ¬ n < 1 := fun q => hn (decide_eq_true q)
    split at aft
    · rename_i hb
      obtain ⟨b1, b2⟩ := Bool.and_eq_true_iff.mp hb
      have b1 : n ≤ 1000000 := of_decide_eq_true b1
      have b2 : z.length * n.toNat ≤ 1000000 := of_decide_eq_true b2
      have hlen : (S z).length = z.length := S_len z
      refine P.mul_str (by rw [decide_eq_false (by omega), decide_eq_false (by omega)]; rfl) (fun _ _ => ?_) (fun _ _ => ?_) ?_
      · rw [hlen]
        have h1 : (z.length : Int) ≤ 1000000 := by
          have : z.length ≤ z.length * n.toNat := Nat.le_mul_of_pos_right _ (by omega)
          omega
        have h2 : (9223372036854 : Int) ≤ (2 ^ 63 - 1) / n := by
          rw [Int.le_ediv_iff_mul_le (by omega)]
          omega
        omega
      · rw [hlen]
        unfold Builtin.Str.tooLong
        simp only [decide_eq_false_iff_not]
        omega
      · rw [if_neg hn']
        split
        · rename_i hc
          refine ⟨.str (S z), H, I, ⟨t, rfl⟩, ?_⟩
          have e : repL z n.toNat = z := by
            rw [hlen] at hc
            rcases (Bool.or_eq_true _ _).mp hc with q | q
            · have : n = 1 := by simpa using q
              subst this
              simp [repL]
            · have : z = [] := by simpa using q
              subst this
              exact repL_nil _
          rw [e] at aft
          exact aft.ret r (.str z)
        · have e : (⟨(List.replicate n.toNat (S z).cps).foldl (· ++ ·) #[]⟩ : Str) = S (repL z n.toNat) := by
            have := fold_rep z n.toNat #[]
            simp only [List.nil_append] at this
            have h2 : (List.replicate n.toNat (S z).cps).foldl (· ++ ·) #[] = (repL z n.toNat).toArray := by
              rw [← this]
            rw [h2]
          rw [e]
          refine ⟨?_, .str (S (repL z n.toNat)), H, I.tok _, ⟨_, rfl⟩, aft.ret r (.str _)⟩
          rw [S_len, repL_len, hS]
          omega
    · exact False.elim aft
theorem op_zmulA : OpZ X G Wf (binaryOp .Mult) zmulA := by
  intro pins s σ H ι h x y v1 v2 u1 u2 Q I r p1 p2 r1 r2 a
  cases p1 with
  | str z =>
    cases p2 with
    | int n => exact mulS_ok I r r1 r2 a
    | _ => exact False.elim a
  | int i => exact op_zmul pins s σ H ι h (.int i) y _ _ u1 u2 Q I r (.int i) p2 r1 r2 a
  | non => exact op_zmul pins s σ H ι h _ y _ _ u1 u2 Q I r .non p2 r1 r2 a
  | _ => exact False.elim (by unfold zmulA zmul zint2 at a; exact a)
end
end Z

namespace Z
open PySem L2
open PyProof.Rows hiding St
end Z

namespace Z
open PySem L2
open PyProof.Rows hiding St
open He5 (DefA fnA asA)
structure Prt where
  chk : List (PySem.W.Frag → Bool)
  fn : List DefA
  ds : List (Str × List Str)
def Prt.hk (n : Nat) (p : Prt) : PySem.W.Hook := hookY n p.chk p.fn p.ds
def Prt.ob (n : Nat) (p : Prt) (s : PySem.W.SharedT) : AlY := obsYG n p.chk p.fn p.ds (HandSHeadRun.getT s)
def hook3 (n : Nat) (p q r : Prt) : PySem.W.Hook where
  α := AlY × AlY × AlY
  obs := fun s => (obsYG n p.chk p.fn p.ds s.heap.get?, obsYG n q.chk q.fn q.ds s.heap.get?, obsYG n r.chk r.fn r.ds s.heap.get?)
  val := fun w => (valY p.fn p.ds w.params, valY q.fn q.ds w.params, valY r.fn r.ds w.params)
  says := fun w h => ∃ K : PySem.W.Frag, K.In h ∧ SaysY w.params p.chk p.fn p.ds K ∧ SaysY w.params q.chk q.fn q.ds K ∧ SaysY w.params r.chk r.fn r.ds K
  of := fun w s e => ⟨_, He.frG_in, congrArg (fun z : AlY × AlY × AlY => z.1) e, congrArg (fun z : AlY × AlY × AlY => z.2.1) e, congrArg (fun z : AlY × AlY × AlY => z.2.2) e⟩
  keeps := fun _ _ _ ⟨K, hK, c⟩ k => ⟨K, PySem.W.Frag.In.keeps hK k, c⟩
def ob3 (n : Nat) (p q r : Prt) (s : PySem.W.SharedT) : AlY × AlY × AlY := (p.ob n s, q.ob n s, r.ob n s)
theorem ob3_eq {n : Nat} {p q r : Prt} (s : PySem.W.SharedT) : ob3 n p q r s = (hook3 n p q r).obs s.abs := by
  have e : HandSHeadRun.getT s = s.abs.heap.get? := funext (HandSHeadRun.getT_eq s)
  unfold ob3 Prt.ob
  rw [e]
  rfl
end Z

namespace Z
open PySem L2
open PyProof.Rows hiding St
open He5 (DefA fnA asA)
open HandSHeadRun PySem.W in
def Run0 (r : PySem.W.OpenRow) (q : Program) (M : Nat) (loose : List PySem.Str) (w : World) : Prop :=
  ∀ os : OsState, (endF (stepQ (denQ tabQ) r.prog w) M r.prog w os).map (fun s => (looksF r.prog (boot_heap w.params) s.abs, seenQ q loose (importedModules r.prog.main.body) (fun s => xlAt q [] s && recOk r.toRowW.records s) s.abs)) = some (true, openGood q loose)
open HandSHeadRun PySem.W in
def RunP (r : PySem.W.OpenRow) (n M : Nat) (w : World) (p : Prt) : Prop :=
  ∀ os : OsState, (endF (stepQ (denQ tabQ) r.prog w) M r.prog w os).map (p.ob n) = some (valY p.fn p.ds w.params)
theorem run_of {r : PySem.W.OpenRow} {q0 : Program} {n M : Nat} {loose : List PySem.Str} {w : World} {p q t : Prt} (h0 : Run0 r q0 M loose w) (h1 : RunP r n M w p) (h2 : RunP r n M w q) (h3 : RunP r n M w t) :
    HandSHeadRun.RunEq r q0 (hook3 n p q t) (ob3 n p q t) M loose w := fun os => by
  have e0 := h0 os
  have e1 := h1 os
  have e2 := h2 os
  have e3 := h3 os
  generalize HandSHeadRun.endF _ M r.prog w os = F at e0 e1 e2 e3 ⊢
  cases F with
  | none => cases e1
  | some s =>
    have e0 := Option.some.inj e0
    have e1 := Option.some.inj e1
    have e2 := Option.some.inj e2
    have e3 := Option.some.inj e3
    simp only [Prod.mk.injEq] at e0
    show some (_, _, (p.ob n s, q.ob n s, t.ob n s)) = some (true, PySem.W.openGood q0 loose, (valY p.fn p.ds w.params, valY q.fn q.ds w.params, valY t.fn t.ds w.params))
    rw [e0.1, e0.2, e1, e2, e3]
end Z

namespace Z
open PySem L2
open PyProof.Rows hiding St
mutual
def toD : W → Option PyData
  | .non => some .none
  | .bl b => some (.bool b)
  | .int i => some (.int i)
  | .str s => some (.str ⟨s.toArray⟩)
  | .tup ws => match toDs ws with
    | some ds => some (.tuple ds)
    | none => none
  | _ => none
def toDs : List W → Option (List PyData)
  | [] => some []
  | w :: ws => match toD w with
    | some d => (match toDs ws with
      | some ds => some (d :: ds)
      | none => none)
    | none => none
end
section
variable {X : Cx} {G : Gt} {ι : Nat → Addr} {h : Hz} {H : Hp} {pins : List (Addr × Obj)} {σ : St} {s : Shared}
mutual
theorem reads_of (I : Inv X pins σ H s) : ∀ {w : W} {v : V} {u : Value} {d : PyData}, Rep X.K G ι h H w v → RelV v u → toD w = some d → ∃ as, Reads s.heap u d as
  | _, _, u, d, .non, rv, e => by
    simp only [toD] at e
    cases e
    cases (show u = Value.none from rv)
    exact ⟨_, .none⟩
  | _, _, u, d, .bl b, rv, e => by
    simp only [toD] at e
    cases e
    cases (show u = Value.bool b from rv)
    exact ⟨_, .bool b⟩
  | _, _, u, d, .int i, rv, e => by
    simp only [toD] at e
    cases e
    obtain ⟨t, q⟩ := (show ∃ t, u = Value.int i t from rv)
    cases q
    exact ⟨_, .int i t⟩
  | _, _, u, d, .str z, rv, e => by
    simp only [toD] at e
    cases e
    obtain ⟨t, q⟩ := (show ∃ t, u = Value.str _ t from rv)
    cases q
    exact ⟨_, .str _ t⟩
  | .tup ws, .ref a, u, d, .tup sq rs, rv, e => by
    cases (show u = Value.ref a from rv)
    simp only [toD] at e
    cases q : toDs ws with
    | none => rw [q] at e; cases e
    | some ds =>
      rw [q] at e
      cases e
      obtain ⟨its, rvs, ⟨o, ho, hc, m, hd⟩, _⟩ := I.tuple sq
      obtain ⟨as, ra⟩ := readsAll_of I rs rvs q
      exact ⟨_, .tuple ho hc hd (by simpa using ra)⟩
  | _, _, u, d, .fz _ _, rv, e => by simp only [toD] at e; cases e
  | _, _, u, d, .obj _ _ _ _, rv, e => by simp only [toD] at e; cases e
  | _, _, u, d, .ref i _, rv, e => by simp only [toD] at e; cases e
  | _, _, u, d, .fn i, rv, e => by simp only [toD] at e; cases e
  | _, _, u, d, .cl i, rv, e => by simp only [toD] at e; cases e
theorem readsAll_of (I : Inv X pins σ H s) : ∀ {ws : List W} {vs : List V} {us : List Value} {ds : List PyData}, Reps X.K G ι h H ws vs → Vals vs us → toDs ws = some ds → ∃ as, ReadsAll s.heap us ds as
  | _, _, us, ds, .nil, rv, e => by
    simp only [toDs] at e
    cases e
    cases rv
    exact ⟨_, .nil⟩
  | _, _, us, ds, .cons (w := w) (ws := ws) r rs, rv, e => by
    cases rv with
    | cons r1 r2 =>
      simp only [toDs] at e
      cases q : toD w with
      | none => rw [q] at e; cases e
      | some d =>
        rw [q] at e
        cases q2 : toDs ws with
        | none => rw [q2] at e; cases e
        | some ds2 =>
          rw [q2] at e
          cases e
          obtain ⟨as, ra⟩ := reads_of I r r1 q
          obtain ⟨bs, rb⟩ := readsAll_of I rs r2 q2
          exact ⟨_, .cons ra rb⟩
end
end
mutual
theorem toD_nod : ∀ {w : W} {d : PyData}, toD w = some d → d.hasDict = false
  | .non, d, e => by simp only [toD] at e; cases e; simp only [PyData.hasDict]
  | .bl b, d, e => by simp only [toD] at e; cases e; simp only [PyData.hasDict]
  | .int i, d, e => by simp only [toD] at e; cases e; simp only [PyData.hasDict]
  | .str z, d, e => by simp only [toD] at e; cases e; simp only [PyData.hasDict]
  | .tup ws, d, e => by
    simp only [toD] at e
    cases q : toDs ws with
    | none => rw [q] at e; cases e
    | some ds =>
      rw [q] at e
      cases e
      simp only [PyData.hasDict]
      exact toDs_nod q
  | .ref _, d, e => by simp only [toD] at e; cases e
  | .fn _, d, e => by simp only [toD] at e; cases e
  | .cl _, d, e => by simp only [toD] at e; cases e
  | .obj _ _, d, e => by simp only [toD] at e; cases e
  | .fz _, d, e => by simp only [toD] at e; cases e
  | .exv _ _, d, e => by simp only [toD] at e; cases e
theorem toDs_nod : ∀ {ws : List W} {ds : List PyData}, toDs ws = some ds → PyData.hasDictAll ds = false
  | [], ds, e => by simp only [toDs] at e; cases e; simp only [PyData.hasDictAll]
  | w :: ws, ds, e => by
    simp only [toDs] at e
    cases q : toD w with
    | none => rw [q] at e; cases e
    | some d =>
      rw [q] at e
      cases q2 : toDs ws with
      | none => rw [q2] at e; cases e
      | some ds2 =>
        rw [q2] at e
        cases e
        simp only [PyData.hasDictAll, toD_nod q, toDs_nod q2, Bool.or_self]
end
end Z

namespace Z
open PySem L2
open PyProof.Rows hiding St
def plainC (c : Nat) : Bool := Nat.ble 32 c && Nat.ble c 126 && !Nat.beq c 39 && !Nat.beq c 92
def plain0 : Nat → Bool
  | 0 => true
  | n + 1 => (!plainC n || decide (Builtin.Str.reprChar 39 n = [n])) && plain0 n
theorem plain0_of : ∀ {n c : Nat}, plain0 n = true → c < n → plainC c = true → Builtin.Str.reprChar 39 c = [c]
  | n + 1, c, h, hc, hp => by
    unfold plain0 at h
    obtain ⟨h1, h2⟩ := Bool.and_eq_true_iff.mp h
    by_cases e : c = n
    · subst e
      rw [hp] at h1
      simpa using h1
    · exact plain0_of h2 (by omega) hp
theorem plain127 : plain0 127 = true := by decide +kernel
theorem plainC_rep {c : Nat} (h : plainC c = true) : Builtin.Str.reprChar 39 c = [c] := by
  have : c < 127 := by
    unfold plainC at h
    simp only [Bool.and_eq_true, Nat.ble_eq] at h
    omega
  exact plain0_of plain127 this h
theorem fold_plain : ∀ (s : List Nat) (acc : Array Nat), s.all plainC = true → s.foldl (fun out c => out ++ (Builtin.Str.reprChar 39 c).toArray) acc = acc ++ s.toArray
  | [], acc, _ => by simp
  | c :: s, acc, h => by
    rw [List.all_cons] at h
    obtain ⟨h1, h2⟩ := Bool.and_eq_true_iff.mp h
    rw [List.foldl_cons, plainC_rep h1, fold_plain s _ h2]
    simp
theorem repr_plain {s : List Nat} (h : s.all plainC = true) : reprText ⟨s.toArray⟩ = ⟨(39 :: (s ++ [39])).toArray⟩ := by
  have hq : reprQuote ⟨s.toArray⟩ = 39 := by
    unfold reprQuote
    have : s.toArray.contains 39 = false := by
      rw [List.contains_toArray, Bool.eq_false_iff]
      intro z
      have hm : 39 ∈ s := by simpa using z
      have := List.all_eq_true.mp h 39 hm
      revert this
      decide
    rw [show (⟨s.toArray⟩ : Str).cps = s.toArray from rfl, this]
    rfl
  unfold reprText
  rw [hq, show (⟨s.toArray⟩ : Str).cps = s.toArray from rfl, ← Array.foldl_toList]
  rw [show s.toArray.toList = s from rfl, fold_plain s _ h]
  simp
def intL (i : Int) : List Nat := (Str.ofString (toString i)).cps.toList
def commaL : List (List Nat) → List Nat
  | [] => []
  | t :: ts => match ts with
    | [] => t
    | _ :: _ => t ++ (44 :: 32 :: commaL ts)
mutual
def shL : W → Option (List Nat)
  | .non => some [78, 111, 110, 101]
  | .bl b => match b with
    | true => some [84, 114, 117, 101]
    | false => some [70, 97, 108, 115, 101]
  | .int i => match decide (i.natAbs.log2 < 1920) with
    | true => some (intL i)
    | false => none
  | .str s => match s.all plainC with
    | true => some (39 :: (s ++ [39]))
    | false => none
  | .tup ws => match shLs ws with
    | some ts => some (40 :: (commaL ts ++ (match ts with | [_] => [44, 41] | _ => [41])))
    | none => none
  | _ => none
def shLs : List W → Option (List (List Nat))
  | [] => some []
  | w :: ws => match shL w with
    | some t => (match shLs ws with
      | some ts => some (t :: ts)
      | none => none)
    | none => none
end
theorem str_app (a b : List Nat) : (⟨a.toArray⟩ : Str) ++ (⟨b.toArray⟩ : Str) = ⟨(a ++ b).toArray⟩ := by
  show Str.mk (a.toArray ++ b.toArray) = _
  simp
theorem lit_comma : Str.ofString ", " = ⟨[44, 32].toArray⟩ := by decide +kernel
theorem join_comma : ∀ ts : List (List Nat), Str.join (Str.ofString ", ") (ts.map fun t => (⟨t.toArray⟩ : Str)) = ⟨(commaL ts).toArray⟩
  | [] => rfl
  | [t] => rfl
  | t :: t2 :: ts => by
    have ih := join_comma (t2 :: ts)
    show (⟨t.toArray⟩ : Str) ++ Str.ofString ", " ++ Str.join (Str.ofString ", ") ((t2 :: ts).map fun t => (⟨t.toArray⟩ : Str)) = _
    rw [ih, lit_comma, str_app t [44, 32], str_app (t ++ [44, 32])]
    show _ = Str.mk (t ++ (44 :: 32 :: commaL (t2 :: ts))).toArray
    simp
theorem tup_text (ts : List (List Nat)) : tupleText (ts.map fun t => (⟨t.toArray⟩ : Str)) = ⟨(40 :: (commaL ts ++ (match ts with | [_] => [44, 41] | _ => [41]))).toArray⟩ := by
  have e1 : Str.ofString "(" = ⟨[40].toArray⟩ := by decide +kernel
  have e2 : Str.ofString ")" = ⟨[41].toArray⟩ := by decide +kernel
  have e3 : Str.ofString ",)" = ⟨[44, 41].toArray⟩ := by decide +kernel
  show Str.ofString "(" ++ Str.join (Str.ofString ", ") (ts.map fun t => (⟨t.toArray⟩ : Str)) ++ Str.ofString (if (ts.map fun t => (⟨t.toArray⟩ : Str)).length == 1 then ",)" else ")") = _
  rw [join_comma, e1, str_app [40] (commaL ts)]
  match ts with
  | [] =>
    show Str.mk ([40] ++ commaL []).toArray ++ Str.ofString ")" = _
    rw [e2, str_app]
    rfl
  | [t] =>
    show Str.mk ([40] ++ commaL [t]).toArray ++ Str.ofString ",)" = _
    rw [e3, str_app]
    rfl
  | t :: t2 :: ts =>
    have q : (((t :: t2 :: ts).map fun t => (⟨t.toArray⟩ : Str)).length == 1) = false := by simp
    rw [q]
    show Str.mk ([40] ++ commaL (t :: t2 :: ts)).toArray ++ Str.ofString ")" = _
    rw [e2, str_app]
    rfl
mutual
theorem shL_of : ∀ {w : W} {t : List Nat}, shL w = some t → ∃ d, toD w = some d ∧ d.shown = ⟨t.toArray⟩ ∧ d.showable = true
  | .non, t, e => by
    simp only [shL] at e
    cases e
    exact ⟨PyData.none, by simp only [toD], by simp only [PyData.shown]; decide +kernel, by simp only [PyData.showable]⟩
  | .bl true, t, e => by
    simp only [shL] at e
    cases e
    exact ⟨PyData.bool true, by simp only [toD], by simp only [PyData.shown]; decide +kernel, by simp only [PyData.showable]⟩
  | .bl false, t, e => by
    simp only [shL] at e
    cases e
    exact ⟨PyData.bool false, by simp only [toD], by simp only [PyData.shown]; decide +kernel, by simp only [PyData.showable]⟩
  | .int i, t, e => by
    simp only [shL] at e
    cases q : decide (i.natAbs.log2 < 1920) with
    | false => rw [q] at e; cases e
    | true =>
      rw [q] at e
      cases e
      exact ⟨PyData.int i, by simp only [toD], by simp only [PyData.shown]; rfl, by simp only [PyData.showable]; exact q⟩
  | .str s, t, e => by
    simp only [shL] at e
    cases q : s.all plainC with
    | false => rw [q] at e; cases e
    | true =>
      rw [q] at e
      cases e
      exact ⟨PyData.str ⟨s.toArray⟩, by simp only [toD], by simp only [PyData.shown]; exact repr_plain q, by simp only [PyData.showable]⟩
  | .tup ws, t, e => by
    simp only [shL] at e
    cases q : shLs ws with
    | none => rw [q] at e; cases e
    | some ts =>
      rw [q] at e
      cases e
      obtain ⟨ds, e1, e2, e3⟩ := shLs_of q
      refine ⟨.tuple ds, by simp only [toD, e1], ?_, by simp only [PyData.showable]; exact e3⟩
      simp only [PyData.shown]
      rw [e2]
      exact tup_text ts
  | .ref _, t, e => by simp only [shL] at e; cases e
  | .fn _, t, e => by simp only [shL] at e; cases e
  | .cl _, t, e => by simp only [shL] at e; cases e
  | .obj _ _, t, e => by simp only [shL] at e; cases e
  | .fz _, t, e => by simp only [shL] at e; cases e
  | .exv _ _, t, e => by simp only [shL] at e; cases e
theorem shLs_of : ∀ {ws : List W} {ts : List (List Nat)}, shLs ws = some ts → ∃ ds, toDs ws = some ds ∧ PyData.shownAll ds = ts.map (fun t => (⟨t.toArray⟩ : Str)) ∧ PyData.showableAll ds = true
  | [], ts, e => by
    simp only [shLs] at e
    cases e
    exact ⟨[], by simp only [toDs], by simp only [PyData.shownAll]; rfl, by simp only [PyData.showableAll]⟩
  | w :: ws, ts, e => by
    simp only [shLs] at e
    cases q : shL w with
    | none => rw [q] at e; cases e
    | some t =>
      rw [q] at e
      cases q2 : shLs ws with
      | none => rw [q2] at e; cases e
      | some ts2 =>
        rw [q2] at e
        cases e
        obtain ⟨d, a1, a2, a3⟩ := shL_of q
        obtain ⟨ds, b1, b2, b3⟩ := shLs_of q2
        exact ⟨d :: ds, by simp only [toDs, a1, b1], by simp only [PyData.shownAll, a2, b2]; rfl, by simp only [PyData.showableAll, a3, b3]; rfl⟩
end
end Z

namespace Z
open PySem L2
open PyProof.Rows hiding St
mutual
def dpW : W → Nat
  | .tup ws => dpWs ws + 1
  | _ => 0
def dpWs : List W → Nat
  | [] => 0
  | w :: ws => max (dpW w) (dpWs ws)
end
mutual
theorem dpW_of : ∀ {w : W} {d : PyData}, toD w = some d → d.depth = dpW w
  | .non, d, e => by simp only [toD] at e; cases e; simp only [PyData.depth, dpW]
  | .bl b, d, e => by simp only [toD] at e; cases e; simp only [PyData.depth, dpW]
  | .int i, d, e => by simp only [toD] at e; cases e; simp only [PyData.depth, dpW]
  | .str z, d, e => by simp only [toD] at e; cases e; simp only [PyData.depth, dpW]
  | .tup ws, d, e => by
    simp only [toD] at e
    cases q : toDs ws with
    | none => rw [q] at e; cases e
    | some ds =>
      rw [q] at e
      cases e
      simp only [PyData.depth, dpW, dpWs_of q]
  | .ref _, d, e => by simp only [toD] at e; cases e
  | .fn _, d, e => by simp only [toD] at e; cases e
  | .cl _, d, e => by simp only [toD] at e; cases e
  | .obj _ _, d, e => by simp only [toD] at e; cases e
  | .fz _, d, e => by simp only [toD] at e; cases e
  | .exv _ _, d, e => by simp only [toD] at e; cases e
theorem dpWs_of : ∀ {ws : List W} {ds : List PyData}, toDs ws = some ds → PyData.depthAll ds = dpWs ws
  | [], ds, e => by simp only [toDs] at e; cases e; simp only [PyData.depthAll, dpWs]
  | w :: ws, ds, e => by
    simp only [toDs] at e
    cases q : toD w with
    | none => rw [q] at e; cases e
    | some d =>
      rw [q] at e
      cases q2 : toDs ws with
      | none => rw [q2] at e; cases e
      | some ds2 =>
        rw [q2] at e
        cases e
        simp only [PyData.depthAll, dpWs, dpW_of q, dpWs_of q2]
end
def zstrT (w : W) : M W := match w with
  | .tup ws => match shL (.tup ws) with
    | some t => (match Nat.ble t.length 100000 && Nat.ble (dpW (.tup ws)) 100 with
      | true => ret (.str t)
      | false => bad)
    | none => bad
  | _ => bad
section
variable {X : Cx} {G : Gt} {Wf : WX} {k : Nat}
theorem tup_road {F : Value} (hr : Room k X.A)
    (road : ∀ {h₀ : Heap} {a : Addr} {d : PyData} {as : List Addr} {s : Shared} {Q : Value → Shared → Prop} {E : Value → Shared → Prop}, Reads h₀ (.ref a) d as → d.showable = true → (d.hasDict = true → sysModules ∉ as) → X.A.guards = some [] → X.A.units + (d.depth + 3) < cLine → (∀ b o, h₀.get? b = some o → s.heap.get? b = some o) →
      (∀ h' u tk, (∀ b o, s.heap.get? b = some o → h'.get? b = some o) → Q (.str d.shown u) { s with heap := h', toks := tk }) → d.shown.length ≤ sizeLine → wpAny (model X.prog X.w) X.A (call F [.ref a]) Q E s) :
    CallZ X G Wf F (one1 zstrT) := by
  refine one1_of fun pins s σ H ι h w v us Q I r p r1 aft => ?_
  cases p with
  | @tup ws a vs sq rs =>
    have aft1 : Aft X.K G Wf σ (rpW X.K G) ι h H ((match shL (.tup ws) with
      | some t => (match Nat.ble t.length 100000 && Nat.ble (dpW (.tup ws)) 100 with
        | true => ret (.str t)
        | false => bad)
      | none => bad : M W) h) Q := aft
    cases e : shL (.tup ws) with
    | none => rw [e] at aft1; exact False.elim aft1
    | some t =>
      rw [e] at aft1
      dsimp only at aft1
      cases e2 : Nat.ble t.length 100000 && Nat.ble (dpW (.tup ws)) 100 with
      | false => rw [e2] at aft1; exact False.elim aft1
      | true =>
        rw [e2] at aft1
        obtain ⟨l1, l2⟩ := Bool.and_eq_true_iff.mp e2
        have l1 := Nat.le_of_ble_eq_true l1
        have l2 := Nat.le_of_ble_eq_true l2
        obtain ⟨d, t1, t2, t3⟩ := shL_of e
        have dp := dpW_of t1
        obtain ⟨as, rd⟩ := reads_of I (.tup sq rs) (show RelV (.ref a) (.ref a) from rfl) t1
        rw [Vals.ref1 r1]
        have hu := hr.rm.un
        have lz : d.shown.length ≤ sizeLine := by
          rw [t2, sizeLine_eq]
          show t.toArray.size ≤ _
          rw [List.size_toArray]
          omega
        refine road rd t3 (fun z => by rw [toD_nod t1] at z; cases z) hr.gd (by rw [dp]; omega) (fun _ _ z => z) (fun h' u tk hk => ?_) lz
        rw [t2]
        exact ⟨.str _, H, I.kept hk, ⟨_, rfl⟩, Aft.ret (P := rpW X.K G) aft1 r (.str t)⟩
  | _ => exact False.elim aft
theorem call_zreprT (hr : Room k X.A) : CallZ X G Wf (.builtin "repr") (one1 zstrT) :=
  tup_road hr fun rd hs hsm hg hu hk hQ hz => repr_of_reads' rd hs hsm hg (by omega) hk hQ hz
end
end Z

namespace Z
open PySem L2
open PyProof.Rows hiding St
end Z

namespace Z
open PySem L2
open PyProof.Rows hiding St
structure IsxC (K : PySem.W.Frag) (C : Addr) : Prop where
  cl : (PySem.W.clsIn K C).isSome = true
  ga : PySem.W.findIn K (.ref C) "__getattribute__" = some (some (.builtin "BaseException.__getattribute__"))
  gt : PySem.W.findIn K (.ref C) "__getattr__" = some none
  sb : PySem.W.subIn K (.ref C) (.type "BaseException") = some true
  cc : PySem.W.findIn K (.ref C) "__class__" = some (some (.builtin "object.__class__"))
  sg : PySem.W.specialIn K (.builtin "object.__class__") "__get__" = some (some (.builtin "getset_descriptor.__get__"))
  tk : PySem.W.takesIn K (.builtin "object.__class__") = some true
  mo : PySem.W.mroIn K C (.type "object") = some true
def IsxOk (K : PySem.W.Frag) (G : Gt) (D : Nat) (tab : List (Nat × Bool)) : Prop := ∀ q ∈ tab, IsxC K (G.cl q.1) ∧ PySem.W.kitOne K (.ref (G.cl q.1)) (.ref (G.cl D)) = some q.2
end Z

namespace Z
open PySem L2
open PyProof.Rows hiding St
theorem IsxOk.wn {K : PySem.W.Frag} {G : Gt} {D : Nat} {tab : List (Nat × Bool)} {no : Addr → Prop} (h : IsxOk K G D tab) : IsxOk K (G.wn no) D tab := h
end Z

namespace Z
open PySem L2
open PyProof.Rows hiding St
theorem ne_bindB (self : Value) : bindSpecial (.builtin "object.__ne__") self = pure (.builtin "object.__ne__", [self]) :=
  (Slot.of (T := "object") (name := "__ne__") (owner := "object") (n := "__ne__") (by rw [typeLookup_type, builtinLookup_eq_fast]; kernel_rfl) (by decide +kernel) (by decide +kernel) (by decide +kernel)
    (.inl (by decide +kernel)) (by rw [isSubtype_type]; kernel_rfl)).bind self
theorem ne_plain : plainId "object.__ne__" = true := by decide +kernel
section
variable {prog : Program} {w : World} {A : Around} {E : Value → Shared → Prop} {s : Shared} {K : PySem.W.Frag} {x C L f : Addr} {h₀ : Heap} {m : Str → Option Value} {ox : Obj} {od : Option Obj} {name : Str} {b tb : Value}
theorem ifBound_B {M : Model} {id : String} {args : List Value} {Q : Option Value → Shared → Prop} (X : K.In s.heap) (I : PySem.W.InstAt s.heap x ox C od) (hs : PySem.W.findIn K (.ref C) name = some (some (.builtin id))) (hb : ∀ self, bindSpecial (.builtin id) self = pure (.builtin id, [self]))
    (h : wpAny M A (call (.builtin id) (.ref x :: args)) (fun v => Q (some v)) E s) : wpAny M A (callSpecialIfBound? (.ref x) name args) Q E s := by
  simp only [callSpecialIfBound?, bindSpecialIfBound?]
  refine wpAny_holding (wpAny_bind (wpAny_bind (wpAny_bind (I.type.here ((PySem.W.looks_findIn X hs).here ?_)))))
  refine wpAny_bind (wpAny_askSetting (wpAny_ite ?_))
  have fin : wpAny M A (call (.builtin id) ([.ref x] ++ args) >>= fun v => pure (some v)) Q E s := wpAny_bind (wpAny_mono h (fun v s' h' => wpAny_pure h') fun _ _ h' => h')
  split
  · exact wpAny_bind ((PySem.W.Looks.of_pure (hb _)).here (wpAny_pure (by exact fin)))
  · exact wpAny_tryCatch (wpAny_bind ((PySem.W.Looks.of_pure (hb _)).here (wpAny_pure (by exact fin))))
def BoolOf (Q : Bool → Shared → Prop) (v : Value) (s' : Shared) : Prop := ∃ k, v = .bool k ∧ Q k s'
theorem objNe_K {Q : Value → Shared → Prop} (hu : A.in1.units < cLine) (X : K.In s.heap) (I : PySem.W.InstAt s.heap x ox C od) (hm : PySem.W.mroIn K C (.type "object") = some true) (hs : PySem.W.findIn K (.ref C) "__eq__" = some (some (.ref f))) (hf : PySem.W.isFn K (.ref f) = true)
    (h : wpAny (model prog w) A.in1 (call (.ref f) [.ref x, b]) (BoolOf fun k s' => Q (.bool (!k)) s') E s) : wpAny (model prog w) A (call (.builtin "object.__ne__") [.ref x, b]) Q E s := by
  refine wpAny_call (codeAny_call_builtin ne_plain F.cmpEntry_ne (PySem.W.check_slot (i := "object.__ne__") (owner := "object") (n := "__ne__") F.cmpKind_ne F.cmpSplit_ne (I.type.andThen (PySem.W.looks_mroIn X hm)) (F.cmpArgs_ne _ _) ?_))
  unfold Builtin.«object.__ne__»
  refine wpAny_bind (m := slotArgs "__ne__" 1 _) (wpAny_pure ?_)
  refine wpAny_bind (m := cRoomFor _ _) (wpAny_cRoomFor hu ?_)
  refine wpAny_bind (m := callSpecialIfBound? (.ref x) (Str.ofString "__eq__") _) (PySem.W.ifBound_K X I hs hf (wpAny_mono h (fun r s' hq => ?_) fun _ _ y => y))
  obtain ⟨k, rfl, hq⟩ := hq
  exact wpAny_bind (wpAny_pure (wpAny_pure hq))
theorem rne_K {Q : Value → Shared → Prop} (hu : A.units < cLine) (hu1 : A.in1.units < cLine) (X : K.In s.heap) (I : PySem.W.InstAt s.heap x ox C od) (hb : PySem.W.Looks (model prog w) s.heap (typeOf b) tb) (hn : PySem.W.notFirst K C tb = true)
    (hm : PySem.W.mroIn K C (.type "object") = some true) (hne : PySem.W.findIn K (.ref C) "__ne__" = some (some (.builtin "object.__ne__")))
    (hs : PySem.W.findIn K (.ref C) "__eq__" = some (some (.ref f))) (hf : PySem.W.isFn K (.ref f) = true)
    (h : wpAny (model prog w) A.in1 (call (.ref f) [.ref x, b]) (BoolOf fun k s' => Q (.bool (!k)) s') E s) : wpAny (model prog w) A (richCompare .NotEq (.ref x) b) Q E s := by
  have one : wpAny (model prog w) A (tryCompare (.ref x) (cmpInfo .NotEq).2.1 b) (fun r s' => ∃ v, r = some v ∧ Q v s') E s := by
    unfold tryCompare
    refine wpAny_bind (ifBound_B X I hne ne_bindB (objNe_K hu1 X I hm hs hf (wpAny_mono h (fun v s' hv => ?_) fun _ _ e => e)))
    obtain ⟨k, rfl, hq⟩ := hv
    exact ⟨k, rfl, wpAny_pure ⟨_, rfl, hq⟩⟩
  unfold richCompare
  simp only [oneThing_ref]
  refine wpAny_holding (wpAny_bind (wpAny_cRoomFor hu ?_))
  refine wpAny_bind (I.type.here (wpAny_bind (hb.here ?_)))
  split
  · rename_i q
    have e : PySem.W.subIn K tb (.ref C) = some false := by
      rcases Bool.or_eq_true_iff.mp hn with e | e
      · rw [beq_iff_eq.mp e] at q; simp at q
      · exact beq_iff_eq.mp e
    refine wpAny_bind ((PySem.W.looks_subIn X e).here ?_)
    simp only [Bool.false_eq_true, if_false]
    refine wpAny_bind (wpAny_mono one (fun r s' z => ?_) fun _ _ e => e)
    obtain ⟨v, rfl, hq⟩ := z
    exact wpAny_pure hq
  · refine wpAny_bind (wpAny_pure ?_)
    simp only [Bool.false_eq_true, if_false]
    refine wpAny_bind (wpAny_mono one (fun r s' z => ?_) fun _ _ e => e)
    obtain ⟨v, rfl, hq⟩ := z
    exact wpAny_pure hq
end

section
variable {X : Cx} {G : Gt} {Wf : WX} {E : ET} {n : Nat}
def NeC (K : PySem.W.Frag) (C : Addr) : Prop := PySem.W.mroIn K C (.type "object") = some true ∧ PySem.W.findIn K (.ref C) "__ne__" = some (some (.builtin "object.__ne__"))
end
end Z

namespace Z
open PySem L2
open PyProof.Rows hiding St
section
variable {X : Cx} {G : Gt} {Wf : WX} {k : Nat}
theorem run_callA {A : Around} {i n : Nat} {ks : List Str} {g : List W → List W → List W} {fn : List W → M W} (C : CallOk X G k i n ks g fn) (hr : Room k A) (fr : A.frames = X.A.frames) {W1 : WX} (tkx : Takes X W1) {pins : List (Addr × Obj)} {s : Shared} {σ : St} {H : Hp} {ι : Nat → Addr} {h : Hz} {Q : VK}
    {us zs : List Value} {vs ys : List V} {ws qs : List W} (I : Inv X pins σ H s) (r : HRep X.K G ι h H) (r1 : Vals vs us) (r2 : Vals ys zs) (p1 : Reps X.K G ι h H ws vs) (p2 : Reps X.K G ι h H qs ys)
    (aft : Aft X.K G W1 σ (rpW X.K G) ι h H (zcall n ks.length g fn ws qs h) Q) : wpAny (model X.prog X.w) A (call (.ref (G.fn i)) us (ks.zip zs)) (EP X pins σ Q) X.xe s := by
  obtain ⟨kp, fd, ps, F, B⟩ := C
  unfold zcall at aft
  split at aft
  · rename_i hl
    have l1 : us.length = n := by rw [← r1.length, ← p1.length]; exact hl.1
    have l2 : zs.length = ks.length := by rw [← r2.length, ← p2.length]; exact hl.2
    obtain ⟨bs, vs', hb, rv, rp, hl'⟩ := B s H ι h us zs vs ys ws qs I.kIn r l1 l2 r1 r2 p1 p2
    have e0 : Env0 X.prog X.w X.K X.mg X.base A X.stack s H := by
      have e := I.env0
      exact ⟨by rw [fr]; exact e.frames, e.mod, e.bs, e.bsz, e.funs, e.frf, e.hok, e.bare⟩
    refine wpAny_call (codeAny_mono (F.run A X.stack s H ⟨us, ks.zip zs⟩ bs vs' Q (fun cls d H' => W1 cls d σ H') hr e0 hb rv ⟨hl', G.no, ι, h, _, r, rp, ?_⟩) fun r s' hq => ?_)
    · cases q : fn (g ws qs) h with
      | ok w h' => rw [q] at aft; exact aft
      | exc c fs h' => rw [q] at aft; exact aft
      | err => rw [q] at aft; exact aft
    · cases r with
      | error e => exact tkx e s' (XE.of_call I (fun _ _ _ q => q) hq)
      | ok fl =>
        cases fl with
        | ret u => exact I.after hq
        | next => exact False.elim hq
        | brk => exact False.elim hq
        | cont => exact False.elim hq
  · exact False.elim aft
end
end Z

namespace Z
open PySem L2
open PyProof.Rows hiding St
def tailL : List (List Nat) → List Nat
  | [] => []
  | t :: ts => 44 :: 32 :: (t ++ tailL ts)
def lstTx : List (List Nat) → List Nat
  | [] => [91, 93]
  | t :: ts => 91 :: (t ++ (tailL ts ++ [93]))
theorem textFrom_tail : ∀ (ts : List (List Nat)) (k : Nat) (acc : List Nat), textFrom (k + 1) ⟨acc.toArray⟩ (ts.map fun t => (⟨t.toArray⟩ : Str)) = ⟨(acc ++ tailL ts).toArray⟩
  | [], k, acc => by
    show Str.mk acc.toArray = Str.mk (acc ++ []).toArray
    rw [List.append_nil]
  | t :: ts, k, acc => by
    show textFrom (k + 1 + 1) ((⟨acc.toArray⟩ : Str) ++ Str.ofString (if k + 1 > 0 then ", " else "") ++ (⟨t.toArray⟩ : Str)) (ts.map fun t => (⟨t.toArray⟩ : Str)) = _
    rw [if_pos (Nat.succ_pos k), lit_comma, str_app, str_app, textFrom_tail ts (k + 1)]
    show Str.mk ((acc ++ [44, 32] ++ t) ++ tailL ts).toArray = Str.mk (acc ++ (44 :: 32 :: (t ++ tailL ts))).toArray
    simp
theorem list_text (ts : List (List Nat)) : listText (ts.map fun t => (⟨t.toArray⟩ : Str)) = ⟨(lstTx ts).toArray⟩ := by
  have e1 : Str.ofString "[" = ⟨[91].toArray⟩ := by decide +kernel
  have e2 : Str.ofString "]" = ⟨[93].toArray⟩ := by decide +kernel
  have e3 : Str.ofString "" = ⟨[].toArray⟩ := by decide +kernel
  match ts with
  | [] =>
    show Str.ofString "[" ++ Str.ofString "]" = _
    rw [e1, e2, str_app]
    rfl
  | t :: ts =>
    show textFrom (0 + 1) (Str.ofString "[" ++ Str.ofString (if 0 > 0 then ", " else "") ++ (⟨t.toArray⟩ : Str)) (ts.map fun t => (⟨t.toArray⟩ : Str)) ++ Str.ofString "]" = _
    rw [if_neg (Nat.lt_irrefl 0), e1, e2, e3, str_app, str_app, textFrom_tail, str_app]
    show Str.mk (([91] ++ [] ++ t ++ tailL ts) ++ [93]).toArray = Str.mk (91 :: (t ++ (tailL ts ++ [93]))).toArray
    simp
def zreprL (w : W) : M W := match w with
  | .ref i => fun h => match h.get i with
    | some (.lst xs) => (match shLs xs with
      | some ts => (match Nat.ble (lstTx ts).length 100000 && Nat.ble (dpWs xs) 100 with
        | true => .ok (.str (lstTx ts)) h
        | false => .err)
      | none => .err)
    | _ => .err
  | w => zstrT w
section
variable {X : Cx} {G : Gt} {Wf : WX} {k : Nat}
theorem call_zreprL (hr : Room k X.A) : CallZ X G Wf (.builtin "repr") (one1 zreprL) := by
  refine one1_of fun pins s σ H ι h w v us Q I r p r1 aft => ?_
  have oth : (∀ i, w ≠ .ref i) → wpAny (model X.prog X.w) X.A (call (.builtin "repr") us) (EP X pins σ Q) X.xe s := fun n1 => by
    have a1 : Aft X.K G Wf σ (rpW X.K G) ι h H (one1 zstrT [w] h) Q := by
      cases w <;> first | exact absurd rfl (n1 _) | exact aft
    exact call_zreprT (k := k) hr pins s σ H ι h [w] [v] us Q I r (.cons p .nil) r1 a1
  cases p with
  | ref i hi =>
    have aft1 : Aft X.K G Wf σ (rpW X.K G) ι h H (match h.get i with
      | some (.lst xs) => (match shLs xs with
        | some ts => (match Nat.ble (lstTx ts).length 100000 && Nat.ble (dpWs xs) 100 with
          | true => R.ok (W.str (lstTx ts)) h
          | false => .err)
        | none => .err)
      | _ => .err) Q := aft
    cases gi : h.get i with
    | none => rw [gi] at aft1; exact False.elim aft1
    | some c =>
      rw [gi] at aft1
      cases c with
      | lst xs =>
        dsimp only at aft1
        cases e : shLs xs with
        | none => rw [e] at aft1; exact False.elim aft1
        | some ts =>
          rw [e] at aft1
          dsimp only at aft1
          cases e2 : Nat.ble (lstTx ts).length 100000 && Nat.ble (dpWs xs) 100 with
          | false => rw [e2] at aft1; exact False.elim aft1
          | true =>
            rw [e2] at aft1
            obtain ⟨l1, l2⟩ := Bool.and_eq_true_iff.mp e2
            have l1 := Nat.le_of_ble_eq_true l1
            have l2 := Nat.le_of_ble_eq_true l2
            obtain ⟨ds, t1, t2, t3⟩ := shLs_of e
            have dp := dpWs_of t1
            obtain ⟨vs, ea, rs⟩ := r.cell i _ gi
            obtain ⟨its, rvs, ⟨o, m, ho, hc, _, hd⟩, _⟩ := I.list (SqL.of ea)
            obtain ⟨as, ra⟩ := readsAll_of I rs rvs t1
            have rd : Reads s.heap (.ref (ι i)) (.list ds) (ι i :: as) := .list ho hc hd (by simpa using ra)
            rw [Vals.ref1 r1]
            have hu := hr.rm.un
            have sh : (PyData.list ds).shown = ⟨(lstTx ts).toArray⟩ := by
              simp only [PyData.shown]
              rw [t2]
              exact list_text ts
            have lz : (PyData.list ds).shown.length ≤ sizeLine := by
              rw [sh, sizeLine_eq]
              show (lstTx ts).toArray.size ≤ _
              rw [List.size_toArray]
              omega
            have dl : (PyData.list ds).depth = dpWs xs + 1 := by simp only [PyData.depth, dp]
            refine repr_of_reads' rd (by simp only [PyData.showable]; exact t3) (fun z => by simp only [PyData.hasDict] at z; rw [toDs_nod t1] at z; cases z) hr.gd (by rw [dl]; omega) (fun _ _ z => z) (fun h' u tk hk => ?_) lz
            rw [sh]
            exact ⟨.str _, H, I.kept hk, ⟨_, rfl⟩, Aft.ret (P := rpW X.K G) aft1 r (.str _)⟩
      | _ => exact False.elim aft1
  | _ => exact oth (fun _ z => nomatch z)
end
end Z

namespace Z
open PySem L2
open PyProof.Rows hiding St
section
variable {X : Cx} {G : Gt} {Wf : WX} {k : Nat}
theorem Room.in1 {k : Nat} {A : Around} (r : Room (k + 1) A) : Room k A.in1 := ⟨r.rm.in1, r.gd⟩
end
end Z

namespace Z
open PySem L2
open PyProof.Rows hiding St
end Z

namespace Z
open PySem L2
open PyProof.Rows hiding St
end Z

namespace Z
open PySem L2
open PyProof.Rows hiding St
def intEq (i j : Int) : Bool := match i, j with
  | .ofNat a, .ofNat c => Nat.beq a c
  | .negSucc a, .negSucc c => Nat.beq a c
  | _, _ => false
theorem intEq_iff {i j : Int} : intEq i j = true ↔ i = j := by
  cases i with
  | ofNat a => cases j with
    | ofNat c => show Nat.beq a c = true ↔ _; rw [Nat.beq_eq]; constructor <;> intro e <;> first | exact congrArg Int.ofNat e | (injection e)
    | negSucc c => constructor <;> intro e <;> cases e
  | negSucc a => cases j with
    | ofNat c => constructor <;> intro e <;> cases e
    | negSucc c => show Nat.beq a c = true ↔ _; rw [Nat.beq_eq]; constructor <;> intro e <;> first | exact congrArg Int.negSucc e | (injection e)
def keyEq : W → W → Bool
  | .int i, .int j => intEq i j
  | .str s, .str t => eqN s t
  | _, _ => false
theorem keyEq_iff {x y : W} {a c : Key} (ex : keyW x = some a) (ey : keyW y = some c) : keyEq x y = true ↔ a = c := by
  cases x <;> cases ex <;> cases y <;> cases ey
  · rename_i i j
    show intEq i j = true ↔ _
    rw [intEq_iff]
    constructor <;> intro e
    · rw [e]
    · injection e
  · constructor <;> intro e <;> cases e
  · constructor <;> intro e <;> cases e
  · rename_i s t
    show eqN s t = true ↔ _
    rw [eqN_eq, decide_eq_true_iff]
    constructor <;> intro e
    · rw [e]
    · injection e with e; injection e with e; exact (by simpa using e)
def getKW (k : W) : List (W × W) → Option W
  | [] => none
  | p :: r => match keyEq p.1 k with
    | true => some p.2
    | false => getKW k r
def hasKW (k : W) : List (W × W) → Bool
  | [] => false
  | p :: r => match keyEq p.1 k with
    | true => true
    | false => hasKW k r
def setKW (k w : W) : List (W × W) → List (W × W)
  | [] => []
  | p :: r => match keyEq p.1 k with
    | true => (p.1, w) :: setKW k w r
    | false => p :: setKW k w r
def putKW (k w : W) (kvs : List (W × W)) : List (W × W) := match hasKW k kvs with
  | true => setKW k w kvs
  | false => kvs ++ [(k, w)]
def dropKW (k : W) : List (W × W) → List (W × W)
  | [] => []
  | p :: r => match keyEq p.1 k with
    | true => dropKW k r
    | false => p :: dropKW k r
section
variable {K : PySem.W.Frag} {G : Gt} {ι : Nat → Addr} {h : Hz} {H : Hp} {k w : W} {key : Key} {v : V}
theorem keyEq_dec {x y : W} {a c : Key} (ex : keyW x = some a) (ey : keyW y = some c) : keyEq x y = decide (a = c) := by
  cases e : keyEq x y with
  | true => rw [decide_eq_true ((keyEq_iff ex ey).mp e)]
  | false =>
    by_cases q : a = c
    · rw [(keyEq_iff ex ey).mpr q] at e; cases e
    · rw [decide_eq_false q]
theorem get_kw (ek : keyW k = some key) : ∀ {kvs : List (W × W)} {qs : List (Key × V)}, Paired (KE1 K G ι h H) kvs qs → (∀ w, getKW k kvs = some w → ∃ v, valV qs key = some v ∧ Rep K G ι h H w v) ∧ (getKW k kvs = none → valV qs key = none)
  | _, _, .nil => ⟨fun w e => (by cases e), fun _ => rfl⟩
  | _, _, .cons (a := p) (b := q) z r => by
    obtain ⟨i1, i2⟩ := get_kw ek r
    have e := keyEq_dec z.1 ek
    unfold getKW
    by_cases c : q.1 = key
    · rw [e, decide_eq_true c]
      dsimp only
      rw [valV_pos c]
      exact ⟨fun w x => by cases x; exact ⟨_, rfl, z.2⟩, fun x => by cases x⟩
    · rw [e, decide_eq_false c]
      dsimp only
      rw [valV_neg c]
      exact ⟨i1, i2⟩
theorem has_kw (ek : keyW k = some key) : ∀ {kvs : List (W × W)} {qs : List (Key × V)}, Paired (KE1 K G ι h H) kvs qs → (qs.any fun kv => decide (kv.1 = key)) = hasKW k kvs
  | _, _, .nil => rfl
  | _, _, .cons (a := p) (b := q) z r => by
    have i1 := has_kw ek r
    have e := keyEq_dec z.1 ek
    unfold hasKW
    rw [List.any_cons, i1, e]
    by_cases c : q.1 = key
    · rw [decide_eq_true c]; rfl
    · rw [decide_eq_false c]; rfl
theorem set_kw (ek : keyW k = some key) (rw_ : Rep K G ι h H w v) : ∀ {kvs : List (W × W)} {qs : List (Key × V)}, Paired (KE1 K G ι h H) kvs qs → Paired (KE1 K G ι h H) (setKW k w kvs) (qs.map fun kv => if kv.1 = key then (kv.1, v) else kv)
  | _, _, .nil => .nil
  | _, _, .cons (a := p) (b := q) z r => by
    have i1 := set_kw ek rw_ r
    have e := keyEq_dec z.1 ek
    unfold setKW
    rw [List.map_cons, e]
    by_cases c : q.1 = key
    · rw [decide_eq_true c, if_pos c]; exact .cons ⟨z.1, rw_⟩ i1
    · rw [decide_eq_false c, if_neg c]; exact .cons z i1
theorem snoc_kw (z : KE1 K G ι h H (k, w) (key, v)) : ∀ {kvs : List (W × W)} {qs : List (Key × V)}, Paired (KE1 K G ι h H) kvs qs → Paired (KE1 K G ι h H) (kvs ++ [(k, w)]) (qs ++ [(key, v)])
  | _, _, .nil => .cons z .nil
  | _, _, .cons y r => .cons y (snoc_kw z r)
theorem put_kw (ek : keyW k = some key) (rw_ : Rep K G ι h H w v) {kvs : List (W × W)} {qs : List (Key × V)} (p : Paired (KE1 K G ι h H) kvs qs) : Paired (KE1 K G ι h H) (putKW k w kvs) (putK qs key v) := by
  unfold putKW putK
  rw [has_kw ek p]
  cases e : hasKW k kvs with
  | true => rw [if_pos rfl]; exact set_kw ek rw_ p
  | false => rw [if_neg (by simp)]; exact snoc_kw ⟨ek, rw_⟩ p
theorem len_kw : ∀ {kvs : List (W × W)} {qs : List (Key × V)}, Paired (KE1 K G ι h H) kvs qs → kvs.length = qs.length
  | _, _, .nil => rfl
  | _, _, .cons _ r => congrArg Nat.succ (len_kw r)
def zdref (w : W) : M (Nat × List (W × W)) := match w with
  | .ref i => fun h => match h.get i with
    | some (.dct xs) => .ok (i, xs) h
    | _ => .err
  | _ => bad
end
section
variable {X : Cx} {G : Gt} {Wf : WX}
theorem dref_after {α β : Type} {P : RP α β} {σ : St} {ι : Nat → Addr} {h : Hz} {H : Hp} {w : W} {v : V} {kk : Nat × List (W × W) → M α} {Q : β → Hp → Prop} (r : HRep X.K G ι h H) (p : Rep X.K G ι h H w v) (q : Aft X.K G Wf σ P ι h H (bnd (zdref w) kk h) Q) :
    ∃ i xs qs, w = .ref i ∧ v = .ref (ι i) ∧ h.get i = some (.dct xs) ∧ H (ι i) = some (.dK qs) ∧ Paired (KE1 X.K G ι h H) xs qs ∧ Aft X.K G Wf σ P ι h H (kk (i, xs) h) Q := by
  cases p with
  | ref i hi =>
    have bad_ : ∀ o : Option Cell, h.get i = o → (∀ xs, o ≠ some (.dct xs)) → bnd (zdref (.ref i)) kk h = .err := fun o g nd => by
      unfold bnd zdref
      dsimp only
      rw [g]
      cases o with
      | none => rfl
      | some o => cases o <;> first | rfl | exact absurd rfl (nd _)
    cases g : h.get i with
    | none => rw [bad_ _ g (by simp)] at q; exact False.elim q
    | some o =>
      cases o with
      | dct xs =>
        obtain ⟨qs, e1, e2⟩ := r.cell i _ g
        have e : bnd (zdref (.ref i)) kk h = kk (i, xs) h := by
          unfold bnd zdref
          dsimp only
          rw [g]
        rw [e] at q
        exact ⟨i, xs, qs, rfl, rfl, g, e1, e2, q⟩
      | _ => rw [bad_ _ g (by simp)] at q; exact False.elim q
  | _ => exact False.elim q
theorem KE1.next {ι ι' : Nat → Addr} {h h' : Hz} {H H' : Hp} (r : HRep X.K G ι h H) (n : Nx0 ι h H ι' h' H') {kvs : List (W × W)} {qs : List (Key × V)} (p : Paired (KE1 X.K G ι h H) kvs qs) : Paired (KE1 X.K G ι' h' H') kvs qs :=
  L2.Paired.mapP p fun _ _ z => ⟨z.1, z.2.next r n⟩
theorem dput_next {ι : Nat → Addr} {h : Hz} {H : Hp} {i : Nat} {xs ys : List (W × W)} {us : List (Key × V)} (r : HRep X.K G ι h H) (g : h.get i = some (.dct xs)) (p : Paired (KE1 X.K G ι h H) ys us) :
    Next X.K G ι h H ι (h.put i (.dct ys)) (upd H (ι i) (.dK us)) := by
  have n0 : Nx0 ι h H ι (h.put i (.dct ys)) (upd H (ι i) (.dK us)) := Nx0.store g rfl
  exact Next.store (o := .dK us) (c := .dct ys) r g rfl rfl ⟨us, upd_same, KE1.next r n0 p⟩
theorem dnew_next {ι : Nat → Addr} {h : Hz} {H : Hp} {p : Addr} {ys : List (W × W)} {us : List (Key × V)} (r : HRep X.K G ι h H) (hp : H p = none) (z : Paired (KE1 X.K G ι h H) ys us) :
    Next X.K G ι h H (ext1 ι h.n p) (h.push (.dct ys)) (upd H p (.dK us)) := by
  have n0 : Nx0 ι h H (ext1 ι h.n p) (h.push (.dct ys)) (upd H p (.dK us)) := Nx0.alloc hp
  exact Next.alloc r hp ⟨us, upd_same, KE1.next r n0 z⟩
theorem ref_push {ι : Nat → Addr} {h : Hz} {H : Hp} {p : Addr} {c : Cell} {o : HO} : Rep X.K G (ext1 ι h.n p) (h.push c) (upd H p o) (.ref h.n) (.ref p) := by
  have := Rep.ref (K := X.K) (G := G) (ι := ext1 ι h.n p) (h := h.push c) (H := upd H p o) h.n (by rw [Hz.push_n]; omega)
  rw [ext1_at] at this
  exact this
end

def isKeyW : W → Bool
  | .int _ => true
  | .str _ => true
  | _ => false
section
variable {b : Bool} {X : Cx} {G : Gt} {Wf : WX} {o i e f a : Expr} {mo mi me mf : Ev → M W} {pos apos cpos : Pos}
def zdnew : Ev → M W := fun _ => new (.dct [])
def zdgetW (x k : W) : M W := bnd (zdref x) fun q => match isKeyW k with
  | true => ofO (getKW k q.2)
  | false => bad
def zdninW (k x : W) : M W := bnd (zdref x) fun q => match isKeyW k with
  | true => (match getKW k q.2 with | some _ => ret (.bl false) | none => ret (.bl true))
  | false => bad
def zdpop2 (mo me mf : Ev → M W) : Ev → M W := fun ρ => bnd (mo ρ) fun x => bnd (zdref x) fun _ => bnd (me ρ) fun k => bnd (mf ρ) fun z => bnd (zdref x) fun q => match isKeyW k with
  | true => (match getKW k q.2 with
    | some w => bnd (store q.1 (.dct (dropKW k q.2))) fun _ => ret w
    | none => ret z)
  | false => bad
def zdsetW (x k w : W) : M W := bnd (zdref x) fun q => match isKeyW k with
  | true => if q.2.length < LIM then bnd (store q.1 (.dct (putKW k w q.2))) fun _ => ret .non else bad
  | false => bad
def gdsub (mo mi : Ev → M W) (w : W) : MS := fun ρ => sbnd (mo ρ) ρ fun o => sbnd (mi ρ) ρ fun i => sbnd (zdsetW o i w) ρ fun _ h => .ok .next ρ h
end
end Z

namespace Z
open PySem L2
open PyProof.Rows hiding St
section
variable {b : Bool} {X : Cx} {G : Gt} {Wf : WX} {o i e f a : Expr} {mo mi me mf ma : Ev → M W} {pos apos cpos : Pos}
structure PZD (X : Cx) (G : Gt) (Wf : WX) (pos : Pos) (keys : List (Option Expr)) (values : List Expr) (ks : List (List Nat)) (m : Ev → M (List W)) : Prop where
  go : ∃ trs, PPs X pos keys values trs ∧ ∀ σ H ι h ρ (Q : List (V × V) → Hp → Prop), HRep X.K G ι h H → SRep X.K G ι h H ρ σ → Aft X.K G Wf σ (rpWs X.K G) ι h H (m ρ h) (fun vs H' => vs.length = ks.length → Q (List.zip (ks.map fun k => V.str (S k)) vs) H') → tPairs trs σ H Q
theorem pzd_nil : PZD X G Wf pos [] [] [] znil := ⟨[], pps_nil, fun σ H ι h ρ Q r sr aft => Aft.ret (P := rpWs X.K G) aft r .nil rfl⟩
theorem pzd_cons {k v : Expr} {kv : List Nat} {keys : List (Option Expr)} {values : List Expr} {ks : List (List Nat)} {m : Ev → M W} {mr : Ev → M (List W)} (hk : PE X k (tC (.str (S kv)))) (hv : PZ false X G Wf v m) (hr : PZD X G Wf pos keys values ks mr) :
    PZD X G Wf pos (some k :: keys) (v :: values) (kv :: ks) (zcons m mr) := by
  obtain ⟨trs, pp, go⟩ := hr.go
  refine ⟨_, pps_cons hk hv.pe pp, fun σ H ι h ρ Q r sr aft => ?_⟩
  refine ⟨ι, h, ρ, r, sr, (aft.bnd (P := rpW X.K G)).imp fun x H1 ⟨ι1, h1, w1, n1, p1, a1⟩ => ?_⟩
  refine go σ H1 ι1 h1 ρ _ n1.rep (sr.next r n1.toNx0) ((a1.bnd (P := rpWs X.K G)).imp fun vs H2 ⟨ι2, h2, ws, n2, p2, a2⟩ hl => ?_)
  have := Aft.ret (P := rpWs X.K G) a2 n2.rep (.cons (p1.next n1.rep n2.toNx0) p2)
  exact this (by rw [List.length_cons, List.length_cons, hl])
def mergeW (kvs : List (W × W)) : List (W × W) → List (W × W)
  | [] => kvs
  | p :: r => mergeW (putKW p.1 p.2 kvs) r
def zdisp (ks : List (List Nat)) (mr : Ev → M (List W)) : Ev → M W := fun ρ => bnd (new (.dct [])) fun d => bnd (mr ρ) fun ws => bnd (zdref d) fun q => match q.2 with
  | [] => if ws.length = ks.length ∧ ks.length ≤ 15 then bnd (store q.1 (.dct (mergeW [] (List.zip (ks.map W.str) ws)))) fun _ => ret d else bad
  | _ => bad
theorem merge_kw {ι : Nat → Addr} {h : Hz} {H : Hp} : ∀ {ks : List (List Nat)} {ws : List W} {vs : List V} {kvs : List (W × W)} {qs : List (Key × V)}, Reps X.K G ι h H ws vs → Paired (KE1 X.K G ι h H) kvs qs →
    Paired (KE1 X.K G ι h H) (mergeW kvs (List.zip (ks.map W.str) ws)) (mergeK qs (List.zip (ks.map fun k => (Sum.inr (S k) : Key)) vs))
  | [], _, _, _, _, _, p => p
  | _ :: _, _, _, _, _, .nil, p => p
  | k :: ks, _, _, _, _, .cons z r, p => merge_kw (ks := ks) r (put_kw (k := .str k) (key := Sum.inr (S k)) rfl z p)
theorem zip_kv : ∀ (ks : List (List Nat)) (vs : List V), List.zip (ks.map fun k => V.str (S k)) vs = (List.zip (ks.map fun k => (Sum.inr (S k) : Key)) vs).map fun kv => (kV kv.1, kv.2)
  | [], _ => rfl
  | _ :: _, [] => rfl
  | k :: ks, v :: vs => by
    show (V.str (S k), v) :: List.zip (ks.map fun k => V.str (S k)) vs = (kV (Sum.inr (S k)), v) :: (List.zip (ks.map fun k => (Sum.inr (S k) : Key)) vs).map fun kv => (kV kv.1, kv.2)
    rw [zip_kv ks vs]
    rfl
theorem pz_disp {keys : List (Option Expr)} {values : List Expr} {ks : List (List Nat)} {mr : Ev → M (List W)} (h : PZD X G Wf pos keys values ks mr) (hall : keys.all (·.isSome) = true) (hl : keys.length = values.length) (h0 : keys ≠ []) (h15 : keys.length ≤ 15) :
    PZ b X G Wf (.Dict keys values pos) (zdisp ks mr) := by
  obtain ⟨trs, pp, go⟩ := h.go
  refine PZ.of (pe_disp pp hall hl h0 h15) fun σ H ι h ρ Q r sr aft => ?_
  intro p hp
  have n1 := dnew_next (ys := []) (us := []) r hp .nil
  have rp : Rep X.K G (ext1 ι h.n p) (h.push (.dct [])) (upd H p (.dK [])) (.ref h.n) (.ref p) := ref_push
  have a1 : Aft X.K G Wf σ (rpW X.K G) (ext1 ι h.n p) (h.push (.dct [])) (upd H p (.dK [])) ((bnd (mr ρ) fun ws => bnd (zdref (.ref h.n)) fun q => match q.2 with
    | [] => if ws.length = ks.length ∧ ks.length ≤ 15 then bnd (store q.1 (.dct (mergeW [] (List.zip (ks.map W.str) ws)))) fun _ => ret (W.ref h.n) else bad
    | _ => bad) (h.push (.dct []))) Q := Aft.step aft n1
  refine go σ _ _ _ ρ _ n1.rep (sr.next r n1.toNx0) ((a1.bnd (P := rpWs X.K G)).imp fun vs H2 ⟨ι2, h2, ws, n2, p2, a2⟩ lv => ?_)
  have rp2 := rp.next n1.rep n2.toNx0
  obtain ⟨j, xs, qs, e1, e2, g, eH, pq, a3⟩ := dref_after n2.rep rp2 a2
  cases e1
  injection e2 with e2
  cases pq with
  | cons _ _ => exact False.elim a3
  | nil =>
    dsimp only at a3
    split at a3
    · rename_i hh
      have n3 := dput_next n2.rep g (merge_kw (ks := ks) p2 (qs := []) (kvs := []) .nil)
      rw [← e2] at n3 eH
      refine ⟨eH, List.zip (ks.map fun k => (Sum.inr (S k) : Key)) vs, ?_, ?_, a3 ι2 _ _ n3 (rp2.next n2.rep n3.toNx0)⟩
      · exact zip_kv ks vs
      · rw [List.length_zip, List.length_map]
        omega
    · exact False.elim a3
def zprop (mi : Nat) (T : List (Nat × Nat)) (fn : Nat → List W → M W) (ma : Ev → M W) : Ev → M W := fun ρ => bnd (ma ρ) fun w => bnd (zins w) fun q => bnd (ofO (T.lookup q.1)) fun i => noex (fn i [w])
end
end Z

namespace Z
open PySem L2
open PyProof.Rows hiding St
def ltI (i j : Int) : Bool := match i, j with
  | .ofNat a, .ofNat c => Nat.blt a c
  | .negSucc a, .negSucc c => Nat.blt c a
  | .negSucc _, .ofNat _ => true
  | .ofNat _, .negSucc _ => false
theorem ltI_iff {i j : Int} : ltI i j = true ↔ i < j := by
  cases i with
  | ofNat a => cases j with
    | ofNat c => show Nat.blt a c = true ↔ (a : Int) < (c : Int); rw [Nat.blt_eq]; omega
    | negSucc c => show false = true ↔ (a : Int) < Int.negSucc c; constructor <;> intro e; cases e; omega
  | negSucc a => cases j with
    | ofNat c => show true = true ↔ Int.negSucc a < (c : Int); constructor <;> intro e; omega; rfl
    | negSucc c => show Nat.blt c a = true ↔ Int.negSucc a < Int.negSucc c; rw [Nat.blt_eq]; omega
def insI (x : Int) : List Int → List Int
  | [] => [x]
  | y :: ys => match ltI y x with
    | true => y :: insI x ys
    | false => x :: y :: ys
def sortI : List Int → List Int
  | [] => []
  | x :: xs => insI x (sortI xs)
def asIs : List W → Option (List Int)
  | [] => some []
  | w :: ws => match w with
    | .int t => (match asIs ws with
      | some ts => some (t :: ts)
      | none => none)
    | _ => none
def zsortI (w : W) : M W := bnd (zseq w) fun q => match q.1 with
  | true => bad
  | false => match asIs q.2 with
    | some ts => (match Nat.ble ts.length 63 with
      | true => new (.lst ((sortI ts).map W.int))
      | false => bad)
    | none => bad
def maxI (x : Int) : List Int → Int
  | [] => x
  | y :: ys => match ltI x y with
    | true => maxI y ys
    | false => maxI x ys
def zmaxI (w : W) : M W := bnd (zseq w) fun q => match q.1 with
  | true => bad
  | false => match asIs q.2 with
    | some (t :: ts) => ret (.int (maxI t ts))
    | _ => bad
section
variable {b : Bool} {X : Cx} {G : Gt} {Wf : WX} {o i : Expr} {mo mi : Ev → M W} {pos : Pos}
theorem PZT.of {e : Expr} {m : Ev → M Bool} {t : TT} (hp : PT X e t) (f : ∀ σ H ι h ρ Q, HRep X.K G ι h H → SRep X.K G ι h H ρ σ → Aft X.K G Wf σ rpE ι h H (m ρ h) Q → t σ H Q) : PZT b X G Wf e m :=
  ⟨fun pins s σ H ι h ρ Q whole hw tk I r sr a => by subst hw; exact withTk tk (hp.run pins s σ H Q I (f σ H ι h ρ Q r sr a))⟩
end
end Z

namespace Z
open PySem L2
open PyProof.Rows hiding St
end Z

namespace Z
open PySem L2
open PyProof.Rows hiding St
def stepW (lo c : Int) : Nat → List W
  | 0 => []
  | n + 1 => .int lo :: stepW (lo + c) c n
def zrange3 (ws : List W) : M Itz := match ws with
  | [.int i, .int j, .int c] => if (decide (c ≠ 0) && decide (c.natAbs < 1073741824) && Builtin.Range.small i j c) = true then ret (.fix (stepW i c (Builtin.Range.rangeSize i j c).toNat)) else bad
  | _ => bad
def zitR3 (mr : Ev → M (List W)) : Ev → M Itz := fun ρ => bnd (mr ρ) zrange3
end Z

namespace Z
open PySem L2
open PyProof.Rows hiding St
theorem isT_sub {K : PySem.W.Frag} {fns : List (PySem.W.Frag → Addr)} {cls xs nms : List Str} {C : List Nat} (nd : cls.Nodup) (hC : (C.all fun i => match cls[i]? with | some x => xs.contains x | none => false) = true) (cl : ∀ x ∈ xs, Cls K (He.ga K x)) (c : cIsi xs K = true) : IsT K (gtOf fns cls nms K) C := by
  have at_ : ∀ i, i ∈ C → ∃ x, cls[i]? = some x ∧ x ∈ xs ∧ (gtOf fns cls nms K).cl i = He.ga K x := fun i hi => by
    have q := List.all_eq_true.mp hC i hi
    cases e : cls[i]? with
    | none => rw [e] at q; cases q
    | some x =>
      rw [e] at q
      refine ⟨x, rfl, by simpa using q, ?_⟩
      show (match cls[i]? with | some x => He.ga K x | none => 0) = _
      rw [e]
  have get : ∀ x ∈ xs, _ := fun x hx => List.all_eq_true.mp c x hx
  refine ⟨fun i hi T hT => ?_, fun i hi t ht => ?_, fun i hi j hj => ?_, fun i hi H a dx gs ha => ?_⟩
  all_goals obtain ⟨x, ex, mx, ei⟩ := at_ i hi
  all_goals have g := get x mx
  all_goals rw [ei]
  · obtain ⟨g, _⟩ := He.ba g
    obtain ⟨g, _⟩ := He.ba g
    obtain ⟨g, _⟩ := He.ba g
    obtain ⟨g, _⟩ := He.ba g
    obtain ⟨g, _⟩ := He.ba g
    obtain ⟨g, _⟩ := He.ba g
    exact of_decide_eq_true (List.all_eq_true.mp g T hT)
  · obtain ⟨g, _⟩ := He.ba g
    obtain ⟨g, _⟩ := He.ba g
    obtain ⟨g, _⟩ := He.ba g
    obtain ⟨g, _⟩ := He.ba g
    obtain ⟨g, _⟩ := He.ba g
    obtain ⟨_, g⟩ := He.ba g
    exact of_decide_eq_true (List.all_eq_true.mp g t (List.mem_range.mpr ht))
  · obtain ⟨y, ey, my, ej⟩ := at_ j hj
    rw [ej]
    obtain ⟨g, _⟩ := He.ba g
    obtain ⟨g, _⟩ := He.ba g
    obtain ⟨g, _⟩ := He.ba g
    obtain ⟨g, _⟩ := He.ba g
    obtain ⟨_, g⟩ := He.ba g
    have q := of_decide_eq_true (List.all_eq_true.mp g y my)
    rw [q]
    congr 1
    obtain ⟨hi', xi⟩ := List.getElem?_eq_some_iff.mp ex
    obtain ⟨hj', yj⟩ := List.getElem?_eq_some_iff.mp ey
    by_cases e : i = j
    · subst e
      have : x = y := xi.symm.trans yj
      simp [this]
    · have : x ≠ y := fun z => e ((List.getElem_inj nd).mp (xi.trans (z.trans yj.symm)))
      rw [decide_eq_false this]
      cases qq : Nat.beq i j with
      | false => rfl
      | true => exact absurd (Nat.eq_of_beq_eq_true qq) e
  · obtain ⟨g, g4⟩ := He.ba g
    obtain ⟨g, g3⟩ := He.ba g
    obtain ⟨g, g2⟩ := He.ba g
    obtain ⟨_, g1⟩ := He.ba g
    rw [ei] at ha
    exact .base (.ins ha (cl x mx) (of_decide_eq_true g1) (of_decide_eq_true g2) (of_decide_eq_true g3) (of_decide_eq_true g4))
structure Pk where
  C : List Nat
  E : ET
  mt : Nat → List (Nat × Nat)
  pt : Nat → List (Nat × Nat)
  cat : Nat → Nat → Option Bool
end Z

namespace Z
open PySem L2
open PyProof.Rows hiding St
def zreprA (w : W) : M W := match w with
  | .non => ret (.str [78, 111, 110, 101])
  | .bl b => match b with
    | true => ret (.str [84, 114, 117, 101])
    | false => ret (.str [70, 97, 108, 115, 101])
  | .int i => match shL (.int i) with
    | some t => ret (.str t)
    | none => bad
  | .str s => match s.all plainC && Nat.ble s.length 100000 with
    | true => ret (.str (39 :: (s ++ [39])))
    | false => bad
  | w => zreprL w
section
variable {X : Cx} {G : Gt} {Wf : WX} {k : Nat}
theorem call_zreprA (hr : Room k X.A) : CallZ X G Wf (.builtin "repr") (one1 zreprA) := by
  refine one1_of fun pins s σ H ι h w v us Q I r p r1 aft => ?_
  have oth : Aft X.K G Wf σ (rpW X.K G) ι h H (one1 zreprL [w] h) Q → wpAny (model X.prog X.w) X.A (call (.builtin "repr") us) (EP X pins σ Q) X.xe s := fun a1 =>
    call_zreprL (k := k) hr pins s σ H ι h [w] [v] us Q I r (.cons p .nil) r1 a1
  cases p with
  | non =>
    obtain ⟨u, rfl, e⟩ := vals1 r1
    cases e
    refine PySem.P.repr_of_none ?_
    exact ⟨.str _, H, I.tok _, ⟨_, rfl⟩, Aft.ret (P := rpW X.K G) aft r (rep_str _ (by kernel_rfl))⟩
  | bl b =>
    obtain ⟨u, rfl, e⟩ := vals1 r1
    cases e
    refine PySem.P.repr_of_bool ?_
    cases b with
    | true => exact ⟨.str _, H, I.tok _, ⟨_, rfl⟩, Aft.ret (P := rpW X.K G) aft r (rep_str _ (by kernel_rfl))⟩
    | false => exact ⟨.str _, H, I.tok _, ⟨_, rfl⟩, Aft.ret (P := rpW X.K G) aft r (rep_str _ (by kernel_rfl))⟩
  | int i =>
    obtain ⟨u, rfl, t, rfl⟩ := vals1 r1
    have aft1 : Aft X.K G Wf σ (rpW X.K G) ι h H ((match shL (.int i) with | some t => ret (W.str t) | none => bad : M W) h) Q := aft
    simp only [shL] at aft1
    cases e : decide (i.natAbs.log2 < 1920) with
    | false => rw [e] at aft1; exact False.elim aft1
    | true =>
      rw [e] at aft1
      refine PySem.P.repr_of_int (of_decide_eq_true e) ?_
      exact ⟨.str _, H, I.tok _, ⟨_, rfl⟩, Aft.ret (P := rpW X.K G) aft1 r (by
        have : S (intL i) = Str.ofString (toString i) := by unfold intL; exact S_of _
        rw [← this]
        exact .str _)⟩
  | str s0 =>
    obtain ⟨u, rfl, t, rfl⟩ := vals1 r1
    have aft1 : Aft X.K G Wf σ (rpW X.K G) ι h H ((match s0.all plainC && Nat.ble s0.length 100000 with | true => ret (W.str (39 :: (s0 ++ [39]))) | false => bad : M W) h) Q := aft
    cases e : s0.all plainC && Nat.ble s0.length 100000 with
    | false => rw [e] at aft1; exact False.elim aft1
    | true =>
      rw [e] at aft1
      obtain ⟨e1, e2⟩ := Bool.and_eq_true_iff.mp e
      have e2 := Nat.le_of_ble_eq_true e2
      have rt : reprText (S s0) = S (39 :: (s0 ++ [39])) := repr_plain e1
      have lz : (reprText (S s0)).length ≤ sizeLine := by
        rw [rt, S_len, sizeLine_eq]
        simp
        omega
      refine PySem.P.repr_of_str ?_ (hsz := lz)
      rw [rt]
      exact ⟨.str _, H, I.tok _, ⟨_, rfl⟩, Aft.ret (P := rpW X.K G) aft1 r (.str _)⟩
  | _ => exact oth aft
end
end Z

namespace Z
open PySem L2
open PyProof.Rows hiding St
end Z

namespace Z
open PySem L2
open PyProof.Rows hiding St
end Z

namespace Z
open PySem L2
open PyProof.Rows hiding St
section
variable {X : Cx} {G : Gt} {Wf : WX}
theorem merge_pairs {K : PySem.W.Frag} {ι : Nat → Addr} {h : Hz} {H : Hp} : ∀ {ps : List (W × W)} {kvs : List (Key × V)} {a : List (W × W)} {q : List (Key × V)}, Paired (KE1 K G ι h H) ps kvs → Paired (KE1 K G ι h H) a q → Paired (KE1 K G ι h H) (mergeW a ps) (mergeK q kvs)
  | _, _, _, _, .nil, p => p
  | _, _, _, _, .cons z r, p => (merge_pairs r (put_kw z.1 z.2 p) :)
end
end Z

namespace Z
open PySem L2
open PyProof.Rows hiding St
section
variable {b : Bool} {X : Cx} {G : Gt} {Wf : WX} {e ve : Expr} {ma : Ev → M W} {nt : Ev → M Bool} {pos vpos : Pos} {g : W → MS} {m : MS} {body : List Stmt} {rest cs : List MatchCase} {z : List Nat}
theorem eqN_str {s z : List Nat} : (S s == S z) = eqN s z := by
  rw [Bool.eq_iff_iff, eqN_eq]
  simp [S]
end
end Z

namespace Z
open PySem L2
open PyProof.Rows hiding St
def mUpdate (w : W) (ws : List W) : M W := match ws with
  | [x] => bnd (zdref w) fun q => bnd (zdref x) fun q2 => if q.1 = q2.1 then bad else if q.2.length + q2.2.length ≤ 1000 then bnd (store q.1 (.dct (mergeW q.2 q2.2))) fun _ => ret .non else bad
  | _ => bad
section
variable {X : Cx} {G : Gt} {Wf : WX}
theorem mergeK_le : ∀ (more kvs : List (Key × V)), (mergeK kvs more).length ≤ kvs.length + more.length
  | [], kvs => Nat.le_refl _
  | kv :: more, kvs => by
    have h1 := mergeK_le more (putK kvs kv.1 kv.2)
    have h2 := length_putK kvs kv.1 kv.2
    show (mergeK (putK kvs kv.1 kv.2) more).length ≤ _
    rw [List.length_cons]
    omega
end
end Z
namespace Z
open PySem L2
open PyProof.Rows hiding St
end Z
namespace Z
open PySem L2
open PyProof.Rows hiding St
end Z

namespace Z
open PySem L2
open PyProof.Rows hiding St
end Z

namespace Z
open PySem L2
open PyProof.Rows hiding St
end Z

namespace Z
open PySem L2
open PyProof.Rows hiding St
end Z

namespace SrtPS
open PySem PyProof.Rows Srt SrtO
section
variable {prog : Program} {w : World} {A : Around} {E : Value → Shared → Prop} {s : Shared}
def IsPS (h : Heap) (v : Value) (x : Int) : Prop := ∃ a o t z u n, v = .ref a ∧ h.get? a = some o ∧ o.cls = .type "tuple" ∧ o.data = .seq #[.int x t, .str z u] n
theorem IsPS.keeps {h h' : Heap} {v : Value} {x : Int} (p : IsPS h v x) (k : ∀ b o, h.get? b = some o → o.cls = .type "tuple" → h'.get? b = some o) : IsPS h' v x := by
  obtain ⟨a, o, t, z, u, n, e, ho, hc, hd⟩ := p
  exact ⟨a, o, t, z, u, n, e, k _ _ ho hc, hc, hd⟩
end
end SrtPS
namespace Z
open PySem L2
open PyProof.Rows hiding St
end Z
namespace Z
open PySem L2
open PyProof.Rows hiding St
section
variable {X : Cx} {G : Gt} {Wf : WX} {ι : Nat → Addr} {h : Hz} {H : Hp}
noncomputable def kV (K : PySem.W.Frag) (H : Hp) (x : V) : Int := by
  classical
  exact if q : ∃ i t z, x = .ref t ∧ SqT K H t [.int i, .str z] then Classical.choose q else 0
end
end Z

namespace Z
open PySem L2
open PyProof.Rows hiding St
end Z

namespace Z
open PySem L2
open PyProof.Rows hiding St
end Z

namespace Z
open PySem L2
open PyProof.Rows hiding St
section
variable {prog : Program} {w : World} {K : Type} [DecidableEq K] {knd : KeyKind prog w K} {A : Around} {E : Value → Shared → Prop} {s : Shared}
theorem wpAny_dictPut_pairs {d : Addr} {kvs : List (K × Value)} {k : K} {key v : Value} {Q : Unit → Shared → Prop} (hkey : knd.is k key = true) (hm : s.heap.DictOf knd d kvs)
    (hQ : ∀ h', h'.DictOf knd d (stored kvs k v) → Heap.SameBut d s.heap h' → Q () { s with heap := h' })
    (hsz : kvs.length ≤ sizeLine) :
    wpAny (model prog w) A (dictPut d (knd.hash k) key v) Q E s := by
  obtain ⟨o, es, ep, ho, hc, hd, hk, hp, hn⟩ := hm
  have hes : es.size ≤ sizeLine := by have e1 := hp.length; have e2 : es.toList.length = es.size := by simp
                                      omega
  unfold dictPut
  refine wpAny_bind (wpAny_dictFind_of hkey ho hd hk ?_)
  have hidx : (es.findIdx? fun e => knd.is k e.key) = kvs.findIdx? fun kv => decide (kv.1 = k) := by
    rw [← hp.findIdx k]; obtain ⟨l⟩ := es; simp
  cases hi : es.findIdx? fun e => knd.is k e.key with
  | some i =>
    refine wpAny_updateDict ho hd (hQ _ ⟨_, _, ep, Heap.get?_update_self _ ho (Obj.isFreed_of_dict (Obj.data_mapDict hd _)),
      hc.mapDict _, Obj.data_mapDict hd _, hk.modify _ _, ?_, ?_⟩ (Heap.SameBut.update ..))
    · rw [stored, if_pos (any_of_findIdx_some (hidx ▸ hi))]
      have hl : (es.toList.findIdx? fun e => knd.is k e.key) = some i := by rw [← hi]; obtain ⟨l⟩ := es; simp
      have := hp.modify hn hl v
      obtain ⟨l⟩ := es
      simpa using this
    · rw [stored, if_pos (any_of_findIdx_some (hidx ▸ hi)), keys_map_store]; exact hn
  | none =>
    have hnot : k ∉ kvs.map (·.1) := not_mem_of_findIdx_none (hidx ▸ hi)
    have hany : ¬ (kvs.any fun kv => decide (kv.1 = k)) = true := by
      rw [List.any_eq_true]; rintro ⟨kv, hkv, he⟩
      exact hnot (List.mem_map.mpr ⟨kv, hkv, of_decide_eq_true he⟩)
    refine wpAny_updateDictKeys (hz := hes) ho hd (hQ _ ⟨_, _, ep + 1, Heap.get?_update_self _ ho (Obj.isFreed_of_dict (Obj.data_mapDictKeys hd _)),
      hc.mapDictKeys _, Obj.data_mapDictKeys hd _, hk.push hkey _, ?_, ?_⟩ (Heap.SameBut.update ..))
    · rw [stored, if_neg hany]
      have := hp.append hkey (knd.hash k) v
      obtain ⟨l⟩ := es
      simpa using this
    · rw [stored, if_neg hany, List.map_append, List.nodup_append]
      refine ⟨hn, by simp, ?_⟩
      intro a ha b hb
      simp only [List.map_cons, List.map_nil, List.mem_singleton] at hb
      subst hb
      exact fun e => hnot (e ▸ ha)
theorem wpAny_mergeMapping {d o : Addr} {kvs more : List (K × Value)} {u : Bool} {Q : Unit → Shared → Prop} (hdo : d ≠ o) (hoS : (o == sysModules) = false)
    (hd : s.heap.DictOf knd d kvs) (ho : s.heap.DictOf knd o more) (hstr : ∀ (k : K) (v : Value), knd.is k v = true → ∀ a, v ≠ .ref a) (hu : u = true → kvs = [])
    (hQ : ∀ h', h'.DictOf knd d (merged kvs more) → h'.DictOf knd o more → Heap.SameBut d s.heap h' → Q () { s with heap := h' })
    (hsz : kvs.length + more.length ≤ sizeLine) :
    wpAny (model prog w) A (mergeMapping d (.ref o) u) Q E s := by
  obtain ⟨od, esd, epd, hod, hcd, hdd, hkd, hpd, hnd⟩ := id hd
  obtain ⟨oo, eso, epo, hoo, hco, hdo', hko, hpo, hno⟩ := id ho
  have hlen : more.length = eso.size := by rw [← hpo.length]; simp
  unfold mergeMapping
  refine wpAny_bind (wpAny_isInstance ho.typeIs isSubtype_dict_dict ?_)
  simp only [if_true]
  refine wpAny_bind (wpAny_specialOf ho.typeIs F.slot_dict_iter.lookup (wpAny_bind (wpAny_pure ?_)))
  simp only [beq_self_eq_true]
  rw [if_neg (by rw [hoS]; exact Bool.false_ne_true)]
  refine wpAny_bind (wpAny_dictEntries hod hdd ?_)
  have loop : wpAny (model prog w) A (do
      let l ← dictEntries o
      let epoch ← dictEpoch o
      forIn (List.range l.size) PUnit.unit fun i (_ : PUnit) => (do
        let l' ← dictEntries o
        match l'[i]? with
          | some e => do
            holding [e.key, e.val] (if u = true then do
                  let r ← dictFind d e.key e.hash
                  if r.isSome = true then do
                      rule "dict.merge.duplicate-key"
                      let x ← newExc (Value.type "KeyError") [e.key]
                      raiseNew x
                      dictPut d e.hash e.key e.val
                    else dictPut d e.hash e.key e.val
                else dictPut d e.hash e.key e.val)
            let ep' ← dictEpoch o
            if (ep' != epoch) = true then do
                (unsupported "dict.changed-during-merge" : Sem PUnit)
                pure (ForInStep.yield PUnit.unit)
              else pure (ForInStep.yield PUnit.unit)
          | _ => do
            (unsupported "dict.changed-during-merge" : Sem PUnit)
            pure (ForInStep.yield PUnit.unit) : Sem (ForInStep PUnit))
      pure ()) Q E s := by
    refine wpAny_bind (wpAny_dictEntries hoo hdo' ?_)
    refine wpAny_bind (wpAny_dictEpoch hoo hdo' ?_)
    refine wpAny_bind ?_
    refine wpAny_forIn_list _
      (fun rest _ s' => ∃ h' i, s' = { s with heap := h' } ∧ rest = List.range' i (eso.size - i) ∧ i ≤ eso.size ∧ h'.DictOf knd d (merged kvs (more.take i)) ∧ h'.get? o = some oo ∧ Heap.SameBut d s.heap h')
      _ ?_ ?_ _ _ ⟨s.heap, 0, rfl, by simp [List.range_eq_range'], Nat.zero_le _, by simpa [merged] using hd, hoo, Heap.SameBut.refl _ _⟩
    · rintro x rest b s' ⟨h', i, rfl, hr, hi, hd', hoo', hs'⟩
      have hlt : i < eso.size := by
        rcases Nat.lt_or_ge i eso.size with h | h
        · exact h
        · rw [Nat.sub_eq_zero_of_le h] at hr; simp at hr
      obtain ⟨rfl, hrest⟩ : x = i ∧ rest = List.range' (i + 1) (eso.size - (i + 1)) := by
        have e : eso.size - i = (eso.size - (i + 1)) + 1 := by omega
        rw [e, List.range'_succ] at hr
        injection hr with h1 h2
        exact ⟨h1, h2⟩
      refine wpAny_bind (wpAny_dictEntries hoo' hdo' ?_)
      rw [Array.getElem?_eq_getElem hlt]
      obtain ⟨kv, hkv⟩ : ∃ kv, more[x]? = some kv := ⟨more[x]'(by rw [hlen]; exact hlt), List.getElem?_eq_getElem _⟩
      obtain ⟨k, v⟩ := kv
      obtain ⟨hkey, hval⟩ := hpo.get? (e := eso[x]) (by simp [hlt]) hkv
      obtain ⟨k', hkey', hhash⟩ := hko eso[x] (Array.getElem_mem hlt)
      obtain rfl : k' = k := knd.inj _ _ _ hkey' hkey
      have hmx : (merged kvs (more.take x)).length ≤ sizeLine := by
        have e1 := merged_length_le kvs (more.take x)
        have e2 : (more.take x).length ≤ more.length := by rw [List.length_take]; omega
        omega
      have put : ∀ R : Unit → Shared → Prop, (∀ h'', h''.DictOf knd d (stored (merged kvs (more.take x)) k' v) → Heap.SameBut d h' h'' → R () { s with heap := h'' }) → wpAny (model prog w) A (dictPut d eso[x].hash eso[x].key eso[x].val) R E { s with heap := h' } := fun R hR => by
        rw [hhash, hval]
        exact wpAny_dictPut_pairs hkey hd' (fun h'' hd'' hs'' => hR h'' hd'' hs'') hmx
      refine wpAny_bind (wpAny_holding ?_)
      split
      · rename_i eu
        have ek := hu eu
        subst ek
        obtain ⟨q, es2, ep2, hq, hc2, hdq, hk2, hp2, hn2⟩ := id hd'
        refine wpAny_bind ?_
        rw [hhash]
        refine wpAny_dictFind_of hkey hq hdq hk2 ?_
        have hn3 : (es2.findIdx? fun e => knd.is k' e.key) = none := by
          have hidx : (es2.findIdx? fun e => knd.is k' e.key) = (merged [] (more.take x)).findIdx? fun kv => decide (kv.1 = k') := by
            rw [← hp2.findIdx k']; obtain ⟨l⟩ := es2; simp
          have hno2 : ((more.take x).map (·.1)).Nodup := by rw [List.map_take]; exact hno.sublist (List.take_sublist _ _)
          rw [hidx, merged_nil_of_nodup _ hno2, List.findIdx?_eq_none_iff]
          intro kv hkv2
          refine decide_eq_false fun e => ?_
          have m1 : k' ∈ (more.map (·.1)).take x := by rw [← List.map_take]; exact List.mem_map.mpr ⟨kv, hkv2, e⟩
          have hx : x < (more.map (·.1)).length := by rw [List.length_map, hlen]; exact hlt
          have m2 : k' ∈ (more.map (·.1)).drop x := by
            rw [List.drop_eq_getElem_cons hx, List.getElem_map]
            have := (List.getElem?_eq_some_iff.mp hkv).2
            rw [this]
            exact List.mem_cons_self ..
          have hn4 := hno
          rw [← List.take_append_drop x (more.map (·.1)), List.nodup_append] at hn4
          exact hn4.2.2 k' m1 k' m2 rfl
        rw [hn3, ← hhash]
        rw [if_neg (by simp)]
        refine put _ fun h'' hd'' hs'' => ?_
        have hoo'' : h''.get? o = some oo := (hs''.2 o (Ne.symm hdo)).trans hoo'
        refine wpAny_bind (wpAny_dictEpoch hoo'' hdo' ?_)
        rw [if_neg (by simp)]
        exact wpAny_pure ⟨h'', x + 1, rfl, hrest, hlt, by rw [merged_take_succ _ more x (k', v) hkv]; exact hd'', hoo'', hs'.trans hs''⟩
      · refine put _ fun h'' hd'' hs'' => ?_
        have hoo'' : h''.get? o = some oo := (hs''.2 o (Ne.symm hdo)).trans hoo'
        refine wpAny_bind (wpAny_dictEpoch hoo'' hdo' ?_)
        rw [if_neg (by simp)]
        exact wpAny_pure ⟨h'', x + 1, rfl, hrest, hlt, by rw [merged_take_succ kvs more x (k', v) hkv]; exact hd'', hoo'', hs'.trans hs''⟩
    · rintro b s' ⟨h', i, rfl, hr, hi, hd', hoo', hs'⟩
      have hin : i = eso.size := by
        rcases Nat.lt_or_ge i eso.size with h | h
        · have e : eso.size - i = (eso.size - (i + 1)) + 1 := by omega
          rw [e, List.range'_succ] at hr; exact nomatch hr
        · exact Nat.le_antisymm hi h
      refine wpAny_pure (hQ h' ?_ ⟨oo, eso, epo, hoo', hco, hdo', hko, hpo, hno⟩ hs')
      rw [hin, ← hlen, List.take_length] at hd'; exact hd'
  split
  · refine wpAny_bind (wpAny_dictEntries hoo hdo' ?_)
    refine wpAny_bind ?_
    refine MeetsSeq2.wpAny_forIn_array _ (fun rest _ s' => s' = s ∧ ∀ e ∈ rest, e ∈ eso.toList) _ ?_ ?_ _ _ ⟨rfl, fun e he => he⟩
    · rintro e rest b s' ⟨rfl, hm⟩
      obtain ⟨k', hkey', _⟩ := hko e (by simpa using hm e (List.mem_cons_self ..))
      have nr := hstr k' e.key hkey'
      split
      · rename_i a ea
        exact absurd ea (nr a)
      · exact wpAny_pure ⟨rfl, fun y hy => hm y (List.mem_cons_of_mem _ hy)⟩
    · rintro b s' ⟨rfl, _⟩
      exact loop
  · exact loop
theorem wpAny_Dict_stars {env : Env} {e1 e2 : Expr} {pos : Pos} {Q : Value → Shared → Prop} (hk : ∀ (k : K) (v : Value), knd.is k v = true → ∀ a, v ≠ .ref a)
    (h : wpAny (model prog w) A (eval e1 env) (fun v1 s1 => ∃ o1 k1 m1, v1 = .ref o1 ∧ s.heap.objs.size ≠ o1 ∧ (o1 == sysModules) = false ∧ s1.heap.DictOf knd s.heap.objs.size k1 ∧ s1.heap.DictOf knd o1 m1 ∧ k1.length + m1.length ≤ sizeLine ∧
      ∀ h', h'.DictOf knd s.heap.objs.size (merged k1 m1) → Heap.SameBut s.heap.objs.size s1.heap h' → wpAny (model prog w) A (eval e2 env) (fun v2 s2 => ∃ o2 k2 m2, v2 = .ref o2 ∧ s.heap.objs.size ≠ o2 ∧ (o2 == sysModules) = false ∧
        s2.heap.DictOf knd s.heap.objs.size k2 ∧ s2.heap.DictOf knd o2 m2 ∧ k2.length + m2.length ≤ sizeLine ∧ ∀ h'', h''.DictOf knd s.heap.objs.size (merged k2 m2) → Heap.SameBut s.heap.objs.size s2.heap h'' → Q (.ref s.heap.objs.size) { s2 with heap := h'' }) E { s1 with heap := h' }) E
      { s with heap := s.heap.push { cls := .type "dict", data := .dict #[] } }) :
    wpAny (model prog w) A (eval (.Dict [none, none] [e1, e2] pos) env) Q E s := by
  rw [arm_eval_Dict]
  refine wpAny_bind (wpAny_standAt ?_)
  have hs : (evalEachOpt [none, none] env).zip ((evalEach [e1, e2] env).map fun v => do let x ← v; standAt pos; pure x) = [(none, do let x ← eval e1 env; standAt pos; pure x), (none, do let x ← eval e2 env; standAt pos; pure x)] := rfl
  rw [hs]
  unfold dictDisplay
  simp only [List.forIn_cons, List.forIn_nil, List.isEmpty_nil, if_true, pure_bind, bind_assoc]
  refine wpAny_bind (wpAny_alloc ?_)
  refine wpAny_bind (wpAny_holding (wpAny_bind (wpAny_mono h (fun v1 s1 ⟨o1, k1, m1, ev, ne, hS, d1, d2, sz, nx⟩ => ?_) fun _ _ x => x)))
  subst ev
  refine wpAny_bind (wpAny_standAt (wpAny_pure ?_))
  refine wpAny_bind (wpAny_onRaise (wpAny_tryCatch (wpAny_onRaise (wpAny_holding ?_))))
  refine wpAny_mergeMapping ne hS d1 d2 hk (fun z => nomatch z) (fun h' a1 _ a3 => ?_) sz
  refine wpAny_bind (wpAny_holding (wpAny_bind (wpAny_mono (nx h' a1 a3) (fun v2 s2 ⟨o2, k2, m2, ev, ne, hS, d1, d2, sz, nx⟩ => ?_) fun _ _ x => x)))
  subst ev
  refine wpAny_bind (wpAny_standAt (wpAny_pure ?_))
  refine wpAny_bind (wpAny_onRaise (wpAny_tryCatch (wpAny_onRaise (wpAny_holding ?_))))
  refine wpAny_mergeMapping ne hS d1 d2 hk (fun z => nomatch z) (fun h'' a1 _ a3 => ?_) sz
  exact wpAny_pure (nx h'' a1 a3)
end
end Z

namespace Z
open PySem L2 PySem.W
open PyProof.Rows hiding St
theorem mix_noref {P : Program} {w : World} (k : Key) (v : Value) (h : (mixKind P w).is k v = true) : ∀ a, v ≠ .ref a := fun a e => by
  rcases keyIs_shape h with ⟨i, t, _, rfl⟩ | ⟨x, t, _, rfl⟩ <;> exact nomatch e
section
variable {prog : Program} {w : World} {A : Around} {E : Value → Shared → Prop} {s : Shared}
theorem wpAny_keywordsIn {f : Value} {d : Addr} {kvs : List (Str × Value)} {Q : List (Str × Value) → Shared → Prop} (hd : s.heap.DictOf (mixKind prog w) d (kvs.map fun q => ((Sum.inr q.1 : Key), q.2))) (h : Q kvs s) :
    wpAny (model prog w) A (keywordsIn f d) Q E s := by
  obtain ⟨o, es, ep, ho, hc, hdat, hk, hp, hn⟩ := hd
  unfold keywordsIn
  refine wpAny_bind (wpAny_dictEntries ho hdat ?_)
  refine wpAny_bind ?_
  refine MeetsSeq2.wpAny_forIn_array _ (fun rest acc s' => s' = s ∧ ∃ qs, PySem.Pairs (mixKind prog w) rest (qs.map fun q : Str × Value => ((Sum.inr q.1 : Key), q.2)) ∧ acc ++ qs = kvs) _ ?_ ?_ _ _ ⟨rfl, kvs, hp, rfl⟩
  · rintro ⟨hash, key, val⟩ rest acc s' ⟨rfl, qs, hq, ea⟩
    cases qs with
    | nil => cases hq
    | cons q qs =>
      obtain ⟨x, v⟩ := q
      cases hq with
      | cons hk1 hv1 hq2 =>
        have hk1 : keyIs (Sum.inr x) key = true := hk1
        have hv1 : val = v := hv1
        rcases keyIs_shape hk1 with ⟨i, t, e, _⟩ | ⟨y, t, e, ek⟩
        · exact nomatch e
        · injection e with e
          subst e ek hv1
          exact wpAny_pure ⟨rfl, qs, hq2, by rw [List.append_assoc]; exact ea⟩
  · rintro acc s' ⟨rfl, qs, hq, ea⟩
    cases qs with
    | nil =>
      rw [List.append_nil] at ea
      subst ea
      exact wpAny_pure h
    | cons q qs => cases hq
theorem wpAny_mergedKeywords {f : Value} {x : Sem Value} {Q : Addr → Shared → Prop}
    (h : wpAny (model prog w) A x (fun v s1 => ∃ o m, v = .ref o ∧ s.heap.objs.size ≠ o ∧ (o == sysModules) = false ∧ s1.heap.DictOf (mixKind prog w) s.heap.objs.size [] ∧ s1.heap.DictOf (mixKind prog w) o m ∧ m.length ≤ sizeLine ∧
      ∀ h', h'.DictOf (mixKind prog w) s.heap.objs.size (merged [] m) → Heap.SameBut s.heap.objs.size s1.heap h' → Q s.heap.objs.size { s1 with heap := h' }) E
      { s with heap := s.heap.push { cls := .type "dict", data := .dict #[] } }) :
    wpAny (model prog w) A (mergedKeywords f [(none, x)]) Q E s := by
  unfold mergedKeywords
  refine wpAny_bind (wpAny_alloc ?_)
  refine wpAny_bind (wpAny_holding ?_)
  dsimp only
  refine wpAny_bind ?_
  refine wpAny_forIn_list _ (fun rest b s' => (rest = [(none, x)] ∧ b = [] ∧ s' = { s with heap := s.heap.push { cls := .type "dict", data := .dict #[] } }) ∨ (rest = [] ∧ b = [] ∧ Q s.heap.objs.size s')) _ ?_ ?_ _ _ (.inl ⟨rfl, rfl, rfl⟩)
  · rintro y rest b s' (⟨e, rfl, rfl⟩ | ⟨e, _⟩)
    · injection e with e1 e2
      subst e1 e2
      dsimp only
      rw [if_pos (by rfl)]
      refine wpAny_bind (wpAny_pure ?_)
      refine wpAny_bind (wpAny_mono h (fun v s1 ⟨o, m, ev, ne, hS, d1, d2, sz, nx⟩ => ?_) fun _ _ x => x)
      subst ev
      refine wpAny_bind (wpAny_onRaise (wpAny_holding (wpAny_tryCatch (wpAny_onRaise ?_))))
      refine wpAny_mergeMapping ne hS d1 d2 mix_noref (fun _ => rfl) (fun h' a1 _ a3 => ?_) (by simpa using sz)
      exact wpAny_pure (.inr ⟨rfl, rfl, nx h' a1 a3⟩)
    · exact nomatch e
  · rintro b s' (⟨e, _⟩ | ⟨_, rfl, hq⟩)
    · exact nomatch e
    · rw [if_pos (by rfl)]
      exact wpAny_pure (wpAny_pure hq)
theorem wpAny_evalArgs_d {f : Value} {x : Sem Value} {Q : Args → Shared → Prop}
    (h : wpAny (model prog w) A x (fun v s1 => ∃ o kvs, v = .ref o ∧ s.heap.objs.size ≠ o ∧ (o == sysModules) = false ∧ s1.heap.DictOf (mixKind prog w) s.heap.objs.size [] ∧ s1.heap.DictOf (mixKind prog w) o (kvs.map fun q : Str × Value => ((Sum.inr q.1 : Key), q.2)) ∧ kvs.length ≤ sizeLine ∧
      ∀ h', h'.DictOf (mixKind prog w) s.heap.objs.size (kvs.map fun q : Str × Value => ((Sum.inr q.1 : Key), q.2)) → Heap.SameBut s.heap.objs.size s1.heap h' → Q ⟨[], kvs⟩ { s1 with heap := h' }) E
      { s with heap := s.heap.push { cls := .type "dict", data := .dict #[] } }) :
    wpAny (model prog w) A (evalArgs f true [] [(none, x)]) Q E s := by
  unfold evalArgs
  dsimp only
  have e0 : (spliced [] : Sem (List Value)) = pure [] := rfl
  rw [e0]
  refine wpAny_bind (wpAny_pure (wpAny_bind (wpAny_pure ?_)))
  refine wpAny_holding ?_
  rw [if_neg (by simp)]
  refine wpAny_bind (wpAny_mergedKeywords (wpAny_mono h (fun v s1 ⟨o, kvs, ev, ne, hS, d1, d2, sz, nx⟩ => ?_) fun _ _ x => x))
  refine ⟨o, _, ev, ne, hS, d1, d2, by rw [List.length_map]; exact sz, fun h' a1 a2 => ?_⟩
  have hn := d2
  obtain ⟨_, _, _, _, _, _, _, _, hn⟩ := hn
  rw [merged_nil_of_nodup _ hn] at a1
  refine wpAny_bind (wpAny_pure ?_)
  exact wpAny_bind (wpAny_holding (wpAny_keywordsIn a1 (wpAny_pure (nx h' a1 a2))))
theorem callWith_D {K : Frag} {f : Value} {first : List Value} {pos : Pos} {x : Sem Value} {Q : Value → Shared → Prop} (hk : keepIn K f = true)
    (h : wpAny (model prog w) A (evalArgs f true [] [(none, x)]) (fun a s₁ => K.In s₁.heap ∧ wpAny (model prog w) A (call f (first ++ a.pos) a.kw) Q E s₁) E s) : wpAny (model prog w) A (callWith pos f first [] [(none, x)]) Q E s := by
  unfold callWith
  refine wpAny_bind (wpAny_holding (wpAny_mono h (fun a s₁ h₁ => wpAny_bind (wpAny_standAt ?_)) fun _ _ x => x))
  obtain ⟨k, hk', L⟩ := keeps_K (M := model prog w) hk _ h₁.1
  refine wpAny_bind (L.here ?_)
  have tail : ∀ {t : Sem Value}, wpAny (model prog w) A t Q E s₁ → wpAny (model prog w) A (t >>= fun r => holding [r] point >>= fun _ => pure r) Q E s₁ :=
    fun ht => wpAny_bind (wpAny_mono ht (fun r s₂ hr => wpAny_bind (wpAny_holding (wpAny_point (wpAny_pure hr)))) fun _ _ x => x)
  have marked (mk : Value) : wpAny (model prog w) A (callMarked mk f (first ++ a.pos) a.kw) Q E s₁ := by unfold callMarked; exact Calls.wpAny_keep h₁.2
  rcases hk' with rfl | rfl | rfl <;> dsimp only <;> first | exact tail (marked _) | exact tail (wpAny_operating h₁.2)
end
end Z

namespace Z
open PySem L2
open PyProof.Rows hiding St
def tStars (t1 t2 : TE) : TE := fun σ H Q => ∀ p, H p = none → t1 σ (upd H p (.dK [])) fun y H1 => ∃ a k1 m1, y = .ref a ∧ p ≠ a ∧ H1 p = some (.dK k1) ∧ H1 a = some (.dK m1) ∧ k1.length + m1.length ≤ 2000 ∧
  t2 σ (upd H1 p (.dK (mergeK k1 m1))) fun z H2 => ∃ c k2 m2, z = .ref c ∧ p ≠ c ∧ H2 p = some (.dK k2) ∧ H2 c = some (.dK m2) ∧ k2.length + m2.length ≤ 2000 ∧ Q (.ref p) (upd H2 p (.dK (mergeK k2 m2)))
section
variable {X : Cx} {G : Gt} {Wf : WX} {b : Bool} {e1 e2 : Expr} {t1 t2 : TE} {pos : Pos} {m1 m2 : Ev → M W}
theorem pe_dstar2 (h1 : PE X e1 t1) (h2 : PE X e2 t2) : PE X (.Dict [none, none] [e1, e2] pos) (tStars t1 t2) := by
  refine ⟨fun pins s σ H Q I q => ?_⟩
  have sl : (2000 : Nat) ≤ sizeLine := by rw [sizeLine_eq]; decide
  have hn := I.hok.fresh (Nat.le_refl s.heap.objs.size)
  have I1 := I.laid (a := s.heap.objs.size) (o := .dK []) (h' := s.heap.push { cls := .type "dict", data := .dict #[] }) (t' := s.toks) (fun _ _ q => Heap.get?_push_of_some _ q) (Nat.le_refl _) (dk_empty s.heap I.big)
  refine wpAny_Dict_stars (knd := mixKind X.prog X.w) mix_noref (thn (h1.run pins _ σ _ _ I1 (q _ hn)) fun v1 s1 ⟨y, H1, J1, ry, a, k1, m1, ey, pa, eH, ea, len, q2⟩ => ?_)
  subst ey
  obtain rfl : v1 = Value.ref a := ry
  obtain ⟨z1, hd1, vs1, rel1, dd1⟩ := dk_of J1.hok eH
  obtain ⟨z2, hd2, vs2, rel2, dd2⟩ := dk_of J1.hok ea
  have l1 := rel1.length
  have l2 := rel2.length
  have ml := mergeK_le m1 k1
  refine ⟨a, vs1, vs2, rfl, pa, hd2, dd1, dd2, by omega, fun h' dd' hs => ?_⟩
  have he : ∃ q, h'.get? s.heap.objs.size = some q := let ⟨q, _, _, hq, _⟩ := dd'; ⟨q, hq⟩
  have J2 := d_write (t' := s1.toks) J1 (by rw [eH]; exact True.intro) hs he (dk_new (kvs := mergeK k1 m1) (by omega) hd1 (rel2.merge rel1) dd')
  refine thn (h2.run pins _ σ _ _ J2 q2) fun v2 s2 ⟨z, H2, J3, rz, c, k2, m2, ez, pc, eH2, ec, len2, q3⟩ => ?_
  subst ez
  obtain rfl : v2 = Value.ref c := rz
  obtain ⟨z3, hd3, vs3, rel3, dd3⟩ := dk_of J3.hok eH2
  obtain ⟨z4, hd4, vs4, rel4, dd4⟩ := dk_of J3.hok ec
  have l3 := rel3.length
  have l4 := rel4.length
  have ml2 := mergeK_le m2 k2
  refine ⟨c, vs3, vs4, rfl, pc, hd4, dd3, dd4, by omega, fun h'' dd'' hs2 => ?_⟩
  have he2 : ∃ q, h''.get? s.heap.objs.size = some q := let ⟨q, _, _, hq, _⟩ := dd''; ⟨q, hq⟩
  exact ⟨.ref s.heap.objs.size, _, d_write (t' := s2.toks) J3 (by rw [eH2]; exact True.intro) hs2 he2 (dk_new (kvs := mergeK k2 m2) (by omega) hd3 (rel4.merge rel3) dd''), rfl, q3⟩
def zdstar2 (m1 m2 : Ev → M W) : Ev → M W := fun ρ => bnd (new (.dct [])) fun d => bnd (m1 ρ) fun w1 => bnd (mUpdate d [w1]) fun _ => bnd (m2 ρ) fun w2 => bnd (mUpdate d [w2]) fun _ => ret d
theorem bnd_as {α β γ : Type} {m : M α} {f : α → M β} {g : β → M γ} : bnd (bnd m f) g = bnd m fun a => bnd (f a) g := by
  funext h
  unfold bnd
  cases m h <;> rfl
theorem upd_after {α β : Type} {P : RP α β} {σ : St} {ι : Nat → Addr} {h : Hz} {H : Hp} {n : Nat} {p : Addr} {w : W} {v : V} {kk : W → M α} {Q : β → Hp → Prop} (r : HRep X.K G ι h H) (rp : Rep X.K G ι h H (.ref n) (.ref p)) (pw : Rep X.K G ι h H w v) (q : Aft X.K G Wf σ P ι h H (bnd (mUpdate (.ref n) [w]) kk h) Q) :
    ∃ a k1 m1 h', v = .ref a ∧ p ≠ a ∧ H p = some (.dK k1) ∧ H a = some (.dK m1) ∧ k1.length + m1.length ≤ 2000 ∧ Next X.K G ι h H ι h' (upd H p (.dK (mergeK k1 m1))) ∧ Aft X.K G Wf σ P ι h' (upd H p (.dK (mergeK k1 m1))) (kk .non h') Q := by
  unfold mUpdate at q
  dsimp only at q
  rw [bnd_as] at q
  obtain ⟨i, xs, ys, e1, e2, g, ea, pq, a2⟩ := dref_after r rp q
  dsimp only at a2
  rw [bnd_as] at a2
  obtain ⟨j, zs, ts, e3, e4, g2, ea2, pq2, a3⟩ := dref_after r pw a2
  injection e1 with e1
  injection e2 with e2
  subst e1 e2
  dsimp only at a3
  split at a3
  · exact False.elim a3
  · rename_i ne
    split at a3
    · rename_i hl
      have na : ι n ≠ ι j := fun e => ne (r.inj n j _ _ g g2 rfl rfl e)
      have l1 := len_kw pq
      have l2 := len_kw pq2
      have nx := dput_next r g (merge_pairs pq2 pq)
      refine ⟨ι j, ys, ts, _, e4, na, ea, ea2, by omega, nx, ?_⟩
      have a4 : Aft X.K G Wf σ P ι h H (kk W.non (h.put n (Cell.dct (mergeW xs zs)))) Q := a3
      exact Aft.step a4 nx
    · exact False.elim a3
theorem pz_dstar2 (h1 : PZ false X G Wf e1 m1) (h2 : PZ false X G Wf e2 m2) : PZ b X G Wf (.Dict [none, none] [e1, e2] pos) (zdstar2 m1 m2) := by
  refine PZ.of (pe_dstar2 h1.pe h2.pe) fun σ H ι h ρ Q r sr aft => ?_
  intro p hp
  have n1 := dnew_next (ys := []) (us := []) r hp .nil
  have rp : Rep X.K G (ext1 ι h.n p) (h.push (.dct [])) (upd H p (.dK [])) (.ref h.n) (.ref p) := ref_push
  have a1 : Aft X.K G Wf σ (rpW X.K G) (ext1 ι h.n p) (h.push (.dct [])) (upd H p (.dK [])) ((bnd (m1 ρ) fun w1 => bnd (mUpdate (.ref h.n) [w1]) fun _ => bnd (m2 ρ) fun w2 => bnd (mUpdate (.ref h.n) [w2]) fun _ => ret (W.ref h.n)) (h.push (.dct []))) Q := Aft.step aft n1
  refine ⟨ext1 ι h.n p, h.push (.dct []), ρ, n1.rep, sr.next r n1.toNx0, (a1.bnd (P := rpW X.K G)).imp fun y H2 ⟨ι2, h2, w2, n2, p2, a2⟩ => ?_⟩
  have rp2 := rp.next n1.rep n2.toNx0
  obtain ⟨a, k1, q1, h3, ey, pa, eH, ea, len, n3, a3⟩ := upd_after n2.rep rp2 p2 a2
  refine ⟨a, k1, q1, ey, pa, eH, ea, len, ?_⟩
  have n23 := n2.trans n3
  refine ⟨ι2, h3, ρ, n3.rep, (sr.next r n1.toNx0).next n1.rep n23.toNx0, (a3.bnd (P := rpW X.K G)).imp fun z H4 ⟨ι4, h4, w4, n4, p4, a4⟩ => ?_⟩
  have rp4 := rp.next n1.rep (n23.trans n4).toNx0
  obtain ⟨c, k2, q2, h5, ez, pc, eH2, ec, len2, n5, a5⟩ := upd_after n4.rep rp4 p4 a4
  refine ⟨c, k2, q2, ez, pc, eH2, ec, len2, ?_⟩
  exact a5.ret n5.rep (rp4.next n4.rep n5.toNx0)
def keysAre : List (W × W) → List (List Nat) → Bool
  | [], [] => true
  | p :: r, k :: ks => (match p.1 with | .str s => eqN s k | _ => false) && keysAre r ks
  | _, _ => false
def zmkD (fr : Bool) (c : Nat) (ks : List (List Nat)) (g : List W → List W → List W) (fn : List W → M W) (me : Ev → M W) : Ev → M W := fun ρ => bnd (new (.dct [])) fun d => bnd (me ρ) fun w => bnd (zdref d) fun q0 => match q0.2 with
  | [] => bnd (mUpdate d [w]) fun _ => bnd (zdref d) fun q => if keysAre q.2 ks = true then zmkW fr c 0 ks.length g fn [] (q.2.map (·.2)) else bad
  | _ => bad
theorem keys_kvs {K : PySem.W.Frag} {ι : Nat → Addr} {h : Hz} {H : Hp} : ∀ {xs : List (W × W)} {ks : List (List Nat)} {ys : List (Key × V)} {vs : List (Key × Value)}, keysAre xs ks = true → Paired (KE1 K G ι h H) xs ys → KV ys vs →
    ∃ us vls, vs = (List.zip (ks.map S) us).map (fun q : Str × Value => ((Sum.inr q.1 : Key), q.2)) ∧ us.length = ks.length ∧ Vals vls us ∧ Reps K G ι h H (xs.map (·.2)) vls
  | [], [], _, _, _, .nil, .nil => ⟨[], [], rfl, rfl, .nil, .nil⟩
  | [], k :: ks, _, _, e, _, _ => nomatch e
  | p :: r, [], _, _, e, _, _ => nomatch e
  | p :: r, k :: ks, _, _, e, .cons q1 q2, .cons v1 v2 => by
    obtain ⟨w1, w2⟩ := p
    have e' := e
    unfold keysAre at e'
    rw [Bool.and_eq_true] at e'
    obtain ⟨us, vls, ev, lu, rv, rp⟩ := keys_kvs e'.2 q2 v2
    obtain ⟨kk, rep⟩ := q1
    obtain ⟨ek, rel⟩ := v1
    cases w1 with
    | str s =>
      have es : s = k := by
        have := e'.1
        dsimp only at this
        rw [eqN_eq] at this
        exact of_decide_eq_true this
      subst es
      refine ⟨_ :: us, _ :: vls, ?_, by rw [List.length_cons, List.length_cons, lu], .cons rel rv, .cons rep rp⟩
      rename_i ykey yvs vkv vvs
      have e1 : (Sum.inr (S s) : Key) = ykey.1 := Option.some.inj kk
      rw [ev]
      show vkv :: _ = (Sum.inr (S s), vkv.2) :: _
      rw [e1, ek]
      rfl
    | _ => exact nomatch e'.1
variable {x : Str} {p kp : Pos} {e : Expr} {me : Ev → M W} {k c i : Nat} {fr : Bool} {g : List W → List W → List W} {fn : List W → M W} {ks : List (List Nat)}
theorem pz_mkD (Mo : MkOk X G k c i 0 (ks.map S) g fn) (hr : Room (k + 1) X.A) (tkx : Takes X Wf) (hg : Gl X x) (hm : X.mg x = some (.ref (G.cl c)))
    (he : PZ b X G Wf e me) (hdb : (x == ("__debug__" : Str)) = false) : PZ b X G Wf (.Call (.Name x p) [] [⟨none, e, kp⟩] pos) (zmkD fr c ks g fn me) := by
  refine ⟨fun pins s σ H ι h ρ Q tk I r sr aft => ?_⟩
  have sl : (2000 : Nat) ≤ sizeLine := by rw [sizeLine_eq]; decide
  refine wpAny_Call_Name_kw (ld_glob I hg hm ?_ hdb)
  have hkw : backToKw pos (keywordEach [⟨none, e, kp⟩] X.env) = [(none, do let v ← eval e X.env; standAt pos; pure v)] := rfl
  have hst : backTo pos (starEach [] X.env) = [] := rfl
  rw [hkw, hst]
  have hp := I.hok.fresh (Nat.le_refl s.heap.objs.size)
  have I1 := I.laid (a := s.heap.objs.size) (o := .dK []) (h' := s.heap.push { cls := .type "dict", data := .dict #[] }) (t' := s.toks) (fun _ _ q => Heap.get?_push_of_some _ q) (Nat.le_refl _) (dk_empty s.heap I.big)
  have n1 := dnew_next (ys := []) (us := []) r hp .nil
  have rp : Rep X.K G (ext1 ι h.n s.heap.objs.size) (h.push (.dct [])) (upd H s.heap.objs.size (.dK [])) (.ref h.n) (.ref s.heap.objs.size) := ref_push
  have a1 : Aft X.K G Wf σ (rpW X.K G) (ext1 ι h.n s.heap.objs.size) (h.push (.dct [])) (upd H s.heap.objs.size (.dK [])) ((bnd (me ρ) fun w => bnd (zdref (.ref h.n)) fun q0 => match q0.2 with
    | [] => bnd (mUpdate (.ref h.n) [w]) fun _ => bnd (zdref (.ref h.n)) fun q => if keysAre q.2 ks = true then zmkW fr c 0 ks.length g fn [] (q.2.map (·.2)) else bad
    | _ => bad) (h.push (.dct []))) Q := Aft.step aft n1
  refine callWith_D Mo.1.kp (wpAny_evalArgs_d ?_)
  refine wpAny_bind (thn (he.run pins _ σ _ _ _ ρ _ tk I1 n1.rep (sr.next r n1.toNx0) (a1.bnd (P := rpW X.K G))) fun u s1 ⟨tk1, v1, H1, J1, r1, ι1, h1, w1, n2, p1, a2⟩ => wpAny_bind (wpAny_standAt (wpAny_pure ?_)))
  have rp2 := rp.next n1.rep n2.toNx0
  obtain ⟨j, xs0, qs0, e1, e2, g0, eH0, pq0, a3⟩ := dref_after n2.rep rp2 a2
  cases pq0 with
  | cons _ _ => exact False.elim a3
  | nil =>
    dsimp only at a3
    obtain ⟨a, k1, m1, h3, ey, pa, eH, ea, len, n3, a4⟩ := upd_after n2.rep rp2 p1 a3
    injection e2 with e2
    rw [← e2, eH] at eH0
    cases eH0
    subst ey
    obtain rfl : u = Value.ref a := r1
    have rp3 := rp2.next n2.rep n3.toNx0
    obtain ⟨j3, xs, ys, e4, e5, g4, eH3, pq, a5⟩ := dref_after n3.rep rp3 a4
    injection e5 with e5
    rw [← e5, upd_same] at eH3
    cases eH3
    dsimp only at a5
    split at a5
    · rename_i hka
      obtain ⟨z1, hd1, vs1, rel1, dd1⟩ := dk_of J1.hok eH
      obtain ⟨z2, hd2, vs2, rel2, dd2⟩ := dk_of J1.hok ea
      cases rel1
      have hn2 := dd2
      obtain ⟨_, _, _, _, _, _, _, _, hn2⟩ := hn2
      have relM := rel2.merge (Paired.nil : KV ([] : List (Key × V)) [])
      have relM : KV (mergeK [] m1) vs2 := by rw [merged_nil_of_nodup _ hn2] at relM; exact relM
      obtain ⟨us, vls, evs, lu, rv, rps⟩ := keys_kvs hka pq relM
      subst evs
      have ll := relM.length
      refine ⟨a, List.zip (ks.map S) us, rfl, pa, hd2, dd1, dd2, ?_, fun h' dd' hs => ?_⟩
      · have q1 := rel2.length
        rw [List.length_map] at q1
        omega
      · have he2 : ∃ q, h'.get? s.heap.objs.size = some q := let ⟨q, _, _, hq, _⟩ := dd'; ⟨q, hq⟩
        have ml := mergeK_le m1 ([] : List (Key × V))
        have J2 := d_write (t' := s1.toks) J1 (by rw [eH]; exact True.intro) hs he2 (dk_new (kvs := mergeK [] m1) (by omega) hd1 relM dd')
        refine ⟨J2.kIn, ?_⟩
        have a6 : Aft X.K G Wf σ (rpW X.K G) ι1 h3 (upd H1 s.heap.objs.size (.dK (mergeK [] m1))) (zmkW fr c 0 (ks.map S).length g fn [] (xs.map (·.2)) h3) Q := by rw [List.length_map]; exact a5
        exact withTk tk1 (run_mk (us := []) Mo hr tkx J2 n3.rep .nil rv .nil rps a6)
    · exact False.elim a5
end
end Z

namespace Z
open PySem L2
open PyProof.Rows hiding St
abbrev kvs {α : Type} (ks : List Str) (zs : List α) : List (Key × α) := (List.zip ks zs).map fun q => ((Sum.inr q.1 : Key), q.2)
section
variable {prog : Program} {w : World} {A : Around} {E : Value → Shared → Prop} {s : Shared}
theorem wpAny_nsSet_dict {a : Addr} {qs : List (Str × Value)} {name : Str} {v : Value} {Q : Unit → Shared → Prop} (hd : s.heap.DictOf (mixKind prog w) a (qs.map fun q => ((Sum.inr q.1 : Key), q.2))) (hn : name ∉ qs.map (·.1))
    (hQ : ∀ h', h'.DictOf (mixKind prog w) a ((qs ++ [(name, v)]).map fun q => ((Sum.inr q.1 : Key), q.2)) → Heap.SameBut a s.heap h' → Q () { s with heap := h', toks := s.toks + 1 }) :
    wpAny (model prog w) A (nsSet a name v) Q E s := by
  obtain ⟨o, es, ep, ho, hc, hdat, hk, hp, hnd⟩ := hd
  have nr : ∀ e ∈ es.toList, ∃ x t, e.key = .str x t ∧ x ∈ qs.map (·.1) := by
    clear hnd hk hn hQ hdat
    generalize es.toList = l at hp
    induction qs generalizing l with
    | nil => cases hp; intro e he; exact absurd he List.not_mem_nil
    | cons q qs ih =>
      cases hp with
      | cons h1 h2 h3 =>
        intro e he
        rcases List.mem_cons.mp he with rfl | he
        · have h1 : keyIs (Sum.inr q.1) e.key = true := h1
          rcases keyIs_shape h1 with ⟨i, t, z, _⟩ | ⟨x, t, z, ek⟩
          · exact nomatch z
          · injection z with z
            exact ⟨x, t, ek, by rw [← z]; exact List.mem_cons_self ..⟩
        · obtain ⟨x, t, ek, hx⟩ := ih _ h3 e he
          exact ⟨x, t, ek, List.mem_cons_of_mem _ hx⟩
  unfold nsSet strHash
  refine wpAny_bind (wpAny_bind (wpAny_askSetting (wpAny_pure ?_)))
  refine wpAny_bind (wpAny_mkText ?_)
  refine wpAny_bind (wpAny_loadPart (o := o) ho ?_)
  rw [hdat]
  dsimp only
  have hany : es.any (·.refKey) = false := by
    rw [Array.any_eq_false']; intro e he; obtain ⟨n, t, h, _⟩ := nr e (by simpa using he); simp [DictEntry.refKey, h]
  have hr : aRefKeyMayBeTheName name es = false := by rw [aRefKeyMayBeTheName_at, hany, Bool.and_false]
  rw [if_neg (by rw [hr]; exact Bool.false_ne_true)]
  have hi : es.findIdx? (·.key.isStr name) = none := by
    rw [Array.findIdx?_eq_none_iff]
    intro e he
    obtain ⟨x, t, ek, hx⟩ := nr e (by simpa using he)
    rw [ek]
    have ne : name ≠ x := fun z => hn (z ▸ hx)
    simp [Value.isStr, ne, Ne.symm ne]
  refine wpAny_updatePart (o := o) ho (hQ _ ?_ (Heap.SameBut.update ..))
  have hkey : (mixKind prog w).is (Sum.inr name) (.str name s.toks) = true := by
    show Value.isStrOf name (.str name s.toks) = true
    simp [Value.isStrOf]
  have eh : (if name.cps.isEmpty then 0 else reduceHash (w.params.strHash name.cps)) = (mixKind prog w).hash (Sum.inr name) := rfl
  obtain ⟨c, d, dt, sl⟩ := o
  subst hdat
  refine ⟨_, _, ep + 1, Heap.get?_update_self _ ho (by simp only [Obj.putName_eq, Obj.putNameByArray, hi]; rfl), ?_, by simp only [Obj.putName_eq, Obj.putNameByArray, hi]; rfl, hk.push (k := Sum.inr name) hkey v, ?_, ?_⟩
  · simp only [Obj.putName_eq, Obj.putNameByArray, hi]
    exact hc
  · rw [List.map_append]
    have := hp.append (k := (Sum.inr name : Key)) hkey ((mixKind prog w).hash (Sum.inr name)) v
    obtain ⟨l⟩ := es
    simpa using this
  · rw [List.map_append, List.map_append, List.nodup_append]
    refine ⟨hnd, by simp, ?_⟩
    intro x hx y hy
    simp only [List.map_cons, List.map_nil, List.mem_singleton] at hy
    subst hy
    rintro rfl
    rw [List.map_map] at hx
    obtain ⟨q, hq, e⟩ := List.mem_map.mp hx
    injection e with e
    exact hn (List.mem_map.mpr ⟨q, hq, e⟩)
theorem wpAny_fill {a : Addr} : ∀ (ps : List (Str × Value)) (qs : List (Str × Value)) (s : Shared) (Q : PUnit → Shared → Prop), s.heap.DictOf (mixKind prog w) a (qs.map fun q => ((Sum.inr q.1 : Key), q.2)) → ((qs ++ ps).map (·.1)).Nodup →
    (∀ h' t', h'.DictOf (mixKind prog w) a ((qs ++ ps).map fun q => ((Sum.inr q.1 : Key), q.2)) → Heap.SameBut a s.heap h' → Q ⟨⟩ { s with heap := h', toks := t' }) →
    wpAny (model prog w) A (forIn ps PUnit.unit fun q (_ : PUnit) => (do nsSet a q.1 q.2; pure (ForInStep.yield PUnit.unit) : Sem (ForInStep PUnit))) Q E s
  | [], qs, s, Q, hd, _, hQ => by
    rw [List.forIn_nil]
    rw [List.append_nil] at hQ
    exact wpAny_pure (hQ s.heap s.toks hd (Heap.SameBut.refl _ _))
  | (x, v) :: ps, qs, s, Q, hd, hn, hQ => by
    rw [List.forIn_cons]
    refine wpAny_bind (wpAny_bind (wpAny_nsSet_dict hd ?_ fun h' hd' hs' => wpAny_pure ?_))
    · rw [List.map_append, List.nodup_append] at hn
      exact fun z => hn.2.2 x z x (List.mem_cons_self ..) rfl
    · refine wpAny_fill ps (qs ++ [(x, v)]) _ Q hd' (by rw [List.append_assoc]; exact hn) fun h'' t' hd'' hs'' => ?_
      rw [List.append_assoc] at hd''
      exact hQ h'' t' hd'' (hs'.trans hs'')
end
def KwBn (fd : FuncData) (ks : List Str) (pa pv : Str) : Prop := ∀ (u : Value) (zs : List Value), zs.length = ks.length → bindArgs fd ⟨[u], ks.zip zs⟩ = (do
    if (ks.zip zs).length > sizeLine + 1 then unsupported "dict:memory"
    let d ← alloc { cls := .type "dict", data := .dict #[] }
    for q in ks.zip zs do nsSet d q.1 q.2
    pure [(pa, u), (pv, .ref d)])
def FnK (P : Program) (w : World) (K : PySem.W.Frag) (mg : Str → Option Value) (base : Heap) (k : Nat) (f : Addr) (fd : FuncData) (pa pv : Str) (sp : Sp) : Prop :=
  ∀ (A : Around) (outer : List Env) (s : Shared) (H : Hp) (u : Value) (v : V) (ks : List Str) (zs : List Value) (ys : List V) (Q : VK) (E : XK), Room k A → Env0 P w K mg base A outer s H → KwBn fd ks pa pv → ks.Nodup → ks.length ≤ 100 → RelV v u → Vals ys zs → zs.length = ks.length →
    (∀ p, H p = none → sp [v, .ref p] (upd H p (.dK (kvs ks ys))) Q E) → codeAny (model P w) A (.call (.ref f) ⟨[u], ks.zip zs⟩) (CR (CX P w) outer P w H s Q E) s
theorem kv_kvs : ∀ {ks : List Str} {ys : List V} {zs : List Value}, Vals ys zs → KV (kvs ks ys) (kvs ks zs)
  | [], _, _, _ => .nil
  | k :: ks, _, _, .nil => .nil
  | k :: ks, _, _, .cons a r => .cons ⟨rfl, a⟩ (kv_kvs r)
theorem CX.ahead {P : Program} {w : World} {outer : List Env} {H : Hp} {s : Shared} {h2 : Heap} {t2 : Nat} {p : Addr} {o : HO} {E : XK} {e : Value} {s' : Shared} (k : ∀ b o, s.heap.get? b = some o → h2.get? b = some o) (hp : s.heap.objs.size ≤ p) (hn : H p = none)
    (c : CX P w outer (upd H p o) { s with heap := h2, toks := t2 } E e s') : CX P w outer H s E e s' := by
  obtain ⟨a, B, H', cls, d, eu, fl, hok, ub, na, os, ag, hE⟩ := c
  have ne : ∀ {b : Addr} {ob : Obj}, s.heap.get? b = some ob → b ≠ p := fun e => Nat.ne_of_lt (Nat.lt_of_lt_of_le (Heap.lt_size e) hp)
  refine ⟨a, B, H', cls, d, eu, fl, hok, ⟨fun b q e n nb => ?_, fun b q e hb => ?_, fun b q e n => ?_, fun b q e nb => ?_, fun b xs e => ?_, fun b q xs e => ?_, fun b ps e => ?_⟩, na, os, ag, hE⟩
  · exact ub.keep b q (k b q e) (by rw [upd_ne (ne e)]; exact n) nb
  · exact ub.slot b q (k b q e) hb
  · exact ub.free b q (k b q e) (by rw [upd_ne (ne e)]; exact n)
  · exact ub.there b q (k b q e) nb
  · exact ub.tups b xs (by rw [upd_ne (ne_of_none e hn)]; exact e)
  · exact ub.frzs b q xs (by rw [upd_ne (ne_of_none e hn)]; exact e)
  · exact ub.tbls b ps (by rw [upd_ne (ne_of_none e hn)]; exact e)
section
variable {P : Program} {w : World} {K : PySem.W.Frag} {mg : Str → Option Value} {base : Heap} {G : Gt} {x qual : Str} {params : Arguments} {body : List Stmt} {scope : Scope} {dvs : List V} {kws : List (Str × V)} {f : Addr} {fd : FuncData} {N : List Str} {pa pv : Str} {k n : Nat} {m : MS}
theorem fn_inK {sp : Sp} (F : FunD K x qual params body scope dvs kws f fd) (S : FnScope N [pa, pv] scope) (len : ∀ vs H Q E, sp vs H Q E → vs.length = 2)
    (hbody : ∀ (cdv : Value) (A : Around) (outer : List Env) (s : Shared) (H : Hp) (vs : List V) (Q : VK) (E : XK), Room k (A.deeper (envOfC qual scope s.heap.objs.size f cdv)) → sp vs H Q E →
      ∃ t, PSs (cxOf (CX P w) P w K mg base N qual scope f cdv A outer s H E) body t ∧ t { nx := fun _ H' => Q .non H', rt := Q } (start N vs) H) : FnK P w K mg base (k + 1) f fd pa pv sp := by
  obtain ⟨oc, od, dV, kV, doc, pm, an, cdv, ct, osl, rfl, lk, hcd, _, _⟩ := F.ex
  intro A outer s H u v ks zs ys Q E hr e0 hb hnd hl rv rz lz hsp
  have kx := e0.mod.kin.keeps fun b o e => (e0.bs b o e).1
  have sl : (100 : Nat) ≤ sizeLine := by rw [sizeLine_eq]; decide
  have hn : H s.heap.objs.size = none := e0.hok.fresh (Nat.le_refl _)
  have hq := hsp s.heap.objs.size hn
  refine codeAny_call_function hr.rm.depth (kx _ _ lk) rfl S.co S.gen rfl (PySem.W.codeRec_of kx hcd) ?_
  rw [hb u zs lz]
  have lzz : (ks.zip zs).length = ks.length := by rw [List.length_zip, lz, Nat.min_self]
  rw [if_neg (by rw [lzz]; omega)]
  refine wpAny_bind (wpAny_alloc ?_)
  have hnd2 : ((([] : List (Str × Value)) ++ ks.zip zs).map (·.1)).Nodup := by
    rw [List.nil_append, List.map_fst_zip (by omega)]
    exact hnd
  refine wpAny_bind (wpAny_fill (ks.zip zs) [] _ _ (Heap.DictOf.new _) hnd2 fun h' t' hd' hs' => wpAny_pure ?_)
  rw [List.nil_append] at hd'
  have kp : ∀ b o, s.heap.get? b = some o → h'.get? b = some o := fun b o e => (hs'.2 b (Nat.ne_of_lt (Heap.lt_size e))).trans (Heap.get?_push_of_some _ e)
  have ly := rz.length
  have hgl : mainGlobals < s.heap.objs.size := (e0.mod.glob.keeps fun b o e => (e0.bs b o e).1).lt
  have hS : (s.heap.objs.size == sysModules) = false := beq_eq_false_iff_ne.mpr (Ne.symm (Nat.ne_of_lt (Nat.lt_trans (by decide) hgl)))
  have ll : (kvs ks ys).length ≤ 100 := by
    show ((List.zip ks ys).map _).length ≤ 100
    rw [List.length_map, List.length_zip]
    exact Nat.le_trans (Nat.min_le_left _ _) hl
  have new : ObjOk P w (upd H s.heap.objs.size (.dK (kvs ks ys))) h' s.heap.objs.size (.dK (kvs ks ys)) := dk_new (by omega) hS (kv_kvs rz) hd'
  have hok2 := e0.hok.laid kp (Nat.le_refl _) new
  have un : Un (frs outer) [] H (upd H s.heap.objs.size (.dK (kvs ks ys))) s.heap h' := Un.laid kp (Nat.le_refl _) hn
  have hsz : s.heap.objs.size < h'.objs.size := by obtain ⟨_, _, _, hq, _⟩ := hd'; exact Heap.lt_size hq
  have e2 : Env0 P w K mg base A outer { s with heap := h', toks := t' } (upd H s.heap.objs.size (.dK (kvs ks ys))) := by
    refine ⟨e0.frames, e0.mod, fun b o e => ⟨kp b o (e0.bs b o e).1, ?_⟩, Nat.le_trans e0.bsz (Nat.le_of_lt hsz), Heap.FunFrames.of_keeps (fun b o e _ => ⟨o, kp b o e, rfl⟩) e0.funs, fun b hb' => ?_, hok2, e0.bare⟩
    · rw [upd_ne (Nat.ne_of_lt (Heap.lt_size (e0.bs b o e).1))]
      exact (e0.bs b o e).2
    · obtain ⟨_, o, ho, _⟩ := e0.funs.mem hb'
      rw [upd_ne (Nat.ne_of_lt (Heap.lt_size ho))]
      exact e0.frf b hb'
  have lm : h'.NoLimit := e0.mod.nolimit.keeps fun b o e => (e2.bs b o e).1
  refine wpAny_newFunctionEnv_cells (s := { s with heap := h', toks := t' }) S.kind (fun y hy => ?_) fun env he s1 x => ?_
  · rcases S.par y.1 (List.of_mem_zip (show (y.1, y.2) ∈ [pa, pv].zip [u, Value.ref s.heap.objs.size] from hy)).1 with z | z
    · exact .inl z
    · exact .inr ⟨z, PySem.W.cellsFrom_some _ _ _ (.inl z)⟩
  subst he
  obtain ⟨t, ht, hq'⟩ := hbody cdv A outer { s with heap := h', toks := t' } (upd H s.heap.objs.size (.dK (kvs ks ys))) [v, .ref s.heap.objs.size] Q E (hr.deeper _) hq
  have r2 : Vals [v, V.ref s.heap.objs.size] [u, Value.ref s.heap.objs.size] := .cons rv (.cons rfl .nil)
  have fin : ∀ {H' : Hp} {v' : V} {u' : Value} {s' : Shared}, s'.os = s.os → AllBare s'.gens → Un (frs outer) [] (upd H s.heap.objs.size (.dK (kvs ks ys))) H' h' s'.heap → HOk P w H' s'.heap → RelV v' u' → Q v' H' → CE outer P w H s Q u' s' := fun {H' v' u' s'} a b c d e q => ⟨v', H', a, b, un.trans c, d, e, q⟩
  refine ⟨lm.keeps x.toInCall.keep, codeAny_func (wpAny_mono (ht.run [] s1 (start N [v, .ref s.heap.objs.size]) _ _ (inv_start S hr.rm.hd e2 rfl r2 x) hq') (fun fl s' z => ?_) fun e s' z => ?_)⟩
  · cases fl with
    | ret u => obtain ⟨v, _, H', J, rv, z⟩ := z; exact fin J.os J.bare J.base J.hok rv z
    | next => obtain ⟨_, H', J, z⟩ := z; exact fin (v' := V.non) J.os J.bare J.base J.hok rfl z
    | brk => obtain ⟨_, _, _, z⟩ := z; exact False.elim z
    | cont => obtain ⟨_, _, _, z⟩ := z; exact False.elim z
  · exact wpAny_mono z (fun _ s'' z => CX.ahead kp (Nat.le_refl _) hn z) fun e' s'' z => CX.ahead kp (Nat.le_refl _) hn z
end
end Z

namespace Z
open PySem L2
open PyProof.Rows hiding St
section
variable {P : Program} {w : World} {K : PySem.W.Frag} {mg : Str → Option Value} {base : Heap} {G : Gt} {x qual : Str} {params : Arguments} {body : List Stmt} {scope : Scope} {dvs : List V} {kws : List (Str × V)} {f : Addr} {fd : FuncData} {N : List Str} {pa pv : Str} {k n : Nat} {m : MS}
theorem fnZK (F : FunD K x qual params body scope dvs kws f fd) (S : FnScope N [pa, pv] scope) (hn : N.length = n)
    (hb : ∀ (cdv : Value) (A : Around) (outer : List Env) (s : Shared) (H : Hp) (E : XK) (no : Addr → Prop), Room k (A.deeper (envOfC qual scope s.heap.objs.size f cdv)) → PZSs false (cxZ P w K mg base N qual scope f cdv A outer s H E) (G.wn no) (wfZ E) body m) :
    FnK P w K mg base (k + 1) f fd pa pv (spZ K G 2 (runZ n m)) := by
  refine fn_inK F S (fun vs H Q E h => h.1) fun cdv A outer s H vs Q E hr h => ?_
  obtain ⟨hl, no, ι, h, ws, r, rs, a⟩ := h
  refine ⟨fun D σ H' => ∃ ι h ρ, HRep K (G.wn no) ι h H' ∧ SRep K (G.wn no) ι h H' ρ σ ∧ AftS K (G.wn no) (wfZ E) ι h H' (m ρ h) D, ⟨fun pins s' σ H' D I ⟨ι, h, ρ, r, sr, a⟩ => thn ((hb cdv A outer s H E no hr).run pins s' σ H' ι h ρ D (fun z => nomatch z) I r sr a) fun _ _ q => q.2⟩, ι, h, startZ n ws, r, start_rep rs hn, ?_⟩
  exact (end_after a).imp (fun _ _ q => q) (fun _ _ q => q) (fun _ _ q => q.elim) (fun _ _ q => q.elim)
theorem fnK_bad : FnK P w K mg base k f fd pa pv (spZ K G 2 (fun _ => bad)) :=
  fun A outer s H u v ks zs ys Q E hr e0 hb hnd hl rv rz lz h => False.elim (by
    obtain ⟨_, _, ι, h, ws, _, _, a⟩ := h s.heap.objs.size (e0.hok.fresh (Nat.le_refl _)); exact a)
end
def CallKOk (X : Cx) (G : Gt) (k : Nat) (i : Nat) (ks : List (List Nat)) (fn : List W → M W) : Prop :=
  PySem.W.keepIn X.K (.ref (G.fn i)) = true ∧ ∃ fd pa pv, FnK X.prog X.w X.K X.mg X.base k (G.fn i) fd pa pv (spZ X.K G 2 fn) ∧ KwBn fd (ks.map S) pa pv ∧ ks.Nodup ∧ ks.length ≤ 100
def zcallK (ks : List (List Nat)) (fn : List W → M W) (w : W) (qs : List W) : M W := if qs.length = ks.length then bnd (new (.dct (List.zip (ks.map W.str) qs))) fun d => fn [w, d] else bad
section
variable {X : Cx} {G : Gt} {Wf : WX} {k : Nat}
theorem pair_kvs {K : PySem.W.Frag} {ι : Nat → Addr} {h : Hz} {H : Hp} : ∀ {ks : List (List Nat)} {qs : List W} {ys : List V}, Reps K G ι h H qs ys → Paired (KE1 K G ι h H) (List.zip (ks.map W.str) qs) (kvs (ks.map S) ys)
  | [], _, _, _ => .nil
  | k :: ks, _, _, .nil => .nil
  | k :: ks, _, _, .cons a r => .cons ⟨rfl, a⟩ (pair_kvs r)
theorem nodup_S : ∀ {ks : List (List Nat)}, ks.Nodup → (ks.map S).Nodup := fun h => by
  rw [List.nodup_iff_pairwise_ne] at h ⊢
  exact List.pairwise_map.mpr (h.imp fun ne e => ne (S_inj e))
theorem run_callK {i : Nat} {ks : List (List Nat)} {fn : List W → M W} (C : CallKOk X G k i ks fn) (hr : Room k X.A) (tkx : Takes X Wf) {pins : List (Addr × Obj)} {s : Shared} {σ : St} {H : Hp} {ι : Nat → Addr} {h : Hz} {Q : VK}
    {u : Value} {v : V} {zs : List Value} {ys : List V} {w : W} {qs : List W} (I : Inv X pins σ H s) (r : HRep X.K G ι h H) (r1 : RelV v u) (r2 : Vals ys zs) (p1 : Rep X.K G ι h H w v) (p2 : Reps X.K G ι h H qs ys)
    (aft : Aft X.K G Wf σ (rpW X.K G) ι h H (zcallK ks fn w qs h) Q) : wpAny (model X.prog X.w) X.A (call (.ref (G.fn i)) [u] ((ks.map S).zip zs)) (EP X pins σ Q) X.xe s := by
  obtain ⟨kp, fd, pa, pv, F, B, nd, l100⟩ := C
  unfold zcallK at aft
  split at aft
  · rename_i hl
    have l2 : zs.length = (ks.map S).length := by rw [← r2.length, ← p2.length, List.length_map]; exact hl
    refine wpAny_call (codeAny_mono (F X.A X.stack s H u v (ks.map S) zs ys Q (fun cls d H' => Wf cls d σ H') hr I.env0 B (nodup_S nd) (by rw [List.length_map]; exact l100) r1 r2 l2 fun p hp => ?_) fun r' s' hq' => ?_)
    · have n1 := dnew_next (X := X) r hp (pair_kvs (ks := ks) p2)
      refine ⟨rfl, G.no, ext1 ι h.n p, h.push (.dct (List.zip (ks.map W.str) qs)), [w, .ref h.n], n1.rep, .cons (Rep.next r n1.toNx0 p1) (.cons ref_push .nil), ?_⟩
      have a1 : Aft X.K G Wf σ (rpW X.K G) ι h H (fn [w, .ref h.n] (h.push (.dct (List.zip (ks.map W.str) qs)))) Q := aft
      have a2 := Aft.step a1 n1
      clear a1
      generalize h.push (.dct (List.zip (ks.map W.str) qs)) = h1 at a2
      cases q : fn [w, .ref h.n] h1 with
      | ok w h' => rw [q] at a2; exact a2
      | exc c fs h' => rw [q] at a2; exact a2
      | err => rw [q] at a2; exact a2
    · cases r' with
      | error e => exact tkx e s' (XE.of_call I (fun _ _ _ q => q) hq')
      | ok fl =>
        cases fl with
        | ret u =>
          exact I.after hq'
        | next => exact False.elim hq'
        | brk => exact False.elim hq'
        | cont => exact False.elim hq'
  · exact False.elim aft
def MtKOk (X : Cx) (G : Gt) (k : Nat) (mi : Nat) (ks : List (List Nat)) (T : List (Nat × Nat)) (fn : Nat → List W → M W) : Prop :=
  ∀ c i, T.lookup c = some i → Cls X.K (G.cl c) ∧ Meth X.K (G.cl c) (G.nm mi) (G.fn i) ∧ CallKOk X G k i ks (fn i)
def zmethK (mi : Nat) (T : List (Nat × Nat)) (ks : List (List Nat)) (fn : Nat → List W → M W) (ma : Ev → M W) (mk : Ev → M (List W)) : Ev → M W := fun ρ =>
  bnd (ma ρ) fun w => bnd (zins w) fun q => bnd (zfind mi T q) fun i => bnd (mk ρ) fun qs => zcallK ks (fn i) w qs
variable {b : Bool} {x : Str} {o : Expr} {ma : Ev → M W} {mk : Ev → M (List W)} {kws : List Keyword} {apos pos : Pos} {ks : List (List Nat)}
theorem pz_methK {mi : Nat} {T : List (Nat × Nat)} {fn : Nat → List W → M W} (nj : NmInj G) (hx : G.nm mi = x) (Mt : MtKOk X G k mi ks T fn) (hr : Room k X.A) (tkx : Takes X Wf) (ho : PZ b X G Wf o ma)
    (hkw : PZK b X G Wf kws mk) (hks : kwNames kws = some (ks.map S)) (hb : noSuper o = true) (hl : (apos.endLine == pos.line) = true) (h29 : kws.length < 29) :
    PZ b X G Wf (.Call (.Attribute o x apos) [] kws pos) (zmethK mi T ks fn ma mk) := by
  subst hx
  refine ⟨fun pins s σ H ι h ρ Q tk I r sr aft => ?_⟩
  refine PySem.W.methodCall_KW (thn (ho.run pins s σ H ι h ρ _ tk I r sr (aft.bnd (P := rpW X.K G))) fun u s1 ⟨tk1, v1, H1, I1, r1, ι1, h1, w1, n1, p1, a1⟩ => ?_) (meth_tree (es := []) hb (few_of (es := []) rfl hks (by simpa using h29)) hl)
  obtain ⟨c, fs, ad, dx, gs, ev, ea, rf, a2⟩ := ins_after n1.rep p1 a1
  obtain ⟨i, f1, f2, a3⟩ := find_after a2
  obtain ⟨c1, c2, C⟩ := Mt c i f2
  subst ev
  obtain rfl : u = Value.ref ad := r1
  refine getmeth_ok I1 ea c1 c2 (rf.none_of nj f1) ?_
  refine cw_args0 (first := [.ref ad]) C.1 hkw hks tk1 I1 n1.rep (sr.next r n1.toNx0) a3 fun s2 H2 ι2 h2 zs ys qs tk2 I2 n2 r2 p3 a4 => ?_
  exact withTk tk2 (run_callK (u := Value.ref ad) (v := V.ref ad) C hr tkx I2 n2.rep rfl r2 (Rep.next n1.rep n2.toNx0 p1) p3 a4)
end
end Z

namespace Z
open PySem L2
open PyProof.Rows hiding St
def pick {α : Type} (is : List Nat) (l : List α) : List α := is.filterMap fun i => l[i]?
theorem paired_at {α β : Type} {R : α → β → Prop} : ∀ {l : List α} {m : List β} {i : Nat} {x : α}, Paired R l m → l[i]? = some x → ∃ y, m[i]? = some y ∧ R x y
  | _, _, _, _, .nil, e => by simp at e
  | _, _, 0, _, .cons a _, e => by simp at e; subst e; exact ⟨_, rfl, a⟩
  | _, _, i + 1, w, .cons _ b, e => by
    obtain ⟨v, h1, h2⟩ := paired_at (i := i) (x := w) b (by simpa using e)
    exact ⟨v, by simpa using h1, h2⟩
theorem pick_reps {K : PySem.W.Frag} {G : Gt} {ι : Nat → Addr} {h : Hz} {H : Hp} {l : List W} {m : List V} (p : Reps K G ι h H l m) : ∀ is : List Nat, Reps K G ι h H (is.filterMap fun i => l[i]?) (is.filterMap fun i => m[i]?)
  | [] => .nil
  | i :: is => by
    have ih := pick_reps p is
    rw [List.filterMap_cons, List.filterMap_cons]
    cases e : l[i]? with
    | none =>
      have : m[i]? = none := by
        rw [List.getElem?_eq_none_iff] at e ⊢
        rw [← p.length]; exact e
      rw [this]
      exact ih
    | some a =>
      obtain ⟨b, eb, r⟩ := p.get e
      rw [eb]
      exact .cons r ih
theorem pick_pair {α β : Type} {R : α → β → Prop} {l : List α} {m : List β} (p : Paired R l m) : ∀ is : List Nat, Paired R (pick is l) (pick is m)
  | [] => .nil
  | i :: is => by
    have ih := pick_pair p is
    unfold pick at ih ⊢
    rw [List.filterMap_cons, List.filterMap_cons]
    cases e : l[i]? with
    | none =>
      have : m[i]? = none := by
        rw [List.getElem?_eq_none_iff] at e ⊢
        rw [← p.length]; exact e
      rw [this]
      exact ih
    | some a =>
      obtain ⟨b, eb, r⟩ := paired_at p e
      rw [eb]
      exact .cons r ih
theorem pick_len {α : Type} {l : List α} : ∀ {is : List Nat}, (∀ i ∈ is, i < l.length) → (pick is l).length = is.length
  | [], _ => rfl
  | i :: is, h => by
    have ih := pick_len (l := l) (is := is) fun j hj => h j (List.mem_cons_of_mem _ hj)
    unfold pick at ih ⊢
    rw [List.filterMap_cons, List.getElem?_eq_getElem (h i (List.mem_cons_self ..))]
    show _ + 1 = _
    rw [ih]
    rfl
section
variable {X : Cx} {G : Gt} {x qual : Str} {params : Arguments} {body : List Stmt} {scope : Scope} {dvs : List V} {kws : List (Str × V)} {f : Addr} {fd : FuncData} {ps : List Str}
theorem bn_kwx {n : Nat} {ks : List Str} {dws : List W} {is : List Nat} (F : FunD X.K x qual params body scope dvs kws f fd) (hd : dvs ≠ []) (hr : ∀ ι h H, HRep X.K G ι h H → Reps X.K G ι h H dws dvs)
    (hi : is.all (fun i => decide (i < n + dvs.length + ks.length)) = true) (hl : is.length = ps.length)
    (h : ∀ (T : Addr) (kV doc pm : Value) (an : Option Addr) (cdv ct : Value) (us its zs : List Value), us.length = n → its.length = dvs.length → zs.length = ks.length →
      ∃ k, bindArgs (PySem.W.fnOf x qual params body scope (.ref T) kV doc pm an cdv ct) ⟨us, ks.zip zs⟩ = seqItems? (.ref T) >>= k ∧ k (some its.toArray) = pure (ps.zip (pick is (us ++ its ++ zs)))) : BnOk X G fd ps n ks (fun ws qs => pick is (ws ++ dws ++ qs)) := by
  intro s H ι h' us zs vs ys ws qs hK r h1 h2 r1 r2 p1 p2
  obtain ⟨oc, od, dV, kV, doc, pm, an, cdv, ct, osl, rfl, lk, hcd, hD, hKw⟩ := F.ex
  rcases hD with ⟨e, _⟩ | ⟨_, T, o, its, m, rfl, lT, oT, rT⟩
  · exact absurd e hd
  · obtain ⟨k, e1, e2⟩ := h T kV doc pm an cdv ct us its zs h1 rT.length.symm h2
    have pv : Vals (pick is (vs ++ dvs ++ ys)) (pick is (us ++ its ++ zs)) := pick_pair ((r1.append rT).append r2) is
    have pr : Reps X.K G ι h' H (pick is (ws ++ dws ++ qs)) (pick is (vs ++ dvs ++ ys)) := pick_reps ((p1.append (hr ι h' H r)).append p2) is
    refine ⟨pick is (us ++ its ++ zs), pick is (vs ++ dvs ++ ys), BindsTo.of_looks fun M => ?_, pv, pr, ?_⟩
    · rw [e1]
      exact looks_items hK lT oT (.of_pure e2)
    · rw [← hl]
      refine pick_len fun i hi2 => ?_
      have := List.all_eq_true.mp hi i hi2
      simp only [decide_eq_true_eq] at this
      rw [List.length_append, List.length_append, r1.length, r2.length, h1, h2]
      exact this
theorem kwBn_of {ks : List Str} {pa pv : Str} {K : PySem.W.Frag} (F : FunD K x qual params body scope [] kws f fd)
    (h : ∀ (kV doc pm : Value) (an : Option Addr) (cdv ct : Value) (u : Value) (zs : List Value), zs.length = ks.length → bindArgs (PySem.W.fnOf x qual params body scope .none kV doc pm an cdv ct) ⟨[u], ks.zip zs⟩ = (do
      if (ks.zip zs).length > sizeLine + 1 then unsupported "dict:memory"
      let d ← alloc { cls := .type "dict", data := .dict #[] }
      for q in ks.zip zs do nsSet d q.1 q.2
      pure [(pa, u), (pv, .ref d)])) : KwBn fd ks pa pv := by
  obtain ⟨oc, od, dV, kV, doc, pm, an, cdv, ct, osl, rfl, lk, hcd, hD, hKw⟩ := F.ex
  rcases hD with ⟨_, rfl⟩ | ⟨e, _⟩
  · exact fun u zs hz => h kV doc pm an cdv ct u zs hz
  · exact absurd rfl e
end
end Z
namespace Z
open PySem L2
open PyProof.Rows hiding St
section
variable {X : Cx} {G : Gt} {Wf : WX} {b : Bool} {x : Str} {p kp pos apos : Pos} {e o : Expr} {me ma : Ev → M W} {mk : Ev → M (List W)} {k c i : Nat} {fr : Bool} {g : List W → List W → List W} {fn : List W → M W} {ks : List (List Nat)} {ks' : List Str} {kws : List Keyword}
theorem pz_mkDS (ek : ks' = ks.map S) (Mo : MkOk X G k c i 0 ks' g fn) (hr : Room (k + 1) X.A) (tkx : Takes X Wf) (hg : Gl X x) (hm : X.mg x = some (.ref (G.cl c)))
    (he : PZ b X G Wf e me) (hdb : (x == ("__debug__" : Str)) = false) : PZ b X G Wf (.Call (.Name x p) [] [⟨none, e, kp⟩] pos) (zmkD fr c ks g fn me) := by
  subst ek
  exact pz_mkD Mo hr tkx hg hm he hdb
theorem callK_of {fd : FuncData} {pa pv : Str} (ek : ks' = ks.map S) (kp : PySem.W.keepIn X.K (.ref (G.fn i)) = true) (F : FnK X.prog X.w X.K X.mg X.base k (G.fn i) fd pa pv (spZ X.K G 2 fn)) (B : KwBn fd ks' pa pv) (nd : ks.Nodup) (hl : ks.length ≤ 100) : CallKOk X G k i ks fn := by
  subst ek
  exact ⟨kp, fd, pa, pv, F, B, nd, hl⟩
theorem pz_methKS {mi : Nat} {T : List (Nat × Nat)} {fn : Nat → List W → M W} (ek : ks' = ks.map S) (nj : NmInj G) (hx : G.nm mi = x) (Mt : MtKOk X G k mi ks T fn) (hr : Room k X.A) (tkx : Takes X Wf) (ho : PZ b X G Wf o ma)
    (hkw : PZK b X G Wf kws mk) (hks : kwNames kws = some ks') (hb : noSuper o = true) (hl : (apos.endLine == pos.line) = true) (h29 : kws.length < 29) :
    PZ b X G Wf (.Call (.Attribute o x apos) [] kws pos) (zmethK mi T ks fn ma mk) := by
  subst ek
  exact pz_methK nj hx Mt hr tkx ho hkw hks hb hl h29
end
end Z

namespace Z
open PySem L2
open PyProof.Rows hiding St
section
variable {X : Cx} {G : Gt} {Wf : WX} {E : ET} {k n : Nat}
def EqHOk (X : Cx) (G : Gt) (k : Nat) (T : List (Nat × Nat)) (fn : Nat → List W → M W) : Prop :=
  ∀ c i, T.lookup c = some i → PySem.W.findIn X.K (.ref (G.cl c)) "__eq__" = some (some (.ref (G.fn i))) ∧ PySem.W.isFn X.K (.ref (G.fn i)) = true ∧ NeC X.K (G.cl c) ∧ CallOk X G k i 2 [] gId (fn i)
def asBoW (p : Bool) (w : W) : M W := match w with
  | .bl k => ret (.bl (k != p))
  | _ => bad
def zcmpH (p : Bool) (T : List (Nat × Nat)) (fn : Nat → List W → M W) (els : W → W → M W) (x y : W) : M W := fun h => match kind h x with
  | .obj c _ => (match T.lookup c with
    | some i => (match kind h y with
      | .no => .err
      | .obj d _ => if c = d then bnd (noex (zcall 2 0 gId (fn i) [x, y] [])) (asBoW p) h else .err
      | _ => bnd (noex (zcall 2 0 gId (fn i) [x, y] [])) (asBoW p) h)
    | none => els x y h)
  | _ => els x y h
theorem run_eqH {T : List (Nat × Nat)} {fn : Nat → List W → M W} {A : Around} {i : Nat} (C : CallOk X G k i 2 [] gId (fn i)) (hr : Room k A) (fr : A.frames = X.A.frames) (tkx : Takes X Wf) {p : Bool} {pins : List (Addr × Obj)} {s : Shared} {σ : St} {H : Hp} {ι : Nat → Addr} {h : Hz} {Q : VK} {x y : W} {v1 v2 : V} {u1 u2 : Value}
    (I : Inv X pins σ H s) (r : HRep X.K G ι h H) (p1 : Rep X.K G ι h H x v1) (p2 : Rep X.K G ι h H y v2) (r1 : RelV v1 u1) (r2 : RelV v2 u2) (aft : Aft X.K G Wf σ (rpW X.K G) ι h H (bnd (noex (zcall 2 0 gId (fn i) [x, y] [])) (asBoW p) h) Q) :
    wpAny (model X.prog X.w) A (call (.ref (G.fn i)) [u1, u2]) (fun v s' => ∃ k, v = .bool k ∧ EP X pins σ Q (.bool (k != p)) s') X.xe s := by
  have a3 : ∃ q h', zcall 2 0 gId (fn i) [x, y] [] h = .ok (.bl q) h' ∧ Aft X.K G Wf σ (rpW X.K G) ι h H (.ok (.bl (q != p)) h') Q := by
    unfold bnd noex at aft
    cases q : zcall 2 0 gId (fn i) [x, y] [] h with
    | ok u h' =>
      rw [q] at aft
      dsimp only at aft
      cases u with
      | bl b => exact ⟨b, h', rfl, aft⟩
      | _ => exact False.elim aft
    | exc c fs h' => rw [q] at aft; exact False.elim aft
    | err => rw [q] at aft; exact False.elim aft
  obtain ⟨q, h', e, a4⟩ := a3
  have a5 : Aft X.K G Wf σ (rpW X.K G) ι h H (zcall 2 0 gId (fn i) [x, y] [] h) (fun v H' => v = .bl q ∧ Q (.bl (q != p)) H') := by
    rw [e]
    intro ι' H' v n' pv
    cases pv with
    | bl _ => exact ⟨rfl, a4 ι' H' _ n' (.bl _)⟩
  refine wpAny_mono (run_callA (ks := []) (zs := []) C hr fr tkx I r (vs := [v1, v2]) (.cons r1 (.cons r2 .nil)) .nil (.cons p1 (.cons p2 .nil)) .nil a5) (fun u s' hv => ?_) fun _ _ z => z
  obtain ⟨v, H', I', rv, ev, qv⟩ := hv
  subst ev
  obtain rfl : u = Value.bool q := rv
  exact ⟨q, rfl, .bl (q != p), H', I', rfl, qv⟩
theorem op_eqH {T : List (Nat × Nat)} {fn : Nat → List W → M W} {els : W → W → M W} (S : EqHOk X G k T fn) (hr : Room (k + 1) X.A) (tkx : Takes X Wf) (he : OpZ X G Wf (compareOp .Eq) els) : OpZ X G Wf (compareOp .Eq) (zcmpH false T fn els) := by
  intro pins s σ H ι h x y v1 v2 u1 u2 Q I r p1 p2 r1 r2 aft
  unfold zcmpH at aft
  cases kx : kind h x with
  | obj c fs =>
    rw [kx] at aft
    dsimp only at aft
    cases e : T.lookup c with
    | none => rw [e] at aft; exact he pins s σ H ι h x y v1 v2 u1 u2 Q I r p1 p2 r1 r2 aft
    | some i =>
      rw [e] at aft
      dsimp only at aft
      obtain ⟨hs, hf, _, C⟩ := S c i e
      have q1 := kind_at r p1
      have q2 := kind_at r p2
      rw [kx] at q1
      cases q1 with
      | @obj _ _ a dx gs ea rf =>
        have r1' := r1
        cases (show u1 = Value.ref a from r1)
        obtain ⟨mA, O, _⟩ := ins_get I.hok ea
        obtain ⟨od, J, _⟩ := O.look
        obtain ⟨m, hF⟩ := I.fr
        have go : ∀ tb, Aft X.K G Wf σ (rpW X.K G) ι h H (bnd (noex (zcall 2 0 gId (fn i) [x, y] [])) (asBoW false) h) Q → PySem.W.Looks (model X.prog X.w) s.heap (typeOf u2) tb → PySem.W.notFirst X.K (G.cl c) tb = true → wpAny (model X.prog X.w) X.A (richCompare .Eq (.ref a) u2) (EP X pins σ Q) X.xe s := fun tb aft hb hn =>
          PySem.W.cmp_K (op := .Eq) (tb := tb) hr.rm.units0 hF I.ok.mod.kin J hb hn hs hf (wpAny_mono (run_eqH (T := T) C (hr.mono (Nat.le_succ k)) rfl tkx I r p1 p2 r1' r2 aft) (fun v s' hv => by
            obtain ⟨q, rfl, z⟩ := hv
            rw [Bool.bne_false] at z
            exact z) fun _ _ z => z)
        cases ky : kind h y with
        | no => rw [ky] at aft; exact False.elim aft
        | obj d gs' =>
          rw [ky] at q2 aft
          dsimp only at aft
          by_cases hcd : c = d
          · rw [if_pos hcd] at aft
            subst hcd
            cases q2 with
            | @obj _ _ a2 dx2 gs2 ea2 rf2 =>
              cases (show u2 = Value.ref a2 from r2)
              obtain ⟨mA2, O2, _⟩ := ins_get I.hok ea2
              obtain ⟨od2, J2, _⟩ := O2.look
              exact go _ aft J2.type (by simp [PySem.W.notFirst])
          · rw [if_neg hcd] at aft; exact False.elim aft
        | _ =>
          rw [ky] at q2 aft
          obtain ⟨T', l1, l2⟩ := type_looks I q2 r2 (fun _ _ z => nomatch z) (fun z => nomatch z) (G.cl c)
          exact go _ aft l1 l2
  | _ => rw [kx] at aft; exact he pins s σ H ι h x y v1 v2 u1 u2 Q I r p1 p2 r1 r2 aft
theorem op_neH {T : List (Nat × Nat)} {fn : Nat → List W → M W} {els : W → W → M W} (S : EqHOk X G k T fn) (hr : Room (k + 1) X.A) (tkx : Takes X Wf) (he : OpZ X G Wf (compareOp .NotEq) els) : OpZ X G Wf (compareOp .NotEq) (zcmpH true T fn els) := by
  intro pins s σ H ι h x y v1 v2 u1 u2 Q I r p1 p2 r1 r2 aft
  unfold zcmpH at aft
  cases kx : kind h x with
  | obj c fs =>
    rw [kx] at aft
    dsimp only at aft
    cases e : T.lookup c with
    | none => rw [e] at aft; exact he pins s σ H ι h x y v1 v2 u1 u2 Q I r p1 p2 r1 r2 aft
    | some i =>
      rw [e] at aft
      dsimp only at aft
      obtain ⟨hs, hf, nc, C⟩ := S c i e
      have q1 := kind_at r p1
      have q2 := kind_at r p2
      rw [kx] at q1
      cases q1 with
      | @obj _ _ a dx gs ea rf =>
        have r1' := r1
        cases (show u1 = Value.ref a from r1)
        obtain ⟨mA, O, _⟩ := ins_get I.hok ea
        obtain ⟨od, J, _⟩ := O.look
        have go : ∀ tb, Aft X.K G Wf σ (rpW X.K G) ι h H (bnd (noex (zcall 2 0 gId (fn i) [x, y] [])) (asBoW true) h) Q → PySem.W.Looks (model X.prog X.w) s.heap (typeOf u2) tb → PySem.W.notFirst X.K (G.cl c) tb = true → wpAny (model X.prog X.w) X.A (richCompare .NotEq (.ref a) u2) (EP X pins σ Q) X.xe s := fun tb aft hb hn =>
          rne_K hr.rm.units0 (Room.in1 hr).rm.units0 I.kIn J hb hn nc.1 nc.2 hs hf (wpAny_mono (run_eqH (T := T) C (Room.in1 hr) rfl tkx I r p1 p2 r1' r2 aft) (fun v s' hv => by
            obtain ⟨q, rfl, z⟩ := hv
            exact ⟨q, rfl, by rw [Bool.bne_true] at z; exact z⟩) fun _ _ z => z)
        cases ky : kind h y with
        | no => rw [ky] at aft; exact False.elim aft
        | obj d gs' =>
          rw [ky] at q2 aft
          dsimp only at aft
          by_cases hcd : c = d
          · rw [if_pos hcd] at aft
            subst hcd
            cases q2 with
            | @obj _ _ a2 dx2 gs2 ea2 rf2 =>
              cases (show u2 = Value.ref a2 from r2)
              obtain ⟨mA2, O2, _⟩ := ins_get I.hok ea2
              obtain ⟨od2, J2, _⟩ := O2.look
              exact go _ aft J2.type (by simp [PySem.W.notFirst])
          · rw [if_neg hcd] at aft; exact False.elim aft
        | _ =>
          rw [ky] at q2 aft
          obtain ⟨T', l1, l2⟩ := type_looks I q2 r2 (fun _ _ z => nomatch z) (fun z => nomatch z) (G.cl c)
          exact go _ aft l1 l2
  | _ => rw [kx] at aft; exact he pins s σ H ι h x y v1 v2 u1 u2 Q I r p1 p2 r1 r2 aft
end
end Z

namespace Z
open PySem L2
open PyProof.Rows hiding St
def eqAt1 (x y : W) : Option Bool := match x with
  | .non => (match y with | .non => some true | .bl _ => some false | .int _ => some false | .str _ => some false | _ => none)
  | .bl a => (match y with | .non => some false | .bl b => some (a == b) | .int b => some ((if a then 1 else 0) == b) | .str _ => some false | _ => none)
  | .int a => (match y with | .non => some false | .bl b => some (a == (if b then 1 else 0)) | .int b => some (a == b) | .str _ => some false | _ => none)
  | .str a => (match y with | .non => some false | .bl _ => some false | .int _ => some false | .str b => some (eqN a b) | _ => none)
  | _ => none
def hitsW (kb : List (W × W)) : List (W × W) → Option Bool
  | [] => some true
  | p :: r => match getKW p.1 kb with
    | none => some false
    | some y => match eqAt1 p.2 y with
      | none => none
      | some e => match hitsW kb r with
        | none => none
        | some b => some (e && b)
def zdeq (x y : W) : M W := bnd (zdref x) fun q => bnd (zdref y) fun q2 => match hitsW q2.2 q.2 with
  | some b => ret (.bl (q.2.length == q2.2.length && b))
  | none => bad
section
variable {X : Cx} {G : Gt} {Wf : WX} {K : PySem.W.Frag} {ι : Nat → Addr} {h : Hz} {H : Hp} {P : Program} {w : World} {A : Around} {s : Shared}
theorem eqAt1_ok {x y : W} {v1 v2 : V} {u1 u2 : Value} {e : Bool} (q : eqAt1 x y = some e) (p1 : Rep K G ι h H x v1) (p2 : Rep K G ι h H y v2) (r1 : RelV v1 u1) (r2 : RelV v2 u2) : SeqAt.EqP P w A s u1 u2 e := by
  refine SeqAt.EqAt.eqP ?_
  cases p1 with
  | non =>
    cases (show u1 = Value.none from r1)
    cases p2 with
    | non => cases (show u2 = Value.none from r2); cases q; exact SeqAt.EqAt.same _
    | bl b => cases (show u2 = Value.bool b from r2); cases q; exact SeqAt.EqAt.none_bool b
    | int b => obtain ⟨t, rfl⟩ := r2; cases q; exact SeqAt.EqAt.none_int b t
    | str b => obtain ⟨t, rfl⟩ := r2; cases q; exact SeqAt.EqAt.none_str _ t
    | _ => cases q
  | bl a =>
    cases (show u1 = Value.bool a from r1)
    cases p2 with
    | non => cases (show u2 = Value.none from r2); cases q; exact SeqAt.EqAt.bool_none a
    | bl b => cases (show u2 = Value.bool b from r2); cases q; exact SeqAt.EqAt.bool_bool a b
    | int b => obtain ⟨t, rfl⟩ := r2; cases q; exact SeqAt.EqAt.bool_int a b t
    | str b => obtain ⟨t, rfl⟩ := r2; cases q; exact SeqAt.EqAt.bool_str a _ t
    | _ => cases q
  | int a =>
    obtain ⟨t1, rfl⟩ := r1
    cases p2 with
    | non => cases (show u2 = Value.none from r2); cases q; exact SeqAt.EqAt.int_none a t1
    | bl b => cases (show u2 = Value.bool b from r2); cases q; exact SeqAt.EqAt.int_bool a t1 b
    | int b => obtain ⟨t, rfl⟩ := r2; cases q; exact SeqAt.EqAt.int_int a t1 b t
    | str b => obtain ⟨t, rfl⟩ := r2; cases q; exact SeqAt.EqAt.int_str a t1 _ t
    | _ => cases q
  | str a =>
    obtain ⟨t1, rfl⟩ := r1
    cases p2 with
    | non => cases (show u2 = Value.none from r2); cases q; exact SeqAt.EqAt.str_none _ t1
    | bl b => cases (show u2 = Value.bool b from r2); cases q; exact SeqAt.EqAt.str_bool _ t1 b
    | int b => obtain ⟨t, rfl⟩ := r2; cases q; exact SeqAt.EqAt.str_int _ t1 b t
    | str b =>
      obtain ⟨t, rfl⟩ := r2
      have q : some (eqN a b) = some e := q
      cases q
      have := SeqAt.EqAt.str_str (A := A) (s := s) (S a) t1 (S b) t
      have es : (S a == S b) = eqN a b := eqN_str
      rw [← es]
      exact this
    | _ => cases q
  | _ => cases q
theorem hits_ok {zs : List (W × W)} {ts : List (Key × V)} {vb : List (Key × Value)} (pz : Paired (KE1 K G ι h H) zs ts) (rz : KV ts vb) : ∀ {xs : List (W × W)} {ys : List (Key × V)} {va : List (Key × Value)} {b : Bool}, hitsW zs xs = some b → Paired (KE1 K G ι h H) xs ys → KV ys va → PySem.W.KeqHitsP P w A s vb va b
  | [], _, _, b, e, .nil, .nil => by cases e; exact .nil
  | p :: xs, yk :: ys, vk :: vs, b, e, .cons q1 q2, .cons v1 v2 => by
    obtain ⟨kk, rep⟩ := q1
    obtain ⟨ek, rel⟩ := v1
    obtain ⟨key, val⟩ := vk
    have ek : yk.1 = key := ek
    have kk : keyW p.1 = some key := by rw [← ek]; exact kk
    have gk := get_kw (k := p.1) kk pz
    unfold hitsW at e
    cases eg : getKW p.1 zs with
    | none =>
      rw [eg] at e
      cases e
      have n := gk.2 eg
      have rr := rz.val key
      rw [n] at rr
      exact .miss (RelO.none_of rr)
    | some y =>
      rw [eg] at e
      dsimp only at e
      cases ee : eqAt1 p.2 y with
      | none => rw [ee] at e; cases e
      | some e1 =>
        rw [ee] at e
        dsimp only at e
        cases eh : hitsW zs xs with
        | none => rw [eh] at e; cases e
        | some b1 =>
          rw [eh] at e
          cases e
          obtain ⟨v, ev, pv⟩ := gk.1 y eg
          have rr := rz.val key
          rw [ev] at rr
          obtain ⟨u, eu, ru⟩ := RelO.some_of rr
          exact .hit eu (eqAt1_ok ee rep pv rel ru) (hits_ok pz rz eh q2 v2)
theorem op_zdeq {k : Nat} (hr : Room k X.A) : OpZ X G Wf (compareOp .Eq) zdeq := by
  intro pins s σ H ι h x y v1 v2 u1 u2 Q I r p1 p2 r1 r2 aft
  obtain ⟨i, xs, ys, e1, e2, g, ea, pq, a2⟩ := dref_after r p1 aft
  obtain ⟨j, zs, ts, e3, e4, g2, ea2, pq2, a3⟩ := dref_after r p2 a2
  subst e2 e4
  dsimp only at a3
  cases eh : hitsW zs xs with
  | none => rw [eh] at a3; exact False.elim a3
  | some b =>
    rw [eh] at a3
    cases (show u1 = Value.ref (ι i) from r1)
    cases (show u2 = Value.ref (ι j) from r2)
    obtain ⟨z1, hd1, vs1, rel1, dd1⟩ := dk_of I.hok ea
    obtain ⟨z2, hd2, vs2, rel2, dd2⟩ := dk_of I.hok ea2
    have l1 := len_kw pq
    have l2 := len_kw pq2
    have m1 := rel1.length
    have m2 := rel2.length
    refine PySem.W.rcP_dicts (knd := mixKind X.prog X.w) (r := b) hd1 hd2 dd1 dd2 hr.rm.units0 (fun _ => hits_ok pq2 rel2 eh pq rel1) _ _ ?_
    have el : (vs1.length == vs2.length && b) = (xs.length == zs.length && b) := by rw [← m1, ← m2, ← l1, ← l2]
    rw [el]
    exact ⟨.bl _, H, I, rfl, Aft.ret (P := rpW X.K G) a3 r (.bl _)⟩
def cEqO (xs : List Str) (K : PySem.W.Frag) : Bool := xs.all fun x => (decide (PySem.W.findIn K (.ref (He.ga K x)) "__eq__" = some (some (.ref (He.ma K (He.ga K x) "__eq__")))) && PySem.W.isFn K (.ref (He.ma K (He.ga K x) "__eq__"))) &&
  (decide (PySem.W.mroIn K (He.ga K x) (.type "object") = some true) && decide (PySem.W.findIn K (.ref (He.ga K x)) "__ne__" = some (some (.builtin "object.__ne__"))))
theorem cEqO_ok {xs : List Str} {K : PySem.W.Frag} (h : cEqO xs K = true) {x : Str} (hx : x ∈ xs) : PySem.W.findIn K (.ref (He.ga K x)) "__eq__" = some (some (.ref (He.ma K (He.ga K x) "__eq__"))) ∧ PySem.W.isFn K (.ref (He.ma K (He.ga K x) "__eq__")) = true ∧ NeC K (He.ga K x) := by
  have q := He.ba (List.all_eq_true.mp h x hx)
  have q1 := He.ba q.1
  have q2 := He.ba q.2
  exact ⟨of_decide_eq_true q1.1, q1.2, of_decide_eq_true q2.1, of_decide_eq_true q2.2⟩
end
end Z

namespace Z
namespace PK
abbrev gc_MOST_ROWS : W := .int 4
abbrev gc_PARTS : W := .tup [.str [108, 111, 119], .str [104, 105, 103, 104]]
abbrev gc_JOINS : W := .tup [.str [108, 101, 102, 116], .str [114, 105, 103, 104, 116], .str [110, 111, 110, 101]]
abbrev gc_MOST_MODULUS : W := .int 6
abbrev gc_MOST_CHANGES : W := .int 3
abbrev dd_80_3 : List W := [.int 1]
def is_integer (pk : Pk) (F1 F0 : Nat → List W → M W) (k : Nat) : MS := (sseq (sret (zandV (zisi (isiF pk.C [0] []) (zvar 0)) (zun znotV (zisi (isiF pk.C [1] []) (zvar 0))))) snil)
def is_word (pk : Pk) (F1 F0 : Nat → List W → M W) (k : Nat) : MS := (sseq (sret (zandV (zisi (isiF pk.C [2] []) (zvar 0)) (zbin (zin pk.E k) (zvar 0) (zvar 1)))) snil)
def is_between (pk : Pk) (F1 F0 : Nat → List W → M W) (k : Nat) : MS := (sseq (sret (zandV (zfun (zcons (zvar 0) znil) znil (zcall 1 0 gId (F1 60))) (zchain zle zle (fun _ => ret (.int 1)) (zvar 0) (zvar 1)))) snil)
def fault_of (pk : Pk) (F1 F0 : Nat → List W → M W) (k : Nat) : MS := (sseq (sif (znot (ztest (zfun (zcons (zvar 0) (zcons (fun _ => ret gc_MOST_ROWS) znil)) znil (zcall 2 0 gId (F1 62))))) (sseq (sret (fun _ => ret (.str [114, 111, 119, 115]))) snil) snil) (sseq (sif (zor (znot (ztest (zfun (zcons (zvar 1) (zcons (fun _ => ret gc_PARTS) znil)) znil (zcall 2 0 gId (F1 61))))) (znot (ztest (zfun (zcons (zvar 2) (zcons (fun _ => ret gc_JOINS) znil)) znil (zcall 2 0 gId (F1 61)))))) (sseq (sret (zif (ztest (zfun (zcons (zvar 1) (zcons (fun _ => ret gc_PARTS) znil)) znil (zcall 2 0 gId (F1 61)))) (fun _ => ret (.str [106, 111, 105, 110, 115])) (fun _ => ret (.str [107, 101, 101, 112, 115])))) snil) snil) (sseq (sif (znot (ztest (zisi (isiF pk.C [1] []) (zvar 3)))) (sseq (sret (fun _ => ret (.str [97, 103, 97, 105, 110]))) snil) snil) (sseq (sif (zand (ztest (zbin zisnot (zvar 4) (fun _ => ret .non))) (znot (ztest (zfun (zcons (zvar 4) (zcons (fun _ => ret gc_MOST_MODULUS) znil)) znil (zcall 2 0 gId (F1 62)))))) (sseq (sret (fun _ => ret (.str [115, 116, 97, 109, 112, 115]))) snil) snil) (sseq (sif (znot (ztest (zisi (isiF pk.C [1] []) (zvar 5)))) (sseq (sret (fun _ => ret (.str [111, 110]))) snil) snil) (sseq (sret (zif (zor (ztest (zbin zis (zvar 6) (fun _ => ret .non))) (ztest (zfun (zcons (zvar 6) (zcons (fun _ => ret gc_MOST_CHANGES) znil)) znil (zcall 2 0 gId (F1 62))))) (fun _ => ret .non) (fun _ => ret (.str [99, 104, 97, 110, 103, 101, 115])))) snil))))))
def House_init (pk : Pk) (F1 F0 : Nat → List W → M W) (k : Nat) : MS := (sseq (sasg (zfun (zcons (zvar 1) (zcons (zvar 2) (zcons (zvar 3) (zcons (zvar 4) (zcons (zvar 5) (zcons (zvar 6) (zcons (zvar 7) znil))))))) znil (zcall 7 0 gId (F1 63))) (gname 8)) (sseq (sif (ztest (zbin zisnot (zvar 8) (fun _ => ret .non))) (sseq (gK k (sraise 16 2 (zcons (zvar 8) znil))) snil) snil) (sseq (sfld [0] 3 (zvar 0) (zvar 1)) (sseq (sfld [0] 4 (zvar 0) (zvar 2)) (sseq (sfld [0] 5 (zvar 0) (zvar 3)) (sseq (sfld [0] 6 (zvar 0) (zvar 4)) (sseq (sfld [0] 7 (zvar 0) (zvar 5)) (sseq (sfld [0] 8 (zvar 0) (zvar 6)) (sseq (sfld [0] 9 (zvar 0) (zvar 7)) snil)))))))))
def first_leaves (pk : Pk) (F1 F0 : Nat → List W → M W) (k : Nat) : MS := (sseq (sasg (zlc [4] (zitR3 (zcons (fun _ => ret (.int 0)) (zcons (zb (one1 zlen) (zcons (zvar 1) znil)) (zcons (zvar 0) znil)))) (.nm 4) (fun _ => ret true) (zslice (zvar 1) (zpart (zvar 4)) (zpart (zbin zadd (zvar 4) (zvar 0))))) (gname 2)) (sseq (sasg (zlc [4, 5] (zitE (zvar 2)) (.tp [4, 5]) (fun _ => ret true) (zfun (zcons (zvar 4) (zcons (fun _ => ret (.int 0)) (zcons (zif (ztest (zbin zgt (zvar 4) (fun _ => ret (.int 0)))) (zbin zix (zvar 5) (fun _ => ret (.int 0))) (fun _ => ret .non)) (zcons (zb (one1 ztuple) (zcons (zvar 5) znil)) znil)))) znil (zmkW true 1 4 0 gId (F0 70)))) (gname 3)) (sseq (sret (zif (ztest (zbin zgt (zb (one1 zlen) (zcons (zvar 3) znil)) (fun _ => ret (.int 0)))) (zb (one1 ztuple) (zcons (zvar 3) znil)) (ztup (zcons (zfun (zcons (fun _ => ret (.int 0)) (zcons (fun _ => ret (.int 0)) (zcons (fun _ => ret .non) (zcons (ztup znil) znil)))) znil (zmkW true 1 4 0 gId (F0 70))) znil)))) snil)))
def Leaf_init (pk : Pk) (F1 F0 : Nat → List W → M W) (k : Nat) : MS := (sseq (sfld [1] 15 (zvar 0) (zvar 1)) (sseq (sfld [1] 16 (zvar 0) (zvar 2)) (sseq (sfld [1] 17 (zvar 0) (zvar 3)) (sseq (sfld [1] 18 (zvar 0) (zvar 4)) snil))))
def Leaf_shown (pk : Pk) (F1 F0 : Nat → List W → M W) (k : Nat) : MS := (sseq (sret (ztup (zcons (zfld [1] 15 (zvar 0)) (zcons (zfld [1] 16 (zvar 0)) (zcons (zfld [1] 17 (zvar 0)) (zcons (zfld [1] 18 (zvar 0)) znil)))))) snil)
def Leaf_but (pk : Pk) (F1 F0 : Nat → List W → M W) (k : Nat) : MS := (sseq (sret (zfun (zcons (zfld [1] 15 (zvar 0)) (zcons (zbin zadd (zfld [1] 16 (zvar 0)) (fun _ => ret (.int 1))) (zcons (zfld [1] 17 (zvar 0)) (zcons (zvar 1) znil)))) znil (zmkW true 1 4 0 gId (F0 70)))) snil)
def Tree_init (pk : Pk) (F1 F0 : Nat → List W → M W) (k : Nat) : MS := (sseq (sfld [2] 20 (zvar 0) (zvar 1)) (sseq (sfld [2] 21 (zvar 0) (zfun (zcons (zfld [0] 3 (zvar 1)) (zcons (zb (one1 zsortI) (zcons (zlc [3] (zit (zvar 2)) (.nm 3) (fun _ => ret true) (zb (one1 zint1) (zcons (zvar 3) znil))) znil)) znil)) znil (zcall 2 0 gId (F1 69)))) (sseq (sfld [2] 22 (zvar 0) zdnew) snil)))
def Tree_pages (pk : Pk) (F1 F0 : Nat → List W → M W) (k : Nat) : MS := (sseq (sret (zb (one1 ztuple) (zcons (zlc [1] (zit (zfld [2] 21 (zvar 0))) (.nm 1) (fun _ => ret true) (zmeth0 19 0 (pk.mt 19) (fun _ => gId) F1 (zvar 1) znil)) znil))) snil)
def Tree_every (pk : Pk) (F1 F0 : Nat → List W → M W) (k : Nat) : MS := (sseq (sret (zb (one1 ztuple) (zcons (zlc2 [1, 2] [2] (zit (zfld [2] 21 (zvar 0))) (.nm 1) (fun _ => ret true) (zit (zfld [1] 18 (zvar 1))) (.nm 2) (fun _ => ret true) (zvar 2)) znil))) snil)
def Tree_spot_of (pk : Pk) (F1 F0 : Nat → List W → M W) (k : Nat) : MS := (sseq (sif (znot (ztest (zfun (zcons (zvar 1) znil) znil (zcall 1 0 gId (F1 60))))) (sseq (sret (fun _ => ret .non)) snil) snil) (sseq (sasg (zlc [3, 4] (zitE (zfld [2] 21 (zvar 0))) (.tp [3, 4]) (ztest (zbin (zcmpEq pk.E (k + 1)) (zfld [1] 15 (zvar 4)) (zvar 1))) (zvar 3)) (gname 2)) (sseq (sret (zif (ztest (zbin zgt (zb (one1 zlen) (zcons (zvar 2) znil)) (fun _ => ret (.int 0)))) (zbin zix (zvar 2) (fun _ => ret (.int 0))) (fun _ => ret .non))) snil)))
def Tree_spot_for (pk : Pk) (F1 F0 : Nat → List W → M W) (k : Nat) : MS := (sseq (sret (zb (one1 zmaxI) (zcons (zlc [2, 3] (zitE (zfld [2] 21 (zvar 0))) (.tp [2, 3]) (zor (ztest (zbin zis (zfld [1] 17 (zvar 3)) (fun _ => ret .non))) (ztest (zbin zle (zfld [1] 17 (zvar 3)) (zvar 1)))) (zb (one1 zint1) (zcons (zvar 2) znil))) znil))) snil)
def Tree_put (pk : Pk) (F1 F0 : Nat → List W → M W) (k : Nat) : MS := (sseq (sfld [2] 21 (zvar 0) (ztup (zstar (zslice (zfld [2] 21 (zvar 0)) (fun _ => ret none) (zpart (zvar 1))) (zstar (zvar 2) (zstar (zslice (zfld [2] 21 (zvar 0)) (zpart (zbin zadd (zvar 1) (zvar 3))) (fun _ => ret none)) znil))))) snil)
def Tree_come (pk : Pk) (F1 F0 : Nat → List W → M W) (k : Nat) : MS := (sseq (sif (zor (znot (ztest (zfun (zcons (zvar 1) znil) znil (zcall 1 0 gId (F1 60))))) (ztest (zbin (zin pk.E k) (zvar 1) (zprop 24 (pk.pt 24) F0 (zvar 0))))) (sseq (gK k (sraise 21 2 (zcons (fun _ => ret (.str [107, 101, 121])) znil))) snil) snil) (sseq (sasg (zmeth 26 1 0 (pk.mt 26) (fun _ => gId) F1 (zvar 0) (zcons (zvar 1) znil) znil) (gname 2)) (sseq (sasg (zbin zix (zfld [2] 21 (zvar 0)) (zvar 2)) (gname 3)) (sseq (sif (ztest (zbin zge (zb (one1 zlen) (zcons (zfld [1] 18 (zvar 3)) znil)) (zfld [0] 3 (zfld [2] 20 (zvar 0))))) (sseq (gK k (sraise 21 2 (zcons (fun _ => ret (.str [114, 111, 111, 109])) znil))) snil) snil) (sseq (sexpr (zmeth 29 2 0 (pk.mt 29) (fun _ ws _ => ws ++ dd_80_3) F1 (zvar 0) (zcons (zvar 2) (zcons (zlst (zcons (zmeth 12 1 0 (pk.mt 12) (fun _ => gId) F1 (zvar 3) (zcons (zb (one1 ztuple) (zcons (zb (one1 zsortI) (zcons (zlc [4] (zit (ztup (zstar (zfld [1] 18 (zvar 3)) (zcons (zvar 1) znil)))) (.nm 4) (fun _ => ret true) (zb (one1 zint1) (zcons (zvar 4) znil))) znil)) znil)) znil) znil) znil)) znil)) znil)) snil)))))
def Tree_go (pk : Pk) (F1 F0 : Nat → List W → M W) (k : Nat) : MS := (sseq (sif (zor (znot (ztest (zfun (zcons (zvar 1) znil) znil (zcall 1 0 gId (F1 60))))) (ztest (zbin (znotin pk.E k) (zvar 1) (zprop 24 (pk.pt 24) F0 (zvar 0))))) (sseq (gK k (sraise 21 2 (zcons (fun _ => ret (.str [107, 101, 121])) znil))) snil) snil) (sseq (sasg (zmeth 26 1 0 (pk.mt 26) (fun _ => gId) F1 (zvar 0) (zcons (zvar 1) znil) znil) (gname 2)) (sseq (sasg (zbin zix (zfld [2] 21 (zvar 0)) (zvar 2)) (gname 3)) (sseq (sexpr (zmeth 29 2 0 (pk.mt 29) (fun _ ws _ => ws ++ dd_80_3) F1 (zvar 0) (zcons (zvar 2) (zcons (zlst (zcons (zmeth 12 1 0 (pk.mt 12) (fun _ => gId) F1 (zvar 3) (zcons (zb (one1 ztuple) (zcons (zlc [4] (zit (zfld [1] 18 (zvar 3))) (.nm 4) (ztest (zbin (zcmpNe pk.E (k + 1)) (zvar 4) (zvar 1))) (zvar 4)) znil)) znil) znil) znil)) znil)) znil)) snil))))
def Tree_is_within (pk : Pk) (F1 F0 : Nat → List W → M W) (k : Nat) : MS := (sseq (sasg (zfld [1] 17 (zbin zix (zfld [2] 21 (zvar 0)) (zvar 1))) (gname 3)) (sseq (sif (zor (znot (ztest (zfun (zcons (zvar 2) znil) znil (zcall 1 0 gId (F1 60))))) (zand (ztest (zbin zisnot (zvar 3) (fun _ => ret .non))) (ztest (zbin zle (zvar 2) (zvar 3))))) (sseq (sret (fun _ => ret (.bl false))) snil) snil) (sseq (sret (zorV (zbin (zcmpEq pk.E (k + 1)) (zbin zadd (zvar 1) (fun _ => ret (.int 1))) (zb (one1 zlen) (zcons (zfld [2] 21 (zvar 0)) znil))) (zbin zlt (zvar 2) (zfld [1] 17 (zbin zix (zfld [2] 21 (zvar 0)) (zbin zadd (zvar 1) (fun _ => ret (.int 1)))))))) snil)))
def Tree_is_fresh (pk : Pk) (F1 F0 : Nat → List W → M W) (k : Nat) : MS := (sseq (sif (zor (znot (ztest (zfun (zcons (zvar 1) znil) znil (zcall 1 0 gId (F1 60))))) (zor (ztest (zbin zlt (zvar 1) (fun _ => ret (.int 0)))) (ztest (zbin zisnot (zmeth 25 1 0 (pk.mt 25) (fun _ => gId) F1 (zvar 0) (zcons (zvar 1) znil) znil) (fun _ => ret .non))))) (sseq (sret (fun _ => ret (.bl false))) snil) snil) (sseq (sret (zorV (zfld [0] 6 (zfld [2] 20 (zvar 0))) (zbin zdninW (zvar 1) (zfld [2] 22 (zvar 0))))) snil))
def Tree_stamp_for (pk : Pk) (F1 F0 : Nat → List W → M W) (k : Nat) : MS := (sseq (sif (ztest (zbin zdninW (zvar 1) (zfld [2] 22 (zvar 0)))) (sseq (sret (fun _ => ret (.int 0))) snil) snil) (sseq (sret (zif (ztest (zfld [0] 8 (zfld [2] 20 (zvar 0)))) (zbin zadd (zbin zdgetW (zfld [2] 22 (zvar 0)) (zvar 1)) (fun _ => ret (.int 1))) (zvar 2))) snil))
def Tree_split (pk : Pk) (F1 F0 : Nat → List W → M W) (k : Nat) : MS := (sseq (sasg (zmeth 25 1 0 (pk.mt 25) (fun _ => gId) F1 (zvar 0) (zcons (zvar 1) znil) znil) (gname 5)) (sseq (sif (ztest (zbin zis (zvar 5) (fun _ => ret .non))) (sseq (gK k (sraise 21 2 (zcons (fun _ => ret (.str [110, 117, 109, 98, 101, 114])) znil))) snil) snil) (sseq (sif (znot (ztest (zmeth 32 2 0 (pk.mt 32) (fun _ => gId) F1 (zvar 0) (zcons (zvar 5) (zcons (zvar 2) znil)) znil))) (sseq (gK k (sraise 21 2 (zcons (fun _ => ret (.str [107, 101, 121])) znil))) snil) snil) (sseq (sif (znot (ztest (zmeth 33 1 0 (pk.mt 33) (fun _ => gId) F1 (zvar 0) (zcons (zvar 3) znil) znil))) (sseq (gK k (sraise 21 2 (zcons (fun _ => ret (.str [102, 114, 101, 115, 104])) znil))) snil) snil) (sseq (sif (zor (znot (ztest (zfun (zcons (zvar 4) znil) znil (zcall 1 0 gId (F1 60))))) (ztest (zbin zlt (zvar 4) (fun _ => ret (.int 0))))) (sseq (gK k (sraise 21 2 (zcons (fun _ => ret (.str [115, 116, 97, 109, 112])) znil))) snil) snil) (sseq (spar [8, 9] (ztup (zcons (zbin zix (zfld [2] 21 (zvar 0)) (zvar 5)) (zcons (zmeth 34 2 0 (pk.mt 34) (fun _ => gId) F1 (zvar 0) (zcons (zvar 3) (zcons (zvar 4) znil)) znil) znil)))) (sseq (sasg (zb (one1 ztuple) (zcons (zlc [11] (zit (zfld [1] 18 (zvar 8))) (.nm 11) (ztest (zbin zlt (zvar 11) (zvar 2))) (zvar 11)) znil)) (gname 6)) (sseq (sasg (zb (one1 ztuple) (zcons (zlc [11] (zit (zfld [1] 18 (zvar 8))) (.nm 11) (ztest (zbin zge (zvar 11) (zvar 2))) (zvar 11)) znil)) (gname 7)) (sseq (sif (ztest (zbin (zcmpEq pk.E (k + 1)) (zfld [0] 4 (zfld [2] 20 (zvar 0))) (fun _ => ret (.str [108, 111, 119])))) (sseq (sasg (zlst (zcons (zmeth 12 1 0 (pk.mt 12) (fun _ => gId) F1 (zvar 8) (zcons (zvar 6) znil) znil) (zcons (zfun (zcons (zvar 3) (zcons (zvar 9) (zcons (zvar 2) (zcons (zvar 7) znil)))) znil (zmkW true 1 4 0 gId (F0 70))) znil))) (gname 10)) snil) (sseq (sasg (zlst (zcons (zfun (zcons (zvar 3) (zcons (zvar 9) (zcons (zfld [1] 17 (zvar 8)) (zcons (zvar 6) znil)))) znil (zmkW true 1 4 0 gId (F0 70))) (zcons (zfun (zcons (zvar 1) (zcons (zbin zadd (zfld [1] 16 (zvar 8)) (fun _ => ret (.int 1))) (zcons (zvar 2) (zcons (zvar 7) znil)))) znil (zmkW true 1 4 0 gId (F0 70))) znil))) (gname 10)) snil)) (sseq (sexpr (zmeth 29 2 0 (pk.mt 29) (fun _ ws _ => ws ++ dd_80_3) F1 (zvar 0) (zcons (zvar 5) (zcons (zvar 10) znil)) znil)) (sseq (sexpr (zdpop2 (zfld [2] 22 (zvar 0)) (zvar 3) (fun _ => ret .non))) snil)))))))))))
def Tree_join (pk : Pk) (F1 F0 : Nat → List W → M W) (k : Nat) : MS := (sseq (sasg (zmeth 25 1 0 (pk.mt 25) (fun _ => gId) F1 (zvar 0) (zcons (zvar 1) znil) znil) (gname 2)) (sseq (sif (zor (ztest (zbin zis (zvar 2) (fun _ => ret .non))) (zor (ztest (zbin (zcmpEq pk.E (k + 1)) (zbin zadd (zvar 2) (fun _ => ret (.int 1))) (zb (one1 zlen) (zcons (zfld [2] 21 (zvar 0)) znil)))) (ztest (zbin (zcmpEq pk.E (k + 1)) (zfld [0] 5 (zfld [2] 20 (zvar 0))) (fun _ => ret (.str [110, 111, 110, 101])))))) (sseq (gK k (sraise 21 2 (zcons (fun _ => ret (.str [110, 117, 109, 98, 101, 114])) znil))) snil) snil) (sseq (spar [3, 4] (ztup (zcons (zbin zix (zfld [2] 21 (zvar 0)) (zvar 2)) (zcons (zbin zix (zfld [2] 21 (zvar 0)) (zbin zadd (zvar 2) (fun _ => ret (.int 1)))) znil)))) (sseq (sif (ztest (zbin zgt (zbin zadd (zb (one1 zlen) (zcons (zfld [1] 18 (zvar 3)) znil)) (zb (one1 zlen) (zcons (zfld [1] 18 (zvar 4)) znil))) (zfld [0] 3 (zfld [2] 20 (zvar 0))))) (sseq (gK k (sraise 21 2 (zcons (fun _ => ret (.str [114, 111, 111, 109])) znil))) snil) snil) (sseq (sasg (zif (ztest (zbin (zcmpEq pk.E (k + 1)) (zfld [0] 5 (zfld [2] 20 (zvar 0))) (fun _ => ret (.str [108, 101, 102, 116])))) (ztup (zcons (zvar 3) (zcons (zvar 4) znil))) (ztup (zcons (zvar 4) (zcons (zvar 3) znil)))) (gtup 2 (gcons (gname 5) (gcons (gname 6) gnil)))) (sseq (sexpr (zmeth 29 3 0 (pk.mt 29) (fun _ => gId) F1 (zvar 0) (zcons (zvar 2) (zcons (zlst (zcons (zfun (zcons (zfld [1] 15 (zvar 5)) (zcons (zbin zadd (zfld [1] 16 (zvar 5)) (fun _ => ret (.int 1))) (zcons (zfld [1] 17 (zvar 3)) (zcons (zbin zadd (zfld [1] 18 (zvar 3)) (zfld [1] 18 (zvar 4))) znil)))) znil (zmkW true 1 4 0 gId (F0 70))) znil)) (zcons (fun _ => ret (.int 2)) znil))) znil)) (sseq (sasg (zfld [1] 16 (zvar 6)) (gdsub (zfld [2] 22 (zvar 0)) (zfld [1] 15 (zvar 6)))) snil)))))))
def _law_pick (pk : Pk) (F1 F0 : Nat → List W → M W) (k : Nat) : MS := (sseq (sret (zbin zix (zvar 1) (zfun (zcons (zvar 0) (zcons (zb (one1 zlen) (zcons (zvar 1) znil)) znil)) znil (zcall 2 0 gId (F1 249))))) snil)
def _law_put (pk : Pk) (F1 F0 : Nat → List W → M W) (k : Nat) : MS := (sseq (sif (ztest (zbin (zcmpEq pk.E (k + 1)) (zbin zix (zvar 1) (fun _ => ret (.int 0))) (fun _ => ret (.str [99, 111, 109, 101])))) (sseq (sret (zmeth 30 1 0 (pk.mt 30) (fun _ => gId) F1 (zvar 0) (zcons (zbin zix (zvar 1) (fun _ => ret (.int 1))) znil) znil)) snil) snil) (sseq (sif (ztest (zbin (zcmpEq pk.E (k + 1)) (zbin zix (zvar 1) (fun _ => ret (.int 0))) (fun _ => ret (.str [103, 111])))) (sseq (sret (zmeth 31 1 0 (pk.mt 31) (fun _ => gId) F1 (zvar 0) (zcons (zbin zix (zvar 1) (fun _ => ret (.int 1))) znil) znil)) snil) snil) (sseq (sif (ztest (zbin (zcmpEq pk.E (k + 1)) (zbin zix (zvar 1) (fun _ => ret (.int 0))) (fun _ => ret (.str [106, 111, 105, 110])))) (sseq (sret (zmeth 36 1 0 (pk.mt 36) (fun _ => gId) F1 (zvar 0) (zcons (zbin zix (zvar 1) (fun _ => ret (.int 1))) znil) znil)) snil) snil) (sseq (sret (zmeth 35 4 0 (pk.mt 35) (fun _ => gId) F1 (zvar 0) (zcons (zbin zix (zvar 1) (fun _ => ret (.int 1))) (zcons (zbin zix (zvar 1) (fun _ => ret (.int 2))) (zcons (zbin zix (zvar 1) (fun _ => ret (.int 3))) (zcons (zbin zix (zvar 1) (fun _ => ret (.int 4))) znil)))) znil)) snil))))
def _law_tried (pk : Pk) (F1 F0 : Nat → List W → M W) (k : Nat) : MS := (sseq (sasg (fun _ => ret .non) (gname 2)) (sseq (stry (pk.cat 21) 3 (sseq (sasg (zfun (zcons (zvar 0) (zcons (zvar 1) znil)) znil (zcall 2 0 gId (F1 262))) (gname 2)) snil) (sseq (sasg (zxf [16, 21] 3 2) (gname 2)) snil)) (sseq (sret (zvar 2)) snil)))
def _law_house (pk : Pk) (F1 F0 : Nat → List W → M W) (k : Nat) : MS := (sseq (sasg (zdisp [[114, 111, 119, 115], [107, 101, 101, 112, 115]] (zcons (zbin zadd (fun _ => ret (.int 1)) (zfun (zcons (zvar 0) (zcons (fun _ => ret (.int 4)) znil)) znil (zcall 2 0 gId (F1 249)))) (zcons (zfun (zcons (zvar 0) (zcons (zlst (zcons (fun _ => ret (.str [108, 111, 119])) (zcons (fun _ => ret (.str [104, 105, 103, 104])) znil))) znil)) znil (zcall 2 0 gId (F1 240))) znil))) (gname 1)) (sseq (sasg (zfun (zcons (zvar 0) (zcons (zlst (zcons (fun _ => ret (.str [108, 101, 102, 116])) (zcons (fun _ => ret (.str [114, 105, 103, 104, 116])) (zcons (fun _ => ret (.str [108, 101, 102, 116])) (zcons (fun _ => ret (.str [114, 105, 103, 104, 116])) (zcons (fun _ => ret (.str [110, 111, 110, 101])) znil)))))) znil)) znil (zcall 2 0 gId (F1 240))) (gdsub (zvar 1) (fun _ => ret (.str [106, 111, 105, 110, 115])))) (sseq (sasg (zbin zgt (zfun (zcons (zvar 0) (zcons (fun _ => ret (.int 3)) znil)) znil (zcall 2 0 gId (F1 249))) (fun _ => ret (.int 0))) (gdsub (zvar 1) (fun _ => ret (.str [97, 103, 97, 105, 110])))) (sseq (sasg (zfun (zcons (zvar 0) (zcons (zlst (zcons (fun _ => ret .non) (zcons (fun _ => ret .non) (zcons (fun _ => ret (.int 1)) (zcons (fun _ => ret (.int 2)) (zcons (fun _ => ret (.int 3)) (zcons (fun _ => ret (.int 6)) znil))))))) znil)) znil (zcall 2 0 gId (F1 240))) (gdsub (zvar 1) (fun _ => ret (.str [115, 116, 97, 109, 112, 115])))) (sseq (sasg (zbin zgt (zfun (zcons (zvar 0) (zcons (fun _ => ret (.int 3)) znil)) znil (zcall 2 0 gId (F1 249))) (fun _ => ret (.int 0))) (gdsub (zvar 1) (fun _ => ret (.str [111, 110])))) (sseq (sasg (zfun (zcons (zvar 0) (zcons (zlst (zcons (fun _ => ret .non) (zcons (fun _ => ret .non) (zcons (fun _ => ret (.int 1)) (zcons (fun _ => ret (.int 3)) znil))))) znil)) znil (zcall 2 0 gId (F1 240))) (gdsub (zvar 1) (fun _ => ret (.str [99, 104, 97, 110, 103, 101, 115])))) (sseq (sret (zvar 1)) snil)))))))
end PK
end Z

namespace Z
namespace PK

end PK
end Z

namespace Lk07
open PySem L2 Z
open PyProof.Rows hiding St
abbrev pw : PySem.Program := PySem.Challenge.pw_keptslot_k07_houses_made
def top (i : Nat) : Stmt := pw.main.body.getD i (.Pass ⟨0, 0, 0, 0⟩)

abbrev sx_InvalidHouse : Stmt := (clsBd (top 2)).getD 0 (.Pass ⟨0, 0, 0, 0⟩)
theorem scx_InvalidHouse : FnScope ["self", "word"] ["self", "word"] (defScope sx_InvalidHouse) := ⟨rfl, rfl, rfl, by decide +kernel, rfl, by decide +kernel, by decide +kernel⟩
abbrev s_0 : Stmt := top 19
theorem sc_0 : FnScope ["_law_box_here", "_law_modulus", "_law_most", "_law_found"] ["_law_box_here"] (defScope s_0) := ⟨rfl, rfl, rfl, by decide +kernel, rfl, by decide +kernel, by decide +kernel⟩
abbrev s_1 : Stmt := top 20
theorem sc_1 : FnScope ["_law_house"] ["_law_house"] (defScope s_1) := ⟨rfl, rfl, rfl, by decide +kernel, rfl, by decide +kernel, by decide +kernel⟩
abbrev s_2 : Stmt := top 21
theorem sc_2 : FnScope ["_law_some"] ["_law_some"] (defScope s_2) := ⟨rfl, rfl, rfl, by decide +kernel, rfl, by decide +kernel, by decide +kernel⟩
abbrev s_3 : Stmt := top 22
theorem sc_3 : FnScope ["_law_script", "_law_k", "_law_box_here", "_law_turn", "_law_at", "_law_near", "_law_zhouse", "_law_some", "_law_more", "_law_one", "_law_two"] ["_law_script"] (defScope s_3) := ⟨rfl, rfl, rfl, by decide +kernel, rfl, by decide +kernel, by decide +kernel⟩
abbrev s_60 : Stmt := top 4
theorem sc_60 : FnScope ["value"] ["value"] (defScope s_60) := ⟨rfl, rfl, rfl, by decide +kernel, rfl, by decide +kernel, by decide +kernel⟩
abbrev s_61 : Stmt := top 5
theorem sc_61 : FnScope ["value", "some"] ["value", "some"] (defScope s_61) := ⟨rfl, rfl, rfl, by decide +kernel, rfl, by decide +kernel, by decide +kernel⟩
abbrev s_62 : Stmt := top 12
theorem sc_62 : FnScope ["value", "most"] ["value", "most"] (defScope s_62) := ⟨rfl, rfl, rfl, by decide +kernel, rfl, by decide +kernel, by decide +kernel⟩
abbrev s_63 : Stmt := top 13
theorem sc_63 : FnScope ["rows", "keeps", "joins", "again", "stamps", "on", "changes"] ["rows", "keeps", "joins", "again", "stamps", "on", "changes"] (defScope s_63) := ⟨rfl, rfl, rfl, by decide +kernel, rfl, by decide +kernel, by decide +kernel⟩
abbrev s_64 : Stmt := (clsBd (top 14)).getD 0 (.Pass ⟨0, 0, 0, 0⟩)
theorem sc_64 : FnScope ["self", "rows", "keeps", "joins", "again", "stamps", "on", "changes", "fault"] ["self", "rows", "keeps", "joins", "again", "stamps", "on", "changes"] (defScope s_64) := ⟨rfl, rfl, rfl, by decide +kernel, rfl, by decide +kernel, by decide +kernel⟩
abbrev s_65 : Stmt := (clsBd (top 14)).getD 1 (.Pass ⟨0, 0, 0, 0⟩)
theorem sc_65 : FnScope ["self"] ["self"] (defScope s_65) := ⟨rfl, rfl, rfl, by decide +kernel, rfl, by decide +kernel, by decide +kernel⟩
abbrev s_66 : Stmt := (clsBd (top 14)).getD 2 (.Pass ⟨0, 0, 0, 0⟩)
theorem sc_66 : FnScope ["self", "others", "parts"] ["self", "others"] (defScope s_66) := ⟨rfl, rfl, rfl, by decide +kernel, rfl, by decide +kernel, by decide +kernel⟩
abbrev s_67 : Stmt := (clsBd (top 14)).getD 3 (.Pass ⟨0, 0, 0, 0⟩)
theorem sc_67 : FnScope ["self", "other"] ["self", "other"] (defScope s_67) := ⟨rfl, rfl, rfl, by decide +kernel, rfl, by decide +kernel, by decide +kernel⟩
abbrev s_240 : Stmt := top 18
theorem sc_240 : FnScope ["_law_box_here", "_law_items"] ["_law_box_here", "_law_items"] (defScope s_240) := ⟨rfl, rfl, rfl, by decide +kernel, rfl, by decide +kernel, by decide +kernel⟩
abbrev s_241 : Stmt := top 16
theorem sc_241 : FnScope ["_law_script", "_law_k", "_law_own", "_law_cell", "_law_seed"] ["_law_script", "_law_k", "_law_own"] (defScope s_241) := ⟨rfl, rfl, rfl, by decide +kernel, rfl, by decide +kernel, by decide +kernel⟩
abbrev s_242 : Stmt := top 17
theorem sc_242 : FnScope ["_law_box_here", "_law_many", "_law_raw", "_law_wide", "_law_digit"] ["_law_box_here", "_law_many"] (defScope s_242) := ⟨rfl, rfl, rfl, by decide +kernel, rfl, by decide +kernel, by decide +kernel⟩
abbrev allC : List Nat := [0]
abbrev hqT : List (Nat × Nat) := [(0, 67)]
abbrev ET : ET := []
abbrev CLo : List Str := ["House", "Leaf", "Tree", "Row", "Reader", "Place", "Reading", "Search", "Played", "Walk", "Unlike", "Trial", "Desk"]
abbrev CLx : List Str := ["SlotError", "InvalidRow", "InvalidReader", "InvalidHouse", "InvalidStory", "InvalidGoal", "InvalidWords", "InvalidCommand", "Refused", "NoRow"]
abbrev CLn : List Str := CLo ++ CLx
abbrev NMn0 : List Str := ["at", "part", "word", "rows", "keeps", "joins", "again", "stamps", "on", "changes", "__init__", "parts", "but", "__eq__"]
abbrev NMn : List Str := NMn0
abbrev fns0 : List (PySem.W.Frag → Addr) := [fun K => He.ga K "_law_parts", fun K => He.ga K "_law_told", fun K => He.ga K "_law_made", fun K => He.ga K "law", fun _ => 0, fun _ => 0, fun _ => 0, fun _ => 0, fun _ => 0, fun _ => 0, fun _ => 0, fun _ => 0, fun _ => 0, fun _ => 0, fun _ => 0, fun _ => 0, fun _ => 0, fun _ => 0, fun _ => 0, fun _ => 0]
abbrev fns1 : List (PySem.W.Frag → Addr) := [fun _ => 0, fun _ => 0, fun _ => 0, fun _ => 0, fun _ => 0, fun _ => 0, fun _ => 0, fun _ => 0, fun _ => 0, fun _ => 0, fun _ => 0, fun _ => 0, fun _ => 0, fun _ => 0, fun _ => 0, fun _ => 0, fun _ => 0, fun _ => 0, fun _ => 0, fun _ => 0]
abbrev fns2 : List (PySem.W.Frag → Addr) := [fun _ => 0, fun _ => 0, fun _ => 0, fun _ => 0, fun _ => 0, fun _ => 0, fun _ => 0, fun _ => 0, fun _ => 0, fun _ => 0, fun _ => 0, fun _ => 0, fun _ => 0, fun _ => 0, fun _ => 0, fun _ => 0, fun _ => 0, fun _ => 0, fun _ => 0, fun _ => 0]
abbrev fns3 : List (PySem.W.Frag → Addr) := [fun K => He.ga K "is_integer", fun K => He.ga K "is_word", fun K => He.ga K "is_between", fun K => He.ga K "fault_of", fun K => He.ma K (He.ga K "House") "__init__", fun K => He.ma K (He.ga K "House") "parts", fun K => He.ma K (He.ga K "House") "but", fun K => He.ma K (He.ga K "House") "__eq__", fun _ => 0, fun _ => 0, fun _ => 0, fun _ => 0, fun _ => 0, fun _ => 0, fun _ => 0, fun _ => 0, fun _ => 0, fun _ => 0, fun _ => 0, fun _ => 0]
abbrev fns4 : List (PySem.W.Frag → Addr) := [fun _ => 0, fun _ => 0, fun _ => 0, fun _ => 0, fun _ => 0, fun _ => 0, fun _ => 0, fun _ => 0, fun _ => 0, fun _ => 0, fun _ => 0, fun _ => 0, fun _ => 0, fun _ => 0, fun _ => 0, fun _ => 0, fun _ => 0, fun _ => 0, fun _ => 0, fun _ => 0]
abbrev fns5 : List (PySem.W.Frag → Addr) := [fun _ => 0, fun _ => 0, fun _ => 0, fun _ => 0, fun _ => 0, fun _ => 0, fun _ => 0, fun _ => 0, fun _ => 0, fun _ => 0, fun _ => 0, fun _ => 0, fun _ => 0, fun _ => 0, fun _ => 0, fun _ => 0, fun _ => 0, fun _ => 0, fun _ => 0, fun _ => 0]
abbrev fns6 : List (PySem.W.Frag → Addr) := [fun _ => 0, fun _ => 0, fun _ => 0, fun _ => 0, fun _ => 0, fun _ => 0, fun _ => 0, fun _ => 0, fun _ => 0, fun _ => 0, fun _ => 0, fun _ => 0, fun _ => 0, fun _ => 0, fun _ => 0, fun _ => 0, fun _ => 0, fun _ => 0, fun _ => 0, fun _ => 0]
abbrev fns7 : List (PySem.W.Frag → Addr) := [fun _ => 0, fun _ => 0, fun _ => 0, fun _ => 0, fun _ => 0, fun _ => 0, fun _ => 0, fun _ => 0, fun _ => 0, fun _ => 0, fun _ => 0, fun _ => 0, fun _ => 0, fun _ => 0, fun _ => 0, fun _ => 0, fun _ => 0, fun _ => 0, fun _ => 0, fun _ => 0]
abbrev fns8 : List (PySem.W.Frag → Addr) := [fun _ => 0, fun _ => 0, fun _ => 0, fun _ => 0, fun _ => 0, fun _ => 0, fun _ => 0, fun _ => 0, fun _ => 0, fun _ => 0, fun _ => 0, fun _ => 0, fun _ => 0, fun _ => 0, fun _ => 0, fun _ => 0, fun _ => 0, fun _ => 0, fun _ => 0, fun _ => 0]
abbrev fns9 : List (PySem.W.Frag → Addr) := [fun _ => 0, fun _ => 0, fun _ => 0, fun _ => 0, fun _ => 0, fun _ => 0, fun _ => 0, fun _ => 0, fun _ => 0, fun _ => 0, fun _ => 0, fun _ => 0, fun _ => 0, fun _ => 0, fun _ => 0, fun _ => 0, fun _ => 0, fun _ => 0, fun _ => 0, fun _ => 0]
abbrev fns10 : List (PySem.W.Frag → Addr) := [fun _ => 0, fun _ => 0, fun _ => 0, fun _ => 0, fun _ => 0, fun _ => 0, fun _ => 0, fun _ => 0, fun _ => 0, fun _ => 0, fun _ => 0, fun _ => 0, fun _ => 0, fun _ => 0, fun _ => 0, fun _ => 0, fun _ => 0, fun _ => 0, fun _ => 0, fun _ => 0]
abbrev fns11 : List (PySem.W.Frag → Addr) := [fun _ => 0, fun _ => 0, fun _ => 0, fun _ => 0, fun _ => 0, fun _ => 0, fun _ => 0, fun _ => 0, fun _ => 0, fun _ => 0, fun _ => 0, fun _ => 0, fun _ => 0, fun _ => 0, fun _ => 0, fun _ => 0, fun _ => 0, fun _ => 0, fun _ => 0, fun _ => 0]
abbrev fns12 : List (PySem.W.Frag → Addr) := [fun K => He.ga K "_law_pick", fun K => He.ga K "_law_box", fun K => He.ga K "_law_take"]
abbrev fns : List (PySem.W.Frag → Addr) := fns0 ++ (fns1 ++ (fns2 ++ (fns3 ++ (fns4 ++ (fns5 ++ (fns6 ++ (fns7 ++ (fns8 ++ (fns9 ++ (fns10 ++ (fns11 ++ (fns12))))))))))))
abbrev GG (K : PySem.W.Frag) : Gt := gtOf fns CLn NMn K
abbrev GN (K : PySem.W.Frag) (no : Addr → Prop) : Gt := (GG K).wn no
abbrev gc_PARTS : W := .tup [.str [108, 111, 119], .str [104, 105, 103, 104]]
abbrev gc_JOINS : W := .tup [.str [108, 101, 102, 116], .str [114, 105, 103, 104, 116], .str [110, 111, 110, 101]]
abbrev gc_MOST_ROWS : W := .int 4
abbrev gc_MOST_MODULUS : W := .int 6
abbrev gc_MOST_CHANGES : W := .int 3
abbrev dd_64_1 : List W := [.int 2, .str [108, 111, 119], .str [108, 101, 102, 116], .bl true, .non, .bl true, .non]
def m_0 (F1 F0 : Nat → List W → M W) (k : Nat) : MS := (sseq (sasg (zif (ztest (zbin (zcmpEq ET (k + 1)) (zfun (zcons (zvar 0) (zcons (fun _ => ret (.int 3)) znil)) znil (zcall 2 0 gId (F1 242))) (fun _ => ret (.int 0)))) (fun _ => ret .non) (zbin zadd (fun _ => ret (.int 1)) (zfun (zcons (zvar 0) (zcons (fun _ => ret (.int 6)) znil)) znil (zcall 2 0 gId (F1 242))))) (gname 1)) (sseq (sasg (zif (ztest (zbin (zcmpEq ET (k + 1)) (zfun (zcons (zvar 0) (zcons (fun _ => ret (.int 2)) znil)) znil (zcall 2 0 gId (F1 242))) (fun _ => ret (.int 0)))) (fun _ => ret .non) (zbin zadd (fun _ => ret (.int 1)) (zfun (zcons (zvar 0) (zcons (fun _ => ret (.int 3)) znil)) znil (zcall 2 0 gId (F1 242))))) (gname 2)) (sseq (sasg (zlst (zcons (zbin zadd (fun _ => ret (.int 1)) (zfun (zcons (zvar 0) (zcons (fun _ => ret (.int 4)) znil)) znil (zcall 2 0 gId (F1 242)))) (zcons (zfun (zcons (zvar 0) (zcons (zlst (zcons (fun _ => ret (.str [108, 111, 119])) (zcons (fun _ => ret (.str [104, 105, 103, 104])) znil))) znil)) znil (zcall 2 0 gId (F1 240))) znil))) (gname 3)) (sseq (sexpr (zbm false mAppend (zvar 3) (zcons (zfun (zcons (zvar 0) (zcons (zlst (zcons (fun _ => ret (.str [108, 101, 102, 116])) (zcons (fun _ => ret (.str [114, 105, 103, 104, 116])) (zcons (fun _ => ret (.str [110, 111, 110, 101])) znil)))) znil)) znil (zcall 2 0 gId (F1 240))) znil))) (sseq (sret (zbin zadd (zvar 3) (zlst (zcons (zbin (zcmpEq ET (k + 1)) (zfun (zcons (zvar 0) (zcons (fun _ => ret (.int 2)) znil)) znil (zcall 2 0 gId (F1 242))) (fun _ => ret (.int 0))) (zcons (zvar 1) (zcons (zbin (zcmpEq ET (k + 1)) (zfun (zcons (zvar 0) (zcons (fun _ => ret (.int 2)) znil)) znil (zcall 2 0 gId (F1 242))) (fun _ => ret (.int 0))) (zcons (zvar 2) znil))))))) snil)))))
def m_1 (F1 F0 : Nat → List W → M W) (k : Nat) : MS := (sseq (sret (zlst (zcons (zfld [0] 3 (zvar 0)) (zcons (zfld [0] 4 (zvar 0)) (zcons (zfld [0] 5 (zvar 0)) (zcons (zfld [0] 6 (zvar 0)) (zcons (zfld [0] 7 (zvar 0)) (zcons (zfld [0] 8 (zvar 0)) (zcons (zfld [0] 9 (zvar 0)) znil))))))))) snil)
def m_2 (F1 F0 : Nat → List W → M W) (k : Nat) : MS := (sseq (sret (zfun (zcons (zbin zix (zvar 0) (fun _ => ret (.int 0))) (zcons (zbin zix (zvar 0) (fun _ => ret (.int 1))) (zcons (zbin zix (zvar 0) (fun _ => ret (.int 2))) (zcons (zbin zix (zvar 0) (fun _ => ret (.int 3))) (zcons (zbin zix (zvar 0) (fun _ => ret (.int 4))) (zcons (zbin zix (zvar 0) (fun _ => ret (.int 5))) (zcons (zbin zix (zvar 0) (fun _ => ret (.int 6))) znil))))))) znil (zmkW true 0 7 0 gId (F0 64)))) snil)
def m_3 (F1 F0 : Nat → List W → M W) (k : Nat) : MS := (sseq (sfor (zitR (zcons (zb (two2 zmax) (zcons (fun _ => ret (.int 1)) (zcons (zb (two2 zmin) (zcons (fun _ => ret (.int 3)) (zcons (zb (one1 zlen) (zcons (zvar 0) znil)) znil))) znil))) znil)) (gname 1) (sseq (sasg (zfun (zcons (zvar 0) (zcons (zvar 1) (zcons (fun _ => ret (.int 7)) znil))) znil (zcall 3 0 gId (F1 241))) (gname 2)) (sseq (sfor (zitR (zcons (fun _ => ret (.int 5)) znil)) (gname 3) (sseq (spar [7, 8] (ztup (zcons (zfun (zcons (zvar 2) znil) znil (zcall 1 0 gId (F1 0))) (zcons (zfun (zcons (zvar 2) znil) znil (zcall 1 0 gId (F1 0))) znil)))) (sseq (sasg (zfun (zcons (zvar 2) (zcons (fun _ => ret (.int 7)) znil)) znil (zcall 2 0 gId (F1 242))) (gname 4)) (sseq (sasg (zbin zadd (zbin zadd (zslice (zvar 7) (fun _ => ret none) (zpart (zvar 4))) (zslice (zvar 8) (zpart (zvar 4)) (zpart (zbin zadd (zvar 4) (fun _ => ret (.int 1)))))) (zslice (zvar 7) (zpart (zbin zadd (zvar 4) (fun _ => ret (.int 1)))) (fun _ => ret none))) (gname 5)) (sseq (spar [9, 10] (ztup (zcons (zfun (zcons (zvar 7) znil) znil (zcall 1 0 gId (F1 2))) (zcons (zfun (zcons (zvar 5) znil) znil (zcall 1 0 gId (F1 2))) znil)))) (sseq (sif (zor (ztest (zbin (zcmpH true hqT F0 (zcmpNe ET (k + 1))) (zb (one1 zreprA) (zcons (zfun (zcons (zvar 9) znil) znil (zcall 1 0 gId (F1 1))) znil)) (zb (one1 zreprA) (zcons (zvar 7) znil)))) (zor (ztest (zbin (zcmpH true hqT F0 (zcmpNe ET (k + 1))) (zbin (zcmpH false hqT F0 (zcmpEq ET (k + 1))) (zvar 9) (zvar 10)) (zbin (zcmpH false hqT F0 (zcmpEq ET (k + 1))) (zvar 7) (zvar 5)))) (ztest (zbin (zcmpH false hqT F0 (zcmpEq ET (k + 1))) (zvar 9) (zvar 7))))) (sseq (sret (fun _ => ret (.bl false))) snil) snil) (sseq (sasg (zfun0 (zcons (zbin zix (zvar 7) (fun _ => ret (.int 6))) (zcons (zbin zix (zvar 7) (fun _ => ret (.int 5))) (zcons (zbin zix (zvar 7) (fun _ => ret (.int 4))) (zcons (zbin zix (zvar 7) (fun _ => ret (.int 3))) (zcons (zbin zix (zvar 7) (fun _ => ret (.int 2))) znil))))) (zmkW true 0 0 5 (fun ws qs => pick [0, 1, 2, 12, 11, 10, 9, 8] (ws ++ dd_64_1 ++ qs)) (F0 64))) (gname 6)) (sseq (sif (zor (ztest (zbin (zcmpH true hqT F0 (zcmpNe ET (k + 1))) (zmethK 12 [(0, 66)] [[107, 101, 101, 112, 115], [114, 111, 119, 115]] F1 (zvar 6) (zcons (zbin zix (zvar 7) (fun _ => ret (.int 1))) (zcons (zbin zix (zvar 7) (fun _ => ret (.int 0))) znil))) (zvar 9))) (ztest (zbin (zcmpH true hqT F0 (zcmpNe ET (k + 1))) (zmethK 12 [(0, 66)] [] F1 (zvar 9) znil) (zvar 9)))) (sseq (sret (fun _ => ret (.bl false))) snil) snil) (sseq (sasg (zbin zadd (zbin zadd (zbin zadd (zslice (zvar 8) (fun _ => ret none) (zpart (fun _ => ret (.int 1)))) (zslice (zvar 7) (zpart (fun _ => ret (.int 1))) (zpart (fun _ => ret (.int 4))))) (zslice (zvar 8) (zpart (fun _ => ret (.int 4))) (zpart (fun _ => ret (.int 5))))) (zslice (zvar 7) (zpart (fun _ => ret (.int 5))) (fun _ => ret none))) (gname 5)) (sseq (sif (ztest (zbin (zcmpH true hqT F0 (zcmpNe ET (k + 1))) (zmethK 12 [(0, 66)] [[114, 111, 119, 115], [115, 116, 97, 109, 112, 115]] F1 (zvar 9) (zcons (zbin zix (zvar 8) (fun _ => ret (.int 0))) (zcons (zbin zix (zvar 8) (fun _ => ret (.int 4))) znil))) (zfun (zcons (zvar 5) znil) znil (zcall 1 0 gId (F1 2))))) (sseq (sret (fun _ => ret (.bl false))) snil) snil) (sseq (sif (ztest (zbin (zcmpH true hqT F0 (zcmpNe ET (k + 1))) (zfld [0] 5 (zmethK 12 [(0, 66)] [[99, 104, 97, 110, 103, 101, 115], [106, 111, 105, 110, 115], [107, 101, 101, 112, 115]] F1 (zvar 9) (zcons (fun _ => ret .non) (zcons (zbin zix (zvar 8) (fun _ => ret (.int 2))) (zcons (zbin zix (zvar 8) (fun _ => ret (.int 1))) znil))))) (zbin zix (zvar 8) (fun _ => ret (.int 2))))) (sseq (sret (fun _ => ret (.bl false))) snil) snil) (sseq (sif (ztest (zbin (zcmpH true hqT F0 (zcmpNe ET (k + 1))) (zfun (zcons (zvar 9) znil) znil (zcall 1 0 gId (F1 1))) (zvar 7))) (sseq (sret (fun _ => ret (.bl false))) snil) snil) snil)))))))))))) snil))) (sseq (sret (zbin (zcmpH false hqT F0 (zcmpEq ET (k + 1))) (zb (one1 zreprA) (zcons (zfun (zcons (zfun0 znil (zmkW true 0 0 0 (fun ws _ => ws ++ dd_64_1) (F0 64))) znil) znil (zcall 1 0 gId (F1 1))) znil)) (zb (one1 zreprA) (zcons (zlst (zcons (fun _ => ret (.int 2)) (zcons (fun _ => ret (.str [108, 111, 119])) (zcons (fun _ => ret (.str [108, 101, 102, 116])) (zcons (fun _ => ret (.bl true)) (zcons (fun _ => ret .non) (zcons (fun _ => ret (.bl true)) (zcons (fun _ => ret .non) znil)))))))) znil)))) snil))
def m_60 (F1 F0 : Nat → List W → M W) (k : Nat) : MS := (sseq (sret (zandV (zisi (isiF allC [0] []) (zvar 0)) (zun znotV (zisi (isiF allC [1] []) (zvar 0))))) snil)
def m_61 (F1 F0 : Nat → List W → M W) (k : Nat) : MS := (sseq (sret (zandV (zisi (isiF allC [2] []) (zvar 0)) (zbin (zin ET k) (zvar 0) (zvar 1)))) snil)
def m_62 (F1 F0 : Nat → List W → M W) (k : Nat) : MS := (sseq (sret (zandV (zfun (zcons (zvar 0) znil) znil (zcall 1 0 gId (F1 60))) (zchain zle zle (fun _ => ret (.int 1)) (zvar 0) (zvar 1)))) snil)
def m_63 (F1 F0 : Nat → List W → M W) (k : Nat) : MS := (sseq (sif (znot (ztest (zfun (zcons (zvar 0) (zcons (fun _ => ret gc_MOST_ROWS) znil)) znil (zcall 2 0 gId (F1 62))))) (sseq (sret (fun _ => ret (.str [114, 111, 119, 115]))) snil) snil) (sseq (sif (zor (znot (ztest (zfun (zcons (zvar 1) (zcons (fun _ => ret gc_PARTS) znil)) znil (zcall 2 0 gId (F1 61))))) (znot (ztest (zfun (zcons (zvar 2) (zcons (fun _ => ret gc_JOINS) znil)) znil (zcall 2 0 gId (F1 61)))))) (sseq (sret (zif (ztest (zfun (zcons (zvar 1) (zcons (fun _ => ret gc_PARTS) znil)) znil (zcall 2 0 gId (F1 61)))) (fun _ => ret (.str [106, 111, 105, 110, 115])) (fun _ => ret (.str [107, 101, 101, 112, 115])))) snil) snil) (sseq (sif (znot (ztest (zisi (isiF allC [1] []) (zvar 3)))) (sseq (sret (fun _ => ret (.str [97, 103, 97, 105, 110]))) snil) snil) (sseq (sif (zand (ztest (zbin zisnot (zvar 4) (fun _ => ret .non))) (znot (ztest (zfun (zcons (zvar 4) (zcons (fun _ => ret gc_MOST_MODULUS) znil)) znil (zcall 2 0 gId (F1 62)))))) (sseq (sret (fun _ => ret (.str [115, 116, 97, 109, 112, 115]))) snil) snil) (sseq (sif (znot (ztest (zisi (isiF allC [1] []) (zvar 5)))) (sseq (sret (fun _ => ret (.str [111, 110]))) snil) snil) (sseq (sret (zif (zor (ztest (zbin zis (zvar 6) (fun _ => ret .non))) (ztest (zfun (zcons (zvar 6) (zcons (fun _ => ret gc_MOST_CHANGES) znil)) znil (zcall 2 0 gId (F1 62))))) (fun _ => ret .non) (fun _ => ret (.str [99, 104, 97, 110, 103, 101, 115])))) snil))))))
def m_64 (F1 F0 : Nat → List W → M W) (k : Nat) : MS := (sseq (sasg (zfun (zcons (zvar 1) (zcons (zvar 2) (zcons (zvar 3) (zcons (zvar 4) (zcons (zvar 5) (zcons (zvar 6) (zcons (zvar 7) znil))))))) znil (zcall 7 0 gId (F1 63))) (gname 8)) (sseq (sif (ztest (zbin zisnot (zvar 8) (fun _ => ret .non))) (sseq (gK k (sraise 16 2 (zcons (zvar 8) znil))) snil) snil) (sseq (sfld [0] 3 (zvar 0) (zvar 1)) (sseq (sfld [0] 4 (zvar 0) (zvar 2)) (sseq (sfld [0] 5 (zvar 0) (zvar 3)) (sseq (sfld [0] 6 (zvar 0) (zvar 4)) (sseq (sfld [0] 7 (zvar 0) (zvar 5)) (sseq (sfld [0] 8 (zvar 0) (zvar 6)) (sseq (sfld [0] 9 (zvar 0) (zvar 7)) snil)))))))))
def m_65 (F1 F0 : Nat → List W → M W) (k : Nat) : MS := (sseq (sret (zdisp [[114, 111, 119, 115], [107, 101, 101, 112, 115], [106, 111, 105, 110, 115], [97, 103, 97, 105, 110], [115, 116, 97, 109, 112, 115], [111, 110], [99, 104, 97, 110, 103, 101, 115]] (zcons (zfld [0] 3 (zvar 0)) (zcons (zfld [0] 4 (zvar 0)) (zcons (zfld [0] 5 (zvar 0)) (zcons (zfld [0] 6 (zvar 0)) (zcons (zfld [0] 7 (zvar 0)) (zcons (zfld [0] 8 (zvar 0)) (zcons (zfld [0] 9 (zvar 0)) znil))))))))) snil)
def m_66 (F1 F0 : Nat → List W → M W) (k : Nat) : MS := (sseq (sasg (zdstar2 (zmeth0 11 0 [(0, 65)] (fun _ => gId) F1 (zvar 0) znil) (zvar 1)) (gname 2)) (sseq (sret (zmkD true 0 [[114, 111, 119, 115], [107, 101, 101, 112, 115], [106, 111, 105, 110, 115], [97, 103, 97, 105, 110], [115, 116, 97, 109, 112, 115], [111, 110], [99, 104, 97, 110, 103, 101, 115]] (fun ws qs => pick [0, 8, 9, 10, 11, 12, 13, 14] (ws ++ dd_64_1 ++ qs)) (F0 64) (zvar 2))) snil))
def m_67 (F1 F0 : Nat → List W → M W) (k : Nat) : MS := (sseq (sret (zandV (zisi (isiF allC [] [0]) (zvar 1)) (zbin zdeq (zmeth0 11 0 [(0, 65)] (fun _ => gId) F1 (zvar 0) znil) (zmeth0 11 0 [(0, 65)] (fun _ => gId) F1 (zvar 1) znil)))) snil)
def m_240 (F1 F0 : Nat → List W → M W) (k : Nat) : MS := (sseq (sret (zbin zix (zvar 1) (zfun (zcons (zvar 0) (zcons (zb (one1 zlen) (zcons (zvar 1) znil)) znil)) znil (zcall 2 0 gId (F1 242))))) snil)
def m_241 (F1 F0 : Nat → List W → M W) (k : Nat) : MS := (sseq (sasg (zbin zadd (zbin zadd (zbin zmulA (fun _ => ret (.int 7727)) (zvar 1)) (zbin zmulA (fun _ => ret (.int 104729)) (zvar 2))) (fun _ => ret (.int 43))) (gname 3)) (sseq (sif (ztest (zbin zlt (zvar 1) (zb (one1 zlen) (zcons (zvar 0) znil)))) (sseq (sasg (zb (one1 zabs) (zcons (zbin zix (zvar 0) (zvar 1)) znil)) (gname 3)) snil) (sseq (sif (ztest (zbin zgt (zb (one1 zlen) (zcons (zvar 0) znil)) (fun _ => ret (.int 0)))) (sseq (sasg (zbin zadd (zvar 3) (zbin zmulA (zbin zmod (zb (one1 zint1) (zcons (zb (one1 zabs) (zcons (zbin zix (zvar 0) (zbin zmod (zb (one1 zint1) (zcons (zvar 1) znil)) (zb (one1 zlen) (zcons (zvar 0) znil)))) znil)) znil)) (fun _ => ret (.int 2147483629))) (fun _ => ret (.int 69623)))) (gname 3)) snil) snil) snil)) (sseq (sasg (zbin zadd (zbin zmod (zb (one1 zint1) (zcons (zbin zadd (zbin zmulA (zbin zmod (zb (one1 zint1) (zcons (zvar 3) znil)) (fun _ => ret (.int 2147483629))) (fun _ => ret (.int 48271))) (zbin zmulA (fun _ => ret (.int 40692)) (zbin zadd (zvar 1) (zbin zmulA (fun _ => ret (.int 11)) (zvar 2))))) znil)) (fun _ => ret (.int 2147483629))) (fun _ => ret (.int 1))) (gname 4)) (sseq (sret (zlst (zcons (zbin zix (zlst (zcons (fun _ => ret (.int 0)) (zcons (zvar 3) znil))) (zb (one1 zint1) (zcons (zbin zge (zvar 3) (zbin zpow (fun _ => ret (.int 10)) (fun _ => ret (.int 18)))) znil))) (zcons (zvar 4) (zcons (fun _ => ret (.int 0)) znil))))) snil))))
def m_242 (F1 F0 : Nat → List W → M W) (k : Nat) : MS := (sseq (sif (ztest (zbin zgt (zbin zix (zvar 0) (fun _ => ret (.int 0))) (fun _ => ret (.int 0)))) (sseq (sasg (zbin zmod (zb (one1 zint1) (zcons (zbin zix (zvar 0) (fun _ => ret (.int 0))) znil)) (zvar 1)) (gname 4)) (sseq (sasg (zbin zfdiv (zbin zix (zvar 0) (fun _ => ret (.int 0))) (zvar 1)) (gsub (zvar 0) (fun _ => ret (.int 0)))) (sseq (sret (zvar 4)) snil))) snil) (sseq (sasg (zbin zadd (zbin zix (zvar 0) (fun _ => ret (.int 2))) (fun _ => ret (.int 1))) (gsub (zvar 0) (fun _ => ret (.int 2)))) (sseq (sasg (zbin zmod (zb (one1 zint1) (zcons (zbin zmulA (zbin zadd (zbin zix (zvar 0) (fun _ => ret (.int 1))) (zbin zmulA (fun _ => ret (.int 104729)) (zbin zix (zvar 0) (fun _ => ret (.int 2))))) (fun _ => ret (.int 69623))) znil)) (fun _ => ret (.int 2147483647))) (gname 2)) (sseq (sasg (zbin zadd (zbin zmod (zb (one1 zint1) (zcons (zbin zadd (zbin zmulA (zvar 2) (fun _ => ret (.int 48271))) (fun _ => ret (.int 30103))) znil)) (fun _ => ret (.int 2147483629))) (fun _ => ret (.int 1))) (gsub (zvar 0) (fun _ => ret (.int 1)))) (sseq (sif (ztest (zbin zlt (zvar 1) (zbin zpow (fun _ => ret (.int 2)) (fun _ => ret (.int 40))))) (sseq (sret (zbin zmod (zb (one1 zint1) (zcons (zbin zfdiv (zbin zadd (zbin zmulA (zvar 2) (fun _ => ret (.int 2147483647))) (zbin zix (zvar 0) (fun _ => ret (.int 1)))) (fun _ => ret (.int 8191))) znil)) (zvar 1))) snil) snil) (sseq (sasg (zbin zmulA (zbin zadd (zbin zmulA (zvar 2) (fun _ => ret (.int 2147483647))) (zbin zix (zvar 0) (fun _ => ret (.int 1)))) (zbin zpow (fun _ => ret (.int 2147483629)) (fun _ => ret (.int 3)))) (gname 3)) (sseq (sret (zbin zmod (zb (one1 zint1) (zcons (zbin zadd (zbin zadd (zvar 3) (zbin zmulA (zbin zpow (zbin zix (zvar 0) (fun _ => ret (.int 1))) (fun _ => ret (.int 3))) (fun _ => ret (.int 8191)))) (zvar 2)) znil)) (zvar 1))) snil)))))))
def body1 (i : Nat) : List W → M W := match i with
  | _ => fun _ => bad
def body_0 (i : Nat) (F1 F0 : Nat → List W → M W) (k : Nat) : List W → M W := match i with
  | 0 => runZ 4 (m_0 F1 F0 k)
  | 1 => runZ 1 (m_1 F1 F0 k)
  | 2 => runZ 1 (m_2 F1 F0 k)
  | 3 => runZ 11 (m_3 F1 F0 k)
  | 60 => runZ 1 (m_60 F1 F0 k)
  | 61 => runZ 2 (m_61 F1 F0 k)
  | 62 => runZ 2 (m_62 F1 F0 k)
  | 63 => runZ 7 (m_63 F1 F0 k)
  | 64 => runZ 9 (m_64 F1 F0 k)
  | 65 => runZ 1 (m_65 F1 F0 k)
  | 66 => runZ 3 (m_66 F1 F0 k)
  | 67 => runZ 2 (m_67 F1 F0 k)
  | 240 => runZ 2 (m_240 F1 F0 k)
  | 241 => runZ 5 (m_241 F1 F0 k)
  | 242 => runZ 5 (m_242 F1 F0 k)
  | _ => fun _ => bad
def body (i : Nat) (F1 F0 : Nat → List W → M W) (k : Nat) : List W → M W := body_0 i F1 F0 k
def fnT : Nat → Nat → List W → M W
  | 0 => fun _ _ => bad
  | 1 => body1
  | k + 2 => fun i => body i (fnT (k + 1)) (fnT k) k

abbrev pk : Pk := ⟨allC, ET, fun i => match i with
  | 10 => [(0, 64)]
  | 11 => [(0, 65)]
  | 12 => [(0, 66)]
  | 13 => [(0, 67)]
  | _ => [], fun i => match i with
  | _ => [], fun i => match i with
  | _ => fun _ => none⟩
end Lk07
namespace Z
namespace PK

end PK
end Z

namespace Z
def Ok {α : Type} (r : R α) (Q : α → Hz → Prop) : Prop := match r with
  | .ok a h => Q a h
  | _ => False
def OkS (r : RS) (Q : Fl → Ev → Hz → Prop) : Prop := match r with
  | .ok f ρ h => Q f ρ h
  | _ => False
section
variable {α β : Type}
theorem Ok.ex {r : R α} {Q : α → Hz → Prop} (h : Ok r Q) : ∃ a h', r = .ok a h' ∧ Q a h' := by
  cases r with
  | ok a h' => exact ⟨a, h', rfl, h⟩
  | exc c fs h' => exact False.elim h
  | err => exact False.elim h
theorem Ok.imp {r : R α} {P Q : α → Hz → Prop} (a : Ok r P) (f : ∀ x h, P x h → Q x h) : Ok r Q := by
  cases r with
  | ok x h' => exact f _ _ a
  | exc c fs h' => exact False.elim a
  | err => exact False.elim a
theorem OkS.imp {r : RS} {P Q : Fl → Ev → Hz → Prop} (a : OkS r P) (f : ∀ x ρ h, P x ρ h → Q x ρ h) : OkS r Q := by
  cases r with
  | ok x ρ' h' => exact f _ _ _ a
  | exc c fs ρ' h' => exact False.elim a
  | err => exact False.elim a
theorem ok_bnd {m : M α} {k : α → M β} {h : Hz} {Q : β → Hz → Prop} : Ok (bnd m k h) Q = Ok (m h) fun a h' => Ok (k a h') Q := by
  unfold bnd
  cases m h <;> rfl
theorem ok_ret {a : α} {h : Hz} {Q : α → Hz → Prop} : Ok (ret a h) Q = Q a h := propext ⟨fun z => z, fun z => z⟩
theorem ok_ok {a : α} {h : Hz} {Q : α → Hz → Prop} : Ok (.ok a h) Q = Q a h := propext ⟨fun z => z, fun z => z⟩
theorem ok_noex {m : M α} {h : Hz} {Q : α → Hz → Prop} : Ok (noex m h) Q = Ok (m h) Q := by
  unfold noex
  cases m h <;> rfl
theorem ok_new {c : Cell} {h : Hz} {Q : W → Hz → Prop} : Ok (new c h) Q = Q (.ref h.n) (h.push c) := propext ⟨fun z => z, fun z => z⟩
theorem ok_ite {p : Prop} [Decidable p] {x y : M α} {h : Hz} {Q : α → Hz → Prop} : Ok ((if p then x else y) h) Q = if p then Ok (x h) Q else Ok (y h) Q := by
  by_cases e : p
  · rw [if_pos e, if_pos e]
  · rw [if_neg e, if_neg e]
theorem ok_ite2 {p : Prop} [Decidable p] {x y : R α} {Q : α → Hz → Prop} : Ok (if p then x else y) Q = if p then Ok x Q else Ok y Q := by
  by_cases e : p
  · rw [if_pos e, if_pos e]
  · rw [if_neg e, if_neg e]
theorem oks_ite {p : Prop} [Decidable p] {x y : RS} {Q : Fl → Ev → Hz → Prop} : OkS (if p then x else y) Q = if p then OkS x Q else OkS y Q := by
  by_cases e : p
  · rw [if_pos e, if_pos e]
  · rw [if_neg e, if_neg e]
theorem oks_bnd {m : M α} {ρ : Ev} {k : α → Hz → RS} {h : Hz} {Q : Fl → Ev → Hz → Prop} : OkS (sbnd m ρ k h) Q = Ok (m h) fun a h' => OkS (k a h') Q := by
  unfold sbnd
  cases m h <;> rfl
end
def nxt (k : MS) (Q : Fl → Ev → Hz → Prop) : Fl → Ev → Hz → Prop := fun f ρ h => match f with
  | .next => OkS (k ρ h) Q
  | f => Q f ρ h
section
variable {m k : MS} {ρ : Ev} {h : Hz} {Q : Fl → Ev → Hz → Prop}
theorem oks_seq : OkS (sseq m k ρ h) Q = OkS (m ρ h) (nxt k Q) := by
  unfold sseq
  cases m ρ h with
  | ok f ρ' h' => cases f <;> rfl
  | exc c fs ρ' h' => rfl
  | err => rfl
theorem nxt_next : nxt k Q .next ρ h = OkS (k ρ h) Q := propext ⟨fun z => z, fun z => z⟩
theorem nxt_ret {w : W} : nxt k Q (.ret w) ρ h = Q (.ret w) ρ h := propext ⟨fun z => z, fun z => z⟩
theorem oks_nil : OkS (snil ρ h) Q = Q .next ρ h := propext ⟨fun z => z, fun z => z⟩
theorem oks_ok {f : Fl} : OkS (.ok f ρ h) Q = Q f ρ h := propext ⟨fun z => z, fun z => z⟩
theorem oks_name {i : Nat} {w : W} : OkS (gname i w ρ h) Q = Q .next (ρ.set i (some w)) h := propext ⟨fun z => z, fun z => z⟩
theorem seq_cut {P : Ev → Hz → Prop} (a : OkS (m ρ h) fun f ρ' h' => f = .next ∧ P ρ' h') (b : ∀ ρ' h', P ρ' h' → OkS (k ρ' h') Q) : OkS (sseq m k ρ h) Q := by
  rw [oks_seq]
  refine a.imp fun f ρ' h' ⟨e, p⟩ => ?_
  subst e
  exact b _ _ p
theorem ok_end {r : RS} {Q : W → Hz → Prop} (a : OkS r fun f _ h => match f with | .ret w => Q w h | .next => Q .non h | _ => False) : Ok (endZ r) Q := by
  cases r with
  | ok f ρ' h' =>
    cases f with
    | next => exact a
    | ret w => exact a
    | brk => exact False.elim a
    | cnt => exact False.elim a
  | exc c fs ρ' h' => exact False.elim a
  | err => exact False.elim a
theorem seq_snil : OkS (sseq m snil ρ h) Q = OkS (m ρ h) Q := by
  rw [oks_seq]
  cases m ρ h with
  | ok f ρ' h' => cases f <;> rfl
  | exc c fs ρ' h' => rfl
  | err => rfl
end
structure Gro (h h' : Hz) : Prop where
  same : ∀ j, j < h.n → h'.get j = h.get j
  size : h.n ≤ h'.n
theorem Gro.refl (h : Hz) : Gro h h := ⟨fun _ _ => rfl, Nat.le_refl _⟩
theorem Gro.trans {h h1 h2 : Hz} (a : Gro h h1) (b : Gro h1 h2) : Gro h h2 := ⟨fun j hj => (b.same j (Nat.lt_of_lt_of_le hj a.size)).trans (a.same j hj), Nat.le_trans a.size b.size⟩
theorem Gro.push (h : Hz) (c : Cell) : Gro h (h.push c) := ⟨fun j hj => by rw [Hz.get_push, if_neg (Nat.ne_of_lt hj)], Nat.le_succ _⟩
theorem Gro.get {h h' : Hz} (a : Gro h h') {j : Nat} {c : Cell} (e : h.get j = some c) : h'.get j = some c := (a.same j (Hz.get_lt e)).trans e
theorem Gro.put {h h' : Hz} (a : Gro h h') {j : Nat} {c : Cell} (hj : h.n ≤ j) : Gro h (h'.put j c) := by
  refine ⟨fun i hi => ?_, by rw [Hz.put_n]; exact a.size⟩
  by_cases p : j < h'.n
  · rw [Hz.get_put h' j c i p, if_neg (by omega)]
    exact a.same i hi
  · have e : h'.put j c = h' := by unfold Hz.put; rw [dif_neg p]
    rw [e]
    exact a.same i hi
structure But (b : Nat) (h h' : Hz) : Prop where
  same : ∀ j, j ≠ b → h'.get j = h.get j
  size : h'.n = h.n
theorem But.refl (b : Nat) (h : Hz) : But b h h := ⟨fun _ _ => rfl, rfl⟩
theorem But.put {b : Nat} {h h' : Hz} {c d : Cell} (n : But b h h') (e : h'.get b = some d) : But b h (h'.put b c) := ⟨fun j q => by rw [Hz.get_put_ne e q]; exact n.same j q, by rw [Hz.put_n]; exact n.size⟩
def Box (h : Hz) (b : Nat) : Prop := ∃ a s t : Int, h.get b = some (.lst [.int a, .int s, .int t])
theorem zix_ref {h : Hz} {b : Nat} {i : Int} : zix (.ref b) (.int i) h = (match h.get b with
    | some (.lst xs) => (match L2.atI xs i with | some w => .ok w h | none => .err)
    | _ => .err) := by
  unfold zix
  simp only [bnd, zseq]
  cases e : h.get b with
  | none => rfl
  | some c =>
    cases c with
    | lst xs => dsimp only; cases L2.atI xs i <;> rfl
    | _ => rfl
theorem zset_ref {h : Hz} {b : Nat} {i : Int} {w : W} : zsetL (.ref b) (.int i) w h = (match h.get b with
    | some (.lst xs) => (match L2.ixN xs.length i with | some j => .ok .non (h.put b (.lst (xs.set j w))) | none => .err)
    | _ => .err) := by
  unfold zsetL
  simp only [bnd, zlref]
  cases e : h.get b with
  | none => rfl
  | some c =>
    cases c with
    | lst xs => dsimp only; cases L2.ixN xs.length i <;> rfl
    | _ => rfl
theorem get_put1 {h : Hz} {b : Nat} {c d : Cell} (e : h.get b = some d) : (h.put b c).get b = some c := Hz.get_put_self e
theorem get_put2 {h : Hz} {b : Nat} {c c2 d : Cell} (e : h.get b = some d) : ((h.put b c).put b c2).get b = some c2 := Hz.get_put_self (Hz.get_put_self e)
theorem at3_0 (x y z : W) : L2.atI [x, y, z] 0 = some x := rfl
theorem at3_1 (x y z : W) : L2.atI [x, y, z] 1 = some y := rfl
theorem at3_2 (x y z : W) : L2.atI [x, y, z] 2 = some z := rfl
theorem ix3_0 : L2.ixN 3 0 = some 0 := rfl
theorem ix3_1 : L2.ixN 3 1 = some 1 := rfl
theorem ix3_2 : L2.ixN 3 2 = some 2 := rfl
theorem at2_0 (x y : W) : L2.atI [x, y] 0 = some x := rfl
theorem at2_1 (x y : W) : L2.atI [x, y] 1 = some y := rfl
theorem zlen_ref {h : Hz} {b : Nat} : zlen (.ref b) h = (match h.get b with
    | some (.lst xs) => .ok (.int xs.length) h
    | _ => .err) := by
  unfold zlen
  simp only [bnd, zseq]
  cases e : h.get b with
  | none => rfl
  | some c => cases c <;> rfl
theorem bnd_ok {α β : Type} {m : M α} {f : α → M β} {h h' : Hz} {a : α} (e : m h = .ok a h') : bnd m f h = f a h' := by
  unfold bnd
  rw [e]
theorem atI_nat {α : Type} {xs : List α} {d : Int} (h0 : 0 ≤ d) (h1 : d < xs.length) : ∃ w, L2.atI xs d = some w ∧ w ∈ xs := by
  unfold L2.atI L2.ixN
  rw [if_pos h0, if_pos h1]
  have hl : d.toNat < xs.length := by omega
  exact ⟨xs[d.toNat], by simp [hl], List.getElem_mem hl⟩
theorem zix_fz {h : Hz} {ws : List W} {i : Int} : zix (.fz ws) (.int i) h = (match L2.atI ws i with | some w => .ok w h | none => .err) := by
  unfold zix
  simp only [bnd, zseq, ret]
  cases L2.atI ws i <;> rfl
theorem zlen_fz {h : Hz} {ws : List W} : zlen (.fz ws) h = .ok (.int ws.length) h := rfl
theorem atI_map {ns : List Int} {d : Int} (h0 : 0 ≤ d) (h1 : d < ns.length) : ∃ i, L2.atI (ns.map W.int) d = some (.int i) := by
  obtain ⟨w, e, m⟩ := atI_nat (xs := ns.map W.int) h0 (by rw [List.length_map]; exact h1)
  obtain ⟨i, _, rfl⟩ := List.mem_map.mp m
  exact ⟨i, e⟩
def Rd (C : List Nat) (h : Hz) : W → Prop
  | .non => True
  | .bl _ => True
  | .int _ => True
  | .str s => s.length ≤ 64
  | .tup _ => True
  | .ref n => ∃ xs, h.get n = some (.lst xs)
  | .obj c _ => C.contains c = true
  | _ => False
theorem Rd.gro {C : List Nat} {h h' : Hz} {w : W} (r : Rd C h w) (g : Gro h h') : Rd C h' w := by
  cases w with
  | ref n => obtain ⟨xs, e⟩ := r; exact ⟨xs, g.get e⟩
  | _ => exact r
def isStr : W → Bool
  | .str _ => true
  | _ => false
theorem isi_str {C : List Nat} {h : Hz} {w : W} (r : Rd C h w) : isiF C [2] [] (kind h w) = some (isStr w) := by
  cases w with
  | ref n => obtain ⟨xs, e⟩ := r; show isiF C [2] [] (kindC (h.get n)) = _; rw [e]; rfl
  | obj c fs => show (if C.contains c = true then some (List.any [] fun d => Nat.beq c d) else none) = _; rw [if_pos (show C.contains c = true from r)]; rfl
  | _ => first | exact False.elim r | rfl
theorem zany_str {E : ET} {h : Hz} {n : Nat} {y : List Nat} : ∀ ts : List (List Nat), zany (fun w => zeq E h (n + 1) w (.str y)) (ts.map W.str) = some (ts.any fun t => eqN t y)
  | [] => rfl
  | t :: ts => by
    have e : zeq E h (n + 1) (.str t) (.str y) = some (eqN t y) := rfl
    rw [List.map_cons]
    unfold zany
    rw [e, zany_str ts]
    rfl
theorem zin_tup {E : ET} {h : Hz} {n : Nat} {y : List Nat} {ts : List (List Nat)} : zin E (n + 1) (.str y) (.tup (ts.map W.str)) h = .ok (.bl (ts.any fun t => eqN t y)) h := by
  have : zinK E (n + 1) h (.str y) (.tup (ts.map W.str)) = some (ts.any fun t => eqN t y) := zany_str _
  unfold zin
  rw [this]
def zvW (o : Option W) : M W := match o with
  | some (.exv _ _) => bad
  | some w => ret w
  | none => bad
theorem zvar_eq {i : Nat} {ρ : Ev} : zvar i ρ = zvW (ρ.getD i none) := by
  unfold zvar zvW
  cases ρ.getD i none with
  | none => rfl
  | some w => cases w <;> rfl
theorem Rd.zv {C : List Nat} {h : Hz} {w : W} (r : Rd C h w) : zvW (some w) = ret w := by
  cases w <;> first | rfl | exact False.elim r
theorem zv_non : zvW (some .non) = ret .non := rfl
theorem zv_bl {b : Bool} : zvW (some (.bl b)) = ret (.bl b) := rfl
theorem zv_int {b : Int} : zvW (some (.int b)) = ret (.int b) := rfl
theorem zv_str {b : List Nat} : zvW (some (.str b)) = ret (.str b) := rfl
theorem zv_tup {b : List W} : zvW (some (.tup b)) = ret (.tup b) := rfl
theorem zv_fz {b : List W} : zvW (some (.fz b)) = ret (.fz b) := rfl
theorem zv_ref {b : Nat} : zvW (some (.ref b)) = ret (.ref b) := rfl
theorem zv_obj {c : Nat} {fs : List (Nat × W)} : zvW (some (.obj c fs)) = ret (.obj c fs) := rfl
end Z
local macro_rules | `(tactic| simp?! [$ls,*]) => `(tactic| simp only [Z.ok_bnd, Z.ok_ret, Z.ok_ok, Z.ok_new, Z.ok_ite, Z.ok_ite2, Z.oks_ite, Z.oks_bnd, Z.oks_seq, Z.nxt_next, Z.nxt_ret, Z.oks_nil, Z.oks_ok, Z.oks_name, Z.zbin, Z.zun, Z.zcons, Z.znil, Z.zlst, Z.zlstW, Z.ztup, Z.ztupW, Z.zb, Z.one1, Z.two2, Z.zif, Z.ztest, Z.znot, Z.zor, Z.zand, Z.zandV, Z.zorV, Z.zisi, Z.zvar_eq, Z.zv_non, Z.zv_bl, Z.zv_int, Z.zv_str, Z.zv_tup, Z.zv_fz, Z.zv_ref, Z.zv_obj, Z.sif, Z.sret, Z.sasg, Z.sexpr, Z.zfun, Z.zcall, Z.gId, Z.zasB, Z.zslice, Z.zpart, Z.zasI, List.getD_cons_zero, List.getD_cons_succ, List.set_cons_zero, List.set_cons_succ, if_true, if_false, Bool.not_true, Bool.not_false, Bool.false_eq_true, List.length_cons, List.length_nil, and_self, Nat.zero_add, Nat.reduceAdd, ite_true, ite_false, reduceIte, reduceCtorEq, true_and, and_true, $ls,*])
namespace Z
def its (h : Hz) : W → List W
  | .tup ws => ws
  | .ref n => match h.get n with
    | some (.lst ws) => ws
    | _ => []
  | _ => []
theorem its_gro {C : List Nat} {h h' : Hz} {t : W} (r : Rd C h t) (g : Gro h h') : its h' t = its h t := by
  cases t with
  | ref n =>
    obtain ⟨xs, e⟩ := r
    show (match h'.get n with | some (.lst ws) => ws | _ => []) = (match h.get n with | some (.lst ws) => ws | _ => [])
    rw [e, g.get e]
  | _ => rfl
structure TV (C : List Nat) (h : Hz) (t : W) : Prop where
  rd : Rd C h t
  el : ∀ x ∈ its h t, Rd C h x
  le : (its h t).length ≤ 16
theorem TV.gro {C : List Nat} {h h' : Hz} {t : W} (r : TV C h t) (g : Gro h h') : TV C h' t :=
  ⟨r.rd.gro g, fun x hx => (r.el x (by rw [its_gro r.rd g] at hx; exact hx)).gro g, by rw [its_gro r.rd g]; exact r.le⟩
theorem fldW_ok {cs : List Nat} {h : Hz} {i f c : Nat} {fs : List (Nat × W)} {y : W} (hc : cs.contains c = true) (e : h.get i = some (.ins c fs)) (l : fs.length < 1000) : sfldW cs f (.ref i) y h = .ok () (h.put i (.ins c (putW f y fs))) := by
  show (match h.get i with | some (.ins c fs) => if (cs.contains c && decide (fs.length < 1000)) = true then store i (.ins c (putW f y fs)) h else .err | _ => .err) = _
  rw [e]
  dsimp only
  rw [if_pos (by rw [hc, decide_eq_true l]; rfl)]
  rfl
theorem zfld_ok {cs : List Nat} {h : Hz} {i f c : Nat} {fs : List (Nat × W)} {y : W} (hc : cs.contains c = true) (e : h.get i = some (.ins c fs)) (l : fs.lookup f = some y) : zfldW cs f (.ref i) h = .ok y h := by
  have hc' : c ∈ cs := by simpa using hc
  simp [zfldW, e, l, hc', ofO, ret]
structure GroB (s : Nat) (h h' : Hz) : Prop where
  same : ∀ j, j < h.n → j ≠ s → h'.get j = h.get j
  size : h.n ≤ h'.n
theorem Gro.b {h h' : Hz} (g : Gro h h') (s : Nat) : GroB s h h' := ⟨fun j hj _ => g.same j hj, g.size⟩
theorem GroB.put {s : Nat} {h h' : Hz} {c d : Cell} (g : GroB s h h') (e : h'.get s = some d) : GroB s h (h'.put s c) := ⟨fun j hj n => by rw [Hz.get_put_ne e n]; exact g.same j hj n, by rw [Hz.put_n]; exact g.size⟩
theorem But.b {b : Nat} {h h' : Hz} (g : But b h h') : GroB b h h' := ⟨fun j _ n => g.same j n, Nat.le_of_eq g.size.symm⟩
theorem GroB.refl (b : Nat) (h : Hz) : GroB b h h := ⟨fun _ _ _ => rfl, Nat.le_refl _⟩
theorem GroB.trans {b : Nat} {h h1 h2 : Hz} (a : GroB b h h1) (c : GroB b h1 h2) : GroB b h h2 := ⟨fun j hj n => (c.same j (Nat.lt_of_lt_of_le hj a.size) n).trans (a.same j hj n), Nat.le_trans a.size c.size⟩
theorem GroB.get {b : Nat} {h h' : Hz} (a : GroB b h h') {j : Nat} {c : Cell} (e : h.get j = some c) (n : j ≠ b) : h'.get j = some c := (a.same j (Hz.get_lt e) n).trans e
theorem Box.gro {b : Nat} {h h' : Hz} (x : Box h b) (g : Gro h h') : Box h' b := by obtain ⟨a, s, t, e⟩ := x; exact ⟨a, s, t, g.get e⟩
theorem Box.lt {b : Nat} {h : Hz} (x : Box h b) : b < h.n := by obtain ⟨a, s, t, e⟩ := x; exact Hz.get_lt e
theorem range1 {d : Int} (h0 : 0 ≤ d) (h1 : d < 1073741824) : zrange [.int d] = ret (.fix (rangeW 0 d.toNat)) := by
  have : rgOk 0 d = true := by
    unfold rgOk P62
    simp only [Bool.and_eq_true, decide_eq_true_eq]
    omega
  show (if rgOk 0 d = true then ret (Itz.fix (rangeW 0 d.toNat)) else bad) = _
  rw [if_pos this]
theorem eq_int {E : ET} {n : Nat} {i j : Int} {h : Hz} : zcmpEq E (n + 1) (.int i) (.int j) h = .ok (.bl (decide (i = j))) h := rfl
theorem zseq_ref {h : Hz} {t : Nat} {ws : List W} (e : h.get t = some (.lst ws)) : zseq (.ref t) h = .ok (false, ws) h := by
  show (match h.get t with | some (.lst xs) => R.ok (false, xs) h | _ => .err) = _
  rw [e]
theorem zlref_ref {h : Hz} {t : Nat} {ws : List W} (e : h.get t = some (.lst ws)) : zlref (.ref t) h = .ok (t, ws) h := by
  show (match h.get t with | some (.lst xs) => R.ok (t, xs) h | _ => .err) = _
  rw [e]
theorem zty_ref {h : Hz} {t : Nat} {ws : List W} (e : h.get t = some (.lst ws)) : zty false (.ref t) h = .ok () h := by
  unfold zty
  simp only [bnd, zseq_ref e, ret]
theorem zlen_ref' {h : Hz} {t : Nat} {ws : List W} (e : h.get t = some (.lst ws)) : zlen (.ref t) h = .ok (.int ws.length) h := by rw [zlen_ref, e]
theorem ne_str {E : ET} {n : Nat} {s : List Nat} {h : Hz} : zcmpNe E (n + 1) (.str s) (.str s) h = .ok (.bl false) h := by
  have : zcmpNe E (n + 1) (.str s) (.str s) h = .ok (.bl (!(eqN s s))) h := rfl
  rw [this, eqN_eq]
  simp
theorem for_fix {mi : Ev → M Itz} {g : W → MS} {m : MS} {ρ : Ev} {h h' : Hz} {ws : List W} (e : mi ρ h = .ok (.fix ws) h') : sfor mi g m ρ h = sloopF g m ws ρ h' := by
  unfold sfor sbnd
  rw [e]
  rfl
theorem rangeW_mem {n : Nat} : ∀ {lo : Int} {w : W}, 0 ≤ lo → w ∈ rangeW lo n → ∃ kk : Nat, w = .int kk := by
  induction n with
  | zero => intro lo w h0 h; exact absurd h List.not_mem_nil
  | succ n ih =>
    intro lo w h0 h
    rcases List.mem_cons.mp h with e | e
    · obtain ⟨m, rfl⟩ := Int.eq_ofNat_of_zero_le h0
      exact ⟨m, e⟩
    · exact ih (by omega) e
theorem lim_ok {n : Nat} (h : Nat.ble n 16777216 = true) : (n ≤ LIM) = True := eq_true (Nat.le_of_ble_eq_true h)
theorem lim1 : (1 ≤ LIM) = True := lim_ok rfl
theorem lim2 : (2 ≤ LIM) = True := lim_ok rfl
theorem lim3 : (3 ≤ LIM) = True := lim_ok rfl
theorem lim4 : (4 ≤ LIM) = True := lim_ok rfl
theorem lim7 : (7 ≤ LIM) = True := lim_ok rfl
def boxB : MS := (sseq (sasg (zbin zadd (zbin zadd (zbin zmulA (fun _ => ret (.int 7727)) (zvar 1)) (zbin zmulA (fun _ => ret (.int 104729)) (zvar 2))) (fun _ => ret (.int 43))) (gname 3)) (sseq (sif (ztest (zbin zlt (zvar 1) (zb (one1 zlen) (zcons (zvar 0) znil)))) (sseq (sasg (zb (one1 zabs) (zcons (zbin zix (zvar 0) (zvar 1)) znil)) (gname 3)) snil) (sseq (sif (ztest (zbin zgt (zb (one1 zlen) (zcons (zvar 0) znil)) (fun _ => ret (.int 0)))) (sseq (sasg (zbin zadd (zvar 3) (zbin zmulA (zbin zmod (zb (one1 zint1) (zcons (zb (one1 zabs) (zcons (zbin zix (zvar 0) (zbin zmod (zb (one1 zint1) (zcons (zvar 1) znil)) (zb (one1 zlen) (zcons (zvar 0) znil)))) znil)) znil)) (fun _ => ret (.int 2147483629))) (fun _ => ret (.int 69623)))) (gname 3)) snil) snil) snil)) (sseq (sasg (zbin zadd (zbin zmod (zb (one1 zint1) (zcons (zbin zadd (zbin zmulA (zbin zmod (zb (one1 zint1) (zcons (zvar 3) znil)) (fun _ => ret (.int 2147483629))) (fun _ => ret (.int 48271))) (zbin zmulA (fun _ => ret (.int 40692)) (zbin zadd (zvar 1) (zbin zmulA (fun _ => ret (.int 11)) (zvar 2))))) znil)) (fun _ => ret (.int 2147483629))) (fun _ => ret (.int 1))) (gname 4)) (sseq (sret (zlst (zcons (zbin zix (zlst (zcons (fun _ => ret (.int 0)) (zcons (zvar 3) znil))) (zb (one1 zint1) (zcons (zbin zge (zvar 3) (zbin zpow (fun _ => ret (.int 10)) (fun _ => ret (.int 18)))) znil))) (zcons (zvar 4) (zcons (fun _ => ret (.int 0)) znil))))) snil))))
def takeB : MS := (sseq (sif (ztest (zbin zgt (zbin zix (zvar 0) (fun _ => ret (.int 0))) (fun _ => ret (.int 0)))) (sseq (sasg (zbin zmod (zb (one1 zint1) (zcons (zbin zix (zvar 0) (fun _ => ret (.int 0))) znil)) (zvar 1)) (gname 4)) (sseq (sasg (zbin zfdiv (zbin zix (zvar 0) (fun _ => ret (.int 0))) (zvar 1)) (gsub (zvar 0) (fun _ => ret (.int 0)))) (sseq (sret (zvar 4)) snil))) snil) (sseq (sasg (zbin zadd (zbin zix (zvar 0) (fun _ => ret (.int 2))) (fun _ => ret (.int 1))) (gsub (zvar 0) (fun _ => ret (.int 2)))) (sseq (sasg (zbin zmod (zb (one1 zint1) (zcons (zbin zmulA (zbin zadd (zbin zix (zvar 0) (fun _ => ret (.int 1))) (zbin zmulA (fun _ => ret (.int 104729)) (zbin zix (zvar 0) (fun _ => ret (.int 2))))) (fun _ => ret (.int 69623))) znil)) (fun _ => ret (.int 2147483647))) (gname 2)) (sseq (sasg (zbin zadd (zbin zmod (zb (one1 zint1) (zcons (zbin zadd (zbin zmulA (zvar 2) (fun _ => ret (.int 48271))) (fun _ => ret (.int 30103))) znil)) (fun _ => ret (.int 2147483629))) (fun _ => ret (.int 1))) (gsub (zvar 0) (fun _ => ret (.int 1)))) (sseq (sif (ztest (zbin zlt (zvar 1) (zbin zpow (fun _ => ret (.int 2)) (fun _ => ret (.int 40))))) (sseq (sret (zbin zmod (zb (one1 zint1) (zcons (zbin zfdiv (zbin zadd (zbin zmulA (zvar 2) (fun _ => ret (.int 2147483647))) (zbin zix (zvar 0) (fun _ => ret (.int 1)))) (fun _ => ret (.int 8191))) znil)) (zvar 1))) snil) snil) (sseq (sasg (zbin zmulA (zbin zadd (zbin zmulA (zvar 2) (fun _ => ret (.int 2147483647))) (zbin zix (zvar 0) (fun _ => ret (.int 1)))) (zbin zpow (fun _ => ret (.int 2147483629)) (fun _ => ret (.int 3)))) (gname 3)) (sseq (sret (zbin zmod (zb (one1 zint1) (zcons (zbin zadd (zbin zadd (zvar 3) (zbin zmulA (zbin zpow (zbin zix (zvar 0) (fun _ => ret (.int 1))) (fun _ => ret (.int 3))) (fun _ => ret (.int 8191)))) (zvar 2)) znil)) (zvar 1))) snil)))))))
def pickB (F : List W → M W) : MS := (sseq (sret (zbin zix (zvar 1) (zfun (zcons (zvar 0) (zcons (zb (one1 zlen) (zcons (zvar 1) znil)) znil)) znil (zcall 2 0 gId F)))) snil)
theorem take_eq1 {b : Nat} {h : Hz} {m a s t : Int} (hb : h.get b = some (.lst [.int a, .int s, .int t])) (h0 : 0 < m) (h1 : m < 1073741824) (ha : 0 < a) :
    runZ 5 takeB [.ref b, .int m] h = .ok (.int (a % m)) (h.put b (.lst [.int (a / m), .int s, .int t])) := by
  show endZ (takeB [some (.ref b), some (.int m), none, none, none] h) = _
  unfold takeB
  simp [sseq, sif, sbnd, ztest, zbin, bnd, zvar, ret, zix_ref, hb, at3_0, zgt, zint2, zasB, ha, sasg, zb, one1, zcons, znil, zint1, zmod, h0, gname, zfdiv, h1, gsub, zset_ref, ix3_0, sret, endZ, snil]
theorem take_eq2 {b : Nat} {h : Hz} {m a s t : Int} (hb : h.get b = some (.lst [.int a, .int s, .int t])) (h0 : 0 < m) (h1 : m < 1073741824) (ha : ¬ 0 < a) :
    ∃ d s', runZ 5 takeB [.ref b, .int m] h = .ok (.int (d % m)) ((h.put b (.lst [.int a, .int s, .int (t + 1)])).put b (.lst [.int a, .int s', .int (t + 1)])) := by
  have h2 : m < 1099511627776 := by omega
  show ∃ d s', endZ (takeB [some (.ref b), some (.int m), none, none, none] h) = .ok (.int (d % m)) ((h.put b (.lst [.int a, .int s, .int (t + 1)])).put b (.lst [.int a, .int s', .int (t + 1)]))
  unfold takeB
  simp [sseq, sif, sbnd, ztest, zbin, bnd, zvar, ret, zix_ref, hb, at3_0, at3_1, at3_2, zgt, zlt, zpow, zint2, zasB, ha, sasg, zb, one1, zcons, znil, zint1, zmod, h0, gname, zfdiv, h1, gsub, zset_ref, ix3_1, ix3_2, zadd, zmulA, zmul, snil, get_put1 hb, get_put2 hb, P64, sret, h2, endZ]
  exact ⟨⟨_, rfl⟩, ⟨_, rfl⟩⟩
theorem take_spec {b : Nat} {h : Hz} {m : Int} (hb : Box h b) (h0 : 0 < m) (h1 : m < 1073741824) :
    Ok (runZ 5 takeB [.ref b, .int m] h) fun w h' => (∃ d, w = .int d ∧ 0 ≤ d ∧ d < m) ∧ Box h' b ∧ But b h h' := by
  obtain ⟨a, s, t, hb⟩ := hb
  by_cases ha : 0 < a
  · rw [take_eq1 hb h0 h1 ha]
    exact ⟨⟨_, rfl, Int.emod_nonneg _ (by omega), Int.emod_lt_of_pos _ h0⟩, ⟨_, _, _, Hz.get_put_self hb⟩, (But.refl b h).put hb⟩
  · obtain ⟨d, s', e⟩ := take_eq2 hb h0 h1 ha
    rw [e]
    exact ⟨⟨_, rfl, Int.emod_nonneg _ (by omega), Int.emod_lt_of_pos _ h0⟩, ⟨_, _, _, get_put2 hb⟩, ((But.refl b h).put hb).put (get_put1 hb)⟩
def TakeOk (F : List W → M W) : Prop := ∀ {b : Nat} {h : Hz} {m : Int}, Box h b → 0 < m → m < 1073741824 → Ok (F [.ref b, .int m] h) fun w h' => (∃ d, w = .int d ∧ 0 ≤ d ∧ d < m) ∧ Box h' b ∧ But b h h'
theorem take_ok : TakeOk (runZ 5 takeB) := fun hb h0 h1 => take_spec hb h0 h1
theorem pick_spec {F : List W → M W} (T : TakeOk F) {b l : Nat} {h : Hz} {xs : List W} (hb : Box h b) (hl : h.get l = some (.lst xs)) (ne : l ≠ b) (h0 : 0 < xs.length) (h1 : xs.length < 1073741824) :
    Ok (runZ 2 (pickB F) [.ref b, .ref l] h) fun w h' => w ∈ xs ∧ Box h' b ∧ But b h h' := by
  obtain ⟨w, h', e, ⟨d, rfl, d0, d1⟩, hb', bt⟩ := (T (m := (xs.length : Int)) hb (by omega) (by omega)).ex
  obtain ⟨w, ew, hw⟩ := atI_nat (xs := xs) d0 d1
  have hl' : h'.get l = some (.lst xs) := (bt.same l ne).trans hl
  show Ok (endZ (pickB F [some (.ref b), some (.ref l)] h)) _
  unfold pickB
  simp [sseq, sret, sbnd, zbin, bnd, zvar, ret, zfun, zcall, gId, zcons, znil, zb, one1, zlen_ref, hl, e, zix_ref, hl', ew, endZ, Ok]
  exact ⟨hw, hb', bt⟩
abbrev stm4_1 : MS := sasg (zbin zadd (zbin zadd (zbin zmulA (fun _ => ret (.int 7727)) (zvar 1)) (zbin zmulA (fun _ => ret (.int 104729)) (zvar 2))) (fun _ => ret (.int 43))) (gname 3)
abbrev stm4_2 : MS := sif (ztest (zbin zlt (zvar 1) (zb (one1 zlen) (zcons (zvar 0) znil)))) (sseq (sasg (zb (one1 zabs) (zcons (zbin zix (zvar 0) (zvar 1)) znil)) (gname 3)) snil) (sseq (sif (ztest (zbin zgt (zb (one1 zlen) (zcons (zvar 0) znil)) (fun _ => ret (.int 0)))) (sseq (sasg (zbin zadd (zvar 3) (zbin zmulA (zbin zmod (zb (one1 zint1) (zcons (zb (one1 zabs) (zcons (zbin zix (zvar 0) (zbin zmod (zb (one1 zint1) (zcons (zvar 1) znil)) (zb (one1 zlen) (zcons (zvar 0) znil)))) znil)) znil)) (fun _ => ret (.int 2147483629))) (fun _ => ret (.int 69623)))) (gname 3)) snil) snil) snil)
abbrev stm4_3 : MS := sasg (zbin zadd (zbin zmod (zb (one1 zint1) (zcons (zbin zadd (zbin zmulA (zbin zmod (zb (one1 zint1) (zcons (zvar 3) znil)) (fun _ => ret (.int 2147483629))) (fun _ => ret (.int 48271))) (zbin zmulA (fun _ => ret (.int 40692)) (zbin zadd (zvar 1) (zbin zmulA (fun _ => ret (.int 11)) (zvar 2))))) znil)) (fun _ => ret (.int 2147483629))) (fun _ => ret (.int 1))) (gname 4)
abbrev stm4_4 : MS := sret (zlst (zcons (zbin zix (zlst (zcons (fun _ => ret (.int 0)) (zcons (zvar 3) znil))) (zb (one1 zint1) (zcons (zbin zge (zvar 3) (zbin zpow (fun _ => ret (.int 10)) (fun _ => ret (.int 18)))) znil))) (zcons (zvar 4) (zcons (fun _ => ret (.int 0)) znil))))
theorem s41 {x z u : Option W} {kk o : Int} {h : Hz} : OkS (stm4_1 [x, some (.int kk), some (.int o), z, u] h) fun f ρ h' => f = .next ∧ ∃ c : Int, ρ = [x, some (.int kk), some (.int o), some (.int c), u] ∧ h' = h := by
  simp [sasg, sbnd, zbin, bnd, zvar, ret, zadd, zmulA, zmul, zint2, P64, gname, OkS]
theorem s42 {u : Option W} {ns : List Int} {kk : Nat} {o c : Int} {h : Hz} : OkS (stm4_2 [some (.fz (ns.map W.int)), some (.int kk), some (.int o), some (.int c), u] h) fun f ρ h' => f = .next ∧ ∃ c : Int, ρ = [some (.fz (ns.map W.int)), some (.int kk), some (.int o), some (.int c), u] ∧ h' = h := by
  by_cases h1 : (kk : Int) < ns.length
  · obtain ⟨i, ei⟩ := atI_map (ns := ns) (d := kk) (by omega) h1
    have h1' : kk < ns.length := by omega
    simp [sseq, sif, sbnd, ztest, zbin, bnd, zvar, ret, zix_fz, zlen_fz, zlt, zint2, zasB, sasg, zb, one1, zcons, znil, zabs, gname, snil, h1', ei, OkS]
  · have h1' : ¬ kk < ns.length := by omega
    by_cases h2 : 0 < ns.length
    · obtain ⟨i, ei⟩ := atI_map (ns := ns) (d := (kk : Int) % ns.length) (Int.emod_nonneg _ (by omega)) (Int.emod_lt_of_pos _ (by omega))
      simp [sseq, sif, sbnd, ztest, zbin, bnd, zvar, ret, zix_fz, zlen_fz, zgt, zlt, zint2, zasB, sasg, zb, one1, zcons, znil, zint1, zabs, zmod, gname, zadd, zmulA, zmul, snil, P64, h1', h2, ei, OkS]
    · have e : ns = [] := by cases ns with | nil => rfl | cons _ _ => exact absurd (Nat.succ_pos _) h2
      subst e
      have e3 : decide ((kk : Int) < ((List.map W.int []).length : Int)) = false := by simp
      simp only [sseq, sif, sbnd, ztest, zbin, bnd, zvar, ret, zlen_fz, zgt, zlt, zint2, zasB, zb, one1, zcons, znil, snil, OkS, List.getD_cons_zero, List.getD_cons_succ, e3]
      exact ⟨rfl, c, rfl, rfl⟩
theorem s43 {x u : Option W} {kk o c : Int} {h : Hz} : OkS (stm4_3 [x, some (.int kk), some (.int o), some (.int c), u] h) fun f ρ h' => f = .next ∧ ∃ s : Int, ρ = [x, some (.int kk), some (.int o), some (.int c), some (.int s)] ∧ h' = h := by
  simp [sasg, sbnd, zbin, bnd, zvar, ret, zadd, zmulA, zmul, zint2, P64, gname, zmod, zb, one1, zcons, znil, zint1, OkS]
theorem s44 {h : Hz} {x y z : Option W} {c s : Int} :
    OkS (stm4_4 [x, y, z, some (.int c), some (.int s)] h) fun f _ h' => ∃ b, f = .ret (.ref b) ∧ Box h' b ∧ h.n ≤ b ∧ Gro h h' := by
  have l2 : 2 ≤ LIM := by decide
  have l3 : 3 ≤ LIM := by decide
  have g1 : (h.push (.lst [.int 0, .int c])).get h.n = some (.lst [.int 0, .int c]) := Hz.get_push_self _ _
  have fin : ∀ v : Int, ∃ b, Fl.ret (W.ref (h.push (.lst [.int 0, .int c])).n) = .ret (.ref b) ∧ Box ((h.push (.lst [.int 0, .int c])).push (.lst [.int v, .int s, .int 0])) b ∧ h.n ≤ b ∧ Gro h ((h.push (.lst [.int 0, .int c])).push (.lst [.int v, .int s, .int 0])) :=
    fun v => ⟨_, rfl, ⟨v, s, 0, Hz.get_push_self _ _⟩, Nat.le_succ _, (Gro.push _ _).trans (Gro.push _ _)⟩
  by_cases hc : (1000000000000000000 : Int) ≤ c
  · have q : stm4_4 [x, y, z, some (.int c), some (.int s)] h = .ok (.ret (.ref (h.push (.lst [.int 0, .int c])).n)) [x, y, z, some (.int c), some (.int s)] ((h.push (.lst [.int 0, .int c])).push (.lst [.int c, .int s, .int 0])) := by
      simp [stm4_4, sret, sbnd, zlst, zcons, znil, zlstW, bnd, ret, zvar, zbin, zb, one1, zge, zpow, zint2, zint1, new, hc, b2z, zix_ref, g1, at2_0, at2_1, l2, l3]
    rw [q]
    exact fin c
  · have q : stm4_4 [x, y, z, some (.int c), some (.int s)] h = .ok (.ret (.ref (h.push (.lst [.int 0, .int c])).n)) [x, y, z, some (.int c), some (.int s)] ((h.push (.lst [.int 0, .int c])).push (.lst [.int 0, .int s, .int 0])) := by
      simp [stm4_4, sret, sbnd, zlst, zcons, znil, zlstW, bnd, ret, zvar, zbin, zb, one1, zge, zpow, zint2, zint1, new, hc, b2z, zix_ref, g1, at2_0, at2_1, l2, l3]
    rw [q]
    exact fin 0
theorem box_spec {h : Hz} {ns : List Int} {kk : Nat} {o : Int} :
    Ok (runZ 5 boxB [.fz (ns.map W.int), .int kk, .int o] h) fun w h' => ∃ b, w = .ref b ∧ Box h' b ∧ h.n ≤ b ∧ Gro h h' := by
  show Ok (endZ (boxB [some (.fz (ns.map W.int)), some (.int kk), some (.int o), none, none] h)) _
  refine ok_end ?_
  unfold boxB
  refine seq_cut (m := stm4_1) s41 fun ρ1 h1 ⟨c1, e1, eh⟩ => ?_
  subst e1 eh
  refine seq_cut (m := stm4_2) s42 fun ρ2 h2 ⟨c2, e2, eh⟩ => ?_
  subst e2 eh
  refine seq_cut (m := stm4_3) s43 fun ρ3 h3 ⟨c3, e3, eh⟩ => ?_
  subst e3 eh
  rw [seq_snil]
  refine (s44).imp fun f ρ h4 ⟨b, e, r⟩ => ?_
  subst e
  exact ⟨b, rfl, r⟩
end Z

namespace Z
def Wx {α : Type} (r : R α) (Q : α → Hz → Prop) (E : Nat → List (Nat × W) → Hz → Prop) : Prop := match r with
  | .ok a h => Q a h
  | .exc c fs h => E c fs h
  | .err => False
def WxS (r : RS) (Q : Fl → Ev → Hz → Prop) (E : Nat → List (Nat × W) → Ev → Hz → Prop) : Prop := match r with
  | .ok f ρ h => Q f ρ h
  | .exc c fs ρ h => E c fs ρ h
  | .err => False
abbrev noE : Nat → List (Nat × W) → Hz → Prop := fun _ _ _ => False
abbrev noES : Nat → List (Nat × W) → Ev → Hz → Prop := fun _ _ _ _ => False
section
variable {α β : Type}
theorem Wx.to {r : R α} {P Q : α → Hz → Prop} {E1 E : Nat → List (Nat × W) → Hz → Prop} (a : Wx r P E1) (f : ∀ x h, P x h → Q x h) (g : ∀ c fs h, E1 c fs h → E c fs h) : Wx r Q E := by
  cases r with
  | ok x h' => exact f _ _ a
  | exc c fs h' => exact g _ _ _ a
  | err => exact False.elim a
theorem WxS.to {r : RS} {P Q : Fl → Ev → Hz → Prop} {E1 E : Nat → List (Nat × W) → Ev → Hz → Prop} (a : WxS r P E1) (f : ∀ x ρ h, P x ρ h → Q x ρ h) (g : ∀ c fs ρ h, E1 c fs ρ h → E c fs ρ h) : WxS r Q E := by
  cases r with
  | ok x ρ' h' => exact f _ _ _ a
  | exc c fs ρ' h' => exact g _ _ _ _ a
  | err => exact False.elim a
theorem Ok.to {r : R α} {P Q : α → Hz → Prop} {E : Nat → List (Nat × W) → Hz → Prop} (a : Ok r P) (f : ∀ x h, P x h → Q x h) : Wx r Q E := by
  cases r with
  | ok x h' => exact f _ _ a
  | exc c fs h' => exact False.elim a
  | err => exact False.elim a
theorem Wx.ok {r : R α} {Q : α → Hz → Prop} (a : Wx r Q noE) : Ok r Q := by
  cases r with
  | ok x h' => exact a
  | exc c fs h' => exact False.elim a
  | err => exact False.elim a
theorem WxS.ok {r : RS} {Q : Fl → Ev → Hz → Prop} (a : WxS r Q noES) : OkS r Q := by
  cases r with
  | ok x ρ h' => exact a
  | exc c fs ρ h' => exact False.elim a
  | err => exact False.elim a
theorem OkS.to {r : RS} {P Q : Fl → Ev → Hz → Prop} {E : Nat → List (Nat × W) → Ev → Hz → Prop} (a : OkS r P) (f : ∀ x ρ h, P x ρ h → Q x ρ h) : WxS r Q E := by
  cases r with
  | ok x ρ h' => exact f _ _ _ a
  | exc c fs ρ h' => exact False.elim a
  | err => exact False.elim a
section
variable {m : M α} {k : α → M β} {h : Hz} {E : Nat → List (Nat × W) → Hz → Prop}
theorem wx_bnd {Q : β → Hz → Prop} : Wx (bnd m k h) Q E = Wx (m h) (fun a h' => Wx (k a h') Q E) E := by
  unfold bnd
  cases m h <;> rfl
theorem wx_ret {a : α} {Q : α → Hz → Prop} : Wx (ret a h) Q E = Q a h := propext ⟨fun z => z, fun z => z⟩
theorem wx_ok {a : α} {Q : α → Hz → Prop} : Wx (.ok a h) Q E = Q a h := propext ⟨fun z => z, fun z => z⟩
theorem wx_exc {c : Nat} {fs : List (Nat × W)} {Q : α → Hz → Prop} : Wx (.exc c fs h) Q E = E c fs h := propext ⟨fun z => z, fun z => z⟩
theorem wx_noex {Q : α → Hz → Prop} : Wx (noex m h) Q E = Wx (m h) Q noE := by
  unfold noex
  cases m h <;> rfl
theorem wx_new {c : Cell} {Q : W → Hz → Prop} : Wx (new c h) Q E = Q (.ref h.n) (h.push c) := propext ⟨fun z => z, fun z => z⟩
theorem wx_store {i : Nat} {c : Cell} {Q : Unit → Hz → Prop} : Wx (store i c h) Q E = Q () (h.put i c) := propext ⟨fun z => z, fun z => z⟩
theorem wx_ite {p : Prop} [Decidable p] {x y : M α} {Q : α → Hz → Prop} : Wx ((if p then x else y) h) Q E = if p then Wx (x h) Q E else Wx (y h) Q E := by
  by_cases e : p
  · rw [if_pos e, if_pos e]
  · rw [if_neg e, if_neg e]
theorem wx_ite2 {p : Prop} [Decidable p] {x y : R α} {Q : α → Hz → Prop} : Wx (if p then x else y) Q E = if p then Wx x Q E else Wx y Q E := by
  by_cases e : p
  · rw [if_pos e, if_pos e]
  · rw [if_neg e, if_neg e]
end
theorem wxs_bnd {m : M α} {ρ : Ev} {k : α → Hz → RS} {h : Hz} {Q : Fl → Ev → Hz → Prop} {E : Nat → List (Nat × W) → Ev → Hz → Prop} : WxS (sbnd m ρ k h) Q E = Wx (m h) (fun a h' => WxS (k a h') Q E) (fun c fs h' => E c fs ρ h') := by
  unfold sbnd
  cases m h <;> rfl
theorem wxs_ite {p : Prop} [Decidable p] {x y : RS} {Q : Fl → Ev → Hz → Prop} {E : Nat → List (Nat × W) → Ev → Hz → Prop} : WxS (if p then x else y) Q E = if p then WxS x Q E else WxS y Q E := by
  by_cases e : p
  · rw [if_pos e, if_pos e]
  · rw [if_neg e, if_neg e]
end
def nxtx (k : MS) (Q : Fl → Ev → Hz → Prop) (E : Nat → List (Nat × W) → Ev → Hz → Prop) : Fl → Ev → Hz → Prop := fun f ρ h => match f with
  | .next => WxS (k ρ h) Q E
  | f => Q f ρ h
section
variable {m k : MS} {ρ : Ev} {h : Hz} {Q : Fl → Ev → Hz → Prop} {E : Nat → List (Nat × W) → Ev → Hz → Prop}
theorem wxs_seq : WxS (sseq m k ρ h) Q E = WxS (m ρ h) (nxtx k Q E) E := by
  unfold sseq
  cases m ρ h with
  | ok f ρ' h' => cases f <;> rfl
  | exc c fs ρ' h' => rfl
  | err => rfl
theorem nxtx_next : nxtx k Q E .next ρ h = WxS (k ρ h) Q E := propext ⟨fun z => z, fun z => z⟩
theorem nxtx_ret {w : W} : nxtx k Q E (.ret w) ρ h = Q (.ret w) ρ h := propext ⟨fun z => z, fun z => z⟩
theorem nxtx_brk : nxtx k Q E .brk ρ h = Q .brk ρ h := propext ⟨fun z => z, fun z => z⟩
theorem nxtx_cnt : nxtx k Q E .cnt ρ h = Q .cnt ρ h := propext ⟨fun z => z, fun z => z⟩
theorem wxs_nil : WxS (snil ρ h) Q E = Q .next ρ h := propext ⟨fun z => z, fun z => z⟩
theorem wxs_ok {f : Fl} : WxS (.ok f ρ h) Q E = Q f ρ h := propext ⟨fun z => z, fun z => z⟩
theorem wxs_exc {c : Nat} {fs : List (Nat × W)} : WxS (.exc c fs ρ h) Q E = E c fs ρ h := propext ⟨fun z => z, fun z => z⟩
theorem wxs_name {i : Nat} {w : W} : WxS (gname i w ρ h) Q E = Q .next (ρ.set i (some w)) h := propext ⟨fun z => z, fun z => z⟩
def endQ (Q : W → Hz → Prop) : Fl → Ev → Hz → Prop := fun f _ h => match f with
  | .ret w => Q w h
  | .next => Q .non h
  | _ => False
theorem endQ_ret {Q : W → Hz → Prop} {w : W} : endQ Q (.ret w) ρ h = Q w h := propext ⟨fun z => z, fun z => z⟩
theorem endQ_next {Q : W → Hz → Prop} : endQ Q .next ρ h = Q .non h := propext ⟨fun z => z, fun z => z⟩
theorem wx_end {r : RS} {Q : W → Hz → Prop} {E : Nat → List (Nat × W) → Hz → Prop} (a : WxS r (endQ Q) (fun c fs _ h => E c fs h)) : Wx (endZ r) Q E := by
  cases r with
  | ok f ρ' h' =>
    cases f with
    | next => exact a
    | ret w => exact a
    | brk => exact False.elim a
    | cnt => exact False.elim a
  | exc c fs ρ' h' => exact a
  | err => exact False.elim a
theorem wx_run {n : Nat} {m : MS} {ws : List W} {Q : W → Hz → Prop} {E : Nat → List (Nat × W) → Hz → Prop} (a : WxS (m (startZ n ws) h) (endQ Q) (fun c fs _ h => E c fs h)) : Wx (runZ n m ws h) Q E := wx_end a
theorem ok_run {n : Nat} {m : MS} {ws : List W} {Q : W → Hz → Prop} (a : WxS (m (startZ n ws) h) (endQ Q) noES) : Ok (runZ n m ws h) Q := (wx_end (E := noE) a).ok
end
theorem gK_succ {k : Nat} {m : MS} : gK (k + 1) m = m := rfl
end Z
local macro_rules | `(tactic| simp! [$ls,*]) => `(tactic| simp only [Z.wx_bnd, Z.wx_ret, Z.wx_ok, Z.wx_exc, Z.wx_noex, Z.wx_new, Z.wx_store, Z.wx_ite, Z.wx_ite2, Z.wxs_bnd, Z.wxs_ite, Z.wxs_seq, Z.nxtx_next, Z.nxtx_ret, Z.nxtx_brk, Z.nxtx_cnt, Z.wxs_nil, Z.wxs_ok, Z.wxs_exc, Z.wxs_name, Z.endQ_ret, Z.endQ_next, Z.gK_succ, Z.sraise, Z.zbin, Z.zun, Z.zcons, Z.znil, Z.zlst, Z.zlstW, Z.ztup, Z.ztupW, Z.zb, Z.one1, Z.two2, Z.zif, Z.ztest, Z.znot, Z.zor, Z.zand, Z.zandV, Z.zorV, Z.zisi, Z.zvar_eq, Z.zv_non, Z.zv_bl, Z.zv_int, Z.zv_str, Z.zv_tup, Z.zv_fz, Z.zv_ref, Z.zv_obj, Z.sif, Z.sret, Z.sasg, Z.sexpr, Z.zfun, Z.zfun0, Z.zcall, Z.gId, Z.zasB, Z.zslice, Z.zpart, Z.zasI, Z.zfld, Z.zmeth, Z.zmeth0, Z.zprop, Z.spar, Z.parSet, List.reverse_cons, List.reverse_nil, List.nil_append, List.cons_append, List.getD_cons_zero, List.getD_cons_succ, List.set_cons_zero, List.set_cons_succ, if_true, if_false, Bool.not_true, Bool.not_false, Bool.false_eq_true, List.length_cons, List.length_nil, and_self, and_true, true_and, reduceCtorEq, Nat.zero_add, Nat.reduceAdd, ite_true, ite_false, $ls,*])
namespace Z
section
variable {α : Type} {z : Itz} {ct : CT} {nt : Ev → M Bool} {me : Ev → M W} {ρ : Ev} {h0 : Hz} {xs : List α} {f : α → W} {ρf : α → Ev} {t : α → Bool} {e : α → W}
theorem clz_typ (hz : ∀ i h, Gro h0 h → zitem z i h = some (xs.map f)[i]?) (hc : ∀ x ∈ xs, setCT ct (f x) ρ = some (ρf x))
    (hn : ∀ x ∈ xs, ∀ h, Gro h0 h → Ok (nt (ρf x) h) fun a h' => a = t x ∧ Gro h h')
    (he : ∀ x ∈ xs, ∀ h, Gro h0 h → t x = true → Ok (me (ρf x) h) fun a h' => a = e x ∧ Gro h h') :
    ∀ (fuel : List W) (i : Nat) (h : Hz), Gro h0 h → i + fuel.length = xs.length → Ok (clz z ct nt me ρ fuel i h) fun ys h' => ys = ((xs.drop i).filter t).map e ∧ Gro h h'
  | [], i, h, g, hl => by
    have e1 : (xs.map f)[i]? = none := List.getElem?_eq_none (by simpa using Nat.le_of_eq hl.symm)
    rw [clz_stop (by rw [hz i h g, e1])]
    rw [List.drop_eq_nil_of_le (by simpa using Nat.le_of_eq hl.symm)]
    exact ⟨rfl, Gro.refl _⟩
  | w :: fuel, i, h, g, hl => by
    have hi : i < xs.length := by rw [List.length_cons] at hl; omega
    have e1 : (xs.map f)[i]? = some (f xs[i]) := by rw [List.getElem?_map, List.getElem?_eq_getElem hi]; rfl
    have hm : xs[i] ∈ xs := List.getElem_mem hi
    rw [clz_go (by rw [hz i h g, e1]) (hc _ hm), ok_bnd, ok_noex]
    refine (hn _ hm h g).imp fun a h1 ⟨ea, g1⟩ => ?_
    subst ea
    have ih := clz_typ hz hc hn he fuel (i + 1)
    rw [List.drop_eq_getElem_cons hi]
    cases et : t xs[i] with
    | true =>
      show Ok (bnd (noex (me _)) _ h1) _
      rw [ok_bnd, ok_noex]
      refine (he _ hm h1 (g.trans g1) et).imp fun y h2 ⟨ey, g2⟩ => ?_
      subst ey
      rw [ok_bnd]
      refine (ih h2 ((g.trans g1).trans g2) (by rw [List.length_cons] at hl; omega)).imp fun ys h3 ⟨e3, g3⟩ => ?_
      subst e3
      rw [ok_ret, List.filter_cons_of_pos et]
      exact ⟨rfl, (g1.trans g2).trans g3⟩
    | false =>
      show Ok (clz z ct nt me ρ fuel (i + 1) h1) _
      refine (ih h1 (g.trans g1) (by rw [List.length_cons] at hl; omega)).imp fun ys h3 ⟨e3, g3⟩ => ?_
      subst e3
      rw [List.filter_cons_of_neg (by rw [et]; exact Bool.false_ne_true)]
      exact ⟨rfl, g1.trans g3⟩
end
def NewL (h : Hz) (ws : List W) (a : W) (h' : Hz) : Prop := ∃ n, a = .ref n ∧ h'.get n = some (.lst ws) ∧ Gro h h' ∧ h.n ≤ n
def ItQ (h : Hz) (ws : List W) (z : Itz) (h' : Hz) : Prop := h' = h ∧ z.fuel.length = ws.length ∧ ∀ i h', Gro h h' → zitem z i h' = some ws[i]?
theorem zlc_typ {α : Type} {xs : List α} {f : α → W} {ρf : α → Ev} {t : α → Bool} {e : α → W} {vs : List Nat} {mi : Ev → M Itz} {ct : CT} {nt : Ev → M Bool} {me : Ev → M W} {ρ : Ev} {h : Hz}
    (hi : Ok (mi ρ h) (ItQ h (xs.map f))) (hl : xs.length ≤ 16777216) (hc : ∀ x ∈ xs, setCT ct (f x) (wipeW ρ vs) = some (ρf x))
    (hn : ∀ x ∈ xs, ∀ h', Gro h h' → Ok (nt (ρf x) h') fun a h2 => a = t x ∧ Gro h' h2)
    (he : ∀ x ∈ xs, ∀ h', Gro h h' → t x = true → Ok (me (ρf x) h') fun a h2 => a = e x ∧ Gro h' h2) :
    Ok (zlc vs mi ct nt me ρ h) (NewL h ((xs.filter t).map e)) := by
  unfold zlc
  rw [ok_bnd]
  refine hi.imp fun z h1 ⟨e1, e2, hz⟩ => ?_
  subst e1
  rw [ok_bnd]
  refine (clz_typ hz hc hn he z.fuel 0 h1 (Gro.refl _) (by rw [e2, Nat.zero_add, List.length_map])).imp fun ys h2 ⟨ey, g⟩ => ?_
  have l1 : ys.length ≤ LIM := by
    rw [ey, List.length_map]
    exact Nat.le_trans (Nat.le_trans (List.length_filter_le _ _) (by rw [List.drop_zero]; exact hl)) (by decide)
  rw [if_pos l1, ok_new, ey, List.drop_zero]
  exact ⟨_, rfl, Hz.get_push_self _ _, g.trans (Gro.push _ _), g.size⟩
theorem itq_tup {h : Hz} {ws : List W} : Ok (zitOf (.tup ws) h) (ItQ h ws) := ⟨rfl, rfl, fun _ _ _ => rfl⟩
theorem itq_ref {h : Hz} {n : Nat} {ws : List W} (e : h.get n = some (.lst ws)) : Ok (zitOf (.ref n) h) (ItQ h ws) := by
  have e1 : zitOf (.ref n) h = .ok (.live false n ws) h := by
    show (match h.get n with | some (.lst xs) => R.ok (Itz.live false n xs) h | _ => .err) = _
    rw [e]
  rw [e1]
  refine ⟨rfl, rfl, fun i h' g => ?_⟩
  show (match h'.get n with
    | some (.lst xs) => (match xs[i]? with
      | some w => some (some (wrapE false i w))
      | none => some none)
    | _ => none) = _
  rw [g.get e]
  dsimp only
  cases ws[i]? <;> rfl
theorem itq_fix {h : Hz} {ws : List W} : ItQ h ws (.fix ws) h := ⟨rfl, rfl, fun _ _ _ => rfl⟩
def enumL {α : Type} : Nat → List α → List (Nat × α)
  | _, [] => []
  | i, x :: xs => (i, x) :: enumL (i + 1) xs
theorem enumL_len {α : Type} : ∀ (xs : List α) (i : Nat), (enumL i xs).length = xs.length
  | [], _ => rfl
  | x :: xs, i => congrArg Nat.succ (enumL_len xs (i + 1))
def nwW {α : Type} (f : α → W) (p : Nat × α) : W := .tup [.int p.1, f p.2]
theorem enumW_map {α : Type} {f : α → W} : ∀ (xs : List α) (i : Nat), enumW i (xs.map f) = (enumL i xs).map (nwW f)
  | [], _ => rfl
  | x :: xs, i => by
    show W.tup [.int (i : Nat), f x] :: enumW (i + 1) (xs.map f) = _
    rw [enumW_map xs (i + 1)]
    rfl
theorem itq_enum {α : Type} {f : α → W} {xs : List α} {h : Hz} : Ok (zenum (.tup (xs.map f)) h) (ItQ h ((enumL 0 xs).map (nwW f))) := by
  show Ok (R.ok (Itz.fix (enumW 0 (xs.map f))) h) _
  rw [enumW_map]
  exact itq_fix
section
variable {α β : Type} {b B : Nat} {P : Hz → Prop}
theorem lpz_typ {z : Itz} {ct : CT} {nt : Ev → M Bool} {bd : Ev → M W} {ρ : Ev} {xs : List α} {f : α → W} {ρf : α → Ev} {t : α → Bool} {e : α → List W}
    (hz : ∀ i h, P h → zitem z i h = some (xs.map f)[i]?) (hc : ∀ x ∈ xs, setCT ct (f x) ρ = some (ρf x))
    (hn : ∀ x ∈ xs, ∀ h acc, P h → h.get b = some (.lst acc) → Ok (nt (ρf x) h) fun a h' => a = t x ∧ P h' ∧ h'.get b = some (.lst acc))
    (he : ∀ x ∈ xs, ∀ h acc, P h → h.get b = some (.lst acc) → acc.length + (e x).length ≤ B → t x = true → Ok (bd (ρf x) h) fun _ h' => P h' ∧ h'.get b = some (.lst (acc ++ e x))) :
    ∀ (fuel : List W) (i : Nat) (h : Hz) (acc : List W), P h → h.get b = some (.lst acc) → acc.length + (((xs.drop i).filter t).flatMap e).length ≤ B → i + fuel.length = xs.length → Ok (lpz z ct nt bd ρ fuel i h) fun _ h' => P h' ∧ h'.get b = some (.lst (acc ++ ((xs.drop i).filter t).flatMap e))
  | [], i, h, acc, g, eb, lb, hl => by
    have e1 : (xs.map f)[i]? = none := List.getElem?_eq_none (by simpa using Nat.le_of_eq hl.symm)
    rw [lpz_stop (by rw [hz i h g, e1])]
    rw [List.drop_eq_nil_of_le (by simpa using Nat.le_of_eq hl.symm)]
    exact ⟨g, by simpa using eb⟩
  | w :: fuel, i, h, acc, g, eb, lb, hl => by
    have hi : i < xs.length := by rw [List.length_cons] at hl; omega
    have e1 : (xs.map f)[i]? = some (f xs[i]) := by rw [List.getElem?_map, List.getElem?_eq_getElem hi]; rfl
    have hm : xs[i] ∈ xs := List.getElem_mem hi
    rw [lpz_go (by rw [hz i h g, e1]) (hc _ hm), ok_bnd, ok_noex]
    refine (hn _ hm h acc g eb).imp fun a h1 ⟨ea, g1, eb1⟩ => ?_
    subst ea
    have ih := lpz_typ hz hc hn he fuel (i + 1)
    rw [List.drop_eq_getElem_cons hi] at lb ⊢
    cases et : t xs[i] with
    | true =>
      rw [List.filter_cons_of_pos et, List.flatMap_cons] at lb ⊢
      rw [List.length_append] at lb
      show Ok (bnd (bd _) _ h1) _
      rw [ok_bnd]
      refine (he _ hm h1 acc g1 eb1 (by omega) et).imp fun y h2 ⟨g2, eb2⟩ => ?_
      refine (ih h2 _ g2 eb2 (by rw [List.length_append]; omega) (by rw [List.length_cons] at hl; omega)).imp fun ys h3 ⟨g3, p3⟩ => ?_
      rw [List.append_assoc] at p3
      exact ⟨g3, p3⟩
    | false =>
      have en : ¬ (t xs[i] = true) := by rw [et]; exact Bool.false_ne_true
      rw [List.filter_cons_of_neg en] at lb ⊢
      show Ok (lpz z ct nt bd ρ fuel (i + 1) h1) _
      exact ih h1 acc g1 eb1 lb (by rw [List.length_cons] at hl; omega)
end
theorem zpush_ok {h : Hz} {b : Nat} {xs : List W} {y : W} (e : h.get b = some (.lst xs)) (l : xs.length < 1000000) : zpush b y h = .ok .non (h.put b (.lst (xs ++ [y]))) := by
  unfold zpush
  rw [e]
  dsimp only
  rw [if_pos (decide_eq_true (Nat.lt_trans l (by decide)))]
theorem flat_one {α β : Type} (f : α → β) : ∀ xs : List α, (xs.flatMap fun y => [f y]) = xs.map f
  | [] => rfl
  | x :: xs => by rw [List.flatMap_cons, flat_one f xs]; rfl
def ItB (h : Hz) (ws : List W) (z : Itz) (h' : Hz) : Prop := h' = h ∧ z.fuel.length = ws.length ∧ ∀ i h', GroB h.n h h' → zitem z i h' = some ws[i]?
theorem itb_tup {h : Hz} {ws : List W} : Ok (zitOf (.tup ws) h) (ItB h ws) := ⟨rfl, rfl, fun _ _ _ => rfl⟩
theorem zlc2_typ {α β : Type} {vs vs1 : List Nat} {mi mi1 : Ev → M Itz} {ct ct1 : CT} {nt nt1 : Ev → M Bool} {me : Ev → M W} {ρ : Ev} {h : Hz} {xs : List α} {f : α → W} {ρf : α → Ev} {t : α → Bool} {gs : α → List β} {f1 : β → W} {ρ1 : α → β → Ev} {t1 : α → β → Bool} {e : α → β → W}
    (hi : Ok (mi ρ h) (ItB h (xs.map f))) (hc : ∀ x ∈ xs, setCT ct (f x) (wipeW ρ vs) = some (ρf x))
    (hn : ∀ x ∈ xs, ∀ h', GroB h.n h h' → Ok (nt (ρf x) h') fun a h2 => a = t x ∧ h2 = h')
    (hi1 : ∀ x ∈ xs, ∀ h', GroB h.n h h' → Ok (mi1 (ρf x) h') (fun z h2 => h2 = h' ∧ z = .fix ((gs x).map f1)))
    (hc1 : ∀ x ∈ xs, ∀ y ∈ gs x, setCT ct1 (f1 y) (wipeW (ρf x) vs1) = some (ρ1 x y))
    (hn1 : ∀ x ∈ xs, ∀ y ∈ gs x, ∀ h', GroB h.n h h' → Ok (nt1 (ρ1 x y) h') fun a h2 => a = t1 x y ∧ h2 = h')
    (he : ∀ x ∈ xs, ∀ y ∈ gs x, ∀ h', GroB h.n h h' → Ok (me (ρ1 x y) h') fun a h2 => a = e x y ∧ h2 = h')
    (hl : ((xs.filter t).flatMap fun x => ((gs x).filter (t1 x)).map (e x)).length ≤ 1000000) :
    Ok (zlc2 vs vs1 mi ct nt mi1 ct1 nt1 me ρ h) (NewL h ((xs.filter t).flatMap fun x => ((gs x).filter (t1 x)).map (e x))) := by
  unfold zlc2
  rw [ok_bnd]
  refine hi.imp fun z h1 iq => ?_
  obtain ⟨eh, el, hzz⟩ := iq
  subst eh
  rw [ok_bnd]
  have g0 : GroB h1.n h1 (h1.push (.lst [])) := ⟨fun j hj _ => by rw [Hz.get_push, if_neg (Nat.ne_of_lt hj)], Nat.le_succ _⟩
  have L := lpz_typ (b := h1.n) (B := 1000000) (P := GroB h1.n h1) (z := z) (ct := ct) (nt := nt) (ρ := wipeW ρ vs) (xs := xs) (f := f) (ρf := ρf) (t := t) (e := fun x => ((gs x).filter (t1 x)).map (e x))
    (bd := fun ρ2 => bnd (noex (mi1 ρ2)) fun z1 => lpz z1 ct1 nt1 (fun ρ3 => bnd (noex (me ρ3)) fun y => zpush h1.n y) (wipeW ρ2 vs1) z1.fuel 0)
    (fun i h' g => hzz i h' g) hc (fun x hx h' acc g eb => (hn x hx h' g).imp fun a h2 ⟨ea, eh⟩ => by subst eh; exact ⟨ea, g, eb⟩)
    (fun x hx h' acc g eb lb _ => by
      rw [ok_bnd, ok_noex]
      refine (hi1 x hx h' g).imp fun z1 h2 ⟨eh, ez⟩ => ?_
      subst eh ez
      have L1 := lpz_typ (b := h1.n) (B := 1000000) (P := GroB h1.n h1) (z := .fix ((gs x).map f1)) (ct := ct1) (nt := nt1) (ρ := wipeW (ρf x) vs1) (xs := gs x) (f := f1) (ρf := ρ1 x) (t := t1 x) (e := fun y => [e x y])
        (bd := fun ρ3 => bnd (noex (me ρ3)) fun y => zpush h1.n y) (fun i h' g => rfl) (hc1 x hx) (fun y hy h3 acc3 g3 eb3 => (hn1 x hx y hy h3 g3).imp fun a h4 ⟨ea, eh⟩ => by subst eh; exact ⟨ea, g3, eb3⟩)
        (fun y hy h3 acc3 g3 eb3 lb3 _ => by
          rw [ok_bnd, ok_noex]
          refine (he x hx y hy h3 g3).imp fun a h4 ⟨ea, eh⟩ => ?_
          subst ea eh
          rw [zpush_ok eb3 (by rw [List.length_singleton] at lb3; omega)]
          exact ⟨g3.put eb3, Hz.get_put_self eb3⟩)
        (Itz.fuel (.fix ((gs x).map f1))) 0 h2 acc g eb (by
          rw [List.drop_zero]
          have : ((List.filter (t1 x) (gs x)).flatMap fun y => [e x y]) = ((gs x).filter (t1 x)).map (e x) := flat_one _ _
          rw [this]
          exact lb) (by rw [Nat.zero_add]; exact List.length_map ..)
      refine L1.imp fun _ h5 ⟨g5, e5⟩ => ⟨g5, ?_⟩
      rw [List.drop_zero] at e5
      rw [e5]
      rw [flat_one])
    z.fuel 0 (h1.push (.lst [])) [] g0 (Hz.get_push_self _ _) (by rw [List.drop_zero, List.length_nil, Nat.zero_add]; exact hl) (by rw [Nat.zero_add, el, List.length_map])
  refine L.imp fun _ h2 ⟨g2, e2⟩ => ?_
  rw [List.drop_zero, List.nil_append] at e2
  exact ⟨h1.n, rfl, e2, ⟨fun j hj => g2.same j hj (Nat.ne_of_lt hj), g2.size⟩, Nat.le_refl _⟩
abbrev Dfn (pk : Pk) (F : Nat → Nat → List W → M W) (i n : Nat) (B : Pk → (Nat → List W → M W) → (Nat → List W → M W) → Nat → MS) : Prop := ∀ j, F (j + 2) i = runZ n (B pk (F (j + 1)) (F j) j)
end Z

namespace Z
def wordB (C : List Nat) (E : ET) (k : Nat) : MS := (sseq (sret (zandV (zisi (isiF C [2] []) (zvar 0)) (zbin (zin E k) (zvar 0) (zvar 1)))) snil)
abbrev NOT : List Nat := [110, 111, 116, 32]
abbrev five : List (List Nat) := [[116, 104, 101, 114, 101], [115, 97, 109, 101], [104, 111, 108, 100, 115], [99, 111, 118, 101, 114, 115], [102, 105, 116, 115]]
def isT (s : List Nat) : Bool := five.any fun t => eqN t (if TL.pre NOT s = true then cutW s (some 4) none else s)
def memS (ts : List (List Nat)) : W → Bool
  | .str s => ts.any fun t => eqN t s
  | _ => false
def WordOk (C : List Nat) (F : List W → M W) : Prop := ∀ {h : Hz} {w : W} {ts : List (List Nat)}, Rd C h w → Ok (F [w, .tup (ts.map W.str)] h) fun a h' => a = .bl (memS ts w) ∧ h' = h
theorem word_ok {C : List Nat} {E : ET} {k : Nat} : WordOk C (runZ 2 (wordB C E (k + 1))) := fun {h w ts} r => by
  show Ok (endZ (wordB C E (k + 1) [some w, some (.tup (ts.map W.str))] h)) _
  refine ok_end ?_
  unfold wordB
  have e1 := isi_str r
  cases w with
  | str s =>
    have e1 : isiF C [2] [] (kind h (.str s)) = some true := e1
    have zi := zin_tup (E := E) (n := k) (y := s) (h := h) (ts := ts)
    simp?! [e1, zi, memS]
  | _ =>
    first
      | exact False.elim r
      | (have e1 := e1.trans (show _ = some false from rfl)
         simp?! [e1, r.zv]
         rfl)
section
variable {C : List Nat} {c f1 f2 f3 ec ef k : Nat} {cs : List Nat} {Fq Fw Ft Fx : List W → M W}
abbrev rc1 (Fq Ft : List W → M W) : Ev → M Bool := zor (znot (ztest (zfun (zcons (zvar 1) znil) znil (zcall 1 0 gId Fq)))) (znot (ztest (zb (one1 zallB) (zcons (zlc [3] (zit (zvar 1)) (.nm 3) (fun _ => ret true) (zfun (zcons (zvar 3) znil) znil (zcall 1 0 gId Ft))) znil))))
abbrev rc2 (Fw : List W → M W) : Ev → M Bool := znot (ztest (zfun (zcons (zvar 2) (zcons (fun _ => ret (W.tup [.str [115, 108, 111, 116], .str [107, 101, 121], .str [102, 105, 110, 100]])) znil)) znil (zcall 2 0 gId Fw)))
abbrev rs1 (ec ef k : Nat) (Fq Ft : List W → M W) : MS := sif (rc1 Fq Ft) (sseq (gK k (sraise ec ef (zcons (fun _ => ret (.str [116, 101, 115, 116, 115])) znil))) snil) snil
abbrev rs2 (ec ef k : Nat) (Fw : List W → M W) : MS := sif (rc2 Fw) (sseq (gK k (sraise ec ef (zcons (fun _ => ret (.str [100, 101, 101, 100])) znil))) snil) snil
abbrev rs3 (c f1 f2 f3 : Nat) (cs : List Nat) (Fx : List W → M W) : MS := (sseq (sfld [c] f1 (zvar 0) (zb (one1 ztuple) (zcons (zvar 1) znil))) (sseq (sfld [c] f2 (zvar 0) (zvar 2)) (sseq (sfld cs f3 (zvar 0) (zfun (zcons (zfld [c] f1 (zvar 0)) (zcons (zvar 2) znil)) znil (zcall 2 0 gId Fx))) snil)))
end
end Z

namespace Z
structure TwH (pk : Pk) (F : Nat → Nat → List W → M W) : Prop where
  e60 : Dfn pk F 60 1 PK.is_integer
  e61 : Dfn pk F 61 2 PK.is_word
  e62 : Dfn pk F 62 2 PK.is_between
  e63 : Dfn pk F 63 7 PK.fault_of
  e64 : Dfn pk F 64 9 PK.House_init
def isInt : W → Bool
  | .int _ => true
  | _ => false
def isBl : W → Bool
  | .bl _ => true
  | _ => false
section
variable {C : List Nat} {h : Hz} {w : W}
theorem isi_int (r : Rd C h w) : isiF C [0] [] (kind h w) = some (isInt w || isBl w) := by
  cases w with
  | ref n => obtain ⟨xs, e⟩ := r; show isiF C [0] [] (kindC (h.get n)) = _; rw [e]; rfl
  | obj c fs => show (if C.contains c = true then some (List.any [] fun d => Nat.beq c d) else none) = _; rw [if_pos (show C.contains c = true from r)]; rfl
  | _ => first | exact False.elim r | rfl
theorem isi_bl (r : Rd C h w) : isiF C [1] [] (kind h w) = some (isBl w) := by
  cases w with
  | ref n => obtain ⟨xs, e⟩ := r; show isiF C [1] [] (kindC (h.get n)) = _; rw [e]; rfl
  | obj c fs => show (if C.contains c = true then some (List.any [] fun d => Nat.beq c d) else none) = _; rw [if_pos (show C.contains c = true from r)]; rfl
  | _ => first | exact False.elim r | rfl
end
structure LeafP where
  num : Int
  st : Int
  least : Option Int
  held : List Int
structure HouseP where
  rows : Int
  keeps : List Nat
  joins : List Nat
  again : Bool
  stamps : Option Int
  on : Bool
  changes : Option Int
structure TreeP where
  H : HouseP
  ls : List LeafP
  us : List (Int × Int)
def oiW : Option Int → W
  | none => .non
  | some i => .int i
def lw (l : LeafP) : W := .obj 1 [(15, .int l.num), (16, .int l.st), (17, oiW l.least), (18, .tup (l.held.map W.int))]
def hw (H : HouseP) : W := .obj 0 [(3, .int H.rows), (4, .str H.keeps), (5, .str H.joins), (6, .bl H.again), (7, oiW H.stamps), (8, .bl H.on), (9, oiW H.changes)]
def uW (p : Int × Int) : W × W := (.int p.1, .int p.2)
def treeC (T : TreeP) (u : Nat) : Cell := .ins 2 [(20, hw T.H), (21, .tup (T.ls.map lw)), (22, .ref u)]
structure TA (h : Hz) (t u : Nat) (T : TreeP) : Prop where
  tr : h.get t = some (treeC T u)
  un : h.get u = some (.dct (T.us.map uW))
theorem TA.ne {h : Hz} {t u : Nat} {T : TreeP} (a : TA h t u T) : t ≠ u := fun e => by
  have := a.tr
  rw [e, a.un] at this
  cases this
theorem TA.gro {h h' : Hz} {t u : Nat} {T : TreeP} (a : TA h t u T) (g : Gro h h') : TA h' t u T := ⟨g.get a.tr, g.get a.un⟩
def spotOf (n : Int) : List LeafP → Option Nat
  | [] => none
  | l :: ls => if l.num = n then some 0 else (spotOf n ls).map (· + 1)
def reaches (key : Int) (l : LeafP) : Bool := match l.least with
  | none => true
  | some m => decide (m ≤ key)
def homeFrom (key : Int) : Nat → Nat → List LeafP → Nat
  | _, acc, [] => acc
  | i, acc, l :: ls => homeFrom key (i + 1) (if reaches key l = true then i else acc) ls
def homeOf (key : Int) (ls : List LeafP) : Nat := homeFrom key 0 0 ls
def everyP (ls : List LeafP) : List Int := ls.flatMap (·.held)
def LeafP.but (l : LeafP) (hd : List Int) : LeafP := ⟨l.num, l.st + 1, l.least, hd⟩
def putP {α : Type} (i : Nat) (news : List α) (width : Nat) (ls : List α) : List α := ls.take i ++ news ++ ls.drop (i + width)
abbrev tKEY : List Nat := [107, 101, 121]
abbrev tROOM : List Nat := [114, 111, 111, 109]
abbrev tNUMBER : List Nat := [110, 117, 109, 98, 101, 114]
abbrev tFRESH : List Nat := [102, 114, 101, 115, 104]
abbrev tSTAMP : List Nat := [115, 116, 97, 109, 112]
abbrev tLOW : List Nat := [108, 111, 119]
abbrev tHIGH : List Nat := [104, 105, 103, 104]
abbrev tLEFT : List Nat := [108, 101, 102, 116]
abbrev tRIGHT : List Nat := [114, 105, 103, 104, 116]
abbrev tNONE : List Nat := [110, 111, 110, 101]
def uGet (k : Int) : List (Int × Int) → Option Int
  | [] => none
  | p :: r => if p.1 = k then some p.2 else uGet k r
def uSet (k v : Int) : List (Int × Int) → List (Int × Int)
  | [] => []
  | p :: r => if p.1 = k then (p.1, v) :: uSet k v r else p :: uSet k v r
def uPut (k v : Int) (us : List (Int × Int)) : List (Int × Int) := match uGet k us with
  | some _ => uSet k v us
  | none => us ++ [(k, v)]
def uDrop (k : Int) : List (Int × Int) → List (Int × Int)
  | [] => []
  | p :: r => if p.1 = k then uDrop k r else p :: uDrop k r
def goP (T : TreeP) (key : Int) : Except (List Nat) TreeP :=
  if key ∉ everyP T.ls then .error tKEY else
  match T.ls[homeOf key T.ls]? with
  | none => .error []
  | some l => .ok ⟨T.H, putP (homeOf key T.ls) [l.but (l.held.filter fun x => !decide (x = key))] 1 T.ls, T.us⟩
def withinP (T : TreeP) (i : Nat) (key : Int) : Bool :=
  (match T.ls[i]? with
    | some ⟨_, _, some m, _⟩ => decide (m < key)
    | _ => true) &&
  (match T.ls[i + 1]? with
    | some ⟨_, _, some m, _⟩ => decide (key < m)
    | _ => true)
def freshP (T : TreeP) (n : Int) : Bool := decide (0 ≤ n) && (spotOf n T.ls).isNone && (T.H.again || (uGet n T.us).isNone)
def stampP (T : TreeP) (n s : Int) : Int := match uGet n T.us with
  | none => 0
  | some v => if T.H.on = true then v + 1 else s
def splitP (T : TreeP) (n key fresh s : Int) : Except (List Nat) TreeP :=
  match spotOf n T.ls with
  | none => .error tNUMBER
  | some i => if withinP T i key = false then .error tKEY else if freshP T fresh = false then .error tFRESH else if s < 0 then .error tSTAMP else
    match T.ls[i]? with
    | none => .error []
    | some l =>
      let low := l.held.filter fun x => decide (x < key)
      let high := l.held.filter fun x => decide (key ≤ x)
      let b := stampP T fresh s
      let parts := if T.H.keeps = tLOW then [l.but low, ⟨fresh, b, some key, high⟩] else [⟨fresh, b, l.least, low⟩, ⟨n, l.st + 1, some key, high⟩]
      .ok ⟨T.H, putP i parts 1 T.ls, uDrop fresh T.us⟩
def joinP (T : TreeP) (n : Int) : Except (List Nat) TreeP :=
  match spotOf n T.ls with
  | none => .error tNUMBER
  | some i => if T.H.joins = tNONE then .error tNUMBER else
    match T.ls[i]?, T.ls[i + 1]? with
    | some l, some r => if T.H.rows < l.held.length + r.held.length then .error tROOM else
        let k := if T.H.joins = tLEFT then l else r
        let g := if T.H.joins = tLEFT then r else l
        .ok ⟨T.H, putP i [⟨k.num, k.st + 1, l.least, l.held ++ r.held⟩] 2 T.ls, uPut g.num g.st T.us⟩
    | _, _ => .error tNUMBER
section
variable {h : Hz} {t u : Nat} {T : TreeP}
theorem TA.ins (a : TA h t u T) : zins (.ref t) h = .ok (2, [(20, hw T.H), (21, .tup (T.ls.map lw)), (22, .ref u)]) h := by
  show (match h.get t with | some (.ins c fs) => R.ok (c, fs) h | _ => .err) = _
  rw [a.tr]
  rfl
theorem TA.lv (a : TA h t u T) : zfldW [2] 21 (.ref t) h = .ok (.tup (T.ls.map lw)) h := zfld_ok rfl a.tr rfl
theorem TA.hs (a : TA h t u T) : zfldW [2] 20 (.ref t) h = .ok (hw T.H) h := zfld_ok rfl a.tr rfl
theorem TA.us (a : TA h t u T) : zfldW [2] 22 (.ref t) h = .ok (.ref u) h := zfld_ok rfl a.tr rfl
theorem TA.dr (a : TA h t u T) : zdref (.ref u) h = .ok (u, T.us.map uW) h := by
  show (match h.get u with | some (.dct kvs) => R.ok (u, kvs) h | _ => .err) = _
  rw [a.un]
end
theorem lf15 {l : LeafP} : zfldW [1] 15 (lw l) = ret (.int l.num) := rfl
theorem lf16 {l : LeafP} : zfldW [1] 16 (lw l) = ret (.int l.st) := rfl
theorem lf17 {l : LeafP} : zfldW [1] 17 (lw l) = ret (oiW l.least) := rfl
theorem lf18 {l : LeafP} : zfldW [1] 18 (lw l) = ret (.tup (l.held.map W.int)) := rfl
theorem hf3 {H : HouseP} : zfldW [0] 3 (hw H) = ret (.int H.rows) := rfl
theorem hf4 {H : HouseP} : zfldW [0] 4 (hw H) = ret (.str H.keeps) := rfl
theorem hf5 {H : HouseP} : zfldW [0] 5 (hw H) = ret (.str H.joins) := rfl
theorem hf6 {H : HouseP} : zfldW [0] 6 (hw H) = ret (.bl H.again) := rfl
theorem hf8 {H : HouseP} : zfldW [0] 8 (hw H) = ret (.bl H.on) := rfl
theorem zv_lw {l : LeafP} : zvW (some (lw l)) = ret (lw l) := rfl
theorem zv_hw {l : HouseP} : zvW (some (hw l)) = ret (hw l) := rfl
theorem zv_oi {l : Option Int} : zvW (some (oiW l)) = ret (oiW l) := by cases l <;> rfl
theorem zins_lw {l : LeafP} : zins (lw l) = ret (1, [(15, .int l.num), (16, .int l.st), (17, oiW l.least), (18, .tup (l.held.map W.int))]) := rfl
theorem zfind_lw {mi i : Nat} {T : List (Nat × Nat)} {a b c d : W} (e : T.lookup 1 = some i) (n : ([15, 16, 17, 18].all fun j => !(mi == j)) = true) : zfind mi T (1, [(15, a), (16, b), (17, c), (18, d)]) = ret i := by
  simp only [List.all_cons, List.all_nil, Bool.and_true, Bool.and_eq_true, Bool.not_eq_true'] at n
  unfold zfind
  simp only [List.lookup, n.1, n.2.1, n.2.2.1, n.2.2.2, e, ofO]
theorem zfind_tr {mi i : Nat} {T : List (Nat × Nat)} {a b c : W} (e : T.lookup 2 = some i) (n : ([20, 21, 22].all fun j => !(mi == j)) = true) : zfind mi T (2, [(20, a), (21, b), (22, c)]) = ret i := by
  simp only [List.all_cons, List.all_nil, Bool.and_true, Bool.and_eq_true, Bool.not_eq_true'] at n
  unfold zfind
  simp only [List.lookup, n.1, n.2.1, n.2.2, e, ofO]
theorem mk_frozen {c n m : Nat} {g : List W → List W → List W} {fn : List W → M W} {ws qs : List W} {h : Hz} {P : List (Nat × W) → Prop} {E : Nat → List (Nat × W) → Hz → Prop}
    (hc : Wx (zcall (n + 1) m g fn (.ref h.n :: ws) qs (h.push (.ins c []))) (fun a h' => a = .non ∧ (∃ fs, h'.get h.n = some (.ins c fs) ∧ P fs) ∧ GroB h.n (h.push (.ins c [])) h') E) :
    Wx (zmkW true c n m g fn ws qs h) (fun a h' => (∃ fs, a = .obj c fs ∧ P fs) ∧ Gro h h') E := by
  unfold zmkW
  cases e : zcall (n + 1) m g fn (.ref h.n :: ws) qs (h.push (.ins c [])) with
  | ok a h' =>
    rw [e] at hc
    obtain ⟨ea, ⟨fs, e1, p⟩, gb⟩ := hc
    subst ea
    dsimp only
    rw [if_pos rfl, e1]
    refine ⟨⟨fs, rfl, p⟩, ⟨fun j hj => ?_, ?_⟩⟩
    · rw [Hz.get_put_ne e1 (Nat.ne_of_lt hj), gb.same j (Nat.lt_succ_of_lt hj) (Nat.ne_of_lt hj), Hz.get_push, if_neg (Nat.ne_of_lt hj)]
    · rw [Hz.put_n]
      exact Nat.le_trans (Nat.le_succ _) gb.size
  | exc c' fs h' => rw [e] at hc; exact hc
  | err => rw [e] at hc; exact hc
section
variable {pk : Pk} {F : Nat → Nat → List W → M W}
theorem int_ok (T : TwH pk F) {j : Nat} {h : Hz} {w : W} (r : Rd pk.C h w) : Ok (F (j + 2) 60 [w] h) fun a h' => a = .bl (isInt w) ∧ h' = h := by
  rw [T.e60]
  refine ok_run ?_
  show WxS (PK.is_integer _ _ _ _ [some w] h) _ _
  unfold PK.is_integer
  have e1 := isi_int r
  have e2 := isi_bl r
  cases w with
  | int i => simp! [r.zv, e1, e2, isInt, isBl, znotV, Bool.or_false]
  | bl b => simp! [r.zv, e1, e2, isInt, isBl, znotV, Bool.false_or]
  | _ => first | exact False.elim r | (simp! [r.zv, e1, isInt, isBl, Bool.false_or])
theorem wrd_ok (T : TwH pk F) {j : Nat} : WordOk pk.C (F (j + 3) 61) := by
  rw [T.e61]
  exact word_ok
def btw (w : W) (m : Int) : Bool := match w with
  | .int i => decide (1 ≤ i) && decide (i ≤ m)
  | _ => false
theorem btw_ok (T : TwH pk F) {j : Nat} {h : Hz} {w : W} {m : Int} (r : Rd pk.C h w) : Ok (F (j + 3) 62 [w, .int m] h) fun a h' => a = .bl (btw w m) ∧ h' = h := by
  rw [T.e62]
  refine ok_run ?_
  show WxS (PK.is_between _ _ _ _ [some w, some (.int m)] h) _ _
  unfold PK.is_between
  simp! [r.zv]
  refine (int_ok T r).to fun a h1 ⟨ea, eh⟩ => ?_
  subst ea eh
  cases w with
  | int i =>
    by_cases q : 1 ≤ i
    · simp! [isInt, zchain, zle, zint2, btw, q, decide_true, Bool.true_and]
    · simp! [isInt, zchain, zle, zint2, btw, q, decide_false, Bool.false_and]
  | _ => first | exact False.elim r | (simp! [isInt, btw])
abbrev wPARTS : List (List Nat) := [tLOW, tHIGH]
abbrev wJOINS : List (List Nat) := [tLEFT, tRIGHT, tNONE]
def faultW (a b c d e f g : W) : W :=
  if btw a 4 = false then .str [114, 111, 119, 115] else
  if memS wPARTS b = false then .str [107, 101, 101, 112, 115] else
  if memS wJOINS c = false then .str [106, 111, 105, 110, 115] else
  if isBl d = false then .str [97, 103, 97, 105, 110] else
  if (!isNonW e && !btw e 6) = true then .str [115, 116, 97, 109, 112, 115] else
  if isBl f = false then .str [111, 110] else
  if (isNonW g || btw g 3) = true then .non else .str [99, 104, 97, 110, 103, 101, 115]
theorem fault_ok (T : TwH pk F) {j : Nat} {h : Hz} {a b c d e f g : W} (ra : Rd pk.C h a) (rb : Rd pk.C h b) (rc : Rd pk.C h c) (rd : Rd pk.C h d) (re : Rd pk.C h e) (rf : Rd pk.C h f) (rg : Rd pk.C h g) :
    Ok (F (j + 4) 63 [a, b, c, d, e, f, g] h) fun x h' => x = faultW a b c d e f g ∧ h' = h := by
  rw [T.e63]
  refine ok_run ?_
  show WxS (PK.fault_of _ _ _ _ [some a, some b, some c, some d, some e, some f, some g] h) _ _
  unfold PK.fault_of faultW
  simp! [ra.zv]
  refine (btw_ok T ra).to fun x h1 ⟨ex, eh⟩ => ?_
  subst ex eh
  cases q1 : btw a 4 with
  | false => simp! []
  | true =>
  simp! [rb.zv]
  refine (wrd_ok T (ts := wPARTS) rb).to fun x h1 ⟨ex, eh⟩ => ?_
  subst ex eh
  cases q2 : memS wPARTS b with
  | false =>
    simp! [rb.zv]
    refine (wrd_ok T (ts := wPARTS) rb).to fun x h1 ⟨ex, eh⟩ => ?_
    subst ex eh
    simp! [q2]
  | true =>
  simp! [rc.zv]
  refine (wrd_ok T (ts := wJOINS) rc).to fun x h1 ⟨ex, eh⟩ => ?_
  subst ex eh
  cases q3 : memS wJOINS c with
  | false =>
    simp! [rb.zv]
    refine (wrd_ok T (ts := wPARTS) rb).to fun x h1 ⟨ex, eh⟩ => ?_
    subst ex eh
    simp! [q2]
  | true =>
  simp! [rd.zv, isi_bl rd]
  cases q4 : isBl d with
  | false => simp! []
  | true =>
  simp! [re.zv, zisnot]
  cases q5 : isNonW e with
  | true =>
    simp! [Bool.true_and, Bool.false_and]
    simp! [rf.zv, isi_bl rf]
    cases q6 : isBl f with
    | false => simp! []
    | true =>
    simp! [rg.zv, zis]
    cases q7 : isNonW g with
    | true => simp! [Bool.true_or]
    | false =>
    simp! [rg.zv, Bool.false_or]
    refine (btw_ok T rg).to fun x h3 ⟨ex, eh⟩ => ?_
    subst ex eh
    cases q8 : btw g 3 with
    | false => simp! []
    | true => simp! []
  | false =>
    simp! [re.zv, Bool.true_and]
    refine (btw_ok T re).to fun x h2 ⟨ex, eh⟩ => ?_
    subst ex eh
    cases q9 : btw e 6 with
    | false => simp! []
    | true =>
      simp! []
      simp! [rf.zv, isi_bl rf]
      cases q6 : isBl f with
      | false => simp! []
      | true =>
      simp! [rg.zv, zis]
      cases q7 : isNonW g with
      | true => simp! [Bool.true_or]
      | false =>
      simp! [rg.zv, Bool.false_or]
      refine (btw_ok T rg).to fun x h3 ⟨ex, eh⟩ => ?_
      subst ex eh
      cases q8 : btw g 3 with
      | false => simp! []
      | true => simp! []
end
end Z

namespace Z
section
variable {C : List Nat} {cr c f1 f2 f3 ec ef k : Nat} {cs : List Nat} {Fq Fw Fr : List W → M W}
abbrev dc2 (C : List Nat) (cr : Nat) (Fq : List W → M W) : Ev → M Bool := zor (znot (ztest (zfun (zcons (zvar 2) znil) znil (zcall 1 0 gId Fq)))) (znot (ztest (zb (one1 zallB) (zcons (zlc [3] (zit (zvar 2)) (.nm 3) (fun _ => ret true) (zisi (isiF C [] [cr]) (zvar 3))) znil))))
abbrev ds2 (C : List Nat) (cr ec ef k : Nat) (Fq : List W → M W) : MS := sif (dc2 C cr Fq) (sseq (gK k (sraise ec ef (zcons (fun _ => ret (.str [114, 111, 119, 115])) znil))) snil) snil
end
end Z

namespace Z
abbrev kGREAT : List Nat := [103, 114, 101, 97, 116]
abbrev kNOW : List Nat := [110, 111, 119]
abbrev kMIXED : List Nat := [109, 105, 120, 101, 100]
abbrev kTURN : List Nat := [116, 117, 114, 110]
def dealC (g : Nat) (n m t : Int) : Cell := .dct [(.str kGREAT, .ref g), (.str kNOW, .int n), (.str kMIXED, .int m), (.str kTURN, .int t)]
structure Deal (h : Hz) (d g : Nat) : Prop where
  ex : ∃ n m t, h.get d = some (dealC g n m t)
  gr : ∃ gs : List Int, h.get g = some (.lst (gs.map W.int)) ∧ gs.length ≤ 64
theorem Deal.ne {h : Hz} {d g : Nat} (a : Deal h d g) : d ≠ g := fun e => by
  obtain ⟨n, m, t, e1⟩ := a.ex
  obtain ⟨gs, e2, _⟩ := a.gr
  rw [e, e2] at e1
  cases e1
theorem Deal.lt {h : Hz} {d g : Nat} (a : Deal h d g) : d < h.n ∧ g < h.n := by
  obtain ⟨n, m, t, e1⟩ := a.ex
  obtain ⟨gs, e2, _⟩ := a.gr
  exact ⟨Hz.get_lt e1, Hz.get_lt e2⟩
theorem Deal.gro {h h' : Hz} {d g : Nat} (a : Deal h d g) (r : Gro h h') : Deal h' d g := by
  obtain ⟨n, m, t, e1⟩ := a.ex
  obtain ⟨gs, e2, l⟩ := a.gr
  exact ⟨⟨n, m, t, r.get e1⟩, ⟨gs, r.get e2, l⟩⟩
structure But2 (d g : Nat) (h h' : Hz) : Prop where
  same : ∀ j, j ≠ d → j ≠ g → h'.get j = h.get j
  size : h'.n = h.n
theorem But2.refl (d g : Nat) (h : Hz) : But2 d g h h := ⟨fun _ _ _ => rfl, rfl⟩
theorem But2.trans {d g : Nat} {h h1 h2 : Hz} (a : But2 d g h h1) (b : But2 d g h1 h2) : But2 d g h h2 := ⟨fun j x y => (b.same j x y).trans (a.same j x y), b.size.trans a.size⟩
theorem But2.get {d g : Nat} {h h' : Hz} (a : But2 d g h h') {j : Nat} {c : Cell} (e : h.get j = some c) (x : j ≠ d) (y : j ≠ g) : h'.get j = some c := (a.same j x y).trans e
section
variable {h : Hz} {d g : Nat} {n m t : Int}
theorem dref_of {kvs : List (W × W)} (e : h.get d = some (.dct kvs)) : zdref (.ref d) h = .ok (d, kvs) h := by
  show (match h.get d with | some (.dct xs) => R.ok (d, xs) h | _ => .err) = _
  rw [e]
end
section
variable {pk : Pk} {F : Nat → Nat → List W → M W}
structure Gro2 (d g : Nat) (h h' : Hz) : Prop where
  same : ∀ j, j < h.n → j ≠ d → j ≠ g → h'.get j = h.get j
  size : h.n ≤ h'.n
theorem Gro2.refl (d g : Nat) (h : Hz) : Gro2 d g h h := ⟨fun _ _ _ _ => rfl, Nat.le_refl _⟩
theorem Gro2.trans {d g : Nat} {h h1 h2 : Hz} (a : Gro2 d g h h1) (b : Gro2 d g h1 h2) : Gro2 d g h h2 := ⟨fun j hj x y => (b.same j (Nat.lt_of_lt_of_le hj a.size) x y).trans (a.same j hj x y), Nat.le_trans a.size b.size⟩
theorem Gro.g2 {d g : Nat} {h h' : Hz} (a : Gro h h') : Gro2 d g h h' := ⟨fun j hj _ _ => a.same j hj, a.size⟩
theorem But2.g2 {d g : Nat} {h h' : Hz} (a : But2 d g h h') : Gro2 d g h h' := ⟨fun j _ x y => a.same j x y, Nat.le_of_eq a.size.symm⟩
theorem Gro2.get {d g : Nat} {h h' : Hz} (a : Gro2 d g h h') {j : Nat} {c : Cell} (e : h.get j = some c) (x : j ≠ d) (y : j ≠ g) : h'.get j = some c := (a.same j (Hz.get_lt e) x y).trans e
theorem Gro2.put {d g : Nat} {h h' : Hz} {j : Nat} {c o : Cell} (a : Gro2 d g h h') (e : h'.get j = some o) (hj : h.n ≤ j) : Gro2 d g h (h'.put j c) := ⟨fun i hi x y => by rw [Hz.get_put_ne e (by omega)]; exact a.same i hi x y, by rw [Hz.put_n]; exact a.size⟩
theorem Deal.put {h : Hz} {d g j : Nat} {c o : Cell} (D : Deal h d g) (e : h.get j = some o) (n1 : j ≠ d) (n2 : j ≠ g) : Deal (h.put j c) d g := by
  obtain ⟨⟨n, m, t, e1⟩, gs, e2, l⟩ := D
  exact ⟨⟨n, m, t, by rw [Hz.get_put_ne e n1.symm]; exact e1⟩, gs, by rw [Hz.get_put_ne e n2.symm]; exact e2, l⟩
theorem app_ok {h : Hz} {i : Nat} {xs : List W} {x : W} (e : h.get i = some (.lst xs)) (l : xs.length < 100000) : mAppend (.ref i) [x] h = .ok .non (h.put i (.lst (xs ++ [x]))) := by
  have c : xs.length < LIM := Nat.lt_trans l (by decide)
  show bnd (zlref (.ref i)) (fun q => if q.2.length < LIM then bnd (store q.1 (.lst (q.2 ++ [x]))) fun _ => ret W.non else bad) h = _
  rw [bnd_ok (zlref_ref e)]
  dsimp only
  rw [if_pos c]
  rfl
end
end Z

namespace Z
structure TwT (pk : Pk) (F : Nat → Nat → List W → M W) : Prop extends TwH pk F where
  e69 : Dfn pk F 69 6 PK.first_leaves
  e70 : Dfn pk F 70 5 PK.Leaf_init
  e71 : Dfn pk F 71 1 PK.Leaf_shown
  e72 : Dfn pk F 72 2 PK.Leaf_but
  e73 : Dfn pk F 73 4 PK.Tree_init
  e74 : Dfn pk F 74 2 PK.Tree_pages
  e75 : Dfn pk F 75 3 PK.Tree_every
  e77 : Dfn pk F 77 4 PK.Tree_spot_for
  e80 : Dfn pk F 80 4 PK.Tree_put
  m12 : (pk.mt 12).lookup 1 = some 72
  m19 : (pk.mt 19).lookup 1 = some 71
  m26 : (pk.mt 26).lookup 2 = some 77
  m29 : (pk.mt 29).lookup 2 = some 80
  p23 : (pk.pt 23).lookup 2 = some 74
  p24 : (pk.pt 24).lookup 2 = some 75
structure TwS (pk : Pk) (F : Nat → Nat → List W → M W) : Prop where
  e76 : Dfn pk F 76 5 PK.Tree_spot_of
  m25 : (pk.mt 25).lookup 2 = some 76
section
variable {pk : Pk} {F : Nat → Nat → List W → M W}
theorem leaf_mk (T : TwT pk F) {j : Nat} {n s : Int} {l : Option Int} {hd : List Int} {h : Hz} :
    Ok (zmkW true 1 4 0 gId (F (j + 2) 70) [.int n, .int s, oiW l, .tup (hd.map W.int)] [] h) fun a h' => a = lw ⟨n, s, l, hd⟩ ∧ Gro h h' := by
  have e0 : (h.push (.ins 1 [])).get h.n = some (.ins 1 []) := Hz.get_push_self _ _
  have f1 := fldW_ok (cs := [1]) (f := 15) (y := .int n) rfl e0 (by simp)
  have e1 := Hz.get_put_self (c := .ins 1 (putW 15 (.int n) [])) e0
  have f2 := fldW_ok (cs := [1]) (f := 16) (y := .int s) rfl e1 (by simp [putW])
  have e2 := Hz.get_put_self (c := .ins 1 (putW 16 (.int s) (putW 15 (.int n) []))) e1
  have f3 := fldW_ok (cs := [1]) (f := 17) (y := oiW l) rfl e2 (by simp [putW])
  have e3 := Hz.get_put_self (c := .ins 1 (putW 17 (oiW l) (putW 16 (.int s) (putW 15 (.int n) [])))) e2
  have f4 := fldW_ok (cs := [1]) (f := 18) (y := .tup (hd.map W.int)) rfl e3 (by simp [putW])
  have e4 := Hz.get_put_self (c := .ins 1 (putW 18 (.tup (hd.map W.int)) (putW 17 (oiW l) (putW 16 (.int s) (putW 15 (.int n) []))))) e3
  have q := mk_frozen (c := 1) (n := 4) (m := 0) (g := gId) (fn := F (j + 2) 70) (ws := [.int n, .int s, oiW l, .tup (hd.map W.int)]) (qs := []) (h := h) (E := noE) (P := fun fs => W.obj 1 fs = lw ⟨n, s, l, hd⟩) (by
    simp! []
    rw [T.e70]
    refine wx_run ?_
    show WxS (PK.Leaf_init _ _ _ _ [some (.ref h.n), some (.int n), some (.int s), some (oiW l), some (.tup (hd.map W.int))] (h.push (.ins 1 []))) _ _
    unfold PK.Leaf_init
    simp! [sfld, f1, f2, f3, f4, zv_oi]
    exact ⟨⟨_, e4, rfl⟩, ((((GroB.refl h.n _).put e0).put e1).put e2).put e3⟩)
  refine q.ok.imp fun a h' ⟨⟨fs, ea, ef⟩, g⟩ => ⟨ea.trans ef, g⟩
theorem lbut_ok (T : TwT pk F) {j : Nat} {l : LeafP} {hd : List Int} {h : Hz} : Ok (F (j + 4) 72 [lw l, .tup (hd.map W.int)] h) fun a h' => a = lw (l.but hd) ∧ Gro h h' := by
  rw [T.e72]
  refine ok_run ?_
  show WxS (PK.Leaf_but _ _ _ _ [some (lw l), some (.tup (hd.map W.int))] h) _ _
  unfold PK.Leaf_but
  simp! [zv_lw, lf15, lf16, lf17, zadd]
  exact (leaf_mk T).to fun a h' q => q
theorem every_ok (T : TwT pk F) {j : Nat} {t u : Nat} {Tr : TreeP} {h : Hz} (a : TA h t u Tr) (l : (everyP Tr.ls).length ≤ 1000) : Ok (F (j + 2) 75 [.ref t] h) fun w h' => w = .tup ((everyP Tr.ls).map W.int) ∧ Gro h h' := by
  rw [T.e75]
  refine ok_run ?_
  show WxS (PK.Tree_every _ _ _ _ [some (.ref t), none, none] h) _ _
  unfold PK.Tree_every
  simp! []
  have el : ((Tr.ls.filter fun _ => true).flatMap fun x => ((x.held).filter (fun _ => true)).map W.int) = (everyP Tr.ls).map W.int := by
    rw [List.filter_eq_self.mpr (fun _ _ => rfl), everyP, List.map_flatMap]
    congr 1
    funext x
    rw [List.filter_eq_self.mpr (fun _ _ => rfl)]
  refine Ok.to (zlc2_typ (xs := Tr.ls) (f := lw) (ρf := fun l => [some (.ref t), some (lw l), none]) (t := fun _ => true) (gs := fun l => l.held) (f1 := W.int) (ρ1 := fun l i => [some (.ref t), some (lw l), some (.int i)]) (t1 := fun _ _ => true) (e := fun _ i => W.int i) ?_ (fun x _ => rfl) (fun x _ h' _ => ⟨rfl, rfl⟩) (fun x _ h' _ => ⟨rfl, rfl⟩) (fun x _ y _ => rfl) (fun x _ y _ h' _ => ⟨rfl, rfl⟩) (fun x _ y _ h' _ => ⟨rfl, rfl⟩) ?_) fun w h' ⟨n, ew, en, g, _⟩ => ?_
  · show Ok (zit (zfld [2] 21 (zvar 0)) [some (.ref t), none, none] h) _
    simp only [zit, zfld, zvar_eq, List.getD_cons_zero, zv_ref, bnd, ret, a.lv]
    exact itb_tup
  · rw [el, List.length_map]; omega
  · subst ew
    simp! [ztuple, zseq_ref en]
    exact ⟨by rw [el], g⟩
end
end Z

namespace Z
def spotW (ls : List LeafP) : W → W
  | .int n => (match spotOf n ls with | some i => .int (i : Nat) | none => .non)
  | _ => .non
theorem spot_enum {n : Int} : ∀ (ls : List LeafP) (i : Nat), match spotOf n ls with
    | none => ((enumL i ls).filter fun p => decide (p.2.num = n)) = []
    | some k => ∃ l r, ((enumL i ls).filter fun p => decide (p.2.num = n)) = (i + k, l) :: r
  | [], i => rfl
  | l :: ls, i => by
    have ih := spot_enum (n := n) ls (i + 1)
    unfold spotOf enumL
    by_cases q : l.num = n
    · rw [if_pos q, List.filter_cons_of_pos (by simpa using q)]
      exact ⟨l, _, rfl⟩
    · rw [if_neg q, List.filter_cons_of_neg (by simpa using q)]
      cases e : spotOf n ls with
      | none => rw [e] at ih; exact ih
      | some k =>
        rw [e] at ih
        obtain ⟨l', r, e1⟩ := ih
        refine ⟨l', r, ?_⟩
        rw [e1, show i + 1 + k = i + (k + 1) by omega]
theorem home_max {key : Int} : ∀ (ls : List LeafP) (i acc : Nat), acc < i → maxI (acc : Int) (((enumL i ls).filter fun p => reaches key p.2).map fun p => (p.1 : Int)) = (homeFrom key i acc ls : Nat)
  | [], i, acc, _ => rfl
  | l :: ls, i, acc, h => by
    unfold enumL homeFrom
    by_cases q : reaches key l = true
    · rw [if_pos q, List.filter_cons_of_pos (by simpa using q), List.map_cons]
      unfold maxI
      have : ltI (acc : Int) (i : Int) = true := ltI_iff.mpr (by omega)
      dsimp only
      rw [this]
      exact home_max ls (i + 1) i (Nat.lt_succ_self _)
    · rw [if_neg q, List.filter_cons_of_neg (by simpa using q)]
      exact home_max ls (i + 1) acc (by omega)
theorem asIs_map : ∀ is : List Int, asIs (is.map W.int) = some is
  | [] => rfl
  | i :: is => by
    rw [List.map_cons]
    unfold asIs
    rw [asIs_map is]
theorem homeFrom_lt {key : Int} : ∀ (ls : List LeafP) (i acc : Nat), acc < i → homeFrom key i acc ls < i + ls.length ∧ acc ≤ homeFrom key i acc ls
  | [], i, acc, h => ⟨h, Nat.le_refl _⟩
  | l :: ls, i, acc, h => by
    unfold homeFrom
    by_cases q : reaches key l = true
    · rw [if_pos q]
      have := homeFrom_lt (key := key) ls (i + 1) i (Nat.lt_succ_self _)
      rw [List.length_cons]
      omega
    · rw [if_neg q]
      have := homeFrom_lt (key := key) ls (i + 1) acc (by omega)
      rw [List.length_cons]
      omega
theorem homeOf_cons {key : Int} {l : LeafP} {ls : List LeafP} : homeOf key (l :: ls) = homeFrom key 1 0 ls := by
  show homeFrom key (0 + 1) (if reaches key l = true then 0 else 0) ls = _
  rw [ite_self]
theorem homeOf_lt {key : Int} {ls : List LeafP} (h : ls ≠ []) : homeOf key ls < ls.length := by
  cases ls with
  | nil => exact absurd rfl h
  | cons l ls =>
    rw [homeOf_cons, List.length_cons]
    have := (homeFrom_lt (key := key) ls 1 0 (by omega)).1
    omega
theorem atI_zero {α : Type} {x : α} {xs : List α} : L2.atI (x :: xs) 0 = some x := by
  unfold L2.atI L2.ixN
  rw [if_pos (Int.le_refl _), if_pos (by rw [List.length_cons]; omega)]
  rfl
theorem atI_at {α : Type} {xs : List α} {i : Nat} {x : α} (e : xs[i]? = some x) : L2.atI xs (i : Int) = some x := by
  have hl : i < xs.length := (List.getElem?_eq_some_iff.mp e).1
  unfold L2.atI L2.ixN
  rw [if_pos (by omega), if_pos (by omega), Int.toNat_natCast]
  exact e
theorem zcut_tup {ws : List W} {lo hi : Option Int} : zcut (.tup ws) lo hi = ret (.tup (cutW ws lo hi)) := rfl
theorem zseq_tup {ws : List W} : zseq (.tup ws) = ret (true, ws) := rfl
theorem zix_tup {ws : List W} {i : Nat} {w : W} (e : ws[i]? = some w) : zix (.tup ws) (.int i) = ret w := by
  show bnd (zseq (.tup ws)) (fun p => ofO (L2.atI p.2 i)) = _
  funext h
  show ofO (L2.atI ws i) h = _
  rw [atI_at e]
  rfl
section
variable {pk : Pk} {F : Nat → Nat → List W → M W} {t u : Nat} {Tr : TreeP}
theorem spot_ok (T : TwT pk F) (Ts : TwS pk F) {j : Nat} {h : Hz} {w : W} (a : TA h t u Tr) (l : Tr.ls.length ≤ 1000) (r : Rd pk.C h w) : Ok (F (j + 3) 76 [.ref t, w] h) fun x h' => x = spotW Tr.ls w ∧ Gro h h' := by
  rw [Ts.e76]
  refine ok_run ?_
  show WxS (PK.Tree_spot_of _ _ _ _ [some (.ref t), some w, none, none, none] h) _ _
  unfold PK.Tree_spot_of
  simp! [r.zv]
  refine (int_ok T.toTwH r).to fun x h1 ⟨ex, eh⟩ => ?_
  subst ex eh
  cases w with
  | int n =>
    simp! [isInt]
    refine Ok.to (zlc_typ (xs := enumL 0 Tr.ls) (f := nwW lw) (ρf := fun p => [some (.ref t), some (.int n), none, some (.int p.1), some (lw p.2)]) (t := fun p => decide (p.2.num = n)) (e := fun p => .int p.1) ?_ (by rw [enumL_len]; omega) (fun x _ => rfl) (fun x _ h' _ => ?_) (fun x _ h' g _ => ⟨rfl, Gro.refl _⟩)) fun w h' ⟨m, ew, en, g, _⟩ => ?_
    · show Ok (zitE (zfld [2] 21 (zvar 0)) [some (.ref t), some (.int n), none, none, none] h1) _
      simp only [zitE, zfld, zvar_eq, List.getD_cons_zero, zv_ref, bnd, ret, a.lv]
      exact itq_enum
    · refine Wx.ok ?_
      simp! [zv_lw, lf15, eq_int]
      exact Gro.refl _
    · subst ew
      have q := spot_enum (n := n) Tr.ls 0
      cases e : spotOf n Tr.ls with
      | none =>
        rw [e] at q
        rw [q, List.map_nil] at en
        have z0 : ¬ ((0 : Int) < ((0 : Nat) : Int)) := by decide
        simp! [zlen_ref' en, zgt, zint2, z0, decide_false, spotW, e]
        exact g
      | some k =>
        rw [e] at q
        obtain ⟨l', r', eq⟩ := q
        rw [eq, List.map_cons, Nat.zero_add] at en
        have z0 : ∀ m : Nat, ((0 : Int) < ((m + 1 : Nat) : Int)) := fun m => by omega
        have z1 : L2.atI (W.int (k : Nat) :: List.map (fun p : Nat × LeafP => W.int (p.1 : Nat)) r') 0 = some (W.int (k : Nat)) := atI_zero
        simp! [zlen_ref' en, zgt, zint2, z0, decide_true, zix_ref, en, spotW, e, z1]
        exact g
  | _ => first | exact False.elim r | (simp! [isInt, spotW]; exact Gro.refl _)
theorem home_ok (T : TwT pk F) {j : Nat} {h : Hz} {key : Int} (a : TA h t u Tr) (l : Tr.ls.length ≤ 1000) {l0 : LeafP} {ls0 : List LeafP} (e0 : Tr.ls = l0 :: ls0) (n0 : l0.least = none) : Ok (F (j + 2) 77 [.ref t, .int key] h) fun x h' => x = .int (homeOf key Tr.ls : Nat) ∧ Gro h h' := by
  rw [T.e77]
  refine ok_run ?_
  show WxS (PK.Tree_spot_for _ _ _ _ [some (.ref t), some (.int key), none, none] h) _ _
  unfold PK.Tree_spot_for
  simp! []
  refine Ok.to (zlc_typ (xs := enumL 0 Tr.ls) (f := nwW lw) (ρf := fun p => [some (.ref t), some (.int key), some (.int p.1), some (lw p.2)]) (t := fun p => reaches key p.2) (e := fun p => .int p.1) ?_ (by rw [enumL_len]; omega) (fun x _ => rfl) (fun x _ h' _ => ?_) (fun x _ h' g _ => ?_)) fun w h' ⟨m, ew, en, g, _⟩ => ?_
  · show Ok (zitE (zfld [2] 21 (zvar 0)) [some (.ref t), some (.int key), none, none] h) _
    simp only [zitE, zfld, zvar_eq, List.getD_cons_zero, zv_ref, bnd, ret, a.lv]
    exact itq_enum
  · refine Wx.ok ?_
    cases e : x.2.least with
    | none =>
      simp! [zv_lw, lf17, e, oiW, zis, isNonW, reaches]
      exact Gro.refl _
    | some m =>
      simp! [zv_lw, lf17, e, oiW, zis, isNonW, reaches, zle, zint2]
      exact Gro.refl _
  · exact ⟨rfl, Gro.refl _⟩
  · subst ew
    have e1 : (((enumL 0 Tr.ls).filter fun p => reaches key p.2).map fun p => W.int (p.1 : Nat)) = ((0 : Int) :: ((enumL 1 ls0).filter fun p => reaches key p.2).map fun p => (p.1 : Int)).map W.int := by
      rw [e0]
      have r0 : reaches key l0 = true := by unfold reaches; rw [n0]
      show List.map _ (List.filter _ ((0, l0) :: enumL 1 ls0)) = _
      rw [List.filter_cons_of_pos (by simpa using r0), List.map_cons, List.map_cons, List.map_map]
      rfl
    rw [e1] at en
    have e2 := home_max (key := key) ls0 1 0 (by omega)
    have e3 : homeOf key Tr.ls = homeFrom key 1 0 ls0 := by rw [e0, homeOf_cons]
    simp! [zmaxI, zseq_ref en, asIs_map]
    refine ⟨?_, g⟩
    rw [e3]
    exact congrArg W.int e2
theorem TA.put {h : Hz} (a : TA h t u Tr) (ls : List LeafP) : TA (h.put t (treeC ⟨Tr.H, ls, Tr.us⟩ u)) t u ⟨Tr.H, ls, Tr.us⟩ := ⟨Hz.get_put_self a.tr, by rw [Hz.get_put_ne a.tr a.ne.symm]; exact a.un⟩
theorem cut_none_nat {α : Type} {xs : List α} {i : Nat} : cutW xs none (some (i : Int)) = xs.take i := by
  unfold cutW
  rw [HT.sIx_none, show HT.sIx xs.length xs.length (some (i : Int)) = min i xs.length from HT.sIx_nat xs.length xs.length i, List.drop_zero, Nat.sub_zero]
  rcases Nat.le_total xs.length i with q | q
  · rw [Nat.min_eq_right q, List.take_of_length_le (Nat.le_refl _), List.take_of_length_le q]
  · rw [Nat.min_eq_left q]
theorem cut_nat_none {α : Type} {xs : List α} {i : Nat} : cutW xs (some (i : Int)) none = xs.drop i := by
  unfold cutW
  rw [HT.sIx_none, show HT.sIx xs.length 0 (some (i : Int)) = min i xs.length from HT.sIx_nat xs.length 0 i]
  rcases Nat.le_total xs.length i with q | q
  · rw [Nat.min_eq_right q, List.drop_eq_nil_of_le (Nat.le_refl _), List.drop_eq_nil_of_le q, List.take_nil]
  · rw [Nat.min_eq_left q, List.take_of_length_le (by rw [List.length_drop]; exact Nat.le_refl _)]
theorem put_ok (T : TwT pk F) {j : Nat} {h : Hz} {i w n : Nat} {news : List LeafP} (a : TA h t u Tr) (l : Tr.ls.length ≤ 1000) (ln : news.length ≤ 1000) (en : h.get n = some (.lst (news.map lw))) :
    Ok (F (j + 2) 80 [.ref t, .int i, .ref n, .int w] h) fun x h' => x = .non ∧ h' = h.put t (treeC ⟨Tr.H, putP i news w Tr.ls, Tr.us⟩ u) := by
  rw [T.e80]
  refine ok_run ?_
  show WxS (PK.Tree_put _ _ _ _ [some (.ref t), some (.int i), some (.ref n), some (.int w)] h) _ _
  unfold PK.Tree_put
  have e1 : ((i : Int) + (w : Int)) = ((i + w : Nat) : Int) := rfl
  have el : (Tr.ls.map lw).take i ++ ((news.map lw) ++ ((Tr.ls.map lw).drop (i + w) ++ [])) = (putP i news w Tr.ls).map lw := by
    unfold putP
    rw [List.append_nil, List.map_append, List.map_append, List.map_take, List.map_drop, List.append_assoc]
  have lp : ((putP i news w Tr.ls).map lw).length ≤ LIM := by
    rw [List.length_map]
    unfold putP
    rw [List.length_append, List.length_append, List.length_take, List.length_drop]
    exact Nat.le_trans (by omega : _ ≤ 3000) (by decide)
  have f1 := fldW_ok (cs := [2]) (f := 21) (y := .tup ((putP i news w Tr.ls).map lw)) rfl a.tr (by simp)
  simp! [sfld, zstar, a.lv, zcut_tup, cut_none_nat, cut_nat_none, zseq_tup, zseq_ref en, zadd, e1, el, lp, f1]
  rfl
end
end Z

namespace Z
structure TreeP.Wf (T : TreeP) : Prop where
  hd : ∃ l ls, T.ls = l :: ls ∧ l.least = none ∧ ∀ x ∈ ls, ∃ m, x.least = some m
  len : T.ls.length ≤ 200
  cap : ∀ l ∈ T.ls, (l.held.length : Int) ≤ T.H.rows
  rows : T.H.rows ≤ 4
theorem every_len {c : Nat} : ∀ ls : List LeafP, (∀ l ∈ ls, l.held.length ≤ c) → (everyP ls).length ≤ c * ls.length
  | [], _ => Nat.zero_le _
  | l :: ls, h => by
    show (l.held ++ everyP ls).length ≤ _
    have := every_len ls fun x hx => h x (List.mem_cons_of_mem _ hx)
    have h0 := h l (List.mem_cons_self ..)
    rw [List.length_append, List.length_cons, Nat.mul_succ]
    omega
theorem TreeP.Wf.ev {T : TreeP} (w : T.Wf) : (everyP T.ls).length ≤ 800 := by
  have := every_len (c := 4) T.ls fun l hl => by have := w.cap l hl; have := w.rows; omega
  have := w.len
  omega
theorem TreeP.Wf.ne {T : TreeP} (w : T.Wf) : T.ls ≠ [] := by
  obtain ⟨l, ls, e, _⟩ := w.hd
  rw [e]
  exact List.cons_ne_nil _ _
theorem zany_int {E : ET} {h : Hz} {n : Nat} {y : Int} : ∀ is : List Int, zany (fun w => zeq E h (n + 1) w (.int y)) (is.map W.int) = some (decide (y ∈ is))
  | [] => rfl
  | i :: is => by
    have e : zeq E h (n + 1) (.int i) (.int y) = some (decide (i = y)) := rfl
    rw [List.map_cons]
    unfold zany
    rw [e, zany_int is]
    by_cases q : i = y
    · subst q
      simp
    · by_cases q2 : y ∈ is
      · simp [q, q2]
      · have : y ≠ i := fun z => q z.symm
        simp [q, q2, this]
theorem znotin_int {E : ET} {h : Hz} {n : Nat} {y : Int} {is : List Int} : znotin E (n + 1) (.int y) (.tup (is.map W.int)) h = .ok (.bl (!decide (y ∈ is))) h := by
  have : zinK E (n + 1) h (.int y) (.tup (is.map W.int)) = some (decide (y ∈ is)) := zany_int _
  unfold znotin
  rw [this]
theorem ne_int {E : ET} {n : Nat} {i j : Int} {h : Hz} : zcmpNe E (n + 1) (.int i) (.int j) h = .ok (.bl (!decide (i = j))) h := rfl
def dnT (h : Hz) (t u : Nat) (r : Except (List Nat) TreeP) (x : W) (h' : Hz) : Prop := x = .non ∧ ∃ T', r = .ok T' ∧ TA h' t u T' ∧ Gro2 t u h h'
def rfT (h : Hz) (r : Except (List Nat) TreeP) (c : Nat) (fs : List (Nat × W)) (h' : Hz) : Prop := c = 21 ∧ ∃ s, r = .error s ∧ fs = [(2, .str s)] ∧ Gro h h'
def goW (T : TreeP) : W → Except (List Nat) TreeP
  | .int k => goP T k
  | _ => .error tKEY
section
variable {pk : Pk} {F : Nat → Nat → List W → M W} {t u : Nat} {Tr : TreeP}
theorem dd80 : ∀ a b c : W, [a, b, c] ++ PK.dd_80_3 = [a, b, c, .int (1 : Nat)] := fun _ _ _ => rfl
theorem put1_ok (T : TwT pk F) {j : Nat} {h : Hz} {i : Nat} {l' : LeafP} (a : TA h t u Tr) (l : Tr.ls.length ≤ 1000) {n : Nat} (en : h.get n = some (.lst [lw l'])) :
    Ok (F (j + 2) 80 [.ref t, .int i, .ref n, .int (1 : Nat)] h) fun x h' => x = .non ∧ TA h' t u ⟨Tr.H, putP i [l'] 1 Tr.ls, Tr.us⟩ ∧ Gro2 t u h h' :=
  (put_ok T (news := [l']) a l (by simp) en).imp fun x h' ⟨e1, e2⟩ => ⟨e1, by subst e2; exact a.put _, by subst e2; exact ⟨fun k hk n1 n2 => by rw [Hz.get_put_ne a.tr n1], by rw [Hz.put_n]; exact Nat.le_refl _⟩⟩
theorem go_ok (T : TwT pk F) (e82 : Dfn pk F 82 5 PK.Tree_go) {j : Nat} {h : Hz} {w : W} (a : TA h t u Tr) (wf : Tr.Wf) (r : Rd pk.C h w) :
    Wx (F (j + 5) 82 [.ref t, w] h) (dnT h t u (goW Tr w)) (rfT h (goW Tr w)) := by
  rw [e82]
  refine wx_run ?_
  show WxS (PK.Tree_go _ _ _ _ [some (.ref t), some w, none, none, none] h) _ _
  unfold PK.Tree_go
  have g3 : ∀ m : MS, gK (j + 3) m = m := fun _ => rfl
  simp! [r.zv]
  refine (int_ok T.toTwH r).to fun x h1 ⟨ex, eh⟩ => ?_
  subst ex eh
  have le := wf.len
  cases w with
  | int key =>
    simp! [isInt, zprop, a.ins, T.p24, ofO]
    refine (every_ok T a (Nat.le_trans wf.ev (by decide))).to fun x h2 ⟨ex, g2⟩ => ?_
    subst ex
    simp! [znotin_int]
    by_cases q : key ∈ everyP Tr.ls
    · have a2 := a.gro g2
      obtain ⟨l0, ls0, e0, n0, _⟩ := wf.hd
      simp! [q, decide_true, zmeth, a2.ins, zfind_tr (mi := 26) T.m26 rfl]
      refine (home_ok T a2 (by omega) e0 n0).to fun x h3 ⟨ex, g3'⟩ => ?_
      subst ex
      have a3 := a2.gro g3'
      have hl := homeOf_lt (key := key) wf.ne
      generalize hh : homeOf key Tr.ls = i at hl
      have ei : Tr.ls[i]? = some Tr.ls[i] := List.getElem?_eq_getElem hl
      have em : (Tr.ls.map lw)[i]? = some (lw Tr.ls[i]) := by rw [List.getElem?_map, ei]; rfl
      have mem : Tr.ls[i] ∈ Tr.ls := List.getElem_mem hl
      generalize Tr.ls[i] = lf at ei em mem
      have cp := wf.cap lf mem
      have cr := wf.rows
      simp! [a3.lv, zix_tup em, zv_lw, a3.ins, zfind_tr (mi := 29) T.m29 rfl, zins_lw, zfind_lw (mi := 12) T.m12 rfl]
      refine Ok.to (zlc_typ (xs := lf.held) (f := W.int) (ρf := fun k => [some (.ref t), some (.int key), some (.int i), some (lw lf), some (.int k)]) (t := fun k => !decide (k = key)) (e := fun k => .int k) ?_ (by omega) (fun x _ => rfl) (fun x _ h' _ => ?_) (fun x _ h' g _ => ⟨rfl, Gro.refl _⟩)) fun w h4 ⟨n, ew, en, g4, _⟩ => ?_
      · show Ok (zit (zfld [1] 18 (zvar 3)) [some (.ref t), some (.int key), some (.int i), some (lw lf), none] h3) _
        simp only [zit, zfld, zvar_eq, List.getD_cons_zero, List.getD_cons_succ, zv_lw, bnd, ret, lf18]
        exact itq_tup
      · refine Wx.ok ?_
        simp! [ne_int]
        exact Gro.refl _
      · subst ew
        simp! [ztuple, zseq_ref en]
        refine (lbut_ok T).to fun x h6 ⟨ex, g6⟩ => ?_
        subst ex
        have a6 := (a3.gro g4).gro g6
        have gp := Gro.push h6 (.lst [lw (lf.but (lf.held.filter fun k => !decide (k = key)))])
        simp! [lim1, dd80, List.length_append]
        refine (put1_ok T (a6.gro gp) (by omega) (Hz.get_push_self _ _)).to fun x h7 ⟨ex, a7, g7⟩ => ?_
        subst ex
        refine ⟨rfl, _, ?_, a7, ((((g2.trans g3').trans g4).trans g6).trans gp).g2.trans g7⟩
        show goP Tr key = _
        unfold goP
        rw [if_neg (fun z => z q), hh, ei]
    · simp! [q, decide_false, g3]
      exact ⟨rfl, tKEY, by show goP Tr key = _; unfold goP; rw [if_pos q], rfl, g2⟩
  | _ =>
    first
      | exact False.elim r
      | (simp! [isInt, g3]
         exact ⟨rfl, tKEY, rfl, rfl, Gro.refl _⟩)
end
end Z

namespace Z
theorem getKW_u {k : Int} : ∀ us : List (Int × Int), getKW (.int k) (us.map uW) = (uGet k us).map W.int
  | [] => rfl
  | p :: us => by
    rw [List.map_cons]
    unfold getKW uGet
    have e : keyEq (uW p).1 (.int k) = decide (p.1 = k) := by
      show intEq p.1 k = _
      by_cases q : p.1 = k
      · rw [decide_eq_true q]; exact intEq_iff.mpr q
      · rw [decide_eq_false q]
        cases z : intEq p.1 k with
        | false => rfl
        | true => exact absurd (intEq_iff.mp z) q
    rw [e]
    by_cases q : p.1 = k
    · rw [if_pos q, decide_eq_true q]; rfl
    · rw [if_neg q, decide_eq_false q]; exact getKW_u us
theorem keyEq_u {p : Int × Int} {k : Int} : keyEq (uW p).1 (.int k) = decide (p.1 = k) := by
  show intEq p.1 k = _
  by_cases q : p.1 = k
  · rw [decide_eq_true q]; exact intEq_iff.mpr q
  · rw [decide_eq_false q]
    cases z : intEq p.1 k with
    | false => rfl
    | true => exact absurd (intEq_iff.mp z) q
theorem dropKW_u {k : Int} : ∀ us : List (Int × Int), dropKW (.int k) (us.map uW) = (uDrop k us).map uW
  | [] => rfl
  | p :: us => by
    rw [List.map_cons]
    unfold dropKW uDrop
    rw [keyEq_u]
    by_cases q : p.1 = k
    · rw [if_pos q, decide_eq_true q]; exact dropKW_u us
    · rw [if_neg q, decide_eq_false q]
      show uW p :: dropKW (.int k) (us.map uW) = _
      rw [dropKW_u us]
      rfl
theorem hasKW_u {k : Int} : ∀ us : List (Int × Int), hasKW (.int k) (us.map uW) = (uGet k us).isSome
  | [] => rfl
  | p :: us => by
    rw [List.map_cons]
    unfold hasKW uGet
    rw [keyEq_u]
    by_cases q : p.1 = k
    · rw [if_pos q, decide_eq_true q]; rfl
    · rw [if_neg q, decide_eq_false q]; exact hasKW_u us
theorem setKW_u {k v : Int} : ∀ us : List (Int × Int), setKW (.int k) (.int v) (us.map uW) = (uSet k v us).map uW
  | [] => rfl
  | p :: us => by
    rw [List.map_cons]
    unfold setKW uSet
    rw [keyEq_u]
    by_cases q : p.1 = k
    · rw [if_pos q, decide_eq_true q]
      show ((uW p).1, W.int v) :: setKW (.int k) (.int v) (us.map uW) = _
      rw [setKW_u us]
      rfl
    · rw [if_neg q, decide_eq_false q]
      show uW p :: setKW (.int k) (.int v) (us.map uW) = _
      rw [setKW_u us]
      rfl
theorem putKW_u {k v : Int} {us : List (Int × Int)} : putKW (.int k) (.int v) (us.map uW) = (uPut k v us).map uW := by
  unfold putKW uPut
  rw [hasKW_u]
  cases e : uGet k us with
  | none => simp [uW]
  | some x => exact setKW_u us
section
variable {h : Hz} {t u : Nat} {Tr : TreeP}
theorem TA.nin (a : TA h t u Tr) {k : Int} : zdninW (.int k) (.ref u) h = .ok (.bl (uGet k Tr.us).isNone) h := by
  unfold zdninW
  rw [bnd_ok a.dr]
  show (match getKW (.int k) (Tr.us.map uW) with | some _ => ret (W.bl false) | none => ret (W.bl true)) h = _
  rw [getKW_u]
  cases uGet k Tr.us <;> rfl
theorem TA.dget (a : TA h t u Tr) {k v : Int} (e : uGet k Tr.us = some v) : zdgetW (.ref u) (.int k) h = .ok (.int v) h := by
  unfold zdgetW
  rw [bnd_ok a.dr]
  show ofO (getKW (.int k) (Tr.us.map uW)) h = _
  rw [getKW_u, e]
  rfl
end
def withinW (T : TreeP) (i : Nat) : W → Bool
  | .int k => withinP T i k
  | _ => false
def freshW (T : TreeP) : W → Bool
  | .int n => freshP T n
  | _ => false
section
variable {pk : Pk} {F : Nat → Nat → List W → M W} {t u : Nat} {Tr : TreeP}
theorem TreeP.Wf.tl (wf : Tr.Wf) {i : Nat} {l : LeafP} (e : Tr.ls[i + 1]? = some l) : ∃ m, l.least = some m := by
  obtain ⟨l0, ls, e0, _, q⟩ := wf.hd
  rw [e0, List.getElem?_cons_succ] at e
  exact q l (List.mem_of_getElem? e)
theorem within_ok (T : TwT pk F) (e83 : Dfn pk F 83 4 PK.Tree_is_within) {j : Nat} {h : Hz} {w : W} {i : Nat} {lf : LeafP} (a : TA h t u Tr) (wf : Tr.Wf) (ei : Tr.ls[i]? = some lf) (r : Rd pk.C h w) :
    Ok (F (j + 3) 83 [.ref t, .int i, w] h) fun x h' => x = .bl (withinW Tr i w) ∧ h' = h := by
  rw [e83]
  refine ok_run ?_
  show WxS (PK.Tree_is_within _ _ _ _ [some (.ref t), some (.int i), some w, none] h) _ _
  unfold PK.Tree_is_within
  have em : (Tr.ls.map lw)[i]? = some (lw lf) := by rw [List.getElem?_map, ei]; rfl
  have zl : zlen (.tup (Tr.ls.map lw)) = ret (.int Tr.ls.length) := by
    show ret (W.int (Tr.ls.map lw).length) = _
    rw [List.length_map]
  simp! [a.lv, zix_tup em, lf17, r.zv]
  refine (int_ok T.toTwH r).to fun x h1 ⟨ex, eh⟩ => ?_
  subst ex eh
  have hi : i < Tr.ls.length := (List.getElem?_eq_some_iff.mp ei).1
  cases w with
  | int key =>
    have c1 : ((i : Int) + 1) = ((i + 1 : Nat) : Int) := rfl
    cases el : lf.least with
    | none =>
      simp! [isInt, oiW, zisnot, isNonW, el, zadd, a.lv, zl, eq_int]
      by_cases q : ((i : Int) + 1 = (Tr.ls.length : Int))
      · have en : Tr.ls[i + 1]? = none := List.getElem?_eq_none (by omega)
        simp! [q, decide_true, withinW, withinP, ei, en]
        obtain ⟨x1, x2, x3, x4⟩ := lf
        cases el
        rfl
      · have hj : i + 1 < Tr.ls.length := by omega
        have q' : ¬ (((i + 1 : Nat) : Int) = (Tr.ls.length : Int)) := by omega
        have e1 : Tr.ls[i + 1]? = some Tr.ls[i + 1] := List.getElem?_eq_getElem hj
        have em1 : (Tr.ls.map lw)[i + 1]? = some (lw Tr.ls[i + 1]) := by rw [List.getElem?_map, e1]; rfl
        obtain ⟨m, hm⟩ := wf.tl e1
        generalize Tr.ls[i + 1] = l2 at e1 em1 hm
        simp! [q, q', decide_false, a.lv, c1, zix_tup em1, lf17, hm, oiW, zlt, zint2, withinW, withinP, ei, e1]
        obtain ⟨x1, x2, x3, x4⟩ := lf
        obtain ⟨y1, y2, y3, y4⟩ := l2
        cases el
        cases hm
        show W.bl (decide (key < m)) = W.bl (true && decide (key < m))
        rw [Bool.true_and]
    | some m0 =>
      simp! [isInt, oiW, zisnot, isNonW, el, zv_int, zle, zint2]
      by_cases q0 : key ≤ m0
      · simp! [q0, decide_true, withinW, withinP, ei]
        obtain ⟨x1, x2, x3, x4⟩ := lf
        cases el
        have : decide (m0 < key) = false := decide_eq_false (by omega)
        show W.bl false = W.bl (decide (m0 < key) && _)
        rw [this]
        rfl
      simp! [q0, decide_false, zadd, a.lv, zl, eq_int]
      have k0 : decide (m0 < key) = true := decide_eq_true (by omega)
      by_cases q : ((i : Int) + 1 = (Tr.ls.length : Int))
      · have en : Tr.ls[i + 1]? = none := List.getElem?_eq_none (by omega)
        simp! [q, decide_true, withinW, withinP, ei, en]
        obtain ⟨x1, x2, x3, x4⟩ := lf
        cases el
        show W.bl true = W.bl (decide (m0 < key) && true)
        rw [k0]
        rfl
      · have hj : i + 1 < Tr.ls.length := by omega
        have q' : ¬ (((i + 1 : Nat) : Int) = (Tr.ls.length : Int)) := by omega
        have e1 : Tr.ls[i + 1]? = some Tr.ls[i + 1] := List.getElem?_eq_getElem hj
        have em1 : (Tr.ls.map lw)[i + 1]? = some (lw Tr.ls[i + 1]) := by rw [List.getElem?_map, e1]; rfl
        obtain ⟨m, hm⟩ := wf.tl e1
        generalize Tr.ls[i + 1] = l2 at e1 em1 hm
        simp! [q, q', decide_false, a.lv, c1, zix_tup em1, lf17, hm, oiW, zlt, zint2, withinW, withinP, ei, e1]
        obtain ⟨x1, x2, x3, x4⟩ := lf
        obtain ⟨y1, y2, y3, y4⟩ := l2
        cases el
        cases hm
        show W.bl (decide (key < m)) = W.bl (decide (m0 < key) && decide (key < m))
        rw [k0]
        rfl
  | _ => first | exact False.elim r | (simp! [isInt, withinW])
theorem fresh_ok (T : TwT pk F) (Ts : TwS pk F) (e84 : Dfn pk F 84 2 PK.Tree_is_fresh) {j : Nat} {h : Hz} {w : W} (a : TA h t u Tr) (wf : Tr.Wf) (r : Rd pk.C h w) :
    Ok (F (j + 4) 84 [.ref t, w] h) fun x h' => x = .bl (freshW Tr w) ∧ Gro h h' := by
  rw [e84]
  refine ok_run ?_
  show WxS (PK.Tree_is_fresh _ _ _ _ [some (.ref t), some w] h) _ _
  unfold PK.Tree_is_fresh
  simp! [r.zv]
  refine (int_ok T.toTwH r).to fun x h1 ⟨ex, eh⟩ => ?_
  subst ex eh
  have le := wf.len
  cases w with
  | int n =>
    simp! [isInt, zlt, zint2]
    by_cases q : n < 0
    · have : decide (0 ≤ n) = false := decide_eq_false (by omega)
      simp! [q, decide_true, freshW, freshP, this, Bool.false_and]
      exact Gro.refl _
    · have q0 : decide (0 ≤ n) = true := decide_eq_true (by omega)
      simp! [q, decide_false, zmeth, a.ins, zfind_tr (mi := 25) Ts.m25 rfl]
      refine (spot_ok T Ts a (by omega) r).to fun x h2 ⟨ex, g2⟩ => ?_
      subst ex
      have a2 := a.gro g2
      cases e : spotOf n Tr.ls with
      | some k =>
        simp! [spotW, e, zisnot, isNonW, freshW, freshP, q0, Option.isNone, Bool.and_false, Bool.false_and]
        exact g2
      | none =>
        simp! [spotW, e, zisnot, isNonW, a2.hs, hf6]
        cases ea : Tr.H.again with
        | true =>
          simp! [freshW, freshP, q0, e, ea, Option.isNone, Bool.true_and, Bool.true_or]
          exact g2
        | false =>
          simp! [a2.us, a2.nin, freshW, freshP, q0, e, ea, Option.isNone, Bool.true_and, Bool.false_or]
          exact g2
  | _ => first | exact False.elim r | (simp! [isInt, freshW]; exact Gro.refl _)
theorem stampf_ok (T : TwT pk F) (e85 : Dfn pk F 85 3 PK.Tree_stamp_for) {j : Nat} {h : Hz} {n s : Int} (a : TA h t u Tr) : Ok (F (j + 2) 85 [.ref t, .int n, .int s] h) fun x h' => x = .int (stampP Tr n s) ∧ h' = h := by
  rw [e85]
  refine ok_run ?_
  show WxS (PK.Tree_stamp_for _ _ _ _ [some (.ref t), some (.int n), some (.int s)] h) _ _
  unfold PK.Tree_stamp_for
  simp! [a.us, a.nin]
  cases e : uGet n Tr.us with
  | none => simp! [Option.isNone, stampP, e]
  | some v =>
    simp! [Option.isNone, a.hs, hf8]
    cases eo : Tr.H.on with
    | true => simp! [a.us, a.dget e, zadd, stampP, e, eo]
    | false => simp! [stampP, e, eo]
end
end Z

namespace Z
theorem eq_str {E : ET} {n : Nat} {s z : List Nat} {h : Hz} : zcmpEq E (n + 1) (.str s) (.str z) h = .ok (.bl (decide (s = z))) h := by
  have : zcmpEq E (n + 1) (.str s) (.str z) h = .ok (.bl (eqN s z)) h := rfl
  rw [this, eqN_eq]
theorem uDrop_none {k : Int} : ∀ {us : List (Int × Int)}, uGet k us = none → uDrop k us = us
  | [], _ => rfl
  | p :: us, e => by
    unfold uGet at e
    unfold uDrop
    by_cases q : p.1 = k
    · rw [if_pos q] at e; cases e
    · rw [if_neg q] at e ⊢
      rw [uDrop_none e]
def splitR (T : TreeP) (n : Int) : W → W → W → Except (List Nat) TreeP
  | .int k, .int f, .int s => splitP T n k f s
  | _, _, _ => .error tSTAMP
def splitW (T : TreeP) (n k f s : W) : Except (List Nat) TreeP := match n with
  | .int n => (match spotOf n T.ls with
    | none => .error tNUMBER
    | some i => if withinW T i k = false then .error tKEY else if freshW T f = false then .error tFRESH else splitR T n k f s)
  | _ => .error tNUMBER
theorem split_at {T : TreeP} {n : Int} {i : Nat} {k f s : W} (es : spotOf n T.ls = some i) : splitW T (.int n) k f s = if withinW T i k = false then .error tKEY else if freshW T f = false then .error tFRESH else splitR T n k f s := by
  unfold splitW
  dsimp only
  rw [es]
theorem split_int {T : TreeP} {n k f s : Int} : splitW T (.int n) (.int k) (.int f) (.int s) = splitP T n k f s := by
  have sp : splitW T (.int n) (.int k) (.int f) (.int s) = match spotOf n T.ls with
    | none => .error tNUMBER
    | some i => if withinW T i (.int k) = false then .error tKEY else if freshW T (.int f) = false then .error tFRESH else splitP T n k f s := rfl
  rw [sp]
  cases e : spotOf n T.ls with
  | none =>
    dsimp only
    unfold splitP
    rw [e]
  | some i =>
    dsimp only
    by_cases q1 : withinP T i k = false
    · rw [if_pos (show withinW T i (.int k) = false from q1)]
      unfold splitP
      rw [e]
      dsimp only
      rw [if_pos q1]
    · rw [if_neg (show ¬ withinW T i (.int k) = false from q1)]
      by_cases q2 : freshP T f = false
      · rw [if_pos (show freshW T (.int f) = false from q2)]
        unfold splitP
        rw [e]
        dsimp only
        rw [if_neg q1, if_pos q2]
      · rw [if_neg (show ¬ freshW T (.int f) = false from q2)]
section
variable {pk : Pk} {F : Nat → Nat → List W → M W} {t u : Nat} {Tr : TreeP}
theorem spot_lt {n : Int} : ∀ {ls : List LeafP} {i : Nat}, spotOf n ls = some i → ∃ l, ls[i]? = some l ∧ l.num = n
  | l :: ls, i, e => by
    unfold spotOf at e
    by_cases q : l.num = n
    · rw [if_pos q] at e; cases e; exact ⟨l, rfl, q⟩
    · rw [if_neg q] at e
      cases e2 : spotOf n ls with
      | none => rw [e2] at e; cases e
      | some k =>
        rw [e2] at e
        cases e
        obtain ⟨l', e3, e4⟩ := spot_lt e2
        exact ⟨l', by rw [List.getElem?_cons_succ]; exact e3, e4⟩
theorem putn_ok (T : TwT pk F) {j : Nat} {h : Hz} {i w n : Nat} {news : List LeafP} (a : TA h t u Tr) (l : Tr.ls.length ≤ 1000) (ln : news.length ≤ 1000) (en : h.get n = some (.lst (news.map lw))) :
    Ok (F (j + 2) 80 [.ref t, .int i, .ref n, .int w] h) fun x h' => x = .non ∧ TA h' t u ⟨Tr.H, putP i news w Tr.ls, Tr.us⟩ ∧ Gro2 t u h h' :=
  (put_ok T a l ln en).imp fun x h' ⟨e1, e2⟩ => ⟨e1, by subst e2; exact a.put _, by subst e2; exact ⟨fun k hk n1 n2 => by rw [Hz.get_put_ne a.tr n1], by rw [Hz.put_n]; exact Nat.le_refl _⟩⟩
theorem pop_ok {ρ : Ev} {h : Hz} {mo me mf : Ev → M W} {k : Int} (a : TA h t u Tr) (e1 : mo ρ h = .ok (.ref u) h) (e2 : me ρ h = .ok (.int k) h) (e3 : mf ρ h = .ok .non h) : Ok (zdpop2 mo me mf ρ h) fun _ h' => TA h' t u ⟨Tr.H, Tr.ls, uDrop k Tr.us⟩ ∧ Gro2 t u h h' := by
  unfold zdpop2
  rw [bnd_ok e1, bnd_ok a.dr, bnd_ok e2, bnd_ok e3, bnd_ok a.dr]
  show Ok ((match getKW (.int k) (Tr.us.map uW) with
    | some w => bnd (store u (.dct (dropKW (.int k) (Tr.us.map uW)))) fun _ => ret w
    | none => ret .non) h) _
  rw [getKW_u, dropKW_u]
  cases e : uGet k Tr.us with
  | none => exact ⟨⟨a.tr, by rw [uDrop_none e]; exact a.un⟩, Gro2.refl _ _ _⟩
  | some v => exact ⟨⟨by rw [Hz.get_put_ne a.un a.ne]; exact a.tr, Hz.get_put_self a.un⟩, ⟨fun i _ _ n2 => by rw [Hz.get_put_ne a.un n2], by rw [Hz.put_n]; exact Nat.le_refl _⟩⟩
theorem split_ok (T : TwT pk F) (Ts : TwS pk F) (e83 : Dfn pk F 83 4 PK.Tree_is_within) (e84 : Dfn pk F 84 2 PK.Tree_is_fresh) (e85 : Dfn pk F 85 3 PK.Tree_stamp_for) (e86 : Dfn pk F 86 12 PK.Tree_split)
    (m32 : (pk.mt 32).lookup 2 = some 83) (m33 : (pk.mt 33).lookup 2 = some 84) (m34 : (pk.mt 34).lookup 2 = some 85) {j : Nat} {h : Hz} {n k f s : W} (a : TA h t u Tr) (wf : Tr.Wf) (rn : Rd pk.C h n) (rk : Rd pk.C h k) (rf : Rd pk.C h f) (rs : Rd pk.C h s) :
    Wx (F (j + 5) 86 [.ref t, n, k, f, s] h) (dnT h t u (splitW Tr n k f s)) (rfT h (splitW Tr n k f s)) := by
  rw [e86]
  refine wx_run ?_
  show WxS (PK.Tree_split _ _ _ _ [some (.ref t), some n, some k, some f, some s, none, none, none, none, none, none, none] h) _ _
  unfold PK.Tree_split
  have g3 : ∀ m : MS, gK (j + 3) m = m := fun _ => rfl
  have le := wf.len
  simp! [rn.zv, zmeth, a.ins, zfind_tr (mi := 25) Ts.m25 rfl]
  refine (spot_ok T Ts a (by omega) rn).to fun x h1 ⟨ex, g1⟩ => ?_
  subst ex
  have a1 := a.gro g1
  have none_ : spotW Tr.ls n = .non → splitW Tr n k f s = .error tNUMBER := fun z => by
    cases n with
    | int n =>
      unfold spotW at z
      dsimp only at z
      unfold splitW
      dsimp only
      cases e : spotOf n Tr.ls with
      | none => rfl
      | some i => rw [e] at z; cases z
    | _ => rfl
  by_cases qn : spotW Tr.ls n = .non
  · simp! [qn, zis, isNonW, g3]
    exact ⟨rfl, tNUMBER, none_ qn, rfl, g1⟩
  · obtain ⟨n, i, en, es⟩ : ∃ n' i, n = .int n' ∧ spotOf n' Tr.ls = some i := by
      cases n with
      | int n' =>
        cases e : spotOf n' Tr.ls with
        | none => exact absurd (by unfold spotW; dsimp only; rw [e]) qn
        | some i => exact ⟨n', i, rfl, e⟩
      | _ => exact absurd rfl qn
    subst en
    have sw : spotW Tr.ls (.int n) = .int (i : Nat) := by unfold spotW; dsimp only; rw [es]
    obtain ⟨lf, ei, _⟩ := spot_lt es
    have mem : lf ∈ Tr.ls := List.mem_of_getElem? ei
    have em : (Tr.ls.map lw)[i]? = some (lw lf) := by rw [List.getElem?_map, ei]; rfl
    have cp := wf.cap lf mem
    have cr := wf.rows
    rw [split_at es]
    rw [sw]
    simp! [zis, isNonW, a1.ins, zfind_tr (mi := 32) m32 rfl, (rk.gro g1).zv]
    refine (within_ok T e83 a1 wf ei (rk.gro g1)).to fun x h2 ⟨ex, eh⟩ => ?_
    subst ex eh
    cases qw : withinW Tr i k with
    | false =>
      simp! [g3]
      exact ⟨rfl, tKEY, rfl, rfl, g1⟩
    | true =>
    simp! [a1.ins, zfind_tr (mi := 33) m33 rfl, (rf.gro g1).zv]
    refine (fresh_ok T Ts e84 a1 wf (rf.gro g1)).to fun x h3 ⟨ex, g2⟩ => ?_
    subst ex
    have a3 := a1.gro g2
    cases qf : freshW Tr f with
    | false =>
      simp! [g3]
      exact ⟨rfl, tFRESH, rfl, rfl, g1.trans g2⟩
    | true =>
    have g12 := g1.trans g2
    simp! [(rs.gro g12).zv]
    refine (int_ok T.toTwH (rs.gro g12)).to fun x h4 ⟨ex, eh⟩ => ?_
    subst ex eh
    obtain ⟨k, ek⟩ : ∃ k', k = .int k' := by
      cases k with
      | int k' => exact ⟨k', rfl⟩
      | _ => cases qw
    obtain ⟨f, ef⟩ : ∃ f', f = .int f' := by
      cases f with
      | int f' => exact ⟨f', rfl⟩
      | _ => cases qf
    subst ek ef
    cases s with
    | int s =>
      have qw' : withinP Tr i k = true := qw
      have qf' : freshP Tr f = true := qf
      simp! [isInt, zlt, zint2]
      by_cases qs : s < 0
      · simp! [qs, decide_true, g3]
        refine ⟨rfl, tSTAMP, ?_, rfl, g12⟩
        show splitP Tr n k f s = _
        unfold splitP
        rw [es]
        dsimp only
        rw [if_neg (by rw [qw']; exact fun z => nomatch z), if_neg (by rw [qf']; exact fun z => nomatch z), if_pos qs]
      · simp! [qs, decide_false, spar, a3.lv, zix_tup em, a3.ins, zfind_tr (mi := 34) m34 rfl]
        refine (stampf_ok T e85 a3).to fun x h5 ⟨ex, eh⟩ => ?_
        subst ex eh
        simp! [lim2, parSet, List.reverse_cons, List.reverse_nil, List.nil_append, List.cons_append]
        refine Ok.to (zlc_typ (xs := lf.held) (f := W.int) (ρf := fun x => [some (.ref t), some (.int n), some (.int k), some (.int f), some (.int s), some (.int i), none, none, some (lw lf), some (.int (stampP Tr f s)), none, some (.int x)]) (t := fun x => decide (x < k)) (e := fun x => .int x) ?_ (by omega) (fun x _ => rfl) (fun x _ h' _ => ?_) (fun x _ h' g _ => ⟨rfl, Gro.refl _⟩)) fun w h6 ⟨n1, ew, en1, g6, _⟩ => ?_
        · simp only [zit, zfld, zvar_eq, List.getD_cons_zero, List.getD_cons_succ, zv_lw, bnd, ret, lf18]
          exact itq_tup
        · exact ⟨rfl, Gro.refl _⟩
        subst ew
        simp! [ztuple, zseq_ref en1]
        refine Ok.to (zlc_typ (xs := lf.held) (f := W.int) (ρf := fun x => [some (.ref t), some (.int n), some (.int k), some (.int f), some (.int s), some (.int i), some (.tup ((lf.held.filter fun x => decide (x < k)).map W.int)), none, some (lw lf), some (.int (stampP Tr f s)), none, some (.int x)]) (t := fun x => decide (k ≤ x)) (e := fun x => .int x) ?_ (by omega) (fun x _ => rfl) (fun x _ h' _ => ?_) (fun x _ h' g _ => ⟨rfl, Gro.refl _⟩)) fun w h7 ⟨n2, ew, en2, g7, _⟩ => ?_
        · simp only [zit, zfld, zvar_eq, List.getD_cons_zero, List.getD_cons_succ, zv_lw, bnd, ret, lf18]
          exact itq_tup
        · exact ⟨rfl, Gro.refl _⟩
        subst ew
        have a7 := (a3.gro g6).gro g7
        have gg := (g12.trans g6).trans g7
        simp! [ztuple, zseq_ref en2, a7.hs, hf4, eq_str]
        have fin : ∀ (parts : List LeafP) (h8 : Hz) (n3 : Nat), (if Tr.H.keeps = tLOW then [lf.but (lf.held.filter fun x => decide (x < k)), ⟨f, stampP Tr f s, some k, lf.held.filter fun x => decide (k ≤ x)⟩] else [⟨f, stampP Tr f s, lf.least, lf.held.filter fun x => decide (x < k)⟩, ⟨n, lf.st + 1, some k, lf.held.filter fun x => decide (k ≤ x)⟩]) = parts → splitP Tr n k f s = .ok ⟨Tr.H, putP i parts 1 Tr.ls, uDrop f Tr.us⟩ := fun parts h8 n3 e => by
          unfold splitP
          rw [es]
          dsimp only
          rw [if_neg (by rw [qw']; exact fun z => nomatch z), if_neg (by rw [qf']; exact fun z => nomatch z), if_neg qs, ei]
          dsimp only
          rw [e]
        by_cases qk : Tr.H.keeps = tLOW
        · simp! [qk, decide_true, zv_lw, zins_lw, zfind_lw (mi := 12) T.m12 rfl]
          refine (lbut_ok T).to fun x h8 ⟨ex, g8⟩ => ?_
          subst ex
          refine (leaf_mk (l := some k) T).to fun x h9 ⟨ex, g9⟩ => ?_
          subst ex
          have gp := Gro.push h9 (.lst [lw (lf.but (lf.held.filter fun x => decide (x < k))), lw ⟨f, stampP Tr f s, some k, lf.held.filter fun x => decide (k ≤ x)⟩])
          have a10 := ((a7.gro g8).gro g9).gro gp
          simp! [lim2, a10.ins, zfind_tr (mi := 29) T.m29 rfl, dd80]
          refine (putn_ok T (news := [lf.but (lf.held.filter fun x => decide (x < k)), ⟨f, stampP Tr f s, some k, lf.held.filter fun x => decide (k ≤ x)⟩]) a10 (by omega) (by simp) (Hz.get_push_self _ _)).to fun x h11 ⟨ex, a11, g11⟩ => ?_
          subst ex
          refine (pop_ok (k := f) a11 (by simp only [zfld, zvar_eq, List.getD_cons_zero, zv_ref, bnd, ret]; exact a11.us) rfl rfl).to fun x h12 ⟨a12, g12'⟩ => ?_
          exact ⟨rfl, _, fin _ h h.n (if_pos qk), a12, ((((gg.trans g8).trans g9).trans gp).g2.trans g11).trans g12'⟩
        · simp! [qk, decide_false, zv_lw, lf17, lf16]
          refine (leaf_mk T).to fun x h8 ⟨ex, g8⟩ => ?_
          subst ex
          simp! [zv_lw, lf17, lf16, zadd]
          refine (leaf_mk (l := some k) T).to fun x h9 ⟨ex, g9⟩ => ?_
          subst ex
          have gp := Gro.push h9 (.lst [lw ⟨f, stampP Tr f s, lf.least, lf.held.filter fun x => decide (x < k)⟩, lw ⟨n, lf.st + 1, some k, lf.held.filter fun x => decide (k ≤ x)⟩])
          have a10 := ((a7.gro g8).gro g9).gro gp
          simp! [lim2, a10.ins, zfind_tr (mi := 29) T.m29 rfl, dd80]
          refine (putn_ok T (news := [⟨f, stampP Tr f s, lf.least, lf.held.filter fun x => decide (x < k)⟩, ⟨n, lf.st + 1, some k, lf.held.filter fun x => decide (k ≤ x)⟩]) a10 (by omega) (by simp) (Hz.get_push_self _ _)).to fun x h11 ⟨ex, a11, g11⟩ => ?_
          subst ex
          refine (pop_ok (k := f) a11 (by simp only [zfld, zvar_eq, List.getD_cons_zero, zv_ref, bnd, ret]; exact a11.us) rfl rfl).to fun x h12 ⟨a12, g12'⟩ => ?_
          exact ⟨rfl, _, fin _ h h.n (if_neg qk), a12, ((((gg.trans g8).trans g9).trans gp).g2.trans g11).trans g12'⟩
    | _ =>
      first
        | exact False.elim rs
        | (simp! [isInt, g3]
           exact ⟨rfl, tSTAMP, rfl, rfl, g12⟩)
def joinW (T : TreeP) : W → Except (List Nat) TreeP
  | .int n => joinP T n
  | _ => .error tNUMBER
theorem setu_ok {h : Hz} {k v : Int} (a : TA h t u Tr) (l : Tr.us.length ≤ 1000) : ∃ h', zdsetW (.ref u) (.int k) (.int v) h = .ok .non h' ∧ TA h' t u ⟨Tr.H, Tr.ls, uPut k v Tr.us⟩ ∧ Gro2 t u h h' := by
  have c : (Tr.us.map uW).length < LIM := by rw [List.length_map]; exact Nat.lt_of_le_of_lt l (by decide)
  refine ⟨h.put u (.dct ((uPut k v Tr.us).map uW)), ?_, ⟨by rw [Hz.get_put_ne a.un a.ne]; exact a.tr, Hz.get_put_self a.un⟩, ⟨fun i _ _ n2 => by rw [Hz.get_put_ne a.un n2], by rw [Hz.put_n]; exact Nat.le_refl _⟩⟩
  unfold zdsetW
  rw [bnd_ok a.dr]
  show (if (Tr.us.map uW).length < LIM then bnd (store u (.dct (putKW (.int k) (.int v) (Tr.us.map uW)))) fun _ => ret W.non else bad) h = _
  rw [if_pos c, putKW_u]
  rfl
theorem join_ok (T : TwT pk F) (Ts : TwS pk F) (e87 : Dfn pk F 87 7 PK.Tree_join) {j : Nat} {h : Hz} {n : W} (a : TA h t u Tr) (wf : Tr.Wf) (lu : Tr.us.length ≤ 1000) (rn : Rd pk.C h n) :
    Wx (F (j + 5) 87 [.ref t, n] h) (dnT h t u (joinW Tr n)) (rfT h (joinW Tr n)) := by
  rw [e87]
  refine wx_run ?_
  show WxS (PK.Tree_join _ _ _ _ [some (.ref t), some n, none, none, none, none, none] h) _ _
  unfold PK.Tree_join
  have g3 : ∀ m : MS, gK (j + 3) m = m := fun _ => rfl
  have le := wf.len
  simp! [rn.zv, a.ins, zfind_tr (mi := 25) Ts.m25 rfl]
  refine (spot_ok T Ts a (by omega) rn).to fun x h1 ⟨ex, g1⟩ => ?_
  subst ex
  have a1 := a.gro g1
  have none_ : spotW Tr.ls n = .non → joinW Tr n = .error tNUMBER := fun z => by
    cases n with
    | int n =>
      unfold spotW at z
      dsimp only at z
      show joinP Tr n = _
      unfold joinP
      cases e : spotOf n Tr.ls with
      | none => rfl
      | some i => rw [e] at z; cases z
    | _ => rfl
  by_cases qn : spotW Tr.ls n = .non
  · simp! [qn, zis, isNonW, g3]
    exact ⟨rfl, tNUMBER, none_ qn, rfl, g1⟩
  · obtain ⟨n, i, en, es⟩ : ∃ n' i, n = .int n' ∧ spotOf n' Tr.ls = some i := by
      cases n with
      | int n' =>
        cases e : spotOf n' Tr.ls with
        | none => exact absurd (by unfold spotW; dsimp only; rw [e]) qn
        | some i => exact ⟨n', i, rfl, e⟩
      | _ => exact absurd rfl qn
    subst en
    have sw : spotW Tr.ls (.int n) = .int (i : Nat) := by unfold spotW; dsimp only; rw [es]
    obtain ⟨lf, ei, _⟩ := spot_lt es
    have em : (Tr.ls.map lw)[i]? = some (lw lf) := by rw [List.getElem?_map, ei]; rfl
    have cl := wf.cap lf (List.mem_of_getElem? ei)
    have cr := wf.rows
    have zl : zlen (.tup (Tr.ls.map lw)) = ret (.int Tr.ls.length) := by
      show ret (W.int (Tr.ls.map lw).length) = _
      rw [List.length_map]
    have zh : ∀ l : LeafP, zlen (.tup (l.held.map W.int)) = ret (.int l.held.length) := fun l => by
      show ret (W.int (l.held.map W.int).length) = _
      rw [List.length_map]
    have c1 : ((i : Int) + 1) = ((i + 1 : Nat) : Int) := rfl
    have jp : joinW Tr (.int n) = if Tr.H.joins = tNONE then .error tNUMBER else
        match Tr.ls[i]?, Tr.ls[i + 1]? with
        | some l, some r => if Tr.H.rows < l.held.length + r.held.length then .error tROOM else
            .ok ⟨Tr.H, putP i [⟨(if Tr.H.joins = tLEFT then l else r).num, (if Tr.H.joins = tLEFT then l else r).st + 1, l.least, l.held ++ r.held⟩] 2 Tr.ls, uPut (if Tr.H.joins = tLEFT then r else l).num (if Tr.H.joins = tLEFT then r else l).st Tr.us⟩
        | _, _ => .error tNUMBER := by
      show joinP Tr n = _
      unfold joinP
      first | (rw [es]; done) | (rw [es]; rfl)
    rw [jp, sw]
    simp! [zis, isNonW, zadd, a1.lv, zl, eq_int]
    by_cases q : ((i : Int) + 1 = (Tr.ls.length : Int))
    · have en : Tr.ls[i + 1]? = none := List.getElem?_eq_none (by omega)
      simp! [q, decide_true, g3]
      refine ⟨rfl, tNUMBER, ?_, rfl, g1⟩
      rw [en, ei]
      by_cases z : Tr.H.joins = tNONE
      · rw [if_pos z]
      · rw [if_neg z]
    · have hj : i + 1 < Tr.ls.length := by
        have := (List.getElem?_eq_some_iff.mp ei).1
        omega
      have e1 : Tr.ls[i + 1]? = some Tr.ls[i + 1] := List.getElem?_eq_getElem hj
      have em1 : (Tr.ls.map lw)[i + 1]? = some (lw Tr.ls[i + 1]) := by rw [List.getElem?_map, e1]; rfl
      generalize Tr.ls[i + 1] = rt at e1 em1
      rw [ei, e1]
      dsimp only
      simp! [q, decide_false, a1.hs, hf5, eq_str]
      by_cases qj : Tr.H.joins = tNONE
      · simp! [qj, decide_true, g3]
        exact ⟨rfl, tNUMBER, rfl, rfl, g1⟩
      · rw [if_neg qj]
        simp! [qj, decide_false, a1.lv, zix_tup em, zadd, c1, zix_tup em1, lim2, zv_lw, lf18, zh, a1.hs, hf3, zgt, zint2]
        by_cases qr : Tr.H.rows < (lf.held.length : Int) + rt.held.length
        · simp! [qr, decide_true, g3]
          exact ⟨rfl, tROOM, rfl, rfl, g1⟩
        · rw [if_neg qr]
          have cr2 := wf.cap rt (List.mem_of_getElem? e1)
          have lh : (List.map W.int lf.held).length + (List.map W.int rt.held).length ≤ LIM := by
            rw [List.length_map, List.length_map]
            exact Nat.le_trans (by omega : _ ≤ 100) (by decide)
          have mh : List.map W.int lf.held ++ List.map W.int rt.held = (lf.held ++ rt.held).map W.int := by rw [List.map_append]
          by_cases ql : Tr.H.joins = tLEFT
          · simp! [qr, ql, decide_false, decide_true, a1.hs, hf5, eq_str, zv_lw, lim2, gtup, zseq_tup, gcons, gnil, a1.ins, zfind_tr (mi := 29) T.m29 rfl, lf15, lf16, lf17, lf18, zadd, lh, mh]
            refine (leaf_mk T).to fun x h8 ⟨ex, g8⟩ => ?_
            subst ex
            have gp := Gro.push h8 (.lst [lw ⟨lf.num, lf.st + 1, lf.least, lf.held ++ rt.held⟩])
            have a10 := (a1.gro g8).gro gp
            simp! [lim1]
            refine (putn_ok T (w := 2) (news := [⟨lf.num, lf.st + 1, lf.least, lf.held ++ rt.held⟩]) a10 (by omega) (by simp) (Hz.get_push_self _ _)).to fun x h11 ⟨ex, a11, g11⟩ => ?_
            subst ex
            obtain ⟨h12, e12, a12, g12⟩ := setu_ok (k := rt.num) (v := rt.st) a11 lu
            simp! [zv_lw, lf15, lf16, gdsub, a11.us, e12]
            exact ⟨rfl, _, rfl, a12, (((g1.trans g8).trans gp).g2.trans g11).trans g12⟩
          · simp! [qr, ql, decide_false, decide_true, a1.hs, hf5, eq_str, zv_lw, lim2, gtup, zseq_tup, gcons, gnil, a1.ins, zfind_tr (mi := 29) T.m29 rfl, lf15, lf16, lf17, lf18, zadd, lh, mh]
            refine (leaf_mk T).to fun x h8 ⟨ex, g8⟩ => ?_
            subst ex
            have gp := Gro.push h8 (.lst [lw ⟨rt.num, rt.st + 1, lf.least, lf.held ++ rt.held⟩])
            have a10 := (a1.gro g8).gro gp
            simp! [lim1]
            refine (putn_ok T (w := 2) (news := [⟨rt.num, rt.st + 1, lf.least, lf.held ++ rt.held⟩]) a10 (by omega) (by simp) (Hz.get_push_self _ _)).to fun x h11 ⟨ex, a11, g11⟩ => ?_
            subst ex
            obtain ⟨h12, e12, a12, g12⟩ := setu_ok (k := lf.num) (v := lf.st) a11 lu
            simp! [zv_lw, lf15, lf16, gdsub, a11.us, e12]
            exact ⟨rfl, _, rfl, a12, (((g1.trans g8).trans gp).g2.trans g11).trans g12⟩
end
end Z

namespace Z
def Each {α β : Type} (R : α → β → Prop) (xs : List α) (ys : List β) : Prop := xs.length = ys.length ∧ ∀ (i : Nat) x y, xs[i]? = some x → ys[i]? = some y → R x y
theorem Each.nil {α β : Type} {R : α → β → Prop} : Each R [] [] := ⟨rfl, fun i x y e => by cases e⟩
theorem Each.cons {α β : Type} {R : α → β → Prop} {x : α} {y : β} {xs : List α} {ys : List β} (h : R x y) (t : Each R xs ys) : Each R (x :: xs) (y :: ys) := by
  refine ⟨congrArg Nat.succ t.1, fun i a b ea eb => ?_⟩
  cases i with
  | zero => cases ea; cases eb; exact h
  | succ i => rw [List.getElem?_cons_succ] at ea eb; exact t.2 i a b ea eb
theorem Each.imp {α β : Type} {R S : α → β → Prop} {xs : List α} {ys : List β} (t : Each R xs ys) (f : ∀ x y, R x y → S x y) : Each S xs ys := ⟨t.1, fun i x y ex ey => f x y (t.2 i x y ex ey)⟩
theorem Each.zip {α β : Type} {R : α → β → Prop} : ∀ {xs : List α} {ys : List β}, Each R xs ys → ∃ zs : List (α × β), zs.map Prod.fst = xs ∧ zs.map Prod.snd = ys ∧ ∀ p ∈ zs, R p.1 p.2
  | [], [], _ => ⟨[], rfl, rfl, fun p hp => absurd hp List.not_mem_nil⟩
  | [], y :: ys, t => absurd t.1 (by simp)
  | x :: xs, [], t => absurd t.1 (by simp)
  | x :: xs, y :: ys, t => by
    obtain ⟨zs, e1, e2, h⟩ := Each.zip (xs := xs) (ys := ys) ⟨Nat.succ.inj t.1, fun i a b ea eb => t.2 (i + 1) a b (by rw [List.getElem?_cons_succ]; exact ea) (by rw [List.getElem?_cons_succ]; exact eb)⟩
    refine ⟨(x, y) :: zs, by rw [List.map_cons, e1], by rw [List.map_cons, e2], fun p hp => ?_⟩
    rcases List.mem_cons.mp hp with e | e
    · subst e; exact t.2 0 x y rfl rfl
    · exact h p e
end Z

namespace Z
section
variable {pk : Pk} {F : Nat → Nat → List W → M W}
theorem house_mk (T : TwH pk F) {j : Nat} {h : Hz} {a b c d e f g : W} (ra : Rd pk.C h a) (rb : Rd pk.C h b) (rc : Rd pk.C h c) (rd : Rd pk.C h d) (re : Rd pk.C h e) (rf : Rd pk.C h f) (rg : Rd pk.C h g) :
    Wx (zmkW true 0 7 0 gId (F (j + 6) 64) [a, b, c, d, e, f, g] [] h) (fun x h' => x = .obj 0 [(3, a), (4, b), (5, c), (6, d), (7, e), (8, f), (9, g)] ∧ faultW a b c d e f g = .non ∧ Gro h h') (fun x fs h' => x = 16 ∧ fs = [(2, faultW a b c d e f g)] ∧ faultW a b c d e f g ≠ .non ∧ Gro h h') := by
  have gp := Gro.push h (.ins 0 [])
  have e0 : (h.push (.ins 0 [])).get h.n = some (.ins 0 []) := Hz.get_push_self _ _
  have f1 := fldW_ok (cs := [0]) (f := 3) (y := a) rfl e0 (by simp)
  have e1 := Hz.get_put_self (c := .ins 0 (putW 3 a [])) e0
  have f2 := fldW_ok (cs := [0]) (f := 4) (y := b) rfl e1 (by simp [putW])
  have e2 := Hz.get_put_self (c := .ins 0 (putW 4 b (putW 3 a []))) e1
  have f3 := fldW_ok (cs := [0]) (f := 5) (y := c) rfl e2 (by simp [putW])
  have e3 := Hz.get_put_self (c := .ins 0 (putW 5 c (putW 4 b (putW 3 a [])))) e2
  have f4 := fldW_ok (cs := [0]) (f := 6) (y := d) rfl e3 (by simp [putW])
  have e4 := Hz.get_put_self (c := .ins 0 (putW 6 d (putW 5 c (putW 4 b (putW 3 a []))))) e3
  have f5 := fldW_ok (cs := [0]) (f := 7) (y := e) rfl e4 (by simp [putW])
  have e5 := Hz.get_put_self (c := .ins 0 (putW 7 e (putW 6 d (putW 5 c (putW 4 b (putW 3 a [])))))) e4
  have f6 := fldW_ok (cs := [0]) (f := 8) (y := f) rfl e5 (by simp [putW])
  have e6 := Hz.get_put_self (c := .ins 0 (putW 8 f (putW 7 e (putW 6 d (putW 5 c (putW 4 b (putW 3 a []))))))) e5
  have f7 := fldW_ok (cs := [0]) (f := 9) (y := g) rfl e6 (by simp [putW])
  have e7 := Hz.get_put_self (c := .ins 0 (putW 9 g (putW 8 f (putW 7 e (putW 6 d (putW 5 c (putW 4 b (putW 3 a [])))))))) e6
  have g4 : ∀ m : MS, gK (j + 4) m = m := fun _ => rfl
  have q := mk_frozen (c := 0) (n := 7) (m := 0) (g := gId) (fn := F (j + 6) 64) (ws := [a, b, c, d, e, f, g]) (qs := []) (h := h) (E := fun x fs h' => x = 16 ∧ fs = [(2, faultW a b c d e f g)] ∧ faultW a b c d e f g ≠ .non ∧ Gro h h') (P := fun fs => W.obj 0 fs = .obj 0 [(3, a), (4, b), (5, c), (6, d), (7, e), (8, f), (9, g)] ∧ faultW a b c d e f g = .non) (by
    simp! []
    rw [T.e64]
    refine wx_run ?_
    show WxS (PK.House_init _ _ _ _ [some (.ref h.n), some a, some b, some c, some d, some e, some f, some g, none] (h.push (.ins 0 []))) _ _
    unfold PK.House_init
    simp! [ra.zv, rb.zv, rc.zv, rd.zv, re.zv, rf.zv, rg.zv]
    refine (fault_ok T (ra.gro gp) (rb.gro gp) (rc.gro gp) (rd.gro gp) (re.gro gp) (rf.gro gp) (rg.gro gp)).to fun x h1 ⟨ex, eh⟩ => ?_
    subst ex eh
    by_cases qf : faultW a b c d e f g = .non
    · simp! [qf, zisnot, isNonW, sfld, f1, f2, f3, f4, f5, f6, f7, ra.zv, rb.zv, rc.zv, rd.zv, re.zv, rf.zv, rg.zv]
      exact ⟨⟨_, e7, rfl⟩, (((((((GroB.refl h.n _).put e0).put e1).put e2).put e3).put e4).put e5).put e6⟩
    · have zf : isNonW (faultW a b c d e f g) = false := by
        cases z : faultW a b c d e f g with
        | non => exact absurd z qf
        | _ => rfl
      have zv : zvW (some (faultW a b c d e f g)) = ret (faultW a b c d e f g) := by
        unfold faultW
        repeat' (first | rfl | split)
      simp! [zv, zisnot, zf, g4]
      exact ⟨qf, gp⟩)
  refine q.to (fun x h' ⟨⟨fs, ea, ef, ff⟩, gr⟩ => ⟨ea.trans ef, ff, gr⟩) (fun _ _ _ z => z)
end
end Z

namespace Z
def KeysAt (h : Hz) (w : W) (ks : List Int) : Prop := w = .tup (ks.map W.int) ∨ ∃ r, w = .ref r ∧ h.get r = some (.lst (ks.map W.int))
theorem KeysAt.gro {h h' : Hz} {w : W} {ks : List Int} (a : KeysAt h w ks) (g : Gro h h') : KeysAt h' w ks := by
  rcases a with a | ⟨r, e1, e2⟩
  · exact .inl a
  · exact .inr ⟨r, e1, g.get e2⟩
theorem KeysAt.zv {h : Hz} {w : W} {ks : List Int} (a : KeysAt h w ks) : zvW (some w) = ret w := by
  rcases a with a | ⟨r, e1, e2⟩
  · subst a; rfl
  · subst e1; rfl
theorem KeysAt.it {h : Hz} {w : W} {ks : List Int} (a : KeysAt h w ks) : Ok (zitOf w h) (ItQ h (ks.map W.int)) := by
  rcases a with a | ⟨r, e1, e2⟩
  · subst a; exact itq_tup
  · subst e1; exact itq_ref e2
end Z

namespace Z
section
variable {pk : Pk} {F : Nat → Nat → List W → M W} {t u : Nat} {Tr : TreeP}
structure TwD (pk : Pk) (F : Nat → Nat → List W → M W) : Prop extends TwT pk F, TwS pk F where
  e81 : Dfn pk F 81 5 PK.Tree_come
  e82 : Dfn pk F 82 5 PK.Tree_go
  e83 : Dfn pk F 83 4 PK.Tree_is_within
  e84 : Dfn pk F 84 2 PK.Tree_is_fresh
  e85 : Dfn pk F 85 3 PK.Tree_stamp_for
  e86 : Dfn pk F 86 12 PK.Tree_split
  e87 : Dfn pk F 87 7 PK.Tree_join
  m30 : (pk.mt 30).lookup 2 = some 81
  m31 : (pk.mt 31).lookup 2 = some 82
  m32 : (pk.mt 32).lookup 2 = some 83
  m33 : (pk.mt 33).lookup 2 = some 84
  m34 : (pk.mt 34).lookup 2 = some 85
  m35 : (pk.mt 35).lookup 2 = some 86
  m36 : (pk.mt 36).lookup 2 = some 87
end
end Z

namespace Z
section
variable {m k : MS} {ρ : Ev} {h : Hz} {Q : Fl → Ev → Hz → Prop} {E : Nat → List (Nat × W) → Ev → Hz → Prop}
theorem seq_cutx {P : Ev → Hz → Prop} (a : WxS (m ρ h) (fun f ρ' h' => f = .next ∧ P ρ' h') noES) (b : ∀ ρ' h', P ρ' h' → WxS (k ρ' h') Q E) : WxS (sseq m k ρ h) Q E := by
  rw [wxs_seq]
  refine a.to (fun f ρ' h' ⟨e, p⟩ => ?_) (fun _ _ _ _ z => z.elim)
  subst e
  exact b _ _ p
theorem seq_one : WxS (sseq m snil ρ h) Q E = WxS (m ρ h) Q E := by
  rw [wxs_seq]
  cases m ρ h with
  | ok f ρ' h' => cases f <;> rfl
  | exc c fs ρ' h' => rfl
  | err => rfl
end
end Z

namespace Z
end Z

namespace Z
theorem Deal.gro2 {h h' : Hz} {d g t u : Nat} (a : Deal h d g) (r : Gro2 t u h h') (n1 : d ≠ t) (n2 : d ≠ u) (n3 : g ≠ t) (n4 : g ≠ u) : Deal h' d g := by
  obtain ⟨n, m, t, e1⟩ := a.ex
  obtain ⟨gs, e2, l⟩ := a.gr
  exact ⟨⟨n, m, t, r.get e1 n1 n2⟩, ⟨gs, r.get e2 n3 n4, l⟩⟩
theorem TA.but {h h' : Hz} {t u d g : Nat} {T : TreeP} (a : TA h t u T) (r : Gro2 d g h h') (n1 : t ≠ d) (n2 : t ≠ g) (n3 : u ≠ d) (n4 : u ≠ g) : TA h' t u T := ⟨r.get a.tr n1 n2, r.get a.un n3 n4⟩
theorem rdI {C : List Nat} {h : Hz} {i : Int} : Rd C h (.int i) := trivial
section
variable {pk : Pk} {F : Nat → Nat → List W → M W} {t u d g : Nat} {Tr T' : TreeP}
structure TD (h : Hz) (t u d g : Nat) (T : TreeP) : Prop where
  ta : TA h t u T
  de : Deal h d g
  n1 : d ≠ t
  n2 : d ≠ u
  n3 : g ≠ t
  n4 : g ≠ u
theorem TD.gro {h h' : Hz} (a : TD h t u d g Tr) (r : Gro h h') : TD h' t u d g Tr := ⟨a.ta.gro r, a.de.gro r, a.n1, a.n2, a.n3, a.n4⟩
theorem TD.to {h h' : Hz} (a : TD h t u d g Tr) (b : TA h' t u T') (r : Gro2 t u h h') : TD h' t u d g T' := ⟨b, a.de.gro2 r a.n1 a.n2 a.n3 a.n4, a.n1, a.n2, a.n3, a.n4⟩
theorem TD.dr {h h' : Hz} (a : TD h t u d g Tr) (b : Deal h' d g) (r : Gro2 d g h h') : TD h' t u d g Tr := ⟨a.ta.but r a.n1.symm a.n3.symm a.n2.symm a.n4.symm, b, a.n1, a.n2, a.n3, a.n4⟩
theorem TD.lst {h h' : Hz} {n : Nat} {xs : List W} (a : TD h t u d g Tr) (e : h.get n = some (.lst xs)) (r : Gro2 t u h h') : h'.get n = some (.lst xs) :=
  r.get e (fun z => by rw [z, a.ta.tr] at e; cases e) (fun z => by rw [z, a.ta.un] at e; cases e)
theorem TD.go (T : TwD pk F) {j : Nat} {h : Hz} {key : Int} {Q : W → Hz → Prop} {E : Nat → List (Nat × W) → Hz → Prop} (a : TD h t u d g Tr) (wf : Tr.Wf) (e : goP Tr key = .ok T') (k : ∀ h', TD h' t u d g T' → Gro2 t u h h' → Q .non h') : Wx (F (j + 5) 82 [.ref t, .int key] h) Q E :=
  (go_ok T.toTwT T.e82 a.ta wf (w := .int key) rdI).to (fun x h' ⟨ex, T2, eT, A, g2⟩ => by
    have eT := e.symm.trans (eT : goP Tr key = _)
    cases eT; subst ex
    exact k h' (a.to A g2) g2) (fun c fs h' ⟨_, z, ez, _⟩ => by
    have ez := e.symm.trans (ez : goP Tr key = _)
    cases ez)
theorem TD.join (T : TwD pk F) {j : Nat} {h : Hz} {n : Int} {Q : W → Hz → Prop} {E : Nat → List (Nat × W) → Hz → Prop} (a : TD h t u d g Tr) (wf : Tr.Wf) (lu : Tr.us.length ≤ 1000) (e : joinP Tr n = .ok T') (k : ∀ h', TD h' t u d g T' → Gro2 t u h h' → Q .non h') : Wx (F (j + 5) 87 [.ref t, .int n] h) Q E :=
  (join_ok T.toTwT T.toTwS T.e87 a.ta wf lu (n := .int n) rdI).to (fun x h' ⟨ex, T2, eT, A, g2⟩ => by
    have eT := e.symm.trans (eT : joinP Tr n = _)
    cases eT; subst ex
    exact k h' (a.to A g2) g2) (fun c fs h' ⟨_, z, ez, _⟩ => by
    have ez := e.symm.trans (ez : joinP Tr n = _)
    cases ez)
theorem TD.split (T : TwD pk F) {j : Nat} {h : Hz} {n k f s : Int} {Q : W → Hz → Prop} {E : Nat → List (Nat × W) → Hz → Prop} (a : TD h t u d g Tr) (wf : Tr.Wf) (e : splitP Tr n k f s = .ok T') (kk : ∀ h', TD h' t u d g T' → Gro2 t u h h' → Q .non h') : Wx (F (j + 5) 86 [.ref t, .int n, .int k, .int f, .int s] h) Q E :=
  (split_ok T.toTwT T.toTwS T.e83 T.e84 T.e85 T.e86 T.m32 T.m33 T.m34 a.ta wf (n := .int n) (k := .int k) (f := .int f) (s := .int s) rdI rdI rdI rdI).to (fun x h' ⟨ex, T2, eT, A, g2⟩ => by
    rw [split_int, e] at eT
    cases eT; subst ex
    exact kk h' (a.to A g2) g2) (fun c fs h' ⟨_, z, ez, _⟩ => by
    rw [split_int, e] at ez
    cases ez)
end
end Z

namespace Z
end Z

namespace Z
end Z

namespace Z
abbrev kROWS : List Nat := [114, 111, 119, 115]
abbrev kKEEPS : List Nat := [107, 101, 101, 112, 115]
abbrev kJOINS : List Nat := [106, 111, 105, 110, 115]
abbrev kAGAIN : List Nat := [97, 103, 97, 105, 110]
abbrev kSTAMPS : List Nat := [115, 116, 97, 109, 112, 115]
abbrev kON : List Nat := [111, 110]
abbrev kCHANGES : List Nat := [99, 104, 97, 110, 103, 101, 115]
def houseC (H : HouseP) : Cell := .dct [(.str kROWS, .int H.rows), (.str kKEEPS, .str H.keeps), (.str kJOINS, .str H.joins), (.str kAGAIN, .bl H.again), (.str kSTAMPS, oiW H.stamps), (.str kON, .bl H.on), (.str kCHANGES, oiW H.changes)]
structure HouseP.Fine (H : HouseP) : Prop where
  rows : ∃ m : Nat, H.rows = (m : Int) ∧ 1 ≤ m ∧ m ≤ 4
  keeps : H.keeps = tLOW ∨ H.keeps = tHIGH
  joins : H.joins = tLEFT ∨ H.joins = tRIGHT ∨ H.joins = tNONE
  stamps : H.stamps = none ∨ ∃ i, H.stamps = some i ∧ 1 ≤ i ∧ i ≤ 6
  changes : H.changes = none ∨ ∃ i, H.changes = some i ∧ 1 ≤ i ∧ i ≤ 3
theorem HouseP.Fine.fault {H : HouseP} (f : H.Fine) : faultW (.int H.rows) (.str H.keeps) (.str H.joins) (.bl H.again) (oiW H.stamps) (.bl H.on) (oiW H.changes) = .non := by
  obtain ⟨⟨m, hm, m1, m2⟩, hk, hj, hs, hc⟩ := f
  have a : btw (.int H.rows) 4 = true := by
    show (decide (1 ≤ H.rows) && decide (H.rows ≤ 4)) = true
    rw [Bool.and_eq_true, decide_eq_true_iff, decide_eq_true_iff]
    omega
  have b : memS wPARTS (.str H.keeps) = true := by rcases hk with e | e <;> rw [e] <;> rfl
  have c : memS wJOINS (.str H.joins) = true := by rcases hj with e | e | e <;> rw [e] <;> rfl
  have d : (!isNonW (oiW H.stamps) && !btw (oiW H.stamps) 6) = false := by
    rcases hs with e | ⟨i, e, i1, i2⟩
    · rw [e]; rfl
    · rw [e]
      show (true && !(decide (1 ≤ i) && decide (i ≤ 6))) = false
      rw [decide_eq_true i1, decide_eq_true i2]
      rfl
  have e : (isNonW (oiW H.changes) || btw (oiW H.changes) 3) = true := by
    rcases hc with e | ⟨i, e, i1, i2⟩
    · rw [e]; rfl
    · rw [e]
      show (false || (decide (1 ≤ i) && decide (i ≤ 3))) = true
      rw [decide_eq_true i1, decide_eq_true i2]
      rfl
  unfold faultW
  rw [if_neg (by rw [a]; exact fun z => nomatch z), if_neg (by rw [b]; exact fun z => nomatch z), if_neg (by rw [c]; exact fun z => nomatch z), if_neg (show ¬ (isBl (.bl H.again) = false) from fun z => nomatch z), if_neg (by rw [d]; exact fun z => nomatch z), if_neg (show ¬ (isBl (.bl H.on) = false) from fun z => nomatch z), if_pos e]
end Z

namespace Z
section
variable {g : W → MS} {m : MS} {I : Nat → Ev → Hz → Prop}
theorem floop_x {k : MS} {w : W} {ρ : Ev} {h : Hz} {Q : Fl → Ev → Hz → Prop} {J : Ev → Hz → Prop} (a : WxS (g w ρ h) (fun f ρ1 h1 => f = .next ∧ WxS (m ρ1 h1) (fun f2 ρ2 h2 => f2 = .next ∧ J ρ2 h2) noES) noES) (nx : ∀ ρ2 h2, J ρ2 h2 → WxS (k ρ2 h2) Q noES) : WxS (floop g m k w ρ h) Q noES := by
  unfold floop
  cases e1 : g w ρ h with
  | ok f ρ1 h1 =>
    rw [e1] at a
    obtain ⟨ef, a⟩ := a
    subst ef
    dsimp only
    cases e2 : m ρ1 h1 with
    | ok f2 ρ2 h2 =>
      rw [e2] at a
      obtain ⟨ef, a⟩ := a
      subst ef
      exact nx ρ2 h2 a
    | exc c fs ρ2 h2 => rw [e2] at a; exact False.elim a
    | err => rw [e2] at a; exact False.elim a
  | exc c fs ρ1 h1 => rw [e1] at a; exact False.elim a
  | err => rw [e1] at a; exact False.elim a
theorem loopF_ix {ws : List W} (s : ∀ (i : Nat) w, ws[i]? = some w → ∀ ρ h, I i ρ h → WxS (g w ρ h) (fun f ρ1 h1 => f = .next ∧ WxS (m ρ1 h1) (fun f2 ρ2 h2 => f2 = .next ∧ I (i + 1) ρ2 h2) noES) noES) :
    ∀ (rest : List W) (i : Nat) (ρ : Ev) (h : Hz), ws.drop i = rest → I i ρ h → i ≤ ws.length → WxS (sloopF g m rest ρ h) (fun f ρ' h' => f = .next ∧ I ws.length ρ' h') noES
  | [], i, ρ, h, e, j, hi => by
    have : i = ws.length := by
      have q := congrArg List.length e
      rw [List.length_drop, List.length_nil] at q
      omega
    subst this
    exact ⟨rfl, j⟩
  | w :: rest, i, ρ, h, e, j, hi => by
    have hl : i < ws.length := by
      have q := congrArg List.length e
      rw [List.length_drop, List.length_cons] at q
      omega
    rw [List.drop_eq_getElem_cons hl] at e
    injection e with e1 e2
    refine floop_x (s i w (by rw [List.getElem?_eq_getElem hl, e1]) ρ h j) fun ρ2 h2 j2 => ?_
    exact loopF_ix s rest (i + 1) ρ2 h2 e2 j2 hl
end
structure GroS (S : Nat → Prop) (h h' : Hz) : Prop where
  same : ∀ j, j < h.n → ¬ S j → h'.get j = h.get j
  size : h.n ≤ h'.n
theorem GroS.refl (S : Nat → Prop) (h : Hz) : GroS S h h := ⟨fun _ _ _ => rfl, Nat.le_refl _⟩
theorem GroS.trans {S : Nat → Prop} {h h1 h2 : Hz} (a : GroS S h h1) (b : GroS S h1 h2) : GroS S h h2 := ⟨fun j hj x => (b.same j (Nat.lt_of_lt_of_le hj a.size) x).trans (a.same j hj x), Nat.le_trans a.size b.size⟩
theorem Gro.gs {S : Nat → Prop} {h h' : Hz} (a : Gro h h') : GroS S h h' := ⟨fun j hj _ => a.same j hj, a.size⟩
theorem Gro2.gs {S : Nat → Prop} {d g : Nat} {h h' : Hz} (a : Gro2 d g h h') (s1 : S d) (s2 : S g) : GroS S h h' := ⟨fun j hj x => a.same j hj (fun e => x (e ▸ s1)) (fun e => x (e ▸ s2)), a.size⟩
theorem GroS.get {S : Nat → Prop} {h h' : Hz} (a : GroS S h h') {j : Nat} {c : Cell} (e : h.get j = some c) (x : ¬ S j) : h'.get j = some c := (a.same j (Hz.get_lt e) x).trans e
abbrev kHOUSE : List Nat := [104, 111, 117, 115, 101]
abbrev kLEAVES : List Nat := [108, 101, 97, 118, 101, 115]
abbrev kGONE : List Nat := [103, 111, 110, 101]
def ownC (hd lv gn : Nat) : Cell := .dct [(.str kHOUSE, .ref hd), (.str kLEAVES, .ref lv), (.str kGONE, .ref gn)]
def leafC (l : LeafP) (k : Nat) : Cell := .lst [.int l.num, .int l.st, oiW l.least, .ref k]
def LeafAt (S : Nat → Prop) (h : Hz) (r : Nat) (l : LeafP) : Prop := ¬ S r ∧ ∃ k, ¬ S k ∧ h.get r = some (leafC l k) ∧ h.get k = some (.lst (l.held.map W.int))
theorem LeafAt.gs {S : Nat → Prop} {h h' : Hz} {r : Nat} {l : LeafP} (a : LeafAt S h r l) (g : GroS S h h') : LeafAt S h' r l := by
  obtain ⟨s, k, sk, e1, e2⟩ := a
  exact ⟨s, k, sk, g.get e1 s, g.get e2 sk⟩
structure Own (S : Nat → Prop) (h : Hz) (o hd lv gn : Nat) (rs : List Nat) (T : TreeP) : Prop where
  oc : h.get o = some (ownC hd lv gn)
  hc : h.get hd = some (houseC T.H)
  lc : h.get lv = some (.lst (rs.map W.ref))
  gc : h.get gn = some (.dct (T.us.map uW))
  ea : Each (LeafAt S h) rs T.ls
  nd : rs.Nodup
  so : ¬ S o
  sh : ¬ S hd
  sl : ¬ S lv
  sg : ¬ S gn
section
variable {S : Nat → Prop} {h h' : Hz} {o hd lv gn : Nat} {rs : List Nat} {T : TreeP}
theorem Own.gs (a : Own S h o hd lv gn rs T) (g : GroS S h h') : Own S h' o hd lv gn rs T := ⟨g.get a.oc a.so, g.get a.hc a.sh, g.get a.lc a.sl, g.get a.gc a.sg, a.ea.imp fun _ _ q => q.gs g, a.nd, a.so, a.sh, a.sl, a.sg⟩
theorem Own.len (a : Own S h o hd lv gn rs T) : rs.length = T.ls.length := a.ea.1
end
end Z

namespace Z
end Z

namespace Z
section
variable {pk : Pk} {F : Nat → Nat → List W → M W} {S : Nat → Prop} {o hd lv gn : Nat} {rs : List Nat} {T : TreeP}
theorem Own.at_ {h : Hz} (a : Own S h o hd lv gn rs T) {i : Nat} {l : LeafP} (el : T.ls[i]? = some l) : ∃ r k, rs[i]? = some r ∧ ¬ S r ∧ ¬ S k ∧ zix (.ref lv) (.int i) h = .ok (.ref r) h ∧ h.get r = some (leafC l k) ∧ h.get k = some (.lst (l.held.map W.int)) := by
  have hl : i < rs.length := by rw [a.len]; exact (List.getElem?_eq_some_iff.mp el).1
  have er : rs[i]? = some rs[i] := List.getElem?_eq_getElem hl
  obtain ⟨s1, k, s2, q1, q2⟩ := a.ea.2 i rs[i] l er el
  refine ⟨rs[i], k, er, s1, s2, ?_, q1, q2⟩
  rw [zix_ref, a.lc]
  dsimp only
  rw [atI_at (x := W.ref rs[i]) (by rw [List.getElem?_map, er]; rfl)]
end
end Z

namespace Lk07
open Z
def b_3_1 (F1 F0 : Nat → List W → M W) (k : Nat) : MS := (sseq (spar [7, 8] (ztup (zcons (zfun (zcons (zvar 2) znil) znil (zcall 1 0 gId (F1 0))) (zcons (zfun (zcons (zvar 2) znil) znil (zcall 1 0 gId (F1 0))) znil)))) (sseq (sasg (zfun (zcons (zvar 2) (zcons (fun _ => ret (.int 7)) znil)) znil (zcall 2 0 gId (F1 242))) (gname 4)) (sseq (sasg (zbin zadd (zbin zadd (zslice (zvar 7) (fun _ => ret none) (zpart (zvar 4))) (zslice (zvar 8) (zpart (zvar 4)) (zpart (zbin zadd (zvar 4) (fun _ => ret (.int 1)))))) (zslice (zvar 7) (zpart (zbin zadd (zvar 4) (fun _ => ret (.int 1)))) (fun _ => ret none))) (gname 5)) (sseq (spar [9, 10] (ztup (zcons (zfun (zcons (zvar 7) znil) znil (zcall 1 0 gId (F1 2))) (zcons (zfun (zcons (zvar 5) znil) znil (zcall 1 0 gId (F1 2))) znil)))) (sseq (sif (zor (ztest (zbin (zcmpH true hqT F0 (zcmpNe ET (k + 1))) (zb (one1 zreprA) (zcons (zfun (zcons (zvar 9) znil) znil (zcall 1 0 gId (F1 1))) znil)) (zb (one1 zreprA) (zcons (zvar 7) znil)))) (zor (ztest (zbin (zcmpH true hqT F0 (zcmpNe ET (k + 1))) (zbin (zcmpH false hqT F0 (zcmpEq ET (k + 1))) (zvar 9) (zvar 10)) (zbin (zcmpH false hqT F0 (zcmpEq ET (k + 1))) (zvar 7) (zvar 5)))) (ztest (zbin (zcmpH false hqT F0 (zcmpEq ET (k + 1))) (zvar 9) (zvar 7))))) (sseq (sret (fun _ => ret (.bl false))) snil) snil) (sseq (sasg (zfun0 (zcons (zbin zix (zvar 7) (fun _ => ret (.int 6))) (zcons (zbin zix (zvar 7) (fun _ => ret (.int 5))) (zcons (zbin zix (zvar 7) (fun _ => ret (.int 4))) (zcons (zbin zix (zvar 7) (fun _ => ret (.int 3))) (zcons (zbin zix (zvar 7) (fun _ => ret (.int 2))) znil))))) (zmkW true 0 0 5 (fun ws qs => pick [0, 1, 2, 12, 11, 10, 9, 8] (ws ++ dd_64_1 ++ qs)) (F0 64))) (gname 6)) (sseq (sif (zor (ztest (zbin (zcmpH true hqT F0 (zcmpNe ET (k + 1))) (zmethK 12 [(0, 66)] [[107, 101, 101, 112, 115], [114, 111, 119, 115]] F1 (zvar 6) (zcons (zbin zix (zvar 7) (fun _ => ret (.int 1))) (zcons (zbin zix (zvar 7) (fun _ => ret (.int 0))) znil))) (zvar 9))) (ztest (zbin (zcmpH true hqT F0 (zcmpNe ET (k + 1))) (zmethK 12 [(0, 66)] [] F1 (zvar 9) znil) (zvar 9)))) (sseq (sret (fun _ => ret (.bl false))) snil) snil) (sseq (sasg (zbin zadd (zbin zadd (zbin zadd (zslice (zvar 8) (fun _ => ret none) (zpart (fun _ => ret (.int 1)))) (zslice (zvar 7) (zpart (fun _ => ret (.int 1))) (zpart (fun _ => ret (.int 4))))) (zslice (zvar 8) (zpart (fun _ => ret (.int 4))) (zpart (fun _ => ret (.int 5))))) (zslice (zvar 7) (zpart (fun _ => ret (.int 5))) (fun _ => ret none))) (gname 5)) (sseq (sif (ztest (zbin (zcmpH true hqT F0 (zcmpNe ET (k + 1))) (zmethK 12 [(0, 66)] [[114, 111, 119, 115], [115, 116, 97, 109, 112, 115]] F1 (zvar 9) (zcons (zbin zix (zvar 8) (fun _ => ret (.int 0))) (zcons (zbin zix (zvar 8) (fun _ => ret (.int 4))) znil))) (zfun (zcons (zvar 5) znil) znil (zcall 1 0 gId (F1 2))))) (sseq (sret (fun _ => ret (.bl false))) snil) snil) (sseq (sif (ztest (zbin (zcmpH true hqT F0 (zcmpNe ET (k + 1))) (zfld [0] 5 (zmethK 12 [(0, 66)] [[99, 104, 97, 110, 103, 101, 115], [106, 111, 105, 110, 115], [107, 101, 101, 112, 115]] F1 (zvar 9) (zcons (fun _ => ret .non) (zcons (zbin zix (zvar 8) (fun _ => ret (.int 2))) (zcons (zbin zix (zvar 8) (fun _ => ret (.int 1))) znil))))) (zbin zix (zvar 8) (fun _ => ret (.int 2))))) (sseq (sret (fun _ => ret (.bl false))) snil) snil) (sseq (sif (ztest (zbin (zcmpH true hqT F0 (zcmpNe ET (k + 1))) (zfun (zcons (zvar 9) znil) znil (zcall 1 0 gId (F1 1))) (zvar 7))) (sseq (sret (fun _ => ret (.bl false))) snil) snil) snil)))))))))))
def b_3_2 (F1 F0 : Nat → List W → M W) (k : Nat) : MS := (sseq (sasg (zfun (zcons (zvar 0) (zcons (zvar 1) (zcons (fun _ => ret (.int 7)) znil))) znil (zcall 3 0 gId (F1 241))) (gname 2)) (sseq (sfor (zitR (zcons (fun _ => ret (.int 5)) znil)) (gname 3) (b_3_1 F1 F0 k)) snil))
theorem mb_3 (F1 F0 : Nat → List W → M W) (k : Nat) : m_3 F1 F0 k = (sseq (sfor (zitR (zcons (zb (two2 zmax) (zcons (fun _ => ret (.int 1)) (zcons (zb (two2 zmin) (zcons (fun _ => ret (.int 3)) (zcons (zb (one1 zlen) (zcons (zvar 0) znil)) znil))) znil))) znil)) (gname 1) (b_3_2 F1 F0 k)) (sseq (sret (zbin (zcmpH false hqT F0 (zcmpEq ET (k + 1))) (zb (one1 zreprA) (zcons (zfun (zcons (zfun0 znil (zmkW true 0 0 0 (fun ws _ => ws ++ dd_64_1) (F0 64))) znil) znil (zcall 1 0 gId (F1 1))) znil)) (zb (one1 zreprA) (zcons (zlst (zcons (fun _ => ret (.int 2)) (zcons (fun _ => ret (.str [108, 111, 119])) (zcons (fun _ => ret (.str [108, 101, 102, 116])) (zcons (fun _ => ret (.bl true)) (zcons (fun _ => ret .non) (zcons (fun _ => ret (.bl true)) (zcons (fun _ => ret .non) znil)))))))) znil)))) snil)) := rfl
end Lk07

namespace Z
theorem new_eq {c : Cell} {h : Hz} : new c h = .ok (.ref h.n) (h.push c) := rfl
theorem upd_eq {h : Hz} {n m : Nat} {xs ys : List (W × W)} (en : h.get n = some (.dct xs)) (em : h.get m = some (.dct ys)) (ne : n ≠ m) (l : xs.length + ys.length ≤ 1000) : mUpdate (.ref n) [.ref m] h = .ok .non (h.put n (.dct (mergeW xs ys))) := by
  have z1 : zdref (.ref n) h = .ok (n, xs) h := by
    show (match h.get n with | some (.dct kvs) => R.ok (n, kvs) h | _ => .err) = _
    rw [en]
  have z2 : zdref (.ref m) h = .ok (m, ys) h := by
    show (match h.get m with | some (.dct kvs) => R.ok (m, kvs) h | _ => .err) = _
    rw [em]
  unfold mUpdate
  dsimp only
  rw [bnd_ok z1]
  dsimp only
  rw [bnd_ok z2]
  dsimp only
  rw [if_neg ne, if_pos l]
  rfl
end Z
namespace Lk07
open Z
theorem twH : TwH pk fnT := { e60 := fun _ => rfl, e61 := fun _ => rfl, e62 := fun _ => rfl, e63 := fun _ => rfl, e64 := fun _ => rfl }
abbrev hsW (a b c d e f g : W) : W := .obj 0 [(3, a), (4, b), (5, c), (6, d), (7, e), (8, f), (9, g)]
abbrev kR : W := .str [114, 111, 119, 115]
abbrev kK : W := .str [107, 101, 101, 112, 115]
abbrev kJ : W := .str [106, 111, 105, 110, 115]
abbrev kA : W := .str [97, 103, 97, 105, 110]
abbrev kS : W := .str [115, 116, 97, 109, 112, 115]
abbrev kO : W := .str [111, 110]
abbrev kC : W := .str [99, 104, 97, 110, 103, 101, 115]
abbrev dctOf (a b c d e f g : W) : List (W × W) := [(kR, a), (kK, b), (kJ, c), (kA, d), (kS, e), (kO, f), (kC, g)]
section
variable {k : Nat} {h : Hz} {a b c d e f g : W}
theorem parts_ok : Ok (fnT (k + 2) 65 [hsW a b c d e f g] h) fun x h' => x = .ref h.n ∧ h'.get h.n = some (.dct (dctOf a b c d e f g)) ∧ Gro h h' := by
  show Ok (runZ 1 (m_65 (fnT (k + 1)) (fnT k) k) [hsW a b c d e f g] h) _
  refine ok_run ?_
  show WxS (m_65 _ _ _ [some (hsW a b c d e f g)] h) _ _
  unfold m_65
  have f3 : zfldW [0] 3 (hsW a b c d e f g) = ret a := rfl
  have f4 : zfldW [0] 4 (hsW a b c d e f g) = ret b := rfl
  have f5 : zfldW [0] 5 (hsW a b c d e f g) = ret c := rfl
  have f6 : zfldW [0] 6 (hsW a b c d e f g) = ret d := rfl
  have f7 : zfldW [0] 7 (hsW a b c d e f g) = ret e := rfl
  have f8 : zfldW [0] 8 (hsW a b c d e f g) = ret f := rfl
  have f9 : zfldW [0] 9 (hsW a b c d e f g) = ret g := rfl
  have gp := Gro.push h (.dct [])
  have pp := Hz.get_push_self h (.dct [])
  have zd : zdref (.ref h.n) (h.push (.dct [])) = .ok (h.n, []) (h.push (.dct [])) := by
    show (match (h.push (.dct [])).get h.n with | some (.dct kvs) => R.ok (h.n, kvs) (h.push (.dct [])) | _ => .err) = _
    rw [pp]
  have l7 : 7 ≤ 15 := by decide
  simp! [zdisp, zv_obj, f3, f4, f5, f6, f7, f8, f9, zd, l7]
  refine ⟨?_, gp.put (Nat.le_refl _)⟩
  rw [Hz.get_put_self pp]
  rfl
variable {a' b' c' d' e' f' g' : W} {dd : Nat} {od : List (W × W)}
theorem mkD_eq {h : Hz} {n : Nat} : zmkW true 0 0 7 (fun ws qs => pick [0, 8, 9, 10, 11, 12, 13, 14] (ws ++ dd_64_1 ++ qs)) (fnT n 64) [] [a, b, c, d, e, f, g] h = zmkW true 0 7 0 gId (fnT n 64) [a, b, c, d, e, f, g] [] h := by
  unfold zmkW zcall gId
  simp only [List.length_cons, List.length_nil, and_self, if_true, Nat.zero_add, Nat.reduceAdd]
  rfl
theorem zi_hs {mi i : Nat} {T : List (Nat × Nat)} (e0 : T.lookup 0 = some i) (nm : ([3, 4, 5, 6, 7, 8, 9].all fun j => !(mi == j)) = true) : zfind mi T (0, [(3, a), (4, b), (5, c), (6, d), (7, e), (8, f), (9, g)]) = ret i := by
  simp only [List.all_cons, List.all_nil, Bool.and_true, Bool.and_eq_true, Bool.not_eq_true'] at nm
  unfold zfind
  simp only [List.lookup, nm.1, nm.2.1, nm.2.2.1, nm.2.2.2.1, nm.2.2.2.2.1, nm.2.2.2.2.2.1, nm.2.2.2.2.2.2, e0, ofO]
theorem merge_nil7 : mergeW [] (dctOf a b c d e f g) = dctOf a b c d e f g := rfl
theorem but_ok (eo : h.get dd = some (.dct od)) (lo : od.length ≤ 20) (hm : mergeW (dctOf a b c d e f g) od = dctOf a' b' c' d' e' f' g')
    (ra : Rd allC h a') (rb : Rd allC h b') (rc : Rd allC h c') (rd : Rd allC h d') (re : Rd allC h e') (rf : Rd allC h f') (rg : Rd allC h g') :
    Wx (fnT (k + 8) 66 [hsW a b c d e f g, .ref dd] h) (fun x h' => x = hsW a' b' c' d' e' f' g' ∧ faultW a' b' c' d' e' f' g' = .non ∧ Gro h h') (fun x fs h' => x = 16 ∧ fs = [(2, faultW a' b' c' d' e' f' g')] ∧ faultW a' b' c' d' e' f' g' ≠ .non ∧ Gro h h') := by
  show Wx (runZ 3 (m_66 (fnT (k + 7)) (fnT (k + 6)) (k + 6)) [hsW a b c d e f g, .ref dd] h) _ _
  refine wx_run ?_
  show WxS (m_66 _ _ _ [some (hsW a b c d e f g), some (.ref dd), none] h) _ _
  unfold m_66
  have ld := Hz.get_lt eo
  refine seq_cutx (P := fun ρ h' => ∃ m, ρ = [some (hsW a b c d e f g), some (.ref dd), some (.ref m)] ∧ h'.get m = some (.dct (dctOf a' b' c' d' e' f' g')) ∧ Gro h h') ?_ fun ρ h1 ⟨m, er, em, g1⟩ => ?_
  · have gp := Gro.push h (.dct [])
    have pp := Hz.get_push_self h (.dct [])
    have zin : zins (hsW a b c d e f g) = ret (0, [(3, a), (4, b), (5, c), (6, d), (7, e), (8, f), (9, g)]) := rfl
    simp! [zdstar2, new_eq, zmeth0, zv_obj, zin, zi_hs (T := [(0, 65)]) (mi := 11) rfl rfl]
    refine (parts_ok (k := k + 5)).to fun x h2 ⟨ex, e2, g2⟩ => ?_
    subst ex
    have s2 := g2.get pp
    have u1 := upd_eq s2 e2 (show h.n ≠ (h.push (.dct [])).n from Nat.ne_of_lt (Nat.lt_succ_self _)) (by show 0 + 7 ≤ 1000; decide)
    rw [merge_nil7] at u1
    have s3 := Hz.get_put_self (c := .dct (dctOf a b c d e f g)) s2
    have o3 : (h2.put h.n (.dct (dctOf a b c d e f g))).get dd = some (.dct od) := by rw [Hz.get_put_ne s2 (Nat.ne_of_lt ld)]; exact g2.get (gp.get eo)
    have u2 := upd_eq s3 o3 (Nat.ne_of_gt ld) (by show 7 + od.length ≤ 1000; omega)
    rw [hm] at u2
    have s4 := Hz.get_put_self (c := .dct (dctOf a' b' c' d' e' f' g')) s3
    simp! [u1, u2]
    exact ⟨h.n, rfl, s4, ((gp.trans g2).put (Nat.le_refl _)).put (Nat.le_refl _)⟩
  subst er
  have gp := Gro.push h1 (.dct [])
  have pp := Hz.get_push_self h1 (.dct [])
  have lm := Hz.get_lt em
  have u1 := upd_eq pp (gp.get em) (Nat.ne_of_gt lm) (by show 0 + 7 ≤ 1000; decide)
  rw [merge_nil7] at u1
  have s1 := Hz.get_put_self (c := .dct (dctOf a' b' c' d' e' f' g')) pp
  have zd0 := dref_of pp
  have zd1 := dref_of s1
  have ka : keysAre (dctOf a' b' c' d' e' f' g') [[114, 111, 119, 115], [107, 101, 101, 112, 115], [106, 111, 105, 110, 115], [97, 103, 97, 105, 110], [115, 116, 97, 109, 112, 115], [111, 110], [99, 104, 97, 110, 103, 101, 115]] = true := rfl
  have gg : Gro h ((h1.push (.dct [])).put h1.n (.dct (dctOf a' b' c' d' e' f' g'))) := (g1.trans gp).put g1.size
  simp! [zmkD, new_eq, zd0, u1, zd1, ka, List.map_cons, List.map_nil, mkD_eq]
  exact (house_mk twH (j := k) (ra.gro gg) (rb.gro gg) (rc.gro gg) (rd.gro gg) (re.gro gg) (rf.gro gg) (rg.gro gg)).to (fun x h' ⟨ex, ef, g⟩ => ⟨ex, ef, gg.trans g⟩) fun x fs h' ⟨ex, ef, en, g⟩ => ⟨ex, ef, en, gg.trans g⟩
end
end Lk07

namespace Z
open PySem
theorem ofString_len (s : String) : (Str.ofString s).cps.toList.length = s.length := by
  rw [Str.ofString_eq_toList]
  simp [String.length_toList]
theorem nat_len {n k : Nat} (h0 : 0 < k) (h : n < 10 ^ k) : (toString n).length ≤ k := by
  exact (Nat.length_repr_le_iff h0).mpr h
theorem intL_len {i : Int} {k : Nat} (h0 : 0 < k) (h : i.natAbs < 10 ^ k) : (intL i).length ≤ k + 1 := by
  unfold intL
  rw [ofString_len]
  cases i with
  | ofNat n =>
    show (toString n).length ≤ _
    exact Nat.le_succ_of_le (nat_len h0 h)
  | negSucc n =>
    have e : toString (Int.negSucc n) = "-" ++ toString (n + 1) := rfl
    rw [e, String.length_append]
    have := nat_len (n := n + 1) h0 h
    show 1 + _ ≤ _
    omega
def ShB (B : Nat) (w : W) : Prop := ∃ t, shL w = some t ∧ t.length ≤ B
theorem ShB.up {B C : Nat} {w : W} (h : ShB B w) (l : B ≤ C) : ShB C w := by obtain ⟨t, e, q⟩ := h; exact ⟨t, e, Nat.le_trans q l⟩
theorem shLs_ok {B : Nat} : ∀ {ws : List W}, (∀ w ∈ ws, ShB B w) → ∃ ts, shLs ws = some ts ∧ ts.length = ws.length ∧ ∀ t ∈ ts, t.length ≤ B
  | [], _ => ⟨[], by simp only [shLs], rfl, fun t ht => absurd ht List.not_mem_nil⟩
  | w :: ws, h => by
    obtain ⟨t, e, l⟩ := h w (List.mem_cons_self ..)
    obtain ⟨ts, es, ls, lt⟩ := shLs_ok fun x hx => h x (List.mem_cons_of_mem _ hx)
    refine ⟨t :: ts, by simp only [shLs, e, es], congrArg Nat.succ ls, fun x hx => ?_⟩
    rcases List.mem_cons.mp hx with z | z
    · subst z; exact l
    · exact lt x z
theorem sh_int {i : Int} {k : Nat} (h0 : 0 < k) (h1 : k ≤ 500) (h : i.natAbs < 10 ^ k) : ShB (k + 1) (.int i) := by
  have : i.natAbs.log2 < 1920 := by
    rcases Nat.eq_zero_or_pos i.natAbs with e | e
    · rw [e]; decide
    · rw [Nat.log2_lt (by omega)]
      refine Nat.lt_of_lt_of_le h (Nat.le_trans (Nat.pow_le_pow_right (by decide) h1) ?_)
      decide +kernel
  refine ⟨intL i, ?_, intL_len h0 h⟩
  simp only [shL]
  rw [decide_eq_true this]
theorem dpWs_le {k : Nat} : ∀ {ws : List W}, (∀ w ∈ ws, dpW w ≤ k) → dpWs ws ≤ k
  | [], _ => by simp [dpWs]
  | w :: ws, h => by
    rw [dpWs]
    have a := h w (List.mem_cons_self ..)
    have b := dpWs_le fun x hx => h x (List.mem_cons_of_mem _ hx)
    omega
def Sm (i : Int) : Prop := i.natAbs < 10 ^ 12
theorem Sm.sh {i : Int} (h : Sm i) : ShB 13 (.int i) := sh_int (by decide) (by decide) h
structure LeafP.Sm (l : LeafP) : Prop where
  num : Z.Sm l.num
  st : Z.Sm l.st
  least : ∀ m, l.least = some m → Z.Sm m
  held : ∀ k ∈ l.held, Z.Sm k
  len : l.held.length ≤ 4
end Z

namespace Z
theorem zadd_lM {h : Hz} {i j : Nat} {xs ys : List W} (ei : h.get i = some (.lst xs)) (ej : h.get j = some (.lst ys)) (l : (xs ++ ys).length ≤ 1000) : zadd (.ref i) (.ref j) h = .ok (.ref h.n) (h.push (.lst (xs ++ ys))) := by
  have z1 : zlref (.ref i) h = .ok (i, xs) h := by
    show (match h.get i with | some (.lst xs) => R.ok (i, xs) h | _ => .err) = _
    rw [ei]
  have z2 : zlref (.ref j) h = .ok (j, ys) h := by
    show (match h.get j with | some (.lst xs) => R.ok (j, xs) h | _ => .err) = _
    rw [ej]
  show bnd (zlref (.ref i)) (fun p => bnd (zlref (.ref j)) fun q => zlstW (p.2 ++ q.2)) h = _
  rw [bnd_ok z1, bnd_ok z2]
  unfold zlstW
  dsimp only
  rw [if_pos (show (xs ++ ys).length ≤ LIM from Nat.le_trans l (by decide))]
  rfl
theorem zix_lM {n i : Nat} {xs : List W} {w : W} {h : Hz} (e : h.get n = some (.lst xs)) (q : xs[i]? = some w) : zix (.ref n) (.int (i : Nat)) h = .ok w h := by rw [zix_ref, e]; dsimp only; rw [atI_at q]
theorem GroB.putN {b n : Nat} {h h' : Hz} {c o : Cell} (a : GroB b h h') (e : h'.get n = some o) (l : h.n ≤ n) : GroB b h (h'.put n c) := ⟨fun j hj ne => by rw [Hz.get_put_ne e (by omega)]; exact a.same j hj ne, by rw [Hz.put_n]; exact a.size⟩
theorem zeq_at {E : ET} {h : Hz} {n : Nat} {x y : W} {e : Bool} (q : eqAt1 x y = some e) : zeq E h (n + 1) x y = some e := by
  cases x with
  | non => cases y <;> cases q <;> rfl
  | bl a => cases y <;> cases q <;> first | rfl | (cases a <;> rfl)
  | int a => cases y <;> cases q <;> first | rfl | (rename_i b; cases b <;> first | rfl | (show some _ = some _; simp))
  | str a => cases y <;> cases q <;> rfl
  | _ => cases q
theorem tailL_len {B : Nat} : ∀ ts : List (List Nat), (∀ t ∈ ts, t.length ≤ B) → (tailL ts).length ≤ (B + 2) * ts.length
  | [], _ => Nat.le_refl _
  | t :: ts, h => by
    have ih := tailL_len ts fun x hx => h x (List.mem_cons_of_mem _ hx)
    have := h t (List.mem_cons_self ..)
    have e : (tailL (t :: ts)).length = t.length + 2 + (tailL ts).length := by show (44 :: 32 :: (t ++ tailL ts)).length = _; simp; omega
    rw [e, List.length_cons, Nat.mul_add]
    omega
theorem lstTx_len {B : Nat} {ts : List (List Nat)} (h : ∀ t ∈ ts, t.length ≤ B) : (lstTx ts).length ≤ (B + 2) * ts.length + 2 := by
  cases ts with
  | nil => exact Nat.le_refl _
  | cons t ts =>
    have ih := tailL_len ts fun x hx => h x (List.mem_cons_of_mem _ hx)
    have := h t (List.mem_cons_self ..)
    have e : (lstTx (t :: ts)).length = t.length + (tailL ts).length + 2 := by show (91 :: (t ++ (tailL ts ++ [93]))).length = _; simp; omega
    rw [e, List.length_cons, Nat.mul_add]
    omega
def eO : Option Int → Option Int → Bool
  | none, none => true
  | some i, some j => i == j
  | _, _ => false
theorem at_oi {a b : Option Int} : eqAt1 (oiW a) (oiW b) = some (eO a b) := by cases a <;> cases b <;> rfl
def bE (H M : HouseP) : Bool := (H.rows == M.rows) && (eqN H.keeps M.keeps && (eqN H.joins M.joins && ((H.again == M.again) && (eO H.stamps M.stamps && ((H.on == M.on) && (eO H.changes M.changes && true))))))
theorem bE_self (H : HouseP) : bE H H = true := by
  have e : ∀ o : Option Int, eO o o = true := fun o => by cases o <;> simp [eO]
  have en : ∀ s : List Nat, eqN s s = true := fun s => by rw [eqN_eq]; simp
  unfold bE
  rw [e, e, en, en]
  simp
abbrev listW (H : HouseP) : List W := [.int H.rows, .str H.keeps, .str H.joins, .bl H.again, oiW H.stamps, .bl H.on, oiW H.changes]
theorem zeq_lists {E : ET} {h : Hz} {n i j : Nat} {H M : HouseP} (ei : h.get i = some (.lst (listW H))) (ej : h.get j = some (.lst (listW M))) : zeq E h (n + 2) (.ref i) (.ref j) = some (bE H M) := by
  have k1 : kind h (.ref i) = .lst (listW H) := by show kindC (h.get i) = _; rw [ei]; rfl
  have k2 : kind h (.ref j) = .lst (listW M) := by show kindC (h.get j) = _; rw [ej]; rfl
  show zeqK E (zeq E h (n + 1)) (kind h (.ref i)) (kind h (.ref j)) = _
  rw [k1, k2]
  show zall (zeq E h (n + 1)) (listW H) (listW M) = _
  have a1 : zeq E h (n + 1) (.int H.rows) (.int M.rows) = some (H.rows == M.rows) := zeq_at rfl
  have a2 : zeq E h (n + 1) (.str H.keeps) (.str M.keeps) = some (eqN H.keeps M.keeps) := zeq_at rfl
  have a3 : zeq E h (n + 1) (.str H.joins) (.str M.joins) = some (eqN H.joins M.joins) := zeq_at rfl
  have a4 : zeq E h (n + 1) (.bl H.again) (.bl M.again) = some (H.again == M.again) := zeq_at rfl
  have a5 : zeq E h (n + 1) (oiW H.stamps) (oiW M.stamps) = some (eO H.stamps M.stamps) := zeq_at at_oi
  have a6 : zeq E h (n + 1) (.bl H.on) (.bl M.on) = some (H.on == M.on) := zeq_at rfl
  have a7 : zeq E h (n + 1) (oiW H.changes) (oiW M.changes) = some (eO H.changes M.changes) := zeq_at at_oi
  simp only [zall, a1, a2, a3, a4, a5, a6, a7, bE]
theorem ne_no {E : ET} {h : Hz} {n : Nat} {x y : W} {b : Bool} (k : isObjK (kind h x) = false) (e : zeq E h n x y = some b) : zcmpNe E n x y h = .ok (.bl (!b)) h := by
  unfold zcmpNe
  rw [k]
  dsimp only
  rw [e]
theorem repr_list {H : HouseP} (f : H.Fine) : ∃ t, ∀ (h : Hz) (n : Nat), h.get n = some (.lst (listW H)) → zreprA (.ref n) h = .ok (.str t) h := by
  obtain ⟨⟨m, hm, m1, m2⟩, hk, hj, hs, hc⟩ := f
  have sb : ∀ w ∈ listW H, ShB 20 w := by
    have sbl : ∀ b : Bool, ShB 20 (.bl b) := fun b => by cases b <;> exact ⟨_, rfl, by decide⟩
    have sst : ∀ s : List Nat, (s = tLOW ∨ s = tHIGH ∨ s = tLEFT ∨ s = tRIGHT ∨ s = tNONE) → ShB 20 (.str s) := fun s hs => by
      rcases hs with rfl | rfl | rfl | rfl | rfl <;> exact ⟨_, rfl, by decide⟩
    have soi : ∀ o : Option Int, (o = none ∨ ∃ i, o = some i ∧ 1 ≤ i ∧ i ≤ 6) → ShB 20 (oiW o) := fun o ho => by
      rcases ho with rfl | ⟨i, rfl, i1, i2⟩
      · exact ⟨_, rfl, by decide⟩
      · exact (sh_int (i := i) (k := 1) (by decide) (by decide) (by omega)).up (by decide)
    intro w hw
    simp only [listW, List.mem_cons, List.not_mem_nil, or_false] at hw
    rcases hw with rfl | rfl | rfl | rfl | rfl | rfl | rfl
    · rw [hm]; exact (sh_int (i := (m : Int)) (k := 1) (by decide) (by decide) (by omega)).up (by decide)
    · rcases hk with e | e <;> rw [e] <;> exact sst _ (by simp)
    · rcases hj with e | e | e <;> rw [e] <;> exact sst _ (by simp)
    · exact sbl _
    · exact soi _ hs
    · exact sbl _
    · exact soi _ (hc.imp id fun ⟨i, e, i1, i2⟩ => ⟨i, e, i1, by omega⟩)
  obtain ⟨ts, e1, e2, e3⟩ := shLs_ok sb
  refine ⟨lstTx ts, fun h n en => ?_⟩
  have l1 : (lstTx ts).length ≤ 100000 := by
    have := lstTx_len e3
    have e2 : ts.length = 7 := e2
    rw [e2] at this
    omega
  have d1 : dpWs (listW H) ≤ 100 := dpWs_le fun w hw => by
    simp only [listW, List.mem_cons, List.not_mem_nil, or_false] at hw
    have oi : ∀ o, dpW (oiW o) ≤ 100 := fun o => by cases o <;> exact Nat.zero_le _
    rcases hw with rfl | rfl | rfl | rfl | rfl | rfl | rfl <;> first | exact Nat.zero_le _ | exact oi _
  show (match h.get n with
    | some (.lst xs) => (match shLs xs with
      | some ts => (match Nat.ble (lstTx ts).length 100000 && Nat.ble (dpWs xs) 100 with
        | true => R.ok (W.str (lstTx ts)) h
        | false => .err)
      | none => .err)
    | _ => .err) = _
  rw [en]
  dsimp only
  rw [e1]
  dsimp only
  rw [Nat.ble_eq_true_of_le l1, Nat.ble_eq_true_of_le d1]
  rfl
end Z

namespace Lk07
open Z
theorem f6 {k : Nat} : fnT (k + 2) 241 = runZ 5 boxB := rfl
theorem f7 {k : Nat} : fnT (k + 2) 242 = runZ 5 takeB := rfl
theorem f8 {k : Nat} : fnT (k + 2) 240 = runZ 2 (pickB (fnT (k + 1) 242)) := rfl
theorem o7 {k : Nat} : TakeOk (fnT (k + 2) 242) := by rw [f7]; exact take_ok
theorem pick9 {k b l : Nat} {h : Hz} {xs : List W} (hb : Box h b) (hl : h.get l = some (.lst xs)) (ne : l ≠ b) (h0 : 0 < xs.length) (h1 : xs.length < 1073741824) :
    Ok (fnT (k + 3) 240 [.ref b, .ref l] h) fun w h' => w ∈ xs ∧ Box h' b ∧ GroB b h h' := by
  rw [f8]
  exact (pick_spec (o7 (k := k)) hb hl ne h0 h1).imp fun w h' ⟨a, c, d⟩ => ⟨a, c, d.b⟩
theorem take9 {k b : Nat} {h : Hz} {m : Int} (hb : Box h b) (h0 : 0 < m) (h1 : m < 1073741824) : Ok (fnT (k + 2) 242 [.ref b, .int m] h) fun w h' => (∃ d : Nat, w = .int (d : Nat) ∧ (d : Int) < m) ∧ Box h' b ∧ GroB b h h' :=
  (o7 (k := k) hb h0 h1).imp fun w h' ⟨⟨d, e, d0, d1⟩, c, g⟩ => ⟨⟨d.toNat, by rw [e, Int.toNat_of_nonneg d0], by rw [Int.toNat_of_nonneg d0]; exact d1⟩, c, g.b⟩
section
variable {k b : Nat} {h : Hz}
theorem pickL9 (bx : Box h b) (vs : List W) (l0 : 0 < vs.length) (l1 : vs.length < 1000) : Ok (fnT (k + 3) 240 [.ref b, .ref h.n] (h.push (.lst vs))) fun w h' => w ∈ vs ∧ Box h' b ∧ GroB b h h' := by
  have gp := Gro.push h (.lst vs)
  refine (pick9 (k := k) (bx.gro gp) (Hz.get_push_self h (.lst vs)) (Nat.ne_of_gt bx.lt) l0 (by omega)).imp fun w h' ⟨hw, bx', g⟩ => ⟨hw, bx', (gp.b b).trans g⟩
theorem eqn0 {n : Nat} (d : Nat) (h : Hz) : zcmpEq ET (n + 1) (.int (d : Nat)) (.int 0) h = .ok (.bl (decide ((d : Int) = 0))) h := eq_int
theorem opt_drawn {m p : Int} (m0 : 0 < m) (m1 : m < 1000) (p0 : 0 < p) (p1 : p < 1000) (bx : Box h b) {x1 x2 x3 : Option W} :
    Ok (zif (ztest (zbin (zcmpEq ET (k + 9 + 1)) (zfun (zcons (zvar 0) (zcons (fun _ => ret (.int m)) znil)) znil (zcall 2 0 gId (fnT (k + 10) 242))) (fun _ => ret (.int 0)))) (fun _ => ret .non) (zbin zadd (fun _ => ret (.int 1)) (zfun (zcons (zvar 0) (zcons (fun _ => ret (.int p)) znil)) znil (zcall 2 0 gId (fnT (k + 10) 242)))) [some (.ref b), x1, x2, x3] h) fun a h' => ∃ o, a = oiW o ∧ (o = none ∨ ∃ i, o = some i ∧ 1 ≤ i ∧ i ≤ p) ∧ Box h' b ∧ GroB b h h' := by
  refine Wx.ok ?_
  simp! []
  refine (take9 (k := k + 8) bx m0 (by omega)).to fun w h1 ⟨⟨d, ed, hd⟩, bx1, g1⟩ => ?_
  subst ed
  by_cases q : (d : Int) = 0
  · simp! [eqn0, q, decide_true]
    exact ⟨none, rfl, .inl rfl, bx1, g1⟩
  · simp! [eqn0, q, decide_false]
    refine (take9 (k := k + 8) bx1 p0 (by omega)).to fun w h2 ⟨⟨e, ee, he⟩, bx2, g2⟩ => ?_
    subst ee
    simp! [zadd]
    exact ⟨some (1 + (e : Int)), rfl, .inr ⟨_, rfl, by omega, by omega⟩, bx2, g1.trans g2⟩
theorem parts_draw (bx : Box h b) : Ok (fnT (k + 11) 0 [.ref b] h) fun a h' => ∃ n H, a = .ref n ∧ h'.get n = some (.lst (listW H)) ∧ H.Fine ∧ b < n ∧ Box h' b ∧ GroB b h h' := by
  show Ok (runZ 4 (m_0 (fnT (k + 10)) (fnT (k + 9)) (k + 9)) [.ref b] h) _
  refine ok_run ?_
  show WxS (m_0 _ _ _ [some (.ref b), none, none, none] h) _ _
  unfold m_0
  refine seq_cutx (P := fun ρ h' => ∃ o, ρ = [some (.ref b), some (oiW o), none, none] ∧ (o = none ∨ ∃ i, o = some i ∧ 1 ≤ i ∧ i ≤ 6) ∧ Box h' b ∧ GroB b h h') ?_ fun ρ h1 ⟨o1, er, ho1, bx1, g1⟩ => ?_
  · obtain ⟨a, h1, e1, o, rfl, ho, bx1, g1⟩ := (opt_drawn (k := k) (m := 3) (p := 6) (x1 := none) (x2 := none) (x3 := none) (by decide) (by decide) (by decide) (by decide) bx).ex
    generalize zif _ _ _ = Zl at e1 ⊢
    simp! [e1]
    exact ⟨o, rfl, ho, bx1, g1⟩
  subst er
  refine seq_cutx (P := fun ρ h' => ∃ o, ρ = [some (.ref b), some (oiW o1), some (oiW o), none] ∧ (o = none ∨ ∃ i, o = some i ∧ 1 ≤ i ∧ i ≤ 3) ∧ Box h' b ∧ GroB b h h') ?_ fun ρ h2 ⟨o2, er, ho2, bx2, g2⟩ => ?_
  · obtain ⟨a, h2, e2, o, rfl, ho, bx2, g2⟩ := (opt_drawn (k := k) (m := 2) (p := 3) (x1 := some (oiW o1)) (x2 := none) (x3 := none) (by decide) (by decide) (by decide) (by decide) bx1).ex
    generalize zif _ _ _ = Zl at e2 ⊢
    simp! [e2]
    exact ⟨o, rfl, ho, bx2, g1.trans g2⟩
  subst er
  refine seq_cutx (P := fun ρ h' => ∃ (n m : Nat) (kp : List Nat), ρ = [some (.ref b), some (oiW o1), some (oiW o2), some (.ref n)] ∧ h'.get n = some (.lst [.int (m : Int), .str kp]) ∧ 1 ≤ m ∧ m ≤ 4 ∧ (kp = tLOW ∨ kp = tHIGH) ∧ b < n ∧ h.n ≤ n ∧ Box h' b ∧ GroB b h h') ?_ fun ρ h3 ⟨n, m, kp, er, en, m1, m2, hk, bn, ln, bx3, g3⟩ => ?_
  · simp! []
    refine (take9 (k := k + 8) bx2 (m := 4) (by decide) (by decide)).to fun w h3 ⟨⟨d, ed, hd⟩, bx3, g3⟩ => ?_
    subst ed
    simp! [zadd, lim2]
    refine (pickL9 (k := k + 7) bx3 [.str tLOW, .str tHIGH] (by decide) (by decide)).to fun w h4 ⟨hw, bx4, g4⟩ => ?_
    obtain ⟨kp, rfl, hk⟩ : ∃ kp, w = .str kp ∧ (kp = tLOW ∨ kp = tHIGH) := by
      simp only [List.mem_cons, List.not_mem_nil, or_false] at hw
      rcases hw with rfl | rfl
      · exact ⟨_, rfl, .inl rfl⟩
      · exact ⟨_, rfl, .inr rfl⟩
    have gp := Gro.push h4 (.lst [.int (1 + (d : Int)), .str kp])
    have gg := (g2.trans g3).trans g4
    refine ⟨h4.n, 1 + d, kp, rfl, ?_, by omega, by omega, hk, bx4.lt, gg.size, bx4.gro gp, gg.trans (gp.b b)⟩
    rw [Hz.get_push_self, Int.natCast_add]
    rfl
  subst er
  have nb : n ≠ b := Nat.ne_of_gt bn
  refine seq_cutx (P := fun ρ h' => ∃ (jn : List Nat), ρ = [some (.ref b), some (oiW o1), some (oiW o2), some (.ref n)] ∧ h'.get n = some (.lst [.int (m : Int), .str kp, .str jn]) ∧ (jn = tLEFT ∨ jn = tRIGHT ∨ jn = tNONE) ∧ Box h' b ∧ GroB b h h') ?_ fun ρ h4 ⟨jn, er, en4, hj, bx4, g4⟩ => ?_
  · simp! [zbm, zty_ref en, lim3]
    refine (pickL9 (k := k + 7) bx3 [.str tLEFT, .str tRIGHT, .str tNONE] (by decide) (by decide)).to fun w h4 ⟨hw, bx4, g4⟩ => ?_
    obtain ⟨jn, rfl, hj⟩ : ∃ jn, w = .str jn ∧ (jn = tLEFT ∨ jn = tRIGHT ∨ jn = tNONE) := by
      simp only [List.mem_cons, List.not_mem_nil, or_false] at hw
      rcases hw with rfl | rfl | rfl
      · exact ⟨_, rfl, .inl rfl⟩
      · exact ⟨_, rfl, .inr (.inl rfl)⟩
      · exact ⟨_, rfl, .inr (.inr rfl)⟩
    have en4 := g4.get en nb
    have ap := app_ok (x := .str jn) en4 (Nat.le_of_ble_eq_true rfl)
    simp! [ap]
    obtain ⟨u, v, w, eb⟩ := bx4
    exact ⟨jn, Hz.get_put_self en4, hj, ⟨u, v, w, by rw [Hz.get_put_ne en4 (Ne.symm nb)]; exact eb⟩, (g3.trans g4).putN en4 ln⟩
  subst er
  rw [seq_one]
  have zo : ∀ o, zvW (some (oiW o)) = ret (oiW o) := fun o => zv_oi
  simp! []
  refine (take9 (k := k + 8) bx4 (m := 2) (by decide) (by decide)).to fun w h5 ⟨⟨d, ed, hd⟩, bx5, g5⟩ => ?_
  subst ed
  simp! [eqn0, zo]
  refine (take9 (k := k + 8) bx5 (m := 2) (by decide) (by decide)).to fun w h6 ⟨⟨e, ee, he⟩, bx6, g6⟩ => ?_
  subst ee
  have en6 := g6.get (g5.get en4 nb) nb
  have gp := Gro.push h6 (.lst [.bl (decide ((d : Int) = 0)), oiW o1, .bl (decide ((e : Int) = 0)), oiW o2])
  have ad := zadd_lM (gp.get en6) (Hz.get_push_self h6 (.lst [.bl (decide ((d : Int) = 0)), oiW o1, .bl (decide ((e : Int) = 0)), oiW o2])) (Nat.le_of_ble_eq_true rfl)
  simp! [eqn0, zo, lim4, ad]
  have gp2 := Gro.push (h6.push (.lst [.bl (decide ((d : Int) = 0)), oiW o1, .bl (decide ((e : Int) = 0)), oiW o2])) (.lst ([.int (m : Int), .str kp, .str jn] ++ [.bl (decide ((d : Int) = 0)), oiW o1, .bl (decide ((e : Int) = 0)), oiW o2]))
  have lb6 := bx6.lt
  refine ⟨_, ⟨m, kp, jn, decide ((d : Int) = 0), o1, decide ((e : Int) = 0), o2⟩, rfl, Hz.get_push_self _ _, ⟨⟨m, rfl, m1, m2⟩, hk, hj, ho1, ho2⟩, Nat.lt_trans lb6 (Nat.lt_succ_self _), bx6.gro (gp.trans gp2), ((g4.trans g5).trans g6).trans ((gp.trans gp2).b b)⟩
end
end Lk07

namespace Z
theorem zcut_lst {h : Hz} {l : Nat} {ws : List W} {lo hi : Option Int} (e : h.get l = some (.lst ws)) : zcut (.ref l) lo hi h = .ok (.ref h.n) (h.push (.lst (cutW ws lo hi))) := by
  show (bnd (zseq (.ref l)) fun p => new (.lst (cutW p.2 lo hi))) h = _
  simp only [bnd, zseq_ref e, new]
theorem cmpH_els {p : Bool} {T : List (Nat × Nat)} {fn : Nat → List W → M W} {els : W → W → M W} {x y : W} {h : Hz} (k : isObjK (kind h x) = false) : zcmpH p T fn els x y h = els x y h := by
  unfold zcmpH
  cases q : kind h x with
  | obj c fs => rw [q] at k; cases k
  | _ => rfl
theorem cmpH_els1 {p : Bool} {T : List (Nat × Nat)} {fn : Nat → List W → M W} {els : W → W → M W} {y : W} {h : Hz} {s : List Nat} : zcmpH p T fn els (.str s) y h = els (.str s) y h := rfl
theorem cmpH_els2 {p : Bool} {T : List (Nat × Nat)} {fn : Nat → List W → M W} {els : W → W → M W} {y : W} {h : Hz} {b : Bool} : zcmpH p T fn els (.bl b) y h = els (.bl b) y h := rfl
end Z
namespace Lk07
open Z
section
variable {k n b : Nat} {h : Hz} {H N : HouseP}
theorem told_ok : Ok (fnT (k + 2) 1 [hw H] h) fun x h' => x = .ref h.n ∧ h'.get h.n = some (.lst (listW H)) ∧ Gro h h' := by
  show Ok (runZ 1 (m_1 (fnT (k + 1)) (fnT k) k) [hw H] h) _
  refine ok_run ?_
  show WxS (m_1 _ _ _ [some (hw H)] h) _ _
  unfold m_1
  have f3 : zfldW [0] 3 (hw H) = ret (.int H.rows) := rfl
  have f4 : zfldW [0] 4 (hw H) = ret (.str H.keeps) := rfl
  have f5 : zfldW [0] 5 (hw H) = ret (.str H.joins) := rfl
  have f6 : zfldW [0] 6 (hw H) = ret (.bl H.again) := rfl
  have f7 : zfldW [0] 7 (hw H) = ret (oiW H.stamps) := rfl
  have f8 : zfldW [0] 8 (hw H) = ret (.bl H.on) := rfl
  have f9 : zfldW [0] 9 (hw H) = ret (oiW H.changes) := rfl
  have gp := Gro.push h (.lst (listW H))
  have pp := Hz.get_push_self h (.lst (listW H))
  simp! [zv_hw, f3, f4, f5, f6, f7, f8, f9, lim7]
  exact ⟨pp, gp⟩
theorem rd_oi {h : Hz} (o : Option Int) : Rd allC h (oiW o) := by cases o <;> exact trivial
theorem Fine.kl (f : H.Fine) : H.keeps.length ≤ 64 := by rcases f.keeps with e | e <;> rw [e] <;> decide
theorem Fine.jl (f : H.Fine) : H.joins.length ≤ 64 := by rcases f.joins with e | e | e <;> rw [e] <;> decide
theorem made_ok (f : H.Fine) (en : h.get n = some (.lst (listW H))) : Ok (fnT (k + 8) 2 [.ref n] h) fun x h' => x = hw H ∧ Gro h h' := by
  show Ok (runZ 1 (m_2 (fnT (k + 7)) (fnT (k + 6)) (k + 6)) [.ref n] h) _
  refine ok_run ?_
  show WxS (m_2 _ _ _ [some (.ref n)] h) _ _
  unfold m_2
  have z0 := zix_lM (i := 0) en rfl
  have z1 := zix_lM (i := 1) en rfl
  have z2 := zix_lM (i := 2) en rfl
  have z3 := zix_lM (i := 3) en rfl
  have z4 := zix_lM (i := 4) en rfl
  have z5 := zix_lM (i := 5) en rfl
  have z6 := zix_lM (i := 6) en rfl
  have z0 : zix (.ref n) (.int 0) h = .ok (.int H.rows) h := z0
  have z1 : zix (.ref n) (.int 1) h = .ok (.str H.keeps) h := z1
  have z2 : zix (.ref n) (.int 2) h = .ok (.str H.joins) h := z2
  have z3 : zix (.ref n) (.int 3) h = .ok (.bl H.again) h := z3
  have z4 : zix (.ref n) (.int 4) h = .ok (oiW H.stamps) h := z4
  have z5 : zix (.ref n) (.int 5) h = .ok (.bl H.on) h := z5
  have z6 : zix (.ref n) (.int 6) h = .ok (oiW H.changes) h := z6
  simp! [z0, z1, z2, z3, z4, z5, z6]
  refine (house_mk twH (j := k) (a := .int H.rows) (b := .str H.keeps) (c := .str H.joins) (d := .bl H.again) (e := oiW H.stamps) (f := .bl H.on) (g := oiW H.changes) trivial (Fine.kl f) (Fine.jl f) trivial (rd_oi _) trivial (rd_oi _)).to (fun x h' ⟨ex, _, g⟩ => ?_) (fun x fs h' ⟨_, _, en, _⟩ => (en f.fault).elim)
  subst ex
  exact ⟨rfl, g⟩
abbrev dH (H : HouseP) : List (W × W) := dctOf (.int H.rows) (.str H.keeps) (.str H.joins) (.bl H.again) (oiW H.stamps) (.bl H.on) (oiW H.changes)
theorem hits_dH : hitsW (dH N) (dH H) = some (bE H N) := by
  have a1 : getKW kR (dH N) = some (.int N.rows) := rfl
  have a2 : getKW kK (dH N) = some (.str N.keeps) := rfl
  have a3 : getKW kJ (dH N) = some (.str N.joins) := rfl
  have a4 : getKW kA (dH N) = some (.bl N.again) := rfl
  have a5 : getKW kS (dH N) = some (oiW N.stamps) := rfl
  have a6 : getKW kO (dH N) = some (.bl N.on) := rfl
  have a7 : getKW kC (dH N) = some (oiW N.changes) := rfl
  have e1 : eqAt1 (.int H.rows) (.int N.rows) = some (H.rows == N.rows) := rfl
  have e2 : eqAt1 (.str H.keeps) (.str N.keeps) = some (eqN H.keeps N.keeps) := rfl
  have e3 : eqAt1 (.str H.joins) (.str N.joins) = some (eqN H.joins N.joins) := rfl
  have e4 : eqAt1 (.bl H.again) (.bl N.again) = some (H.again == N.again) := rfl
  have e6 : eqAt1 (.bl H.on) (.bl N.on) = some (H.on == N.on) := rfl
  generalize hm : dH N = dm at *
  show hitsW dm [(kR, .int H.rows), (kK, .str H.keeps), (kJ, .str H.joins), (kA, .bl H.again), (kS, oiW H.stamps), (kO, .bl H.on), (kC, oiW H.changes)] = _
  simp only [hitsW, a1, a2, a3, a4, a5, a6, a7, e1, e2, e3, e4, at_oi, e6, bE]
theorem heq_ok : Ok (fnT (k + 4) 67 [hw H, hw N] h) fun x h' => x = .bl (bE H N) ∧ Gro h h' := by
  show Ok (runZ 2 (m_67 (fnT (k + 3)) (fnT (k + 2)) (k + 2)) [hw H, hw N] h) _
  refine ok_run ?_
  show WxS (m_67 _ _ _ [some (hw H), some (hw N)] h) _ _
  unfold m_67
  have i1 : isiF allC [] [0] (kind h (hw N)) = some true := rfl
  have zin : ∀ H : HouseP, zins (hw H) = ret (0, [(3, .int H.rows), (4, .str H.keeps), (5, .str H.joins), (6, .bl H.again), (7, oiW H.stamps), (8, .bl H.on), (9, oiW H.changes)]) := fun _ => rfl
  simp! [zv_hw, i1, zin, zi_hs (T := [(0, 65)]) (mi := 11) rfl rfl]
  refine (parts_ok (k := k + 1) (a := .int H.rows) (b := .str H.keeps) (c := .str H.joins) (d := .bl H.again) (e := oiW H.stamps) (f := .bl H.on) (g := oiW H.changes)).to fun x h1 ⟨ex, e1, g1⟩ => ?_
  subst ex
  refine (parts_ok (k := k + 1) (a := .int N.rows) (b := .str N.keeps) (c := .str N.joins) (d := .bl N.again) (e := oiW N.stamps) (f := .bl N.on) (g := oiW N.changes)).to fun x h2 ⟨ex, e2, g2⟩ => ?_
  subst ex
  have r1 := dref_of (g2.get e1)
  have r2 := dref_of e2
  have hh := hits_dH (H := H) (N := N)
  simp! [zdeq, r1, r2, hh]
  exact ⟨rfl, g1.trans g2⟩
theorem heq_lst (en : h.get n = some (.lst (listW N))) : Ok (fnT (k + 4) 67 [hw H, .ref n] h) fun x h' => x = .bl false ∧ Gro h h' := by
  show Ok (runZ 2 (m_67 (fnT (k + 3)) (fnT (k + 2)) (k + 2)) [hw H, .ref n] h) _
  refine ok_run ?_
  show WxS (m_67 _ _ _ [some (hw H), some (.ref n)] h) _ _
  unfold m_67
  have i1 : isiF allC [] [0] (kind h (.ref n)) = some false := by
    show isiF allC [] [0] (kindC (h.get n)) = _
    rw [en]
    rfl
  simp! [zv_hw, i1]
  exact Gro.refl _
theorem cmpH_hh {p : Bool} {els : W → W → M W} : Ok (zcmpH p hqT (fnT (k + 4)) els (hw H) (hw N) h) fun x h' => x = .bl (bE H N != p) ∧ Gro h h' := by
  obtain ⟨x, h', e, rfl, g⟩ := (heq_ok (k := k) (H := H) (N := N) (h := h)).ex
  have : zcmpH p hqT (fnT (k + 4)) els (hw H) (hw N) h = .ok (.bl (bE H N != p)) h' := by
    show bnd (noex (fnT (k + 4) 67 [hw H, hw N])) (asBoW p) h = _
    unfold bnd noex
    rw [e]
    rfl
  rw [this]
  exact ⟨rfl, g⟩
theorem cmpH_hl {p : Bool} {els : W → W → M W} (en : h.get n = some (.lst (listW N))) : Ok (zcmpH p hqT (fnT (k + 4)) els (hw H) (.ref n) h) fun x h' => x = .bl (false != p) ∧ Gro h h' := by
  obtain ⟨x, h', e, rfl, g⟩ := (heq_lst (k := k) (H := H) (N := N) en).ex
  have : zcmpH p hqT (fnT (k + 4)) els (hw H) (.ref n) h = .ok (.bl (false != p)) h' := by
    have kd : kind h (.ref n) = .lst (listW N) := by show kindC (h.get n) = _; rw [en]; rfl
    show (match kind h (.ref n) with
      | .no => R.err
      | .obj d _ => if 0 = d then bnd (noex (zcall 2 0 gId (fnT (k + 4) 67) [hw H, .ref n] [])) (asBoW p) h else .err
      | _ => bnd (noex (zcall 2 0 gId (fnT (k + 4) 67) [hw H, .ref n] [])) (asBoW p) h) = _
    rw [kd]
    show bnd (noex (fnT (k + 4) 67 [hw H, .ref n])) (asBoW p) h = _
    unfold bnd noex
    rw [e]
    rfl
  rw [this]
  exact ⟨rfl, g⟩
end
end Lk07

namespace Lk07
open Z
def mixP (i : Nat) (H N : HouseP) : HouseP := match i with
  | 0 => { H with rows := N.rows }
  | 1 => { H with keeps := N.keeps }
  | 2 => { H with joins := N.joins }
  | 3 => { H with again := N.again }
  | 4 => { H with stamps := N.stamps }
  | 5 => { H with on := N.on }
  | _ => { H with changes := N.changes }
theorem mixP_fine {i : Nat} {H N : HouseP} (f : H.Fine) (g : N.Fine) : (mixP i H N).Fine := by
  unfold mixP
  split
  · exact ⟨g.rows, f.keeps, f.joins, f.stamps, f.changes⟩
  · exact ⟨f.rows, g.keeps, f.joins, f.stamps, f.changes⟩
  · exact ⟨f.rows, f.keeps, g.joins, f.stamps, f.changes⟩
  · exact ⟨f.rows, f.keeps, f.joins, f.stamps, f.changes⟩
  · exact ⟨f.rows, f.keeps, f.joins, g.stamps, f.changes⟩
  · exact ⟨f.rows, f.keeps, f.joins, f.stamps, f.changes⟩
  · exact ⟨f.rows, f.keeps, f.joins, f.stamps, g.changes⟩
theorem mix_cut {i : Nat} {H N : HouseP} (l : i < 7) : cutW (listW H) none (some (i : Int)) ++ cutW (listW N) (some (i : Int)) (some ((i : Int) + 1)) ++ cutW (listW H) (some ((i : Int) + 1)) none = listW (mixP i H N) := by
  have : i = 0 ∨ i = 1 ∨ i = 2 ∨ i = 3 ∨ i = 4 ∨ i = 5 ∨ i = 6 := by omega
  rcases this with rfl | rfl | rfl | rfl | rfl | rfl | rfl <;> rfl
abbrev E11 (x0 x1 : Option W) (b : Nat) (x3 x4 x5 x6 x7 x8 x9 x10 : Option W) : Ev := [x0, x1, some (.ref b), x3, x4, x5, x6, x7, x8, x9, x10]
section
variable {k b n1 n2 n3 : Nat} {h : Hz} {H N : HouseP} {x0 x1 x3 x4 x5 x6 x7 x8 x9 x10 : Option W}
theorem near_ok {i : Nat} {K : MS} {Q : Fl → Ev → Hz → Prop} {E : Nat → List (Nat × W) → Ev → Hz → Prop} (l : i < 7) (e1 : h.get n1 = some (.lst (listW H))) (e2 : h.get n2 = some (.lst (listW N)))
    (nx : ∀ h' n3, h'.get n3 = some (.lst (listW (mixP i H N))) → Gro h h' → WxS (K (E11 x0 x1 b x3 (some (.int (i : Nat))) (some (.ref n3)) x6 (some (.ref n1)) (some (.ref n2)) x9 x10) h') Q E) :
    WxS (sseq (sasg (zbin zadd (zbin zadd (zslice (zvar 7) (fun _ => ret none) (zpart (zvar 4))) (zslice (zvar 8) (zpart (zvar 4)) (zpart (zbin zadd (zvar 4) (fun _ => ret (.int 1)))))) (zslice (zvar 7) (zpart (zbin zadd (zvar 4) (fun _ => ret (.int 1)))) (fun _ => ret none))) (gname 5)) K (E11 x0 x1 b x3 (some (.int (i : Nat))) x5 x6 (some (.ref n1)) (some (.ref n2)) x9 x10) h) Q E := by
  refine seq_cutx (P := fun ρ h' => ∃ n3, ρ = E11 x0 x1 b x3 (some (.int (i : Nat))) (some (.ref n3)) x6 (some (.ref n1)) (some (.ref n2)) x9 x10 ∧ h'.get n3 = some (.lst (listW (mixP i H N))) ∧ Gro h h') ?_ fun ρ h1 ⟨n3, er, e3, g⟩ => by subst er; exact nx h1 n3 e3 g
  have c1 := zcut_lst (lo := none) (hi := some (i : Int)) e1
  have gA := Gro.push h (.lst (cutW (listW H) none (some (i : Int))))
  have pA := Hz.get_push_self h (.lst (cutW (listW H) none (some (i : Int))))
  generalize hA : h.push (.lst (cutW (listW H) none (some (i : Int)))) = h1 at c1 gA pA
  have c2 := zcut_lst (lo := some (i : Int)) (hi := some ((i : Int) + 1)) (gA.get e2)
  have gB := Gro.push h1 (.lst (cutW (listW N) (some (i : Int)) (some ((i : Int) + 1))))
  have pB := Hz.get_push_self h1 (.lst (cutW (listW N) (some (i : Int)) (some ((i : Int) + 1))))
  generalize hB : h1.push (.lst (cutW (listW N) (some (i : Int)) (some ((i : Int) + 1)))) = h2 at c2 gB pB
  have cl : ∀ (H : HouseP) (lo hi : Option Int), (cutW (listW H) lo hi).length ≤ 7 := fun H lo hi => by
    unfold cutW
    rw [List.length_take, List.length_drop]
    show min _ (7 - _) ≤ 7
    omega
  have a3 := zadd_lM (gB.get pA) pB (by rw [List.length_append]; have := cl H none (some (i : Int)); have := cl N (some (i : Int)) (some ((i : Int) + 1)); omega)
  have gC := Gro.push h2 (.lst (cutW (listW H) none (some (i : Int)) ++ cutW (listW N) (some (i : Int)) (some ((i : Int) + 1))))
  have pC := Hz.get_push_self h2 (.lst (cutW (listW H) none (some (i : Int)) ++ cutW (listW N) (some (i : Int)) (some ((i : Int) + 1))))
  generalize hC : h2.push (.lst (cutW (listW H) none (some (i : Int)) ++ cutW (listW N) (some (i : Int)) (some ((i : Int) + 1)))) = h3 at a3 gC pC
  have c4 := zcut_lst (lo := some ((i : Int) + 1)) (hi := none) (gC.get (gB.get (gA.get e1)))
  have gD := Gro.push h3 (.lst (cutW (listW H) (some ((i : Int) + 1)) none))
  have pD := Hz.get_push_self h3 (.lst (cutW (listW H) (some ((i : Int) + 1)) none))
  generalize hD : h3.push (.lst (cutW (listW H) (some ((i : Int) + 1)) none)) = h4 at c4 gD pD
  have a5 := zadd_lM (gD.get pC) pD (by rw [mix_cut l]; exact Nat.le_of_ble_eq_true rfl)
  rw [mix_cut l] at a5
  have gE := Gro.push h4 (.lst (listW (mixP i H N)))
  have ai : ∀ h, zadd (.int (i : Int)) (.int 1) h = .ok (.int ((i : Int) + 1)) h := fun _ => rfl
  simp! [c1, ai, c2, a3, c4, a5]
  exact ⟨_, rfl, Hz.get_push_self _ _, (((gA.trans gB).trans gC).trans gD).trans gE⟩
abbrev mixQ (H N : HouseP) : HouseP := { H with rows := N.rows, stamps := N.stamps }
theorem near4_ok {K : MS} {Q : Fl → Ev → Hz → Prop} {E : Nat → List (Nat × W) → Ev → Hz → Prop} (e1 : h.get n1 = some (.lst (listW H))) (e2 : h.get n2 = some (.lst (listW N)))
    (nx : ∀ h' n3, h'.get n3 = some (.lst (listW (mixQ H N))) → Gro h h' → WxS (K (E11 x0 x1 b x3 x4 (some (.ref n3)) x6 (some (.ref n1)) (some (.ref n2)) x9 x10) h') Q E) :
    WxS (sseq (sasg (zbin zadd (zbin zadd (zbin zadd (zslice (zvar 8) (fun _ => ret none) (zpart (fun _ => ret (.int 1)))) (zslice (zvar 7) (zpart (fun _ => ret (.int 1))) (zpart (fun _ => ret (.int 4))))) (zslice (zvar 8) (zpart (fun _ => ret (.int 4))) (zpart (fun _ => ret (.int 5))))) (zslice (zvar 7) (zpart (fun _ => ret (.int 5))) (fun _ => ret none))) (gname 5)) K (E11 x0 x1 b x3 x4 x5 x6 (some (.ref n1)) (some (.ref n2)) x9 x10) h) Q E := by
  refine seq_cutx (P := fun ρ h' => ∃ n3, ρ = E11 x0 x1 b x3 x4 (some (.ref n3)) x6 (some (.ref n1)) (some (.ref n2)) x9 x10 ∧ h'.get n3 = some (.lst (listW (mixQ H N))) ∧ Gro h h') ?_ fun ρ h1 ⟨n3, er, e3, g⟩ => by subst er; exact nx h1 n3 e3 g
  have c1 : zcut (.ref n2) none (some 1) h = .ok (.ref h.n) (h.push (.lst [.int N.rows])) := zcut_lst (lo := none) (hi := some 1) e2
  have gA := Gro.push h (.lst [.int N.rows])
  have pA := Hz.get_push_self h (.lst [.int N.rows])
  generalize hA : h.push (.lst [.int N.rows]) = h1 at c1 gA pA
  have c2 : zcut (.ref n1) (some 1) (some 4) h1 = .ok (.ref h1.n) (h1.push (.lst [.str H.keeps, .str H.joins, .bl H.again])) := zcut_lst (lo := some 1) (hi := some 4) (gA.get e1)
  have gB := Gro.push h1 (.lst [.str H.keeps, .str H.joins, .bl H.again])
  have pB := Hz.get_push_self h1 (.lst [.str H.keeps, .str H.joins, .bl H.again])
  generalize hB : h1.push (.lst [.str H.keeps, .str H.joins, .bl H.again]) = h2 at c2 gB pB
  have a3 := zadd_lM (gB.get pA) pB (Nat.le_of_ble_eq_true rfl)
  have gC := Gro.push h2 (.lst ([.int N.rows] ++ [.str H.keeps, .str H.joins, .bl H.again]))
  have pC := Hz.get_push_self h2 (.lst ([.int N.rows] ++ [.str H.keeps, .str H.joins, .bl H.again]))
  generalize hC : h2.push (.lst ([.int N.rows] ++ [.str H.keeps, .str H.joins, .bl H.again])) = h3 at a3 gC pC
  have c4 : zcut (.ref n2) (some 4) (some 5) h3 = .ok (.ref h3.n) (h3.push (.lst [oiW N.stamps])) := zcut_lst (lo := some 4) (hi := some 5) (gC.get (gB.get (gA.get e2)))
  have gD := Gro.push h3 (.lst [oiW N.stamps])
  have pD := Hz.get_push_self h3 (.lst [oiW N.stamps])
  generalize hD : h3.push (.lst [oiW N.stamps]) = h4 at c4 gD pD
  have a5 := zadd_lM (gD.get pC) pD (Nat.le_of_ble_eq_true rfl)
  have gE := Gro.push h4 (.lst (([.int N.rows] ++ [.str H.keeps, .str H.joins, .bl H.again]) ++ [oiW N.stamps]))
  have pE := Hz.get_push_self h4 (.lst (([.int N.rows] ++ [.str H.keeps, .str H.joins, .bl H.again]) ++ [oiW N.stamps]))
  generalize hE : h4.push (.lst (([.int N.rows] ++ [.str H.keeps, .str H.joins, .bl H.again]) ++ [oiW N.stamps])) = h5 at a5 gE pE
  have c6 : zcut (.ref n1) (some 5) none h5 = .ok (.ref h5.n) (h5.push (.lst [.bl H.on, oiW H.changes])) := zcut_lst (lo := some 5) (hi := none) (gE.get (gD.get (gC.get (gB.get (gA.get e1)))))
  have gF := Gro.push h5 (.lst [.bl H.on, oiW H.changes])
  have pF := Hz.get_push_self h5 (.lst [.bl H.on, oiW H.changes])
  generalize hF : h5.push (.lst [.bl H.on, oiW H.changes]) = h6 at c6 gF pF
  have a7 := zadd_lM (gF.get pE) pF (Nat.le_of_ble_eq_true rfl)
  have gG := Gro.push h6 (.lst (([.int N.rows] ++ [.str H.keeps, .str H.joins, .bl H.again]) ++ [oiW N.stamps] ++ [.bl H.on, oiW H.changes]))
  simp! [c1, c2, a3, c4, a5, c6, a7]
  exact ⟨_, rfl, Hz.get_push_self _ _, (((((gA.trans gB).trans gC).trans gD).trans gE).trans gF).trans gG⟩
end
end Lk07

namespace Lk07
open Z
section
variable {k b n1 n2 n3 : Nat} {h : Hz} {H N : HouseP} {x0 x1 x3 x4 x5 x6 x7 x8 x9 x10 : Option W}
theorem callK_but {ks : List (List Nat)} {qs : List W} {H' : HouseP} (f : H'.Fine) (lk : qs.length = ks.length) (lo : (List.zip (ks.map W.str) qs).length ≤ 20) (hm : mergeW (dH H) (List.zip (ks.map W.str) qs) = dH H') :
    Ok (zcallK ks (fnT (k + 8) 66) (hw H) qs h) fun x h' => x = hw H' ∧ Gro h h' := by
  refine Wx.ok ?_
  unfold zcallK
  have gp := Gro.push h (.dct (List.zip (ks.map W.str) qs))
  have pp := Hz.get_push_self h (.dct (List.zip (ks.map W.str) qs))
  simp! [lk, new_eq]
  exact (but_ok (k := k) (a' := .int H'.rows) (b' := .str H'.keeps) (c' := .str H'.joins) (d' := .bl H'.again) (e' := oiW H'.stamps) (f' := .bl H'.on) (g' := oiW H'.changes) pp lo hm trivial (Fine.kl f) (Fine.jl f) trivial (rd_oi _) trivial (rd_oi _)).to (fun x h' ⟨ex, _, g⟩ => ⟨ex, gp.trans g⟩) (fun x fs h' ⟨_, _, en, _⟩ => (en f.fault).elim)
theorem zin_hw : zins (hw H) = ret (0, [(3, .int H.rows), (4, .str H.keeps), (5, .str H.joins), (6, .bl H.again), (7, oiW H.stamps), (8, .bl H.on), (9, oiW H.changes)]) := rfl
theorem zi_but {a b c d e f g : W} : zfind 12 [(0, 66)] (0, [(3, a), (4, b), (5, c), (6, d), (7, e), (8, f), (9, g)]) = ret 66 := zi_hs (T := [(0, 66)]) (mi := 12) rfl rfl
theorem ne_str {E : Z.ET} {n : Nat} {t : List Nat} {h : Hz} : zcmpNe E (n + 1) (.str t) (.str t) h = .ok (.bl false) h := by
  have e : zeq E h (n + 1) (.str t) (.str t) = some (eqN t t) := zeq_at rfl
  rw [ne_no rfl e, eqN_eq]
  simp
theorem ne_bl {E : Z.ET} {n : Nat} {t : Bool} {h : Hz} : zcmpNe E (n + 1) (.bl t) (.bl t) h = .ok (.bl false) h := by
  have e : zeq E h (n + 1) (.bl t) (.bl t) = some (t == t) := zeq_at rfl
  rw [ne_no rfl e]
  simp
theorem test5 (f : H.Fine) (g : N.Fine) (e1 : h.get n1 = some (.lst (listW H))) (e3 : h.get n3 = some (.lst (listW N))) :
    WxS (sif (zor (ztest (zbin (zcmpH true hqT (fnT (k + 10)) (zcmpNe ET (k + 10 + 1))) (zb (one1 zreprA) (zcons (zfun (zcons (zvar 9) znil) znil (zcall 1 0 gId (fnT (k + 11) 1))) znil)) (zb (one1 zreprA) (zcons (zvar 7) znil)))) (zor (ztest (zbin (zcmpH true hqT (fnT (k + 10)) (zcmpNe ET (k + 10 + 1))) (zbin (zcmpH false hqT (fnT (k + 10)) (zcmpEq ET (k + 10 + 1))) (zvar 9) (zvar 10)) (zbin (zcmpH false hqT (fnT (k + 10)) (zcmpEq ET (k + 10 + 1))) (zvar 7) (zvar 5)))) (ztest (zbin (zcmpH false hqT (fnT (k + 10)) (zcmpEq ET (k + 10 + 1))) (zvar 9) (zvar 7))))) (sseq (sret (fun _ => ret (.bl false))) snil) snil
      (E11 x0 x1 b x3 x4 (some (.ref n3)) x6 (some (.ref n1)) x8 (some (hw H)) (some (hw N))) h) (fun fl ρ h' => fl = .next ∧ ρ = E11 x0 x1 b x3 x4 (some (.ref n3)) x6 (some (.ref n1)) x8 (some (hw H)) (some (hw N)) ∧ Gro h h') noES := by
  obtain ⟨t, ht⟩ := repr_list f
  simp! [zv_hw]
  refine (told_ok (k := k + 9)).to fun x h1 ⟨ex, m1, g1⟩ => ?_
  subst ex
  simp! [ht _ _ m1, ht _ _ (g1.get e1), cmpH_els1, ne_str, zv_hw]
  refine (cmpH_hh (k := k + 6)).to fun x h2 ⟨ex, g2⟩ => ?_
  subst ex
  have g12 := g1.trans g2
  have kd : isObjK (kind h2 (.ref n1)) = false := by show isObjK (kindC (h2.get n1)) = _; rw [g12.get e1]; rfl
  have q2 : zcmpEq ET (k + 10 + 1) (.ref n1) (.ref n3) h2 = .ok (.bl (bE H N)) h2 := by
    unfold zcmpEq
    rw [show zeq ET h2 (k + 10 + 1) (.ref n1) (.ref n3) = some (bE H N) from zeq_lists (n := k + 9) (g12.get e1) (g12.get e3)]
  simp! [cmpH_els kd, q2, cmpH_els2, Bool.bne_false, ne_bl, zv_hw]
  refine (cmpH_hl (k := k + 6) (g12.get e1)).to fun x h3 ⟨ex, g3⟩ => ?_
  subst ex
  simp! [bne_self_eq_false]
  exact g12.trans g3
theorem mk5_eq {F : List W → M W} {c o s a j : W} {h : Hz} : zmkW true 0 0 5 (fun ws qs => pick [0, 1, 2, 12, 11, 10, 9, 8] (ws ++ dd_64_1 ++ qs)) F [] [c, o, s, a, j] h = zmkW true 0 7 0 gId F [.int 2, .str tLOW, j, a, s, o, c] [] h := by
  unfold zmkW zcall gId
  simp only [List.length_cons, List.length_nil, and_self, if_true, Nat.zero_add, Nat.reduceAdd]
  rfl
abbrev zP (H : HouseP) : HouseP := { H with rows := 2, keeps := tLOW }
theorem zP_fine (f : H.Fine) : (zP H).Fine := ⟨⟨2, rfl, by decide, by decide⟩, .inl rfl, f.joins, f.stamps, f.changes⟩
theorem ixs (e : h.get n1 = some (.lst (listW H))) : zix (.ref n1) (.int 0) h = .ok (.int H.rows) h ∧ zix (.ref n1) (.int 1) h = .ok (.str H.keeps) h ∧ zix (.ref n1) (.int 2) h = .ok (.str H.joins) h ∧ zix (.ref n1) (.int 3) h = .ok (.bl H.again) h ∧ zix (.ref n1) (.int 4) h = .ok (oiW H.stamps) h ∧ zix (.ref n1) (.int 5) h = .ok (.bl H.on) h ∧ zix (.ref n1) (.int 6) h = .ok (oiW H.changes) h :=
  ⟨zix_lM (i := 0) e rfl, zix_lM (i := 1) e rfl, zix_lM (i := 2) e rfl, zix_lM (i := 3) e rfl, zix_lM (i := 4) e rfl, zix_lM (i := 5) e rfl, zix_lM (i := 6) e rfl⟩
theorem zh_ok (f : H.Fine) (e1 : h.get n1 = some (.lst (listW H))) :
    WxS (sasg (zfun0 (zcons (zbin zix (zvar 7) (fun _ => ret (.int 6))) (zcons (zbin zix (zvar 7) (fun _ => ret (.int 5))) (zcons (zbin zix (zvar 7) (fun _ => ret (.int 4))) (zcons (zbin zix (zvar 7) (fun _ => ret (.int 3))) (zcons (zbin zix (zvar 7) (fun _ => ret (.int 2))) znil))))) (zmkW true 0 0 5 (fun ws qs => pick [0, 1, 2, 12, 11, 10, 9, 8] (ws ++ dd_64_1 ++ qs)) (fnT (k + 10) 64))) (gname 6)
      (E11 x0 x1 b x3 x4 x5 x6 (some (.ref n1)) x8 x9 x10) h) (fun fl ρ h' => fl = .next ∧ ρ = E11 x0 x1 b x3 x4 x5 (some (hw (zP H))) (some (.ref n1)) x8 x9 x10 ∧ Gro h h') noES := by
  obtain ⟨z0, z1, z2, z3, z4, z5, z6⟩ := ixs e1
  have f' := zP_fine f
  simp! [z6, z5, z4, z3, z2, mk5_eq]
  refine (house_mk twH (j := k + 4) (a := .int 2) (b := .str tLOW) (c := .str H.joins) (d := .bl H.again) (e := oiW H.stamps) (f := .bl H.on) (g := oiW H.changes) trivial (Fine.kl f') (Fine.jl f) trivial (rd_oi _) trivial (rd_oi _)).to (fun x h' ⟨ex, _, g⟩ => ?_) (fun x fs h' ⟨_, _, en, _⟩ => (en f'.fault).elim)
  subst ex
  exact ⟨rfl, g⟩
theorem test7 (f : H.Fine) (e1 : h.get n1 = some (.lst (listW H))) :
    WxS (sif (zor (ztest (zbin (zcmpH true hqT (fnT (k + 10)) (zcmpNe ET (k + 10 + 1))) (zmethK 12 [(0, 66)] [[107, 101, 101, 112, 115], [114, 111, 119, 115]] (fnT (k + 11)) (zvar 6) (zcons (zbin zix (zvar 7) (fun _ => ret (.int 1))) (zcons (zbin zix (zvar 7) (fun _ => ret (.int 0))) znil))) (zvar 9))) (ztest (zbin (zcmpH true hqT (fnT (k + 10)) (zcmpNe ET (k + 10 + 1))) (zmethK 12 [(0, 66)] [] (fnT (k + 11)) (zvar 9) znil) (zvar 9)))) (sseq (sret (fun _ => ret (.bl false))) snil) snil
      (E11 x0 x1 b x3 x4 x5 (some (hw (zP H))) (some (.ref n1)) x8 (some (hw H)) x10) h) (fun fl ρ h' => fl = .next ∧ ρ = E11 x0 x1 b x3 x4 x5 (some (hw (zP H))) (some (.ref n1)) x8 (some (hw H)) x10 ∧ Gro h h') noES := by
  obtain ⟨z0, z1, z2, z3, z4, z5, z6⟩ := ixs e1
  simp! [zmethK, zv_hw, zin_hw, zi_but, z1, z0]
  refine (callK_but (k := k + 3) (H := zP H) (H' := H) f rfl (Nat.le_of_ble_eq_true rfl) rfl).to fun x h1 ⟨ex, g1⟩ => ?_
  subst ex
  refine (cmpH_hh (k := k + 6)).to fun x h2 ⟨ex, g2⟩ => ?_
  subst ex
  simp! [bE_self, bne_self_eq_false, zv_hw, zin_hw, zi_but]
  refine (callK_but (k := k + 3) (H := H) (H' := H) f rfl (Nat.le_of_ble_eq_true rfl) rfl).to fun x h3 ⟨ex, g3⟩ => ?_
  subst ex
  refine (cmpH_hh (k := k + 6)).to fun x h4 ⟨ex, g4⟩ => ?_
  subst ex
  simp! [bE_self, bne_self_eq_false]
  exact ((g1.trans g2).trans g3).trans g4
theorem mixQ_fine (f : H.Fine) (g : N.Fine) : (mixQ H N).Fine := ⟨g.rows, f.keeps, f.joins, g.stamps, f.changes⟩
theorem test9 (f : H.Fine) (g : N.Fine) (e2 : h.get n2 = some (.lst (listW N))) (e3 : h.get n3 = some (.lst (listW (mixQ H N)))) :
    WxS (sif (ztest (zbin (zcmpH true hqT (fnT (k + 10)) (zcmpNe ET (k + 10 + 1))) (zmethK 12 [(0, 66)] [[114, 111, 119, 115], [115, 116, 97, 109, 112, 115]] (fnT (k + 11)) (zvar 9) (zcons (zbin zix (zvar 8) (fun _ => ret (.int 0))) (zcons (zbin zix (zvar 8) (fun _ => ret (.int 4))) znil))) (zfun (zcons (zvar 5) znil) znil (zcall 1 0 gId (fnT (k + 11) 2))))) (sseq (sret (fun _ => ret (.bl false))) snil) snil
      (E11 x0 x1 b x3 x4 (some (.ref n3)) x6 x7 (some (.ref n2)) (some (hw H)) x10) h) (fun fl ρ h' => fl = .next ∧ ρ = E11 x0 x1 b x3 x4 (some (.ref n3)) x6 x7 (some (.ref n2)) (some (hw H)) x10 ∧ Gro h h') noES := by
  obtain ⟨z0, z1, z2, z3, z4, z5, z6⟩ := ixs e2
  simp! [zmethK, zv_hw, zin_hw, zi_but, z4, z0]
  refine (callK_but (k := k + 3) (H := H) (H' := mixQ H N) (mixQ_fine f g) rfl (Nat.le_of_ble_eq_true rfl) rfl).to fun x h1 ⟨ex, g1⟩ => ?_
  subst ex
  refine (made_ok (k := k + 3) (mixQ_fine f g) (g1.get e3)).to fun x h2 ⟨ex, g2⟩ => ?_
  subst ex
  refine (cmpH_hh (k := k + 6)).to fun x h3 ⟨ex, g3⟩ => ?_
  subst ex
  simp! [bE_self, bne_self_eq_false]
  exact (g1.trans g2).trans g3
abbrev mixJ (H N : HouseP) : HouseP := { H with changes := none, joins := N.joins, keeps := N.keeps }
theorem mixJ_fine (f : H.Fine) (g : N.Fine) : (mixJ H N).Fine := ⟨f.rows, g.keeps, g.joins, f.stamps, .inl rfl⟩
theorem test10 (f : H.Fine) (g : N.Fine) (e2 : h.get n2 = some (.lst (listW N))) :
    WxS (sif (ztest (zbin (zcmpH true hqT (fnT (k + 10)) (zcmpNe ET (k + 10 + 1))) (zfld [0] 5 (zmethK 12 [(0, 66)] [[99, 104, 97, 110, 103, 101, 115], [106, 111, 105, 110, 115], [107, 101, 101, 112, 115]] (fnT (k + 11)) (zvar 9) (zcons (fun _ => ret .non) (zcons (zbin zix (zvar 8) (fun _ => ret (.int 2))) (zcons (zbin zix (zvar 8) (fun _ => ret (.int 1))) znil))))) (zbin zix (zvar 8) (fun _ => ret (.int 2))))) (sseq (sret (fun _ => ret (.bl false))) snil) snil
      (E11 x0 x1 b x3 x4 x5 x6 x7 (some (.ref n2)) (some (hw H)) x10) h) (fun fl ρ h' => fl = .next ∧ ρ = E11 x0 x1 b x3 x4 x5 x6 x7 (some (.ref n2)) (some (hw H)) x10 ∧ Gro h h') noES := by
  obtain ⟨z0, z1, z2, z3, z4, z5, z6⟩ := ixs e2
  simp! [zmethK, zv_hw, zin_hw, zi_but, z2, z1]
  refine (callK_but (k := k + 3) (H := H) (H' := mixJ H N) (mixJ_fine f g) rfl (Nat.le_of_ble_eq_true rfl) rfl).to fun x h1 ⟨ex, g1⟩ => ?_
  subst ex
  have f5 : zfldW [0] 5 (hw (mixJ H N)) = ret (.str N.joins) := rfl
  obtain ⟨-, -, y2, -⟩ := ixs (g1.get e2)
  simp! [f5, y2, cmpH_els1, ne_str]
  exact g1
theorem test11 (f : H.Fine) (e1 : h.get n1 = some (.lst (listW H))) :
    WxS (sif (ztest (zbin (zcmpH true hqT (fnT (k + 10)) (zcmpNe ET (k + 10 + 1))) (zfun (zcons (zvar 9) znil) znil (zcall 1 0 gId (fnT (k + 11) 1))) (zvar 7))) (sseq (sret (fun _ => ret (.bl false))) snil) snil
      (E11 x0 x1 b x3 x4 x5 x6 (some (.ref n1)) x8 (some (hw H)) x10) h) (fun fl ρ h' => fl = .next ∧ ρ = E11 x0 x1 b x3 x4 x5 x6 (some (.ref n1)) x8 (some (hw H)) x10 ∧ Gro h h') noES := by
  simp! [zv_hw]
  refine (told_ok (k := k + 9)).to fun x h1 ⟨ex, m1, g1⟩ => ?_
  subst ex
  have kd : isObjK (kind h1 (.ref h.n)) = false := by show isObjK (kindC (h1.get h.n)) = _; rw [m1]; rfl
  have q : zcmpNe ET (k + 10 + 1) (.ref h.n) (.ref n1) h1 = .ok (.bl (!true)) h1 := ne_no kd (by rw [← bE_self H]; exact zeq_lists (n := k + 9) m1 (g1.get e1))
  simp! [cmpH_els kd, q]
  exact g1
theorem turn7 (bx : Box h b) : WxS (b_3_1 (fnT (k + 11)) (fnT (k + 10)) (k + 10) (E11 x0 x1 b x3 x4 x5 x6 x7 x8 x9 x10) h) (fun fl ρ h' => fl = .next ∧ ∃ x4 x5 x6 x7 x8 x9 x10, ρ = E11 x0 x1 b x3 x4 x5 x6 x7 x8 x9 x10 ∧ Box h' b) noES := by
  unfold b_3_1
  refine seq_cutx (P := fun ρ h' => ∃ n1 n2 H N, ρ = E11 x0 x1 b x3 x4 x5 x6 (some (.ref n1)) (some (.ref n2)) x9 x10 ∧ HouseP.Fine H ∧ HouseP.Fine N ∧ h'.get n1 = some (.lst (listW H)) ∧ h'.get n2 = some (.lst (listW N)) ∧ b < n1 ∧ b < n2 ∧ Box h' b) ?_ fun ρ h1 ⟨n1, n2, H, N, er, f, g, e1, e2, b1, b2, bx⟩ => ?_
  · simp! []
    refine (parts_draw (k := k) bx).to fun x h1 ⟨n1, H, ex, e1, f, b1, bx1, g1⟩ => ?_
    subst ex
    refine (parts_draw (k := k) bx1).to fun x h2 ⟨n2, N, ex, e2, g, b2, bx2, g2⟩ => ?_
    subst ex
    exact ⟨n1, n2, H, N, rfl, f, g, g2.get e1 (Nat.ne_of_gt b1), e2, b1, b2, bx2⟩
  subst er
  refine seq_cutx (P := fun ρ h' => ∃ i : Nat, i < 7 ∧ ρ = E11 x0 x1 b x3 (some (.int (i : Nat))) x5 x6 (some (.ref n1)) (some (.ref n2)) x9 x10 ∧ h'.get n1 = some (.lst (listW H)) ∧ h'.get n2 = some (.lst (listW N)) ∧ Box h' b) ?_ fun ρ h2 ⟨i, hi, er, e1, e2, bx⟩ => ?_
  · simp! []
    refine (take9 (k := k + 9) bx (m := 7) (by decide) (by decide)).to fun w h2 ⟨⟨d, ed, hd⟩, bx1, g1⟩ => ?_
    subst ed
    exact ⟨d, by omega, rfl, g1.get e1 (Nat.ne_of_gt b1), g1.get e2 (Nat.ne_of_gt b2), bx1⟩
  subst er
  refine near_ok hi e1 e2 fun h3 n3 e3 g3 => ?_
  replace e1 := g3.get e1
  replace e2 := g3.get e2
  have fm := mixP_fine (i := i) f g
  refine seq_cutx (P := fun ρ h' => ρ = E11 x0 x1 b x3 (some (.int (i : Nat))) (some (.ref n3)) x6 (some (.ref n1)) (some (.ref n2)) (some (hw H)) (some (hw (mixP i H N))) ∧ Gro h3 h') ?_ fun ρ h4 ⟨er, g4⟩ => ?_
  · simp! []
    refine (made_ok (k := k + 3) f e1).to fun x h4 ⟨ex, g4⟩ => ?_
    subst ex
    refine (made_ok (k := k + 3) fm (g4.get e3)).to fun x h5 ⟨ex, g5⟩ => ?_
    subst ex
    exact ⟨rfl, g4.trans g5⟩
  subst er
  replace e1 := g4.get e1
  replace e2 := g4.get e2
  replace e3 := g4.get e3
  refine seq_cutx (test5 f fm e1 e3) fun ρ h5 ⟨er, g5⟩ => ?_
  subst er
  replace e1 := g5.get e1
  replace e2 := g5.get e2
  refine seq_cutx (zh_ok f e1) fun ρ h6 ⟨er, g6⟩ => ?_
  subst er
  replace e1 := g6.get e1
  replace e2 := g6.get e2
  refine seq_cutx (test7 f e1) fun ρ h7 ⟨er, g7⟩ => ?_
  subst er
  replace e1 := g7.get e1
  replace e2 := g7.get e2
  refine near4_ok e1 e2 fun h8 n4 e4 g8 => ?_
  replace e1 := g8.get e1
  replace e2 := g8.get e2
  refine seq_cutx (test9 f g e2 e4) fun ρ h9 ⟨er, g9⟩ => ?_
  subst er
  replace e1 := g9.get e1
  replace e2 := g9.get e2
  refine seq_cutx (test10 f g e2) fun ρ h10 ⟨er, g10⟩ => ?_
  subst er
  replace e1 := g10.get e1
  rw [seq_one]
  refine (test11 f e1).to (fun fl ρ h11 ⟨ef, er, g11⟩ => ?_) (fun _ _ _ _ z => z)
  subst er
  exact ⟨ef, _, _, _, _, _, _, _, rfl, bx.gro (((((((((g3.trans g4).trans g5).trans g6).trans g7).trans g8).trans g9).trans g10).trans g11))⟩
end
end Lk07

namespace Lk07
open Z
section
variable {k b : Nat} {h : Hz} {x0 x1 x2 x3 x4 x5 x6 x7 x8 x9 x10 : Option W}
abbrev E11s (x0 : Option W) (ρ : Ev) : Prop := ∃ x1 x2 x3 x4 x5 x6 x7 x8 x9 x10, ρ = [x0, x1, x2, x3, x4, x5, x6, x7, x8, x9, x10]
theorem cell7 {ns : List Int} {kk : Nat} :
    WxS (b_3_2 (fnT (k + 11)) (fnT (k + 10)) (k + 10) [some (.fz (ns.map W.int)), some (.int kk), x2, x3, x4, x5, x6, x7, x8, x9, x10] h) (fun f ρ h' => f = .next ∧ E11s (some (.fz (ns.map W.int))) ρ) noES := by
  unfold b_3_2
  refine seq_cutx (P := fun ρ h' => ∃ b, ρ = E11 (some (.fz (ns.map W.int))) (some (.int kk)) b x3 x4 x5 x6 x7 x8 x9 x10 ∧ Box h' b) ?_ fun ρ h1 ⟨b, er, bx⟩ => ?_
  · simp! []
    rw [show fnT (k + 11) 241 = runZ 5 boxB from f6]
    refine (box_spec).to fun w h1 ⟨b, ew, bx, hb, g⟩ => ?_
    subst ew
    exact ⟨b, rfl, bx⟩
  subst er
  rw [seq_one]
  rw [for_fix (ws := rangeW 0 5) (h' := h1) rfl]
  refine (loopF_ix (ws := rangeW 0 5) (I := fun _ ρ h' => (∃ x3 x4 x5 x6 x7 x8 x9 x10, ρ = E11 (some (.fz (ns.map W.int))) (some (.int kk)) b x3 x4 x5 x6 x7 x8 x9 x10) ∧ Box h' b) (fun i v hv ρ h' ⟨⟨x3, x4, x5, x6, x7, x8, x9, x10, er⟩, bx⟩ => ?_) _ 0 _ h1 rfl ⟨⟨_, _, _, _, _, _, _, _, rfl⟩, bx⟩ (Nat.zero_le _)).to (fun f ρ h' ⟨ef, ⟨x3, x4, x5, x6, x7, x8, x9, x10, er⟩, bx⟩ => ⟨ef, ⟨_, _, _, _, _, _, _, _, _, _, er⟩⟩) (fun _ _ _ _ z => z)
  subst er
  exact ⟨rfl, (turn7 (k := k) bx).to (fun f ρ h2 ⟨ef, x4, x5, x6, x7, x8, x9, x10, er, bx⟩ => ⟨ef, ⟨_, _, _, _, _, _, _, _, er⟩, bx⟩) (fun _ _ _ _ z => z)⟩
abbrev H0 : HouseP := ⟨2, tLOW, tLEFT, true, none, true, none⟩
theorem h0_fine : H0.Fine := ⟨⟨2, rfl, by decide, by decide⟩, .inl rfl, .inl rfl, .inl rfl, .inl rfl⟩
theorem mk0_eq {F : List W → M W} {h : Hz} : zmkW true 0 0 0 (fun ws _ => ws ++ dd_64_1) F [] [] h = zmkW true 0 7 0 gId F [.int 2, .str tLOW, .str tLEFT, .bl true, .non, .bl true, .non] [] h := by
  unfold zmkW zcall gId
  simp only [List.length_cons, List.length_nil, and_self, if_true, Nat.zero_add, Nat.reduceAdd]
  rfl
theorem law_spec {ns : List Int} : Ok (fnT 60 3 [.fz (ns.map W.int)] Hz.empty) fun w _ => w = .bl true := by
  show Ok (runZ 11 (m_3 (fnT 59) (fnT 58) 58) [.fz (ns.map W.int)] Hz.empty) _
  rw [mb_3]
  refine ok_run ?_
  show WxS (sseq _ _ [some (.fz (ns.map W.int)), none, none, none, none, none, none, none, none, none, none] Hz.empty) _ _
  refine seq_cutx (P := fun ρ h' => E11s (some (.fz (ns.map W.int))) ρ) ?_ fun ρ h1 ⟨x1, x2, x3, x4, x5, x6, x7, x8, x9, x10, er⟩ => ?_
  · have hr : ∃ n : Nat, (zitR (zcons (zb (two2 zmax) (zcons (fun _ => ret (.int 1)) (zcons (zb (two2 zmin) (zcons (fun _ => ret (.int 3)) (zcons (zb (one1 zlen) (zcons (zvar 0) znil)) znil))) znil))) znil)) [some (.fz (ns.map W.int)), none, none, none, none, none, none, none, none, none, none] Hz.empty = .ok (.fix (rangeW 0 n)) Hz.empty := by
      have e1 : ∀ d : Int, 0 ≤ d → d < 1073741824 → zrange [.int d] Hz.empty = .ok (.fix (rangeW 0 d.toNat)) Hz.empty := fun d h0 h2 => by rw [range1 h0 h2]; rfl
      have e2 : zlen (.fz (ns.map W.int)) Hz.empty = .ok (.int (ns.map W.int).length) Hz.empty := rfl
      unfold zitR
      simp only [bnd, zcons, znil, zb, two2, one1, zvar_eq, List.getD_cons_zero, zv_fz, e2, zmin, zmax, ret]
      refine ⟨_, e1 _ ?_ ?_⟩
      · split <;> (try split) <;> omega
      · split <;> (try split) <;> omega
    obtain ⟨n, hr⟩ := hr
    rw [for_fix hr]
    refine (loopF_ix (ws := rangeW 0 n) (I := fun _ ρ h' => E11s (some (.fz (ns.map W.int))) ρ) (fun i v hv ρ h' ⟨x1, x2, x3, x4, x5, x6, x7, x8, x9, x10, er⟩ => ?_) _ 0 _ Hz.empty rfl ⟨_, _, _, _, _, _, _, _, _, _, rfl⟩ (Nat.zero_le _)).to (fun f ρ h' ⟨ef, e⟩ => ⟨ef, e⟩) (fun _ _ _ _ z => z)
    subst er
    obtain ⟨kk, rfl⟩ := rangeW_mem (Int.le_refl 0) (List.mem_of_getElem? hv)
    exact ⟨rfl, cell7 (k := 48)⟩
  subst er
  rw [seq_one]
  obtain ⟨t, ht⟩ := repr_list h0_fine
  simp! [mk0_eq]
  refine (house_mk twH (j := 52) (a := .int 2) (b := .str tLOW) (c := .str tLEFT) (d := .bl true) (e := .non) (f := .bl true) (g := .non) trivial (Fine.kl h0_fine) (Fine.jl h0_fine) trivial trivial trivial trivial).to (fun x h2 ⟨ex, _, g⟩ => ?_) (fun x fs h' ⟨_, _, en, _⟩ => (en h0_fine.fault).elim)
  subst ex
  refine (told_ok (k := 57) (H := H0)).to fun x h3 ⟨ex, m3, g3⟩ => ?_
  subst ex
  have pp := Hz.get_push_self h3 (.lst (listW H0))
  have r2 := ht _ _ pp
  have eqs : ∀ h, zcmpEq ET 59 (.str t) (.str t) h = .ok (.bl true) h := fun h => by rw [eq_str (n := 58)]; simp
  simp! [ht _ _ m3, lim7]
  have r2 : zreprA (.ref h3.n) (h3.push (.lst [.int 2, .str [108, 111, 119], .str [108, 101, 102, 116], .bl true, .non, .bl true, .non])) = .ok (.str t) (h3.push (.lst (listW H0))) := r2
  simp! [r2, cmpH_els1, eqs]
theorem law_ok : LawOk 63 (fnT 60 3) := fun ns _ _ => by
  obtain ⟨w, h', e, ew⟩ := (law_spec (ns := ns)).ex
  subst ew
  exact ⟨h', e⟩
end
end Lk07

namespace Lk07
open PySem L2 Z
open PyProof.Rows hiding St
structure Top (W0 : World) (K : PySem.W.Frag) (mg : Str → Option Value) where
  nj : NmInj (GG K)
  isT : IsT K (GG K) allC
  fd_0 : FuncData
  F_0 : FunD K "_law_parts" "_law_parts" (defArgs s_0) (defBody s_0) (defScope s_0) [] [] ((GG K).fn 0) fd_0
  f_0 : mg "_law_parts" = some (.ref ((GG K).fn 0))
  fd_1 : FuncData
  F_1 : FunD K "_law_told" "_law_told" (defArgs s_1) (defBody s_1) (defScope s_1) [] [] ((GG K).fn 1) fd_1
  f_1 : mg "_law_told" = some (.ref ((GG K).fn 1))
  fd_2 : FuncData
  F_2 : FunD K "_law_made" "_law_made" (defArgs s_2) (defBody s_2) (defScope s_2) [] [] ((GG K).fn 2) fd_2
  f_2 : mg "_law_made" = some (.ref ((GG K).fn 2))
  fd_3 : FuncData
  F_3 : FunD K "law" "law" (defArgs s_3) (defBody s_3) (defScope s_3) [] [] ((GG K).fn 3) fd_3
  f_3 : mg "law" = some (.ref ((GG K).fn 3))
  fd_60 : FuncData
  F_60 : FunD K "is_integer" "is_integer" (defArgs s_60) (defBody s_60) (defScope s_60) [] [] ((GG K).fn 60) fd_60
  f_60 : mg "is_integer" = some (.ref ((GG K).fn 60))
  fd_61 : FuncData
  F_61 : FunD K "is_word" "is_word" (defArgs s_61) (defBody s_61) (defScope s_61) [] [] ((GG K).fn 61) fd_61
  f_61 : mg "is_word" = some (.ref ((GG K).fn 61))
  fd_62 : FuncData
  F_62 : FunD K "is_between" "is_between" (defArgs s_62) (defBody s_62) (defScope s_62) [] [] ((GG K).fn 62) fd_62
  f_62 : mg "is_between" = some (.ref ((GG K).fn 62))
  fd_63 : FuncData
  F_63 : FunD K "fault_of" "fault_of" (defArgs s_63) (defBody s_63) (defScope s_63) [] [] ((GG K).fn 63) fd_63
  f_63 : mg "fault_of" = some (.ref ((GG K).fn 63))
  fd_64 : FuncData
  F_64 : FunD K "__init__" "House.__init__" (defArgs s_64) (defBody s_64) (defScope s_64) [He.Dv.v K (.int 2), He.Dv.v K (.str "low"), He.Dv.v K (.str "left"), He.Dv.v K (.bl true), He.Dv.v K (.non), He.Dv.v K (.bl true), He.Dv.v K (.non)] [] ((GG K).fn 64) fd_64
  fd_65 : FuncData
  F_65 : FunD K "parts" "House.parts" (defArgs s_65) (defBody s_65) (defScope s_65) [] [] ((GG K).fn 65) fd_65
  fd_66 : FuncData
  F_66 : FunD K "but" "House.but" (defArgs s_66) (defBody s_66) (defScope s_66) [] [] ((GG K).fn 66) fd_66
  fd_67 : FuncData
  F_67 : FunD K "__eq__" "House.__eq__" (defArgs s_67) (defBody s_67) (defScope s_67) [] [] ((GG K).fn 67) fd_67
  fd_240 : FuncData
  F_240 : FunD K "_law_pick" "_law_pick" (defArgs s_240) (defBody s_240) (defScope s_240) [] [] ((GG K).fn 240) fd_240
  f_240 : mg "_law_pick" = some (.ref ((GG K).fn 240))
  fd_241 : FuncData
  F_241 : FunD K "_law_box" "_law_box" (defArgs s_241) (defBody s_241) (defScope s_241) [] [] ((GG K).fn 241) fd_241
  f_241 : mg "_law_box" = some (.ref ((GG K).fn 241))
  fd_242 : FuncData
  F_242 : FunD K "_law_take" "_law_take" (defArgs s_242) (defBody s_242) (defScope s_242) [] [] ((GG K).fn 242) fd_242
  f_242 : mg "_law_take" = some (.ref ((GG K).fn 242))
  b_abs : mg "abs" = none
  b_bool : mg "bool" = none
  b_int : mg "int" = none
  b_isinstance : mg "isinstance" = none
  b_len : mg "len" = none
  b_max : mg "max" = none
  b_min : mg "min" = none
  b_range : mg "range" = none
  b_repr : mg "repr" = none
  b_str : mg "str" = none
  c_House : mg "House" = some (.ref ((GG K).cl 0))
  cl_House : Cls K ((GG K).cl 0)
  mk_House : Mk K ((GG K).cl 0) ((GG K).fn 64)
  na_rows : NoAt K (GG K) 3 [0]
  na_keeps : NoAt K (GG K) 4 [0]
  na_joins : NoAt K (GG K) 5 [0]
  na_again : NoAt K (GG K) 6 [0]
  na_stamps : NoAt K (GG K) 7 [0]
  na_on : NoAt K (GG K) 8 [0]
  na_changes : NoAt K (GG K) 9 [0]
  me___eq___0 : Meth K ((GG K).cl 0) ((GG K).nm 13) ((GG K).fn 67)
  me___init___0 : Meth K ((GG K).cl 0) ((GG K).nm 10) ((GG K).fn 64)
  me_but_0 : Meth K ((GG K).cl 0) ((GG K).nm 12) ((GG K).fn 66)
  me_parts_0 : Meth K ((GG K).cl 0) ((GG K).nm 11) ((GG K).fn 65)
  hq_0 : PySem.W.findIn K (.ref ((GG K).cl 0)) "__eq__" = some (some (.ref ((GG K).fn 67))) ∧ PySem.W.isFn K (.ref ((GG K).fn 67)) = true ∧ NeC K ((GG K).cl 0)
  k_PARTS : mg "PARTS" = some (.ref (He.ga K "PARTS")) ∧ ∀ H, SqT K H (He.ga K "PARTS") [V.str "low", V.str "high"]
  k_JOINS : mg "JOINS" = some (.ref (He.ga K "JOINS")) ∧ ∀ H, SqT K H (He.ga K "JOINS") [V.str "left", V.str "right", V.str "none"]
  k_MOST_ROWS : ∃ t, mg "MOST_ROWS" = some (.int 4 t)
  k_MOST_MODULUS : ∃ t, mg "MOST_MODULUS" = some (.int 6 t)
  k_MOST_CHANGES : ∃ t, mg "MOST_CHANGES" = some (.int 3 t)
  xg_InvalidHouse : mg "InvalidHouse" = some (.ref ((GG K).cl 16))
  xc_InvalidHouse : XcF K "InvalidHouse" ["word"]
  xd_InvalidHouse : FuncData
  xF_InvalidHouse : FunD K "__init__" "InvalidHouse.__init__" (defArgs sx_InvalidHouse) (defBody sx_InvalidHouse) (defScope sx_InvalidHouse) [] [] (He.ma K (He.ga K "InvalidHouse") "__init__") xd_InvalidHouse
  xs_SlotError : mg "SlotError" = some (.ref (He.ga K "SlotError")) ∧ ClX.CRead K (He.ga K "SlotError") (.type "type") ∧ PySem.W.findCls K (.ref (He.ga K "SlotError")) (.type "type") "__init__" = some (.val (.builtin "ValueError.__init__"))
  xf_word : XfOk K (GG K) 2 [16]
variable {P : Program} {w : World} {K : PySem.W.Frag} {mg : Str → Option Value} {base : Heap} {k : Nat}
theorem pg_PARTS {b : Bool} {X : Cx} {no : Addr → Prop} {Wf : WX} {pos : Pos} (T : Top w K mg) (hg : Gl X "PARTS") (hK : X.K = K) (hm : X.mg = mg) : PZ b X (GN K no) Wf (.Name "PARTS" pos) (fun _ => ret gc_PARTS) := by
  subst hK hm
  exact pg_tup' hg T.k_PARTS.1 (by decide) T.k_PARTS.2 fun ι h H => (.cons (rep_str [108, 111, 119] (by kernel_rfl)) (.cons (rep_str [104, 105, 103, 104] (by kernel_rfl)) .nil))
theorem pg_JOINS {b : Bool} {X : Cx} {no : Addr → Prop} {Wf : WX} {pos : Pos} (T : Top w K mg) (hg : Gl X "JOINS") (hK : X.K = K) (hm : X.mg = mg) : PZ b X (GN K no) Wf (.Name "JOINS" pos) (fun _ => ret gc_JOINS) := by
  subst hK hm
  exact pg_tup' hg T.k_JOINS.1 (by decide) T.k_JOINS.2 fun ι h H => (.cons (rep_str [108, 101, 102, 116] (by kernel_rfl)) (.cons (rep_str [114, 105, 103, 104, 116] (by kernel_rfl)) (.cons (rep_str [110, 111, 110, 101] (by kernel_rfl)) .nil)))
theorem pg_MOST_ROWS {b : Bool} {X : Cx} {no : Addr → Prop} {Wf : WX} {pos : Pos} (T : Top w K mg) (hg : Gl X "MOST_ROWS") (hK : X.K = K) (hm : X.mg = mg) : PZ b X (GN K no) Wf (.Name "MOST_ROWS" pos) (fun _ => ret gc_MOST_ROWS) := by
  subst hK hm
  exact pg_int' hg T.k_MOST_ROWS (by decide)
theorem pg_MOST_MODULUS {b : Bool} {X : Cx} {no : Addr → Prop} {Wf : WX} {pos : Pos} (T : Top w K mg) (hg : Gl X "MOST_MODULUS") (hK : X.K = K) (hm : X.mg = mg) : PZ b X (GN K no) Wf (.Name "MOST_MODULUS" pos) (fun _ => ret gc_MOST_MODULUS) := by
  subst hK hm
  exact pg_int' hg T.k_MOST_MODULUS (by decide)
theorem pg_MOST_CHANGES {b : Bool} {X : Cx} {no : Addr → Prop} {Wf : WX} {pos : Pos} (T : Top w K mg) (hg : Gl X "MOST_CHANGES") (hK : X.K = K) (hm : X.mg = mg) : PZ b X (GN K no) Wf (.Name "MOST_CHANGES" pos) (fun _ => ret gc_MOST_CHANGES) := by
  subst hK hm
  exact pg_int' hg T.k_MOST_CHANGES (by decide)
theorem njN (T : Top w K mg) {no : Addr → Prop} : NmInj (GN K no) := T.nj
structure Lv (P : Program) (w : World) (base : Heap) {K : PySem.W.Frag} {mg : Str → Option Value} (T : Top w K mg) (k : Nat) : Prop where
  o_0 : Z.FnOk P w K mg base (CX P w) k ((GG K).fn 0) T.fd_0 ["_law_box_here"] (spZ K (GG K) 1 (fnT k 0))
  o_1 : Z.FnOk P w K mg base (CX P w) k ((GG K).fn 1) T.fd_1 ["_law_house"] (spZ K (GG K) 1 (fnT k 1))
  o_2 : Z.FnOk P w K mg base (CX P w) k ((GG K).fn 2) T.fd_2 ["_law_some"] (spZ K (GG K) 1 (fnT k 2))
  o_3 : Z.FnOk P w K mg base (CX P w) k ((GG K).fn 3) T.fd_3 ["_law_script"] (spZ K (GG K) 1 (fnT k 3))
  o_60 : Z.FnOk P w K mg base (CX P w) k ((GG K).fn 60) T.fd_60 ["value"] (spZ K (GG K) 1 (fnT k 60))
  o_61 : Z.FnOk P w K mg base (CX P w) k ((GG K).fn 61) T.fd_61 ["value", "some"] (spZ K (GG K) 2 (fnT k 61))
  o_62 : Z.FnOk P w K mg base (CX P w) k ((GG K).fn 62) T.fd_62 ["value", "most"] (spZ K (GG K) 2 (fnT k 62))
  o_63 : Z.FnOk P w K mg base (CX P w) k ((GG K).fn 63) T.fd_63 ["rows", "keeps", "joins", "again", "stamps", "on", "changes"] (spZ K (GG K) 7 (fnT k 63))
  o_64 : Z.FnOk P w K mg base (CX P w) k ((GG K).fn 64) T.fd_64 ["self", "rows", "keeps", "joins", "again", "stamps", "on", "changes"] (spZ K (GG K) 8 (fnT k 64))
  o_65 : Z.FnOk P w K mg base (CX P w) k ((GG K).fn 65) T.fd_65 ["self"] (spZ K (GG K) 1 (fnT k 65))
  o_66 : FnK P w K mg base k ((GG K).fn 66) T.fd_66 "self" "others" (spZ K (GG K) 2 (fnT k 66))
  o_67 : Z.FnOk P w K mg base (CX P w) k ((GG K).fn 67) T.fd_67 ["self", "other"] (spZ K (GG K) 2 (fnT k 67))
  o_240 : Z.FnOk P w K mg base (CX P w) k ((GG K).fn 240) T.fd_240 ["_law_box_here", "_law_items"] (spZ K (GG K) 2 (fnT k 240))
  o_241 : Z.FnOk P w K mg base (CX P w) k ((GG K).fn 241) T.fd_241 ["_law_script", "_law_k", "_law_own"] (spZ K (GG K) 3 (fnT k 241))
  o_242 : Z.FnOk P w K mg base (CX P w) k ((GG K).fn 242) T.fd_242 ["_law_box_here", "_law_many"] (spZ K (GG K) 2 (fnT k 242))
theorem ownX (T : Top w K mg) {no : Addr → Prop} {n : Nat} (L : ∀ j, j ≤ n → Lv P w base T j) {X : Cx} (hP : X.prog = P) (hw : X.w = w) (hK : X.K = K) (hm : X.mg = mg) (hb : X.base = base) : ∀ j, j < n → ∀ c ks, ET.lookup c = some ks → OwnD X (GN K no) ET j c := by
  subst hP hw hK hm hb
  intro j hj c ks hc
  have ha : ∀ d, (ET.lookup d).isSome = true → allC.contains d = true := lk_all (by decide)
  have hin := lk_in hc
  clear hc
  exact absurd hin (by simp)
theorem eqX (T : Top w K mg) {no : Addr → Prop} {n : Nat} (L : ∀ j, j ≤ n → Lv P w base T j) {X : Cx} (hP : X.prog = P) (hw : X.w = w) (hK : X.K = K) (hm : X.mg = mg) (hb : X.base = base) {Wf : WX} (tkx : Takes X Wf) : EqS X (GN K no) ET n ∧ NeS X (GN K no) ET n ∧ EqB X (GN K no) ET (n - 1) := by
  have cj : ClInj (GN K no) ET := cj_of T.isT.wn (lk_mem (by decide))
  have a := eq_all (E := ET) (njN T) cj tkx n (ownX T L hP hw hK hm hb)
  have a2 := eq_all (E := ET) (njN T) cj tkx (n - 1) (ownX T (n := n - 1) (fun j hj => L j (by omega)) hP hw hK hm hb)
  exact ⟨a.1, a.2, eqB_of (njN T) cj a2.1⟩
theorem xk_InvalidHouse (T : Top w K mg) {no : Addr → Prop} {k : Nat} {X : Cx} (hP : X.prog = P := by rfl) (hw : X.w = w := by rfl) (hK : X.K = K := by rfl) (hm : X.mg = mg := by rfl) : XkOk X (GN K no) (k + 1) 16 2 := by
  subst hP hw hK hm
  refine ⟨T.xc_InvalidHouse.oex, _, T.xd_InvalidHouse, "self", "word", T.xc_InvalidHouse.init, T.xc_InvalidHouse.fn, ?_, T.xF_InvalidHouse.bindsN (ps := ["self", "word"]) (fun _ _ _ _ _ _ us hl => match us, hl with | [_, _], _ => rfl)⟩
  exact T.xF_InvalidHouse.ok scx_InvalidHouse x1_len fun cdv A outer s H vs Q E hr h => ⟨_, pss_cons (ps_expr (pe_slinit rfl T.xs_SlotError.1 T.xs_SlotError.2.1 T.xs_SlotError.2.2 (pa_cons (pv 0) (pa_cons pe_str pa_nil)) (by decide) rfl (by rfl) (by decide))) (pss_one (ps_ost (pv 0) (pv 1))), x1_pure T.xc_InvalidHouse.oex (T.xc_InvalidHouse.no _ (by simp)) h⟩
theorem co_0_all (T : Top w K mg) {no : Addr → Prop} {n : Nat} (L : ∀ j, j ≤ n → Lv P w base T j) {X : Cx} (hP : X.prog = P := by rfl) (hw : X.w = w := by rfl) (hK : X.K = K := by rfl) (hm : X.mg = mg := by rfl) (hb : X.base = base := by rfl) : CallOk X (GN K no) n 0 1 [] gId (fnT n 0) := by
  subst hP hw hK hm hb
  exact ⟨T.F_0.kp, T.fd_0, _, (L n (Nat.le_refl _)).o_0, bn_all (ps := ["_law_box_here"]) T.F_0 (fun _ _ _ _ _ _ us hl => match us, hl with | [_], _ => rfl)⟩
theorem co_1_all (T : Top w K mg) {no : Addr → Prop} {n : Nat} (L : ∀ j, j ≤ n → Lv P w base T j) {X : Cx} (hP : X.prog = P := by rfl) (hw : X.w = w := by rfl) (hK : X.K = K := by rfl) (hm : X.mg = mg := by rfl) (hb : X.base = base := by rfl) : CallOk X (GN K no) n 1 1 [] gId (fnT n 1) := by
  subst hP hw hK hm hb
  exact ⟨T.F_1.kp, T.fd_1, _, (L n (Nat.le_refl _)).o_1, bn_all (ps := ["_law_house"]) T.F_1 (fun _ _ _ _ _ _ us hl => match us, hl with | [_], _ => rfl)⟩
theorem co_240_all (T : Top w K mg) {no : Addr → Prop} {n : Nat} (L : ∀ j, j ≤ n → Lv P w base T j) {X : Cx} (hP : X.prog = P := by rfl) (hw : X.w = w := by rfl) (hK : X.K = K := by rfl) (hm : X.mg = mg := by rfl) (hb : X.base = base := by rfl) : CallOk X (GN K no) n 240 2 [] gId (fnT n 240) := by
  subst hP hw hK hm hb
  exact ⟨T.F_240.kp, T.fd_240, _, (L n (Nat.le_refl _)).o_240, bn_all (ps := ["_law_box_here", "_law_items"]) T.F_240 (fun _ _ _ _ _ _ us hl => match us, hl with | [_, _], _ => rfl)⟩
theorem co_241_all (T : Top w K mg) {no : Addr → Prop} {n : Nat} (L : ∀ j, j ≤ n → Lv P w base T j) {X : Cx} (hP : X.prog = P := by rfl) (hw : X.w = w := by rfl) (hK : X.K = K := by rfl) (hm : X.mg = mg := by rfl) (hb : X.base = base := by rfl) : CallOk X (GN K no) n 241 3 [] gId (fnT n 241) := by
  subst hP hw hK hm hb
  exact ⟨T.F_241.kp, T.fd_241, _, (L n (Nat.le_refl _)).o_241, bn_all (ps := ["_law_script", "_law_k", "_law_own"]) T.F_241 (fun _ _ _ _ _ _ us hl => match us, hl with | [_, _, _], _ => rfl)⟩
theorem co_242_all (T : Top w K mg) {no : Addr → Prop} {n : Nat} (L : ∀ j, j ≤ n → Lv P w base T j) {X : Cx} (hP : X.prog = P := by rfl) (hw : X.w = w := by rfl) (hK : X.K = K := by rfl) (hm : X.mg = mg := by rfl) (hb : X.base = base := by rfl) : CallOk X (GN K no) n 242 2 [] gId (fnT n 242) := by
  subst hP hw hK hm hb
  exact ⟨T.F_242.kp, T.fd_242, _, (L n (Nat.le_refl _)).o_242, bn_all (ps := ["_law_box_here", "_law_many"]) T.F_242 (fun _ _ _ _ _ _ us hl => match us, hl with | [_, _], _ => rfl)⟩
theorem co_2_all (T : Top w K mg) {no : Addr → Prop} {n : Nat} (L : ∀ j, j ≤ n → Lv P w base T j) {X : Cx} (hP : X.prog = P := by rfl) (hw : X.w = w := by rfl) (hK : X.K = K := by rfl) (hm : X.mg = mg := by rfl) (hb : X.base = base := by rfl) : CallOk X (GN K no) n 2 1 [] gId (fnT n 2) := by
  subst hP hw hK hm hb
  exact ⟨T.F_2.kp, T.fd_2, _, (L n (Nat.le_refl _)).o_2, bn_all (ps := ["_law_some"]) T.F_2 (fun _ _ _ _ _ _ us hl => match us, hl with | [_], _ => rfl)⟩
theorem co_60_all (T : Top w K mg) {no : Addr → Prop} {n : Nat} (L : ∀ j, j ≤ n → Lv P w base T j) {X : Cx} (hP : X.prog = P := by rfl) (hw : X.w = w := by rfl) (hK : X.K = K := by rfl) (hm : X.mg = mg := by rfl) (hb : X.base = base := by rfl) : CallOk X (GN K no) n 60 1 [] gId (fnT n 60) := by
  subst hP hw hK hm hb
  exact ⟨T.F_60.kp, T.fd_60, _, (L n (Nat.le_refl _)).o_60, bn_all (ps := ["value"]) T.F_60 (fun _ _ _ _ _ _ us hl => match us, hl with | [_], _ => rfl)⟩
theorem co_61_all (T : Top w K mg) {no : Addr → Prop} {n : Nat} (L : ∀ j, j ≤ n → Lv P w base T j) {X : Cx} (hP : X.prog = P := by rfl) (hw : X.w = w := by rfl) (hK : X.K = K := by rfl) (hm : X.mg = mg := by rfl) (hb : X.base = base := by rfl) : CallOk X (GN K no) n 61 2 [] gId (fnT n 61) := by
  subst hP hw hK hm hb
  exact ⟨T.F_61.kp, T.fd_61, _, (L n (Nat.le_refl _)).o_61, bn_all (ps := ["value", "some"]) T.F_61 (fun _ _ _ _ _ _ us hl => match us, hl with | [_, _], _ => rfl)⟩
theorem co_62_all (T : Top w K mg) {no : Addr → Prop} {n : Nat} (L : ∀ j, j ≤ n → Lv P w base T j) {X : Cx} (hP : X.prog = P := by rfl) (hw : X.w = w := by rfl) (hK : X.K = K := by rfl) (hm : X.mg = mg := by rfl) (hb : X.base = base := by rfl) : CallOk X (GN K no) n 62 2 [] gId (fnT n 62) := by
  subst hP hw hK hm hb
  exact ⟨T.F_62.kp, T.fd_62, _, (L n (Nat.le_refl _)).o_62, bn_all (ps := ["value", "most"]) T.F_62 (fun _ _ _ _ _ _ us hl => match us, hl with | [_, _], _ => rfl)⟩
theorem co_63_all (T : Top w K mg) {no : Addr → Prop} {n : Nat} (L : ∀ j, j ≤ n → Lv P w base T j) {X : Cx} (hP : X.prog = P := by rfl) (hw : X.w = w := by rfl) (hK : X.K = K := by rfl) (hm : X.mg = mg := by rfl) (hb : X.base = base := by rfl) : CallOk X (GN K no) n 63 7 [] gId (fnT n 63) := by
  subst hP hw hK hm hb
  exact ⟨T.F_63.kp, T.fd_63, _, (L n (Nat.le_refl _)).o_63, bn_all (ps := ["rows", "keeps", "joins", "again", "stamps", "on", "changes"]) T.F_63 (fun _ _ _ _ _ _ us hl => match us, hl with | [_, _, _, _, _, _, _], _ => rfl)⟩
theorem co_64_all (T : Top w K mg) {no : Addr → Prop} {n : Nat} (L : ∀ j, j ≤ n → Lv P w base T j) {X : Cx} (hP : X.prog = P := by rfl) (hw : X.w = w := by rfl) (hK : X.K = K := by rfl) (hm : X.mg = mg := by rfl) (hb : X.base = base := by rfl) : CallOk X (GN K no) n 64 8 [] gId (fnT n 64) := by
  subst hP hw hK hm hb
  exact ⟨T.F_64.kp, T.fd_64, _, (L n (Nat.le_refl _)).o_64, bn_alld (ps := ["self", "rows", "keeps", "joins", "again", "stamps", "on", "changes"]) (n := 8) (j := 7) T.F_64 (by simp) rfl rfl (fun _ _ _ _ _ _ _ us its hl hi => match us, hl, its, hi with | [_, _, _, _, _, _, _, _], _, [_, _, _, _, _, _, _], _ => ⟨_, rfl, rfl⟩)⟩
theorem co_64_d1 (T : Top w K mg) {no : Addr → Prop} {n : Nat} (L : ∀ j, j ≤ n → Lv P w base T j) {X : Cx} (hP : X.prog = P := by rfl) (hw : X.w = w := by rfl) (hK : X.K = K := by rfl) (hm : X.mg = mg := by rfl) (hb : X.base = base := by rfl) : CallOk X (GN K no) n 64 1 [] (fun ws _ => ws ++ dd_64_1) (fnT n 64) := by
  subst hP hw hK hm hb
  exact ⟨T.F_64.kp, T.fd_64, _, (L n (Nat.le_refl _)).o_64, bn_dfl (ps := ["self", "rows", "keeps", "joins", "again", "stamps", "on", "changes"]) (n := 1) (j := 0) (dws := dd_64_1) T.F_64 (by simp) rfl (fun ι h H r => (.cons (.int _) (.cons (rep_str [108, 111, 119] (by kernel_rfl)) (.cons (rep_str [108, 101, 102, 116] (by kernel_rfl)) (.cons (.bl _) (.cons (.non) (.cons (.bl _) (.cons (.non) .nil)))))))) (fun _ _ _ _ _ _ _ us its hl hi => match us, hl, its, hi with | [_], _, [_, _, _, _, _, _, _], _ => ⟨_, rfl, rfl⟩)⟩
theorem co_64_kx1_1_2_3_4_5_6_7 (T : Top w K mg) {no : Addr → Prop} {n : Nat} (L : ∀ j, j ≤ n → Lv P w base T j) {X : Cx} (hP : X.prog = P := by rfl) (hw : X.w = w := by rfl) (hK : X.K = K := by rfl) (hm : X.mg = mg := by rfl) (hb : X.base = base := by rfl) : CallOk X (GN K no) n 64 1 ["rows", "keeps", "joins", "again", "stamps", "on", "changes"] (fun ws qs => pick [0, 8, 9, 10, 11, 12, 13, 14] (ws ++ dd_64_1 ++ qs)) (fnT n 64) := by
  subst hP hw hK hm hb
  exact ⟨T.F_64.kp, T.fd_64, _, (L n (Nat.le_refl _)).o_64, bn_kwx (ps := ["self", "rows", "keeps", "joins", "again", "stamps", "on", "changes"]) (n := 1) (ks := ["rows", "keeps", "joins", "again", "stamps", "on", "changes"]) (dws := dd_64_1) (is := [0, 8, 9, 10, 11, 12, 13, 14]) T.F_64 (by simp) (fun ι h H r => (.cons (.int _) (.cons (rep_str [108, 111, 119] (by kernel_rfl)) (.cons (rep_str [108, 101, 102, 116] (by kernel_rfl)) (.cons (.bl _) (.cons (.non) (.cons (.bl _) (.cons (.non) .nil)))))))) (by rfl) rfl (fun _ _ _ _ _ _ _ us its zs hl hi hz => match us, hl, its, hi, zs, hz with | [_], _, [_, _, _, _, _, _, _], _, [_, _, _, _, _, _, _], _ => ⟨_, rfl, rfl⟩)⟩
theorem co_64_kx1_7_6_5_4_3 (T : Top w K mg) {no : Addr → Prop} {n : Nat} (L : ∀ j, j ≤ n → Lv P w base T j) {X : Cx} (hP : X.prog = P := by rfl) (hw : X.w = w := by rfl) (hK : X.K = K := by rfl) (hm : X.mg = mg := by rfl) (hb : X.base = base := by rfl) : CallOk X (GN K no) n 64 1 ["changes", "on", "stamps", "again", "joins"] (fun ws qs => pick [0, 1, 2, 12, 11, 10, 9, 8] (ws ++ dd_64_1 ++ qs)) (fnT n 64) := by
  subst hP hw hK hm hb
  exact ⟨T.F_64.kp, T.fd_64, _, (L n (Nat.le_refl _)).o_64, bn_kwx (ps := ["self", "rows", "keeps", "joins", "again", "stamps", "on", "changes"]) (n := 1) (ks := ["changes", "on", "stamps", "again", "joins"]) (dws := dd_64_1) (is := [0, 1, 2, 12, 11, 10, 9, 8]) T.F_64 (by simp) (fun ι h H r => (.cons (.int _) (.cons (rep_str [108, 111, 119] (by kernel_rfl)) (.cons (rep_str [108, 101, 102, 116] (by kernel_rfl)) (.cons (.bl _) (.cons (.non) (.cons (.bl _) (.cons (.non) .nil)))))))) (by rfl) rfl (fun _ _ _ _ _ _ _ us its zs hl hi hz => match us, hl, its, hi, zs, hz with | [_], _, [_, _, _, _, _, _, _], _, [_, _, _, _, _], _ => ⟨_, rfl, rfl⟩)⟩
theorem mk_64_all (T : Top w K mg) {no : Addr → Prop} {n : Nat} (L : ∀ j, j ≤ n + 1 → Lv P w base T j) {X : Cx} (hP : X.prog = P := by rfl) (hw : X.w = w := by rfl) (hK : X.K = K := by rfl) (hm : X.mg = mg := by rfl) (hb : X.base = base := by rfl) : MkOk X (GN K no) n 0 64 7 [] gId (fnT n 64) :=
  ⟨by rw [hK]; exact T.mk_House, co_64_all T (fun j hj => L j (by omega)) hP hw hK hm hb⟩
theorem mk_64_d1 (T : Top w K mg) {no : Addr → Prop} {n : Nat} (L : ∀ j, j ≤ n + 1 → Lv P w base T j) {X : Cx} (hP : X.prog = P := by rfl) (hw : X.w = w := by rfl) (hK : X.K = K := by rfl) (hm : X.mg = mg := by rfl) (hb : X.base = base := by rfl) : MkOk X (GN K no) n 0 64 0 [] (fun ws _ => ws ++ dd_64_1) (fnT n 64) :=
  ⟨by rw [hK]; exact T.mk_House, co_64_d1 T (fun j hj => L j (by omega)) hP hw hK hm hb⟩
theorem mk_64_kx1_7_6_5_4_3 (T : Top w K mg) {no : Addr → Prop} {n : Nat} (L : ∀ j, j ≤ n + 1 → Lv P w base T j) {X : Cx} (hP : X.prog = P := by rfl) (hw : X.w = w := by rfl) (hK : X.K = K := by rfl) (hm : X.mg = mg := by rfl) (hb : X.base = base := by rfl) : MkOk X (GN K no) n 0 64 0 ["changes", "on", "stamps", "again", "joins"] (fun ws qs => pick [0, 1, 2, 12, 11, 10, 9, 8] (ws ++ dd_64_1 ++ qs)) (fnT n 64) :=
  ⟨by rw [hK]; exact T.mk_House, co_64_kx1_7_6_5_4_3 T (fun j hj => L j (by omega)) hP hw hK hm hb⟩
theorem mk_64_kx1_1_2_3_4_5_6_7 (T : Top w K mg) {no : Addr → Prop} {n : Nat} (L : ∀ j, j ≤ n + 1 → Lv P w base T j) {X : Cx} (hP : X.prog = P := by rfl) (hw : X.w = w := by rfl) (hK : X.K = K := by rfl) (hm : X.mg = mg := by rfl) (hb : X.base = base := by rfl) : MkOk X (GN K no) n 0 64 0 ["rows", "keeps", "joins", "again", "stamps", "on", "changes"] (fun ws qs => pick [0, 8, 9, 10, 11, 12, 13, 14] (ws ++ dd_64_1 ++ qs)) (fnT n 64) :=
  ⟨by rw [hK]; exact T.mk_House, co_64_kx1_1_2_3_4_5_6_7 T (fun j hj => L j (by omega)) hP hw hK hm hb⟩
theorem mtk_but_0 (T : Top w K mg) {no : Addr → Prop} {n : Nat} (L : ∀ j, j ≤ n → Lv P w base T j) {X : Cx} (hP : X.prog = P := by rfl) (hw : X.w = w := by rfl) (hK : X.K = K := by rfl) (hm : X.mg = mg := by rfl) (hb : X.base = base := by rfl) : MtKOk X (GN K no) n 12 [[99, 104, 97, 110, 103, 101, 115], [106, 111, 105, 110, 115], [107, 101, 101, 112, 115]] [(0, 66)] (fnT n) := by
  subst hP hw hK hm hb
  intro c i hi
  have hin := lk_in hi
  clear hi
  rcases List.mem_cons.1 hin with e | hin
  · cases e; exact ⟨T.cl_House, T.me_but_0, callK_of (ks' := ["changes", "joins", "keeps"]) (by kernel_rfl) T.F_66.kp (L n (Nat.le_refl _)).o_66 (kwBn_of T.F_66 (fun _ _ _ _ _ _ u zs hz => match zs, hz with | [_, _, _], _ => rfl)) (by decide) (by decide)⟩
  exact absurd hin (by simp)
theorem mtk_but_1 (T : Top w K mg) {no : Addr → Prop} {n : Nat} (L : ∀ j, j ≤ n → Lv P w base T j) {X : Cx} (hP : X.prog = P := by rfl) (hw : X.w = w := by rfl) (hK : X.K = K := by rfl) (hm : X.mg = mg := by rfl) (hb : X.base = base := by rfl) : MtKOk X (GN K no) n 12 [[114, 111, 119, 115], [115, 116, 97, 109, 112, 115]] [(0, 66)] (fnT n) := by
  subst hP hw hK hm hb
  intro c i hi
  have hin := lk_in hi
  clear hi
  rcases List.mem_cons.1 hin with e | hin
  · cases e; exact ⟨T.cl_House, T.me_but_0, callK_of (ks' := ["rows", "stamps"]) (by kernel_rfl) T.F_66.kp (L n (Nat.le_refl _)).o_66 (kwBn_of T.F_66 (fun _ _ _ _ _ _ u zs hz => match zs, hz with | [_, _], _ => rfl)) (by decide) (by decide)⟩
  exact absurd hin (by simp)
theorem mtk_but_2 (T : Top w K mg) {no : Addr → Prop} {n : Nat} (L : ∀ j, j ≤ n → Lv P w base T j) {X : Cx} (hP : X.prog = P := by rfl) (hw : X.w = w := by rfl) (hK : X.K = K := by rfl) (hm : X.mg = mg := by rfl) (hb : X.base = base := by rfl) : MtKOk X (GN K no) n 12 [[107, 101, 101, 112, 115], [114, 111, 119, 115]] [(0, 66)] (fnT n) := by
  subst hP hw hK hm hb
  intro c i hi
  have hin := lk_in hi
  clear hi
  rcases List.mem_cons.1 hin with e | hin
  · cases e; exact ⟨T.cl_House, T.me_but_0, callK_of (ks' := ["keeps", "rows"]) (by kernel_rfl) T.F_66.kp (L n (Nat.le_refl _)).o_66 (kwBn_of T.F_66 (fun _ _ _ _ _ _ u zs hz => match zs, hz with | [_, _], _ => rfl)) (by decide) (by decide)⟩
  exact absurd hin (by simp)
theorem mtk_but_3 (T : Top w K mg) {no : Addr → Prop} {n : Nat} (L : ∀ j, j ≤ n → Lv P w base T j) {X : Cx} (hP : X.prog = P := by rfl) (hw : X.w = w := by rfl) (hK : X.K = K := by rfl) (hm : X.mg = mg := by rfl) (hb : X.base = base := by rfl) : MtKOk X (GN K no) n 12 [] [(0, 66)] (fnT n) := by
  subst hP hw hK hm hb
  intro c i hi
  have hin := lk_in hi
  clear hi
  rcases List.mem_cons.1 hin with e | hin
  · cases e; exact ⟨T.cl_House, T.me_but_0, callK_of (ks' := []) (by kernel_rfl) T.F_66.kp (L n (Nat.le_refl _)).o_66 (kwBn_of T.F_66 (fun _ _ _ _ _ _ u zs hz => match zs, hz with | [], _ => rfl)) (by decide) (by decide)⟩
  exact absurd hin (by simp)
theorem mt_parts (T : Top w K mg) {no : Addr → Prop} {n : Nat} (L : ∀ j, j ≤ n → Lv P w base T j) {X : Cx} (hP : X.prog = P := by rfl) (hw : X.w = w := by rfl) (hK : X.K = K := by rfl) (hm : X.mg = mg := by rfl) (hb : X.base = base := by rfl) : MtOk X (GN K no) n 11 0 [] [(0, 65)] (fun _ => gId) (fnT n) := by
  subst hP hw hK hm hb
  intro c i hi
  have hin := lk_in hi
  clear hi
  rcases List.mem_cons.1 hin with e | hin
  · cases e; exact ⟨T.cl_House, T.me_parts_0, T.F_65.kp, T.fd_65, _, (L n (Nat.le_refl _)).o_65, bn_all (ps := ["self"]) T.F_65 (fun _ _ _ _ _ _ us hl => match us, hl with | [_], _ => rfl)⟩
  exact absurd hin (by simp)
theorem hq_ok (T : Top w K mg) {no : Addr → Prop} {n : Nat} (L : ∀ j, j ≤ n + 1 → Lv P w base T j) {X : Cx} (hP : X.prog = P := by rfl) (hw : X.w = w := by rfl) (hK : X.K = K := by rfl) (hm : X.mg = mg := by rfl) (hb : X.base = base := by rfl) : EqHOk X (GN K no) n hqT (fnT n) := by
  subst hP hw hK hm hb
  intro c i hi
  have hin := lk_in hi
  clear hi
  rcases List.mem_cons.1 hin with e | hin
  · cases e; exact ⟨T.hq_0.1, T.hq_0.2.1, T.hq_0.2.2, T.F_67.kp, T.fd_67, _, (L n (by omega)).o_67, bn_all (ps := ["self", "other"]) T.F_67 (fun _ _ _ _ _ _ us hl => match us, hl with | [_, _], _ => rfl)⟩
  exact absurd hin (by simp)
theorem ok_0 (T : Top w K mg) {k : Nat} (L : ∀ j, j ≤ k + 1 → Lv P w base T j) : Z.FnOk P w K mg base (CX P w) (k + 2) ((GG K).fn 0) T.fd_0 ["_law_box_here"] (spZ K (GG K) 1 (runZ 4 (m_0 (fnT (k + 1)) (fnT k) k))) :=
  fnZ T.F_0 sc_0 rfl fun cdv A outer s H E no hr => (pzss_cons (pzs_asg (pz_ifExp (pzt_cmp (op_zeq (eqX T L rfl rfl rfl rfl rfl takesZ).1 hr.rm) (pz_call (co_242_all T L) hr takesZ rfl T.f_242 (pza_cons (pz_var (i := 0) rfl (by simp_all!) (by decide) (by decide)) (pza_cons pz_int pza_nil (starEach_cons rfl)) (starEach_cons rfl)) pzk_nil (by rfl) (by rfl) (by decide)) pz_int (by rfl)) pz_non (pz_bin op_zadd pz_int (pz_call (co_242_all T L) hr takesZ rfl T.f_242 (pza_cons (pz_var (i := 0) rfl (by simp_all!) (by decide) (by decide)) (pza_cons pz_int pza_nil (starEach_cons rfl)) (starEach_cons rfl)) pzk_nil (by rfl) (by rfl) (by decide)))) (pzg_name (i := 1) sc_0.nd rfl (by dsimp!) (by dsimp?!)) (by rfl) (by rfl) (by rfl) gn_name) (pzss_cons (pzs_asg (pz_ifExp (pzt_cmp (op_zeq (eqX T L rfl rfl rfl rfl rfl takesZ).1 hr.rm) (pz_call (co_242_all T L) hr takesZ rfl T.f_242 (pza_cons (pz_var (i := 0) rfl (by simp_all!) (by decide) (by decide)) (pza_cons pz_int pza_nil (starEach_cons rfl)) (starEach_cons rfl)) pzk_nil (by rfl) (by rfl) (by decide)) pz_int (by rfl)) pz_non (pz_bin op_zadd pz_int (pz_call (co_242_all T L) hr takesZ rfl T.f_242 (pza_cons (pz_var (i := 0) rfl (by simp_all!) (by decide) (by decide)) (pza_cons pz_int pza_nil (starEach_cons rfl)) (starEach_cons rfl)) pzk_nil (by rfl) (by rfl) (by decide)))) (pzg_name (i := 2) sc_0.nd rfl (by dsimp!) (by dsimp?!)) (by rfl) (by rfl) (by rfl) gn_name) (pzss_cons (pzs_asg (pz_lst (pza_cons (pz_bin op_zadd pz_int (pz_call (co_242_all T L) hr takesZ rfl T.f_242 (pza_cons (pz_var (i := 0) rfl (by simp_all!) (by decide) (by decide)) (pza_cons pz_int pza_nil (starEach_cons rfl)) (starEach_cons rfl)) pzk_nil (by rfl) (by rfl) (by decide))) (pza_cons (pz_call (co_240_all T L) hr takesZ rfl T.f_240 (pza_cons (pz_var (i := 0) rfl (by simp_all!) (by decide) (by decide)) (pza_cons (pz_lst (pza_cons (pz_str (z := [108, 111, 119]) (by kernel_rfl)) (pza_cons (pz_str (z := [104, 105, 103, 104]) (by kernel_rfl)) pza_nil (starEach_cons rfl)) (starEach_cons rfl))) pza_nil (starEach_cons rfl)) (starEach_cons rfl)) pzk_nil (by rfl) (by rfl) (by decide)) pza_nil (starEach_cons rfl)) (starEach_cons rfl))) (pzg_name (i := 3) sc_0.nd rfl (by dsimp!) (by dsimp?!)) (by rfl) (by rfl) (by rfl) gn_name) (pzss_cons (pzs_expr (pz_bm (t := false) F.plainAttrs_list F.slot_list_append F.type_list_append mt_zappend (pz_var (i := 3) rfl (by simp_all!) (by decide) (by decide)) (pza_cons (pz_call (co_240_all T L) hr takesZ rfl T.f_240 (pza_cons (pz_var (i := 0) rfl (by simp_all!) (by decide) (by decide)) (pza_cons (pz_lst (pza_cons (pz_str (z := [108, 101, 102, 116]) (by kernel_rfl)) (pza_cons (pz_str (z := [114, 105, 103, 104, 116]) (by kernel_rfl)) (pza_cons (pz_str (z := [110, 111, 110, 101]) (by kernel_rfl)) pza_nil (starEach_cons rfl)) (starEach_cons rfl)) (starEach_cons rfl))) pza_nil (starEach_cons rfl)) (starEach_cons rfl)) pzk_nil (by rfl) (by rfl) (by decide)) pza_nil (starEach_cons rfl)) (by rfl) (by rfl) (by rfl) (by decide)) (by rfl)) (pzss_cons (pzs_ret (pz_bin op_zadd (pz_var (i := 3) rfl (by simp_all!) (by decide) (by decide)) (pz_lst (pza_cons (pz_cmp (op_zeq (eqX T L rfl rfl rfl rfl rfl takesZ).1 hr.rm) (pz_call (co_242_all T L) hr takesZ rfl T.f_242 (pza_cons (pz_var (i := 0) rfl (by simp_all!) (by decide) (by decide)) (pza_cons pz_int pza_nil (starEach_cons rfl)) (starEach_cons rfl)) pzk_nil (by rfl) (by rfl) (by decide)) pz_int (by rfl)) (pza_cons (pz_var (i := 1) rfl (by simp_all!) (by decide) (by decide)) (pza_cons (pz_cmp (op_zeq (eqX T L rfl rfl rfl rfl rfl takesZ).1 hr.rm) (pz_call (co_242_all T L) hr takesZ rfl T.f_242 (pza_cons (pz_var (i := 0) rfl (by simp_all!) (by decide) (by decide)) (pza_cons pz_int pza_nil (starEach_cons rfl)) (starEach_cons rfl)) pzk_nil (by rfl) (by rfl) (by decide)) pz_int (by rfl)) (pza_cons (pz_var (i := 2) rfl (by simp_all!) (by decide) (by decide)) pza_nil (starEach_cons rfl)) (starEach_cons rfl)) (starEach_cons rfl)) (starEach_cons rfl))))) pzss_nil)))))
theorem ok_1 (T : Top w K mg) {k : Nat} (L : ∀ j, j ≤ k + 1 → Lv P w base T j) : Z.FnOk P w K mg base (CX P w) (k + 2) ((GG K).fn 1) T.fd_1 ["_law_house"] (spZ K (GG K) 1 (runZ 1 (m_1 (fnT (k + 1)) (fnT k) k))) :=
  fnZ T.F_1 sc_1 rfl fun cdv A outer s H E no hr => (pzss_cons (pzs_ret (pz_lst (pza_cons (pz_fld (njN T) rfl T.na_rows (pz_var (i := 0) rfl (by simp_all!) (by decide) (by decide)) (attrBase_of (by rfl))) (pza_cons (pz_fld (njN T) rfl T.na_keeps (pz_var (i := 0) rfl (by simp_all!) (by decide) (by decide)) (attrBase_of (by rfl))) (pza_cons (pz_fld (njN T) rfl T.na_joins (pz_var (i := 0) rfl (by simp_all!) (by decide) (by decide)) (attrBase_of (by rfl))) (pza_cons (pz_fld (njN T) rfl T.na_again (pz_var (i := 0) rfl (by simp_all!) (by decide) (by decide)) (attrBase_of (by rfl))) (pza_cons (pz_fld (njN T) rfl T.na_stamps (pz_var (i := 0) rfl (by simp_all!) (by decide) (by decide)) (attrBase_of (by rfl))) (pza_cons (pz_fld (njN T) rfl T.na_on (pz_var (i := 0) rfl (by simp_all!) (by decide) (by decide)) (attrBase_of (by rfl))) (pza_cons (pz_fld (njN T) rfl T.na_changes (pz_var (i := 0) rfl (by simp_all!) (by decide) (by decide)) (attrBase_of (by rfl))) pza_nil (starEach_cons rfl)) (starEach_cons rfl)) (starEach_cons rfl)) (starEach_cons rfl)) (starEach_cons rfl)) (starEach_cons rfl)) (starEach_cons rfl)))) pzss_nil)
theorem ok_2 (T : Top w K mg) {k : Nat} (L : ∀ j, j ≤ k + 1 → Lv P w base T j) : Z.FnOk P w K mg base (CX P w) (k + 2) ((GG K).fn 2) T.fd_2 ["_law_some"] (spZ K (GG K) 1 (runZ 1 (m_2 (fnT (k + 1)) (fnT k) k))) :=
  fnZ T.F_2 sc_2 rfl fun cdv A outer s H E no hr => (pzss_cons (pzs_ret (pz_mk (fr := true) (mk_64_all T L) hr takesZ rfl T.c_House (pza_cons (pz_ix (pz_var (i := 0) rfl (by simp_all!) (by decide) (by decide)) pz_int (fun _ _ => rfl)) (pza_cons (pz_ix (pz_var (i := 0) rfl (by simp_all!) (by decide) (by decide)) pz_int (fun _ _ => rfl)) (pza_cons (pz_ix (pz_var (i := 0) rfl (by simp_all!) (by decide) (by decide)) pz_int (fun _ _ => rfl)) (pza_cons (pz_ix (pz_var (i := 0) rfl (by simp_all!) (by decide) (by decide)) pz_int (fun _ _ => rfl)) (pza_cons (pz_ix (pz_var (i := 0) rfl (by simp_all!) (by decide) (by decide)) pz_int (fun _ _ => rfl)) (pza_cons (pz_ix (pz_var (i := 0) rfl (by simp_all!) (by decide) (by decide)) pz_int (fun _ _ => rfl)) (pza_cons (pz_ix (pz_var (i := 0) rfl (by simp_all!) (by decide) (by decide)) pz_int (fun _ _ => rfl)) pza_nil (starEach_cons rfl)) (starEach_cons rfl)) (starEach_cons rfl)) (starEach_cons rfl)) (starEach_cons rfl)) (starEach_cons rfl)) (starEach_cons rfl)) pzk_nil (by rfl) (by rfl) (by decide))) pzss_nil)
theorem ok_3 (T : Top w K mg) {k : Nat} (L : ∀ j, j ≤ k + 1 → Lv P w base T j) : Z.FnOk P w K mg base (CX P w) (k + 2) ((GG K).fn 3) T.fd_3 ["_law_script"] (spZ K (GG K) 1 (runZ 11 (m_3 (fnT (k + 1)) (fnT k) k))) :=
  fnZ T.F_3 sc_3 rfl fun cdv A outer s H E no hr => (pzss_cons (pzs_for ownZ rfl (pzi_range rfl T.b_range (pza_cons (pz_callB (call_zmax rfl) rfl T.b_max (by rfl) (pza_cons pz_int (pza_cons (pz_callB (call_zmin rfl) rfl T.b_min (by rfl) (pza_cons pz_int (pza_cons (pz_callB call_zlen rfl T.b_len (by rfl) (pza_cons (pz_var (i := 0) rfl (by simp_all!) (by decide) (by decide)) pza_nil (starEach_cons rfl)) (by rfl) (by decide) (by decide)) pza_nil (starEach_cons rfl)) (starEach_cons rfl)) (by rfl) (by decide) (by decide)) pza_nil (starEach_cons rfl)) (starEach_cons rfl)) (by rfl) (by decide) (by decide)) pza_nil (starEach_cons rfl)) (by rfl)) (pzg_name (i := 1) sc_3.nd rfl (by dsimp!) (by dsimp?!)) (pzss_cons (pzs_asg (pz_call (co_241_all T L) hr takesZ rfl T.f_241 (pza_cons (pz_var (i := 0) rfl (by simp_all!) (by decide) (by decide)) (pza_cons (pz_var (i := 1) rfl (by simp_all!) (by decide) (by decide)) (pza_cons pz_int pza_nil (starEach_cons rfl)) (starEach_cons rfl)) (starEach_cons rfl)) pzk_nil (by rfl) (by rfl) (by decide)) (pzg_name (i := 2) sc_3.nd rfl (by dsimp!) (by dsimp?!)) (by rfl) (by rfl) (by rfl) gn_name) (pzss_cons (pzs_for ownZ rfl (pzi_range rfl T.b_range (pza_cons pz_int pza_nil (starEach_cons rfl)) (by rfl)) (pzg_name (i := 3) sc_3.nd rfl (by dsimp!) (by dsimp?!)) (pzss_cons (pzs_par (ps := [(7, "_law_some"), (8, "_law_more")]) rfl sc_3.nd (by intro p hp; simp at hp; rcases hp with hp | hp <;> subst hp <;> exact ⟨rfl, rfl⟩) (pz_tup (pza_cons (pz_call (co_0_all T L) hr takesZ rfl T.f_0 (pza_cons (pz_var (i := 2) rfl (by simp_all!) (by decide) (by decide)) pza_nil (starEach_cons rfl)) pzk_nil (by rfl) (by rfl) (by decide)) (pza_cons (pz_call (co_0_all T L) hr takesZ rfl T.f_0 (pza_cons (pz_var (i := 2) rfl (by simp_all!) (by decide) (by decide)) pza_nil (starEach_cons rfl)) pzk_nil (by rfl) (by rfl) (by decide)) pza_nil (starEach_cons rfl)) (starEach_cons rfl))) (by rfl) (by rfl)) (pzss_cons (pzs_asg (pz_call (co_242_all T L) hr takesZ rfl T.f_242 (pza_cons (pz_var (i := 2) rfl (by simp_all!) (by decide) (by decide)) (pza_cons pz_int pza_nil (starEach_cons rfl)) (starEach_cons rfl)) pzk_nil (by rfl) (by rfl) (by decide)) (pzg_name (i := 4) sc_3.nd rfl (by dsimp!) (by dsimp?!)) (by rfl) (by rfl) (by rfl) gn_name) (pzss_cons (pzs_asg (pz_bin op_zadd (pz_bin op_zadd (pz_slice (pz_var (i := 7) rfl (by simp_all!) (by decide) (by decide)) pzo_none (pzo_some (pz_var (i := 4) rfl (by simp_all!) (by decide) (by decide)))) (pz_slice (pz_var (i := 8) rfl (by simp_all!) (by decide) (by decide)) (pzo_some (pz_var (i := 4) rfl (by simp_all!) (by decide) (by decide))) (pzo_some (pz_bin op_zadd (pz_var (i := 4) rfl (by simp_all!) (by decide) (by decide)) pz_int)))) (pz_slice (pz_var (i := 7) rfl (by simp_all!) (by decide) (by decide)) (pzo_some (pz_bin op_zadd (pz_var (i := 4) rfl (by simp_all!) (by decide) (by decide)) pz_int)) pzo_none)) (pzg_name (i := 5) sc_3.nd rfl (by dsimp!) (by dsimp?!)) (by rfl) (by rfl) (by rfl) gn_name) (pzss_cons (pzs_par (ps := [(9, "_law_one"), (10, "_law_two")]) rfl sc_3.nd (by intro p hp; simp at hp; rcases hp with hp | hp <;> subst hp <;> exact ⟨rfl, rfl⟩) (pz_tup (pza_cons (pz_call (co_2_all T L) hr takesZ rfl T.f_2 (pza_cons (pz_var (i := 7) rfl (by simp_all!) (by decide) (by decide)) pza_nil (starEach_cons rfl)) pzk_nil (by rfl) (by rfl) (by decide)) (pza_cons (pz_call (co_2_all T L) hr takesZ rfl T.f_2 (pza_cons (pz_var (i := 5) rfl (by simp_all!) (by decide) (by decide)) pza_nil (starEach_cons rfl)) pzk_nil (by rfl) (by rfl) (by decide)) pza_nil (starEach_cons rfl)) (starEach_cons rfl))) (by rfl) (by rfl)) (pzss_cons (pzs_if (PZW.t (pzw_or (pzt_cmp (op_neH (hq_ok T L) hr takesZ (op_zne (eqX T L rfl rfl rfl rfl rfl takesZ).2.1 hr.rm)) (pz_callB (call_zreprA hr) rfl T.b_repr (by rfl) (pza_cons (pz_call (co_1_all T L) hr takesZ rfl T.f_1 (pza_cons (pz_var (i := 9) rfl (by simp_all!) (by decide) (by decide)) pza_nil (starEach_cons rfl)) pzk_nil (by rfl) (by rfl) (by decide)) pza_nil (starEach_cons rfl)) (by rfl) (by decide) (by decide)) (pz_callB (call_zreprA hr) rfl T.b_repr (by rfl) (pza_cons (pz_var (i := 7) rfl (by simp_all!) (by decide) (by decide)) pza_nil (starEach_cons rfl)) (by rfl) (by decide) (by decide)) (by rfl)) (pzw_or (pzt_cmp (op_neH (hq_ok T L) hr takesZ (op_zne (eqX T L rfl rfl rfl rfl rfl takesZ).2.1 hr.rm)) (pz_cmp (op_eqH (hq_ok T L) hr takesZ (op_zeq (eqX T L rfl rfl rfl rfl rfl takesZ).1 hr.rm)) (pz_var (i := 9) rfl (by simp_all!) (by decide) (by decide)) (pz_var (i := 10) rfl (by simp_all!) (by decide) (by decide)) (by rfl)) (pz_cmp (op_eqH (hq_ok T L) hr takesZ (op_zeq (eqX T L rfl rfl rfl rfl rfl takesZ).1 hr.rm)) (pz_var (i := 7) rfl (by simp_all!) (by decide) (by decide)) (pz_var (i := 5) rfl (by simp_all!) (by decide) (by decide)) (by rfl)) (by rfl)) (pzw_or1 (pzt_cmp (op_eqH (hq_ok T L) hr takesZ (op_zeq (eqX T L rfl rfl rfl rfl rfl takesZ).1 hr.rm)) (pz_var (i := 9) rfl (by simp_all!) (by decide) (by decide)) (pz_var (i := 7) rfl (by simp_all!) (by decide) (by decide)) (by rfl)))))) (pzss_cons (pzs_ret pz_bl) pzss_nil) pzss_nil) (pzss_cons (pzs_asg (pz_mk0 (fr := true) (mk_64_kx1_7_6_5_4_3 T L) hr takesZ rfl T.c_House (pzk_cons (pz_ix (pz_var (i := 7) rfl (by simp_all!) (by decide) (by decide)) pz_int (fun _ _ => rfl)) (pzk_cons (pz_ix (pz_var (i := 7) rfl (by simp_all!) (by decide) (by decide)) pz_int (fun _ _ => rfl)) (pzk_cons (pz_ix (pz_var (i := 7) rfl (by simp_all!) (by decide) (by decide)) pz_int (fun _ _ => rfl)) (pzk_cons (pz_ix (pz_var (i := 7) rfl (by simp_all!) (by decide) (by decide)) pz_int (fun _ _ => rfl)) (pzk_cons (pz_ix (pz_var (i := 7) rfl (by simp_all!) (by decide) (by decide)) pz_int (fun _ _ => rfl)) pzk_nil))))) (by rfl) (by decide)) (pzg_name (i := 6) sc_3.nd rfl (by dsimp!) (by dsimp?!)) (by rfl) (by rfl) (by rfl) gn_name) (pzss_cons (pzs_if (PZW.t (pzw_or (pzt_cmp (op_neH (hq_ok T L) hr takesZ (op_zne (eqX T L rfl rfl rfl rfl rfl takesZ).2.1 hr.rm)) (pz_methKS (ks := [[107, 101, 101, 112, 115], [114, 111, 119, 115]]) (by kernel_rfl) (njN T) rfl (mtk_but_2 T L) hr takesZ (pz_var (i := 6) rfl (by simp_all!) (by decide) (by decide)) (pzk_cons (pz_ix (pz_var (i := 7) rfl (by simp_all!) (by decide) (by decide)) pz_int (fun _ _ => rfl)) (pzk_cons (pz_ix (pz_var (i := 7) rfl (by simp_all!) (by decide) (by decide)) pz_int (fun _ _ => rfl)) pzk_nil)) (by rfl) (by rfl) (by rfl) (by decide)) (pz_var (i := 9) rfl (by simp_all!) (by decide) (by decide)) (by rfl)) (pzw_or1 (pzt_cmp (op_neH (hq_ok T L) hr takesZ (op_zne (eqX T L rfl rfl rfl rfl rfl takesZ).2.1 hr.rm)) (pz_methKS (ks := []) (by kernel_rfl) (njN T) rfl (mtk_but_3 T L) hr takesZ (pz_var (i := 9) rfl (by simp_all!) (by decide) (by decide)) pzk_nil (by rfl) (by rfl) (by rfl) (by decide)) (pz_var (i := 9) rfl (by simp_all!) (by decide) (by decide)) (by rfl))))) (pzss_cons (pzs_ret pz_bl) pzss_nil) pzss_nil) (pzss_cons (pzs_asg (pz_bin op_zadd (pz_bin op_zadd (pz_bin op_zadd (pz_slice (pz_var (i := 8) rfl (by simp_all!) (by decide) (by decide)) pzo_none (pzo_some pz_int)) (pz_slice (pz_var (i := 7) rfl (by simp_all!) (by decide) (by decide)) (pzo_some pz_int) (pzo_some pz_int))) (pz_slice (pz_var (i := 8) rfl (by simp_all!) (by decide) (by decide)) (pzo_some pz_int) (pzo_some pz_int))) (pz_slice (pz_var (i := 7) rfl (by simp_all!) (by decide) (by decide)) (pzo_some pz_int) pzo_none)) (pzg_name (i := 5) sc_3.nd rfl (by dsimp!) (by dsimp?!)) (by rfl) (by rfl) (by rfl) gn_name) (pzss_cons (pzs_if (pzt_cmp (op_neH (hq_ok T L) hr takesZ (op_zne (eqX T L rfl rfl rfl rfl rfl takesZ).2.1 hr.rm)) (pz_methKS (ks := [[114, 111, 119, 115], [115, 116, 97, 109, 112, 115]]) (by kernel_rfl) (njN T) rfl (mtk_but_1 T L) hr takesZ (pz_var (i := 9) rfl (by simp_all!) (by decide) (by decide)) (pzk_cons (pz_ix (pz_var (i := 8) rfl (by simp_all!) (by decide) (by decide)) pz_int (fun _ _ => rfl)) (pzk_cons (pz_ix (pz_var (i := 8) rfl (by simp_all!) (by decide) (by decide)) pz_int (fun _ _ => rfl)) pzk_nil)) (by rfl) (by rfl) (by rfl) (by decide)) (pz_call (co_2_all T L) hr takesZ rfl T.f_2 (pza_cons (pz_var (i := 5) rfl (by simp_all!) (by decide) (by decide)) pza_nil (starEach_cons rfl)) pzk_nil (by rfl) (by rfl) (by decide)) (by rfl)) (pzss_cons (pzs_ret pz_bl) pzss_nil) pzss_nil) (pzss_cons (pzs_if (pzt_cmp (op_neH (hq_ok T L) hr takesZ (op_zne (eqX T L rfl rfl rfl rfl rfl takesZ).2.1 hr.rm)) (pz_fld (njN T) rfl T.na_joins (pz_methKS (ks := [[99, 104, 97, 110, 103, 101, 115], [106, 111, 105, 110, 115], [107, 101, 101, 112, 115]]) (by kernel_rfl) (njN T) rfl (mtk_but_0 T L) hr takesZ (pz_var (i := 9) rfl (by simp_all!) (by decide) (by decide)) (pzk_cons pz_non (pzk_cons (pz_ix (pz_var (i := 8) rfl (by simp_all!) (by decide) (by decide)) pz_int (fun _ _ => rfl)) (pzk_cons (pz_ix (pz_var (i := 8) rfl (by simp_all!) (by decide) (by decide)) pz_int (fun _ _ => rfl)) pzk_nil))) (by rfl) (by rfl) (by rfl) (by decide)) (attrBase_of (by rfl))) (pz_ix (pz_var (i := 8) rfl (by simp_all!) (by decide) (by decide)) pz_int (fun _ _ => rfl)) (by rfl)) (pzss_cons (pzs_ret pz_bl) pzss_nil) pzss_nil) (pzss_cons (pzs_if (pzt_cmp (op_neH (hq_ok T L) hr takesZ (op_zne (eqX T L rfl rfl rfl rfl rfl takesZ).2.1 hr.rm)) (pz_call (co_1_all T L) hr takesZ rfl T.f_1 (pza_cons (pz_var (i := 9) rfl (by simp_all!) (by decide) (by decide)) pza_nil (starEach_cons rfl)) pzk_nil (by rfl) (by rfl) (by decide)) (pz_var (i := 7) rfl (by simp_all!) (by decide) (by decide)) (by rfl)) (pzss_cons (pzs_ret pz_bl) pzss_nil) pzss_nil) pzss_nil))))))))))) (fun _ => rfl)) pzss_nil)) (fun _ => rfl)) (pzss_cons (pzs_ret (pz_cmp (op_eqH (hq_ok T L) hr takesZ (op_zeq (eqX T L rfl rfl rfl rfl rfl takesZ).1 hr.rm)) (pz_callB (call_zreprA hr) rfl T.b_repr (by rfl) (pza_cons (pz_call (co_1_all T L) hr takesZ rfl T.f_1 (pza_cons (pz_mk0 (fr := true) (mk_64_d1 T L) hr takesZ rfl T.c_House pzk_nil (by rfl) (by decide)) pza_nil (starEach_cons rfl)) pzk_nil (by rfl) (by rfl) (by decide)) pza_nil (starEach_cons rfl)) (by rfl) (by decide) (by decide)) (pz_callB (call_zreprA hr) rfl T.b_repr (by rfl) (pza_cons (pz_lst (pza_cons pz_int (pza_cons (pz_str (z := [108, 111, 119]) (by kernel_rfl)) (pza_cons (pz_str (z := [108, 101, 102, 116]) (by kernel_rfl)) (pza_cons pz_bl (pza_cons pz_non (pza_cons pz_bl (pza_cons pz_non pza_nil (starEach_cons rfl)) (starEach_cons rfl)) (starEach_cons rfl)) (starEach_cons rfl)) (starEach_cons rfl)) (starEach_cons rfl)) (starEach_cons rfl))) pza_nil (starEach_cons rfl)) (by rfl) (by decide) (by decide)) (by rfl))) pzss_nil))
theorem ok_60 (T : Top w K mg) {k : Nat} (L : ∀ j, j ≤ k + 1 → Lv P w base T j) : Z.FnOk P w K mg base (CX P w) (k + 2) ((GG K).fn 60) T.fd_60 ["value"] (spZ K (GG K) 1 (runZ 1 (m_60 (fnT (k + 1)) (fnT k) k))) :=
  fnZ T.F_60 sc_60 rfl fun cdv A outer s H E no hr => (pzss_cons (pzs_ret (pz_and (pz_isi (isi_types T.isT.wn (ts := [0]) (by decide)) rfl T.b_isinstance (pz_var (i := 0) rfl (by simp_all!) (by decide) (by decide)) (car_ty rfl T.b_int (by rfl) (by decide) (by decide)) (by rfl)) (pz_one (pz_un un_not (pz_isi (isi_types T.isT.wn (ts := [1]) (by decide)) rfl T.b_isinstance (pz_var (i := 0) rfl (by simp_all!) (by decide) (by decide)) (car_ty rfl T.b_bool (by rfl) (by decide) (by decide)) (by rfl)))))) pzss_nil)
theorem ok_61 (T : Top w K mg) {k : Nat} (L : ∀ j, j ≤ k + 1 → Lv P w base T j) : Z.FnOk P w K mg base (CX P w) (k + 2) ((GG K).fn 61) T.fd_61 ["value", "some"] (spZ K (GG K) 2 (runZ 2 (m_61 (fnT (k + 1)) (fnT k) k))) :=
  fnZ T.F_61 sc_61 rfl fun cdv A outer s H E no hr => (pzss_cons (pzs_ret (pz_and (pz_isi (isi_types T.isT.wn (ts := [2]) (by decide)) rfl T.b_isinstance (pz_var (i := 0) rfl (by simp_all!) (by decide) (by decide)) (car_ty rfl T.b_str (by rfl) (by decide) (by decide)) (by rfl)) (pz_one (pz_cmp (op_zin (eqX T L rfl rfl rfl rfl rfl takesZ).2.2 hr.rm) (pz_var (i := 0) rfl (by simp_all!) (by decide) (by decide)) (pz_var (i := 1) rfl (by simp_all!) (by decide) (by decide)) (by rfl))))) pzss_nil)
theorem ok_62 (T : Top w K mg) {k : Nat} (L : ∀ j, j ≤ k + 1 → Lv P w base T j) : Z.FnOk P w K mg base (CX P w) (k + 2) ((GG K).fn 62) T.fd_62 ["value", "most"] (spZ K (GG K) 2 (runZ 2 (m_62 (fnT (k + 1)) (fnT k) k))) :=
  fnZ T.F_62 sc_62 rfl fun cdv A outer s H E no hr => (pzss_cons (pzs_ret (pz_and (pz_call (co_60_all T L) hr takesZ rfl T.f_60 (pza_cons (pz_var (i := 0) rfl (by simp_all!) (by decide) (by decide)) pza_nil (starEach_cons rfl)) pzk_nil (by rfl) (by rfl) (by decide)) (pz_one (pz_chain op_zle op_zle pz_int (pz_var (i := 0) rfl (by simp_all!) (by decide) (by decide)) (pz_var (i := 1) rfl (by simp_all!) (by decide) (by decide)) (by rfl))))) pzss_nil)
theorem ok_63 (T : Top w K mg) {k : Nat} (L : ∀ j, j ≤ k + 1 → Lv P w base T j) : Z.FnOk P w K mg base (CX P w) (k + 2) ((GG K).fn 63) T.fd_63 ["rows", "keeps", "joins", "again", "stamps", "on", "changes"] (spZ K (GG K) 7 (runZ 7 (m_63 (fnT (k + 1)) (fnT k) k))) :=
  fnZ T.F_63 sc_63 rfl fun cdv A outer s H E no hr => (pzss_cons (pzs_if (pzt_not (pzt_val (pz_call (co_62_all T L) hr takesZ rfl T.f_62 (pza_cons (pz_var (i := 0) rfl (by simp_all!) (by decide) (by decide)) (pza_cons (pg_MOST_ROWS T rfl rfl rfl) pza_nil (starEach_cons rfl)) (starEach_cons rfl)) pzk_nil (by rfl) (by rfl) (by decide)) (fun _ => rfl))) (pzss_cons (pzs_ret (pz_str (z := [114, 111, 119, 115]) (by kernel_rfl))) pzss_nil) pzss_nil) (pzss_cons (pzs_if (PZW.t (pzw_or (pzt_not (pzt_val (pz_call (co_61_all T L) hr takesZ rfl T.f_61 (pza_cons (pz_var (i := 1) rfl (by simp_all!) (by decide) (by decide)) (pza_cons (pg_PARTS T rfl rfl rfl) pza_nil (starEach_cons rfl)) (starEach_cons rfl)) pzk_nil (by rfl) (by rfl) (by decide)) (fun _ => rfl))) (pzw_or1 (pzt_not (pzt_val (pz_call (co_61_all T L) hr takesZ rfl T.f_61 (pza_cons (pz_var (i := 2) rfl (by simp_all!) (by decide) (by decide)) (pza_cons (pg_JOINS T rfl rfl rfl) pza_nil (starEach_cons rfl)) (starEach_cons rfl)) pzk_nil (by rfl) (by rfl) (by decide)) (fun _ => rfl)))))) (pzss_cons (pzs_ret (pz_ifExp (pzt_val (pz_call (co_61_all T L) hr takesZ rfl T.f_61 (pza_cons (pz_var (i := 1) rfl (by simp_all!) (by decide) (by decide)) (pza_cons (pg_PARTS T rfl rfl rfl) pza_nil (starEach_cons rfl)) (starEach_cons rfl)) pzk_nil (by rfl) (by rfl) (by decide)) (fun _ => rfl)) (pz_str (z := [106, 111, 105, 110, 115]) (by kernel_rfl)) (pz_str (z := [107, 101, 101, 112, 115]) (by kernel_rfl)))) pzss_nil) pzss_nil) (pzss_cons (pzs_if (pzt_not (pzt_val (pz_isi (isi_types T.isT.wn (ts := [1]) (by decide)) rfl T.b_isinstance (pz_var (i := 3) rfl (by simp_all!) (by decide) (by decide)) (car_ty rfl T.b_bool (by rfl) (by decide) (by decide)) (by rfl)) (fun _ => rfl))) (pzss_cons (pzs_ret (pz_str (z := [97, 103, 97, 105, 110]) (by kernel_rfl))) pzss_nil) pzss_nil) (pzss_cons (pzs_if (PZW.t (pzw_and (pzt_cmp op_zisnot (pz_var (i := 4) rfl (by simp_all!) (by decide) (by decide)) pz_non (by rfl)) (pzw_and1 (pzt_not (pzt_val (pz_call (co_62_all T L) hr takesZ rfl T.f_62 (pza_cons (pz_var (i := 4) rfl (by simp_all!) (by decide) (by decide)) (pza_cons (pg_MOST_MODULUS T rfl rfl rfl) pza_nil (starEach_cons rfl)) (starEach_cons rfl)) pzk_nil (by rfl) (by rfl) (by decide)) (fun _ => rfl)))))) (pzss_cons (pzs_ret (pz_str (z := [115, 116, 97, 109, 112, 115]) (by kernel_rfl))) pzss_nil) pzss_nil) (pzss_cons (pzs_if (pzt_not (pzt_val (pz_isi (isi_types T.isT.wn (ts := [1]) (by decide)) rfl T.b_isinstance (pz_var (i := 5) rfl (by simp_all!) (by decide) (by decide)) (car_ty rfl T.b_bool (by rfl) (by decide) (by decide)) (by rfl)) (fun _ => rfl))) (pzss_cons (pzs_ret (pz_str (z := [111, 110]) (by kernel_rfl))) pzss_nil) pzss_nil) (pzss_cons (pzs_ret (pz_ifExp (PZW.t (pzw_or (pzt_cmp op_zis (pz_var (i := 6) rfl (by simp_all!) (by decide) (by decide)) pz_non (by rfl)) (pzw_or1 (pzt_val (pz_call (co_62_all T L) hr takesZ rfl T.f_62 (pza_cons (pz_var (i := 6) rfl (by simp_all!) (by decide) (by decide)) (pza_cons (pg_MOST_CHANGES T rfl rfl rfl) pza_nil (starEach_cons rfl)) (starEach_cons rfl)) pzk_nil (by rfl) (by rfl) (by decide)) (fun _ => rfl))))) pz_non (pz_str (z := [99, 104, 97, 110, 103, 101, 115]) (by kernel_rfl)))) pzss_nil))))))
theorem ok_64 (T : Top w K mg) {k : Nat} (L : ∀ j, j ≤ k + 1 → Lv P w base T j) : Z.FnOk P w K mg base (CX P w) (k + 2) ((GG K).fn 64) T.fd_64 ["self", "rows", "keeps", "joins", "again", "stamps", "on", "changes"] (spZ K (GG K) 8 (runZ 9 (m_64 (fnT (k + 1)) (fnT k) k))) :=
  fnZ T.F_64 sc_64 rfl fun cdv A outer s H E no hr => (pzss_cons (pzs_asg (pz_call (co_63_all T L) hr takesZ rfl T.f_63 (pza_cons (pz_var (i := 1) rfl (by simp_all!) (by decide) (by decide)) (pza_cons (pz_var (i := 2) rfl (by simp_all!) (by decide) (by decide)) (pza_cons (pz_var (i := 3) rfl (by simp_all!) (by decide) (by decide)) (pza_cons (pz_var (i := 4) rfl (by simp_all!) (by decide) (by decide)) (pza_cons (pz_var (i := 5) rfl (by simp_all!) (by decide) (by decide)) (pza_cons (pz_var (i := 6) rfl (by simp_all!) (by decide) (by decide)) (pza_cons (pz_var (i := 7) rfl (by simp_all!) (by decide) (by decide)) pza_nil (starEach_cons rfl)) (starEach_cons rfl)) (starEach_cons rfl)) (starEach_cons rfl)) (starEach_cons rfl)) (starEach_cons rfl)) (starEach_cons rfl)) pzk_nil (by rfl) (by rfl) (by decide)) (pzg_name (i := 8) sc_64.nd rfl (by dsimp!) (by dsimp?!)) (by rfl) (by rfl) (by rfl) gn_name) (pzss_cons (pzs_if (pzt_cmp op_zisnot (pz_var (i := 8) rfl (by simp_all!) (by decide) (by decide)) pz_non (by rfl)) (pzss_cons (pzs_gK fun j hj => by subst hj; exact pzs_raise rfl takesZ (xk_InvalidHouse T) hr rfl T.xg_InvalidHouse (pza_cons (pz_var (i := 8) rfl (by simp_all!) (by decide) (by decide)) pza_nil (starEach_cons rfl)) (by decide) (by rfl)) pzss_nil) pzss_nil) (pzss_cons (pzs_fld (njN T) rfl T.na_rows (pz_var (i := 0) rfl (by simp_all!) (by decide) (by decide)) (pz_var (i := 1) rfl (by simp_all!) (by decide) (by decide)) (by rfl)) (pzss_cons (pzs_fld (njN T) rfl T.na_keeps (pz_var (i := 0) rfl (by simp_all!) (by decide) (by decide)) (pz_var (i := 2) rfl (by simp_all!) (by decide) (by decide)) (by rfl)) (pzss_cons (pzs_fld (njN T) rfl T.na_joins (pz_var (i := 0) rfl (by simp_all!) (by decide) (by decide)) (pz_var (i := 3) rfl (by simp_all!) (by decide) (by decide)) (by rfl)) (pzss_cons (pzs_fld (njN T) rfl T.na_again (pz_var (i := 0) rfl (by simp_all!) (by decide) (by decide)) (pz_var (i := 4) rfl (by simp_all!) (by decide) (by decide)) (by rfl)) (pzss_cons (pzs_fld (njN T) rfl T.na_stamps (pz_var (i := 0) rfl (by simp_all!) (by decide) (by decide)) (pz_var (i := 5) rfl (by simp_all!) (by decide) (by decide)) (by rfl)) (pzss_cons (pzs_fld (njN T) rfl T.na_on (pz_var (i := 0) rfl (by simp_all!) (by decide) (by decide)) (pz_var (i := 6) rfl (by simp_all!) (by decide) (by decide)) (by rfl)) (pzss_cons (pzs_fld (njN T) rfl T.na_changes (pz_var (i := 0) rfl (by simp_all!) (by decide) (by decide)) (pz_var (i := 7) rfl (by simp_all!) (by decide) (by decide)) (by rfl)) pzss_nil)))))))))
theorem ok_65 (T : Top w K mg) {k : Nat} (L : ∀ j, j ≤ k + 1 → Lv P w base T j) : Z.FnOk P w K mg base (CX P w) (k + 2) ((GG K).fn 65) T.fd_65 ["self"] (spZ K (GG K) 1 (runZ 1 (m_65 (fnT (k + 1)) (fnT k) k))) :=
  fnZ T.F_65 sc_65 rfl fun cdv A outer s H E no hr => (pzss_cons (pzs_ret (pz_disp (pzd_cons (pe_strS (z := [114, 111, 119, 115]) (by kernel_rfl)) (pz_fld (njN T) rfl T.na_rows (pz_var (i := 0) rfl (by simp_all!) (by decide) (by decide)) (attrBase_of (by rfl))) (pzd_cons (pe_strS (z := [107, 101, 101, 112, 115]) (by kernel_rfl)) (pz_fld (njN T) rfl T.na_keeps (pz_var (i := 0) rfl (by simp_all!) (by decide) (by decide)) (attrBase_of (by rfl))) (pzd_cons (pe_strS (z := [106, 111, 105, 110, 115]) (by kernel_rfl)) (pz_fld (njN T) rfl T.na_joins (pz_var (i := 0) rfl (by simp_all!) (by decide) (by decide)) (attrBase_of (by rfl))) (pzd_cons (pe_strS (z := [97, 103, 97, 105, 110]) (by kernel_rfl)) (pz_fld (njN T) rfl T.na_again (pz_var (i := 0) rfl (by simp_all!) (by decide) (by decide)) (attrBase_of (by rfl))) (pzd_cons (pe_strS (z := [115, 116, 97, 109, 112, 115]) (by kernel_rfl)) (pz_fld (njN T) rfl T.na_stamps (pz_var (i := 0) rfl (by simp_all!) (by decide) (by decide)) (attrBase_of (by rfl))) (pzd_cons (pe_strS (z := [111, 110]) (by kernel_rfl)) (pz_fld (njN T) rfl T.na_on (pz_var (i := 0) rfl (by simp_all!) (by decide) (by decide)) (attrBase_of (by rfl))) (pzd_cons (pe_strS (z := [99, 104, 97, 110, 103, 101, 115]) (by kernel_rfl)) (pz_fld (njN T) rfl T.na_changes (pz_var (i := 0) rfl (by simp_all!) (by decide) (by decide)) (attrBase_of (by rfl))) pzd_nil))))))) rfl rfl (by simp) (by decide))) pzss_nil)
theorem ok_66 (T : Top w K mg) {k : Nat} (L : ∀ j, j ≤ k + 1 → Lv P w base T j) : FnK P w K mg base (k + 2) ((GG K).fn 66) T.fd_66 "self" "others" (spZ K (GG K) 2 (runZ 3 (m_66 (fnT (k + 1)) (fnT k) k))) :=
  fnZK T.F_66 sc_66 rfl fun cdv A outer s H E no hr => (pzss_cons (pzs_asg (pz_dstar2 (pz_meth0 (njN T) rfl (mt_parts T L) hr takesZ (pz_var (i := 0) rfl (by simp_all!) (by decide) (by decide)) pzk_nil (by rfl) (by rfl) (by rfl) (by decide)) (pz_var (i := 1) rfl (by simp_all!) (by decide) (by decide))) (pzg_name (i := 2) sc_66.nd rfl (by dsimp!) (by dsimp?!)) (by rfl) (by rfl) (by rfl) gn_name) (pzss_cons (pzs_ret (pz_mkDS (fr := true) (ks := [[114, 111, 119, 115], [107, 101, 101, 112, 115], [106, 111, 105, 110, 115], [97, 103, 97, 105, 110], [115, 116, 97, 109, 112, 115], [111, 110], [99, 104, 97, 110, 103, 101, 115]]) (by kernel_rfl) (mk_64_kx1_1_2_3_4_5_6_7 T L) hr takesZ rfl T.c_House (pz_var (i := 2) rfl (by simp_all!) (by decide) (by decide)) (by decide))) pzss_nil))
theorem ok_67 (T : Top w K mg) {k : Nat} (L : ∀ j, j ≤ k + 1 → Lv P w base T j) : Z.FnOk P w K mg base (CX P w) (k + 2) ((GG K).fn 67) T.fd_67 ["self", "other"] (spZ K (GG K) 2 (runZ 2 (m_67 (fnT (k + 1)) (fnT k) k))) :=
  fnZ T.F_67 sc_67 rfl fun cdv A outer s H E no hr => (pzss_cons (pzs_ret (pz_and (pz_isi (isi_cls T.isT.wn (d := 0) (by decide)) rfl T.b_isinstance (pz_var (i := 1) rfl (by simp_all!) (by decide) (by decide)) (car_cls rfl T.c_House (by decide)) (by rfl)) (pz_one (pz_cmp (op_zdeq hr) (pz_meth0 (njN T) rfl (mt_parts T L) hr takesZ (pz_var (i := 0) rfl (by simp_all!) (by decide) (by decide)) pzk_nil (by rfl) (by rfl) (by rfl) (by decide)) (pz_meth0 (njN T) rfl (mt_parts T L) hr takesZ (pz_var (i := 1) rfl (by simp_all!) (by decide) (by decide)) pzk_nil (by rfl) (by rfl) (by rfl) (by decide)) (by rfl))))) pzss_nil)
theorem ok_240 (T : Top w K mg) {k : Nat} (L : ∀ j, j ≤ k + 1 → Lv P w base T j) : Z.FnOk P w K mg base (CX P w) (k + 2) ((GG K).fn 240) T.fd_240 ["_law_box_here", "_law_items"] (spZ K (GG K) 2 (runZ 2 (m_240 (fnT (k + 1)) (fnT k) k))) :=
  fnZ T.F_240 sc_240 rfl fun cdv A outer s H E no hr => (pzss_cons (pzs_ret (pz_ix (pz_var (i := 1) rfl (by simp_all!) (by decide) (by decide)) (pz_call (co_242_all T L) hr takesZ rfl T.f_242 (pza_cons (pz_var (i := 0) rfl (by simp_all!) (by decide) (by decide)) (pza_cons (pz_callB call_zlen rfl T.b_len (by rfl) (pza_cons (pz_var (i := 1) rfl (by simp_all!) (by decide) (by decide)) pza_nil (starEach_cons rfl)) (by rfl) (by decide) (by decide)) pza_nil (starEach_cons rfl)) (starEach_cons rfl)) pzk_nil (by rfl) (by rfl) (by decide)) (fun _ _ => rfl))) pzss_nil)
theorem ok_241 (T : Top w K mg) {k : Nat} (L : ∀ j, j ≤ k + 1 → Lv P w base T j) : Z.FnOk P w K mg base (CX P w) (k + 2) ((GG K).fn 241) T.fd_241 ["_law_script", "_law_k", "_law_own"] (spZ K (GG K) 3 (runZ 5 (m_241 (fnT (k + 1)) (fnT k) k))) :=
  fnZ T.F_241 sc_241 rfl fun cdv A outer s H E no hr => (pzss_cons (pzs_asg (pz_bin op_zadd (pz_bin op_zadd (pz_bin op_zmulA pz_int (pz_var (i := 1) rfl (by simp_all!) (by decide) (by decide))) (pz_bin op_zmulA pz_int (pz_var (i := 2) rfl (by simp_all!) (by decide) (by decide)))) pz_int) (pzg_name (i := 3) sc_241.nd rfl (by dsimp!) (by dsimp?!)) (by rfl) (by rfl) (by rfl) gn_name) (pzss_cons (pzs_if (pzt_cmp op_zlt (pz_var (i := 1) rfl (by simp_all!) (by decide) (by decide)) (pz_callB call_zlen rfl T.b_len (by rfl) (pza_cons (pz_var (i := 0) rfl (by simp_all!) (by decide) (by decide)) pza_nil (starEach_cons rfl)) (by rfl) (by decide) (by decide)) (by rfl)) (pzss_cons (pzs_asg (pz_callB call_zabs rfl T.b_abs (by rfl) (pza_cons (pz_ix (pz_var (i := 0) rfl (by simp_all!) (by decide) (by decide)) (pz_var (i := 1) rfl (by simp_all!) (by decide) (by decide)) (fun _ _ => rfl)) pza_nil (starEach_cons rfl)) (by rfl) (by decide) (by decide)) (pzg_name (i := 3) sc_241.nd rfl (by dsimp!) (by dsimp?!)) (by rfl) (by rfl) (by rfl) gn_name) pzss_nil) (pzss_cons (pzs_if (pzt_cmp op_zgt (pz_callB call_zlen rfl T.b_len (by rfl) (pza_cons (pz_var (i := 0) rfl (by simp_all!) (by decide) (by decide)) pza_nil (starEach_cons rfl)) (by rfl) (by decide) (by decide)) pz_int (by rfl)) (pzss_cons (pzs_asg (pz_bin op_zadd (pz_var (i := 3) rfl (by simp_all!) (by decide) (by decide)) (pz_bin op_zmulA (pz_bin op_zmod (pz_callT call_zint rfl T.b_int (by rfl) (pza_cons (pz_callB call_zabs rfl T.b_abs (by rfl) (pza_cons (pz_ix (pz_var (i := 0) rfl (by simp_all!) (by decide) (by decide)) (pz_bin op_zmod (pz_callT call_zint rfl T.b_int (by rfl) (pza_cons (pz_var (i := 1) rfl (by simp_all!) (by decide) (by decide)) pza_nil (starEach_cons rfl)) (by rfl) (by decide) (by decide)) (pz_callB call_zlen rfl T.b_len (by rfl) (pza_cons (pz_var (i := 0) rfl (by simp_all!) (by decide) (by decide)) pza_nil (starEach_cons rfl)) (by rfl) (by decide) (by decide))) (fun _ _ => rfl)) pza_nil (starEach_cons rfl)) (by rfl) (by decide) (by decide)) pza_nil (starEach_cons rfl)) (by rfl) (by decide) (by decide)) pz_int) pz_int)) (pzg_name (i := 3) sc_241.nd rfl (by dsimp!) (by dsimp?!)) (by rfl) (by rfl) (by rfl) gn_name) pzss_nil) pzss_nil) pzss_nil)) (pzss_cons (pzs_asg (pz_bin op_zadd (pz_bin op_zmod (pz_callT call_zint rfl T.b_int (by rfl) (pza_cons (pz_bin op_zadd (pz_bin op_zmulA (pz_bin op_zmod (pz_callT call_zint rfl T.b_int (by rfl) (pza_cons (pz_var (i := 3) rfl (by simp_all!) (by decide) (by decide)) pza_nil (starEach_cons rfl)) (by rfl) (by decide) (by decide)) pz_int) pz_int) (pz_bin op_zmulA pz_int (pz_bin op_zadd (pz_var (i := 1) rfl (by simp_all!) (by decide) (by decide)) (pz_bin op_zmulA pz_int (pz_var (i := 2) rfl (by simp_all!) (by decide) (by decide)))))) pza_nil (starEach_cons rfl)) (by rfl) (by decide) (by decide)) pz_int) pz_int) (pzg_name (i := 4) sc_241.nd rfl (by dsimp!) (by dsimp?!)) (by rfl) (by rfl) (by rfl) gn_name) (pzss_cons (pzs_ret (pz_lst (pza_cons (pz_ix (pz_lst (pza_cons pz_int (pza_cons (pz_var (i := 3) rfl (by simp_all!) (by decide) (by decide)) pza_nil (starEach_cons rfl)) (starEach_cons rfl))) (pz_callT call_zint rfl T.b_int (by rfl) (pza_cons (pz_cmp op_zge (pz_var (i := 3) rfl (by simp_all!) (by decide) (by decide)) (pz_bin op_zpow pz_int pz_int) (by rfl)) pza_nil (starEach_cons rfl)) (by rfl) (by decide) (by decide)) (fun _ _ => rfl)) (pza_cons (pz_var (i := 4) rfl (by simp_all!) (by decide) (by decide)) (pza_cons pz_int pza_nil (starEach_cons rfl)) (starEach_cons rfl)) (starEach_cons rfl)))) pzss_nil))))
theorem ok_242 (T : Top w K mg) {k : Nat} (L : ∀ j, j ≤ k + 1 → Lv P w base T j) : Z.FnOk P w K mg base (CX P w) (k + 2) ((GG K).fn 242) T.fd_242 ["_law_box_here", "_law_many"] (spZ K (GG K) 2 (runZ 5 (m_242 (fnT (k + 1)) (fnT k) k))) :=
  fnZ T.F_242 sc_242 rfl fun cdv A outer s H E no hr => (pzss_cons (pzs_if (pzt_cmp op_zgt (pz_ix (pz_var (i := 0) rfl (by simp_all!) (by decide) (by decide)) pz_int (fun _ _ => rfl)) pz_int (by rfl)) (pzss_cons (pzs_asg (pz_bin op_zmod (pz_callT call_zint rfl T.b_int (by rfl) (pza_cons (pz_ix (pz_var (i := 0) rfl (by simp_all!) (by decide) (by decide)) pz_int (fun _ _ => rfl)) pza_nil (starEach_cons rfl)) (by rfl) (by decide) (by decide)) (pz_var (i := 1) rfl (by simp_all!) (by decide) (by decide))) (pzg_name (i := 4) sc_242.nd rfl (by dsimp!) (by dsimp?!)) (by rfl) (by rfl) (by rfl) gn_name) (pzss_cons (pzs_asg (pz_bin op_zfdiv (pz_ix (pz_var (i := 0) rfl (by simp_all!) (by decide) (by decide)) pz_int (fun _ _ => rfl)) (pz_var (i := 1) rfl (by simp_all!) (by decide) (by decide))) (pzg_sub (pz_var (i := 0) rfl (by simp_all!) (by decide) (by decide)) pz_int (fun _ => rfl)) (by rfl) (by rfl) (by rfl) gn_sub) (pzss_cons (pzs_ret (pz_var (i := 4) rfl (by simp_all!) (by decide) (by decide))) pzss_nil))) pzss_nil) (pzss_cons (pzs_asg (pz_bin op_zadd (pz_ix (pz_var (i := 0) rfl (by simp_all!) (by decide) (by decide)) pz_int (fun _ _ => rfl)) pz_int) (pzg_sub (pz_var (i := 0) rfl (by simp_all!) (by decide) (by decide)) pz_int (fun _ => rfl)) (by rfl) (by rfl) (by rfl) gn_sub) (pzss_cons (pzs_asg (pz_bin op_zmod (pz_callT call_zint rfl T.b_int (by rfl) (pza_cons (pz_bin op_zmulA (pz_bin op_zadd (pz_ix (pz_var (i := 0) rfl (by simp_all!) (by decide) (by decide)) pz_int (fun _ _ => rfl)) (pz_bin op_zmulA pz_int (pz_ix (pz_var (i := 0) rfl (by simp_all!) (by decide) (by decide)) pz_int (fun _ _ => rfl)))) pz_int) pza_nil (starEach_cons rfl)) (by rfl) (by decide) (by decide)) pz_int) (pzg_name (i := 2) sc_242.nd rfl (by dsimp!) (by dsimp?!)) (by rfl) (by rfl) (by rfl) gn_name) (pzss_cons (pzs_asg (pz_bin op_zadd (pz_bin op_zmod (pz_callT call_zint rfl T.b_int (by rfl) (pza_cons (pz_bin op_zadd (pz_bin op_zmulA (pz_var (i := 2) rfl (by simp_all!) (by decide) (by decide)) pz_int) pz_int) pza_nil (starEach_cons rfl)) (by rfl) (by decide) (by decide)) pz_int) pz_int) (pzg_sub (pz_var (i := 0) rfl (by simp_all!) (by decide) (by decide)) pz_int (fun _ => rfl)) (by rfl) (by rfl) (by rfl) gn_sub) (pzss_cons (pzs_if (pzt_cmp op_zlt (pz_var (i := 1) rfl (by simp_all!) (by decide) (by decide)) (pz_bin op_zpow pz_int pz_int) (by rfl)) (pzss_cons (pzs_ret (pz_bin op_zmod (pz_callT call_zint rfl T.b_int (by rfl) (pza_cons (pz_bin op_zfdiv (pz_bin op_zadd (pz_bin op_zmulA (pz_var (i := 2) rfl (by simp_all!) (by decide) (by decide)) pz_int) (pz_ix (pz_var (i := 0) rfl (by simp_all!) (by decide) (by decide)) pz_int (fun _ _ => rfl))) pz_int) pza_nil (starEach_cons rfl)) (by rfl) (by decide) (by decide)) (pz_var (i := 1) rfl (by simp_all!) (by decide) (by decide)))) pzss_nil) pzss_nil) (pzss_cons (pzs_asg (pz_bin op_zmulA (pz_bin op_zadd (pz_bin op_zmulA (pz_var (i := 2) rfl (by simp_all!) (by decide) (by decide)) pz_int) (pz_ix (pz_var (i := 0) rfl (by simp_all!) (by decide) (by decide)) pz_int (fun _ _ => rfl))) (pz_bin op_zpow pz_int pz_int)) (pzg_name (i := 3) sc_242.nd rfl (by dsimp!) (by dsimp?!)) (by rfl) (by rfl) (by rfl) gn_name) (pzss_cons (pzs_ret (pz_bin op_zmod (pz_callT call_zint rfl T.b_int (by rfl) (pza_cons (pz_bin op_zadd (pz_bin op_zadd (pz_var (i := 3) rfl (by simp_all!) (by decide) (by decide)) (pz_bin op_zmulA (pz_bin op_zpow (pz_ix (pz_var (i := 0) rfl (by simp_all!) (by decide) (by decide)) pz_int (fun _ _ => rfl)) pz_int) pz_int)) (pz_var (i := 2) rfl (by simp_all!) (by decide) (by decide))) pza_nil (starEach_cons rfl)) (by rfl) (by decide) (by decide)) (pz_var (i := 1) rfl (by simp_all!) (by decide) (by decide)))) pzss_nil)))))))
end Lk07
namespace Lk07
open PySem L2 Z
open PyProof.Rows hiding St
variable {P : Program} {w : World} {K : PySem.W.Frag} {mg : Str → Option Value} {base : Heap} {k : Nat}
theorem lv_0 (T : Top w K mg) : Lv P w base T 0 :=
  ⟨fn_bad (F := T.fd_0), fn_bad (F := T.fd_1), fn_bad (F := T.fd_2), fn_bad (F := T.fd_3), fn_bad (F := T.fd_60), fn_bad (F := T.fd_61), fn_bad (F := T.fd_62), fn_bad (F := T.fd_63), fn_bad (F := T.fd_64), fn_bad (F := T.fd_65), fnK_bad, fn_bad (F := T.fd_67), fn_bad (F := T.fd_240), fn_bad (F := T.fd_241), fn_bad (F := T.fd_242)⟩
theorem lv_1 (T : Top w K mg) (L : ∀ j, j ≤ 0 → Lv P w base T j) : Lv P w base T 1 :=
  ⟨fn_bad (F := T.fd_0), fn_bad (F := T.fd_1), fn_bad (F := T.fd_2), fn_bad (F := T.fd_3), fn_bad (F := T.fd_60), fn_bad (F := T.fd_61), fn_bad (F := T.fd_62), fn_bad (F := T.fd_63), fn_bad (F := T.fd_64), fn_bad (F := T.fd_65), fnK_bad, fn_bad (F := T.fd_67), fn_bad (F := T.fd_240), fn_bad (F := T.fd_241), fn_bad (F := T.fd_242)⟩
theorem lv_2 (T : Top w K mg) {k : Nat} (L : ∀ j, j ≤ k + 1 → Lv P w base T j) : Lv P w base T (k + 2) :=
  ⟨ok_0 T L, ok_1 T L, ok_2 T L, ok_3 T L, ok_60 T L, ok_61 T L, ok_62 T L, ok_63 T L, ok_64 T L, ok_65 T L, ok_66 T L, ok_67 T L, ok_240 T L, ok_241 T L, ok_242 T L⟩
theorem lv_up (T : Top w K mg) : ∀ n, ∀ j, j ≤ n → Lv P w base T j
  | 0 => fun j hj => by
    have e : j = 0 := Nat.le_zero.1 hj
    subst e
    exact lv_0 T
  | n + 1 => fun j hj => by
    rcases Nat.lt_or_ge j (n + 1) with q | q
    · exact lv_up T n j (Nat.le_of_lt_succ q)
    · have e : j = n + 1 := Nat.le_antisymm hj q
      subst e
      cases n with
      | zero => exact lv_1 T (lv_up T 0)
      | succ m => exact lv_2 T (lv_up T (m + 1))
def dA0 : List He5.DefA := [⟨fun K => He.ga K "_law_parts", "_law_parts", "_law_parts", defArgs s_0, defBody s_0, defScope s_0, [], []⟩, ⟨fun K => He.ga K "_law_told", "_law_told", "_law_told", defArgs s_1, defBody s_1, defScope s_1, [], []⟩, ⟨fun K => He.ga K "_law_made", "_law_made", "_law_made", defArgs s_2, defBody s_2, defScope s_2, [], []⟩, ⟨fun K => He.ga K "law", "law", "law", defArgs s_3, defBody s_3, defScope s_3, [], []⟩, ⟨fun K => He.ga K "is_integer", "is_integer", "is_integer", defArgs s_60, defBody s_60, defScope s_60, [], []⟩, ⟨fun K => He.ga K "is_word", "is_word", "is_word", defArgs s_61, defBody s_61, defScope s_61, [], []⟩, ⟨fun K => He.ga K "is_between", "is_between", "is_between", defArgs s_62, defBody s_62, defScope s_62, [], []⟩, ⟨fun K => He.ga K "fault_of", "fault_of", "fault_of", defArgs s_63, defBody s_63, defScope s_63, [], []⟩, ⟨fun K => He.ma K (He.ga K "House") "__init__", "__init__", "House.__init__", defArgs s_64, defBody s_64, defScope s_64, [.int 2, .str "low", .str "left", .bl true, .non, .bl true, .non], []⟩, ⟨fun K => He.ma K (He.ga K "House") "parts", "parts", "House.parts", defArgs s_65, defBody s_65, defScope s_65, [], []⟩, ⟨fun K => He.ma K (He.ga K "House") "but", "but", "House.but", defArgs s_66, defBody s_66, defScope s_66, [], []⟩, ⟨fun K => He.ma K (He.ga K "House") "__eq__", "__eq__", "House.__eq__", defArgs s_67, defBody s_67, defScope s_67, [], []⟩, ⟨fun K => He.ga K "_law_pick", "_law_pick", "_law_pick", defArgs s_240, defBody s_240, defScope s_240, [], []⟩, ⟨fun K => He.ga K "_law_box", "_law_box", "_law_box", defArgs s_241, defBody s_241, defScope s_241, [], []⟩, ⟨fun K => He.ga K "_law_take", "_law_take", "_law_take", defArgs s_242, defBody s_242, defScope s_242, [], []⟩]
def dAx : List He5.DefA := [⟨fun K => He.ma K (He.ga K "InvalidHouse") "__init__", "__init__", "InvalidHouse.__init__", defArgs sx_InvalidHouse, defBody sx_InvalidHouse, defScope sx_InvalidHouse, [], []⟩]
def dAy : List He5.DefA := dA0 ++ dAx
def dA : List He5.DefA := dAy
def chk2_0 : List (PySem.W.Frag → Bool) := [fun K => [("_law_parts" : Str), ("_law_told" : Str), ("_law_made" : Str), ("law" : Str), ("is_integer" : Str), ("is_word" : Str), ("is_between" : Str), ("fault_of" : Str), ("_law_pick" : Str), ("_law_box" : Str), ("_law_take" : Str)].all fun x => cGlo x K, cFrees ["abs", "bool", "int", "isinstance", "len", "max", "min", "range", "repr", "str"], cCls "House" ["rows", "keeps", "joins", "again", "stamps", "on", "changes"], cMkr "House", cMeth "House" "__eq__", cMeth "House" "__init__", cMeth "House" "but", cMeth "House" "parts"]
def chk2 : List (PySem.W.Frag → Bool) := chk2_0
def chk3_0 : List (PySem.W.Frag → Bool) := [cIsi ["House"], cEqO ["House"], cTup "PARTS" [.str "low", .str "high"], cTup "JOINS" [.str "left", .str "right", .str "none"], fun K => (He.Fa.int "MOST_ROWS" 4).ok K, fun K => (He.Fa.int "MOST_MODULUS" 6).ok K, fun K => (He.Fa.int "MOST_CHANGES" 3).ok K, cXc "InvalidHouse" ["word"], cSl "SlotError"]
def chk3 : List (PySem.W.Frag → Bool) := chk3_0
def dcs : List (Str × List Str) := []
abbrev prt1 : Prt := ⟨[], dA, []⟩
abbrev prt2 : Prt := ⟨chk2, [], []⟩
abbrev prt3 : Prt := ⟨chk3, [], dcs⟩
theorem top_of {h : Heap} (X : K.In h) (G : h.Ns mainGlobals mg) (ca : SaysY w.params prt1.chk prt1.fn prt1.ds K) (cb : SaysY w.params prt2.chk prt2.fn prt2.ds K) (cd : SaysY w.params prt3.chk prt3.fn prt3.ds K) : ∃ T : Top w K mg, True := by
  have c1 : SaysZ [] dA K := ca.z
  have c2 : SaysZ chk2 [] K := cb.z
  have c3 : SaysZ chk3 [] K := cd.z
  obtain ⟨fd_0, F_0⟩ := c1.def_ 0 rfl
  obtain ⟨fd_1, F_1⟩ := c1.def_ 1 rfl
  obtain ⟨fd_2, F_2⟩ := c1.def_ 2 rfl
  obtain ⟨fd_3, F_3⟩ := c1.def_ 3 rfl
  obtain ⟨fd_60, F_60⟩ := c1.def_ 4 rfl
  obtain ⟨fd_61, F_61⟩ := c1.def_ 5 rfl
  obtain ⟨fd_62, F_62⟩ := c1.def_ 6 rfl
  obtain ⟨fd_63, F_63⟩ := c1.def_ 7 rfl
  obtain ⟨fd_64, F_64⟩ := c1.def_ 8 rfl
  obtain ⟨fd_65, F_65⟩ := c1.def_ 9 rfl
  obtain ⟨fd_66, F_66⟩ := c1.def_ 10 rfl
  obtain ⟨fd_67, F_67⟩ := c1.def_ 11 rfl
  obtain ⟨fd_240, F_240⟩ := c1.def_ 12 rfl
  obtain ⟨fd_241, F_241⟩ := c1.def_ 13 rfl
  obtain ⟨fd_242, F_242⟩ := c1.def_ 14 rfl
  obtain ⟨xd_InvalidHouse, xF_InvalidHouse⟩ := c1.def_ 15 rfl
  have XC_InvalidHouse := cXc_ok X G (c3.fact 7 rfl)
  have C_0 := cCls_ok X G (c2.fact 2 rfl)
  have isT : IsT K (GG K) allC := isT_sub (fns := fns) (cls := CLn) (xs := ["House"]) (nms := NMn) (C := allC) (by decide +kernel) (by decide +kernel) (fun x hx => by
    rcases List.mem_cons.1 hx with e | hx
    · subst e; exact C_0.2.1
    exact absurd hx (by simp)) (c3.fact 0 rfl)
  have na_rows : NoAt K (GG K) 3 [0] := fun i hi => by
    rcases List.mem_cons.1 hi with e | hi
    · subst e; exact ⟨C_0.2.1, C_0.2.2 "rows" (by simp)⟩
    exact absurd hi (by simp)
  have na_keeps : NoAt K (GG K) 4 [0] := fun i hi => by
    rcases List.mem_cons.1 hi with e | hi
    · subst e; exact ⟨C_0.2.1, C_0.2.2 "keeps" (by simp)⟩
    exact absurd hi (by simp)
  have na_joins : NoAt K (GG K) 5 [0] := fun i hi => by
    rcases List.mem_cons.1 hi with e | hi
    · subst e; exact ⟨C_0.2.1, C_0.2.2 "joins" (by simp)⟩
    exact absurd hi (by simp)
  have na_again : NoAt K (GG K) 6 [0] := fun i hi => by
    rcases List.mem_cons.1 hi with e | hi
    · subst e; exact ⟨C_0.2.1, C_0.2.2 "again" (by simp)⟩
    exact absurd hi (by simp)
  have na_stamps : NoAt K (GG K) 7 [0] := fun i hi => by
    rcases List.mem_cons.1 hi with e | hi
    · subst e; exact ⟨C_0.2.1, C_0.2.2 "stamps" (by simp)⟩
    exact absurd hi (by simp)
  have na_on : NoAt K (GG K) 8 [0] := fun i hi => by
    rcases List.mem_cons.1 hi with e | hi
    · subst e; exact ⟨C_0.2.1, C_0.2.2 "on" (by simp)⟩
    exact absurd hi (by simp)
  have na_changes : NoAt K (GG K) 9 [0] := fun i hi => by
    rcases List.mem_cons.1 hi with e | hi
    · subst e; exact ⟨C_0.2.1, C_0.2.2 "changes" (by simp)⟩
    exact absurd hi (by simp)
  have xf_word : XfOk K (GG K) 2 [16] := fun i hi => by
    rcases List.mem_cons.1 hi with e | hi
    · subst e; exact ⟨XC_InvalidHouse.2.xf, XC_InvalidHouse.2.no "word" (by simp)⟩
    exact absurd hi (by simp)
  exact ⟨⟨nj_of (by decide +kernel) (by decide +kernel),
    isT,
    fd_0,
    F_0,
    He.glo_ok X G (List.all_eq_true.mp (c2.fact 0 (f := fun K => [("_law_parts" : Str), ("_law_told" : Str), ("_law_made" : Str), ("law" : Str), ("is_integer" : Str), ("is_word" : Str), ("is_between" : Str), ("fault_of" : Str), ("_law_pick" : Str), ("_law_box" : Str), ("_law_take" : Str)].all fun x => cGlo x K) rfl) "_law_parts" (by simp)),
    fd_1,
    F_1,
    He.glo_ok X G (List.all_eq_true.mp (c2.fact 0 (f := fun K => [("_law_parts" : Str), ("_law_told" : Str), ("_law_made" : Str), ("law" : Str), ("is_integer" : Str), ("is_word" : Str), ("is_between" : Str), ("fault_of" : Str), ("_law_pick" : Str), ("_law_box" : Str), ("_law_take" : Str)].all fun x => cGlo x K) rfl) "_law_told" (by simp)),
    fd_2,
    F_2,
    He.glo_ok X G (List.all_eq_true.mp (c2.fact 0 (f := fun K => [("_law_parts" : Str), ("_law_told" : Str), ("_law_made" : Str), ("law" : Str), ("is_integer" : Str), ("is_word" : Str), ("is_between" : Str), ("fault_of" : Str), ("_law_pick" : Str), ("_law_box" : Str), ("_law_take" : Str)].all fun x => cGlo x K) rfl) "_law_made" (by simp)),
    fd_3,
    F_3,
    He.glo_ok X G (List.all_eq_true.mp (c2.fact 0 (f := fun K => [("_law_parts" : Str), ("_law_told" : Str), ("_law_made" : Str), ("law" : Str), ("is_integer" : Str), ("is_word" : Str), ("is_between" : Str), ("fault_of" : Str), ("_law_pick" : Str), ("_law_box" : Str), ("_law_take" : Str)].all fun x => cGlo x K) rfl) "law" (by simp)),
    fd_60,
    F_60,
    He.glo_ok X G (List.all_eq_true.mp (c2.fact 0 (f := fun K => [("_law_parts" : Str), ("_law_told" : Str), ("_law_made" : Str), ("law" : Str), ("is_integer" : Str), ("is_word" : Str), ("is_between" : Str), ("fault_of" : Str), ("_law_pick" : Str), ("_law_box" : Str), ("_law_take" : Str)].all fun x => cGlo x K) rfl) "is_integer" (by simp)),
    fd_61,
    F_61,
    He.glo_ok X G (List.all_eq_true.mp (c2.fact 0 (f := fun K => [("_law_parts" : Str), ("_law_told" : Str), ("_law_made" : Str), ("law" : Str), ("is_integer" : Str), ("is_word" : Str), ("is_between" : Str), ("fault_of" : Str), ("_law_pick" : Str), ("_law_box" : Str), ("_law_take" : Str)].all fun x => cGlo x K) rfl) "is_word" (by simp)),
    fd_62,
    F_62,
    He.glo_ok X G (List.all_eq_true.mp (c2.fact 0 (f := fun K => [("_law_parts" : Str), ("_law_told" : Str), ("_law_made" : Str), ("law" : Str), ("is_integer" : Str), ("is_word" : Str), ("is_between" : Str), ("fault_of" : Str), ("_law_pick" : Str), ("_law_box" : Str), ("_law_take" : Str)].all fun x => cGlo x K) rfl) "is_between" (by simp)),
    fd_63,
    F_63,
    He.glo_ok X G (List.all_eq_true.mp (c2.fact 0 (f := fun K => [("_law_parts" : Str), ("_law_told" : Str), ("_law_made" : Str), ("law" : Str), ("is_integer" : Str), ("is_word" : Str), ("is_between" : Str), ("fault_of" : Str), ("_law_pick" : Str), ("_law_box" : Str), ("_law_take" : Str)].all fun x => cGlo x K) rfl) "fault_of" (by simp)),
    fd_64,
    F_64,
    fd_65,
    F_65,
    fd_66,
    F_66,
    fd_67,
    F_67,
    fd_240,
    F_240,
    He.glo_ok X G (List.all_eq_true.mp (c2.fact 0 (f := fun K => [("_law_parts" : Str), ("_law_told" : Str), ("_law_made" : Str), ("law" : Str), ("is_integer" : Str), ("is_word" : Str), ("is_between" : Str), ("fault_of" : Str), ("_law_pick" : Str), ("_law_box" : Str), ("_law_take" : Str)].all fun x => cGlo x K) rfl) "_law_pick" (by simp)),
    fd_241,
    F_241,
    He.glo_ok X G (List.all_eq_true.mp (c2.fact 0 (f := fun K => [("_law_parts" : Str), ("_law_told" : Str), ("_law_made" : Str), ("law" : Str), ("is_integer" : Str), ("is_word" : Str), ("is_between" : Str), ("fault_of" : Str), ("_law_pick" : Str), ("_law_box" : Str), ("_law_take" : Str)].all fun x => cGlo x K) rfl) "_law_box" (by simp)),
    fd_242,
    F_242,
    He.glo_ok X G (List.all_eq_true.mp (c2.fact 0 (f := fun K => [("_law_parts" : Str), ("_law_told" : Str), ("_law_made" : Str), ("law" : Str), ("is_integer" : Str), ("is_word" : Str), ("is_between" : Str), ("fault_of" : Str), ("_law_pick" : Str), ("_law_box" : Str), ("_law_take" : Str)].all fun x => cGlo x K) rfl) "_law_take" (by simp)),
    cFrees_ok X G (c2.fact 1 rfl) (by simp),
    cFrees_ok X G (c2.fact 1 rfl) (by simp),
    cFrees_ok X G (c2.fact 1 rfl) (by simp),
    cFrees_ok X G (c2.fact 1 rfl) (by simp),
    cFrees_ok X G (c2.fact 1 rfl) (by simp),
    cFrees_ok X G (c2.fact 1 rfl) (by simp),
    cFrees_ok X G (c2.fact 1 rfl) (by simp),
    cFrees_ok X G (c2.fact 1 rfl) (by simp),
    cFrees_ok X G (c2.fact 1 rfl) (by simp),
    cFrees_ok X G (c2.fact 1 rfl) (by simp),
    C_0.1,
    C_0.2.1,
    He.mkr_ok (c2.fact 3 (f := cMkr "House") rfl),
    na_rows,
    na_keeps,
    na_joins,
    na_again,
    na_stamps,
    na_on,
    na_changes,
    He.meth_ok (c2.fact 4 (f := cMeth "House" "__eq__") rfl),
    He.meth_ok (c2.fact 5 (f := cMeth "House" "__init__") rfl),
    He.meth_ok (c2.fact 6 (f := cMeth "House" "but") rfl),
    He.meth_ok (c2.fact 7 (f := cMeth "House" "parts") rfl),
    cEqO_ok (c3.fact 1 (f := cEqO ["House"]) rfl) (x := "House") (by simp),
    cTup_ok X G (c3.fact 2 rfl),
    cTup_ok X G (c3.fact 3 rfl),
    He.int_ok X G (c3.fact 4 (f := fun K => (He.Fa.int "MOST_ROWS" 4).ok K) rfl),
    He.int_ok X G (c3.fact 5 (f := fun K => (He.Fa.int "MOST_MODULUS" 6).ok K) rfl),
    He.int_ok X G (c3.fact 6 (f := fun K => (He.Fa.int "MOST_CHANGES" 3).ok K) rfl),
    XC_InvalidHouse.1,
    XC_InvalidHouse.2,
    xd_InvalidHouse,
    xF_InvalidHouse,
    cSl_ok X G (c3.fact 8 rfl),
    xf_word⟩, trivial⟩
def names0 : List PySem.Str := ["SlotError", "InvalidHouse", "is_integer", "is_word", "PARTS", "JOINS", "MOST_ROWS", "MOST_MODULUS", "MOST_CHANGES", "is_between", "fault_of", "House", "_law_box", "_law_take", "_law_pick", "_law_parts", "_law_told", "_law_made"]
def names : List PySem.Str := names0
abbrev R : PySem.W.OpenRow := PySem.W.OpenLaw.row PySem.Challenge.rw_keptslot_k07_houses_made
abbrev hk : PySem.W.Hook := hook3 5 prt1 prt2 prt3
abbrev ob (s : PySem.W.SharedT) : AlY × AlY × AlY := ob3 5 prt1 prt2 prt3 s
theorem ob_eq (s : PySem.W.SharedT) : ob s = hk.obs s.abs := ob3_eq s
theorem run0 (w : World) : Run0 R (PySem.W.view R.prog [22]) 20000 names w := by
  intro os
  kernel_rfl
theorem run1_0 (w : World) : RunP R 5 20000 w prt1 := by
  intro os
  kernel_rfl
theorem runp1 (w : World) : RunP R 5 20000 w prt1 := (run1_0 w)
theorem run2_0 (w : World) : RunP R 5 20000 w prt2 := by
  intro os
  kernel_rfl
theorem runp2 (w : World) : RunP R 5 20000 w prt2 := (run2_0 w)
theorem run3_0 (w : World) : RunP R 5 20000 w prt3 := by
  intro os
  kernel_rfl
theorem runp3 (w : World) : RunP R 5 20000 w prt3 := (run3_0 w)
theorem run (w : World) : HandSHeadRun.RunEq R (PySem.W.view R.prog [22]) hk ob 20000 names w := (run_of (run0 w) (runp1 w) (runp2 w) (runp3 w))
end Lk07
theorem Lk07.endZ (N : Nat) (hN : L2.Room N PySem.callerA) (hl : Z.LawOk 63 (Lk07.fnT N 3)) : PySem.Challenge.rw_keptslot_k07_houses_made.Holds := by
  open PySem PySem.W PySem.Calls PyProof.Rows in
  w_on; o_law
  refine HandSHeadRun.head_any (r := PySem.W.OpenLaw.row PySem.Challenge.rw_keptslot_k07_houses_made) (q := PySem.W.view (PySem.W.OpenLaw.row PySem.Challenge.rw_keptslot_k07_houses_made).prog [22]) (H := Lk07.hk) (ob := Lk07.ob) (M := 20000) (loose := Lk07.names) (d := HandSHeadRun.topDef (PySem.W.OpenLaw.row PySem.Challenge.rw_keptslot_k07_houses_made).prog 22) (kwd := []) Lk07.ob_eq
    (by kernel_rfl) (fun s => by kernel_rfl) Lk07.run (by kernel_rfl) (by kernel_rfl) (by kernel_rfl) (by rfl) (by first | assumption | decide +kernel) (by decide +kernel) ⟨rfl, rfl, rfl, rfl, rfl, by decide +kernel⟩ ?hw ?hc
  case hw => w_witness2
  case hc =>
    refine Z.walk_ofZ (l := PySem.Challenge.rw_keptslot_k07_houses_made) (n := 63) (k := N) (x := "_law_script") rfl (by decide) (by kernel_rfl) ⟨hN, rfl⟩ hl ?F
    intro w mg fa h Y G hmg0
    obtain ⟨K, KX, ca, cb, cd⟩ := Y
    have hmg : mg ("law" : PySem.Str) = some (.ref fa) := by
      have e : (HandSHeadRun.topDef (PySem.W.OpenLaw.row PySem.Challenge.rw_keptslot_k07_houses_made).prog 22).name = ("law" : PySem.Str) := by kernel_rfl
      rw [← e]
      exact hmg0
    obtain ⟨T, _⟩ := Lk07.top_of KX G ca cb cd
    have e := hmg.symm.trans T.f_3
    cases e
    have b := L2.FunD.bindsA (ps := ["_law_script"]) T.F_3 fun _ _ _ _ _ _ us hl => match us, hl with | [_], _ => rfl
    exact ⟨K, T.fd_3, Lk07.GG K, KX, fun s v => b s [v] rfl, fun base _ _ => (Lk07.lv_up T N N (Nat.le_refl _)).o_3⟩

theorem PySem.Challenge.cw_keptslot_k07_houses_made_holds : PySem.Challenge.rw_keptslot_k07_houses_made.Holds :=
  Lk07.endZ 60 ⟨rfl, by decide, by decide⟩ Lk07.law_ok
