import PyProof.Rows.All
import Wide.All
import OpenK.AllK
import Wide.FinOn
import HandS.ForMost
import HandS.ForExc
import PyProof.ToksMono
import HandS.ForList
import HandS.Text
import HandS.TupAny
import HandS.Style
import HandS.IsInst
import HandS.Replace
import HandS.ReplaceLit
import HandS.ReplaceList
import HandS.FStr
import PyProof.EqAt
import PyProof.EqKinds
import HandS.OwnEq
import PyProof.NeKinds
import HandS.NoneIn
import HandS.Flow
import HandS.Iter
import KE.GoesMore
import PyProof.EnumMake
import HandS.Comp
import HandS.ClsMeth
import HandS.DictComp
import HandS.WordsDict
import KE.KUnpackStar
import HandS.Defaults
import HandS.ReplaceDef
import HandS.HeadNt
import KE.KStateDown
import HandS.HeadHook1
import HandS.HeadHook2
import HandS.Head2
import HandS.HeadEnd
import HandS.EndBits
import HandS.Star
import HandS.Conv
import HandS.ExcInit
import HandS.ExcField
import HandS.TryOnly
import HandS.ExcOwn
import HandS.Zip
import HandS.WrittenGet
import HandS.HeadHook3
import HandS.RaiseOp
import HandS.Dict
import PyProof.StrOps2
import HandS.Head0
import HandS.Head1
import PyProof.ReprRoads
import HandS.List
import PyProof.Rows.SortStr
import KE.KExcIs
import KE.KIsAll
import HandS.ExcIs
import HandS.More
import KE.KFmtOwn
import PyProof.InstEq
import PyProof.Rows.Range3
import Lean
import PySem.Challenge.RW_keptslot_k02_rows_made
set_option linter.all false
namespace Z

inductive W where
  | non | bl (b : Bool) | int (i : Int) | str (s : List Nat) | tup (ws : List W) | ref (n : Nat) | fn (n : Nat) | cl (n : Nat) | obj (c : Nat) (fs : List (Nat × W)) | fz (ws : List W) | exv (c : Nat) (fs : List (Nat × W))

inductive Cell where
  | lst (xs : List W)
  | dct (kvs : List (W × W))
  | ins (c : Nat) (fs : List (Nat × W))
  | dead

inductive T where
  | nil
  | node (c : Cell) (l r : T)
def T.get : T → Nat → Option Cell
  | .nil, _ => none
  | .node c l r, i => match i with
    | 0 => some c
    | j + 1 => match j % 2 with
      | 0 => l.get (j / 2)
      | _ => r.get (j / 2)
def T.set : T → Nat → Cell → T
  | .nil, _, x => .node x .nil .nil
  | .node c l r, i, x => match i with
    | 0 => .node x l r
    | j + 1 => match j % 2 with
      | 0 => .node c (l.set (j / 2) x) r
      | _ => .node c l (r.set (j / 2) x)
def T.Valid (t : T) (n : Nat) : Prop := ∀ i, (t.get i).isSome = true ↔ i < n

theorem T.get_succ_even (c : Cell) (l r : T) (k : Nat) : (T.node c l r).get (2 * k + 1) = l.get k := by
  have h1 : (2 * k) % 2 = 0 := by omega
  have h2 : (2 * k) / 2 = k := by omega
  show (match (2 * k) % 2 with | 0 => l.get ((2 * k) / 2) | _ => r.get ((2 * k) / 2)) = _
  rw [h1, h2]
  all_goals rfl
theorem T.get_succ_odd (c : Cell) (l r : T) (k : Nat) : (T.node c l r).get (2 * k + 2) = r.get k := by
  have h1 : (2 * k + 1) % 2 = 1 := by omega
  have h2 : (2 * k + 1) / 2 = k := by omega
  show (match (2 * k + 1) % 2 with | 0 => l.get ((2 * k + 1) / 2) | _ => r.get ((2 * k + 1) / 2)) = _
  rw [h1, h2]
  all_goals rfl
theorem T.set_succ_even (c : Cell) (l r : T) (k : Nat) (x : Cell) : (T.node c l r).set (2 * k + 1) x = .node c (l.set k x) r := by
  have h1 : (2 * k) % 2 = 0 := by omega
  have h2 : (2 * k) / 2 = k := by omega
  show (match (2 * k) % 2 with | 0 => T.node c (l.set ((2 * k) / 2) x) r | _ => .node c l (r.set ((2 * k) / 2) x)) = _
  rw [h1, h2]
  all_goals rfl
theorem T.set_succ_odd (c : Cell) (l r : T) (k : Nat) (x : Cell) : (T.node c l r).set (2 * k + 2) x = .node c l (r.set k x) := by
  have h1 : (2 * k + 1) % 2 = 1 := by omega
  have h2 : (2 * k + 1) / 2 = k := by omega
  show (match (2 * k + 1) % 2 with | 0 => T.node c (l.set ((2 * k + 1) / 2) x) r | _ => .node c l (r.set ((2 * k + 1) / 2) x)) = _
  rw [h1, h2]
  all_goals rfl
theorem nat_cases (i : Nat) : i = 0 ∨ (∃ k, i = 2 * k + 1) ∨ ∃ k, i = 2 * k + 2 := by
  rcases Nat.eq_zero_or_pos i with h | h
  · exact .inl h
  · rcases Nat.mod_two_eq_zero_or_one i with e | e
    · exact .inr (.inr ⟨i / 2 - 1, by omega⟩)
    · exact .inr (.inl ⟨i / 2, by omega⟩)
theorem T.Valid.left {c : Cell} {l r : T} {n : Nat} (h : (T.node c l r).Valid n) : l.Valid (n / 2) := fun k => by
  have q := h (2 * k + 1)
  rw [T.get_succ_even] at q
  rw [q]; omega
theorem T.Valid.right {c : Cell} {l r : T} {n : Nat} (h : (T.node c l r).Valid n) : r.Valid ((n - 1) / 2) := fun k => by
  have q := h (2 * k + 2)
  rw [T.get_succ_odd] at q
  rw [q]; omega
theorem T.Valid.pos {c : Cell} {l r : T} {n : Nat} (h : (T.node c l r).Valid n) : 0 < n := (h 0).mp rfl
theorem T.Valid.nil {n : Nat} (h : T.nil.Valid n) : n = 0 := by
  rcases Nat.eq_zero_or_pos n with e | e
  · exact e
  · have := (h 0).mpr e
    cases this
/-- what is read behind a store within the size, or just behind it -/
theorem T.get_set : ∀ (t : T) (n i : Nat) (x : Cell) (j : Nat), t.Valid n → i ≤ n → (t.set i x).get j = if j = i then some x else t.get j
  | .nil, n, i, x, j, h, hi => by
    have e : i = 0 := by have := h.nil; omega
    subst e
    show (T.node x .nil .nil).get j = _
    rcases nat_cases j with e | ⟨k, e⟩ | ⟨k, e⟩
    · subst e; rfl
    · subst e; rw [T.get_succ_even, if_neg (by omega)]; rfl
    · subst e; rw [T.get_succ_odd, if_neg (by omega)]; rfl
  | .node c l r, n, i, x, j, h, hi => by
    have hp := h.pos
    rcases nat_cases i with e | ⟨k, e⟩ | ⟨k, e⟩
    · subst e
      show (T.node x l r).get j = _
      rcases nat_cases j with e | ⟨m, e⟩ | ⟨m, e⟩
      · subst e; rfl
      · subst e; rw [T.get_succ_even, T.get_succ_even, if_neg (by omega)]
      · subst e; rw [T.get_succ_odd, T.get_succ_odd, if_neg (by omega)]
    · subst e
      rw [T.set_succ_even]
      rcases nat_cases j with e | ⟨m, e⟩ | ⟨m, e⟩
      · subst e; rw [if_neg (by omega)]; rfl
      · subst e
        rw [T.get_succ_even, T.get_succ_even, T.get_set l (n / 2) k x m h.left (by omega)]
        by_cases q : m = k
        · subst q; rw [if_pos rfl, if_pos rfl]
        · rw [if_neg q, if_neg (by omega)]
      · subst e; rw [T.get_succ_odd, T.get_succ_odd, if_neg (by omega)]
    · subst e
      rw [T.set_succ_odd]
      rcases nat_cases j with e | ⟨m, e⟩ | ⟨m, e⟩
      · subst e; rw [if_neg (by omega)]; rfl
      · subst e; rw [T.get_succ_even, T.get_succ_even, if_neg (by omega)]
      · subst e
        rw [T.get_succ_odd, T.get_succ_odd, T.get_set r ((n - 1) / 2) k x m h.right (by omega)]
        by_cases q : m = k
        · subst q; rw [if_pos rfl, if_pos rfl]
        · rw [if_neg q, if_neg (by omega)]

structure Hz where
  n : Nat
  t : T
  ok : t.Valid n
def Hz.empty : Hz := ⟨0, .nil, fun i => by constructor <;> intro h <;> first | cases h | omega⟩
def Hz.get (h : Hz) (i : Nat) : Option Cell := h.t.get i
def Hz.push (h : Hz) (c : Cell) : Hz := ⟨h.n + 1, h.t.set h.n c, fun i => by
  rw [T.get_set h.t h.n h.n c i h.ok (Nat.le_refl _)]
  by_cases e : i = h.n
  · subst e; rw [if_pos rfl]; simp
  · rw [if_neg e, h.ok i]; omega⟩
def Hz.put (h : Hz) (i : Nat) (c : Cell) : Hz := if p : i < h.n then ⟨h.n, h.t.set i c, fun j => by
  rw [T.get_set h.t h.n i c j h.ok (Nat.le_of_lt p)]
  by_cases e : j = i
  · subst e; rw [if_pos rfl]; simp [p]
  · rw [if_neg e, h.ok j]⟩ else h
theorem Hz.get_push (h : Hz) (c : Cell) (i : Nat) : (h.push c).get i = if i = h.n then some c else h.get i := T.get_set h.t h.n h.n c i h.ok (Nat.le_refl _)
theorem Hz.get_put (h : Hz) (i : Nat) (c : Cell) (j : Nat) (p : i < h.n) : (h.put i c).get j = if j = i then some c else h.get j := by
  unfold Hz.put
  rw [dif_pos p]
  exact T.get_set h.t h.n i c j h.ok (Nat.le_of_lt p)
theorem Hz.push_n (h : Hz) (c : Cell) : (h.push c).n = h.n + 1 := rfl
theorem Hz.put_n (h : Hz) (i : Nat) (c : Cell) : (h.put i c).n = h.n := by
  unfold Hz.put
  split <;> rfl
theorem Hz.get_lt {h : Hz} {i : Nat} {c : Cell} (e : h.get i = some c) : i < h.n := (h.ok i).mp (by
  have : h.t.get i = some c := e
  rw [this]; rfl)
theorem Hz.get_push_self (h : Hz) (c : Cell) : (h.push c).get h.n = some c := by rw [Hz.get_push, if_pos rfl]
theorem Hz.get_push_old {h : Hz} {c d : Cell} {i : Nat} (e : h.get i = some d) : (h.push c).get i = some d := by
  rw [Hz.get_push, if_neg (Nat.ne_of_lt (Hz.get_lt e))]; exact e
theorem Hz.get_put_self {h : Hz} {c d : Cell} {i : Nat} (e : h.get i = some d) : (h.put i c).get i = some c := by
  rw [Hz.get_put h i c i (Hz.get_lt e), if_pos rfl]
theorem Hz.get_put_ne {h : Hz} {c d : Cell} {i j : Nat} (e : h.get i = some d) (ne : j ≠ i) : (h.put i c).get j = h.get j := by
  rw [Hz.get_put h i c j (Hz.get_lt e), if_neg ne]

inductive R (α : Type) where
  | ok (a : α) (h : Hz)
  | exc (c : Nat) (fs : List (Nat × W)) (h : Hz)
  | err
abbrev M (α : Type) := Hz → R α
def ret {α : Type} (a : α) : M α := fun h => .ok a h
def bnd {α β : Type} (m : M α) (k : α → M β) : M β := fun h => match m h with
  | .ok a h' => k a h'
  | .exc c fs h' => .exc c fs h'
  | .err => .err
def bad {α : Type} : M α := fun _ => .err
def thr {α : Type} (c : Nat) (fs : List (Nat × W)) : M α := fun h => .exc c fs h
/-- no exception may leave -/
def noex {α : Type} (m : M α) : M α := fun h => match m h with
  | .ok a h' => .ok a h'
  | _ => .err
def ofO {α : Type} : Option α → M α
  | some a => ret a
  | none => bad
def new (c : Cell) : M W := fun h => .ok (.ref h.n) (h.push c)
def cell (i : Nat) : M Cell := fun h => match h.get i with
  | some c => .ok c h
  | none => .err
def store (i : Nat) (c : Cell) : M Unit := fun h => .ok () (h.put i c)
instance : Monad M where
  pure := ret
  bind := bnd
end Z

set_option Elab.async false
set_option linter.all false
set_option maxRecDepth 100000
set_option maxHeartbeats 1000000
namespace Z
open PySem L2

/-- where the things of the top stand: defs, classes; the names of fields -/
structure Gt where
  fn : Nat → Addr
  cl : Nat → Addr
  nm : Nat → Str
  no : Addr → Prop
  xv : Addr → Option (Nat × Option Addr)
  hs : W → Int
/-- .. with other addresses at which no value of ours stands -/
def Gt.wn (G : Gt) (p : Addr → Prop) : Gt := ⟨G.fn, G.cl, G.nm, p, G.xv, G.hs⟩

def Cell.live : Cell → Bool
  | .lst _ => true
  | .dct _ => true
  | .ins _ _ => true
  | .dead => false

/-- a list that never changes -/
def FzL (K : PySem.W.Frag) (H : Hp) (a : Addr) (vs : List V) : Prop := (∃ o, H a = some (.frz o (.lst vs))) ∨ ∀ H1 : Hp, SqL K H1 a vs
theorem FzL.sq {K : PySem.W.Frag} {H : Hp} {a : Addr} {vs : List V} (f : FzL K H a vs) : SqL K H a vs := by
  rcases f with ⟨o, e⟩ | f
  · exact .inl (.inr ⟨o, e⟩)
  · exact f H

/-- a live cell stands at the address -/
def LvAt (ι : Nat → Addr) (h : Hz) (a : Addr) : Prop := ∃ i c, h.get i = some c ∧ c.live = true ∧ ι i = a

section
variable (K : PySem.W.Frag) (G : Gt) (ι : Nat → Addr) (h : Hz) (H : Hp)
mutual
inductive Rep : W → V → Prop
  | non : Rep .non .non
  | bl (b : Bool) : Rep (.bl b) (.bl b)
  | int (i : Int) : Rep (.int i) (.int i)
  | str (s : List Nat) : Rep (.str s) (.str ⟨s.toArray⟩)
  | tup {ws : List W} {a : Addr} {vs : List V} : SqT K H a vs → Reps ws vs → Rep (.tup ws) (.ref a)
  | fz {ws : List W} {a : Addr} {vs : List V} : FzL K H a vs → Reps ws vs → Rep (.fz ws) (.ref a)
  | obj {c : Nat} {fs : List (Nat × W)} {a dx : Addr} {gs : List (Str × V)} : H a = some (.ins (G.cl c) dx gs) → ¬ LvAt ι h a → ¬ G.no a → RepF fs gs → Rep (.obj c fs) (.ref a)
  | ref (i : Nat) : i < h.n → Rep (.ref i) (.ref (ι i))
  | fn (i : Nat) : Rep (.fn i) (.ref (G.fn i))
  | cl (i : Nat) : Rep (.cl i) (.ref (G.cl i))
inductive Reps : List W → List V → Prop
  | nil : Reps [] []
  | cons {w : W} {v : V} {ws : List W} {vs : List V} : Rep w v → Reps ws vs → Reps (w :: ws) (v :: vs)
inductive RepF : List (Nat × W) → List (Str × V) → Prop
  | nil : RepF [] []
  | cons {f : Nat} {w : W} {v : V} {fs : List (Nat × W)} {gs : List (Str × V)} : Rep w v → RepF fs gs → RepF ((f, w) :: fs) ((G.nm f, v) :: gs)
end

/-- a key of a dict -/
def keyW : W → Option Key
  | .int i => some (.inl i)
  | .str s => some (.inr ⟨s.toArray⟩)
  | _ => none
/-- a dict with these entries stands at a -/
def DictE (a : Addr) (es : List DictEntry) (hp : Heap) : Prop := (∃ o ep, hp.get? a = some o ∧ o.ExactDict ∧ o.data = .dict es.toArray ep) ∧ (a == sysModules) = false ∧ es.length ≤ sizeLine
/-- an entry whose key is a tuple -/
def TE1 (p : W × W) (e : DictEntry) : Prop := ∃ ka v, e.key = .ref ka ∧ Rep K G ι h H p.1 (.ref ka) ∧ e.hash = G.hs p.1 ∧ RelV v e.val ∧ Rep K G ι h H p.2 v
def KE1 (p : W × W) (q : Key × V) : Prop := keyW p.1 = some q.1 ∧ Rep K G ι h H p.2 q.2
/-- how a cell stands at its address -/
def CellRep (a : Addr) : Cell → Prop
  | .lst xs => ∃ vs, H a = some (.lst vs) ∧ Reps K G ι h H xs vs
  | .dct kvs => (∃ qs, H a = some (.dK qs) ∧ Paired (KE1 K G ι h H) kvs qs) ∨ (∃ es, H a = some (.ext (DictE a es)) ∧ Paired (TE1 K G ι h H) kvs es)
  | .ins c fs => ∃ dx gs, H a = some (.ins (G.cl c) dx gs) ∧ RepF K G ι h H fs gs
  | .dead => True
structure HRep : Prop where
  cell : ∀ i c, h.get i = some c → CellRep K G ι h H (ι i) c
  inj : ∀ i j c d, h.get i = some c → h.get j = some d → c.live = true → d.live = true → ι i = ι j → i = j
  no : ∀ a, G.no a → H a ≠ none
  off : ∀ i c, h.get i = some c → c.live = true → ¬ G.no (ι i)
/-- the fields of an exception, in its dict -/
def XRep (fs : List (Nat × W)) (d : Option Addr) : Prop := (d = none ∧ fs = []) ∨ ∃ dd gs, d = some dd ∧ H dd = some (.xd gs) ∧ RepF K G ι h H fs gs
/-- an exception that is handled -/
def ExvRep (w : W) (v : V) : Prop := ∃ c fs a d, w = .exv c fs ∧ v = .ref a ∧ G.xv a = some (c, d) ∧ XRep K G ι h H fs d
def SRep (ρ : List (Option W)) (σ : St) : Prop := ρ.length ≤ σ.length ∧ ∀ (i : Nat) w, ρ[i]? = some (some w) → ∃ v, σ[i]? = some (some v) ∧ (Rep K G ι h H w v ∨ ExvRep K G ι h H w v)
end

/-- what may come behind -/
structure Nx0 (ι : Nat → Addr) (h : Hz) (H : Hp) (ι' : Nat → Addr) (h' : Hz) (H' : Hp) : Prop where
  ext : ∀ i, i < h.n → ι' i = ι i
  le : h.n ≤ h'.n
  keep : ∀ a o, H a = some o → ¬ LvAt ι h a → H' a = some o
  there : ∀ a, H a ≠ none → H' a ≠ none
  new : ∀ i, h.n ≤ i → i < h'.n → H (ι' i) = none
  dead : ∀ i c, i < h.n → h'.get i = some c → c.live = true → ∃ d, h.get i = some d ∧ d.live = true
structure Next (K : PySem.W.Frag) (G : Gt) (ι : Nat → Addr) (h : Hz) (H : Hp) (ι' : Nat → Addr) (h' : Hz) (H' : Hp) : Prop extends Nx0 ι h H ι' h' H' where
  rep : HRep K G ι' h' H'

section
variable {K : PySem.W.Frag} {G : Gt} {ι ι' ι2 : Nat → Addr} {h h' h2 : Hz} {H H' H2 : Hp}
theorem Next.refl (r : HRep K G ι h H) : Next K G ι h H ι h H :=
  ⟨⟨fun _ _ => rfl, Nat.le_refl _, fun _ _ e _ => e, fun _ e => e, fun i a b => absurd (Nat.lt_of_le_of_lt a b) (Nat.lt_irrefl _), fun i c _ e l => ⟨c, e, l⟩⟩, r⟩
/-- what was tracked and no live cell is none behind it -/
theorem Nx0.off (n : Nx0 ι h H ι' h' H') {a : Addr} (e : H a ≠ none) (l : ¬ LvAt ι h a) : ¬ LvAt ι' h' a := by
  rintro ⟨i, c, gi, lc, ei⟩
  by_cases hi : i < h.n
  · obtain ⟨d, gd, ld⟩ := n.dead i c hi gi lc
    exact l ⟨i, d, gd, ld, by rw [← n.ext i hi]; exact ei⟩
  · exact e (by rw [← ei]; exact n.new i (Nat.le_of_not_lt hi) (Hz.get_lt gi))
theorem Next.trans (a : Next K G ι h H ι' h' H') (b : Next K G ι' h' H' ι2 h2 H2) : Next K G ι h H ι2 h2 H2 := by
  refine ⟨⟨fun i hi => (b.ext i (Nat.lt_of_lt_of_le hi a.le)).trans (a.ext i hi), Nat.le_trans a.le b.le, fun x o e l => ?_, fun x e => b.there x (a.there x e), fun i h1 h2' => ?_, fun i c hi g l => ?_⟩, b.rep⟩
  · exact b.keep x o (a.keep x o e l) (a.toNx0.off (by rw [e]; simp) l)
  · by_cases hi : i < h'.n
    · rw [b.ext i hi]; exact a.new i h1 hi
    · have q := b.new i (Nat.le_of_not_lt hi) h2'
      cases e : H (ι2 i) with
      | none => rfl
      | some o => exact absurd q (a.there _ (by rw [e]; simp))
  · obtain ⟨d, gd, ld⟩ := b.dead i c (Nat.lt_of_lt_of_le hi a.le) g l
    exact a.dead i d hi gd ld
/-- a live cell is no tuple, nothing frozen -/
def mutO : HO → Bool
  | .lst _ => true
  | .ins _ _ _ => true
  | .dK _ => true
  | .ext _ => true
  | _ => false
theorem HRep.mut (r : HRep K G ι h H) {a : Addr} (l : LvAt ι h a) : ∃ o, H a = some o ∧ mutO o = true := by
  obtain ⟨i, c, gi, lc, rfl⟩ := l
  have q := r.cell i c gi
  cases c with
  | lst xs => obtain ⟨vs, e, _⟩ := q; exact ⟨_, e, rfl⟩
  | dct kvs =>
    rcases q with ⟨qs, e, _⟩ | ⟨es, e, _⟩
    · exact ⟨_, e, rfl⟩
    · exact ⟨_, e, rfl⟩
  | ins c fs => obtain ⟨dx, gs, e, _⟩ := q; exact ⟨_, e, rfl⟩
  | dead => cases lc
theorem HRep.tup_off (r : HRep K G ι h H) {a : Addr} {vs : List V} (e : Rd H a (.tup vs)) : ¬ LvAt ι h a := fun l => by
  obtain ⟨o, q, m⟩ := r.mut l
  rcases e with e | ⟨o', e⟩ <;> (rw [q] at e; cases e; cases m)
theorem sqT_next (r : HRep K G ι h H) (n : Nx0 ι h H ι' h' H') {a : Addr} {vs : List V} (e : SqT K H a vs) : SqT K H' a vs := by
  rcases e with e | e
  · have l := r.tup_off e
    rcases e with e | ⟨o, e⟩
    · exact .inl (.inl (n.keep _ _ e l))
    · exact .inl (.inr ⟨o, n.keep _ _ e l⟩)
  · exact .inr e
mutual
theorem Rep.next (r : HRep K G ι h H) (n : Nx0 ι h H ι' h' H') : ∀ {w : W} {v : V}, Rep K G ι h H w v → Rep K G ι' h' H' w v
  | _, _, .non => .non
  | _, _, .bl b => .bl b
  | _, _, .int i => .int i
  | _, _, .str s => .str s
  | _, _, .tup e q => .tup (sqT_next r n e) (Reps.next r n q)
  | _, _, .fz e q => .fz (by
      rcases e with ⟨o, e⟩ | e
      · refine .inl ⟨o, n.keep _ _ e fun l => ?_⟩
        obtain ⟨o', z, m⟩ := r.mut l
        rw [z] at e; cases e; cases m
      · exact .inr e) (Reps.next r n q)
  | _, _, .obj e l z q => .obj (n.keep _ _ e l) (n.off (by rw [e]; simp) l) z (RepF.next r n q)
  | _, _, .ref i hi => by
    rw [← n.ext i hi]
    exact .ref i (Nat.lt_of_lt_of_le hi n.le)
  | _, _, .fn i => .fn i
  | _, _, .cl i => .cl i
theorem Reps.next (r : HRep K G ι h H) (n : Nx0 ι h H ι' h' H') : ∀ {ws : List W} {vs : List V}, Reps K G ι h H ws vs → Reps K G ι' h' H' ws vs
  | _, _, .nil => .nil
  | _, _, .cons a b => .cons (Rep.next r n a) (Reps.next r n b)
theorem RepF.next (r : HRep K G ι h H) (n : Nx0 ι h H ι' h' H') : ∀ {fs : List (Nat × W)} {gs : List (Str × V)}, RepF K G ι h H fs gs → RepF K G ι' h' H' fs gs
  | _, _, .nil => .nil
  | _, _, .cons a b => .cons (Rep.next r n a) (RepF.next r n b)
end
theorem XRep.next (r : HRep K G ι h H) (n : Nx0 ι h H ι' h' H') {fs : List (Nat × W)} {d : Option Addr} (q : XRep K G ι h H fs d) : XRep K G ι' h' H' fs d := by
  rcases q with q | ⟨dd, gs, e1, e2, e3⟩
  · exact .inl q
  · refine .inr ⟨dd, gs, e1, n.keep _ _ e2 fun l => ?_, e3.next r n⟩
    obtain ⟨o', z, m⟩ := r.mut l
    rw [z] at e2; cases e2; cases m
theorem ExvRep.next (r : HRep K G ι h H) (n : Nx0 ι h H ι' h' H') {w : W} {v : V} (q : ExvRep K G ι h H w v) : ExvRep K G ι' h' H' w v := by
  obtain ⟨c, fs, a, d, e1, e2, e3, e4⟩ := q
  exact ⟨c, fs, a, d, e1, e2, e3, e4.next r n⟩
theorem SRep.next (r : HRep K G ι h H) (n : Nx0 ι h H ι' h' H') {ρ : List (Option W)} {σ : St} (q : SRep K G ι h H ρ σ) : SRep K G ι' h' H' ρ σ := ⟨q.1, fun i w e =>
  let ⟨v, e1, e2⟩ := q.2 i w e
  ⟨v, e1, e2.elim (fun z => .inl (z.next r n)) fun z => .inr (ExvRep.next r n z)⟩⟩
theorem Reps.length : ∀ {ws : List W} {vs : List V}, Reps K G ι h H ws vs → ws.length = vs.length
  | _, _, .nil => rfl
  | _, _, .cons _ b => congrArg Nat.succ (Reps.length b)
theorem Reps.append : ∀ {ws ws' : List W} {vs vs' : List V}, Reps K G ι h H ws vs → Reps K G ι h H ws' vs' → Reps K G ι h H (ws ++ ws') (vs ++ vs')
  | _, _, _, _, .nil, b => b
  | _, _, _, _, .cons a r, b => .cons a (Reps.append r b)
theorem Reps.get : ∀ {ws : List W} {vs : List V} {i : Nat} {w : W}, Reps K G ι h H ws vs → ws[i]? = some w → ∃ v, vs[i]? = some v ∧ Rep K G ι h H w v
  | _, _, _, _, .nil, e => by simp at e
  | _, _, 0, _, .cons a _, e => by simp at e; subst e; exact ⟨_, rfl, a⟩
  | _, _, i + 1, w, .cons _ b, e => by
    obtain ⟨v, h1, h2⟩ := Reps.get (i := i) (w := w) b (by simpa using e)
    exact ⟨v, by simpa using h1, h2⟩
theorem Reps.set {w : W} {v : V} (q : Rep K G ι h H w v) : ∀ {ws : List W} {vs : List V} (i : Nat), Reps K G ι h H ws vs → Reps K G ι h H (ws.set i w) (vs.set i v)
  | _, _, _, .nil => .nil
  | _, _, 0, .cons _ b => .cons q b
  | _, _, i + 1, .cons a b => .cons a (Reps.set q i b)
theorem Reps.take : ∀ {ws : List W} {vs : List V} (n : Nat), Reps K G ι h H ws vs → Reps K G ι h H (ws.take n) (vs.take n)
  | _, _, 0, _ => .nil
  | _, _, _ + 1, .nil => .nil
  | _, _, n + 1, .cons a b => .cons a (Reps.take n b)
theorem Reps.drop : ∀ {ws : List W} {vs : List V} (n : Nat), Reps K G ι h H ws vs → Reps K G ι h H (ws.drop n) (vs.drop n)
  | _, _, 0, q => q
  | _, _, _ + 1, .nil => .nil
  | _, _, n + 1, .cons _ b => Reps.drop n b
/-- a new cell at a new place -/
def ext1 (ι : Nat → Addr) (n : Nat) (p : Addr) : Nat → Addr := fun i => if i = n then p else ι i
theorem ext1_at {ι : Nat → Addr} {n : Nat} {p : Addr} : ext1 ι n p n = p := if_pos rfl
theorem ext1_lt {ι : Nat → Addr} {n i : Nat} {p : Addr} (hi : i < n) : ext1 ι n p i = ι i := if_neg (Nat.ne_of_lt hi)
/-- cells stand on, where the values of the cells do and the objects at live cells' places -/
theorem CellRep.move {a : Addr} {c : Cell} (f : ∀ w v, Rep K G ι h H w v → Rep K G ι' h' H' w v) (fs : ∀ ws vs, Reps K G ι h H ws vs → Reps K G ι' h' H' ws vs) (ff : ∀ ws vs, RepF K G ι h H ws vs → RepF K G ι' h' H' ws vs)
    (e : ∀ o, H a = some o → H' a = some o) (q : CellRep K G ι h H a c) : CellRep K G ι' h' H' a c := by
  cases c with
  | lst xs => obtain ⟨vs, h1, h2⟩ := q; exact ⟨vs, e _ h1, fs _ _ h2⟩
  | dct kvs =>
    rcases q with ⟨qs, e1, e2⟩ | ⟨es, e1, e2⟩
    · exact .inl ⟨qs, e _ e1, L2.Paired.mapP e2 fun p q z => ⟨z.1, f _ _ z.2⟩⟩
    · exact .inr ⟨es, e _ e1, L2.Paired.mapP e2 fun p q ⟨ka, v, z1, z2, z3, z4, z5⟩ => ⟨ka, v, z1, f _ _ z2, z3, z4, f _ _ z5⟩⟩
  | ins c gs => obtain ⟨dx, us, h1, h2⟩ := q; exact ⟨dx, us, e _ h1, ff _ _ h2⟩
  | dead => trivial
theorem Nx0.alloc {p : Addr} {o : HO} {c : Cell} (hp : H p = none) : Nx0 ι h H (ext1 ι h.n p) (h.push c) (upd H p o) where
  ext := fun i hi => ext1_lt hi
  le := Nat.le_succ _
  keep := fun a u e _ => by rw [upd_ne (ne_of_none e hp)]; exact e
  there := fun a e => by
    by_cases q : a = p
    · subst q; exact absurd hp e
    · rw [upd_ne q]; exact e
  new := fun i h1 h2 => by
    have e : i = h.n := Nat.le_antisymm (Nat.le_of_lt_succ h2) h1
    subst e
    rw [ext1_at]; exact hp
  dead := fun i d hi g l => by
    rw [Hz.get_push, if_neg (Nat.ne_of_lt hi)] at g
    exact ⟨d, g, l⟩
theorem HRep.live_some (r : HRep K G ι h H) {a : Addr} (l : LvAt ι h a) : H a ≠ none := by
  obtain ⟨o', z, m⟩ := r.mut l
  rw [z]; simp
theorem Next.alloc (r : HRep K G ι h H) {p : Addr} {o : HO} {c : Cell} (hp : H p = none) (hc : CellRep K G (ext1 ι h.n p) (h.push c) (upd H p o) p c) :
    Next K G ι h H (ext1 ι h.n p) (h.push c) (upd H p o) := by
  have n0 : Nx0 ι h H (ext1 ι h.n p) (h.push c) (upd H p o) := Nx0.alloc hp
  refine ⟨n0, ⟨fun i d g => ?_, fun i j d e gi gj ld le q => ?_, fun a z => n0.there a (r.no a z), fun i d g ld z => ?_⟩⟩
  · rw [Hz.get_push] at g
    by_cases hi : i = h.n
    · rw [if_pos hi] at g
      cases g
      rw [hi, ext1_at]
      exact hc
    · rw [if_neg hi] at g
      rw [ext1_lt (Hz.get_lt g)]
      exact (r.cell i d g).move (fun _ _ => Rep.next r n0) (fun _ _ => Reps.next r n0) (fun _ _ => RepF.next r n0) fun u e => by rw [upd_ne (ne_of_none e hp)]; exact e
  · rw [Hz.get_push] at gi gj
    by_cases hi : i = h.n
    · by_cases hj : j = h.n
      · rw [hi, hj]
      · rw [if_neg hj] at gj
        rw [hi, ext1_at, ext1_lt (Hz.get_lt gj)] at q
        exact absurd (by rw [← q]; exact hp) (r.live_some ⟨j, e, gj, le, rfl⟩)
    · rw [if_neg hi] at gi
      by_cases hj : j = h.n
      · rw [hj, ext1_at, ext1_lt (Hz.get_lt gi)] at q
        exact absurd (by rw [q]; exact hp) (r.live_some ⟨i, d, gi, ld, rfl⟩)
      · rw [if_neg hj] at gj
        rw [ext1_lt (Hz.get_lt gi), ext1_lt (Hz.get_lt gj)] at q
        exact r.inj i j d e gi gj ld le q
  · rw [Hz.get_push] at g
    by_cases hi : i = h.n
    · rw [hi, ext1_at] at z
      exact r.no p z hp
    · rw [if_neg hi] at g
      rw [ext1_lt (Hz.get_lt g)] at z
      exact r.off i d g ld z
theorem Nx0.store {i : Nat} {o : HO} {c d : Cell} (g : h.get i = some d) (ld : d.live = true) : Nx0 ι h H ι (h.put i c) (upd H (ι i) o) where
  ext := fun _ _ => rfl
  le := Nat.le_of_eq (Hz.put_n ..).symm
  keep := fun a u e l => by rw [upd_ne (fun q => l ⟨i, d, g, ld, q.symm⟩)]; exact e
  there := fun a e => by
    by_cases q : a = ι i
    · subst q; rw [upd_same]; simp
    · rw [upd_ne q]; exact e
  new := fun j h1 h2 => by
    rw [Hz.put_n] at h2
    exact absurd (Nat.lt_of_le_of_lt h1 h2) (Nat.lt_irrefl _)
  dead := fun j e hj gj l => by
    by_cases q : j = i
    · subst q; exact ⟨d, g, ld⟩
    · rw [Hz.get_put_ne g q] at gj; exact ⟨e, gj, l⟩
theorem Next.store (r : HRep K G ι h H) {i : Nat} {o : HO} {c d : Cell} (g : h.get i = some d) (ld : d.live = true) (lc : c.live = true) (hc : CellRep K G ι (h.put i c) (upd H (ι i) o) (ι i) c) :
    Next K G ι h H ι (h.put i c) (upd H (ι i) o) := by
  have n0 : Nx0 ι h H ι (h.put i c) (upd H (ι i) o) := Nx0.store g ld
  have old : ∀ j e, (h.put i c).get j = some e → e.live = true → ∃ e', h.get j = some e' ∧ e'.live = true := fun j e gj l => n0.dead j e (by have := Hz.get_lt gj; rw [Hz.put_n] at this; exact this) gj l
  refine ⟨n0, ⟨fun j e gj => ?_, fun j k e f gj gk le lf q => ?_, fun a z => n0.there a (r.no a z), fun j e gj le z => ?_⟩⟩
  · by_cases q : j = i
    · subst q
      rw [Hz.get_put_self g] at gj
      cases gj
      exact hc
    · rw [Hz.get_put_ne g q] at gj
      cases le : e.live with
      | false => cases e <;> first | trivial | cases le
      | true =>
        refine (r.cell j e gj).move (fun _ _ => Rep.next r n0) (fun _ _ => Reps.next r n0) (fun _ _ => RepF.next r n0) fun u z => ?_
        rw [upd_ne (fun z' => q (r.inj j i e d gj g le ld z'))]; exact z
  · obtain ⟨e', ge, le'⟩ := old j e gj le
    obtain ⟨f', gf, lf'⟩ := old k f gk lf
    exact r.inj j k e' f' ge gf le' lf' q
  · obtain ⟨e', ge, le'⟩ := old j e gj le
    exact r.off j e' ge le' z
theorem Next.freeze (r : HRep K G ι h H) {i : Nat} {d : Cell} (g : h.get i = some d) : Next K G ι h H ι (h.put i .dead) H := by
  have n0 : Nx0 ι h H ι (h.put i .dead) H := ⟨fun _ _ => rfl, Nat.le_of_eq (Hz.put_n ..).symm, fun _ _ e _ => e, fun _ e => e, fun j h1 h2 => by
      rw [Hz.put_n] at h2
      exact absurd (Nat.lt_of_le_of_lt h1 h2) (Nat.lt_irrefl _), fun j e hj gj l => by
      by_cases q : j = i
      · subst q; rw [Hz.get_put_self g] at gj; cases gj; cases l
      · rw [Hz.get_put_ne g q] at gj; exact ⟨e, gj, l⟩⟩
  refine ⟨n0, ⟨fun j e gj => ?_, fun j k e f gj gk le lf q => ?_, r.no, fun j e gj le z => ?_⟩⟩
  · by_cases q : j = i
    · subst q
      rw [Hz.get_put_self g] at gj
      cases gj
      trivial
    · rw [Hz.get_put_ne g q] at gj
      exact (r.cell j e gj).move (fun _ _ => Rep.next r n0) (fun _ _ => Reps.next r n0) (fun _ _ => RepF.next r n0) fun u z => z
  · have nj : j ≠ i := fun z => by subst z; rw [Hz.get_put_self g] at gj; cases gj; cases le
    have nk : k ≠ i := fun z => by subst z; rw [Hz.get_put_self g] at gk; cases gk; cases lf
    rw [Hz.get_put_ne g nj] at gj
    rw [Hz.get_put_ne g nk] at gk
    exact r.inj j k e f gj gk le lf q
  · have nj : j ≠ i := fun z => by subst z; rw [Hz.get_put_self g] at gj; cases gj; cases le
    rw [Hz.get_put_ne g nj] at gj
    exact r.off j e gj le z
theorem Rep.frozen (r : HRep K G ι h H) {i c : Nat} {fs : List (Nat × W)} (g : h.get i = some (.ins c fs)) : Rep K G ι (h.put i .dead) H (.obj c fs) (.ref (ι i)) := by
  obtain ⟨dx, gs, e, q⟩ := r.cell i _ g
  refine .obj e ?_ (r.off i _ g rfl) (RepF.next r (Next.freeze r g).toNx0 q)
  rintro ⟨j, d, gj, ld, ej⟩
  have nj : j ≠ i := fun z => by subst z; rw [Hz.get_put_self g] at gj; cases gj; cases ld
  rw [Hz.get_put_ne g nj] at gj
  exact nj (r.inj j i d _ gj g ld rfl ej)
/-- what is laid beside (a tuple, an error's dict ..) changes nothing -/
theorem Next.beside (r : HRep K G ι h H) {p : Addr} {o : HO} (hp : H p = none) : Next K G ι h H ι h (upd H p o) := by
  have n0 : Nx0 ι h H ι h (upd H p o) := ⟨fun _ _ => rfl, Nat.le_refl _, fun a u e _ => by rw [upd_ne (ne_of_none e hp)]; exact e, fun a e => by
      by_cases q : a = p
      · subst q; exact absurd hp e
      · rw [upd_ne q]; exact e, fun i a b => absurd (Nat.lt_of_le_of_lt a b) (Nat.lt_irrefl _), fun i c _ e l => ⟨c, e, l⟩⟩
  exact ⟨n0, ⟨fun i d g => (r.cell i d g).move (fun _ _ => Rep.next r n0) (fun _ _ => Reps.next r n0) (fun _ _ => RepF.next r n0) fun u e => by rw [upd_ne (ne_of_none e hp)]; exact e, r.inj, fun a z => n0.there a (r.no a z), r.off⟩⟩
end
end Z

set_option Elab.async false
set_option linter.all false
set_option maxRecDepth 100000
set_option maxHeartbeats 1000000
namespace Z
open PySem L2
open PyProof.Rows hiding St
set_option autoImplicit false

def Tk (b : Bool) (s : Shared) : Prop := b = true → 1 ≤ s.toks
theorem Tk.mono {b : Bool} {s s' : Shared} (t : Tk b s) (h : s.toks ≤ s'.toks) : Tk b s' := fun e => Nat.le_trans (t e) h

/-- what lies where a value of the evaluator lies -/
abbrev RP (α β : Type) := (Nat → Addr) → Hz → Hp → α → β → Prop
abbrev rpW (K : PySem.W.Frag) (G : Gt) : RP W V := fun ι h H => Rep K G ι h H
abbrev rpWs (K : PySem.W.Frag) (G : Gt) : RP (List W) (List V) := fun ι h H => Reps K G ι h H
abbrev rpE {α : Type} : RP α α := fun _ _ _ x y => x = y

section
variable (K : PySem.W.Frag) (G : Gt) (Wf : WX) (σ : St)
/-- what is wanted behind a run of the evaluator -/
def Aft {α β : Type} (P : RP α β) (ι : Nat → Addr) (h : Hz) (H : Hp) (r : R α) (Q : β → Hp → Prop) : Prop := match r with
  | .ok w h' => ∀ ι' H' v, Next K G ι h H ι' h' H' → P ι' h' H' w v → Q v H'
  | .exc c fs h' => ∀ ι' H' d, Next K G ι h H ι' h' H' → XRep K G ι' h' H' fs d → Wf (.ref (G.cl c)) d σ H'
  | .err => False
end
section
variable {K : PySem.W.Frag} {G : Gt} {Wf : WX} {σ : St} {α β γ δ : Type} {P : RP α β} {P' : RP γ δ} {ι ι1 : Nat → Addr} {h h1 : Hz} {H H1 : Hp}
theorem Aft.step {r : R α} {Q : β → Hp → Prop} (a : Aft K G Wf σ P ι h H r Q) (n : Next K G ι h H ι1 h1 H1) : Aft K G Wf σ P ι1 h1 H1 r Q := by
  cases r with
  | ok w h' => exact fun ι' H' v n' p => a ι' H' v (n.trans n') p
  | exc c fs h' => exact fun ι' H' d n' q => a ι' H' d (n.trans n') q
  | err => exact a
theorem Aft.bnd {m : M α} {k : α → M γ} {Q : δ → Hp → Prop} (a : Aft K G Wf σ P' ι h H (bnd m k h) Q) :
    Aft K G Wf σ P ι h H (m h) fun v H1 => ∃ ι1 h1 w, Next K G ι h H ι1 h1 H1 ∧ P ι1 h1 H1 w v ∧ Aft K G Wf σ P' ι1 h1 H1 (k w h1) Q := by
  unfold Z.bnd at a
  cases e : m h with
  | ok w h' =>
    rw [e] at a
    exact fun ι' H' v n p => ⟨ι', h', w, n, p, Aft.step a n⟩
  | exc c fs h' =>
    rw [e] at a
    exact a
  | err =>
    rw [e] at a
    exact a
theorem Aft.ret {w : α} {v : β} {Q : β → Hp → Prop} (a : Aft K G Wf σ P ι h H (Z.ret w h) Q) (r : HRep K G ι h H) (p : P ι h H w v) : Q v H := a ι H v (Next.refl r) p
theorem Aft.imp {r : R α} {Q Q' : β → Hp → Prop} (a : Aft K G Wf σ P ι h H r Q) (f : ∀ v H, Q v H → Q' v H) : Aft K G Wf σ P ι h H r Q' := by
  cases r with
  | ok w h' => exact fun ι' H' v n p => f _ _ (a ι' H' v n p)
  | exc c fs h' => exact a
  | err => exact a
end

abbrev Ev := List (Option W)
/-- e does what m does -/
structure PZ (b : Bool) (X : Cx) (G : Gt) (Wf : WX) (e : Expr) (m : Ev → M W) : Prop where
  run : ∀ (pins : List (Addr × Obj)) (s : Shared) (σ : St) (H : Hp) (ι : Nat → Addr) (h : Hz) (ρ : Ev) (Q : VK), Tk b s → Inv X pins σ H s → HRep X.K G ι h H → SRep X.K G ι h H ρ σ → Aft X.K G Wf σ (rpW X.K G) ι h H (m ρ h) Q →
    wpAny (model X.prog X.w) X.A (eval e X.env) (fun u s' => Tk b s' ∧ EP X pins σ Q u s') X.xe s
structure PZT (b : Bool) (X : Cx) (G : Gt) (Wf : WX) (e : Expr) (m : Ev → M Bool) : Prop where
  run : ∀ (pins : List (Addr × Obj)) (s : Shared) (σ : St) (H : Hp) (ι : Nat → Addr) (h : Hz) (ρ : Ev) (Q : Bool → Hp → Prop) (whole : Sem Value), whole = eval e X.env → Tk b s → Inv X pins σ H s → HRep X.K G ι h H → SRep X.K G ι h H ρ σ → Aft X.K G Wf σ rpE ι h H (m ρ h) Q →
    wpAny (model X.prog X.w) X.A (isTrue e X.env whole) (fun u s' => Tk b s' ∧ TP X pins σ Q u s') X.xe s
structure PZA (b : Bool) (X : Cx) (G : Gt) (Wf : WX) (es : List Expr) (m : Ev → M (List W)) : Prop where
  run : ∀ (pos : Pos) (pins : List (Addr × Obj)) (s : Shared) (σ : St) (H : Hp) (ι : Nat → Addr) (h : Hz) (ρ : Ev) (Q : List V → Hp → Prop), Tk b s → Inv X pins σ H s → HRep X.K G ι h H → SRep X.K G ι h H ρ σ → Aft X.K G Wf σ (rpWs X.K G) ι h H (m ρ h) Q →
    wpAny (model X.prog X.w) X.A (spliced (backTo pos (starEach es X.env))) (fun u s' => Tk b s' ∧ AP X pins σ Q u s') X.xe s

section
variable {b : Bool} {X : Cx} {G : Gt} {Wf : WX} {e a c d : Expr} {m ma mc md : Ev → M W} {pos : Pos}
theorem withTk {α : Type} {t : Sem α} {Q : α → Shared → Prop} {E : Value → Shared → Prop} {M : Model} {A : Around} {s : Shared} (tk : Tk b s) (h : wpAny M A t Q E s) : wpAny M A t (fun a s' => Tk b s' ∧ Q a s') E s :=
  wpAny_mono (wpAny_toks h) (fun _ _ q => ⟨tk.mono q.1, q.2⟩) fun _ _ q => q.2
/-- from the layer's judgement -/
theorem PZ.of {t : TE} (hp : PE X e t) (f : ∀ σ H ι h ρ Q, HRep X.K G ι h H → SRep X.K G ι h H ρ σ → Aft X.K G Wf σ (rpW X.K G) ι h H (m ρ h) Q → t σ H Q) : PZ b X G Wf e m :=
  ⟨fun pins s σ H ι h ρ Q tk I r sr a => withTk tk (hp.run pins s σ H Q I (f σ H ι h ρ Q r sr a))⟩
/-- to the layer's judgement -/
def tZ (K : PySem.W.Frag) (G : Gt) (Wf : WX) (m : Ev → M W) : TE := fun σ H Q => ∃ ι h ρ, HRep K G ι h H ∧ SRep K G ι h H ρ σ ∧ Aft K G Wf σ (rpW K G) ι h H (m ρ h) Q
theorem PZ.pe (p : PZ false X G Wf e m) : PE X e (tZ X.K G Wf m) := ⟨fun pins s σ H Q I ⟨ι, h, ρ, r, sr, a⟩ => thn (p.run pins s σ H ι h ρ Q (fun z => nomatch z) I r sr a) fun _ _ q => q.2⟩

def zvar (i : Nat) : Ev → M W := fun ρ => match ρ.getD i none with
  | some (.exv _ _) => bad
  | some w => ret w
  | none => bad
theorem getD_some {ρ : Ev} {i : Nat} {w : W} (e : ρ.getD i none = some w) : ρ[i]? = some (some w) := by
  rw [List.getD_eq_getElem?_getD] at e
  cases q : ρ[i]? with
  | none => rw [q] at e; cases e
  | some o =>
    rw [q] at e
    have : o = some w := e
    rw [this]
theorem pz_var {i : Nat} {x : Str} (hN : X.N[i]? = some x) (hv : Vis X.env.scope x) (hd : (x == ("__debug__" : Str)) = false) (hcd : (x == ("__classdict__" : Str)) = false) : PZ b X G Wf (.Name x pos) (zvar i) := by
  refine PZ.of (pe_var hN hv hd hcd) fun σ H ι h ρ Q r sr a => ?_
  unfold zvar at a
  cases q : ρ.getD i none with
  | none => rw [q] at a; exact False.elim a
  | some w =>
    rw [q] at a
    obtain ⟨v, e1, e2⟩ := sr.2 i w (getD_some q)
    refine ⟨v, e1, ?_⟩
    rcases e2 with e2 | ⟨c, fs, ad, d, ew, _⟩
    · cases w with
      | exv c fs => cases e2
      | _ => exact a.ret r e2
    · subst ew
      exact False.elim a
theorem pz_c {t : V} {w : W} (hp : PE X e (tC t)) (hr : ∀ ι h H, HRep X.K G ι h H → Rep X.K G ι h H w t) : PZ b X G Wf e (fun _ => ret w) :=
  PZ.of hp fun σ H ι h ρ Q r sr a => a.ret r (hr ι h H r)
theorem pz_int {i : Int} {j : Nat} : PZ b X G Wf (.Constant (.int i) j pos) (fun _ => ret (.int i)) := pz_c pe_int fun _ _ _ _ => .int i
theorem pz_bl {k : Bool} {j : Nat} : PZ b X G Wf (.Constant (.bool k) j pos) (fun _ => ret (.bl k)) := pz_c pe_bl fun _ _ _ _ => .bl k
theorem pz_non {j : Nat} : PZ b X G Wf (.Constant .none j pos) (fun _ => ret .non) := pz_c pe_non fun _ _ _ _ => .non
theorem pz_str {x : Str} {z : List Nat} {j : Nat} (e : x = ⟨z.toArray⟩) : PZ b X G Wf (.Constant (.str x) j pos) (fun _ => ret (.str z)) := pz_c pe_str fun _ _ _ _ => by rw [e]; exact .str z

/-- F on values does what f does -/
def OpZ (X : Cx) (G : Gt) (Wf : WX) (F : Value → Value → Sem Value) (f : W → W → M W) : Prop :=
  ∀ (pins : List (Addr × Obj)) (s : Shared) (σ : St) (H : Hp) (ι : Nat → Addr) (h : Hz) (x y : W) (v1 v2 : V) (u1 u2 : Value) (Q : VK), Inv X pins σ H s → HRep X.K G ι h H → Rep X.K G ι h H x v1 → Rep X.K G ι h H y v2 → RelV v1 u1 → RelV v2 u2 →
    Aft X.K G Wf σ (rpW X.K G) ι h H (f x y h) Q → wpAny (model X.prog X.w) X.A (F u1 u2) (EP X pins σ Q) X.xe s
theorem OpZ.of {F : Value → Value → Sem Value} {f : W → W → M W} {r : R2} (ho : OpR X F r)
    (g : ∀ σ H ι h x y v1 v2 Q, HRep X.K G ι h H → Rep X.K G ι h H x v1 → Rep X.K G ι h H y v2 → Aft X.K G Wf σ (rpW X.K G) ι h H (f x y h) Q → r v1 v2 H Q) : OpZ X G Wf F f :=
  fun pins s σ H ι h x y v1 v2 u1 u2 Q I rp p1 p2 r1 r2 a => ho pins s σ H v1 v2 u1 u2 Q I r1 r2 (g σ H ι h x y v1 v2 Q rp p1 p2 a)
def zbin (f : W → W → M W) (ma mc : Ev → M W) : Ev → M W := fun ρ => bnd (ma ρ) fun x => bnd (mc ρ) fun y => f x y
/-- two expressions in a row, then F -/
theorem two {F : Value → Value → Sem Value} {f : W → W → M W} (ho : OpZ X G Wf F f) (ha : PZ b X G Wf a ma) (hc : PZ b X G Wf c mc)
    {pins : List (Addr × Obj)} {s : Shared} {σ : St} {H : Hp} {ι : Nat → Addr} {h : Hz} {ρ : Ev} {Q : VK} (tk : Tk b s) (I : Inv X pins σ H s) (r : HRep X.K G ι h H) (sr : SRep X.K G ι h H ρ σ) (aft : Aft X.K G Wf σ (rpW X.K G) ι h H (zbin f ma mc ρ h) Q) :
    wpAny (model X.prog X.w) X.A (eval a X.env) (fun v s1 => wpAny (model X.prog X.w) X.A (eval c X.env) (fun u s2 => wpAny (model X.prog X.w) X.A (F v u) (fun z s' => Tk b s' ∧ EP X pins σ Q z s') X.xe s2) X.xe s1) X.xe s := by
  refine thn (ha.run pins s σ H ι h ρ _ tk I r sr (aft.bnd (P := rpW X.K G))) fun v s1 ⟨tk1, v1, H1, I1, r1, ι1, h1, w1, n1, p1, a1⟩ => ?_
  refine thn (hc.run pins s1 σ H1 ι1 h1 ρ _ tk1 I1 n1.rep (sr.next r n1.toNx0) (a1.bnd (P := rpW X.K G))) fun u s2 ⟨tk2, v2, H2, I2, r2, ι2, h2, w2, n2, p2, a2⟩ => ?_
  exact withTk tk2 (ho pins s2 σ H2 ι2 h2 w1 w2 v1 v2 v u Q I2 n2.rep (Rep.next n1.rep n2.toNx0 p1) p2 r1 r2 a2)
theorem pz_bin {op : Operator} {f : W → W → M W} (ho : OpZ X G Wf (binaryOp op) f) (ha : PZ b X G Wf a ma) (hc : PZ b X G Wf c mc) : PZ b X G Wf (.BinOp a op c pos) (zbin f ma mc) :=
  ⟨fun pins s σ H ι h ρ Q tk I r sr aft => wpAny_BinOp (two ho ha hc tk I r sr aft)⟩
theorem pz_cmp {op : CmpOp} {f : W → W → M W} (ho : OpZ X G Wf (compareOp op) f) (ha : PZ b X G Wf a ma) (hc : PZ b X G Wf c mc) (hm : behindInMarks op c = false) : PZ b X G Wf (.Compare a [op] [c] pos) (zbin f ma mc) :=
  ⟨fun pins s σ H ι h ρ Q tk I r sr aft => wpAny_Compare1 (two ho ha hc tk I r sr aft) hm⟩
/-- one operand -/
def UnZ (X : Cx) (G : Gt) (Wf : WX) (F : Value → Sem Value) (f : W → M W) : Prop :=
  ∀ (pins : List (Addr × Obj)) (s : Shared) (σ : St) (H : Hp) (ι : Nat → Addr) (h : Hz) (x : W) (v1 : V) (u1 : Value) (Q : VK), Inv X pins σ H s → HRep X.K G ι h H → Rep X.K G ι h H x v1 → RelV v1 u1 →
    Aft X.K G Wf σ (rpW X.K G) ι h H (f x h) Q → wpAny (model X.prog X.w) X.A (F u1) (EP X pins σ Q) X.xe s
def zun (f : W → M W) (ma : Ev → M W) : Ev → M W := fun ρ => bnd (ma ρ) f
theorem pz_un {op : UnaryOp} {f : W → M W} (ho : UnZ X G Wf (unaryOp op) f) (ha : PZ b X G Wf a ma) : PZ b X G Wf (.UnaryOp op a pos) (zun f ma) := by
  refine ⟨fun pins s σ H ι h ρ Q tk I r sr aft => ?_⟩
  refine UnaryOp_ (thn (ha.run pins s σ H ι h ρ _ tk I r sr (aft.bnd (P := rpW X.K G))) fun v s1 ⟨tk1, v1, H1, I1, r1, ι1, h1, w1, n1, p1, a1⟩ => ?_)
  exact withTk tk1 (ho pins s1 σ H1 ι1 h1 w1 v1 v Q I1 n1.rep p1 r1 a1)

def zasB (w : W) : M Bool := match w with
  | .bl k => ret k
  | _ => bad
def ztest (ma : Ev → M W) : Ev → M Bool := fun ρ => bnd (ma ρ) zasB
theorem asB_after {σ : St} {ι : Nat → Addr} {h : Hz} {H : Hp} {w : W} {v : V} {Q : Bool → Hp → Prop} (r : HRep X.K G ι h H) (p : Rep X.K G ι h H w v) (a : Aft X.K G Wf σ rpE ι h H (zasB w h) Q) : ∃ k, v = .bl k ∧ Q k H := by
  cases p with
  | bl k => exact ⟨k, rfl, a.ret r rfl⟩
  | _ => exact False.elim a
/-- an expression whose test is its value's truth -/
def Plain (e : Expr) (env : Env) : Prop := ∀ whole, isTrue e env whole = (do let v ← whole; standAt e.pos; holding [v] (truthy v))
theorem pzt_val (ha : PZ b X G Wf a ma) (he : Plain a X.env) : PZT b X G Wf a (ztest ma) := by
  refine ⟨fun pins s σ H ι h ρ Q whole hw tk I r sr aft => ?_⟩
  subst hw
  refine isTrue_plain (thn (ha.run pins s σ H ι h ρ _ tk I r sr (aft.bnd (P := rpW X.K G))) fun v s1 ⟨tk1, v1, H1, I1, r1, ι1, h1, w1, n1, p1, a1⟩ => ?_) (he _)
  obtain ⟨k, e1, q⟩ := asB_after n1.rep p1 a1
  subst e1
  cases r1
  exact wpAny_truthy_bool ⟨tk1, H1, I1, q⟩
theorem pzt_cmp {op : CmpOp} {f : W → W → M W} (ho : OpZ X G Wf (compareOp op) f) (ha : PZ b X G Wf a ma) (hc : PZ b X G Wf c mc) (hm : behindInMarks op c = false) : PZT b X G Wf (.Compare a [op] [c] pos) (ztest (zbin f ma mc)) := by
  refine ⟨fun pins s σ H ι h ρ Q whole hw tk I r sr aft => ?_⟩
  refine wpAny_isTrue_Compare1 (thn (two (Q := fun v H => ∃ k, v = .bl k ∧ Q k H) ho ha hc tk I r sr ?_) fun v s1 q1 => thn q1 fun u s2 q2 => thn q2 fun z s3 ⟨tk3, v3, H3, I3, r3, k, e1, q⟩ => ?_) hm
  · exact (aft.bnd (P := rpW X.K G)).imp fun v H1 ⟨ι1, h1, w1, n1, p1, a1⟩ => asB_after n1.rep p1 a1
  · subst e1
    cases r3
    exact wpAny_truthy_bool ⟨tk3, H3, I3, q⟩
/-- a op1 b op2 c -/
def zchain (f g : W → W → M W) (ma mc md : Ev → M W) : Ev → M W := fun ρ => bnd (ma ρ) fun x => bnd (mc ρ) fun y => bnd (f x y) fun z => bnd (zasB z) fun k => if k = true then bnd (md ρ) fun w => g y w else ret (.bl false)
theorem pz_chain {op op' : CmpOp} {f g : W → W → M W} (ho : OpZ X G Wf (compareOp op) f) (ho' : OpZ X G Wf (compareOp op') g) (ha : PZ b X G Wf a ma) (hc : PZ b X G Wf c mc) (hd : PZ b X G Wf d md)
    (hm : lastMarks [op, op'] [c, d] = false) : PZ b X G Wf (.Compare a [op, op'] [c, d] pos) (zchain f g ma mc md) := by
  refine ⟨fun pins s σ H ι h ρ Q tk I r sr aft => ?_⟩
  refine Compare_chain (thn (ha.run pins s σ H ι h ρ _ tk I r sr (aft.bnd (P := rpW X.K G))) fun v s1 ⟨tk1, v1, H1, I1, r1, ι1, h1, w1, n1, p1, a1⟩ => chain_link
    (thn (hc.run pins s1 σ H1 ι1 h1 ρ _ tk1 I1 n1.rep (sr.next r n1.toNx0) (a1.bnd (P := rpW X.K G))) fun u s2 ⟨tk2, v2, H2, I2, r2, ι2, h2, w2, n2, p2, a2⟩ =>
      thn (withTk tk2 (ho pins s2 σ H2 ι2 h2 w1 w2 v1 v2 v u _ I2 n2.rep (Rep.next n1.rep n2.toNx0 p1) p2 r1 r2 (a2.bnd (P := rpW X.K G)))) fun z s3 ⟨tk3, v3, H3, I3, r3, ι3, h3, w3, n3, p3, a3⟩ => ?_)) hm
  obtain ⟨k, e1, q⟩ := asB_after n3.rep p3 (a3.bnd (P := rpE))
  subst e1
  cases r3
  obtain ⟨ι4, h4, k', n4, ek, a4⟩ := q
  subst ek
  refine wpAny_truthy_bool ?_
  have sr4 := ((sr.next r n1.toNx0).next n1.rep n2.toNx0).next n2.rep (n3.trans n4).toNx0
  cases k' with
  | false => exact ite_ff ⟨tk3, .bl false, H3, I3, rfl, a4.ret n4.rep (.bl false)⟩
  | true =>
    refine ite_tt (chain_last (thn (hd.run pins s3 σ H3 ι4 h4 ρ _ tk3 I3 n4.rep sr4 (Aft.bnd (P := rpW X.K G) a4)) fun w' s5 ⟨tk5, v5, H5, I5, r5, ι5, h5, w5, n5, p5, a5⟩ => ?_))
    exact withTk tk5 (ho' pins s5 σ H5 ι5 h5 w2 w5 v2 v5 u w' Q I5 n5.rep (Rep.next n2.rep ((n3.trans n4).trans n5).toNx0 p2) p5 r2 r5 a5)
theorem pzt_chain {op op' : CmpOp} {f g : W → W → M W} (ho : OpZ X G Wf (compareOp op) f) (ho' : OpZ X G Wf (compareOp op') g) (ha : PZ b X G Wf a ma) (hc : PZ b X G Wf c mc) (hd : PZ b X G Wf d md)
    (hm : lastMarks [op, op'] [c, d] = false) : PZT b X G Wf (.Compare a [op, op'] [c, d] pos) (ztest (zchain f g ma mc md)) := by
  refine ⟨fun pins s σ H ι h ρ Q whole hw tk I r sr aft => ?_⟩
  have aft : Aft X.K G Wf σ (rpW X.K G) ι h H (zchain f g ma mc md ρ h) (fun v H => ∃ k, v = .bl k ∧ Q k H) := (aft.bnd (P := rpW X.K G)).imp fun v H1 ⟨ι1, h1, w1, n1, p1, a1⟩ => asB_after n1.rep p1 a1
  refine isTrue_chain (thn (ha.run pins s σ H ι h ρ _ tk I r sr (aft.bnd (P := rpW X.K G))) fun v s1 ⟨tk1, v1, H1, I1, r1, ι1, h1, w1, n1, p1, a1⟩ => test_link
    (thn (hc.run pins s1 σ H1 ι1 h1 ρ _ tk1 I1 n1.rep (sr.next r n1.toNx0) (a1.bnd (P := rpW X.K G))) fun u s2 ⟨tk2, v2, H2, I2, r2, ι2, h2, w2, n2, p2, a2⟩ =>
      thn (withTk tk2 (ho pins s2 σ H2 ι2 h2 w1 w2 v1 v2 v u _ I2 n2.rep (Rep.next n1.rep n2.toNx0 p1) p2 r1 r2 (a2.bnd (P := rpW X.K G)))) fun z s3 ⟨tk3, v3, H3, I3, r3, ι3, h3, w3, n3, p3, a3⟩ => ?_)) hm
  obtain ⟨k, e1, q⟩ := asB_after n3.rep p3 (a3.bnd (P := rpE))
  subst e1
  cases r3
  obtain ⟨ι4, h4, k', n4, ek, a4⟩ := q
  subst ek
  refine wpAny_truthy_bool ?_
  have sr4 := ((sr.next r n1.toNx0).next n1.rep n2.toNx0).next n2.rep (n3.trans n4).toNx0
  cases k' with
  | false =>
    obtain ⟨k2, e2, q2⟩ := Aft.ret a4 n4.rep (.bl false)
    cases e2
    exact ite_ff ⟨tk3, H3, I3, q2⟩
  | true =>
    refine ite_tt (test_last (thn (hd.run pins s3 σ H3 ι4 h4 ρ _ tk3 I3 n4.rep sr4 (Aft.bnd (P := rpW X.K G) a4)) fun w' s5 ⟨tk5, v5, H5, I5, r5, ι5, h5, w5, n5, p5, a5⟩ => ?_))
    refine thn (withTk tk5 (ho' pins s5 σ H5 ι5 h5 w2 w5 v2 v5 u w' _ I5 n5.rep (Rep.next n2.rep ((n3.trans n4).trans n5).toNx0 p2) p5 r2 r5 a5)) fun z2 s6 ⟨tk6, v6, H6, I6, r6, k2, e2, q2⟩ => ?_
    subst e2
    cases r6
    exact wpAny_truthy_bool ⟨tk6, H6, I6, q2⟩
end
end Z

set_option Elab.async false
set_option linter.all false
set_option maxRecDepth 100000
set_option maxHeartbeats 1000000
set_option autoImplicit false
namespace Z
open PySem L2
open PyProof.Rows hiding St

/-- a test whatever its whole is -/
structure PZW (b : Bool) (X : Cx) (G : Gt) (Wf : WX) (e : Expr) (m : Ev → M Bool) : Prop where
  run : ∀ (pins : List (Addr × Obj)) (s : Shared) (σ : St) (H : Hp) (ι : Nat → Addr) (h : Hz) (ρ : Ev) (Q : Bool → Hp → Prop) (whole : Sem Value), Tk b s → Inv X pins σ H s → HRep X.K G ι h H → SRep X.K G ι h H ρ σ → Aft X.K G Wf σ rpE ι h H (m ρ h) Q →
    wpAny (model X.prog X.w) X.A (isTrue e X.env whole) (fun u s' => Tk b s' ∧ TP X pins σ Q u s') X.xe s
section
variable {b : Bool} {X : Cx} {G : Gt} {Wf : WX} {e a c d : Expr} {m ma mc md : Ev → M W} {na nc nd : Ev → M Bool} {rest : List Expr} {pos : Pos}
theorem PZW.t (h : PZW b X G Wf e na) : PZT b X G Wf e na := ⟨fun pins s σ H ι h' ρ Q whole _ tk I r sr aft => h.run pins s σ H ι h' ρ Q whole tk I r sr aft⟩
def zand (na nc : Ev → M Bool) : Ev → M Bool := fun ρ => bnd (na ρ) fun k => if k = true then nc ρ else ret false
def zor (na nc : Ev → M Bool) : Ev → M Bool := fun ρ => bnd (na ρ) fun k => if k = true then ret true else nc ρ
def znot (na : Ev → M Bool) : Ev → M Bool := fun ρ => bnd (na ρ) fun k => ret (!k)
theorem pzw_and1 (ha : PZT b X G Wf a na) : PZW b X G Wf (.BoolOp .And [a] pos) na := by
  refine ⟨fun pins s σ H ι h ρ Q whole tk I r sr aft => ?_⟩
  refine isTrue_and (thn (ha.run pins s σ H ι h ρ Q _ rfl tk I r sr aft) fun k s1 q => ?_)
  cases k with
  | true => exact isTrue_and_nil q
  | false => exact q
theorem pzw_or1 (ha : PZT b X G Wf a na) : PZW b X G Wf (.BoolOp .Or [a] pos) na := by
  refine ⟨fun pins s σ H ι h ρ Q whole tk I r sr aft => ?_⟩
  refine isTrue_or (thn (ha.run pins s σ H ι h ρ Q _ rfl tk I r sr aft) fun k s1 q => ?_)
  cases k with
  | true => exact q
  | false => exact isTrue_or_nil q
theorem pzw_and (ha : PZT b X G Wf a na) (hc : PZW b X G Wf (.BoolOp .And (c :: rest) pos) nc) : PZW b X G Wf (.BoolOp .And (a :: c :: rest) pos) (zand na nc) := by
  refine ⟨fun pins s σ H ι h ρ Q whole tk I r sr aft => ?_⟩
  refine isTrue_and (thn (ha.run pins s σ H ι h ρ _ _ rfl tk I r sr (aft.bnd (P := rpE))) fun k s1 ⟨tk1, H1, I1, ι1, h1, k', n1, ek, a1⟩ => ?_)
  cases ek
  cases k with
  | true => exact hc.run pins s1 σ H1 ι1 h1 ρ Q whole tk1 I1 n1.rep (sr.next r n1.toNx0) a1
  | false => exact ⟨tk1, H1, I1, Aft.ret (P := rpE) a1 n1.rep rfl⟩
theorem pzw_or (ha : PZT b X G Wf a na) (hc : PZW b X G Wf (.BoolOp .Or (c :: rest) pos) nc) : PZW b X G Wf (.BoolOp .Or (a :: c :: rest) pos) (zor na nc) := by
  refine ⟨fun pins s σ H ι h ρ Q whole tk I r sr aft => ?_⟩
  refine isTrue_or (thn (ha.run pins s σ H ι h ρ _ _ rfl tk I r sr (aft.bnd (P := rpE))) fun k s1 ⟨tk1, H1, I1, ι1, h1, k', n1, ek, a1⟩ => ?_)
  cases ek
  cases k with
  | false => exact hc.run pins s1 σ H1 ι1 h1 ρ Q whole tk1 I1 n1.rep (sr.next r n1.toNx0) a1
  | true => exact ⟨tk1, H1, I1, Aft.ret (P := rpE) a1 n1.rep rfl⟩
theorem pzt_not (ha : PZT b X G Wf a na) : PZT b X G Wf (.UnaryOp .Not a pos) (znot na) := by
  refine ⟨fun pins s σ H ι h ρ Q whole hw tk I r sr aft => ?_⟩
  have q := ha.run pins s σ H ι h ρ _ _ rfl tk I r sr (aft.bnd (P := rpE))
  refine isTrue_not (thn q fun k s1 ⟨tk1, H1, I1, ι1, h1, k', n1, ek, a1⟩ => ?_)
  cases ek
  exact ⟨tk1, H1, I1, Aft.ret (P := rpE) a1 n1.rep rfl⟩
def zandV (ma mc : Ev → M W) : Ev → M W := fun ρ => bnd (ma ρ) fun x => bnd (zasB x) fun k => if k = true then mc ρ else ret (.bl false)
def zorV (ma mc : Ev → M W) : Ev → M W := fun ρ => bnd (ma ρ) fun x => bnd (zasB x) fun k => if k = true then ret (.bl true) else mc ρ
def znotV (x : W) : M W := bnd (zasB x) fun k => ret (.bl (!k))
theorem pz_one {op : BoolOp} (ha : PZ b X G Wf a ma) : PZ b X G Wf (.BoolOp op [a] pos) ma := ⟨fun pins s σ H ι h ρ Q tk I r sr aft => BoolOp_one (ha.run pins s σ H ι h ρ Q tk I r sr aft)⟩
theorem pz_and (ha : PZ b X G Wf a ma) (hc : PZ b X G Wf (.BoolOp .And (c :: rest) pos) mc) : PZ b X G Wf (.BoolOp .And (a :: c :: rest) pos) (zandV ma mc) := by
  refine ⟨fun pins s σ H ι h ρ Q tk I r sr aft => ?_⟩
  refine BoolOp_and (thn (ha.run pins s σ H ι h ρ _ tk I r sr (aft.bnd (P := rpW X.K G))) fun v s1 ⟨tk1, v1, H1, I1, r1, ι1, h1, w1, n1, p1, a1⟩ => ?_)
  obtain ⟨k, e1, ι2, h2, k', n2, ek, a2⟩ := asB_after n1.rep p1 (a1.bnd (P := rpE))
  subst e1
  cases r1
  cases ek
  refine wpAny_truthy_bool ?_
  cases k with
  | true => exact hc.run pins s1 σ H1 ι2 h2 ρ Q tk1 I1 n2.rep (sr.next r (n1.trans n2).toNx0) a2
  | false => exact ⟨tk1, .bl false, H1, I1, rfl, Aft.ret (P := rpW X.K G) a2 n2.rep (.bl false)⟩
theorem pz_or (ha : PZ b X G Wf a ma) (hc : PZ b X G Wf (.BoolOp .Or (c :: rest) pos) mc) : PZ b X G Wf (.BoolOp .Or (a :: c :: rest) pos) (zorV ma mc) := by
  refine ⟨fun pins s σ H ι h ρ Q tk I r sr aft => ?_⟩
  refine BoolOp_or (thn (ha.run pins s σ H ι h ρ _ tk I r sr (aft.bnd (P := rpW X.K G))) fun v s1 ⟨tk1, v1, H1, I1, r1, ι1, h1, w1, n1, p1, a1⟩ => ?_)
  obtain ⟨k, e1, ι2, h2, k', n2, ek, a2⟩ := asB_after n1.rep p1 (a1.bnd (P := rpE))
  subst e1
  cases r1
  cases ek
  refine wpAny_truthy_bool ?_
  cases k with
  | false => exact hc.run pins s1 σ H1 ι2 h2 ρ Q tk1 I1 n2.rep (sr.next r (n1.trans n2).toNx0) a2
  | true => exact ⟨tk1, .bl true, H1, I1, rfl, Aft.ret (P := rpW X.K G) a2 n2.rep (.bl true)⟩
theorem un_not : UnZ X G Wf (unaryOp .Not) znotV := by
  intro pins s σ H ι h x v1 u1 Q I r p1 r1 aft
  obtain ⟨k, e1, ι2, h2, k', n2, ek, a2⟩ := asB_after r p1 (aft.bnd (P := rpE))
  subst e1
  cases r1
  cases ek
  exact not_of (wpAny_truthy_bool ⟨.bl (!k), H, I, rfl, Aft.ret (P := rpW X.K G) a2 n2.rep (.bl _)⟩)
/-- a if t else c -/
def zif (nd : Ev → M Bool) (ma mc : Ev → M W) : Ev → M W := fun ρ => bnd (nd ρ) fun k => if k = true then ma ρ else mc ρ
theorem pz_ifExp (hd : PZT b X G Wf d nd) (ha : PZ b X G Wf a ma) (hc : PZ b X G Wf c mc) : PZ b X G Wf (.IfExp d a c pos) (zif nd ma mc) := by
  refine ⟨fun pins s σ H ι h ρ Q tk I r sr aft => ?_⟩
  refine wpAny_IfExp (thn (hd.run pins s σ H ι h ρ _ _ rfl tk I r sr (aft.bnd (P := rpE))) fun k s1 ⟨tk1, H1, I1, ι1, h1, k', n1, ek, a1⟩ => ?_)
  cases ek
  cases k with
  | true => exact ha.run pins s1 σ H1 ι1 h1 ρ Q tk1 I1 n1.rep (sr.next r n1.toNx0) a1
  | false => exact hc.run pins s1 σ H1 ι1 h1 ρ Q tk1 I1 n1.rep (sr.next r n1.toNx0) a1
end

def znil : Ev → M (List W) := fun _ => ret []
def zcons (ma : Ev → M W) (mr : Ev → M (List W)) : Ev → M (List W) := fun ρ => bnd (ma ρ) fun x => bnd (mr ρ) fun xs => ret (x :: xs)
section
variable {b : Bool} {X : Cx} {G : Gt} {Wf : WX} {e : Expr} {es : List Expr} {m : Ev → M W} {mr : Ev → M (List W)} {pos : Pos}
theorem pza_nil : PZA b X G Wf [] znil :=
  ⟨fun _ _ s σ H ι h ρ Q tk I r sr aft => Calls.spliced_nil ⟨tk, [], H, I, .nil, Aft.ret (P := rpWs X.K G) aft r .nil⟩⟩
theorem pza_cons (ha : PZ b X G Wf e m) (hr : PZA b X G Wf es mr) (hs : starEach (e :: es) X.env = (false, eval e X.env) :: starEach es X.env) : PZA b X G Wf (e :: es) (zcons m mr) := by
  refine ⟨fun pos pins s σ H ι h ρ Q tk I r sr aft => ?_⟩
  rw [hs]
  show wpAny _ _ (spliced ((false, eval e X.env) :: backTo pos (starEach es X.env))) _ _ s
  refine Calls.spliced_cons (thn (ha.run pins s σ H ι h ρ _ tk I r sr (aft.bnd (P := rpW X.K G))) fun u s1 ⟨tk1, v1, H1, I1, r1, ι1, h1, w1, n1, p1, a1⟩ => ?_)
  refine thn (hr.run pos pins s1 σ H1 ι1 h1 ρ _ tk1 I1 n1.rep (sr.next r n1.toNx0) (a1.bnd (P := rpWs X.K G))) fun us s2 ⟨tk2, vs, H2, I2, r2, ι2, h2, ws, n2, p2, a2⟩ => ?_
  exact ⟨tk2, v1 :: vs, H2, I2, .cons r1 r2, Aft.ret (P := rpWs X.K G) a2 n2.rep (.cons (Rep.next n1.rep n2.toNx0 p1) p2)⟩
/-- as the layer has it -/
def tZA (K : PySem.W.Frag) (G : Gt) (Wf : WX) (m : Ev → M (List W)) : TA := fun σ H Q => ∃ ι h ρ, HRep K G ι h H ∧ SRep K G ι h H ρ σ ∧ Aft K G Wf σ (rpWs K G) ι h H (m ρ h) Q
theorem PZA.pa (p : PZA false X G Wf es mr) : PA X es (tZA X.K G Wf mr) := ⟨fun pos pins s σ H Q I ⟨ι, h, ρ, r, sr, a⟩ => thn (p.run pos pins s σ H ι h ρ Q (fun z => nomatch z) I r sr a) fun _ _ q => q.2⟩
def LIM : Nat := 16777216
theorem lim_eq : LIM = sizeLine := by rw [sizeLine_eq]; rfl
def ztupW (ws : List W) : M W := if ws.length ≤ LIM then ret (.tup ws) else bad
def zlstW (ws : List W) : M W := if ws.length ≤ LIM then new (.lst ws) else bad
def ztup (mr : Ev → M (List W)) : Ev → M W := fun ρ => bnd (mr ρ) ztupW
def zlst (mr : Ev → M (List W)) : Ev → M W := fun ρ => bnd (mr ρ) zlstW
/-- a new tuple, a new list -/
theorem tup_after {σ : St} {ι : Nat → Addr} {h : Hz} {H : Hp} {ws : List W} {vs : List V} {Q : VK} (r : HRep X.K G ι h H) (p : Reps X.K G ι h H ws vs) (a : Aft X.K G Wf σ (rpW X.K G) ι h H (ztupW ws h) Q) :
    vs.length ≤ sizeLine ∧ ∀ q, H q = none → Q (.ref q) (upd H q (.tup vs)) := by
  unfold ztupW at a
  split at a
  · rename_i hl
    refine ⟨by rw [← p.length, ← lim_eq]; exact hl, fun q hq => ?_⟩
    have n := Next.beside (o := .tup vs) r hq
    exact a ι _ _ n (.tup (SqT.of upd_same) (p.next r n.toNx0))
  · exact False.elim a
theorem lst_new {σ : St} {ι : Nat → Addr} {h : Hz} {H : Hp} {ws : List W} {vs : List V} {Q : VK} (r : HRep X.K G ι h H) (p : Reps X.K G ι h H ws vs) (a : Aft X.K G Wf σ (rpW X.K G) ι h H (new (.lst ws) h) Q) :
    ∀ q, H q = none → Q (.ref q) (upd H q (.lst vs)) := fun q hq => by
  have n0 : Nx0 ι h H (ext1 ι h.n q) (h.push (.lst ws)) (upd H q (.lst vs)) := Nx0.alloc hq
  have n := Next.alloc (c := .lst ws) r hq ⟨vs, upd_same, p.next r n0⟩
  have e : V.ref q = V.ref (ext1 ι h.n q h.n) := by rw [ext1_at]
  refine a _ _ _ n ?_
  rw [e]
  exact .ref _ (Nat.lt_succ_self _)
theorem lst_after {σ : St} {ι : Nat → Addr} {h : Hz} {H : Hp} {ws : List W} {vs : List V} {Q : VK} (r : HRep X.K G ι h H) (p : Reps X.K G ι h H ws vs) (a : Aft X.K G Wf σ (rpW X.K G) ι h H (zlstW ws h) Q) :
    vs.length ≤ sizeLine ∧ ∀ q, H q = none → Q (.ref q) (upd H q (.lst vs)) := by
  unfold zlstW at a
  split at a
  · rename_i hl
    exact ⟨by rw [← p.length, ← lim_eq]; exact hl, lst_new r p a⟩
  · exact False.elim a
theorem pz_tup {k : Nat} (hr : PZA b X G Wf es mr) : PZ b X G Wf (.Tuple es k pos) (ztup mr) := by
  refine ⟨fun pins s σ H ι h ρ Q tk I r sr aft => ?_⟩
  refine wpAny_Tuple_spliced (thn (hr.run pos pins s σ H ι h ρ _ tk I r sr (aft.bnd (P := rpWs X.K G))) fun us s1 ⟨tk1, vs, H1, I1, r1, ι1, h1, ws, n1, p1, a1⟩ => ?_)
  obtain ⟨z, q⟩ := tup_after n1.rep p1 a1
  have hf : H1 s1.heap.objs.size = none := I1.hok.fresh (Nat.le_refl _)
  refine ⟨by rw [← r1.length]; exact z, tk1, .ref s1.heap.objs.size, upd H1 s1.heap.objs.size (.tup vs), I1.laid (t' := s1.toks) (fun b u e => Heap.get?_push_of_some _ e) (Nat.le_refl _) ?_, rfl, q _ hf⟩
  exact ⟨z, us, r1, ⟨_, Heap.get?_push_size _ rfl, rfl, _, rfl⟩⟩
theorem pz_lst (hr : PZA b X G Wf es mr) : PZ b X G Wf (.List es pos) (zlst mr) := by
  refine ⟨fun pins s σ H ι h ρ Q tk I r sr aft => ?_⟩
  refine wpAny_List_spliced (thn (hr.run pos pins s σ H ι h ρ _ tk I r sr (aft.bnd (P := rpWs X.K G))) fun us s1 ⟨tk1, vs, H1, I1, r1, ι1, h1, ws, n1, p1, a1⟩ => ?_)
  obtain ⟨z, q⟩ := lst_after n1.rep p1 a1
  have hf : H1 s1.heap.objs.size = none := I1.hok.fresh (Nat.le_refl _)
  refine ⟨by rw [← r1.length]; exact z, tk1, .ref s1.heap.objs.size, upd H1 s1.heap.objs.size (.lst vs), I1.laid (t' := s1.toks) (fun b u e => Heap.get?_push_of_some _ e) (Nat.le_refl _) ?_, rfl, q _ hf⟩
  exact ⟨z, us, 0, r1, Heap.get?_push_size _ rfl⟩
end

section
variable {b : Bool} {X : Cx} {G : Gt} {Wf : WX} {e : Expr} {m : Ev → M W} {pos : Pos}
/-- names of fields are told apart by their numbers -/
def NmInj (G : Gt) : Prop := ∀ f g, G.nm f = G.nm g → f = g
theorem nm_beq (nj : NmInj G) (f g : Nat) : (G.nm f == G.nm g) = (f == g) := by
  by_cases c : f = g
  · subst c; simp
  · rw [beq_eq_false_iff_ne.mpr c]
    exact beq_eq_false_iff_ne.mpr fun z => c (nj f g z)
theorem RepF.look {ι : Nat → Addr} {h : Hz} {H : Hp} {f : Nat} (nj : NmInj G) {w : W} : ∀ {fs : List (Nat × W)} {gs : List (Str × V)}, RepF X.K G ι h H fs gs → fs.lookup f = some w → ∃ v, gs.lookup (G.nm f) = some v ∧ Rep X.K G ι h H w v
  | [], _, _, e => by simp at e
  | (g, w') :: fs', _, q, e => by
    cases q with
    | cons p q =>
      rw [List.lookup_cons] at e
      rw [List.lookup_cons, nm_beq nj]
      cases c : (f == g) with
      | true => rw [c] at e; cases e; exact ⟨_, rfl, p⟩
      | false => rw [c] at e; exact RepF.look nj q e
theorem RepF.none_of {ι : Nat → Addr} {h : Hz} {H : Hp} {f : Nat} (nj : NmInj G) : ∀ {fs : List (Nat × W)} {gs : List (Str × V)}, RepF X.K G ι h H fs gs → fs.lookup f = none → gs.lookup (G.nm f) = none
  | [], _, q, e => by cases q; rfl
  | (g, w') :: fs', _, q, e => by
    cases q with
    | cons p q =>
      rw [List.lookup_cons] at e
      rw [List.lookup_cons, nm_beq nj]
      cases c : (f == g) with
      | true => rw [c] at e; cases e
      | false => rw [c] at e; exact RepF.none_of nj q e
/-- what the top tells of the class c: fields are looked for in the instance, f is no name of the class -/
structure ClsZ (K : PySem.W.Frag) (G : Gt) (c : Nat) : Prop where
  cls : Cls K (G.cl c)
def NoAt (K : PySem.W.Frag) (G : Gt) (f : Nat) (cs : List Nat) : Prop := ∀ c ∈ cs, Cls K (G.cl c) ∧ NoAttr K (G.cl c) (G.nm f)
/-- the class of an object -/
def zcls (w : W) (h : Hz) : Option Nat := match w with
  | .obj c _ => some c
  | .ref i => match h.get i with
    | some (.ins c _) => some c
    | _ => none
  | _ => none
/-- e.f, of an instance of one of the classes cs -/
def zfldW (cs : List Nat) (f : Nat) (w : W) : M W := match w with
  | .obj c fs => if cs.contains c = true then ofO (fs.lookup f) else bad
  | .ref i => fun h => match h.get i with
    | some (.ins c fs) => if cs.contains c = true then ofO (fs.lookup f) h else .err
    | _ => .err
  | _ => bad
def zfld (cs : List Nat) (f : Nat) (ma : Ev → M W) : Ev → M W := fun ρ => bnd (ma ρ) (zfldW cs f)
theorem ofO_after {α β : Type} {P : RP α β} {σ : St} {ι : Nat → Addr} {h : Hz} {H : Hp} {o : Option α} {Q : β → Hp → Prop} (a : Aft X.K G Wf σ P ι h H (ofO o h) Q) : ∃ w, o = some w ∧ Aft X.K G Wf σ P ι h H (ret w h) Q := by
  cases o with
  | none => exact False.elim a
  | some w => exact ⟨w, rfl, a⟩
theorem pz_fld {cs : List Nat} {f : Nat} {x : Str} (nj : NmInj G) (hx : G.nm f = x) (hn : NoAt X.K G f cs) (ha : PZ b X G Wf e m) (hb : attributeBase e x X.env (eval e X.env) = eval e X.env) : PZ b X G Wf (.Attribute e x pos) (zfld cs f m) := by
  subst hx
  refine ⟨fun pins s σ H ι h ρ Q tk I r sr aft => ?_⟩
  refine attr_of hb (thn (ha.run pins s σ H ι h ρ _ tk I r sr (aft.bnd (P := rpW X.K G))) fun u s1 ⟨tk1, v1, H1, I1, r1, ι1, h1, w1, n1, p1, a1⟩ => ?_)
  have main : ∀ (a c : Nat) (dx : Addr) (fs : List (Nat × W)) (gs : List (Str × V)), v1 = .ref a → H1 a = some (.ins (G.cl c) dx gs) → RepF X.K G ι1 h1 H1 fs gs → c ∈ cs → Aft X.K G Wf σ (rpW X.K G) ι1 h1 H1 (ofO (fs.lookup f) h1) Q →
      wpAny (model X.prog X.w) X.A (getAttr u (G.nm f) true) (fun u s' => Tk b s' ∧ EP X pins σ Q u s') X.xe s1 := by
    intro a c dx fs gs ev ea rf hc a2
    subst ev
    obtain rfl : u = Value.ref a := r1
    obtain ⟨w, ew, a3⟩ := ofO_after a2
    obtain ⟨v, lv, pv⟩ := rf.look nj ew
    obtain ⟨c1, c2⟩ := hn c hc
    exact withTk tk1 (getattr_ok I1 ea c1 c2 lv fun u' s2 I2 ru => ⟨v, H1, I2, ru, Aft.ret (P := rpW X.K G) a3 n1.rep pv⟩)
  cases p1 with
  | obj ea l _ rf =>
    have a2 : Aft X.K G Wf σ (rpW X.K G) ι1 h1 H1 ((if cs.contains _ = true then ofO (List.lookup f _) else bad) h1) Q := a1
    split at a2
    · rename_i hc
      exact main _ _ _ _ _ rfl ea rf (by simpa using hc) a2
    · exact False.elim a2
  | ref i hi =>
    have a2 : Aft X.K G Wf σ (rpW X.K G) ι1 h1 H1 (match h1.get i with
      | some (.ins c fs) => if cs.contains c = true then ofO (fs.lookup f) h1 else .err
      | _ => .err) Q := a1
    cases g : h1.get i with
    | none => rw [g] at a2; exact False.elim a2
    | some d =>
      rw [g] at a2
      cases d with
      | ins c fs =>
        obtain ⟨dx, gs, ea, rf⟩ := n1.rep.cell i _ g
        have a3 : Aft X.K G Wf σ (rpW X.K G) ι1 h1 H1 (if cs.contains c = true then ofO (fs.lookup f) h1 else .err) Q := a2
        split at a3
        · rename_i hc
          exact main _ _ _ _ _ rfl ea rf (by simpa using hc) a3
        · exact False.elim a3
      | lst xs => exact False.elim a2
      | dct kvs => exact False.elim a2
      | dead => exact False.elim a2
  | _ => exact False.elim a1
end
end Z

set_option Elab.async false
set_option linter.all false
set_option maxRecDepth 100000
set_option maxHeartbeats 1000000
set_option autoImplicit false
namespace Z
open PySem L2
open PyProof.Rows hiding St

/-- room below, and no repr under way -/
structure Room (k : Nat) (A : Around) : Prop where
  rm : L2.Room k A
  gd : A.guards = some []
theorem Room.mono {j k : Nat} {A : Around} (r : Room k A) (h : j ≤ k) : Room j A := ⟨r.rm.mono h, r.gd⟩
theorem Room.deeper {k : Nat} {A : Around} (r : Room (k + 1) A) (env : Env) : Room k (A.deeper env) := ⟨r.rm.deeper env, r.gd⟩
theorem Room.make {k : Nat} {A : Around} (r : Room (k + 1) A) (C : Addr) (us : List Value) (kw : List (Str × Value)) : Room k (A.under (.builtin "type.__call__" ⟨.ref C :: us, kw⟩)) :=
  ⟨r.rm.make C us kw, by
    have e : (Code.builtin "type.__call__" ⟨.ref C :: us, kw⟩).guards = [] := by simp [Code.guards, Code.isGuard, guardIds]
    simp only [Around.under, e, r.gd]
    rfl⟩
/-- a def keeps its promise wherever there is room -/
structure FnOk (P : Program) (w : World) (K : PySem.W.Frag) (mg : Str → Option Value) (base : Heap) (CX : CXT) (k : Nat) (f : Addr) (fd : FuncData) (ps : List Str) (sp : Sp) : Prop where
  len : ∀ vs H Q E, sp vs H Q E → vs.length = ps.length
  run : ∀ (A : Around) (outer : List Env) (s : Shared) (H : Hp) (args : Args) (us : List Value) (vs : List V) (Q : VK) (E : XK), Room k A → Env0 P w K mg base A outer s H → BindsTo s fd args (ps.zip us) → Vals vs us → sp vs H Q E →
    codeAny (model P w) A (.call (.ref f) args) (CR CX outer P w H s Q E) s
theorem FnOk.mono {P : Program} {w : World} {K : PySem.W.Frag} {mg : Str → Option Value} {base : Heap} {CX : CXT} {j k : Nat} {f : Addr} {fd : FuncData} {ps : List Str} {sp : Sp} (F : FnOk P w K mg base CX j f fd ps sp) (h : j ≤ k) :
    FnOk P w K mg base CX k f fd ps sp := ⟨F.len, fun A outer s H args us vs Q E hr => F.run A outer s H args us vs Q E (hr.mono h)⟩
theorem FnOk.imp {P : Program} {w : World} {K : PySem.W.Frag} {mg : Str → Option Value} {base : Heap} {CX : CXT} {k : Nat} {f : Addr} {fd : FuncData} {ps : List Str} {sp sp' : Sp} (F : FnOk P w K mg base CX k f fd ps sp)
    (h : ∀ vs H Q E, sp' vs H Q E → sp vs H Q E) : FnOk P w K mg base CX k f fd ps sp' :=
  ⟨fun vs H Q E q => F.len vs H Q E (h _ _ _ _ q), fun A outer s H args us vs Q E hr he hb hv hs => F.run A outer s H args us vs Q E hr he hb hv (h _ _ _ _ hs)⟩
theorem FnOk.ofL {P : Program} {w : World} {K : PySem.W.Frag} {mg : Str → Option Value} {base : Heap} {CX : CXT} {k : Nat} {f : Addr} {fd : FuncData} {ps : List Str} {sp : Sp} (F : L2.FnOk P w K mg base CX k f fd ps sp) : FnOk P w K mg base CX k f fd ps sp :=
  ⟨F.len, fun A outer s H args us vs Q E hr => F.run A outer s H args us vs Q E hr.rm⟩
/-- a def does what f does -/
def spZ (K : PySem.W.Frag) (G : Gt) (n : Nat) (f : List W → M W) : Sp := fun vs H Q E => vs.length = n ∧ ∃ no ι h ws, HRep K (G.wn no) ι h H ∧ Reps K (G.wn no) ι h H ws vs ∧ Aft K (G.wn no) (fun cls d _ H' => E cls d H') [] (rpW K (G.wn no)) ι h H (f ws h) Q
/-- the i-th def of the text, with what a caller needs -/
structure FnZ (X : Cx) (G : Gt) (k : Nat) (i : Nat) (n : Nat) (f : List W → M W) : Prop where
  ok : ∃ fd ps, ps.length = n ∧ FnOk X.prog X.w X.K X.mg X.base (CX X.prog X.w) k (G.fn i) fd ps (spZ X.K G n f)

section
variable {b : Bool} {X : Cx} {G : Gt} {Wf : WX} {e o : Expr} {es : List Expr} {m ma : Ev → M W} {mr : Ev → M (List W)} {p pos apos : Pos} {x : Str} {k : Nat}
/-- the callee runs; kw: keywords and their values -/
theorem run_zC {pins : List (Addr × Obj)} {σ : St} {H : Hp} {s : Shared} {ι : Nat → Addr} {h : Hz} {Q : VK} {f : Addr} {fd : FuncData} {ps : List Str} {n : Nat} {fn : List W → M W} {us zs : List Value} {kw : List (Str × Value)} {vs : List V} {ws : List W}
    (F : FnOk X.prog X.w X.K X.mg X.base (CX X.prog X.w) k f fd ps (spZ X.K G n fn)) (hn : ps.length = n) (hr : Room k X.A) (hb : BindsTo s fd ⟨us, kw⟩ (ps.zip zs)) (tk : Takes X Wf) (I : Inv X pins σ H s) (r : HRep X.K G ι h H) (rv : Vals vs zs) (rp : Reps X.K G ι h H ws vs) (hl : vs.length = n)
    (aft : Aft X.K G Wf σ (rpW X.K G) ι h H (fn ws h) Q) : codeAny (model X.prog X.w) X.A (.call (.ref f) ⟨us, kw⟩) (fun r s' => match r with | .ok (.ret v) => EP X pins σ Q v s' | .ok _ => False | .error e => X.xe e s') s := by
  refine (codeAny_mono (F.run X.A X.stack s H ⟨us, kw⟩ zs vs Q (fun cls d H' => Wf cls d σ H') hr I.env0 hb rv ⟨hl, G.no, ι, h, ws, r, rp, ?_⟩) fun r s' hq => ?_)
  · cases q : fn ws h with
    | ok w h' => rw [q] at aft; exact aft
    | exc c fs h' => rw [q] at aft; exact aft
    | err => rw [q] at aft; exact aft
  · cases r with
    | error e => exact tk e s' (XE.of_call I (fun _ _ _ q => q) hq)
    | ok fl =>
      cases fl with
      | ret u => exact I.after hq
      | next => exact False.elim hq
      | brk => exact False.elim hq
      | cont => exact False.elim hq

theorem run_z {pins : List (Addr × Obj)} {σ : St} {H : Hp} {s : Shared} {ι : Nat → Addr} {h : Hz} {Q : VK} {f : Addr} {fd : FuncData} {ps : List Str} {n : Nat} {fn : List W → M W} {us zs : List Value} {kw : List (Str × Value)} {vs : List V} {ws : List W}
    (F : FnOk X.prog X.w X.K X.mg X.base (CX X.prog X.w) k f fd ps (spZ X.K G n fn)) (hn : ps.length = n) (hr : Room k X.A) (hb : BindsTo s fd ⟨us, kw⟩ (ps.zip zs)) (tk : Takes X Wf) (I : Inv X pins σ H s) (r : HRep X.K G ι h H) (rv : Vals vs zs) (rp : Reps X.K G ι h H ws vs) (hl : vs.length = n)
    (aft : Aft X.K G Wf σ (rpW X.K G) ι h H (fn ws h) Q) : wpAny (model X.prog X.w) X.A (call (.ref f) us kw) (EP X pins σ Q) X.xe s :=
  wpAny_call (run_zC F hn hr hb tk I r rv rp hl aft)

/-- how arguments come to the parameters: us written by place, ws by keywords; the parameters' values are g us ws -/
structure BnZ (X : Cx) (G : Gt) (fd : FuncData) (ps : List Str) (n : Nat) (ks : List Str) (g : List W → List W → List W) : Prop where
  to : ∀ (s : Shared) (H : Hp) (ι : Nat → Addr) (h : Hz) (us zs : List Value) (vs ys : List V) (ws qs : List W), X.K.In s.heap → HRep X.K G ι h H → us.length = n → zs.length = ks.length → Vals vs us → Vals ys zs → Reps X.K G ι h H ws vs → Reps X.K G ι h H qs ys →
    ∃ bs vs', BindsTo s fd ⟨us, ks.zip zs⟩ (ps.zip bs) ∧ Vals vs' bs ∧ Reps X.K G ι h H (g ws qs) vs' ∧ vs'.length = ps.length
/-- keywords' values, from the left -/
structure PZK (b : Bool) (X : Cx) (G : Gt) (Wf : WX) (kws : List Keyword) (m : Ev → M (List W)) : Prop where
  run : ∀ (pos : Pos) (pins : List (Addr × Obj)) (s : Shared) (σ : St) (H : Hp) (ι : Nat → Addr) (h : Hz) (ρ : Ev) (Q : List V → Hp → Prop), Tk b s → Inv X pins σ H s → HRep X.K G ι h H → SRep X.K G ι h H ρ σ → Aft X.K G Wf σ (rpWs X.K G) ι h H (m ρ h) Q →
    wpAny (model X.prog X.w) X.A (evalAll ((backToKw pos (keywordEach kws X.env)).map (·.2))) (fun u s' => Tk b s' ∧ AP X pins σ Q u s') X.xe s
theorem pzk_nil : PZK b X G Wf [] znil :=
  ⟨fun _ _ s σ H ι h ρ Q tk I r sr aft => wpAny_evalAll_nil ⟨tk, [], H, I, .nil, Aft.ret (P := rpWs X.K G) aft r .nil⟩⟩
theorem pzk_cons {nm : Option Str} {kpos : Pos} {kws : List Keyword} (ha : PZ b X G Wf e m) (hr : PZK b X G Wf kws mr) : PZK b X G Wf (⟨nm, e, kpos⟩ :: kws) (zcons m mr) := by
  refine ⟨fun pos pins s σ H ι h ρ Q tk I r sr aft => ?_⟩
  show wpAny _ _ (evalAll ((do let v ← eval e X.env; standAt pos; pure v) :: (backToKw pos (keywordEach kws X.env)).map (·.2))) _ _ s
  refine wpAny_evalAll_cons (wpAny_bind (thn (ha.run pins s σ H ι h ρ _ tk I r sr (aft.bnd (P := rpW X.K G))) fun u s1 ⟨tk1, v1, H1, I1, r1, ι1, h1, w1, n1, p1, a1⟩ => wpAny_bind (wpAny_standAt (wpAny_pure ?_))))
  refine thn (hr.run pos pins s1 σ H1 ι1 h1 ρ _ tk1 I1 n1.rep (sr.next r n1.toNx0) (a1.bnd (P := rpWs X.K G))) fun us s2 ⟨tk2, vs, H2, I2, r2, ι2, h2, ws, n2, p2, a2⟩ => ?_
  exact ⟨tk2, v1 :: vs, H2, I2, .cons r1 r2, Aft.ret (P := rpWs X.K G) a2 n2.rep (.cons (Rep.next n1.rep n2.toNx0 p1) p2)⟩

def isStar : Expr → Bool
  | .Starred _ _ => true
  | _ => false
theorem starEach_cons {e : Expr} {es : List Expr} {env : Env} (he : isStar e = false) : starEach (e :: es) env = (false, eval e env) :: starEach es env := by
  cases e <;> first | rfl | cases he
theorem starEach_no : ∀ {es : List Expr} {env : Env} {pos : Pos}, es.all (fun e => !isStar e) = true → (backTo pos (starEach es env)).any (·.1) = false
  | [], _, _, _ => rfl
  | e :: es, env, pos, h => by
    rw [List.all_cons] at h
    have h1 : isStar e = false := by simpa using (Bool.and_eq_true_iff.mp h).1
    have h2 : (es.all fun e => !isStar e) = true := (Bool.and_eq_true_iff.mp h).2
    rw [starEach_cons h1]
    show ((false || (backTo pos (starEach es env)).any (·.1))) = false
    rw [starEach_no h2]
    rfl
def kwNames (kws : List Keyword) : Option (List Str) := kws.mapM fun k => k.arg
theorem kw_names : ∀ {kws : List Keyword} {ks : List Str} {env : Env} {pos : Pos}, kwNames kws = some ks →
    (backToKw pos (keywordEach kws env)).all (·.1.isSome) = true ∧ (backToKw pos (keywordEach kws env)).filterMap (·.1) = ks ∧ (backToKw pos (keywordEach kws env)).any (·.1.isNone) = false ∧ kws.length = ks.length
  | [], ks, env, pos, h => by
    have e : ks = [] := by simpa [kwNames] using h.symm
    subst e
    exact ⟨rfl, rfl, rfl, rfl⟩
  | ⟨nm, v, kp⟩ :: r, ks, env, pos, h => by
    cases nm with
    | none => simp [kwNames] at h
    | some x =>
      cases q : kwNames r with
      | none =>
        have q' : List.mapM (fun k : Keyword => k.arg) r = none := q
        simp [kwNames, q'] at h
      | some ks' =>
        have q' : List.mapM (fun k : Keyword => k.arg) r = some ks' := q
        have e : ks = x :: ks' := by
          simp [kwNames, q'] at h
          exact h.symm
        subst e
        obtain ⟨h1, h2, h3, h4⟩ := kw_names (env := env) (pos := pos) q
        refine ⟨?_, ?_, ?_, congrArg Nat.succ h4⟩
        · show (true && (backToKw pos (keywordEach r env)).all (·.1.isSome)) = true
          rw [h1]; rfl
        · show x :: (backToKw pos (keywordEach r env)).filterMap (·.1) = _
          rw [h2]
        · show (false || (backToKw pos (keywordEach r env)).any (·.1.isNone)) = false
          rw [h3]; rfl
def noSuper : Expr → Bool
  | .Call (.Name id _) [] [] _ => id != "super"
  | _ => true
theorem attrBase_of {e : Expr} {f : Str} {env : Env} {w : Sem Value} (h : noSuper e = true) : attributeBase e f env w = w := by
  unfold attributeBase
  split
  · rename_i id p q
    have h' : (id != ("super" : Str)) = true := h
    simp only [h', Bool.true_or, if_true]
    try simp
  · rfl
/-- the arguments, then the call -/
theorem cw_args {e : Expr} {es : List Expr} {kws : List Keyword} {mk : Ev → M (List W)} {ks : List Str} {f : Value} {first : List Value} {pins : List (Addr × Obj)} {s : Shared} {σ : St} {H : Hp} {ι : Nat → Addr} {h : Hz} {ρ : Ev} {Q : Value → Shared → Prop} {Q2 : VK} {fin : List W → List W → M W}
    (hk : PySem.W.keepIn X.K f = true) (ha : PZA b X G Wf (e :: es) mr) (hkw : PZK b X G Wf kws mk) (hst : (e :: es).all (fun e => !isStar e) = true) (hks : kwNames kws = some ks) (tk : Tk b s) (I : Inv X pins σ H s) (r : HRep X.K G ι h H) (sr : SRep X.K G ι h H ρ σ)
    (aft : Aft X.K G Wf σ (rpW X.K G) ι h H (bnd (mr ρ) (fun ws => bnd (mk ρ) fun qs => fin ws qs) h) Q2)
    (go : ∀ (s2 : Shared) (H2 : Hp) (ι2 : Nat → Addr) (h2 : Hz) (us zs : List Value) (vs ys : List V) (ws qs : List W), Tk b s2 → Inv X pins σ H2 s2 → Next X.K G ι h H ι2 h2 H2 → Vals vs us → Vals ys zs → Reps X.K G ι2 h2 H2 ws vs → Reps X.K G ι2 h2 H2 qs ys →
      Aft X.K G Wf σ (rpW X.K G) ι2 h2 H2 (fin ws qs h2) Q2 → wpAny (model X.prog X.w) X.A (call f (first ++ us) (ks.zip zs)) Q X.xe s2) :
    wpAny (model X.prog X.w) X.A (callWith pos f first (backTo pos (starEach (e :: es) X.env)) (backToKw pos (keywordEach kws X.env))) Q X.xe s := by
  obtain ⟨k1, k2, k3, k4⟩ := kw_names (env := X.env) (pos := pos) hks
  have hpl : ((backTo pos (starEach (e :: es) X.env)).any (·.1) || (backToKw pos (keywordEach kws X.env)).any (·.1.isNone)) = false := by rw [starEach_no hst, k3]; rfl
  rw [List.all_cons] at hst
  have h1 : isStar e = false := by simpa using (Bool.and_eq_true_iff.mp hst).1
  refine PySem.W.callWith_KW (h₀ := X.base) I.ok.mod.kin hk k1 (thn (ha.run pos pins s σ H ι h ρ _ tk I r sr (aft.bnd (P := rpWs X.K G))) fun us s1 ⟨tk1, vs, H1, I1, r1, ι1, h1, ws, n1, p1, a1⟩ => ?_) hpl (starEach_cons h1)
  refine thn (hkw.run pos pins s1 σ H1 ι1 h1 ρ _ tk1 I1 n1.rep (sr.next r n1.toNx0) (a1.bnd (P := rpWs X.K G))) fun zs s2 ⟨tk2, ys, H2, I2, r2, ι2, h2, qs, n2, p2, a2⟩ => ⟨I2.kIn, ?_⟩
  rw [k2]
  exact go s2 H2 ι2 h2 us zs vs ys ws qs tk2 I2 (n1.trans n2) r1 r2 (Reps.next n1.rep n2.toNx0 p1) p2 a2
theorem cw_args0 {kws : List Keyword} {mk : Ev → M (List W)} {ks : List Str} {f : Value} {first : List Value} {pins : List (Addr × Obj)} {s : Shared} {σ : St} {H : Hp} {ι : Nat → Addr} {h : Hz} {ρ : Ev} {Q : Value → Shared → Prop} {Q2 : VK} {fin : List W → M W}
    (hk : PySem.W.keepIn X.K f = true) (hkw : PZK b X G Wf kws mk) (hks : kwNames kws = some ks) (tk : Tk b s) (I : Inv X pins σ H s) (r : HRep X.K G ι h H) (sr : SRep X.K G ι h H ρ σ)
    (aft : Aft X.K G Wf σ (rpW X.K G) ι h H (bnd (mk ρ) fin h) Q2)
    (go : ∀ (s2 : Shared) (H2 : Hp) (ι2 : Nat → Addr) (h2 : Hz) (zs : List Value) (ys : List V) (qs : List W), Tk b s2 → Inv X pins σ H2 s2 → Next X.K G ι h H ι2 h2 H2 → Vals ys zs → Reps X.K G ι2 h2 H2 qs ys →
      Aft X.K G Wf σ (rpW X.K G) ι2 h2 H2 (fin qs h2) Q2 → wpAny (model X.prog X.w) X.A (call f (first ++ []) (ks.zip zs)) Q X.xe s2) :
    wpAny (model X.prog X.w) X.A (callWith pos f first (backTo pos (starEach [] X.env)) (backToKw pos (keywordEach kws X.env))) Q X.xe s := by
  obtain ⟨k1, k2, k3, k4⟩ := kw_names (env := X.env) (pos := pos) hks
  have hpl : ((backTo pos (starEach [] X.env)).any (·.1) || (backToKw pos (keywordEach kws X.env)).any (·.1.isNone)) = false := by rw [k3]; rfl
  refine PySem.W.callWith_KW0 (h₀ := X.base) I.ok.mod.kin hk k1 ?_ hpl
  refine thn (hkw.run pos pins s σ H ι h ρ _ tk I r sr (aft.bnd (P := rpWs X.K G))) fun zs s2 ⟨tk2, ys, H2, I2, r2, ι2, h2, qs, n2, p2, a2⟩ => ⟨I2.kIn, ?_⟩
  rw [k2]
  exact go s2 H2 ι2 h2 zs ys qs tk2 I2 n2 r2 p2 a2

/-- how arguments come to the parameters: n values by place, those of the keywords ks -/
def BnOk (X : Cx) (G : Gt) (fd : FuncData) (ps : List Str) (n : Nat) (ks : List Str) (g : List W → List W → List W) : Prop :=
  ∀ (s : Shared) (H : Hp) (ι : Nat → Addr) (h : Hz) (us zs : List Value) (vs ys : List V) (ws qs : List W), X.K.In s.heap → HRep X.K G ι h H → us.length = n → zs.length = ks.length → Vals vs us → Vals ys zs → Reps X.K G ι h H ws vs → Reps X.K G ι h H qs ys →
    ∃ bs vs', BindsTo s fd ⟨us, ks.zip zs⟩ (ps.zip bs) ∧ Vals vs' bs ∧ Reps X.K G ι h H (g ws qs) vs' ∧ vs'.length = ps.length
/-- the def i, called with n values by place and the keywords ks, does fn of g of them -/
def CallOk (X : Cx) (G : Gt) (k : Nat) (i n : Nat) (ks : List Str) (g : List W → List W → List W) (fn : List W → M W) : Prop :=
  PySem.W.keepIn X.K (.ref (G.fn i)) = true ∧ ∃ fd ps, FnOk X.prog X.w X.K X.mg X.base (CX X.prog X.w) k (G.fn i) fd ps (spZ X.K G ps.length fn) ∧ BnOk X G fd ps n ks g
def zcall (n m : Nat) (g : List W → List W → List W) (fn : List W → M W) (ws qs : List W) : M W := if ws.length = n ∧ qs.length = m then fn (g ws qs) else bad
theorem run_callC {i n : Nat} {ks : List Str} {g : List W → List W → List W} {fn : List W → M W} (C : CallOk X G k i n ks g fn) (hr : Room k X.A) (tkx : Takes X Wf) {pins : List (Addr × Obj)} {s : Shared} {σ : St} {H : Hp} {ι : Nat → Addr} {h : Hz} {Q : VK}
    {us zs : List Value} {vs ys : List V} {ws qs : List W} (I : Inv X pins σ H s) (r : HRep X.K G ι h H) (r1 : Vals vs us) (r2 : Vals ys zs) (p1 : Reps X.K G ι h H ws vs) (p2 : Reps X.K G ι h H qs ys)
    (aft : Aft X.K G Wf σ (rpW X.K G) ι h H (zcall n ks.length g fn ws qs h) Q) : codeAny (model X.prog X.w) X.A (.call (.ref (G.fn i)) ⟨us, ks.zip zs⟩) (fun r s' => match r with | .ok (.ret v) => EP X pins σ Q v s' | .ok _ => False | .error e => X.xe e s') s := by
  obtain ⟨kp, fd, ps, F, B⟩ := C
  unfold zcall at aft
  split at aft
  · rename_i hl
    have l1 : us.length = n := by rw [← r1.length, ← p1.length]; exact hl.1
    have l2 : zs.length = ks.length := by rw [← r2.length, ← p2.length]; exact hl.2
    obtain ⟨bs, vs', hb, rv, rp, hl'⟩ := B s H ι h us zs vs ys ws qs I.kIn r l1 l2 r1 r2 p1 p2
    exact run_zC F rfl hr hb tkx I r rv rp hl' aft
  · exact False.elim aft
theorem run_call {i n : Nat} {ks : List Str} {g : List W → List W → List W} {fn : List W → M W} (C : CallOk X G k i n ks g fn) (hr : Room k X.A) (tkx : Takes X Wf) {pins : List (Addr × Obj)} {s : Shared} {σ : St} {H : Hp} {ι : Nat → Addr} {h : Hz} {Q : VK}
    {us zs : List Value} {vs ys : List V} {ws qs : List W} (I : Inv X pins σ H s) (r : HRep X.K G ι h H) (r1 : Vals vs us) (r2 : Vals ys zs) (p1 : Reps X.K G ι h H ws vs) (p2 : Reps X.K G ι h H qs ys)
    (aft : Aft X.K G Wf σ (rpW X.K G) ι h H (zcall n ks.length g fn ws qs h) Q) : wpAny (model X.prog X.w) X.A (call (.ref (G.fn i)) us (ks.zip zs)) (EP X pins σ Q) X.xe s :=
  wpAny_call (run_callC C hr tkx I r r1 r2 p1 p2 aft)
def zfun (mr mk : Ev → M (List W)) (f : List W → List W → M W) : Ev → M W := fun ρ => bnd (mr ρ) fun ws => bnd (mk ρ) fun qs => f ws qs
theorem pz_call {i n : Nat} {ks : List Str} {g : List W → List W → List W} {fn : List W → M W} {kws : List Keyword} {mk : Ev → M (List W)} (C : CallOk X G k i n ks g fn) (hr : Room k X.A) (tkx : Takes X Wf) (hg : Gl X x) (hm : X.mg x = some (.ref (G.fn i)))
    (ha : PZA b X G Wf (e :: es) mr) (hkw : PZK b X G Wf kws mk) (hst : (e :: es).all (fun e => !isStar e) = true) (hks : kwNames kws = some ks) (hdb : (x == ("__debug__" : Str)) = false) :
    PZ b X G Wf (.Call (.Name x p) (e :: es) kws pos) (zfun mr mk (zcall n ks.length g fn)) := by
  refine ⟨fun pins s σ H ι h ρ Q tk I r sr aft => ?_⟩
  refine wpAny_Call_Name_kw (ld_glob I hg hm ?_ hdb)
  refine cw_args C.1 ha hkw hst hks tk I r sr aft fun s2 H2 ι2 h2 us zs vs ys ws qs tk2 I2 n2 r1 r2 p1 p2 a2 => ?_
  exact withTk tk2 (run_call C hr tkx I2 n2.rep r1 r2 p1 p2 a2)
def zfun0 (mk : Ev → M (List W)) (f : List W → List W → M W) : Ev → M W := fun ρ => bnd (mk ρ) fun qs => f [] qs
theorem pz_call0 {i n : Nat} {ks : List Str} {g : List W → List W → List W} {fn : List W → M W} {kws : List Keyword} {mk : Ev → M (List W)} (C : CallOk X G k i n ks g fn) (hr : Room k X.A) (tkx : Takes X Wf) (hg : Gl X x) (hm : X.mg x = some (.ref (G.fn i)))
    (hkw : PZK b X G Wf kws mk) (hks : kwNames kws = some ks) (hdb : (x == ("__debug__" : Str)) = false) : PZ b X G Wf (.Call (.Name x p) [] kws pos) (zfun0 mk (zcall n ks.length g fn)) := by
  refine ⟨fun pins s σ H ι h ρ Q tk I r sr aft => ?_⟩
  refine wpAny_Call_Name_kw (ld_glob I hg hm ?_ hdb)
  refine cw_args0 C.1 hkw hks tk I r sr aft fun s2 H2 ι2 h2 zs ys qs tk2 I2 n2 r2 p2 a2 => ?_
  exact withTk tk2 (run_call (us := []) C hr tkx I2 n2.rep .nil r2 .nil p2 a2)
end
end Z

set_option Elab.async false
set_option linter.all false
set_option maxRecDepth 100000
set_option maxHeartbeats 1000000
set_option autoImplicit false
namespace Z
open PySem L2
open PyProof.Rows hiding St

theorem few_all : ∀ {es : List Expr} {env : Env} {pos : Pos}, es.all (fun e => !isStar e) = true → (backTo pos (starEach es env)).all (fun x => !x.1) = true
  | [], _, _, _ => rfl
  | e :: es, env, pos, h => by
    rw [List.all_cons] at h
    have h1 : isStar e = false := by simpa using (Bool.and_eq_true_iff.mp h).1
    rw [starEach_cons h1]
    show (true && (backTo pos (starEach es env)).all (fun x => !x.1)) = true
    rw [few_all (Bool.and_eq_true_iff.mp h).2]; rfl
theorem few_of {es : List Expr} {kws : List Keyword} {ks : List Str} {env : Env} {pos : Pos} (h1 : es.all (fun e => !isStar e) = true) (h2 : kwNames kws = some ks) (h3 : es.length + kws.length < 29) :
    methodCallForm (es.length + kws.length) (backTo pos (starEach es env)) (backToKw pos (keywordEach kws env)) = true := by
  obtain ⟨k1, _, _, _⟩ := kw_names (env := env) (pos := pos) h2
  unfold methodCallForm
  rw [few_all h1, k1]
  show decide (_ < 30) = true
  refine decide_eq_true ?_
  split <;> omega
theorem meth_tree {o : Expr} {m : Str} {apos pos : Pos} {es : List Expr} {kws : List Keyword} {env : Env} (hb : noSuper o = true) (hf : methodCallForm (es.length + kws.length) (backTo pos (starEach es env)) (backToKw pos (keywordEach kws env)) = true) (hl : (apos.endLine == pos.line) = true) :
    eval (.Call (.Attribute o m apos) es kws pos) env = (do
      let ov ← eval o env
      standAt apos.atName
      let (f, first) ← holding [ov] (getMethod ov m (do return (← importBound o env).getD true))
      callWith pos f first (backTo pos (starEach es env)) (backToKw pos (keywordEach kws env))) := by
  rw [arm_eval_Call, attrBase_of hb]
  unfold methodCall calleeOf methodCallPos
  rw [hf, hl]
  rfl

section
variable {b : Bool} {X : Cx} {G : Gt} {Wf : WX} {e o : Expr} {es : List Expr} {m ma : Ev → M W} {mr mk : Ev → M (List W)} {p pos apos : Pos} {x : Str} {k : Nat} {kws : List Keyword} {ks : List Str}
/-- for each class of the table: the def that the name m finds -/
def MtOk (X : Cx) (G : Gt) (k : Nat) (mi : Nat) (n : Nat) (ks : List Str) (T : List (Nat × Nat)) (g : Nat → List W → List W → List W) (fn : Nat → List W → M W) : Prop :=
  ∀ c i, T.lookup c = some i → Cls X.K (G.cl c) ∧ Meth X.K (G.cl c) (G.nm mi) (G.fn i) ∧ CallOk X G k i (n + 1) ks (g i) (fn i)
/-- the class of an object, and its fields -/
def zins (w : W) : M (Nat × List (Nat × W)) := match w with
  | .obj c fs => ret (c, fs)
  | .ref i => fun h => match h.get i with
    | some (.ins c fs) => .ok (c, fs) h
    | _ => .err
  | _ => bad
theorem ins_after {α β : Type} {P : RP α β} {σ : St} {ι : Nat → Addr} {h : Hz} {H : Hp} {w : W} {v : V} {kk : Nat × List (Nat × W) → M α} {Q : β → Hp → Prop} (r : HRep X.K G ι h H) (p : Rep X.K G ι h H w v) (a : Aft X.K G Wf σ P ι h H (bnd (zins w) kk h) Q) :
    ∃ c fs ad dx gs, v = .ref ad ∧ H ad = some (.ins (G.cl c) dx gs) ∧ RepF X.K G ι h H fs gs ∧ Aft X.K G Wf σ P ι h H (kk (c, fs) h) Q := by
  cases p with
  | obj ea l _ rf => exact ⟨_, _, _, _, _, rfl, ea, rf, a⟩
  | ref i hi =>
    have bad_ : ∀ d : Option Cell, h.get i = d → (∀ c fs, d ≠ some (.ins c fs)) → bnd (zins (.ref i)) kk h = .err := fun d g nd => by
      unfold bnd zins
      dsimp only
      rw [g]
      cases d with
      | none => rfl
      | some d => cases d <;> first | rfl | exact absurd rfl (nd _ _)
    cases g : h.get i with
    | none => rw [bad_ _ g (by simp)] at a; exact False.elim a
    | some d =>
      cases d with
      | ins c fs =>
        obtain ⟨dx, gs, ea, rf⟩ := r.cell i _ g
        have e : bnd (zins (.ref i)) kk h = kk (c, fs) h := by
          unfold bnd zins
          simp only [g]
        rw [e] at a
        exact ⟨_, _, _, _, _, rfl, ea, rf, a⟩
      | lst xs => rw [bad_ _ g (by simp)] at a; exact False.elim a
      | dct kvs => rw [bad_ _ g (by simp)] at a; exact False.elim a
      | dead => rw [bad_ _ g (by simp)] at a; exact False.elim a
  | _ => exact False.elim a
/-- the def that is found, if no field hides it -/
def zfind (mi : Nat) (T : List (Nat × Nat)) (q : Nat × List (Nat × W)) : M Nat := match q.2.lookup mi with
  | none => ofO (T.lookup q.1)
  | some _ => bad
def zmeth (mi n m : Nat) (T : List (Nat × Nat)) (g : Nat → List W → List W → List W) (fn : Nat → List W → M W) (ma : Ev → M W) (mr mk : Ev → M (List W)) : Ev → M W := fun ρ =>
  bnd (ma ρ) fun w => bnd (zins w) fun q => bnd (zfind mi T q) fun i => bnd (mr ρ) fun ws => bnd (mk ρ) fun qs => zcall (n + 1) m (g i) (fn i) (w :: ws) qs
theorem find_after {α β : Type} {P : RP α β} {σ : St} {ι : Nat → Addr} {h : Hz} {H : Hp} {mi : Nat} {T : List (Nat × Nat)} {q : Nat × List (Nat × W)} {kk : Nat → M α} {Q : β → Hp → Prop} (a : Aft X.K G Wf σ P ι h H (bnd (zfind mi T q) kk h) Q) :
    ∃ i, q.2.lookup mi = none ∧ T.lookup q.1 = some i ∧ Aft X.K G Wf σ P ι h H (kk i h) Q := by
  unfold zfind at a
  cases e1 : q.2.lookup mi with
  | some _ => rw [e1] at a; exact False.elim a
  | none =>
    rw [e1] at a
    cases e2 : T.lookup q.1 with
    | none => rw [e2] at a; exact False.elim a
    | some i => rw [e2] at a; exact ⟨i, rfl, rfl, a⟩
theorem pz_meth {mi n : Nat} {T : List (Nat × Nat)} {g : Nat → List W → List W → List W} {fn : Nat → List W → M W} (nj : NmInj G) (hx : G.nm mi = x) (Mt : MtOk X G k mi n ks T g fn) (hr : Room k X.A) (tkx : Takes X Wf) (ho : PZ b X G Wf o ma)
    (ha : PZA b X G Wf (e :: es) mr) (hkw : PZK b X G Wf kws mk) (hst : (e :: es).all (fun e => !isStar e) = true) (hks : kwNames kws = some ks) (hb : noSuper o = true) (hl : (apos.endLine == pos.line) = true) (h29 : (e :: es).length + kws.length < 29) :
    PZ b X G Wf (.Call (.Attribute o x apos) (e :: es) kws pos) (zmeth mi n ks.length T g fn ma mr mk) := by
  subst hx
  refine ⟨fun pins s σ H ι h ρ Q tk I r sr aft => ?_⟩
  refine PySem.W.methodCall_KW (thn (ho.run pins s σ H ι h ρ _ tk I r sr (aft.bnd (P := rpW X.K G))) fun u s1 ⟨tk1, v1, H1, I1, r1, ι1, h1, w1, n1, p1, a1⟩ => ?_) (meth_tree hb (few_of hst hks h29) hl)
  obtain ⟨c, fs, ad, dx, gs, ev, ea, rf, a2⟩ := ins_after n1.rep p1 a1
  obtain ⟨i, f1, f2, a3⟩ := find_after a2
  obtain ⟨c1, c2, C⟩ := Mt c i f2
  subst ev
  obtain rfl : u = Value.ref ad := r1
  refine getmeth_ok I1 ea c1 c2 (rf.none_of nj f1) ?_
  refine cw_args (first := [.ref ad]) C.1 ha hkw hst hks tk1 I1 n1.rep (sr.next r n1.toNx0) a3 fun s2 H2 ι2 h2 us zs vs ys ws qs tk2 I2 n2 r1 r2 p2 p3 a4 => ?_
  exact withTk tk2 (run_call (us := Value.ref ad :: us) (vs := V.ref ad :: vs) C hr tkx I2 n2.rep (.cons rfl r1) r2 (.cons (Rep.next n1.rep n2.toNx0 p1) p2) p3 a4)
def zmeth0 (mi m : Nat) (T : List (Nat × Nat)) (g : Nat → List W → List W → List W) (fn : Nat → List W → M W) (ma : Ev → M W) (mk : Ev → M (List W)) : Ev → M W := fun ρ =>
  bnd (ma ρ) fun w => bnd (zins w) fun q => bnd (zfind mi T q) fun i => bnd (mk ρ) fun qs => zcall 1 m (g i) (fn i) [w] qs
theorem pz_meth0 {mi : Nat} {T : List (Nat × Nat)} {g : Nat → List W → List W → List W} {fn : Nat → List W → M W} (nj : NmInj G) (hx : G.nm mi = x) (Mt : MtOk X G k mi 0 ks T g fn) (hr : Room k X.A) (tkx : Takes X Wf) (ho : PZ b X G Wf o ma)
    (hkw : PZK b X G Wf kws mk) (hks : kwNames kws = some ks) (hb : noSuper o = true) (hl : (apos.endLine == pos.line) = true) (h29 : kws.length < 29) :
    PZ b X G Wf (.Call (.Attribute o x apos) [] kws pos) (zmeth0 mi ks.length T g fn ma mk) := by
  subst hx
  refine ⟨fun pins s σ H ι h ρ Q tk I r sr aft => ?_⟩
  refine PySem.W.methodCall_KW (thn (ho.run pins s σ H ι h ρ _ tk I r sr (aft.bnd (P := rpW X.K G))) fun u s1 ⟨tk1, v1, H1, I1, r1, ι1, h1, w1, n1, p1, a1⟩ => ?_) (meth_tree (es := []) hb (few_of (es := []) rfl hks (by simpa using h29)) hl)
  obtain ⟨c, fs, ad, dx, gs, ev, ea, rf, a2⟩ := ins_after n1.rep p1 a1
  obtain ⟨i, f1, f2, a3⟩ := find_after a2
  obtain ⟨c1, c2, C⟩ := Mt c i f2
  subst ev
  obtain rfl : u = Value.ref ad := r1
  refine getmeth_ok I1 ea c1 c2 (rf.none_of nj f1) ?_
  refine cw_args0 (first := [.ref ad]) C.1 hkw hks tk1 I1 n1.rep (sr.next r n1.toNx0) a3 fun s2 H2 ι2 h2 zs ys qs tk2 I2 n2 r2 p3 a4 => ?_
  exact withTk tk2 (run_call (us := [Value.ref ad]) (vs := [V.ref ad]) C hr tkx I2 n2.rep (.cons rfl .nil) r2 (.cons (Rep.next n1.rep n2.toNx0 p1) .nil) p3 a4)

/-- what the top tells of a class that is made -/
def MkOk (X : Cx) (G : Gt) (k : Nat) (c i n : Nat) (ks : List Str) (g : List W → List W → List W) (fn : List W → M W) : Prop :=
  Mk X.K (G.cl c) (G.fn i) ∧ CallOk X G k i (n + 1) ks g fn
def zmkW (fr : Bool) (c : Nat) (n m : Nat) (g : List W → List W → List W) (fn : List W → M W) (ws qs : List W) : M W := fun h => match zcall (n + 1) m g fn (.ref h.n :: ws) qs (h.push (.ins c [])) with
  | .ok .non h' => if fr = true then (match h'.get h.n with
    | some (.ins c' fs) => .ok (.obj c' fs) (h'.put h.n .dead)
    | _ => .err) else .ok (.ref h.n) h'
  | .ok _ _ => .err
  | .exc e fs h' => .exc e fs h'
  | .err => .err
theorem run_mk {fr : Bool} {c i n : Nat} {g : List W → List W → List W} {fn : List W → M W} (Mo : MkOk X G k c i n ks g fn) (hr : Room (k + 1) X.A) (tkx : Takes X Wf) {pins : List (Addr × Obj)} {s : Shared} {σ : St} {H : Hp} {ι : Nat → Addr} {h : Hz} {Q : VK}
    {us zs : List Value} {vs ys : List V} {ws qs : List W} (I : Inv X pins σ H s) (r : HRep X.K G ι h H) (r1 : Vals vs us) (r2 : Vals ys zs) (p1 : Reps X.K G ι h H ws vs) (p2 : Reps X.K G ι h H qs ys)
    (aft : Aft X.K G Wf σ (rpW X.K G) ι h H (zmkW fr c n ks.length g fn ws qs h) Q) : wpAny (model X.prog X.w) X.A (call (.ref (G.cl c)) us (ks.zip zs)) (EP X pins σ Q) X.xe s := by
  obtain ⟨M, kp, fd, ps, F, B⟩ := Mo
  have fx : H (s.heap.objs.size + 1) = none := I.hok.fresh (Nat.le_succ _)
  have fd' : H s.heap.objs.size = none := I.hok.fresh (Nat.le_refl _)
  have I2 := Inv.made (C := G.cl c) I
  have nb := Next.beside (o := .own (s.heap.objs.size + 1)) r fd'
  have fx2 : (upd H s.heap.objs.size (.own (s.heap.objs.size + 1))) (s.heap.objs.size + 1) = none := by rw [upd_ne (Nat.ne_of_gt (Nat.lt_succ_self _))]; exact fx
  have na := Next.alloc (c := .ins c []) (o := .ins (G.cl c) s.heap.objs.size []) nb.rep fx2 ⟨s.heap.objs.size, [], upd_same, .nil⟩
  have nn := nb.trans na
  generalize hH2 : upd (upd H s.heap.objs.size (.own (s.heap.objs.size + 1))) (s.heap.objs.size + 1) (.ins (G.cl c) s.heap.objs.size []) = H2 at I2 na nn
  generalize hι2 : ext1 ι h.n (s.heap.objs.size + 1) = ι2 at na nn
  have eι : ι2 h.n = s.heap.objs.size + 1 := by rw [← hι2, ext1_at]
  have pself : Rep X.K G ι2 (h.push (.ins c [])) H2 (.ref h.n) (.ref (s.heap.objs.size + 1)) := by
    rw [← eι]
    exact .ref _ (Nat.lt_succ_self _)
  by_cases hl : (W.ref h.n :: ws).length = n + 1 ∧ qs.length = ks.length
  · have l1 : (Value.ref (s.heap.objs.size + 1) :: us).length = n + 1 := by
      have e1 := hl.1
      have e2 := r1.length
      have e3 := p1.length
      simp only [List.length_cons] at e1 ⊢
      omega
    have l2 : zs.length = ks.length := by rw [← r2.length, ← p2.length]; exact hl.2
    obtain ⟨bs, vs', hb, rv, rp, hl'⟩ := B _ H2 ι2 (h.push (.ins c [])) (Value.ref (s.heap.objs.size + 1) :: us) zs (V.ref (s.heap.objs.size + 1) :: vs) ys (.ref h.n :: ws) qs I2.kIn na.rep l1 l2 (.cons rfl r1) r2 (.cons pself (Reps.next r nn.toNx0 p1)) (Reps.next r nn.toNx0 p2)
    have efn : zcall (n + 1) ks.length g fn (.ref h.n :: ws) qs (h.push (.ins c [])) = fn (g (.ref h.n :: ws) qs) (h.push (.ins c [])) := by
      unfold zcall
      rw [if_pos hl]
    unfold zmkW at aft
    rw [efn] at aft
    refine wpAny_call (make_map (f := G.fn i) I.kIn M.makes M.init (beq_iff_eq.mp M.fn) (codeAny_mono (F.run _ X.stack _ H2 ⟨Value.ref (s.heap.objs.size + 1) :: us, ks.zip zs⟩ bs vs' (fun v H3 => v = .non ∧ Q (.ref (s.heap.objs.size + 1)) H3)
      (fun cls d H' => Wf cls d σ H') (hr.make (G.cl c) us (ks.zip zs)) (I2.env0.make (G.cl c) us (ks.zip zs)) hb rv ⟨hl', G.no, ι2, h.push (.ins c []), g (.ref h.n :: ws) qs, na.rep, rp, ?_⟩) fun r s' hq' => ?_))
    · cases q : fn (g (.ref h.n :: ws) qs) (h.push (.ins c [])) with
      | err => rw [q] at aft; exact aft
      | exc c fs h' =>
        rw [q] at aft
        exact fun ι' H' d n' q => aft ι' H' d (nn.trans n') q
      | ok w h' =>
        rw [q] at aft
        intro ι3 H3 v3 n3 p3
        have e3 : ι3 h.n = s.heap.objs.size + 1 := by rw [n3.ext _ (Nat.lt_succ_self _), eι]
        have hn3 : h.n < h'.n := Nat.lt_of_lt_of_le (Nat.lt_succ_self _) n3.le
        cases p3 with
        | non =>
          refine ⟨rfl, ?_⟩
          have aft2 : Aft X.K G Wf σ (rpW X.K G) ι h H (if fr = true then (match h'.get h.n with
              | some (.ins c' fs) => .ok (.obj c' fs) (h'.put h.n .dead)
              | _ => .err) else .ok (.ref h.n) h') Q := aft
          split at aft2
          · cases g3 : h'.get h.n with
            | none => rw [g3] at aft2; exact False.elim aft2
            | some d =>
              rw [g3] at aft2
              cases d with
              | ins c' fs =>
                have z := aft2 ι3 H3 (.ref (ι3 h.n)) ((nn.trans n3).trans (Next.freeze n3.rep g3)) (Rep.frozen n3.rep g3)
                rw [e3] at z
                exact z
              | lst xs => exact False.elim aft2
              | dct kvs => exact False.elim aft2
              | dead => exact False.elim aft2
          · have z := aft2 ι3 H3 (.ref (ι3 h.n)) (nn.trans n3) (.ref _ hn3)
            rw [e3] at z
            exact z
        | _ => exact False.elim aft
    · cases r with
      | error e => exact tkx e s' (XE.of_call I2 (fun _ _ _ q => q) hq')
      | ok fl =>
        cases fl with
        | ret u =>
          obtain ⟨v, H', I3, rv, ev, q3⟩ := I2.after hq'
          subst ev
          exact ⟨rv, ⟨V.ref (s.heap.objs.size + 1), H', I3, rfl, q3⟩⟩
        | next => exact False.elim hq'
        | brk => exact False.elim hq'
        | cont => exact False.elim hq'
  · unfold zmkW zcall at aft
    rw [if_neg hl] at aft
    exact False.elim aft
theorem pz_mk {fr : Bool} {c i n : Nat} {g : List W → List W → List W} {fn : List W → M W} (Mo : MkOk X G k c i n ks g fn) (hr : Room (k + 1) X.A) (tkx : Takes X Wf) (hg : Gl X x) (hm : X.mg x = some (.ref (G.cl c)))
    (ha : PZA b X G Wf (e :: es) mr) (hkw : PZK b X G Wf kws mk) (hst : (e :: es).all (fun e => !isStar e) = true) (hks : kwNames kws = some ks) (hdb : (x == ("__debug__" : Str)) = false) :
    PZ b X G Wf (.Call (.Name x p) (e :: es) kws pos) (zfun mr mk (zmkW fr c n ks.length g fn)) := by
  refine ⟨fun pins s σ H ι h ρ Q tk I r sr aft => ?_⟩
  refine wpAny_Call_Name_kw (ld_glob I hg hm ?_ hdb)
  refine cw_args Mo.1.kp ha hkw hst hks tk I r sr aft fun s2 H2 ι2 h2 us zs vs ys ws qs tk2 I2 n2 r1 r2 p1 p2 a2 => ?_
  exact withTk tk2 (run_mk Mo hr tkx I2 n2.rep r1 r2 p1 p2 a2)
theorem pz_mk0 {fr : Bool} {c i n : Nat} {g : List W → List W → List W} {fn : List W → M W} (Mo : MkOk X G k c i n ks g fn) (hr : Room (k + 1) X.A) (tkx : Takes X Wf) (hg : Gl X x) (hm : X.mg x = some (.ref (G.cl c)))
    (hkw : PZK b X G Wf kws mk) (hks : kwNames kws = some ks) (hdb : (x == ("__debug__" : Str)) = false) :
    PZ b X G Wf (.Call (.Name x p) [] kws pos) (zfun0 mk (zmkW fr c n ks.length g fn)) := by
  refine ⟨fun pins s σ H ι h ρ Q tk I r sr aft => ?_⟩
  refine wpAny_Call_Name_kw (ld_glob I hg hm ?_ hdb)
  refine cw_args0 Mo.1.kp hkw hks tk I r sr aft fun s2 H2 ι2 h2 zs ys qs tk2 I2 n2 r2 p2 a2 => ?_
  exact withTk tk2 (run_mk (us := []) Mo hr tkx I2 n2.rep .nil r2 .nil p2 a2)
end
end Z

set_option Elab.async false
set_option linter.all false
set_option maxRecDepth 100000
set_option maxHeartbeats 1000000
set_option autoImplicit false
namespace Z
open PySem L2
open PyProof.Rows hiding St

section
variable {b : Bool} {X : Cx} {G : Gt} {Wf : WX} {a c d e : Expr} {m ma mc md : Ev → M W} {pos : Pos}

/-- a tuple (true) or a list (false), its items -/
def zseq (w : W) : M (Bool × List W) := match w with
  | .tup ws => ret (true, ws)
  | .fz ws => ret (false, ws)
  | .ref i => fun h => match h.get i with
    | some (.lst xs) => .ok (false, xs) h
    | _ => .err
  | _ => bad
def SqB (K : PySem.W.Frag) (H : Hp) (t : Bool) (a : Addr) (vs : List V) : Prop := if t = true then SqT K H a vs else SqL K H a vs
theorem seq_after {α β : Type} {P : RP α β} {σ : St} {ι : Nat → Addr} {h : Hz} {H : Hp} {w : W} {v : V} {kk : Bool × List W → M α} {Q : β → Hp → Prop} (r : HRep X.K G ι h H) (p : Rep X.K G ι h H w v) (q : Aft X.K G Wf σ P ι h H (bnd (zseq w) kk h) Q) :
    ∃ t ws ad vs, v = .ref ad ∧ SqB X.K H t ad vs ∧ Reps X.K G ι h H ws vs ∧ Aft X.K G Wf σ P ι h H (kk (t, ws) h) Q ∧ (t = true → w = .tup ws) := by
  cases p with
  | tup e rs => exact ⟨true, _, _, _, rfl, e, rs, q, fun _ => rfl⟩
  | fz e rs => exact ⟨false, _, _, _, rfl, e.sq, rs, q, fun z => nomatch z⟩
  | ref i hi =>
    have bad_ : ∀ o : Option Cell, h.get i = o → (∀ xs, o ≠ some (.lst xs)) → bnd (zseq (.ref i)) kk h = .err := fun o g nd => by
      unfold bnd zseq
      dsimp only
      rw [g]
      cases o with
      | none => rfl
      | some o => cases o <;> first | rfl | exact absurd rfl (nd _)
    cases g : h.get i with
    | none => rw [bad_ _ g (by simp)] at q; exact False.elim q
    | some o =>
      cases o with
      | lst xs =>
        obtain ⟨vs, ea, rs⟩ := r.cell i _ g
        have e : bnd (zseq (.ref i)) kk h = kk (false, xs) h := by
          unfold bnd zseq
          simp only [g]
        rw [e] at q
        exact ⟨false, _, _, _, rfl, SqL.of ea, rs, q, fun z => nomatch z⟩
      | ins c fs => rw [bad_ _ g (by simp)] at q; exact False.elim q
      | dct kvs => rw [bad_ _ g (by simp)] at q; exact False.elim q
      | dead => rw [bad_ _ g (by simp)] at q; exact False.elim q
  | _ => exact False.elim q
/-- a list that may change: its number, its items -/
def zlref (w : W) : M (Nat × List W) := match w with
  | .ref i => fun h => match h.get i with
    | some (.lst xs) => .ok (i, xs) h
    | _ => .err
  | _ => bad
theorem lref_after {α β : Type} {P : RP α β} {σ : St} {ι : Nat → Addr} {h : Hz} {H : Hp} {w : W} {v : V} {kk : Nat × List W → M α} {Q : β → Hp → Prop} (r : HRep X.K G ι h H) (p : Rep X.K G ι h H w v) (q : Aft X.K G Wf σ P ι h H (bnd (zlref w) kk h) Q) :
    ∃ i xs vs, w = .ref i ∧ v = .ref (ι i) ∧ h.get i = some (.lst xs) ∧ H (ι i) = some (.lst vs) ∧ Reps X.K G ι h H xs vs ∧ Aft X.K G Wf σ P ι h H (kk (i, xs) h) Q := by
  cases p with
  | ref i hi =>
    have bad_ : ∀ o : Option Cell, h.get i = o → (∀ xs, o ≠ some (.lst xs)) → bnd (zlref (.ref i)) kk h = .err := fun o g nd => by
      unfold bnd zlref
      dsimp only
      rw [g]
      cases o with
      | none => rfl
      | some o => cases o <;> first | rfl | exact absurd rfl (nd _)
    cases g : h.get i with
    | none => rw [bad_ _ g (by simp)] at q; exact False.elim q
    | some o =>
      cases o with
      | lst xs =>
        obtain ⟨vs, ea, rs⟩ := r.cell i _ g
        have e : bnd (zlref (.ref i)) kk h = kk (i, xs) h := by
          unfold bnd zlref
          simp only [g]
        rw [e] at q
        exact ⟨i, xs, vs, rfl, rfl, g, ea, rs, q⟩
      | ins c fs => rw [bad_ _ g (by simp)] at q; exact False.elim q
      | dct kvs => rw [bad_ _ g (by simp)] at q; exact False.elim q
      | dead => rw [bad_ _ g (by simp)] at q; exact False.elim q
  | _ => exact False.elim q
/-- the list's items are others now -/
theorem put_after {σ : St} {ι : Nat → Addr} {h : Hz} {H : Hp} {i : Nat} {xs ys : List W} {us : List V} {Q : VK} (r : HRep X.K G ι h H) (g : h.get i = some (.lst xs)) (p : Reps X.K G ι h H ys us)
    (q : Aft X.K G Wf σ (rpW X.K G) ι h H (bnd (store i (.lst ys)) (fun _ => ret .non) h) Q) : Q .non (upd H (ι i) (.lst us)) := by
  have n0 : Nx0 ι h H ι (h.put i (.lst ys)) (upd H (ι i) (.lst us)) := Nx0.store g rfl
  have n := Next.store (o := .lst us) (c := .lst ys) r g rfl rfl ⟨us, upd_same, p.next r n0⟩
  exact q ι _ .non n .non

abbrev S (l : List Nat) : Str := ⟨l.toArray⟩
theorem S_app (x y : List Nat) : S x ++ S y = S (x ++ y) := by
  show Str.append _ _ = _
  simp [Str.append, S]
theorem S_len (x : List Nat) : (S x).length = x.length := by simp [Str.length, S]
theorem S_tl (x : List Nat) : (S x).cps.toList = x := by simp [S]
theorem S_of (x : Str) : S x.cps.toList = x := by cases x; simp [S]

def zadd (x y : W) : M W := match x, y with
  | .int i, .int j => ret (.int (i + j))
  | .str s, .str t => if s.length + t.length ≤ LIM then ret (.str (s ++ t)) else bad
  | .tup xs, .tup ys => if xs.length + ys.length ≤ LIM then ret (.tup (xs ++ ys)) else bad
  | .ref i, .ref j => bnd (zlref (.ref i)) fun p => bnd (zlref (.ref j)) fun q => zlstW (p.2 ++ q.2)
  | _, _ => bad
theorem op_zadd : OpZ X G Wf (binaryOp .Add) zadd := by
  intro pins s σ H ι h x y v1 v2 u1 u2 Q I r p1 p2 r1 r2 aft
  cases p1 with
  | int i =>
    cases p2 with
    | int j => exact op_add pins s σ H _ _ u1 u2 Q I r1 r2 ⟨i, j, rfl, rfl, Aft.ret (P := rpW X.K G) aft r (.int _)⟩
    | _ => exact False.elim aft
  | str x =>
    cases p2 with
    | str y =>
      have aft2 : Aft X.K G Wf σ (rpW X.K G) ι h H ((if x.length + y.length ≤ LIM then ret (.str (x ++ y)) else bad) h) Q := aft
      split at aft2
      · rename_i hl
        refine op_add_str pins s σ H _ _ u1 u2 Q I r1 r2 ⟨_, _, rfl, rfl, by rw [← lim_eq]; simpa [Str.length] using hl, ?_⟩
        rw [S_app]
        exact Aft.ret (P := rpW X.K G) aft2 r (.str _)
      · exact False.elim aft2
    | _ => exact False.elim aft
  | @tup xs ad vs ea rs =>
    cases p2 with
    | @tup ys bd us eb rt =>
      have aft2 : Aft X.K G Wf σ (rpW X.K G) ι h H ((if xs.length + ys.length ≤ LIM then ret (.tup (xs ++ ys)) else bad) h) Q := aft
      split at aft2
      · rename_i hl
        refine op_catA pins s σ H _ _ u1 u2 Q I r1 r2 ⟨_, _, _, _, rfl, rfl, ea, eb, by rw [← rs.length, ← rt.length, ← lim_eq]; exact hl, fun e0 => ?_, fun _ e0 => ?_, fun _ _ q hq => ?_⟩
        · subst e0
          cases rs
          exact Aft.ret (P := rpW X.K G) aft2 r (.tup eb rt)
        · subst e0
          cases rt
          rw [List.append_nil] at aft2
          exact Aft.ret (P := rpW X.K G) aft2 r (.tup ea rs)
        · have n := Next.beside (o := .tup (vs ++ us)) r hq
          exact aft2 ι _ _ n (.tup (SqT.of upd_same) ((rs.append rt).next r n.toNx0))
      · exact False.elim aft2
    | _ => exact False.elim aft
  | ref i hi =>
    cases p2 with
    | ref j hj =>
      have aft2 : Aft X.K G Wf σ (rpW X.K G) ι h H (bnd (zlref (.ref i)) (fun p => bnd (zlref (.ref j)) fun q => zlstW (p.2 ++ q.2)) h) Q := aft
      obtain ⟨i', xs, vs, e1, e2, g1, ea, rs, a3⟩ := lref_after r (.ref i hi) aft2
      obtain ⟨j', ys, us, e3, e4, g2, eb, rt, a4⟩ := lref_after r (.ref j hj) a3
      cases e1
      cases e3
      obtain ⟨z, q⟩ := lst_after r (rs.append rt) a4
      refine op_cat pins s σ H _ _ u1 u2 Q I r1 r2 ⟨_, _, _, _, rfl, rfl, ea, eb, ?_, q⟩
      rw [List.length_append] at z
      exact z
    | _ => exact False.elim aft
  | _ => exact False.elim aft

def zint2 (f : Int → Int → M W) (x y : W) : M W := match x, y with
  | .int i, .int j => f i j
  | _, _ => bad
theorem op_int2 {F : Value → Value → Sem Value} {f : Int → Int → M W} {C : Int → Int → Prop} {g : Int → Int → V} (ho : OpR X F (rI C g))
    (hf : ∀ i j σ ι h H Q, HRep X.K G ι h H → Aft X.K G Wf σ (rpW X.K G) ι h H (f i j h) Q → C i j ∧ Q (g i j) H) : OpZ X G Wf F (zint2 f) := by
  intro pins s σ H ι h x y v1 v2 u1 u2 Q I r p1 p2 r1 r2 aft
  cases p1 with
  | int i =>
    cases p2 with
    | int j =>
      obtain ⟨hc, q⟩ := hf i j σ ι h H Q r aft
      exact ho pins s σ H _ _ u1 u2 Q I r1 r2 ⟨i, j, rfl, rfl, hc, q⟩
    | _ => exact False.elim aft
  | _ => exact False.elim aft
theorem op_int0 {F : Value → Value → Sem Value} {f : Int → Int → W} {g : Int → Int → V} (ho : OpR X F (rI0 g)) (hf : ∀ i j ι h H, Rep X.K G ι h H (f i j) (g i j)) : OpZ X G Wf F (zint2 fun i j => ret (f i j)) := by
  intro pins s σ H ι h x y v1 v2 u1 u2 Q I r p1 p2 r1 r2 aft
  cases p1 with
  | int i =>
    cases p2 with
    | int j => exact ho pins s σ H _ _ u1 u2 Q I r1 r2 ⟨i, j, rfl, rfl, Aft.ret (P := rpW X.K G) aft r (hf i j ι h H)⟩
    | _ => exact False.elim aft
  | _ => exact False.elim aft
def zsub : W → W → M W := zint2 fun i j => ret (.int (i - j))
theorem op_zsub : OpZ X G Wf (binaryOp .Sub) zsub := op_int0 op_sub fun _ _ _ _ _ => .int _
def P64 : Int := 18446744073709551616
def zmul : W → W → M W := zint2 fun i j => if (decide (-P64 < i) && decide (i < P64)) || (decide (-P64 < j) && decide (j < P64)) then ret (.int (i * j)) else bad
theorem op_zmul : OpZ X G Wf (binaryOp .Mult) zmul := op_int2 op_mul fun i j σ ι h H Q r a => by
  split at a
  · rename_i hc
    refine ⟨?_, Aft.ret (P := rpW X.K G) a r (.int _)⟩
    unfold CMul
    simp only [Bool.or_eq_true, Bool.and_eq_true, decide_eq_true_eq] at hc
    exact hc
  · exact False.elim a
def zmod : W → W → M W := zint2 fun i j => if decide (0 < j) = true then ret (.int (i % j)) else bad
theorem op_zmod : OpZ X G Wf (binaryOp .Mod) zmod := op_int2 op_mod fun i j σ ι h H Q r a => by
  split at a
  · rename_i hc
    exact ⟨of_decide_eq_true hc, Aft.ret (P := rpW X.K G) a r (.int _)⟩
  · exact False.elim a
def zfdiv : W → W → M W := zint2 fun i j => if (decide (0 < j) && decide (j < 1073741824)) = true then ret (.int (i / j)) else bad
theorem op_zfdiv : OpZ X G Wf (binaryOp .FloorDiv) zfdiv := op_int2 op_fdiv fun i j σ ι h H Q r a => by
  split at a
  · rename_i hc
    simp only [Bool.and_eq_true, decide_eq_true_eq] at hc
    exact ⟨hc, Aft.ret (P := rpW X.K G) a r (.int _)⟩
  · exact False.elim a
def zpow : W → W → M W := zint2 fun i j => if (decide (0 ≤ j) && decide (j ≤ 1000000) && decide (i.natAbs < 18446744073709551616)) = true then ret (.int (i ^ j.toNat)) else bad
theorem op_zpow : OpZ X G Wf (binaryOp .Pow) zpow := op_int2 op_pow fun i j σ ι h H Q r a => by
  split at a
  · rename_i hc
    simp only [Bool.and_eq_true, decide_eq_true_eq] at hc
    exact ⟨⟨hc.1.1, hc.1.2, hc.2⟩, Aft.ret (P := rpW X.K G) a r (.int _)⟩
  · exact False.elim a
def zneg (x : W) : M W := match x with
  | .int i => ret (.int (-i))
  | _ => bad
theorem un_zneg : UnZ X G Wf (unaryOp .USub) zneg := by
  intro pins s σ H ι h x v1 u1 Q I r p1 r1 aft
  cases p1 with
  | int i => exact un_neg pins s σ H _ u1 Q I r1 ⟨i, rfl, Aft.ret (P := rpW X.K G) aft r (.int _)⟩
  | _ => exact False.elim aft
def zlt : W → W → M W := zint2 fun i j => ret (.bl (decide (i < j)))
def zle : W → W → M W := zint2 fun i j => ret (.bl (decide (i ≤ j)))
def zgt : W → W → M W := zint2 fun i j => ret (.bl (decide (j < i)))
def zge : W → W → M W := zint2 fun i j => ret (.bl (decide (j ≤ i)))
theorem op_zlt : OpZ X G Wf (compareOp .Lt) zlt := op_int0 op_lt fun _ _ _ _ _ => .bl _
theorem op_zle : OpZ X G Wf (compareOp .LtE) zle := op_int0 op_le fun _ _ _ _ _ => .bl _
theorem op_zgt : OpZ X G Wf (compareOp .Gt) zgt := op_int0 op_gt fun _ _ _ _ _ => .bl _
theorem op_zge : OpZ X G Wf (compareOp .GtE) zge := op_int0 op_ge fun _ _ _ _ _ => .bl _

def isNonW : W → Bool
  | .non => true
  | _ => false
theorem non_iff {ι : Nat → Addr} {h : Hz} {H : Hp} {w : W} {v : V} (p : Rep X.K G ι h H w v) : decide (v = .non) = isNonW w := by
  cases p <;> first | rfl | exact decide_eq_false (fun z => nomatch z)
def zis (x y : W) : M W := match y with
  | .non => ret (.bl (isNonW x))
  | .bl k => match x with
    | .bl j => ret (.bl (j == k))
    | _ => bad
  | _ => bad
def zisnot (x y : W) : M W := match y with
  | .non => ret (.bl (!isNonW x))
  | .bl k => match x with
    | .bl j => ret (.bl (!(j == k)))
    | _ => bad
  | _ => bad
theorem beq_dec (j k : Bool) : decide (j = k) = (j == k) := by cases j <;> cases k <;> rfl
theorem op_zis : OpZ X G Wf (compareOp .Is) zis := by
  intro pins s σ H ι h x y v1 v2 u1 u2 Q I r p1 p2 r1 r2 aft
  cases p2 with
  | non =>
    refine op_isN pins s σ H _ _ u1 u2 Q I r1 r2 ⟨rfl, ?_⟩
    rw [non_iff p1]
    exact Aft.ret (P := rpW X.K G) aft r (.bl _)
  | bl k =>
    cases p1 with
    | bl j =>
      refine op_isBl pins s σ H _ _ u1 u2 Q I r1 r2 ⟨_, _, rfl, rfl, ?_⟩
      rw [beq_dec]
      exact Aft.ret (P := rpW X.K G) aft r (.bl _)
    | _ => exact False.elim aft
  | _ => exact False.elim aft
theorem op_zisnot : OpZ X G Wf (compareOp .IsNot) zisnot := by
  intro pins s σ H ι h x y v1 v2 u1 u2 Q I r p1 p2 r1 r2 aft
  cases p2 with
  | non =>
    refine op_notN pins s σ H _ _ u1 u2 Q I r1 r2 ⟨rfl, ?_⟩
    rw [non_iff p1]
    exact Aft.ret (P := rpW X.K G) aft r (.bl _)
  | bl k =>
    cases p1 with
    | bl j =>
      refine op_notBl pins s σ H _ _ u1 u2 Q I r1 r2 ⟨_, _, rfl, rfl, ?_⟩
      rw [beq_dec]
      exact Aft.ret (P := rpW X.K G) aft r (.bl _)
    | _ => exact False.elim aft
  | _ => exact False.elim aft

def zix (x y : W) : M W := match y with
  | .int i => match x with
    | .str s => if s.length ≤ LIM then ofO ((atI s i).map fun c => .str [c]) else bad
    | _ => bnd (zseq x) fun p => ofO (atI p.2 i)
  | _ => bad
theorem Reps.atI {ι : Nat → Addr} {h : Hz} {H : Hp} {ws : List W} {vs : List V} {i : Int} {w : W} (rs : Reps X.K G ι h H ws vs) (e : atI ws i = some w) : ∃ v, L2.atI vs i = some v ∧ Rep X.K G ι h H w v := by
  unfold L2.atI at e ⊢
  rw [← rs.length]
  cases q : ixN ws.length i with
  | none => rw [q] at e; cases e
  | some j =>
    rw [q] at e
    obtain ⟨v, e1, e2⟩ := rs.get (i := j) e
    exact ⟨v, e1, e2⟩
theorem ix_z {value slice : Expr} {pins : List (Addr × Obj)} {s : Shared} {σ : St} {H : Hp} {ι : Nat → Addr} {h : Hz} {x y : W} {v1 v2 : V} {u1 u2 : Value} {Q : VK} (I : Inv X pins σ H s) (r : HRep X.K G ι h H) (p1 : Rep X.K G ι h H x v1) (p2 : Rep X.K G ι h H y v2) (r1 : RelV v1 u1) (r2 : RelV v2 u2)
    (aft : Aft X.K G Wf σ (rpW X.K G) ι h H (zix x y h) Q) (hs : subscripted slice false u1 u2 = operate [u1, u2] (getItem u1 u2)) : wpAny (model X.prog X.w) X.A (subscriptTail value slice u1 u2) (EP X pins σ Q) X.xe s := by
  cases p2 with
  | int i =>
    have seqs : (∀ z, x ≠ .str z) → wpAny (model X.prog X.w) X.A (subscriptTail value slice u1 u2) (EP X pins σ Q) X.xe s := fun nx => by
      have aft2 : Aft X.K G Wf σ (rpW X.K G) ι h H (bnd (zseq x) (fun p => ofO (atI p.2 i)) h) Q := by
        cases x <;> first | exact aft | exact absurd rfl (nx _)
      obtain ⟨t, ws, ad, vs, e1, sq, rs, a2, tt⟩ := seq_after r p1 aft2
      obtain ⟨w, ew, a3⟩ := ofO_after a2
      obtain ⟨v, ev, pv⟩ := rs.atI ew
      have q := Aft.ret (P := rpW X.K G) a3 r pv
      cases t with
      | true => exact ix_seq value slice pins s σ H _ _ u1 u2 Q I r1 r2 (.inr (.inl ⟨ad, vs, i, v, e1, rfl, sq, ev, q⟩)) hs
      | false => exact ix_seq value slice pins s σ H _ _ u1 u2 Q I r1 r2 (.inl ⟨ad, vs, i, v, e1, rfl, sq, ev, q⟩) hs
    cases p1 with
    | str z =>
      have aft2 : Aft X.K G Wf σ (rpW X.K G) ι h H ((if z.length ≤ LIM then ofO ((atI z i).map fun c => .str [c]) else bad) h) Q := aft
      split at aft2
      · rename_i hl
        obtain ⟨w, ew, a3⟩ := ofO_after aft2
        cases q : atI z i with
        | none => rw [q] at ew; cases ew
        | some c =>
          rw [q] at ew
          cases ew
          refine ix_seq value slice pins s σ H _ _ u1 u2 Q I r1 r2 (.inr (.inr ⟨S z, i, c, rfl, rfl, ?_, ?_, Aft.ret (P := rpW X.K G) a3 r (.str [c])⟩)) hs
          · rw [S_len, ← lim_eq]; exact hl
          · rw [S_tl]; exact q
      · exact False.elim aft2
    | _ => exact seqs (fun z e => by cases e)
  | _ => exact False.elim aft
theorem pz_ix (ha : PZ b X G Wf a ma) (hc : PZ b X G Wf c mc) (hs : PlainIx c) : PZ b X G Wf (.Subscript a c pos) (zbin zix ma mc) := by
  refine ⟨fun pins s σ H ι h ρ Q tk I r sr aft => ?_⟩
  refine Subscript_ (thn (ha.run pins s σ H ι h ρ _ tk I r sr (aft.bnd (P := rpW X.K G))) fun v s1 ⟨tk1, v1, H1, I1, r1, ι1, h1, w1, n1, p1, a1⟩ => ?_)
  refine thn (hc.run pins s1 σ H1 ι1 h1 ρ _ tk1 I1 n1.rep (sr.next r n1.toNx0) (a1.bnd (P := rpW X.K G))) fun u s2 ⟨tk2, v2, H2, I2, r2, ι2, h2, w2, n2, p2, a2⟩ => ?_
  exact withTk tk2 (ix_z I2 n2.rep (Rep.next n1.rep n2.toNx0 p1) p2 r1 r2 a2 (hs _ _))

def cutW {α : Type} (xs : List α) (lo hi : Option Int) : List α := (xs.drop (HT.sIx xs.length 0 lo)).take (HT.sIx xs.length xs.length hi - HT.sIx xs.length 0 lo)
def zcut (x : W) (lo hi : Option Int) : M W := match x with
  | .str s => if s.length ≤ LIM then ret (.str (cutW s lo hi)) else bad
  | .tup ws => ret (.tup (cutW ws lo hi))
  | _ => bnd (zseq x) fun p => new (.lst (cutW p.2 lo hi))
theorem Reps.cut {ι : Nat → Addr} {h : Hz} {H : Hp} {ws : List W} {vs : List V} (rs : Reps X.K G ι h H ws vs) (lo hi : Option Int) : Reps X.K G ι h H (cutW ws lo hi) (cutV vs lo hi) := by
  unfold cutW cutV
  rw [rs.length]
  exact (rs.drop _).take _
theorem cut_whole {α : Type} {xs : List α} {lo hi : Option Int} (h : HT.sIx xs.length 0 lo = 0 ∧ HT.sIx xs.length xs.length hi = xs.length) : cutW xs lo hi = xs := by
  unfold cutW
  rw [h.1, h.2, List.drop_zero, Nat.sub_zero, List.take_length]
theorem sl_z {pins : List (Addr × Obj)} {s : Shared} {σ : St} {H : Hp} {ι : Nat → Addr} {h : Hz} {x : W} {v1 : V} {u1 vl vu : Value} {lo hi : Option Int} {sl : Addr} {Q : VK} (I : Inv X pins σ H s) (r : HRep X.K G ι h H) (p1 : Rep X.K G ι h H x v1) (r1 : RelV v1 u1)
    (hs : s.heap.IsSliceOf sl vl vu .none) (pl : IsPart vl lo) (pu : IsPart vu hi) (aft : Aft X.K G Wf σ (rpW X.K G) ι h H (zcut x lo hi h) Q) :
    ∃ T id, typeLookup (.type T) "__getitem__" = pure (some (.builtin id)) ∧ s.TypeIs u1 T ∧ wpAny (model X.prog X.w) X.A (getItem u1 (.ref sl)) (EP X pins σ Q) X.xe s := by
  have lists : (∀ z, x ≠ .str z) → (∀ z, x ≠ .tup z) → ∃ T id, typeLookup (.type T) "__getitem__" = pure (some (.builtin id)) ∧ s.TypeIs u1 T ∧ wpAny (model X.prog X.w) X.A (getItem u1 (.ref sl)) (EP X pins σ Q) X.xe s := fun nx ny => by
    have aft2 : Aft X.K G Wf σ (rpW X.K G) ι h H (bnd (zseq x) (fun p => new (.lst (cutW p.2 lo hi))) h) Q := by
      cases x <;> first | exact aft | exact absurd rfl (nx _) | exact absurd rfl (ny _)
    obtain ⟨t, ws, ad, vs, e1, sq, rs, a2, tt⟩ := seq_after r p1 aft2
    cases t with
    | true => exact absurd (tt rfl) (ny _)
    | false => exact sl_list pins s σ H _ u1 vl vu lo hi sl Q I r1 hs pl pu ⟨ad, vs, e1, sq, lst_new r (rs.cut lo hi) a2⟩
  cases p1 with
  | str z =>
    have aft2 : Aft X.K G Wf σ (rpW X.K G) ι h H ((if z.length ≤ LIM then ret (.str (cutW z lo hi)) else bad) h) Q := aft
    split at aft2
    · rename_i hl
      refine sl_str pins s σ H _ u1 vl vu lo hi sl Q I r1 hs pl pu ⟨S z, rfl, by rw [S_len, ← lim_eq]; exact hl, ?_⟩
      have e : cutS (S z) lo hi = S (cutW z lo hi) := by
        unfold cutS cutW
        rw [S_tl, S_len]
      rw [e]
      exact Aft.ret (P := rpW X.K G) aft2 r (.str _)
    · exact False.elim aft2
  | @tup ws ad vs ea rs =>
    refine sl_tupA pins s σ H _ u1 vl vu lo hi sl Q I r1 hs pl pu ⟨ad, vs, rfl, ea, fun hw => ?_, fun hw q hq => ?_⟩
    · rw [← rs.length] at hw
      have aft2 : Aft X.K G Wf σ (rpW X.K G) ι h H (ret (.tup (cutW ws lo hi)) h) Q := aft
      rw [cut_whole hw] at aft2
      exact Aft.ret (P := rpW X.K G) aft2 r (.tup ea rs)
    · have n := Next.beside (o := .tup (cutV vs lo hi)) r hq
      exact aft ι _ _ n (.tup (SqT.of upd_same) ((rs.cut lo hi).next r n.toNx0))
  | fz e q => exact lists (fun z e => by cases e) (fun z e => by cases e)
  | ref i hi => exact lists (fun z e => by cases e) (fun z e => by cases e)
  | _ => exact False.elim aft
/-- a bound of a slice -/
def zasI (w : W) : M (Option Int) := match w with
  | .int i => ret (some i)
  | _ => bad
def PZO (b : Bool) (X : Cx) (G : Gt) (Wf : WX) (o : Option Expr) (m : Ev → M (Option Int)) : Prop :=
  ∀ (pins : List (Addr × Obj)) (s : Shared) (σ : St) (H : Hp) (ι : Nat → Addr) (h : Hz) (ρ : Ev) (Q : Option Int → Hp → Prop), Tk b s → Inv X pins σ H s → HRep X.K G ι h H → SRep X.K G ι h H ρ σ → Aft X.K G Wf σ rpE ι h H (m ρ h) Q →
    wpAny (model X.prog X.w) X.A (evalPart o X.env) (fun u s' => Tk b s' ∧ ∃ k H', Inv X pins σ H' s' ∧ IsPart u k ∧ Q k H') X.xe s
theorem pzo_none : PZO b X G Wf none (fun _ => ret none) := by
  intro pins s σ H ι h ρ Q tk I r sr aft
  rw [evalPart_none]
  exact wpAny_pure ⟨tk, none, H, I, .none, Aft.ret (P := rpE) aft r rfl⟩
def zpart (ma : Ev → M W) : Ev → M (Option Int) := fun ρ => bnd (ma ρ) zasI
theorem pzo_some (ha : PZ b X G Wf a ma) : PZO b X G Wf (some a) (zpart ma) := by
  intro pins s σ H ι h ρ Q tk I r sr aft
  rw [evalPart_some]
  refine thn (ha.run pins s σ H ι h ρ _ tk I r sr (aft.bnd (P := rpW X.K G))) fun u s1 ⟨tk1, v1, H1, I1, r1, ι1, h1, w1, n1, p1, a1⟩ => ?_
  cases p1 with
  | int i =>
    obtain ⟨t, rfl⟩ := r1
    exact ⟨tk1, some i, H1, I1, .int i t, Aft.ret (P := rpE) a1 n1.rep rfl⟩
  | _ => exact False.elim a1
def zslice (ma : Ev → M W) (ml mh : Ev → M (Option Int)) : Ev → M W := fun ρ => bnd (ma ρ) fun x => bnd (ml ρ) fun lo => bnd (mh ρ) fun hi => zcut x lo hi
theorem pz_slice {lo hi : Option Expr} {ml mh : Ev → M (Option Int)} {p2 : Pos} (ha : PZ b X G Wf a ma) (hl : PZO b X G Wf lo ml) (hh : PZO b X G Wf hi mh) : PZ b X G Wf (.Subscript a (.Slice lo hi none p2) pos) (zslice ma ml mh) := by
  refine ⟨fun pins s σ H ι h ρ Q tk I r sr aft => ?_⟩
  refine Subscript_ (thn (ha.run pins s σ H ι h ρ _ tk I r sr (aft.bnd (P := rpW X.K G))) fun v s1 ⟨tk1, v1, H1, I1, r1, ι1, h1, w1, n1, p1, a1⟩ => ?_)
  refine wpAny_Slice (thn (hl pins s1 σ H1 ι1 h1 ρ _ tk1 I1 n1.rep (sr.next r n1.toNx0) (a1.bnd (P := rpE))) fun vl s2 ⟨tk2, l, H2, I2, pl, ι2, h2, l', n2, el, a2⟩ => ?_)
  cases el
  refine thn (hh pins s2 σ H2 ι2 h2 ρ _ tk2 I2 n2.rep ((sr.next r n1.toNx0).next n1.rep n2.toNx0) (a2.bnd (P := rpE))) fun vu s3 ⟨tk3, u, H3, I3, pu, ι3, h3, u', n3, eu, a3⟩ => ?_
  cases eu
  rw [evalPart_none]
  refine wpAny_pure ?_
  have I4 : Inv X pins σ H3 { s3 with heap := s3.heap.push { cls := .type "slice", data := .fields #[vl, vu, .none] } } := I3.kept (t' := s3.toks) fun b ob q => Heap.get?_push_of_some _ q
  obtain ⟨T, id, hT, ht, hg⟩ := sl_z I4 n3.rep (Rep.next n1.rep (n2.trans n3).toNx0 p1) r1 (Heap.IsSliceOf.new ..) pl pu a3
  show wpAny (model X.prog X.w) X.A (subscriptTail a (.Slice lo hi none p2) v (.ref s3.heap.objs.size)) _ X.xe { s3 with heap := s3.heap.push { cls := .type "slice", data := .fields #[vl, vu, .none] } }
  have tk4 : Tk b ({ s3 with heap := s3.heap.push { cls := .type "slice", data := .fields #[vl, vu, .none] } } : Shared) := tk3
  exact withTk tk4 (tail_any (ops := [.ref s3.heap.objs.size, v]) ht hT hg (by with_unfolding_all rfl))
end
end Z

set_option Elab.async false
set_option linter.all false
set_option maxRecDepth 100000
set_option maxHeartbeats 1000000
set_option autoImplicit false
namespace Z
open PySem PySem.SeqAt L2
open AutoSeq1 (wpAny_loadPart')
open MeetsSeq MeetsSeq2 MeetsSeq3 SeqRoads2
abbrev lsO (its : Array Value) (n : Nat) (dd : Option Addr) (sl : Array (Option Value)) : Obj := { cls := .type "list", dict := dd, data := .seq its n, slots := sl }
abbrev tpO (its : Array Value) (n : Nat) (dd : Option Addr) (sl : Array (Option Value)) : Obj := { cls := .type "tuple", dict := dd, data := .seq its n, slots := sl }
/-- a list stands at l, N items -/
def LsAt (h : Heap) (l : Addr) (N : Nat) (P : Array Value → Prop) : Prop := ∃ its n dd sl, h.get? l = some (lsO its n dd sl) ∧ its.size = N ∧ P its

section
variable {prog : Program} {w : World} {A : Around} {R : Result → Shared → Prop}
theorem eq_loopB (l b : Addr) (N : Nat) (e : Nat → Bool) (J : Shared → Prop)
    (hl : ∀ s, J s → LsAt s.heap l N fun its => LsAt s.heap b N fun its2 => ∀ i (h1 : i < its.size) (h2 : i < its2.size), wpAny (model prog w) A.in1 (eqBool its[i] its2[i]) (fun r s' => r = e i ∧ J s') (fun x s' => R (.error x) s') s)
    (k : Nat) : ∀ i : Nat, N - i = k → i ≤ N → (∀ s, J s → R (.ok (.ret (.bool (((List.range N).drop i).all e)))) s) → ∀ s, J s →
      wpAny (model prog w) A.in1 (Builtin.«list.__eq__.loop» ⟨[.ref l, .ref b, rawInt i, rawInt 2], []⟩) (GQ.FinOf prog w A R) (fun x s' => R (.error x) s') s := by
  induction k with
  | zero =>
    intro i hk hi fin s h
    obtain ⟨its, n, dd, sl, g1, z1, its2, n2, dd2, sl2, g2, z2, _⟩ := hl s h
    have e0 : i = N := by omega
    have hR := fin s h
    rw [e0, List.drop_of_length_le (by simp)] at hR
    obtain ⟨hp, g, d, tk, os⟩ := s
    wp_walk using wpAny_loadPart' g1, wpAny_loadPart' g2
    have i1 : its[((i : Nat) : Int).toNat]? = none := by simp; omega
    have i2 : its2[((i : Nat) : Int).toNat]? = none := by simp; omega
    rw [i1, i2]
    wp_walk using wpAny_loadPart' g1, wpAny_loadPart' g2
    show R (.ok (.ret (.bool (its.size == its2.size)))) _
    rw [z1, z2]
    simpa using hR
  | succ k ih =>
    intro i hk hi fin s h
    obtain ⟨its, n, dd, sl, g1, z1, its2, n2, dd2, sl2, g2, z2, turn⟩ := hl s h
    have l1 : i < its.size := by omega
    have l2 : i < its2.size := by omega
    have ht := turn i l1 l2
    have hd : (List.range N).drop i = i :: (List.range N).drop (i + 1) := by
      rw [List.drop_eq_getElem_cons (by simp; omega)]; simp
    rw [hd, List.all_cons] at fin
    obtain ⟨hp, g, d, tk, os⟩ := s
    wp_walk using wpAny_loadPart' g1, wpAny_loadPart' g2
    have i1 : its[((i : Nat) : Int).toNat]? = some its[i] := by simp [l1]
    have i2 : its2[((i : Nat) : Int).toNat]? = some its2[i] := by simp [l2]
    have hc : ((i : Int) + 1) = ((i + 1 : Nat) : Int) := by omega
    rw [i1, i2]
    refine wpAny_bind (wpAny_mono ht (fun r s2 h2 => ?_) fun _ _ x => x)
    obtain ⟨hr, h2⟩ := h2
    subst hr
    cases he : e i with
    | true =>
      rw [he] at fin
      have hrec := ih (i + 1) (by omega) (by omega) (by simpa using fin) s2 h2
      obtain ⟨hp2, g3, d2, tk2, os2⟩ := s2
      wp_walk
      rw [hc]
      exact ⟨plainId_quiet plain_eq_loop _, codeAny_builtin entry_eq_loop (by
        rw [Around.under_plainId plain_eq_loop _]; exact hrec)⟩
    | false =>
      rw [he] at fin
      have hR := fin s2 h2
      obtain ⟨jts, k1, dd3, sl3, g4, z3, jts2, k2, dd4, sl4, g5, z4, _⟩ := hl s2 h2
      obtain ⟨hp2, g3, d2, tk2, os2⟩ := s2
      wp_walk using wpAny_loadPart' g4, wpAny_loadPart' g5
      have j1 : jts[((i : Nat) : Int).toNat]? = some (jts[i]'(by omega)) := by simp
      have j2 : jts2[((i : Nat) : Int).toNat]? = some (jts2[i]'(by omega)) := by simp
      rw [j1, j2]
      wp_walk
      simpa using hR
theorem list_eqB (l b : Addr) (N : Nat) (e : Nat → Bool) (J : Shared → Prop)
    (hl : ∀ s, J s → LsAt s.heap l N fun its => LsAt s.heap b N fun its2 => ∀ i (h1 : i < its.size) (h2 : i < its2.size), wpAny (model prog w) A.in1 (eqBool its[i] its2[i]) (fun r s' => r = e i ∧ J s') (fun x s' => R (.error x) s') s)
    (fin : ∀ s, J s → R (.ok (.ret (.bool ((List.range N).all e)))) s) {s : Shared} (h : J s) :
    wpAny (model prog w) A.in1 (Builtin.«list.__eq__» ⟨[.ref l, .ref b], []⟩) (GQ.FinOf prog w A R) (fun x s' => R (.error x) s') s := by
  obtain ⟨its, n, dd, sl, g1, z1, its2, n2, dd2, sl2, g2, z2, _⟩ := hl s h
  have hrec := eq_loopB (A := A) (R := R) l b N e J hl _ 0 rfl (Nat.zero_le _) (by simpa using fin) s h
  obtain ⟨hp, g, d, tk, os⟩ := s
  have f3 := AutoSeq1.sub_list_list
  have hne : ¬ (its.size != its2.size) = true := by simp [z1, z2]
  wp_walk using wpAny_loadPart' g1, wpAny_loadPart' g2
  exact ⟨plainId_quiet plain_eq_loop _, codeAny_builtin entry_eq_loop (by
    rw [Around.under_plainId plain_eq_loop _]; exact hrec)⟩
theorem tuple_eqB (l b : Addr) (items items2 : Array Value) (n n2 : Nat) (dd dd2 : Option Addr) (sl sl2 : Array (Option Value)) (e : Nat → Bool) (J : Shared → Prop)
    (turn : ∀ i (h1 : i < items.size) (h2 : i < items2.size) s, J s → wpAny (model prog w) A.in1 (eqBool items[i] items2[i]) (fun r s' => r = e i ∧ J s') (fun x s' => R (.error x) s') s)
    (fin : ∀ s, J s → R (.ok (.ret (.bool ((List.range (min items.size items2.size)).all e && items.size == items2.size)))) s) {s : Shared} (g1 : s.heap.get? l = some (tpO items n dd sl)) (g2 : s.heap.get? b = some (tpO items2 n2 dd2 sl2)) (h : J s) :
    wpAny (model prog w) A.in1 (Builtin.«tuple.__eq__» ⟨[.ref l, .ref b], []⟩) (GQ.FinOf prog w A R) (fun x s' => R (.error x) s') s := by
  have f2 := AutoSeq1.sub_tuple_tuple
  have hZ : (items.toList.zip items2.toList).length = min items.size items2.size := by simp
  have h0 := h
  obtain ⟨hp, g, d, tk, os⟩ := s
  wp_walk using wpAny_loadPart' g1, wpAny_loadPart' g2, wpAny_forIn_list _ (fun rest b s' => b.1 = none ∧ J s' ∧ ∃ i, rest = (items.toList.zip items2.toList).drop i ∧
    ∀ s, J s → R (.ok (.ret (.bool (((List.range (min items.size items2.size)).drop i).all e && items.size == items2.size)))) s) _
  case turn =>
    rintro ⟨y, x⟩ rest b s' ⟨hb', hJ, i, hz, hR⟩
    have hlt : i < (items.toList.zip items2.toList).length := by
      rcases Nat.lt_or_ge i (items.toList.zip items2.toList).length with h' | h'
      · exact h'
      · rw [List.drop_of_length_le h'] at hz; cases hz
    have hm : i < min items.size items2.size := hZ ▸ hlt
    have h1 : i < items.size := Nat.lt_of_lt_of_le hm (Nat.min_le_left _ _)
    have h2 : i < items2.size := Nat.lt_of_lt_of_le hm (Nat.min_le_right _ _)
    rw [List.drop_eq_getElem_cons hlt] at hz
    injection hz with hyx hrest
    have hy : y = items[i] := by have := congrArg Prod.fst hyx; simpa using this
    have hx : x = items2[i] := by have := congrArg Prod.snd hyx; simpa using this
    subst hy hx
    have hd : (List.range (min items.size items2.size)).drop i = i :: (List.range (min items.size items2.size)).drop (i + 1) := by simp [List.drop_eq_getElem_cons, hm]
    rw [hd, List.all_cons] at hR
    refine wpAny_bind (wpAny_mono (turn i h1 h2 s' hJ) (fun r s2 q2 => ?_) fun _ _ x => x)
    obtain ⟨hr, q2⟩ := q2
    subst hr
    cases hy : e i with
    | true =>
      rw [hy] at hR
      wp_walk
      exact ⟨rfl, q2, i + 1, hrest, by simpa using hR⟩
    | false =>
      rw [hy] at hR
      have hR2 := hR s2 q2
      wp_walk
      simpa using hR2
  case fin =>
    rintro ⟨b1, b2⟩ s' ⟨hb', hJ, i, hz, hR⟩
    simp only at hb'
    subst hb'
    have hge : min items.size items2.size ≤ i := by
      rcases Nat.lt_or_ge i (items.toList.zip items2.toList).length with h' | h'
      · rw [List.drop_eq_getElem_cons h'] at hz; cases hz
      · exact hZ ▸ h'
    have hR2 := hR s' hJ
    rw [List.drop_of_length_le (by simpa using hge)] at hR2
    wp_walk
    simpa [Builtin.Tuple.tupleCompareSizes] using hR2
  case h =>
    exact ⟨rfl, h0, 0, rfl, by simpa using fin⟩

theorem contains_loopB (l : Addr) (N : Nat) (x : Value) (e : Nat → Bool) (J : Shared → Prop)
    (hl : ∀ s, J s → LsAt s.heap l N fun its => ∀ i (h1 : i < its.size), wpAny (model prog w) A.in1 (eqBool its[i] x) (fun r s' => r = e i ∧ J s') (fun x s' => R (.error x) s') s)
    (k : Nat) : ∀ i : Nat, N - i = k → i ≤ N → (∀ s, J s → R (.ok (.ret (.bool (((List.range N).drop i).any e)))) s) → ∀ s, J s →
      wpAny (model prog w) A.in1 (Builtin.«list.__contains__.loop» ⟨[.ref l, x, rawInt i], []⟩) (GQ.FinOf prog w A R) (fun x s' => R (.error x) s') s := by
  induction k with
  | zero =>
    intro i hk hi fin s h
    obtain ⟨its, n, dd, sl, g1, z1, _⟩ := hl s h
    have e0 : i = N := by omega
    have hR := fin s h
    rw [e0, List.drop_of_length_le (by simp)] at hR
    obtain ⟨hp, g, d, tk, os⟩ := s
    wp_walk using wpAny_loadPart' g1
    have i1 : its[((i : Nat) : Int).toNat]? = none := by simp; omega
    rw [i1]
    wp_walk
    simpa using hR
  | succ k ih =>
    intro i hk hi fin s h
    obtain ⟨its, n, dd, sl, g1, z1, turn⟩ := hl s h
    have l1 : i < its.size := by omega
    have ht := turn i l1
    have hd : (List.range N).drop i = i :: (List.range N).drop (i + 1) := by
      rw [List.drop_eq_getElem_cons (by simp; omega)]; simp
    rw [hd, List.any_cons] at fin
    obtain ⟨hp, g, d, tk, os⟩ := s
    wp_walk using wpAny_loadPart' g1
    have i1 : its[((i : Nat) : Int).toNat]? = some its[i] := by simp [l1]
    have hc : ((i : Int) + 1) = ((i + 1 : Nat) : Int) := by omega
    rw [i1]
    refine wpAny_bind (wpAny_mono ht (fun r s2 h2 => ?_) fun _ _ x => x)
    obtain ⟨hr, h2⟩ := h2
    subst hr
    cases he : e i with
    | false =>
      rw [he] at fin
      have hrec := ih (i + 1) (by omega) (by omega) (by simpa using fin) s2 h2
      obtain ⟨hp2, g3, d2, tk2, os2⟩ := s2
      wp_walk
      rw [hc]
      exact ⟨plainId_quiet plain_contains_loop _, codeAny_builtin entry_contains_loop (by
        rw [Around.under_plainId plain_contains_loop _]; exact hrec)⟩
    | true =>
      rw [he] at fin
      have hR := fin s2 h2
      obtain ⟨hp2, g3, d2, tk2, os2⟩ := s2
      wp_walk
      simpa using hR
theorem list_containsB (l : Addr) (N : Nat) (x : Value) (e : Nat → Bool) (J : Shared → Prop)
    (hl : ∀ s, J s → LsAt s.heap l N fun its => ∀ i (h1 : i < its.size), wpAny (model prog w) A.in1 (eqBool its[i] x) (fun r s' => r = e i ∧ J s') (fun x s' => R (.error x) s') s)
    (fin : ∀ s, J s → R (.ok (.ret (.bool ((List.range N).any e)))) s) {s : Shared} (h : J s) :
    wpAny (model prog w) A.in1 (Builtin.«list.__contains__» ⟨[.ref l, x], []⟩) (GQ.FinOf prog w A R) (fun x s' => R (.error x) s') s := by
  obtain ⟨its, n, dd, sl, g1, z1, _⟩ := hl s h
  have hrec := contains_loopB (A := A) (R := R) l N x e J hl _ 0 rfl (Nat.zero_le _) (by simpa using fin) s h
  obtain ⟨hp, g, d, tk, os⟩ := s
  wp_walk using wpAny_loadPart' g1
  exact ⟨plainId_quiet plain_contains_loop _, codeAny_builtin entry_contains_loop (by
    rw [Around.under_plainId plain_contains_loop _]; exact hrec)⟩
theorem tuple_containsB (l : Addr) (items : Array Value) (n : Nat) (dd : Option Addr) (sl : Array (Option Value)) (x : Value) (e : Nat → Bool) (J : Shared → Prop)
    (turn : ∀ i (h1 : i < items.size) s, J s → wpAny (model prog w) A.in1 (eqBool items[i] x) (fun r s' => r = e i ∧ J s') (fun x s' => R (.error x) s') s)
    (fin : ∀ s, J s → R (.ok (.ret (.bool ((List.range items.size).any e)))) s) {s : Shared} (g1 : s.heap.get? l = some (tpO items n dd sl)) (h : J s) :
    wpAny (model prog w) A.in1 (Builtin.«tuple.__contains__» ⟨[.ref l, x], []⟩) (GQ.FinOf prog w A R) (fun x s' => R (.error x) s') s := by
  have h0 := h
  obtain ⟨hp, g, d, tk, os⟩ := s
  wp_walk using wpAny_loadPart' g1, wpAny_forIn_array _ (fun rest b s' => b.1 = none ∧ J s' ∧ ∃ i, rest = items.toList.drop i ∧ ∀ s, J s → R (.ok (.ret (.bool (((List.range items.size).drop i).any e)))) s) _
  case turn =>
    rintro y rest b s' ⟨hb, hJ, i, hz, hR⟩
    have hlt : i < items.toList.length := by
      rcases Nat.lt_or_ge i items.toList.length with h' | h'
      · exact h'
      · rw [List.drop_of_length_le h'] at hz; cases hz
    have h1 : i < items.size := by simpa using hlt
    rw [List.drop_eq_getElem_cons hlt] at hz
    injection hz with hy hrest
    have hy' : y = items[i] := by simpa using hy
    subst hy'
    have hd : (List.range items.size).drop i = i :: (List.range items.size).drop (i + 1) := by simp [List.drop_eq_getElem_cons, h1]
    rw [hd, List.any_cons] at hR
    refine wpAny_bind (wpAny_mono (turn i h1 s' hJ) (fun r s2 q2 => ?_) fun _ _ x => x)
    obtain ⟨hr, q2⟩ := q2
    subst hr
    cases hy : e i with
    | true =>
      rw [hy] at hR
      have hR2 := hR s2 q2
      wp_walk
      simpa using hR2
    | false =>
      rw [hy] at hR
      wp_walk
      exact ⟨rfl, q2, i + 1, hrest, by simpa using hR⟩
  case fin =>
    rintro ⟨b1, b2⟩ s' ⟨hb, hJ, i, hz, hR⟩
    simp only at hb
    subst hb
    have hge : items.size ≤ i := by
      rcases Nat.lt_or_ge i items.toList.length with h' | h'
      · rw [List.drop_eq_getElem_cons h'] at hz; cases hz
      · simpa using h'
    have hR2 := hR s' hJ
    rw [List.drop_of_length_le (by simpa using hge)] at hR2
    wp_walk
    simpa using hR2
  case h =>
    exact ⟨rfl, h0, 0, by simp, by simpa using fin⟩

theorem index_loopB (l : Addr) (N : Nat) (x : Value) (e : Nat → Bool) (J : Shared → Prop) (upto : Int) (j : Nat) (hj : j < N) (hs : (j : Int) < upto) (hit : e j = true)
    (hl : ∀ s, J s → LsAt s.heap l N fun its => ∀ i (h1 : i < its.size), wpAny (model prog w) A.in1 (eqBool its[i] x) (fun r s' => r = e i ∧ J s') (fun x s' => R (.error x) s') s)
    (fin : ∀ s, J s → R (.ok (.ret (.int j s.toks))) { s with toks := s.toks + 1 }) (k : Nat) : ∀ i : Nat, j - i = k → i ≤ j → (∀ m, i ≤ m → m < j → e m = false) → ∀ s, J s →
      wpAny (model prog w) A.in1 (Builtin.«list.index.loop» ⟨[.ref l, x, rawInt i, rawInt upto], []⟩) (GQ.FinOf prog w A R) (fun x s' => R (.error x) s') s := by
  induction k with
  | zero =>
    intro i hk hi hno s h
    obtain ⟨its, n, dd, sl, g1, z1, turn⟩ := hl s h
    have e0 : i = j := by omega
    subst e0
    have l1 : i < its.size := by omega
    have ht := turn i l1
    obtain ⟨hp, g, d, tk, os⟩ := s
    wp_walk using wpAny_loadPart' g1
    have i1 : (if (i : Int) < upto then its[((i : Nat) : Int).toNat]? else none) = some its[i] := by rw [if_pos hs]; simp [l1]
    rw [i1]
    refine wpAny_bind (wpAny_mono ht (fun r s2 h2 => ?_) fun _ _ x => x)
    obtain ⟨hr, h2⟩ := h2
    subst hr
    have hR := fin s2 h2
    rw [hit]
    obtain ⟨hp2, g3, d2, tk2, os2⟩ := s2
    wp_walk
    exact hR
  | succ k ih =>
    intro i hk hi hno s h
    obtain ⟨its, n, dd, sl, g1, z1, turn⟩ := hl s h
    have l1 : i < its.size := by omega
    have ht := turn i l1
    obtain ⟨hp, g, d, tk, os⟩ := s
    wp_walk using wpAny_loadPart' g1
    have i1 : (if (i : Int) < upto then its[((i : Nat) : Int).toNat]? else none) = some its[i] := by rw [if_pos (by omega)]; simp [l1]
    have hc : ((i : Int) + 1) = ((i + 1 : Nat) : Int) := by omega
    rw [i1]
    refine wpAny_bind (wpAny_mono ht (fun r s2 h2 => ?_) fun _ _ x => x)
    obtain ⟨hr, h2⟩ := h2
    subst hr
    rw [hno i (Nat.le_refl _) (by omega)]
    have hrec := ih (i + 1) (by omega) (by omega) (fun m h1 h2 => hno m (by omega) h2) s2 h2
    obtain ⟨hp2, g3, d2, tk2, os2⟩ := s2
    wp_walk
    rw [hc]
    exact ⟨plainId_quiet plain_index_loop _, codeAny_builtin entry_index_loop (by
      rw [Around.under_plainId plain_index_loop _]; exact hrec)⟩
theorem list_indexB (l : Addr) (N : Nat) (x : Value) (e : Nat → Bool) (J : Shared → Prop) (j : Nat) (hj : j < N) (hs : (j : Int) < 2 ^ 63 - 1) (hit : e j = true) (hno : ∀ m, m < j → e m = false)
    (hl : ∀ s, J s → LsAt s.heap l N fun its => ∀ i (h1 : i < its.size), wpAny (model prog w) A.in1 (eqBool its[i] x) (fun r s' => r = e i ∧ J s') (fun x s' => R (.error x) s') s)
    (fin : ∀ s, J s → R (.ok (.ret (.int j s.toks))) { s with toks := s.toks + 1 }) {s : Shared} (h : J s) :
    wpAny (model prog w) A.in1 (Builtin.«list.index» ⟨[.ref l, x], []⟩) (GQ.FinOf prog w A R) (fun x s' => R (.error x) s') s := by
  obtain ⟨its, n, dd, sl, g1, z1, _⟩ := hl s h
  have hrec := index_loopB (A := A) (R := R) l N x e J (2 ^ 63 - 1) j hj hs hit hl fin _ 0 rfl (Nat.zero_le _) (fun m _ h2 => hno m h2) s h
  obtain ⟨hp, g, d, tk, os⟩ := s
  wp_walk using wpAny_loadPart' g1
  have a1 : ((fun i : Int => if i < 0 then max 0 (i + (its.size : Int)) else i) ((none : Option Int).getD 0)) = ((0 : Nat) : Int) := by simp
  have a2 : ((fun i : Int => if i < 0 then max 0 (i + (its.size : Int)) else i) ((none : Option Int).getD (2 ^ 63 - 1))) = 2 ^ 63 - 1 := by simp
  rw [a1, a2]
  exact ⟨plainId_quiet plain_index_loop _, codeAny_builtin entry_index_loop (by
    rw [Around.under_plainId plain_index_loop _]; exact hrec)⟩
end

section
variable {prog : Program} {w : World} {A : Around} {E : Value → Shared → Prop} {s : Shared}
theorem rc_listB {l b : Addr} {N : Nat} {e : Nat → Bool} {Q : Value → Shared → Prop} (hu : A.units < cLine) (J : Shared → Prop)
    (hl : ∀ s, J s → LsAt s.heap l N fun its => LsAt s.heap b N fun its2 => ∀ i (h1 : i < its.size) (h2 : i < its2.size), wpAny (model prog w) A.in1 (eqBool its[i] its2[i]) (fun r s' => r = e i ∧ J s') E s)
    (fin : ∀ s, J s → Q (.bool ((List.range N).all e)) s) (h : J s) : wpAny (model prog w) A (richCompare .Eq (.ref l) (.ref b)) Q E s := by
  obtain ⟨its, n, dd, sl, g1, z1, its2, n2, dd2, sl2, g2, z2, _⟩ := hl s h
  refine wpAny_richCompare_same_room (op := .Eq) ⟨_, g1, rfl⟩ ⟨_, g2, rfl⟩ F.slot_list_eq (GQ.call_here F.slot_list_eq ⟨_, g1, rfl⟩ F.entry_list_eq (F.args_list_eq_2 _ _) ?_) hu
  exact list_eqB (R := wants (fun v s' => v ≠ .notImplemented ∧ Q v s') E) l b N e J hl (fun s' q => ⟨(fun x => nomatch x), fin s' q⟩) h
theorem rc_tupB {l b : Addr} {items items2 : Array Value} {e : Nat → Bool} {Q : Value → Shared → Prop} (hu : A.units < cLine) (J : Shared → Prop) (hl : s.heap.IsTuple l items) (hb : s.heap.IsTuple b items2)
    (turn : ∀ i (h1 : i < items.size) (h2 : i < items2.size) s, J s → wpAny (model prog w) A.in1 (eqBool items[i] items2[i]) (fun r s' => r = e i ∧ J s') E s)
    (fin : ∀ s, J s → Q (.bool ((List.range (min items.size items2.size)).all e && items.size == items2.size)) s) (h : J s) : wpAny (model prog w) A (richCompare .Eq (.ref l) (.ref b)) Q E s := by
  obtain ⟨⟨cls, dd, data, sl⟩, ho, hc, n, hd⟩ := id hl
  obtain ⟨⟨cls2, dd2, data2, sl2⟩, ho2, hc2, n2, hd2⟩ := id hb
  simp only at hc hd hc2 hd2
  subst hc hd hc2 hd2
  refine wpAny_richCompare_same_room (op := .Eq) ⟨_, ho, rfl⟩ ⟨_, ho2, rfl⟩ F.slot_tuple_eq (GQ.call_here F.slot_tuple_eq ⟨_, ho, rfl⟩ F.entry_tuple_eq (F.args_tuple_eq_2 _ _) ?_) hu
  exact tuple_eqB (R := wants (fun v s' => v ≠ .notImplemented ∧ Q v s') E) l b items items2 n n2 dd dd2 sl sl2 e J turn (fun s' q => ⟨(fun x => nomatch x), fin s' q⟩) ho ho2 h
/-- what contains tells, in a list or a tuple -/
theorem in_listB {l : Addr} {N : Nat} {x : Value} {e : Nat → Bool} {Q : Bool → Shared → Prop} (J : Shared → Prop)
    (hl : ∀ s, J s → LsAt s.heap l N fun its => ∀ i (h1 : i < its.size), wpAny (model prog w) A.in1 (eqBool its[i] x) (fun r s' => r = e i ∧ J s') E s)
    (fin : ∀ s, J s → Q ((List.range N).any e) s) (h : J s) : wpAny (model prog w) A (contains (.ref l) x) Q E s := by
  obtain ⟨its, n, dd, sl, g1, z1, _⟩ := hl s h
  refine wpAny_contains_slot (T := "list") ⟨_, g1, rfl⟩ F.slot_list_contains (wpAny_mono (GQ.call_here (Q := fun v s' => ∃ k, v = .bool k ∧ Q k s') F.slot_list_contains ⟨_, g1, rfl⟩ F.entry_list_contains (F.args_list_contains_2 _ _) ?_) (fun v s' hv => ?_) fun _ _ e => e)
  · exact list_containsB (R := wants (fun v s' => ∃ k, v = .bool k ∧ Q k s') E) l N x e J hl (fun s' q => ⟨_, rfl, fin s' q⟩) h
  · obtain ⟨k, rfl, hq⟩ := hv
    exact wpAny_truthy_bool hq
theorem in_tupB {l : Addr} {items : Array Value} {x : Value} {e : Nat → Bool} {Q : Bool → Shared → Prop} (J : Shared → Prop) (hl : s.heap.IsTuple l items)
    (turn : ∀ i (h1 : i < items.size) s, J s → wpAny (model prog w) A.in1 (eqBool items[i] x) (fun r s' => r = e i ∧ J s') E s)
    (fin : ∀ s, J s → Q ((List.range items.size).any e) s) (h : J s) : wpAny (model prog w) A (contains (.ref l) x) Q E s := by
  obtain ⟨⟨cls, dd, data, sl⟩, ho, hc, n, hd⟩ := id hl
  simp only at hc hd
  subst hc hd
  refine wpAny_contains_slot (T := "tuple") ⟨_, ho, rfl⟩ F.slot_tuple_contains (wpAny_mono (GQ.call_here (Q := fun v s' => ∃ k, v = .bool k ∧ Q k s') F.slot_tuple_contains ⟨_, ho, rfl⟩ F.entry_tuple_contains (F.args_tuple_contains_2 _ _) ?_) (fun v s' hv => ?_) fun _ _ e => e)
  · exact tuple_containsB (R := wants (fun v s' => ∃ k, v = .bool k ∧ Q k s') E) l items n dd sl x e J turn (fun s' q => ⟨_, rfl, fin s' q⟩) ho h
  · obtain ⟨k, rfl, hq⟩ := hv
    exact wpAny_truthy_bool hq
theorem index_listB {l : Addr} {N : Nat} {x : Value} {e : Nat → Bool} {Q : Value → Shared → Prop} (J : Shared → Prop) (j : Nat) (hj : j < N) (hs : (j : Int) < 2 ^ 63 - 1) (hit : e j = true) (hno : ∀ m, m < j → e m = false)
    (hl : ∀ s, J s → LsAt s.heap l N fun its => ∀ i (h1 : i < its.size), wpAny (model prog w) A.in1 (eqBool its[i] x) (fun r s' => r = e i ∧ J s') E s)
    (fin : ∀ s, J s → Q (.int j s.toks) { s with toks := s.toks + 1 }) (h : J s) : wpAny (model prog w) A (call (.builtin "list.index") [.ref l, x]) Q E s := by
  obtain ⟨its, n, dd, sl, g1, z1, _⟩ := hl s h
  refine GQ.call_here F.slot_list_index ⟨_, g1, rfl⟩ F.entry_list_index (F.args_list_index_2 _ _) ?_
  exact list_indexB (R := wants Q E) l N x e J j hj hs hit hno hl (fun s' q => fin s' q) h
end
end Z

set_option Elab.async false
set_option linter.all false
set_option maxRecDepth 100000
set_option maxHeartbeats 1000000
set_option autoImplicit false
namespace Z
open PySem PySem.SeqAt L2
open PyProof.Rows hiding St

inductive Kd where
  | non | bl (b : Bool) | int (i : Int) | str (s : List Nat) | tup (ws : List W) | lst (ws : List W) | obj (c : Nat) (fs : List (Nat × W)) | no
def kindC : Option Cell → Kd
  | some (.lst xs) => .lst xs
  | some (.ins c fs) => .obj c fs
  | _ => .no
def kind (h : Hz) : W → Kd
  | .non => .non
  | .bl b => .bl b
  | .int i => .int i
  | .str s => .str s
  | .tup ws => .tup ws
  | .fz ws => .lst ws
  | .obj c fs => .obj c fs
  | .ref i => kindC (h.get i)
  | _ => .no
def eqN : List Nat → List Nat → Bool
  | [], [] => true
  | a :: x, b :: y => match Nat.beq a b with
    | true => eqN x y
    | false => false
  | _, _ => false
theorem eqN_eq : ∀ x y : List Nat, eqN x y = decide (x = y)
  | [], [] => by simp [eqN]
  | [], b :: y => by simp [eqN]
  | a :: x, [] => by simp [eqN]
  | a :: x, b :: y => by
    unfold eqN
    cases q : Nat.beq a b with
    | true =>
      have e : a = b := Nat.eq_of_beq_eq_true q
      subst e
      simp [eqN_eq x y]
    | false =>
      have e : a ≠ b := Nat.ne_of_beq_eq_false q
      simp [e]
def zall (f : W → W → Option Bool) : List W → List W → Option Bool
  | x :: xs, y :: ys => match f x y with
    | some p => match zall f xs ys with
      | some q => some (p && q)
      | none => none
    | none => none
  | [], [] => some true
  | _, _ => some false
def zflds (f : W → W → Option Bool) (fs gs : List (Nat × W)) : List Nat → Option Bool
  | [] => some true
  | k :: ks => match fs.lookup k, gs.lookup k with
    | some x, some y => match f x y with
      | some p => match zflds f fs gs ks with
        | some q => some (p && q)
        | none => none
      | none => none
    | _, _ => none
abbrev ET := List (Nat × List Nat)
def b2z : Bool → Int
  | true => 1
  | false => 0
def zeqO (E : ET) (f : W → W → Option Bool) (c : Nat) (fs : List (Nat × W)) (k : Kd) : Option Bool := match E.lookup c with
  | none => none
  | some ks => match k with
    | .no => none
    | .obj d gs => if c = d then zflds f fs gs ks else (E.lookup d).map fun _ => false
    | _ => some false
def zeqK (E : ET) (f : W → W → Option Bool) : Kd → Kd → Option Bool
  | .no, _ => none
  | .obj c fs, k => zeqO E f c fs k
  | .non, k => match k with
    | .non => some true
    | .no => none
    | .obj _ _ => none
    | _ => some false
  | .bl a, k => match k with
    | .bl b => some (a == b)
    | .int j => some (decide (b2z a = j))
    | .no => none
    | .obj _ _ => none
    | _ => some false
  | .int i, k => match k with
    | .bl b => some (decide (i = b2z b))
    | .int j => some (decide (i = j))
    | .no => none
    | .obj _ _ => none
    | _ => some false
  | .str s, k => match k with
    | .str t => some (eqN s t)
    | .no => none
    | .obj _ _ => none
    | _ => some false
  | .tup xs, k => match k with
    | .tup ys => zall f xs ys
    | .no => none
    | .obj _ _ => none
    | _ => some false
  | .lst xs, k => match k with
    | .lst ys => zall f xs ys
    | .no => none
    | .obj _ _ => none
    | _ => some false
def zeq (E : ET) (h : Hz) : Nat → W → W → Option Bool
  | 0, _, _ => none
  | n + 1, x, y => zeqK E (zeq E h n) (kind h x) (kind h y)

section
variable {X : Cx} {G : Gt}
inductive KdAt (K : PySem.W.Frag) (G : Gt) (ι : Nat → Addr) (h : Hz) (H : Hp) : Kd → V → Prop
  | non : KdAt K G ι h H .non .non
  | bl (b : Bool) : KdAt K G ι h H (.bl b) (.bl b)
  | int (i : Int) : KdAt K G ι h H (.int i) (.int i)
  | str (s : List Nat) : KdAt K G ι h H (.str s) (.str (S s))
  | tup {ws : List W} {a : Addr} {vs : List V} : SqT K H a vs → Reps K G ι h H ws vs → KdAt K G ι h H (.tup ws) (.ref a)
  | lst {ws : List W} {a : Addr} {vs : List V} : SqL K H a vs → Reps K G ι h H ws vs → KdAt K G ι h H (.lst ws) (.ref a)
  | obj {c : Nat} {fs : List (Nat × W)} {a dx : Addr} {gs : List (Str × V)} : H a = some (.ins (G.cl c) dx gs) → RepF K G ι h H fs gs → KdAt K G ι h H (.obj c fs) (.ref a)
  | no (v : V) : KdAt K G ι h H .no v
theorem kind_at {K : PySem.W.Frag} {ι : Nat → Addr} {h : Hz} {H : Hp} (r : HRep K G ι h H) {w : W} {v : V} (p : Rep K G ι h H w v) : KdAt K G ι h H (kind h w) v := by
  cases p with
  | non => exact .non
  | bl b => exact .bl b
  | int i => exact .int i
  | str s => exact .str s
  | tup e q => exact .tup e q
  | fz e q => exact .lst e.sq q
  | obj e l _ q => exact .obj e q
  | ref i hi =>
    show KdAt K G ι h H (kindC (h.get i)) _
    cases g : h.get i with
    | none => exact .no _
    | some c =>
      have q := r.cell i c g
      cases c with
      | lst xs => obtain ⟨vs, e, q⟩ := q; exact .lst (SqL.of e) q
      | ins c fs => obtain ⟨dx, gs, e, q⟩ := q; exact .obj e q
      | dct kvs => exact .no _
      | dead => exact .no _
  | fn i => exact .no _
  | cl i => exact .no _

/-- what == leaves: True or False as told, and the same heap for the evaluator -/
def EqOut (X : Cx) (G : Gt) (pins : List (Addr × Obj)) (σ : St) (ι : Nat → Addr) (h : Hz) (H : Hp) (s' : Shared) : Prop := ∃ H', Inv X pins σ H' s' ∧ Next X.K G ι h H ι h H'
def EqS (X : Cx) (G : Gt) (E : ET) (n : Nat) : Prop := ∀ (A : Around) (pins : List (Addr × Obj)) (s : Shared) (σ : St) (H : Hp) (ι : Nat → Addr) (h : Hz) (x y : W) (v1 v2 : V) (u1 u2 : Value) (k : Bool), Sub X n A → Inv X pins σ H s → HRep X.K G ι h H →
  Rep X.K G ι h H x v1 → Rep X.K G ι h H y v2 → RelV v1 u1 → RelV v2 u2 → zeq E h n x y = some k → wpAny (model X.prog X.w) A (richCompare .Eq u1 u2) (fun r s' => r = .bool k ∧ EqOut X G pins σ ι h H s') X.xe s
def EqB (X : Cx) (G : Gt) (E : ET) (n : Nat) : Prop := ∀ (A : Around) (pins : List (Addr × Obj)) (s : Shared) (σ : St) (H : Hp) (ι : Nat → Addr) (h : Hz) (x y : W) (v1 v2 : V) (u1 u2 : Value) (k : Bool), Sub X n A → Inv X pins σ H s → HRep X.K G ι h H →
  Rep X.K G ι h H x v1 → Rep X.K G ι h H y v2 → RelV v1 u1 → RelV v2 u2 → zeq E h n x y = some k → wpAny (model X.prog X.w) A (eqBool u1 u2) (fun r s' => r = k ∧ EqOut X G pins σ ι h H s') X.xe s
/-- what a class's own == promises -/
def OwnS (X : Cx) (G : Gt) (E : ET) (n : Nat) : Prop := ∀ (c : Nat) (ks : List Nat), E.lookup c = some ks → Cls X.K (G.cl c) ∧ (∀ d, (E.lookup d).isSome = true → PySem.W.notFirst X.K (G.cl c) (.ref (G.cl d)) = true) ∧ ∃ f, PySem.W.findIn X.K (.ref (G.cl c)) "__eq__" = some (some (.ref f)) ∧ PySem.W.isFn X.K (.ref f) = true ∧
  ∀ (A : Around) (pins : List (Addr × Obj)) (s : Shared) (σ : St) (H : Hp) (ι : Nat → Addr) (h : Hz) (x y : W) (v1 v2 : V) (u1 u2 : Value) (k : Bool) (fs : List (Nat × W)), Sub X (n + 1) A → Inv X pins σ H s → HRep X.K G ι h H →
    Rep X.K G ι h H x v1 → Rep X.K G ι h H y v2 → RelV v1 u1 → RelV v2 u2 → kind h x = .obj c fs → zeqK E (zeq E h n) (.obj c fs) (kind h y) = some k → wpAny (model X.prog X.w) A (call (.ref f) [u1, u2]) (fun r s' => r = .bool k ∧ EqOut X G pins σ ι h H s') X.xe s
/-- what is told by the same state -/
theorem EqOut.same {pins : List (Addr × Obj)} {σ : St} {ι : Nat → Addr} {h : Hz} {H : Hp} {s : Shared} (I : Inv X pins σ H s) (r : HRep X.K G ι h H) : EqOut X G pins σ ι h H s := ⟨H, I, Next.refl r⟩

theorem zall_get {f : W → W → Option Bool} : ∀ {xs ys : List W} {k : Bool}, zall f xs ys = some k → ∃ e : Nat → Bool, (∀ i x y, xs[i]? = some x → ys[i]? = some y → f x y = some (e i)) ∧ k = ((List.range (min xs.length ys.length)).all e && xs.length == ys.length)
  | [], [], k, h => ⟨fun _ => true, fun i x y h1 _ => by simp at h1, by simp [zall] at h; simp [h]⟩
  | [], y :: ys, k, h => ⟨fun _ => true, fun i x y h1 _ => by simp at h1, by simp [zall] at h; simp [h]⟩
  | x :: xs, [], k, h => ⟨fun _ => true, fun i x y _ h2 => by simp at h2, by simp [zall] at h; simp [h]⟩
  | x :: xs, y :: ys, k, h => by
    unfold zall at h
    cases e1 : f x y with
    | none => rw [e1] at h; cases h
    | some p =>
      rw [e1] at h
      cases e2 : zall f xs ys with
      | none => rw [e2] at h; cases h
      | some q =>
        rw [e2] at h
        obtain ⟨e, h1, h2⟩ := zall_get e2
        refine ⟨fun i => match i with | 0 => p | i + 1 => e i, fun i a c ha hc => ?_, ?_⟩
        · cases i with
          | zero => simp at ha hc; subst ha hc; exact e1
          | succ i => exact h1 i a c (by simpa using ha) (by simpa using hc)
        · have hk : (p && q) = k := by simpa using h
          rw [← hk, h2]
          have hm : min (x :: xs).length (y :: ys).length = min xs.length ys.length + 1 := by simp only [List.length_cons]; omega
          rw [hm, List.range_succ_eq_map]
          simp only [List.all_cons, List.all_map, List.length_cons, Bool.and_assoc]
          congr 2
          exact Bool.eq_iff_iff.mpr (by simp)
theorem Reps.paired {K : PySem.W.Frag} {ι : Nat → Addr} {h : Hz} {H : Hp} {ws : List W} {vs : List V} {us : List Value} (rs : Reps K G ι h H ws vs) (rv : Vals vs us) (i : Nat) (hi : i < us.toArray.size) :
    ∃ w v, ws[i]? = some w ∧ Rep K G ι h H w v ∧ RelV v us.toArray[i] := by
  have l1 : i < ws.length := by rw [rs.length, rv.length]; simpa using hi
  obtain ⟨v, e1, e2⟩ := rs.get (List.getElem?_eq_getElem l1)
  obtain ⟨u, e3, e4⟩ := rv.get e1
  have e5 : us[i]? = some us.toArray[i] := by
    have hi' : i < us.length := by simpa using hi
    rw [List.getElem?_eq_getElem hi'] <;> simp
  rw [e5] at e3
  cases e3
  exact ⟨_, v, List.getElem?_eq_getElem l1, e2, e4⟩
theorem sqL_next {K : PySem.W.Frag} {ι ι' : Nat → Addr} {h h' : Hz} {H H' : Hp} (r : HRep K G ι h H) (n : Nx0 ι h H ι' h' H') {a : Addr} {vs : List V} (nl : ¬ LvAt ι h a) (e : SqL K H a vs) : SqL K H' a vs := by
  rcases e with e | e
  · rcases e with e | ⟨o, e⟩
    · exact .inl (.inl (n.keep _ _ e nl))
    · exact .inl (.inr ⟨o, n.keep _ _ e nl⟩)
  · exact .inr e
/-- a list of the evaluator, read anew behind what == did -/
theorem list_again {pins : List (Addr × Obj)} {σ : St} {ι : Nat → Addr} {h : Hz} {H H' : Hp} {s' : Shared} (r : HRep X.K G ι h H) {w : W} {ws : List W} {ad : Addr} (p : Rep X.K G ι h H w (.ref ad)) (k : kind h w = .lst ws) (I' : Inv X pins σ H' s') (n : Next X.K G ι h H ι h H') :
    ∃ vs its m dd sl, s'.heap.get? ad = some (lsO (List.toArray its) m dd sl) ∧ Vals vs its ∧ Reps X.K G ι h H' ws vs := by
  have p' := Rep.next r n.toNx0 p
  have q := kind_at n.rep p'
  rw [k] at q
  cases q with
  | lst sq rs =>
    obtain ⟨its, rv, ⟨⟨cls, dd, data, sl⟩, m, ho, hc, hd, hdt⟩, _⟩ := I'.list sq
    simp only at hc hdt
    subst hc hdt
    exact ⟨_, its, m, dd, sl, ho, rv, rs⟩
theorem cellsOf {K : PySem.W.Frag} : True := trivial

theorem EqOut.trans {pins : List (Addr × Obj)} {σ : St} {ι : Nat → Addr} {h : Hz} {H H1 : Hp} {s' : Shared} (n : Next X.K G ι h H ι h H1) (q : EqOut X G pins σ ι h H1 s') : EqOut X G pins σ ι h H s' :=
  let ⟨H2, I2, n2⟩ := q
  ⟨H2, I2, n.trans n2⟩

/-- the type that the model sees of a value -/
theorem type_looks {pins : List (Addr × Obj)} {σ : St} {ι : Nat → Addr} {h : Hz} {H : Hp} {s : Shared} (I : Inv X pins σ H s) {k : Kd} {v : V} {u : Value} (q : KdAt X.K G ι h H k v) (ru : RelV v u) (hk : ∀ c fs, k ≠ .obj c fs) (hn : k ≠ .no) (C : Addr) :
    ∃ T, PySem.W.Looks (model X.prog X.w) s.heap (typeOf u) (.type T) ∧ PySem.W.notFirst X.K C (.type T) = true := by
  have nf : ∀ T : String, PySem.W.subIn X.K (.type T) (.ref C) = some false → PySem.W.notFirst X.K C (.type T) = true := fun T e => by
    unfold PySem.W.notFirst
    rw [e]
    exact Bool.or_true _
  cases q with
  | non => cases (show u = Value.none from ru); exact ⟨"NoneType", PySem.W.Looks.of_pure rfl, nf _ rfl⟩
  | bl b => cases (show u = Value.bool b from ru); exact ⟨"bool", PySem.W.Looks.of_pure rfl, nf _ rfl⟩
  | int i => obtain ⟨t, rfl⟩ := ru; exact ⟨"int", PySem.W.Looks.of_pure rfl, nf _ rfl⟩
  | str z => obtain ⟨t, rfl⟩ := ru; exact ⟨"str", PySem.W.Looks.of_pure rfl, nf _ rfl⟩
  | @tup ws a vs e rs =>
    cases (show u = Value.ref a from ru)
    obtain ⟨its, rv, ⟨o, ho, hc, _⟩, _⟩ := I.tuple e
    exact ⟨"tuple", fun A Q E s k q => wpAny_typeOf_ref (k _ _ ho) (by rw [hc]; exact q), nf _ rfl⟩
  | @lst ws a vs e rs =>
    cases (show u = Value.ref a from ru)
    obtain ⟨its, rv, ⟨o, m, ho, hc, _⟩, _⟩ := I.list e
    exact ⟨"list", fun A Q E s k q => wpAny_typeOf_ref (k _ _ ho) (by rw [hc]; exact q), nf _ rfl⟩
  | obj e q => exact absurd rfl (hk _ _)
  | no => exact absurd rfl hn
end
end Z

set_option Elab.async false
set_option linter.all false
set_option maxRecDepth 100000
set_option maxHeartbeats 1000000
set_option autoImplicit false
namespace Z
open PySem PySem.SeqAt L2
open PyProof.Rows hiding St

section
variable {X : Cx} {G : Gt} {E : ET} {n : Nat}
/-- the classes of the table are told apart -/
def ClInj (G : Gt) (E : ET) : Prop := ∀ c d, (E.lookup c).isSome = true → (E.lookup d).isSome = true → G.cl c = G.cl d → c = d
theorem tyNe {a b : Value} (h : a = b) (hne : (a == b) = false := by rfl) : False := by
  subst h
  rw [beq_self_eq_true] at hne
  cases hne
theorem cls_tup {pins : List (Addr × Obj)} {σ : St} {H : Hp} {s : Shared} (I : Inv X pins σ H s) {a : Addr} {vs : List V} (e : SqT X.K H a vs) : ∃ o, s.heap.get? a = some o ∧ o.cls = .type "tuple" := by
  obtain ⟨its, rv, ⟨o, ho, hc, _⟩, _⟩ := I.tuple e
  exact ⟨o, ho, hc⟩
theorem cls_lst {pins : List (Addr × Obj)} {σ : St} {H : Hp} {s : Shared} (I : Inv X pins σ H s) {a : Addr} {vs : List V} (e : SqL X.K H a vs) : ∃ o, s.heap.get? a = some o ∧ o.cls = .type "list" := by
  obtain ⟨its, rv, ⟨o, m, ho, hc, _⟩, _⟩ := I.list e
  exact ⟨o, ho, hc⟩
theorem cls_obj {pins : List (Addr × Obj)} {σ : St} {H : Hp} {s : Shared} (I : Inv X pins σ H s) {a C dx : Addr} {gs : List (Str × V)} (e : H a = some (.ins C dx gs)) : ∃ o, s.heap.get? a = some o ∧ o.cls = .ref C := by
  obtain ⟨mA, O, _⟩ := ins_get I.hok e
  obtain ⟨od, J, _⟩ := O.look
  exact ⟨_, J.at_, J.cls⟩
theorem tup_fn {pins : List (Addr × Obj)} {σ : St} {H : Hp} {s : Shared} (I : Inv X pins σ H s) {a : Addr} {vs us : List V} (e : SqT X.K H a vs) (f : SqT X.K H a us) : vs = us := by
  obtain ⟨its, rv, ⟨o, ho, hc, m, hd⟩, _⟩ := I.tuple e
  obtain ⟨its2, rv2, ⟨o2, ho2, hc2, m2, hd2⟩, _⟩ := I.tuple f
  rw [ho] at ho2
  cases ho2
  rw [hd] at hd2
  injection hd2 with h1 h2
  have h3 : its = its2 := by simpa using h1
  subst h3
  exact Vals.inj rv rv2
theorem lst_fn {pins : List (Addr × Obj)} {σ : St} {H : Hp} {s : Shared} (I : Inv X pins σ H s) {a : Addr} {vs us : List V} (e : SqL X.K H a vs) (f : SqL X.K H a us) : vs = us := by
  obtain ⟨its, rv, ⟨o, m, ho, hc, _, hd⟩, _⟩ := I.list e
  obtain ⟨its2, rv2, ⟨o2, m2, ho2, hc2, _, hd2⟩, _⟩ := I.list f
  rw [ho] at ho2
  cases ho2
  rw [hd] at hd2
  injection hd2 with h1 h2
  have h3 : its = its2 := by simpa using h1
  subst h3
  exact Vals.inj rv rv2
theorem zall_self {f : W → W → Option Bool} {K : PySem.W.Frag} {ι : Nat → Addr} {h : Hz} {H : Hp} (hf : ∀ x y v k, Rep K G ι h H x v → Rep K G ι h H y v → f x y = some k → k = true) : ∀ {xs ys : List W} {vs : List V} {k : Bool}, Reps K G ι h H xs vs → Reps K G ι h H ys vs → zall f xs ys = some k → k = true
  | _, _, _, k, .nil, .nil, e => by simp [zall] at e; exact e
  | x :: xs, y :: ys, _, k, .cons p ps, .cons q qs, e => by
    unfold zall at e
    cases e1 : f x y with
    | none => rw [e1] at e; cases e
    | some a =>
      rw [e1] at e
      cases e2 : zall f xs ys with
      | none => rw [e2] at e; cases e
      | some b =>
        rw [e2] at e
        cases e
        rw [hf x y _ a p q e1, zall_self hf ps qs e2]
        rfl
theorem zflds_self {f : W → W → Option Bool} {ι : Nat → Addr} {h : Hz} {H : Hp} (nj : NmInj G) (hf : ∀ x y v k, Rep X.K G ι h H x v → Rep X.K G ι h H y v → f x y = some k → k = true) {fs fs' : List (Nat × W)} {gs : List (Str × V)} (r1 : RepF X.K G ι h H fs gs) (r2 : RepF X.K G ι h H fs' gs) :
    ∀ {ks : List Nat} {k : Bool}, zflds f fs fs' ks = some k → k = true
  | [], k, e => by simp [zflds] at e; exact e
  | m :: ks, k, e => by
    unfold zflds at e
    cases e1 : fs.lookup m with
    | none => rw [e1] at e; cases e
    | some a =>
      cases e2 : fs'.lookup m with
      | none => rw [e1, e2] at e; cases e
      | some b =>
        rw [e1, e2] at e
        obtain ⟨v, l1, p1⟩ := r1.look nj e1
        obtain ⟨v', l2, p2⟩ := r2.look nj e2
        rw [l1] at l2
        cases l2
        cases e3 : f a b with
        | none => simp only [e3] at e; cases e
        | some p =>
          simp only [e3] at e
          cases e4 : zflds f fs fs' ks with
          | none => rw [e4] at e; cases e
          | some q =>
            rw [e4] at e
            cases e
            rw [hf a b v p p1 p2 e3, zflds_self nj hf r1 r2 e4]
            rfl
theorem zeq_self {pins : List (Addr × Obj)} {σ : St} {ι : Nat → Addr} {h : Hz} {H : Hp} {s : Shared} (nj : NmInj G) (cj : ClInj G E) (I : Inv X pins σ H s) (r : HRep X.K G ι h H) : ∀ (n : Nat) (x y : W) (v : V) (k : Bool), Rep X.K G ι h H x v → Rep X.K G ι h H y v → zeq E h n x y = some k → k = true
  | 0, _, _, _, _, _, _, e => by cases e
  | n + 1, x, y, v, k, p1, p2, e => by
    have hf := zeq_self nj cj I r n
    have e' : zeqK E (zeq E h n) (kind h x) (kind h y) = some k := e
    have q1 := kind_at r p1
    have q2 := kind_at r p2
    generalize kind h x = kx at e' q1
    generalize kind h y = ky at e' q2
    cases q1 with
    | non => cases q2 <;> simp [zeqK] at e' <;> exact e'
    | bl b => cases q2 <;> simp [zeqK] at e' <;> exact e'
    | int i => cases q2 <;> simp [zeqK] at e' <;> exact e'
    | str z =>
      generalize hv : V.str (S z) = v' at q2
      cases q2 with
      | str z' =>
        have hz : z = z' := by
          have h1 : S z = S z' := by injection hv
          have h2 := congrArg (fun t : Str => t.cps.toList) h1
          simpa using h2
        subst hz
        simp only [zeqK, eqN_eq] at e'
        simpa using e'.symm
      | no => simp [zeqK] at e'
      | _ => cases hv
    | tup sa ra =>
      cases q2 with
      | tup sb rb =>
        cases tup_fn I sa sb
        exact zall_self hf ra rb e'
      | lst sb rb =>
        obtain ⟨o, h1, h2⟩ := cls_tup I sa
        obtain ⟨o', h3, h4⟩ := cls_lst I sb
        rw [h1] at h3; cases h3; rw [h2] at h4; exact (tyNe h4).elim
      | obj ea ra => simp [zeqK] at e'
      | no => simp [zeqK] at e'
    | lst sa ra =>
      cases q2 with
      | lst sb rb =>
        cases lst_fn I sa sb
        exact zall_self hf ra rb e'
      | tup sb rb =>
        obtain ⟨o, h1, h2⟩ := cls_lst I sa
        obtain ⟨o', h3, h4⟩ := cls_tup I sb
        rw [h1] at h3; cases h3; rw [h2] at h4; exact (tyNe h4).elim
      | obj ea ra => simp [zeqK] at e'
      | no => simp [zeqK] at e'
    | @obj c fs a dx gs ea rf =>
      replace e' : zeqO E (zeq E h n) c fs ky = some k := e'
      unfold zeqO at e'
      cases ec : E.lookup c with
      | none => rw [ec] at e'; cases e'
      | some ks =>
        rw [ec] at e'
        cases q2 with
        | @obj d fs' _ dx' gs' eb rf' =>
          rw [ea] at eb
          injection eb with eb
          injection eb with e1 e2 e3
          subst e3
          have e'' : (if c = d then zflds (zeq E h n) fs fs' ks else (E.lookup d).map fun _ => false) = some k := e'
          by_cases hcd : c = d
          · rw [if_pos hcd] at e''
            exact zflds_self nj hf rf rf' e''
          · rw [if_neg hcd] at e''
            cases ed : E.lookup d with
            | none => rw [ed] at e''; cases e''
            | some kd => exact absurd (cj c d (by rw [ec]; rfl) (by rw [ed]; rfl) e1) hcd
        | tup sb rb =>
          obtain ⟨o, h1, h2⟩ := cls_obj I ea
          obtain ⟨o', h3, h4⟩ := cls_tup I sb
          rw [h1] at h3; cases h3; rw [h2] at h4; exact (tyNe h4).elim
        | lst sb rb =>
          obtain ⟨o, h1, h2⟩ := cls_obj I ea
          obtain ⟨o', h3, h4⟩ := cls_lst I sb
          rw [h1] at h3; cases h3; rw [h2] at h4; exact (tyNe h4).elim
        | no => cases e'
    | no => simp [zeqK] at e'
theorem rel_fn {v v' : V} {u : Value} (h1 : RelV v u) (h2 : RelV v' u) : v = v' := by
  have q : Vals [v] [u] := .cons h1 .nil
  have q' : Vals [v'] [u] := .cons h2 .nil
  have := Vals.inj q q'
  injection this
theorem rep_noflt {K : PySem.W.Frag} {ι : Nat → Addr} {h : Hz} {H : Hp} {w : W} {v : V} (p : Rep K G ι h H w v) (b : UInt64) : v ≠ .flt b := by
  cases p <;> exact fun z => nomatch z
/-- == inside a builtin -/
theorem eqB_of (nj : NmInj G) (cj : ClInj G E) (es : EqS X G E n) : EqB X G E n := by
  intro A pins s σ H ι h x y v1 v2 u1 u2 k sb I r p1 p2 r1 r2 e
  unfold eqBool
  refine wpAny_holding ?_
  refine wpAny_ite_split (fun hab => ?_) (fun hab => ?_)
  · have e1 : u1 = u2 := eq_of_beq hab
    subst e1
    cases rel_fn r1 r2
    have hk := zeq_self nj cj I r n x y v1 k p1 p2 e
    exact wpAny_bind (wpAny_rule (wpAny_pure ⟨hk.symm, EqOut.same I r⟩))
  · have go : wpAny (model X.prog X.w) A (do truthOfDropped (← richCompare .Eq u1 u2)) (fun r s' => r = k ∧ EqOut X G pins σ ι h H s') X.xe s := by
      refine wpAny_bind (wpAny_mono (es A pins s σ H ι h x y v1 v2 u1 u2 k sb I r p1 p2 r1 r2 e) (fun v s' hv => ?_) fun _ _ x => x)
      obtain ⟨rfl, q⟩ := hv
      exact wpAny_truthy_bool ⟨rfl, q⟩
    have nf : ∀ b t, u1 ≠ .float b t := fun b t z => by
      subst z
      cases v1 <;> first | exact rep_noflt p1 _ rfl | (obtain ⟨t', q⟩ := r1; cases q) | cases r1
    cases u1 <;> first | exact go | exact absurd rfl (nf _ _)
end
end Z

set_option Elab.async false
set_option linter.all false
set_option maxRecDepth 100000
set_option maxHeartbeats 1000000
set_option autoImplicit false
namespace Z
open PySem PySem.SeqAt L2
open PyProof.Rows hiding St

section
variable {X : Cx} {G : Gt} {E : ET} {n : Nat}
theorem b2z_if (b : Bool) : (if b = true then (1 : Int) else 0) = b2z b := by cases b <;> rfl
theorem int_beq (i j : Int) : (i == j) = decide (i = j) := by
  by_cases c : i = j
  · subst c; simp
  · rw [decide_eq_false c]; exact beq_eq_false_iff_ne.mpr c
theorem str_eqN (s t : List Nat) : (S s == S t) = eqN s t := by
  rw [eqN_eq]
  by_cases c : s = t
  · subst c; simp
  · rw [decide_eq_false c]
    refine beq_eq_false_iff_ne.mpr fun z => c ?_
    have h2 := congrArg (fun t : Str => t.cps.toList) z
    simpa using h2
/-- == of values that are no two sequences and no objects, and of a sequence with no sequence -/
theorem eqS_step (eb : EqB X G E n) (ow : OwnS X G E n) : EqS X G E (n + 1) := by
  intro A pins s σ H ι h x y v1 v2 u1 u2 k sb I r p1 p2 r1 r2 e
  have hu : A.units < cLine := sb.room.units0
  have e0 : zeqK E (zeq E h n) (kind h x) (kind h y) = some k := e
  have q1 := kind_at r p1
  have q2 := kind_at r p2
  have same : ∀ {k' : Bool}, k' = k → (fun (r : Value) s' => r = .bool k ∧ EqOut X G pins σ ι h H s') (.bool k') s := fun hk => ⟨by rw [hk], EqOut.same I r⟩
  cases kx : kind h x with
  | no => rw [kx] at e0; simp [zeqK] at e0
  | obj c fs =>
    rw [kx] at e0 q1
    have hc : ∃ ks, E.lookup c = some ks := by
      have e' : zeqO E (zeq E h n) c fs (kind h y) = some k := e0
      unfold zeqO at e'
      cases ec : E.lookup c with
      | none => rw [ec] at e'; cases e'
      | some ks => exact ⟨ks, rfl⟩
    obtain ⟨ks, ec⟩ := hc
    obtain ⟨cl, nf, f, hs, hf, run⟩ := ow c ks ec
    cases q1 with
    | @obj _ _ a dx gs ea rf =>
      have r1' := r1
      cases (show u1 = Value.ref a from r1)
      obtain ⟨mA, O, _⟩ := ins_get I.hok ea
      obtain ⟨od, J, _⟩ := O.look
      obtain ⟨m, hF⟩ := I.fr
      have go : ∀ tb, PySem.W.Looks (model X.prog X.w) s.heap (typeOf u2) tb → PySem.W.notFirst X.K (G.cl c) tb = true → wpAny (model X.prog X.w) A (richCompare .Eq (.ref a) u2) (fun r s' => r = .bool k ∧ EqOut X G pins σ ι h H s') X.xe s := fun tb hb hn =>
        PySem.W.cmp_K (op := .Eq) (tb := tb) hu hF I.ok.mod.kin J hb hn hs hf (wpAny_mono (run A pins s σ H ι h x y _ v2 _ u2 k fs sb I r p1 p2 r1' r2 kx e0) (fun v s' hv => by
          obtain ⟨rfl, q⟩ := hv
          exact ⟨rfl, q⟩) fun _ _ z => z)
      cases ky : kind h y with
      | no =>
        rw [ky] at e0
        have e' : zeqO E (zeq E h n) c fs .no = some k := e0
        unfold zeqO at e'
        rw [ec] at e'
        cases e'
      | obj d gs' =>
        rw [ky] at q2 e0
        have hd : (E.lookup d).isSome = true := by
          have e' : zeqO E (zeq E h n) c fs (.obj d gs') = some k := e0
          unfold zeqO at e'
          rw [ec] at e'
          have e'' : (if c = d then zflds (zeq E h n) fs gs' ks else (E.lookup d).map fun _ => false) = some k := e'
          by_cases hcd : c = d
          · subst hcd; rw [ec]; rfl
          · rw [if_neg hcd] at e''
            cases ed : E.lookup d with
            | none => rw [ed] at e''; cases e''
            | some _ => rfl
        cases q2 with
        | @obj _ _ a2 dx2 gs2 ea2 rf2 =>
          cases (show u2 = Value.ref a2 from r2)
          obtain ⟨mA2, O2, _⟩ := ins_get I.hok ea2
          obtain ⟨od2, J2, _⟩ := O2.look
          exact go _ J2.type (nf d hd)
      | _ =>
        rw [ky] at q2
        obtain ⟨T, l1, l2⟩ := type_looks I q2 r2 (fun _ _ z => nomatch z) (fun z => nomatch z) (G.cl c)
        exact go _ l1 l2
  | non =>
    rw [kx] at e0 q1
    cases q1
    cases (show u1 = Value.none from r1)
    cases ky : kind h y with
    | non =>
      rw [ky] at e0 q2; cases q2; cases (show u2 = Value.none from r2)
      simp only [zeqK, Option.some.injEq] at e0
      exact RcAt.none_none X.prog X.w X.xe _ (same e0)
    | bl b =>
      rw [ky] at e0 q2; cases q2; cases (show u2 = Value.bool b from r2)
      simp only [zeqK, Option.some.injEq] at e0
      exact RcAt.none_bool b X.prog X.w X.xe _ (same e0)
    | int j =>
      rw [ky] at e0 q2; cases q2; obtain ⟨t, rfl⟩ := r2
      simp only [zeqK, Option.some.injEq] at e0
      exact RcAt.none_int j t X.prog X.w X.xe _ (same e0)
    | str z =>
      rw [ky] at e0 q2; cases q2; obtain ⟨t, rfl⟩ := r2
      simp only [zeqK, Option.some.injEq] at e0
      exact RcAt.none_str _ t X.prog X.w X.xe _ (same e0)
    | tup ws =>
      rw [ky] at e0 q2
      cases q2 with
      | @tup _ a2 vs e2 rs =>
        cases (show u2 = Value.ref a2 from r2)
        obtain ⟨its, rv, ht, _⟩ := I.tuple e2
        simp only [zeqK, Option.some.injEq] at e0
        exact RcAt.none_tuple ht hu X.prog X.w X.xe _ (same e0)
    | lst ws =>
      rw [ky] at e0 q2
      cases q2 with
      | @lst _ a2 vs e2 rs =>
        cases (show u2 = Value.ref a2 from r2)
        obtain ⟨its, rv, ht, _⟩ := I.list e2
        simp only [zeqK, Option.some.injEq] at e0
        exact RcAt.none_list ht.isList hu X.prog X.w X.xe _ (same e0)
    | obj d gs => rw [ky] at e0; simp [zeqK] at e0
    | no => rw [ky] at e0; simp [zeqK] at e0
  | bl b =>
    rw [kx] at e0 q1
    cases q1
    cases (show u1 = Value.bool b from r1)
    cases ky : kind h y with
    | non =>
      rw [ky] at e0 q2; cases q2; cases (show u2 = Value.none from r2)
      simp only [zeqK, Option.some.injEq] at e0
      exact RcAt.bool_none b X.prog X.w X.xe _ (same e0)
    | bl c =>
      rw [ky] at e0 q2; cases q2; cases (show u2 = Value.bool c from r2)
      simp only [zeqK, Option.some.injEq] at e0
      exact RcAt.bool_bool b c X.prog X.w X.xe _ (same e0)
    | int j =>
      rw [ky] at e0 q2; cases q2; obtain ⟨t, rfl⟩ := r2
      simp only [zeqK, Option.some.injEq] at e0
      refine RcAt.bool_int b j t X.prog X.w X.xe _ (same ?_)
      rw [b2z_if, int_beq]; exact e0
    | str z =>
      rw [ky] at e0 q2; cases q2; obtain ⟨t, rfl⟩ := r2
      simp only [zeqK, Option.some.injEq] at e0
      exact RcAt.bool_str b _ t X.prog X.w X.xe _ (same e0)
    | tup ws =>
      rw [ky] at e0 q2
      cases q2 with
      | @tup _ a2 vs e2 rs =>
        cases (show u2 = Value.ref a2 from r2)
        obtain ⟨its, rv, ht, _⟩ := I.tuple e2
        simp only [zeqK, Option.some.injEq] at e0
        exact RcAt.bool_tuple b ht hu X.prog X.w X.xe _ (same e0)
    | lst ws =>
      rw [ky] at e0 q2
      cases q2 with
      | @lst _ a2 vs e2 rs =>
        cases (show u2 = Value.ref a2 from r2)
        obtain ⟨its, rv, ht, _⟩ := I.list e2
        simp only [zeqK, Option.some.injEq] at e0
        exact RcAt.bool_list b ht.isList hu X.prog X.w X.xe _ (same e0)
    | obj d gs => rw [ky] at e0; simp [zeqK] at e0
    | no => rw [ky] at e0; simp [zeqK] at e0
  | int i =>
    rw [kx] at e0 q1
    cases q1
    obtain ⟨t1, rfl⟩ := r1
    cases ky : kind h y with
    | non =>
      rw [ky] at e0 q2; cases q2; cases (show u2 = Value.none from r2)
      simp only [zeqK, Option.some.injEq] at e0
      exact RcAt.int_none i t1 X.prog X.w X.xe _ (same e0)
    | bl c =>
      rw [ky] at e0 q2; cases q2; cases (show u2 = Value.bool c from r2)
      simp only [zeqK, Option.some.injEq] at e0
      refine RcAt.int_bool i t1 c X.prog X.w X.xe _ (same ?_)
      rw [b2z_if, int_beq]; exact e0
    | int j =>
      rw [ky] at e0 q2; cases q2; obtain ⟨t, rfl⟩ := r2
      simp only [zeqK, Option.some.injEq] at e0
      refine RcAt.int_int i t1 j t X.prog X.w X.xe _ (same ?_)
      rw [int_beq]; exact e0
    | str z =>
      rw [ky] at e0 q2; cases q2; obtain ⟨t, rfl⟩ := r2
      simp only [zeqK, Option.some.injEq] at e0
      exact RcAt.int_str i t1 _ t X.prog X.w X.xe _ (same e0)
    | tup ws =>
      rw [ky] at e0 q2
      cases q2 with
      | @tup _ a2 vs e2 rs =>
        cases (show u2 = Value.ref a2 from r2)
        obtain ⟨its, rv, ht, _⟩ := I.tuple e2
        simp only [zeqK, Option.some.injEq] at e0
        exact RcAt.int_tuple i t1 ht hu X.prog X.w X.xe _ (same e0)
    | lst ws =>
      rw [ky] at e0 q2
      cases q2 with
      | @lst _ a2 vs e2 rs =>
        cases (show u2 = Value.ref a2 from r2)
        obtain ⟨its, rv, ht, _⟩ := I.list e2
        simp only [zeqK, Option.some.injEq] at e0
        exact RcAt.int_list i t1 ht.isList hu X.prog X.w X.xe _ (same e0)
    | obj d gs => rw [ky] at e0; simp [zeqK] at e0
    | no => rw [ky] at e0; simp [zeqK] at e0
  | str z =>
    rw [kx] at e0 q1
    generalize hv : v1 = v' at q1
    cases q1
    subst hv
    obtain ⟨t1, rfl⟩ := r1
    cases ky : kind h y with
    | non =>
      rw [ky] at e0 q2; cases q2; cases (show u2 = Value.none from r2)
      simp only [zeqK, Option.some.injEq] at e0
      exact RcAt.str_none _ t1 X.prog X.w X.xe _ (same e0)
    | bl c =>
      rw [ky] at e0 q2; cases q2; cases (show u2 = Value.bool c from r2)
      simp only [zeqK, Option.some.injEq] at e0
      exact RcAt.str_bool _ t1 c X.prog X.w X.xe _ (same e0)
    | int j =>
      rw [ky] at e0 q2; cases q2; obtain ⟨t, rfl⟩ := r2
      simp only [zeqK, Option.some.injEq] at e0
      exact RcAt.str_int _ t1 j t X.prog X.w X.xe _ (same e0)
    | str z2 =>
      rw [ky] at e0 q2; cases q2; obtain ⟨t, rfl⟩ := r2
      simp only [zeqK, Option.some.injEq] at e0
      refine RcAt.str_str _ t1 _ t X.prog X.w X.xe _ (same ?_)
      rw [str_eqN]; exact e0
    | tup ws =>
      rw [ky] at e0 q2
      cases q2 with
      | @tup _ a2 vs e2 rs =>
        cases (show u2 = Value.ref a2 from r2)
        obtain ⟨its, rv, ht, _⟩ := I.tuple e2
        simp only [zeqK, Option.some.injEq] at e0
        exact RcAt.str_tuple _ t1 ht hu X.prog X.w X.xe _ (same e0)
    | lst ws =>
      rw [ky] at e0 q2
      cases q2 with
      | @lst _ a2 vs e2 rs =>
        cases (show u2 = Value.ref a2 from r2)
        obtain ⟨its, rv, ht, _⟩ := I.list e2
        simp only [zeqK, Option.some.injEq] at e0
        exact RcAt.str_list _ t1 ht.isList hu X.prog X.w X.xe _ (same e0)
    | obj d gs => rw [ky] at e0; simp [zeqK] at e0
    | no => rw [ky] at e0; simp [zeqK] at e0
  | tup ws =>
    rw [kx] at e0 q1
    cases q1 with
    | @tup _ a1 vs1 e1 rs1 =>
      cases (show u1 = Value.ref a1 from r1)
      obtain ⟨its1, rv1, ht1, _⟩ := I.tuple e1
      cases ky : kind h y with
      | non =>
        rw [ky] at e0 q2; cases q2; cases (show u2 = Value.none from r2)
        simp only [zeqK, Option.some.injEq] at e0
        exact RcAt.tuple_none ht1 hu X.prog X.w X.xe _ (same e0)
      | bl c =>
        rw [ky] at e0 q2; cases q2; cases (show u2 = Value.bool c from r2)
        simp only [zeqK, Option.some.injEq] at e0
        exact RcAt.tuple_bool c ht1 hu X.prog X.w X.xe _ (same e0)
      | int j =>
        rw [ky] at e0 q2; cases q2; obtain ⟨t, rfl⟩ := r2
        simp only [zeqK, Option.some.injEq] at e0
        exact RcAt.tuple_int j t ht1 hu X.prog X.w X.xe _ (same e0)
      | str z2 =>
        rw [ky] at e0 q2; cases q2; obtain ⟨t, rfl⟩ := r2
        simp only [zeqK, Option.some.injEq] at e0
        exact RcAt.tuple_str _ t ht1 hu X.prog X.w X.xe _ (same e0)
      | lst ws2 =>
        rw [ky] at e0 q2
        cases q2 with
        | @lst _ a2 vs e2 rs =>
          cases (show u2 = Value.ref a2 from r2)
          obtain ⟨its, rv, ht, _⟩ := I.list e2
          simp only [zeqK, Option.some.injEq] at e0
          exact RcAt.tuple_list ht1 ht.isList hu X.prog X.w X.xe _ (same e0)
      | tup ws2 =>
        rw [ky] at e0 q2
        cases q2 with
        | @tup _ a2 vs2 e2 rs2 =>
          cases (show u2 = Value.ref a2 from r2)
          obtain ⟨its2, rv2, ht2, _⟩ := I.tuple e2
          obtain ⟨ef, g1, g2⟩ := zall_get (show zall (zeq E h n) ws ws2 = some k from e0)
          refine rc_tupB (e := ef) hu (fun s' => EqOut X G pins σ ι h H s') ht1 ht2 (fun i h1 h2 s' ⟨H', I', n'⟩ => ?_) (fun s' q => ⟨?_, q⟩) (EqOut.same I r)
          · obtain ⟨w1, z1, l1, m1, o1⟩ := rs1.paired rv1 i h1
            obtain ⟨w2, z2, l2, m2, o2⟩ := rs2.paired rv2 i h2
            refine wpAny_mono (eb A.in1 pins s' σ H' ι h w1 w2 z1 z2 _ _ (ef i) sb.in1 I' n'.rep (Rep.next r n'.toNx0 m1) (Rep.next r n'.toNx0 m2) o1 o2 (g1 i w1 w2 l1 l2)) (fun v s2 hv => ⟨hv.1, EqOut.trans n' hv.2⟩) fun _ _ z => z
          · rw [g2, List.size_toArray, List.size_toArray, rs1.length, rs2.length, rv1.length, rv2.length]
      | obj d gs => rw [ky] at e0; simp [zeqK] at e0
      | no => rw [ky] at e0; simp [zeqK] at e0
  | lst ws =>
    rw [kx] at e0 q1
    cases q1 with
    | @lst _ a1 vs1 e1 rs1 =>
      cases (show u1 = Value.ref a1 from r1)
      obtain ⟨its1, rv1, ht1, _⟩ := I.list e1
      cases ky : kind h y with
      | non =>
        rw [ky] at e0 q2; cases q2; cases (show u2 = Value.none from r2)
        simp only [zeqK, Option.some.injEq] at e0
        exact RcAt.list_none ht1.isList hu X.prog X.w X.xe _ (same e0)
      | bl c =>
        rw [ky] at e0 q2; cases q2; cases (show u2 = Value.bool c from r2)
        simp only [zeqK, Option.some.injEq] at e0
        exact RcAt.list_bool c ht1.isList hu X.prog X.w X.xe _ (same e0)
      | int j =>
        rw [ky] at e0 q2; cases q2; obtain ⟨t, rfl⟩ := r2
        simp only [zeqK, Option.some.injEq] at e0
        exact RcAt.list_int j t ht1.isList hu X.prog X.w X.xe _ (same e0)
      | str z2 =>
        rw [ky] at e0 q2; cases q2; obtain ⟨t, rfl⟩ := r2
        simp only [zeqK, Option.some.injEq] at e0
        exact RcAt.list_str _ t ht1.isList hu X.prog X.w X.xe _ (same e0)
      | tup ws2 =>
        rw [ky] at e0 q2
        cases q2 with
        | @tup _ a2 vs e2 rs =>
          cases (show u2 = Value.ref a2 from r2)
          obtain ⟨its, rv, ht, _⟩ := I.tuple e2
          simp only [zeqK, Option.some.injEq] at e0
          exact RcAt.list_tuple ht1.isList ht hu X.prog X.w X.xe _ (same e0)
      | lst ws2 =>
        rw [ky] at e0 q2
        cases q2 with
        | @lst _ a2 vs2 e2 rs2 =>
          have p2' := p2
          cases (show u2 = Value.ref a2 from r2)
          obtain ⟨its2, rv2, ht2, _⟩ := I.list e2
          obtain ⟨ef, g1, g2⟩ := zall_get (show zall (zeq E h n) ws ws2 = some k from e0)
          by_cases hl : ws.length = ws2.length
          · refine rc_listB (N := ws.length) (e := ef) hu (fun s' => EqOut X G pins σ ι h H s') (fun s' q => ?_) (fun s' q => ⟨?_, q⟩) (EqOut.same I r)
            · obtain ⟨H', I', n'⟩ := q
              obtain ⟨vs3, its3, m3, dd3, sl3, o3, rv3, rs3⟩ := list_again r p1 kx I' n'
              obtain ⟨vs4, its4, m4, dd4, sl4, o4, rv4, rs4⟩ := list_again r p2' ky I' n'
              refine ⟨_, m3, dd3, sl3, o3, by rw [List.size_toArray, rs3.length, rv3.length], _, m4, dd4, sl4, o4, by rw [List.size_toArray, hl, rs4.length, rv4.length], fun i h1 h2 => ?_⟩
              obtain ⟨w1, z1, l1, m1, o1⟩ := rs3.paired rv3 i h1
              obtain ⟨w2, z2, l2, m2, o2⟩ := rs4.paired rv4 i h2
              refine wpAny_mono (eb A.in1 pins s' σ H' ι h w1 w2 z1 z2 _ _ (ef i) sb.in1 I' n'.rep m1 m2 o1 o2 (g1 i w1 w2 l1 l2)) (fun v s2 hv => ⟨hv.1, EqOut.trans n' hv.2⟩) fun _ _ z => z
            · rw [g2, ← hl, Nat.min_self]
              simp
          · refine RcAt.lists_lengths ht1.isList ht2.isList ?_ hu X.prog X.w X.xe _ (same ?_)
            · rw [List.size_toArray, List.size_toArray, ← rv1.length, ← rv2.length, ← rs1.length, ← rs2.length]
              simpa using hl
            · rw [g2]
              simp [hl]
      | obj d gs => rw [ky] at e0; simp [zeqK] at e0
      | no => rw [ky] at e0; simp [zeqK] at e0
theorem eqS_zero : EqS X G E 0 := by
  intro A pins s σ H ι h x y v1 v2 u1 u2 k sb I r p1 p2 r1 r2 e
  cases e
end
end Z

set_option Elab.async false
set_option linter.all false
set_option maxRecDepth 100000
set_option maxHeartbeats 1000000
set_option autoImplicit false
namespace Z
open PySem PySem.SeqAt L2
open AutoSeq1 (wpAny_loadPart')
open MeetsSeq MeetsSeq2 MeetsSeq3 SeqRoads2
section
variable {prog : Program} {w : World} {A : Around} {R : Result → Shared → Prop}
theorem ne_loopB (l b : Addr) (N : Nat) (e : Nat → Bool) (J : Shared → Prop)
    (hl : ∀ s, J s → LsAt s.heap l N fun its => LsAt s.heap b N fun its2 => ∀ i (h1 : i < its.size) (h2 : i < its2.size), wpAny (model prog w) A.in1 (eqBool its[i] its2[i]) (fun r s' => r = e i ∧ J s') (fun x s' => R (.error x) s') s)
    (k : Nat) : ∀ i : Nat, N - i = k → i ≤ N → (∀ s, J s → R (.ok (.ret (.bool (!((List.range N).drop i).all e)))) s) → ∀ s, J s →
      wpAny (model prog w) A.in1 (Builtin.«list.__eq__.loop» ⟨[.ref l, .ref b, rawInt i, rawInt 3], []⟩) (GQ.FinOf prog w A R) (fun x s' => R (.error x) s') s := by
  induction k with
  | zero =>
    intro i hk hi fin s h
    obtain ⟨its, n, dd, sl, g1, z1, its2, n2, dd2, sl2, g2, z2, _⟩ := hl s h
    have e0 : i = N := by omega
    have hR := fin s h
    rw [e0, List.drop_of_length_le (by simp)] at hR
    obtain ⟨hp, g, d, tk, os⟩ := s
    wp_walk using wpAny_loadPart' g1, wpAny_loadPart' g2
    have i1 : its[((i : Nat) : Int).toNat]? = none := by simp; omega
    have i2 : its2[((i : Nat) : Int).toNat]? = none := by simp; omega
    rw [i1, i2]
    wp_walk using wpAny_loadPart' g1, wpAny_loadPart' g2
    show R (.ok (.ret (.bool (its.size != its2.size)))) _
    rw [z1, z2]
    simpa using hR
  | succ k ih =>
    intro i hk hi fin s h
    obtain ⟨its, n, dd, sl, g1, z1, its2, n2, dd2, sl2, g2, z2, turn⟩ := hl s h
    have l1 : i < its.size := by omega
    have l2 : i < its2.size := by omega
    have ht := turn i l1 l2
    have hd : (List.range N).drop i = i :: (List.range N).drop (i + 1) := by
      rw [List.drop_eq_getElem_cons (by simp; omega)]; simp
    rw [hd, List.all_cons] at fin
    obtain ⟨hp, g, d, tk, os⟩ := s
    wp_walk using wpAny_loadPart' g1, wpAny_loadPart' g2
    have i1 : its[((i : Nat) : Int).toNat]? = some its[i] := by simp [l1]
    have i2 : its2[((i : Nat) : Int).toNat]? = some its2[i] := by simp [l2]
    have hc : ((i : Int) + 1) = ((i + 1 : Nat) : Int) := by omega
    rw [i1, i2]
    refine wpAny_bind (wpAny_mono ht (fun r s2 h2 => ?_) fun _ _ x => x)
    obtain ⟨hr, h2⟩ := h2
    subst hr
    cases he : e i with
    | true =>
      rw [he] at fin
      have hrec := ih (i + 1) (by omega) (by omega) (by simpa using fin) s2 h2
      obtain ⟨hp2, g3, d2, tk2, os2⟩ := s2
      wp_walk
      rw [hc]
      exact ⟨plainId_quiet plain_eq_loop _, codeAny_builtin entry_eq_loop (by
        rw [Around.under_plainId plain_eq_loop _]; exact hrec)⟩
    | false =>
      rw [he] at fin
      have hR := fin s2 h2
      obtain ⟨jts, k1, dd3, sl3, g4, z3, jts2, k2, dd4, sl4, g5, z4, _⟩ := hl s2 h2
      obtain ⟨hp2, g3, d2, tk2, os2⟩ := s2
      wp_walk using wpAny_loadPart' g4, wpAny_loadPart' g5
      have j1 : jts[((i : Nat) : Int).toNat]? = some (jts[i]'(by omega)) := by simp
      have j2 : jts2[((i : Nat) : Int).toNat]? = some (jts2[i]'(by omega)) := by simp
      rw [j1, j2]
      wp_walk
      simpa using hR
theorem list_neB (l b : Addr) (N : Nat) (e : Nat → Bool) (J : Shared → Prop)
    (hl : ∀ s, J s → LsAt s.heap l N fun its => LsAt s.heap b N fun its2 => ∀ i (h1 : i < its.size) (h2 : i < its2.size), wpAny (model prog w) A.in1 (eqBool its[i] its2[i]) (fun r s' => r = e i ∧ J s') (fun x s' => R (.error x) s') s)
    (fin : ∀ s, J s → R (.ok (.ret (.bool (!(List.range N).all e)))) s) {s : Shared} (h : J s) :
    wpAny (model prog w) A.in1 (Builtin.«list.__ne__» ⟨[.ref l, .ref b], []⟩) (GQ.FinOf prog w A R) (fun x s' => R (.error x) s') s := by
  obtain ⟨its, n, dd, sl, g1, z1, its2, n2, dd2, sl2, g2, z2, _⟩ := hl s h
  have hrec := ne_loopB (A := A) (R := R) l b N e J hl _ 0 rfl (Nat.zero_le _) (by simpa using fin) s h
  obtain ⟨hp, g, d, tk, os⟩ := s
  have f3 := AutoSeq1.sub_list_list
  have hne : ¬ (its.size != its2.size) = true := by simp [z1, z2]
  wp_walk using wpAny_loadPart' g1, wpAny_loadPart' g2
  exact ⟨plainId_quiet plain_eq_loop _, codeAny_builtin entry_eq_loop (by
    rw [Around.under_plainId plain_eq_loop _]; exact hrec)⟩
theorem tuple_neB (l b : Addr) (items items2 : Array Value) (n n2 : Nat) (dd dd2 : Option Addr) (sl sl2 : Array (Option Value)) (e : Nat → Bool) (J : Shared → Prop)
    (turn : ∀ i (h1 : i < items.size) (h2 : i < items2.size) s, J s → wpAny (model prog w) A.in1 (eqBool items[i] items2[i]) (fun r s' => r = e i ∧ J s') (fun x s' => R (.error x) s') s)
    (fin : ∀ s, J s → R (.ok (.ret (.bool (!((List.range (min items.size items2.size)).all e && items.size == items2.size))))) s) {s : Shared} (g1 : s.heap.get? l = some (tpO items n dd sl)) (g2 : s.heap.get? b = some (tpO items2 n2 dd2 sl2)) (h : J s) :
    wpAny (model prog w) A.in1 (Builtin.«tuple.__ne__» ⟨[.ref l, .ref b], []⟩) (GQ.FinOf prog w A R) (fun x s' => R (.error x) s') s := by
  have f2 := AutoSeq1.sub_tuple_tuple
  have hZ : (items.toList.zip items2.toList).length = min items.size items2.size := by simp
  have h0 := h
  obtain ⟨hp, g, d, tk, os⟩ := s
  wp_walk using wpAny_loadPart' g1, wpAny_loadPart' g2, wpAny_forIn_list _ (fun rest b s' => b.1 = none ∧ J s' ∧ ∃ i, rest = (items.toList.zip items2.toList).drop i ∧
    ∀ s, J s → R (.ok (.ret (.bool (!(((List.range (min items.size items2.size)).drop i).all e && items.size == items2.size))))) s) _
  case turn =>
    rintro ⟨y, x⟩ rest b s' ⟨hb', hJ, i, hz, hR⟩
    have hlt : i < (items.toList.zip items2.toList).length := by
      rcases Nat.lt_or_ge i (items.toList.zip items2.toList).length with h' | h'
      · exact h'
      · rw [List.drop_of_length_le h'] at hz; cases hz
    have hm : i < min items.size items2.size := hZ ▸ hlt
    have h1 : i < items.size := Nat.lt_of_lt_of_le hm (Nat.min_le_left _ _)
    have h2 : i < items2.size := Nat.lt_of_lt_of_le hm (Nat.min_le_right _ _)
    rw [List.drop_eq_getElem_cons hlt] at hz
    injection hz with hyx hrest
    have hy : y = items[i] := by have := congrArg Prod.fst hyx; simpa using this
    have hx : x = items2[i] := by have := congrArg Prod.snd hyx; simpa using this
    subst hy hx
    have hd : (List.range (min items.size items2.size)).drop i = i :: (List.range (min items.size items2.size)).drop (i + 1) := by simp [List.drop_eq_getElem_cons, hm]
    rw [hd, List.all_cons] at hR
    refine wpAny_bind (wpAny_mono (turn i h1 h2 s' hJ) (fun r s2 q2 => ?_) fun _ _ x => x)
    obtain ⟨hr, q2⟩ := q2
    subst hr
    cases hy : e i with
    | true =>
      rw [hy] at hR
      wp_walk
      exact ⟨rfl, q2, i + 1, hrest, by simpa using hR⟩
    | false =>
      rw [hy] at hR
      have hR2 := hR s2 q2
      wp_walk
      simpa using hR2
  case fin =>
    rintro ⟨b1, b2⟩ s' ⟨hb', hJ, i, hz, hR⟩
    simp only at hb'
    subst hb'
    have hge : min items.size items2.size ≤ i := by
      rcases Nat.lt_or_ge i (items.toList.zip items2.toList).length with h' | h'
      · rw [List.drop_eq_getElem_cons h'] at hz; cases hz
      · exact hZ ▸ h'
    have hR2 := hR s' hJ
    rw [List.drop_of_length_le (by simpa using hge)] at hR2
    wp_walk
    simpa [Builtin.Tuple.tupleCompareSizes, bne] using hR2
  case h =>
    exact ⟨rfl, h0, 0, rfl, by simpa using fin⟩

end
section
variable {prog : Program} {w : World} {A : Around} {E : Value → Shared → Prop} {s : Shared}
theorem rcn_listB {l b : Addr} {N : Nat} {e : Nat → Bool} {Q : Value → Shared → Prop} (hu : A.units < cLine) (J : Shared → Prop)
    (hl : ∀ s, J s → LsAt s.heap l N fun its => LsAt s.heap b N fun its2 => ∀ i (h1 : i < its.size) (h2 : i < its2.size), wpAny (model prog w) A.in1 (eqBool its[i] its2[i]) (fun r s' => r = e i ∧ J s') E s)
    (fin : ∀ s, J s → Q (.bool (!(List.range N).all e)) s) (h : J s) : wpAny (model prog w) A (richCompare .NotEq (.ref l) (.ref b)) Q E s := by
  obtain ⟨its, n, dd, sl, g1, z1, its2, n2, dd2, sl2, g2, z2, _⟩ := hl s h
  refine wpAny_richCompare_same_room (op := .NotEq) ⟨_, g1, rfl⟩ ⟨_, g2, rfl⟩ F.slot_list_ne (GQ.call_here F.slot_list_ne ⟨_, g1, rfl⟩ F.entry_list_ne (F.args_list_ne_2 _ _) ?_) hu
  exact list_neB (R := wants (fun v s' => v ≠ .notImplemented ∧ Q v s') E) l b N e J hl (fun s' q => ⟨(fun x => nomatch x), fin s' q⟩) h
theorem rcn_tupB {l b : Addr} {items items2 : Array Value} {e : Nat → Bool} {Q : Value → Shared → Prop} (hu : A.units < cLine) (J : Shared → Prop) (hl : s.heap.IsTuple l items) (hb : s.heap.IsTuple b items2)
    (turn : ∀ i (h1 : i < items.size) (h2 : i < items2.size) s, J s → wpAny (model prog w) A.in1 (eqBool items[i] items2[i]) (fun r s' => r = e i ∧ J s') E s)
    (fin : ∀ s, J s → Q (.bool (!((List.range (min items.size items2.size)).all e && items.size == items2.size))) s) (h : J s) : wpAny (model prog w) A (richCompare .NotEq (.ref l) (.ref b)) Q E s := by
  obtain ⟨⟨cls, dd, data, sl⟩, ho, hc, n, hd⟩ := id hl
  obtain ⟨⟨cls2, dd2, data2, sl2⟩, ho2, hc2, n2, hd2⟩ := id hb
  simp only at hc hd hc2 hd2
  subst hc hd hc2 hd2
  refine wpAny_richCompare_same_room (op := .NotEq) ⟨_, ho, rfl⟩ ⟨_, ho2, rfl⟩ F.slot_tuple_ne (GQ.call_here F.slot_tuple_ne ⟨_, ho, rfl⟩ F.entry_tuple_ne (F.args_tuple_ne_2 _ _) ?_) hu
  exact tuple_neB (R := wants (fun v s' => v ≠ .notImplemented ∧ Q v s') E) l b items items2 n n2 dd dd2 sl sl2 e J turn (fun s' q => ⟨(fun x => nomatch x), fin s' q⟩) ho ho2 h
end
section
variable {X : Cx} {G : Gt} {E : ET} {n : Nat}
def NeS (X : Cx) (G : Gt) (E : ET) (n : Nat) : Prop := ∀ (A : Around) (pins : List (Addr × Obj)) (s : Shared) (σ : St) (H : Hp) (ι : Nat → Addr) (h : Hz) (x y : W) (v1 v2 : V) (u1 u2 : Value) (k : Bool), Sub X n A → Inv X pins σ H s → HRep X.K G ι h H →
  Rep X.K G ι h H x v1 → Rep X.K G ι h H y v2 → RelV v1 u1 → RelV v2 u2 → (∀ c fs, kind h x ≠ .obj c fs) → zeq E h n x y = some k → wpAny (model X.prog X.w) A (richCompare .NotEq u1 u2) (fun r s' => r = .bool (!k) ∧ EqOut X G pins σ ι h H s') X.xe s
theorem neS_step (eb : EqB X G E n) : NeS X G E (n + 1) := by
  intro A pins s σ H ι h x y v1 v2 u1 u2 k sb I r p1 p2 r1 r2 no e
  have hu : A.units < cLine := sb.room.units0
  have e0 : zeqK E (zeq E h n) (kind h x) (kind h y) = some k := e
  have q1 := kind_at r p1
  have q2 := kind_at r p2
  have same : ∀ {k' : Bool}, k' = (!k) → (fun (r : Value) s' => r = .bool (!k) ∧ EqOut X G pins σ ι h H s') (.bool k') s := fun hk => ⟨by rw [hk], EqOut.same I r⟩
  cases kx : kind h x with
  | no => rw [kx] at e0; simp [zeqK] at e0
  | obj c fs => exact absurd kx (no c fs)
  | non =>
    rw [kx] at e0 q1
    cases q1
    cases (show u1 = Value.none from r1)
    cases ky : kind h y with
    | non =>
      rw [ky] at e0 q2; cases q2; cases (show u2 = Value.none from r2)
      simp only [zeqK, Option.some.injEq] at e0
      exact RcNeAt.none_none X.prog X.w X.xe _ (same (by rw [← e0] <;> rfl))
    | bl b =>
      rw [ky] at e0 q2; cases q2; cases (show u2 = Value.bool b from r2)
      simp only [zeqK, Option.some.injEq] at e0
      exact RcNeAt.none_bool b X.prog X.w X.xe _ (same (by rw [← e0] <;> rfl))
    | int j =>
      rw [ky] at e0 q2; cases q2; obtain ⟨t, rfl⟩ := r2
      simp only [zeqK, Option.some.injEq] at e0
      exact RcNeAt.none_int j t X.prog X.w X.xe _ (same (by rw [← e0] <;> rfl))
    | str z =>
      rw [ky] at e0 q2; cases q2; obtain ⟨t, rfl⟩ := r2
      simp only [zeqK, Option.some.injEq] at e0
      exact RcNeAt.none_str _ t X.prog X.w X.xe _ (same (by rw [← e0] <;> rfl))
    | tup ws =>
      rw [ky] at e0 q2
      cases q2 with
      | @tup _ a2 vs e2 rs =>
        cases (show u2 = Value.ref a2 from r2)
        obtain ⟨its, rv, ht, _⟩ := I.tuple e2
        simp only [zeqK, Option.some.injEq] at e0
        exact RcNeAt.none_tuple ht hu X.prog X.w X.xe _ (same (by rw [← e0] <;> rfl))
    | lst ws =>
      rw [ky] at e0 q2
      cases q2 with
      | @lst _ a2 vs e2 rs =>
        cases (show u2 = Value.ref a2 from r2)
        obtain ⟨its, rv, ht, _⟩ := I.list e2
        simp only [zeqK, Option.some.injEq] at e0
        exact RcNeAt.none_list ht.isList hu X.prog X.w X.xe _ (same (by rw [← e0] <;> rfl))
    | obj d gs => rw [ky] at e0; simp [zeqK] at e0
    | no => rw [ky] at e0; simp [zeqK] at e0
  | bl b =>
    rw [kx] at e0 q1
    cases q1
    cases (show u1 = Value.bool b from r1)
    cases ky : kind h y with
    | non =>
      rw [ky] at e0 q2; cases q2; cases (show u2 = Value.none from r2)
      simp only [zeqK, Option.some.injEq] at e0
      exact RcNeAt.bool_none b X.prog X.w X.xe _ (same (by rw [← e0] <;> rfl))
    | bl c =>
      rw [ky] at e0 q2; cases q2; cases (show u2 = Value.bool c from r2)
      simp only [zeqK, Option.some.injEq] at e0
      exact RcNeAt.bool_bool b c X.prog X.w X.xe _ (same (by rw [← e0] <;> rfl))
    | int j =>
      rw [ky] at e0 q2; cases q2; obtain ⟨t, rfl⟩ := r2
      simp only [zeqK, Option.some.injEq] at e0
      refine RcNeAt.bool_int b j t X.prog X.w X.xe _ (same ?_)
      rw [b2z_if, int_beq, e0]
    | str z =>
      rw [ky] at e0 q2; cases q2; obtain ⟨t, rfl⟩ := r2
      simp only [zeqK, Option.some.injEq] at e0
      exact RcNeAt.bool_str b _ t X.prog X.w X.xe _ (same (by rw [← e0] <;> rfl))
    | tup ws =>
      rw [ky] at e0 q2
      cases q2 with
      | @tup _ a2 vs e2 rs =>
        cases (show u2 = Value.ref a2 from r2)
        obtain ⟨its, rv, ht, _⟩ := I.tuple e2
        simp only [zeqK, Option.some.injEq] at e0
        exact RcNeAt.bool_tuple b ht hu X.prog X.w X.xe _ (same (by rw [← e0] <;> rfl))
    | lst ws =>
      rw [ky] at e0 q2
      cases q2 with
      | @lst _ a2 vs e2 rs =>
        cases (show u2 = Value.ref a2 from r2)
        obtain ⟨its, rv, ht, _⟩ := I.list e2
        simp only [zeqK, Option.some.injEq] at e0
        exact RcNeAt.bool_list b ht.isList hu X.prog X.w X.xe _ (same (by rw [← e0] <;> rfl))
    | obj d gs => rw [ky] at e0; simp [zeqK] at e0
    | no => rw [ky] at e0; simp [zeqK] at e0
  | int i =>
    rw [kx] at e0 q1
    cases q1
    obtain ⟨t1, rfl⟩ := r1
    cases ky : kind h y with
    | non =>
      rw [ky] at e0 q2; cases q2; cases (show u2 = Value.none from r2)
      simp only [zeqK, Option.some.injEq] at e0
      exact RcNeAt.int_none i t1 X.prog X.w X.xe _ (same (by rw [← e0] <;> rfl))
    | bl c =>
      rw [ky] at e0 q2; cases q2; cases (show u2 = Value.bool c from r2)
      simp only [zeqK, Option.some.injEq] at e0
      refine RcNeAt.int_bool i t1 c X.prog X.w X.xe _ (same ?_)
      rw [b2z_if, int_beq, e0]
    | int j =>
      rw [ky] at e0 q2; cases q2; obtain ⟨t, rfl⟩ := r2
      simp only [zeqK, Option.some.injEq] at e0
      refine RcNeAt.int_int i t1 j t X.prog X.w X.xe _ (same ?_)
      rw [int_beq, e0]
    | str z =>
      rw [ky] at e0 q2; cases q2; obtain ⟨t, rfl⟩ := r2
      simp only [zeqK, Option.some.injEq] at e0
      exact RcNeAt.int_str i t1 _ t X.prog X.w X.xe _ (same (by rw [← e0] <;> rfl))
    | tup ws =>
      rw [ky] at e0 q2
      cases q2 with
      | @tup _ a2 vs e2 rs =>
        cases (show u2 = Value.ref a2 from r2)
        obtain ⟨its, rv, ht, _⟩ := I.tuple e2
        simp only [zeqK, Option.some.injEq] at e0
        exact RcNeAt.int_tuple i t1 ht hu X.prog X.w X.xe _ (same (by rw [← e0] <;> rfl))
    | lst ws =>
      rw [ky] at e0 q2
      cases q2 with
      | @lst _ a2 vs e2 rs =>
        cases (show u2 = Value.ref a2 from r2)
        obtain ⟨its, rv, ht, _⟩ := I.list e2
        simp only [zeqK, Option.some.injEq] at e0
        exact RcNeAt.int_list i t1 ht.isList hu X.prog X.w X.xe _ (same (by rw [← e0] <;> rfl))
    | obj d gs => rw [ky] at e0; simp [zeqK] at e0
    | no => rw [ky] at e0; simp [zeqK] at e0
  | str z =>
    rw [kx] at e0 q1
    generalize hv : v1 = v' at q1
    cases q1
    subst hv
    obtain ⟨t1, rfl⟩ := r1
    cases ky : kind h y with
    | non =>
      rw [ky] at e0 q2; cases q2; cases (show u2 = Value.none from r2)
      simp only [zeqK, Option.some.injEq] at e0
      exact RcNeAt.str_none _ t1 X.prog X.w X.xe _ (same (by rw [← e0] <;> rfl))
    | bl c =>
      rw [ky] at e0 q2; cases q2; cases (show u2 = Value.bool c from r2)
      simp only [zeqK, Option.some.injEq] at e0
      exact RcNeAt.str_bool _ t1 c X.prog X.w X.xe _ (same (by rw [← e0] <;> rfl))
    | int j =>
      rw [ky] at e0 q2; cases q2; obtain ⟨t, rfl⟩ := r2
      simp only [zeqK, Option.some.injEq] at e0
      exact RcNeAt.str_int _ t1 j t X.prog X.w X.xe _ (same (by rw [← e0] <;> rfl))
    | str z2 =>
      rw [ky] at e0 q2; cases q2; obtain ⟨t, rfl⟩ := r2
      simp only [zeqK, Option.some.injEq] at e0
      refine RcNeAt.str_str _ t1 _ t X.prog X.w X.xe _ (same ?_)
      rw [str_eqN, e0]
    | tup ws =>
      rw [ky] at e0 q2
      cases q2 with
      | @tup _ a2 vs e2 rs =>
        cases (show u2 = Value.ref a2 from r2)
        obtain ⟨its, rv, ht, _⟩ := I.tuple e2
        simp only [zeqK, Option.some.injEq] at e0
        exact RcNeAt.str_tuple _ t1 ht hu X.prog X.w X.xe _ (same (by rw [← e0] <;> rfl))
    | lst ws =>
      rw [ky] at e0 q2
      cases q2 with
      | @lst _ a2 vs e2 rs =>
        cases (show u2 = Value.ref a2 from r2)
        obtain ⟨its, rv, ht, _⟩ := I.list e2
        simp only [zeqK, Option.some.injEq] at e0
        exact RcNeAt.str_list _ t1 ht.isList hu X.prog X.w X.xe _ (same (by rw [← e0] <;> rfl))
    | obj d gs => rw [ky] at e0; simp [zeqK] at e0
    | no => rw [ky] at e0; simp [zeqK] at e0
  | tup ws =>
    rw [kx] at e0 q1
    cases q1 with
    | @tup _ a1 vs1 e1 rs1 =>
      cases (show u1 = Value.ref a1 from r1)
      obtain ⟨its1, rv1, ht1, _⟩ := I.tuple e1
      cases ky : kind h y with
      | non =>
        rw [ky] at e0 q2; cases q2; cases (show u2 = Value.none from r2)
        simp only [zeqK, Option.some.injEq] at e0
        exact RcNeAt.tuple_none ht1 hu X.prog X.w X.xe _ (same (by rw [← e0] <;> rfl))
      | bl c =>
        rw [ky] at e0 q2; cases q2; cases (show u2 = Value.bool c from r2)
        simp only [zeqK, Option.some.injEq] at e0
        exact RcNeAt.tuple_bool c ht1 hu X.prog X.w X.xe _ (same (by rw [← e0] <;> rfl))
      | int j =>
        rw [ky] at e0 q2; cases q2; obtain ⟨t, rfl⟩ := r2
        simp only [zeqK, Option.some.injEq] at e0
        exact RcNeAt.tuple_int j t ht1 hu X.prog X.w X.xe _ (same (by rw [← e0] <;> rfl))
      | str z2 =>
        rw [ky] at e0 q2; cases q2; obtain ⟨t, rfl⟩ := r2
        simp only [zeqK, Option.some.injEq] at e0
        exact RcNeAt.tuple_str _ t ht1 hu X.prog X.w X.xe _ (same (by rw [← e0] <;> rfl))
      | lst ws2 =>
        rw [ky] at e0 q2
        cases q2 with
        | @lst _ a2 vs e2 rs =>
          cases (show u2 = Value.ref a2 from r2)
          obtain ⟨its, rv, ht, _⟩ := I.list e2
          simp only [zeqK, Option.some.injEq] at e0
          exact RcNeAt.tuple_list ht1 ht.isList hu X.prog X.w X.xe _ (same (by rw [← e0] <;> rfl))
      | tup ws2 =>
        rw [ky] at e0 q2
        cases q2 with
        | @tup _ a2 vs2 e2 rs2 =>
          cases (show u2 = Value.ref a2 from r2)
          obtain ⟨its2, rv2, ht2, _⟩ := I.tuple e2
          obtain ⟨ef, g1, g2⟩ := zall_get (show zall (zeq E h n) ws ws2 = some k from e0)
          refine rcn_tupB (e := ef) hu (fun s' => EqOut X G pins σ ι h H s') ht1 ht2 (fun i h1 h2 s' ⟨H', I', n'⟩ => ?_) (fun s' q => ⟨?_, q⟩) (EqOut.same I r)
          · obtain ⟨w1, z1, l1, m1, o1⟩ := rs1.paired rv1 i h1
            obtain ⟨w2, z2, l2, m2, o2⟩ := rs2.paired rv2 i h2
            refine wpAny_mono (eb A.in1 pins s' σ H' ι h w1 w2 z1 z2 _ _ (ef i) sb.in1 I' n'.rep (Rep.next r n'.toNx0 m1) (Rep.next r n'.toNx0 m2) o1 o2 (g1 i w1 w2 l1 l2)) (fun v s2 hv => ⟨hv.1, EqOut.trans n' hv.2⟩) fun _ _ z => z
          · rw [g2, List.size_toArray, List.size_toArray, rs1.length, rs2.length, rv1.length, rv2.length]
      | obj d gs => rw [ky] at e0; simp [zeqK] at e0
      | no => rw [ky] at e0; simp [zeqK] at e0
  | lst ws =>
    rw [kx] at e0 q1
    cases q1 with
    | @lst _ a1 vs1 e1 rs1 =>
      cases (show u1 = Value.ref a1 from r1)
      obtain ⟨its1, rv1, ht1, _⟩ := I.list e1
      cases ky : kind h y with
      | non =>
        rw [ky] at e0 q2; cases q2; cases (show u2 = Value.none from r2)
        simp only [zeqK, Option.some.injEq] at e0
        exact RcNeAt.list_none ht1.isList hu X.prog X.w X.xe _ (same (by rw [← e0] <;> rfl))
      | bl c =>
        rw [ky] at e0 q2; cases q2; cases (show u2 = Value.bool c from r2)
        simp only [zeqK, Option.some.injEq] at e0
        exact RcNeAt.list_bool c ht1.isList hu X.prog X.w X.xe _ (same (by rw [← e0] <;> rfl))
      | int j =>
        rw [ky] at e0 q2; cases q2; obtain ⟨t, rfl⟩ := r2
        simp only [zeqK, Option.some.injEq] at e0
        exact RcNeAt.list_int j t ht1.isList hu X.prog X.w X.xe _ (same (by rw [← e0] <;> rfl))
      | str z2 =>
        rw [ky] at e0 q2; cases q2; obtain ⟨t, rfl⟩ := r2
        simp only [zeqK, Option.some.injEq] at e0
        exact RcNeAt.list_str _ t ht1.isList hu X.prog X.w X.xe _ (same (by rw [← e0] <;> rfl))
      | tup ws2 =>
        rw [ky] at e0 q2
        cases q2 with
        | @tup _ a2 vs e2 rs =>
          cases (show u2 = Value.ref a2 from r2)
          obtain ⟨its, rv, ht, _⟩ := I.tuple e2
          simp only [zeqK, Option.some.injEq] at e0
          exact RcNeAt.list_tuple ht1.isList ht hu X.prog X.w X.xe _ (same (by rw [← e0] <;> rfl))
      | lst ws2 =>
        rw [ky] at e0 q2
        cases q2 with
        | @lst _ a2 vs2 e2 rs2 =>
          have p2' := p2
          cases (show u2 = Value.ref a2 from r2)
          obtain ⟨its2, rv2, ht2, _⟩ := I.list e2
          obtain ⟨ef, g1, g2⟩ := zall_get (show zall (zeq E h n) ws ws2 = some k from e0)
          by_cases hl : ws.length = ws2.length
          · refine rcn_listB (N := ws.length) (e := ef) hu (fun s' => EqOut X G pins σ ι h H s') (fun s' q => ?_) (fun s' q => ⟨?_, q⟩) (EqOut.same I r)
            · obtain ⟨H', I', n'⟩ := q
              obtain ⟨vs3, its3, m3, dd3, sl3, o3, rv3, rs3⟩ := list_again r p1 kx I' n'
              obtain ⟨vs4, its4, m4, dd4, sl4, o4, rv4, rs4⟩ := list_again r p2' ky I' n'
              refine ⟨_, m3, dd3, sl3, o3, by rw [List.size_toArray, rs3.length, rv3.length], _, m4, dd4, sl4, o4, by rw [List.size_toArray, hl, rs4.length, rv4.length], fun i h1 h2 => ?_⟩
              obtain ⟨w1, z1, l1, m1, o1⟩ := rs3.paired rv3 i h1
              obtain ⟨w2, z2, l2, m2, o2⟩ := rs4.paired rv4 i h2
              refine wpAny_mono (eb A.in1 pins s' σ H' ι h w1 w2 z1 z2 _ _ (ef i) sb.in1 I' n'.rep m1 m2 o1 o2 (g1 i w1 w2 l1 l2)) (fun v s2 hv => ⟨hv.1, EqOut.trans n' hv.2⟩) fun _ _ z => z
            · rw [g2, ← hl, Nat.min_self]
              simp
          · refine RcNeAt.lists_lengths ht1.isList ht2.isList ?_ hu X.prog X.w X.xe _ (same ?_)
            · rw [List.size_toArray, List.size_toArray, ← rv1.length, ← rv2.length, ← rs1.length, ← rs2.length]
              simpa using hl
            · rw [g2]
              simp [hl]
      | obj d gs => rw [ky] at e0; simp [zeqK] at e0
      | no => rw [ky] at e0; simp [zeqK] at e0
theorem neS_zero : NeS X G E 0 := by
  intro A pins s σ H ι h x y v1 v2 u1 u2 k sb I r p1 p2 r1 r2 no e
  cases e
end
end Z

set_option Elab.async false
set_option linter.all false
set_option maxRecDepth 100000
set_option maxHeartbeats 1000000
set_option autoImplicit false
namespace Z
open PySem PySem.SeqAt L2
open PyProof.Rows hiding St

theorem tlS (x : List Nat) : TL.tl (S x) = x := by show (S x).cps.toList = x; simp
/-- where y begins first in l -/
def fidx (y : List Nat) : List Nat → Option Nat
  | [] => none
  | c :: r => match TL.pre y (c :: r) with
    | true => some 0
    | false => match fidx y r with
      | some i => some (i + 1)
      | none => none
theorem fidx_some {y : List Nat} : ∀ {l : List Nat} {i : Nat}, fidx y l = some i → TL.pre y (l.drop i) = true ∧ ∀ j, j < i → TL.pre y (l.drop j) = false
  | [], i, e => by cases e
  | c :: r, i, e => by
    unfold fidx at e
    cases q : TL.pre y (c :: r) with
    | true =>
      rw [q] at e
      cases e
      exact ⟨q, fun j hj => absurd hj (Nat.not_lt_zero _)⟩
    | false =>
      rw [q] at e
      cases q2 : fidx y r with
      | none => rw [q2] at e; cases e
      | some k =>
        rw [q2] at e
        cases e
        obtain ⟨h1, h2⟩ := fidx_some q2
        refine ⟨h1, fun j hj => ?_⟩
        cases j with
        | zero => exact q
        | succ j => exact h2 j (by omega)
theorem fidx_none {y : List Nat} (hy : y ≠ []) : ∀ {l : List Nat}, fidx y l = none → ∀ j, TL.pre y (l.drop j) = false
  | [], e, j => by rw [List.drop_nil]; exact TL.pre_nil hy
  | c :: r, e, j => by
    unfold fidx at e
    cases q : TL.pre y (c :: r) with
    | true => rw [q] at e; cases e
    | false =>
      rw [q] at e
      cases q2 : fidx y r with
      | some k => rw [q2] at e; cases e
      | none =>
        cases j with
        | zero => exact q
        | succ j => exact fidx_none hy q2 j
theorem occ_fidx {x y : List Nat} (hy : y ≠ []) {i : Nat} (e : fidx y x = some i) : ∃ rest, Builtin.Str.occurrences (S x) (S y) 0 (S x).length 1 = i :: rest := by
  have hy' : TL.tl (S y) ≠ [] := by rw [tlS]; exact hy
  obtain ⟨h1, h2⟩ := fidx_some e
  have a1 : StrLaws.At (S x) (S y) (S x).length i := (TL.at_iff hy' i).mpr (by rw [tlS, tlS]; exact h1)
  rcases StrLaws.occ_head (S x) (S y) 1 (Nat.le_refl _) with ⟨e1, hn⟩ | ⟨k, rest, e1, ha, hn⟩
  · exact absurd a1 (hn i)
  · have hk : k = i := by
      rcases Nat.lt_trichotomy k i with h | h | h
      · have := (TL.at_iff hy' k).mp ha
        rw [tlS, tlS, h2 k h] at this
        cases this
      · exact h
      · exact absurd a1 (hn i h)
    subst hk
    exact ⟨rest, e1⟩
theorem occ_isEmpty {x y : List Nat} (hy : y ≠ []) : (!(Builtin.Str.occurrences (S x) (S y) 0 (S x).length 1).isEmpty) = (fidx y x).isSome := by
  cases e : fidx y x with
  | some i =>
    obtain ⟨r, q⟩ := occ_fidx hy e
    rw [q]; rfl
  | none =>
    have hy' : TL.tl (S y) ≠ [] := by rw [tlS]; exact hy
    rcases StrLaws.occ_head (S x) (S y) 1 (Nat.le_refl _) with ⟨e1, hn⟩ | ⟨k, rest, e1, ha, hn⟩
    · rw [e1]; rfl
    · have := (TL.at_iff hy' k).mp ha
      rw [tlS, tlS, fidx_none hy e k] at this
      cases this
theorem start_pre {x y : List Nat} (hy : y ≠ []) : Txt.startswith (S x) (S y) = TL.pre y x := by
  have hy' : TL.tl (S y) ≠ [] := by rw [tlS]; exact hy
  have q := TL.at_iff (x := S x) hy' 0
  rw [tlS, tlS, List.drop_zero] at q
  unfold Txt.startswith
  rw [Bool.eq_iff_iff]
  rw [← q]
  unfold StrLaws.At
  simp
theorem split_S {x y : List Nat} (hy : y ≠ []) (hk : y.all (fun c => decide (c < 256)) = true) : Txt.split (S x) (S y) = (TL.spl y 0 [] x).map S := by
  have hy' : TL.tl (S y) ≠ [] := by rw [tlS]; exact hy
  have q := TL.split_spl (S x) (S y) hy' (TL.kind_ok (by simpa using hk))
  rw [tlS, tlS] at q
  rw [← q, List.map_map]
  have e : (fun z : Str => S (TL.tl z)) = id := by funext z; exact S_of z
  show _ = (Txt.split (S x) (S y)).map (fun z : Str => S (TL.tl z))
  rw [e, List.map_id]
theorem join_S (y : List Nat) (xs : List (List Nat)) : Txt.join (S y) (xs.map S) = S (TL.joinL y xs) := by
  rw [TL.join_eq]
  apply TL.ext_tl
  rw [TL.tl_join, tlS, tlS, List.map_map]
  have e : (TL.tl ∘ S) = id := by funext z; exact tlS z
  rw [e, List.map_id]
theorem repl_S {x y z : List Nat} (hy : y ≠ []) : Txt.replace (S x) (S y) (S z) = S (StrLaws.replL y z x) := by
  apply TL.ext_tl
  have q := StrLaws.replace_list (x := S x) (y := S y) (z := S z) (by rw [S_len]; exact List.length_pos_iff.mpr hy)
  rw [S_tl, S_tl, S_tl] at q
  rw [tlS]
  exact q

section
variable {b : Bool} {X : Cx} {G : Gt} {Wf : WX} {E : ET} {n : Nat}
def zcmpEq (E : ET) (n : Nat) (x y : W) : M W := fun h => match zeq E h n x y with
  | some k => .ok (.bl k) h
  | none => .err
theorem op_zeq (es : EqS X G E n) (hr : L2.Room n X.A) : OpZ X G Wf (compareOp .Eq) (zcmpEq E n) := by
  intro pins s σ H ι h x y v1 v2 u1 u2 Q I r p1 p2 r1 r2 aft
  unfold zcmpEq at aft
  cases e : zeq E h n x y with
  | none => rw [e] at aft; exact False.elim aft
  | some k =>
    rw [e] at aft
    refine wpAny_mono (es X.A pins s σ H ι h x y v1 v2 u1 u2 k ⟨hr, rfl⟩ I r p1 p2 r1 r2 e) (fun v s' hv => ?_) fun _ _ z => z
    obtain ⟨rfl, H', I', n'⟩ := hv
    exact ⟨.bl k, H', I', rfl, aft ι H' _ n' (.bl k)⟩
def isObjK : Kd → Bool
  | .obj _ _ => true
  | _ => false
def zcmpNe (E : ET) (n : Nat) (x y : W) : M W := fun h => match isObjK (kind h x) with
  | true => .err
  | false => match zeq E h n x y with
    | some k => .ok (.bl (!k)) h
    | none => .err
theorem op_zne (es : NeS X G E n) (hr : L2.Room n X.A) : OpZ X G Wf (compareOp .NotEq) (zcmpNe E n) := by
  intro pins s σ H ι h x y v1 v2 u1 u2 Q I r p1 p2 r1 r2 aft
  unfold zcmpNe at aft
  cases e0 : isObjK (kind h x) with
  | true => rw [e0] at aft; exact False.elim aft
  | false =>
    rw [e0] at aft
    cases e : zeq E h n x y with
    | none => rw [e] at aft; exact False.elim aft
    | some k =>
      rw [e] at aft
      refine wpAny_mono (es X.A pins s σ H ι h x y v1 v2 u1 u2 k ⟨hr, rfl⟩ I r p1 p2 r1 r2 (fun c fs z => by rw [z] at e0; cases e0) e) (fun v s' hv => ?_) fun _ _ z => z
      obtain ⟨rfl, H', I', n'⟩ := hv
      exact ⟨.bl (!k), H', I', rfl, aft ι H' _ n' (.bl _)⟩

def zany (f : W → Option Bool) : List W → Option Bool
  | [] => some false
  | x :: xs => match f x with
    | some p => match zany f xs with
      | some q => some (p || q)
      | none => none
    | none => none
theorem zany_get {f : W → Option Bool} : ∀ {xs : List W} {k : Bool}, zany f xs = some k → ∃ e : Nat → Bool, (∀ i x, xs[i]? = some x → f x = some (e i)) ∧ k = (List.range xs.length).any e
  | [], k, h => ⟨fun _ => true, fun i x h1 => by simp at h1, by simp [zany] at h; simp [h]⟩
  | x :: xs, k, h => by
    unfold zany at h
    cases e1 : f x with
    | none => rw [e1] at h; cases h
    | some p =>
      rw [e1] at h
      cases e2 : zany f xs with
      | none => rw [e2] at h; cases h
      | some q =>
        rw [e2] at h
        obtain ⟨e, h1, h2⟩ := zany_get e2
        refine ⟨fun i => match i with | 0 => p | i + 1 => e i, fun i a ha => ?_, ?_⟩
        · cases i with
          | zero => simp at ha; subst ha; exact e1
          | succ i => exact h1 i a (by simpa using ha)
        · have hk : (p || q) = k := by simpa using h
          rw [← hk, h2, List.length_cons, List.range_succ_eq_map]
          simp only [List.any_cons, List.any_map]
          congr 1
def zinK (E : ET) (n : Nat) (h : Hz) (x y : W) : Option Bool := match y with
  | .str t => match x with
    | .str s => match s with
      | [] => none
      | _ => some (fidx s t).isSome
    | _ => none
  | _ => match kind h y with
    | .tup ws => zany (fun w => zeq E h n w x) ws
    | .lst ws => zany (fun w => zeq E h n w x) ws
    | _ => none
/-- y contains x -/
theorem zin_ok (eb : EqB X G E n) (hr : L2.Room (n + 1) X.A) {pins : List (Addr × Obj)} {s : Shared} {σ : St} {H : Hp} {ι : Nat → Addr} {h : Hz} {x y : W} {v1 v2 : V} {u1 u2 : Value} {k : Bool} (I : Inv X pins σ H s) (r : HRep X.K G ι h H) (p1 : Rep X.K G ι h H x v1) (p2 : Rep X.K G ι h H y v2) (r1 : RelV v1 u1) (r2 : RelV v2 u2)
    (e : zinK E n h x y = some k) (ns : ∀ t, y ≠ .str t) : wpAny (model X.prog X.w) X.A (contains u2 u1) (fun c s' => c = k ∧ EqOut X G pins σ ι h H s') X.xe s := by
  have e0 : (match kind h y with
    | .tup ws => zany (fun w => zeq E h n w x) ws
    | .lst ws => zany (fun w => zeq E h n w x) ws
    | _ => none) = some k := by
    cases y <;> first | exact e | exact absurd rfl (ns _)
  have q2 := kind_at r p2
  have sb : Sub X (n + 1) X.A := ⟨hr, rfl⟩
  cases ky : kind h y with
  | tup ws =>
    rw [ky] at e0 q2
    cases q2 with
    | @tup _ a2 vs2 e2 rs2 =>
      cases (show u2 = Value.ref a2 from r2)
      obtain ⟨its2, rv2, ht2, _⟩ := I.tuple e2
      obtain ⟨ef, g1, g2⟩ := zany_get e0
      refine in_tupB (e := ef) (fun s' => EqOut X G pins σ ι h H s') ht2 (fun i h1 s' ⟨H', I', n'⟩ => ?_) (fun s' q => ⟨?_, q⟩) (EqOut.same I r)
      · obtain ⟨w1, z1, l1, m1, o1⟩ := rs2.paired rv2 i h1
        refine wpAny_mono (eb X.A.in1 pins s' σ H' ι h w1 x z1 v1 _ _ (ef i) sb.in1 I' n'.rep (Rep.next r n'.toNx0 m1) (Rep.next r n'.toNx0 p1) o1 r1 (g1 i w1 l1)) (fun v s2 hv => ⟨hv.1, EqOut.trans n' hv.2⟩) fun _ _ z => z
      · rw [g2, List.size_toArray, rs2.length, rv2.length]
  | lst ws =>
    rw [ky] at e0 q2
    cases q2 with
    | @lst _ a2 vs2 e2 rs2 =>
      have p2' := p2
      cases (show u2 = Value.ref a2 from r2)
      obtain ⟨ef, g1, g2⟩ := zany_get e0
      refine in_listB (N := ws.length) (e := ef) (fun s' => EqOut X G pins σ ι h H s') (fun s' q => ?_) (fun s' q => ⟨g2.symm, q⟩) (EqOut.same I r)
      obtain ⟨H', I', n'⟩ := q
      obtain ⟨vs3, its3, m3, dd3, sl3, o3, rv3, rs3⟩ := list_again r p2' ky I' n'
      refine ⟨_, m3, dd3, sl3, o3, by rw [List.size_toArray, rs3.length, rv3.length], fun i h1 => ?_⟩
      obtain ⟨w1, z1, l1, m1, o1⟩ := rs3.paired rv3 i h1
      refine wpAny_mono (eb X.A.in1 pins s' σ H' ι h w1 x z1 v1 _ _ (ef i) sb.in1 I' n'.rep m1 (Rep.next r n'.toNx0 p1) o1 r1 (g1 i w1 l1)) (fun v s2 hv => ⟨hv.1, EqOut.trans n' hv.2⟩) fun _ _ z => z
  | _ => rw [ky] at e0; cases e0
def zin (E : ET) (n : Nat) (x y : W) : M W := fun h => match zinK E n h x y with
  | some k => .ok (.bl k) h
  | none => .err
def znotin (E : ET) (n : Nat) (x y : W) : M W := fun h => match zinK E n h x y with
  | some k => .ok (.bl (!k)) h
  | none => .err
theorem zin_str {h : Hz} {x : W} {t : List Nat} {k : Bool} (e : zinK E n h x (.str t) = some k) : ∃ s, x = .str s ∧ s ≠ [] ∧ k = (fidx s t).isSome := by
  unfold zinK at e
  cases x with
  | str s =>
    cases s with
    | nil => cases e
    | cons c s =>
      have e' : some (fidx (c :: s) t).isSome = some k := e
      exact ⟨_, rfl, by simp, (Option.some.inj e').symm⟩
  | _ => cases e
theorem op_zin (eb : EqB X G E n) (hr : L2.Room (n + 1) X.A) : OpZ X G Wf (compareOp .In) (zin E n) := by
  intro pins s σ H ι h x y v1 v2 u1 u2 Q I r p1 p2 r1 r2 aft
  unfold zin at aft
  cases e : zinK E n h x y with
  | none => rw [e] at aft; exact False.elim aft
  | some k =>
    rw [e] at aft
    by_cases hs : ∃ t, y = .str t
    · obtain ⟨t, rfl⟩ := hs
      obtain ⟨z, rfl, hz, rfl⟩ := zin_str e
      cases p1
      cases p2
      refine op_in_str pins s σ H _ _ u1 u2 Q I r1 r2 ⟨_, _, rfl, rfl, ?_⟩
      have q := aft ι H (.bl (fidx z t).isSome) (Next.refl r) (.bl _)
      rw [← occ_isEmpty hz] at q
      exact q
    · show wpAny (model X.prog X.w) X.A (do return Value.bool (← contains u2 u1)) (EP X pins σ Q) X.xe s
      refine wpAny_bind (wpAny_mono (zin_ok eb hr I r p1 p2 r1 r2 e (fun t z => hs ⟨t, z⟩)) (fun c s' hv => ?_) fun _ _ z => z)
      obtain ⟨rfl, H', I', n'⟩ := hv
      exact wpAny_pure ⟨.bl c, H', I', rfl, aft ι H' _ n' (.bl c)⟩
theorem op_znotin (eb : EqB X G E n) (hr : L2.Room (n + 1) X.A) : OpZ X G Wf (compareOp .NotIn) (znotin E n) := by
  intro pins s σ H ι h x y v1 v2 u1 u2 Q I r p1 p2 r1 r2 aft
  unfold znotin at aft
  cases e : zinK E n h x y with
  | none => rw [e] at aft; exact False.elim aft
  | some k =>
    rw [e] at aft
    by_cases hs : ∃ t, y = .str t
    · obtain ⟨t, rfl⟩ := hs
      obtain ⟨z, rfl, hz, rfl⟩ := zin_str e
      cases p1
      cases p2
      refine op_notIn_str pins s σ H _ _ u1 u2 Q I r1 r2 ⟨_, _, rfl, rfl, ?_⟩
      have q := aft ι H (.bl (!(fidx z t).isSome)) (Next.refl r) (.bl _)
      rw [← occ_isEmpty hz] at q
      exact q
    · show wpAny (model X.prog X.w) X.A (do return Value.bool (!(← contains u2 u1))) (EP X pins σ Q) X.xe s
      refine wpAny_bind (wpAny_mono (zin_ok eb hr I r p1 p2 r1 r2 e (fun t z => hs ⟨t, z⟩)) (fun c s' hv => ?_) fun _ _ z => z)
      obtain ⟨rfl, H', I', n'⟩ := hv
      exact wpAny_pure ⟨.bl (!c), H', I', rfl, aft ι H' _ n' (.bl _)⟩
end
end Z

set_option Elab.async false
set_option linter.all false
set_option maxRecDepth 100000
set_option maxHeartbeats 1000000
set_option autoImplicit false
namespace Z
open PySem PySem.SeqAt L2
open PyProof.Rows hiding St

section
variable {b : Bool} {X : Cx} {G : Gt} {Wf : WX} {E : ET} {n : Nat} {e o : Expr} {es : List Expr} {m ma : Ev → M W} {mr : Ev → M (List W)} {p pos apos : Pos} {x : Str} {id : String}
def CallZ (X : Cx) (G : Gt) (Wf : WX) (f : Value) (fw : List W → M W) : Prop :=
  ∀ (pins : List (Addr × Obj)) (s : Shared) (σ : St) (H : Hp) (ι : Nat → Addr) (h : Hz) (ws : List W) (vs : List V) (us : List Value) (Q : VK), Inv X pins σ H s → HRep X.K G ι h H → Reps X.K G ι h H ws vs → Vals vs us →
    Aft X.K G Wf σ (rpW X.K G) ι h H (fw ws h) Q → wpAny (model X.prog X.w) X.A (call f us) (EP X pins σ Q) X.xe s
def zb (fw : List W → M W) (mr : Ev → M (List W)) : Ev → M W := fun ρ => bnd (mr ρ) fw
theorem pz_callB {fw : List W → M W} (hc : CallZ X G Wf (.builtin id) fw) (hg : Gl X x) (hm : X.mg x = none) (hv : bootBuiltins x = some (.builtin id)) (ha : PZA b X G Wf (e :: es) mr) (hst : (e :: es).all (fun e => !isStar e) = true)
    (hn : x ≠ "__name__") (hdb : (x == ("__debug__" : Str)) = false) : PZ b X G Wf (.Call (.Name x p) (e :: es) [] pos) (zb fw mr) := by
  refine ⟨fun pins s σ H ι h ρ Q tk I r sr aft => ?_⟩
  have h1 : isStar e = false := by
    rw [List.all_cons] at hst
    simpa using (Bool.and_eq_true_iff.mp hst).1
  have h2 : es.all (fun e => !isStar e) = true := by
    rw [List.all_cons] at hst
    exact (Bool.and_eq_true_iff.mp hst).2
  refine wpAny_Call_Name_kw (ld_blt I hg hm hv ?_ hn hdb)
  exact PyProof.Rows.callWith_builtin1 (thn (ha.run pos pins s σ H ι h ρ _ tk I r sr (aft.bnd (P := rpWs X.K G))) fun us s1 ⟨tk1, vs, H1, I1, r1, ι1, h1, ws, n1, p1, a1⟩ =>
    withTk tk1 (hc pins s1 σ H1 ι1 h1 ws vs us Q I1 n1.rep p1 r1 a1)) (starEach_cons h1) (starEach_no h2)
theorem pz_callT {T : String} {fw : List W → M W} (hc : CallZ X G Wf (.type T) fw) (hg : Gl X x) (hm : X.mg x = none) (hv : bootBuiltins x = some (.type T)) (ha : PZA b X G Wf (e :: es) mr) (hst : (e :: es).all (fun e => !isStar e) = true)
    (hn : x ≠ "__name__") (hdb : (x == ("__debug__" : Str)) = false) : PZ b X G Wf (.Call (.Name x p) (e :: es) [] pos) (zb fw mr) := by
  refine ⟨fun pins s σ H ι h ρ Q tk I r sr aft => ?_⟩
  have h1 : isStar e = false := by
    rw [List.all_cons] at hst
    simpa using (Bool.and_eq_true_iff.mp hst).1
  have h2 : es.all (fun e => !isStar e) = true := by
    rw [List.all_cons] at hst
    exact (Bool.and_eq_true_iff.mp hst).2
  refine wpAny_Call_Name_kw (ld_blt I hg hm hv ?_ hn hdb)
  exact PyProof.Rows.callWith_type1 (thn (ha.run pos pins s σ H ι h ρ _ tk I r sr (aft.bnd (P := rpWs X.K G))) fun us s1 ⟨tk1, vs, H1, I1, r1, ι1, h1, ws, n1, p1, a1⟩ =>
    withTk tk1 (hc pins s1 σ H1 ι1 h1 ws vs us Q I1 n1.rep p1 r1 a1)) (starEach_cons h1) (starEach_no h2)
/-- one argument -/
def one1 (f : W → M W) (ws : List W) : M W := match ws with
  | [w] => f w
  | _ => bad
theorem one1_of {F : Value} {f : W → M W} (go : ∀ (pins : List (Addr × Obj)) (s : Shared) (σ : St) (H : Hp) (ι : Nat → Addr) (h : Hz) (w : W) (v : V) (us : List Value) (Q : VK), Inv X pins σ H s → HRep X.K G ι h H → Rep X.K G ι h H w v → Vals [v] us → Aft X.K G Wf σ (rpW X.K G) ι h H (f w h) Q →
    wpAny (model X.prog X.w) X.A (call F us) (EP X pins σ Q) X.xe s) : CallZ X G Wf F (one1 f) := by
  intro pins s σ H ι h ws vs us Q I r p1 r1 aft
  cases p1 with
  | nil => exact False.elim aft
  | cons q qs =>
    cases qs with
    | nil => exact go pins s σ H ι h _ _ us Q I r q r1 aft
    | cons q2 qs => exact False.elim aft
def two2 (f : W → W → M W) (ws : List W) : M W := match ws with
  | [w, v] => f w v
  | _ => bad
theorem two2_of {F : Value} {f : W → W → M W} (go : ∀ (pins : List (Addr × Obj)) (s : Shared) (σ : St) (H : Hp) (ι : Nat → Addr) (h : Hz) (w w2 : W) (v v2 : V) (us : List Value) (Q : VK), Inv X pins σ H s → HRep X.K G ι h H → Rep X.K G ι h H w v → Rep X.K G ι h H w2 v2 → Vals [v, v2] us → Aft X.K G Wf σ (rpW X.K G) ι h H (f w w2 h) Q →
    wpAny (model X.prog X.w) X.A (call F us) (EP X pins σ Q) X.xe s) : CallZ X G Wf F (two2 f) := by
  intro pins s σ H ι h ws vs us Q I r p1 r1 aft
  cases p1 with
  | nil => exact False.elim aft
  | cons q qs =>
    cases qs with
    | nil => exact False.elim aft
    | cons q2 qs =>
      cases qs with
      | nil => exact go pins s σ H ι h _ _ _ _ us Q I r q q2 r1 aft
      | cons q3 qs => exact False.elim aft
def zlen (w : W) : M W := match w with
  | .str s => if s.length ≤ LIM then ret (.int s.length) else bad
  | _ => bnd (zseq w) fun q => ret (.int q.2.length)
theorem call_zlen : CallZ X G Wf (.builtin "len") (one1 zlen) := by
  refine one1_of fun pins s σ H ι h w v us Q I r p r1 aft => ?_
  have seqs : (∀ z, w ≠ .str z) → wpAny (model X.prog X.w) X.A (call (.builtin "len") us) (EP X pins σ Q) X.xe s := fun nx => by
    have aft2 : Aft X.K G Wf σ (rpW X.K G) ι h H (bnd (zseq w) (fun q => ret (.int q.2.length)) h) Q := by
      cases w <;> first | exact aft | exact absurd rfl (nx _)
    obtain ⟨t, ws, ad, vs, e1, sq, rs, a2, tt⟩ := seq_after r p aft2
    subst e1
    have q := Aft.ret (P := rpW X.K G) a2 r (.int _)
    refine call_len pins s σ H [.ref ad] us Q I r1 ⟨_, ws.length, rfl, ?_, q⟩
    cases t with
    | true => exact .inr ⟨vs, sq, rs.length⟩
    | false => exact .inl ⟨vs, sq, rs.length⟩
  cases p with
  | str z =>
    have aft2 : Aft X.K G Wf σ (rpW X.K G) ι h H ((if z.length ≤ LIM then ret (.int z.length) else bad) h) Q := aft
    split at aft2
    · rename_i hl
      refine call_len pins s σ H _ us Q I r1 ⟨_, z.length, rfl, ⟨by rw [S_len, ← lim_eq]; exact hl, (S_len z).symm⟩, Aft.ret (P := rpW X.K G) aft2 r (.int _)⟩
    · exact False.elim aft2
  | _ => exact seqs (fun z e => by cases e)
def asBs : List W → Option (List Bool)
  | [] => some []
  | .bl k :: r => match asBs r with
    | some ks => some (k :: ks)
    | none => none
  | _ => none
theorem asBs_of {ι : Nat → Addr} {h : Hz} {H : Hp} : ∀ {ws : List W} {vs : List V} {ks : List Bool}, Reps X.K G ι h H ws vs → asBs ws = some ks → vs = ks.map V.bl
  | _, _, ks, .nil, e => by cases e; rfl
  | w :: ws, _, ks, .cons p q, e => by
    cases p with
    | bl k =>
      unfold asBs at e
      cases e2 : asBs ws with
      | none => rw [e2] at e; cases e
      | some k2 =>
        rw [e2] at e
        cases e
        rw [asBs_of q e2]
        rfl
    | _ => cases e
def zallB (w : W) : M W := bnd (zseq w) fun q => match q.1 with
  | true => bad
  | false => match asBs q.2 with
    | some ks => ret (.bl (ks.all fun k => k))
    | none => bad
def zanyB (w : W) : M W := bnd (zseq w) fun q => match q.1 with
  | true => bad
  | false => match asBs q.2 with
    | some ks => ret (.bl (ks.any fun k => k))
    | none => bad
theorem call_zall (hc : X.calm = true) : CallZ X G Wf (.builtin "all") (one1 zallB) := by
  refine one1_of fun pins s σ H ι h w v us Q I r p r1 aft => ?_
  obtain ⟨t, ws, ad, vs, e1, sq, rs, a2, tt⟩ := seq_after r p aft
  subst e1
  cases t with
  | true => exact False.elim a2
  | false =>
    have a3 : Aft X.K G Wf σ (rpW X.K G) ι h H ((match asBs ws with | some ks => ret (W.bl (ks.all fun k => k)) | none => bad) h) Q := a2
    cases e : asBs ws with
    | none => rw [e] at a3; exact False.elim a3
    | some ks =>
      rw [e] at a3
      have ev := asBs_of rs e
      subst ev
      exact cr_all hc pins s σ H _ us Q I r1 ⟨ad, ks, rfl, sq, Aft.ret (P := rpW X.K G) a3 r (.bl _)⟩
theorem call_zany (hc : X.calm = true) : CallZ X G Wf (.builtin "any") (one1 zanyB) := by
  refine one1_of fun pins s σ H ι h w v us Q I r p r1 aft => ?_
  obtain ⟨t, ws, ad, vs, e1, sq, rs, a2, tt⟩ := seq_after r p aft
  subst e1
  cases t with
  | true => exact False.elim a2
  | false =>
    have a3 : Aft X.K G Wf σ (rpW X.K G) ι h H ((match asBs ws with | some ks => ret (W.bl (ks.any fun k => k)) | none => bad) h) Q := a2
    cases e : asBs ws with
    | none => rw [e] at a3; exact False.elim a3
    | some ks =>
      rw [e] at a3
      have ev := asBs_of rs e
      subst ev
      exact cr_any hc pins s σ H _ us Q I r1 ⟨ad, ks, rfl, sq, Aft.ret (P := rpW X.K G) a3 r (.bl _)⟩
def ztuple (w : W) : M W := bnd (zseq w) fun q => ret (.tup q.2)
theorem call_ztuple : CallZ X G Wf (.type "tuple") (one1 ztuple) := by
  refine one1_of fun pins s σ H ι h w v us Q I r p r1 aft => ?_
  obtain ⟨t, ws, ad, vs, e1, sq, rs, a2, tt⟩ := seq_after r p aft
  subst e1
  refine call_tuple_of pins s σ H _ us Q I r1 ⟨ad, vs, rfl, ?_⟩
  cases t with
  | true => exact .inr ⟨sq, Aft.ret (P := rpW X.K G) a2 r (.tup sq rs)⟩
  | false =>
    refine .inl ⟨sq, fun q hq => ?_⟩
    have nx := Next.beside (o := .tup vs) r hq
    exact a2 ι _ _ nx (.tup (SqT.of upd_same) (rs.next r nx.toNx0))
def zlist (w : W) : M W := bnd (zseq w) fun q => new (.lst q.2)
theorem call_zlist : CallZ X G Wf (.type "list") (one1 zlist) := by
  refine one1_of fun pins s σ H ι h w v us Q I r p r1 aft => ?_
  obtain ⟨t, ws, ad, vs, e1, sq, rs, a2, tt⟩ := seq_after r p aft
  subst e1
  refine call_list_of pins s σ H _ us Q I r1 ⟨ad, vs, rfl, ?_, lst_new r rs a2⟩
  cases t with
  | true => exact .inr sq
  | false => exact .inl sq
def zint1 (w : W) : M W := match w with
  | .int i => ret (.int i)
  | .bl k => ret (.int (b2z k))
  | _ => bad
theorem call_zint : CallZ X G Wf (.type "int") (one1 zint1) := by
  refine one1_of fun pins s σ H ι h w v us Q I r p r1 aft => ?_
  cases p with
  | int i => exact call_int1 pins s σ H _ us Q I r1 (.inl ⟨i, rfl, Aft.ret (P := rpW X.K G) aft r (.int i)⟩)
  | bl k =>
    refine call_int1 pins s σ H _ us Q I r1 (.inr ⟨k, rfl, ?_⟩)
    rw [b2z_if]
    exact Aft.ret (P := rpW X.K G) aft r (.int _)
  | _ => exact False.elim aft
def zabs (w : W) : M W := match w with
  | .int i => ret (.int (if i < 0 then -i else i))
  | _ => bad
theorem call_zabs : CallZ X G Wf (.builtin "abs") (one1 zabs) := by
  refine one1_of fun pins s σ H ι h w v us Q I r p r1 aft => ?_
  cases p with
  | int i => exact call_abs pins s σ H _ us Q I r1 ⟨i, rfl, Aft.ret (P := rpW X.K G) aft r (.int _)⟩
  | _ => exact False.elim aft
def zmax (v w : W) : M W := match v, w with
  | .int i, .int j => ret (.int (if j > i then j else i))
  | _, _ => bad
def zmin (v w : W) : M W := match v, w with
  | .int i, .int j => ret (.int (if j < i then j else i))
  | _, _ => bad
theorem call_zmax (hc : X.calm = true) : CallZ X G Wf (.builtin "max") (two2 zmax) := by
  refine two2_of fun pins s σ H ι h w w2 v v2 us Q I r p p2 r1 aft => ?_
  cases p with
  | int i =>
    cases p2 with
    | int j => exact call_max2 hc pins s σ H _ us Q I r1 ⟨i, j, rfl, Aft.ret (P := rpW X.K G) aft r (.int _)⟩
    | _ => exact False.elim aft
  | _ => exact False.elim aft
theorem call_zmin (hc : X.calm = true) : CallZ X G Wf (.builtin "min") (two2 zmin) := by
  refine two2_of fun pins s σ H ι h w w2 v v2 us Q I r p p2 r1 aft => ?_
  cases p with
  | int i =>
    cases p2 with
    | int j => exact call_min2 hc pins s σ H _ us Q I r1 ⟨i, j, rfl, Aft.ret (P := rpW X.K G) aft r (.int _)⟩
    | _ => exact False.elim aft
  | _ => exact False.elim aft

/-- a class as it is asked for: a built-in type by its name, a class of the text by its number -/
inductive CC where
  | ty (n : Str) | own (c : Nat)
inductive CA (G : Gt) : List Value → Hp → Value → Prop
  | one {H : Hp} {cv : V} {u u' : Value} : ClsV cv u' → RelV cv u → CA G [u'] H u
  | tup {H : Hp} {tp : Addr} {cs : List V} {us : List Value} : H tp = some (.tup cs) → Paired ClsV cs us → CA G us H (.ref tp)
def tyKd (G : Gt) : Kd → Option Value
  | .non => some (.type "NoneType")
  | .bl _ => some (.type "bool")
  | .int _ => some (.type "int")
  | .str _ => some (.type "str")
  | .tup _ => some (.type "tuple")
  | .lst _ => some (.type "list")
  | .obj c _ => some (.ref (G.cl c))
  | .no => none
/-- f tells what isinstance(.., us) answers -/
structure IsiOk (K : PySem.W.Frag) (G : Gt) (us : List Value) (f : Kd → Option Bool) : Prop where
  no : f .no = none
  ans : ∀ k t c, tyKd G k = some t → f k = some c → PySem.W.kitAny K t us = some c
  ins : ∀ c fs, (f (.obj c fs)).isSome = true → ∀ (H : Hp) (a dx : Addr) (gs : List (Str × V)), H a = some (.ins (G.cl c) dx gs) → TyX K H (.ref a) (.ref (G.cl c))
theorem kitAny_one {K : PySem.W.Frag} {t u : Value} {c : Bool} (h : PySem.W.kitAny K t [u] = some c) : PySem.W.kitOne K t u = some c := by
  unfold PySem.W.kitAny at h
  cases e : PySem.W.kitOne K t u with
  | none => rw [e] at h; cases h
  | some k =>
    rw [e] at h
    cases k with
    | true => exact h
    | false => exact h
theorem sqL_ty {pins : List (Addr × Obj)} {σ : St} {H : Hp} {s : Shared} {a : Addr} {vs : List V} (I : Inv X pins σ H s) (e : SqL X.K H a vs) : TyX X.K H (.ref a) (.type "list") := by
  rcases e with (e | ⟨o, e⟩) | e
  · exact .base (.lst e)
  · exact .base (.frz e)
  · obtain ⟨o, its, m, hk, hc, _⟩ := e
    exact .kList hk hc
theorem sqT_ty {pins : List (Addr × Obj)} {σ : St} {H : Hp} {s : Shared} {a : Addr} {vs : List V} (I : Inv X pins σ H s) (e : SqT X.K H a vs) : TyX X.K H (.ref a) (.type "tuple") := by
  rcases e with (e | ⟨o, e⟩) | e
  · exact .base (.tup e)
  · exact .fTuple e
  · obtain ⟨o, its, m, hk, hc, _⟩ := e
    exact .kTuple hk hc
/-- the class argument: its value -/
def CAr (X : Cx) (G : Gt) (c : Expr) (us : List Value) : Prop := ∀ (pins : List (Addr × Obj)) (s : Shared) (σ : St) (H : Hp) (ι : Nat → Addr) (h : Hz), Inv X pins σ H s → HRep X.K G ι h H →
  wpAny (model X.prog X.w) X.A (eval c X.env) (fun u s' => ∃ H', Inv X pins σ H' s' ∧ Next X.K G ι h H ι h H' ∧ CA G us H' u) X.xe s
def zisi (f : Kd → Option Bool) (ma : Ev → M W) : Ev → M W := fun ρ => bnd (ma ρ) fun w h => match f (kind h w) with
  | some k => .ok (.bl k) h
  | none => .err
theorem pz_isi {c : Expr} {us : List Value} {f : Kd → Option Bool} (hf : IsiOk X.K G us f) (hg : Gl X "isinstance") (hm : X.mg "isinstance" = none) (ha : PZ b X G Wf e ma) (hc : CAr X G c us) (hst : [e, c].all (fun e => !isStar e) = true) :
    PZ b X G Wf (.Call (.Name "isinstance" p) [e, c] [] pos) (zisi f ma) := by
  refine ⟨fun pins s σ H ι h ρ Q tk I r sr aft => ?_⟩
  have h1 : isStar e = false ∧ isStar c = false := by simpa using hst
  refine wpAny_Call_Name_kw (ld_blt I hg hm (u := .builtin "isinstance") rfl ?_ (by decide) (by decide))
  refine PyProof.Rows.callWith_builtin1 ?_ (starEach_cons h1.1) (starEach_no (by simpa using h1.2))
  rw [starEach_cons h1.1, starEach_cons h1.2]
  show wpAny _ _ (spliced ((false, eval e X.env) :: (false, eval c X.env) :: [])) _ _ s
  refine Calls.spliced_cons (thn (ha.run pins s σ H ι h ρ _ tk I r sr (aft.bnd (P := rpW X.K G))) fun u s1 ⟨tk1, v1, H1, I1, r1, ι1, h1, w1, n1, p1, a1⟩ => ?_)
  refine Calls.spliced_cons (thn (withTk tk1 (hc pins s1 σ H1 ι1 h1 I1 n1.rep)) fun u2 s2 ⟨tk2, H2, I2, n2, ca⟩ => Calls.spliced_nil ?_)
  have a2 : Aft X.K G Wf σ (rpW X.K G) ι1 h1 H1 (match f (kind h1 w1) with | some k => .ok (.bl k) h1 | none => .err) Q := a1
  have p2 := Rep.next n1.rep n2.toNx0 p1
  cases ek : f (kind h1 w1) with
  | none => rw [ek] at a2; exact False.elim a2
  | some k =>
    rw [ek] at a2
    have q : Q (.bl k) H2 := a2 ι1 H2 _ n2 (.bl k)
    have ty : ∃ t, tyKd G (kind h1 w1) = some t ∧ TyX X.K H2 v1 t := by
      have kd := kind_at n2.rep p2
      cases hk : kind h1 w1 with
      | non => rw [hk] at kd; cases kd; exact ⟨_, rfl, .base .non⟩
      | bl k => rw [hk] at kd; cases kd; exact ⟨_, rfl, .base (.bl _)⟩
      | int k => rw [hk] at kd; cases kd; exact ⟨_, rfl, .base (.int _)⟩
      | str k => rw [hk] at kd; cases kd; exact ⟨_, rfl, .base (.str _)⟩
      | tup ws => rw [hk] at kd; cases kd with | tup sq rs => exact ⟨_, rfl, sqT_ty I2 sq⟩
      | lst ws => rw [hk] at kd; cases kd with | lst sq rs => exact ⟨_, rfl, sqL_ty I2 sq⟩
      | obj c fs =>
        rw [hk] at kd ek
        cases kd with
        | obj ea rf => exact ⟨_, rfl, hf.ins c fs (by rw [ek]; rfl) H2 _ _ _ ea⟩
      | no =>
        rw [hk] at ek
        exact absurd ek (by intro z; have := hf.no; rw [this] at z; cases z)
    obtain ⟨t, et, ty⟩ := ty
    have an := hf.ans _ t k et ek
    cases ca with
    | one cv ru => exact withTk tk2 (call_isi pins s2 σ H2 [v1, _] [u, u2] Q I2 (.cons r1 (.cons ru .nil)) ⟨v1, _, t, _, k, rfl, cv, ty, kitAny_one an, q⟩)
    | tup ht cs => exact withTk tk2 (call_isiT pins s2 σ H2 [v1, .ref _] [u, _] Q I2 (.cons r1 (.cons rfl .nil)) ⟨v1, _, _, t, _, k, rfl, ht, cs, ty, an, q⟩)

def MtZ (X : Cx) (G : Gt) (Wf : WX) (id : String) (fw : W → List W → M W) : Prop :=
  ∀ (pins : List (Addr × Obj)) (s : Shared) (σ : St) (H : Hp) (ι : Nat → Addr) (h : Hz) (w : W) (v : V) (u : Value) (ws : List W) (vs : List V) (us : List Value) (Q : VK), Inv X pins σ H s → HRep X.K G ι h H → Rep X.K G ι h H w v → RelV v u → Reps X.K G ι h H ws vs → Vals vs us →
    Aft X.K G Wf σ (rpW X.K G) ι h H (fw w ws h) Q → wpAny (model X.prog X.w) X.A (call (.builtin id) (u :: us)) (EP X pins σ Q) X.xe s
/-- a text (true), a list (false) -/
def zty (t : Bool) (w : W) : M Unit := match t with
  | true => match w with
    | .str _ => ret ()
    | _ => bad
  | false => bnd (zseq w) fun q => match q.1 with
    | true => bad
    | false => ret ()
def tyN (t : Bool) : String := if t = true then "str" else "list"
theorem ty_after {α β : Type} {P : RP α β} {σ : St} {ι : Nat → Addr} {h : Hz} {H : Hp} {t : Bool} {w : W} {v : V} {kk : M α} {Q : β → Hp → Prop} (r : HRep X.K G ι h H) (p : Rep X.K G ι h H w v) (q : Aft X.K G Wf σ P ι h H (bnd (zty t w) (fun _ => kk) h) Q) :
    tyV X.K (tyN t) v H ∧ Aft X.K G Wf σ P ι h H (kk h) Q := by
  cases t with
  | true =>
    cases p with
    | str z => exact ⟨rfl, q⟩
    | _ => exact False.elim q
  | false =>
    have q' : Aft X.K G Wf σ P ι h H (bnd (bnd (zseq w) fun q => match q.1 with | true => bad | false => ret ()) (fun _ : Unit => kk) h) Q := q
    have q2 : Aft X.K G Wf σ P ι h H (bnd (zseq w) (fun q => bnd (match q.1 with | true => bad | false => ret ()) (fun _ : Unit => kk)) h) Q := by
      have e : bnd (bnd (zseq w) fun q => match q.1 with | true => bad | false => ret ()) (fun _ : Unit => kk) h = bnd (zseq w) (fun q => bnd (match q.1 with | true => bad | false => ret ()) (fun _ : Unit => kk)) h := by
        unfold bnd
        cases zseq w h <;> rfl
      rw [e] at q'
      exact q'
    obtain ⟨t, ws, ad, vs, e1, sq, rs, a2, tt⟩ := seq_after r p q2
    subst e1
    cases t with
    | true => exact False.elim a2
    | false => exact ⟨.inl ⟨rfl, vs, sq⟩, a2⟩
def zbm (t : Bool) (fw : W → List W → M W) (ma : Ev → M W) (mr : Ev → M (List W)) : Ev → M W := fun ρ => bnd (ma ρ) fun w => bnd (zty t w) fun _ => bnd (mr ρ) fun ws => fw w ws
theorem pz_bm {t : Bool} {name : Str} {fw : W → List W → M W} (pa : PlainAttrs (tyN t)) (slot : Slot (tyN t) name id) (hty : typeOf (.builtin id) = pure (.type "method_descriptor")) (hm : MtZ X G Wf id fw) (ho : PZ b X G Wf o ma) (ha : PZA b X G Wf (e :: es) mr)
    (hst : (e :: es).all (fun e => !isStar e) = true) (hb : noSuper o = true) (hl : (apos.endLine == pos.line) = true) (h29 : (e :: es).length < 29) : PZ b X G Wf (.Call (.Attribute o name apos) (e :: es) [] pos) (zbm t fw ma mr) := by
  refine ⟨fun pins s σ H ι h ρ Q tk I r sr aft => ?_⟩
  refine wpAny_Call_method_late (attrBase_of hb) (few_of (kws := []) hst rfl (by simpa using h29)) hl rfl (thn (ho.run pins s σ H ι h ρ _ tk I r sr (aft.bnd (P := rpW X.K G))) fun u s1 ⟨tk1, v1, H1, I1, r1, ι1, h1, w1, n1, p1, a1⟩ => ?_)
  obtain ⟨ty, a2⟩ := ty_after n1.rep p1 a1
  obtain ⟨t1, t2⟩ := tyV_is I1 r1 ty
  refine ⟨tyN t, id, pa, slot, hty, t1, t2, ?_⟩
  have hA := ha.run pos pins s1 σ H1 ι1 h1 ρ _ tk1 I1 n1.rep (sr.next r n1.toNx0) (a2.bnd (P := rpWs X.K G))
  have hno := starEach_no (env := X.env) (pos := pos) hst
  have h0 : isStar e = false := by
    rw [List.all_cons] at hst
    simpa using (Bool.and_eq_true_iff.mp hst).1
  rw [starEach_cons h0] at hA hno ⊢
  refine Calls.callWith_builtin hno (Calls.evalArgs_plain ?_)
  exact thn hA fun us s2 ⟨tk2, vs, H2, I2, r2, ι2, h2, ws, n2, p2, a3⟩ => withTk tk2 (hm pins s2 σ H2 ι2 h2 w1 v1 u ws vs us Q I2 n2.rep (Rep.next n1.rep n2.toNx0 p1) r1 p2 r2 a3)
end
end Z

set_option Elab.async false
set_option linter.all false
set_option maxRecDepth 100000
set_option maxHeartbeats 1000000
set_option autoImplicit false
namespace Z
open PySem PySem.SeqAt L2
open PyProof.Rows hiding St

section
variable {b : Bool} {X : Cx} {G : Gt} {Wf : WX} {E : ET} {n : Nat} {e o : Expr} {es : List Expr} {m ma : Ev → M W} {mr : Ev → M (List W)} {p pos apos : Pos} {x : Str}
/-- of a text and one text -/
def str1 (f : List Nat → List Nat → M W) (w : W) (ws : List W) : M W := match w with
  | .str x => match ws with
    | [.str y] => f x y
    | _ => bad
  | _ => bad
theorem str1_of {id : String} {f : List Nat → List Nat → M W} (go : ∀ (pins : List (Addr × Obj)) (s : Shared) (σ : St) (H : Hp) (ι : Nat → Addr) (h : Hz) (x y : List Nat) (u : Value) (us : List Value) (Q : VK), Inv X pins σ H s → HRep X.K G ι h H → RelV (.str (S x)) u → Vals [.str (S y)] us →
    Aft X.K G Wf σ (rpW X.K G) ι h H (f x y h) Q → wpAny (model X.prog X.w) X.A (call (.builtin id) (u :: us)) (EP X pins σ Q) X.xe s) : MtZ X G Wf id (str1 f) := by
  intro pins s σ H ι h w v u ws vs us Q I r p1 r1 p2 r2 aft
  cases p1 with
  | str x =>
    cases p2 with
    | nil => exact False.elim aft
    | cons q qs =>
      cases q with
      | str y =>
        cases qs with
        | nil => exact go pins s σ H ι h x y u us Q I r r1 r2 aft
        | cons _ _ => exact False.elim aft
      | _ => exact False.elim aft
  | _ => exact False.elim aft
def mStarts : W → List W → M W := str1 fun x y => match y with
  | [] => bad
  | _ => ret (.bl (TL.pre y x))
theorem mt_zstarts : MtZ X G Wf "str.startswith" mStarts := by
  refine str1_of fun pins s σ H ι h x y u us Q I r r1 r2 aft => ?_
  cases y with
  | nil => exact False.elim aft
  | cons c y =>
    refine mt_startswith pins s σ H _ _ u us Q I r1 r2 ⟨_, _, rfl, rfl, ?_⟩
    rw [start_pre (by simp)]
    exact Aft.ret (P := rpW X.K G) aft r (.bl _)
theorem reps_strs {K : PySem.W.Frag} {ι : Nat → Addr} {h : Hz} {H : Hp} : ∀ (xs : List (List Nat)), Reps K G ι h H (xs.map .str) ((xs.map S).map V.str)
  | [] => .nil
  | x :: xs => .cons (.str x) (reps_strs xs)
def okSep (y : List Nat) : Bool := match y with
  | [] => false
  | _ => y.all fun c => decide (c < 256)
theorem okSep_of {y : List Nat} (h : okSep y = true) : y ≠ [] ∧ y.all (fun c => decide (c < 256)) = true := by
  cases y with
  | nil => cases h
  | cons c y => exact ⟨by simp, h⟩
theorem len0 {y : List Nat} (h : y ≠ []) : ((S y).length == 0) = false := by
  rw [S_len]
  cases y with
  | nil => exact absurd rfl h
  | cons c y => rfl
def mSplit : W → List W → M W := str1 fun x y => if (okSep y && decide (x.length + 2 ≤ LIM)) = true then new (.lst ((TL.spl y 0 [] x).map .str)) else bad
theorem mt_zsplit : MtZ X G Wf "str.split" mSplit := by
  refine str1_of fun pins s σ H ι h x y u us Q I r r1 r2 aft => ?_
  split at aft
  · rename_i hc
    simp only [Bool.and_eq_true, decide_eq_true_eq] at hc
    obtain ⟨h1, h2⟩ := okSep_of hc.1
    refine mt_split pins s σ H _ _ u us Q I r1 r2 ⟨_, _, rfl, rfl, len0 h1, by rw [S_len, ← lim_eq]; exact hc.2, ?_⟩
    rw [split_S h1 h2]
    exact lst_new r (reps_strs _) aft
  · exact False.elim aft
def mPart : W → List W → M W := str1 fun x y => if (okSep y && decide (x.length ≤ LIM)) = true then (match TL.par y [] x with
  | some q => ret (.tup [.str q.1, .str y, .str q.2])
  | none => ret (.tup [.str x, .str [], .str []])) else bad
theorem mt_zpart : MtZ X G Wf "str.partition" mPart := by
  refine str1_of fun pins s σ H ι h x y u us Q I r r1 r2 aft => ?_
  split at aft
  · rename_i hc
    simp only [Bool.and_eq_true, decide_eq_true_eq] at hc
    obtain ⟨h1, h2⟩ := okSep_of hc.1
    refine mt_partition pins s σ H _ _ u us Q I r1 r2 ⟨_, _, rfl, rfl, len0 h1, by rw [S_len, ← lim_eq]; exact hc.2, fun q hq => ?_⟩
    rw [TL.partition_par (S x) (S y) (by rw [tlS]; exact h1), tlS, tlS]
    have fin : ∀ (a c d : List Nat), Aft X.K G Wf σ (rpW X.K G) ι h H (ret (.tup [.str a, .str c, .str d]) h) Q → Q (.ref q) (upd H q (.tup [.str (S a), .str (S c), .str (S d)])) := fun a c d a2 => by
      have nx := Next.beside (o := .tup [.str (S a), .str (S c), .str (S d)]) r hq
      exact a2 ι _ _ nx (.tup (SqT.of upd_same) (.cons (.str a) (.cons (.str c) (.cons (.str d) .nil))))
    cases eq : TL.par y [] x with
    | none =>
      rw [eq] at aft
      exact fin x [] [] aft
    | some pr =>
      rw [eq] at aft
      exact fin pr.1 y pr.2 aft
  · exact False.elim aft
def mIndexS : W → List W → M W := str1 fun x y => match y with
  | [] => bad
  | _ => match fidx y x with
    | some i => ret (.int (i : Nat))
    | none => bad
theorem mt_zsindex : MtZ X G Wf "str.index" mIndexS := by
  refine str1_of fun pins s σ H ι h x y u us Q I r r1 r2 aft => ?_
  cases y with
  | nil => exact False.elim aft
  | cons c y =>
    have a2 : Aft X.K G Wf σ (rpW X.K G) ι h H ((match fidx (c :: y) x with | some i => ret (W.int (i : Nat)) | none => bad) h) Q := aft
    cases e : fidx (c :: y) x with
    | none => rw [e] at a2; exact False.elim a2
    | some i =>
      rw [e] at a2
      obtain ⟨rest, eo⟩ := occ_fidx (by simp) e
      exact mt_sindex pins s σ H _ _ u us Q I r1 r2 ⟨_, _, i, rest, rfl, rfl, eo, Aft.ret (P := rpW X.K G) a2 r (.int _)⟩
def asStrs : List W → Option (List (List Nat))
  | [] => some []
  | .str k :: r => match asStrs r with
    | some ks => some (k :: ks)
    | none => none
  | _ => none
theorem asStrs_of {ι : Nat → Addr} {h : Hz} {H : Hp} : ∀ {ws : List W} {vs : List V} {ks : List (List Nat)}, Reps X.K G ι h H ws vs → asStrs ws = some ks → vs = (ks.map S).map V.str
  | _, _, ks, .nil, e => by cases e; rfl
  | w :: ws, _, ks, .cons p q, e => by
    cases p with
    | str k =>
      unfold asStrs at e
      cases e2 : asStrs ws with
      | none => rw [e2] at e; cases e
      | some k2 =>
        rw [e2] at e
        cases e
        rw [asStrs_of q e2]
        rfl
    | _ => cases e
def sumLen : List (List Nat) → Nat
  | [] => 0
  | x :: r => x.length + sumLen r
theorem sumLen_eq : ∀ xs : List (List Nat), ((xs.map S).map (·.length)).sum = sumLen xs
  | [] => rfl
  | x :: r => by
    show (S x).length + ((r.map S).map (·.length)).sum = x.length + sumLen r
    rw [S_len, sumLen_eq r]
def mJoin (w : W) (ws : List W) : M W := match w with
  | .str y => match ws with
    | [z] => bnd (zseq z) fun q => match asStrs q.2 with
      | some xs => if sumLen xs + xs.length * y.length ≤ LIM then ret (.str (TL.joinL y xs)) else bad
      | none => bad
    | _ => bad
  | _ => bad
theorem mt_zjoin : MtZ X G Wf "str.join" mJoin := by
  intro pins s σ H ι h w v u ws vs us Q I r p1 r1 p2 r2 aft
  cases p1 with
  | str y =>
    cases p2 with
    | nil => exact False.elim aft
    | cons q qs =>
      cases qs with
      | cons _ _ => exact False.elim aft
      | nil =>
        obtain ⟨t, zs, ad, vs, e1, sq, rs, a2, tt⟩ := seq_after r q aft
        subst e1
        have a3 : Aft X.K G Wf σ (rpW X.K G) ι h H ((match asStrs zs with | some xs => if sumLen xs + xs.length * y.length ≤ LIM then ret (W.str (TL.joinL y xs)) else bad | none => bad) h) Q := a2
        cases e : asStrs zs with
        | none => rw [e] at a3; exact False.elim a3
        | some xs =>
          rw [e] at a3
          have a4 : Aft X.K G Wf σ (rpW X.K G) ι h H ((if sumLen xs + xs.length * y.length ≤ LIM then ret (W.str (TL.joinL y xs)) else bad) h) Q := a3
          split at a4
          · rename_i hl
            have ev := asStrs_of rs e
            subst ev
            refine mt_join pins s σ H _ _ u us Q I r1 r2 ⟨_, ad, xs.map S, rfl, rfl, ?_, ?_, ?_⟩
            · cases t with
              | true => exact .inr sq
              | false => exact .inl sq
            · rw [sumLen_eq, List.length_map, S_len]
              exact hl
            · rw [join_S]
              exact Aft.ret (P := rpW X.K G) a4 r (.str _)
          · exact False.elim a4
  | _ => exact False.elim aft
def mAppend (w : W) (ws : List W) : M W := match ws with
  | [x] => bnd (zlref w) fun q => if q.2.length < LIM then bnd (store q.1 (.lst (q.2 ++ [x]))) fun _ => ret .non else bad
  | _ => bad
theorem mt_zappend : MtZ X G Wf "list.append" mAppend := by
  intro pins s σ H ι h w v u ws vs us Q I r p1 r1 p2 r2 aft
  cases p2 with
  | nil => exact False.elim aft
  | cons q qs =>
    cases qs with
    | cons _ _ => exact False.elim aft
    | nil =>
      obtain ⟨i, xs, vs, e1, e2, g, ea, rs, a2⟩ := lref_after r p1 aft
      subst e2
      split at a2
      · rename_i hl
        refine mt_append pins s σ H _ _ u us Q I r1 r2 ⟨_, vs, _, rfl, rfl, ea, by rw [← rs.length, ← lim_eq]; exact hl, ?_⟩
        exact put_after r g (rs.append (.cons q .nil)) a2
      · exact False.elim a2
def mExtend (w : W) (ws : List W) : M W := match ws with
  | [x] => bnd (zlref w) fun q => bnd (zlref x) fun q2 => if q.2.length + q2.2.length ≤ LIM then bnd (store q.1 (.lst (q.2 ++ q2.2))) fun _ => ret .non else bad
  | _ => bad
theorem mt_zextend : MtZ X G Wf "list.extend" mExtend := by
  intro pins s σ H ι h w v u ws vs us Q I r p1 r1 p2 r2 aft
  cases p2 with
  | nil => exact False.elim aft
  | cons q qs =>
    cases qs with
    | cons _ _ => exact False.elim aft
    | nil =>
      obtain ⟨i, xs, vs, e1, e2, g, ea, rs, a2⟩ := lref_after r p1 aft
      obtain ⟨j, ys, vs2, e3, e4, g2, ea2, rs2, a3⟩ := lref_after r q a2
      subst e2
      subst e4
      split at a3
      · rename_i hl
        refine mt_extend pins s σ H _ _ u us Q I r1 r2 ⟨_, _, vs, vs2, rfl, rfl, ea, ea2, by rw [← rs.length, ← rs2.length, ← lim_eq]; exact hl, ?_⟩
        exact put_after r g (rs.append rs2) a3
      · exact False.elim a3
/-- where the first equal item is -/
def zfind1 (f : W → Option Bool) : List W → Option (Option Nat)
  | [] => some none
  | x :: xs => match f x with
    | none => none
    | some p => match zfind1 f xs with
      | none => none
      | some o => some (match p with
        | true => some 0
        | false => match o with
          | some i => some (i + 1)
          | none => none)
theorem zfind1_get {f : W → Option Bool} : ∀ {xs : List W} {o : Option Nat}, zfind1 f xs = some o → ∃ e : Nat → Bool, (∀ i x, xs[i]? = some x → f x = some (e i)) ∧ (∀ j, o = some j → j < xs.length ∧ e j = true ∧ ∀ m, m < j → e m = false)
  | [], o, h => ⟨fun _ => true, fun i x h1 => by simp at h1, fun j hj => by unfold zfind1 at h; cases h; cases hj⟩
  | x :: xs, o, h => by
    unfold zfind1 at h
    cases e1 : f x with
    | none => rw [e1] at h; cases h
    | some p =>
      rw [e1] at h
      cases e2 : zfind1 f xs with
      | none => rw [e2] at h; cases h
      | some o2 =>
        rw [e2] at h
        obtain ⟨e, h1, h2⟩ := zfind1_get e2
        refine ⟨fun i => match i with | 0 => p | i + 1 => e i, fun i a ha => ?_, fun j hj => ?_⟩
        · cases i with
          | zero => simp at ha; subst ha; exact e1
          | succ i => exact h1 i a (by simpa using ha)
        · have h' := (Option.some.inj h).trans hj
          cases p with
          | true =>
            have h'' : some 0 = some j := h'
            cases h''
            exact ⟨Nat.zero_lt_succ _, rfl, fun m hm => absurd hm (Nat.not_lt_zero _)⟩
          | false =>
            cases o2 with
            | none => cases h'
            | some k =>
              have h'' : some (k + 1) = some j := h'
              cases h''
              obtain ⟨a1, a2, a3⟩ := h2 k rfl
              refine ⟨Nat.succ_lt_succ a1, a2, fun m hm => ?_⟩
              cases m with
              | zero => rfl
              | succ m => exact a3 m (by omega)
def mIndexL (E : ET) (n : Nat) (w : W) (ws : List W) : M W := match ws with
  | [x] => fun h => match kind h w with
    | .lst xs => match zfind1 (fun y => zeq E h n y x) xs with
      | some (some j) => if j < LIM then .ok (.int (j : Nat)) h else .err
      | _ => .err
    | _ => .err
  | _ => bad
theorem mt_zlindex (eb : EqB X G E n) (hr : L2.Room (n + 1) X.A) : MtZ X G Wf "list.index" (mIndexL E n) := by
  intro pins s σ H ι h w v u ws vs us Q I r p1 r1 p2 r2 aft
  cases p2 with
  | nil => exact False.elim aft
  | cons q qs =>
    cases qs with
    | cons _ _ => exact False.elim aft
    | @nil =>
      rename_i x vx
      obtain ⟨ux, rfl, rx⟩ := r2.one
      have kd := kind_at r p1
      have aft1 : Aft X.K G Wf σ (rpW X.K G) ι h H (match kind h w with
        | .lst xs => match zfind1 (fun y => zeq E h n y x) xs with
          | some (some j) => if j < LIM then .ok (.int (j : Nat)) h else .err
          | _ => .err
        | _ => .err) Q := aft
      cases hk : kind h w with
      | lst xs =>
        rw [hk] at aft1 kd
        have aft2 : Aft X.K G Wf σ (rpW X.K G) ι h H (match zfind1 (fun y => zeq E h n y x) xs with
          | some (some j) => if j < LIM then .ok (.int (j : Nat)) h else .err
          | _ => .err) Q := aft1
        cases ef : zfind1 (fun y => zeq E h n y x) xs with
        | none => rw [ef] at aft2; exact False.elim aft2
        | some oj =>
          rw [ef] at aft2
          cases oj with
          | none => exact False.elim aft2
          | some j =>
            have aft3 : Aft X.K G Wf σ (rpW X.K G) ι h H (if j < LIM then .ok (.int (j : Nat)) h else .err) Q := aft2
            split at aft3
            · rename_i hlim
              obtain ⟨e, g1, g2⟩ := zfind1_get ef
              obtain ⟨g3, g4, g5⟩ := g2 j rfl
              have sb : Sub X (n + 1) X.A := ⟨hr, rfl⟩
              cases kd with
              | @lst _ ad vs2 sq rs =>
                have p1' := p1
                cases (show u = Value.ref ad from r1)
                refine index_listB (N := xs.length) (e := e) (fun s' => EqOut X G pins σ ι h H s') j g3 (by have : LIM = 16777216 := rfl; omega) g4 g5 (fun s' q' => ?_) (fun s' q' => ?_) (EqOut.same I r)
                · obtain ⟨H', I', n'⟩ := q'
                  obtain ⟨vs3, its3, m3, dd3, sl3, o3, rv3, rs3⟩ := list_again r p1' hk I' n'
                  refine ⟨_, m3, dd3, sl3, o3, by rw [List.size_toArray, rs3.length, rv3.length], fun i h1 => ?_⟩
                  obtain ⟨w1, z1, l1, m1, o1⟩ := rs3.paired rv3 i h1
                  refine wpAny_mono (eb X.A.in1 pins s' σ H' ι h w1 x z1 vx _ _ (e i) sb.in1 I' n'.rep m1 (Rep.next r n'.toNx0 q) o1 rx (g1 i w1 l1)) (fun v s2 hv => ⟨hv.1, EqOut.trans n' hv.2⟩) fun _ _ z => z
                · obtain ⟨H', I', n'⟩ := q'
                  exact ⟨.int (j : Nat), H', I'.tok _, ⟨_, rfl⟩, aft3 ι H' _ n' (.int _)⟩
            · exact False.elim aft3
      | _ => rw [hk] at aft1; exact False.elim aft1

def zrepl (y z : List Nat) (ma : Ev → M W) : Ev → M W := fun ρ => bnd (ma ρ) fun w => match w with
  | .str x => match y with
    | [] => bad
    | _ => if x.length + (x.length + 1) * z.length ≤ LIM then ret (.str (StrLaws.replL y z x)) else bad
  | _ => bad
theorem pz_repl {ys zs : Str} {y z : List Nat} {j k : Nat} {c0 c1 : Pos} (ey : ys = S y) (ez : zs = S z) (hyz : eqN y z = false) (ho : PZ true X G Wf o ma) (hb : noSuper o = true) (hl : (apos.endLine == pos.line) = true) :
    PZ true X G Wf (.Call (.Attribute o "replace" apos) [.Constant (.str ys) j c0, .Constant (.str zs) k c1] [] pos) (zrepl y z ma) := by
  subst ey ez
  refine ⟨fun pins s σ H ι h ρ Q tk I r sr aft => ?_⟩
  refine PySem.Call_method2 (attrBase_of hb) (by rw [starEach_cons rfl, starEach_cons rfl]; rfl) hl (thn (ho.run pins s σ H ι h ρ _ tk I r sr (aft.bnd (P := rpW X.K G))) fun u s1 ⟨tk1, v1, H1, I1, r1, ι1, h1, w1, n1, p1, a1⟩ => ?_)
  have t1 : 1 ≤ s1.toks := tk1 rfl
  cases p1 with
  | str x =>
    obtain ⟨tx, rfl⟩ := r1
    cases y with
    | nil => exact False.elim a1
    | cons c y =>
      have a2 : Aft X.K G Wf σ (rpW X.K G) ι1 h1 H1 ((if x.length + (x.length + 1) * z.length ≤ LIM then ret (W.str (StrLaws.replL (c :: y) z x)) else bad) h1) Q := a1
      split at a2
      · rename_i hlim
        refine ⟨"str", _, PySem.F.plainAttrs_str, PySem.F.slot_str_replace, PySem.F.type_str_replace, typeIs_str _ _ _, (fun _ e => nomatch e), Calls.callWith_builtin rfl (Calls.evalArgs_plain (Calls.spliced_cons ?_))⟩
        refine Calls.Constant_str (Calls.spliced_cons (Calls.Constant_str (Calls.spliced_nil ?_)))
        have q := Aft.ret (P := rpW X.K G) a2 n1.rep (.str _)
        have tk2 : Tk true ({ s1 with toks := s1.toks + 1 + 1 } : Shared) := fun _ => by show 1 ≤ s1.toks + 1 + 1; omega
        refine withTk tk2 (PySem.SC.replace (by show s1.toks ≠ 0; omega) (by show s1.toks + 1 ≠ 0; omega) (by show s1.toks ≠ s1.toks + 1; omega) (by rw [str_eqN]; exact hyz) (by rw [S_len, S_len]; exact hlim) fun t' k => ?_)
        rw [repl_S (by simp)]
        exact ⟨.str _, H1, I1.tok k, ⟨t', rfl⟩, q⟩
      · exact False.elim a2
  | _ => exact False.elim a1

/-- {e} of a text -/
def zasS (w : W) : M W := match w with
  | .str z => if z.length ≤ LIM then ret (.str z) else bad
  | _ => bad
def zfmt (ma : Ev → M W) : Ev → M W := fun ρ => bnd (ma ρ) zasS
theorem pz_fmt (ha : PZ b X G Wf e ma) : PZ b X G Wf (.FormattedValue e (-1) none pos) (zfmt ma) := by
  refine ⟨fun pins s σ H ι h ρ Q tk I r sr aft => ?_⟩
  refine wpAny_FormattedValue_plain (thn (ha.run pins s σ H ι h ρ _ tk I r sr (aft.bnd (P := rpW X.K G))) fun u s1 ⟨tk1, v1, H1, I1, r1, ι1, h1, w1, n1, p1, a1⟩ => ?_)
  cases p1 with
  | str z =>
    have a2 : Aft X.K G Wf σ (rpW X.K G) ι1 h1 H1 ((if z.length ≤ LIM then ret (W.str z) else bad) h1) Q := a1
    split at a2
    · rename_i hl
      obtain ⟨t, rfl⟩ := r1
      have q := Aft.ret (P := rpW X.K G) a2 n1.rep (.str z)
      exact withTk tk1 (wpAny_formatField_str ⟨.str _, H1, I1, ⟨t, rfl⟩, q⟩ ⟨.str _, H1, I1.tok _, ⟨_, rfl⟩, q⟩ (by rw [S_len, ← lim_eq]; exact hl))
    · exact False.elim a2
  | _ => exact False.elim a1
/-- the parts, behind acc -/
structure PZJ (b : Bool) (X : Cx) (G : Gt) (Wf : WX) (es : List Expr) (m : List Nat → Ev → M (List Nat)) : Prop where
  run : ∀ (acc : List Nat) (pins : List (Addr × Obj)) (s : Shared) (σ : St) (H : Hp) (ι : Nat → Addr) (h : Hz) (ρ : Ev) (Q : List Nat → Hp → Prop) (R : Str → Shared → Prop), Tk b s → Inv X pins σ H s → HRep X.K G ι h H → SRep X.K G ι h H ρ σ → acc.length ≤ LIM → Aft X.K G Wf σ rpE ι h H (m acc ρ h) Q →
    (∀ out s1 H1, Tk b s1 → out.length ≤ LIM → Inv X pins σ H1 s1 → Q out H1 → R (S out) s1) → Joins (model X.prog X.w) X.A X.xe (evalEach es X.env) (S acc) R s
theorem pzj_nil : PZJ b X G Wf [] (fun acc _ => ret acc) := by
  refine ⟨fun acc pins s σ H ι h ρ Q R tk I r sr hz aft k => ?_⟩
  have e0 : evalEach [] X.env = [] := by first | rfl | simp [evalEach]
  rw [e0]
  exact k acc s H tk hz I (Aft.ret (P := rpE) aft r rfl)
def zpartJ (ma : Ev → M W) (mr : List Nat → Ev → M (List Nat)) : List Nat → Ev → M (List Nat) := fun acc ρ => bnd (ma ρ) fun w => match w with
  | .str z => if acc.length + z.length ≤ LIM then mr (acc ++ z) ρ else bad
  | _ => bad
theorem pzj_cons {mj : List Nat → Ev → M (List Nat)} (ha : PZ b X G Wf e ma) (hr : PZJ b X G Wf es mj) : PZJ b X G Wf (e :: es) (zpartJ ma mj) := by
  refine ⟨fun acc pins s σ H ι h ρ Q R tk I r sr hz aft k => ?_⟩
  have e0 : evalEach (e :: es) X.env = eval e X.env :: evalEach es X.env := by first | rfl | simp [evalEach]
  rw [e0]
  refine thn (ha.run pins s σ H ι h ρ _ tk I r sr (aft.bnd (P := rpW X.K G))) fun u s1 ⟨tk1, v1, H1, I1, r1, ι1, h1, w1, n1, p1, a1⟩ => ?_
  cases p1 with
  | str z =>
    have a2 : Aft X.K G Wf σ rpE ι1 h1 H1 ((if acc.length + z.length ≤ LIM then mj (acc ++ z) ρ else bad) h1) Q := a1
    split at a2
    · rename_i hl
      obtain ⟨t, rfl⟩ := r1
      refine ⟨S z, t, rfl, by rw [S_app, S_len, List.length_append, ← lim_eq]; exact hl, ?_⟩
      rw [S_app]
      exact hr.run (acc ++ z) pins s1 σ H1 ι1 h1 ρ Q R tk1 I1 n1.rep (sr.next r n1.toNx0) (by rw [List.length_append]; exact hl) a2 k
    · exact False.elim a2
  | _ => exact False.elim a1
def zjoined (mj : List Nat → Ev → M (List Nat)) : Ev → M W := fun ρ => bnd (mj [] ρ) fun z => ret (.str z)
theorem pz_joined {v1 v2 : Expr} {rest : List Expr} {mj : List Nat → Ev → M (List Nat)} (hj : PZJ b X G Wf (v1 :: v2 :: rest) mj) : PZ b X G Wf (.JoinedStr (v1 :: v2 :: rest) pos) (zjoined mj) := by
  refine ⟨fun pins s σ H ι h ρ Q tk I r sr aft => ?_⟩
  refine wpAny_JoinedStr (hj.run [] pins s σ H ι h ρ _ _ tk I r sr (Nat.zero_le _) (aft.bnd (P := rpE)) fun out s1 H1 tk1 hz I1 q1 => ?_)
  obtain ⟨ι1, h1, w1, n1, ew, a1⟩ := q1
  cases ew
  exact ⟨by rw [S_len, ← lim_eq]; exact hz, fun z => Nat.le_succ_of_le (tk1 z), .str _, H1, I1.tok _, ⟨_, rfl⟩, Aft.ret (P := rpW X.K G) a1 n1.rep (.str _)⟩
theorem pz_joined1 (ha : PZ b X G Wf e ma) : PZ b X G Wf (.JoinedStr [e] pos) ma := ⟨fun pins s σ H ι h ρ Q tk I r sr aft => wpAny_JoinedStr_one (ha.run pins s σ H ι h ρ Q tk I r sr aft)⟩
end
end Z

set_option Elab.async false
set_option linter.all false
set_option maxRecDepth 100000
set_option maxHeartbeats 1000000
set_option autoImplicit false
namespace Z
open PySem L2
open PyProof.Rows hiding St

inductive Fl where
  | next | ret (w : W) | brk | cnt
inductive RS where
  | ok (f : Fl) (ρ : Ev) (h : Hz)
  | exc (c : Nat) (fs : List (Nat × W)) (ρ : Ev) (h : Hz)
  | err
abbrev MS := Ev → Hz → RS
def sbnd {α : Type} (m : M α) (ρ : Ev) (k : α → Hz → RS) : Hz → RS := fun h => match m h with
  | .ok a h' => k a h'
  | .exc c fs h' => .exc c fs ρ h'
  | .err => .err
def sseq (m k : MS) : MS := fun ρ h => match m ρ h with
  | .ok .next ρ' h' => k ρ' h'
  | r => r
def snil : MS := fun ρ h => .ok .next ρ h
def sbad : MS := fun _ _ => .err

section
variable (K : PySem.W.Frag) (G : Gt) (Wf : WX)
def AftS (ι : Nat → Addr) (h : Hz) (H : Hp) (r : RS) (D : Ends) : Prop := match r with
  | .ok .next ρ' h' => ∀ ι' H' σ', Next K G ι h H ι' h' H' → SRep K G ι' h' H' ρ' σ' → D.nx σ' H'
  | .ok (.ret w) _ h' => ∀ ι' H' v, Next K G ι h H ι' h' H' → Rep K G ι' h' H' w v → D.rt v H'
  | .ok .brk ρ' h' => ∀ ι' H' σ', Next K G ι h H ι' h' H' → SRep K G ι' h' H' ρ' σ' → D.bk σ' H'
  | .ok .cnt ρ' h' => ∀ ι' H' σ', Next K G ι h H ι' h' H' → SRep K G ι' h' H' ρ' σ' → D.ct σ' H'
  | .exc c fs ρ' h' => ∀ ι' H' σ' d, Next K G ι h H ι' h' H' → SRep K G ι' h' H' ρ' σ' → XRep K G ι' h' H' fs d → Wf (.ref (G.cl c)) d σ' H'
  | .err => False
end
section
variable {K : PySem.W.Frag} {G : Gt} {Wf : WX} {ι ι1 : Nat → Addr} {h h1 : Hz} {H H1 : Hp} {D : Ends}
theorem AftS.step {r : RS} (a : AftS K G Wf ι h H r D) (n : Next K G ι h H ι1 h1 H1) : AftS K G Wf ι1 h1 H1 r D := by
  cases r with
  | ok f ρ' h' =>
    cases f with
    | next => exact fun ι' H' σ' n' s => a ι' H' σ' (n.trans n') s
    | ret w => exact fun ι' H' v n' p => a ι' H' v (n.trans n') p
    | brk => exact fun ι' H' σ' n' s => a ι' H' σ' (n.trans n') s
    | cnt => exact fun ι' H' σ' n' s => a ι' H' σ' (n.trans n') s
  | exc c fs ρ' h' => exact fun ι' H' σ' d n' s q => a ι' H' σ' d (n.trans n') s q
  | err => exact a
/-- an expression ahead -/
theorem AftS.bnd {α β : Type} {P : RP α β} {m : M α} {ρ : Ev} {σ : St} {k : α → Hz → RS} (a : AftS K G Wf ι h H (sbnd m ρ k h) D) (r : HRep K G ι h H) (sr : SRep K G ι h H ρ σ) :
    Aft K G Wf σ P ι h H (m h) fun v H1 => ∃ ι1 h1 w, Next K G ι h H ι1 h1 H1 ∧ P ι1 h1 H1 w v ∧ SRep K G ι1 h1 H1 ρ σ ∧ AftS K G Wf ι1 h1 H1 (k w h1) D := by
  unfold sbnd at a
  cases e : m h with
  | ok w h' =>
    rw [e] at a
    exact fun ι' H' v n p => ⟨ι', h', w, n, p, sr.next r n.toNx0, AftS.step a n⟩
  | exc c fs h' =>
    rw [e] at a
    exact fun ι' H' d n q => a ι' H' σ d n (sr.next r n.toNx0) q
  | err =>
    rw [e] at a
    exact a
/-- a statement ahead -/
def seqD (K : PySem.W.Frag) (G : Gt) (Wf : WX) (ι : Nat → Addr) (h : Hz) (H : Hp) (k : MS) (D : Ends) : Ends :=
  { D with nx := fun σ' H' => ∃ ι' h' ρ', Next K G ι h H ι' h' H' ∧ SRep K G ι' h' H' ρ' σ' ∧ AftS K G Wf ι' h' H' (k ρ' h') D }
theorem AftS.seq {m k : MS} {ρ : Ev} (a : AftS K G Wf ι h H (sseq m k ρ h) D) : AftS K G Wf ι h H (m ρ h) (seqD K G Wf ι h H k D) := by
  unfold sseq at a
  cases e : m ρ h with
  | ok f ρ' h' =>
    rw [e] at a
    cases f with
    | next => exact fun ι' H' σ' n s => ⟨ι', h', ρ', n, s, AftS.step a n⟩
    | ret w => exact a
    | brk => exact a
    | cnt => exact a
  | exc c fs ρ' h' => rw [e] at a; exact a
  | err => rw [e] at a; exact a
theorem AftS.imp {r : RS} {D' : Ends} (a : AftS K G Wf ι h H r D) (nx : ∀ σ H, D.nx σ H → D'.nx σ H) (rt : ∀ v H, D.rt v H → D'.rt v H) (bk : ∀ σ H, D.bk σ H → D'.bk σ H) (ct : ∀ σ H, D.ct σ H → D'.ct σ H) : AftS K G Wf ι h H r D' := by
  cases r with
  | ok f ρ' h' =>
    cases f with
    | next => exact fun ι' H' σ' n' s => nx _ _ (a ι' H' σ' n' s)
    | ret w => exact fun ι' H' v n' p => rt _ _ (a ι' H' v n' p)
    | brk => exact fun ι' H' σ' n' s => bk _ _ (a ι' H' σ' n' s)
    | cnt => exact fun ι' H' σ' n' s => ct _ _ (a ι' H' σ' n' s)
  | exc c fs ρ' h' => exact a
  | err => exact a
end

structure PZS (b : Bool) (X : Cx) (G : Gt) (Wf : WX) (st : Stmt) (m : MS) : Prop where
  run : ∀ (pins : List (Addr × Obj)) (s : Shared) (σ : St) (H : Hp) (ι : Nat → Addr) (h : Hz) (ρ : Ev) (D : Ends), Tk b s → Inv X pins σ H s → HRep X.K G ι h H → SRep X.K G ι h H ρ σ → AftS X.K G Wf ι h H (m ρ h) D →
    wpAny (model X.prog X.w) X.A (exec st X.env) (fun f s' => Tk b s' ∧ SP X pins D f s') X.xe s
structure PZSs (b : Bool) (X : Cx) (G : Gt) (Wf : WX) (sts : List Stmt) (m : MS) : Prop where
  run : ∀ (pins : List (Addr × Obj)) (s : Shared) (σ : St) (H : Hp) (ι : Nat → Addr) (h : Hz) (ρ : Ev) (D : Ends), Tk b s → Inv X pins σ H s → HRep X.K G ι h H → SRep X.K G ι h H ρ σ → AftS X.K G Wf ι h H (m ρ h) D →
    wpAny (model X.prog X.w) X.A (execs sts X.env) (fun f s' => Tk b s' ∧ SP X pins D f s') X.xe s
/-- a value is stored -/
abbrev gD (Q : St → Hp → Prop) : Ends := { nx := Q, rt := fun _ _ => False, bk := fun _ _ => False, ct := fun _ _ => False }
structure PZG (b : Bool) (X : Cx) (G : Gt) (Wf : WX) (tg : Expr) (g : W → MS) : Prop where
  run : ∀ (pins : List (Addr × Obj)) (s : Shared) (σ : St) (H : Hp) (ι : Nat → Addr) (h : Hz) (ρ : Ev) (w : W) (v : V) (u : Value) (Q : St → Hp → Prop), Tk b s → Inv X pins σ H s → HRep X.K G ι h H → SRep X.K G ι h H ρ σ → Rep X.K G ι h H w v → RelV v u → AftS X.K G Wf ι h H (g w ρ h) (gD Q) →
    wpAny (model X.prog X.w) X.A (assign tg X.env u) (fun _ s' => Tk b s' ∧ ∃ σ' H', Inv X pins σ' H' s' ∧ Q σ' H') X.xe s
structure PZGs (b : Bool) (X : Cx) (G : Gt) (Wf : WX) (ts : List Expr) (g : List W → MS) : Prop where
  run : ∀ (pins : List (Addr × Obj)) (s : Shared) (σ : St) (H : Hp) (ι : Nat → Addr) (h : Hz) (ρ : Ev) (ws : List W) (vs : List V) (us : List Value) (Q : St → Hp → Prop), Tk b s → Inv X pins σ H s → HRep X.K G ι h H → SRep X.K G ι h H ρ σ → Reps X.K G ι h H ws vs → Vals vs us → AftS X.K G Wf ι h H (g ws ρ h) (gD Q) →
    wpAny (model X.prog X.w) X.A (assignInOrder ((assignEach ts X.env).map (·.2)) us) (fun _ s' => Tk b s' ∧ ∃ σ' H', Inv X pins σ' H' s' ∧ Q σ' H') X.xe s

section
variable {b : Bool} {X : Cx} {G : Gt} {Wf : WX} {st : Stmt} {sts : List Stmt} {ms ms2 : MS} {e tg : Expr} {ma : Ev → M W} {nt : Ev → M Bool} {pos : Pos} {g : W → MS}
theorem pzs_bad : PZS b X G Wf st sbad := ⟨fun _ _ _ _ _ _ _ _ _ _ _ _ a => False.elim a⟩
theorem pzss_bad : PZSs b X G Wf sts sbad := ⟨fun _ _ _ _ _ _ _ _ _ _ _ _ a => False.elim a⟩
theorem pz_bad : PZ b X G Wf e (fun _ => bad) := ⟨fun _ _ _ _ _ _ _ _ _ _ _ _ a => False.elim a⟩
theorem pzss_nil : PZSs b X G Wf [] snil := ⟨fun pins s σ H ι h ρ D tk I r sr a => wpAny_execs_nil ⟨tk, σ, H, I, a ι H σ (Next.refl r) sr⟩⟩
theorem pzss_cons (h1 : PZS b X G Wf st ms) (h2 : PZSs b X G Wf sts ms2) : PZSs b X G Wf (st :: sts) (sseq ms ms2) := by
  refine ⟨fun pins s σ H ι h ρ D tk I r sr a => ?_⟩
  refine wpAny_execs_cons (thn (h1.run pins s σ H ι h ρ _ tk I r sr a.seq) fun f s1 q => ?_)
  cases f with
  | next =>
    obtain ⟨tk1, σ1, H1, I1, ι1, h1, ρ1, n1, sr1, a1⟩ := q
    exact h2.run pins s1 σ1 H1 ι1 h1 ρ1 D tk1 I1 n1.rep sr1 a1
  | ret v => exact q
  | brk => exact q
  | cont => exact q
theorem pzs_pass : PZS b X G Wf (.Pass pos) snil := ⟨fun pins s σ H ι h ρ D tk I r sr a => wpAny_Pass ⟨tk, σ, H, I, a ι H σ (Next.refl r) sr⟩⟩
def sbrk : MS := fun ρ h => .ok .brk ρ h
def scnt : MS := fun ρ h => .ok .cnt ρ h
theorem pzs_brk : PZS b X G Wf (.Break pos) sbrk := ⟨fun pins s σ H ι h ρ D tk I r sr a => wpAny_Break ⟨tk, σ, H, I, a ι H σ (Next.refl r) sr⟩⟩
theorem pzs_cnt : PZS b X G Wf (.Continue pos) scnt := ⟨fun pins s σ H ι h ρ D tk I r sr a => wpAny_Continue ⟨tk, σ, H, I, a ι H σ (Next.refl r) sr⟩⟩
def sexpr (ma : Ev → M W) : MS := fun ρ => sbnd (ma ρ) ρ fun _ h => .ok .next ρ h
theorem pzs_expr (ha : PZ b X G Wf e ma) (hs : swapsWith e none pos.line X.env = pure false) : PZS b X G Wf (.Expr e pos) (sexpr ma) := by
  refine ⟨fun pins s σ H ι h ρ D tk I r sr a => ?_⟩
  refine wpAny_Expr_any (thn (ha.run pins s σ H ι h ρ _ tk I r sr (a.bnd (P := rpW X.K G) r sr)) fun u s1 ⟨tk1, v1, H1, I1, r1, ι1, h1, w1, n1, p1, sr1, a1⟩ => ?_) I.quiet hs
  exact ⟨tk1, σ, H1, I1, a1 ι1 H1 σ (Next.refl n1.rep) sr1⟩
def sret (ma : Ev → M W) : MS := fun ρ => sbnd (ma ρ) ρ fun w h => .ok (.ret w) ρ h
theorem pzs_ret (ha : PZ b X G Wf e ma) : PZS b X G Wf (.Return (some e) pos) (sret ma) := by
  refine ⟨fun pins s σ H ι h ρ D tk I r sr a => ?_⟩
  refine wpAny_Return_some (thn (ha.run pins s σ H ι h ρ _ tk I r sr (a.bnd (P := rpW X.K G) r sr)) fun u s1 ⟨tk1, v1, H1, I1, r1, ι1, h1, w1, n1, p1, sr1, a1⟩ => ?_)
  exact ⟨tk1, v1, σ, H1, I1, r1, a1 ι1 H1 v1 (Next.refl n1.rep) p1⟩
def sretN : MS := fun ρ h => .ok (.ret .non) ρ h
theorem pzs_retN : PZS b X G Wf (.Return none pos) sretN := ⟨fun pins s σ H ι h ρ D tk I r sr a => wpAny_Return_none ⟨tk, .non, σ, H, I, rfl, a ι H .non (Next.refl r) .non⟩⟩
def sif (nt : Ev → M Bool) (m k : MS) : MS := fun ρ => sbnd (nt ρ) ρ fun t h => if t = true then m ρ h else k ρ h
theorem pzs_if {p q : List Stmt} (ht : PZT b X G Wf e nt) (hp : PZSs b X G Wf p ms) (hq : PZSs b X G Wf q ms2) : PZS b X G Wf (.If e p q pos) (sif nt ms ms2) := by
  refine ⟨fun pins s σ H ι h ρ D tk I r sr a => ?_⟩
  refine wpAny_If (thn (ht.run pins s σ H ι h ρ _ _ rfl tk I r sr (a.bnd (P := rpE) r sr)) fun t s1 ⟨tk1, H1, I1, ι1, h1, t', n1, et, sr1, a1⟩ => ?_)
  cases et
  cases t with
  | true => exact hp.run pins s1 σ H1 ι1 h1 ρ D tk1 I1 n1.rep sr1 a1
  | false => exact hq.run pins s1 σ H1 ι1 h1 ρ D tk1 I1 n1.rep sr1 a1

theorem SRep.set {ι : Nat → Addr} {h : Hz} {H : Hp} {ρ : Ev} {σ : St} {w : W} {v : V} (sr : SRep X.K G ι h H ρ σ) (p : Rep X.K G ι h H w v) (i : Nat) (hl : i < σ.length) : SRep X.K G ι h H (ρ.set i (some w)) (σ.set i (some v)) := by
  refine ⟨by rw [List.length_set, List.length_set]; exact sr.1, ?_⟩
  intro j x e
  by_cases q : i = j
  · subst q
    have hr : i < ρ.length := by
      rcases Nat.lt_or_ge i ρ.length with z | z
      · exact z
      · rw [List.getElem?_eq_none (by simpa using z)] at e; cases e
    rw [List.getElem?_set_self hr] at e
    cases e
    exact ⟨v, List.getElem?_set_self hl, .inl p⟩
  · rw [List.getElem?_set_ne q] at e
    obtain ⟨v', e1, e2⟩ := sr.2 j x e
    exact ⟨v', by rw [List.getElem?_set_ne q]; exact e1, e2⟩
def gname (i : Nat) (w : W) : MS := fun ρ h => .ok .next (ρ.set i (some w)) h
theorem pzg_name {i : Nat} {x : Str} (hN : X.N.Nodup) (hi : X.N[i]? = some x) (hx : Loc X.env.scope x) (hf : X.fn x = true ∨ X.env.scope.names.lookup x = some .local) : PZG b X G Wf (.Name x pos) (gname i) := by
  refine ⟨fun pins s σ H ι h ρ w v u Q tk I r sr p ru a => ?_⟩
  refine withTk tk ((pg_name hN hi hx hf).run pins s σ H v u Q I ru ?_)
  refine a ι H _ (Next.refl r) (sr.set p i ?_)
  rw [I.len]
  exact (List.getElem?_eq_some_iff.mp hi).1
def gnil (ws : List W) : MS := fun ρ h => match ws with
  | [] => .ok .next ρ h
  | _ => .err
def gcons (g : W → MS) (gs : List W → MS) (ws : List W) : MS := match ws with
  | [] => sbad
  | w :: r => sseq (g w) (gs r)
theorem pzgs_nil : PZGs b X G Wf [] gnil := by
  refine ⟨fun pins s σ H ι h ρ ws vs us Q tk I r sr p ru a => ?_⟩
  cases p with
  | nil =>
    cases ru
    exact assignInOrder_nil ⟨tk, σ, H, I, a ι H σ (Next.refl r) sr⟩
  | cons _ _ => exact False.elim a
theorem pzgs_cons {es : List Expr} {gs : List W → MS} (h1 : PZG b X G Wf e g) (h2 : PZGs b X G Wf es gs) (hs : (assignEach (e :: es) X.env).map (·.2) = assign e X.env :: (assignEach es X.env).map (·.2)) : PZGs b X G Wf (e :: es) (gcons g gs) := by
  refine ⟨fun pins s σ H ι h ρ ws vs us Q tk I r sr p ru a => ?_⟩
  cases p with
  | nil => exact False.elim a
  | cons p1 p2 =>
    cases ru with
    | cons r1 r2 =>
      rw [hs]
      have a1 := AftS.seq a
      have a2 : AftS X.K G Wf ι h H (g _ ρ h) (gD fun σ' H' => ∃ ι' h' ρ', Next X.K G ι h H ι' h' H' ∧ SRep X.K G ι' h' H' ρ' σ' ∧ AftS X.K G Wf ι' h' H' (gs _ ρ' h') (gD Q)) := a1
      refine assignInOrder_cons (thn (h1.run pins s σ H ι h ρ _ _ _ _ tk I r sr p1 r1 a2) fun _ s1 ⟨tk1, σ1, H1, I1, ι1, h1, ρ1, n1, sr1, a3⟩ => ?_)
      exact h2.run pins s1 σ1 H1 ι1 h1 ρ1 _ _ _ Q tk1 I1 n1.rep sr1 (p2.next r n1.toNx0) r2 a3
/-- (a, b, ..) = a tuple or a list of that length -/
def gtup (n : Nat) (gs : List W → MS) (w : W) : MS := fun ρ => sbnd (zseq w) ρ fun q h => if q.2.length = n then gs q.2 ρ h else .err
theorem pzg_tup {es : List Expr} {k n : Nat} {gs : List W → MS} (hc : X.calm = true) (hg : PZGs b X G Wf es gs) (hn : (assignEach es X.env).length = n) (hst : (assignEach es X.env).findIdx? (·.1) = none) : PZG b X G Wf (.Tuple es k pos) (gtup n gs) := by
  refine ⟨fun pins s σ H ι h ρ w v u Q tk I r sr p ru a => ?_⟩
  have a0 : Aft X.K G Wf σ rpE ι h H (bnd (zseq w) (fun q => ret q) h) fun q H1 => ∃ ι1 h1 q', Next X.K G ι h H ι1 h1 H1 ∧ q' = q ∧ SRep X.K G ι1 h1 H1 ρ σ ∧ AftS X.K G Wf ι1 h1 H1 (if q'.2.length = n then gs q'.2 ρ h1 else .err) (gD Q) := by
    have e : bnd (zseq w) (fun q => ret q) h = zseq w h := by
      unfold bnd
      cases zseq w h <;> rfl
    rw [e]
    exact AftS.bnd (P := rpE) a r sr
  obtain ⟨t, ws, ad, vs, e1, sq, rs, a1, tt⟩ := seq_after r p a0
  obtain ⟨ι1, h1, q', n1, eq, sr1, a2⟩ := a1 ι H (t, ws) (Next.refl r) rfl
  subst eq
  subst e1
  have a3 : AftS X.K G Wf ι1 h1 H (if ws.length = n then gs ws ρ h1 else .err) (gD Q) := a2
  split at a3
  · rename_i hl
    cases (show u = Value.ref ad from ru)
    have rs1 := rs.next r n1.toNx0
    cases t with
    | true =>
      obtain ⟨its, rv, ht, hz⟩ := I.tuple sq
      refine assign_Tuple_tuple (I.ok.hd hc) ht (by simp [hn, ← hl, rs.length, rv.length]) hst fun h' hx => ?_
      have I1 : Inv X pins σ H { s with heap := h' } := I.kept (t' := s.toks) fun b o e => hx b o (Nat.ne_of_lt (Heap.lt_size e)) e
      exact hg.run pins _ σ H ι1 h1 ρ ws vs _ Q tk I1 n1.rep sr1 rs1 (by simpa using rv) a3
    | false =>
      obtain ⟨its, rv, pl, hz⟩ := I.list sq
      have hl' : s.heap.IsList ad its.toArray := pl.isList
      have hn' : (assignEach es X.env).length = its.toArray.size := by simp [hn, ← hl, rs.length, rv.length]
      rw [PyProof.Rows.assign_Tuple]
      refine wpAny_bind (wpAny_standAt ?_)
      unfold unpack
      rw [hn', hst]
      refine wpAny_bind (wpAny_holding (PySem.W.kun_itemsOf (I.ok.hd hc) hl' fun h' hx => ?_))
      have I1 : Inv X pins σ H { s with heap := h' } := I.kept (t' := s.toks) fun b o e => hx b o (Nat.ne_of_lt (Heap.lt_size e)) e
      exact hg.run pins _ σ H ι1 h1 ρ ws vs _ Q tk I1 n1.rep sr1 rs1 (by simpa using rv) a3
  · exact False.elim a3
/-- target = value -/
def sasg (ma : Ev → M W) (g : W → MS) : MS := fun ρ => sbnd (ma ρ) ρ fun w h => g w ρ h
/-- the stores end plainly -/
theorem pzs_asg (ha : PZ b X G Wf e ma) (hg : PZG b X G Wf tg g) (hs : swapsWithSole [tg] e pos.line X.env = pure false) (hw : swappedStores [tg] e X.env = pure none)
    (hE : (assignEach [tg] X.env).map (·.2) = [assign tg X.env]) (hN : ∀ w ρ h f ρ' h', g w ρ h = .ok f ρ' h' → f = .next) : PZS b X G Wf (.Assign [tg] e pos) (sasg ma g) := by
  refine ⟨fun pins s σ H ι h ρ D tk I r sr a => ?_⟩
  refine wpAny_Assign_stores (thn (ha.run pins s σ H ι h ρ _ tk I r sr (a.bnd (P := rpW X.K G) r sr)) fun u s1 ⟨tk1, v1, H1, I1, r1, ι1, h1, w1, n1, p1, sr1, a1⟩ => ?_) hs hw
  rw [hE]
  have a2 : AftS X.K G Wf ι1 h1 H1 (g w1 ρ h1) (gD D.nx) := by
    cases q : g w1 ρ h1 with
    | ok f ρ' h' =>
      rw [q] at a1
      cases hN w1 ρ h1 f ρ' h' q
      exact a1
    | exc c fs ρ' h' => rw [q] at a1; exact a1
    | err => rw [q] at a1; exact a1
  exact thn (hg.run pins s1 σ H1 ι1 h1 ρ w1 v1 u D.nx tk1 I1 n1.rep sr1 p1 r1 a2) fun _ s2 q => q
end
end Z

set_option Elab.async false
set_option linter.all false
set_option maxRecDepth 100000
set_option maxHeartbeats 1000000
set_option autoImplicit false
namespace Z
open PySem L2
open PyProof.Rows hiding St

section
variable {b : Bool} {X : Cx} {G : Gt} {Wf : WX} {st : Stmt} {sts : List Stmt} {ms ms2 : MS} {e tg : Expr} {ma : Ev → M W} {nt : Ev → M Bool} {pos : Pos} {g : W → MS}
def parSet : List Nat → List W → Ev → Ev
  | i :: is, w :: ws, ρ => parSet is ws (ρ.set i (some w))
  | _, _, ρ => ρ
def NmsOk (X : Cx) (ps : List (Nat × Str)) : Prop := ∀ p ∈ ps, X.N[p.1]? = some p.2 ∧ X.env.scope.names.lookup p.2 = some .local
theorem par_run (hN : X.N.Nodup) {pins : List (Addr × Obj)} {H : Hp} {ι : Nat → Addr} {h : Hz} {Q : Unit → Shared → Prop} : ∀ (ps : List (Nat × Str)) (ws : List W) (vs : List V) (us : List Value) (s : Shared) (σ : St) (ρ : Ev), NmsOk X ps → ps.length = us.length → Tk b s → Inv X pins σ H s → SRep X.K G ι h H ρ σ →
    Reps X.K G ι h H ws vs → Vals vs us → (∀ s' σ', Tk b s' → Inv X pins σ' H s' → SRep X.K G ι h H (parSet (ps.map (·.1)) ws ρ) σ' → Q () s') → wpAny (model X.prog X.w) X.A (assignInOrder (ps.map fun p v => bindName X.env p.2 v) us) Q X.xe s
  | [], ws, vs, us, s, σ, ρ, ok, hl, tk, I, sr, rs, rv, k => by
    cases us with
    | nil =>
      refine assignInOrder_nil (k s σ tk I ?_)
      cases ws <;> exact sr
    | cons _ _ => cases hl
  | p :: ps, ws, vs, us, s, σ, ρ, ok, hl, tk, I, sr, rs, rv, k => by
    cases rv with
    | nil => cases hl
    | cons r1 r2 =>
      cases rs with
      | cons q1 q2 =>
        obtain ⟨h1, h2⟩ := ok p (List.mem_cons_self ..)
        show wpAny _ _ (assignInOrder ((fun v => bindName X.env p.2 v) :: ps.map fun p v => bindName X.env p.2 v) _) _ _ s
        refine assignInOrder_cons (wpAny_bindName (wpAny_mono (withTk tk (store_ok (Q := fun _ s' => Inv X pins _ H s') I hN h1 (.inl h2) r1 (fun s' I' => I') (.inr h2))) (fun _ s' q => ?_) fun _ _ z => z))
        have hlen : p.1 < σ.length := by rw [I.len]; exact (List.getElem?_eq_some_iff.mp h1).1
        exact par_run hN ps _ _ _ s' _ _ (fun p' hp' => ok p' (List.mem_cons_of_mem _ hp')) (by simpa using hl) q.1 q.2 (sr.set q1 p.1 hlen) q2 r2 k
theorem Reps.reverse {K : PySem.W.Frag} {ι : Nat → Addr} {h : Hz} {H : Hp} : ∀ {ws : List W} {vs : List V}, Reps K G ι h H ws vs → Reps K G ι h H ws.reverse vs.reverse
  | _, _, .nil => .nil
  | _, _, .cons a r => by
    rw [List.reverse_cons, List.reverse_cons]
    exact Reps.append (Reps.reverse r) (.cons a .nil)
def spar (is : List Nat) (ma : Ev → M W) : MS := fun ρ => sbnd (ma ρ) ρ fun w h => match w with
  | .tup ws => if ws.length = is.length then .ok .next (parSet is.reverse ws.reverse ρ) h else .err
  | _ => .err
theorem pzs_par {ts : List Expr} {kt : Nat} {pt : Pos} {ps : List (Nat × Str)} (hc : X.calm = true) (hN : X.N.Nodup) (ok : NmsOk X ps) (ha : PZ b X G Wf e ma) (hw : swappedStores [.Tuple ts kt pt] e X.env = pure (some (ps.map (·.2)))) (hs : swapsWithSole [.Tuple ts kt pt] e pos.line X.env = pure false) :
    PZS b X G Wf (.Assign [.Tuple ts kt pt] e pos) (spar (ps.map (·.1)) ma) := by
  refine ⟨fun pins s σ H ι h ρ D tk I r sr a => ?_⟩
  rw [exec_Assign_arm]
  refine wpAny_bind (wpAny_standAt ?_)
  rw [hs]
  refine wpAny_bind (wpAny_pure ?_)
  rw [if_neg (by decide)]
  refine wpAny_bind (thn (ha.run pins s σ H ι h ρ _ tk I r sr (a.bnd (P := rpW X.K G) r sr)) fun u s1 ⟨tk1, v1, H1, I1, r1, ι1, h1, w1, n1, p1, sr1, a1⟩ => ?_)
  rw [hw]
  refine wpAny_bind (wpAny_pure ?_)
  cases p1 with
  | @tup ws ad vs sq rs =>
    have a2 : AftS X.K G Wf ι1 h1 H1 (if ws.length = (ps.map (·.1)).length then .ok .next (parSet (ps.map (·.1)).reverse ws.reverse ρ) h1 else .err) D := a1
    split at a2
    · rename_i hl
      cases (show u = Value.ref ad from r1)
      obtain ⟨its, rv, ht, hz⟩ := I1.tuple sq
      have el : its.length = ps.length := by rw [← rv.length, ← rs.length, hl, List.length_map]
      unfold assignStores
      dsimp only
      have el2 : (ps.map (·.2)).length = its.toArray.size := by rw [List.length_map, List.size_toArray, el]
      rw [el2]
      refine wpAny_bind (wpAny_rule (wpAny_bind (unpackItems_tuple (items := its.toArray) (I.ok.hd hc) ht fun h' hx' => ?_)))
      have I3 := I1.kept (h' := h') (t' := s1.toks) fun b o e => hx' b o (Nat.ne_of_lt (Heap.lt_size e)) e
      have e1 : (ps.map (·.2)).reverse.map (fun n v => bindName X.env n v) = ps.reverse.map fun p v => bindName X.env p.2 v := by
        rw [← List.map_reverse, List.map_map]; rfl
      rw [e1]
      refine wpAny_bind (par_run hN ps.reverse ws.reverse vs.reverse its.toArray.toList.reverse { s1 with heap := h' } σ ρ (fun p hp => ok p (List.mem_reverse.mp hp)) (by simp [el]) tk1 I3 sr1 rs.reverse ?_ fun s' σ' tk' I' sr' => wpAny_pure ⟨tk', σ', H1, I', ?_⟩)
      · have : Vals vs.reverse its.reverse := rv.reverse
        simpa using this
      · refine a2 ι1 H1 σ' (Next.refl n1.rep) ?_
        rw [← List.map_reverse]
        exact sr'
    · exact False.elim a2
  | _ => exact False.elim a1

def swhile (nt : Ev → M Bool) (m : MS) : Nat → MS
  | 0 => sbad
  | n + 1 => fun ρ => sbnd (nt ρ) ρ fun t h => match t with
    | false => .ok .next ρ h
    | true => match m ρ h with
      | .ok f ρ' h' => match f with
        | .next => swhile nt m n ρ' h'
        | .cnt => swhile nt m n ρ' h'
        | .brk => .ok .next ρ' h'
        | .ret w => .ok (.ret w) ρ' h'
      | .exc c fs ρ' h' => .exc c fs ρ' h'
      | .err => .err
theorem pzs_while {body : List Stmt} {n : Nat} (hp : PassesOwn (model X.prog X.w) X.A X.env X.xe) (ht : PZT b X G Wf e nt) (hb : PZSs b X G Wf body ms) : PZS b X G Wf (.While e body [] pos) (swhile nt ms n) := by
  refine ⟨fun pins s σ H ι h ρ D tk I r sr a => ?_⟩
  refine wpAny_While (codeAny_whileLoop (fun k s' => ∃ σ' H' ι' h' ρ', Tk b s' ∧ Inv X pins σ' H' s' ∧ HRep X.K G ι' h' H' ∧ SRep X.K G ι' h' H' ρ' σ' ∧ AftS X.K G Wf ι' h' H' (swhile nt ms k ρ' h') D) ?_ n ⟨σ, H, ι, h, ρ, tk, I, r, sr, a⟩)
  rintro k s1 ⟨σ1, H1, ι1, h1, ρ1, tk1, I1, rp1, sr1, a1⟩
  cases k with
  | zero => exact False.elim a1
  | succ k =>
    have a1' : AftS X.K G Wf ι1 h1 H1 (sbnd (nt ρ1) ρ1 (fun t h => match t with
        | false => .ok .next ρ1 h
        | true => match ms ρ1 h with
          | .ok f ρ' h' => match f with
            | .next => swhile nt ms k ρ' h'
            | .cnt => swhile nt ms k ρ' h'
            | .brk => .ok .next ρ' h'
            | .ret w => .ok (.ret w) ρ' h'
          | .exc c fs ρ' h' => .exc c fs ρ' h'
          | .err => .err) h1) D := a1
    refine wpAny_passesOwn hp (thn (ht.run pins s1 σ1 H1 ι1 h1 ρ1 _ _ rfl tk1 I1 rp1 sr1 (a1'.bnd (P := rpE) rp1 sr1)) fun t s2 ⟨tk2, H2, I2, ι2, h2, t', n2, et, sr2, a2⟩ => ?_)
    cases et
    cases t with
    | false =>
      rw [if_neg Bool.false_ne_true]
      exact wpAny_execs_nil ⟨tk2, σ1, H2, I2, a2 ι2 H2 σ1 (Next.refl n2.rep) sr2⟩
    | true =>
      rw [if_pos rfl]
      have a3 : AftS X.K G Wf ι2 h2 H2 (ms ρ1 h2) { nx := fun σ' H' => ∃ ι' h' ρ', Next X.K G ι2 h2 H2 ι' h' H' ∧ SRep X.K G ι' h' H' ρ' σ' ∧ AftS X.K G Wf ι' h' H' (swhile nt ms k ρ' h') D, rt := D.rt, bk := D.nx, ct := fun σ' H' => ∃ ι' h' ρ', Next X.K G ι2 h2 H2 ι' h' H' ∧ SRep X.K G ι' h' H' ρ' σ' ∧ AftS X.K G Wf ι' h' H' (swhile nt ms k ρ' h') D } := by
        have a2' : AftS X.K G Wf ι2 h2 H2 (match ms ρ1 h2 with
          | .ok f ρ' h' => match f with
            | .next => swhile nt ms k ρ' h'
            | .cnt => swhile nt ms k ρ' h'
            | .brk => .ok .next ρ' h'
            | .ret w => .ok (.ret w) ρ' h'
          | .exc c fs ρ' h' => .exc c fs ρ' h'
          | .err => .err) D := a2
        cases q : ms ρ1 h2 with
        | ok f ρ' h' =>
          rw [q] at a2'
          cases f with
          | next => exact fun ι' H' σ' n' s' => ⟨ι', h', ρ', n', s', AftS.step a2' n'⟩
          | cnt => exact fun ι' H' σ' n' s' => ⟨ι', h', ρ', n', s', AftS.step a2' n'⟩
          | brk => exact a2'
          | ret w => exact a2'
        | exc c fs ρ' h' => rw [q] at a2'; exact a2'
        | err => rw [q] at a2'; exact a2'
      refine wpAny_passesOwn hp (thn (hb.run pins s2 σ1 H2 ι2 h2 ρ1 _ tk2 I2 n2.rep sr2 a3) fun f s3 q3 => ?_)
      cases f with
      | next =>
        obtain ⟨tk3, σ3, H3, I3, ι3, h3, ρ3, n3, sr3, a4⟩ := q3
        exact ⟨k, Nat.lt_succ_self _, σ3, H3, ι3, h3, ρ3, tk3, I3, n3.rep, sr3, a4⟩
      | cont =>
        obtain ⟨tk3, σ3, H3, I3, ι3, h3, ρ3, n3, sr3, a4⟩ := q3
        exact ⟨k, Nat.lt_succ_self _, σ3, H3, ι3, h3, ρ3, tk3, I3, n3.rep, sr3, a4⟩
      | brk => exact q3
      | ret v => exact q3

inductive Itz where
  | fix (ws : List W)
  | live (e : Bool) (j : Nat) (xs : List W)
/-- an item, or the pair of its number and it -/
def wrapE (e : Bool) (i : Nat) (w : W) : W := match e with
  | false => w
  | true => .tup [.int i, w]
/-- what stands at turn i: an item, the end, or nothing that can be told -/
def zitem (z : Itz) (i : Nat) (h : Hz) : Option (Option W) := match z with
  | .fix ws => some ws[i]?
  | .live e j _ => match h.get j with
    | some (.lst xs) => (match xs[i]? with
      | some w => some (some (wrapE e i w))
      | none => some none)
    | _ => none
def ItOk (K : PySem.W.Frag) (G : Gt) (z : Itz) (J : It) (ι : Nat → Addr) (h : Hz) (H : Hp) : Prop := ∀ (ι' : Nat → Addr) (h' : Hz) (H' : Hp) (i : Nat), Next K G ι h H ι' h' H' → match zitem z i h' with
  | some (some w) => J.go i H' ∧ ∀ x H2, J.yld i H' x H2 → Next K G ι' h' H' ι' h' H2 ∧ Rep K G ι' h' H2 w x
  | some none => (∀ ws, z = .fix ws → i = ws.length) → J.stop i H'
  | none => True
abbrev rpI (K : PySem.W.Frag) (G : Gt) : RP Itz It := fun ι h H z J => ItOk K G z J ι h H
/-- the iterator of a loop -/
structure PZI (b : Bool) (X : Cx) (G : Gt) (Wf : WX) (tg iter : Expr) (m : Ev → M Itz) : Prop where
  run : ∀ (pins : List (Addr × Obj)) (s : Shared) (σ : St) (H : Hp) (ι : Nat → Addr) (h : Hz) (ρ : Ev) (R : It → Hp → Prop), Tk b s → Inv X pins σ H s → HRep X.K G ι h H → SRep X.K G ι h H ρ σ → Aft X.K G Wf σ (rpI X.K G) ι h H (m ρ h) R →
    wpAny (model X.prog X.w) X.A (eval iter X.env) (fun v s1 => wpAny (model X.prog X.w) X.A (pyIter v) (fun itv s2 => Tk b s2 ∧ PIE X pins σ tg R itv s2) X.xe s1) X.xe s
def floop (g : W → MS) (m : MS) (k : MS) (w : W) : MS := fun ρ h => match g w ρ h with
  | .ok f ρ1 h1 => match f with
    | .next => match m ρ1 h1 with
      | .ok f2 ρ2 h2 => match f2 with
        | .next => k ρ2 h2
        | .cnt => k ρ2 h2
        | .brk => .ok .next ρ2 h2
        | .ret x => .ok (.ret x) ρ2 h2
      | .exc c fs ρ2 h2 => .exc c fs ρ2 h2
      | .err => .err
    | _ => .err
  | .exc c fs ρ1 h1 => .exc c fs ρ1 h1
  | .err => .err
/-- over items that stand still -/
def sloopF (g : W → MS) (m : MS) : List W → MS
  | [] => snil
  | w :: ws => floop g m (sloopF g m ws) w
/-- over a list, read anew at each turn; as many turns as it has items now -/
def sloopL (e : Bool) (g : W → MS) (m : MS) (j : Nat) : List W → Nat → MS
  | fuel, i => fun ρ h => match h.get j with
    | some (.lst xs) => match xs[i]? with
      | none => .ok .next ρ h
      | some w => match fuel with
        | [] => .err
        | _ :: fuel => floop g m (sloopL e g m j fuel (i + 1)) (wrapE e i w) ρ h
    | _ => .err
def sloop (g : W → MS) (m : MS) (z : Itz) : MS := match z with
  | .fix ws => sloopF g m ws
  | .live e j xs => sloopL e g m j xs 0
/-- the loop from turn i on, with n turns left -/
def srest (g : W → MS) (m : MS) (z : Itz) (n i : Nat) : MS := match z with
  | .fix ws => sloopF g m (ws.drop i)
  | .live e j _ => fun ρ h => sloopL e g m j (List.replicate n .non) i ρ h
theorem sloopL_fuel (e : Bool) (g : W → MS) (m : MS) (j : Nat) : ∀ (f f2 : List W) (i : Nat), f.length = f2.length → sloopL e g m j f i = sloopL e g m j f2 i
  | [], [], i, _ => rfl
  | a :: f, b :: f2, i, hl => by
    have ih := sloopL_fuel e g m j f f2 (i + 1) (by simpa using hl)
    funext ρ h
    unfold sloopL
    dsimp only
    rw [ih]
  | [], _ :: _, _, hl => by cases hl
  | _ :: _, [], _, hl => by cases hl
/-- one turn, or the end -/
theorem srest_at {g : W → MS} {m : MS} {z : Itz} {n i : Nat} {ρ : Ev} {h : Hz} (ne : srest g m z n i ρ h ≠ .err) (hn : ∀ ws, z = .fix ws → n + i = ws.length) :
    (zitem z i h = some none ∧ srest g m z n i ρ h = .ok .next ρ h ∧ ∀ ws, z = .fix ws → i = ws.length) ∨ ∃ w n', n = n' + 1 ∧ zitem z i h = some (some w) ∧ srest g m z n i ρ h = floop g m (srest g m z n' (i + 1)) w ρ h := by
  cases z with
  | fix ws =>
    have hl := hn ws rfl
    cases n with
    | zero =>
      refine .inl ⟨?_, ?_, fun ws' e => by cases e; omega⟩
      · show some ws[i]? = some none
        rw [List.getElem?_eq_none (by omega)]
      · show sloopF g m (ws.drop i) ρ h = _
        rw [List.drop_of_length_le (by omega)]
        rfl
    | succ n =>
      have hi : i < ws.length := by omega
      refine .inr ⟨ws[i], n, rfl, ?_, ?_⟩
      · show some ws[i]? = some (some ws[i])
        rw [List.getElem?_eq_getElem hi]
      · show sloopF g m (ws.drop i) ρ h = _
        rw [List.drop_eq_getElem_cons hi]
        rfl
  | live e j ys =>
    have e0 : srest g m (.live e j ys) n i ρ h = sloopL e g m j (List.replicate n .non) i ρ h := rfl
    rw [e0] at ne ⊢
    unfold sloopL at ne ⊢
    cases gj : h.get j with
    | none => rw [gj] at ne; exact absurd rfl ne
    | some c =>
      cases c with
      | lst xs =>
        have ez : zitem (.live e j ys) i h = (match xs[i]? with | some w => some (some (wrapE e i w)) | none => some none) := by
          unfold zitem
          simp only [gj]
        rw [gj] at ne
        simp only at ne ⊢
        cases gx : xs[i]? with
        | none =>
          refine .inl ⟨by rw [ez, gx], ?_, fun ws' e => by cases e⟩
          simp only [gx]
        | some w =>
          cases n with
          | zero =>
            rw [gx] at ne
            exact absurd rfl ne
          | succ n =>
            refine .inr ⟨wrapE e i w, n, rfl, by rw [ez, gx], ?_⟩
            simp only [gx, List.replicate_succ]
            rfl
      | ins c fs => rw [gj] at ne; exact absurd rfl ne
      | dct kvs => rw [gj] at ne; exact absurd rfl ne
      | dead => rw [gj] at ne; exact absurd rfl ne
/-- what is wanted behind a turn -/
theorem floop_split {ι : Nat → Addr} {h : Hz} {H : Hp} {ρ : Ev} {w : W} {k : MS} {D : Ends} (a : AftS X.K G Wf ι h H (floop g ms k w ρ h) D) : AftS X.K G Wf ι h H (g w ρ h) (gD fun σ1 H1 => ∃ ι1 h1 ρ1, Next X.K G ι h H ι1 h1 H1 ∧ SRep X.K G ι1 h1 H1 ρ1 σ1 ∧
    AftS X.K G Wf ι1 h1 H1 (ms ρ1 h1) { nx := fun σ' H' => ∃ ι' h' ρ', Next X.K G ι1 h1 H1 ι' h' H' ∧ SRep X.K G ι' h' H' ρ' σ' ∧ AftS X.K G Wf ι' h' H' (k ρ' h') D, rt := D.rt, bk := D.nx, ct := fun σ' H' => ∃ ι' h' ρ', Next X.K G ι1 h1 H1 ι' h' H' ∧ SRep X.K G ι' h' H' ρ' σ' ∧ AftS X.K G Wf ι' h' H' (k ρ' h') D }) := by
  unfold floop at a
  cases q : g w ρ h with
  | err => rw [q] at a; exact a
  | exc c fs ρ1 h1 => rw [q] at a; exact a
  | ok f ρ1 h1 =>
    rw [q] at a
    cases f with
    | next =>
      intro ι1 H1 σ1 n1 sr1
      refine ⟨ι1, h1, ρ1, n1, sr1, ?_⟩
      have a1 : AftS X.K G Wf ι h H (match ms ρ1 h1 with
        | .ok f2 ρ2 h2 => match f2 with
          | .next => k ρ2 h2
          | .cnt => k ρ2 h2
          | .brk => .ok .next ρ2 h2
          | .ret x => .ok (.ret x) ρ2 h2
        | .exc c fs ρ2 h2 => .exc c fs ρ2 h2
        | .err => .err) D := a
      have a2 := AftS.step a1 n1
      cases q2 : ms ρ1 h1 with
      | ok f2 ρ2 h2 =>
        rw [q2] at a2
        cases f2 with
        | next => exact fun ι' H' σ' n' s' => ⟨ι', h2, ρ2, n', s', AftS.step a2 n'⟩
        | cnt => exact fun ι' H' σ' n' s' => ⟨ι', h2, ρ2, n', s', AftS.step a2 n'⟩
        | brk => exact a2
        | ret x => exact a2
      | exc c fs ρ2 h2 => rw [q2] at a2; exact a2
      | err => rw [q2] at a2; exact a2
    | ret x => exact False.elim a
    | brk => exact False.elim a
    | cnt => exact False.elim a
def sfor (mi : Ev → M Itz) (g : W → MS) (m : MS) : MS := fun ρ => sbnd (mi ρ) ρ fun z h => sloop g m z ρ h
theorem pzs_for {iter : Expr} {body : List Stmt} {mi : Ev → M Itz} (hp : PassesOwn (model X.prog X.w) X.A X.env X.xe) (hc : X.calm = true) (hi : PZI b X G Wf tg iter mi) (hg : PZG b X G Wf tg g) (hb : PZSs b X G Wf body ms) (hs : ∀ x, foldedSetIterable iter X.env x = pure x) : PZS b X G Wf (.For tg iter body [] pos) (sfor mi g ms) := by
  refine ⟨fun pins s σ H ι h ρ D tk I r sr a => ?_⟩
  refine wpAny_For (thn (hi.run pins s σ H ι h ρ _ tk I r sr (a.bnd (P := rpI X.K G) r sr)) fun v s1 h1 => thn h1 fun itv s2 h2 => ?_) hs
  obtain ⟨tk2, it, fp, tn, J, H2, e, I2, T, st2, f2, ι2, hz2, z, n2, ok2, sr2, a2⟩ := h2
  have rp2 := n2.rep
  subst e
  have stat : ∀ {H' : Hp}, (∀ b ∈ fp, H' b = none) → ∀ b ∈ fp, FpOk X pins H' b := fun hn b hb => ⟨hn b hb, (f2 b hb).2⟩
  have fuel : ∃ n, (∀ ws, z = .fix ws → n + 0 = ws.length) ∧ sloop g ms z ρ hz2 = srest g ms z n 0 ρ hz2 := by
    cases z with
    | fix ws => exact ⟨ws.length, fun ws' e => by cases e; rfl, rfl⟩
    | live eb j xs => exact ⟨xs.length, fun ws' e => (by cases e), by
        show sloopL eb g ms j xs 0 ρ hz2 = sloopL eb g ms j (List.replicate xs.length .non) 0 ρ hz2
        rw [sloopL_fuel eb g ms j xs (List.replicate xs.length .non) 0 (by simp)]⟩
  obtain ⟨n0, hn0, en0⟩ := fuel
  rw [en0] at a2
  refine codeAny_forLoop_any (fun n s' => ∃ i σ' H' ι' h' ρ', Tk b s' ∧ Inv X pins σ' H' s' ∧ tn i s'.heap ∧ (∀ b ∈ fp, H' b = none) ∧ Next X.K G ι2 hz2 H2 ι' h' H' ∧ SRep X.K G ι' h' H' ρ' σ' ∧ (∀ ws, z = .fix ws → n + i = ws.length) ∧ AftS X.K G Wf ι' h' H' (srest g ms z n i ρ' h') D) ?_ n0
    ⟨0, σ, H2, ι2, hz2, ρ, tk2, I2, st2, fun b hb => (f2 b hb).1, Next.refl rp2, sr2, hn0, a2⟩
  rintro n s3 ⟨i, σ3, H3, ι3, h3, ρ3, tk3, I3, st3, fr3, n3, sr3, hl3, a3⟩
  have ne : srest g ms z n i ρ3 h3 ≠ .err := fun q => by rw [q] at a3; exact a3
  have okt := ok2 ι3 h3 H3 i n3
  rcases srest_at ne hl3 with ⟨ez, er, el⟩ | ⟨w, n', hn', ez, er⟩
  · rw [ez] at okt
    rw [er] at a3
    refine wpAny_passesOwn hp (thn (withTk tk3 (T.done X rfl rfl rfl hc i pins s3 σ3 H3 X.xe I3 (stat fr3) st3 (okt el))) fun r s4 ⟨tk4, hr, I4⟩ => ?_)
    subst hr
    exact wpAny_passesOwn hp (wpAny_execs_nil ⟨tk4, σ3, H3, I4, a3 ι3 H3 σ3 (Next.refl n3.rep) sr3⟩)
  · rw [ez] at okt
    rw [er] at a3
    obtain ⟨go, yl⟩ := okt
    refine wpAny_passesOwn hp (thn (withTk tk3 (T.item X rfl rfl rfl hc i pins s3 σ3 H3 X.xe I3 (stat fr3) st3 go)) fun r s4 ⟨tk4, u, hr, h4⟩ => ?_)
    subst hr
    refine wpAny_passesOwn hp (thn (withTk tk4 h4) fun _ s5 ⟨tk5, x, H5, I5, r5, y5, st5, fr5⟩ => ?_)
    have I5' := I5.pinned (stat fr5) (T.obj _ _ st5)
    obtain ⟨n5, p5⟩ := yl x H5 y5
    have a5 := floop_split (AftS.step a3 n5)
    refine wpAny_passesOwn hp (thn (hg.run _ s5 σ3 H5 ι3 h3 ρ3 w x u _ tk5 I5' n5.rep (sr3.next n3.rep n5.toNx0) p5 r5 a5) fun _ s6 ⟨tk6, σ6, H6, I6, ι6, h6, ρ6, n6, sr6, a6⟩ => ?_)
    refine wpAny_passesOwn hp (thn (hb.run _ s6 σ6 H6 ι6 h6 ρ6 _ tk6 I6 n6.rep sr6 a6) fun f s7 q7 => ?_)
    have again : ∀ {σ7 : St} {H7 : Hp}, Tk b s7 → Inv X (pins ++ pinsAt fp s5.heap) σ7 H7 s7 → (∃ ι' h' ρ', Next X.K G ι6 h6 H6 ι' h' H7 ∧ SRep X.K G ι' h' H7 ρ' σ7 ∧ AftS X.K G Wf ι' h' H7 (srest g ms z n' (i + 1) ρ' h') D) →
        ∃ m, m < n ∧ ∃ i σ' H' ι' h' ρ', Tk b s7 ∧ Inv X pins σ' H' s7 ∧ tn i s7.heap ∧ (∀ b ∈ fp, H' b = none) ∧ Next X.K G ι2 hz2 H2 ι' h' H' ∧ SRep X.K G ι' h' H' ρ' σ' ∧ (∀ ws, z = .fix ws → m + i = ws.length) ∧ AftS X.K G Wf ι' h' H' (srest g ms z m i ρ' h') D := fun {σ7 H7} tk7 I7 ⟨ι7, h7, ρ7, n7, sr7, a7⟩ => by
      refine ⟨n', by omega, i + 1, σ7, H7, ι7, h7, ρ7, tk7, I7.unpinned, T.keep _ _ _ st5 fun b hb o e => (I7.pin (b, o) (List.mem_append_right _ (List.mem_append_right _ (mem_pinsAt hb e)))).1, fun b hb => ?_, ((n3.trans n5).trans n6).trans n7, sr7, fun ws ew => by have := hl3 ws ew; omega, a7⟩
      obtain ⟨o, e, d⟩ := T.obj _ _ st5 b hb
      exact (I7.pin (b, o) (List.mem_append_right _ (List.mem_append_right _ (mem_pinsAt hb e)))).2.1
    cases f with
    | next => obtain ⟨tk7, σ7, H7, I7, q7⟩ := q7; exact again tk7 I7 q7
    | cont => obtain ⟨tk7, σ7, H7, I7, q7⟩ := q7; exact again tk7 I7 q7
    | brk => obtain ⟨tk7, σ7, H7, I7, q7⟩ := q7; exact ⟨tk7, σ7, H7, I7.unpinned, q7⟩
    | ret v => obtain ⟨tk7, x7, σ7, H7, I7, r7, q7⟩ := q7; exact ⟨tk7, x7, σ7, H7, I7.unpinned, r7, q7⟩
end
end Z

set_option Elab.async false
set_option linter.all false
set_option maxRecDepth 100000
set_option maxHeartbeats 1000000
set_option autoImplicit false
namespace Z
open PySem L2
open PyProof.Rows hiding St

section
variable {b : Bool} {X : Cx} {G : Gt} {Wf : WX} {e tg : Expr} {ma : Ev → M W} {mr : Ev → M (List W)} {pos p : Pos} {K : PySem.W.Frag} {ι : Nat → Addr} {h : Hz} {H : Hp}
def zitOf (w : W) : M Itz := match w with
  | .str s => ret (.fix (s.map fun c => .str [c]))
  | .tup ws => ret (.fix ws)
  | .fz ws => ret (.fix ws)
  | .ref j => fun h => match h.get j with
    | some (.lst xs) => .ok (.live false j xs) h
    | _ => .err
  | _ => bad
theorem itok_tup {ad : Addr} {ws : List W} {vs : List V} (r : HRep K G ι h H) (sq : SqT K H ad vs) (rs : Reps K G ι h H ws vs) : ItOk K G (.fix ws) (Itt K ad) ι h H := by
  intro ι' h' H' i n
  show (match some ws[i]? with | some (some w) => _ | some none => _ | none => True)
  have sq' := sqT_next r n.toNx0 sq
  have rs' := rs.next r n.toNx0
  cases e : ws[i]? with
  | none =>
    refine fun _ => ⟨vs, sq', ?_⟩
    rw [← rs.length]
    exact List.getElem?_eq_none_iff.mp e
  | some w =>
    obtain ⟨v, ev, pv⟩ := rs'.get e
    refine ⟨⟨vs, v, sq', ev⟩, fun x H2 y => ?_⟩
    obtain ⟨rfl, hx⟩ := y
    have := hx vs sq'
    rw [ev] at this
    cases this
    exact ⟨Next.refl n.rep, pv⟩
theorem itok_fz {ad : Addr} {ws : List W} {vs : List V} (r : HRep K G ι h H) (sq : FzL K H ad vs) (rs : Reps K G ι h H ws vs) : ItOk K G (.fix ws) (Itl K ad) ι h H := by
  intro ι' h' H' i n
  show (match some ws[i]? with | some (some w) => _ | some none => _ | none => True)
  have sq' : SqL K H' ad vs := by
    rcases sq with ⟨o, e⟩ | sq
    · refine .inl (.inr ⟨o, n.keep _ _ e fun l => ?_⟩)
      obtain ⟨o', z, m⟩ := r.mut l
      rw [z] at e; cases e; cases m
    · exact sq H'
  have rs' := rs.next r n.toNx0
  cases e : ws[i]? with
  | none =>
    refine fun _ => ⟨vs, sq', ?_⟩
    rw [← rs.length]
    exact List.getElem?_eq_none_iff.mp e
  | some w =>
    obtain ⟨v, ev, pv⟩ := rs'.get e
    refine ⟨⟨vs, v, sq', ev⟩, fun x H2 y => ?_⟩
    obtain ⟨rfl, hx⟩ := y
    have := hx vs sq'
    rw [ev] at this
    cases this
    exact ⟨Next.refl n.rep, pv⟩
theorem itok_live {j : Nat} {xs : List W} (hj : j < h.n) : ItOk K G (.live false j xs) (Itl K (ι j)) ι h H := by
  intro ι' h' H' i n
  show (match (match h'.get j with | some (.lst ys) => (match ys[i]? with | some w => some (some (wrapE false i w)) | none => some none) | _ => none) with | some (some w) => _ | some none => _ | none => True)
  cases g : h'.get j with
  | none => trivial
  | some c =>
    cases c with
    | lst ys =>
      obtain ⟨vs, ea, rs⟩ := n.rep.cell j _ g
      have ea' : H' (ι j) = some (.lst vs) := by rw [← n.ext j hj]; exact ea
      show (match (match ys[i]? with | some w => some (some (wrapE false i w)) | none => some none) with | some (some w) => _ | some none => _ | none => True)
      cases e : ys[i]? with
      | none =>
        refine fun _ => ⟨vs, SqL.of ea', ?_⟩
        rw [← rs.length]
        exact List.getElem?_eq_none_iff.mp e
      | some w =>
        obtain ⟨v, ev, pv⟩ := rs.get e
        refine ⟨⟨vs, v, SqL.of ea', ev⟩, fun x H2 y => ?_⟩
        obtain ⟨rfl, hx⟩ := y
        have := hx vs (SqL.of ea')
        rw [ev] at this
        cases this
        exact ⟨Next.refl n.rep, pv⟩
    | ins c fs => trivial
    | dct kvs => trivial
    | dead => trivial
theorem itok_str {s : List Nat} : ItOk K G (.fix (s.map fun c => .str [c])) (Its (S s)) ι h H := by
  intro ι' h' H' i n
  show (match some (s.map fun c => W.str [c])[i]? with | some (some w) => _ | some none => _ | none => True)
  rw [List.getElem?_map]
  cases e : s[i]? with
  | none =>
    intro _
    show (S s).cps.size ≤ i
    have := List.getElem?_eq_none_iff.mp e
    simpa [S] using this
  | some c =>
    have hi : i < s.length := (List.getElem?_eq_some_iff.mp e).1
    refine ⟨by show i < (S s).cps.size; simpa [S] using hi, fun x H2 y => ?_⟩
    obtain ⟨rfl, d, hd, rfl⟩ := y
    have hd' : s[i]? = some d := by simpa [S] using hd
    rw [e] at hd'
    cases hd'
    exact ⟨Next.refl n.rep, .str [c]⟩
/-- what zitOf tells, at once -/
theorem it_after {σ : St} {w : W} {v : V} {R : It → Hp → Prop} (r : HRep X.K G ι h H) (pw : Rep X.K G ι h H w v) (a : Aft X.K G Wf σ (rpI X.K G) ι h H (zitOf w h) R) :
    (∃ s, v = .str (S s) ∧ R (Its (S s)) H) ∨ (∃ ad vs, v = .ref ad ∧ SqT X.K H ad vs ∧ R (Itt X.K ad) H) ∨ (∃ ad vs, v = .ref ad ∧ SqL X.K H ad vs ∧ R (Itl X.K ad) H) := by
  cases pw with
  | str s => exact .inl ⟨s, rfl, a ι H _ (Next.refl r) itok_str⟩
  | tup sq rs => exact .inr (.inl ⟨_, _, rfl, sq, a ι H _ (Next.refl r) (itok_tup r sq rs)⟩)
  | fz sq rs => exact .inr (.inr ⟨_, _, rfl, sq.sq, a ι H _ (Next.refl r) (itok_fz r sq rs)⟩)
  | ref j hj =>
    have a1 : Aft X.K G Wf σ (rpI X.K G) ι h H (match h.get j with | some (.lst xs) => .ok (Itz.live false j xs) h | _ => .err) R := a
    cases g : h.get j with
    | none => rw [g] at a1; exact False.elim a1
    | some c =>
      rw [g] at a1
      cases c with
      | lst xs =>
        obtain ⟨vs, ea, rs⟩ := r.cell j _ g
        exact .inr (.inr ⟨_, _, rfl, SqL.of ea, a1 ι H _ (Next.refl r) (itok_live hj)⟩)
      | ins c fs => exact False.elim a1
      | dct kvs => exact False.elim a1
      | dead => exact False.elim a1
  | _ => exact False.elim a
def zit (ma : Ev → M W) : Ev → M Itz := fun ρ => bnd (ma ρ) zitOf
theorem pzi_val (ha : PZ b X G Wf e ma) : PZI b X G Wf tg e (zit ma) := by
  refine ⟨fun pins s σ H ι h ρ R tk I r sr aft => ?_⟩
  refine thn (ha.run pins s σ H ι h ρ _ tk I r sr (aft.bnd (P := rpW X.K G))) fun v s1 ⟨tk1, v1, H1, I1, r1, ι1, h1, w1, n1, p1, a1⟩ => ?_
  refine withTk tk1 ?_
  rcases it_after n1.rep p1 a1 with ⟨z, ev, q⟩ | ⟨ad, vs, ev, sq, q⟩ | ⟨ad, vs, ev, sq, q⟩
  · subst ev
    obtain ⟨t, rfl⟩ := r1
    cases ha : (S z).cps.all (· < 128)
    · exact wpAny_pyIter_wide ha (pi_one (tk := s1.toks) I1 _ (turn_str _ (S z) t "str_iterator" (.inr rfl)) ⟨_, Heap.get?_push_size _ rfl, rfl, rfl⟩ q)
    · exact wpAny_pyIter_ascii ha (pi_one (tk := s1.toks) I1 _ (turn_str _ (S z) t "str_ascii_iterator" (.inl rfl)) ⟨_, Heap.get?_push_size _ rfl, rfl, rfl⟩ q)
  · subst ev
    cases (show v = Value.ref ad from r1)
    obtain ⟨its, rv, pt, hz⟩ := I1.tuple sq
    exact wpAny_pyIter_tuple (show s1.heap.IsTuple ad its.toArray from pt) (pi_one (tk := s1.toks) I1 _ (turn_tuple ad _) ⟨_, Heap.get?_push_size _ rfl, rfl, rfl⟩ q)
  · subst ev
    cases (show v = Value.ref ad from r1)
    obtain ⟨its, rv, pt, hz⟩ := I1.list sq
    exact wpAny_pyIter_list pt.isList (pi_one (tk := s1.toks) I1 _ (turn_list ad _) ⟨_, Heap.get?_push_size _ rfl, rfl, rfl⟩ q)
def rangeW (lo : Int) : Nat → List W
  | 0 => []
  | n + 1 => .int lo :: rangeW (lo + 1) n
theorem rangeW_get (n : Nat) : ∀ (lo : Int) (i : Nat), (rangeW lo n)[i]? = if i < n then some (.int (lo + i)) else none := by
  induction n with
  | zero => intro lo i; simp [rangeW]
  | succ n ih =>
    intro lo i
    cases i with
    | zero => simp [rangeW]
    | succ i =>
      show (rangeW (lo + 1) n)[i]? = _
      rw [ih]
      by_cases c : i < n
      · rw [if_pos c, if_pos (by omega)]
        have : lo + 1 + (i : Int) = lo + ((i + 1 : Nat) : Int) := by omega
        rw [this]
      · rw [if_neg c, if_neg (by omega)]
theorem itok_range {lo : Int} {n : Nat} : ItOk K G (.fix (rangeW lo n)) (Itr lo n) ι h H := by
  intro ι' h' H' i nx
  show (match some (rangeW lo n)[i]? with | some (some w) => _ | some none => _ | none => True)
  rw [rangeW_get]
  by_cases c : i < n
  · rw [if_pos c]
    refine ⟨c, fun x H2 y => ?_⟩
    obtain ⟨rfl, rfl⟩ := y
    exact ⟨Next.refl nx.rep, .int _⟩
  · rw [if_neg c]
    exact fun _ => Nat.le_of_not_lt c
def P62 : Int := 4611686018427387904
def rgOk (i j : Int) : Bool := decide (-P62 ≤ i) && decide (i < P62) && decide (-P62 ≤ j) && decide (j < P62)
theorem rgOk_of {i j : Int} (h : rgOk i j = true) : (-(2 ^ 62) ≤ i ∧ i < 2 ^ 62) ∧ -(2 ^ 62) ≤ j ∧ j < 2 ^ 62 := by
  unfold rgOk P62 at h
  simp only [Bool.and_eq_true, decide_eq_true_eq] at h
  obtain ⟨⟨⟨h1, h2⟩, h3⟩, h4⟩ := h
  exact ⟨⟨h1, h2⟩, h3, h4⟩
def zrange (ws : List W) : M Itz := match ws with
  | [.int j] => if rgOk 0 j = true then ret (.fix (rangeW 0 j.toNat)) else bad
  | [.int i, .int j] => if rgOk i j = true then ret (.fix (rangeW i (j - i).toNat)) else bad
  | _ => bad
def zitR (mr : Ev → M (List W)) : Ev → M Itz := fun ρ => bnd (mr ρ) zrange
theorem pzi_range {e : Expr} {es : List Expr} (hg : Gl X "range") (hm : X.mg "range" = none) (ha : PZA b X G Wf (e :: es) mr) (hst : (e :: es).all (fun e => !isStar e) = true) : PZI b X G Wf tg (.Call (.Name "range" p) (e :: es) [] pos) (zitR mr) := by
  refine ⟨fun pins s σ H ι h ρ R tk I r sr aft => ?_⟩
  have h1 : isStar e = false := by
    rw [List.all_cons] at hst
    simpa using (Bool.and_eq_true_iff.mp hst).1
  have h2 : es.all (fun e => !isStar e) = true := by
    rw [List.all_cons] at hst
    exact (Bool.and_eq_true_iff.mp hst).2
  refine Call_ (ld_blt I hg hm boot_range (PyProof.Rows.callWith_type1 (thn (ha.run pos pins s σ H ι h ρ _ tk I r sr (aft.bnd (P := rpWs X.K G))) fun us s1 ⟨tk1, vs, H1, I1, r1, ι1, h1, ws, n1, p1, a1⟩ => ?_) (starEach_cons h1) (starEach_no h2)))
  have fin : ∀ {t : Sem Value} {Q : Value → Shared → Prop}, wpAny (model X.prog X.w) X.A t (fun v s' => wpAny (model X.prog X.w) X.A (pyIter v) (PIE X pins σ tg R) X.xe s') X.xe s1 →
      wpAny (model X.prog X.w) X.A t (fun v s' => wpAny (model X.prog X.w) X.A (pyIter v) (fun itv s2 => Tk b s2 ∧ PIE X pins σ tg R itv s2) X.xe s') X.xe s1 := fun {t Q} q => thn (withTk tk1 q) fun v s' ⟨tk', q'⟩ => withTk tk' q'
  refine fin (Q := fun _ _ => True) ?_
  cases p1 with
  | nil => exact False.elim a1
  | cons q1 q2 =>
    cases q1 with
    | int i =>
      cases q2 with
      | nil =>
        have a2 : Aft X.K G Wf σ (rpI X.K G) ι1 h1 H1 ((if rgOk 0 i = true then ret (.fix (rangeW 0 i.toNat)) else bad) h1) R := a1
        split at a2
        · rename_i hc
          obtain ⟨_, g3, g4⟩ := rgOk_of hc
          obtain ⟨u, rfl, ru⟩ := r1.one
          obtain ⟨t, rfl⟩ := ru
          have q : R (Itr 0 i.toNat) H1 := a2 ι1 H1 _ (Next.refl n1.rep) itok_range
          exact call_range_1 (range_it I1 (by omega) (by omega) g3 g4 (by simpa using q))
        · exact False.elim a2
      | cons q3 q4 =>
        cases q3 with
        | int j =>
          cases q4 with
          | nil =>
            have a2 : Aft X.K G Wf σ (rpI X.K G) ι1 h1 H1 ((if rgOk i j = true then ret (.fix (rangeW i (j - i).toNat)) else bad) h1) R := a1
            split at a2
            · rename_i hc
              obtain ⟨⟨g1, g2⟩, g3, g4⟩ := rgOk_of hc
              obtain ⟨u, u', rfl, ru, ru'⟩ := r1.two
              obtain ⟨t, rfl⟩ := ru
              obtain ⟨t', rfl⟩ := ru'
              exact call_range_2 (range_it I1 g1 g2 g3 g4 (a2 ι1 H1 _ (Next.refl n1.rep) itok_range))
            · exact False.elim a2
          | cons _ _ => exact False.elim a1
        | _ => cases q4 <;> exact False.elim a1
    | _ => cases q2 <;> exact False.elim a1
end
end Z

set_option Elab.async false
set_option linter.all false
set_option maxRecDepth 100000
set_option maxHeartbeats 1000000
set_option autoImplicit false
namespace PySem
open Sem (wp)
open AutoSeq1 (wpAny_loadPart')
theorem zmeets_enumT (l : Addr) (items : Array Value) (n : Nat) (dct : Option Addr) (sl : Array (Option Value)) :
    Meets (Builtin.«enumerate.__new__» ⟨[.type "enumerate", .ref l], []⟩) (fun _ R s => s.heap.get? l = some { cls := .type "tuple", dict := dct, data := .seq items n, slots := sl } ∧
      R (.ok (.ret (.ref (s.heap.push { cls := .type "tuple_iterator", data := .fields #[.ref l, .int 0 0] }).objs.size)))
        { s with heap := (s.heap.push { cls := .type "tuple_iterator", data := .fields #[.ref l, .int 0 0] }).push { cls := .type "enumerate", data := .fields #[.none, .bool false, .ref s.heap.objs.size, rawInt 0, .none, .none] } }) :=
  .of_wp fun prog w A R s h => by
    obtain ⟨hp, g, d, tk, os⟩ := s; obtain ⟨hl, h⟩ := h
    have hsub := sub_enumerate
    have hL : Heap.IsTuple (Shared.heap ⟨hp, g, d, tk, os⟩) l items := ⟨_, hl, rfl, n, rfl⟩
    wp_walk using wpAny_loadPart' hl
    refine wpAny_stack_any fun st => wpAny_pure ?_
    split
    · rename_i c _ _ _ _ _
      cases (c == Value.type "enumerate")
      · wp_walk using wpAny_loadPart' hl, wpAny_pyIter_tuple hL
        exact ⟨_, rfl, h⟩
      · wp_walk using wpAny_loadPart' hl, wpAny_pyIter_tuple hL
        exact ⟨_, rfl, h⟩
    · wp_walk using wpAny_loadPart' hl, wpAny_pyIter_tuple hL
      exact ⟨_, rfl, h⟩
section
variable {prog : Program} {w : World} {A : Around} {E : Value → Shared → Prop} {s : Shared}
theorem zcall_enumT {l : Addr} {items : Array Value} {Q : Value → Shared → Prop} (hL : s.heap.IsTuple l items)
    (h : ∀ h', IsEnum h' (s.heap.objs.size + 1) s.heap.objs.size 0 .none → h'.IsTupleIter s.heap.objs.size l 0 → (∀ b o, s.heap.get? b = some o → h'.get? b = some o) → Q (.ref (s.heap.objs.size + 1)) { s with heap := h' }) :
    wpAny (model prog w) A (call (.type "enumerate") [.ref l]) Q E s := by
  obtain ⟨⟨c, dct, dt, sl⟩, hl, hc, n, hd⟩ := hL
  replace hc : c = .type "tuple" := hc
  replace hd : dt = .seq items n := hd
  subst hc hd
  refine callType_new F.called_enumerate (by decide) (F.typeCall_enumerate_1 _) (F.newCall_enumerate_1 _) (fun obj => F.args_object_init_2 obj _) F.entry_enumerate_new (zmeets_enumT l items n dct sl) ⟨hl, ?_⟩
  have hz : (s.heap.push { cls := .type "tuple_iterator", data := .fields #[.ref l, .int 0 0] }).objs.size = s.heap.objs.size + 1 := Heap.size_push ..
  show _ ∧ _
  rw [hz]
  have he : IsEnum ((s.heap.push { cls := .type "tuple_iterator", data := .fields #[.ref l, .int 0 0] }).push { cls := .type "enumerate", data := .fields #[.none, .bool false, .ref s.heap.objs.size, rawInt 0, .none, .none] }) (s.heap.objs.size + 1) s.heap.objs.size 0 .none := by
    have := Heap.get?_push_size (s.heap.push { cls := .type "tuple_iterator", data := .fields #[.ref l, .int 0 0] }) (o := { cls := .type "enumerate", data := .fields #[.none, .bool false, .ref s.heap.objs.size, rawInt 0, .none, .none] }) rfl
    rw [hz] at this; exact this
  exact ⟨⟨_, he, rfl⟩, h _ he ⟨_, Heap.get?_push_of_some _ (Heap.get?_push_size _ rfl), rfl, rfl⟩ fun b o x => Heap.get?_push_of_some _ (Heap.get?_push_of_some _ x)⟩
end
end PySem
namespace Z
open PySem L2
open PyProof.Rows hiding St
/-- pairs of the items of the tuple at a -/
def Iet (K : PySem.W.Frag) (a : Addr) : It :=
  ⟨fun i H => ∃ (xs : List V) (x : V), SqT K H a xs ∧ xs[i]? = some x, fun i H v H' => ∃ T x, v = .ref T ∧ H T = none ∧ H' = upd H T (.tup [.int (i : Nat), x]) ∧ ∀ xs, SqT K H a xs → xs[i]? = some x, fun i H => ∃ xs : List V, SqT K H a xs ∧ xs.length = i⟩
def Ies (x : Str) : It :=
  ⟨fun i _ => i < x.cps.size, fun i H v H' => ∃ T c, v = .ref T ∧ H T = none ∧ H' = upd H T (.tup [.int (i : Nat), .str ⟨#[c]⟩]) ∧ x.cps[i]? = some c, fun i _ => x.cps.size = i⟩
/-- behind the item: the pair is laid, the iterators have turned -/
theorem enum_step {P : Program} {w : World} {elts : List Expr} {kk : Nat} {tpos : Pos} {X : Cx} {pins : List (Addr × Obj)} {s : Shared} {σ : St} {H : Hp} {E : Value → Shared → Prop} {e it : Addr} {i : Nat} {J : It} {tn : Nat → Heap → Prop} {x : V} {u : Value} {h' : Heap} {tk : Nat}
    (hP : X.prog = P) (hw : X.w = w) (I : Inv X pins σ H s) (hf : ∀ b ∈ [e, it], FpOk X pins H b) (hel : e < s.heap.objs.size) (hil : it < s.heap.objs.size) (ho : IsEnumOut h' e it ((i : Int) + 1) u s.heap.objs.size)
    (hT : h'.get? s.heap.objs.size = some { cls := .type "tuple", data := .seq #[.int i tk, u] }) (hk : ∀ b o, b ≠ e → b ≠ it → s.heap.get? b = some o → h'.get? b = some o) (ru : RelV x u)
    (yl : H s.heap.objs.size = none → J.yld i H (.ref s.heap.objs.size) (upd H s.heap.objs.size (.tup [.int (i : Nat), x]))) (st : ∀ h'', IsEnum h'' e it ((i + 1 : Nat) : Int) u → (∀ b o, b ≠ e → h'.get? b = some o → h''.get? b = some o) → tn (i + 1) h'') :
    wpAny (model P w) X.A (letOwnedTupleGo (.Tuple elts kk tpos) (.ref e) (.ref s.heap.objs.size)) (fun _ s2 => ∃ x H', Inv X pins σ H' s2 ∧ RelV x (.ref s.heap.objs.size) ∧ J.yld i H x H' ∧ tn (i + 1) s2.heap ∧ ∀ b ∈ [e, it], H' b = none) E { s with heap := h', toks := tk + 1 } := by
  subst hP hw
  refine wpAny_letOwnedTupleGo_enum (s := { s with heap := h', toks := tk + 1 }) ho fun h'' he' sb => ?_
  have hT2 : h''.get? s.heap.objs.size = some { cls := .type "tuple", data := .seq #[.int i tk, u] } := (sb.2 _ (Nat.ne_of_gt hel)).trans hT
  have new : ObjOk X.prog X.w (upd H s.heap.objs.size (.tup [.int (i : Nat), x])) h'' s.heap.objs.size (.tup [.int (i : Nat), x]) :=
    ⟨by show 2 ≤ sizeLine; decide, [.int i tk, u], .cons ⟨_, rfl⟩ (.cons ru .nil), ⟨_, hT2, rfl, _, rfl⟩⟩
  have I1 : Inv X pins σ (upd H s.heap.objs.size (.tup [.int (i : Nat), x])) { s with heap := h'', toks := tk + 1 } :=
    I.turnedNew (ch := [e, it]) (fun b ob hb q => (sb.2 b (fun z => hb (by simp [z]))).trans (hk b ob (fun z => hb (by simp [z])) (fun z => hb (by simp [z])) q)) hf (Nat.le_refl _) new
  refine ⟨.ref s.heap.objs.size, _, I1, rfl, yl (I.hok.fresh (Nat.le_refl _)), st h'' ?_ fun b o hb q => (sb.2 b hb).trans q, fun b hb => ?_⟩
  · have e1 : ((i + 1 : Nat) : Int) = (i : Int) + 1 := by omega
    rw [e1]; exact he'
  · have hb' : b < s.heap.objs.size := by
      have e' : b = e ∨ b = it := by simpa using hb
      rcases e' with z | z
      · rw [z]; exact hel
      · rw [z]; exact hil
    rw [upd_ne (Nat.ne_of_lt hb')]
    exact (hf b hb).1
theorem turn_enumT {P : Program} {w : World} {K : PySem.W.Frag} {elts : List Expr} {kk : Nat} {tpos : Pos} (a e it : Addr) :
    Turn P w K (.Tuple elts kk tpos) (Iet K a) [e, it] e (fun i h => (∃ old, IsEnum h e it ((i : Nat) : Int) old) ∧ h.IsTupleIter it a i ∧ e ≠ it) where
  mem := by simp
  obj := fun i h st b hb => by
    obtain ⟨⟨old, he⟩, ⟨o, ho, hc, hd⟩, _⟩ := st
    have e' : b = e ∨ b = it := by simpa using hb
    rcases e' with z | z
    · rw [z]; exact ⟨_, he, fun v q => nomatch q⟩
    · rw [z]; exact ⟨o, ho, fun v q => by rw [hd] at q; cases q⟩
  keep := fun i h h' st k => let ⟨⟨old, he⟩, hi, hne⟩ := st; ⟨⟨old, k e (by simp) _ he⟩, hi.at fun o q => k it (by simp) o q, hne⟩
  item := by
    intro X hP hw hK hc i pins s σ H E I hf st hg
    obtain ⟨⟨old, he⟩, hit, hne⟩ := st
    obtain ⟨xs, x, hq, hx⟩ := hg
    obtain ⟨its, rv, p, hz⟩ := I.tuple (by rw [hK]; exact hq)
    obtain ⟨u, hu, ru⟩ := rv.get hx
    have hel : e < s.heap.objs.size := Heap.lt_size he
    have hil : it < s.heap.objs.size := by obtain ⟨_, q, _⟩ := hit; exact Heap.lt_size q
    have hta : a ≠ it := fun z => by
      obtain ⟨o, ho, hc1, _⟩ := id hit
      obtain ⟨o2, ho2, hc2, _⟩ := p
      rw [z, ho] at ho2
      cases ho2
      rw [hc1] at hc2
      exact Value.noConfusion hc2 fun q => absurd q (by decide)
    have hae : e ∉ [it, a] := fun z => by
      have z' : e = it ∨ e = a := by simpa using z
      rcases z' with q | q
      · exact hne q
      · obtain ⟨o2, ho2, hc2, _⟩ := p
        have he2 : s.heap.get? e = _ := he
        rw [q, ho2] at he2
        cases he2
        exact Value.noConfusion hc2 fun q => absurd q (by decide)
    have hil2 : i < its.toArray.size := by
      have := (List.getElem?_eq_some_iff.mp hu).1
      simpa using this
    refine wpAny_pyNext_enum_itemD (Draws.tuple (A := X.A.in1) (I.ok.hd hc) it a hta its.toArray) he ⟨hit, p⟩ hil2 hne hae fun v h' tk hP' ho hst hT hsz hk => ?_
    have ev : v = u := by
      have h1 : its[i]? = some v := by simpa using hP'
      rw [hu] at h1
      exact (Option.some.inj h1).symm
    subst ev
    refine ⟨_, rfl, enum_step (J := Iet K a) (tn := fun i h => (∃ old, IsEnum h e it ((i : Nat) : Int) old) ∧ h.IsTupleIter it a i ∧ e ≠ it) hP hw I hf hel hil ho hT hk ru (fun hn => ⟨_, x, rfl, hn, rfl, fun ys hy => ?_⟩) fun h'' he'' kp => ⟨⟨_, he''⟩, hst.1.at fun o q => kp it o (Ne.symm hne) q, hne⟩⟩
    have hy' : SqT X.K H a ys := by rw [hK]; exact hy
    have hq' : SqT X.K H a xs := by rw [hK]; exact hq
    rw [tup_fn I hy' hq']
    exact hx
  done := by
    intro X hP hw hK hc i pins s σ H E I hf st hg
    obtain ⟨⟨old, he⟩, hit, hne⟩ := st
    obtain ⟨xs, hq, hx⟩ := hg
    obtain ⟨its, rv, p, hz⟩ := I.tuple (by rw [hK]; exact hq)
    obtain ⟨f0, f1, f2, f3, f4, f5⟩ := hf it (by simp)
    have hta : a ≠ it := fun z => by
      obtain ⟨o, ho, hc1, _⟩ := id hit
      obtain ⟨o2, ho2, hc2, _⟩ := p
      rw [z, ho] at ho2
      cases ho2
      rw [hc1] at hc2
      exact Value.noConfusion hc2 fun q => absurd q (by decide)
    have hi : i = its.toArray.size := by rw [List.size_toArray, ← rv.length, hx]
    subst hP hw
    exact wpAny_pyNext_enum_endD (Draws.tuple (A := X.A.in1) (I.ok.hd hc) it a hta its.toArray) he ⟨hi ▸ hit, p⟩ fun h' eb => ⟨rfl, I.turned (t' := s.toks) (fun b o hb q => eb b o hb q) f0 f1 f3 f4 f5⟩
  self := fun A i s Q E st h => let ⟨⟨_, he⟩, _⟩ := st; wpAny_pyIter_enum he h
theorem turn_enumS {P : Program} {w : World} {K : PySem.W.Frag} {elts : List Expr} {kk : Nat} {tpos : Pos} (x : Str) (t : Tok) (e it : Addr) :
    Turn P w K (.Tuple elts kk tpos) (Ies x) [e, it] e (fun i h => (∃ old, IsEnum h e it ((i : Nat) : Int) old) ∧ h.IsStrIter it (strIterType x) x t i ∧ e ≠ it) where
  mem := by simp
  obj := fun i h st b hb => by
    obtain ⟨⟨old, he⟩, ⟨o, ho, hc, hd⟩, _⟩ := st
    have e' : b = e ∨ b = it := by simpa using hb
    rcases e' with z | z
    · rw [z]; exact ⟨_, he, fun v q => nomatch q⟩
    · rw [z]; exact ⟨o, ho, fun v q => by rw [hd] at q; cases q⟩
  keep := fun i h h' st k => let ⟨⟨old, he⟩, hi, hne⟩ := st; let ⟨o, ho, hc, hd⟩ := hi; ⟨⟨old, k e (by simp) _ he⟩, ⟨o, k it (by simp) o ho, hc, hd⟩, hne⟩
  item := by
    intro X hP hw hK hc i pins s σ H E I hf st hg
    obtain ⟨⟨old, he⟩, hit, hne⟩ := st
    have hel : e < s.heap.objs.size := Heap.lt_size he
    have hil : it < s.heap.objs.size := by obtain ⟨_, q, _⟩ := hit; exact Heap.lt_size q
    refine wpAny_pyNext_enum_itemD (Draws.text (A := X.A.in1) (I.ok.hd hc) it x t) he hit hg hne (by simpa using hne) fun v h' tk hP' ho hst hT hsz hk => ?_
    obtain ⟨c, tu, hx, rfl⟩ := hP'
    exact ⟨_, rfl, enum_step (J := Ies x) (tn := fun i h => (∃ old, IsEnum h e it ((i : Nat) : Int) old) ∧ h.IsStrIter it (strIterType x) x t i ∧ e ≠ it) (x := .str ⟨#[c]⟩) hP hw I hf hel hil ho hT hk ⟨tu, rfl⟩ (fun hn => ⟨_, c, rfl, hn, rfl, hx⟩) fun h'' he'' kp => ⟨⟨_, he''⟩, (let ⟨o, ho, hc, hd⟩ := hst; ⟨o, kp it o (Ne.symm hne) ho, hc, hd⟩), hne⟩⟩
  done := by
    intro X hP hw hK hc i pins s σ H E I hf st hg
    obtain ⟨⟨old, he⟩, hit, hne⟩ := st
    obtain ⟨f0, f1, f2, f3, f4, f5⟩ := hf it (by simp)
    have hi : x.cps.size = i := hg
    subst hP hw
    exact wpAny_pyNext_enum_endD (Draws.text (A := X.A.in1) (I.ok.hd hc) it x t) he (hi ▸ hit) fun h' eb => ⟨rfl, I.turned (t' := s.toks) (fun b o hb q => eb b o hb q) f0 f1 f3 f4 f5⟩
  self := fun A i s Q E st h => let ⟨⟨_, he⟩, _⟩ := st; wpAny_pyIter_enum he h
section
variable {b : Bool} {X : Cx} {G : Gt} {Wf : WX} {e tg : Expr} {ma : Ev → M W} {mr : Ev → M (List W)} {pos p : Pos} {K : PySem.W.Frag} {ι : Nat → Addr} {h : Hz} {H : Hp}
def enumW (i : Nat) : List W → List W
  | [] => []
  | w :: ws => .tup [.int (i : Nat), w] :: enumW (i + 1) ws
theorem enumW_get : ∀ (ws : List W) (k i : Nat), (enumW k ws)[i]? = (ws[i]?).map fun w => .tup [.int ((k + i : Nat) : Int), w]
  | [], k, i => by simp [enumW]
  | w :: ws, k, 0 => by simp [enumW]
  | w :: ws, k, i + 1 => by
    show (enumW (k + 1) ws)[i]? = _
    rw [enumW_get ws (k + 1) i]
    have : k + 1 + i = k + (i + 1) := by omega
    rw [this]
    rfl
theorem enumW_len : ∀ (ws : List W) (k : Nat), (enumW k ws).length = ws.length
  | [], _ => rfl
  | w :: ws, k => congrArg Nat.succ (enumW_len ws (k + 1))
/-- the pair is laid: it stands for the pair -/
theorem pair_at {i : Nat} {w : W} {x : V} {T : Addr} (r : HRep K G ι h H) (hT : H T = none) (px : Rep K G ι h H w x) : Next K G ι h H ι h (upd H T (.tup [.int (i : Nat), x])) ∧ Rep K G ι h (upd H T (.tup [.int (i : Nat), x])) (.tup [.int (i : Nat), w]) (.ref T) := by
  have n := Next.beside (o := .tup [.int (i : Nat), x]) r hT
  exact ⟨n, .tup (SqT.of upd_same) (.cons (.int _) (.cons (px.next r n.toNx0) .nil))⟩
theorem itok_enumT {ad : Addr} {ws : List W} {vs : List V} (r : HRep K G ι h H) (sq : SqT K H ad vs) (rs : Reps K G ι h H ws vs) : ItOk K G (.fix (enumW 0 ws)) (Iet K ad) ι h H := by
  intro ι' h' H' i n
  show (match some (enumW 0 ws)[i]? with | some (some w) => _ | some none => _ | none => True)
  rw [enumW_get, Nat.zero_add]
  have sq' := sqT_next r n.toNx0 sq
  have rs' := rs.next r n.toNx0
  cases e : ws[i]? with
  | none =>
    refine fun hl => ⟨vs, sq', ?_⟩
    have := hl _ rfl
    rw [enumW_len] at this
    rw [← rs.length, this]
  | some w =>
    obtain ⟨v, ev, pv⟩ := rs'.get e
    refine ⟨⟨vs, v, sq', ev⟩, fun x H2 y => ?_⟩
    obtain ⟨T, x', rfl, hT, rfl, hx⟩ := y
    have := hx vs sq'
    rw [ev] at this
    cases this
    exact pair_at n.rep hT pv
theorem itok_enumS {s : List Nat} : ItOk K G (.fix (enumW 0 (s.map fun c => .str [c]))) (Ies (S s)) ι h H := by
  intro ι' h' H' i n
  show (match some (enumW 0 (s.map fun c => W.str [c]))[i]? with | some (some w) => _ | some none => _ | none => True)
  rw [enumW_get, Nat.zero_add, List.getElem?_map]
  cases e : s[i]? with
  | none =>
    intro hl
    have := hl _ rfl
    rw [enumW_len, List.length_map] at this
    show (S s).cps.size = i
    simp [S, this]
  | some c =>
    have hi : i < s.length := (List.getElem?_eq_some_iff.mp e).1
    refine ⟨by show i < (S s).cps.size; simpa [S] using hi, fun x H2 y => ?_⟩
    obtain ⟨T, d, rfl, hT, rfl, hd⟩ := y
    have hd' : s[i]? = some d := by simpa [S] using hd
    rw [e] at hd'
    cases hd'
    exact pair_at n.rep hT (.str [c])
theorem itok_enumF {ad : Addr} {ws : List W} {vs : List V} (r : HRep K G ι h H) (sq : FzL K H ad vs) (rs : Reps K G ι h H ws vs) : ItOk K G (.fix (enumW 0 ws)) (Ite K ad) ι h H := by
  intro ι' h' H' i n
  show (match some (enumW 0 ws)[i]? with | some (some w) => _ | some none => _ | none => True)
  rw [enumW_get, Nat.zero_add]
  have sq' : SqL K H' ad vs := by
    rcases sq with ⟨o, e⟩ | sq
    · refine .inl (.inr ⟨o, n.keep _ _ e fun l => ?_⟩)
      obtain ⟨o', z, m⟩ := r.mut l
      rw [z] at e; cases e; cases m
    · exact sq H'
  have rs' := rs.next r n.toNx0
  cases e : ws[i]? with
  | none =>
    refine fun hl => ⟨vs, sq', ?_⟩
    rw [← rs.length]
    exact List.getElem?_eq_none_iff.mp e
  | some w =>
    obtain ⟨v, ev, pv⟩ := rs'.get e
    refine ⟨⟨vs, v, sq', ev⟩, fun x H2 y => ?_⟩
    obtain ⟨T, x', rfl, hT, rfl, hx⟩ := y
    have := hx vs sq'
    rw [ev] at this
    cases this
    exact pair_at n.rep hT pv
/-- a list is enumerated by what it holds now; it may not change below -/
theorem itok_liveE {j : Nat} {xs : List W} (hj : j < h.n) : ItOk K G (.live true j xs) (Ite K (ι j)) ι h H := by
  intro ι' h' H' i n
  show (match (match h'.get j with | some (.lst ys) => (match ys[i]? with | some w => some (some (wrapE true i w)) | none => some none) | _ => none) with | some (some w) => _ | some none => _ | none => True)
  cases g : h'.get j with
  | none => trivial
  | some c =>
    cases c with
    | lst ys =>
      obtain ⟨vs, ea, rs⟩ := n.rep.cell j _ g
      have ea' : H' (ι j) = some (.lst vs) := by rw [← n.ext j hj]; exact ea
      show (match (match ys[i]? with | some w => some (some (wrapE true i w)) | none => some none) with | some (some w) => _ | some none => _ | none => True)
      cases e : ys[i]? with
      | none =>
        refine fun _ => ⟨vs, SqL.of ea', ?_⟩
        rw [← rs.length]
        exact List.getElem?_eq_none_iff.mp e
      | some w =>
        obtain ⟨v, ev, pv⟩ := rs.get e
        refine ⟨⟨vs, v, SqL.of ea', ev⟩, fun x H2 y => ?_⟩
        obtain ⟨T, x', rfl, hT, rfl, hx⟩ := y
        have := hx vs (SqL.of ea')
        rw [ev] at this
        cases this
        exact pair_at n.rep hT pv
    | ins c fs => trivial
    | dct kvs => trivial
    | dead => trivial
def zenum (w : W) : M Itz := match w with
  | .str s => ret (.fix (enumW 0 (s.map fun c => .str [c])))
  | .tup ws => ret (.fix (enumW 0 ws))
  | .fz ws => ret (.fix (enumW 0 ws))
  | .ref j => fun h => match h.get j with
    | some (.lst xs) => .ok (.live true j xs) h
    | _ => .err
  | _ => bad
def zitE (ma : Ev → M W) : Ev → M Itz := fun ρ => bnd (ma ρ) zenum
theorem pzi_enum {elts : List Expr} {kk : Nat} {tpos : Pos} (hg : Gl X "enumerate") (hm : X.mg "enumerate" = none) (ha : PZ b X G Wf e ma) (hst : isStar e = false) : PZI b X G Wf (.Tuple elts kk tpos) (.Call (.Name "enumerate" p) [e] [] pos) (zitE ma) := by
  refine ⟨fun pins s σ H ι h ρ R tk I r sr aft => ?_⟩
  have hs : starEach [e] X.env = (false, eval e X.env) :: starEach [] X.env := starEach_cons hst
  refine Call_ (ld_blt I hg hm boot_enumerate (PyProof.Rows.callWith_type1 ?_ hs rfl))
  rw [hs]
  refine Calls.spliced_cons (thn (ha.run pins s σ H ι h ρ _ tk I r sr (aft.bnd (P := rpW X.K G))) fun v s1 ⟨tk1, v1, H1, I1, r1, ι1, h1, w1, n1, p1, a1⟩ => Calls.spliced_nil ?_)
  have fin : ∀ {t : Sem Value}, wpAny (model X.prog X.w) X.A t (fun v s' => wpAny (model X.prog X.w) X.A (pyIter v) (PIE X pins σ (.Tuple elts kk tpos) R) X.xe s') X.xe s1 →
      wpAny (model X.prog X.w) X.A t (fun v s' => wpAny (model X.prog X.w) X.A (pyIter v) (fun itv s2 => Tk b s2 ∧ PIE X pins σ (.Tuple elts kk tpos) R itv s2) X.xe s') X.xe s1 := fun {t} q => thn (withTk tk1 q) fun v s' ⟨tk', q'⟩ => withTk tk' q'
  refine fin ?_
  have fp : ∀ b ∈ [s1.heap.objs.size + 1, s1.heap.objs.size], FpOk X pins H1 b := fun b hb => by
    have e' : b = s1.heap.objs.size + 1 ∨ b = s1.heap.objs.size := by simpa using hb
    have hle : s1.heap.objs.size ≤ b := by
      rcases e' with z | z
      · rw [z]; exact Nat.le_add_right _ _
      · rw [z]; exact Nat.le_refl _
    exact I1.fpOk hle (I1.hok.fresh hle)
  cases p1 with
  | str z =>
    obtain ⟨t, rfl⟩ := r1
    have q : R (Ies (S z)) H1 := a1 ι1 H1 _ (Next.refl n1.rep) itok_enumS
    refine call_enumerate_str fun h' he hit hsz hk => wpAny_pyIter_enum he ?_
    have I2 : Inv X pins σ H1 { s1 with heap := h' } := I1.kept (t' := s1.toks) hk
    exact ⟨s1.heap.objs.size + 1, [s1.heap.objs.size + 1, s1.heap.objs.size], _, _, H1, rfl, I2, turn_enumS (S z) t (s1.heap.objs.size + 1) s1.heap.objs.size, ⟨⟨.none, he⟩, hit, Nat.succ_ne_self _⟩, fp, q⟩
  | @tup ws ad vs sq rs =>
    cases (show v = Value.ref ad from r1)
    obtain ⟨its, rv, pt, hz⟩ := I1.tuple sq
    have q : R (Iet X.K ad) H1 := a1 ι1 H1 _ (Next.refl n1.rep) (itok_enumT n1.rep sq rs)
    refine zcall_enumT pt fun h' he hit hk => wpAny_pyIter_enum he ?_
    have I2 : Inv X pins σ H1 { s1 with heap := h' } := I1.kept (t' := s1.toks) hk
    exact ⟨s1.heap.objs.size + 1, [s1.heap.objs.size + 1, s1.heap.objs.size], _, _, H1, rfl, I2, turn_enumT ad (s1.heap.objs.size + 1) s1.heap.objs.size, ⟨⟨.none, he⟩, hit, Nat.succ_ne_self _⟩, fp, q⟩
  | @fz ws ad vs sq rs =>
    cases (show v = Value.ref ad from r1)
    obtain ⟨its, rv, pt, hz⟩ := I1.list sq.sq
    have q : R (Ite X.K ad) H1 := a1 ι1 H1 _ (Next.refl n1.rep) (itok_enumF n1.rep sq rs)
    refine call_enumerate_list pt.isList fun h' he hit hsz hk => wpAny_pyIter_enum he ?_
    have I2 : Inv X pins σ H1 { s1 with heap := h' } := I1.kept (t' := s1.toks) hk
    exact ⟨s1.heap.objs.size + 1, [s1.heap.objs.size + 1, s1.heap.objs.size], _, _, H1, rfl, I2, turn_enum ad (s1.heap.objs.size + 1) s1.heap.objs.size, ⟨⟨.none, he⟩, hit, Nat.succ_ne_self _⟩, fp, q⟩
  | ref j hj =>
    cases (show v = Value.ref (ι1 j) from r1)
    have a2 : Aft X.K G Wf σ (rpI X.K G) ι1 h1 H1 (match h1.get j with | some (.lst xs) => .ok (Itz.live true j xs) h1 | _ => .err) R := a1
    cases g : h1.get j with
    | none => rw [g] at a2; exact False.elim a2
    | some c =>
      rw [g] at a2
      cases c with
      | lst xs =>
        obtain ⟨vs, ea, rs⟩ := n1.rep.cell j _ g
        obtain ⟨its, rv, pt, hz⟩ := I1.list (SqL.of ea)
        have q : R (Ite X.K (ι1 j)) H1 := a2 ι1 H1 _ (Next.refl n1.rep) (itok_liveE hj)
        refine call_enumerate_list pt.isList fun h' he hit hsz hk => wpAny_pyIter_enum he ?_
        have I2 : Inv X pins σ H1 { s1 with heap := h' } := I1.kept (t' := s1.toks) hk
        exact ⟨s1.heap.objs.size + 1, [s1.heap.objs.size + 1, s1.heap.objs.size], _, _, H1, rfl, I2, turn_enum (ι1 j) (s1.heap.objs.size + 1) s1.heap.objs.size, ⟨⟨.none, he⟩, hit, Nat.succ_ne_self _⟩, fp, q⟩
      | ins c fs => exact False.elim a2
      | dct kvs => exact False.elim a2
      | dead => exact False.elim a2
  | _ => exact False.elim a1
end
end Z

set_option Elab.async false
set_option linter.all false
set_option maxRecDepth 100000
set_option maxHeartbeats 1000000
set_option autoImplicit false
namespace Z
open PySem L2
open PyProof.Rows hiding St

section
variable {K : PySem.W.Frag} {G : Gt} {ι ι1 ι' : Nat → Addr} {h h1 h' : Hz} {H H1 H' : Hp}
/-- what no value of the evaluator but a cell stands for -/
def loose : HO → Bool
  | .lst _ => true
  | .dK _ => true
  | _ => false
mutual
theorem Rep.aside {D : Addr} {o o0 : HO} (e : H D = some o0) (lo : loose o0 = true) : ∀ {w : W} {v : V}, Rep K G ι h H w v → Rep K G ι h (upd H D o) w v
  | _, _, .non => .non
  | _, _, .bl b => .bl b
  | _, _, .int i => .int i
  | _, _, .str s => .str s
  | _, _, .tup (a := a) sq q => .tup (by
      rcases sq with sq | sq
      · have ne : a ≠ D := fun z => by
          subst z
          rcases sq with z | ⟨o', z⟩ <;> (rw [e] at z; cases z; cases lo)
        rcases sq with z | ⟨o', z⟩
        · exact .inl (.inl (by rw [upd_ne ne]; exact z))
        · exact .inl (.inr ⟨o', by rw [upd_ne ne]; exact z⟩)
      · exact .inr sq) (Reps.aside e lo q)
  | _, _, .fz (a := a) sq q => .fz (by
      rcases sq with ⟨o', z⟩ | sq
      · have ne : a ≠ D := fun y => by subst y; rw [e] at z; cases z; cases lo
        exact .inl ⟨o', by rw [upd_ne ne]; exact z⟩
      · exact .inr sq) (Reps.aside e lo q)
  | _, _, .obj (a := a) z l nn q => .obj (by
      have ne : a ≠ D := fun y => by subst y; rw [e] at z; cases z; cases lo
      rw [upd_ne ne]; exact z) l nn (RepF.aside e lo q)
  | _, _, .ref i hi => .ref i hi
  | _, _, .fn i => .fn i
  | _, _, .cl i => .cl i
theorem Reps.aside {D : Addr} {o o0 : HO} (e : H D = some o0) (lo : loose o0 = true) : ∀ {ws : List W} {vs : List V}, Reps K G ι h H ws vs → Reps K G ι h (upd H D o) ws vs
  | _, _, .nil => .nil
  | _, _, .cons a b => .cons (Rep.aside e lo a) (Reps.aside e lo b)
theorem RepF.aside {D : Addr} {o o0 : HO} (e : H D = some o0) (lo : loose o0 = true) : ∀ {fs : List (Nat × W)} {gs : List (Str × V)}, RepF K G ι h H fs gs → RepF K G ι h (upd H D o) fs gs
  | _, _, .nil => .nil
  | _, _, .cons a b => .cons (Rep.aside e lo a) (RepF.aside e lo b)
end
theorem Next.aside {D : Addr} {o o0 : HO} (n : Next K G ι1 h1 H1 ι h H) (h0 : H1 D = none) (e : H D = some o0) (lo : loose o0 = true) (nl : ¬ LvAt ι h D) : Next K G ι1 h1 H1 ι h (upd H D o) := by
  refine ⟨⟨n.ext, n.le, fun a u ea l => ?_, fun a ea => ?_, n.new, n.dead⟩, ⟨fun i c g => ?_, n.rep.inj, fun a z => ?_, n.rep.off⟩⟩
  · rw [upd_ne (ne_of_none ea h0)]; exact n.keep a u ea l
  · by_cases q : a = D
    · subst q; exact absurd h0 ea
    · rw [upd_ne q]; exact n.there a ea
  · have cr := n.rep.cell i c g
    cases hl : c.live with
    | false => cases c <;> first | trivial | cases hl
    | true =>
      refine cr.move (fun _ _ => Rep.aside e lo) (fun _ _ => Reps.aside e lo) (fun _ _ => RepF.aside e lo) fun u z => ?_
      rw [upd_ne (fun y => nl ⟨i, c, g, hl, y⟩)]; exact z
  · by_cases q : a = D
    · subst q; rw [upd_same]; simp
    · rw [upd_ne q]; exact n.rep.no a z
/-- values, one more cell at D -/
theorem lv_push {D a : Addr} {ws : List W} {xs : List V} {C dx : Addr} {gs : List (Str × V)} (e : H D = some (.lst xs)) (ea : H a = some (.ins C dx gs)) (l : ¬ LvAt ι h a) : ¬ LvAt (ext1 ι h.n D) (h.push (.lst ws)) a := by
  rintro ⟨i, c, g, lc, q⟩
  rw [Hz.get_push] at g
  by_cases hi : i = h.n
  · rw [hi, ext1_at] at q
    subst q
    rw [e] at ea
    cases ea
  · rw [if_neg hi] at g
    rw [ext1_lt (Hz.get_lt g)] at q
    exact l ⟨i, c, g, lc, q⟩
mutual
theorem Rep.push (D : Addr) {ws : List W} {xs : List V} (nl : ¬ LvAt ι h D) (e : H D = some (.lst xs)) : ∀ {w : W} {v : V}, Rep K G ι h H w v → Rep K G (ext1 ι h.n D) (h.push (.lst ws)) H w v
  | _, _, .non => .non
  | _, _, .bl b => .bl b
  | _, _, .int i => .int i
  | _, _, .str s => .str s
  | _, _, .tup sq q => .tup sq (Reps.push D nl e q)
  | _, _, .fz sq q => .fz sq (Reps.push D nl e q)
  | _, _, .obj z l nn q => .obj z (lv_push e z l) nn (RepF.push D nl e q)
  | _, _, .ref i hi => by
    have z : Rep K G (ext1 ι h.n D) (h.push (.lst ws)) H (.ref i) (.ref (ext1 ι h.n D i)) := .ref i (Nat.lt_succ_of_lt hi)
    rw [ext1_lt hi] at z
    exact z
  | _, _, .fn i => .fn i
  | _, _, .cl i => .cl i
theorem Reps.push (D : Addr) {ws : List W} {xs : List V} (nl : ¬ LvAt ι h D) (e : H D = some (.lst xs)) : ∀ {us : List W} {vs : List V}, Reps K G ι h H us vs → Reps K G (ext1 ι h.n D) (h.push (.lst ws)) H us vs
  | _, _, .nil => .nil
  | _, _, .cons a b => .cons (Rep.push D nl e a) (Reps.push D nl e b)
theorem RepF.push (D : Addr) {ws : List W} {xs : List V} (nl : ¬ LvAt ι h D) (e : H D = some (.lst xs)) : ∀ {fs : List (Nat × W)} {gs : List (Str × V)}, RepF K G ι h H fs gs → RepF K G (ext1 ι h.n D) (h.push (.lst ws)) H fs gs
  | _, _, .nil => .nil
  | _, _, .cons a b => .cons (Rep.push D nl e a) (RepF.push D nl e b)
end
/-- at the end a cell is given to it -/
theorem Next.adopt {D : Addr} {ws : List W} {vs : List V} (n : Next K G ι1 h1 H1 ι h H) (nD : ¬ G.no D) (h0 : H1 D = none) (e : H D = some (.lst vs)) (nl : ¬ LvAt ι h D) (rs : Reps K G ι h H ws vs) : Next K G ι1 h1 H1 (ext1 ι h.n D) (h.push (.lst ws)) H ∧ Rep K G (ext1 ι h.n D) (h.push (.lst ws)) H (.ref h.n) (.ref D) := by
  have n0 : Nx0 ι1 h1 H1 (ext1 ι h.n D) (h.push (.lst ws)) H := by
    refine ⟨fun i hi => ?_, Nat.le_trans n.le (Nat.le_succ _), n.keep, n.there, fun i hi hi2 => ?_, fun i c hi g l => ?_⟩
    · rw [ext1_lt (Nat.lt_of_lt_of_le hi n.le)]; exact n.ext i hi
    · by_cases q : i = h.n
      · rw [q, ext1_at]; exact h0
      · have hi3 : i < h.n := Nat.lt_of_le_of_ne (Nat.le_of_lt_succ hi2) q
        rw [ext1_lt hi3]; exact n.new i hi hi3
    · rw [Hz.get_push, if_neg (Nat.ne_of_lt (Nat.lt_of_lt_of_le hi n.le))] at g
      exact n.dead i c hi g l
  have up : ∀ w v, Rep K G ι h H w v → Rep K G (ext1 ι h.n D) (h.push (.lst ws)) H w v := fun w v p => Rep.push D nl e p
  have ups : ∀ w v, Reps K G ι h H w v → Reps K G (ext1 ι h.n D) (h.push (.lst ws)) H w v := fun w v p => Reps.push D nl e p
  have upf : ∀ w v, RepF K G ι h H w v → RepF K G (ext1 ι h.n D) (h.push (.lst ws)) H w v := fun w v p => RepF.push D nl e p
  refine ⟨⟨n0, ⟨fun i c g => ?_, fun i j c d gi gj lc ld q => ?_, n.rep.no, fun i c g lc z => ?_⟩⟩, ?_⟩
  · rw [Hz.get_push] at g
    by_cases q : i = h.n
    · rw [if_pos q] at g
      cases g
      rw [q, ext1_at]
      exact ⟨vs, e, ups _ _ rs⟩
    · rw [if_neg q] at g
      rw [ext1_lt (Hz.get_lt g)]
      exact (n.rep.cell i c g).move up ups upf fun u z => z
  · rw [Hz.get_push] at gi gj
    by_cases hi : i = h.n
    · by_cases hj : j = h.n
      · rw [hi, hj]
      · rw [if_neg hj] at gj
        rw [hi, ext1_at, ext1_lt (Hz.get_lt gj)] at q
        exact absurd ⟨j, d, gj, ld, q.symm⟩ nl
    · rw [if_neg hi] at gi
      by_cases hj : j = h.n
      · rw [hj, ext1_at, ext1_lt (Hz.get_lt gi)] at q
        exact absurd ⟨i, c, gi, lc, q⟩ nl
      · rw [if_neg hj] at gj
        rw [ext1_lt (Hz.get_lt gi), ext1_lt (Hz.get_lt gj)] at q
        exact n.rep.inj i j c d gi gj lc ld q
  · rw [Hz.get_push] at g
    by_cases hi : i = h.n
    · rw [hi, ext1_at] at z
      exact nD z
    · rw [if_neg hi] at g
      rw [ext1_lt (Hz.get_lt g)] at z
      exact n.rep.off i c g lc z
  · have z : Rep K G (ext1 ι h.n D) (h.push (.lst ws)) H (.ref h.n) (.ref (ext1 ι h.n D h.n)) := .ref _ (Nat.lt_succ_self _)
    rw [ext1_at] at z
    exact z
end
inductive CT where
  | nm (i : Nat)
  | tp (is : List Nat)
def CT.own : CT → List Nat
  | .nm i => [i]
  | .tp is => is
def setAll : List Nat → List W → Ev → Option Ev
  | [], [], ρ => some ρ
  | i :: is, w :: ws, ρ => setAll is ws (ρ.set i (some w))
  | _, _, _ => none
def setCT (ct : CT) (w : W) (ρ : Ev) : Option Ev := match ct with
  | .nm i => some (ρ.set i (some w))
  | .tp is => match w with
    | .tup ws => setAll is ws ρ
    | _ => none
def wipeW (ρ : Ev) : List Nat → Ev
  | [] => ρ
  | v :: vs => (wipeW ρ vs).set v none
def clz (z : Itz) (ct : CT) (nt : Ev → M Bool) (me : Ev → M W) (ρ : Ev) : List W → Nat → M (List W)
  | fuel, i => fun h => match zitem z i h with
    | none => .err
    | some none => .ok [] h
    | some (some w) => match fuel with
      | [] => .err
      | _ :: fuel => match setCT ct w ρ with
        | none => .err
        | some ρ2 => bnd (noex (nt ρ2)) (fun t => match t with
          | true => bnd (noex (me ρ2)) fun y => bnd (clz z ct nt me ρ fuel (i + 1)) fun ys => ret (y :: ys)
          | false => clz z ct nt me ρ fuel (i + 1)) h
section
variable {z : Itz} {ct : CT} {nt : Ev → M Bool} {me : Ev → M W} {ρ ρ2 : Ev} {fuel : List W} {i : Nat} {h : Hz} {w f : W}
theorem clz_none (e : zitem z i h = none) : clz z ct nt me ρ fuel i h = .err := by unfold clz; simp only [e]
theorem clz_stop (e : zitem z i h = some none) : clz z ct nt me ρ fuel i h = .ok [] h := by unfold clz; simp only [e]
theorem clz_nil (e : zitem z i h = some (some w)) : clz z ct nt me ρ [] i h = .err := by unfold clz; simp only [e]
theorem clz_bad (e : zitem z i h = some (some w)) (e2 : setCT ct w ρ = none) : clz z ct nt me ρ (f :: fuel) i h = .err := by unfold clz; simp only [e, e2]
theorem clz_go (e : zitem z i h = some (some w)) (e2 : setCT ct w ρ = some ρ2) : clz z ct nt me ρ (f :: fuel) i h = bnd (noex (nt ρ2)) (fun t => match t with
    | true => bnd (noex (me ρ2)) fun y => bnd (clz z ct nt me ρ fuel (i + 1)) fun ys => ret (y :: ys)
    | false => clz z ct nt me ρ fuel (i + 1)) h := by conv => lhs; unfold clz; simp only [e, e2]
theorem clz_noexc : ∀ (fuel : List W) (i : Nat) (h : Hz) {c : Nat} {gs : List (Nat × W)} {h' : Hz}, clz z ct nt me ρ fuel i h ≠ .exc c gs h'
  | fuel, i, h, c, gs, h', e => by
    cases ez : zitem z i h with
    | none => rw [clz_none ez] at e; cases e
    | some o =>
      cases o with
      | none => rw [clz_stop ez] at e; cases e
      | some w =>
        cases fuel with
        | nil => rw [clz_nil ez] at e; cases e
        | cons f fs =>
          cases es : setCT ct w ρ with
          | none => rw [clz_bad ez es] at e; cases e
          | some ρ2 =>
            rw [clz_go ez es] at e
            unfold bnd noex at e
            cases q : nt ρ2 h with
            | err => rw [q] at e; cases e
            | exc _ _ _ => rw [q] at e; cases e
            | ok t h2 =>
              rw [q] at e
              cases t with
              | false => exact clz_noexc fs (i + 1) h2 e
              | true =>
                simp only at e
                cases q2 : me ρ2 h2 with
                | err => rw [q2] at e; cases e
                | exc _ _ _ => rw [q2] at e; cases e
                | ok y h3 =>
                  rw [q2] at e
                  simp only at e
                  cases q3 : clz z ct nt me ρ fs (i + 1) h3 with
                  | err => rw [q3] at e; cases e
                  | exc _ _ _ => exact clz_noexc fs (i + 1) h3 q3
                  | ok ys h4 => rw [q3] at e; cases e
theorem bnd_err {α β : Type} {m : M α} {k : α → M β} (e : m h = .err) : bnd m k h = .err := by unfold bnd; rw [e]
theorem bnd_okk {α β : Type} {m : M α} {k : α → M β} {a : α} {h' : Hz} (e : m h = .ok a h') : bnd m k h = k a h' := by unfold bnd; rw [e]
theorem bnd_congr {α β : Type} {m m' : M α} {k : α → M β} (e : m h = m' h) : bnd m k h = bnd m' k h := by unfold bnd; rw [e]
end
def Itz.fuel : Itz → List W
  | .fix ws => ws
  | .live _ _ xs => xs
def zlc (vs : List Nat) (mi : Ev → M Itz) (ct : CT) (nt : Ev → M Bool) (me : Ev → M W) : Ev → M W := fun ρ => bnd (mi ρ) fun z => bnd (clz z ct nt me (wipeW ρ vs) z.fuel 0) fun ys => if ys.length ≤ LIM then new (.lst ys) else bad
/-- no exception is wanted -/
abbrev W0 : WX := fun _ _ _ _ => False
structure PZTs (X : Cx) (G : Gt) (ifs : List Expr) (m : Ev → M Bool) : Prop where
  run : ∀ (pins : List (Addr × Obj)) (s : Shared) (σ : St) (H : Hp) (ι : Nat → Addr) (h : Hz) (ρ : Ev) (Q : Bool → Hp → Prop), Inv X pins σ H s → HRep X.K G ι h H → SRep X.K G ι h H ρ σ → Aft X.K G W0 σ rpE ι h H (m ρ h) Q →
    wpAny (model X.prog X.w) X.A (forIn ifs true fun c r => if r = true then do let ok ← isTrue c X.env (eval c X.env); pure (ForInStep.yield ok) else pure (ForInStep.yield r)) (TP X pins σ Q) X.xe s
section
variable {b : Bool} {X : Cx} {G : Gt} {Wf : WX}
theorem pzts_nil : PZTs X G [] (fun _ => ret true) := ⟨fun pins s σ H ι h ρ Q I r sr a => wpAny_tests_nil ⟨H, I, Aft.ret (P := rpE) a r rfl⟩⟩
theorem pzts_one {c : Expr} {m : Ev → M Bool} (hc : PZT false X G W0 c m) : PZTs X G [c] m := ⟨fun pins s σ H ι h ρ Q I r sr a => wpAny_tests_one (thn (hc.run pins s σ H ι h ρ Q _ rfl (fun z => nomatch z) I r sr a) fun _ _ q => q.2)⟩
theorem SRep.wipe {ι : Nat → Addr} {h : Hz} {H : Hp} {ρ : Ev} {σ : St} (sr : SRep X.K G ι h H ρ σ) : ∀ vs : List Nat, SRep X.K G ι h H (wipeW ρ vs) (wipe σ vs)
  | [] => sr
  | v :: vs => by
    have ih := SRep.wipe sr vs
    refine ⟨by show ((wipeW ρ vs).set v none).length ≤ ((L2.wipe σ vs).set v none).length; rw [List.length_set, List.length_set]; exact ih.1, ?_⟩
    intro i w e
    have e' : ((wipeW ρ vs).set v none)[i]? = some (some w) := e
    by_cases q : v = i
    · subst q
      by_cases hv : v < (wipeW ρ vs).length
      · rw [List.getElem?_set_self hv] at e'; cases e'
      · rw [List.getElem?_eq_none (by simpa using hv)] at e'; cases e'
    · rw [List.getElem?_set_ne q] at e'
      obtain ⟨v', e1, e2⟩ := ih.2 i w e'
      refine ⟨v', ?_, e2⟩
      show ((L2.wipe σ vs).set v none)[i]? = _
      rw [List.getElem?_set_ne q]; exact e1
theorem wipe_get (σ : St) : ∀ (vs : List Nat) (i : Nat), (wipe σ vs)[i]? = if i ∈ vs then (if i < σ.length then some none else none) else σ[i]?
  | [], i => by simp [wipe]
  | v :: vs, i => by
    show ((wipe σ vs).set v none)[i]? = _
    by_cases q : v = i
    · subst q
      rw [if_pos (by simp)]
      by_cases hv : v < σ.length
      · rw [List.getElem?_set_self (by rw [wipe_length]; exact hv), if_pos hv]
      · rw [List.getElem?_eq_none (by rw [List.length_set, wipe_length]; omega), if_neg hv]
    · rw [List.getElem?_set_ne q, wipe_get σ vs i]
      by_cases m : i ∈ vs
      · rw [if_pos m, if_pos (List.mem_cons_of_mem _ m)]
      · rw [if_neg m, if_neg (fun z => (List.mem_cons.mp z).elim (fun y => q y.symm) m)]
theorem wipe_set {σ : St} {vs : List Nat} {i : Nat} {x : Option V} (hi : i ∈ vs) : wipe ((wipe σ vs).set i x) vs = wipe σ vs := by
  apply List.ext_getElem?
  intro j
  rw [wipe_get, wipe_get]
  rw [List.length_set, wipe_length]
  by_cases m : j ∈ vs
  · rw [if_pos m, if_pos m]
  · rw [if_neg m, if_neg m, List.getElem?_set_ne (fun z : i = j => m (by rw [← z]; exact hi)), wipe_get, if_neg m]
theorem wipe_wipe {σ σ' : St} {vs : List Nat} (h : wipe σ' vs = wipe σ vs) {i : Nat} {x : Option V} (hi : i ∈ vs) : wipe (σ'.set i x) vs = wipe σ vs := by
  apply List.ext_getElem?
  intro j
  have hl : σ'.length = σ.length := by rw [← wipe_length σ' vs, h, wipe_length]
  rw [wipe_get, wipe_get, List.length_set, hl]
  by_cases m : j ∈ vs
  · rw [if_pos m, if_pos m]
  · rw [if_neg m, if_neg m, List.getElem?_set_ne (fun z : i = j => m (by rw [← z]; exact hi))]
    have q := congrArg (fun l : St => l[j]?) h
    simp only [wipe_get, if_neg m] at q
    exact q
/-- the layer's target of a comprehension -/
def gCT (K : PySem.W.Frag) : CT → TG
  | .nm i => gName i
  | .tp is => gTup K is.length (gAll is)
where gAll : List Nat → TGs
  | [] => gNil
  | i :: is => gCons (gName i) (gAll is)
theorem setAll_len : ∀ {is : List Nat} {ws : List W} {ρ ρ2 : Ev}, setAll is ws ρ = some ρ2 → ws.length = is.length
  | [], [], _, _, _ => rfl
  | i :: is, w :: ws, _, _, e => congrArg Nat.succ (setAll_len (is := is) e)
  | [], _ :: _, _, _, e => by cases e
  | _ :: _, [], _, _, e => by cases e
theorem gAll_ok {ι : Nat → Addr} {h : Hz} {H : Hp} {σ0 : St} {vs : List Nat} : ∀ (is : List Nat) (ws : List W) (us : List V) (ρ ρ2 : Ev) (σ : St) (Q : St → Hp → Prop), (∀ i ∈ is, i ∈ vs ∧ i < σ.length) → SRep X.K G ι h H ρ σ → wipe σ vs = wipe σ0 vs → Reps X.K G ι h H ws us → setAll is ws ρ = some ρ2 →
    (∀ σ2, SRep X.K G ι h H ρ2 σ2 → wipe σ2 vs = wipe σ0 vs → Q σ2 H) → gCT.gAll is us σ H Q
  | [], ws, us, ρ, ρ2, σ, Q, hi, sr, hw, rs, e, k => by
    cases rs with
    | nil => cases e; exact ⟨rfl, k σ sr hw⟩
    | cons _ _ => cases e
  | i :: is, ws, us, ρ, ρ2, σ, Q, hi, sr, hw, rs, e, k => by
    cases rs with
    | nil => cases e
    | cons p q =>
      obtain ⟨h1, h2⟩ := hi i (List.mem_cons_self ..)
      exact ⟨_, _, rfl, gAll_ok is _ _ _ ρ2 _ Q (fun j hj => by rw [List.length_set]; exact hi j (List.mem_cons_of_mem _ hj)) (sr.set p i h2) (wipe_wipe hw h1) q e k⟩
theorem gCT_ok {ι : Nat → Addr} {h : Hz} {H : Hp} {σ : St} {vs : List Nat} {ct : CT} {w : W} {v : V} {ρ ρ2 : Ev} {Q : St → Hp → Prop} (hi : ∀ i ∈ ct.own, i ∈ vs ∧ i < σ.length) (sr : SRep X.K G ι h H ρ (wipe σ vs)) (p : Rep X.K G ι h H w v) (e : setCT ct w ρ = some ρ2)
    (k : ∀ σ2, SRep X.K G ι h H ρ2 σ2 → wipe σ2 vs = wipe σ vs → Q σ2 H) : gCT X.K ct v (wipe σ vs) H Q := by
  have ww : wipe (wipe σ vs) vs = wipe σ vs := by
    apply List.ext_getElem?
    intro j
    rw [wipe_get, wipe_get, wipe_length]
    by_cases m : j ∈ vs
    · rw [if_pos m, if_pos m]
    · rw [if_neg m, if_neg m]
  cases ct with
  | nm i =>
    obtain ⟨h1, h2⟩ := hi i (List.mem_cons_self ..)
    cases e
    exact k _ (sr.set p i (by rw [wipe_length]; exact h2)) (wipe_set h1)
  | tp is =>
    cases p with
    | tup sq rs =>
      have e' : setAll is _ ρ = some ρ2 := e
      refine ⟨_, _, rfl, sq, ?_, gAll_ok is _ _ ρ ρ2 _ Q (fun j hj => by rw [wipe_length]; exact hi j hj) sr ww rs e' k⟩
      rw [← rs.length]
      exact setAll_len e'
    | _ => cases e
theorem PZ.of' {e : Expr} {m : Ev → M W} {t : TE} (hp : PE X e t) (f : ∀ pins s σ H ι h ρ Q, Inv X pins σ H s → HRep X.K G ι h H → SRep X.K G ι h H ρ σ → Aft X.K G Wf σ (rpW X.K G) ι h H (m ρ h) Q → t σ H Q) : PZ b X G Wf e m :=
  ⟨fun pins s σ H ι h ρ Q tk I r sr a => withTk tk (hp.run pins s σ H Q I (f pins s σ H ι h ρ Q I r sr a))⟩
def tZI (K : PySem.W.Frag) (G : Gt) (Wf : WX) (m : Ev → M Itz) : TI := fun σ H R => ∃ ι h ρ, HRep K G ι h H ∧ SRep K G ι h H ρ σ ∧ Aft K G Wf σ (rpI K G) ι h H (m ρ h) R
def tZT (K : PySem.W.Frag) (G : Gt) (m : Ev → M Bool) : TT := fun σ H Q => ∃ ι h ρ, HRep K G ι h H ∧ SRep K G ι h H ρ σ ∧ Aft K G W0 σ rpE ι h H (m ρ h) Q
theorem noex_ok {α : Type} {m : M α} {h : Hz} {a : α} {h' : Hz} (e : noex m h = .ok a h') : m h = .ok a h' := by
  unfold noex at e
  cases q : m h with
  | ok a2 h2 => rw [q] at e; exact e
  | exc c fs h2 => rw [q] at e; cases e
  | err => rw [q] at e; cases e
/-- a step inside, told from the base -/
theorem Aft.inner {α β γ δ : Type} {P : RP α β} {P' : RP γ δ} {σ σ' : St} {ι ι1 : Nat → Addr} {h h1 : Hz} {H H1 : Hp} {m : M α} {k : α → M γ} {Q : δ → Hp → Prop} (a : Aft X.K G Wf σ P' ι1 h1 H1 (Z.bnd (noex m) k h) Q) :
    Aft X.K G W0 σ' P ι h H (m h) fun v H2 => ∃ ι2 h2 w, Next X.K G ι h H ι2 h2 H2 ∧ P ι2 h2 H2 w v ∧ Aft X.K G Wf σ P' ι1 h1 H1 (k w h2) Q := by
  unfold Z.bnd noex at a
  cases e : m h with
  | ok w h' =>
    rw [e] at a
    exact fun ι' H' v n p => ⟨ι', h', w, n, p, a⟩
  | exc c fs h' => rw [e] at a; exact False.elim a
  | err => rw [e] at a; exact False.elim a
theorem bnd_assoc {α β γ : Type} (m : M α) (f : α → M β) (g : β → M γ) (h : Hz) : bnd (bnd m f) g h = bnd m (fun a => bnd (f a) g) h := by
  unfold bnd
  cases m h <;> rfl
theorem lc_after {own : List (Str × Nat)} {mi : Ev → M Itz} {ct : CT} {nt : Ev → M Bool} {me : Ev → M W} {pins : List (Addr × Obj)} {s : Shared} {σ : St} {H : Hp} {ι : Nat → Addr} {h : Hz} {ρ : Ev} {Q : VK} (hix : ∀ i ∈ own.map (·.2), i < X.N.length) (hct : ∀ i ∈ ct.own, i ∈ own.map (·.2))
    (I : Inv X pins σ H s) (r : HRep X.K G ι h H) (sr : SRep X.K G ι h H ρ σ) (a : Aft X.K G Wf σ (rpW X.K G) ι h H (zlc (own.map (·.2)) mi ct nt me ρ h) Q) : tLc (tZI X.K G Wf mi) (gCT X.K ct) (tZT X.K G nt) (tZ X.K G W0 me) (own.map (·.2)) σ H Q := by
  refine ⟨ι, h, ρ, r, sr, ?_⟩
  refine (a.bnd (P := rpI X.K G)).imp fun J H1 ⟨ι1, h1, z, n1, okz, a1⟩ => ?_
  intro D hD
  have sr1 := (sr.next r n1.toNx0).wipe (own.map (·.2))
  -- what holds at each turn
  refine ⟨fun i m H' => ∃ ι' h' fuel acc accV, fuel.length = m ∧ (∀ ws, z = .fix ws → fuel.length + i = ws.length) ∧ Next X.K G ι1 h1 H1 ι' h' H' ∧ H' D = some (.lst accV) ∧ ¬ LvAt ι' h' D ∧ Reps X.K G ι' h' H' acc accV ∧
    Aft X.K G Wf σ (rpW X.K G) ι1 h1 H1 (bnd (clz z ct nt me (wipeW ρ (own.map (·.2))) fuel i) (fun ys => if (acc ++ ys).length ≤ LIM then new (.lst (acc ++ ys)) else bad) h') Q, ⟨z.fuel.length, ι1, h1, z.fuel, [], [], rfl, ?_, ?_, upd_same, ?_, .nil, a1⟩, ?_⟩
  · intro ws e; subst e; rfl
  · have nb := Next.beside (o := .lst []) n1.rep hD
    exact nb
  · rintro ⟨j, c, g, lc, ej⟩
    exact n1.rep.live_some ⟨j, c, g, lc, ej⟩ hD
  · rintro i m H' ⟨ι', h', fuel, acc, accV, hm, hfix, n', eD, nl, rs, a2⟩
    have okt := okz ι' h' H' i n'
    have hz : (zitem z i h' = some none) ∨ ∃ w f fs ρ2, zitem z i h' = some (some w) ∧ fuel = f :: fs ∧ setCT ct w (wipeW ρ (own.map (·.2))) = some ρ2 := by
      cases ez : zitem z i h' with
      | none => rw [bnd_err (clz_none ez)] at a2; exact False.elim a2
      | some o =>
        cases o with
        | none => exact .inl rfl
        | some w =>
          cases fuel with
          | nil => rw [bnd_err (clz_nil ez)] at a2; exact False.elim a2
          | cons f fs =>
            cases es : setCT ct w (wipeW ρ (own.map (·.2))) with
            | none => rw [bnd_err (clz_bad ez es)] at a2; exact False.elim a2
            | some ρ2 => exact .inr ⟨w, f, fs, ρ2, rfl, rfl, es⟩
    rcases hz with ez | ⟨w, f, fs, ρ2, ez, ef, es⟩
    · rw [ez] at okt
      rw [bnd_okk (clz_stop ez), List.append_nil] at a2
      have hl : ∀ ws, z = .fix ws → i = ws.length := fun ws ew => by
        subst ew
        have e1 : some ws[i]? = some none := ez
        have e2 : ws[i]? = none := by simpa using e1
        have e3 := List.getElem?_eq_none_iff.mp e2
        have e4 := hfix ws rfl
        omega
      refine .inl ⟨okt hl, ?_⟩
      split at a2
      · obtain ⟨n2, p2⟩ := Next.adopt n' (fun z => n1.rep.no D z hD) hD eD nl rs
        exact a2 _ _ _ n2 p2
      · exact False.elim a2
    · subst ef
      rw [ez] at okt
      obtain ⟨go, yl⟩ := okt
      rw [bnd_congr (clz_go ez es), bnd_assoc] at a2
      have hfx : ∀ ws, z = .fix ws → fs.length + (i + 1) = ws.length := fun ws ew => by
        have := hfix ws ew
        simp only [List.length_cons] at this
        omega
      refine .inr ⟨go, fun H'' => ∃ ι' h' fuel acc accV, fuel.length < m ∧ (∀ ws, z = .fix ws → fuel.length + (i + 1) = ws.length) ∧ Next X.K G ι1 h1 H1 ι' h' H'' ∧ H'' D = some (.lst accV) ∧ ¬ LvAt ι' h' D ∧ Reps X.K G ι' h' H'' acc accV ∧
        Aft X.K G Wf σ (rpW X.K G) ι1 h1 H1 (bnd (clz z ct nt me (wipeW ρ (own.map (·.2))) fuel (i + 1)) (fun ys => if (acc ++ ys).length ≤ LIM then new (.lst (acc ++ ys)) else bad) h') Q, fun H'' ⟨ι'', h'', fuel, acc2, accV2, hm2, hf2, rest⟩ => ⟨fuel.length, hm2, ι'', h'', fuel, acc2, accV2, rfl, hf2, rest⟩, fun x H2 y => ?_⟩
      obtain ⟨n2, p2⟩ := yl x H2 y
      have n12 := n'.trans n2
      have keepD : ∀ {ι3 : Nat → Addr} {h3 : Hz} {H3 : Hp}, Next X.K G ι' h' H' ι3 h3 H3 → H3 D = some (.lst accV) ∧ ¬ LvAt ι3 h3 D := fun nn => ⟨nn.keep D _ eD nl, nn.toNx0.off (by rw [eD]; simp) nl⟩
      have sr2 : SRep X.K G ι' h' H2 (wipeW ρ (own.map (·.2))) (wipe σ (own.map (·.2))) := (sr1.next n1.rep n12.toNx0)
      refine gCT_ok (fun j hj => ⟨hct j hj, by rw [I.len]; exact hix j (hct j hj)⟩) sr2 p2 es fun σ2 sr3 hw => ⟨hw, ?_⟩
      refine ⟨ι', h', ρ2, n2.rep, sr3, (Aft.inner (P := rpE) (σ' := σ2) (ι := ι') (H := H2) a2).imp fun t H3 ⟨ι3, h3, t', n3, et, a3⟩ => ?_⟩
      cases et
      have n23 := n2.trans n3
      cases t with
      | false =>
        rw [if_neg Bool.false_ne_true]
        obtain ⟨kd, kl⟩ := keepD n23
        refine ⟨ι3, h3, fs, acc, accV, by simp only [List.length_cons] at hm; omega, hfx, n'.trans n23, kd, kl, rs.next n'.rep n23.toNx0, a3⟩
      | true =>
        rw [if_pos rfl]
        have a3' : Aft X.K G Wf σ (rpW X.K G) ι1 h1 H1 (bnd (noex (me ρ2)) (fun y => bnd (bnd (clz z ct nt me (wipeW ρ (own.map (·.2))) fs (i + 1)) fun ys => ret (y :: ys)) fun ys => if (acc ++ ys).length ≤ LIM then new (.lst (acc ++ ys)) else bad) h3) Q := by
          have e := bnd_assoc (noex (me ρ2)) (fun y => bnd (clz z ct nt me (wipeW ρ (own.map (·.2))) fs (i + 1)) fun ys => ret (y :: ys)) (fun ys => if (acc ++ ys).length ≤ LIM then new (.lst (acc ++ ys)) else bad) h3
          rw [← e]
          exact a3
        refine ⟨ι3, h3, ρ2, n3.rep, sr3.next n2.rep n3.toNx0, (Aft.inner (P := rpW X.K G) (σ' := σ2) (ι := ι3) (H := H3) a3').imp fun yv H4 ⟨ι4, h4, yw, n4, py, a4⟩ => ?_⟩
        have n24 := n23.trans n4
        obtain ⟨kd, kl⟩ := keepD n24
        have rs4 := rs.next n'.rep n24.toNx0
        rw [bnd_assoc] at a4
        have a5 : Aft X.K G Wf σ (rpW X.K G) ι1 h1 H1 (bnd (clz z ct nt me (wipeW ρ (own.map (·.2))) fs (i + 1)) (fun ys => if ((acc ++ [yw]) ++ ys).length ≤ LIM then new (.lst ((acc ++ [yw]) ++ ys)) else bad) h4) Q := by
          have e : (fun ys => bnd (ret (yw :: ys)) fun ys => if (acc ++ ys).length ≤ LIM then new (.lst (acc ++ ys)) else bad) = fun ys : List W => if ((acc ++ [yw]) ++ ys).length ≤ LIM then new (.lst ((acc ++ [yw]) ++ ys)) else bad := by
            funext ys
            have e1 : (acc ++ [yw]) ++ ys = acc ++ (yw :: ys) := by simp
            rw [e1]
            rfl
          rw [← e]
          exact a4
        have hlen : acc.length < LIM := by
          rcases Nat.lt_or_ge acc.length LIM with q | q
          · exact q
          · exfalso
            unfold bnd at a5
            cases ec : clz z ct nt me (wipeW ρ (own.map (·.2))) fs (i + 1) h4 with
            | err => rw [ec] at a5; exact a5
            | exc c gs h5 => exact absurd ec (clz_noexc _ _ _)
            | ok ys h5 =>
              rw [ec] at a5
              have a6 : Aft X.K G Wf σ (rpW X.K G) ι1 h1 H1 ((if ((acc ++ [yw]) ++ ys).length ≤ LIM then new (.lst ((acc ++ [yw]) ++ ys)) else bad) h5) Q := a5
              rw [if_neg (by simp only [List.length_append, List.length_singleton]; omega)] at a6
              exact a6
        refine ⟨accV, kd, by rw [← rs4.length, ← lim_eq]; exact hlen, ?_⟩
        have n5 := Next.aside (o := .lst (accV ++ [yv])) (n'.trans n24) hD kd rfl kl
        exact ⟨ι4, h4, fs, acc ++ [yw], accV ++ [yv], by simp only [List.length_cons] at hm; omega, hfx, n5, upd_same, kl, (rs4.append (.cons py .nil)).aside kd rfl, a5⟩
theorem own_ix {scope : Scope} {own : List (Str × Nat)} (ok : BlkOk X.N X.env.scope scope own) : ∀ i ∈ own.map (·.2), i < X.N.length := fun i hi' => by
  obtain ⟨p, hp, rfl⟩ := List.mem_map.mp hi'
  exact (List.getElem?_eq_some_iff.mp (ok.ix p hp)).1
section
variable {elt tg iter : Expr} {ifs : List Expr} {scope : Scope} {own : List (Str × Nat)} {pos : Pos} {mi : Ev → M Itz} {ct : CT} {nt : Ev → M Bool} {me : Ev → M W}
theorem pi_of (hi : PZI false X G Wf tg iter mi) : PI X tg iter (tZI X.K G Wf mi) := ⟨fun pins s σ H R I ⟨ι, h, ρ, r, sr, a⟩ => thn (hi.run pins s σ H ι h ρ R (fun z => nomatch z) I r sr a) fun v s1 q => thn q fun _ _ z => z.2⟩
theorem pts_of (ht : PZTs X G ifs nt) : PTs X ifs (tZT X.K G nt) := ⟨fun pins s' σ H' Q I ⟨ι, h, ρ, r, sr, a⟩ => ht.run pins s' σ H' ι h ρ Q I r sr a⟩
theorem pz_lc (hc : X.calm = true) (hN : X.N.Nodup) (hi : PZI false X G Wf tg iter mi) (ok : BlkOk X.N X.env.scope scope own) (hct : ∀ i ∈ ct.own, i ∈ own.map (·.2))
    (hg : ∀ (s : Shared) (H : Hp) (C : Addr) (cl : List (Str × Addr)) (fp : List Addr), PG (X.blk s H scope (compEnvC scope cl C X.env) fp) tg (gCT X.K ct)) (ht : ∀ (s : Shared) (H : Hp) (C : Addr) (cl : List (Str × Addr)) (fp : List Addr), PZTs (X.blk s H scope (compEnvC scope cl C X.env) fp) G ifs nt)
    (he : ∀ (s : Shared) (H : Hp) (C : Addr) (cl : List (Str × Addr)) (fp : List Addr), PZ false (X.blk s H scope (compEnvC scope cl C X.env) fp) G W0 elt me) (hs : ∀ x, foldedSetIterable iter X.env x = pure x) :
    PZ b X G Wf (.ListComp elt [⟨tg, iter, ifs, 0⟩] scope pos) (zlc (own.map (·.2)) mi ct nt me) :=
  PZ.of' (pe_lc hc hN (pi_of hi) ok hg (fun s H C cl fp => pts_of (ht s H C cl fp)) (fun s H C cl fp => (he s H C cl fp).pe) hs) fun pins s σ H ι h ρ Q I r sr a => lc_after (own_ix ok) hct I r sr a
theorem pzs_setLc {i : Nat} {y : Str} {py spos : Pos} (hc : X.calm = true) (hN : X.N.Nodup) (hy : X.N[i]? = some y) (hyl : X.env.scope.names.lookup y = some .local) (hsw : swapsWith (.ListComp elt [⟨tg, iter, ifs, 0⟩] scope pos) (some (.Name y py)) spos.line X.env = pure true) (hi : PZI false X G Wf tg iter mi)
    (ok : BlkOk X.N X.env.scope scope own) (hct : ∀ i ∈ ct.own, i ∈ own.map (·.2)) (hg : ∀ (s : Shared) (H : Hp) (C : Addr) (cl : List (Str × Addr)) (fp : List Addr), PG (X.blk s H scope (compEnvC scope cl C X.env) fp) tg (gCT X.K ct))
    (ht : ∀ (s : Shared) (H : Hp) (C : Addr) (cl : List (Str × Addr)) (fp : List Addr), PZTs (X.blk s H scope (compEnvC scope cl C X.env) fp) G ifs nt) (he : ∀ (s : Shared) (H : Hp) (C : Addr) (cl : List (Str × Addr)) (fp : List Addr), PZ false (X.blk s H scope (compEnvC scope cl C X.env) fp) G W0 elt me)
    (hs : ∀ x, foldedSetIterable iter X.env x = pure x) : PZS b X G Wf (.Assign [.Name y py] (.ListComp elt [⟨tg, iter, ifs, 0⟩] scope pos) spos) (sasg (zlc (own.map (·.2)) mi ct nt me) (gname i)) := by
  refine ⟨fun pins s σ H ι h ρ D tk I r sr a => withTk tk ((ps_setLc hc hN hy hyl hsw (pi_of hi) ok hg (fun s H C cl fp => pts_of (ht s H C cl fp)) (fun s H C cl fp => (he s H C cl fp).pe) hs).run pins s σ H D I (lc_after (own_ix ok) hct I r sr ?_))⟩
  refine (a.bnd (P := rpW X.K G) r sr).imp fun v H1 ⟨ι1, h1, w, n1, p1, sr1, a1⟩ => a1 ι1 H1 _ (Next.refl n1.rep) (sr1.set p1 i ?_)
  rw [I.len]
  exact (List.getElem?_eq_some_iff.mp hy).1
end
end
end Z

set_option Elab.async false
set_option linter.all false
set_option maxRecDepth 100000
set_option maxHeartbeats 1000000
set_option autoImplicit false
namespace Z
open PySem L2
open PyProof.Rows hiding St

section
variable {b : Bool} {X : Cx} {G : Gt} {Wf : WX} {e o : Expr} {es : List Expr} {ma mo : Ev → M W} {mr : Ev → M (List W)} {pos p apos : Pos} {x : Str} {k : Nat}
/-- a name of the top that stands for a value which is in K -/
theorem pz_glob {w : W} {v : V} {u : Value} (hg : Gl X x) (hm : X.mg x = some u) (r : RelV v u) (hd : (x == ("__debug__" : Str)) = false) (hr : ∀ ι h H, HRep X.K G ι h H → Rep X.K G ι h H w v) : PZ b X G Wf (.Name x pos) (fun _ => ret w) :=
  pz_c (pe_glob hg hm r hd) hr

def putW (f : Nat) (w : W) : List (Nat × W) → List (Nat × W)
  | [] => [(f, w)]
  | (g, x) :: r => match Nat.beq g f with
    | true => (g, w) :: r
    | false => (g, x) :: putW f w r
theorem RepF.put {K : PySem.W.Frag} {ι : Nat → Addr} {h : Hz} {H : Hp} (nj : NmInj G) {f : Nat} {w : W} {v : V} (p : Rep K G ι h H w v) : ∀ {fs : List (Nat × W)} {gs : List (Str × V)}, RepF K G ι h H fs gs → RepF K G ι h H (putW f w fs) (putF (G.nm f) v gs)
  | _, _, .nil => .cons p .nil
  | _, _, .cons (f := g) (w := x) (v := y) (fs := fs) (gs := gs) q r => by
    show RepF K G ι h H (match Nat.beq g f with | true => (g, w) :: fs | false => (g, x) :: putW f w fs) (if G.nm g = G.nm f then (G.nm g, v) :: gs else (G.nm g, y) :: putF (G.nm f) v gs)
    cases e : Nat.beq g f with
    | true =>
      have e1 : g = f := Nat.eq_of_beq_eq_true e
      rw [if_pos (by rw [e1])]
      exact .cons p r
    | false =>
      have e1 : g ≠ f := Nat.ne_of_beq_eq_false e
      rw [if_neg (fun z => e1 (nj g f z))]
      exact .cons q (RepF.put nj p r)
theorem RepF.length {K : PySem.W.Frag} {ι : Nat → Addr} {h : Hz} {H : Hp} : ∀ {fs : List (Nat × W)} {gs : List (Str × V)}, RepF K G ι h H fs gs → fs.length = gs.length
  | _, _, .nil => rfl
  | _, _, .cons _ r => congrArg Nat.succ (RepF.length r)
def sfldW (cs : List Nat) (f : Nat) (w y : W) : M Unit := match w with
  | .ref i => fun h => match h.get i with
    | some (.ins c fs) => if (cs.contains c && decide (fs.length < 1000)) = true then store i (.ins c (putW f y fs)) h else .err
    | _ => .err
  | _ => bad
def sfld (cs : List Nat) (f : Nat) (mo ma : Ev → M W) : MS := fun ρ => sbnd (ma ρ) ρ fun y => sbnd (mo ρ) ρ fun w => sbnd (sfldW cs f w y) ρ fun _ h => .ok .next ρ h
theorem pzs_fld {cs : List Nat} {f : Nat} {pos' : Pos} (nj : NmInj G) (hx : G.nm f = x) (hn : NoAt X.K G f cs) (ho : PZ b X G Wf o mo) (ha : PZ b X G Wf e ma) (hs : swapsWith e (some (.Attribute o x pos')) pos.line X.env = pure false) :
    PZS b X G Wf (.Assign [.Attribute o x pos'] e pos) (sfld cs f mo ma) := by
  subst hx
  refine ⟨fun pins s σ H ι h ρ D tk I r sr a => ?_⟩
  refine plainObj_wpAny_Assign_Attribute (thn (ha.run pins s σ H ι h ρ _ tk I r sr (a.bnd (P := rpW X.K G) r sr)) fun u s1 ⟨tk1, v1, H1, I1, r1, ι1, h1, w1, n1, p1, sr1, a1⟩ => ?_) hs
  refine thn (ho.run pins s1 σ H1 ι1 h1 ρ _ tk1 I1 n1.rep sr1 (AftS.bnd (P := rpW X.K G) a1 n1.rep sr1)) fun ov s2 ⟨tk2, v2, H2, I2, r2, ι2, h2, w2, n2, p2, sr2, a2⟩ => ?_
  have p1' := Rep.next n1.rep n2.toNx0 p1
  cases p2 with
  | ref i hi =>
    have bad_ : sfldW cs f (.ref i) w1 h2 = .err → False := fun e => by
      unfold sbnd at a2
      rw [e] at a2
      exact a2
    cases g : h2.get i with
    | none => exact (bad_ (by unfold sfldW; simp only [g])).elim
    | some c =>
      cases c with
      | ins c fs =>
        obtain ⟨dx, gs, ea, rf⟩ := n2.rep.cell i _ g
        by_cases hc : (cs.contains c && decide (fs.length < 1000)) = true
        · have e : sfldW cs f (.ref i) w1 h2 = .ok () (h2.put i (.ins c (putW f w1 fs))) := by
            unfold sfldW store
            simp only [g, hc, if_true]
          unfold sbnd at a2
          rw [e] at a2
          have hcs : c ∈ cs := by
            have := (Bool.and_eq_true_iff.mp hc).1
            simpa using this
          have hlen : fs.length < 1000 := of_decide_eq_true (Bool.and_eq_true_iff.mp hc).2
          obtain ⟨c1, c2⟩ := hn c hcs
          cases (show ov = Value.ref (ι2 i) from r2)
          have n0 : Nx0 ι2 h2 H2 ι2 (h2.put i (.ins c (putW f w1 fs))) (upd H2 (ι2 i) (.ins (G.cl c) dx (putF (G.nm f) v1 gs))) := Nx0.store g rfl
          have n3 := Next.store (o := .ins (G.cl c) dx (putF (G.nm f) v1 gs)) (c := .ins c (putW f w1 fs)) n2.rep g rfl rfl ⟨dx, _, upd_same, (RepF.put nj p1' rf).next n2.rep n0⟩
          exact withTk tk2 (setattr_ok I2 ea c1 c2 (by rw [← rf.length]; exact hlen) r1 fun s3 I3 => ⟨σ, _, I3, a2 ι2 _ σ n3 (sr2.next n2.rep n3.toNx0)⟩)
        · exact (bad_ (by unfold sfldW; simp only [g, hc]; rfl)).elim
      | lst xs => exact (bad_ (by unfold sfldW; simp only [g])).elim
      | dct kvs => exact (bad_ (by unfold sfldW; simp only [g])).elim
      | dead => exact (bad_ (by unfold sfldW; simp only [g])).elim
  | _ =>
    unfold sbnd sfldW at a2
    exact False.elim a2

theorem star_list {prog : Program} {w : World} {A : Around} {E : Value → Shared → Prop} {s : Shared} {l : Addr} {items : Array Value} {n i : Nat} {Q : List Value → Shared → Prop} (hl : s.heap.IsList l items) (hh : A.handled = none) (hi : i < n) (hn : n ≤ items.size + 1) (hz : items.size ≤ 16384)
    (h : ∀ (h' : Heap) (tk : Nat), (∀ b o, s.heap.get? b = some o → h'.get? b = some o) → Q (items.toList.take i ++ [.ref h'.objs.size] ++ (items.toList.drop i).drop (items.size + 1 - n)) { s with heap := h'.push { cls := .type "list", data := .seq ((items.toList.drop i).take (items.size + 1 - n)).toArray }, toks := tk }) :
    wpAny (model prog w) A (unpackItems (.ref l) n (some i)) Q E s := by
  have hlt : l ≠ s.heap.objs.size := by obtain ⟨o, ho, _⟩ := hl; exact Nat.ne_of_lt (Heap.lt_size ho)
  unfold unpackItems
  refine wpAny_bind ?_
  unfold notIterableAtAll
  refine wpAny_bind (wpAny_specialOf hl.typeIs slot_list_iter.lookup (wpAny_pure ?_))
  simp only [Bool.false_eq_true, if_false]
  refine wpAny_bind (wpAny_holding (wpAny_pyIter_list hl ?_))
  refine wpAny_bind (wpAny_holding (PySem.W.kun_draw hlt i 0 _ _ ⟨_, Heap.get?_push_size _ rfl, rfl, rfl⟩ (hl.push _) (by omega) fun h1 hit1 hs1 => ?_))
  have hl1 : h1.IsList l items := (hl.push _).extBut hs1.extBut hlt
  rw [Nat.zero_add] at hit1
  obtain ⟨oi, hoi, _⟩ := id hit1
  obtain ⟨ol, hol, _⟩ := id hl1
  rw [List.drop_zero]
  have hfl : (items.toList.take i).length = i := by rw [List.length_take, Array.length_toList]; omega
  rw [if_neg (show ¬ ((items.toList.take i).length < i) by rw [hfl]; omega)]
  refine wpAny_bind (wpAny_holding (PySem.W.kun_collect (s := { s with heap := h1 }) (T := "list_iterator") (.inr (.inr (.inl rfl))) (Walks.list (A := A.in1) hh s.heap.objs.size l hlt items) (fun j u st => st.1.typeIs) (k := i) (by omega) ⟨hit1, hl1⟩ (Heap.lt_size hoi) (Heap.lt_size hol) (fun h2 tk hk => ?_) (by rw [sizeLine_eq]; omega)))
  have hrl : (items.toList.drop i).length = items.size - i := by rw [List.length_drop, Array.length_toList]
  have hmid : (items.toList.drop i).length - (n - 1 - i) = items.size + 1 - n := by rw [hrl]; omega
  show wpAny _ _ (if (items.toList.drop i).length < n - 1 - i then _ else _) _ _ _
  rw [if_neg (by rw [hrl]; omega)]
  show wpAny _ _ (newList ((items.toList.drop i).take ((items.toList.drop i).length - (n - 1 - i))) >>= fun d => pure (items.toList.take i ++ [d] ++ (items.toList.drop i).drop ((items.toList.drop i).length - (n - 1 - i)))) _ _ _
  rw [hmid]
  have he : Heap.ExtBut s.heap.objs.size s.heap h2 := fun b o hb e => hk b o hb (hs1.extBut b o hb (Heap.get?_push_of_some _ e))
  refine wpAny_bind (wpAny_newObj_type (wpAny_pure (h h2 tk fun b o e => he b o (Nat.ne_of_lt (Heap.lt_size e)) e)) ?_)
  show ((items.toList.drop i).take (items.size + 1 - n)).toArray.size ≤ sizeLine
  rw [List.size_toArray, List.length_take, hrl, sizeLine_eq]; omega
/-- i targets ahead, the rest as a new list in the last one -/
def gstar (i : Nat) (gs : List W → MS) (w : W) : MS := fun ρ => sbnd (zlref w) ρ fun q h => if (decide (i ≤ q.2.length) && decide (q.2.length ≤ 16384)) = true then gs (q.2.take i ++ [.ref h.n]) ρ (h.push (.lst (q.2.drop i))) else .err
theorem pzg_star {i kk : Nat} {gs : List W → MS} (hc : X.calm = true) (hg : PZGs b X G Wf es gs) (hn : (assignEach es X.env).length = i + 1) (hst : (assignEach es X.env).findIdx? (·.1) = some i) : PZG b X G Wf (.Tuple es kk pos) (gstar i gs) := by
  refine ⟨fun pins s σ H ι h ρ w v u Q tk I r sr pw ru a => ?_⟩
  have a0 : Aft X.K G Wf σ rpE ι h H (bnd (zlref w) (fun q => ret q) h) fun q H1 => ∃ ι1 h1 q', Next X.K G ι h H ι1 h1 H1 ∧ q' = q ∧ SRep X.K G ι1 h1 H1 ρ σ ∧ AftS X.K G Wf ι1 h1 H1 (if (decide (i ≤ q'.2.length) && decide (q'.2.length ≤ 16384)) = true then gs (q'.2.take i ++ [.ref h1.n]) ρ (h1.push (.lst (q'.2.drop i))) else .err) (gD Q) := by
    have e : bnd (zlref w) (fun q => ret q) h = zlref w h := by
      unfold bnd
      cases zlref w h <;> rfl
    rw [e]
    exact AftS.bnd (P := rpE) a r sr
  obtain ⟨j, xs, vs, e1, e2, g, ea, rs, a1⟩ := lref_after r pw a0
  obtain ⟨ι1, h1, q', n1, eq, sr1, a2⟩ := a1 ι H (j, xs) (Next.refl r) rfl
  subst eq
  subst e2
  have a3 : AftS X.K G Wf ι1 h1 H (if (decide (i ≤ xs.length) && decide (xs.length ≤ 16384)) = true then gs (xs.take i ++ [.ref h1.n]) ρ (h1.push (.lst (xs.drop i))) else .err) (gD Q) := a2
  split at a3
  · rename_i hl
    simp only [Bool.and_eq_true, decide_eq_true_eq] at hl
    cases (show u = Value.ref (ι j) from ru)
    obtain ⟨its, rv, pl, hz⟩ := I.list (SqL.of ea)
    have rs1 := rs.next r n1.toNx0
    have el : its.length = xs.length := by rw [← rv.length, ← rs.length]
    rw [PyProof.Rows.assign_Tuple]
    refine wpAny_bind (wpAny_standAt ?_)
    unfold unpack
    rw [hn, hst]
    refine wpAny_bind (wpAny_holding (thn (withTk tk (star_list (Q := fun us s' => ∃ (h' : Heap) (tk' : Nat), (∀ b o, s.heap.get? b = some o → h'.get? b = some o) ∧ us = its.toArray.toList.take i ++ [.ref h'.objs.size] ++ (its.toArray.toList.drop i).drop (its.toArray.size + 1 - (i + 1)) ∧
      s' = { s with heap := h'.push { cls := .type "list", data := .seq ((its.toArray.toList.drop i).take (its.toArray.size + 1 - (i + 1))).toArray }, toks := tk' }) pl.isList (I.ok.hd hc) (Nat.lt_succ_self _) (by rw [List.size_toArray, el]; omega) (by rw [List.size_toArray, el]; exact hl.2) fun h' tk' hk => ⟨h', tk', hk, rfl, rfl⟩)) fun us s' ⟨tk2, h', tk', hk, eu, es⟩ => ?_))
    subst eu
    subst es
    have e1 : its.toArray.size + 1 - (i + 1) = xs.length - i := by rw [List.size_toArray, el]; omega
    have d0 : (its.toArray.toList.drop i).drop (its.toArray.size + 1 - (i + 1)) = [] := by rw [e1]; apply List.drop_of_length_le; simp [el]
    have d1 : (its.toArray.toList.drop i).take (its.toArray.size + 1 - (i + 1)) = its.drop i := by rw [e1]; rw [List.take_of_length_le (by simp [el])]
    rw [d1] at tk2
    rw [d0, d1, List.append_nil]
    have I1 : Inv X pins σ H { s with heap := h', toks := tk' } := I.kept (t' := tk') hk
    have hf : H h'.objs.size = none := I1.hok.fresh (Nat.le_refl _)
    have hzz : (vs.drop i).length ≤ sizeLine := by rw [List.length_drop]; omega
    have I2 : Inv X pins σ (upd H h'.objs.size (.lst (vs.drop i))) { s with heap := h'.push { cls := .type "list", data := .seq (its.drop i).toArray }, toks := tk' } := I1.lnew (rv.drop i) hzz
    have n0 : Nx0 ι1 h1 H (ext1 ι1 h1.n h'.objs.size) (h1.push (.lst (xs.drop i))) (upd H h'.objs.size (.lst (vs.drop i))) := Nx0.alloc hf
    have n2 := Next.alloc (c := .lst (xs.drop i)) (o := .lst (vs.drop i)) n1.rep hf ⟨vs.drop i, upd_same, (rs1.drop i).next n1.rep n0⟩
    have pD : Rep X.K G (ext1 ι1 h1.n h'.objs.size) (h1.push (.lst (xs.drop i))) (upd H h'.objs.size (.lst (vs.drop i))) (.ref h1.n) (.ref h'.objs.size) := by
      have z : Rep X.K G (ext1 ι1 h1.n h'.objs.size) (h1.push (.lst (xs.drop i))) (upd H h'.objs.size (.lst (vs.drop i))) (.ref h1.n) (.ref (ext1 ι1 h1.n h'.objs.size h1.n)) := .ref _ (Nat.lt_succ_self _)
      rw [ext1_at] at z
      exact z
    exact hg.run pins _ σ _ (ext1 ι1 h1.n h'.objs.size) (h1.push (.lst (xs.drop i))) ρ _ (vs.take i ++ [.ref h'.objs.size]) _ Q tk2 I2 n2.rep (sr1.next n1.rep n2.toNx0) (((rs1.take i).next n1.rep n2.toNx0).append (.cons pD .nil)) ((by simpa using rv.take i : Vals (vs.take i) (its.toArray.toList.take i)).append (.cons (show RelV (.ref h'.objs.size) (.ref h'.objs.size) from rfl) .nil)) (AftS.step a3 n2)
  · exact False.elim a3

/-- the class c, its classmethod of the name m: the def i -/
def CmOk (X : Cx) (G : Gt) (k : Nat) (c : Nat) (m : Str) (i n : Nat) (fn : List W → M W) : Prop :=
  (∃ mc q, ClX.CRead X.K (G.cl c) mc ∧ ClX.CMet X.K (G.cl c) mc m q (G.fn i)) ∧ CallOk X G k i (n + 1) [] (fun ws _ => ws) fn
def zcmeth (c n : Nat) (fn : List W → M W) (mo : Ev → M W) (mr : Ev → M (List W)) : Ev → M W := fun ρ => bnd (mo ρ) fun w => match w with
  | .cl d => if d = c then bnd (mr ρ) fun ws => zcall (n + 1) 0 (fun ws _ => ws) fn (.cl c :: ws) [] else bad
  | _ => bad
theorem pz_cmeth {c i n : Nat} {fn : List W → M W} (C : CmOk X G k c x i n fn) (hr : Room k X.A) (tkx : Takes X Wf) (ho : PZ b X G Wf o mo) (ha : PZA b X G Wf (e :: es) mr) (hst : (e :: es).all (fun e => !isStar e) = true) (hb : noSuper o = true) (hl : (apos.endLine == pos.line) = true) (h29 : (e :: es).length < 29) :
    PZ b X G Wf (.Call (.Attribute o x apos) (e :: es) [] pos) (zcmeth c n fn mo mr) := by
  obtain ⟨⟨mc, q, cr, cm⟩, C⟩ := C
  refine ⟨fun pins s σ H ι h ρ Q tk I r sr aft => ?_⟩
  refine PySem.W.methodCall_KW (thn (ho.run pins s σ H ι h ρ _ tk I r sr (aft.bnd (P := rpW X.K G))) fun u s1 ⟨tk1, v1, H1, I1, r1, ι1, h1, w1, n1, p1, a1⟩ => ?_) (meth_tree hb (few_of (kws := []) hst rfl (by simpa using h29)) hl)
  have h1' : isStar e = false := by
    rw [List.all_cons] at hst
    simpa using (Bool.and_eq_true_iff.mp hst).1
  have h2' : es.all (fun e => !isStar e) = true := by
    rw [List.all_cons] at hst
    exact (Bool.and_eq_true_iff.mp hst).2
  cases p1 with
  | cl d =>
    have a2 : Aft X.K G Wf σ (rpW X.K G) ι1 h1 H1 ((if d = c then bnd (mr ρ) fun ws => zcall (n + 1) 0 (fun ws _ => ws) fn (.cl c :: ws) [] else bad) h1) Q := a1
    split at a2
    · rename_i hd
      subst hd
      cases (show u = Value.ref (G.cl d) from r1)
      refine wpAny_mono (withTk tk1 (ClX.getmethcm_ok (Q := fun fp s' => fp = (.ref s1.heap.objs.size, []) ∧ Inv X ((s1.heap.objs.size, PySem.W.methodObj (.ref (G.fn i)) (.ref (G.cl d))) :: pins) σ H1 s') I1 cr cm fun s2 I2 => ⟨rfl, I2⟩)) (fun fp s2 ⟨tk2, efp, I2⟩ => ?_) fun _ _ z => z
      subst efp
      refine ClX.callwith_cm I2 (ClX.base_none I1 (Nat.le_refl _)) cm.fi (thn (ha.run pos _ s2 σ H1 ι1 h1 ρ _ tk2 I2 n1.rep (sr.next r n1.toNx0) (a2.bnd (P := rpWs X.K G))) fun us s3 ⟨tk3, vs, H2, I3, r2, ι2, h2, ws, n2, p2, a3⟩ => ⟨⟨ClX.pin_at I3, I3.kIn⟩, ?_⟩) (starEach_cons h1') (starEach_no h2')
      have z : wpAny (model X.prog X.w) X.A (call (.ref s1.heap.objs.size) us) (EP X ((s1.heap.objs.size, PySem.W.methodObj (.ref (G.fn i)) (.ref (G.cl d))) :: pins) σ Q) X.xe s3 := by
        refine wpAny_call (PySem.W.method_call (ClX.pin_at I3) ?_)
        exact run_callC (ks := []) (us := Value.ref (G.cl d) :: us) (zs := []) (vs := V.ref (G.cl d) :: vs) (ys := []) (ws := .cl d :: ws) (qs := []) C hr tkx I3 n2.rep (.cons rfl r2) .nil (.cons (.cl d) p2) .nil a3
      exact withTk tk3 (thn z fun _ _ y => ClX.unpinE y)
    · exact False.elim a2
  | _ => exact False.elim a1
end
end Z

set_option Elab.async false
set_option linter.all false
set_option maxRecDepth 100000
set_option maxHeartbeats 1000000
set_option autoImplicit false
namespace Z
open PySem L2
open PyProof.Rows hiding St

section
variable {b : Bool} {X : Cx} {G : Gt} {Wf : WX} {e o : Expr} {es : List Expr} {ma mo : Ev → M W} {mr mk : Ev → M (List W)} {pos p apos : Pos} {x : Str} {k : Nat} {ks : List Str} {kws : List Keyword}
def zmkL (fr : Bool) (c n m : Nat) (g : List W → List W → List W) (fn : List W → M W) (mo : Ev → M W) (mr mk : Ev → M (List W)) : Ev → M W := fun ρ => bnd (mo ρ) fun w => match w with
  | .cl d => if d = c then bnd (mr ρ) fun ws => bnd (mk ρ) fun qs => zmkW fr c n m g fn ws qs else bad
  | _ => bad
theorem pz_mkL {fr : Bool} {c i n : Nat} {g : List W → List W → List W} {fn : List W → M W} (Mo : MkOk X G k c i n ks g fn) (hr : Room (k + 1) X.A) (tkx : Takes X Wf) (ho : PZ b X G Wf (.Name x p) mo) (ha : PZA b X G Wf (e :: es) mr) (hkw : PZK b X G Wf kws mk)
    (hst : (e :: es).all (fun e => !isStar e) = true) (hks : kwNames kws = some ks) : PZ b X G Wf (.Call (.Name x p) (e :: es) kws pos) (zmkL fr c n ks.length g fn mo mr mk) := by
  refine ⟨fun pins s σ H ι h ρ Q tk I r sr aft => ?_⟩
  refine wpAny_Call_Name_kw (thn (ho.run pins s σ H ι h ρ _ tk I r sr (aft.bnd (P := rpW X.K G))) fun u s1 ⟨tk1, v1, H1, I1, r1, ι1, h1, w1, n1, p1, a1⟩ => ?_)
  cases p1 with
  | cl d =>
    have a2 : Aft X.K G Wf σ (rpW X.K G) ι1 h1 H1 ((if d = c then bnd (mr ρ) fun ws => bnd (mk ρ) fun qs => zmkW fr c n ks.length g fn ws qs else bad) h1) Q := a1
    split at a2
    · rename_i hd
      subst hd
      cases (show u = Value.ref (G.cl d) from r1)
      refine cw_args Mo.1.kp ha hkw hst hks tk1 I1 n1.rep (sr.next r n1.toNx0) a2 fun s2 H2 ι2 h2 us zs vs ys ws qs tk2 I2 n2 q1 q2 p1 p2 a3 => ?_
      exact withTk tk2 (run_mk Mo hr tkx I2 n2.rep q1 q2 p1 p2 a3)
    · exact False.elim a2
  | _ => exact False.elim a1

def memN (x : List Nat) : List (List Nat) → Bool
  | [] => false
  | y :: r => match eqN y x with
    | true => true
    | false => memN x r
def addN (seen : List (List Nat)) (x : List Nat) : List (List Nat) := match memN x seen with
  | true => seen
  | false => seen ++ [x]
def nub (seen : List (List Nat)) : List (List Nat) → List (List Nat)
  | [] => seen
  | x :: r => nub (addN seen x) r
def strM (w : W) : M W := match w with
  | .str z => ret (.str z)
  | _ => bad
def zdcl (vs : List Nat) (mi : Ev → M Itz) (ct : CT) (me : Ev → M W) : Ev → M W := fun ρ => bnd (mi ρ) fun z => bnd (clz z ct (fun _ => ret true) (fun ρ => bnd (me ρ) strM) (wipeW ρ vs) z.fuel 0) fun ys => match asStrs ys with
  | some ks => if (nub [] ks).length < LIM then ret (.int (nub [] ks).length) else bad
  | none => bad
theorem S_inj {x y : List Nat} (h : S x = S y) : x = y := by
  have := congrArg (fun t : Str => t.cps.toList) h
  simpa using this
theorem memN_iff (x : List Nat) : ∀ ys : List (List Nat), memN x ys = decide (x ∈ ys)
  | [] => by simp [memN]
  | y :: r => by
    unfold memN
    rw [eqN_eq]
    by_cases c : y = x
    · simp [c]
    · have c' : ¬ x = y := fun z => c z.symm
      simp [c, c', memN_iff x r]
/-- the keys that the dict holds -/
def KeysAre (kvs : List (Key × V)) (seen : List (List Nat)) : Prop := kvs.map (·.1) = seen.map fun z => Sum.inr (S z)
theorem put_keys {kvs : List (Key × V)} {seen : List (List Nat)} {x : List Nat} {v : V} (h : KeysAre kvs seen) : KeysAre (putK kvs (Sum.inr (S x)) v) (addN seen x) := by
  have hm : (kvs.any fun kv => decide (kv.1 = (Sum.inr (S x) : Key))) = memN x seen := by
    rw [memN_iff, Bool.eq_iff_iff]
    simp only [List.any_eq_true, decide_eq_true_eq]
    constructor
    · rintro ⟨kv, hkv, e⟩
      have : kv.1 ∈ kvs.map (·.1) := List.mem_map_of_mem hkv
      rw [h, e] at this
      obtain ⟨z, hz, ez⟩ := List.mem_map.mp this
      have e2 : S z = S x := by injection ez
      rw [← S_inj e2]; exact hz
    · intro hx
      have : (Sum.inr (S x) : Key) ∈ kvs.map (·.1) := by rw [h]; exact List.mem_map_of_mem (f := fun z => (Sum.inr (S z) : Key)) hx
      obtain ⟨kv, hkv, e⟩ := List.mem_map.mp this
      exact ⟨kv, hkv, e⟩
  unfold putK addN
  rw [hm]
  cases memN x seen with
  | true =>
    rw [if_pos rfl]
    unfold KeysAre
    rw [← h, List.map_map]
    apply List.map_congr_left
    intro kv _
    show (if kv.1 = (Sum.inr (S x) : Key) then (kv.1, v) else kv).1 = kv.1
    split <;> rfl
  | false =>
    rw [if_neg Bool.false_ne_true]
    unfold KeysAre
    rw [List.map_append, List.map_append, h]
    rfl
theorem nub_len : ∀ (ks seen : List (List Nat)), seen.length ≤ (nub seen ks).length
  | [], seen => Nat.le_refl _
  | x :: r, seen => by
    refine Nat.le_trans ?_ (nub_len r (addN seen x))
    unfold addN
    cases memN x seen with
    | true => exact Nat.le_refl _
    | false => simp

def finN (seen : List (List Nat)) (ys : List W) : M W := match asStrs ys with
  | some ks => if (nub seen ks).length < LIM then ret (.int (nub seen ks).length) else bad
  | none => bad
theorem finN_cons (seen : List (List Nat)) (z : List Nat) (ys : List W) : finN seen (.str z :: ys) = finN (addN seen z) ys := by
  unfold finN
  show (match (match asStrs ys with | some ks => some (z :: ks) | none => none) with | some ks => _ | none => bad) = _
  cases asStrs ys with
  | none => rfl
  | some ks => rfl
theorem finN_room {seen : List (List Nat)} {ys : List W} {h : Hz} (ne : finN seen ys h ≠ .err) : seen.length < LIM := by
  unfold finN at ne
  cases e : asStrs ys with
  | none => rw [e] at ne; exact absurd rfl ne
  | some ks =>
    rw [e] at ne
    by_cases c : (nub seen ks).length < LIM
    · exact Nat.lt_of_le_of_lt (nub_len ks seen) c
    · simp only [if_neg c] at ne; exact absurd rfl ne
theorem dc_after {own : List (Str × Nat)} {mi : Ev → M Itz} {ct : CT} {me : Ev → M W} {pins : List (Addr × Obj)} {s : Shared} {σ : St} {H : Hp} {ι : Nat → Addr} {h : Hz} {ρ : Ev} {Q : VK} (hix : ∀ i ∈ own.map (·.2), i < X.N.length) (hct : ∀ i ∈ ct.own, i ∈ own.map (·.2))
    (I : Inv X pins σ H s) (r : HRep X.K G ι h H) (sr : SRep X.K G ι h H ρ σ) (a : Aft X.K G Wf σ (rpW X.K G) ι h H (zdcl (own.map (·.2)) mi ct me ρ h) Q) :
    tDc (tZI X.K G Wf mi) (gCT X.K ct) tYes (tZ X.K G W0 me) (tC (.bl true)) (own.map (·.2)) σ H (fun v H' => ∃ a kvs, v = V.ref a ∧ H' a = some (.dK kvs) ∧ Q (.int kvs.length) H') := by
  refine ⟨ι, h, ρ, r, sr, ?_⟩
  refine (a.bnd (P := rpI X.K G)).imp fun J H1 ⟨ι1, h1, z, n1, okz, a1⟩ => ?_
  intro D hD
  have sr1 := (sr.next r n1.toNx0).wipe (own.map (·.2))
  refine ⟨fun i m H' => ∃ ι' h' fuel seen kvs, fuel.length = m ∧ (∀ ws, z = .fix ws → fuel.length + i = ws.length) ∧ Next X.K G ι1 h1 H1 ι' h' H' ∧ H' D = some (.dK kvs) ∧ ¬ LvAt ι' h' D ∧ KeysAre kvs seen ∧
    Aft X.K G Wf σ (rpW X.K G) ι1 h1 H1 (bnd (clz z ct (fun _ => ret true) (fun ρ => bnd (me ρ) strM) (wipeW ρ (own.map (·.2))) fuel i) (finN seen) h') Q, ⟨z.fuel.length, ι1, h1, z.fuel, [], [], rfl, ?_, ?_, upd_same, ?_, rfl, a1⟩, ?_⟩
  · intro ws e; subst e; rfl
  · exact Next.beside (o := .dK []) n1.rep hD
  · rintro ⟨j, c, g, lc, ej⟩
    exact n1.rep.live_some ⟨j, c, g, lc, ej⟩ hD
  · rintro i m H' ⟨ι', h', fuel, seen, kvs, hm, hfix, n', eD, nl, ks, a2⟩
    have okt := okz ι' h' H' i n'
    have hz : (zitem z i h' = some none) ∨ ∃ w f fs ρ2, zitem z i h' = some (some w) ∧ fuel = f :: fs ∧ setCT ct w (wipeW ρ (own.map (·.2))) = some ρ2 := by
      cases ez : zitem z i h' with
      | none => rw [bnd_err (clz_none ez)] at a2; exact False.elim a2
      | some o =>
        cases o with
        | none => exact .inl rfl
        | some w =>
          cases fuel with
          | nil => rw [bnd_err (clz_nil ez)] at a2; exact False.elim a2
          | cons f fs =>
            cases es : setCT ct w (wipeW ρ (own.map (·.2))) with
            | none => rw [bnd_err (clz_bad ez es)] at a2; exact False.elim a2
            | some ρ2 => exact .inr ⟨w, f, fs, ρ2, rfl, rfl, es⟩
    rcases hz with ez | ⟨w, f, fs, ρ2, ez, ef, es⟩
    · rw [ez] at okt
      rw [bnd_okk (clz_stop ez)] at a2
      have hl : ∀ ws, z = .fix ws → i = ws.length := fun ws ew => by
        subst ew
        have e1 : some ws[i]? = some none := ez
        have e2 : ws[i]? = none := by simpa using e1
        have e3 := List.getElem?_eq_none_iff.mp e2
        have e4 := hfix ws rfl
        omega
      refine .inl ⟨okt hl, D, kvs, rfl, eD, ?_⟩
      have a3 : Aft X.K G Wf σ (rpW X.K G) ι1 h1 H1 ((if seen.length < LIM then ret (.int seen.length) else bad) h') Q := a2
      split at a3
      · have el : kvs.length = seen.length := by
          have := congrArg List.length ks
          simpa using this
        rw [el]
        exact a3 ι' H' _ n' (.int _)
      · exact False.elim a3
    · subst ef
      rw [ez] at okt
      obtain ⟨go, yl⟩ := okt
      rw [bnd_congr (clz_go ez es), bnd_assoc] at a2
      have hfx : ∀ ws, z = .fix ws → fs.length + (i + 1) = ws.length := fun ws ew => by
        have := hfix ws ew
        simp only [List.length_cons] at this
        omega
      refine .inr ⟨go, fun H'' => ∃ ι' h' fuel seen kvs, fuel.length < m ∧ (∀ ws, z = .fix ws → fuel.length + (i + 1) = ws.length) ∧ Next X.K G ι1 h1 H1 ι' h' H'' ∧ H'' D = some (.dK kvs) ∧ ¬ LvAt ι' h' D ∧ KeysAre kvs seen ∧
        Aft X.K G Wf σ (rpW X.K G) ι1 h1 H1 (bnd (clz z ct (fun _ => ret true) (fun ρ => bnd (me ρ) strM) (wipeW ρ (own.map (·.2))) fuel (i + 1)) (finN seen) h') Q, fun H'' ⟨ι'', h'', fuel, acc2, accV2, hm2, hf2, rest⟩ => ⟨fuel.length, hm2, ι'', h'', fuel, acc2, accV2, rfl, hf2, rest⟩, fun x H2 y => ?_⟩
      obtain ⟨n2, p2⟩ := yl x H2 y
      have n12 := n'.trans n2
      have keepD : ∀ {ι3 : Nat → Addr} {h3 : Hz} {H3 : Hp}, Next X.K G ι' h' H' ι3 h3 H3 → H3 D = some (.dK kvs) ∧ ¬ LvAt ι3 h3 D := fun nn => ⟨nn.keep D _ eD nl, nn.toNx0.off (by rw [eD]; simp) nl⟩
      have sr2 : SRep X.K G ι' h' H2 (wipeW ρ (own.map (·.2))) (wipe σ (own.map (·.2))) := (sr1.next n1.rep n12.toNx0)
      refine gCT_ok (fun j hj => ⟨hct j hj, by rw [I.len]; exact hix j (hct j hj)⟩) sr2 p2 es fun σ2 sr3 hw => ⟨hw, ?_⟩
      unfold tYes
      dsimp only
      rw [if_pos rfl]
      have a3 : Aft X.K G Wf σ (rpW X.K G) ι1 h1 H1 (bnd (bnd (noex (bnd (me ρ2) strM)) fun y => bnd (clz z ct (fun _ => ret true) (fun ρ => bnd (me ρ) strM) (wipeW ρ (own.map (·.2))) fs (i + 1)) fun ys => ret (y :: ys)) (finN seen) h') Q := a2
      rw [bnd_assoc] at a3
      refine ⟨ι', h', ρ2, n2.rep, sr3, (Aft.bnd (P := rpW X.K G) (P' := rpW X.K G) (Aft.inner (P := rpW X.K G) (σ' := σ2) (ι := ι') (H := H2) a3)).imp fun yv H3 ⟨ι3, h3, yw, n3, py, a4⟩ => ?_⟩
      cases py with
      | str zz =>
        obtain ⟨ι4, h4, yw, n4, py4, a5⟩ := a4 ι3 H3 (.str (S zz)) (Next.refl n3.rep) (.str zz)
        show ∃ kvs' k', V.str (S zz) = kV k' ∧ H3 D = some (.dK kvs') ∧ kvs'.length < sizeLine ∧ _
        obtain ⟨kd, kl⟩ := keepD (n2.trans n4)
        have hyw : yw = .str zz := by
          generalize hv : V.str (S zz) = vv at py4
          cases py4 with
          | str z2 =>
            have : S zz = S z2 := by injection hv
            rw [S_inj this]
          | _ => cases hv
        subst hyw
        rw [bnd_assoc] at a5
        have a6 : Aft X.K G Wf σ (rpW X.K G) ι1 h1 H1 (bnd (clz z ct (fun _ => ret true) (fun ρ => bnd (me ρ) strM) (wipeW ρ (own.map (·.2))) fs (i + 1)) (finN (addN seen zz)) h4) Q := by
          have e : (fun ys => bnd (ret (W.str zz :: ys)) (finN seen)) = finN (addN seen zz) := by
            funext ys
            rw [← finN_cons]
            rfl
          rw [← e]
          exact a5
        have hlen : (addN seen zz).length < LIM := by
          cases ec : clz z ct (fun _ => ret true) (fun ρ => bnd (me ρ) strM) (wipeW ρ (own.map (·.2))) fs (i + 1) h4 with
          | err => rw [bnd_err ec] at a6; exact False.elim a6
          | exc c gs h5 => exact absurd ec (clz_noexc _ _ _)
          | ok ys h5 =>
            rw [bnd_okk ec] at a6
            refine finN_room (ys := ys) (h := h5) fun z => ?_
            have a7 : Aft X.K G Wf σ (rpW X.K G) ι1 h1 H1 (finN (addN seen zz) ys h5) Q := a6
            rw [z] at a7
            exact a7
        have hsl : seen.length ≤ (addN seen zz).length := by
          unfold addN
          cases memN zz seen with
          | true => exact Nat.le_refl _
          | false => simp
        have el : kvs.length = seen.length := by
          have := congrArg List.length ks
          simpa using this
        refine ⟨kvs, Sum.inr (S zz), rfl, kd, by rw [el, ← lim_eq]; omega, ?_⟩
        have n5 := Next.aside (o := .dK (putK kvs (Sum.inr (S zz)) (.bl true))) (n'.trans (n2.trans n4)) hD kd rfl kl
        exact ⟨ι4, h4, fs, addN seen zz, _, by simp only [List.length_cons] at hm; omega, hfx, n5, upd_same, kl, put_keys ks, a6⟩
      | _ => exact False.elim a4
theorem dc_mono {wi : TI} {g : TG} {tt : TT} {tk tv : TE} {vs : List Nat} {σ : St} {H : Hp} {Q Q' : VK} (wm : ∀ R R' : It → Hp → Prop, (∀ J H, R J H → R' J H) → wi σ H R → wi σ H R') (h : tDc wi g tt tk tv vs σ H Q) (k : ∀ v H, Q v H → Q' v H) : tDc wi g tt tk tv vs σ H Q' := by
  refine wm _ _ (fun J H1 q D hD => ?_) h
  obtain ⟨W, w0, turn⟩ := q D hD
  refine ⟨W, w0, fun i m H w => ?_⟩
  rcases turn i m H w with ⟨st, z⟩ | z
  · exact .inl ⟨st, k _ _ z⟩
  · exact .inr z
theorem pz_dcl {kx tg iter : Expr} {scope : Scope} {own : List (Str × Nat)} {pos2 cp : Pos} {jj : Nat} {mi : Ev → M Itz} {ct : CT} {me : Ev → M W} (hc : X.calm = true) (hN : X.N.Nodup) (hg : Gl X "len") (hm : X.mg "len" = none) (hi : PZI false X G Wf tg iter mi) (ok : BlkOk X.N X.env.scope scope own) (hct : ∀ i ∈ ct.own, i ∈ own.map (·.2))
    (hgt : ∀ (s : Shared) (H : Hp) (C : Addr) (cl : List (Str × Addr)) (fp : List Addr), PG (X.blk s H scope (compEnvC scope cl C X.env) fp) tg (gCT X.K ct)) (he : ∀ (s : Shared) (H : Hp) (C : Addr) (cl : List (Str × Addr)) (fp : List Addr), PZ false (X.blk s H scope (compEnvC scope cl C X.env) fp) G W0 kx me)
    (hs : ∀ x, foldedSetIterable iter X.env x = pure x) : PZ b X G Wf (.Call (.Name "len" p) [.DictComp kx (.Constant (.bool true) jj cp) [⟨tg, iter, [], 0⟩] scope pos2] [] pos) (zdcl (own.map (·.2)) mi ct me) := by
  refine PZ.of' (pe_callB call_lenD hg hm (by rfl) (pa_cons (pe_dc (g := gCT X.K ct) (tt := tYes) (tk := tZ X.K G W0 me) (tv := tC (.bl true)) hc hN (pi_of hi) ok hgt (fun s H C cl fp => pts_nil) (fun s H C cl fp => (he s H C cl fp).pe) (fun s H C cl fp => pe_bl) hs) pa_nil (by rfl)) (by decide) (by decide) (by rfl) (by rfl)) fun pins s σ H ι h ρ Q I r sr a => ?_
  show tDc (tZI X.K G Wf mi) (gCT X.K ct) tYes (tZ X.K G W0 me) (tC (.bl true)) (own.map (·.2)) σ H (fun v H1 => ∃ a kvs, [v] = [V.ref a] ∧ H1 a = some (.dK kvs) ∧ Q (.int kvs.length) H1)
  exact dc_mono (fun R R' hR ⟨ι, h, ρ, r, sr, a⟩ => ⟨ι, h, ρ, r, sr, a.imp hR⟩) (dc_after (own_ix ok) hct I r sr a) fun v H' ⟨ad, kvs, ev, eD, q⟩ => ⟨ad, kvs, by rw [ev], eD, q⟩
end
end Z

set_option Elab.async false
set_option linter.all false
set_option maxRecDepth 100000
set_option maxHeartbeats 1000000
set_option autoImplicit false
namespace Z
open PySem L2
open PyProof.Rows hiding St

def startZ (n : Nat) (ws : List W) : Ev := ws.map some ++ List.replicate (n - ws.length) none
def endZ : RS → R W
  | .ok .next _ h => .ok .non h
  | .ok (.ret w) _ h => .ok w h
  | .ok .brk _ _ => .err
  | .ok .cnt _ _ => .err
  | .exc c fs _ h => .exc c fs h
  | .err => .err
/-- a def with n slots and the body m -/
def runZ (n : Nat) (m : MS) (ws : List W) : M W := fun h => endZ (m (startZ n ws) h)

section
variable {P : Program} {w : World} {K : PySem.W.Frag} {mg : Str → Option Value} {base : Heap} {G : Gt} {x qual : Str} {params : Arguments} {body : List Stmt} {scope : Scope} {dvs : List V} {kws : List (Str × V)} {f : Addr} {fd : FuncData} {N ps : List Str} {k n : Nat} {m : MS}
/-- the context of a def's body -/
abbrev cxZ (P : Program) (w : World) (K : PySem.W.Frag) (mg : Str → Option Value) (base : Heap) (N : List Str) (qual : Str) (scope : Scope) (f : Addr) (cdv : Value) (A : Around) (outer : List Env) (s : Shared) (H : Hp) (E : XK) : Cx := cxOf (CX P w) P w K mg base N qual scope f cdv A outer s H E
abbrev wfZ (E : XK) : WX := fun cls d _ H' => E cls d H'
theorem takesZ {cdv : Value} {A : Around} {outer : List Env} {s : Shared} {H : Hp} {E : XK} : Takes (cxZ P w K mg base N qual scope f cdv A outer s H E) (wfZ E) :=
  takes_of (E₁ := fun e' s'' => CX P w outer H s E e' s'') rfl rfl rfl rfl
theorem ownZ {cdv : Value} {A : Around} {outer : List Env} {s : Shared} {H : Hp} {E : XK} : PassesOwn (model P w) (cxZ P w K mg base N qual scope f cdv A outer s H E).A (cxZ P w K mg base N qual scope f cdv A outer s H E).env (cxZ P w K mg base N qual scope f cdv A outer s H E).xe :=
  passes_of (X := cxZ P w K mg base N qual scope f cdv A outer s H E) (K := fun e s'' => CX P w outer H s E e s'') (E₁ := fun e' s'' => CX P w outer H s E e' s'') rfl
theorem start_rep {ι : Nat → Addr} {h : Hz} {H : Hp} {ws : List W} {vs : List V} (rs : Reps K G ι h H ws vs) (hn : N.length = n) : SRep K G ι h H (startZ n ws) (L2.start N vs) := by
  refine ⟨by unfold startZ L2.start; simp only [List.length_append, List.length_map, List.length_replicate, rs.length, hn]; omega, ?_⟩
  intro i v e
  unfold startZ at e
  unfold L2.start
  by_cases hi : i < ws.length
  · rw [List.getElem?_append_left (by simpa using hi), List.getElem?_map] at e
    cases q : ws[i]? with
    | none => rw [q] at e; cases e
    | some w' =>
      rw [q] at e
      cases e
      obtain ⟨u, eu, pu⟩ := rs.get q
      refine ⟨u, ?_, .inl pu⟩
      rw [List.getElem?_append_left (by simpa [rs.length] using hi), List.getElem?_map, eu]
      rfl
  · rw [List.getElem?_append_right (by simpa using hi)] at e
    have := List.mem_of_getElem? e
    have z := List.eq_of_mem_replicate this
    cases z
/-- what is wanted of the body, from what is wanted of the def -/
theorem end_after {ι : Nat → Addr} {h : Hz} {H : Hp} {r : RS} {Q : VK} {E : XK} (a : Aft K G (wfZ E) [] (rpW K G) ι h H (endZ r) Q) : AftS K G (wfZ E) ι h H r { nx := fun _ H' => Q .non H', rt := Q, bk := fun _ _ => False, ct := fun _ _ => False } := by
  cases r with
  | ok fl ρ h' =>
    cases fl with
    | next => exact fun ι' H' σ' n' _ => a ι' H' .non n' .non
    | ret w => exact a
    | brk => exact False.elim a
    | cnt => exact False.elim a
  | exc c fs ρ h' => exact fun ι' H' σ' d n' _ q => a ι' H' d n' q
  | err => exact a
theorem fnZL (F : FunD K x qual params body scope dvs kws f fd) (S : FnScope N ps scope) (hn : N.length = n)
    (hb : ∀ (cdv : Value) (A : Around) (outer : List Env) (s : Shared) (H : Hp) (E : XK) (no : Addr → Prop), L2.Room k (A.deeper (envOfC qual scope s.heap.objs.size f cdv)) → PZSs false (cxZ P w K mg base N qual scope f cdv A outer s H E) (G.wn no) (wfZ E) body m) :
    L2.FnOk P w K mg base (CX P w) (k + 1) f fd ps (spZ K G ps.length (runZ n m)) := by
  refine F.ok S (fun vs H Q E h => h.1) fun cdv A outer s H vs Q E hr h => ?_
  obtain ⟨hl, no, ι, h, ws, r, rs, a⟩ := h
  refine ⟨fun D σ H' => ∃ ι h ρ, HRep K (G.wn no) ι h H' ∧ SRep K (G.wn no) ι h H' ρ σ ∧ AftS K (G.wn no) (wfZ E) ι h H' (m ρ h) D, ⟨fun pins s' σ H' D I ⟨ι, h, ρ, r, sr, a⟩ => thn ((hb cdv A outer s H E no hr).run pins s' σ H' ι h ρ D (fun z => nomatch z) I r sr a) fun _ _ q => q.2⟩, ι, h, startZ n ws, r, start_rep rs hn, ?_⟩
  exact (end_after a).imp (fun _ _ q => q) (fun _ _ q => q) (fun _ _ q => q.elim) (fun _ _ q => q.elim)
/-- the entry of a def, by its body -/
theorem fn_in {CX : CXT} {sp : Sp} (F : FunD K x qual params body scope dvs kws f fd) (S : FnScope N ps scope) (len : ∀ vs H Q E, sp vs H Q E → vs.length = ps.length)
    (hbody : ∀ (cdv : Value) (A : Around) (outer : List Env) (s : Shared) (H : Hp) (vs : List V) (Q : VK) (E : XK), Room k (A.deeper (envOfC qual scope s.heap.objs.size f cdv)) → sp vs H Q E →
      ∃ t, PSs (cxOf CX P w K mg base N qual scope f cdv A outer s H E) body t ∧ t { nx := fun _ H' => Q .non H', rt := Q } (start N vs) H) : FnOk P w K mg base CX (k + 1) f fd ps sp := by
  obtain ⟨oc, od, dV, kV, doc, pm, an, cdv, ct, osl, rfl, lk, hcd, _, _⟩ := F.ex
  refine ⟨len, fun A outer s H args us vs Q E hr e0 hb r q => ?_⟩
  have kx := e0.mod.kin.keeps fun b o e => (e0.bs b o e).1
  have lm := e0.mod.nolimit.keeps fun b o e => (e0.bs b o e).1
  refine codeAny_call_function hr.rm.depth (kx _ _ lk) rfl S.co S.gen rfl (PySem.W.codeRec_of kx hcd) (hb _ _ _ _ (wpAny_newFunctionEnv_cells S.kind (fun y hy => ?_) fun env he s1 x => ?_))
  · rcases S.par y.1 (List.of_mem_zip (show (y.1, y.2) ∈ ps.zip us from hy)).1 with z | z
    · exact .inl z
    · exact .inr ⟨z, PySem.W.cellsFrom_some _ _ _ (.inl z)⟩
  · subst he
    obtain ⟨t, ht, hq⟩ := hbody cdv A outer s H vs Q E (hr.deeper _) q
    refine ⟨lm.keeps x.toInCall.keep, codeAny_func (wpAny_mono (ht.run [] s1 (start N vs) H _ (inv_start S hr.rm.hd e0 (len _ _ _ _ q) r x) hq) (fun fl s' z => ?_) fun _ _ z => z)⟩
    cases fl with
    | ret u => obtain ⟨v, _, H', J, rv, z⟩ := z; exact ⟨v, H', J.os, J.bare, J.base, J.hok, rv, z⟩
    | next => obtain ⟨_, H', J, z⟩ := z; exact ⟨.non, H', J.os, J.bare, J.base, J.hok, rfl, z⟩
    | brk => obtain ⟨_, _, _, z⟩ := z; exact False.elim z
    | cont => obtain ⟨_, _, _, z⟩ := z; exact False.elim z
theorem fnZ (F : FunD K x qual params body scope dvs kws f fd) (S : FnScope N ps scope) (hn : N.length = n)
    (hb : ∀ (cdv : Value) (A : Around) (outer : List Env) (s : Shared) (H : Hp) (E : XK) (no : Addr → Prop), Room k (A.deeper (envOfC qual scope s.heap.objs.size f cdv)) → PZSs false (cxZ P w K mg base N qual scope f cdv A outer s H E) (G.wn no) (wfZ E) body m) :
    FnOk P w K mg base (CX P w) (k + 1) f fd ps (spZ K G ps.length (runZ n m)) := by
  refine fn_in F S (fun vs H Q E h => h.1) fun cdv A outer s H vs Q E hr h => ?_
  obtain ⟨hl, no, ι, h, ws, r, rs, a⟩ := h
  refine ⟨fun D σ H' => ∃ ι h ρ, HRep K (G.wn no) ι h H' ∧ SRep K (G.wn no) ι h H' ρ σ ∧ AftS K (G.wn no) (wfZ E) ι h H' (m ρ h) D, ⟨fun pins s' σ H' D I ⟨ι, h, ρ, r, sr, a⟩ => thn ((hb cdv A outer s H E no hr).run pins s' σ H' ι h ρ D (fun z => nomatch z) I r sr a) fun _ _ q => q.2⟩, ι, h, startZ n ws, r, start_rep rs hn, ?_⟩
  exact (end_after a).imp (fun _ _ q => q) (fun _ _ q => q) (fun _ _ q => q.elim) (fun _ _ q => q.elim)
theorem fn_badL {F : FuncData} : L2.FnOk P w K mg base (CX P w) k f fd ps (spZ K G ps.length (fun _ => bad)) :=
  ⟨fun vs H Q E h => h.1, fun A outer s H args us vs Q E hr e0 hb r h => False.elim (by obtain ⟨_, _, ι, h, ws, _, _, a⟩ := h; exact a)⟩
/-- at level 0 nothing is promised -/
theorem fn_bad {F : FuncData} : FnOk P w K mg base (CX P w) k f fd ps (spZ K G ps.length (fun _ => bad)) :=
  ⟨fun vs H Q E h => h.1, fun A outer s H args us vs Q E hr e0 hb r h => False.elim (by obtain ⟨_, _, ι, h, ws, _, _, a⟩ := h; exact a)⟩
end

section
variable {X : Cx} {G : Gt} {x qual : Str} {params : Arguments} {body : List Stmt} {scope : Scope} {dvs : List V} {kws : List (Str × V)} {f : Addr} {fd : FuncData} {ps : List Str} {k : Nat}
def gId : List W → List W → List W := fun ws _ => ws
theorem bn_all (F : FunD X.K x qual params body scope [] kws f fd)
    (h : ∀ (kV doc pm : Value) (an : Option Addr) (cdv ct : Value) (us : List Value), us.length = ps.length → bindArgs (PySem.W.fnOf x qual params body scope .none kV doc pm an cdv ct) ⟨us, []⟩ = pure (ps.zip us)) : BnOk X G fd ps ps.length [] gId := by
  intro s H ι h' us zs vs ys ws qs hK r hl hz r1 r2 p1 p2
  have B := F.bindsN h
  refine ⟨us, vs, ?_, r1, p1, by rw [r1.length, hl]⟩
  have q := B s us hK (by simpa using hl)
  rw [List.append_nil] at q
  exact q
/-- the last ones by default (a tuple of values), no keywords -/
theorem bn_dfl {n j : Nat} {dws : List W} (F : FunD X.K x qual params body scope dvs kws f fd) (hd : dvs ≠ []) (hn : n + (dvs.length - j) = ps.length) (hr : ∀ ι h H, HRep X.K G ι h H → Reps X.K G ι h H dws (dvs.drop j))
    (h : ∀ (T : Addr) (kV doc pm : Value) (an : Option Addr) (cdv ct : Value) (us its : List Value), us.length = n → its.length = dvs.length →
      ∃ k, bindArgs (PySem.W.fnOf x qual params body scope (.ref T) kV doc pm an cdv ct) ⟨us, []⟩ = seqItems? (.ref T) >>= k ∧ k (some its.toArray) = pure (ps.zip (us ++ its.drop j))) : BnOk X G fd ps n [] (fun ws _ => ws ++ dws) := by
  intro s H ι h' us zs vs ys ws qs hK r hl hz r1 r2 p1 p2
  obtain ⟨ds, rd, B⟩ := F.binds1 n j hd hn h
  have el : (us ++ ds).length = ps.length := by
    have e1 := rd.length
    rw [List.length_drop] at e1
    rw [List.length_append, hl, ← e1]; exact hn
  exact ⟨us ++ ds, vs ++ dvs.drop j, B s us hK el, r1.append rd, p1.append (hr ι h' H r), by rw [List.length_append, r1.length, rd.length, ← List.length_append, el]⟩
/-- keyword-only parameters by default -/
theorem bn_kwd {n : Nat} {dws : List W} (F : FunD X.K x qual params body scope [] kws f fd) (hk : kws ≠ []) (hn : n + kws.length = ps.length) (hr : ∀ ι h H, HRep X.K G ι h H → Reps X.K G ι h H dws (kws.map (·.2)))
    (h : ∀ (D : Addr) (doc pm : Value) (an : Option Addr) (cdv ct : Value) (us ks : List Value), us.length = n → ks.length = kws.length →
      KwChain D ((kws.map (·.1)).zip ks) (bindArgs (PySem.W.fnOf x qual params body scope .none (.ref D) doc pm an cdv ct) ⟨us, []⟩) (ps.zip (us ++ ks))) : BnOk X G fd ps n [] (fun ws _ => ws ++ dws) := by
  intro s H ι h' us zs vs ys ws qs hK r hl hz r1 r2 p1 p2
  obtain ⟨ds, rd, B⟩ := F.binds0 n hk hn h
  have el : (us ++ ds).length = ps.length := by
    have e1 := rd.length
    rw [List.length_map] at e1
    rw [List.length_append, hl, ← e1]; exact hn
  exact ⟨us ++ ds, vs ++ kws.map (·.2), B s us hK el, r1.append rd, p1.append (hr ι h' H r), by rw [List.length_append, r1.length, rd.length, ← List.length_append, el]⟩
/-- keywords that are all given: what bindArgs does is told at once -/
theorem bn_kw {n : Nat} {ks : List Str} {g : List W → List W → List W} {gv : {α : Type} → List α → List α → List α} (F : FunD X.K x qual params body scope dvs kws f fd)
    (hg : ∀ (ι : Nat → Addr) (h : Hz) (H : Hp) (ws qs : List W) (vs ys : List V), ws.length = n → qs.length = ks.length → Reps X.K G ι h H ws vs → Reps X.K G ι h H qs ys → Reps X.K G ι h H (g ws qs) (gv vs ys))
    (hv : ∀ (vs ys : List V) (us zs : List Value), us.length = n → zs.length = ks.length → Vals vs us → Vals ys zs → Vals (gv vs ys) (gv us zs)) (hl' : ∀ (us zs : List Value), us.length = n → zs.length = ks.length → (gv us zs).length = ps.length)
    (h : ∀ (dV kV doc pm : Value) (an : Option Addr) (cdv ct : Value) (us zs : List Value), us.length = n → zs.length = ks.length → bindArgs (PySem.W.fnOf x qual params body scope dV kV doc pm an cdv ct) ⟨us, ks.zip zs⟩ = pure (ps.zip (gv us zs))) : BnOk X G fd ps n ks g := by
  intro s H ι h' us zs vs ys ws qs hK r hl hz r1 r2 p1 p2
  obtain ⟨oc, od, dV, kV, doc, pm, an, cdv, ct, osl, rfl, lk, hcd, hD, hKw⟩ := F.ex
  have e1 : ws.length = n := by rw [p1.length, r1.length, hl]
  have e2 : qs.length = ks.length := by rw [p2.length, r2.length, hz]
  have hvv := hv vs ys us zs hl hz r1 r2
  exact ⟨gv us zs, gv vs ys, .of_eq (h dV kV doc pm an cdv ct us zs hl hz), hvv, hg ι h' H ws qs vs ys e1 e2 p1 p2, by rw [hvv.length, hl' us zs hl hz]⟩
end
end Z

set_option Elab.async false
set_option linter.all false
set_option maxRecDepth 100000
set_option maxHeartbeats 1000000
set_option autoImplicit false
namespace Z
open PySem L2
open PyProof.Rows hiding St

theorem Next.same {K : PySem.W.Frag} {G : Gt} {ι ι' : Nat → Addr} {h : Hz} {H H' : Hp} (n : Next K G ι h H ι' h H') : Next K G ι h H ι h H' := by
  have n0 : Nx0 ι' h H' ι h H' := ⟨fun i hi => (n.ext i hi).symm, Nat.le_refl _, fun _ _ e _ => e, fun _ e => e, fun i a b => absurd (Nat.lt_of_le_of_lt a b) (Nat.lt_irrefl _), fun i c _ e l => ⟨c, e, l⟩⟩
  refine ⟨⟨fun _ _ => rfl, Nat.le_refl _, n.keep, n.there, fun i a b => absurd (Nat.lt_of_le_of_lt a b) (Nat.lt_irrefl _), fun i c _ e l => ⟨c, e, l⟩⟩, ⟨fun i c g => ?_, fun i j c d gi gj lc ld q => ?_, n.rep.no, fun i c g lc z => n.rep.off i c g lc (by rw [n.ext i (Hz.get_lt g)]; exact z)⟩⟩
  · have cr := n.rep.cell i c g
    rw [n.ext i (Hz.get_lt g)] at cr
    exact cr.move (fun _ _ => Rep.next n.rep n0) (fun _ _ => Reps.next n.rep n0) (fun _ _ => RepF.next n.rep n0) fun u z => z
  · refine n.rep.inj i j c d gi gj lc ld ?_
    rw [n.ext i (Hz.get_lt gi), n.ext j (Hz.get_lt gj)]
    exact q
section
variable {X : Cx} {G : Gt} {Wf : WX} {E : ET} {n : Nat}
/-- what the top and the level tell of a class's own == -/
structure OwnD (X : Cx) (G : Gt) (E : ET) (n : Nat) (c : Nat) : Prop where
  cls : Cls X.K (G.cl c)
  nf : ∀ d, (E.lookup d).isSome = true → PySem.W.notFirst X.K (G.cl c) (.ref (G.cl d)) = true
  fn : ∃ i fd fw, PySem.W.findIn X.K (.ref (G.cl c)) "__eq__" = some (some (.ref (G.fn i))) ∧ PySem.W.isFn X.K (.ref (G.fn i)) = true ∧ (∃ p q, L2.FnOk X.prog X.w X.K X.mg X.base (CX X.prog X.w) (n + 1) (G.fn i) fd [p, q] (spZ X.K G 2 fw) ∧ Binds X.K fd [p, q] []) ∧
    ∀ (h : Hz) (x y : W) (fs : List (Nat × W)) (k : Bool), kind h x = .obj c fs → zeqK E (zeq E h n) (.obj c fs) (kind h y) = some k → fw [x, y] h = .ok (.bl k) h
theorem ownS_of (tkx : Takes X Wf) (D : ∀ c ks, E.lookup c = some ks → OwnD X G E n c) : OwnS X G E n := by
  intro c ks hc
  obtain ⟨cl, nf, i, fd, fw, hs, hf, ⟨p, q, F, B⟩, val⟩ := D c ks hc
  refine ⟨cl, nf, G.fn i, hs, hf, fun A pins s σ H ι h x y v1 v2 u1 u2 k fs sb I r p1 p2 r1 r2 kx kz => ?_⟩
  have e0 : Env0 X.prog X.w X.K X.mg X.base A X.stack s H := by
    have e := I.env0
    exact ⟨by rw [sb.fr]; exact e.frames, e.mod, e.bs, e.bsz, e.funs, e.frf, e.hok, e.bare⟩
  have rv : Vals [v1, v2] [u1, u2] := .cons r1 (.cons r2 .nil)
  have hb : BindsTo s fd ⟨[u1, u2], []⟩ ([p, q].zip [u1, u2]) := by
    have := B s [u1, u2] I.kIn rfl
    simpa using this
  have sp : spZ X.K G 2 fw [v1, v2] H (fun v H' => v = .bl k ∧ Next X.K G ι h H ι h H') (fun _ _ _ => False) := by
    refine ⟨rfl, G.no, ι, h, [x, y], r, .cons p1 (.cons p2 .nil), ?_⟩
    rw [val h x y fs k kx kz]
    intro ι' H' v nx pv
    cases pv
    exact ⟨rfl, nx.same⟩
  refine wpAny_call (codeAny_mono (F.run A X.stack s H ⟨[u1, u2], []⟩ [u1, u2] [v1, v2] _ _ sb.room e0 hb rv sp) fun res s' hq => ?_)
  cases res with
  | error e => exact tkx e s' (XE.of_call (E := fun _ _ _ => False) I (fun _ _ _ z => z.elim) hq)
  | ok fl =>
    cases fl with
    | ret u =>
      obtain ⟨v, H', I', rv', ev, nx⟩ := I.after hq
      subst ev
      cases rv'
      exact ⟨rfl, H', I', nx⟩
    | next => exact False.elim hq
    | brk => exact False.elim hq
    | cont => exact False.elim hq
/-- == at all levels, from the own ==s at all levels -/
theorem eq_all (nj : NmInj G) (cj : ClInj G E) (tkx : Takes X Wf) : ∀ (n : Nat), (∀ j, j < n → ∀ c ks, E.lookup c = some ks → OwnD X G E j c) → EqS X G E n ∧ NeS X G E n
  | 0, _ => ⟨eqS_zero, neS_zero⟩
  | n + 1, D => by
    obtain ⟨e1, _⟩ := eq_all nj cj tkx n fun j hj => D j (Nat.lt_succ_of_lt hj)
    have eb := eqB_of nj cj e1
    exact ⟨eqS_step eb (ownS_of tkx (D n (Nat.lt_succ_self _))), neS_step eb⟩
/-- the body of an own ==: isinstance(other, C) and self.f == other.f and .. -/
def andEq (E : ET) (n c : Nat) : List Nat → Ev → M W
  | [] => fun _ => bad
  | [f] => zbin (zcmpEq E n) (zfld [c] f (zvar 0)) (zfld [c] f (zvar 1))
  | f :: fs => zandV (zbin (zcmpEq E n) (zfld [c] f (zvar 0)) (zfld [c] f (zvar 1))) (andEq E n c fs)
def eqBody (E : ET) (n c : Nat) (isi : Kd → Option Bool) (fs : List Nat) : MS := sseq (sret (zandV (zisi isi (zvar 1)) (andEq E n c fs))) snil
end

section
variable {K : PySem.W.Frag} {G : Gt}
def tyName : Kd → Option String
  | .non => some "NoneType"
  | .bl _ => some "bool"
  | .int _ => some "int"
  | .str _ => some "str"
  | .tup _ => some "tuple"
  | .lst _ => some "list"
  | _ => none
/-- a built-in type asked for: 0 int, 1 bool, 2 str, 3 list, 4 tuple -/
def isiB (t : Nat) : Kd → Bool
  | .int _ => Nat.beq t 0
  | .bl _ => Nat.beq t 0 || Nat.beq t 1
  | .str _ => Nat.beq t 2
  | .lst _ => Nat.beq t 3
  | .tup _ => Nat.beq t 4
  | _ => false
/-- isinstance(.., (built-in types ts, classes cs)); classes known: all -/
def isiF (all ts cs : List Nat) (k : Kd) : Option Bool := match k with
  | .no => none
  | .obj c _ => if all.contains c = true then some (cs.any fun d => Nat.beq c d) else none
  | k => some (ts.any fun t => isiB t k)
/-- the fields of an object, by its kind -/
theorem fld_kind {h : Hz} {x : W} {c f : Nat} {fs : List (Nat × W)} (kx : kind h x = .obj c fs) : zfldW [c] f x h = ofO (fs.lookup f) h := by
  have hc : [c].contains c = true := by simp
  cases x with
  | obj d gs =>
    have e : Kd.obj d gs = Kd.obj c fs := kx
    cases e
    show (if [c].contains c = true then ofO (List.lookup f fs) else bad) h = _
    rw [if_pos hc]
  | ref i =>
    have e : kindC (h.get i) = .obj c fs := kx
    cases g : h.get i with
    | none => rw [g] at e; cases e
    | some d =>
      rw [g] at e
      cases d with
      | ins d gs =>
        have e2 : Kd.obj d gs = Kd.obj c fs := e
        cases e2
        unfold zfldW
        simp only [g, hc, if_true]
      | lst _ => cases e
      | dct _ => cases e
      | dead => cases e
  | _ => cases kx
theorem zvar_of {ρ : Ev} {i : Nat} {w : W} {h : Hz} (e : ρ.getD i none = some w) (hk : kind h w ≠ .no) : zvar i ρ = ret w := by
  unfold zvar
  rw [e]
  cases w with
  | exv c fs => exact absurd rfl hk
  | _ => rfl
theorem fld_pair {E : ET} {n c f : Nat} {h : Hz} {x y a b' : W} {fs gs : List (Nat × W)} {p : Bool} (kx : kind h x = .obj c fs) (ky : kind h y = .obj c gs) (e1 : fs.lookup f = some a) (e2 : gs.lookup f = some b') (e3 : zeq E h n a b' = some p) :
    zbin (zcmpEq E n) (zfld [c] f (zvar 0)) (zfld [c] f (zvar 1)) [some x, some y] h = .ok (.bl p) h := by
  have h0 : zfld [c] f (zvar 0) [some x, some y] h = .ok a h := by
    unfold zfld
    rw [zvar_of (h := h) (w := x) rfl (by rw [kx]; simp)]
    show zfldW [c] f x h = _
    rw [fld_kind kx, e1]; rfl
  have h1 : zfld [c] f (zvar 1) [some x, some y] h = .ok b' h := by
    unfold zfld
    rw [zvar_of (h := h) (w := y) rfl (by rw [ky]; simp)]
    show zfldW [c] f y h = _
    rw [fld_kind ky, e2]; rfl
  unfold zbin
  rw [bnd_okk h0, bnd_okk h1]
  unfold zcmpEq
  rw [e3]
theorem andEq_val {E : ET} {n c : Nat} {h : Hz} {x y : W} {fs gs : List (Nat × W)} (kx : kind h x = .obj c fs) (ky : kind h y = .obj c gs) : ∀ (ks : List Nat) (k : Bool), ks ≠ [] → zflds (zeq E h n) fs gs ks = some k → andEq E n c ks [some x, some y] h = .ok (.bl k) h
  | [], k, ne, _ => absurd rfl ne
  | f :: ks, k, _, e => by
    unfold zflds at e
    cases e1 : fs.lookup f with
    | none => rw [e1] at e; cases e
    | some a =>
      cases e2 : gs.lookup f with
      | none => rw [e1, e2] at e; cases e
      | some b' =>
        rw [e1, e2] at e
        cases e3 : zeq E h n a b' with
        | none => simp only [e3] at e; cases e
        | some p =>
          simp only [e3] at e
          cases e4 : zflds (zeq E h n) fs gs ks with
          | none => rw [e4] at e; cases e
          | some q =>
            rw [e4] at e
            have hk : (p && q) = k := by simpa using e
            have hp := fld_pair (n := n) kx ky e1 e2 e3
            cases ks with
            | nil =>
              have hq : q = true := by simp [zflds] at e4; exact e4
              rw [hq, Bool.and_true] at hk
              subst hk
              exact hp
            | cons g r =>
              show zandV _ (andEq E n c (g :: r)) _ h = _
              unfold zandV
              rw [bnd_okk hp]
              cases p with
              | false =>
                rw [Bool.false_and] at hk
                subst hk
                rfl
              | true =>
                rw [Bool.true_and] at hk
                subst hk
                exact andEq_val kx ky (g :: r) q (by simp) e4
theorem eqBody_val {E : ET} {n c : Nat} {all ks : List Nat} (hc : E.lookup c = some ks) (hne : ks ≠ []) (ha : ∀ d, (E.lookup d).isSome = true → all.contains d = true) (h : Hz) (x y : W) (fs : List (Nat × W)) (k : Bool) (kx : kind h x = .obj c fs)
    (e : zeqK E (zeq E h n) (.obj c fs) (kind h y) = some k) : runZ 2 (eqBody E n c (isiF all [] [c]) ks) [x, y] h = .ok (.bl k) h := by
  have e' : zeqO E (zeq E h n) c fs (kind h y) = some k := e
  unfold zeqO at e'
  rw [hc] at e'
  -- the answer of isinstance, then what stands behind and
  have step : ∀ b, isiF all [] [c] (kind h y) = some b → (b = true → andEq E n c ks [some x, some y] h = .ok (.bl k) h) → (b = false → k = false) → runZ 2 (eqBody E n c (isiF all [] [c]) ks) [x, y] h = .ok (.bl k) h := fun b eb ht hf => by
    have h1 : zisi (isiF all [] [c]) (zvar 1) [some x, some y] h = .ok (.bl b) h := by
      have hy : kind h y ≠ .no := fun z => by rw [z] at eb; cases eb
      unfold zisi
      rw [zvar_of (h := h) (w := y) rfl hy]
      show (match isiF all [] [c] (kind h y) with | some k => R.ok (W.bl k) h | none => .err) = _
      rw [eb]
    have h2 : zandV (zisi (isiF all [] [c]) (zvar 1)) (andEq E n c ks) [some x, some y] h = .ok (.bl k) h := by
      unfold zandV
      rw [bnd_okk h1]
      cases b with
      | true => exact ht rfl
      | false => rw [hf rfl]; rfl
    show endZ (sseq (sret (zandV (zisi (isiF all [] [c]) (zvar 1)) (andEq E n c ks))) snil [some x, some y] h) = _
    have h3 : sret (zandV (zisi (isiF all [] [c]) (zvar 1)) (andEq E n c ks)) [some x, some y] h = .ok (.ret (.bl k)) [some x, some y] h := by
      unfold sret sbnd
      rw [h2]
    unfold sseq
    rw [h3]
    rfl
  cases ky : kind h y with
  | no => rw [ky] at e'; cases e'
  | obj d gs =>
    rw [ky] at e'
    have e2 : (if c = d then zflds (zeq E h n) fs gs ks else (E.lookup d).map fun _ => false) = some k := e'
    by_cases cd : c = d
    · subst cd
      rw [if_pos rfl] at e2
      refine step true ?_ (fun _ => andEq_val kx ky ks k hne e2) (fun z => nomatch z)
      rw [ky]
      show (if all.contains c = true then some ([c].any fun d => Nat.beq c d) else none) = _
      rw [if_pos (ha c (by rw [hc]; rfl))]
      simp
    · rw [if_neg cd] at e2
      cases ed : E.lookup d with
      | none => rw [ed] at e2; cases e2
      | some kd =>
        rw [ed] at e2
        have hk : k = false := by simpa using e2.symm
        refine step false ?_ (fun z => nomatch z) (fun _ => hk)
        rw [ky]
        show (if all.contains d = true then some ([c].any fun c' => Nat.beq d c') else none) = _
        rw [if_pos (ha d (by rw [ed]; rfl))]
        have : Nat.beq d c = false := by
          cases q : Nat.beq d c with
          | false => rfl
          | true => exact absurd (Nat.eq_of_beq_eq_true q).symm cd
        simp [this]
  | non => rw [ky] at e'; exact step false (by rw [ky]; rfl) (fun z => nomatch z) (fun _ => (Option.some.inj e').symm)
  | bl _ => rw [ky] at e'; exact step false (by rw [ky]; rfl) (fun z => nomatch z) (fun _ => (Option.some.inj e').symm)
  | int _ => rw [ky] at e'; exact step false (by rw [ky]; rfl) (fun z => nomatch z) (fun _ => (Option.some.inj e').symm)
  | str _ => rw [ky] at e'; exact step false (by rw [ky]; rfl) (fun z => nomatch z) (fun _ => (Option.some.inj e').symm)
  | tup _ => rw [ky] at e'; exact step false (by rw [ky]; rfl) (fun z => nomatch z) (fun _ => (Option.some.inj e').symm)
  | lst _ => rw [ky] at e'; exact step false (by rw [ky]; rfl) (fun z => nomatch z) (fun _ => (Option.some.inj e').symm)
end
end Z

set_option Elab.async false
set_option linter.all false
set_option maxRecDepth 100000
set_option maxHeartbeats 1000000
set_option autoImplicit false
namespace Z
open PySem L2
open PyProof.Rows hiding St

def tyVal : Nat → Value
  | 0 => .type "int"
  | 1 => .type "bool"
  | 2 => .type "str"
  | 3 => .type "list"
  | _ => .type "tuple"
def six : List String := ["NoneType", "bool", "int", "str", "tuple", "list"]
/-- what is asked of K for isinstance, the classes all -/
structure IsT (K : PySem.W.Frag) (G : Gt) (all : List Nat) : Prop where
  own : ∀ c ∈ all, ∀ T ∈ six, PySem.W.kitOne K (.type T) (.ref (G.cl c)) = some false
  bt : ∀ c ∈ all, ∀ t, t < 5 → PySem.W.kitOne K (.ref (G.cl c)) (tyVal t) = some false
  oo : ∀ c ∈ all, ∀ d ∈ all, PySem.W.kitOne K (.ref (G.cl c)) (.ref (G.cl d)) = some (Nat.beq c d)
  ty : ∀ c ∈ all, ∀ (H : Hp) (a dx : Addr) (gs : List (Str × V)), H a = some (.ins (G.cl c) dx gs) → TyX K H (.ref a) (.ref (G.cl c))
theorem IsT.wn {K : PySem.W.Frag} {G : Gt} {all : List Nat} {no : Addr → Prop} {xv : Addr → Option (Nat × Option Addr)} {hs : W → Int} (d : IsT K G all) : IsT K (Gt.mk G.fn G.cl G.nm no xv hs) all := ⟨d.own, d.bt, d.oo, d.ty⟩
section
variable {K : PySem.W.Frag} {G : Gt} {all : List Nat}
theorem kitAny_any {t : Value} : ∀ {us : List Value} {bs : List Bool}, us.length = bs.length → (∀ (i : Nat) u b, us[i]? = some u → bs[i]? = some b → PySem.W.kitOne K t u = some b) → PySem.W.kitAny K t us = some (bs.any fun b => b)
  | [], [], _, _ => rfl
  | u :: us, b :: bs, hl, h => by
    have h0 := h 0 u b rfl rfl
    have ih := kitAny_any (us := us) (bs := bs) (by simpa using hl) fun i u b h1 h2 => h (i + 1) u b (by simpa using h1) (by simpa using h2)
    unfold PySem.W.kitAny
    rw [h0]
    cases b with
    | true => rfl
    | false => exact ih
  | [], _ :: _, hl, _ => by cases hl
  | _ :: _, [], hl, _ => by cases hl
theorem kit_ts (t : Nat) (ht : t < 5) (k : Kd) (T : String) (e : tyName k = some T) : PySem.W.kitOne K (.type T) (tyVal t) = some (isiB t k) := by
  have cases5 : t = 0 ∨ t = 1 ∨ t = 2 ∨ t = 3 ∨ t = 4 := by omega
  cases k with
  | non => cases e; rcases cases5 with h | h | h | h | h <;> subst h <;> exact kit_ty (by kernel_rfl)
  | bl b => cases e; rcases cases5 with h | h | h | h | h <;> subst h <;> exact kit_ty (by kernel_rfl)
  | int b => cases e; rcases cases5 with h | h | h | h | h <;> subst h <;> exact kit_ty (by kernel_rfl)
  | str b => cases e; rcases cases5 with h | h | h | h | h <;> subst h <;> exact kit_ty (by kernel_rfl)
  | tup b => cases e; rcases cases5 with h | h | h | h | h <;> subst h <;> exact kit_ty (by kernel_rfl)
  | lst b => cases e; rcases cases5 with h | h | h | h | h <;> subst h <;> exact kit_ty (by kernel_rfl)
  | obj c fs => cases e
  | no => cases e
theorem six_of {k : Kd} {T : String} (e : tyName k = some T) : T ∈ six := by
  cases k <;> first | (cases e; decide) | cases e
/-- built-in types asked for -/
theorem isi_types (D : IsT K G all) {ts : List Nat} (hts : ∀ t ∈ ts, t < 5) : IsiOk K G (ts.map tyVal) (isiF all ts []) := by
  have bi : ∀ k T, tyName k = some T → PySem.W.kitAny K (.type T) (ts.map tyVal) = some (ts.any fun t => isiB t k) := fun k T e => by
    have q := kitAny_any (K := K) (t := .type T) (us := ts.map tyVal) (bs := ts.map fun t => isiB t k) (by simp) fun i u b h1 h2 => by
      rw [List.getElem?_map] at h1 h2
      cases et : ts[i]? with
      | none => rw [et] at h1; cases h1
      | some t =>
        rw [et] at h1 h2
        cases h1
        cases h2
        exact kit_ts t (hts t (List.mem_of_getElem? et)) k T e
    rw [q, List.any_map]
    rfl
  refine ⟨rfl, fun k t c et ec => ?_, fun c fs hs H a dx gs ha => ?_⟩
  · cases k with
    | no => cases et
    | obj c' fs =>
      cases et
      have ec' : (if all.contains c' = true then some (([] : List Nat).any fun d => Nat.beq c' d) else none) = some c := ec
      split at ec'
      · rename_i hc
        have hm : c' ∈ all := by simpa using hc
        cases ec'
        have q := kitAny_any (K := K) (t := .ref (G.cl c')) (us := ts.map tyVal) (bs := ts.map fun _ => false) (by simp) fun i u b h1 h2 => by
          rw [List.getElem?_map] at h1 h2
          cases et : ts[i]? with
          | none => rw [et] at h1; cases h1
          | some t =>
            rw [et] at h1 h2
            cases h1
            cases h2
            exact D.bt c' hm t (hts t (List.mem_of_getElem? et))
        rw [q]
        simp
      · cases ec'
    | non => cases et; cases ec; exact bi .non _ rfl
    | bl b => cases et; cases ec; exact bi (.bl b) _ rfl
    | int b => cases et; cases ec; exact bi (.int b) _ rfl
    | str b => cases et; cases ec; exact bi (.str b) _ rfl
    | tup b => cases et; cases ec; exact bi (.tup b) _ rfl
    | lst b => cases et; cases ec; exact bi (.lst b) _ rfl
  · have hs' : (if all.contains c = true then some (([] : List Nat).any fun d => Nat.beq c d) else none).isSome = true := hs
    split at hs'
    · rename_i hc
      exact D.ty c (by simpa using hc) H a dx gs ha
    · cases hs'
/-- a class of the text asked for -/
theorem isi_cls (D : IsT K G all) {d : Nat} (hd : d ∈ all) : IsiOk K G [.ref (G.cl d)] (isiF all [] [d]) := by
  have one : ∀ t b, PySem.W.kitOne K t (.ref (G.cl d)) = some b → PySem.W.kitAny K t [.ref (G.cl d)] = some b := fun t b e => by
    unfold PySem.W.kitAny
    rw [e]
    cases b <;> rfl
  refine ⟨rfl, fun k t c et ec => ?_, fun c fs hs H a dx gs ha => ?_⟩
  · cases k with
    | no => cases et
    | obj c' fs =>
      cases et
      have ec' : (if all.contains c' = true then some ([d].any fun d => Nat.beq c' d) else none) = some c := ec
      split at ec'
      · rename_i hc
        have hm : c' ∈ all := by simpa using hc
        cases ec'
        refine one _ _ ((D.oo c' hm d hd).trans ?_)
        simp
      · cases ec'
    | non => cases et; cases ec; exact one _ _ (D.own d hd _ (by decide))
    | bl b => cases et; cases ec; exact one _ _ (D.own d hd _ (by decide))
    | int b => cases et; cases ec; exact one _ _ (D.own d hd _ (by decide))
    | str b => cases et; cases ec; exact one _ _ (D.own d hd _ (by decide))
    | tup b => cases et; cases ec; exact one _ _ (D.own d hd _ (by decide))
    | lst b => cases et; cases ec; exact one _ _ (D.own d hd _ (by decide))
  · have hs' : (if all.contains c = true then some ([d].any fun d => Nat.beq c d) else none).isSome = true := hs
    split at hs'
    · rename_i hc
      exact D.ty c (by simpa using hc) H a dx gs ha
    · cases hs'
theorem cj_of {E : ET} (D : IsT K G all) (he : ∀ d, (E.lookup d).isSome = true → d ∈ all) : ClInj G E := fun c d hc hd e => by
  have q := D.oo c (he c hc) d (he d hd)
  rw [e] at q
  unfold PySem.W.kitOne at q
  rw [if_pos (by simp)] at q
  have : true = Nat.beq c d := Option.some.inj q
  exact Nat.eq_of_beq_eq_true this.symm
end
section
variable {X : Cx} {G : Gt} {x : Str} {p : Pos}
theorem car_ty {T : String} (hg : Gl X x) (hm : X.mg x = none) (hv : bootBuiltins x = some (.type T)) (hn : x ≠ "__name__") (hdb : (x == ("__debug__" : Str)) = false) : CAr X G (.Name x p) [.type T] := by
  intro pins s σ H ι h I r
  exact ld_blt I hg hm hv ⟨H, I, Next.refl r, .one (.ty T) rfl⟩ hn hdb
theorem car_cls {c : Nat} (hg : Gl X x) (hm : X.mg x = some (.ref (G.cl c))) (hdb : (x == ("__debug__" : Str)) = false) : CAr X G (.Name x p) [.ref (G.cl c)] := by
  intro pins s σ H ι h I r
  exact ld_glob I hg hm ⟨H, I, Next.refl r, .one (.own _) rfl⟩ hdb
theorem car_two {x y : Str} {p q pos : Pos} {k : Nat} {T U : String} (hg : Gl X x) (hm : X.mg x = none) (hv : bootBuiltins x = some (.type T)) (hn : x ≠ "__name__") (hdb : (x == ("__debug__" : Str)) = false)
    (hg2 : Gl X y) (hm2 : X.mg y = none) (hv2 : bootBuiltins y = some (.type U)) (hn2 : y ≠ "__name__") (hdb2 : (y == ("__debug__" : Str)) = false) : CAr X G (.Tuple [.Name x p, .Name y q] k pos) [.type T, .type U] := by
  intro pins s σ H ι h I r
  refine wpAny_Tuple_spliced ?_
  rw [starEach_cons rfl, starEach_cons rfl]
  refine Calls.spliced_cons (ld_blt I hg hm hv (Calls.spliced_cons (ld_blt I hg2 hm2 hv2 (Calls.spliced_nil ?_) hn2 hdb2)) hn hdb)
  have hf : H s.heap.objs.size = none := I.hok.fresh (Nat.le_refl _)
  refine ⟨by show 2 ≤ sizeLine; decide, upd H s.heap.objs.size (.tup [.ty T, .ty U]), I.laid (t' := s.toks) (fun b u e => Heap.get?_push_of_some _ e) (Nat.le_refl _) ?_, Next.beside r hf, .tup upd_same (.cons (.ty T) (.cons (.ty U) .nil))⟩
  exact ⟨by show 2 ≤ sizeLine; decide, [.type T, .type U], .cons rfl (.cons rfl .nil), ⟨_, Heap.get?_push_size _ rfl, rfl, _, rfl⟩⟩
end
end Z

set_option Elab.async false
set_option linter.all false
set_option maxRecDepth 100000
set_option maxHeartbeats 1000000
set_option autoImplicit false
namespace Z
open PySem L2
open PyProof.Rows hiding St

def nmOf (nms : List Str) (i : Nat) : Str := match nms[i]? with
  | some x => x
  | none => S (List.replicate (1000 + i) 97)
def gtOf (fns : List (PySem.W.Frag → Addr)) (cls nms : List Str) (K : PySem.W.Frag) : Gt :=
  ⟨fun i => match fns[i]? with | some f => f K | none => 0, fun c => match cls[c]? with | some x => He.ga K x | none => 0, nmOf nms, fun _ => False, fun _ => none, fun _ => 0⟩
theorem nj_of {fns : List (PySem.W.Frag → Addr)} {cls nms : List Str} {K : PySem.W.Frag} (nd : nms.Nodup) (sh : nms.all (fun x => decide (x.length < 1000)) = true) : NmInj (gtOf fns cls nms K) := by
  have short : ∀ x ∈ nms, x.length < 1000 := fun x hx => of_decide_eq_true (List.all_eq_true.mp sh x hx)
  intro f g e
  have e' : nmOf nms f = nmOf nms g := e
  unfold nmOf at e'
  cases ef : nms[f]? with
  | none =>
    rw [ef] at e'
    cases eg : nms[g]? with
    | none =>
      rw [eg] at e'
      have q := congrArg List.length (S_inj e')
      simp only [List.length_replicate] at q
      omega
    | some y =>
      rw [eg] at e'
      have hy := short y (List.mem_of_getElem? eg)
      have e2 : S (List.replicate (1000 + f) 97) = y := e'
      rw [← e2, S_len, List.length_replicate] at hy
      omega
  | some x =>
    rw [ef] at e'
    cases eg : nms[g]? with
    | none =>
      rw [eg] at e'
      have hx := short x (List.mem_of_getElem? ef)
      have e2 : x = S (List.replicate (1000 + g) 97) := e'
      rw [e2, S_len, List.length_replicate] at hx
      omega
    | some y =>
      rw [eg] at e'
      have e2 : x = y := e'
      subst e2
      have h1 := (List.getElem?_eq_some_iff.mp ef)
      have h2 := (List.getElem?_eq_some_iff.mp eg)
      obtain ⟨hf, xf⟩ := h1
      obtain ⟨hg, xg⟩ := h2
      exact (List.getElem_inj nd).mp (xf.trans xg.symm)
open He5 (DefA fnA asA)
abbrev AlZ : Type := Bool × List He5.FnW
def obsZ (chk : List (PySem.W.Frag → Bool)) (fn : List DefA) (K : PySem.W.Frag) : AlZ := ((chk.all fun f => f K) && fn.all fun d => d.ok K, fn.map fun d => fnA K (d.at_ K))
def valZ (fn : List DefA) : AlZ := (true, fn.map DefA.val)
def SaysZ (chk : List (PySem.W.Frag → Bool)) (fn : List DefA) (K : PySem.W.Frag) : Prop := obsZ chk fn K = valZ fn
def obsZG (n : Nat) (chk : List (PySem.W.Frag → Bool)) (fn : List DefA) (g : Addr → Option Obj) : AlZ := obsZ chk fn (He.frG g (asA g n))
def hookZ (n : Nat) (chk : List (PySem.W.Frag → Bool)) (fn : List DefA) : PySem.W.Hook where
  α := AlZ
  obs := fun s => obsZG n chk fn s.heap.get?
  val := fun _ => valZ fn
  says := fun _ h => ∃ K : PySem.W.Frag, K.In h ∧ SaysZ chk fn K
  of := fun _ _ e => ⟨_, He.frG_in, e⟩
  keeps := fun _ _ _ ⟨K, hK, c⟩ k => ⟨K, PySem.W.Frag.In.keeps hK k, c⟩
theorem obsZG_eq {n : Nat} {chk : List (PySem.W.Frag → Bool)} {fn : List DefA} {g : Addr → Option Obj} {s : Shared} (h : ∀ a, g a = s.heap.get? a) : obsZG n chk fn g = (hookZ n chk fn).obs s := by
  have e : g = s.heap.get? := funext h
  rw [e] <;> rfl
section
variable {chk : List (PySem.W.Frag → Bool)} {fn : List DefA} {K : PySem.W.Frag}
theorem SaysZ.fact (c : SaysZ chk fn K) (i : Nat) {f : PySem.W.Frag → Bool} (h : chk[i]? = some f) : f K = true := by
  have c1 := (He.ba (show ((chk.all fun f => f K) && fn.all fun d => d.ok K) = true from congrArg (fun z : AlZ => z.1) c)).1
  exact List.all_eq_true.mp c1 f (List.mem_of_getElem? h)
theorem SaysZ.def_ (c : SaysZ chk fn K) (i : Nat) {d : DefA} (h : fn[i]? = some d) : ∃ fd, L2.FunD K d.name d.qual d.params d.body d.scope (d.dvs K) (d.kws K) (d.at_ K) fd := by
  have c2 := (He.ba (show ((chk.all fun f => f K) && fn.all fun d => d.ok K) = true from congrArg (fun z : AlZ => z.1) c)).2
  have e : fn.map (fun d => fnA K (d.at_ K)) = fn.map DefA.val := congrArg (fun z : AlZ => z.2) c
  have e2 : (fn.map fun d => fnA K (d.at_ K))[i]? = (fn.map DefA.val)[i]? := by rw [e]
  rw [List.getElem?_map, List.getElem?_map, h] at e2
  exact DefA.funD (Option.some.inj e2) (List.all_eq_true.mp c2 d (List.mem_of_getElem? h))
end
def cGlo (x : Str) (K : PySem.W.Frag) : Bool := (He.Fa.glo x).ok K
def cFree (x : Str) (K : PySem.W.Frag) : Bool := (He.Fa.free x).ok K
/-- the names that are built-ins' -/
def cFrees (xs : List Str) (K : PySem.W.Frag) : Bool := xs.all fun x => (He.Fa.free x).ok K
def cStr (x z : Str) (K : PySem.W.Frag) : Bool := (He.Fa.str x z).ok K
def cTup (x : Str) (vs : List He.Dv) (K : PySem.W.Frag) : Bool := (He.Fa.glo x).ok K && He.tupB K x vs
/-- all that is asked of a class: plain, these fields are not its names -/
def cCls (x : Str) (fs : List Str) (K : PySem.W.Frag) : Bool := (He.Fa.glo x).ok K && ((He.Fa.cls x).ok K && fs.all fun f => (He.Fa.noat x f).ok K)
def cMkr (x : Str) (K : PySem.W.Frag) : Bool := (He.Fa.mkr x).ok K
def cMeth (x m : Str) (K : PySem.W.Frag) : Bool := (He.Fa.meth x m).ok K
/-- isinstance and the classes xs -/
def cIsi (xs : List Str) (K : PySem.W.Frag) : Bool := xs.all fun x => (six.all fun T => decide (PySem.W.kitOne K (.type T) (.ref (He.ga K x)) = some false)) && ((List.range 5).all fun t => decide (PySem.W.kitOne K (.ref (He.ga K x)) (tyVal t) = some false)) &&
  (xs.all fun y => decide (PySem.W.kitOne K (.ref (He.ga K x)) (.ref (He.ga K y)) = some (decide (x = y)))) &&
  decide (PySem.W.findIn K (.ref (He.ga K x)) "__class__" = some (some (.builtin "object.__class__"))) && decide (PySem.W.specialIn K (.builtin "object.__class__") "__get__" = some (some (.builtin "getset_descriptor.__get__"))) &&
  decide (PySem.W.takesIn K (.builtin "object.__class__") = some true) && decide (PySem.W.mroIn K (He.ga K x) (.type "object") = some true)
def cEq (xs : List Str) (K : PySem.W.Frag) : Bool := xs.all fun x => decide (PySem.W.findIn K (.ref (He.ga K x)) "__eq__" = some (some (.ref (He.ma K (He.ga K x) "__eq__")))) && PySem.W.isFn K (.ref (He.ma K (He.ga K x) "__eq__")) && xs.all fun y => PySem.W.notFirst K (He.ga K x) (.ref (He.ga K y))
def cCm (x m : Str) (K : PySem.W.Frag) : Bool := He5.wrapB K (He.ga K x) "classmethod" "classmethod.__get__" m && PySem.W.fnIn K (He5.wf K (He.ga K x) "classmethod" m) && PySem.W.readsIn K (He.ga K x) (.type "type") && decide (PySem.W.specialIn K (.ref (He.ga K x)) "__getattribute__" = some (some (.builtin "type.__getattribute__")))
section
variable {K : PySem.W.Frag}
theorem cFrees_ok {h : Heap} {mg : Str → Option Value} (X : K.In h) (G : h.Ns mainGlobals mg) {xs : List Str} (c : cFrees xs K = true) {x : Str} (hx : x ∈ xs) : mg x = none := He.free_ok X G (List.all_eq_true.mp c x hx)
theorem cTup_ok {h : Heap} {mg : Str → Option Value} (X : K.In h) (G : h.Ns mainGlobals mg) {x : Str} {vs : List He.Dv} (c : cTup x vs K = true) : mg x = some (.ref (He.ga K x)) ∧ ∀ H, SqT K H (He.ga K x) (vs.map (He.Dv.v K)) :=
  ⟨He.glo_ok X G (He.ba c).1, fun H => He.tupB_ok (He.ba c).2 H⟩
theorem cCls_ok {h : Heap} {mg : Str → Option Value} (X : K.In h) (G : h.Ns mainGlobals mg) {x : Str} {fs : List Str} (c : cCls x fs K = true) : mg x = some (.ref (He.ga K x)) ∧ Cls K (He.ga K x) ∧ ∀ f ∈ fs, NoAttr K (He.ga K x) f :=
  ⟨He.glo_ok X G (He.ba c).1, He.cls_ok (He.ba (He.ba c).2).1, fun f hf => He.noat_ok (List.all_eq_true.mp (He.ba (He.ba c).2).2 f hf)⟩
theorem cCm_ok {x m : Str} (c : cCm x m K = true) : ClX.CRead K (He.ga K x) (.type "type") ∧ ClX.CMet K (He.ga K x) (.type "type") m (He.ma K (He.ga K x) m) (He5.wf K (He.ga K x) "classmethod" m) := by
  obtain ⟨c, h4⟩ := He.ba c
  obtain ⟨c, h3⟩ := He.ba c
  obtain ⟨h1, h2⟩ := He.ba c
  exact ⟨⟨h3, of_decide_eq_true h4⟩, He5.cmet_of h1 h2⟩
theorem isT_of {fns : List (PySem.W.Frag → Addr)} {xs nms : List Str} (nd : xs.Nodup) (cl : ∀ x ∈ xs, Cls K (He.ga K x)) (c : cIsi xs K = true) : IsT K (gtOf fns xs nms K) (List.range xs.length) := by
  have at_ : ∀ i, i ∈ List.range xs.length → ∃ x, xs[i]? = some x ∧ (gtOf fns xs nms K).cl i = He.ga K x := fun i hi => by
    have hl : i < xs.length := List.mem_range.mp hi
    refine ⟨xs[i], List.getElem?_eq_getElem hl, ?_⟩
    show (match xs[i]? with | some x => He.ga K x | none => 0) = _
    rw [List.getElem?_eq_getElem hl]
  have get : ∀ x ∈ xs, _ := fun x hx => List.all_eq_true.mp c x hx
  refine ⟨fun i hi T hT => ?_, fun i hi t ht => ?_, fun i hi j hj => ?_, fun i hi H a dx gs ha => ?_⟩
  all_goals obtain ⟨x, ex, ei⟩ := at_ i hi
  all_goals have g := get x (List.mem_of_getElem? ex)
  all_goals rw [ei]
  · obtain ⟨g, _⟩ := He.ba g
    obtain ⟨g, _⟩ := He.ba g
    obtain ⟨g, _⟩ := He.ba g
    obtain ⟨g, _⟩ := He.ba g
    obtain ⟨g, _⟩ := He.ba g
    obtain ⟨g, _⟩ := He.ba g
    exact of_decide_eq_true (List.all_eq_true.mp g T hT)
  · obtain ⟨g, _⟩ := He.ba g
    obtain ⟨g, _⟩ := He.ba g
    obtain ⟨g, _⟩ := He.ba g
    obtain ⟨g, _⟩ := He.ba g
    obtain ⟨g, _⟩ := He.ba g
    obtain ⟨_, g⟩ := He.ba g
    exact of_decide_eq_true (List.all_eq_true.mp g t (List.mem_range.mpr ht))
  · obtain ⟨y, ey, ej⟩ := at_ j hj
    rw [ej]
    obtain ⟨g, _⟩ := He.ba g
    obtain ⟨g, _⟩ := He.ba g
    obtain ⟨g, _⟩ := He.ba g
    obtain ⟨g, _⟩ := He.ba g
    obtain ⟨_, g⟩ := He.ba g
    have q := of_decide_eq_true (List.all_eq_true.mp g y (List.mem_of_getElem? ey))
    rw [q]
    congr 1
    obtain ⟨hi', xi⟩ := List.getElem?_eq_some_iff.mp ex
    obtain ⟨hj', yj⟩ := List.getElem?_eq_some_iff.mp ey
    by_cases e : i = j
    · subst e
      have : x = y := xi.symm.trans yj
      simp [this]
    · have : x ≠ y := fun z => e ((List.getElem_inj nd).mp (xi.trans (z.trans yj.symm)))
      rw [decide_eq_false this]
      cases qq : Nat.beq i j with
      | false => rfl
      | true => exact absurd (Nat.eq_of_beq_eq_true qq) e
  · obtain ⟨g, g4⟩ := He.ba g
    obtain ⟨g, g3⟩ := He.ba g
    obtain ⟨g, g2⟩ := He.ba g
    obtain ⟨_, g1⟩ := He.ba g
    rw [ei] at ha
    exact .base (.ins ha (cl x (List.mem_of_getElem? ex)) (of_decide_eq_true g1) (of_decide_eq_true g2) (of_decide_eq_true g3) (of_decide_eq_true g4))
end
end Z

set_option Elab.async false
set_option linter.all false
set_option maxRecDepth 100000
set_option maxHeartbeats 1000000
set_option autoImplicit false
namespace Z
open PySem L2
open PyProof.Rows hiding St
abbrev GNx (g : W → MS) : Prop := ∀ w ρ h f ρ' h', g w ρ h = .ok f ρ' h' → f = .next
abbrev GNs (g : List W → MS) : Prop := ∀ ws ρ h f ρ' h', g ws ρ h = .ok f ρ' h' → f = .next
theorem gn_name {i : Nat} : GNx (gname i) := fun w ρ h f ρ' h' e => by
  unfold gname at e
  cases e
  rfl
theorem gn_nil : GNs gnil := fun ws ρ h f ρ' h' e => by
  unfold gnil at e
  cases ws with
  | nil => cases e; rfl
  | cons _ _ => cases e
theorem gn_cons {g : W → MS} {gs : List W → MS} (h1 : GNx g) (h2 : GNs gs) : GNs (gcons g gs) := fun ws ρ h f ρ' h' e => by
  cases ws with
  | nil => cases e
  | cons w r =>
    have e' : sseq (g w) (gs r) ρ h = .ok f ρ' h' := e
    unfold sseq at e'
    cases q : g w ρ h with
    | ok f1 ρ1 h1' =>
      rw [q] at e'
      have hf := h1 w ρ h f1 ρ1 h1' q
      subst hf
      exact h2 r ρ1 h1' f ρ' h' e'
    | exc c fs ρ1 h1' => rw [q] at e'; cases e'
    | err => rw [q] at e'; cases e'
theorem gn_tup {n : Nat} {gs : List W → MS} (h2 : GNs gs) : GNx (gtup n gs) := fun w ρ h f ρ' h' e => by
  unfold gtup sbnd at e
  cases q : zseq w h with
  | ok a h1 =>
    rw [q] at e
    have e' : (if a.2.length = n then gs a.2 ρ h1 else .err) = .ok f ρ' h' := e
    split at e'
    · exact h2 _ _ _ _ _ _ e'
    · cases e'
  | exc c fs h1 => rw [q] at e; cases e
  | err => rw [q] at e; cases e
theorem gn_star {i : Nat} {gs : List W → MS} (h2 : GNs gs) : GNx (gstar i gs) := fun w ρ h f ρ' h' e => by
  unfold gstar sbnd at e
  cases q : zlref w h with
  | ok a h1 =>
    rw [q] at e
    have e' : (if (decide (i ≤ a.2.length) && decide (a.2.length ≤ 16384)) = true then gs (a.2.take i ++ [.ref h1.n]) ρ (h1.push (.lst (a.2.drop i))) else .err) = .ok f ρ' h' := e
    split at e'
    · exact h2 _ _ _ _ _ _ e'
    · cases e'
  | exc c fs h1 => rw [q] at e; cases e
  | err => rw [q] at e; cases e
theorem takes_blk {X : Cx} {s : Shared} {H : Hp} {scope : Scope} {cenv : Env} {fp : List Addr} : Takes (X.blk s H scope cenv fp) W0 := fun u s' ⟨_, _, _, _, _, _, _, _, _, _, _, _, _, _, _, _, w⟩ => w.elim
end Z
namespace Z
open PySem L2
open PyProof.Rows hiding St
section
variable {X : Cx} {G : Gt} {x qual : Str} {params : Arguments} {body : List Stmt} {scope : Scope} {dvs : List V} {kws : List (Str × V)} {f : Addr} {fd : FuncData} {ps : List Str} {k : Nat}
/-- all given, though there are defaults -/
theorem bn_alld {n j : Nat} (F : FunD X.K x qual params body scope dvs kws f fd) (hd : dvs ≠ []) (hj : j = dvs.length) (hn : n = ps.length)
    (h : ∀ (T : Addr) (kV doc pm : Value) (an : Option Addr) (cdv ct : Value) (us its : List Value), us.length = n → its.length = dvs.length →
      ∃ k, bindArgs (PySem.W.fnOf x qual params body scope (.ref T) kV doc pm an cdv ct) ⟨us, []⟩ = seqItems? (.ref T) >>= k ∧ k (some its.toArray) = pure (ps.zip (us ++ its.drop j))) : BnOk X G fd ps n [] gId := by
  have q := bn_dfl (X := X) (G := G) (dws := []) F hd (by omega) (fun ι h H r => by rw [hj, List.drop_length]; exact .nil) h
  have e : (fun (ws _ : List W) => ws ++ []) = gId := by
    funext ws _
    rw [List.append_nil]
    rfl
  rw [e] at q
  exact q
/-- the keyword-only ones are given by keywords, in order -/
theorem bn_kwg {n : Nat} {ks : List Str} (F : FunD X.K x qual params body scope dvs kws f fd) (hn : n + ks.length = ps.length)
    (h : ∀ (dV kV doc pm : Value) (an : Option Addr) (cdv ct : Value) (us zs : List Value), us.length = n → zs.length = ks.length → bindArgs (PySem.W.fnOf x qual params body scope dV kV doc pm an cdv ct) ⟨us, ks.zip zs⟩ = pure (ps.zip (us ++ zs))) : BnOk X G fd ps n ks (fun ws qs => ws ++ qs) :=
  bn_kw (gv := fun a b => a ++ b) F (fun ι h H ws qs vs ys _ _ p1 p2 => p1.append p2) (fun vs ys us zs _ _ r1 r2 => r1.append r2) (fun us zs h1 h2 => by rw [List.length_append, h1, h2]; exact hn) h
end
/-- a global tuple of K -/
theorem pg_tup' {b : Bool} {X : Cx} {G : Gt} {Wf : WX} {x : Str} {pos : Pos} {a : Addr} {ws : List W} {vs : List V} (hg : Gl X x) (hm : X.mg x = some (.ref a)) (hd : (x == ("__debug__" : Str)) = false) (sq : ∀ H, SqT X.K H a vs) (rs : ∀ ι h H, Reps X.K G ι h H ws vs) : PZ b X G Wf (.Name x pos) (fun _ => ret (.tup ws)) :=
  pz_glob (w := .tup ws) (v := .ref a) hg hm rfl hd fun ι h H _ => .tup (sq H) (rs ι h H)
theorem pg_str' {b : Bool} {X : Cx} {G : Gt} {Wf : WX} {x : Str} {pos : Pos} {z : List Nat} (hg : Gl X x) (hm : ∃ t, X.mg x = some (.str (S z) t)) (hd : (x == ("__debug__" : Str)) = false) : PZ b X G Wf (.Name x pos) (fun _ => ret (.str z)) := by
  obtain ⟨t, hm⟩ := hm
  exact pz_glob (w := .str z) (v := .str (S z)) hg hm ⟨t, rfl⟩ hd fun ι h H _ => .str z
end Z
namespace Z
open PySem L2
theorem rep_str {K : PySem.W.Frag} {G : Gt} {ι : Nat → Addr} {h : Hz} {H : Hp} {x : Str} (z : List Nat) (e : x = S z) : Rep K G ι h H (.str z) (.str x) := by
  subst e
  exact .str z
end Z

set_option Elab.async false
set_option linter.all false
set_option autoImplicit false
namespace Z
open PySem L2
def clsBd : Stmt → List Stmt
  | .ClassDef (body := b) .. => b
  | _ => []
theorem lk_in {α : Type} : ∀ {E : List (Nat × α)} {c : Nat} {k : α}, E.lookup c = some k → (c, k) ∈ E
  | [], _, _, h => nomatch h
  | (d, x) :: E, c, k, h => by
    rw [List.lookup_cons] at h
    split at h
    · rename_i e
      have e1 : c = d := by simpa using e
      cases h
      subst e1
      exact .head _
    · exact .tail _ (lk_in h)
theorem lk_all {α : Type} {E : List (Nat × α)} {l : List Nat} (h : (E.all fun p => l.contains p.1) = true) (d : Nat) (hd : (E.lookup d).isSome = true) : l.contains d = true := by
  cases e : E.lookup d with
  | none => rw [e] at hd; cases hd
  | some k => exact List.all_eq_true.1 h _ (lk_in e)
theorem lk_mem {α : Type} {E : List (Nat × α)} {l : List Nat} (h : (E.all fun p => l.contains p.1) = true) (d : Nat) (hd : (E.lookup d).isSome = true) : d ∈ l := by
  simpa using lk_all h d hd
theorem pzgs_starC {b : Bool} {X : Cx} {G : Gt} {Wf : WX} {e : Expr} {es : List Expr} {pos : Pos} {g : W → MS} {gs : List W → MS} (h1 : PZG b X G Wf e g) (h2 : PZGs b X G Wf es gs) (hs : (assignEach (e :: es) X.env).map (·.2) = assign e X.env :: (assignEach es X.env).map (·.2)) : PZGs b X G Wf (.Starred e pos :: es) (gcons g gs) := by
  have q := pzgs_cons h1 h2 hs
  refine ⟨fun pins s σ H ι h ρ ws vs us Q tk I r sr p ru a => ?_⟩
  have q1 := q.run pins s σ H ι h ρ ws vs us Q tk I r sr p ru a
  rw [hs] at q1
  have e1 : (assignEach (.Starred e pos :: es) X.env).map (·.2) = assign e X.env :: (assignEach es X.env).map (·.2) := by rw [assignEach]; rfl
  rw [e1]
  exact q1
/-- keyword-only ones given by keywords, in order; no defaults by place -/
theorem bn_kwg0 {X : Cx} {G : Gt} {x qual : Str} {params : Arguments} {body : List Stmt} {scope : Scope} {kws : List (Str × V)} {f : Addr} {fd : FuncData} {ps : List Str} {n : Nat} {ks : List Str} (F : FunD X.K x qual params body scope [] kws f fd) (hn : n + ks.length = ps.length)
    (h : ∀ (kV doc pm : Value) (an : Option Addr) (cdv ct : Value) (us zs : List Value), us.length = n → zs.length = ks.length → bindArgs (PySem.W.fnOf x qual params body scope .none kV doc pm an cdv ct) ⟨us, ks.zip zs⟩ = pure (ps.zip (us ++ zs))) : BnOk X G fd ps n ks (fun ws qs => ws ++ qs) := by
  intro s H ι h' us zs vs ys ws qs hK r hl hz r1 r2 p1 p2
  obtain ⟨oc, od, dV, kV, doc, pm, an, cdv, ct, osl, rfl, lk, hcd, hD, hKw⟩ := F.ex
  rcases hD with ⟨_, rfl⟩ | ⟨e, _⟩
  · have hvv : Vals (vs ++ ys) (us ++ zs) := r1.append r2
    exact ⟨us ++ zs, vs ++ ys, .of_eq (h kV doc pm an cdv ct us zs hl hz), hvv, p1.append p2, by rw [hvv.length, List.length_append, hl, hz]; exact hn⟩
  · exact absurd rfl e
end Z

set_option Elab.async false
set_option linter.all false
set_option maxRecDepth 100000
set_option maxHeartbeats 1000000
set_option autoImplicit false
namespace Z
open PySem L2
open PyProof.Rows hiding St
theorem get_empty (i : Nat) : Hz.empty.get i = none := rfl
theorem hrep_empty {K : PySem.W.Frag} {G : Gt} {ι : Nat → Addr} {H : Hp} (hn : ∀ a, G.no a → H a ≠ none) : HRep K G ι Hz.empty H :=
  ⟨fun i c e => (by rw [get_empty] at e; cases e), fun i j c d e _ _ _ _ => (by rw [get_empty] at e; cases e), fun a z => (hn a z), fun i c e => (by rw [get_empty] at e; cases e)⟩
theorem reps_ints {K : PySem.W.Frag} {G : Gt} {ι : Nat → Addr} {h : Hz} {H : Hp} : ∀ ns : List Int, Reps K G ι h H (ns.map W.int) (ns.map V.int)
  | [] => .nil
  | i :: ns => .cons (.int i) (reps_ints ns)
theorem fz_script {K : PySem.W.Frag} {G : Gt} {ι : Nat → Addr} {h : Hz} {H : Hp} {a : Addr} {ns : List Int} (hO : Only H) (hS : SqL K H a (ns.map V.int)) : Rep K G ι h H (.fz (ns.map W.int)) (.ref a) := by
  refine .fz ?_ (reps_ints ns)
  rcases hS with (e | ⟨o, e⟩) | k
  · rcases hO a with z | ⟨o, xs, z⟩
    · rw [z] at e; cases e
    · rw [z] at e; cases e
  · exact .inl ⟨o, e⟩
  · exact .inr fun H1 => .inr k
/-- the law's call at the heap behind the top; H: what is tracked, the script at most -/
theorem call_at {P : Program} {w : World} {K : PySem.W.Frag} {mg mb : Str → Option Value} {CX : CXT} {k : Nat} {fa a : Addr} {fd : FuncData} {x : Str} {sp : Sp} {s₁ : Shared} {vs : List Value} {H : Hp}
    (KX : K.In s₁.heap) (hns : s₁.heap.Ns mainGlobals mg) (hb : s₁.heap.Ns builtinsNs mb) (hbb : ∀ x : Str, x ≠ "__name__" → mb x = bootBuiltins x) (hlim : s₁.heap.NoLimit) (hg : s₁.gens = #[])
    (ha : s₁.heap.get? a = some { cls := .type "list", data := .seq vs.toArray }) (hr : Room k callerA)
    (F : ∀ base : Heap, K.In base → base.Ns mainGlobals mg → FnOk P w K mg base CX k fa fd [x] sp) (hbind : ∀ (s : Shared) (u : Value), BindsTo s fd ⟨[u], []⟩ [(x, u)])
    (hsp : sp [.ref a] H (fun v _ => v = .bl true) fun _ _ _ => False) (hCX : ∀ H e s', CX [] H s₁ (fun _ _ _ => False) e s' → False)
    (hO : Only H) (hok : HOk P w H s₁.heap) (hA : ∀ b, H b ≠ none → b = a) (hK : H a ≠ none → K.lookup a = none) :
    codeAny (model P w) callerA (.call (.ref fa) ⟨[.ref a], []⟩) (fun r s' => r = .ok (.ret (.bool true)) ∧ OldK s₁.heap s'.heap ∧ s'.os = s₁.os ∧ AllBare s'.gens) s₁ := by
  have dn : ∀ {b : Addr} {m : Str → Option Value}, s₁.heap.Ns b m → (hidT s₁.heap H).Ns b m := fun {b m} ⟨o, es, ep, e, d, r⟩ => by
    refine ⟨o, es, ep, hidT_get e ?_, d, r⟩
    refine Classical.byContradiction fun n => ?_
    have eb := hA b n
    rw [eb, ha] at e
    cases e
    exact nomatch (show Data.seq vs.toArray _ = Data.dict es ep from d)
  have kb : K.In (hidT s₁.heap H) := fun b o e => by
    refine hidT_get (KX b o e) (Classical.byContradiction fun n => ?_)
    have eb := hA b n
    rw [eb] at n e
    rw [hK n] at e
    cases e
  have md : Mod K mg (hidT s₁.heap H) := ⟨kb, dn hns, ⟨mb, dn hb, hbb⟩, let ⟨mc, h1, h2⟩ := hlim; ⟨mc, dn h1, h2⟩⟩
  have e0 : Env0 P w K mg (hidT s₁.heap H) callerA [] s₁ H := ⟨rfl, md, fun b o e => of_hidT e, Nat.le_of_eq (hidT_size _ _), trivial, fun b z => absurd (show b ∈ ([] : List Addr) from z) (by simp), hok, .of_eq hg⟩
  refine codeAny_mono ((F _ kb (dn hns)).run callerA [] s₁ H ⟨[.ref a], []⟩ [.ref a] [.ref a] _ _ hr e0 (hbind s₁ (.ref a)) (.cons rfl .nil) hsp) fun r s' h => ?_
  match r, h with
  | .error e, h => exact (hCX H e s' h).elim
  | .ok (.ret u), h =>
    obtain ⟨v, H', os, bare, un, hok', r', q⟩ := h
    cases (show v = .bl true from q)
    obtain rfl : u = Value.bool true := r'
    refine ⟨rfl, OldK.of_keep fun b o e => ?_, os, bare⟩
    rcases hO b with z | ⟨ob, xs, z⟩
    · exact un.keep b o e z (fun y => absurd (show b ∈ ([] : List Addr) from y) (by simp)) (by simp)
    · obtain ⟨e1, _⟩ := hok b _ z
      obtain ⟨e2, _⟩ := hok' b _ (un.frzs b ob _ z)
      rw [e] at e1
      cases e1
      exact e2
theorem law_callZ {P : Program} {w : World} {K : PySem.W.Frag} {mg mb : Str → Option Value} {CX : CXT} {k : Nat} {fa a : Addr} {fd : FuncData} {x : Str} {sp : Sp} {s₁ : Shared} {vs : List Value} {ns : List Int}
    (KX : K.In s₁.heap) (hns : s₁.heap.Ns mainGlobals mg) (hb : s₁.heap.Ns builtinsNs mb) (hbb : ∀ x : Str, x ≠ "__name__" → mb x = bootBuiltins x) (hlim : s₁.heap.NoLimit) (hg : s₁.gens = #[])
    (ha : s₁.heap.get? a = some { cls := .type "list", data := .seq vs.toArray }) (hi : IntsAre vs ns) (hl : ns.length ≤ sizeLine) (hr : Room k callerA)
    (F : ∀ base : Heap, K.In base → base.Ns mainGlobals mg → FnOk P w K mg base CX k fa fd [x] sp) (hbind : ∀ (s : Shared) (u : Value), BindsTo s fd ⟨[u], []⟩ [(x, u)])
    (hsp : ∀ H : Hp, Only H → SqL K H a (ns.map V.int) → sp [.ref a] H (fun v _ => v = .bl true) fun _ _ _ => False)
    (hCX : ∀ H e s', CX [] H s₁ (fun _ _ _ => False) e s' → False) :
    codeAny (model P w) callerA (.call (.ref fa) ⟨[.ref a], []⟩) (fun r s' => r = .ok (.ret (.bool true)) ∧ OldK s₁.heap s'.heap ∧ s'.os = s₁.os ∧ AllBare s'.gens) s₁ := by
  have rv := vals_ints hi
  cases hk : K.lookup a with
  | some o =>
    have e := KX a o hk
    rw [ha] at e
    cases e
    have hO : Only fun _ => none := fun _ => .inl rfl
    exact call_at KX hns hb hbb hlim hg ha hr F hbind (hsp _ hO (.inr ⟨_, vs.toArray, _, hk, rfl, rfl, rfl, by rw [List.size_toArray, hi.length]; exact hl, by simpa using rv⟩)) hCX hO (fun b u z => nomatch (show (none : Option HO) = some u from z)) (fun b z => absurd rfl z) fun z => absurd rfl z
  | none =>
    have hO : Only fun b => if b = a then some (.frz { cls := .type "list", data := .seq vs.toArray } (.lst (ns.map V.int))) else none := fun b => by
      by_cases z : b = a
      · exact .inr ⟨_, _, if_pos z⟩
      · exact .inl (if_neg z)
    refine call_at KX hns hb hbb hlim hg ha hr F hbind (hsp _ hO (.inl (.inr ⟨_, if_pos rfl⟩))) hCX hO (fun b u z => ?_) (fun b z => Classical.byContradiction fun n => z (if_neg n)) fun _ => hk
    by_cases y : b = a
    · cases (if_pos y).symm.trans z
      subst y
      exact ⟨ha, by rw [List.length_map]; exact hl, vs, _, rv, ha⟩
    · exact nomatch (if_neg y).symm.trans z
/-- what the law's run must do: ns is the script -/
def LawOk (n : Nat) (fn : List W → M W) : Prop := ∀ ns : List Int, ns.length ≤ n → (∀ z ∈ ns, Builtin.Int.intBits z ≤ 1048576) → ∃ h', fn [.fz (ns.map W.int)] Hz.empty = .ok (.bl true) h'
theorem walk_ofZ {l : PySem.W.OpenLaw} {n k : Nat} {q : Program} {loose : List Str} {XP : (Str → Option Value) → Heap → Prop} {YP : World → Heap → Prop} {d : DefRec} {x : Str} {fn : List W → M W}
    (hn : l.most = some n) (hn2 : n ≤ sizeLine) (hdf : d.params.defaults = []) (hr : Room k callerA) (hl : LawOk n fn)
    (F : ∀ (w : World) (mg : Str → Option Value) (fa : Addr) (h : Heap), YP w h → h.Ns mainGlobals mg → mg d.name = some (.ref fa) →
      ∃ (K : PySem.W.Frag) (fd : FuncData) (G : Gt), K.In h ∧ (∀ (s : Shared) (u : Value), BindsTo s fd ⟨[u], []⟩ [(x, u)]) ∧
        ∀ base : Heap, K.In base → base.Ns mainGlobals mg → FnOk l.prog w K mg base (CX l.prog w) k fa fd [x] (spZ K G 1 fn)) :
    PySem.W.WalkO q loose XP YP l.row.toRowW d [] (fun f vs => PySem.call f vs) := by
  refine Att.attach_callB hn hdf fun w s₀ s₁ mg mb fa o pm cd doc a vs ns G Y ho hd hcd hmg hobj hints hlen hbits hg => ?_
  obtain ⟨K, fd, Gt, KX, hb, hF⟩ := F w mg fa _ Y G.T.g hmg
  refine law_callZ KX G.T.g G.T.b G.T.builtins G.T.nolimit hg hobj hints (Nat.le_trans hlen hn2) hr hF hb (fun H hO hS => ?_) fun H e s' z => ?_
  · obtain ⟨h', e⟩ := hl ns hlen hbits
    refine ⟨rfl, fun _ => False, fun _ => 0, Hz.empty, [.fz (ns.map W.int)], hrep_empty (fun _ z => z.elim), .cons (fz_script hO hS) .nil, ?_⟩
    rw [e]
    intro ι' H' v _ p
    cases p
    rfl
  · obtain ⟨_, _, _, _, _, _, _, _, _, _, _, _, z⟩ := z
    exact z
end Z

set_option Elab.async false
set_option linter.all false
set_option maxRecDepth 100000
set_option maxHeartbeats 1000000
set_option autoImplicit false
namespace Z
open PySem L2
open PyProof.Rows hiding St
mutual
def pureW : W → Bool
  | .tup ws => pureL ws
  | .fz ws => pureL ws
  | .obj _ fs => pureF fs
  | .ref _ => false
  | .exv _ _ => false
  | .non => true
  | .bl _ => true
  | .int _ => true
  | .str _ => true
  | .fn _ => true
  | .cl _ => true
def pureL : List W → Bool
  | [] => true
  | w :: ws => pureW w && pureL ws
def pureF : List (Nat × W) → Bool
  | [] => true
  | f :: fs => pureP f && pureF fs
def pureP : Nat × W → Bool
  | (_, w) => pureW w
end
section
variable {K : PySem.W.Frag} {G : Gt} {ι ι1 : Nat → Addr} {h h1 : Hz} {H H1 : Hp} {no : Addr → Prop}
/-- what no value inside may stand at -/
def noIn (G : Gt) (ι : Nat → Addr) (h : Hz) : Addr → Prop := fun a => G.no a ∨ LvAt ι h a
theorem no_lv {a : Addr} : ¬ LvAt ι Hz.empty a := by
  rintro ⟨i, c, e, _⟩
  rw [get_empty] at e
  cases e
mutual
theorem Rep.enter : ∀ {w : W} {v : V}, pureW w = true → Rep K G ι h H w v → Rep K (G.wn (noIn G ι h)) ι Hz.empty H w v
  | _, _, _, .non => .non
  | _, _, _, .bl b => .bl b
  | _, _, _, .int i => .int i
  | _, _, _, .str s => .str s
  | _, _, p, .tup e q => .tup e (Reps.enter (by rw [pureW] at p; exact p) q)
  | _, _, p, .fz e q => .fz e (Reps.enter (by rw [pureW] at p; exact p) q)
  | _, _, p, .obj e l z q => .obj (G := G.wn (noIn G ι h)) e no_lv (fun y => y.elim z l) (RepF.enter (by rw [pureW] at p; exact p) q)
  | _, _, p, .ref _ _ => by rw [pureW] at p; cases p
  | _, _, _, .fn i => .fn i
  | _, _, _, .cl i => .cl i
theorem Reps.enter : ∀ {ws : List W} {vs : List V}, pureL ws = true → Reps K G ι h H ws vs → Reps K (G.wn (noIn G ι h)) ι Hz.empty H ws vs
  | _, _, _, .nil => .nil
  | _, _, p, .cons a b => .cons (Rep.enter (by rw [pureL] at p; exact (Bool.and_eq_true_iff.mp p).1) a) (Reps.enter (by rw [pureL] at p; exact (Bool.and_eq_true_iff.mp p).2) b)
theorem RepF.enter : ∀ {fs : List (Nat × W)} {gs : List (Str × V)}, pureF fs = true → RepF K G ι h H fs gs → RepF K (G.wn (noIn G ι h)) ι Hz.empty H fs gs
  | _, _, _, .nil => .nil
  | _, _, p, .cons a b => .cons (G := G.wn (noIn G ι h)) (Rep.enter (by rw [pureF, pureP] at p; exact (Bool.and_eq_true_iff.mp p).1) a) (RepF.enter (by rw [pureF] at p; exact (Bool.and_eq_true_iff.mp p).2) b)
end
mutual
theorem Rep.leave : ∀ {w : W} {v : V}, pureW w = true → Rep K (G.wn (noIn G ι h)) ι1 h1 H1 w v → Rep K G ι h H1 w v
  | _, _, _, .non => .non
  | _, _, _, .bl b => .bl b
  | _, _, _, .int i => .int i
  | _, _, _, .str s => .str s
  | _, _, p, .tup e q => .tup e (Reps.leave (by rw [pureW] at p; exact p) q)
  | _, _, p, .fz e q => .fz e (Reps.leave (by rw [pureW] at p; exact p) q)
  | _, _, p, .obj e l z q => .obj e (fun y => z (.inr y)) (fun y => z (.inl y)) (RepF.leave (by rw [pureW] at p; exact p) q)
  | _, _, p, .ref _ _ => by rw [pureW] at p; cases p
  | _, _, _, .fn i => .fn i
  | _, _, _, .cl i => .cl i
theorem Reps.leave : ∀ {ws : List W} {vs : List V}, pureL ws = true → Reps K (G.wn (noIn G ι h)) ι1 h1 H1 ws vs → Reps K G ι h H1 ws vs
  | _, _, _, .nil => .nil
  | _, _, p, .cons a b => .cons (Rep.leave (by rw [pureL] at p; exact (Bool.and_eq_true_iff.mp p).1) a) (Reps.leave (by rw [pureL] at p; exact (Bool.and_eq_true_iff.mp p).2) b)
theorem RepF.leave : ∀ {fs : List (Nat × W)} {gs : List (Str × V)}, pureF fs = true → RepF K (G.wn (noIn G ι h)) ι1 h1 H1 fs gs → RepF K G ι h H1 fs gs
  | _, _, _, .nil => .nil
  | _, _, p, .cons a b => .cons (G := G) (Rep.leave (by rw [pureF, pureP] at p; exact (Bool.and_eq_true_iff.mp p).1) a) (RepF.leave (by rw [pureF] at p; exact (Bool.and_eq_true_iff.mp p).2) b)
end
theorem XRep.leave {fs : List (Nat × W)} {d : Option Addr} (p : pureF fs = true) (q : XRep K (G.wn (noIn G ι h)) ι1 h1 H1 fs d) : XRep K G ι h H1 fs d := by
  rcases q with q | ⟨dd, gs, e1, e2, e3⟩
  · exact .inl q
  · exact .inr ⟨dd, gs, e1, e2, RepF.leave p e3⟩
theorem HRep.enter (r : HRep K G ι h H) : HRep K (G.wn (noIn G ι h)) ι Hz.empty H := hrep_empty fun a z => z.elim (r.no a) r.live_some
/-- what was outside stands as it did -/
theorem Next.leave (r : HRep K G ι h H) (n : Next K (G.wn (noIn G ι h)) ι Hz.empty H ι1 h1 H1) : Next K G ι h H ι h H1 := by
  have kp : ∀ a o, H a = some o → H1 a = some o := fun a o e => n.keep a o e no_lv
  have n0 : Nx0 ι h H ι h H1 := ⟨fun _ _ => rfl, Nat.le_refl _, fun a o e _ => kp a o e, n.there, fun i a b => absurd (Nat.lt_of_le_of_lt a b) (Nat.lt_irrefl _), fun i c _ e l => ⟨c, e, l⟩⟩
  exact ⟨n0, ⟨fun i c g => (r.cell i c g).move (fun _ _ => Rep.next r n0) (fun _ _ => Reps.next r n0) (fun _ _ => RepF.next r n0) fun u e => kp _ _ e, r.inj, fun a z => n.there a (r.no a z), r.off⟩⟩
end

def isoR (h : Hz) (r : R W) : R W := match r with
  | .ok w _ => (match pureW w with | true => .ok w h | false => .err)
  | .exc c fs _ => (match pureF fs with | true => .exc c fs h | false => .err)
  | .err => .err
theorem Aft.leave {K : PySem.W.Frag} {G : Gt} {Wf : WX} {σ : St} {ι : Nat → Addr} {h : Hz} {H : Hp} {res : R W} {Q : VK} (r : HRep K G ι h H) (a : Aft K G Wf σ (rpW K G) ι h H (isoR h res) Q) : Aft K (G.wn (noIn G ι h)) Wf σ (rpW K (G.wn (noIn G ι h))) ι Hz.empty H res Q := by
  cases res with
  | ok w h1 =>
    cases p : pureW w with
    | false => unfold isoR at a; simp only [p] at a; exact False.elim a
    | true =>
      unfold isoR at a
      simp only [p] at a
      exact fun ι1 H1 v n1 p1 => a ι H1 v (Next.leave r n1) (Rep.leave p p1)
  | exc c fs h1 =>
    cases p : pureF fs with
    | false => unfold isoR at a; simp only [p] at a; exact False.elim a
    | true =>
      unfold isoR at a
      simp only [p] at a
      exact fun ι1 H1 d n1 q => a ι H1 d (Next.leave r n1) (XRep.leave p q)
  | err => exact False.elim a
def isoF (fn : List W → M W) : List W → M W := fun ws h => match pureL ws with
  | true => isoR h (fn ws Hz.empty)
  | false => .err
theorem spZ_iso {K : PySem.W.Frag} {G : Gt} {n : Nat} {fn : List W → M W} {vs : List V} {H : Hp} {Q : VK} {E : XK} (s : spZ K G n (isoF fn) vs H Q E) : spZ K G n fn vs H Q E := by
  obtain ⟨hl, no, ι, h, ws, r, rs, a⟩ := s
  unfold isoF at a
  cases p : pureL ws with
  | false => simp only [p] at a; exact False.elim a
  | true =>
    simp only [p] at a
    exact ⟨hl, noIn (G.wn no) ι h, ι, Hz.empty, ws, HRep.enter r, Reps.enter p rs, Aft.leave r a⟩
section
variable {P : Program} {w : World} {K : PySem.W.Frag} {mg : Str → Option Value} {base : Heap} {G : Gt} {f : Addr} {fd : FuncData} {ps : List Str} {k n : Nat} {fn : List W → M W} {X : Cx}
theorem fnOk_iso {C : CXT} (F : FnOk P w K mg base C k f fd ps (spZ K G n fn)) : FnOk P w K mg base C k f fd ps (spZ K G n (isoF fn)) :=
  ⟨fun vs H Q E s => F.1 vs H Q E (spZ_iso s), fun A outer s H args us vs Q E hr e0 hb r z => F.2 A outer s H args us vs Q E hr e0 hb r (spZ_iso z)⟩
theorem co_iso {i : Nat} {ks : List Str} {g : List W → List W → List W} (C : CallOk X G k i n ks g fn) : CallOk X G k i n ks g (isoF fn) := by
  obtain ⟨kp, fd, ps, F, B⟩ := C
  exact ⟨kp, fd, ps, fnOk_iso F, B⟩
theorem cm_iso {c i : Nat} {m : Str} (C : CmOk X G k c m i n fn) : CmOk X G k c m i n (isoF fn) := by
  obtain ⟨c1, c2, fd, ps, F, B⟩ := C
  exact ⟨c1, c2, fd, ps, fnOk_iso F, B⟩
end
def cleanW (o : Option W) : Option W := match o with
  | some w => (match pureW w with | true => some w | false => none)
  | none => none
def cleanE : Ev → Ev
  | [] => []
  | o :: ρ => cleanW o :: cleanE ρ
theorem cleanE_get : ∀ (ρ : Ev) (i : Nat) (w : W), (cleanE ρ)[i]? = some (some w) → ρ[i]? = some (some w) ∧ pureW w = true
  | [], i, w, e => by simp [cleanE] at e
  | o :: ρ, 0, w, e => by
    have e1 : cleanW o = some w := by simpa [cleanE] using e
    unfold cleanW at e1
    cases o with
    | none => cases e1
    | some u =>
      cases p : pureW u with
      | false => simp only [p] at e1; cases e1
      | true => simp only [p] at e1; cases e1; exact ⟨rfl, p⟩
  | o :: ρ, i + 1, w, e => by
    have := cleanE_get ρ i w (by simpa [cleanE] using e)
    simpa using this
theorem cleanE_len : ∀ ρ : Ev, (cleanE ρ).length = ρ.length
  | [] => rfl
  | _ :: ρ => congrArg Nat.succ (cleanE_len ρ)
def isoE (m : Ev → M W) : Ev → M W := fun ρ h => isoR h (m (cleanE ρ) Hz.empty)
section
variable {b : Bool} {X : Cx} {G : Gt} {Wf : WX} {e : Expr} {m : Ev → M W} {sts : List Stmt} {ms : MS}
theorem SRep.enter {K : PySem.W.Frag} {ι : Nat → Addr} {h : Hz} {H : Hp} {ρ : Ev} {σ : St} (sr : SRep K G ι h H ρ σ) : SRep K (G.wn (noIn G ι h)) ι Hz.empty H (cleanE ρ) σ := ⟨by rw [cleanE_len]; exact sr.1, fun i w e => by
  obtain ⟨e1, p⟩ := cleanE_get ρ i w e
  obtain ⟨v, e2, r⟩ := sr.2 i w e1
  rcases r with r | ⟨c, fs, a, d, ew, _⟩
  · exact ⟨v, e2, .inl (Rep.enter p r)⟩
  · subst ew; rw [pureW] at p; cases p⟩
theorem SRep.leave {K : PySem.W.Frag} {ι ι1 : Nat → Addr} {h h1 : Hz} {H1 : Hp} {ρ : Ev} {σ : St} (sr : SRep K (G.wn (noIn G ι h)) ι1 h1 H1 ρ σ) : SRep K G ι h H1 (cleanE ρ) σ := ⟨by rw [cleanE_len]; exact sr.1, fun i w e => by
  obtain ⟨e1, p⟩ := cleanE_get ρ i w e
  obtain ⟨v, e2, r⟩ := sr.2 i w e1
  rcases r with r | ⟨c, fs, a, d, ew, _⟩
  · exact ⟨v, e2, .inl (Rep.leave p r)⟩
  · subst ew; rw [pureW] at p; cases p⟩
theorem pz_iso (ha : ∀ no, PZ b X (G.wn no) Wf e m) : PZ b X G Wf e (isoE m) :=
  ⟨fun pins s σ H ι h ρ Q tk I r sr aft => (ha (noIn G ι h)).run pins s σ H ι Hz.empty (cleanE ρ) Q tk I (HRep.enter r) (SRep.enter sr) (Aft.leave r aft)⟩
def isoSR (h : Hz) (r : RS) : RS := match r with
  | .ok .next ρ' _ => .ok .next (cleanE ρ') h
  | .ok (.ret w) ρ' _ => (match pureW w with | true => .ok (.ret w) (cleanE ρ') h | false => .err)
  | .ok .brk ρ' _ => .ok .brk (cleanE ρ') h
  | .ok .cnt ρ' _ => .ok .cnt (cleanE ρ') h
  | .exc c fs ρ' _ => (match pureF fs with | true => .exc c fs (cleanE ρ') h | false => .err)
  | .err => .err
def isoS (m : MS) : MS := fun ρ h => isoSR h (m (cleanE ρ) Hz.empty)
theorem AftS.leave {K : PySem.W.Frag} {G : Gt} {Wf : WX} {ι : Nat → Addr} {h : Hz} {H : Hp} {res : RS} {D : Ends} (r : HRep K G ι h H) (a : AftS K G Wf ι h H (isoSR h res) D) : AftS K (G.wn (noIn G ι h)) Wf ι Hz.empty H res D := by
  cases res with
  | ok f ρ' h1 =>
    cases f with
    | next => exact fun ι1 H1 σ1 n1 s1 => a ι H1 σ1 (Next.leave r n1) (SRep.leave s1)
    | brk => exact fun ι1 H1 σ1 n1 s1 => a ι H1 σ1 (Next.leave r n1) (SRep.leave s1)
    | cnt => exact fun ι1 H1 σ1 n1 s1 => a ι H1 σ1 (Next.leave r n1) (SRep.leave s1)
    | ret w =>
      cases p : pureW w with
      | false => unfold isoSR at a; simp only [p] at a; exact False.elim a
      | true =>
        unfold isoSR at a
        simp only [p] at a
        exact fun ι1 H1 v n1 p1 => a ι H1 v (Next.leave r n1) (Rep.leave p p1)
  | exc c fs ρ' h1 =>
    cases p : pureF fs with
    | false => unfold isoSR at a; simp only [p] at a; exact False.elim a
    | true =>
      unfold isoSR at a
      simp only [p] at a
      exact fun ι1 H1 σ1 d n1 s1 q => a ι H1 σ1 d (Next.leave r n1) (SRep.leave s1) (XRep.leave p q)
  | err => exact False.elim a
theorem pzss_iso (hs : ∀ no, PZSs b X (G.wn no) Wf sts ms) : PZSs b X G Wf sts (isoS ms) :=
  ⟨fun pins s σ H ι h ρ D tk I r sr aft => (hs (noIn G ι h)).run pins s σ H ι Hz.empty (cleanE ρ) D tk I (HRep.enter r) (SRep.enter sr) (AftS.leave r aft)⟩
end
def okT (r : R W) : Bool := match r with
  | .ok (.bl true) _ => true
  | _ => false
theorem okT_of {r : R W} (h : okT r = true) : ∃ h', r = .ok (.bl true) h' := by
  unfold okT at h
  split at h
  · exact ⟨_, rfl⟩
  · cases h
end Z

set_option Elab.async false
set_option linter.all false
set_option maxRecDepth 100000
set_option maxHeartbeats 1000000
set_option autoImplicit false
namespace Z
open PySem L2
open PyProof.Rows hiding St
section
variable {b : Bool} {X : Cx} {G : Gt} {Wf : WX} {e o : Expr} {es : List Expr} {m mo mi : Ev → M W} {mr : Ev → M (List W)} {p pos : Pos}
theorem star_tk {M : Model} {A : Around} {E : Value → Shared → Prop} {v : Value} {Q : List Value → Shared → Prop} {s : Shared} (tk : Tk b s) (h : PySem.W.StarOf M A E v Q s) : PySem.W.StarOf M A E v (fun us s' => Tk b s' ∧ Q us s') s := by
  unfold PySem.W.StarOf at h ⊢
  exact wpAny_mono (withTk tk h) (fun _ _ q => ⟨q.2.1, withTk q.1 q.2.2⟩) fun _ _ q => q
def zstar (ma : Ev → M W) (mr : Ev → M (List W)) : Ev → M (List W) := fun ρ => bnd (ma ρ) fun w => bnd (zseq w) fun q => bnd (mr ρ) fun xs => ret (q.2 ++ xs)
theorem pza_star (ha : PZ b X G Wf e m) (hr : PZA b X G Wf es mr) : PZA b X G Wf (.Starred e p :: es) (zstar m mr) := by
  refine ⟨fun pos pins s σ H ι h ρ Q tk I r sr aft => ?_⟩
  refine PySem.W.items_star (thn (ha.run pins s σ H ι h ρ _ tk I r sr (aft.bnd (P := rpW X.K G))) fun u s1 ⟨tk1, v1, H1, I1, r1, ι1, h1, w1, n1, p1, a1⟩ => ?_) rfl
  obtain ⟨t, ws, ad, vs, ev, sq, rs, a2, _⟩ := seq_after n1.rep p1 a1
  subst ev
  obtain rfl : u = Value.ref ad := r1
  have sq' : SqT X.K H1 ad vs ∨ SqL X.K H1 ad vs := by
    cases t with
    | true => exact .inl sq
    | false => exact .inr sq
  refine star_mono (star_tk tk1 (StX.star_any (Q := fun us s' => Inv X pins σ H1 s' ∧ Vals vs us) I1 sq' fun us s2 I2 rv => ⟨I2, rv⟩)) fun us s2 ⟨tk2, I2, rv⟩ => ?_
  refine thn (hr.run pos pins s2 σ H1 ι1 h1 ρ _ tk2 I2 n1.rep (sr.next r n1.toNx0) (a2.bnd (P := rpWs X.K G))) fun us2 s3 ⟨tk3, vs2, H3, I3, r3, ι3, h3, ws2, n3, p3, a3⟩ => ?_
  exact ⟨tk3, vs ++ vs2, H3, I3, rv.append r3, Aft.ret (P := rpWs X.K G) a3 n3.rep ((rs.next n1.rep n3.toNx0).append p3)⟩
where
  star_mono {M : Model} {A : Around} {E : Value → Shared → Prop} {v : Value} {Q Q' : List Value → Shared → Prop} {s : Shared} (h : PySem.W.StarOf M A E v Q s) (k : ∀ us s', Q us s' → Q' us s') : PySem.W.StarOf M A E v Q' s := by
    unfold PySem.W.StarOf at h ⊢
    exact wpAny_mono h (fun _ _ q => ⟨q.1, wpAny_mono q.2 k fun _ _ z => z⟩) fun _ _ q => q

def ixW (n : Nat) (k : Int) : Option Nat := L2.ixN n k
def zsetL (o i w : W) : M W := bnd (zlref o) fun q => match i with
  | .int k => (match L2.ixN q.2.length k with
    | some j => bnd (store q.1 (.lst (q.2.set j w))) fun _ => ret .non
    | none => bad)
  | _ => bad
def gsub (mo mi : Ev → M W) (w : W) : MS := fun ρ => sbnd (mo ρ) ρ fun o => sbnd (mi ρ) ρ fun i => sbnd (zsetL o i w) ρ fun _ h => .ok .next ρ h
theorem pzg_sub {i : Expr} (ho : PZ b X G Wf o mo) (hi : PZ b X G Wf i mi)
    (ha : ∀ v, assign (.Subscript o i pos) X.env v = (do
      let ov ← holding [v] (eval o X.env)
      let iv ← holding [v, ov] (eval i X.env)
      standAt pos
      holding [v, ov, iv] (setItem ov iv v)
      release [v, ov, iv] [])) : PZG b X G Wf (.Subscript o i pos) (gsub mo mi) := by
  refine ⟨fun pins s σ H ι h ρ w v u Q tk I r sr p ru a => ?_⟩
  rw [ha]
  refine wpAny_bind (wpAny_holding (thn (ho.run pins s σ H ι h ρ _ tk I r sr (a.bnd (P := rpW X.K G) r sr)) fun ov s1 ⟨tk1, v1, H1, I1, r1, ι1, h1, w1, n1, p1, sr1, a1⟩ => ?_))
  refine wpAny_bind (wpAny_holding (thn (hi.run pins s1 σ H1 ι1 h1 ρ _ tk1 I1 n1.rep sr1 (a1.bnd (P := rpW X.K G) n1.rep sr1)) fun iv s2 ⟨tk2, v2, H2, I2, r2, ι2, h2, w2, n2, p2, sr2, a2⟩ => ?_))
  have pv := (p.next r n1.toNx0).next n1.rep n2.toNx0
  have po := p1.next n1.rep n2.toNx0
  have a3 := a2.bnd (P := rpW X.K G) (σ := σ) n2.rep sr2
  unfold zsetL at a3
  obtain ⟨j, xs, vs, e1, e2, gj, hj, rs, a4⟩ := lref_after n2.rep po a3
  subst e1; subst e2
  cases p2 with
  | int k =>
    dsimp only at a4
    cases ek : L2.ixN xs.length k with
    | none => rw [ek] at a4; exact False.elim a4
    | some jj =>
      rw [ek] at a4
      have q4 := put_after n2.rep gj (rs.set pv jj) a4
      obtain ⟨ι5, h5, w5, n5, _, sr5, a5⟩ := q4
      refine wpAny_bind (wpAny_standAt (wpAny_bind (wpAny_holding (thn (withTk tk2 (set_list pins s2 σ H2 _ _ _ ov iv u (fun H3 => H3 = upd H2 (ι2 j) (.lst (vs.set jj v))) I2 r1 r2 ru ⟨_, vs, k, jj, rfl, rfl, hj, by rw [← rs.length]; exact ek, rfl⟩)) fun _ s3 ⟨tk3, H3, I3, e3⟩ => ?_))))
      subst e3
      exact wpAny_release ⟨tk3, σ, _, I3, a5 ι5 _ σ (Next.refl n5.rep) sr5⟩
  | _ => exact False.elim a4
theorem gn_sub : GNx (gsub mo mi) := fun w ρ h f ρ' h' e => by
  unfold gsub sbnd at e
  cases q1 : mo ρ h with
  | exc c fs h1 => rw [q1] at e; cases e
  | err => rw [q1] at e; cases e
  | ok o h1 =>
    rw [q1] at e
    dsimp only at e
    cases q2 : mi ρ h1 with
    | exc c fs h2 => rw [q2] at e; cases e
    | err => rw [q2] at e; cases e
    | ok i h2 =>
      rw [q2] at e
      dsimp only at e
      cases q3 : zsetL o i w h2 with
      | exc c fs h3 => rw [q3] at e; cases e
      | err => rw [q3] at e; cases e
      | ok z h3 => rw [q3] at e; cases e; rfl

def saug (i : Nat) (f : W → W → M W) (ma : Ev → M W) : MS := fun ρ => sbnd (zvar i ρ) ρ fun x => sbnd (ma ρ) ρ fun y => sbnd (f x y) ρ fun z h => .ok .next (ρ.set i (some z)) h
/-- op= by values -/
def IpZ (X : Cx) (G : Gt) (Wf : WX) (op : Operator) (f : W → W → M W) : Prop := OpZ X G Wf (inplaceOp op) f
theorem ip_zadd : IpZ X G Wf .Add (zint2 fun i j => ret (.int (i + j))) := by
  intro pins s σ H ι h x y v1 v2 u1 u2 Q I r p1 p2 r1 r2 a
  cases p1 with
  | int i =>
    cases p2 with
    | int j => exact ip_add pins s σ H _ _ u1 u2 Q I r1 r2 ⟨i, j, rfl, rfl, a.ret r (.int _)⟩
    | _ => exact False.elim a
  | _ => exact False.elim a
theorem ip_zsub : IpZ X G Wf .Sub (zint2 fun i j => ret (.int (i - j))) := by
  intro pins s σ H ι h x y v1 v2 u1 u2 Q I r p1 p2 r1 r2 a
  cases p1 with
  | int i =>
    cases p2 with
    | int j => exact ip_sub pins s σ H _ _ u1 u2 Q I r1 r2 ⟨i, j, rfl, rfl, a.ret r (.int _)⟩
    | _ => exact False.elim a
  | _ => exact False.elim a
theorem pzs_aug {i : Nat} {x : Str} {op : Operator} {f : W → W → M W} {pos' : Pos} (hN : X.N.Nodup) (hi : X.N[i]? = some x) (hx : Loc X.env.scope x) (hf : X.fn x = true ∨ X.env.scope.names.lookup x = some .local) (ho : IpZ X G Wf op f) (he : PZ b X G Wf e m) :
    PZS b X G Wf (.AugAssign (.Name x pos') op e pos) (saug i f m) := by
  refine ⟨fun pins s σ H ι h ρ D tk I r sr a => ?_⟩
  unfold saug at a
  cases q : ρ.getD i none with
  | none =>
    have hz : zvar i ρ = bad := by unfold zvar; rw [q]
    rw [hz] at a; exact False.elim a
  | some w =>
    have nx : ∀ c fs, w ≠ .exv c fs := fun c fs z => by
      have hz : zvar i ρ = bad := by unfold zvar; rw [q, z]
      rw [hz] at a; exact False.elim a
    have hz : zvar i ρ = ret w := by
      unfold zvar
      rw [q]
      cases w with
      | exv c fs => exact absurd rfl (nx c fs)
      | _ => rfl
    rw [hz] at a
    have a0 : AftS X.K G Wf ι h H (sbnd (m ρ) ρ (fun y => sbnd (f w y) ρ fun z h => .ok .next (ρ.set i (some z)) h) h) D := a
    obtain ⟨v, e1, pv⟩ := sr.2 i w (getD_some q)
    replace pv := pv.resolve_right (fun ⟨c, fs, _, _, z, _⟩ => nx c fs z)
    obtain ⟨mm, hn, hl⟩ := I.loc
    have vis : Vis X.env.scope x := by rcases hx with k | k; exact .inl k; exact .inr (.inl k)
    obtain ⟨u, ru, l⟩ := hl i x v hi e1 vis
    refine wpAny_AugAssign_Name ?_
    have go : wpAny (model X.prog X.w) X.A (eval e X.env) (fun w s₂ => wpAny (model X.prog X.w) X.A (inplaceOp op u w) (fun r s₃ => wpAny (model X.prog X.w) X.A (storeName X.env x r) (fun _ s' => Tk b s' ∧ SP X pins D .next s') X.xe s₃) X.xe s₂) X.xe s := by
      refine thn (he.run pins s σ H ι h ρ _ tk I r sr (a0.bnd (P := rpW X.K G) r sr)) fun w2 s1 ⟨tk1, v1, H1, I1, r1, ι1, h1, w1, n1, p1, sr1, a1⟩ => ?_
      refine thn (withTk tk1 (ho pins s1 σ H1 ι1 h1 w w1 v v1 u w2 _ I1 n1.rep (pv.next r n1.toNx0) p1 ru r1 (a1.bnd (P := rpW X.K G) n1.rep sr1))) fun z s2 ⟨tk2, v2, H2, I2, r2, ι2, h2, w3, n2, p2, sr2, a2⟩ => ?_
      refine thn (withTk tk2 (store_ok (Q := fun _ s' => Inv X pins (σ.set i (some v2)) H2 s') I2 hN hi hx r2 (fun s3 I3 => I3) hf)) fun _ s3 ⟨tk3, I3⟩ => ⟨tk3, _, H2, I3, ?_⟩
      refine a2 ι2 H2 _ (Next.refl n2.rep) (sr2.set p2 i ?_)
      rw [I2.len]
      exact (List.getElem?_eq_some_iff.mp hi).1
    rcases l with ⟨hk, hm⟩ | ⟨hk, c, hc, hcell⟩
    · exact wpAny_loadName_local I.ok.kind hk hn hm go
    · rcases hk with hk | hk
      · exact wpAny_loadName_cell I.ok.kind hk hc hcell go
      · rcases hx with k | k
        · have : X.env.scope.names.lookup x = some .free := hk
          rw [k] at this; cases this
        · have : X.env.scope.names.lookup x = some .free := hk
          rw [k] at this; cases this

def zlrange (ma : Ev → M W) : Ev → M W := fun ρ => bnd (ma ρ) fun w => match w with
  | .int n => if (decide (-P62 ≤ n) && decide (n ≤ 16777216)) = true then new (.lst (rangeW 0 n.toNat)) else bad
  | _ => bad
theorem reps_rg {K : PySem.W.Frag} {ι : Nat → Addr} {h : Hz} {H : Hp} : ∀ (n : Nat) (f : Nat → Int) (lo : Int), (∀ i, i < n → f i = lo + i) → Reps K G ι h H (rangeW lo n) ((List.range n).map fun i => V.int (f i))
  | 0, f, lo, _ => .nil
  | n + 1, f, lo, hf => by
    rw [List.range_succ_eq_map, List.map_cons, List.map_map]
    have e0 : f 0 = lo := by rw [hf 0 (Nat.succ_pos _)]; simp
    have q := reps_rg (K := K) (ι := ι) (h := h) (H := H) n (fun i => f (i + 1)) (lo + 1) fun i hi => by rw [hf (i + 1) (by omega)]; push_cast; omega
    show Reps K G ι h H (.int lo :: rangeW (lo + 1) n) _
    rw [e0]
    exact .cons (.int lo) q
theorem pz_lrange {p2 pos2 : Pos} (hc : X.calm = true) (hg : Gl X "list") (hm : X.mg "list" = none) (hg2 : Gl X "range") (hm2 : X.mg "range" = none) (ha : PZ b X G Wf e m) (hst : isStar e = false) :
    PZ b X G Wf (.Call (.Name "list" p) [.Call (.Name "range" p2) [e] [] pos2] [] pos) (zlrange m) := by
  refine ⟨fun pins s σ H ι h ρ Q tk I r sr aft => ?_⟩
  have na : starEach [e] X.env = (false, eval e X.env) :: starEach [] X.env := starEach_cons hst
  refine Call_ (ld_blt I hg hm boot_list (PyProof.Rows.callWith_type1 (args_cons (Call_ (ld_blt I hg2 hm2 boot_range (PyProof.Rows.callWith_type1 (args_cons (thn (ha.run pins s σ H ι h ρ _ tk I r sr (aft.bnd (P := rpW X.K G))) fun u s1 ⟨tk1, v1, H1, I1, r1, ι1, h1, w1, n1, p1, a1⟩ => args_nil ?_) na) na))) rfl) rfl))
  cases p1 with
  | int n =>
    obtain ⟨t, rfl⟩ := r1
    refine call_range_1 ?_
    refine args_nil ?_
    refine withTk (fun z => ?_) ?_
    · exact Nat.le_trans (tk1 z) (by first | exact Nat.le_refl _ | exact Nat.le_succ _ | (simp; done) | (simp; omega))
    dsimp only at a1
    split at a1
    · rename_i hb
      have hb' := Bool.and_eq_true_iff.mp hb
      have b1 : -(2 ^ 62) ≤ n := by have := of_decide_eq_true hb'.1; unfold P62 at this; omega
      have b2 : n ≤ 16777216 := of_decide_eq_true hb'.2
      have q := lst_new n1.rep (reps_rg (K := X.K) (G := G) (ι := ι1) (h := h1) (H := H1) (n - 0).toNat (fun i => 0 + (i : Nat)) 0 (fun i _ => rfl)) (by simpa using a1)
      have I2 : Inv X pins σ H1 { s1 with heap := s1.heap.push { cls := .type "range", data := .fields #[.int 0 s1.toks, .int n t, .int 1 (s1.toks + 1)] }, toks := s1.toks + 1 + 1 } := I1.kept fun c o e => Heap.get?_push_of_some _ e
      refine call_list_range (n := (n - 0).toNat) (I2.ok.hd hc) (IsRange.new _ _ _ _ _ _ _) (small_one (by decide) (by decide) b1 (by omega)) (rangeSize_nat 0 n) (by omega) fun h' tk acc c' hk e' hi => ?_
      refine ⟨.ref _, upd H1 _ (.lst (rgV 0 n)), I2.laid hk (Nat.le_refl _) (show ObjOk X.prog X.w _ _ _ (.lst (rgV 0 n)) from ⟨?_, acc.toList, c', vals_rg hi, ?_⟩), rfl, q _ (I2.hok.fresh (Nat.le_refl _))⟩
      · rw [rgV_length, sizeLine_eq]; omega
      · rw [Array.toArray_toList]; exact e'
    · exact False.elim a1
  | _ => exact False.elim a1
end
end Z

set_option Elab.async false
set_option linter.all false
set_option maxRecDepth 100000
set_option maxHeartbeats 1000000
set_option autoImplicit false
namespace Z
open PySem L2
open PyProof.Rows hiding St
/-- y is put at the end of the list in the cell i -/
def zpush (i : Nat) (y : W) : M W := fun h => match h.get i with
  | some (.lst xs) => if decide (xs.length < LIM) = true then .ok .non (h.put i (.lst (xs ++ [y]))) else .err
  | _ => .err
/-- a loop -/
def lpz (z : Itz) (ct : CT) (nt : Ev → M Bool) (bd : Ev → M W) (ρ : Ev) : List W → Nat → M W
  | fuel, i => fun h => match zitem z i h with
    | none => .err
    | some none => .ok .non h
    | some (some w) => match fuel with
      | [] => .err
      | _ :: fuel => match setCT ct w ρ with
        | none => .err
        | some ρ2 => bnd (noex (nt ρ2)) (fun t => match t with
          | true => bnd (bd ρ2) fun _ => lpz z ct nt bd ρ fuel (i + 1)
          | false => lpz z ct nt bd ρ fuel (i + 1)) h
section
variable {z : Itz} {ct : CT} {nt : Ev → M Bool} {bd : Ev → M W} {ρ ρ2 : Ev} {fuel : List W} {i : Nat} {h : Hz} {w f : W}
theorem lpz_none (e : zitem z i h = none) : lpz z ct nt bd ρ fuel i h = .err := by unfold lpz; simp only [e]
theorem lpz_stop (e : zitem z i h = some none) : lpz z ct nt bd ρ fuel i h = .ok .non h := by unfold lpz; simp only [e]
theorem lpz_nil (e : zitem z i h = some (some w)) : lpz z ct nt bd ρ [] i h = .err := by unfold lpz; simp only [e]
theorem lpz_bad (e : zitem z i h = some (some w)) (e2 : setCT ct w ρ = none) : lpz z ct nt bd ρ (f :: fuel) i h = .err := by unfold lpz; simp only [e, e2]
theorem lpz_go (e : zitem z i h = some (some w)) (e2 : setCT ct w ρ = some ρ2) : lpz z ct nt bd ρ (f :: fuel) i h = bnd (noex (nt ρ2)) (fun t => match t with
          | true => bnd (bd ρ2) fun _ => lpz z ct nt bd ρ fuel (i + 1)
          | false => lpz z ct nt bd ρ fuel (i + 1)) h := by
  conv => lhs; unfold lpz
  simp only [e, e2]
end
/-- [elt for .. in mi if nt for .. in mi1 if nt1] -/
def zlc2 (vs vs1 : List Nat) (mi : Ev → M Itz) (ct : CT) (nt : Ev → M Bool) (mi1 : Ev → M Itz) (ct1 : CT) (nt1 : Ev → M Bool) (me : Ev → M W) : Ev → M W := fun ρ => bnd (mi ρ) fun z h =>
  bnd (lpz z ct nt (fun ρ2 => bnd (noex (mi1 ρ2)) fun z1 => lpz z1 ct1 nt1 (fun ρ3 => bnd (noex (me ρ3)) fun y => zpush h.n y) (wipeW ρ2 vs1) z1.fuel 0) (wipeW ρ vs) z.fuel 0) (fun _ => ret (.ref h.n)) (h.push (.lst []))
section
variable {X : Cx} {G : Gt} {Wf : WX} {b : Bool}
/-- where a loop stands -/
def LpW (X : Cx) (G : Gt) (Wf : WX) (σq : St) (ιb : Nat → Addr) (hb : Hz) (Hb : Hp) (Q : VK) (z : Itz) (ct : CT) (nt : Ev → M Bool) (bd : Ev → M W) (ρw : Ev) (kk : W → M W) (ι0 : Nat → Addr) (h0 : Hz) (H0 : Hp) (i m : Nat) (H' : Hp) : Prop :=
  ∃ (ι' : Nat → Addr) (h' : Hz) (fuel : List W), fuel.length = m ∧ (∀ ws, z = .fix ws → fuel.length + i = ws.length) ∧ Next X.K G ι0 h0 H0 ι' h' H' ∧ Aft X.K G Wf σq (rpW X.K G) ιb hb Hb (bnd (lpz z ct nt bd ρw fuel i) kk h') Q
/-- a loop, turn by turn -/
theorem lp_step {z : Itz} {J : It} {ct : CT} {nt : Ev → M Bool} {bd : Ev → M W} {ρw : Ev} {σ σq : St} {vs : List Nat} {ι0 ιb : Nat → Addr} {h0 hb : Hz} {H0 Hb : Hp} {Q : VK} {kk : W → M W} {Bd : St → Hp → (Hp → Prop) → Prop} (r0 : HRep X.K G ι0 h0 H0) (okz : ItOk X.K G z J ι0 h0 H0)
    (hcv : ∀ i ∈ ct.own, i ∈ vs ∧ i < σ.length) (srw : SRep X.K G ι0 h0 H0 ρw (wipe σ vs))
    (hB : ∀ (σ2 : St) (ι3 : Nat → Addr) (h3 : Hz) (H3 : Hp) (ρ2 : Ev) (k' : M W) (Nx : Hp → Prop), wipe σ2 vs = wipe σ vs → Next X.K G ι0 h0 H0 ι3 h3 H3 → SRep X.K G ι3 h3 H3 ρ2 σ2 → Aft X.K G Wf σq (rpW X.K G) ιb hb Hb (bnd (bd ρ2) (fun _ => k') h3) Q →
      (∀ ι4 h4 H4, Next X.K G ι3 h3 H3 ι4 h4 H4 → Aft X.K G Wf σq (rpW X.K G) ιb hb Hb (k' h4) Q → Nx H4) → Bd σ2 H3 Nx)
    (i m : Nat) (H' : Hp) (hW : LpW X G Wf σq ιb hb Hb Q z ct nt bd ρw kk ι0 h0 H0 i m H') :
    (J.stop i H' ∧ ∃ ι' h', Next X.K G ι0 h0 H0 ι' h' H' ∧ Aft X.K G Wf σq (rpW X.K G) ιb hb Hb (kk .non h') Q) ∨
    (J.go i H' ∧ ∃ Nx : Hp → Prop, (∀ H'', Nx H'' → ∃ m', m' < m ∧ LpW X G Wf σq ιb hb Hb Q z ct nt bd ρw kk ι0 h0 H0 (i + 1) m' H'') ∧ ∀ x H2, J.yld i H' x H2 → gCT X.K ct x (wipe σ vs) H2 fun σ2 H3 => wipe σ2 vs = wipe σ vs ∧ tZT X.K G nt σ2 H3 fun t H4 => if t = true then Bd σ2 H4 Nx else Nx H4) := by
  obtain ⟨ι', h', fuel, hm, hfix, n', a2⟩ := hW
  have okt := okz ι' h' H' i n'
  have hz : (zitem z i h' = some none) ∨ ∃ w f fs ρ2, zitem z i h' = some (some w) ∧ fuel = f :: fs ∧ setCT ct w ρw = some ρ2 := by
    cases ez : zitem z i h' with
    | none => rw [bnd_err (lpz_none ez)] at a2; exact False.elim a2
    | some o =>
      cases o with
      | none => exact .inl rfl
      | some w =>
        cases fuel with
        | nil => rw [bnd_err (lpz_nil ez)] at a2; exact False.elim a2
        | cons f fs =>
          cases es : setCT ct w ρw with
          | none => rw [bnd_err (lpz_bad ez es)] at a2; exact False.elim a2
          | some ρ2 => exact .inr ⟨w, f, fs, ρ2, rfl, rfl, es⟩
  rcases hz with ez | ⟨w, f, fs, ρ2, ez, ef, es⟩
  · rw [ez] at okt
    rw [bnd_okk (lpz_stop ez)] at a2
    have hl : ∀ ws, z = .fix ws → i = ws.length := fun ws ew => by
      subst ew
      have e1 : some ws[i]? = some none := ez
      have e2 : ws[i]? = none := by simpa using e1
      have e3 := List.getElem?_eq_none_iff.mp e2
      have e4 := hfix ws rfl
      omega
    exact .inl ⟨okt hl, ι', h', n', a2⟩
  · subst ef
    rw [ez] at okt
    obtain ⟨go, yl⟩ := okt
    rw [bnd_congr (lpz_go ez es), bnd_assoc] at a2
    have hfx : ∀ ws, z = .fix ws → fs.length + (i + 1) = ws.length := fun ws ew => by
      have := hfix ws ew
      simp only [List.length_cons] at this
      omega
    refine .inr ⟨go, fun H'' => ∃ (ι4 : Nat → Addr) (h4 : Hz), Next X.K G ι0 h0 H0 ι4 h4 H'' ∧ Aft X.K G Wf σq (rpW X.K G) ιb hb Hb (bnd (lpz z ct nt bd ρw fs (i + 1)) kk h4) Q, fun H'' ⟨ι4, h4, n4, a4⟩ => ⟨fs.length, by simp only [List.length_cons] at hm; omega, ι4, h4, fs, rfl, hfx, n4, a4⟩, fun x H2 hy => ?_⟩
    obtain ⟨n2, p2⟩ := yl x H2 hy
    have sr2 := (srw.next r0 n'.toNx0).next n'.rep n2.toNx0
    refine gCT_ok hcv sr2 p2 es fun σ2 sr3 hw => ⟨hw, ?_⟩
    refine ⟨ι', h', ρ2, n2.rep, sr3, (Aft.inner (P := rpE) (σ' := σ2) (ι := ι') (H := H2) a2).imp fun t H3 ⟨ι3, h3, t', n3, et, a3⟩ => ?_⟩
    cases et
    have n23 := n2.trans n3
    cases t with
    | false =>
      rw [if_neg Bool.false_ne_true]
      exact ⟨ι3, h3, n'.trans n23, a3⟩
    | true =>
      rw [if_pos rfl]
      rw [bnd_assoc] at a3
      exact hB σ2 ι3 h3 H3 ρ2 _ _ hw (n'.trans n23) (sr3.next n2.rep n3.toNx0) a3 fun ι4 h4 H4 n4 a4 => ⟨ι4, h4, (n'.trans n23).trans n4, a4⟩
theorem lc2_after {own : List (Str × Nat)} {vs1 : List Nat} {mi mi1 : Ev → M Itz} {ct ct1 : CT} {nt nt1 : Ev → M Bool} {me : Ev → M W} {pins : List (Addr × Obj)} {s : Shared} {σ : St} {H : Hp} {ι : Nat → Addr} {h : Hz} {ρ : Ev} {Q : VK} (hix : ∀ i ∈ own.map (·.2), i < X.N.length) (hct : ∀ i ∈ ct.own, i ∈ own.map (·.2)) (hct1 : ∀ i ∈ ct1.own, i ∈ vs1) (hv : ∀ i ∈ vs1, i ∈ own.map (·.2))
    (I : Inv X pins σ H s) (r : HRep X.K G ι h H) (sr : SRep X.K G ι h H ρ σ) (a : Aft X.K G Wf σ (rpW X.K G) ι h H (zlc2 (own.map (·.2)) vs1 mi ct nt mi1 ct1 nt1 me ρ h) Q) :
    tLc2 (tZI X.K G Wf mi) (gCT X.K ct) (tZT X.K G nt) (tZI X.K G W0 mi1) (gCT X.K ct1) (tZT X.K G nt1) (tZ X.K G W0 me) (own.map (·.2)) vs1 σ H Q := by
  refine ⟨ι, h, ρ, r, sr, ?_⟩
  refine (a.bnd (P := rpI X.K G)).imp fun J H1 ⟨ι1, h1, z, n1, okz, a1⟩ => ?_
  intro D hD
  have sr1 := (sr.next r n1.toNx0).wipe (own.map (·.2))
  have n0 : Nx0 ι1 h1 H1 (ext1 ι1 h1.n D) (h1.push (.lst [])) (upd H1 D (.lst [])) := Nx0.alloc hD
  have nD := Next.alloc (c := .lst []) (o := .lst []) n1.rep hD ⟨[], upd_same, .nil⟩
  have okz2 : ItOk X.K G z J (ext1 ι1 h1.n D) (h1.push (.lst [])) (upd H1 D (.lst [])) := fun ι' h' H' i n' => okz ι' h' H' i (nD.trans n')
  have sr2 := sr1.next n1.rep n0
  have hcD : (ext1 ι1 h1.n D) h1.n = D := ext1_at
  have hlt : h1.n < (h1.push (.lst [])).n := Nat.lt_succ_self _
  have step := lp_step (Wf := Wf) (σq := σ) (ιb := ι1) (hb := h1) (Hb := H1) (Q := Q) (kk := fun _ => ret (.ref h1.n)) (nt := nt) (vs := own.map (·.2)) (Bd := fun σ2 H3 Nx => tZI X.K G W0 mi1 σ2 H3 fun J1 H4 => ∃ W1 : Nat → Nat → Hp → Prop, (∃ m, W1 0 m H4) ∧ ∀ j k H, W1 j k H →
      (J1.stop j H ∧ Nx H) ∨ (J1.go j H ∧ ∃ Nx1 : Hp → Prop, (∀ H', Nx1 H' → ∃ k', k' < k ∧ W1 (j + 1) k' H') ∧ ∀ x H', J1.yld j H x H' → gCT X.K ct1 x (wipe σ2 vs1) H' fun σ3 H5 => wipe σ3 vs1 = wipe σ2 vs1 ∧ tZT X.K G nt1 σ3 H5 fun b H6 =>
        if b = true then tZ X.K G W0 me σ3 H6 fun y H7 => ∃ acc, H7 D = some (.lst acc) ∧ acc.length < sizeLine ∧ Nx1 (upd H7 D (.lst (acc ++ [y]))) else Nx1 H6))
    (bd := fun ρ2 => bnd (noex (mi1 ρ2)) fun z1 => lpz z1 ct1 nt1 (fun ρ3 => bnd (noex (me ρ3)) fun y => zpush h1.n y) (wipeW ρ2 vs1) z1.fuel 0)
    nD.rep okz2 (fun j hj => ⟨hct j hj, by rw [I.len]; exact hix j (hct j hj)⟩) sr2 ?hB
  case hB =>
    intro σ2 ι3 h3 H3 ρ2 k' Nx hw n3 sr3 a3 fin
    have len2 : σ2.length = σ.length := by rw [← wipe_length σ2 (own.map (·.2)), hw, wipe_length]
    rw [bnd_assoc] at a3
    refine ⟨ι3, h3, ρ2, n3.rep, sr3, (Aft.inner (P := rpI X.K G) (σ' := σ2) (ι := ι3) (H := H3) a3).imp fun J1 H4 ⟨ι4, h4, z1, n4, okz1, a4⟩ => ?_⟩
    have n34 := n3.trans n4
    refine ⟨LpW X G Wf σ ι1 h1 H1 Q z1 ct1 nt1 (fun ρ3 => bnd (noex (me ρ3)) fun y => zpush h1.n y) (wipeW ρ2 vs1) (fun _ => k') ι4 h4 H4, ⟨z1.fuel.length, ι4, h4, z1.fuel, rfl, fun ws e => (by subst e; rfl), Next.refl n4.rep, a4⟩, fun j kx H5 hW => ?_⟩
    have st1 := lp_step (Wf := Wf) (σq := σ) (σ := σ2) (ιb := ι1) (hb := h1) (Hb := H1) (Q := Q) (kk := fun _ => k') (nt := nt1) (vs := vs1) (Bd := fun σ3 H6 Nx1 => tZ X.K G W0 me σ3 H6 fun y H7 => ∃ acc, H7 D = some (.lst acc) ∧ acc.length < sizeLine ∧ Nx1 (upd H7 D (.lst (acc ++ [y]))))
      n4.rep okz1 (fun i hi => ⟨hct1 i hi, by rw [len2, I.len]; exact hix i (hv i (hct1 i hi))⟩) ((sr3.next n3.rep n4.toNx0).wipe vs1) (fun σ3 ι6 h6 H6 ρ3 k2 Nx1 hw3 n6 sr6 a6 fin6 => ?_) j kx H5 hW
    · rcases st1 with ⟨st, ι', h', n', a'⟩ | go
      · exact .inl ⟨st, fin ι' h' H5 (n4.trans n') a'⟩
      · exact .inr go
    · rw [bnd_assoc] at a6
      refine ⟨ι6, h6, ρ3, n6.rep, sr6, (Aft.inner (P := rpW X.K G) (σ' := σ3) (ι := ι6) (H := H6) a6).imp fun y H7 ⟨ι7, h7, yw, n7, py, a7⟩ => ?_⟩
      have nn := (n34.trans n6).trans n7
      have eD : ι7 h1.n = D := by rw [nn.ext _ hlt, hcD]
      unfold zpush at a7
      cases g7 : h7.get h1.n with
      | none =>
        have e : bnd (fun h => match h.get h1.n with | some (.lst xs) => if decide (xs.length < LIM) = true then R.ok W.non (h.put h1.n (.lst (xs ++ [yw]))) else .err | _ => .err) (fun _ => k2) h7 = .err := by
          unfold bnd; simp only [g7]
        rw [e] at a7; exact False.elim a7
      | some c =>
        cases c with
        | lst xs =>
          by_cases hl : xs.length < LIM
          · have e : bnd (fun h => match h.get h1.n with | some (.lst xs) => if decide (xs.length < LIM) = true then R.ok W.non (h.put h1.n (.lst (xs ++ [yw]))) else .err | _ => .err) (fun _ => k2) h7 = k2 (h7.put h1.n (.lst (xs ++ [yw]))) := by
              unfold bnd; simp only [g7, hl, decide_true, if_true]
            rw [e] at a7
            obtain ⟨us, eu, ru⟩ := nn.rep.cell _ _ g7
            rw [eD] at eu
            refine ⟨us, eu, by rw [← ru.length, ← lim_eq]; exact hl, ?_⟩
            have m0 : Nx0 ι7 h7 H7 ι7 (h7.put h1.n (.lst (xs ++ [yw]))) (upd H7 (ι7 h1.n) (.lst (us ++ [y]))) := Nx0.store g7 rfl
            have ns := Next.store (o := .lst (us ++ [y])) (c := .lst (xs ++ [yw])) nn.rep g7 rfl rfl ⟨us ++ [y], upd_same, (ru.append (.cons py .nil)).next nn.rep m0⟩
            rw [eD] at ns
            exact fin6 _ _ _ (n7.trans ns) a7
          · have e : bnd (fun h => match h.get h1.n with | some (.lst xs) => if decide (xs.length < LIM) = true then R.ok W.non (h.put h1.n (.lst (xs ++ [yw]))) else .err | _ => .err) (fun _ => k2) h7 = .err := by
              unfold bnd; simp only [g7, hl, decide_false, Bool.false_eq_true, if_false]
            rw [e] at a7; exact False.elim a7
        | ins c fs =>
          have e : bnd (fun h => match h.get h1.n with | some (.lst xs) => if decide (xs.length < LIM) = true then R.ok W.non (h.put h1.n (.lst (xs ++ [yw]))) else .err | _ => .err) (fun _ => k2) h7 = .err := by
            unfold bnd; simp only [g7]
          rw [e] at a7; exact False.elim a7
        | dct kvs =>
          have e : bnd (fun h => match h.get h1.n with | some (.lst xs) => if decide (xs.length < LIM) = true then R.ok W.non (h.put h1.n (.lst (xs ++ [yw]))) else .err | _ => .err) (fun _ => k2) h7 = .err := by
            unfold bnd; simp only [g7]
          rw [e] at a7; exact False.elim a7
        | dead =>
          have e : bnd (fun h => match h.get h1.n with | some (.lst xs) => if decide (xs.length < LIM) = true then R.ok W.non (h.put h1.n (.lst (xs ++ [yw]))) else .err | _ => .err) (fun _ => k2) h7 = .err := by
            unfold bnd; simp only [g7]
          rw [e] at a7; exact False.elim a7
  refine ⟨LpW X G Wf σ ι1 h1 H1 Q z ct nt _ (wipeW ρ (own.map (·.2))) (fun _ => ret (.ref h1.n)) (ext1 ι1 h1.n D) (h1.push (.lst [])) (upd H1 D (.lst [])), ⟨z.fuel.length, _, _, z.fuel, rfl, fun ws e => (by subst e; rfl), Next.refl nD.rep, a1⟩, fun i m H' hW => ?_⟩
  rcases step i m H' hW with ⟨st, ι', h', n', a'⟩ | go
  · refine .inl ⟨st, ?_⟩
    have z1 := a' ι' H' (.ref (ι' h1.n)) (nD.trans n') (.ref _ (Nat.lt_of_lt_of_le hlt n'.le))
    rw [n'.ext _ hlt, hcD] at z1
    exact z1
  · exact .inr go
section
variable {elt tg iter tg1 iter1 : Expr} {ifs ifs1 : List Expr} {scope : Scope} {own : List (Str × Nat)} {vs1 : List Nat} {pos : Pos} {mi mi1 : Ev → M Itz} {ct ct1 : CT} {nt nt1 : Ev → M Bool} {me : Ev → M W}
theorem pz_lc2 (hc : X.calm = true) (hN : X.N.Nodup) (hi : PZI false X G Wf tg iter mi) (ok : BlkOk X.N X.env.scope scope own) (hct : ∀ i ∈ ct.own, i ∈ own.map (·.2)) (hct1 : ∀ i ∈ ct1.own, i ∈ vs1) (hv : ∀ i ∈ vs1, i ∈ own.map (·.2))
    (hg : ∀ (s : Shared) (H : Hp) (C : Addr) (cl : List (Str × Addr)) (fp : List Addr), PG (X.blk s H scope (compEnvC scope cl C X.env) fp) tg (gCT X.K ct)) (ht : ∀ (s : Shared) (H : Hp) (C : Addr) (cl : List (Str × Addr)) (fp : List Addr), PZTs (X.blk s H scope (compEnvC scope cl C X.env) fp) G ifs nt)
    (hi1 : ∀ (s : Shared) (H : Hp) (C : Addr) (cl : List (Str × Addr)) (fp : List Addr), PZI false (X.blk s H scope (compEnvC scope cl C X.env) fp) G W0 tg1 iter1 mi1)
    (hg1 : ∀ (s : Shared) (H : Hp) (C : Addr) (cl : List (Str × Addr)) (fp : List Addr), PG (X.blk s H scope (compEnvC scope cl C X.env) fp) tg1 (gCT X.K ct1)) (ht1 : ∀ (s : Shared) (H : Hp) (C : Addr) (cl : List (Str × Addr)) (fp : List Addr), PZTs (X.blk s H scope (compEnvC scope cl C X.env) fp) G ifs1 nt1)
    (he : ∀ (s : Shared) (H : Hp) (C : Addr) (cl : List (Str × Addr)) (fp : List Addr), PZ false (X.blk s H scope (compEnvC scope cl C X.env) fp) G W0 elt me) (hs : ∀ x, foldedSetIterable iter X.env x = pure x) (hs1 : ∀ env x, foldedSetIterable iter1 env x = pure x) :
    PZ b X G Wf (.ListComp elt [⟨tg, iter, ifs, 0⟩, ⟨tg1, iter1, ifs1, 0⟩] scope pos) (zlc2 (own.map (·.2)) vs1 mi ct nt mi1 ct1 nt1 me) :=
  PZ.of' (pe_lc2 hc hN (pi_of hi) ok hv hg (fun s H C cl fp => pts_of (ht s H C cl fp)) (fun s H C cl fp => pi_of (hi1 s H C cl fp)) hg1 (fun s H C cl fp => pts_of (ht1 s H C cl fp)) (fun s H C cl fp => (he s H C cl fp).pe) hs hs1) fun pins s σ H ι h ρ Q I r sr a => lc2_after (own_ix ok) hct hct1 hv I r sr a
theorem pzs_setLc2 {i : Nat} {y : Str} {py spos : Pos} (hc : X.calm = true) (hN : X.N.Nodup) (hy : X.N[i]? = some y) (hyl : X.env.scope.names.lookup y = some .local) (hsw : swapsWith (.ListComp elt [⟨tg, iter, ifs, 0⟩, ⟨tg1, iter1, ifs1, 0⟩] scope pos) (some (.Name y py)) spos.line X.env = pure true) (hi : PZI false X G Wf tg iter mi)
    (ok : BlkOk X.N X.env.scope scope own) (hct : ∀ i ∈ ct.own, i ∈ own.map (·.2)) (hct1 : ∀ i ∈ ct1.own, i ∈ vs1) (hv : ∀ i ∈ vs1, i ∈ own.map (·.2)) (hg : ∀ (s : Shared) (H : Hp) (C : Addr) (cl : List (Str × Addr)) (fp : List Addr), PG (X.blk s H scope (compEnvC scope cl C X.env) fp) tg (gCT X.K ct))
    (ht : ∀ (s : Shared) (H : Hp) (C : Addr) (cl : List (Str × Addr)) (fp : List Addr), PZTs (X.blk s H scope (compEnvC scope cl C X.env) fp) G ifs nt)
    (hi1 : ∀ (s : Shared) (H : Hp) (C : Addr) (cl : List (Str × Addr)) (fp : List Addr), PZI false (X.blk s H scope (compEnvC scope cl C X.env) fp) G W0 tg1 iter1 mi1)
    (hg1 : ∀ (s : Shared) (H : Hp) (C : Addr) (cl : List (Str × Addr)) (fp : List Addr), PG (X.blk s H scope (compEnvC scope cl C X.env) fp) tg1 (gCT X.K ct1)) (ht1 : ∀ (s : Shared) (H : Hp) (C : Addr) (cl : List (Str × Addr)) (fp : List Addr), PZTs (X.blk s H scope (compEnvC scope cl C X.env) fp) G ifs1 nt1)
    (he : ∀ (s : Shared) (H : Hp) (C : Addr) (cl : List (Str × Addr)) (fp : List Addr), PZ false (X.blk s H scope (compEnvC scope cl C X.env) fp) G W0 elt me) (hs : ∀ x, foldedSetIterable iter X.env x = pure x) (hs1 : ∀ env x, foldedSetIterable iter1 env x = pure x) :
    PZS b X G Wf (.Assign [.Name y py] (.ListComp elt [⟨tg, iter, ifs, 0⟩, ⟨tg1, iter1, ifs1, 0⟩] scope pos) spos) (sasg (zlc2 (own.map (·.2)) vs1 mi ct nt mi1 ct1 nt1 me) (gname i)) := by
  refine ⟨fun pins s σ H ι h ρ D tk I r sr a => withTk tk ((ps_setLc2 hc hN hy hyl hsw (pi_of hi) ok hv hg (fun s H C cl fp => pts_of (ht s H C cl fp)) (fun s H C cl fp => pi_of (hi1 s H C cl fp)) hg1 (fun s H C cl fp => pts_of (ht1 s H C cl fp)) (fun s H C cl fp => (he s H C cl fp).pe) hs hs1).run pins s σ H D I (lc2_after (own_ix ok) hct hct1 hv I r sr ?_))⟩
  refine (a.bnd (P := rpW X.K G) r sr).imp fun v H1 ⟨ι1, h1, w, n1, p1, sr1, a1⟩ => a1 ι1 H1 _ (Next.refl n1.rep) (sr1.set p1 i ?_)
  rw [I.len]
  exact (List.getElem?_eq_some_iff.mp hy).1
end
end
end Z

set_option Elab.async false
set_option linter.all false
set_option maxRecDepth 100000
set_option maxHeartbeats 1000000
set_option autoImplicit false
namespace Z
open PySem L2
open PyProof.Rows hiding St
section
variable {X : Cx} {e : Expr} {es : List Expr} {ta : TA} {p p1 p2 pos : Pos}
/-- S.__init__(self, ..), S an own class over ValueError -/
theorem pe_slinit {x : Str} {C : Addr} {mc : Value} (hg : Gl X x) (hm : X.mg x = some (.ref C)) (rd : ClX.CRead X.K C mc) (vV : PySem.W.findCls X.K (.ref C) mc "__init__" = some (.val (.builtin "ValueError.__init__"))) (ha : PA X (e :: es) ta) (hd : (x == ("__debug__" : Str)) = false)
    (hl : (p2.endLine == pos.line) = true) (hst : (e :: es).all (fun e => !isStar e) = true) (h29 : (e :: es).length < 29) :
    PE X (.Call (.Attribute (.Name x p1) "__init__" p2) (e :: es) [] pos) (tVeI X.K ta) := by
  refine ⟨fun pins s σ H Q I h => ?_⟩
  have hst' := hst
  rw [List.all_cons] at hst'
  have h1 : isStar e = false := by simpa using (Bool.and_eq_true_iff.mp hst').1
  refine PySem.W.methodCall_KW (ld_glob I hg hm ?_ hd) (meth_tree (kws := []) rfl (few_of (kws := []) hst rfl (by simpa using h29)) hl)
  refine PySem.W.method_cls I.kIn rd.ga (PySem.W.cls_value I.kIn rd.rd vV (by decide +kernel) ?_)
  show wpAny _ _ (callWith pos (Value.builtin "ValueError.__init__") [] (backTo pos (starEach (e :: es) X.env)) []) _ _ _
  refine PyProof.Rows.callWith_method1 (thn (ha.run pos pins _ σ H _ (I.tok _) h) fun us s1 ⟨vs, H1, I1, r1, a, C, ws, ev, hl, T, ea, q⟩ => ?_) (starEach_cons h1) (starEach_no (Bool.and_eq_true_iff.mp hst').2)
  subst ev
  cases r1 with
  | @cons _ u0 _ ur ra rw' =>
    obtain rfl : u0 = Value.ref a := ra
    have hlen : ur.length ≤ sizeLine := by
      rw [← Paired.length rw', sizeLine_eq]
      omega
    exact oinit_ok T I1 ea hlen fun s' J => ⟨.non, H1, J, rfl, q⟩
end
/-- what an own exception's __init__(self, x) keeps: S.__init__(self, ..), self.f = x -/
def spX1 (C : Addr) (f : Str) : Sp := fun vs H Q _ => ∃ a y, vs = [.ref a, y] ∧ H a = some (exo a C none) ∧ ∀ dx, H dx = none → dx ≠ a → Q .non (upd (upd H dx (exd dx [(f, y)])) a (exo a C (some dx)))
/-- .. without a field -/
def spX0 (C : Addr) : Sp := fun vs H Q _ => ∃ a, vs = [.ref a] ∧ H a = some (exo a C none) ∧ Q .non H
/-- an own exception of one field -/
def XkOk (X : Cx) (G : Gt) (k c f : Nat) : Prop := OexC X.K (G.cl c) ∧ ∃ fI fd p q, PySem.W.findIn X.K (.ref (G.cl c)) "__init__" = some (some (.ref fI)) ∧ PySem.W.typeIn X.K (.ref fI) = some (.type "function") ∧
  L2.FnOk X.prog X.w X.K X.mg X.base (CX X.prog X.w) k fI fd [p, q] (spX1 (G.cl c) (G.nm f)) ∧ Binds X.K fd [p, q] []
def XkOk0 (X : Cx) (G : Gt) (k c : Nat) : Prop := OexC X.K (G.cl c) ∧ ∃ fI fd p, PySem.W.findIn X.K (.ref (G.cl c)) "__init__" = some (some (.ref fI)) ∧ PySem.W.typeIn X.K (.ref fI) = some (.type "function") ∧
  L2.FnOk X.prog X.w X.K X.mg X.base (CX X.prog X.w) k fI fd [p] (spX0 (G.cl c)) ∧ Binds X.K fd [p] []
section
variable {b : Bool} {X : Cx} {G : Gt} {Wf : WX} {e : Expr} {es : List Expr} {mr : Ev → M (List W)} {p pos pos2 : Pos} {x : Str} {k : Nat}
def sraise (c f : Nat) (mr : Ev → M (List W)) : MS := fun ρ => sbnd (mr ρ) ρ fun ws h => match ws with
  | [w] => .exc c [(f, w)] ρ h
  | _ => .err
theorem passF : Passes (CX X.prog X.w) X (fun _ _ _ => False) := fun _ _ _ _ _ _ _ ⟨_, _, _, _, _, _, _, _, _, _, _, _, z⟩ => z.elim
theorem pzs_raise {c f : Nat} (hc : X.calm = true) (tk : Takes X Wf) (C : XkOk X G k c f) (hr : Room (k + 1) X.A) (hg : Gl X x) (hm : X.mg x = some (.ref (G.cl c))) (ha : PZA false X G Wf (e :: es) mr)
    (hdb : (x == ("__debug__" : Str)) = false) (hst : (e :: es).all (fun e => !isStar e) = true) :
    PZS b X G Wf (.Raise (some (.Call (.Name x p) (e :: es) [] pos2)) none pos) (sraise c f mr) := by
  obtain ⟨T, fI, fd, p1, p2, hI, hT, F, B⟩ := C
  rw [List.all_cons] at hst
  have h1 : isStar e = false := by simpa using (Bool.and_eq_true_iff.mp hst).1
  have P := ps_raise (pos := pos) hc tk (pmk_oex (dvs := []) (ds := []) (p := p) (pos := pos2) T hI hT F hr.rm B .nil passF hg hm ha.pa hdb (starEach_cons h1) (starEach_no (Bool.and_eq_true_iff.mp hst).2))
  refine ⟨fun pins s σ H ι h ρ D tk0 I r sr a => withTk tk0 (P.run pins s σ H D I ⟨ι, h, ρ, r, sr, ?_⟩)⟩
  refine (a.bnd (P := rpWs X.K G) r sr).imp fun vs H1 ⟨ι1, h1, ws, n1, p1, sr1, a1⟩ => ?_
  cases p1 with
  | nil => exact False.elim a1
  | @cons w v ws' vs' pw q =>
    cases q with
    | cons _ _ => exact False.elim a1
    | nil =>
      refine ⟨by simp, fun ad hn => ?_⟩
      refine ⟨ad, v, by simp, upd_same, fun dx hdx hne => ?_⟩
      have hdx1 : H1 dx = none := by rw [upd_ne hne] at hdx; exact hdx
      refine ⟨rfl, dx, [(G.nm f, v)], upd_same, by rw [upd_ne hne]; exact upd_same, hdx1, ?_⟩
      have eH : upd (del (upd (upd (upd H1 ad (exo ad (G.cl c) none)) dx (exd dx [(G.nm f, v)])) ad (exo ad (G.cl c) (some dx))) ad) dx (.xd [(G.nm f, v)]) = upd H1 dx (.xd [(G.nm f, v)]) := by
        funext b
        by_cases hb : b = dx
        · rw [hb, upd_same, upd_same]
        · rw [upd_ne hb, upd_ne hb]
          by_cases hb2 : b = ad
          · rw [hb2, del_same, hn]
          · rw [del_ne hb2, upd_ne hb2, upd_ne hb, upd_ne hb2]
      rw [eH]
      have nb := Next.beside (o := .xd [(G.nm f, v)]) n1.rep hdx1
      exact a1 ι1 _ σ (some dx) nb (sr1.next n1.rep nb.toNx0) (.inr ⟨dx, _, rfl, upd_same, .cons (pw.next n1.rep nb.toNx0) .nil⟩)

theorem x1_pure {K : PySem.W.Frag} {C : Addr} {f txt : Str} {N : List Str} {vs : List V} {H : Hp} {Q : VK} {E : XK} (T : OexC K C) (hno : PySem.W.findIn K (.ref C) f = some none) (h : spX1 C f vs H Q E) :
    tSeq (tDrop (tVeI K (tCons (tVar 0) (tCons (tC (.str txt)) tNil)))) (tOst K f (tVar 0) (tVar 1)) { nx := fun _ H' => Q .non H', rt := Q } (start N vs) H := by
  obtain ⟨a, y, rfl, ea, q⟩ := h
  refine ⟨.ref a, rfl, a, C, [.str txt], rfl, by simp, T, ea, ?_⟩
  exact ⟨y, rfl, .ref a, rfl, a, C, rfl, T, hno, .inl ⟨ea, fun dx h1 h2 => q dx h1 h2⟩⟩
theorem x0_pure {K : PySem.W.Frag} {C : Addr} {txt : Str} {N : List Str} {vs : List V} {H : Hp} {Q : VK} {E : XK} (T : OexC K C) (h : spX0 C vs H Q E) :
    tDrop (tVeI K (tCons (tVar 0) (tCons (tC (.str txt)) tNil))) { nx := fun _ H' => Q .non H', rt := Q } (start N vs) H := by
  obtain ⟨a, rfl, ea, q⟩ := h
  exact ⟨.ref a, rfl, a, C, [.str txt], rfl, by simp, T, ea, q⟩
theorem x1_len {C : Addr} {f : Str} {a b : Str} : ∀ vs H Q E, spX1 C f vs H Q E → vs.length = [a, b].length := fun vs H Q E ⟨_, _, e, _⟩ => by subst e; rfl
theorem x0_len {C : Addr} {a : Str} : ∀ vs H Q E, spX0 C vs H Q E → vs.length = [a].length := fun vs H Q E ⟨_, e, _⟩ => by subst e; rfl
theorem mk_endN {pins : List (Addr × Obj)} {σ : St} {H1 : Hp} {Q : XK} {hp hp2 h2 : Heap} {g1 g2 : Array GenState} {d1 d2 : Drawn} {t1 t2 : Nat} {os1 os2 : OsState} {a C : Addr} (T : Raises X (.ref C)) (I1 : Inv X pins σ H1 ⟨hp, g1, d1, t1, os1⟩)
    (ha : hp.objs.size ≤ a) (k : ∀ b o, hp.get? b = some o → hp2.get? b = some o) (un : Un (frs X.stack) [] (upd H1 a (exo a C none)) (upd H1 a (exo a C none)) hp2 h2) (hok : HOk X.prog X.w (upd H1 a (exo a C none)) h2) (ho : os2 = os1) (hb : AllBare g2)
    (q : Q (.ref C) none H1) : MkP X pins σ Q (.ref a) ⟨h2, g2, d2, t2, os2⟩ := by
  have ea : upd H1 a (exo a C none) a = some (exo a C none) := upd_same
  obtain ⟨t0, hoe⟩ := exo_at hok ea
  have hn : H1 a = none := I1.hok.fresh ha
  obtain ⟨G, g1', g2'⟩ := restrict h2 fun b => decide (b ≠ a)
  have gk : ∀ b, b ≠ a → G.get? b = h2.get? b := fun b hb => g1' b (decide_eq_true hb)
  have ge : G.get? a = none := g2' a (by simp)
  have nha : ∀ {b : Addr} {o : Obj}, hp.get? b = some o → b ≠ a := fun {b o} z => Nat.ne_of_lt (Nat.lt_of_lt_of_le (Heap.lt_size z) ha)
  have up : ∀ {b : Addr}, b ≠ a → H1 b = none → upd H1 a (exo a C none) b = none := fun {b} hb n => by rw [upd_ne hb]; exact n
  have U : Un (frs X.stack) [] H1 H1 hp G := {
    keep := fun b o z n hf hx => by
      rw [gk b (nha z)]
      exact un.keep b o (k b o z) (up (nha z) n) hf hx
    slot := fun b o z n hf hx => by
      rw [gk b (nha z)]
      exact un.slot b o (k b o z) (up (nha z) n) hf hx
    free := fun b o z n hx => n
    there := fun b o z hx => by
      rw [gk b (nha z)]
      exact un.there b o (k b o z) hx
    tups := fun b xs z => z
    frzs := fun b o v z => z
    tbls := fun b ps z => ⟨#[], by simpa using z⟩ }
  have hok3 : HOk X.prog X.w H1 G := fun b o z => by
    have hba : b ≠ a := fun e => by rw [e, hn] at z; cases z
    have z2 : upd H1 a (exo a C none) b = some o := by rw [upd_ne hba]; exact z
    have noa : ∀ {c : Addr}, upd H1 a (exo a C none) c = some (.own b) → c ≠ a := fun {c} hc => at_ne ea hc exo_own
    exact (hok b o z2).stay (fun c v hc y => by
        have hca : c ≠ a := by
          rcases hc with hc | hc
          · rw [hc]
            exact hba
          · exact noa hc
        rw [gk c hca]
        exact y)
      (fun c hc => by rw [upd_ne (noa hc)] at hc; exact hc) (fun c xs hc => by rw [upd_ne (at_ne ea hc exo_tup)] at hc; exact hc)
  have J : Inv X pins σ H1 ⟨G, g2, d2, t2, os2⟩ := I1.call' (ch := []) ho U hok3 hb (fun b z => absurd z (by simp))
  exact ⟨a, _, _, ⟨G, g2, d2, t2, os2⟩, _, .ref C, none, rfl, J, fun b o z => by
    by_cases hba : b = a
    · rw [hba, ge] at z
      cases z
    · exact (gk b hba).symm.trans z, ge, hoe, ⟨rfl, rfl⟩, rfl, rfl, hn, rfl, hb, T, q⟩
theorem pmk_oex0 {C fI : Addr} {fd : FuncData} {p0 : Str} (T : OexC X.K C) (iC : PySem.W.findIn X.K (.ref C) "__init__" = some (some (.ref fI))) (tI : PySem.W.typeIn X.K (.ref fI) = some (.type "function"))
    (F1 : L2.FnOk X.prog X.w X.K X.mg X.base (CX X.prog X.w) k fI fd [p0] (spX0 C)) (hr : L2.Room (k + 1) X.A) (hb : Binds X.K fd [p0] []) (hg : Gl X x) (hm : X.mg x = some (.ref C)) (hdb : (x == ("__debug__" : Str)) = false) :
    PMk X (.Call (.Name x p) [] [] pos) (fun σ H Q => Q (.ref C) none H) := by
  intro pins s σ H Q I h
  obtain ⟨nm, q, N, bs, bm, sn, sub, ab, col, dd, k0, k1, k2, k3, k5, hC, hbm⟩ := T.cls
  refine wpAny_Call_Name_kw (ld_glob I hg hm ?_ hdb)
  refine PySem.W.callWith_KW0 (h₀ := X.base) I.ok.mod.kin T.kC rfl ?_ rfl
  refine wpAny_evalAll_nil ⟨I.kIn, ?_⟩
  show wpAny _ _ (call (.ref C) []) _ _ _
  obtain ⟨hp, g, dr, tk, os⟩ := s
  have hsz : hp.objs.size ≤ hp.objs.size + 1 := Nat.le_succ _
  have hn : H (hp.objs.size + 1) = none := I.hok.fresh hsz
  have kk : ∀ b o, hp.get? b = some o → ((hp.push (PySem.W.kdv_tup [])).push (PySem.HandSPX.excO C hp.objs.size)).get? b = some o := fun b o e => Heap.get?_push_of_some _ (Heap.get?_push_of_some _ e)
  have hget : ((hp.push (PySem.W.kdv_tup [])).push (PySem.HandSPX.excO C hp.objs.size)).get? (hp.objs.size + 1) = some (PySem.HandSPX.excO C hp.objs.size) := by heap_get
  have I2 : Inv X pins σ (upd H (hp.objs.size + 1) (exo (hp.objs.size + 1) C none)) ⟨(hp.push (PySem.W.kdv_tup [])).push (PySem.HandSPX.excO C hp.objs.size), g, dr, tk, os⟩ :=
    I.laid (t' := tk) (a := hp.objs.size + 1) (o := exo (hp.objs.size + 1) C none) (h' := (hp.push (PySem.W.kdv_tup [])).push (PySem.HandSPX.excO C hp.objs.size)) kk hsz (exo_ok hget)
  have r2 : Vals [V.ref (hp.objs.size + 1)] [Value.ref (hp.objs.size + 1)] := .cons rfl .nil
  have hq : spX0 C [V.ref (hp.objs.size + 1)] (upd H (hp.objs.size + 1) (exo (hp.objs.size + 1) C none)) (fun v H2 => v = .non ∧ H2 = upd H (hp.objs.size + 1) (exo (hp.objs.size + 1) C none)) (fun _ _ _ => False) := ⟨_, rfl, upd_same, rfl, rfl⟩
  refine wpAny_call (PySem.HandSPX.call_own F.excBase_ValueError (fun Y => PySem.HandSPX.refsVE_contains Y bm hbm) (I.kIn _ _ hC) (PySem.W.looks_findIn I.kIn iC) (fun self => PySem.W.bind_fn I.kIn self tI) (by simp)
    (codeAny_mono (F1.run _ X.stack _ _ ⟨[Value.ref (hp.objs.size + 1)], []⟩ [Value.ref (hp.objs.size + 1)] _ _ (fun _ _ _ => False) (hr.make C [] []) (I2.env0.make C [] []) (by simpa using hb _ [Value.ref (hp.objs.size + 1)] I2.kIn rfl) r2 hq) fun r s' hq' => ?_))
  cases r with
  | error er => exact passF pins σ _ _ er s' I2 hq'
  | ok fl =>
    cases fl with
    | ret u =>
      obtain ⟨v, H2, os2, bare2, un2, hok2, rv, ev, eH⟩ := hq'
      subst ev
      subst eH
      obtain ⟨h2, g2, d2, t2, os'⟩ := s'
      exact ⟨rv, mk_endN (raises_own T.exC T.tyC) I hsz kk un2 hok2 os2 bare2 h⟩
    | next => exact False.elim hq'
    | brk => exact False.elim hq'
    | cont => exact False.elim hq'
def sraise0 (c : Nat) : MS := fun ρ h => .exc c [] ρ h
theorem pzs_raise0 {c : Nat} (hc : X.calm = true) (tk : Takes X Wf) (C : XkOk0 X G k c) (hr : Room (k + 1) X.A) (hg : Gl X x) (hm : X.mg x = some (.ref (G.cl c))) (hdb : (x == ("__debug__" : Str)) = false) :
    PZS b X G Wf (.Raise (some (.Call (.Name x p) [] [] pos2)) none pos) (sraise0 c) := by
  obtain ⟨T, fI, fd, p1, hI, hT, F, B⟩ := C
  have P := ps_raise (pos := pos) hc tk (pmk_oex0 (p := p) (pos := pos2) T hI hT F hr.rm B hg hm hdb)
  exact ⟨fun pins s σ H ι h ρ D tk0 I r sr a => withTk tk0 (P.run pins s σ H D I (a ι H σ none (Next.refl r) sr (.inl ⟨rfl, rfl⟩)))⟩
end
end Z

set_option Elab.async false
set_option linter.all false
set_option maxRecDepth 100000
set_option maxHeartbeats 1000000
set_option autoImplicit false
namespace Z
open PySem L2
open PyProof.Rows hiding St
def Gt.wx (G : Gt) (f : Addr → Option (Nat × Option Addr)) : Gt := ⟨G.fn, G.cl, G.nm, G.no, f, G.hs⟩
section
variable {K : PySem.W.Frag} {G : Gt} {ι ι' : Nat → Addr} {h h' : Hz} {H H' : Hp} {f : Addr → Option (Nat × Option Addr)}
mutual
theorem Rep.wx : ∀ {w : W} {v : V}, Rep K G ι h H w v → Rep K (G.wx f) ι h H w v
  | _, _, .non => .non
  | _, _, .bl b => .bl b
  | _, _, .int i => .int i
  | _, _, .str s => .str s
  | _, _, .tup e q => .tup e (Reps.wx q)
  | _, _, .fz e q => .fz e (Reps.wx q)
  | _, _, .obj e l z q => .obj (G := G.wx f) e l z (RepF.wx q)
  | _, _, .ref i hi => .ref i hi
  | _, _, .fn i => .fn (G := G.wx f) i
  | _, _, .cl i => .cl (G := G.wx f) i
theorem Reps.wx : ∀ {ws : List W} {vs : List V}, Reps K G ι h H ws vs → Reps K (G.wx f) ι h H ws vs
  | _, _, .nil => .nil
  | _, _, .cons a b => .cons (Rep.wx a) (Reps.wx b)
theorem RepF.wx : ∀ {fs : List (Nat × W)} {gs : List (Str × V)}, RepF K G ι h H fs gs → RepF K (G.wx f) ι h H fs gs
  | _, _, .nil => .nil
  | _, _, .cons a b => .cons (G := G.wx f) (Rep.wx a) (RepF.wx b)
end
mutual
theorem Rep.unx : ∀ {w : W} {v : V}, Rep K (G.wx f) ι h H w v → Rep K G ι h H w v
  | _, _, .non => .non
  | _, _, .bl b => .bl b
  | _, _, .int i => .int i
  | _, _, .str s => .str s
  | _, _, .tup e q => .tup e (Reps.unx q)
  | _, _, .fz e q => .fz e (Reps.unx q)
  | _, _, .obj e l z q => .obj e l z (RepF.unx q)
  | _, _, .ref i hi => .ref i hi
  | _, _, .fn i => .fn (G := G) i
  | _, _, .cl i => .cl (G := G) i
theorem Reps.unx : ∀ {ws : List W} {vs : List V}, Reps K (G.wx f) ι h H ws vs → Reps K G ι h H ws vs
  | _, _, .nil => .nil
  | _, _, .cons a b => .cons (Rep.unx a) (Reps.unx b)
theorem RepF.unx : ∀ {fs : List (Nat × W)} {gs : List (Str × V)}, RepF K (G.wx f) ι h H fs gs → RepF K G ι h H fs gs
  | _, _, .nil => .nil
  | _, _, .cons a b => .cons (G := G) (Rep.unx a) (RepF.unx b)
end
theorem CellRep.wx {a : Addr} {c : Cell} (q : CellRep K G ι h H a c) : CellRep K (G.wx f) ι h H a c := by
  cases c with
  | lst xs => obtain ⟨vs, h1, h2⟩ := q; exact ⟨vs, h1, h2.wx⟩
  | dct kvs =>
    rcases q with ⟨qs, e1, e2⟩ | ⟨es, e1, e2⟩
    · exact .inl ⟨qs, e1, L2.Paired.mapP e2 fun p q z => ⟨z.1, z.2.wx⟩⟩
    · exact .inr ⟨es, e1, L2.Paired.mapP e2 fun p q ⟨ka, v, z1, z2, z3, z4, z5⟩ => ⟨ka, v, z1, z2.wx, z3, z4, z5.wx⟩⟩
  | ins c gs => obtain ⟨dx, us, h1, h2⟩ := q; exact ⟨dx, us, h1, h2.wx⟩
  | dead => trivial
theorem CellRep.unx {a : Addr} {c : Cell} (q : CellRep K (G.wx f) ι h H a c) : CellRep K G ι h H a c := by
  cases c with
  | lst xs => obtain ⟨vs, h1, h2⟩ := q; exact ⟨vs, h1, h2.unx⟩
  | dct kvs =>
    rcases q with ⟨qs, e1, e2⟩ | ⟨es, e1, e2⟩
    · exact .inl ⟨qs, e1, L2.Paired.mapP e2 fun p q z => ⟨z.1, z.2.unx⟩⟩
    · exact .inr ⟨es, e1, L2.Paired.mapP e2 fun p q ⟨ka, v, z1, z2, z3, z4, z5⟩ => ⟨ka, v, z1, z2.unx, z3, z4, z5.unx⟩⟩
  | ins c gs => obtain ⟨dx, us, h1, h2⟩ := q; exact ⟨dx, us, h1, h2.unx⟩
  | dead => trivial
theorem HRep.wx (r : HRep K G ι h H) : HRep K (G.wx f) ι h H := ⟨fun i c g => (r.cell i c g).wx, r.inj, r.no, r.off⟩
theorem HRep.unx (r : HRep K (G.wx f) ι h H) : HRep K G ι h H := ⟨fun i c g => (r.cell i c g).unx, r.inj, r.no, r.off⟩
theorem Next.unx (n : Next K (G.wx f) ι h H ι' h' H') : Next K G ι h H ι' h' H' := ⟨n.toNx0, n.rep.unx⟩
theorem XRep.wx {fs : List (Nat × W)} {d : Option Addr} (q : XRep K G ι h H fs d) : XRep K (G.wx f) ι h H fs d := by
  rcases q with q | ⟨dd, gs, e1, e2, e3⟩
  · exact .inl q
  · exact .inr ⟨dd, gs, e1, e2, e3.wx⟩
end
/-- the slots without exceptions -/
def noX1 (o : Option W) : Option W := match o with
  | some (.exv _ _) => none
  | o => o
def noX : Ev → Ev
  | [] => []
  | o :: ρ => noX1 o :: noX ρ
theorem noX_get : ∀ (ρ : Ev) (i : Nat) (w : W), (noX ρ)[i]? = some (some w) → ρ[i]? = some (some w) ∧ ∀ c fs, w ≠ .exv c fs
  | [], i, w, e => by simp [noX] at e
  | o :: ρ, 0, w, e => by
    have e1 : noX1 o = some w := by simpa [noX] using e
    cases o with
    | none => cases e1
    | some u =>
      cases u with
      | exv c fs => cases e1
      | _ => cases e1; exact ⟨rfl, fun _ _ z => nomatch z⟩
  | o :: ρ, i + 1, w, e => by
    have := noX_get ρ i w (by simpa [noX] using e)
    simpa using this
theorem noX_len : ∀ ρ : Ev, (noX ρ).length = ρ.length
  | [] => rfl
  | o :: ρ => congrArg Nat.succ (noX_len ρ)
def stry (cat : Nat → Option Bool) (i : Nat) (m s : MS) : MS := fun ρ h => match m ρ h with
  | .exc c fs ρ' h' => (match cat c with
    | some true => (match s ((noX ρ').set i (some (.exv c fs))) h' with
      | .ok f ρ2 h2 => .ok f (noX (ρ2.set i none)) h2
      | _ => .err)
    | some false => .exc c fs ρ' h'
    | none => .err)
  | r => r
/-- the one exception that is handled -/
def one (a : Addr) (c : Nat) (d : Option Addr) : Addr → Option (Nat × Option Addr) := fun x => if x = a then some (c, d) else none
section
variable {b : Bool} {X : Cx} {G : Gt} {Wf : WX} {x n : Str} {cv : Value} {i : Nat} {body suite : List Stmt} {b₀ : Stmt} {np pos pos' : Pos} {m s : MS} {cat : Nat → Option Bool}
def tZS (K : PySem.W.Frag) (G : Gt) (Wf : WX) (m : MS) : TS := fun D σ H => ∃ ι h ρ, HRep K G ι h H ∧ SRep K G ι h H ρ σ ∧ AftS K G Wf ι h H (m ρ h) D
theorem PZSs.pss {sts : List Stmt} (p : PZSs false X G Wf sts m) : PSs X sts (tZS X.K G Wf m) := ⟨fun pins s σ H D I ⟨ι, h, ρ, r, sr, a⟩ => thn (p.run pins s σ H ι h ρ D (fun z => nomatch z) I r sr a) fun _ _ q => q.2⟩
theorem pzs_try (hs : X.stack = X.env :: X.outer) (hf : X.env.frame = some X.env.locals) (hN : X.N.Nodup) (hi : X.N[i]? = some n) (hln : X.env.kindOf n = some .local) (hc : Names X x cv) (tk : Takes X Wf)
    (hcat : ∀ c bb, cat c = some bb → PySem.W.exmOne X.K (.ref (G.cl c)) cv = some bb)
    (hb : ∀ (W : WX) (pn : List (Addr × Obj)) (xe : Value → Shared → Prop), Takes (X.tr pn xe) W → PassesOwn (model X.prog X.w) X.A X.env xe → PZSs false (X.tr pn xe) G W body m)
    (hsu : ∀ (a : Addr) (oe : Obj) (c : Nat) (d : Option Addr) (pn : List (Addr × Obj)), Zc (.ref (G.cl c)) d oe → (∃ vs, oe.data = .fields vs) → PZSs false (X.suite a ((a, oe) :: pn)) (G.wx (one a c d)) W0 (b₀ :: suite) s) :
    PZS b X G Wf (.Try body [.ExceptHandler (some (.Name x np)) (some n) (b₀ :: suite) pos'] [] [] pos) (stry cat i m s) := by
  have P := ps_try_as (np := np) (pos := pos) (pos' := pos') (tb := fun W => tZS X.K G W m) (ts := fun a cls d D σ H => ∃ c, cls = .ref (G.cl c) ∧ tZS X.K (G.wx (one a c d)) W0 s D σ H) hs hf hN hi hln hc tk (fun W pn xe t p => (hb W pn xe t p).pss)
    (fun a oe cls d pn z hv => ⟨fun pins s' σ H D I ⟨c, ec, t⟩ => by
      subst ec
      exact (hsu a oe c d pn z hv).pss.run pins s' σ H D I t⟩)
  refine ⟨fun pins s0 σ H ι h ρ D tk0 I r sr a => withTk tk0 (P.run pins s0 σ H D I ⟨ι, h, ρ, r, sr, ?_⟩)⟩
  unfold stry at a
  cases e : m ρ h with
  | ok f ρ' h' => rw [e] at a; cases f <;> exact a
  | err => rw [e] at a; exact a
  | exc c fs ρ' h' =>
    rw [e] at a
    dsimp only at a
    intro ι1 H1 σ1 d n1 sr1 x1
    cases ec : cat c with
    | none => rw [ec] at a; exact False.elim a
    | some bb =>
      rw [ec] at a
      refine ⟨bb, hcat c bb ec, fun eb ad hna => ?_, fun eb => ?_⟩
      · subst eb
        dsimp only at a
        refine ⟨c, rfl, ι1, h', _, n1.rep.wx, (?_ : SRep X.K (G.wx (one ad c d)) ι1 h' H1 ((noX ρ').set i (some (.exv c fs))) (σ1.set i (some (.ref ad)))), ?_⟩
        · refine ⟨by rw [List.length_set, List.length_set, noX_len]; exact sr1.1, ?_⟩
          intro j w ej
          by_cases hij : i = j
          · subst hij
            have hl : i < (noX ρ').length := by
              rcases Nat.lt_or_ge i (noX ρ').length with z | z
              · exact z
              · rw [List.getElem?_eq_none (by simpa using z)] at ej; cases ej
            rw [List.getElem?_set_self hl] at ej
            cases ej
            have hlσ : i < σ1.length := Nat.lt_of_lt_of_le (by rw [noX_len] at hl; exact hl) sr1.1
            exact ⟨_, List.getElem?_set_self hlσ, .inr ⟨c, fs, ad, d, rfl, rfl, if_pos rfl, x1.wx⟩⟩
          · rw [List.getElem?_set_ne hij] at ej
            obtain ⟨ej, nx⟩ := noX_get ρ' j w ej
            obtain ⟨v, e1, e2⟩ := sr1.2 j w ej
            refine ⟨v, by rw [List.getElem?_set_ne hij]; exact e1, .inl ?_⟩
            exact (e2.resolve_right fun ⟨c, fs, _, _, z, _⟩ => nx c fs z).wx
        · cases es : s ((noX ρ').set i (some (.exv c fs))) h' with
          | err => rw [es] at a; exact False.elim a
          | exc _ _ _ _ => rw [es] at a; exact False.elim a
          | ok f ρ2 h2 =>
            rw [es] at a
            have back : ∀ {ι2 : Nat → Addr} {H2 : Hp} {σ2 : St}, SRep X.K (G.wx (one ad c d)) ι2 h2 H2 ρ2 σ2 → SRep X.K G ι2 h2 H2 (noX (ρ2.set i none)) (σ2.set i none) := fun {ι2 H2 σ2} q => ⟨by rw [noX_len, List.length_set, List.length_set]; exact q.1, fun j w ej => by
              obtain ⟨ej, nx⟩ := noX_get _ j w ej
              by_cases hij : i = j
              · subst hij
                by_cases hl : i < ρ2.length
                · rw [List.getElem?_set_self hl] at ej; cases ej
                · rw [List.getElem?_eq_none (by simpa using hl)] at ej; cases ej
              · rw [List.getElem?_set_ne hij] at ej
                obtain ⟨v, e1, e2⟩ := q.2 j w ej
                exact ⟨v, by rw [List.getElem?_set_ne hij]; exact e1, .inl (e2.resolve_right fun ⟨c, fs, _, _, z, _⟩ => nx c fs z).unx⟩⟩
            cases f with
            | next => exact fun ι2 H2 σ2 n2 s2 => a ι2 H2 _ (n1.trans n2.unx) (back s2)
            | brk => exact fun ι2 H2 σ2 n2 s2 => a ι2 H2 _ (n1.trans n2.unx) (back s2)
            | cnt => exact fun ι2 H2 σ2 n2 s2 => a ι2 H2 _ (n1.trans n2.unx) (back s2)
            | ret w => exact fun ι2 H2 v n2 p2 => a ι2 H2 v (n1.trans n2.unx) p2.unx
      · subst eb
        exact a ι1 H1 σ1 d n1 sr1 x1
end
end Z

set_option Elab.async false
set_option linter.all false
set_option maxRecDepth 100000
set_option maxHeartbeats 1000000
set_option autoImplicit false
namespace Z
open PySem L2
open PyProof.Rows hiding St
def zxf (cs : List Nat) (i f : Nat) : Ev → M W := fun ρ => match ρ.getD i none with
  | some (.exv c fs) => if cs.contains c = true then ofO (fs.lookup f) else bad
  | _ => bad
def XfOk (K : PySem.W.Frag) (G : Gt) (f : Nat) (cs : List Nat) : Prop := ∀ c ∈ cs, XfC K (G.cl c) ∧ PySem.W.findIn K (.ref (G.cl c)) (G.nm f) = some none
section
variable {b : Bool} {X : Cx} {G : Gt} {n x : Str} {i f : Nat} {p pos : Pos} {cs : List Nat}
theorem pz_xf {a : Addr} {oe : Obj} {c : Nat} {d : Option Addr} {pn : List (Addr × Obj)} (nj : NmInj G) (hx : G.nm f = x) (T : XfOk X.K G f cs) (hz : Zc (.ref (G.cl c)) d oe) (hf : ∃ vs, oe.data = .fields vs)
    (hN : X.N[i]? = some n) (hv : Vis X.env.scope n) (hd : (n == ("__debug__" : Str)) = false) (hcd : (n == ("__classdict__" : Str)) = false) :
    PZ b (X.suite a ((a, oe) :: pn)) (G.wx (one a c d)) W0 (.Attribute (.Name n p) x pos) (zxf cs i f) := by
  subst hx
  refine ⟨fun pins s σ H ι h ρ Q tk I r sr aft => ?_⟩
  unfold zxf at aft
  cases q : ρ.getD i none with
  | none => rw [q] at aft; exact False.elim aft
  | some w =>
    rw [q] at aft
    obtain ⟨v, e1, e2⟩ := sr.2 i w (getD_some q)
    rcases e2 with e2 | ⟨c', fs, a', d', ew, ev, exv, xr⟩
    · cases e2 <;> exact False.elim aft
    · subst ew; subst ev
      have ea : a' = a := by
        by_cases z : a' = a
        · exact z
        · have : one a c d a' = none := if_neg z
          rw [show (G.wx (one a c d)).xv = one a c d from rfl, this] at exv
          cases exv
      subst ea
      have ecd : some (c, d) = some (c', d') := by
        have : one a' c d a' = some (c, d) := if_pos rfl
        rw [show (G.wx (one a' c d)).xv = one a' c d from rfl, this] at exv
        exact exv
      cases ecd
      dsimp only at aft
      split at aft
      · rename_i hc
        obtain ⟨T1, T2⟩ := T c (by simpa using hc)
        obtain ⟨w, lw, aft⟩ := ofO_after aft
        rcases xr with ⟨_, e⟩ | ⟨dd, gs, e3, e4, e5⟩
        · subst e; cases lw
        · obtain ⟨v, lv, pv⟩ := RepF.look (X := X) (G := G) nj e5.unx lw
          subst e3
          refine withTk tk ((pe_xf (pos := pos) T1 T2 hz hf (pe_var (X := X.suite a' ((a', oe) :: pn)) (pos := p) hN hv hd hcd) (attrBase_of (by rfl))).run pins s σ H Q I ?_)
          exact ⟨_, e1, rfl, rfl, dd, gs, v, rfl, e4, lv, aft.ret r pv.wx⟩
      · exact False.elim aft
end
def zipW : List W → List W → List W
  | x :: xs, y :: ys => .tup [x, y] :: zipW xs ys
  | _, _ => []
theorem zipW_get : ∀ (xs ys : List W) (i : Nat), (zipW xs ys)[i]? = (match xs[i]?, ys[i]? with | some x, some y => some (.tup [x, y]) | _, _ => none)
  | [], ys, i => by simp [zipW]
  | x :: xs, [], i => by
    simp only [zipW, List.getElem?_nil]
    cases (x :: xs)[i]? <;> rfl
  | x :: xs, y :: ys, 0 => rfl
  | x :: xs, y :: ys, i + 1 => by simpa [zipW] using zipW_get xs ys i
theorem zipW_len : ∀ (xs ys : List W), (zipW xs ys).length = min xs.length ys.length
  | [], ys => by simp [zipW]
  | x :: xs, [] => by simp [zipW]
  | x :: xs, y :: ys => by simp [zipW, zipW_len xs ys]
section
variable {K : PySem.W.Frag} {G : Gt} {ι : Nat → Addr} {h : Hz} {H : Hp}
theorem pair_at2 {w w2 : W} {x x2 : V} {T : Addr} (r : HRep K G ι h H) (hT : H T = none) (px : Rep K G ι h H w x) (px2 : Rep K G ι h H w2 x2) : Next K G ι h H ι h (upd H T (.tup [x, x2])) ∧ Rep K G ι h (upd H T (.tup [x, x2])) (.tup [w, w2]) (.ref T) := by
  have n := Next.beside (o := .tup [x, x2]) r hT
  exact ⟨n, .tup (SqT.of upd_same) (.cons (px.next r n.toNx0) (.cons (px2.next r n.toNx0) .nil))⟩
theorem itok_zipT {a b : Addr} {ws us : List W} {vs ys : List V} (r : HRep K G ι h H) (sq : SqT K H a vs) (sq2 : SqT K H b ys) (rs : Reps K G ι h H ws vs) (rs2 : Reps K G ι h H us ys) : ItOk K G (.fix (zipW ws us)) (RZ.ItzT K a b) ι h H := by
  intro ι' h' H' i n
  show (match some (zipW ws us)[i]? with | some (some w) => _ | some none => _ | none => True)
  rw [zipW_get]
  have sq' := sqT_next r n.toNx0 sq
  have sq2' := sqT_next r n.toNx0 sq2
  have rs' := rs.next r n.toNx0
  have rs2' := rs2.next r n.toNx0
  have stop : (∀ zs, Itz.fix (zipW ws us) = .fix zs → i = zs.length) → (RZ.ItzT K a b).stop i H' := fun hl => by
    refine ⟨vs, ys, sq', sq2', ?_⟩
    have := hl _ rfl
    rw [zipW_len, rs.length, rs2.length] at this
    omega
  cases e : ws[i]? with
  | none => exact stop
  | some w =>
    cases e2 : us[i]? with
    | none => exact stop
    | some w2 =>
      obtain ⟨v, ev, pv⟩ := rs'.get e
      obtain ⟨v2, ev2, pv2⟩ := rs2'.get e2
      refine ⟨⟨vs, ys, v, v2, sq', sq2', ev, ev2⟩, fun x H2 y => ?_⟩
      obtain ⟨T, x', y', rfl, hT, rfl, hx, hy⟩ := y
      have t1 := hx vs sq'
      rw [ev] at t1
      cases t1
      have t2 := hy ys sq2'
      rw [ev2] at t2
      cases t2
      exact pair_at2 n.rep hT pv pv2
end
section
variable {b : Bool} {X : Cx} {G : Gt} {Wf : WX} {e e2 : Expr} {mr : Ev → M (List W)} {p pos tpos : Pos} {elts : List Expr} {kk : Nat}
def zzip (ws : List W) : M Itz := match ws with
  | [.tup xs, .tup ys] => ret (.fix (zipW xs ys))
  | _ => bad
def zitZ (mr : Ev → M (List W)) : Ev → M Itz := fun ρ => bnd (mr ρ) zzip
theorem pzi_zip (hg : Gl X "zip") (hm : X.mg "zip" = none) (ha : PZA false X G Wf [e, e2] mr) (h1 : isStar e = false) (h2 : isStar e2 = false) : PZI b X G Wf (.Tuple elts kk tpos) (.Call (.Name "zip" p) [e, e2] [] pos) (zitZ mr) := by
  have P := RZ.pi_zipA (elts := elts) (kk := kk) (tpos := tpos) (p := p) (pos := pos) hg hm ha.pa (starEach_cons h1) (by rw [starEach_cons h2]; rfl)
  refine ⟨fun pins s σ H ι h ρ R tk I r sr aft => ?_⟩
  refine thn (withTk tk (P.run pins s σ H R I ⟨ι, h, ρ, r, sr, ?_⟩)) fun v s1 q => withTk q.1 q.2
  refine (aft.bnd (P := rpWs X.K G)).imp fun vs H1 ⟨ι1, h1, ws, n1, p1, a1⟩ => ?_
  cases p1 with
  | nil => exact False.elim a1
  | cons pa pr =>
    cases pr with
    | nil => cases pa <;> exact False.elim a1
    | cons pb pr2 =>
      cases pr2 with
      | cons _ _ => cases pa <;> first | exact False.elim a1 | (cases pb <;> exact False.elim a1)
      | nil =>
        cases pa with
        | tup sq rs =>
          cases pb with
          | tup sq2 rs2 => exact ⟨_, _, _, _, rfl, .inr ⟨sq, sq2, a1 ι1 H1 _ (Next.refl n1.rep) (itok_zipT n1.rep sq sq2 rs rs2)⟩⟩
          | _ => exact False.elim a1
        | _ => exact False.elim a1
end
end Z

set_option Elab.async false
set_option linter.all false
set_option maxRecDepth 100000
set_option maxHeartbeats 1000000
set_option autoImplicit false
namespace Z
open PySem L2
open PyProof.Rows hiding St
theorem pe_strS {X : Cx} {x : Str} {z : List Nat} {j : Nat} {pos : Pos} (e : x = S z) : PE X (.Constant (.str x) j pos) (tC (.str (S z))) := by
  subst e
  exact pe_str
abbrev cTab (tab : List (List Nat × List Nat)) : List (TE × TE) := tab.map fun q => (tC (.str (S q.1)), tC (.str (S q.2)))
theorem tPairs_c {σ : St} {H : Hp} : ∀ {tab : List (List Nat × List Nat)} {Q : List (V × V) → Hp → Prop}, Q (tab.map fun q => (.str (S q.1), .str (S q.2))) H → tPairs (cTab tab) σ H Q
  | [], _, q => q
  | p :: tab, Q, q => tPairs_c (tab := tab) (Q := fun ps H3 => Q ((.str (S p.1), .str (S p.2)) :: ps) H3) q
abbrev kTab (tab : List (List Nat × List Nat)) : List (Key × V) := tab.map fun q => (Sum.inr (S q.1), .str (S q.2))
def lookN (s : List Nat) : List (List Nat × List Nat) → Option (List Nat)
  | [] => none
  | q :: r => match lookN s r with
    | some t => some t
    | none => (match eqN q.1 s with | true => some q.2 | false => none)
theorem val_merge (s : List Nat) : ∀ (tab : List (List Nat × List Nat)) (kvs : List (Key × V)), valV (mergeK kvs (kTab tab)) (Sum.inr (S s)) = match lookN s tab with | some t => some (.str (S t)) | none => valV kvs (Sum.inr (S s))
  | [], kvs => rfl
  | q :: tab, kvs => by
    show valV (mergeK (putK kvs (Sum.inr (S q.1)) (.str (S q.2))) (kTab tab)) _ = _
    rw [val_merge s tab]
    have el : lookN s (q :: tab) = (match lookN s tab with | some t => some t | none => (match eqN q.1 s with | true => some q.2 | false => none)) := rfl
    rw [el]
    cases e : lookN s tab with
    | some t => rfl
    | none =>
      dsimp only
      rw [valV_put, eqN_eq]
      by_cases z : q.1 = s
      · rw [z, if_pos rfl, decide_eq_true rfl]
      · have ne : ¬ (Sum.inr (S s) : Key) = Sum.inr (S q.1) := fun y => z (S_inj (Sum.inr.inj y)).symm
        rw [if_neg ne, decide_eq_false z]
section
variable {b : Bool} {X : Cx} {G : Gt} {Wf : WX} {e f : Expr} {me mf : Ev → M W} {apos cpos dpos : Pos} {keys : List (Option Expr)} {values : List Expr}
def zdg (tab : List (List Nat × List Nat)) (me mf : Ev → M W) : Ev → M W := fun ρ => bnd (me ρ) fun k => bnd (mf ρ) fun d => match k with
  | .str s => (match lookN s tab with | some t => ret (.str t) | none => ret d)
  | _ => bad
theorem pz_dg {tab : List (List Nat × List Nat)} {k : Nat} (hr : Room k X.A) (hp : PPs X dpos keys values (cTab tab)) (hall : keys.all (·.isSome) = true) (hl : keys.length = values.length) (h0 : keys ≠ []) (h15 : keys.length ≤ 15) (ht : tab.length ≤ 15)
    (he : PZ false X G Wf e me) (hf : PZ false X G Wf f mf) (m : M2 X (.Dict keys values dpos) "get" apos e f cpos) : PZ b X G Wf (.Call (.Attribute (.Dict keys values dpos) "get" apos) [e, f] [] cpos) (zdg tab me mf) := by
  have hu : X.A.units + 1 < cLine := by have := hr.rm.un; omega
  refine PZ.of (pe_dget2 hu (pe_disp hp hall hl h0 h15) he.pe hf.pe m) fun σ H ι h ρ Q r sr aft => ?_
  intro p hpn
  refine tPairs_c ⟨upd_same, kTab tab, ?_, by rw [List.length_map]; exact ht, p, rfl, .inl ⟨_, .inl upd_same⟩, ?_⟩
  · rw [List.map_map]; rfl
  · have eH : upd (upd H p (.dK [])) p (.dK (mergeK [] (kTab tab))) = upd H p (.dK (mergeK [] (kTab tab))) := upd_upd
    rw [eH]
    have n0 := Next.beside (o := .dK (mergeK [] (kTab tab))) r hpn
    refine ⟨ι, h, ρ, n0.rep, sr.next r n0.toNx0, ((aft.step n0).bnd (P := rpW X.K G)).imp fun y H2 ⟨ι2, h2, w2, n2, p2, a2⟩ => ?_⟩
    refine ⟨ι2, h2, ρ, n2.rep, (sr.next r n0.toNx0).next n0.rep n2.toNx0, (a2.bnd (P := rpW X.K G)).imp fun z H3 ⟨ι3, h3, w3, n3, p3, a3⟩ => ?_⟩
    cases p2 with
    | str s =>
      have hp3 : H3 p = some (.dK (mergeK [] (kTab tab))) := by
        have n23 := n2.trans n3
        refine n23.keep p _ upd_same ?_
        rintro ⟨i, c, g, lc, ei⟩
        have hl := r.live_some ⟨i, c, g, lc, ei⟩
        exact hl hpn
      refine ⟨valV (mergeK [] (kTab tab)) (Sum.inr (S s)), DGet.k (k := Sum.inr (S s)) hp3, ?_⟩
      rw [val_merge]
      dsimp only at a3
      cases el : lookN s tab with
      | some t => rw [el] at a3; exact a3.ret n3.rep (.str t)
      | none => rw [el] at a3; exact a3.ret n3.rep p3
    | _ => exact False.elim a3
end
structure KD (K : PySem.W.Frag) (w : World) (d : Addr) (ks : List (List Nat × V)) : Prop where
  kd : ∃ es n, KDict K w d es n ∧ es.size = ks.length ∧ ∀ (i : Nat) q, ks[i]? = some q → ∃ en t, es[i]? = some en ∧ en.key = .str (S q.1) t
  get : ∀ s v, ks.lookup s = some v → ∃ u, PySem.W.nsIn K d (S s) = some (some u) ∧ RelV v u
def lookT (s : List Nat) : List (List Nat × W) → Option W
  | [] => none
  | q :: r => match eqN s q.1 with
    | true => some q.2
    | false => lookT s r
/-- the table of the evaluator and that of the layer -/
def TabOk (K : PySem.W.Frag) (G : Gt) (tab : List (List Nat × W)) (ks : List (List Nat × V)) : Prop := Paired (fun (p : List Nat × W) (q : List Nat × V) => p.1 = q.1 ∧ ∀ ι h H, Rep K G ι h H p.2 q.2) tab ks
theorem look_tab {K : PySem.W.Frag} {G : Gt} {s : List Nat} {w : W} : ∀ {tab : List (List Nat × W)} {ks : List (List Nat × V)}, TabOk K G tab ks → lookT s tab = some w → ∃ v, ks.lookup s = some v ∧ ∀ ι h H, Rep K G ι h H w v
  | _, _, .nil, e => by cases e
  | p :: tab, q :: ks, .cons h t, e => by
    unfold lookT at e
    rw [eqN_eq] at e
    rw [List.lookup_cons]
    by_cases z : s = p.1
    · rw [decide_eq_true z] at e
      cases e
      have : (s == q.1) = true := by rw [← h.1, z]; simp
      rw [this]
      exact ⟨_, rfl, h.2⟩
    · rw [decide_eq_false z] at e
      have : (s == q.1) = false := by rw [← h.1]; exact beq_eq_false_iff_ne.mpr z
      rw [this]
      exact look_tab t e
section
variable {b : Bool} {X : Cx} {G : Gt} {Wf : WX} {x : Str} {a e : Expr} {m : Ev → M W} {p pos : Pos} {d : Addr} {ks : List (List Nat × V)} {tab : List (List Nat × W)} {tg : Expr}
def zkget (tab : List (List Nat × W)) (m : Ev → M W) : Ev → M W := fun ρ => bnd (m ρ) fun w => match w with
  | .str s => ofO (lookT s tab)
  | _ => bad
theorem pz_kget (D : KD X.K X.w d ks) (T : TabOk X.K G tab ks) (hg : Gl X x) (hm : X.mg x = some (.ref d)) (he : PZ b X G Wf e m) (hs : PlainIx e) (hd : (x == ("__debug__" : Str)) = false) : PZ b X G Wf (.Subscript (.Name x p) e pos) (zkget tab m) := by
  refine ⟨fun pins s σ H ι h ρ Q tk I r sr aft => ?_⟩
  refine Subscript_ (ld_glob I hg hm ?_ hd)
  refine thn (he.run pins s σ H ι h ρ _ tk I r sr (aft.bnd (P := rpW X.K G))) fun u s1 ⟨tk1, v1, H1, I1, r1, ι1, h1, w1, n1, p1, a1⟩ => ?_
  cases p1 with
  | str z =>
    dsimp only at a1
    obtain ⟨w, lw, a2⟩ := ofO_after a1
    obtain ⟨v, lv, pv⟩ := look_tab T lw
    obtain ⟨es, n, kd, _⟩ := D.kd
    obtain ⟨u0, e0, r0⟩ := D.get z v lv
    exact withTk tk1 (ix_kdict (.Name x p) e pins s1 σ H1 (.ref d) (.str (S z)) (.ref d) u Q I1 rfl r1 ⟨d, S z, v, rfl, rfl, ⟨es, n, u0, kd.at_, kd.lit, e0, r0⟩, a2.ret n1.rep (pv _ _ _)⟩ (hs _ _))
  | _ => exact False.elim a1
/-- the keys, walked -/
def Ikd (ks : List (List Nat × V)) : It := ⟨fun i _ => i < ks.length, fun i H v H' => H' = H ∧ ∃ q, ks[i]? = some q ∧ v = .str (S q.1), fun i _ => ks.length ≤ i⟩
theorem turn_kd {P : Program} {w : World} {K : PySem.W.Frag} (D : KD K w d ks) {es : Array DictEntry} {n : Nat} (kd : KDict K w d es n) (hz : es.size = ks.length) (hk : ∀ (i : Nat) q, ks[i]? = some q → ∃ en t, es[i]? = some en ∧ en.key = .str (S q.1) t) (it : Addr) :
    Turn P w K tg (Ikd ks) [it] it (fun i h => h.IsKeyIter it d i ks.length n) where
  mem := by simp
  obj := fun i h st b hb => by
    have e : b = it := by simpa using hb
    subst e
    obtain ⟨oi, e, c, dd⟩ := st
    exact ⟨oi, e, fun v z => by rw [dd] at z; cases z⟩
  keep := fun i h h' st k => st.at fun oi e => k it (by simp) oi e
  item := by
    intro X hP hw hK hc i pins s σ H E I hf st hg
    subst hP hw hK
    obtain ⟨f0, f1, f2, f3, f4, f5⟩ := hf it (by simp)
    have hod : s.heap.get? d = some ⟨.type "dict", none, .dict es n, #[]⟩ := I.kIn _ _ kd.at_
    obtain ⟨q, hq⟩ : ∃ q, ks[i]? = some q := ⟨ks[i], List.getElem?_eq_getElem hg⟩
    obtain ⟨en, t, he, hkey⟩ := hk i q hq
    refine next_key_item st hod rfl (by rw [hz]) he fun h' st' sb => ?_
    have I1 : Inv X pins σ H { s with heap := h' } := I.turned (t' := s.toks) (fun b ob hb e => (sb.2 b hb).trans e) f0 f1 f3 f4 f5
    obtain ⟨oi, e, c, dd⟩ := id st'
    exact ⟨en.key, rfl, go_of (s := { s with heap := h' }) e c dd (by decide) ⟨.str (S q.1), H, I1, ⟨t, hkey⟩, ⟨rfl, q, hq, rfl⟩, st', fun b hb => (hf b hb).1⟩⟩
  done := by
    intro X hP hw hK hc i pins s σ H E I hf st hg
    subst hP hw hK
    obtain ⟨f0, f1, f2, f3, f4, f5⟩ := hf it (by simp)
    have hod : s.heap.get? d = some ⟨.type "dict", none, .dict es n, #[]⟩ := I.kIn _ _ kd.at_
    exact next_key_end (I.ok.hd hc) st hod rfl (by rw [hz]) hg fun h' eb => ⟨rfl, I.turned (t' := s.toks) (fun b ob hb e => eb b ob hb e) f0 f1 f3 f4 f5⟩
  self := fun A i s Q E st h => wpAny_pyIter_keyiter st h
def zkeys (tab : List (List Nat × W)) : Ev → M Itz := fun _ => ret (.fix (tab.map fun q => .str q.1))
theorem itok_kd {K : PySem.W.Frag} {ι : Nat → Addr} {h : Hz} {H : Hp} (T : TabOk K G tab ks) : ItOk K G (.fix (tab.map fun q => .str q.1)) (Ikd ks) ι h H := by
  intro ι' h' H' i n
  have hlen : tab.length = ks.length := Paired.length T
  show (match some (tab.map fun q => W.str q.1)[i]? with | some (some w) => _ | some none => _ | none => True)
  rw [List.getElem?_map]
  cases e : tab[i]? with
  | none =>
    intro hl
    have := hl _ rfl
    rw [List.length_map] at this
    show ks.length ≤ i
    omega
  | some p =>
    have hi : i < ks.length := by rw [← hlen]; exact (List.getElem?_eq_some_iff.mp e).1
    refine ⟨hi, fun x H2 y => ?_⟩
    obtain ⟨rfl, q, hq, rfl⟩ := y
    have ep : p.1 = q.1 := (paired_get T e hq).1
    refine ⟨Next.refl n.rep, ?_⟩
    show Rep K G ι' h' _ (W.str p.1) _
    rw [ep]
    exact .str q.1
where
  paired_get {α β : Type} {F : α → β → Prop} : ∀ {l : List α} {m : List β} {i : Nat} {x : α} {y : β}, Paired F l m → l[i]? = some x → m[i]? = some y → F x y
    | _, _, _, _, _, .nil, e, _ => by simp at e
    | _, _, 0, _, _, .cons r _, e, e2 => by simp at e e2; subst e; subst e2; exact r
    | _, _, i + 1, _, _, .cons _ t, e, e2 => paired_get (i := i) t (by simpa using e) (by simpa using e2)
theorem pzi_kd (D : KD X.K X.w d ks) (T : TabOk X.K G tab ks) (hg : Gl X x) (hm : X.mg x = some (.ref d)) (hd : (x == ("__debug__" : Str)) = false) : PZI b X G Wf tg (.Name x p) (zkeys tab) := by
  refine ⟨fun pins s σ H ι h ρ R tk I r sr aft => ?_⟩
  refine ld_glob I hg hm (withTk tk ?_) hd
  obtain ⟨es, n, kd, hz, hk⟩ := D.kd
  have hod : s.heap.get? d = some ⟨.type "dict", none, .dict es n, #[]⟩ := I.kIn _ _ kd.at_
  refine iter_keys kd.low hod ⟨rfl, rfl, rfl⟩ rfl (pi_one (tk := s.toks) I _ (turn_kd D kd hz hk _) ⟨_, Heap.get?_push_size _ rfl, rfl, ?_⟩ (aft ι H _ (Next.refl r) (itok_kd T)))
  rw [hz] <;> rfl
def zklist (tab : List (List Nat × W)) : Ev → M W := fun _ => new (.lst (tab.map fun q => .str q.1))
theorem pz_klist {p2 : Pos} (hc : X.calm = true) (hgl : Gl X "list") (hml : X.mg "list" = none) (D : KD X.K X.w d ks) (T : TabOk X.K G tab ks) (hg : Gl X x) (hm : X.mg x = some (.ref d)) (hd : (x == ("__debug__" : Str)) = false) (hks : ks.length ≤ 1000) :
    PZ b X G Wf (.Call (.Name "list" p2) [.Name x p] [] pos) (zklist tab) := by
  refine ⟨fun pins s σ H ι h ρ Q tk I r sr aft => withTk tk ?_⟩
  refine Call_ (ld_blt I hgl hml boot_list (PyProof.Rows.callWith_type1 (args_cons (ld_glob I hg hm (args_nil ?_) hd) rfl) rfl))
  obtain ⟨es, n, kd, hz, hk⟩ := D.kd
  have hod : s.heap.get? d = some ⟨.type "dict", none, .dict es n, #[]⟩ := I.kIn _ _ kd.at_
  refine PySem.W.kdl_call (kdl_raw kd.low ⟨rfl, rfl, rfl⟩ rfl) (I.ok.hd hc) hod (by rw [hz, sizeLine_eq]; omega) fun h' tk acc' c' hkeep hS hacc => ?_
  have q := lst_new (X := X) (σ := σ) (Wf := Wf) (Q := Q) (vs := ks.map fun q => V.str (S q.1)) r (reps_keys T) aft
  refine ⟨.ref s.heap.objs.size, upd H s.heap.objs.size (.lst (ks.map fun q => V.str (S q.1))), I.laid hkeep (Nat.le_refl _) (show ObjOk X.prog X.w _ _ _ (.lst (ks.map fun q => V.str (S q.1))) from ⟨?_, acc'.toList, c', ?_, ?_⟩), rfl, q _ (I.hok.fresh (Nat.le_refl _))⟩
  · rw [List.length_map, sizeLine_eq]; omega
  · have el : acc'.toList.length = acc'.size := by simp
    refine vals_of_at (by rw [List.length_map, el, hacc.1, hz]) fun j x w h1 h2 => ?_
    obtain ⟨en, hen, ew⟩ := hacc.2 j w (by rw [← Array.getElem?_toList]; exact h2)
    rw [List.getElem?_map] at h1
    cases hq : ks[j]? with
    | none => rw [hq] at h1; cases h1
    | some q =>
      rw [hq] at h1
      cases h1
      obtain ⟨en', t, he', hkey⟩ := hk j q hq
      rw [hen] at he'
      cases he'
      exact ⟨t, by rw [ew, hkey]⟩
  · rw [Array.toArray_toList]; exact hS
where
  reps_keys {K : PySem.W.Frag} {G : Gt} {ι : Nat → Addr} {h : Hz} {H : Hp} : ∀ {tab : List (List Nat × W)} {ks : List (List Nat × V)}, TabOk K G tab ks → Reps K G ι h H (tab.map fun q => .str q.1) (ks.map fun q => V.str (S q.1))
    | _, _, .nil => .nil
    | p :: tab, q :: ks, .cons h t => by
      refine .cons ?_ (reps_keys t)
      show Rep K G ι _ H (W.str p.1) (V.str (S q.1))
      rw [h.1]
      exact .str q.1
end
end Z

set_option Elab.async false
set_option linter.all false
set_option maxRecDepth 100000
set_option maxHeartbeats 1000000
set_option autoImplicit false
namespace Z
open PySem L2
open PyProof.Rows hiding St
def oexcls (K : PySem.W.Frag) (C : Addr) : Bool := match K.lookup C with
  | some ⟨.type "type", _, .cls cd, sl⟩ => (match cd.mro, sl.toList with
    | .ref C' :: bm, [_, _, _, _, some (.builtin n), _] => decide (C' = C) && (decide (n = "ValueError.__new__") && (!cd.hasDel && (cd.hasDict && PySem.HandSPX.refsVE bm)))
    | _, _ => false)
  | _ => false
theorem oexcls_ok {K : PySem.W.Frag} {C : Addr} (q : oexcls K C = true) : ∃ nm qn N bs bm sn sub ab col dd k0 k1 k2 k3 k5, K.lookup C = some (excClassObj nm qn C N bs bm true sn sub ab col dd k0 k1 k2 k3 k5 "ValueError.__new__") ∧ PySem.HandSPX.refsVE bm = true := by
  unfold oexcls at q
  split at q
  · rename_i dd cd sl ho
    split at q
    · rename_i C' bm k0 k1 k2 k3 n k5 hm hs
      obtain ⟨q1, q⟩ := He.ba q
      obtain ⟨q2, q⟩ := He.ba q
      obtain ⟨q3, q⟩ := He.ba q
      obtain ⟨q4, q5⟩ := He.ba q
      have e1 : C' = C := of_decide_eq_true q1
      have e2 : n = "ValueError.__new__" := of_decide_eq_true q2
      subst e1 e2
      obtain ⟨nm, bs, mro, ns, qn, hd, sn, sub, ab, col, del⟩ := cd
      dsimp only at hm q3 q4
      subst hm
      have e3 : del = false := by simpa using q3
      have e4 : hd = true := q4
      subst e3 e4
      have hsl : sl = #[k0, k1, k2, k3, some (.builtin "ValueError.__new__"), k5] := by
        obtain ⟨l⟩ := sl
        simp only at hs
        rw [hs]
      subst hsl
      exact ⟨nm, qn, ns, bs, bm, sn, sub, ab, col, dd, k0, k1, k2, k3, k5, ho, q5⟩
    · cases q
  · cases q
/-- an own exception class x, its __init__; its fields fs are no names of the class -/
def cXc (x : Str) (fs : List Str) (K : PySem.W.Frag) : Bool := (He.Fa.glo x).ok K && (oexcls K (He.ga K x) && (decide (PySem.W.findIn K (.ref (He.ga K x)) "__setattr__" = some (some (.builtin "object.__setattr__"))) &&
  (decide (PySem.W.subIn K (.ref (He.ga K x)) (.type "BaseException") = some true) && (decide (PySem.W.typeIn K (.ref (He.ga K x)) = some (.type "type")) && (PySem.W.keepIn K (.ref (He.ga K x)) &&
  (decide (PySem.W.findIn K (.ref (He.ga K x)) "__init__" = some (some (.ref (He.ma K (He.ga K x) "__init__")))) && (decide (PySem.W.typeIn K (.ref (He.ma K (He.ga K x) "__init__")) = some (.type "function")) &&
  (xfB K (He.ga K x) && fs.all fun f => decide (PySem.W.findIn K (.ref (He.ga K x)) f = some none)))))))))
structure XcF (K : PySem.W.Frag) (x : Str) (fs : List Str) : Prop where
  oex : OexC K (He.ga K x)
  init : PySem.W.findIn K (.ref (He.ga K x)) "__init__" = some (some (.ref (He.ma K (He.ga K x) "__init__")))
  fn : PySem.W.typeIn K (.ref (He.ma K (He.ga K x) "__init__")) = some (.type "function")
  xf : XfC K (He.ga K x)
  no : ∀ f ∈ fs, PySem.W.findIn K (.ref (He.ga K x)) f = some none
theorem cXc_ok {K : PySem.W.Frag} {h : Heap} {mg : Str → Option Value} (X : K.In h) (G : h.Ns mainGlobals mg) {x : Str} {fs : List Str} (c : cXc x fs K = true) : mg x = some (.ref (He.ga K x)) ∧ XcF K x fs := by
  obtain ⟨c0, c⟩ := He.ba c
  obtain ⟨c1, c⟩ := He.ba c
  obtain ⟨c2, c⟩ := He.ba c
  obtain ⟨c3, c⟩ := He.ba c
  obtain ⟨c4, c⟩ := He.ba c
  obtain ⟨c5, c⟩ := He.ba c
  obtain ⟨c6, c⟩ := He.ba c
  obtain ⟨c7, c⟩ := He.ba c
  obtain ⟨c8, c9⟩ := He.ba c
  exact ⟨He.glo_ok X G c0, ⟨oexcls_ok c1, of_decide_eq_true c2, of_decide_eq_true c3, of_decide_eq_true c4, c5⟩, of_decide_eq_true c6, of_decide_eq_true c7, xfB_ok c8, fun f hf => of_decide_eq_true (List.all_eq_true.mp c9 f hf)⟩
/-- the base class of the errors: its __init__ is ValueError's -/
def cSl (x : Str) (K : PySem.W.Frag) : Bool := (He.Fa.glo x).ok K && (PySem.W.readsIn K (He.ga K x) (.type "type") && (decide (PySem.W.specialIn K (.ref (He.ga K x)) "__getattribute__" = some (some (.builtin "type.__getattribute__"))) &&
  (match PySem.W.findCls K (.ref (He.ga K x)) (.type "type") "__init__" with
    | some (.val (.builtin n)) => decide (n = "ValueError.__init__")
    | _ => false)))
theorem cSl_ok {K : PySem.W.Frag} {h : Heap} {mg : Str → Option Value} (X : K.In h) (G : h.Ns mainGlobals mg) {x : Str} (c : cSl x K = true) : mg x = some (.ref (He.ga K x)) ∧ ClX.CRead K (He.ga K x) (.type "type") ∧ PySem.W.findCls K (.ref (He.ga K x)) (.type "type") "__init__" = some (.val (.builtin "ValueError.__init__")) := by
  obtain ⟨c0, c⟩ := He.ba c
  obtain ⟨c1, c⟩ := He.ba c
  obtain ⟨c2, c3⟩ := He.ba c
  refine ⟨He.glo_ok X G c0, ⟨c1, of_decide_eq_true c2⟩, ?_⟩
  split at c3
  · rename_i n e
    have : n = "ValueError.__init__" := of_decide_eq_true c3
    rw [e, this]
  · cases c3
/-- which of the classes xs the class y catches -/
def cExm (y : Str) (xs : List (Str × Bool)) (K : PySem.W.Frag) : Bool := xs.all fun q => decide (PySem.W.exmOne K (.ref (He.ga K q.1)) (.ref (He.ga K y)) = some q.2)
def keyName (e : DictEntry) : Option Str := match e.key with
  | .str x _ => some x
  | _ => none
def cDic (x : Str) (kvs : List (List Nat × He.Dv)) (K : PySem.W.Frag) : Bool := (He.Fa.glo x).ok K && ((match K.lookup (He.ga K x) with
    | some ⟨_, _, .dict es _, _⟩ => decide (es.toList.map keyName = kvs.map fun q => some (S q.1))
    | _ => false) && kvs.all fun q => match PySem.W.nsIn K (He.ga K x) (S q.1) with
      | some (some u) => He.relB (q.2.v K) u
      | _ => false)
theorem cDic_ok {K : PySem.W.Frag} {w : World} {h : Heap} {mg : Str → Option Value} (X : K.In h) (G : h.Ns mainGlobals mg) {x : Str} {kvs : List (List Nat × He.Dv)} (c : cDic x kvs K = true) (nd : (kvs.map (·.1)).Nodup)
    (d : He.dicW K (He.ga K x) = some (He.keysIn w.params (kvs.map fun q => S q.1))) : mg x = some (.ref (He.ga K x)) ∧ KD K w (He.ga K x) (kvs.map fun q => (q.1, q.2.v K)) := by
  obtain ⟨c0, c⟩ := He.ba c
  obtain ⟨c1, c2⟩ := He.ba c
  obtain ⟨es, n, kd⟩ := He.dicW_ok d
  refine ⟨He.glo_ok X G c0, ⟨es, n, kd, ?_, ?_⟩, ?_⟩
  · rw [kd.at_] at c1
    have e := of_decide_eq_true c1
    have := congrArg List.length e
    simpa using this
  · intro i q hq
    rw [kd.at_] at c1
    have e := of_decide_eq_true c1
    rw [List.getElem?_map] at hq
    cases hk : kvs[i]? with
    | none => rw [hk] at hq; cases hq
    | some q0 =>
      rw [hk] at hq
      cases hq
      have e2 : (es.toList.map keyName)[i]? = some (some (S q0.1)) := by rw [e, List.getElem?_map, hk]; rfl
      rw [List.getElem?_map] at e2
      cases he : es.toList[i]? with
      | none => rw [he] at e2; cases e2
      | some en =>
        rw [he] at e2
        have e3 : keyName en = some (S q0.1) := Option.some.inj e2
        unfold keyName at e3
        split at e3
        · rename_i y t hy
          cases e3
          exact ⟨en, t, by rw [← Array.getElem?_toList]; exact he, hy⟩
        · cases e3
  · intro s v hv
    obtain ⟨q, hq, e1, e2⟩ := lookup_map kvs s v hv
    have c3 := List.all_eq_true.mp c2 q hq
    split at c3
    · rename_i u eu
      subst e1 e2
      exact ⟨u, eu, He.relB_ok c3⟩
    · cases c3
where
  lookup_map {K : PySem.W.Frag} : ∀ (kvs : List (List Nat × He.Dv)) (s : List Nat) (v : V), (kvs.map fun q => (q.1, q.2.v K)).lookup s = some v → ∃ q ∈ kvs, q.1 = s ∧ q.2.v K = v
    | [], s, v, e => by cases e
    | q :: kvs, s, v, e => by
      rw [List.map_cons, List.lookup_cons] at e
      cases z : (s == q.1) with
      | true =>
        rw [z] at e
        cases e
        exact ⟨q, List.mem_cons_self .., (beq_iff_eq.mp z).symm, rfl⟩
      | false =>
        rw [z] at e
        obtain ⟨q', h1, h2⟩ := lookup_map kvs s v e
        exact ⟨q', List.mem_cons_of_mem _ h1, h2⟩
open He5 (DefA fnA asA)
/-- what the names reach, no step back to the names -/
def filtZ : List Addr → List Addr → List Addr
  | [], r => r
  | b :: bs, r => match Nat.beq b mainGlobals with
    | true => filtZ bs r
    | false => b :: filtZ bs r
def frontZ (g : Addr → Option Obj) : List Addr → List Addr
  | [] => []
  | a :: as => match g a with
    | some o => filtZ (He.refsD o) (frontZ g as)
    | none => frontZ g as
def asZ0 (g : Addr → Option Obj) : Nat → List Addr → List Addr
  | 0, as => as
  | n + 1, as => as ++ asZ0 g n (frontZ g as)
def asZ (g : Addr → Option Obj) (n : Nat) : List Addr := asZ0 g n [mainGlobals] ++ [cStatics]
abbrev AlY : Type := AlZ × List (Option (List (Option (Str × Int))))
def obsY (chk : List (PySem.W.Frag → Bool)) (fn : List DefA) (ds : List (Str × List Str)) (K : PySem.W.Frag) : AlY := (obsZ chk fn K, ds.map fun d => He.dicW K (He.ga K d.1))
def valY (fn : List DefA) (ds : List (Str × List Str)) (P : Params) : AlY := (valZ fn, ds.map fun d => some (He.keysIn P d.2))
def SaysY (P : Params) (chk : List (PySem.W.Frag → Bool)) (fn : List DefA) (ds : List (Str × List Str)) (K : PySem.W.Frag) : Prop := obsY chk fn ds K = valY fn ds P
def obsYG (n : Nat) (chk : List (PySem.W.Frag → Bool)) (fn : List DefA) (ds : List (Str × List Str)) (g : Addr → Option Obj) : AlY := obsY chk fn ds (He.frG g (asZ g n))
def hookY (n : Nat) (chk : List (PySem.W.Frag → Bool)) (fn : List DefA) (ds : List (Str × List Str)) : PySem.W.Hook where
  α := AlY
  obs := fun s => obsYG n chk fn ds s.heap.get?
  val := fun w => valY fn ds w.params
  says := fun w h => ∃ K : PySem.W.Frag, K.In h ∧ SaysY w.params chk fn ds K
  of := fun _ _ e => ⟨_, He.frG_in, e⟩
  keeps := fun _ _ _ ⟨K, hK, c⟩ k => ⟨K, PySem.W.Frag.In.keeps hK k, c⟩
theorem obsYG_eq {n : Nat} {chk : List (PySem.W.Frag → Bool)} {fn : List DefA} {ds : List (Str × List Str)} {g : Addr → Option Obj} {s : Shared} (h : ∀ a, g a = s.heap.get? a) : obsYG n chk fn ds g = (hookY n chk fn ds).obs s := by
  have e : g = s.heap.get? := funext h
  rw [e] <;> rfl
section
variable {P : Params} {chk : List (PySem.W.Frag → Bool)} {fn : List DefA} {ds : List (Str × List Str)} {K : PySem.W.Frag}
theorem SaysY.z (c : SaysY P chk fn ds K) : SaysZ chk fn K := congrArg (fun z : AlY => z.1) c
theorem SaysY.dic (c : SaysY P chk fn ds K) (i : Nat) {d : Str × List Str} (h : ds[i]? = some d) : He.dicW K (He.ga K d.1) = some (He.keysIn P d.2) := by
  have e : (ds.map fun d => He.dicW K (He.ga K d.1)) = ds.map fun d => some (He.keysIn P d.2) := congrArg (fun z : AlY => z.2) c
  have e2 : (ds.map fun d => He.dicW K (He.ga K d.1))[i]? = (ds.map fun d => some (He.keysIn P d.2))[i]? := by rw [e]
  rw [List.getElem?_map, List.getElem?_map, h] at e2
  exact Option.some.inj e2
end
def tupA (K : PySem.W.Frag) (a : Addr) (vs : List He.Dv) : Bool := match K.lookup a with
  | some ⟨.type c, _, .seq its _, _⟩ => decide (c = "tuple") && (decide (its.size ≤ sizeLine) && He.relAll (vs.map (He.Dv.v K)) its.toList)
  | _ => false
def cTupA (p : PySem.W.Frag → Addr) (vs : List He.Dv) (K : PySem.W.Frag) : Bool := tupA K (p K) vs
theorem cTupA_ok {K : PySem.W.Frag} {p : PySem.W.Frag → Addr} {vs : List He.Dv} (h : cTupA p vs K = true) (H : Hp) : SqT K H (p K) (vs.map (He.Dv.v K)) := by
  unfold cTupA tupA at h
  cases q : K.lookup (p K) with
  | none =>
    rw [q] at h
    cases h
  | some o =>
    obtain ⟨oc, od, dt, osl⟩ := o
    rw [q] at h
    cases oc with
    | type c =>
      cases dt with
      | seq its n =>
        obtain ⟨h1, h2⟩ := He.ba (show (decide (c = "tuple") && (decide (its.size ≤ sizeLine) && He.relAll (vs.map (He.Dv.v K)) its.toList)) = true from h)
        obtain ⟨h3, h4⟩ := He.ba h2
        exact .inr ⟨_, its, n, q, congrArg Value.type (of_decide_eq_true h1), rfl, of_decide_eq_true h3, He.relAll_ok h4⟩
      | _ => cases h
    | _ => cases dt <;> cases h
theorem isT_pre {K : PySem.W.Frag} {fns : List (PySem.W.Frag → Addr)} {xs ys nms : List Str} (d : IsT K (gtOf fns xs nms K) (List.range xs.length)) : IsT K (gtOf fns (xs ++ ys) nms K) (List.range xs.length) := by
  have e : ∀ c ∈ List.range xs.length, (gtOf fns (xs ++ ys) nms K).cl c = (gtOf fns xs nms K).cl c := fun c hc => by
    show (match (xs ++ ys)[c]? with | some x => He.ga K x | none => 0) = (match xs[c]? with | some x => He.ga K x | none => 0)
    rw [List.getElem?_append_left (List.mem_range.mp hc)]
  refine ⟨fun c hc T hT => ?_, fun c hc t ht => ?_, fun c hc c' hc' => ?_, fun c hc H a dx gs ha => ?_⟩
  · rw [e c hc]; exact d.own c hc T hT
  · rw [e c hc]; exact d.bt c hc t ht
  · rw [e c hc, e c' hc']; exact d.oo c hc c' hc'
  · rw [e c hc] at ha ⊢; exact d.ty c hc H a dx gs ha
def gK (k : Nat) (m : MS) : MS := match k with
  | 0 => sbad
  | _ + 1 => m
theorem pzs_gK {b : Bool} {X : Cx} {G : Gt} {Wf : WX} {st : Stmt} {m : MS} {k : Nat} (h : ∀ j, k = j + 1 → PZS b X G Wf st m) : PZS b X G Wf st (gK k m) := by
  cases k with
  | zero => exact pzs_bad
  | succ j => exact h j rfl
theorem pg_int' {b : Bool} {X : Cx} {G : Gt} {Wf : WX} {x : Str} {pos : Pos} {i : Int} (hg : Gl X x) (hm : ∃ t, X.mg x = some (.int i t)) (hd : (x == ("__debug__" : Str)) = false) : PZ b X G Wf (.Name x pos) (fun _ => ret (.int i)) := by
  obtain ⟨t, hm⟩ := hm
  exact pz_glob (w := .int i) (v := .int i) hg hm ⟨t, rfl⟩ hd fun ι h H _ => .int i
end Z

set_option Elab.async false
set_option linter.all false
set_option maxRecDepth 100000
set_option maxHeartbeats 1000000
set_option autoImplicit false
namespace Z
open PySem L2
open PyProof.Rows hiding St
section
variable {M : Model} {A : Around} {E : Value → Shared → Prop} {s₀ s : Shared} {m cm : Str → Option Value} {env : Env}
theorem stLCT {n : Str} {v : Value} {Q : Unit → Shared → Prop} (x : InCallC s₀ env.locals m env.cells cm s) (hk : env.scope.kind = .function) (hl : env.kindOf n = some .local)
    (h : ∀ s', InCallC s₀ env.locals (fun y => if y = n then some v else m y) env.cells cm s' → 1 ≤ s'.toks → Q () s') : wpAny M A (storeName env n v) Q E s := by
  refine wpAny_storeName_local hl x.toInCall.ns (fun h' hn' hs' => h _ ⟨⟨?_, hn', fun b o e => ?_, x.toInCall.fresh⟩, fun k c hc => ?_, x.apart, x.above⟩ (Nat.le_add_left _ _)) (by rw [hk]; rfl)
  · obtain ⟨h₁, tk, rfl⟩ := x.toInCall.same
    exact ⟨h', _, rfl⟩
  · exact hs'.extBut b o (Nat.ne_of_lt (Nat.lt_of_lt_of_le (Heap.lt_size e) x.toInCall.fresh)) (x.toInCall.keep b o e)
  · exact (x.cell k c hc).sameBut hs' (Nat.ne_of_gt (x.above k c (mem_of_lookup hc)))
def anyLoc (env : Env) (binds : List (Str × Value)) : Prop := ∃ x ∈ binds, env.kindOf x.1 = some .local
theorem bindParamsT (f : Str × Value → PUnit → Sem (ForInStep PUnit)) (hf : ∀ n v u, f (n, v) u = (do storeName env n v; pure (.yield ⟨⟩))) (hk : env.scope.kind = .function) :
    ∀ (binds : List (Str × Value)) (m cm : Str → Option Value) (s : Shared) (Q : PUnit → Shared → Prop), InCallC s₀ env.locals m env.cells cm s → (1 ≤ s.toks ∨ anyLoc env binds) →
      (∀ x ∈ binds, env.kindOf x.1 = some .local ∨ (env.kindOf x.1 = some .cell ∧ (env.cells.lookup x.1).isSome = true)) →
      (∀ s', InCallC s₀ env.locals (bindL env.kindOf binds m) env.cells (bindC env.kindOf binds cm) s' → 1 ≤ s'.toks → Q ⟨⟩ s') → wpAny M A (forIn binds ⟨⟩ f) Q E s
  | [], m, cm, s, Q, x, ht, _, h => by
    rw [List.forIn_nil]
    refine wpAny_pure (h s x ?_)
    rcases ht with ht | ⟨y, hy, _⟩
    · exact ht
    · cases hy
  | (n, v) :: r, m, cm, s, Q, x, ht, hkind, h => by
    rw [List.forIn_cons, hf]
    have hr : ∀ y ∈ r, env.kindOf y.1 = some .local ∨ (env.kindOf y.1 = some .cell ∧ (env.cells.lookup y.1).isSome = true) := fun y hy => hkind y (List.mem_cons_of_mem _ hy)
    rcases hkind (n, v) List.mem_cons_self with hl | ⟨hl, hc⟩
    · refine wpAny_bind (wpAny_bind (stLCT x hk hl fun s' x' t' => wpAny_pure (bindParamsT f hf hk r _ _ s' Q x' (.inl t') hr fun s'' x'' => h s'' ?_)))
      unfold bindL bindC; rw [if_pos hl, if_pos hl]; exact x''
    · obtain ⟨c, hc⟩ := Option.isSome_iff_exists.mp hc
      have hnl : ¬ env.kindOf n = some .local := by rw [hl]; decide
      have st := stCC (M := M) (A := A) (E := E) (v := v) (Q := fun _ s' => InCallC s₀ env.locals m env.cells (fun y => if y = n then some v else cm y) s') x hk hl hc fun s' x' => x'
      refine wpAny_bind (wpAny_bind (wpAny_mono (wpAny_toks st) (fun _ s' q => wpAny_pure (bindParamsT f hf hk r _ _ s' Q q.2 ?_ hr fun s'' x'' => h s'' ?_)) fun _ _ q => q.2))
      · rcases ht with ht | ⟨y, hy, hyl⟩
        · exact .inl (Nat.le_trans ht q.1)
        · rcases List.mem_cons.mp hy with e | e
          · subst e; exact absurd hyl hnl
          · exact .inr ⟨y, e, hyl⟩
      · unfold bindL bindC; rw [if_neg hnl, if_neg hnl]; exact x''
theorem newFunctionEnvT {s : Shared} {scope : Scope} {globals : Addr} {binds : List (Str × Value)} {qual : Str} {func : Option Addr} {code : Value} {builtins : Addr} {Q : Env → Shared → Prop}
    (hk : scope.kind = .function) (hany : ∃ x ∈ binds, scope.names.lookup x.1 = some .local)
    (hkind : ∀ x ∈ binds, scope.names.lookup x.1 = some .local ∨ (scope.names.lookup x.1 = some .cell ∧ ((cellsFrom (s.heap.objs.size + 1) scope.names []).lookup x.1).isSome = true))
    (hQ : ∀ env, env = newEnv scope s.heap.objs.size globals (cellsFrom (s.heap.objs.size + 1) scope.names []) qual func code none builtins →
      ∀ s', InCallC s env.locals (bindL env.kindOf binds fun _ => none) env.cells (bindC env.kindOf binds fun _ => none) s' → 1 ≤ s'.toks → Q env s') :
    wpAny M A (newFunctionEnv scope globals [] binds qual func code none builtins) Q E s := by
  simp only [newFunctionEnv, Option.isSome_none, Bool.false_eq_true, if_false]
  refine wpAny_bind (wpAny_alloc ?_)
  refine wpAny_bind (wpAny_layCells _ (fun name kind cells => by cases hkc : kind == NameKind.cell <;> simp [hkc]) _ _ _ _ ?_)
  have ok := cellsFrom_ok scope.names (s.heap.push { cls := .type "frame", data := .dict #[] }) (s.heap.objs.size + 1) [] ⟨fun _ _ hm => (nomatch hm), List.Pairwise.nil⟩ (by rw [Heap.size_push]; exact Nat.le_refl _)
  rw [Heap.size_push] at ok
  rw [show ({ s with heap := s.heap.push { cls := .type "frame", data := .dict #[] } } : Shared).heap.objs.size = s.heap.objs.size + 1 from Heap.size_push ..]
  refine wpAny_bind (bindParamsT (s₀ := s) (env := newEnv scope s.heap.objs.size globals (cellsFrom (s.heap.objs.size + 1) scope.names []) qual func code none builtins)
    _ (fun _ _ _ => rfl) hk binds (fun _ => none) (fun _ => none) _ _
    ⟨⟨⟨_, _, rfl⟩, (Heap.Ns.new s.heap (.type "frame")).keeps (pushCells_keeps _ _), fun b o e => pushCells_keeps _ _ b o (Heap.get?_push_of_some _ e), Nat.le_refl _⟩,
      fun n c hc => (ok.empty n c (mem_of_lookup hc)).1, ok.apart, fun n c hm => (ok.empty n c hm).2⟩
    (.inr hany) hkind fun s' x t => wpAny_pure (hQ _ rfl s' x t))
end
theorem fn_ofTC {CX : CXT} {P : Program} {w : World} {K : PySem.W.Frag} {mg : Str → Option Value} {base : Heap} {k : Nat} {f : Addr} {name qual : Str} {params : Arguments} {body : List Stmt} {scope : Scope} {dV kV doc pm cdv ct oc : Value} {an od : Option Addr}
    {osl : Array (Option Value)} {N ps : List Str} {sp : Sp} (lk : K.lookup f = some ⟨oc, od, .func (PySem.W.fnOf name qual params body scope dV kV doc pm an cdv ct), osl⟩) (hcd : PySem.W.codeIn K cdv qual = true) (S : FnScope N ps scope)
    (hloc : ∃ y ∈ ps, scope.names.lookup y = some .local) (len : ∀ vs H Q E, sp vs H Q E → vs.length = ps.length)
    (hbody : ∀ (A : Around) (outer : List Env) (s : Shared) (H : Hp) (vs : List V) (Q : VK) (E : XK), Room k (A.deeper (envOfC qual scope s.heap.objs.size f cdv)) → sp vs H Q E →
      ∃ t, PSsT (cxOf CX P w K mg base N qual scope f cdv A outer s H E) body t ∧ t { nx := fun _ H' => Q .non H', rt := Q } (start N vs) H) :
    FnOk P w K mg base CX (k + 1) f (PySem.W.fnOf name qual params body scope dV kV doc pm an cdv ct) ps sp := by
  refine ⟨len, fun A outer s H args us vs Q E hr e0 hb r hsp => ?_⟩
  have hl := len _ _ _ _ hsp
  have hul : us.length = ps.length := by rw [← r.length, hl]
  have KX : K.In s.heap := e0.mod.kin.keeps fun b o e => (e0.bs b o e).1
  have lim : s.heap.NoLimit := e0.mod.nolimit.keeps fun b o e => (e0.bs b o e).1
  have hkind : ∀ y ∈ ps.zip us, scope.names.lookup y.1 = some .local ∨ (scope.names.lookup y.1 = some .cell ∧ ((cellsFrom (s.heap.objs.size + 1) scope.names []).lookup y.1).isSome = true) := fun ⟨n, v⟩ hy => by
    rcases S.par n (List.of_mem_zip hy).1 with q | q
    · exact .inl q
    · exact .inr ⟨q, PySem.W.cellsFrom_some _ _ _ (.inl q)⟩
  have hany : ∃ y ∈ ps.zip us, scope.names.lookup y.1 = some .local := by
    obtain ⟨y, hy, e⟩ := hloc
    obtain ⟨i, hi, ei⟩ := List.getElem_of_mem hy
    have hz : i < (ps.zip us).length := by rw [List.length_zip, hul, Nat.min_self]; exact hi
    refine ⟨(ps.zip us)[i], List.getElem_mem hz, ?_⟩
    rw [List.getElem_zip, ei]
    exact e
  refine codeAny_call_function hr.rm.depth (KX _ _ lk) rfl S.co S.gen rfl (PySem.W.codeRec_of KX hcd) (hb _ _ _ _ ?_)
  refine newFunctionEnvT S.kind hany hkind fun env he s1 x hto => ?_
  subst he
  refine ⟨lim.keeps x.toInCall.keep, codeAny_func ?_⟩
  obtain ⟨t, ht, hq⟩ := hbody A outer s H vs Q E (hr.deeper _) hsp
  have I : Inv (cxOf CX P w K mg base N qual scope f cdv A outer s H E) [] (start N vs) H s1 := inv_start S hr.rm.hd e0 hl r x
  refine wpAny_mono (ht [] s1 (start N vs) H _ hto I hq) (fun fl s' hs => ?_) fun e s' hs => hs
  have fin : ∀ {σ' : St} {H' : Hp} {v : V} {u : Value}, Inv (cxOf CX P w K mg base N qual scope f cdv A outer s H E) [] σ' H' s' → RelV v u → Q v H' → CE outer P w H s Q u s' :=
    fun {σ' H' v u} J rv q => ⟨v, H', J.os, J.bare, J.base, J.hok, rv, q⟩
  cases fl with
  | ret u =>
    obtain ⟨v, σ', H', J, rv, q⟩ := hs
    exact fin J rv q
  | next =>
    obtain ⟨σ', H', J, q⟩ := hs
    exact fin (v := V.non) (u := Value.none) J rfl q
  | brk =>
    obtain ⟨_, _, _, q⟩ := hs
    exact False.elim q
  | cont =>
    obtain ⟨_, _, _, q⟩ := hs
    exact False.elim q
section
variable {P : Program} {w : World} {K : PySem.W.Frag} {mg : Str → Option Value} {base : Heap} {G : Gt} {x qual : Str} {params : Arguments} {body : List Stmt} {scope : Scope} {dvs : List V} {kws : List (Str × V)} {f : Addr} {fd : FuncData} {N ps : List Str} {k n : Nat} {m : MS}
theorem fnZC (F : FunD K x qual params body scope dvs kws f fd) (S : FnScope N ps scope) (hn : N.length = n) (hloc : ∃ y ∈ ps, scope.names.lookup y = some .local)
    (hb : ∀ (cdv : Value) (A : Around) (outer : List Env) (s : Shared) (H : Hp) (E : XK) (no : Addr → Prop), Room k (A.deeper (envOfC qual scope s.heap.objs.size f cdv)) → PZSs true (cxZ P w K mg base N qual scope f cdv A outer s H E) (G.wn no) (wfZ E) body m) :
    FnOk P w K mg base (CX P w) (k + 1) f fd ps (spZ K G ps.length (runZ n m)) := by
  obtain ⟨oc, od, dV, kV, doc, pm, an, cdv, ct, osl, rfl, lk, hcd, _, _⟩ := F.ex
  refine fn_ofTC lk hcd S hloc (fun vs H Q E h => h.1) fun A outer s H vs Q E hr h => ?_
  obtain ⟨hl, no, ι, h, ws, r, rs, a⟩ := h
  refine ⟨fun D σ H' => ∃ ι h ρ, HRep K (G.wn no) ι h H' ∧ SRep K (G.wn no) ι h H' ρ σ ∧ AftS K (G.wn no) (wfZ E) ι h H' (m ρ h) D, fun pins s' σ H' D ht I ⟨ι, h, ρ, r, sr, a⟩ => thn ((hb cdv A outer s H E no hr).run pins s' σ H' ι h ρ D (fun _ => ht) I r sr a) fun _ _ q => q.2, ι, h, startZ n ws, r, start_rep rs hn, ?_⟩
  exact (end_after a).imp (fun _ _ q => q) (fun _ _ q => q) (fun _ _ q => q.elim) (fun _ _ q => q.elim)
end
theorem NoAt.sub {K : PySem.W.Frag} {G : Gt} {f : Nat} {cs cs' : List Nat} (h : NoAt K G f cs) (hs : ∀ c ∈ cs', c ∈ cs) : NoAt K G f cs' := fun c hc => h c (hs c hc)
end Z

set_option Elab.async false
set_option linter.all false
set_option maxRecDepth 100000
set_option maxHeartbeats 1000000
set_option autoImplicit false
namespace Z
open PySem L2
open PyProof.Rows hiding St
def repL (s : List Nat) : Nat → List Nat
  | 0 => []
  | n + 1 => s ++ repL s n
theorem repL_nil : ∀ n, repL [] n = []
  | 0 => rfl
  | n + 1 => repL_nil n
theorem repL_len (s : List Nat) : ∀ n, (repL s n).length = s.length * n
  | 0 => rfl
  | n + 1 => by
    show (s ++ repL s n).length = _
    rw [List.length_append, repL_len s n, Nat.mul_succ, Nat.add_comm]
theorem fold_rep (s : List Nat) : ∀ (n : Nat) (acc : Array Nat), ((List.replicate n s.toArray).foldl (· ++ ·) acc).toList = acc.toList ++ repL s n
  | 0, acc => by simp [repL]
  | n + 1, acc => by
    rw [List.replicate_succ, List.foldl_cons, fold_rep s n]
    simp [repL]
def zmulS (s : List Nat) (n : Int) : M W := if decide (n < 1) = true then (if decide (-P62 ≤ n) = true then ret (.str []) else bad) else
  if (decide (n ≤ 1000000) && decide (s.length * n.toNat ≤ 1000000)) = true then ret (.str (repL s n.toNat)) else bad
def zmulA (x y : W) : M W := match x, y with
  | .str s, .int n => zmulS s n
  | x, y => zmul x y
section
variable {X : Cx} {G : Gt} {Wf : WX}
theorem mulS_ok {pins : List (Addr × Obj)} {s : Shared} {σ : St} {H : Hp} {ι : Nat → Addr} {h : Hz} {z : List Nat} {n : Int} {u1 u2 : Value} {Q : VK} (I : Inv X pins σ H s) (r : HRep X.K G ι h H) (r1 : RelV (.str (S z)) u1) (r2 : RelV (.int n) u2)
    (aft : Aft X.K G Wf σ (rpW X.K G) ι h H (zmulS z n h) Q) : wpAny (model X.prog X.w) X.A (binaryOp .Mult u1 u2) (EP X pins σ Q) X.xe s := by
  obtain ⟨t, rfl⟩ := r1
  obtain ⟨t', rfl⟩ := r2
  unfold zmulS at aft
  have hS : sizeLine = 16777216 := sizeLine_eq
  split at aft
  · rename_i hn
    have hn' : n < 1 := of_decide_eq_true hn
    split at aft
    · rename_i hlo
      have hlo' : -P62 ≤ n := of_decide_eq_true hlo
      refine P.mul_str_none hn' (by unfold P62 at hlo'; omega) ⟨.str (S []), H, I.tok _, ⟨_, rfl⟩, aft.ret r (.str [])⟩
    · exact False.elim aft
  · rename_i hn
    have hn' : ¬ n < 1 := fun q => hn (decide_eq_true q)
    split at aft
    · rename_i hb
      obtain ⟨b1, b2⟩ := Bool.and_eq_true_iff.mp hb
      have b1 : n ≤ 1000000 := of_decide_eq_true b1
      have b2 : z.length * n.toNat ≤ 1000000 := of_decide_eq_true b2
      have hlen : (S z).length = z.length := S_len z
      refine P.mul_str (by rw [decide_eq_false (by omega), decide_eq_false (by omega)]; rfl) (fun _ _ => ?_) (fun _ _ => ?_) ?_
      · rw [hlen]
        have h1 : (z.length : Int) ≤ 1000000 := by
          have : z.length ≤ z.length * n.toNat := Nat.le_mul_of_pos_right _ (by omega)
          omega
        have h2 : (9223372036854 : Int) ≤ (2 ^ 63 - 1) / n := by
          rw [Int.le_ediv_iff_mul_le (by omega)]
          omega
        omega
      · rw [hlen]
        unfold Builtin.Str.tooLong
        simp only [decide_eq_false_iff_not]
        omega
      · rw [if_neg hn']
        split
        · rename_i hc
          refine ⟨.str (S z), H, I, ⟨t, rfl⟩, ?_⟩
          have e : repL z n.toNat = z := by
            rw [hlen] at hc
            rcases (Bool.or_eq_true _ _).mp hc with q | q
            · have : n = 1 := by simpa using q
              subst this
              simp [repL]
            · have : z = [] := by simpa using q
              subst this
              exact repL_nil _
          rw [e] at aft
          exact aft.ret r (.str z)
        · have e : (⟨(List.replicate n.toNat (S z).cps).foldl (· ++ ·) #[]⟩ : Str) = S (repL z n.toNat) := by
            have := fold_rep z n.toNat #[]
            simp only [List.nil_append] at this
            have h2 : (List.replicate n.toNat (S z).cps).foldl (· ++ ·) #[] = (repL z n.toNat).toArray := by
              rw [← this]
            rw [h2]
          rw [e]
          refine ⟨?_, .str (S (repL z n.toNat)), H, I.tok _, ⟨_, rfl⟩, aft.ret r (.str _)⟩
          rw [S_len, repL_len, hS]
          omega
    · exact False.elim aft
theorem op_zmulA : OpZ X G Wf (binaryOp .Mult) zmulA := by
  intro pins s σ H ι h x y v1 v2 u1 u2 Q I r p1 p2 r1 r2 a
  cases p1 with
  | str z =>
    cases p2 with
    | int n => exact mulS_ok I r r1 r2 a
    | _ => exact False.elim a
  | int i => exact op_zmul pins s σ H ι h (.int i) y _ _ u1 u2 Q I r (.int i) p2 r1 r2 a
  | non => exact op_zmul pins s σ H ι h _ y _ _ u1 u2 Q I r .non p2 r1 r2 a
  | _ => exact False.elim (by unfold zmulA zmul zint2 at a; exact a)
end
end Z

set_option Elab.async false
set_option linter.all false
set_option maxRecDepth 100000
set_option maxHeartbeats 1000000
set_option autoImplicit false
namespace Z
open PySem L2
open PyProof.Rows hiding St
section
variable {b : Bool} {X : Cx} {G : Gt} {Wf : WX} {es : List Expr} {pos : Pos}
theorem star_tupZ {prog : Program} {w : World} {A : Around} {E : Value → Shared → Prop} {s : Shared} {l : Addr} {items : Array Value} {n i : Nat} {Q : List Value → Shared → Prop} (hl : IsTup s.heap l items) (hh : A.handled = none) (hi : i < n) (hn : n ≤ items.size + 1) (hz : items.size ≤ 16384)
    (h : ∀ (h' : Heap) (tk : Nat), (∀ b o, s.heap.get? b = some o → h'.get? b = some o) → Q (items.toList.take i ++ [.ref h'.objs.size] ++ (items.toList.drop i).drop (items.size + 1 - n)) { s with heap := h'.push { cls := .type "list", data := .seq ((items.toList.drop i).take (items.size + 1 - n)).toArray }, toks := tk }) :
    wpAny (model prog w) A (unpackItems (.ref l) n (some i)) Q E s := by
  have hlt : l ≠ s.heap.objs.size := by obtain ⟨o, ho, _⟩ := hl; exact Nat.ne_of_lt (Heap.lt_size ho)
  unfold unpackItems
  refine wpAny_bind ?_
  unfold notIterableAtAll
  refine wpAny_bind (wpAny_specialOf hl.typeIs slot_tuple_iter.lookup (wpAny_pure ?_))
  simp only [Bool.false_eq_true, if_false]
  refine wpAny_bind (wpAny_holding (iter_tuple hl ?_))
  refine wpAny_bind (wpAny_holding (draw_tuple hlt i 0 _ _ ⟨_, Heap.get?_push_size _ rfl, rfl, rfl⟩ (hl.push _) (by omega) fun h1 hit1 hs1 => ?_))
  have hl1 : IsTup h1 l items := (hl.push _).extBut hs1.extBut hlt
  rw [Nat.zero_add] at hit1
  obtain ⟨oi, hoi, _⟩ := id hit1
  obtain ⟨ol, hol, _⟩ := id hl1
  rw [List.drop_zero]
  have hfl : (items.toList.take i).length = i := by rw [List.length_take, Array.length_toList]; omega
  rw [if_neg (show ¬ ((items.toList.take i).length < i) by rw [hfl]; omega)]
  refine wpAny_bind (wpAny_holding (PySem.W.kun_collect (s := { s with heap := h1 }) (T := "tuple_iterator") (.inr (.inr (.inr rfl))) (Walks.tuple (A := A.in1) hh s.heap.objs.size l hlt items) (fun j u st => st.1.typeIs) (k := i) (by omega) ⟨hit1, hl1⟩ (Heap.lt_size hoi) (Heap.lt_size hol) (fun h2 tk hk => ?_) (by rw [sizeLine_eq]; omega)))
  have hrl : (items.toList.drop i).length = items.size - i := by rw [List.length_drop, Array.length_toList]
  have hmid : (items.toList.drop i).length - (n - 1 - i) = items.size + 1 - n := by rw [hrl]; omega
  show wpAny _ _ (if (items.toList.drop i).length < n - 1 - i then _ else _) _ _ _
  rw [if_neg (by rw [hrl]; omega)]
  show wpAny _ _ (newList ((items.toList.drop i).take ((items.toList.drop i).length - (n - 1 - i))) >>= fun d => pure (items.toList.take i ++ [d] ++ (items.toList.drop i).drop ((items.toList.drop i).length - (n - 1 - i)))) _ _ _
  rw [hmid]
  have he : Heap.ExtBut s.heap.objs.size s.heap h2 := fun b o hb e => hk b o hb (hs1.extBut b o hb (Heap.get?_push_of_some _ e))
  refine wpAny_bind (wpAny_newObj_type (wpAny_pure (h h2 tk fun b o e => he b o (Nat.ne_of_lt (Heap.lt_size e)) e)) ?_)
  show ((items.toList.drop i).take (items.size + 1 - n)).toArray.size ≤ sizeLine
  rw [List.size_toArray, List.length_take, hrl, sizeLine_eq]; omega
theorem star_any2 {prog : Program} {w : World} {A : Around} {E : Value → Shared → Prop} {s : Shared} {l : Addr} {items : Array Value} {n i : Nat} {Q : List Value → Shared → Prop} (hl : s.heap.IsList l items ∨ IsTup s.heap l items) (hh : A.handled = none) (hi : i < n) (hn : n ≤ items.size + 1) (hz : items.size ≤ 16384)
    (h : ∀ (h' : Heap) (tk : Nat), (∀ b o, s.heap.get? b = some o → h'.get? b = some o) → Q (items.toList.take i ++ [.ref h'.objs.size] ++ (items.toList.drop i).drop (items.size + 1 - n)) { s with heap := h'.push { cls := .type "list", data := .seq ((items.toList.drop i).take (items.size + 1 - n)).toArray }, toks := tk }) :
    wpAny (model prog w) A (unpackItems (.ref l) n (some i)) Q E s := by
  rcases hl with hl | hl
  · exact star_list hl hh hi hn hz h
  · exact star_tupZ hl hh hi hn hz h
def gstarA (i : Nat) (gs : List W → MS) (w : W) : MS := fun ρ => sbnd (zseq w) ρ fun q h => if (decide (i ≤ q.2.length) && decide (q.2.length ≤ 16384)) = true then gs (q.2.take i ++ [.ref h.n]) ρ (h.push (.lst (q.2.drop i))) else .err
theorem pzg_starA {i kk : Nat} {gs : List W → MS} (hc : X.calm = true) (hg : PZGs b X G Wf es gs) (hn : (assignEach es X.env).length = i + 1) (hst : (assignEach es X.env).findIdx? (·.1) = some i) : PZG b X G Wf (.Tuple es kk pos) (gstarA i gs) := by
  refine ⟨fun pins s σ H ι h ρ w v u Q tk I r sr pw ru a => ?_⟩
  have a0 : Aft X.K G Wf σ rpE ι h H (bnd (zseq w) (fun q => ret q) h) fun q H1 => ∃ ι1 h1 q', Next X.K G ι h H ι1 h1 H1 ∧ q' = q ∧ SRep X.K G ι1 h1 H1 ρ σ ∧ AftS X.K G Wf ι1 h1 H1 (if (decide (i ≤ q'.2.length) && decide (q'.2.length ≤ 16384)) = true then gs (q'.2.take i ++ [.ref h1.n]) ρ (h1.push (.lst (q'.2.drop i))) else .err) (gD Q) := by
    have e : bnd (zseq w) (fun q => ret q) h = zseq w h := by
      unfold bnd
      cases zseq w h <;> rfl
    rw [e]
    exact AftS.bnd (P := rpE) a r sr
  obtain ⟨tb, xs, ad, vs, e2, sq, rs, a1, _⟩ := seq_after r pw a0
  obtain ⟨ι1, h1, q', n1, eq, sr1, a2⟩ := a1 ι H (tb, xs) (Next.refl r) rfl
  subst eq
  subst e2
  have a3 : AftS X.K G Wf ι1 h1 H (if (decide (i ≤ xs.length) && decide (xs.length ≤ 16384)) = true then gs (xs.take i ++ [.ref h1.n]) ρ (h1.push (.lst (xs.drop i))) else .err) (gD Q) := a2
  split at a3
  · rename_i hl
    simp only [Bool.and_eq_true, decide_eq_true_eq] at hl
    cases (show u = Value.ref ad from ru)
    obtain ⟨its, rv, pl, hz⟩ : ∃ its, Vals vs its ∧ (s.heap.IsList ad its.toArray ∨ IsTup s.heap ad its.toArray) ∧ vs.length ≤ sizeLine := by
      cases tb with
      | true => obtain ⟨its, rv, pl, hz⟩ := I.tuple sq; exact ⟨its, rv, .inr pl, hz⟩
      | false => obtain ⟨its, rv, pl, hz⟩ := I.list sq; exact ⟨its, rv, .inl pl.isList, hz⟩
    have rs1 := rs.next r n1.toNx0
    have el : its.length = xs.length := by rw [← rv.length, ← rs.length]
    rw [PyProof.Rows.assign_Tuple]
    refine wpAny_bind (wpAny_standAt ?_)
    unfold unpack
    rw [hn, hst]
    refine wpAny_bind (wpAny_holding (thn (withTk tk (star_any2 (Q := fun us s' => ∃ (h' : Heap) (tk' : Nat), (∀ b o, s.heap.get? b = some o → h'.get? b = some o) ∧ us = its.toArray.toList.take i ++ [.ref h'.objs.size] ++ (its.toArray.toList.drop i).drop (its.toArray.size + 1 - (i + 1)) ∧
      s' = { s with heap := h'.push { cls := .type "list", data := .seq ((its.toArray.toList.drop i).take (its.toArray.size + 1 - (i + 1))).toArray }, toks := tk' }) pl (I.ok.hd hc) (Nat.lt_succ_self _) (by rw [List.size_toArray, el]; omega) (by rw [List.size_toArray, el]; exact hl.2) fun h' tk' hk => ⟨h', tk', hk, rfl, rfl⟩)) fun us s' ⟨tk2, h', tk', hk, eu, es⟩ => ?_))
    subst eu
    subst es
    have e1 : its.toArray.size + 1 - (i + 1) = xs.length - i := by rw [List.size_toArray, el]; omega
    have d0 : (its.toArray.toList.drop i).drop (its.toArray.size + 1 - (i + 1)) = [] := by rw [e1]; apply List.drop_of_length_le; simp [el]
    have d1 : (its.toArray.toList.drop i).take (its.toArray.size + 1 - (i + 1)) = its.drop i := by rw [e1]; rw [List.take_of_length_le (by simp [el])]
    rw [d1] at tk2
    rw [d0, d1, List.append_nil]
    have I1 : Inv X pins σ H { s with heap := h', toks := tk' } := I.kept (t' := tk') hk
    have hf : H h'.objs.size = none := I1.hok.fresh (Nat.le_refl _)
    have hzz : (vs.drop i).length ≤ sizeLine := by rw [List.length_drop]; omega
    have I2 : Inv X pins σ (upd H h'.objs.size (.lst (vs.drop i))) { s with heap := h'.push { cls := .type "list", data := .seq (its.drop i).toArray }, toks := tk' } := I1.lnew (rv.drop i) hzz
    have n0 : Nx0 ι1 h1 H (ext1 ι1 h1.n h'.objs.size) (h1.push (.lst (xs.drop i))) (upd H h'.objs.size (.lst (vs.drop i))) := Nx0.alloc hf
    have n2 := Next.alloc (c := .lst (xs.drop i)) (o := .lst (vs.drop i)) n1.rep hf ⟨vs.drop i, upd_same, (rs1.drop i).next n1.rep n0⟩
    have pD : Rep X.K G (ext1 ι1 h1.n h'.objs.size) (h1.push (.lst (xs.drop i))) (upd H h'.objs.size (.lst (vs.drop i))) (.ref h1.n) (.ref h'.objs.size) := by
      have z : Rep X.K G (ext1 ι1 h1.n h'.objs.size) (h1.push (.lst (xs.drop i))) (upd H h'.objs.size (.lst (vs.drop i))) (.ref h1.n) (.ref (ext1 ι1 h1.n h'.objs.size h1.n)) := .ref _ (Nat.lt_succ_self _)
      rw [ext1_at] at z
      exact z
    exact hg.run pins _ σ _ (ext1 ι1 h1.n h'.objs.size) (h1.push (.lst (xs.drop i))) ρ _ (vs.take i ++ [.ref h'.objs.size]) _ Q tk2 I2 n2.rep (sr1.next n1.rep n2.toNx0) (((rs1.take i).next n1.rep n2.toNx0).append (.cons pD .nil)) ((by simpa using rv.take i : Vals (vs.take i) (its.toArray.toList.take i)).append (.cons (show RelV (.ref h'.objs.size) (.ref h'.objs.size) from rfl) .nil)) (AftS.step a3 n2)
  · exact False.elim a3

theorem gn_starA {i : Nat} {gs : List W → MS} (h2 : GNs gs) : GNx (gstarA i gs) := fun w ρ h f ρ' h' e => by
  unfold gstarA sbnd at e
  cases q : zseq w h with
  | ok a h1 =>
    rw [q] at e
    have e' : (if (decide (i ≤ a.2.length) && decide (a.2.length ≤ 16384)) = true then gs (a.2.take i ++ [.ref h1.n]) ρ (h1.push (.lst (a.2.drop i))) else .err) = .ok f ρ' h' := e
    split at e'
    · exact h2 _ _ _ _ _ _ e'
    · cases e'
  | exc c fs h1 => rw [q] at e; cases e
  | err => rw [q] at e; cases e
end
end Z

set_option Elab.async false
set_option linter.all false
set_option maxRecDepth 100000
set_option maxHeartbeats 1000000
set_option autoImplicit false
namespace Z
open PySem L2
open PyProof.Rows hiding St
open He5 (DefA fnA asA)
structure Prt where
  chk : List (PySem.W.Frag → Bool)
  fn : List DefA
  ds : List (Str × List Str)
def Prt.hk (n : Nat) (p : Prt) : PySem.W.Hook := hookY n p.chk p.fn p.ds
def Prt.ob (n : Nat) (p : Prt) (s : PySem.W.SharedT) : AlY := obsYG n p.chk p.fn p.ds (HandSHeadRun.getT s)
def hook3 (n : Nat) (p q r : Prt) : PySem.W.Hook where
  α := AlY × AlY × AlY
  obs := fun s => (obsYG n p.chk p.fn p.ds s.heap.get?, obsYG n q.chk q.fn q.ds s.heap.get?, obsYG n r.chk r.fn r.ds s.heap.get?)
  val := fun w => (valY p.fn p.ds w.params, valY q.fn q.ds w.params, valY r.fn r.ds w.params)
  says := fun w h => ∃ K : PySem.W.Frag, K.In h ∧ SaysY w.params p.chk p.fn p.ds K ∧ SaysY w.params q.chk q.fn q.ds K ∧ SaysY w.params r.chk r.fn r.ds K
  of := fun w s e => ⟨_, He.frG_in, congrArg (fun z : AlY × AlY × AlY => z.1) e, congrArg (fun z : AlY × AlY × AlY => z.2.1) e, congrArg (fun z : AlY × AlY × AlY => z.2.2) e⟩
  keeps := fun _ _ _ ⟨K, hK, c⟩ k => ⟨K, PySem.W.Frag.In.keeps hK k, c⟩
def ob3 (n : Nat) (p q r : Prt) (s : PySem.W.SharedT) : AlY × AlY × AlY := (p.ob n s, q.ob n s, r.ob n s)
theorem ob3_eq {n : Nat} {p q r : Prt} (s : PySem.W.SharedT) : ob3 n p q r s = (hook3 n p q r).obs s.abs := by
  have e : HandSHeadRun.getT s = s.abs.heap.get? := funext (HandSHeadRun.getT_eq s)
  unfold ob3 Prt.ob
  rw [e]
  rfl
theorem map_join {α β γ δ ε ζ : Type} {F : Option α} {f : α → β} {g : α → γ} {a : α → δ} {b : α → ε} {c : α → ζ} {x : β} {y : γ} {u : δ} {v : ε} {w : ζ} (h1 : F.map (fun s => (f s, g s, a s)) = some (x, y, u)) (h2 : F.map (fun s => (f s, g s, b s)) = some (x, y, v)) (h3 : F.map (fun s => (f s, g s, c s)) = some (x, y, w)) :
    F.map (fun s => (f s, g s, (a s, b s, c s))) = some (x, y, (u, v, w)) := by
  cases F with
  | none => cases h1
  | some s =>
    have e1 := Option.some.inj h1
    have e2 := Option.some.inj h2
    have e3 := Option.some.inj h3
    simp only [Prod.mk.injEq] at e1 e2 e3
    show some (f s, g s, (a s, b s, c s)) = _
    rw [e1.1, e1.2.1, e1.2.2, e2.2.2, e3.2.2]
theorem run3 {r : PySem.W.OpenRow} {q0 : Program} {n M : Nat} {loose : List PySem.Str} {w : World} {p q t : Prt} (h1 : HandSHeadRun.RunEq r q0 (p.hk n) (p.ob n) M loose w) (h2 : HandSHeadRun.RunEq r q0 (q.hk n) (q.ob n) M loose w) (h3 : HandSHeadRun.RunEq r q0 (t.hk n) (t.ob n) M loose w) :
    HandSHeadRun.RunEq r q0 (hook3 n p q t) (ob3 n p q t) M loose w := fun os => map_join (h1 os) (h2 os) (h3 os)
end Z

set_option Elab.async false
set_option linter.all false
set_option maxRecDepth 100000
set_option maxHeartbeats 1000000
set_option autoImplicit false
namespace Z
open PySem L2
open PyProof.Rows hiding St
open He5 (DefA fnA asA)
open HandSHeadRun PySem.W in
def Run0 (r : PySem.W.OpenRow) (q : Program) (M : Nat) (loose : List PySem.Str) (w : World) : Prop :=
  ∀ os : OsState, (endF (stepQ (denQ tabQ) r.prog w) M r.prog w os).map (fun s => (looksF r.prog (boot_heap w.params) s.abs, seenQ q loose (importedModules r.prog.main.body) (fun s => xlAt q [] s && recOk r.toRowW.records s) s.abs)) = some (true, openGood q loose)
open HandSHeadRun PySem.W in
def RunP (r : PySem.W.OpenRow) (n M : Nat) (w : World) (p : Prt) : Prop :=
  ∀ os : OsState, (endF (stepQ (denQ tabQ) r.prog w) M r.prog w os).map (p.ob n) = some (valY p.fn p.ds w.params)
def Prt.app (p q : Prt) : Prt := ⟨p.chk ++ q.chk, p.fn ++ q.fn, p.ds ++ q.ds⟩
def joinY (a b : AlY) : AlY := ((a.1.1 && b.1.1, a.1.2 ++ b.1.2), a.2 ++ b.2)
theorem ob_app {p q : Prt} {n : Nat} (s : PySem.W.SharedT) : (p.app q).ob n s = joinY (p.ob n s) (q.ob n s) := by
  unfold Prt.ob Prt.app obsYG obsY obsZ joinY
  simp only [List.all_append, List.map_append, Prod.mk.injEq, and_true]
  ac_rfl
theorem val_app {p q : Prt} {P : Params} : valY (p.app q).fn (p.app q).ds P = joinY (valY p.fn p.ds P) (valY q.fn q.ds P) := by
  unfold Prt.app valY valZ joinY
  simp only [List.map_append, Bool.and_self]
theorem RunP.app {r : PySem.W.OpenRow} {n M : Nat} {w : World} {p q : Prt} (h1 : RunP r n M w p) (h2 : RunP r n M w q) : RunP r n M w (p.app q) := fun os => by
  have e1 := h1 os
  have e2 := h2 os
  generalize HandSHeadRun.endF _ M r.prog w os = F at e1 e2 ⊢
  cases F with
  | none => cases e1
  | some s =>
    have e1 := Option.some.inj e1
    have e2 := Option.some.inj e2
    rw [Option.map_some, ob_app, val_app, e1, e2]
theorem run_of {r : PySem.W.OpenRow} {q0 : Program} {n M : Nat} {loose : List PySem.Str} {w : World} {p q t : Prt} (h0 : Run0 r q0 M loose w) (h1 : RunP r n M w p) (h2 : RunP r n M w q) (h3 : RunP r n M w t) :
    HandSHeadRun.RunEq r q0 (hook3 n p q t) (ob3 n p q t) M loose w := fun os => by
  have e0 := h0 os
  have e1 := h1 os
  have e2 := h2 os
  have e3 := h3 os
  generalize HandSHeadRun.endF _ M r.prog w os = F at e0 e1 e2 e3 ⊢
  cases F with
  | none => cases e1
  | some s =>
    have e0 := Option.some.inj e0
    have e1 := Option.some.inj e1
    have e2 := Option.some.inj e2
    have e3 := Option.some.inj e3
    simp only [Prod.mk.injEq] at e0
    show some (_, _, (p.ob n s, q.ob n s, t.ob n s)) = some (true, PySem.W.openGood q0 loose, (valY p.fn p.ds w.params, valY q.fn q.ds w.params, valY t.fn t.ds w.params))
    rw [e0.1, e0.2, e1, e2, e3]
end Z

set_option Elab.async false
set_option linter.all false
set_option maxRecDepth 100000
set_option maxHeartbeats 1000000
set_option autoImplicit false
namespace Z
open PySem L2
open PyProof.Rows hiding St
mutual
def toD : W → Option PyData
  | .non => some .none
  | .bl b => some (.bool b)
  | .int i => some (.int i)
  | .str s => some (.str ⟨s.toArray⟩)
  | .tup ws => match toDs ws with
    | some ds => some (.tuple ds)
    | none => none
  | _ => none
def toDs : List W → Option (List PyData)
  | [] => some []
  | w :: ws => match toD w with
    | some d => (match toDs ws with
      | some ds => some (d :: ds)
      | none => none)
    | none => none
end
section
variable {X : Cx} {G : Gt} {ι : Nat → Addr} {h : Hz} {H : Hp} {pins : List (Addr × Obj)} {σ : St} {s : Shared}
mutual
theorem reads_of (I : Inv X pins σ H s) : ∀ {w : W} {v : V} {u : Value} {d : PyData}, Rep X.K G ι h H w v → RelV v u → toD w = some d → ∃ as, Reads s.heap u d as
  | _, _, u, d, .non, rv, e => by
    simp only [toD] at e
    cases e
    cases (show u = Value.none from rv)
    exact ⟨_, .none⟩
  | _, _, u, d, .bl b, rv, e => by
    simp only [toD] at e
    cases e
    cases (show u = Value.bool b from rv)
    exact ⟨_, .bool b⟩
  | _, _, u, d, .int i, rv, e => by
    simp only [toD] at e
    cases e
    obtain ⟨t, q⟩ := (show ∃ t, u = Value.int i t from rv)
    cases q
    exact ⟨_, .int i t⟩
  | _, _, u, d, .str z, rv, e => by
    simp only [toD] at e
    cases e
    obtain ⟨t, q⟩ := (show ∃ t, u = Value.str _ t from rv)
    cases q
    exact ⟨_, .str _ t⟩
  | .tup ws, .ref a, u, d, .tup sq rs, rv, e => by
    cases (show u = Value.ref a from rv)
    simp only [toD] at e
    cases q : toDs ws with
    | none => rw [q] at e; cases e
    | some ds =>
      rw [q] at e
      cases e
      obtain ⟨its, rvs, ⟨o, ho, hc, m, hd⟩, _⟩ := I.tuple sq
      obtain ⟨as, ra⟩ := readsAll_of I rs rvs q
      exact ⟨_, .tuple ho hc hd (by simpa using ra)⟩
  | _, _, u, d, .fz _ _, rv, e => by simp only [toD] at e; cases e
  | _, _, u, d, .obj _ _ _ _, rv, e => by simp only [toD] at e; cases e
  | _, _, u, d, .ref i _, rv, e => by simp only [toD] at e; cases e
  | _, _, u, d, .fn i, rv, e => by simp only [toD] at e; cases e
  | _, _, u, d, .cl i, rv, e => by simp only [toD] at e; cases e
theorem readsAll_of (I : Inv X pins σ H s) : ∀ {ws : List W} {vs : List V} {us : List Value} {ds : List PyData}, Reps X.K G ι h H ws vs → Vals vs us → toDs ws = some ds → ∃ as, ReadsAll s.heap us ds as
  | _, _, us, ds, .nil, rv, e => by
    simp only [toDs] at e
    cases e
    cases rv
    exact ⟨_, .nil⟩
  | _, _, us, ds, .cons (w := w) (ws := ws) r rs, rv, e => by
    cases rv with
    | cons r1 r2 =>
      simp only [toDs] at e
      cases q : toD w with
      | none => rw [q] at e; cases e
      | some d =>
        rw [q] at e
        cases q2 : toDs ws with
        | none => rw [q2] at e; cases e
        | some ds2 =>
          rw [q2] at e
          cases e
          obtain ⟨as, ra⟩ := reads_of I r r1 q
          obtain ⟨bs, rb⟩ := readsAll_of I rs r2 q2
          exact ⟨_, .cons ra rb⟩
end
end
mutual
theorem toD_nod : ∀ {w : W} {d : PyData}, toD w = some d → d.hasDict = false
  | .non, d, e => by simp only [toD] at e; cases e; simp only [PyData.hasDict]
  | .bl b, d, e => by simp only [toD] at e; cases e; simp only [PyData.hasDict]
  | .int i, d, e => by simp only [toD] at e; cases e; simp only [PyData.hasDict]
  | .str z, d, e => by simp only [toD] at e; cases e; simp only [PyData.hasDict]
  | .tup ws, d, e => by
    simp only [toD] at e
    cases q : toDs ws with
    | none => rw [q] at e; cases e
    | some ds =>
      rw [q] at e
      cases e
      simp only [PyData.hasDict]
      exact toDs_nod q
  | .ref _, d, e => by simp only [toD] at e; cases e
  | .fn _, d, e => by simp only [toD] at e; cases e
  | .cl _, d, e => by simp only [toD] at e; cases e
  | .obj _ _, d, e => by simp only [toD] at e; cases e
  | .fz _, d, e => by simp only [toD] at e; cases e
  | .exv _ _, d, e => by simp only [toD] at e; cases e
theorem toDs_nod : ∀ {ws : List W} {ds : List PyData}, toDs ws = some ds → PyData.hasDictAll ds = false
  | [], ds, e => by simp only [toDs] at e; cases e; simp only [PyData.hasDictAll]
  | w :: ws, ds, e => by
    simp only [toDs] at e
    cases q : toD w with
    | none => rw [q] at e; cases e
    | some d =>
      rw [q] at e
      cases q2 : toDs ws with
      | none => rw [q2] at e; cases e
      | some ds2 =>
        rw [q2] at e
        cases e
        simp only [PyData.hasDictAll, toD_nod q, toDs_nod q2, Bool.or_self]
end
end Z

set_option Elab.async false
set_option linter.all false
set_option maxRecDepth 100000
set_option maxHeartbeats 1000000
set_option autoImplicit false
namespace Z
open PySem L2
open PyProof.Rows hiding St
def plainC (c : Nat) : Bool := Nat.ble 32 c && Nat.ble c 126 && !Nat.beq c 39 && !Nat.beq c 92
def plain0 : Nat → Bool
  | 0 => true
  | n + 1 => (!plainC n || decide (Builtin.Str.reprChar 39 n = [n])) && plain0 n
theorem plain0_of : ∀ {n c : Nat}, plain0 n = true → c < n → plainC c = true → Builtin.Str.reprChar 39 c = [c]
  | n + 1, c, h, hc, hp => by
    unfold plain0 at h
    obtain ⟨h1, h2⟩ := Bool.and_eq_true_iff.mp h
    by_cases e : c = n
    · subst e
      rw [hp] at h1
      simpa using h1
    · exact plain0_of h2 (by omega) hp
theorem plain127 : plain0 127 = true := by decide +kernel
theorem plainC_rep {c : Nat} (h : plainC c = true) : Builtin.Str.reprChar 39 c = [c] := by
  have : c < 127 := by
    unfold plainC at h
    simp only [Bool.and_eq_true, Nat.ble_eq] at h
    omega
  exact plain0_of plain127 this h
theorem fold_plain : ∀ (s : List Nat) (acc : Array Nat), s.all plainC = true → s.foldl (fun out c => out ++ (Builtin.Str.reprChar 39 c).toArray) acc = acc ++ s.toArray
  | [], acc, _ => by simp
  | c :: s, acc, h => by
    rw [List.all_cons] at h
    obtain ⟨h1, h2⟩ := Bool.and_eq_true_iff.mp h
    rw [List.foldl_cons, plainC_rep h1, fold_plain s _ h2]
    simp
theorem repr_plain {s : List Nat} (h : s.all plainC = true) : reprText ⟨s.toArray⟩ = ⟨(39 :: (s ++ [39])).toArray⟩ := by
  have hq : reprQuote ⟨s.toArray⟩ = 39 := by
    unfold reprQuote
    have : s.toArray.contains 39 = false := by
      rw [List.contains_toArray, Bool.eq_false_iff]
      intro z
      have hm : 39 ∈ s := by simpa using z
      have := List.all_eq_true.mp h 39 hm
      revert this
      decide
    rw [show (⟨s.toArray⟩ : Str).cps = s.toArray from rfl, this]
    rfl
  unfold reprText
  rw [hq, show (⟨s.toArray⟩ : Str).cps = s.toArray from rfl, ← Array.foldl_toList]
  rw [show s.toArray.toList = s from rfl, fold_plain s _ h]
  simp
def intL (i : Int) : List Nat := (Str.ofString (toString i)).cps.toList
def commaL : List (List Nat) → List Nat
  | [] => []
  | t :: ts => match ts with
    | [] => t
    | _ :: _ => t ++ (44 :: 32 :: commaL ts)
mutual
def shL : W → Option (List Nat)
  | .non => some [78, 111, 110, 101]
  | .bl b => match b with
    | true => some [84, 114, 117, 101]
    | false => some [70, 97, 108, 115, 101]
  | .int i => match decide (i.natAbs.log2 < 1920) with
    | true => some (intL i)
    | false => none
  | .str s => match s.all plainC with
    | true => some (39 :: (s ++ [39]))
    | false => none
  | .tup ws => match shLs ws with
    | some ts => some (40 :: (commaL ts ++ (match ts with | [_] => [44, 41] | _ => [41])))
    | none => none
  | _ => none
def shLs : List W → Option (List (List Nat))
  | [] => some []
  | w :: ws => match shL w with
    | some t => (match shLs ws with
      | some ts => some (t :: ts)
      | none => none)
    | none => none
end
theorem str_app (a b : List Nat) : (⟨a.toArray⟩ : Str) ++ (⟨b.toArray⟩ : Str) = ⟨(a ++ b).toArray⟩ := by
  show Str.mk (a.toArray ++ b.toArray) = _
  simp
theorem lit_comma : Str.ofString ", " = ⟨[44, 32].toArray⟩ := by decide +kernel
theorem join_comma : ∀ ts : List (List Nat), Str.join (Str.ofString ", ") (ts.map fun t => (⟨t.toArray⟩ : Str)) = ⟨(commaL ts).toArray⟩
  | [] => rfl
  | [t] => rfl
  | t :: t2 :: ts => by
    have ih := join_comma (t2 :: ts)
    show (⟨t.toArray⟩ : Str) ++ Str.ofString ", " ++ Str.join (Str.ofString ", ") ((t2 :: ts).map fun t => (⟨t.toArray⟩ : Str)) = _
    rw [ih, lit_comma, str_app t [44, 32], str_app (t ++ [44, 32])]
    show _ = Str.mk (t ++ (44 :: 32 :: commaL (t2 :: ts))).toArray
    simp
theorem tup_text (ts : List (List Nat)) : tupleText (ts.map fun t => (⟨t.toArray⟩ : Str)) = ⟨(40 :: (commaL ts ++ (match ts with | [_] => [44, 41] | _ => [41]))).toArray⟩ := by
  have e1 : Str.ofString "(" = ⟨[40].toArray⟩ := by decide +kernel
  have e2 : Str.ofString ")" = ⟨[41].toArray⟩ := by decide +kernel
  have e3 : Str.ofString ",)" = ⟨[44, 41].toArray⟩ := by decide +kernel
  show Str.ofString "(" ++ Str.join (Str.ofString ", ") (ts.map fun t => (⟨t.toArray⟩ : Str)) ++ Str.ofString (if (ts.map fun t => (⟨t.toArray⟩ : Str)).length == 1 then ",)" else ")") = _
  rw [join_comma, e1, str_app [40] (commaL ts)]
  match ts with
  | [] =>
    show Str.mk ([40] ++ commaL []).toArray ++ Str.ofString ")" = _
    rw [e2, str_app]
    rfl
  | [t] =>
    show Str.mk ([40] ++ commaL [t]).toArray ++ Str.ofString ",)" = _
    rw [e3, str_app]
    rfl
  | t :: t2 :: ts =>
    have q : (((t :: t2 :: ts).map fun t => (⟨t.toArray⟩ : Str)).length == 1) = false := by simp
    rw [q]
    show Str.mk ([40] ++ commaL (t :: t2 :: ts)).toArray ++ Str.ofString ")" = _
    rw [e2, str_app]
    rfl
mutual
theorem shL_of : ∀ {w : W} {t : List Nat}, shL w = some t → ∃ d, toD w = some d ∧ d.shown = ⟨t.toArray⟩ ∧ d.showable = true
  | .non, t, e => by
    simp only [shL] at e
    cases e
    exact ⟨PyData.none, by simp only [toD], by simp only [PyData.shown]; decide +kernel, by simp only [PyData.showable]⟩
  | .bl true, t, e => by
    simp only [shL] at e
    cases e
    exact ⟨PyData.bool true, by simp only [toD], by simp only [PyData.shown]; decide +kernel, by simp only [PyData.showable]⟩
  | .bl false, t, e => by
    simp only [shL] at e
    cases e
    exact ⟨PyData.bool false, by simp only [toD], by simp only [PyData.shown]; decide +kernel, by simp only [PyData.showable]⟩
  | .int i, t, e => by
    simp only [shL] at e
    cases q : decide (i.natAbs.log2 < 1920) with
    | false => rw [q] at e; cases e
    | true =>
      rw [q] at e
      cases e
      exact ⟨PyData.int i, by simp only [toD], by simp only [PyData.shown]; rfl, by simp only [PyData.showable]; exact q⟩
  | .str s, t, e => by
    simp only [shL] at e
    cases q : s.all plainC with
    | false => rw [q] at e; cases e
    | true =>
      rw [q] at e
      cases e
      exact ⟨PyData.str ⟨s.toArray⟩, by simp only [toD], by simp only [PyData.shown]; exact repr_plain q, by simp only [PyData.showable]⟩
  | .tup ws, t, e => by
    simp only [shL] at e
    cases q : shLs ws with
    | none => rw [q] at e; cases e
    | some ts =>
      rw [q] at e
      cases e
      obtain ⟨ds, e1, e2, e3⟩ := shLs_of q
      refine ⟨.tuple ds, by simp only [toD, e1], ?_, by simp only [PyData.showable]; exact e3⟩
      simp only [PyData.shown]
      rw [e2]
      exact tup_text ts
  | .ref _, t, e => by simp only [shL] at e; cases e
  | .fn _, t, e => by simp only [shL] at e; cases e
  | .cl _, t, e => by simp only [shL] at e; cases e
  | .obj _ _, t, e => by simp only [shL] at e; cases e
  | .fz _, t, e => by simp only [shL] at e; cases e
  | .exv _ _, t, e => by simp only [shL] at e; cases e
theorem shLs_of : ∀ {ws : List W} {ts : List (List Nat)}, shLs ws = some ts → ∃ ds, toDs ws = some ds ∧ PyData.shownAll ds = ts.map (fun t => (⟨t.toArray⟩ : Str)) ∧ PyData.showableAll ds = true
  | [], ts, e => by
    simp only [shLs] at e
    cases e
    exact ⟨[], by simp only [toDs], by simp only [PyData.shownAll]; rfl, by simp only [PyData.showableAll]⟩
  | w :: ws, ts, e => by
    simp only [shLs] at e
    cases q : shL w with
    | none => rw [q] at e; cases e
    | some t =>
      rw [q] at e
      cases q2 : shLs ws with
      | none => rw [q2] at e; cases e
      | some ts2 =>
        rw [q2] at e
        cases e
        obtain ⟨d, a1, a2, a3⟩ := shL_of q
        obtain ⟨ds, b1, b2, b3⟩ := shLs_of q2
        exact ⟨d :: ds, by simp only [toDs, a1, b1], by simp only [PyData.shownAll, a2, b2]; rfl, by simp only [PyData.showableAll, a3, b3]; rfl⟩
end
end Z

set_option Elab.async false
set_option linter.all false
set_option maxRecDepth 100000
set_option maxHeartbeats 1000000
set_option autoImplicit false
namespace Z
open PySem L2
open PyProof.Rows hiding St
mutual
/-- how deep a value is -/
def dpW : W → Nat
  | .tup ws => dpWs ws + 1
  | _ => 0
def dpWs : List W → Nat
  | [] => 0
  | w :: ws => max (dpW w) (dpWs ws)
end
mutual
theorem dpW_of : ∀ {w : W} {d : PyData}, toD w = some d → d.depth = dpW w
  | .non, d, e => by simp only [toD] at e; cases e; simp only [PyData.depth, dpW]
  | .bl b, d, e => by simp only [toD] at e; cases e; simp only [PyData.depth, dpW]
  | .int i, d, e => by simp only [toD] at e; cases e; simp only [PyData.depth, dpW]
  | .str z, d, e => by simp only [toD] at e; cases e; simp only [PyData.depth, dpW]
  | .tup ws, d, e => by
    simp only [toD] at e
    cases q : toDs ws with
    | none => rw [q] at e; cases e
    | some ds =>
      rw [q] at e
      cases e
      simp only [PyData.depth, dpW, dpWs_of q]
  | .ref _, d, e => by simp only [toD] at e; cases e
  | .fn _, d, e => by simp only [toD] at e; cases e
  | .cl _, d, e => by simp only [toD] at e; cases e
  | .obj _ _, d, e => by simp only [toD] at e; cases e
  | .fz _, d, e => by simp only [toD] at e; cases e
  | .exv _ _, d, e => by simp only [toD] at e; cases e
theorem dpWs_of : ∀ {ws : List W} {ds : List PyData}, toDs ws = some ds → PyData.depthAll ds = dpWs ws
  | [], ds, e => by simp only [toDs] at e; cases e; simp only [PyData.depthAll, dpWs]
  | w :: ws, ds, e => by
    simp only [toDs] at e
    cases q : toD w with
    | none => rw [q] at e; cases e
    | some d =>
      rw [q] at e
      cases q2 : toDs ws with
      | none => rw [q2] at e; cases e
      | some ds2 =>
        rw [q2] at e
        cases e
        simp only [PyData.depthAll, dpWs, dpW_of q, dpWs_of q2]
end
/-- the text of a tuple -/
def zstrT (w : W) : M W := match w with
  | .tup ws => match shL (.tup ws) with
    | some t => (match Nat.ble t.length 100000 && Nat.ble (dpW (.tup ws)) 100 with
      | true => ret (.str t)
      | false => bad)
    | none => bad
  | _ => bad
section
variable {X : Cx} {G : Gt} {Wf : WX} {k : Nat}
theorem tup_road {F : Value} (hr : Room k X.A)
    (road : ∀ {h₀ : Heap} {a : Addr} {d : PyData} {as : List Addr} {s : Shared} {Q : Value → Shared → Prop} {E : Value → Shared → Prop}, Reads h₀ (.ref a) d as → d.showable = true → (d.hasDict = true → sysModules ∉ as) → X.A.guards = some [] → X.A.units + (d.depth + 3) < cLine → (∀ b o, h₀.get? b = some o → s.heap.get? b = some o) →
      (∀ h' u tk, (∀ b o, s.heap.get? b = some o → h'.get? b = some o) → Q (.str d.shown u) { s with heap := h', toks := tk }) → d.shown.length ≤ sizeLine → wpAny (model X.prog X.w) X.A (call F [.ref a]) Q E s) :
    CallZ X G Wf F (one1 zstrT) := by
  refine one1_of fun pins s σ H ι h w v us Q I r p r1 aft => ?_
  cases p with
  | @tup ws a vs sq rs =>
    have aft1 : Aft X.K G Wf σ (rpW X.K G) ι h H ((match shL (.tup ws) with
      | some t => (match Nat.ble t.length 100000 && Nat.ble (dpW (.tup ws)) 100 with
        | true => ret (.str t)
        | false => bad)
      | none => bad : M W) h) Q := aft
    cases e : shL (.tup ws) with
    | none => rw [e] at aft1; exact False.elim aft1
    | some t =>
      rw [e] at aft1
      dsimp only at aft1
      cases e2 : Nat.ble t.length 100000 && Nat.ble (dpW (.tup ws)) 100 with
      | false => rw [e2] at aft1; exact False.elim aft1
      | true =>
        rw [e2] at aft1
        obtain ⟨l1, l2⟩ := Bool.and_eq_true_iff.mp e2
        have l1 := Nat.le_of_ble_eq_true l1
        have l2 := Nat.le_of_ble_eq_true l2
        obtain ⟨d, t1, t2, t3⟩ := shL_of e
        have dp := dpW_of t1
        obtain ⟨as, rd⟩ := reads_of I (.tup sq rs) (show RelV (.ref a) (.ref a) from rfl) t1
        rw [Vals.ref1 r1]
        have hu := hr.rm.un
        have lz : d.shown.length ≤ sizeLine := by
          rw [t2, sizeLine_eq]
          show t.toArray.size ≤ _
          rw [List.size_toArray]
          omega
        refine road rd t3 (fun z => by rw [toD_nod t1] at z; cases z) hr.gd (by rw [dp]; omega) (fun _ _ z => z) (fun h' u tk hk => ?_) lz
        rw [t2]
        exact ⟨.str _, H, I.kept hk, ⟨_, rfl⟩, Aft.ret (P := rpW X.K G) aft1 r (.str t)⟩
  | _ => exact False.elim aft
theorem call_zstrT (hr : Room k X.A) : CallZ X G Wf (.type "str") (one1 zstrT) :=
  tup_road hr fun rd hs hsm hg hu hk hQ hz => str_of_reads rd hs hsm hg hu hk hQ hz
theorem call_zreprT (hr : Room k X.A) : CallZ X G Wf (.builtin "repr") (one1 zstrT) :=
  tup_road hr fun rd hs hsm hg hu hk hQ hz => repr_of_reads' rd hs hsm hg (by omega) hk hQ hz
end
end Z

set_option Elab.async false
set_option linter.all false
set_option maxRecDepth 100000
set_option maxHeartbeats 1000000
set_option autoImplicit false
namespace Z
open PySem L2
open PyProof.Rows hiding St
def ltN : List Nat → List Nat → Bool
  | [], l => match l with
    | [] => false
    | _ :: _ => true
  | a :: r, l => match l with
    | [] => false
    | b :: t => match Nat.beq a b with
      | true => ltN r t
      | false => Nat.ble a b
theorem ltN_eq : ∀ a b : List Nat, ltN a b = Spec.ltCps a b
  | [], [] => rfl
  | [], _ :: _ => rfl
  | _ :: _, [] => rfl
  | a :: r, b :: t => by
    show (match Nat.beq a b with | true => ltN r t | false => Nat.ble a b) = (decide (a < b) || (a == b && Spec.ltCps r t))
    by_cases e : a = b
    · subst e
      have q : Nat.beq a a = true := Nat.beq_refl a
      rw [q, ltN_eq r t]
      simp
    · have q : Nat.beq a b = false := by
        rw [Bool.eq_false_iff]
        exact fun z => e (Nat.eq_of_beq_eq_true z)
      rw [q]
      show Nat.ble a b = _
      have : (a == b) = false := by simpa using e
      rw [this]
      simp only [Bool.false_and, Bool.or_false]
      rw [Bool.eq_iff_iff]
      simp only [Nat.ble_eq, decide_eq_true_eq]
      omega
theorem ltN_iff (a b : List Nat) : ltN a b = true ↔ a < b := by
  rw [ltN_eq, ltCps_eq]
  simp
def insL (x : List Nat) : List (List Nat) → List (List Nat)
  | [] => [x]
  | y :: ys => match ltN y x with
    | true => y :: insL x ys
    | false => x :: y :: ys
def sortL : List (List Nat) → List (List Nat)
  | [] => []
  | x :: xs => insL x (sortL xs)
theorem insL_perm (x : List Nat) : ∀ l, (insL x l).Perm (x :: l)
  | [] => .refl _
  | y :: ys => by
    unfold insL
    cases ltN y x with
    | true => exact ((insL_perm x ys).cons y).trans (.swap x y ys)
    | false => exact .refl _
theorem sortL_perm : ∀ l, (sortL l).Perm l
  | [] => .refl _
  | x :: xs => (insL_perm x _).trans ((sortL_perm xs).cons x)
theorem insL_mem {x y : List Nat} {l : List (List Nat)} (h : y ∈ insL x l) : y = x ∨ y ∈ l := by
  have := (insL_perm x l).mem_iff.mp h
  simpa using this
theorem insL_sorted (x : List Nat) : ∀ {l}, l.Pairwise (· ≤ ·) → (insL x l).Pairwise (· ≤ ·)
  | [], _ => by unfold insL; exact List.pairwise_singleton _ _
  | y :: ys, h => by
    obtain ⟨h1, h2⟩ := List.pairwise_cons.mp h
    unfold insL
    cases e : ltN y x with
    | true =>
      refine List.pairwise_cons.mpr ⟨fun z hz => ?_, insL_sorted x h2⟩
      rcases insL_mem hz with rfl | hz
      · exact List.le_of_lt ((ltN_iff _ _).mp e)
      · exact h1 z hz
    | false =>
      have hx : x ≤ y := fun z => by
        rw [(ltN_iff _ _).mpr z] at e
        cases e
      refine List.pairwise_cons.mpr ⟨fun z hz => ?_, h⟩
      rcases List.mem_cons.mp hz with rfl | hz
      · exact hx
      · exact List.le_trans hx (h1 z hz)
theorem sortL_sorted : ∀ l, (sortL l).Pairwise (· ≤ ·)
  | [] => .nil
  | x :: xs => insL_sorted x (sortL_sorted xs)
theorem sorted_one : ∀ {xs ys : List (List Nat)}, xs.Perm ys → xs.Pairwise (· ≤ ·) → ys.Pairwise (· ≤ ·) → xs = ys
  | [], ys, p, _, _ => (List.nil_perm.mp p).symm
  | x :: xs, [], p, _, _ => absurd p (by simp)
  | x :: xs, y :: ys, p, hx, hy => by
    obtain ⟨x1, x2⟩ := List.pairwise_cons.mp hx
    obtain ⟨y1, y2⟩ := List.pairwise_cons.mp hy
    have e : x = y := by
      have m1 : x ∈ y :: ys := p.mem_iff.mp (List.mem_cons_self ..)
      have m2 : y ∈ x :: xs := p.mem_iff.mpr (List.mem_cons_self ..)
      rcases List.mem_cons.mp m1 with e | m1
      · exact e
      · rcases List.mem_cons.mp m2 with e | m2
        · exact e.symm
        · exact List.le_antisymm (x1 y m2) (y1 x m1)
    subst e
    rw [sorted_one p.cons_inv x2 y2]
theorem rising_pw : ∀ (p : Str) (l : List Str), risingS p l = true → (p :: l).Pairwise (fun a b => a.cps.toList ≤ b.cps.toList)
  | p, [], _ => List.pairwise_singleton _ _
  | p, x :: r, h => by
    obtain ⟨h1, h2⟩ := Bool.and_eq_true_iff.mp (show (!Spec.ltCps x.cps.toList p.cps.toList && risingS x r) = true from h)
    have ih := rising_pw x r h2
    have px : p.cps.toList ≤ x.cps.toList := fun z => by
      rw [← ltN_eq, (ltN_iff _ _).mpr z] at h1
      cases h1
    refine List.pairwise_cons.mpr ⟨fun z hz => ?_, ih⟩
    rcases List.mem_cons.mp hz with rfl | hz
    · exact px
    · exact List.le_trans px ((List.pairwise_cons.mp ih).1 z hz)
theorem sortedS_pw (l : List Str) (h : sortedS l = true) : (l.map fun x => x.cps.toList).Pairwise (· ≤ ·) := by
  rw [List.pairwise_map]
  cases l with
  | nil => exact .nil
  | cons x r => exact rising_pw x r h
def asTs : List W → Option (List (List Nat))
  | [] => some []
  | w :: ws => match w with
    | .str t => (match asTs ws with
      | some ts => some (t :: ts)
      | none => none)
    | _ => none
def zsortS (w : W) : M W := bnd (zseq w) fun q => match q.1 with
  | true => bad
  | false => match asTs q.2 with
    | some ts => (match Nat.ble ts.length 63 with
      | true => new (.lst ((sortL ts).map W.str))
      | false => bad)
    | none => bad
section
variable {X : Cx} {G : Gt} {Wf : WX}
theorem asTs_of {ι : Nat → Addr} {h : Hz} {H : Hp} : ∀ {ws : List W} {vs : List V} {ts : List (List Nat)}, Reps X.K G ι h H ws vs → asTs ws = some ts → vs = (ts.map fun t => (⟨t.toArray⟩ : Str)).map V.str
  | _, _, ts, .nil, e => by cases e; rfl
  | _, _, ts, .cons (w := w) (ws := ws) r rs, e => by
    cases r with
    | str t =>
      have e1 : (match asTs ws with | some ts => some (t :: ts) | none => none) = some ts := e
      cases q : asTs ws with
      | none => rw [q] at e1; cases e1
      | some ts2 =>
        rw [q] at e1
        cases e1
        rw [asTs_of rs q]
        rfl
    | _ => cases e
theorem reps_texts {ι : Nat → Addr} {h : Hz} {H : Hp} : ∀ ts : List (List Nat), Reps X.K G ι h H (ts.map W.str) ((ts.map fun t => (⟨t.toArray⟩ : Str)).map V.str)
  | [] => .nil
  | t :: ts => .cons (.str t) (reps_texts ts)
theorem sorted_is {ts : List (List Nat)} {ys : List Str} (hp : ys.Perm (ts.map fun t => (⟨t.toArray⟩ : Str))) (hs : sortedS ys = true) : ys = (sortL ts).map fun t => (⟨t.toArray⟩ : Str) := by
  have p1 : (ys.map fun x => x.cps.toList).Perm ts := by
    have := hp.map fun x => x.cps.toList
    simpa [List.map_map, Function.comp_def] using this
  have e := sorted_one (p1.trans (sortL_perm ts).symm) (sortedS_pw ys hs) (sortL_sorted ts)
  rw [← e, List.map_map]
  conv => lhs; rw [← List.map_id ys]
  refine List.map_congr_left fun x _ => ?_
  obtain ⟨⟨l⟩⟩ := x
  rfl
theorem call_zsortS : CallZ X G Wf (.builtin "sorted") (one1 zsortS) := by
  refine one1_of fun pins s σ H ι h w v us Q I r p r1 aft => ?_
  obtain ⟨t, ws, ad, vs, e1, sq, rs, a2, tt⟩ := seq_after r p aft
  subst e1
  cases t with
  | true => exact False.elim a2
  | false =>
    have a3 : Aft X.K G Wf σ (rpW X.K G) ι h H ((match asTs ws with
      | some ts => (match Nat.ble ts.length 63 with
        | true => new (.lst ((sortL ts).map W.str))
        | false => bad)
      | none => bad : M W) h) Q := a2
    cases e : asTs ws with
    | none => rw [e] at a3; exact False.elim a3
    | some ts =>
      rw [e] at a3
      dsimp only at a3
      cases e2 : Nat.ble ts.length 63 with
      | false => rw [e2] at a3; exact False.elim a3
      | true =>
        rw [e2] at a3
        have ev := asTs_of rs e
        subst ev
        have l63 := Nat.le_of_ble_eq_true e2
        have go := lst_new r (reps_texts (sortL ts)) a3
        refine cr_sortedS pins s σ H _ us Q I r1 ⟨ad, _, rfl, sq, by rw [List.length_map]; omega, fun ys p hp hs hn => ?_⟩
        rw [sorted_is hp hs]
        exact go p hn
end
end Z

set_option Elab.async false
set_option linter.all false
set_option maxRecDepth 100000
set_option maxHeartbeats 1000000
set_option autoImplicit false
namespace Z
open PySem L2
open PyProof.Rows hiding St
structure IsxC (K : PySem.W.Frag) (C : Addr) : Prop where
  cl : (PySem.W.clsIn K C).isSome = true
  ga : PySem.W.findIn K (.ref C) "__getattribute__" = some (some (.builtin "BaseException.__getattribute__"))
  gt : PySem.W.findIn K (.ref C) "__getattr__" = some none
  sb : PySem.W.subIn K (.ref C) (.type "BaseException") = some true
  cc : PySem.W.findIn K (.ref C) "__class__" = some (some (.builtin "object.__class__"))
  sg : PySem.W.specialIn K (.builtin "object.__class__") "__get__" = some (some (.builtin "getset_descriptor.__get__"))
  tk : PySem.W.takesIn K (.builtin "object.__class__") = some true
  mo : PySem.W.mroIn K C (.type "object") = some true
def isxB (K : PySem.W.Frag) (C : Addr) : Bool :=
  (PySem.W.clsIn K C).isSome && (decide (PySem.W.findIn K (.ref C) "__getattribute__" = some (some (.builtin "BaseException.__getattribute__"))) && (decide (PySem.W.findIn K (.ref C) "__getattr__" = some none) &&
  (decide (PySem.W.subIn K (.ref C) (.type "BaseException") = some true) && (decide (PySem.W.findIn K (.ref C) "__class__" = some (some (.builtin "object.__class__"))) &&
  (decide (PySem.W.specialIn K (.builtin "object.__class__") "__get__" = some (some (.builtin "getset_descriptor.__get__"))) && (decide (PySem.W.takesIn K (.builtin "object.__class__") = some true) &&
  decide (PySem.W.mroIn K C (.type "object") = some true)))))))
theorem isxB_ok {K : PySem.W.Frag} {C : Addr} (c : isxB K C = true) : IsxC K C := by
  obtain ⟨c0, c⟩ := He.ba c
  obtain ⟨c1, c⟩ := He.ba c
  obtain ⟨c2, c⟩ := He.ba c
  obtain ⟨c3, c⟩ := He.ba c
  obtain ⟨c4, c⟩ := He.ba c
  obtain ⟨c5, c⟩ := He.ba c
  obtain ⟨c6, c7⟩ := He.ba c
  exact ⟨c0, of_decide_eq_true c1, of_decide_eq_true c2, of_decide_eq_true c3, of_decide_eq_true c4, of_decide_eq_true c5, of_decide_eq_true c6, of_decide_eq_true c7⟩
/-- isinstance(.., y) of errors of the classes xs -/
def cIsx (y : Str) (xs : List (Str × Bool)) (K : PySem.W.Frag) : Bool := xs.all fun q => isxB K (He.ga K q.1) && decide (PySem.W.kitOne K (.ref (He.ga K q.1)) (.ref (He.ga K y)) = some q.2)
def IsxOk (K : PySem.W.Frag) (G : Gt) (D : Nat) (tab : List (Nat × Bool)) : Prop := ∀ q ∈ tab, IsxC K (G.cl q.1) ∧ PySem.W.kitOne K (.ref (G.cl q.1)) (.ref (G.cl D)) = some q.2
def zisx (tab : List (Nat × Bool)) (i : Nat) : Ev → M W := fun ρ => match ρ.getD i none with
  | some (.exv c _) => (match tab.lookup c with
    | some k => ret (.bl k)
    | none => bad)
  | _ => bad
theorem lookup_mem' {β : Type} : ∀ {l : List (Nat × β)} {c : Nat} {k : β}, l.lookup c = some k → (c, k) ∈ l
  | [], _, _, h => by cases h
  | (a, b) :: l, c, k, h => by
    rw [List.lookup_cons] at h
    cases e : c == a with
    | true =>
      rw [e] at h
      cases h
      have : c = a := by simpa using e
      subst this
      exact List.mem_cons_self ..
    | false =>
      rw [e] at h
      exact List.mem_cons_of_mem _ (lookup_mem' h)
section
variable {b : Bool} {X : Cx} {G : Gt} {n y : Str} {i D : Nat} {p p1 p2 pos : Pos} {tab : List (Nat × Bool)}
def rIsX (K : PySem.W.Frag) (C a : Addr) (cv : Value) (dd : Option Addr) : List V → Hp → VK → Prop := fun xs H Q => ∃ (c : V) (k : Bool), xs = [.ref a, c] ∧ RelV c cv ∧ (∀ u, RelV c u → u = cv) ∧ PySem.W.kitOne K (.ref C) cv = some k ∧ (∀ d, dd = some d → ∃ gs, H d = some (.xd gs)) ∧ Q (.bl k) H
theorem call_isX {a C : Addr} {oe : Obj} {d : Option Addr} {pn : List (Addr × Obj)} {cv : Value} (T : IsxC X.K C) (hz : Zc (.ref C) d oe) (hf : ∃ vs, oe.data = .fields vs) : CallR (X.suite a ((a, oe) :: pn)) (.builtin "isinstance") (rIsX X.K C a cv d) := by
  intro pins s σ H xs us Q I r h
  obtain ⟨c, k, rfl, _, hcv, e, hx, q⟩ := h
  cases r with
  | cons rx rr =>
    cases rr with
    | cons rt rr =>
      cases rr
      cases rx
      have ec := hcv _ rt
      subst ec
      obtain ⟨ha, _⟩ := I.pin (a, oe) (List.mem_append.mpr (.inl List.mem_cons_self))
      obtain ⟨vs, hd⟩ := hf
      have J : ∃ od, PySem.W.InstAt s.heap a oe C od := by
        cases d with
        | none => exact ⟨none, ha, hz.1, by unfold PySem.W.notCls; rw [hd] <;> rfl, by rw [hz.2]; trivial⟩
        | some dd =>
          obtain ⟨gs, eg⟩ := hx dd rfl
          have ho : ObjOk X.prog X.w H s.heap dd (.xd gs) := I.hok dd _ eg
          obtain ⟨mA, hns, hr⟩ := ho
          obtain ⟨od, ho, hl⟩ := lookIn_ns hns
          exact ⟨some od, ha, hz.1, by unfold PySem.W.notCls; rw [hd] <;> rfl, by rw [hz.2]; exact ho⟩
      obtain ⟨od, J⟩ := J
      exact PySem.W.kia_one (PySem.W.kitx_exc T.cl T.ga T.gt T.sb T.cc T.sg T.tk T.mo) I.kIn J e (fun z => nomatch z) fun tk => ⟨.bl k, H, I.kept (t' := tk) fun _ _ z => z, rfl, q⟩
theorem pz_isx {a : Addr} {oe : Obj} {c : Nat} {d : Option Addr} {pn : List (Addr × Obj)} (T : IsxOk X.K G D tab) (hz : Zc (.ref (G.cl c)) d oe) (hf : ∃ vs, oe.data = .fields vs)
    (hg : Gl X "isinstance") (hm : X.mg "isinstance" = none) (hgD : Gl X y) (hmD : X.mg y = some (.ref (G.cl D)))
    (hN : X.N[i]? = some n) (hv : Vis X.env.scope n) (hd : (n == ("__debug__" : Str)) = false) (hcd : (n == ("__classdict__" : Str)) = false) (hdy : (y == ("__debug__" : Str)) = false) :
    PZ b (X.suite a ((a, oe) :: pn)) (G.wx (one a c d)) W0 (.Call (.Name "isinstance" p) [.Name n p1, .Name y p2] [] pos) (zisx tab i) := by
  refine ⟨fun pins s σ H ι h ρ Q tk I r sr aft => ?_⟩
  unfold zisx at aft
  cases q : ρ.getD i none with
  | none => rw [q] at aft; exact False.elim aft
  | some w =>
    rw [q] at aft
    obtain ⟨v, e1, e2⟩ := sr.2 i w (getD_some q)
    rcases e2 with e2 | ⟨c', fs, a', d', ew, ev, exv, xr⟩
    · cases e2 <;> exact False.elim aft
    · subst ew; subst ev
      have ea : a' = a := by
        by_cases z : a' = a
        · exact z
        · have : one a c d a' = none := if_neg z
          rw [show (G.wx (one a c d)).xv = one a c d from rfl, this] at exv
          cases exv
      subst ea
      have ecd : some (c, d) = some (c', d') := by
        have : one a' c d a' = some (c, d) := if_pos rfl
        rw [show (G.wx (one a' c d)).xv = one a' c d from rfl, this] at exv
        exact exv
      cases ecd
      dsimp only at aft
      cases el : tab.lookup c with
      | none => rw [el] at aft; exact False.elim aft
      | some k =>
        rw [el] at aft
        obtain ⟨T1, T2⟩ := T _ (lookup_mem' el)
        refine withTk tk ((pe_callB (X := X.suite a' ((a', oe) :: pn)) (p := p) (pos := pos) (call_isX (cv := .ref (G.cl D)) T1 hz hf) hg hm rfl (pa_cons (pe_var (X := X.suite a' ((a', oe) :: pn)) (pos := p1) hN hv hd hcd) (pa_cons (pe_glob (X := X.suite a' ((a', oe) :: pn)) (v := .ref (G.cl D)) (pos := p2) hgD hmD rfl hdy) pa_nil))).run pins s σ H Q I ?_)
        refine ⟨_, e1, .ref (G.cl D), k, rfl, rfl, fun u z => z, T2, fun dd ed => ?_, Aft.ret (P := rpW X.K (G.wx (one a' c d))) aft r (.bl k)⟩
        rcases xr with ⟨z, _⟩ | ⟨dd', gs, e3, e4, e5⟩
        · rw [ed] at z; cases z
        · rw [ed] at e3
          cases e3
          exact ⟨gs, e4⟩
end
end Z

set_option Elab.async false
set_option linter.all false
set_option maxRecDepth 100000
set_option maxHeartbeats 1000000
set_option autoImplicit false
namespace Z
open PySem L2
open PyProof.Rows hiding St
theorem IsxOk.wn {K : PySem.W.Frag} {G : Gt} {D : Nat} {tab : List (Nat × Bool)} {no : Addr → Prop} (h : IsxOk K G D tab) : IsxOk K (G.wn no) D tab := h
def mInsert (w : W) (ws : List W) : M W := match ws with
  | [.int (.ofNat n), x] => bnd (zlref w) fun q => if q.2.length < LIM ∧ n ≤ q.2.length then bnd (store q.1 (.lst (q.2.take n ++ [x] ++ q.2.drop n))) fun _ => ret .non else bad
  | _ => bad
section
variable {X : Cx} {G : Gt} {Wf : WX}
theorem Reps.takeN {K : PySem.W.Frag} {ι : Nat → Addr} {h : Hz} {H : Hp} : ∀ {ws : List W} {vs : List V} (n : Nat), Reps K G ι h H ws vs → Reps K G ι h H (ws.take n) (vs.take n)
  | _, _, 0, _ => by simpa using Reps.nil
  | _, _, n + 1, .nil => by simpa using Reps.nil
  | _, _, n + 1, .cons r rs => .cons r (Reps.takeN n rs)
theorem Reps.dropN {K : PySem.W.Frag} {ι : Nat → Addr} {h : Hz} {H : Hp} : ∀ {ws : List W} {vs : List V} (n : Nat), Reps K G ι h H ws vs → Reps K G ι h H (ws.drop n) (vs.drop n)
  | _, _, 0, r => r
  | _, _, n + 1, .nil => by simpa using Reps.nil
  | _, _, n + 1, .cons r rs => Reps.dropN n rs
theorem mt_zinsert : MtZ X G Wf "list.insert" mInsert := by
  intro pins s σ H ι h w v u ws vs us Q I r p1 r1 p2 r2 aft
  cases p2 with
  | nil => exact False.elim aft
  | cons q qs =>
    cases qs with
    | nil => cases q <;> first | exact False.elim aft | (rename_i z; cases z <;> exact False.elim aft)
    | cons q2 qs =>
      cases qs with
      | cons _ _ => cases q <;> first | exact False.elim aft | (rename_i z; cases z <;> exact False.elim aft)
      | nil =>
        cases q with
        | int z =>
          cases z with
          | negSucc z => exact False.elim aft
          | ofNat m =>
            obtain ⟨i, xs, vs, e1, e2, g, ea, rs, a2⟩ := lref_after r p1 aft
            subst e2
            split at a2
            · rename_i hl
              have lz : xs.length < sizeLine := by rw [← lim_eq]; exact hl.1
              have lm : m < 2 ^ 63 := by
                have h2 : m ≤ xs.length := hl.2
                have := sizeLine_eq
                omega
              refine mt_insert pins s σ H _ _ u us Q I r1 r2 ⟨_, vs, (m : Int), _, rfl, rfl, ea, by rw [← rs.length]; exact lz, Int.natCast_nonneg m, by omega, ?_⟩
              exact put_after r g (((rs.takeN m).append (.cons q2 .nil)).append (rs.dropN m)) a2
            · exact False.elim a2
        | _ => exact False.elim aft
end
end Z

set_option Elab.async false
set_option linter.all false
set_option maxRecDepth 100000
set_option maxHeartbeats 1000000
set_option autoImplicit false
namespace Z
open PySem L2
open PyProof.Rows hiding St
theorem ne_bindB (self : Value) : bindSpecial (.builtin "object.__ne__") self = pure (.builtin "object.__ne__", [self]) :=
  (Slot.of (T := "object") (name := "__ne__") (owner := "object") (n := "__ne__") (by rw [typeLookup_type, builtinLookup_eq_fast]; kernel_rfl) (by decide +kernel) (by decide +kernel) (by decide +kernel)
    (.inl (by decide +kernel)) (by rw [isSubtype_type]; kernel_rfl)).bind self
theorem ne_plain : plainId "object.__ne__" = true := by decide +kernel
section
variable {prog : Program} {w : World} {A : Around} {E : Value → Shared → Prop} {s : Shared} {K : PySem.W.Frag} {x C L f : Addr} {h₀ : Heap} {m : Str → Option Value} {ox : Obj} {od : Option Obj} {name : Str} {b tb : Value}
theorem ifBound_B {M : Model} {id : String} {args : List Value} {Q : Option Value → Shared → Prop} (X : K.In s.heap) (I : PySem.W.InstAt s.heap x ox C od) (hs : PySem.W.findIn K (.ref C) name = some (some (.builtin id))) (hb : ∀ self, bindSpecial (.builtin id) self = pure (.builtin id, [self]))
    (h : wpAny M A (call (.builtin id) (.ref x :: args)) (fun v => Q (some v)) E s) : wpAny M A (callSpecialIfBound? (.ref x) name args) Q E s := by
  simp only [callSpecialIfBound?, bindSpecialIfBound?]
  refine wpAny_holding (wpAny_bind (wpAny_bind (wpAny_bind (I.type.here ((PySem.W.looks_findIn X hs).here ?_)))))
  refine wpAny_bind (wpAny_askSetting (wpAny_ite ?_))
  have fin : wpAny M A (call (.builtin id) ([.ref x] ++ args) >>= fun v => pure (some v)) Q E s := wpAny_bind (wpAny_mono h (fun v s' h' => wpAny_pure h') fun _ _ h' => h')
  split
  · exact wpAny_bind ((PySem.W.Looks.of_pure (hb _)).here (wpAny_pure (by exact fin)))
  · exact wpAny_tryCatch (wpAny_bind ((PySem.W.Looks.of_pure (hb _)).here (wpAny_pure (by exact fin))))
def BoolOf (Q : Bool → Shared → Prop) (v : Value) (s' : Shared) : Prop := ∃ k, v = .bool k ∧ Q k s'
theorem objNe_K {Q : Value → Shared → Prop} (hu : A.in1.units < cLine) (X : K.In s.heap) (I : PySem.W.InstAt s.heap x ox C od) (hm : PySem.W.mroIn K C (.type "object") = some true) (hs : PySem.W.findIn K (.ref C) "__eq__" = some (some (.ref f))) (hf : PySem.W.isFn K (.ref f) = true)
    (h : wpAny (model prog w) A.in1 (call (.ref f) [.ref x, b]) (BoolOf fun k s' => Q (.bool (!k)) s') E s) : wpAny (model prog w) A (call (.builtin "object.__ne__") [.ref x, b]) Q E s := by
  refine wpAny_call (codeAny_call_builtin ne_plain F.cmpEntry_ne (PySem.W.check_slot (i := "object.__ne__") (owner := "object") (n := "__ne__") F.cmpKind_ne F.cmpSplit_ne (I.type.andThen (PySem.W.looks_mroIn X hm)) (F.cmpArgs_ne _ _) ?_))
  unfold Builtin.«object.__ne__»
  refine wpAny_bind (m := slotArgs "__ne__" 1 _) (wpAny_pure ?_)
  refine wpAny_bind (m := cRoomFor _ _) (wpAny_cRoomFor hu ?_)
  refine wpAny_bind (m := callSpecialIfBound? (.ref x) (Str.ofString "__eq__") _) (PySem.W.ifBound_K X I hs hf (wpAny_mono h (fun r s' hq => ?_) fun _ _ y => y))
  obtain ⟨k, rfl, hq⟩ := hq
  exact wpAny_bind (wpAny_pure (wpAny_pure hq))
theorem rne_K {Q : Value → Shared → Prop} (hu : A.units < cLine) (hu1 : A.in1.units < cLine) (X : K.In s.heap) (I : PySem.W.InstAt s.heap x ox C od) (hb : PySem.W.Looks (model prog w) s.heap (typeOf b) tb) (hn : PySem.W.notFirst K C tb = true)
    (hm : PySem.W.mroIn K C (.type "object") = some true) (hne : PySem.W.findIn K (.ref C) "__ne__" = some (some (.builtin "object.__ne__")))
    (hs : PySem.W.findIn K (.ref C) "__eq__" = some (some (.ref f))) (hf : PySem.W.isFn K (.ref f) = true)
    (h : wpAny (model prog w) A.in1 (call (.ref f) [.ref x, b]) (BoolOf fun k s' => Q (.bool (!k)) s') E s) : wpAny (model prog w) A (richCompare .NotEq (.ref x) b) Q E s := by
  have one : wpAny (model prog w) A (tryCompare (.ref x) (cmpInfo .NotEq).2.1 b) (fun r s' => ∃ v, r = some v ∧ Q v s') E s := by
    unfold tryCompare
    refine wpAny_bind (ifBound_B X I hne ne_bindB (objNe_K hu1 X I hm hs hf (wpAny_mono h (fun v s' hv => ?_) fun _ _ e => e)))
    obtain ⟨k, rfl, hq⟩ := hv
    exact ⟨k, rfl, wpAny_pure ⟨_, rfl, hq⟩⟩
  unfold richCompare
  simp only [oneThing_ref]
  refine wpAny_holding (wpAny_bind (wpAny_cRoomFor hu ?_))
  refine wpAny_bind (I.type.here (wpAny_bind (hb.here ?_)))
  split
  · rename_i q
    have e : PySem.W.subIn K tb (.ref C) = some false := by
      rcases Bool.or_eq_true_iff.mp hn with e | e
      · rw [beq_iff_eq.mp e] at q; simp at q
      · exact beq_iff_eq.mp e
    refine wpAny_bind ((PySem.W.looks_subIn X e).here ?_)
    simp only [Bool.false_eq_true, if_false]
    refine wpAny_bind (wpAny_mono one (fun r s' z => ?_) fun _ _ e => e)
    obtain ⟨v, rfl, hq⟩ := z
    exact wpAny_pure hq
  · refine wpAny_bind (wpAny_pure ?_)
    simp only [Bool.false_eq_true, if_false]
    refine wpAny_bind (wpAny_mono one (fun r s' z => ?_) fun _ _ e => e)
    obtain ⟨v, rfl, hq⟩ := z
    exact wpAny_pure hq
end

/-- != , also of own objects -/
def zcmpNeO (E : ET) (n : Nat) (x y : W) : M W := fun h => match isObjK (kind h x) with
  | true => (match n with
    | 0 => .err
    | n + 1 => match zeq E h n x y with
      | some k => .ok (.bl (!k)) h
      | none => .err)
  | false => zcmpNe E n x y h
section
variable {X : Cx} {G : Gt} {Wf : WX} {E : ET} {n : Nat}
/-- what the top tells of a class whose != is object's -/
def NeC (K : PySem.W.Frag) (C : Addr) : Prop := PySem.W.mroIn K C (.type "object") = some true ∧ PySem.W.findIn K (.ref C) "__ne__" = some (some (.builtin "object.__ne__"))
theorem op_zneO (nc : ∀ c ks, E.lookup c = some ks → NeC X.K (G.cl c)) (ow : ∀ m, m + 2 = n → OwnS X G E m) (es : NeS X G E n) (hr : L2.Room n X.A) : OpZ X G Wf (compareOp .NotEq) (zcmpNeO E n) := by
  intro pins s σ H ι h x y v1 v2 u1 u2 Q I r p1 p2 r1 r2 aft
  unfold zcmpNeO at aft
  cases e0 : isObjK (kind h x) with
  | false => rw [e0] at aft; exact op_zne es hr pins s σ H ι h x y v1 v2 u1 u2 Q I r p1 p2 r1 r2 aft
  | true =>
    rw [e0] at aft
    cases kx : kind h x with
    | obj c fs =>
      match n, hr, ow, aft with
      | 0, hr, ow, aft => exact False.elim aft
      | 1, hr, ow, aft => exact False.elim aft
      | m + 2, hr, ow, aft =>
        dsimp only at aft
        cases e : zeq E h (m + 1) x y with
        | none => rw [e] at aft; exact False.elim aft
        | some k =>
          rw [e] at aft
          have e0 : zeqK E (zeq E h m) (kind h x) (kind h y) = some k := e
          rw [kx] at e0
          have hc : ∃ ks, E.lookup c = some ks := by
            have e' : zeqO E (zeq E h m) c fs (kind h y) = some k := e0
            unfold zeqO at e'
            cases ec : E.lookup c with
            | none => rw [ec] at e'; cases e'
            | some ks => exact ⟨ks, rfl⟩
          obtain ⟨ks, ec⟩ := hc
          obtain ⟨cl, nf, f, hs, hf, run⟩ := ow m rfl c ks ec
          have q1 := kind_at r p1
          have q2 := kind_at r p2
          rw [kx] at q1
          cases q1 with
          | @obj _ _ a dx gs ea rf =>
            have r1' := r1
            cases (show u1 = Value.ref a from r1)
            obtain ⟨mA, O, _⟩ := ins_get I.hok ea
            obtain ⟨od, J, _⟩ := O.look
            have sb : Sub X (m + 1) X.A.in1 := L2.Sub.in1 (n := m + 1) ⟨hr, rfl⟩
            have fin : wpAny (model X.prog X.w) X.A.in1 (call (.ref f) [.ref a, u2]) (BoolOf fun k' s' => EP X pins σ Q (.bool (!k')) s') X.xe s :=
              wpAny_mono (run X.A.in1 pins s σ H ι h x y _ v2 _ u2 k fs sb I r p1 p2 r1' r2 kx e0) (fun v s' hv => by
                obtain ⟨rfl, H', I', n'⟩ := hv
                exact ⟨k, rfl, .bl (!k), H', I', rfl, aft ι H' _ n' (.bl _)⟩) fun _ _ z => z
            have go : ∀ tb, PySem.W.Looks (model X.prog X.w) s.heap (typeOf u2) tb → PySem.W.notFirst X.K (G.cl c) tb = true → wpAny (model X.prog X.w) X.A (richCompare .NotEq (.ref a) u2) (EP X pins σ Q) X.xe s := fun tb hb hn =>
              rne_K hr.units0 sb.room.units0 I.kIn J hb hn (nc c ks ec).1 (nc c ks ec).2 hs hf fin
            cases ky : kind h y with
            | no =>
              rw [ky] at e0
              have e' : zeqO E (zeq E h m) c fs .no = some k := e0
              unfold zeqO at e'
              rw [ec] at e'
              cases e'
            | obj d gs' =>
              rw [ky] at q2 e0
              have hd : (E.lookup d).isSome = true := by
                have e' : zeqO E (zeq E h m) c fs (.obj d gs') = some k := e0
                unfold zeqO at e'
                rw [ec] at e'
                have e'' : (if c = d then zflds (zeq E h m) fs gs' ks else (E.lookup d).map fun _ => false) = some k := e'
                by_cases hcd : c = d
                · subst hcd; rw [ec]; rfl
                · rw [if_neg hcd] at e''
                  cases ed : E.lookup d with
                  | none => rw [ed] at e''; cases e''
                  | some _ => rfl
              cases q2 with
              | @obj _ _ a2 dx2 gs2 ea2 rf2 =>
                cases (show u2 = Value.ref a2 from r2)
                obtain ⟨mA2, O2, _⟩ := ins_get I.hok ea2
                obtain ⟨od2, J2, _⟩ := O2.look
                exact go _ J2.type (nf d hd)
            | _ =>
              rw [ky] at q2
              obtain ⟨T, l1, l2⟩ := type_looks I q2 r2 (fun _ _ z => nomatch z) (fun z => nomatch z) (G.cl c)
              exact go _ l1 l2
    | _ => rw [kx] at e0; cases e0
/-- checked at the top -/
def cNe (xs : List Str) (K : PySem.W.Frag) : Bool := xs.all fun x => decide (PySem.W.mroIn K (He.ga K x) (.type "object") = some true) && decide (PySem.W.findIn K (.ref (He.ga K x)) "__ne__" = some (some (.builtin "object.__ne__")))
theorem cNe_ok {xs : List Str} {K : PySem.W.Frag} (h : cNe xs K = true) {x : Str} (hx : x ∈ xs) : NeC K (He.ga K x) := by
  have q := He.ba (List.all_eq_true.mp h x hx)
  exact ⟨of_decide_eq_true q.1, of_decide_eq_true q.2⟩
end
end Z

set_option Elab.async false
set_option linter.all false
set_option maxRecDepth 100000
set_option maxHeartbeats 1000000
set_option autoImplicit false
namespace Z
open PySem L2
open PyProof.Rows hiding St
section
variable {prog : Program} {w : World} {A : Around} {E : Value → Shared → Prop} {s : Shared} {K : PySem.W.Frag} {x C f : Addr} {ox : Obj} {od : Option Obj}
theorem strOf_own {Q : Value → Shared → Prop} (hu : A.units < cLine) (X : K.In s.heap) (I : PySem.W.InstAt s.heap x ox C od) (hs : PySem.W.findIn K (.ref C) "__str__" = some (some (.ref f))) (hf : PySem.W.isFn K (.ref f) = true)
    (h : wpAny (model prog w) A (call (.ref f) [.ref x]) (PySem.W.StrBack Q) E s) : wpAny (model prog w) A (Builtin.Str.strOf (.ref x)) Q E s := by
  unfold Builtin.Str.strOf
  refine wpAny_bind (m := cRoomFor _ _) (wpAny_cRoomFor hu ?_)
  refine wpAny_bind (m := callSpecial? (.ref x) (Str.ofString "__str__")) (PySem.W.special_fn X I hs (beq_iff_eq.mp hf) (wpAny_mono h (fun v s' z => ?_) fun _ _ y => y))
  cases v <;> first | exact z.elim | exact wpAny_bind (wpAny_pure (wpAny_bind (wpAny_pure (wpAny_pure z)))) | exact wpAny_bind (wpAny_pure (wpAny_pure z))
theorem meetsIn_str_new {v : Value} {S : PySem.Spec} (hs : ∀ (A : Around) (R : Result → Shared → Prop) (s : Shared), S A R s →
      wpAny (model prog w) A.in1 (Builtin.Str.strOf v) (fun r s' => R (.ok (.ret r)) s') (fun e s' => R (.error e) s') s) : MeetsIn prog w (Builtin.«str.__new__» ⟨[.type "str", v], []⟩) S := by
  refine MeetsIn.of_wp fun A R s h => ?_
  rw [str_new_tree v]
  refine wpAny_bind (wpAny_pure ?_)
  refine wpAny_bind (wpAny_of_eq isSubtype_str_str ?_)
  exact wpAny_bind (wpAny_mono (hs A R s h) (fun r s' h' => wpAny_pure ⟨_, rfl, h'⟩) fun _ _ e => e)
theorem str_own {Q : Value → Shared → Prop} (hu : A.in1.in1.units < cLine) (X : K.In s.heap) (I : PySem.W.InstAt s.heap x ox C od) (hs : PySem.W.findIn K (.ref C) "__str__" = some (some (.ref f))) (hf : PySem.W.isFn K (.ref f) = true)
    (h : wpAny (model prog w) A.in1.in1 (call (.ref f) [.ref x]) (PySem.W.StrBack Q) E s) : wpAny (model prog w) A (call (.type "str") [.ref x]) Q E s :=
  callType_newIn F.called_str (by decide) (F.typeCall_str_1 _) (F.newCall_str_1 _) (fun obj => F.args_object_init_2 obj _) F.entry_str_new
    (meetsIn_str_new (S := fun A' R s' => A' = A.in1 ∧ s' = s ∧ wpAny (model prog w) A.in1.in1 (Builtin.Str.strOf (.ref x)) (fun r s' => R (.ok (.ret r)) s') (fun e s' => R (.error e) s') s) fun A' R s' ⟨e1, e2, z⟩ => by subst e1 e2; exact z)
    ⟨rfl, rfl, strOf_own hu X I hs hf (wpAny_mono h (fun v s' z => by
      cases v <;> first | exact z.elim | exact ⟨typeIs_str _ _ _, z⟩) fun _ _ z => z)⟩
end
section
variable {X : Cx} {G : Gt} {Wf : WX} {k : Nat}
/-- for each class of the table: the def that str finds -/
def StrOk (X : Cx) (G : Gt) (k : Nat) (T : List (Nat × Nat)) (fn : Nat → List W → M W) : Prop :=
  ∀ c i, T.lookup c = some i → PySem.W.findIn X.K (.ref (G.cl c)) "__str__" = some (some (.ref (G.fn i))) ∧ PySem.W.isFn X.K (.ref (G.fn i)) = true ∧ CallOk X G k i 1 [] gId (fn i)
def asStrM (w : W) : M W := match w with
  | .str s => ret (.str s)
  | _ => bad
def zstrO (T : List (Nat × Nat)) (fn : Nat → List W → M W) (w : W) : M W := match w with
  | .tup ws => zstrT (.tup ws)
  | .str s => ret (.str s)
  | w => bnd (zins w) fun q => bnd (ofO (T.lookup q.1)) fun i => bnd (noex (zcall 1 0 gId (fn i) [w] [])) asStrM
/-- the callee runs at another depth -/
theorem run_callA {A : Around} {i n : Nat} {ks : List Str} {g : List W → List W → List W} {fn : List W → M W} (C : CallOk X G k i n ks g fn) (hr : Room k A) (fr : A.frames = X.A.frames) {W1 : WX} (tkx : Takes X W1) {pins : List (Addr × Obj)} {s : Shared} {σ : St} {H : Hp} {ι : Nat → Addr} {h : Hz} {Q : VK}
    {us zs : List Value} {vs ys : List V} {ws qs : List W} (I : Inv X pins σ H s) (r : HRep X.K G ι h H) (r1 : Vals vs us) (r2 : Vals ys zs) (p1 : Reps X.K G ι h H ws vs) (p2 : Reps X.K G ι h H qs ys)
    (aft : Aft X.K G W1 σ (rpW X.K G) ι h H (zcall n ks.length g fn ws qs h) Q) : wpAny (model X.prog X.w) A (call (.ref (G.fn i)) us (ks.zip zs)) (EP X pins σ Q) X.xe s := by
  obtain ⟨kp, fd, ps, F, B⟩ := C
  unfold zcall at aft
  split at aft
  · rename_i hl
    have l1 : us.length = n := by rw [← r1.length, ← p1.length]; exact hl.1
    have l2 : zs.length = ks.length := by rw [← r2.length, ← p2.length]; exact hl.2
    obtain ⟨bs, vs', hb, rv, rp, hl'⟩ := B s H ι h us zs vs ys ws qs I.kIn r l1 l2 r1 r2 p1 p2
    have e0 : Env0 X.prog X.w X.K X.mg X.base A X.stack s H := by
      have e := I.env0
      exact ⟨by rw [fr]; exact e.frames, e.mod, e.bs, e.bsz, e.funs, e.frf, e.hok, e.bare⟩
    refine wpAny_call (codeAny_mono (F.run A X.stack s H ⟨us, ks.zip zs⟩ bs vs' Q (fun cls d H' => W1 cls d σ H') hr e0 hb rv ⟨hl', G.no, ι, h, _, r, rp, ?_⟩) fun r s' hq => ?_)
    · cases q : fn (g ws qs) h with
      | ok w h' => rw [q] at aft; exact aft
      | exc c fs h' => rw [q] at aft; exact aft
      | err => rw [q] at aft; exact aft
    · cases r with
      | error e => exact tkx e s' (XE.of_call I (fun _ _ _ q => q) hq)
      | ok fl =>
        cases fl with
        | ret u => exact I.after hq
        | next => exact False.elim hq
        | brk => exact False.elim hq
        | cont => exact False.elim hq
  · exact False.elim aft
theorem Room.in2 {k : Nat} {A : Around} (r : Room (k + 1) A) : Room k A.in1.in1 :=
  ⟨⟨r.rm.hd, by have := r.rm.dp; show A.depth + 3 * k + 5 < _; omega, by have := r.rm.un; show A.units + 1 + 1 + 16 * k + 200 < _; omega⟩, r.gd⟩
theorem call_zstrO {T : List (Nat × Nat)} {fn : Nat → List W → M W} (S : StrOk X G k T fn) (hr : Room (k + 1) X.A) (tkx : Takes X Wf) : CallZ X G Wf (.type "str") (one1 (zstrO T fn)) := by
  refine one1_of fun pins s σ H ι h w v us Q I r p r1 aft => ?_
  have obj : (∀ z, w ≠ .tup z) → (∀ z, w ≠ .str z) → wpAny (model X.prog X.w) X.A (call (.type "str") us) (EP X pins σ Q) X.xe s := fun n1 n2 => by
    have a1 : Aft X.K G Wf σ (rpW X.K G) ι h H (bnd (zins w) (fun q => bnd (ofO (T.lookup q.1)) fun i => bnd (noex (zcall 1 0 gId (fn i) [w] [])) asStrM) h) Q := by
      cases w <;> first | exact absurd rfl (n1 _) | exact absurd rfl (n2 _) | exact aft
    obtain ⟨c, fs, ad, dx, gs, ev, ea, rf, a2⟩ := ins_after r p a1
    subst ev
    cases e : T.lookup c with
    | none => rw [e] at a2; exact False.elim a2
    | some i =>
      rw [e] at a2
      have a2 : Aft X.K G Wf σ (rpW X.K G) ι h H (bnd (noex (zcall 1 0 gId (fn i) [w] [])) asStrM h) Q := a2
      obtain ⟨s1, s2, C⟩ := S c i e
      rw [Vals.ref1 r1]
      obtain ⟨mA, O, _⟩ := ins_get I.hok ea
      obtain ⟨od, J, _⟩ := O.look
      refine str_own hr.in2.rm.units0 I.kIn J s1 s2 ?_
      have a3 : ∃ t h', zcall 1 0 gId (fn i) [w] [] h = .ok (.str t) h' ∧ Aft X.K G Wf σ (rpW X.K G) ι h H (.ok (.str t) h') Q := by
        unfold bnd noex at a2
        cases q : zcall 1 0 gId (fn i) [w] [] h with
        | ok u h' =>
          rw [q] at a2
          dsimp only at a2
          cases u with
          | str t => exact ⟨t, h', rfl, a2⟩
          | _ => exact False.elim a2
        | exc c fs h' => rw [q] at a2; exact False.elim a2
        | err => rw [q] at a2; exact False.elim a2
      obtain ⟨t, h', q, a4⟩ := a3
      have a5 : Aft X.K G Wf σ (rpW X.K G) ι h H (zcall 1 0 gId (fn i) [w] [] h) (fun v H' => (∃ t, v = .str (Z.S t)) ∧ Q v H') := by
        rw [q]
        intro ι' H' v n' pv
        cases pv with
        | str t => exact ⟨⟨t, rfl⟩, a4 ι' H' _ n' (.str t)⟩
      refine wpAny_mono (run_callA (ks := []) (zs := []) C hr.in2 rfl tkx I r (vs := [V.ref ad]) (.cons (show RelV (.ref ad) (.ref ad) from rfl) .nil) .nil (.cons p .nil) .nil a5) (fun u s' hv => ?_) fun _ _ z => z
      obtain ⟨v, H', I', rv, ⟨t, et⟩, qv⟩ := hv
      subst et
      obtain ⟨tk, eu⟩ := rv
      subst eu
      exact ⟨V.str (Z.S t), H', I', ⟨tk, rfl⟩, qv⟩
  cases w with
  | tup ws => exact call_zstrT (k := k + 1) hr pins s σ H ι h [.tup ws] [v] us Q I r (.cons p .nil) r1 aft
  | str t =>
    cases p
    cases r1 with
    | cons q1 q2 =>
      cases q2
      obtain ⟨tk, eu⟩ := (show ∃ tk, _ = Value.str _ tk from q1)
      subst eu
      exact P.str_of_str ⟨.str _, H, I, ⟨_, rfl⟩, Aft.ret (P := rpW X.K G) aft r (.str t)⟩
  | _ => exact obj (fun _ z => nomatch z) (fun _ z => nomatch z)
/-- checked at the top -/
def cStrO (xs : List Str) (K : PySem.W.Frag) : Bool := xs.all fun x => decide (PySem.W.findIn K (.ref (He.ga K x)) "__str__" = some (some (.ref (He.ma K (He.ga K x) "__str__")))) && PySem.W.isFn K (.ref (He.ma K (He.ga K x) "__str__"))
theorem cStrO_ok {xs : List Str} {K : PySem.W.Frag} (h : cStrO xs K = true) {x : Str} (hx : x ∈ xs) : PySem.W.findIn K (.ref (He.ga K x)) "__str__" = some (some (.ref (He.ma K (He.ga K x) "__str__"))) ∧ PySem.W.isFn K (.ref (He.ma K (He.ga K x) "__str__")) = true := by
  have q := He.ba (List.all_eq_true.mp h x hx)
  exact ⟨of_decide_eq_true q.1, q.2⟩
end
end Z

set_option Elab.async false
set_option linter.all false
set_option maxRecDepth 100000
set_option maxHeartbeats 1000000
set_option autoImplicit false
namespace Z
open PySem L2
open PyProof.Rows hiding St
def tailL : List (List Nat) → List Nat
  | [] => []
  | t :: ts => 44 :: 32 :: (t ++ tailL ts)
def lstTx : List (List Nat) → List Nat
  | [] => [91, 93]
  | t :: ts => 91 :: (t ++ (tailL ts ++ [93]))
theorem textFrom_tail : ∀ (ts : List (List Nat)) (k : Nat) (acc : List Nat), textFrom (k + 1) ⟨acc.toArray⟩ (ts.map fun t => (⟨t.toArray⟩ : Str)) = ⟨(acc ++ tailL ts).toArray⟩
  | [], k, acc => by
    show Str.mk acc.toArray = Str.mk (acc ++ []).toArray
    rw [List.append_nil]
  | t :: ts, k, acc => by
    show textFrom (k + 1 + 1) ((⟨acc.toArray⟩ : Str) ++ Str.ofString (if k + 1 > 0 then ", " else "") ++ (⟨t.toArray⟩ : Str)) (ts.map fun t => (⟨t.toArray⟩ : Str)) = _
    rw [if_pos (Nat.succ_pos k), lit_comma, str_app, str_app, textFrom_tail ts (k + 1)]
    show Str.mk ((acc ++ [44, 32] ++ t) ++ tailL ts).toArray = Str.mk (acc ++ (44 :: 32 :: (t ++ tailL ts))).toArray
    simp
theorem list_text (ts : List (List Nat)) : listText (ts.map fun t => (⟨t.toArray⟩ : Str)) = ⟨(lstTx ts).toArray⟩ := by
  have e1 : Str.ofString "[" = ⟨[91].toArray⟩ := by decide +kernel
  have e2 : Str.ofString "]" = ⟨[93].toArray⟩ := by decide +kernel
  have e3 : Str.ofString "" = ⟨[].toArray⟩ := by decide +kernel
  match ts with
  | [] =>
    show Str.ofString "[" ++ Str.ofString "]" = _
    rw [e1, e2, str_app]
    rfl
  | t :: ts =>
    show textFrom (0 + 1) (Str.ofString "[" ++ Str.ofString (if 0 > 0 then ", " else "") ++ (⟨t.toArray⟩ : Str)) (ts.map fun t => (⟨t.toArray⟩ : Str)) ++ Str.ofString "]" = _
    rw [if_neg (Nat.lt_irrefl 0), e1, e2, e3, str_app, str_app, textFrom_tail, str_app]
    show Str.mk (([91] ++ [] ++ t ++ tailL ts) ++ [93]).toArray = Str.mk (91 :: (t ++ (tailL ts ++ [93]))).toArray
    simp
/-- repr of a list of plain things, of a tuple -/
def zreprL (w : W) : M W := match w with
  | .ref i => fun h => match h.get i with
    | some (.lst xs) => (match shLs xs with
      | some ts => (match Nat.ble (lstTx ts).length 100000 && Nat.ble (dpWs xs) 100 with
        | true => .ok (.str (lstTx ts)) h
        | false => .err)
      | none => .err)
    | _ => .err
  | w => zstrT w
section
variable {X : Cx} {G : Gt} {Wf : WX} {k : Nat}
theorem call_zreprL (hr : Room k X.A) : CallZ X G Wf (.builtin "repr") (one1 zreprL) := by
  refine one1_of fun pins s σ H ι h w v us Q I r p r1 aft => ?_
  have oth : (∀ i, w ≠ .ref i) → wpAny (model X.prog X.w) X.A (call (.builtin "repr") us) (EP X pins σ Q) X.xe s := fun n1 => by
    have a1 : Aft X.K G Wf σ (rpW X.K G) ι h H (one1 zstrT [w] h) Q := by
      cases w <;> first | exact absurd rfl (n1 _) | exact aft
    exact call_zreprT (k := k) hr pins s σ H ι h [w] [v] us Q I r (.cons p .nil) r1 a1
  cases p with
  | ref i hi =>
    have aft1 : Aft X.K G Wf σ (rpW X.K G) ι h H (match h.get i with
      | some (.lst xs) => (match shLs xs with
        | some ts => (match Nat.ble (lstTx ts).length 100000 && Nat.ble (dpWs xs) 100 with
          | true => R.ok (W.str (lstTx ts)) h
          | false => .err)
        | none => .err)
      | _ => .err) Q := aft
    cases gi : h.get i with
    | none => rw [gi] at aft1; exact False.elim aft1
    | some c =>
      rw [gi] at aft1
      cases c with
      | lst xs =>
        dsimp only at aft1
        cases e : shLs xs with
        | none => rw [e] at aft1; exact False.elim aft1
        | some ts =>
          rw [e] at aft1
          dsimp only at aft1
          cases e2 : Nat.ble (lstTx ts).length 100000 && Nat.ble (dpWs xs) 100 with
          | false => rw [e2] at aft1; exact False.elim aft1
          | true =>
            rw [e2] at aft1
            obtain ⟨l1, l2⟩ := Bool.and_eq_true_iff.mp e2
            have l1 := Nat.le_of_ble_eq_true l1
            have l2 := Nat.le_of_ble_eq_true l2
            obtain ⟨ds, t1, t2, t3⟩ := shLs_of e
            have dp := dpWs_of t1
            obtain ⟨vs, ea, rs⟩ := r.cell i _ gi
            obtain ⟨its, rvs, ⟨o, m, ho, hc, _, hd⟩, _⟩ := I.list (SqL.of ea)
            obtain ⟨as, ra⟩ := readsAll_of I rs rvs t1
            have rd : Reads s.heap (.ref (ι i)) (.list ds) (ι i :: as) := .list ho hc hd (by simpa using ra)
            rw [Vals.ref1 r1]
            have hu := hr.rm.un
            have sh : (PyData.list ds).shown = ⟨(lstTx ts).toArray⟩ := by
              simp only [PyData.shown]
              rw [t2]
              exact list_text ts
            have lz : (PyData.list ds).shown.length ≤ sizeLine := by
              rw [sh, sizeLine_eq]
              show (lstTx ts).toArray.size ≤ _
              rw [List.size_toArray]
              omega
            have dl : (PyData.list ds).depth = dpWs xs + 1 := by simp only [PyData.depth, dp]
            refine repr_of_reads' rd (by simp only [PyData.showable]; exact t3) (fun z => by simp only [PyData.hasDict] at z; rw [toDs_nod t1] at z; cases z) hr.gd (by rw [dl]; omega) (fun _ _ z => z) (fun h' u tk hk => ?_) lz
            rw [sh]
            exact ⟨.str _, H, I.kept hk, ⟨_, rfl⟩, Aft.ret (P := rpW X.K G) aft1 r (.str _)⟩
      | _ => exact False.elim aft1
  | _ => exact oth (fun _ z => nomatch z)
end
end Z

set_option Elab.async false
set_option linter.all false
set_option maxRecDepth 100000
set_option maxHeartbeats 1000000
set_option autoImplicit false
namespace Z
open PySem L2
open PyProof.Rows hiding St
section
variable {X : Cx} {G : Gt} {Wf : WX} {k : Nat}
/-- for each class of the table: the def that + finds -/
def AddOk (X : Cx) (G : Gt) (k : Nat) (T : List (Nat × Nat)) (fn : Nat → List W → M W) : Prop :=
  ∀ c i, T.lookup c = some i → PySem.W.findIn X.K (.ref (G.cl c)) "__add__" = some (some (.ref (G.fn i))) ∧ PySem.W.isFn X.K (.ref (G.fn i)) = true ∧ PySem.W.selfFirst X.K (G.cl c) = true ∧ CallOk X G k i 2 [] gId (fn i)
def zaddO (T : List (Nat × Nat)) (fn : Nat → List W → M W) (x y : W) : M W := fun h => match kind h x with
  | .obj c _ => (match T.lookup c with
    | some i => (match kind h y with
      | .obj d _ => if c = d then zcall 2 0 gId (fn i) [x, y] [] h else .err
      | _ => .err)
    | none => .err)
  | _ => zadd x y h
theorem rep_noni {K : PySem.W.Frag} {ι : Nat → Addr} {h : Hz} {H : Hp} {w : W} {v : V} {u : Value} (p : Rep K G ι h H w v) (r : RelV v u) : u ≠ .notImplemented := by
  intro e
  subst e
  cases v with
  | int i => obtain ⟨t, q⟩ := r; cases q
  | str i => obtain ⟨t, q⟩ := r; cases q
  | byt i => obtain ⟨t, q⟩ := r; cases q
  | flt i => obtain ⟨t, q⟩ := r; cases q
  | _ => cases r
theorem op_zaddO {T : List (Nat × Nat)} {fn : Nat → List W → M W} (S : AddOk X G k T fn) (hr : Room k X.A) (tkx : Takes X Wf) : OpZ X G Wf (binaryOp .Add) (zaddO T fn) := by
  intro pins s σ H ι h x y v1 v2 u1 u2 Q I r p1 p2 r1 r2 aft
  unfold zaddO at aft
  cases kx : kind h x with
  | obj c fs =>
    rw [kx] at aft
    dsimp only at aft
    cases e : T.lookup c with
    | none => rw [e] at aft; exact False.elim aft
    | some i =>
      rw [e] at aft
      dsimp only at aft
      cases ky : kind h y with
      | obj d gs =>
        rw [ky] at aft
        dsimp only at aft
        by_cases hcd : c = d
        · subst hcd
          rw [if_pos rfl] at aft
          obtain ⟨s1, s2, s3, C⟩ := S c i e
          have q1 := kind_at r p1
          have q2 := kind_at r p2
          rw [kx] at q1
          rw [ky] at q2
          cases q1 with
          | @obj _ _ a dx ga ea rf =>
            cases q2 with
            | @obj _ _ a2 dx2 ga2 ea2 rf2 =>
              have r1' := r1
              have r2' := r2
              cases (show u1 = Value.ref a from r1)
              cases (show u2 = Value.ref a2 from r2)
              obtain ⟨mA, O, _⟩ := ins_get I.hok ea
              obtain ⟨od, J, _⟩ := O.look
              obtain ⟨mA2, O2, _⟩ := ins_get I.hok ea2
              obtain ⟨od2, J2, _⟩ := O2.look
              obtain ⟨m, hF⟩ := I.fr
              have a5 : Aft X.K G Wf σ (rpW X.K G) ι h H (zcall 2 0 gId (fn i) [x, y] [] h) (fun v H' => (∃ K ι h w, Rep K G ι h H' w v) ∧ Q v H') := by
                cases q : zcall 2 0 gId (fn i) [x, y] [] h with
                | ok w h' =>
                  rw [q] at aft
                  exact fun ι' H' v n' pv => ⟨⟨_, _, _, _, pv⟩, aft ι' H' v n' pv⟩
                | exc cc fs h' => rw [q] at aft; exact aft
                | err => rw [q] at aft; exact aft
              refine PySem.W.binop_K hF I.ok.mod.kin J J2.type s3 s1 s2 (wpAny_mono (run_callA (ks := []) (zs := []) C hr rfl tkx I r (vs := [V.ref a, V.ref a2]) (.cons (show RelV (.ref a) (.ref a) from rfl) (.cons (show RelV (.ref a2) (.ref a2) from rfl) .nil)) .nil (.cons p1 (.cons p2 .nil)) .nil a5) (fun u s' hv => ?_) fun _ _ z => z)
              obtain ⟨v, H', I', rv, ⟨_, _, _, _, pv⟩, qv⟩ := hv
              have nn := rep_noni pv rv
              have fin : EP X pins σ Q u s' := ⟨v, H', I', rv, qv⟩
              cases u <;> first | exact absurd rfl nn | exact fin
        · rw [if_neg hcd] at aft; exact False.elim aft
      | _ => rw [ky] at aft; exact False.elim aft
  | _ => rw [kx] at aft; exact op_zadd pins s σ H ι h x y v1 v2 u1 u2 Q I r p1 p2 r1 r2 aft
/-- for each class of the table: the def that len finds -/
def LenOk (X : Cx) (G : Gt) (k : Nat) (T : List (Nat × Nat)) (fn : Nat → List W → M W) : Prop :=
  ∀ c i, T.lookup c = some i → PySem.W.findIn X.K (.ref (G.cl c)) "__len__" = some (some (.ref (G.fn i))) ∧ PySem.W.isFn X.K (.ref (G.fn i)) = true ∧ CallOk X G k i 1 [] gId (fn i)
def asLen (w : W) : M W := match w with
  | .int i => if decide (0 ≤ i) && decide (i < 1073741824) then ret (.int i) else bad
  | _ => bad
def zlenO (T : List (Nat × Nat)) (fn : Nat → List W → M W) (w : W) : M W := fun h => match kind h w with
  | .obj c _ => (match T.lookup c with
    | some i => bnd (noex (zcall 1 0 gId (fn i) [w] [])) asLen h
    | none => .err)
  | _ => zlen w h
theorem Room.in1 {k : Nat} {A : Around} (r : Room (k + 1) A) : Room k A.in1 := ⟨r.rm.in1, r.gd⟩
theorem call_zlenO {T : List (Nat × Nat)} {fn : Nat → List W → M W} (S : LenOk X G k T fn) (hr : Room (k + 1) X.A) (tkx : Takes X Wf) : CallZ X G Wf (.builtin "len") (one1 (zlenO T fn)) := by
  refine one1_of fun pins s σ H ι h w v us Q I r p r1 aft => ?_
  have aft0 : Aft X.K G Wf σ (rpW X.K G) ι h H (zlenO T fn w h) Q := aft
  unfold zlenO at aft0
  cases kw : kind h w with
  | obj c fs =>
    rw [kw] at aft0
    dsimp only at aft0
    cases e : T.lookup c with
    | none => rw [e] at aft0; exact False.elim aft0
    | some i =>
      rw [e] at aft0
      dsimp only at aft0
      obtain ⟨s1, s2, C⟩ := S c i e
      have q1 := kind_at r p
      rw [kw] at q1
      cases q1 with
      | @obj _ _ ad dx ga ea rf =>
        rw [Vals.ref1 r1]
        obtain ⟨mA, O, _⟩ := ins_get I.hok ea
        obtain ⟨od, J, _⟩ := O.look
        obtain ⟨m, hF⟩ := I.fr
        have a3 : ∃ n h', zcall 1 0 gId (fn i) [w] [] h = .ok (.int n) h' ∧ (0 ≤ n ∧ n < 1073741824) ∧ Aft X.K G Wf σ (rpW X.K G) ι h H (.ok (.int n) h') Q := by
          unfold bnd noex at aft0
          cases q : zcall 1 0 gId (fn i) [w] [] h with
          | ok u h' =>
            rw [q] at aft0
            dsimp only at aft0
            cases u with
            | int n =>
              have aft0 : Aft X.K G Wf σ (rpW X.K G) ι h H ((if decide (0 ≤ n) && decide (n < 1073741824) then ret (.int n) else bad : M W) h') Q := aft0
              by_cases b : (decide (0 ≤ n) && decide (n < 1073741824)) = true
              · rw [if_pos b] at aft0
                simp only [Bool.and_eq_true, decide_eq_true_eq] at b
                exact ⟨n, h', rfl, b, aft0⟩
              · rw [if_neg b] at aft0; exact False.elim aft0
            | _ => exact False.elim aft0
          | exc c fs h' => rw [q] at aft0; exact False.elim aft0
          | err => rw [q] at aft0; exact False.elim aft0
        obtain ⟨n, h', q, bn, a4⟩ := a3
        have a5 : Aft X.K G Wf σ (rpW X.K G) ι h H (zcall 1 0 gId (fn i) [w] [] h) (fun v H' => v = .int n ∧ Q v H') := by
          rw [q]
          intro ι' H' v n' pv
          cases pv with
          | int _ => exact ⟨rfl, a4 ι' H' _ n' (.int n)⟩
        refine PySem.W.len_K hF I.ok.mod.kin J s1 s2 (wpAny_mono (run_callA (ks := []) (zs := []) C hr.in1 rfl tkx I r (vs := [V.ref ad]) (.cons (show RelV (.ref ad) (.ref ad) from rfl) .nil) .nil (.cons p .nil) .nil a5) (fun u s' hv => ?_) fun _ _ z => z)
        obtain ⟨v, H', I', rv, ev, qv⟩ := hv
        subst ev
        obtain ⟨tk, eu⟩ := rv
        subst eu
        exact ⟨⟨bn.1, by omega⟩, V.int n, H', I'.tok _, ⟨_, rfl⟩, qv⟩
  | _ => rw [kw] at aft0; exact call_zlen pins s σ H ι h [w] [v] us Q I r (.cons p .nil) r1 aft0
/-- checked at the top -/
def cAddO (xs : List Str) (K : PySem.W.Frag) : Bool := xs.all fun x => decide (PySem.W.findIn K (.ref (He.ga K x)) "__add__" = some (some (.ref (He.ma K (He.ga K x) "__add__")))) && PySem.W.isFn K (.ref (He.ma K (He.ga K x) "__add__")) && PySem.W.selfFirst K (He.ga K x)
theorem cAddO_ok {xs : List Str} {K : PySem.W.Frag} (h : cAddO xs K = true) {x : Str} (hx : x ∈ xs) : PySem.W.findIn K (.ref (He.ga K x)) "__add__" = some (some (.ref (He.ma K (He.ga K x) "__add__"))) ∧ PySem.W.isFn K (.ref (He.ma K (He.ga K x) "__add__")) = true ∧ PySem.W.selfFirst K (He.ga K x) = true := by
  have q := He.ba (List.all_eq_true.mp h x hx)
  have q1 := He.ba q.1
  exact ⟨of_decide_eq_true q1.1, q1.2, q.2⟩
def cLenO (xs : List Str) (K : PySem.W.Frag) : Bool := xs.all fun x => decide (PySem.W.findIn K (.ref (He.ga K x)) "__len__" = some (some (.ref (He.ma K (He.ga K x) "__len__")))) && PySem.W.isFn K (.ref (He.ma K (He.ga K x) "__len__"))
theorem cLenO_ok {xs : List Str} {K : PySem.W.Frag} (h : cLenO xs K = true) {x : Str} (hx : x ∈ xs) : PySem.W.findIn K (.ref (He.ga K x)) "__len__" = some (some (.ref (He.ma K (He.ga K x) "__len__"))) ∧ PySem.W.isFn K (.ref (He.ma K (He.ga K x) "__len__")) = true := by
  have q := He.ba (List.all_eq_true.mp h x hx)
  exact ⟨of_decide_eq_true q.1, q.2⟩
end
end Z

set_option Elab.async false
set_option linter.all false
set_option maxRecDepth 100000
set_option maxHeartbeats 0
set_option autoImplicit false
namespace Lk02
open PySem L2 Z
open PyProof.Rows hiding St
abbrev pw : PySem.Program := PySem.Challenge.pw_keptslot_k02_rows_made
def top (i : Nat) : Stmt := pw.main.body.getD i (.Pass ⟨0, 0, 0, 0⟩)

abbrev sx_InvalidRow : Stmt := (clsBd (top 2)).getD 0 (.Pass ⟨0, 0, 0, 0⟩)
theorem scx_InvalidRow : FnScope ["self", "part"] ["self", "part"] (defScope sx_InvalidRow) := ⟨rfl, rfl, rfl, by decide +kernel, rfl, by decide +kernel, by decide +kernel⟩
abbrev s_0 : Stmt := top 7
theorem sc_0 : FnScope ["value"] ["value"] (defScope s_0) := ⟨rfl, rfl, rfl, by decide +kernel, rfl, by decide +kernel, by decide +kernel⟩
abbrev s_1 : Stmt := top 8
theorem sc_1 : FnScope ["value", "some"] ["value", "some"] (defScope s_1) := ⟨rfl, rfl, rfl, by decide +kernel, rfl, by decide +kernel, by decide +kernel⟩
abbrev s_2 : Stmt := top 9
theorem sc_2 : FnScope ["value"] ["value"] (defScope s_2) := ⟨rfl, rfl, rfl, by decide +kernel, rfl, by decide +kernel, by decide +kernel⟩
abbrev s_3 : Stmt := top 12
theorem sc_3 : FnScope ["tests", "deed", "told"] ["tests", "deed"] (defScope s_3) := ⟨rfl, rfl, rfl, by decide +kernel, rfl, by decide +kernel, by decide +kernel⟩
abbrev s_4 : Stmt := top 14
theorem sc_4 : FnScope ["_law_script", "_law_k", "_law_own", "_law_cell", "_law_seed"] ["_law_script", "_law_k", "_law_own"] (defScope s_4) := ⟨rfl, rfl, rfl, by decide +kernel, rfl, by decide +kernel, by decide +kernel⟩
abbrev s_5 : Stmt := top 15
theorem sc_5 : FnScope ["_law_box_here", "_law_many", "_law_raw", "_law_wide", "_law_digit"] ["_law_box_here", "_law_many"] (defScope s_5) := ⟨rfl, rfl, rfl, by decide +kernel, rfl, by decide +kernel, by decide +kernel⟩
abbrev s_6 : Stmt := top 16
theorem sc_6 : FnScope ["_law_box_here", "_law_items"] ["_law_box_here", "_law_items"] (defScope s_6) := ⟨rfl, rfl, rfl, by decide +kernel, rfl, by decide +kernel, by decide +kernel⟩
abbrev s_7 : Stmt := top 17
theorem sc_7 : FnScope ["_law_box_here", "_law_found", "_law_turn", "_law_test"] ["_law_box_here"] (defScope s_7) := ⟨rfl, rfl, rfl, by decide +kernel, rfl, by decide +kernel, by decide +kernel⟩
abbrev s_8 : Stmt := top 18
theorem sc_8 : FnScope ["_law_tests_here", "_law_deed"] ["_law_tests_here", "_law_deed"] (defScope s_8) := ⟨rfl, rfl, rfl, by decide +kernel, rfl, by decide +kernel, by decide +kernel⟩
abbrev s_9 : Stmt := top 19
theorem sc_9 : FnScope ["_law_script", "_law_k", "_law_turn", "_law_one", "_law_box_here", "_law_made", "_law_handed", "_law_row", "_law_other", "_law_tests_here", "_law_deed"] ["_law_script"] (defScope s_9) := ⟨rfl, rfl, rfl, by decide +kernel, rfl, by decide +kernel, by decide +kernel⟩
abbrev s_10 : Stmt := (clsBd (top 11)).getD 0 (.Pass ⟨0, 0, 0, 0⟩)
theorem sc_10 : FnScope ["self", "tests", "deed", "test"] ["self", "tests", "deed"] (defScope s_10) := ⟨rfl, rfl, rfl, by decide +kernel, rfl, by decide +kernel, by decide +kernel⟩
abbrev s_11 : Stmt := (clsBd (top 11)).getD 1 (.Pass ⟨0, 0, 0, 0⟩)
theorem sc_11 : FnScope ["self", "other"] ["self", "other"] (defScope s_11) := ⟨rfl, rfl, rfl, by decide +kernel, rfl, by decide +kernel, by decide +kernel⟩
abbrev s_12 : Stmt := (clsBd (top 11)).getD 3 (.Pass ⟨0, 0, 0, 0⟩)
theorem sc_12 : FnScope ["self"] ["self"] (defScope s_12) := ⟨rfl, rfl, rfl, by decide +kernel, rfl, by decide +kernel, by decide +kernel⟩
abbrev allC : List Nat := [0]
abbrev strT : List (Nat × Nat) := [(0, 12)]
abbrev ET : ET := [(0, [5, 3])]
abbrev CLo : List Str := ["Row"]
abbrev CLx : List Str := ["SlotError", "InvalidRow"]
abbrev CLn : List Str := CLo ++ CLx
abbrev NMn : List Str := ["__eq__", "__init__", "__str__", "deed", "part", "tests", "text"]
abbrev fns0 : List (PySem.W.Frag → Addr) := [fun K => He.ga K "is_sequence", fun K => He.ga K "is_word", fun K => He.ga K "is_test", fun K => He.ga K "text_of", fun K => He.ga K "_law_box", fun K => He.ga K "_law_take", fun K => He.ga K "_law_pick", fun K => He.ga K "_law_tests", fun K => He.ga K "_law_text", fun K => He.ga K "law", fun K => He.ma K (He.ga K "Row") "__init__", fun K => He.ma K (He.ga K "Row") "__eq__", fun K => He.ma K (He.ga K "Row") "__str__"]
abbrev fns : List (PySem.W.Frag → Addr) := fns0
abbrev GG (K : PySem.W.Frag) : Gt := gtOf fns CLn NMn K
abbrev GN (K : PySem.W.Frag) (no : Addr → Prop) : Gt := (GG K).wn no
abbrev gc_TESTS : W := .tup [.str [116, 104, 101, 114, 101], .str [115, 97, 109, 101], .str [104, 111, 108, 100, 115], .str [99, 111, 118, 101, 114, 115], .str [102, 105, 116, 115]]
abbrev gc_DEEDS : W := .tup [.str [115, 108, 111, 116], .str [107, 101, 121], .str [102, 105, 110, 100]]
abbrev gc_NOT : W := .str [110, 111, 116, 32]
abbrev dd_10_1 : List W := [.tup [], .str [102, 105, 110, 100]]
abbrev dd_10_2 : List W := [.str [102, 105, 110, 100]]
def m_0 (F1 F0 : Nat → List W → M W) (k : Nat) : MS := (sseq (sret (zisi (isiF allC [3, 4] []) (zvar 0))) snil)
def m_1 (F1 F0 : Nat → List W → M W) (k : Nat) : MS := (sseq (sret (zandV (zisi (isiF allC [2] []) (zvar 0)) (zbin (zin ET k) (zvar 0) (zvar 1)))) snil)
def m_2 (F1 F0 : Nat → List W → M W) (k : Nat) : MS := (sseq (sif (znot (ztest (zisi (isiF allC [2] []) (zvar 0)))) (sseq (sret (fun _ => ret (.bl false))) snil) snil) (sseq (sret (zbin (zin ET k) (zif (ztest (zbm true mStarts (zvar 0) (zcons (fun _ => ret gc_NOT) znil))) (zslice (zvar 0) (zpart (zb (one1 zlen) (zcons (fun _ => ret gc_NOT) znil))) (fun _ => ret none)) (zvar 0)) (fun _ => ret gc_TESTS))) snil))
def m_3 (F1 F0 : Nat → List W → M W) (k : Nat) : MS := (sseq (sif (ztest (zbin (zcmpEq ET (k + 1)) (zb (one1 zlen) (zcons (zvar 0) znil)) (fun _ => ret (.int 0)))) (sseq (sret (zjoined (zpartJ (fun _ => ret (.str [100, 111, 32])) (zpartJ (zfmt (zvar 1)) (fun acc _ => ret acc))))) snil) snil) (sseq (sasg (zbm true mJoin (fun _ => ret (.str [32, 97, 110, 100, 32])) (zcons (zvar 0) znil)) (gname 2)) (sseq (sret (zjoined (zpartJ (fun _ => ret (.str [105, 102, 32])) (zpartJ (zfmt (zvar 2)) (zpartJ (fun _ => ret (.str [32, 100, 111, 32])) (zpartJ (zfmt (zvar 1)) (fun acc _ => ret acc))))))) snil)))
def m_4 (F1 F0 : Nat → List W → M W) (k : Nat) : MS := (sseq (sasg (zbin zadd (zbin zadd (zbin zmulA (fun _ => ret (.int 7727)) (zvar 1)) (zbin zmulA (fun _ => ret (.int 104729)) (zvar 2))) (fun _ => ret (.int 43))) (gname 3)) (sseq (sif (ztest (zbin zlt (zvar 1) (zb (one1 zlen) (zcons (zvar 0) znil)))) (sseq (sasg (zb (one1 zabs) (zcons (zbin zix (zvar 0) (zvar 1)) znil)) (gname 3)) snil) (sseq (sif (ztest (zbin zgt (zb (one1 zlen) (zcons (zvar 0) znil)) (fun _ => ret (.int 0)))) (sseq (sasg (zbin zadd (zvar 3) (zbin zmulA (zbin zmod (zb (one1 zint1) (zcons (zb (one1 zabs) (zcons (zbin zix (zvar 0) (zbin zmod (zb (one1 zint1) (zcons (zvar 1) znil)) (zb (one1 zlen) (zcons (zvar 0) znil)))) znil)) znil)) (fun _ => ret (.int 2147483629))) (fun _ => ret (.int 69623)))) (gname 3)) snil) snil) snil)) (sseq (sasg (zbin zadd (zbin zmod (zb (one1 zint1) (zcons (zbin zadd (zbin zmulA (zbin zmod (zb (one1 zint1) (zcons (zvar 3) znil)) (fun _ => ret (.int 2147483629))) (fun _ => ret (.int 48271))) (zbin zmulA (fun _ => ret (.int 40692)) (zbin zadd (zvar 1) (zbin zmulA (fun _ => ret (.int 11)) (zvar 2))))) znil)) (fun _ => ret (.int 2147483629))) (fun _ => ret (.int 1))) (gname 4)) (sseq (sret (zlst (zcons (zbin zix (zlst (zcons (fun _ => ret (.int 0)) (zcons (zvar 3) znil))) (zb (one1 zint1) (zcons (zbin zge (zvar 3) (zbin zpow (fun _ => ret (.int 10)) (fun _ => ret (.int 18)))) znil))) (zcons (zvar 4) (zcons (fun _ => ret (.int 0)) znil))))) snil))))
def m_5 (F1 F0 : Nat → List W → M W) (k : Nat) : MS := (sseq (sif (ztest (zbin zgt (zbin zix (zvar 0) (fun _ => ret (.int 0))) (fun _ => ret (.int 0)))) (sseq (sasg (zbin zmod (zb (one1 zint1) (zcons (zbin zix (zvar 0) (fun _ => ret (.int 0))) znil)) (zvar 1)) (gname 4)) (sseq (sasg (zbin zfdiv (zbin zix (zvar 0) (fun _ => ret (.int 0))) (zvar 1)) (gsub (zvar 0) (fun _ => ret (.int 0)))) (sseq (sret (zvar 4)) snil))) snil) (sseq (sasg (zbin zadd (zbin zix (zvar 0) (fun _ => ret (.int 2))) (fun _ => ret (.int 1))) (gsub (zvar 0) (fun _ => ret (.int 2)))) (sseq (sasg (zbin zmod (zb (one1 zint1) (zcons (zbin zmulA (zbin zadd (zbin zix (zvar 0) (fun _ => ret (.int 1))) (zbin zmulA (fun _ => ret (.int 104729)) (zbin zix (zvar 0) (fun _ => ret (.int 2))))) (fun _ => ret (.int 69623))) znil)) (fun _ => ret (.int 2147483647))) (gname 2)) (sseq (sasg (zbin zadd (zbin zmod (zb (one1 zint1) (zcons (zbin zadd (zbin zmulA (zvar 2) (fun _ => ret (.int 48271))) (fun _ => ret (.int 30103))) znil)) (fun _ => ret (.int 2147483629))) (fun _ => ret (.int 1))) (gsub (zvar 0) (fun _ => ret (.int 1)))) (sseq (sif (ztest (zbin zlt (zvar 1) (zbin zpow (fun _ => ret (.int 2)) (fun _ => ret (.int 40))))) (sseq (sret (zbin zmod (zb (one1 zint1) (zcons (zbin zfdiv (zbin zadd (zbin zmulA (zvar 2) (fun _ => ret (.int 2147483647))) (zbin zix (zvar 0) (fun _ => ret (.int 1)))) (fun _ => ret (.int 8191))) znil)) (zvar 1))) snil) snil) (sseq (sasg (zbin zmulA (zbin zadd (zbin zmulA (zvar 2) (fun _ => ret (.int 2147483647))) (zbin zix (zvar 0) (fun _ => ret (.int 1)))) (zbin zpow (fun _ => ret (.int 2147483629)) (fun _ => ret (.int 3)))) (gname 3)) (sseq (sret (zbin zmod (zb (one1 zint1) (zcons (zbin zadd (zbin zadd (zvar 3) (zbin zmulA (zbin zpow (zbin zix (zvar 0) (fun _ => ret (.int 1))) (fun _ => ret (.int 3))) (fun _ => ret (.int 8191)))) (zvar 2)) znil)) (zvar 1))) snil)))))))
def m_6 (F1 F0 : Nat → List W → M W) (k : Nat) : MS := (sseq (sret (zbin zix (zvar 1) (zfun (zcons (zvar 0) (zcons (zb (one1 zlen) (zcons (zvar 1) znil)) znil)) znil (zcall 2 0 gId (F1 5))))) snil)
def m_7 (F1 F0 : Nat → List W → M W) (k : Nat) : MS := (sseq (sasg (zlst znil) (gname 1)) (sseq (sfor (zitR (zcons (zfun (zcons (zvar 0) (zcons (fun _ => ret (.int 5)) znil)) znil (zcall 2 0 gId (F1 5))) znil)) (gname 2) (sseq (sasg (zfun (zcons (zvar 0) (zcons (zlst (zcons (fun _ => ret (.str [116, 104, 101, 114, 101])) (zcons (fun _ => ret (.str [115, 97, 109, 101])) (zcons (fun _ => ret (.str [104, 111, 108, 100, 115])) (zcons (fun _ => ret (.str [99, 111, 118, 101, 114, 115])) (zcons (fun _ => ret (.str [102, 105, 116, 115])) znil)))))) znil)) znil (zcall 2 0 gId (F1 6))) (gname 3)) (sseq (sexpr (zbm false mAppend (zvar 1) (zcons (zif (ztest (zbin (zcmpEq ET (k + 1)) (zfun (zcons (zvar 0) (zcons (fun _ => ret (.int 2)) znil)) znil (zcall 2 0 gId (F1 5))) (fun _ => ret (.int 0)))) (zbin zadd (fun _ => ret (.str [110, 111, 116, 32])) (zvar 3)) (zvar 3)) znil))) snil))) (sseq (sret (zvar 1)) snil)))
def m_8 (F1 F0 : Nat → List W → M W) (k : Nat) : MS := (sseq (sret (zif (ztest (zbin (zcmpEq ET (k + 1)) (zvar 0) (zlst znil))) (zbin zadd (fun _ => ret (.str [100, 111, 32])) (zvar 1)) (zbin zadd (zbin zadd (zbin zadd (fun _ => ret (.str [105, 102, 32])) (zbm true mJoin (fun _ => ret (.str [32, 97, 110, 100, 32])) (zcons (zvar 0) znil))) (fun _ => ret (.str [32, 100, 111, 32]))) (zvar 1)))) snil)
def m_9 (F1 F0 : Nat → List W → M W) (k : Nat) : MS := (sseq (sfor (zitR (zcons (zb (two2 zmax) (zcons (fun _ => ret (.int 1)) (zcons (zb (two2 zmin) (zcons (fun _ => ret (.int 3)) (zcons (zb (one1 zlen) (zcons (zvar 0) znil)) znil))) znil))) znil)) (gname 1) (sseq (spar [4, 5] (ztup (zcons (zfun (zcons (zvar 0) (zcons (zvar 1) (zcons (fun _ => ret (.int 2)) znil))) znil (zcall 3 0 gId (F1 4))) (zcons (zlst znil) znil)))) (sseq (sfor (zitR (zcons (fun _ => ret (.int 6)) znil)) (gname 2) (sseq (spar [9, 10] (ztup (zcons (zfun (zcons (zvar 4) znil) znil (zcall 1 0 gId (F1 7))) (zcons (zfun (zcons (zvar 4) (zcons (zlst (zcons (fun _ => ret (.str [115, 108, 111, 116])) (zcons (fun _ => ret (.str [107, 101, 121])) (zcons (fun _ => ret (.str [102, 105, 110, 100])) znil)))) znil)) znil (zcall 2 0 gId (F1 6))) znil)))) (sseq (sasg (zb (one1 zlist) (zcons (zvar 9) znil)) (gname 6)) (sseq (sasg (zfun (zcons (zvar 6) (zcons (zvar 10) znil)) znil (zmkW true 0 2 0 gId (F0 10))) (gname 7)) (sseq (sif (zor (ztest (zbin (zcmpNeO ET (k + 1)) (zvar 6) (zvar 9))) (ztest (zbin (zcmpNeO ET (k + 1)) (zfld [0] 5 (zvar 7)) (zb (one1 ztuple) (zcons (zvar 9) znil))))) (sseq (sret (fun _ => ret (.bl false))) snil) snil) (sseq (sexpr (zbm false mAppend (zvar 6) (zcons (fun _ => ret (.str [115, 97, 109, 101])) znil))) (sseq (sif (ztest (zbin (zcmpNeO ET (k + 1)) (zb (one1 zreprL) (zcons (zlst (zcons (zfld [0] 5 (zvar 7)) (zcons (zfld [0] 3 (zvar 7)) (zcons (zb (one1 (zstrO strT F0)) (zcons (zvar 7) znil)) znil)))) znil)) (zb (one1 zreprL) (zcons (zlst (zcons (zb (one1 ztuple) (zcons (zvar 9) znil)) (zcons (zvar 10) (zcons (zfun (zcons (zvar 9) (zcons (zvar 10) znil)) znil (zcall 2 0 gId (F1 8))) znil)))) znil)))) (sseq (sret (fun _ => ret (.bl false))) snil) snil) (sseq (sif (zor (ztest (zbin (zcmpNeO ET (k + 1)) (zvar 7) (zfun (zcons (zb (one1 ztuple) (zcons (zvar 9) znil)) (zcons (zvar 10) znil)) znil (zmkW true 0 2 0 gId (F0 10))))) (zor (ztest (zbin (zcmpEq ET (k + 1)) (zvar 7) (zb (one1 (zstrO strT F0)) (zcons (zvar 7) znil)))) (znot (ztest (zbin (zcmpEq ET (k + 1)) (zvar 7) (zfun (zcons (zvar 9) (zcons (zvar 10) znil)) znil (zmkW true 0 2 0 gId (F0 10)))))))) (sseq (sret (fun _ => ret (.bl false))) snil) snil) (sseq (sexpr (zbm false mAppend (zvar 5) (zcons (zvar 7) znil))) snil))))))))) (sseq (sfor (zit (zvar 5)) (gname 3) (sseq (sfor (zit (zvar 5)) (gname 8) (sseq (sif (zor (ztest (zbin (zcmpNeO ET (k + 1)) (zbin (zcmpEq ET (k + 1)) (zvar 3) (zvar 8)) (zbin (zcmpEq ET (k + 1)) (zb (one1 (zstrO strT F0)) (zcons (zvar 3) znil)) (zb (one1 (zstrO strT F0)) (zcons (zvar 8) znil))))) (ztest (zbin (zcmpEq ET (k + 1)) (zbin (zcmpNeO ET (k + 1)) (zvar 3) (zvar 8)) (zbin (zcmpEq ET (k + 1)) (zvar 3) (zvar 8))))) (sseq (sret (fun _ => ret (.bl false))) snil) snil) snil)) snil)) snil)))) (sseq (sret (zandV (zbin (zcmpEq ET (k + 1)) (zfun0 znil (zmkW true 0 0 0 (fun ws _ => ws ++ dd_10_1) (F0 10))) (zfun (zcons (ztup znil) (zcons (fun _ => ret (.str [102, 105, 110, 100])) znil)) znil (zmkW true 0 2 0 gId (F0 10)))) (zandV (zbin (zcmpEq ET (k + 1)) (zb (one1 (zstrO strT F0)) (zcons (zfun (zcons (zlst (zcons (fun _ => ret (.str [115, 97, 109, 101])) znil)) znil) znil (zmkW true 0 1 0 (fun ws _ => ws ++ dd_10_2) (F0 10))) znil)) (fun _ => ret (.str [105, 102, 32, 115, 97, 109, 101, 32, 100, 111, 32, 102, 105, 110, 100]))) (zbin (zcmpEq ET (k + 1)) (zb (one1 (zstrO strT F0)) (zcons (zfun0 znil (zmkW true 0 0 0 (fun ws _ => ws ++ dd_10_1) (F0 10))) znil)) (fun _ => ret (.str [100, 111, 32, 102, 105, 110, 100])))))) snil))
def m_10 (F1 F0 : Nat → List W → M W) (k : Nat) : MS := (sseq (sif (zor (znot (ztest (zfun (zcons (zvar 1) znil) znil (zcall 1 0 gId (F1 0))))) (znot (ztest (zb (one1 zallB) (zcons (zlc [3] (zit (zvar 1)) (.nm 3) (fun _ => ret true) (zfun (zcons (zvar 3) znil) znil (zcall 1 0 gId (F1 2)))) znil))))) (sseq (gK k (sraise 2 4 (zcons (fun _ => ret (.str [116, 101, 115, 116, 115])) znil))) snil) snil) (sseq (sif (znot (ztest (zfun (zcons (zvar 2) (zcons (fun _ => ret gc_DEEDS) znil)) znil (zcall 2 0 gId (F1 1))))) (sseq (gK k (sraise 2 4 (zcons (fun _ => ret (.str [100, 101, 101, 100])) znil))) snil) snil) (sseq (sfld [0] 5 (zvar 0) (zb (one1 ztuple) (zcons (zvar 1) znil))) (sseq (sfld [0] 3 (zvar 0) (zvar 2)) (sseq (sfld [0] 6 (zvar 0) (zfun (zcons (zfld [0] 5 (zvar 0)) (zcons (zvar 2) znil)) znil (zcall 2 0 gId (F1 3)))) snil)))))
def m_11 (k : Nat) : MS := eqBody ET k 0 (isiF allC [] [0]) [5, 3]
def m_12 (F1 F0 : Nat → List W → M W) (k : Nat) : MS := (sseq (sret (zfmt (zfld [0] 6 (zvar 0)))) snil)
def body1 (i : Nat) : List W → M W := match i with
  | 11 => runZ 2 (m_11 0)
  | _ => fun _ => bad
def body (i : Nat) (F1 F0 : Nat → List W → M W) (k : Nat) : List W → M W := match i with
  | 0 => runZ 1 (m_0 F1 F0 k)
  | 1 => runZ 2 (m_1 F1 F0 k)
  | 2 => runZ 1 (m_2 F1 F0 k)
  | 3 => runZ 3 (m_3 F1 F0 k)
  | 4 => runZ 5 (m_4 F1 F0 k)
  | 5 => runZ 5 (m_5 F1 F0 k)
  | 6 => runZ 2 (m_6 F1 F0 k)
  | 7 => runZ 4 (m_7 F1 F0 k)
  | 8 => runZ 2 (m_8 F1 F0 k)
  | 9 => runZ 11 (m_9 F1 F0 k)
  | 10 => runZ 4 (m_10 F1 F0 k)
  | 11 => runZ 2 (m_11 (k + 1))
  | 12 => runZ 1 (m_12 F1 F0 k)
  | _ => fun _ => bad
def fnT : Nat → Nat → List W → M W
  | 0 => fun _ _ => bad
  | 1 => body1
  | k + 2 => fun i => body i (fnT (k + 1)) (fnT k) k

end Lk02
set_option Elab.async false
set_option linter.all false
set_option maxRecDepth 100000
set_option maxHeartbeats 4000000
set_option autoImplicit false
namespace Z
def Ok {α : Type} (r : R α) (Q : α → Hz → Prop) : Prop := match r with
  | .ok a h => Q a h
  | _ => False
def OkS (r : RS) (Q : Fl → Ev → Hz → Prop) : Prop := match r with
  | .ok f ρ h => Q f ρ h
  | _ => False
section
variable {α β : Type}
theorem Ok.ex {r : R α} {Q : α → Hz → Prop} (h : Ok r Q) : ∃ a h', r = .ok a h' ∧ Q a h' := by
  cases r with
  | ok a h' => exact ⟨a, h', rfl, h⟩
  | exc c fs h' => exact False.elim h
  | err => exact False.elim h
theorem Ok.imp {r : R α} {P Q : α → Hz → Prop} (a : Ok r P) (f : ∀ x h, P x h → Q x h) : Ok r Q := by
  cases r with
  | ok x h' => exact f _ _ a
  | exc c fs h' => exact False.elim a
  | err => exact False.elim a
theorem OkS.imp {r : RS} {P Q : Fl → Ev → Hz → Prop} (a : OkS r P) (f : ∀ x ρ h, P x ρ h → Q x ρ h) : OkS r Q := by
  cases r with
  | ok x ρ' h' => exact f _ _ _ a
  | exc c fs ρ' h' => exact False.elim a
  | err => exact False.elim a
theorem ok_bnd {m : M α} {k : α → M β} {h : Hz} {Q : β → Hz → Prop} : Ok (bnd m k h) Q = Ok (m h) fun a h' => Ok (k a h') Q := by
  unfold bnd
  cases m h <;> rfl
theorem ok_ret {a : α} {h : Hz} {Q : α → Hz → Prop} : Ok (ret a h) Q = Q a h := rfl
theorem ok_ok {a : α} {h : Hz} {Q : α → Hz → Prop} : Ok (.ok a h) Q = Q a h := rfl
theorem ok_noex {m : M α} {h : Hz} {Q : α → Hz → Prop} : Ok (noex m h) Q = Ok (m h) Q := by
  unfold noex
  cases m h <;> rfl
theorem ok_new {c : Cell} {h : Hz} {Q : W → Hz → Prop} : Ok (new c h) Q = Q (.ref h.n) (h.push c) := rfl
theorem ok_ite {p : Prop} [Decidable p] {x y : M α} {h : Hz} {Q : α → Hz → Prop} : Ok ((if p then x else y) h) Q = if p then Ok (x h) Q else Ok (y h) Q := by
  by_cases e : p
  · rw [if_pos e, if_pos e]
  · rw [if_neg e, if_neg e]
theorem ok_ite2 {p : Prop} [Decidable p] {x y : R α} {Q : α → Hz → Prop} : Ok (if p then x else y) Q = if p then Ok x Q else Ok y Q := by
  by_cases e : p
  · rw [if_pos e, if_pos e]
  · rw [if_neg e, if_neg e]
theorem oks_ite {p : Prop} [Decidable p] {x y : RS} {Q : Fl → Ev → Hz → Prop} : OkS (if p then x else y) Q = if p then OkS x Q else OkS y Q := by
  by_cases e : p
  · rw [if_pos e, if_pos e]
  · rw [if_neg e, if_neg e]
theorem oks_bnd {m : M α} {ρ : Ev} {k : α → Hz → RS} {h : Hz} {Q : Fl → Ev → Hz → Prop} : OkS (sbnd m ρ k h) Q = Ok (m h) fun a h' => OkS (k a h') Q := by
  unfold sbnd
  cases m h <;> rfl
end
def nxt (k : MS) (Q : Fl → Ev → Hz → Prop) : Fl → Ev → Hz → Prop := fun f ρ h => match f with
  | .next => OkS (k ρ h) Q
  | f => Q f ρ h
section
variable {m k : MS} {ρ : Ev} {h : Hz} {Q : Fl → Ev → Hz → Prop}
theorem oks_seq : OkS (sseq m k ρ h) Q = OkS (m ρ h) (nxt k Q) := by
  unfold sseq
  cases m ρ h with
  | ok f ρ' h' => cases f <;> rfl
  | exc c fs ρ' h' => rfl
  | err => rfl
theorem nxt_next : nxt k Q .next ρ h = OkS (k ρ h) Q := rfl
theorem nxt_ret {w : W} : nxt k Q (.ret w) ρ h = Q (.ret w) ρ h := rfl
theorem oks_nil : OkS (snil ρ h) Q = Q .next ρ h := rfl
theorem oks_ok {f : Fl} : OkS (.ok f ρ h) Q = Q f ρ h := rfl
theorem oks_name {i : Nat} {w : W} : OkS (gname i w ρ h) Q = Q .next (ρ.set i (some w)) h := rfl
theorem seq_cut {P : Ev → Hz → Prop} (a : OkS (m ρ h) fun f ρ' h' => f = .next ∧ P ρ' h') (b : ∀ ρ' h', P ρ' h' → OkS (k ρ' h') Q) : OkS (sseq m k ρ h) Q := by
  rw [oks_seq]
  refine a.imp fun f ρ' h' ⟨e, p⟩ => ?_
  subst e
  exact b _ _ p
theorem ok_end {r : RS} {Q : W → Hz → Prop} (a : OkS r fun f _ h => match f with | .ret w => Q w h | .next => Q .non h | _ => False) : Ok (endZ r) Q := by
  cases r with
  | ok f ρ' h' =>
    cases f with
    | next => exact a
    | ret w => exact a
    | brk => exact False.elim a
    | cnt => exact False.elim a
  | exc c fs ρ' h' => exact False.elim a
  | err => exact False.elim a
theorem seq_snil : OkS (sseq m snil ρ h) Q = OkS (m ρ h) Q := by
  rw [oks_seq]
  cases m ρ h with
  | ok f ρ' h' => cases f <;> rfl
  | exc c fs ρ' h' => rfl
  | err => rfl
end
/-- the old cells stay -/
structure Gro (h h' : Hz) : Prop where
  same : ∀ j, j < h.n → h'.get j = h.get j
  size : h.n ≤ h'.n
theorem Gro.refl (h : Hz) : Gro h h := ⟨fun _ _ => rfl, Nat.le_refl _⟩
theorem Gro.trans {h h1 h2 : Hz} (a : Gro h h1) (b : Gro h1 h2) : Gro h h2 := ⟨fun j hj => (b.same j (Nat.lt_of_lt_of_le hj a.size)).trans (a.same j hj), Nat.le_trans a.size b.size⟩
theorem Gro.push (h : Hz) (c : Cell) : Gro h (h.push c) := ⟨fun j hj => by rw [Hz.get_push, if_neg (Nat.ne_of_lt hj)], Nat.le_succ _⟩
theorem Gro.get {h h' : Hz} (a : Gro h h') {j : Nat} {c : Cell} (e : h.get j = some c) : h'.get j = some c := (a.same j (Hz.get_lt e)).trans e
theorem Gro.put {h h' : Hz} (a : Gro h h') {j : Nat} {c : Cell} (hj : h.n ≤ j) : Gro h (h'.put j c) := by
  refine ⟨fun i hi => ?_, by rw [Hz.put_n]; exact a.size⟩
  by_cases p : j < h'.n
  · rw [Hz.get_put h' j c i p, if_neg (by omega)]
    exact a.same i hi
  · have e : h'.put j c = h' := by unfold Hz.put; rw [dif_neg p]
    rw [e]
    exact a.same i hi
theorem loopF_inv {I : Ev → Hz → Prop} {g : W → MS} {m : MS} : ∀ {ws : List W} {ρ : Ev} {h : Hz}, (∀ w ∈ ws, ∀ ρ h, I ρ h → OkS (g w ρ h) fun f ρ1 h1 => f = .next ∧ OkS (m ρ1 h1) fun f2 ρ2 h2 => f2 = .next ∧ I ρ2 h2) → I ρ h →
    OkS (sloopF g m ws ρ h) fun f ρ' h' => f = .next ∧ I ρ' h'
  | [], ρ, h, _, i => ⟨rfl, i⟩
  | w :: ws, ρ, h, s, i => by
    show OkS (floop g m (sloopF g m ws) w ρ h) _
    unfold floop
    have q := s w (List.mem_cons_self ..) ρ h i
    cases e : g w ρ h with
    | ok f ρ1 h1 =>
      rw [e] at q
      obtain ⟨ef, q⟩ := q
      subst ef
      dsimp only
      cases e2 : m ρ1 h1 with
      | ok f2 ρ2 h2 =>
        rw [e2] at q
        obtain ⟨ef, q⟩ := q
        subst ef
        exact loopF_inv (fun w hw => s w (List.mem_cons_of_mem _ hw)) q
      | exc c fs ρ2 h2 => rw [e2] at q; exact False.elim q
      | err => rw [e2] at q; exact False.elim q
    | exc c fs ρ1 h1 => rw [e] at q; exact False.elim q
    | err => rw [e] at q; exact False.elim q
section
variable {z : Itz} {ws : List W} {i0 : Nat} {nt : Ev → M Bool} {me : Ev → M W} {ρ : Ev} {h0 : Hz}
/-- one that only reads: exactly -/
theorem clz_pure {t : W → Bool} {e : W → W} (hz : ∀ i h, Gro h0 h → zitem z i h = some ws[i]?)
    (hn : ∀ w ∈ ws, ∀ h, Gro h0 h → Ok (nt (ρ.set i0 (some w)) h) fun a h' => a = t w ∧ Gro h h')
    (he : ∀ w ∈ ws, ∀ h, Gro h0 h → t w = true → Ok (me (ρ.set i0 (some w)) h) fun a h' => a = e w ∧ Gro h h') :
    ∀ (fuel : List W) (i : Nat) (h : Hz), Gro h0 h → i + fuel.length = ws.length → Ok (clz z (.nm i0) nt me ρ fuel i h) fun ys h' => ys = ((ws.drop i).filter t).map e ∧ Gro h h'
  | [], i, h, g, hl => by
    have e1 : ws[i]? = none := List.getElem?_eq_none (by simpa using Nat.le_of_eq hl.symm)
    rw [clz_stop (by rw [hz i h g, e1])]
    rw [List.drop_eq_nil_of_le (by simpa using Nat.le_of_eq hl.symm)]
    exact ⟨rfl, Gro.refl _⟩
  | f :: fuel, i, h, g, hl => by
    have hi : i < ws.length := by rw [List.length_cons] at hl; omega
    have e1 : ws[i]? = some ws[i] := List.getElem?_eq_getElem hi
    have hm : ws[i] ∈ ws := List.getElem_mem hi
    rw [clz_go (by rw [hz i h g, e1]) rfl, ok_bnd, ok_noex]
    refine (hn _ hm h g).imp fun a h1 ⟨ea, g1⟩ => ?_
    subst ea
    have ih := clz_pure hz hn he fuel (i + 1)
    rw [List.drop_eq_getElem_cons hi]
    cases et : t ws[i] with
    | true =>
      show Ok (bnd (noex (me _)) _ h1) _
      rw [ok_bnd, ok_noex]
      refine (he _ hm h1 (g.trans g1) et).imp fun y h2 ⟨ey, g2⟩ => ?_
      subst ey
      rw [ok_bnd]
      refine (ih h2 ((g.trans g1).trans g2) (by rw [List.length_cons] at hl; omega)).imp fun ys h3 ⟨e3, g3⟩ => ?_
      subst e3
      rw [ok_ret, List.filter_cons_of_pos et]
      exact ⟨rfl, (g1.trans g2).trans g3⟩
    | false =>
      show Ok (clz z (.nm i0) nt me ρ fuel (i + 1) h1) _
      refine (ih h1 (g.trans g1) (by rw [List.length_cons] at hl; omega)).imp fun ys h3 ⟨e3, g3⟩ => ?_
      subst e3
      rw [List.filter_cons_of_neg (by rw [et]; exact Bool.false_ne_true)]
      exact ⟨rfl, g1.trans g3⟩
/-- one over items that stand still, with an invariant and a mark of its items -/
theorem clz_inv {I : Hz → Prop} {P : W → Prop}
    (hs : ∀ w ∈ ws, ∀ h, I h → Ok (nt (ρ.set i0 (some w)) h) fun t h1 => if t = true then Ok (me (ρ.set i0 (some w)) h1) fun y h2 => P y ∧ I h2 else I h1) :
    ∀ (fuel : List W) (i : Nat) (h : Hz), I h → i + fuel.length = ws.length → Ok (clz (.fix ws) (.nm i0) nt me ρ fuel i h) fun ys h' => (∀ y ∈ ys, P y) ∧ ys.length ≤ fuel.length ∧ I h'
  | [], i, h, g, hl => by
    have e1 : ws[i]? = none := List.getElem?_eq_none (by simpa using Nat.le_of_eq hl.symm)
    rw [clz_stop (by show some ws[i]? = _; rw [e1])]
    exact ⟨fun y hy => absurd hy (List.not_mem_nil), Nat.le_refl _, g⟩
  | f :: fuel, i, h, g, hl => by
    have hi : i < ws.length := by rw [List.length_cons] at hl; omega
    have e1 : ws[i]? = some ws[i] := List.getElem?_eq_getElem hi
    have hm : ws[i] ∈ ws := List.getElem_mem hi
    rw [clz_go (by show some ws[i]? = _; rw [e1]) rfl, ok_bnd, ok_noex]
    have ih := clz_inv hs fuel (i + 1)
    refine (hs _ hm h g).imp fun a h1 q => ?_
    cases a with
    | true =>
      rw [if_pos rfl] at q
      show Ok (bnd (noex (me _)) _ h1) _
      rw [ok_bnd, ok_noex]
      refine q.imp fun y h2 ⟨py, g2⟩ => ?_
      rw [ok_bnd]
      refine (ih h2 g2 (by rw [List.length_cons] at hl; omega)).imp fun ys h3 ⟨p3, l3, g3⟩ => ?_
      rw [ok_ret]
      refine ⟨fun u hu => ?_, by rw [List.length_cons, List.length_cons]; omega, g3⟩
      rcases List.mem_cons.mp hu with e | e
      · subst e; exact py
      · exact p3 u e
    | false =>
      rw [if_neg Bool.false_ne_true] at q
      show Ok (clz (.fix ws) (.nm i0) nt me ρ fuel (i + 1) h1) _
      refine (ih h1 q (by rw [List.length_cons] at hl; omega)).imp fun ys h3 ⟨p3, l3, g3⟩ => ⟨p3, by rw [List.length_cons]; omega, g3⟩
end
/-- all cells but b are as they were -/
structure But (b : Nat) (h h' : Hz) : Prop where
  same : ∀ j, j ≠ b → h'.get j = h.get j
  size : h'.n = h.n
theorem But.refl (b : Nat) (h : Hz) : But b h h := ⟨fun _ _ => rfl, rfl⟩
theorem But.put {b : Nat} {h h' : Hz} {c d : Cell} (n : But b h h') (e : h'.get b = some d) : But b h (h'.put b c) := ⟨fun j q => by rw [Hz.get_put_ne e q]; exact n.same j q, by rw [Hz.put_n]; exact n.size⟩
def Box (h : Hz) (b : Nat) : Prop := ∃ a s t : Int, h.get b = some (.lst [.int a, .int s, .int t])
theorem zix_ref {h : Hz} {b : Nat} {i : Int} : zix (.ref b) (.int i) h = (match h.get b with
    | some (.lst xs) => (match L2.atI xs i with | some w => .ok w h | none => .err)
    | _ => .err) := by
  unfold zix
  simp only [bnd, zseq]
  cases e : h.get b with
  | none => rfl
  | some c =>
    cases c with
    | lst xs => dsimp only; cases L2.atI xs i <;> rfl
    | _ => rfl
theorem zset_ref {h : Hz} {b : Nat} {i : Int} {w : W} : zsetL (.ref b) (.int i) w h = (match h.get b with
    | some (.lst xs) => (match L2.ixN xs.length i with | some j => .ok .non (h.put b (.lst (xs.set j w))) | none => .err)
    | _ => .err) := by
  unfold zsetL
  simp only [bnd, zlref]
  cases e : h.get b with
  | none => rfl
  | some c =>
    cases c with
    | lst xs => dsimp only; cases L2.ixN xs.length i <;> rfl
    | _ => rfl
theorem get_put1 {h : Hz} {b : Nat} {c d : Cell} (e : h.get b = some d) : (h.put b c).get b = some c := Hz.get_put_self e
theorem get_put2 {h : Hz} {b : Nat} {c c2 d : Cell} (e : h.get b = some d) : ((h.put b c).put b c2).get b = some c2 := Hz.get_put_self (Hz.get_put_self e)
theorem at3_0 (x y z : W) : L2.atI [x, y, z] 0 = some x := rfl
theorem at3_1 (x y z : W) : L2.atI [x, y, z] 1 = some y := rfl
theorem at3_2 (x y z : W) : L2.atI [x, y, z] 2 = some z := rfl
theorem ix3_0 : L2.ixN 3 0 = some 0 := rfl
theorem ix3_1 : L2.ixN 3 1 = some 1 := rfl
theorem ix3_2 : L2.ixN 3 2 = some 2 := rfl
theorem at2_0 (x y : W) : L2.atI [x, y] 0 = some x := rfl
theorem at2_1 (x y : W) : L2.atI [x, y] 1 = some y := rfl
theorem zlen_ref {h : Hz} {b : Nat} : zlen (.ref b) h = (match h.get b with
    | some (.lst xs) => .ok (.int xs.length) h
    | _ => .err) := by
  unfold zlen
  simp only [bnd, zseq]
  cases e : h.get b with
  | none => rfl
  | some c => cases c <;> rfl
theorem bnd_ok {α β : Type} {m : M α} {f : α → M β} {h h' : Hz} {a : α} (e : m h = .ok a h') : bnd m f h = f a h' := by
  unfold bnd
  rw [e]
theorem atI_nat {α : Type} {xs : List α} {d : Int} (h0 : 0 ≤ d) (h1 : d < xs.length) : ∃ w, L2.atI xs d = some w ∧ w ∈ xs := by
  unfold L2.atI L2.ixN
  rw [if_pos h0, if_pos h1]
  have hl : d.toNat < xs.length := by omega
  exact ⟨xs[d.toNat], by simp [hl], List.getElem_mem hl⟩
theorem zix_fz {h : Hz} {ws : List W} {i : Int} : zix (.fz ws) (.int i) h = (match L2.atI ws i with | some w => .ok w h | none => .err) := by
  unfold zix
  simp only [bnd, zseq, ret]
  cases L2.atI ws i <;> rfl
theorem zlen_fz {h : Hz} {ws : List W} : zlen (.fz ws) h = .ok (.int ws.length) h := rfl
theorem atI_map {ns : List Int} {d : Int} (h0 : 0 ≤ d) (h1 : d < ns.length) : ∃ i, L2.atI (ns.map W.int) d = some (.int i) := by
  obtain ⟨w, e, m⟩ := atI_nat (xs := ns.map W.int) h0 (by rw [List.length_map]; exact h1)
  obtain ⟨i, _, rfl⟩ := List.mem_map.mp m
  exact ⟨i, e⟩
/-- a value that can be looked at; its classes are among C -/
def Rd (C : List Nat) (h : Hz) : W → Prop
  | .non => True
  | .bl _ => True
  | .int _ => True
  | .str s => s.length ≤ 64
  | .tup _ => True
  | .ref n => ∃ xs, h.get n = some (.lst xs)
  | .obj c _ => C.contains c = true
  | _ => False
theorem Rd.gro {C : List Nat} {h h' : Hz} {w : W} (r : Rd C h w) (g : Gro h h') : Rd C h' w := by
  cases w with
  | ref n => obtain ⟨xs, e⟩ := r; exact ⟨xs, g.get e⟩
  | _ => exact r
def isStr : W → Bool
  | .str _ => true
  | _ => false
def isSeq : W → Bool
  | .tup _ => true
  | .ref _ => true
  | _ => false
def isCls (d : Nat) : W → Bool
  | .obj c _ => Nat.beq c d
  | _ => false
theorem isi_str {C : List Nat} {h : Hz} {w : W} (r : Rd C h w) : isiF C [2] [] (kind h w) = some (isStr w) := by
  cases w with
  | ref n => obtain ⟨xs, e⟩ := r; show isiF C [2] [] (kindC (h.get n)) = _; rw [e]; rfl
  | obj c fs => show (if C.contains c = true then some (List.any [] fun d => Nat.beq c d) else none) = _; rw [if_pos (show C.contains c = true from r)]; rfl
  | _ => first | exact False.elim r | rfl
theorem isi_seq {C : List Nat} {h : Hz} {w : W} (r : Rd C h w) : isiF C [3, 4] [] (kind h w) = some (isSeq w) := by
  cases w with
  | ref n => obtain ⟨xs, e⟩ := r; show isiF C [3, 4] [] (kindC (h.get n)) = _; rw [e]; rfl
  | obj c fs => show (if C.contains c = true then some (List.any [] fun d => Nat.beq c d) else none) = _; rw [if_pos (show C.contains c = true from r)]; rfl
  | _ => first | exact False.elim r | rfl
theorem isi_own {C : List Nat} {d : Nat} {h : Hz} {w : W} (r : Rd C h w) : isiF C [] [d] (kind h w) = some (isCls d w) := by
  cases w with
  | ref n => obtain ⟨xs, e⟩ := r; show isiF C [] [d] (kindC (h.get n)) = _; rw [e]; rfl
  | obj c fs => show (if C.contains c = true then some (List.any [d] fun d => Nat.beq c d) else none) = _; rw [if_pos (show C.contains c = true from r)]; show some (Nat.beq c d || false) = _; rw [Bool.or_false]; rfl
  | _ => first | exact False.elim r | rfl
theorem zany_str {E : ET} {h : Hz} {n : Nat} {y : List Nat} : ∀ ts : List (List Nat), zany (fun w => zeq E h (n + 1) w (.str y)) (ts.map W.str) = some (ts.any fun t => eqN t y)
  | [] => rfl
  | t :: ts => by
    have e : zeq E h (n + 1) (.str t) (.str y) = some (eqN t y) := rfl
    rw [List.map_cons]
    unfold zany
    rw [e, zany_str ts]
    rfl
theorem zin_tup {E : ET} {h : Hz} {n : Nat} {y : List Nat} {ts : List (List Nat)} : zin E (n + 1) (.str y) (.tup (ts.map W.str)) h = .ok (.bl (ts.any fun t => eqN t y)) h := by
  have : zinK E (n + 1) h (.str y) (.tup (ts.map W.str)) = some (ts.any fun t => eqN t y) := zany_str _
  unfold zin
  rw [this]
theorem znotin_tup {E : ET} {h : Hz} {n : Nat} {y : List Nat} {ts : List (List Nat)} : znotin E (n + 1) (.str y) (.tup (ts.map W.str)) h = .ok (.bl (!(ts.any fun t => eqN t y))) h := by
  have : zinK E (n + 1) h (.str y) (.tup (ts.map W.str)) = some (ts.any fun t => eqN t y) := zany_str _
  unfold znotin
  rw [this]
def zvW (o : Option W) : M W := match o with
  | some (.exv _ _) => bad
  | some w => ret w
  | none => bad
theorem zvar_eq {i : Nat} {ρ : Ev} : zvar i ρ = zvW (ρ.getD i none) := by
  unfold zvar zvW
  cases ρ.getD i none with
  | none => rfl
  | some w => cases w <;> rfl
theorem Rd.zv {C : List Nat} {h : Hz} {w : W} (r : Rd C h w) : zvW (some w) = ret w := by
  cases w <;> first | rfl | exact False.elim r
theorem zv_non : zvW (some .non) = ret .non := rfl
theorem zv_bl {b : Bool} : zvW (some (.bl b)) = ret (.bl b) := rfl
theorem zv_int {b : Int} : zvW (some (.int b)) = ret (.int b) := rfl
theorem zv_str {b : List Nat} : zvW (some (.str b)) = ret (.str b) := rfl
theorem zv_tup {b : List W} : zvW (some (.tup b)) = ret (.tup b) := rfl
theorem zv_fz {b : List W} : zvW (some (.fz b)) = ret (.fz b) := rfl
theorem zv_ref {b : Nat} : zvW (some (.ref b)) = ret (.ref b) := rfl
theorem zv_obj {c : Nat} {fs : List (Nat × W)} : zvW (some (.obj c fs)) = ret (.obj c fs) := rfl

theorem cut_str {s : List Nat} {lo hi : Option Int} (hl : s.length ≤ 64) : zcut (.str s) lo hi = ret (.str (cutW s lo hi)) := by
  show (if s.length ≤ LIM then ret (W.str (cutW s lo hi)) else bad) = _
  rw [if_pos (Nat.le_trans hl (by decide))]
def its (h : Hz) : W → List W
  | .tup ws => ws
  | .ref n => match h.get n with
    | some (.lst ws) => ws
    | _ => []
  | _ => []
theorem its_gro {C : List Nat} {h h' : Hz} {t : W} (r : Rd C h t) (g : Gro h h') : its h' t = its h t := by
  cases t with
  | ref n =>
    obtain ⟨xs, e⟩ := r
    show (match h'.get n with | some (.lst ws) => ws | _ => []) = (match h.get n with | some (.lst ws) => ws | _ => [])
    rw [e, g.get e]
  | _ => rfl
structure TV (C : List Nat) (h : Hz) (t : W) : Prop where
  rd : Rd C h t
  el : ∀ x ∈ its h t, Rd C h x
  le : (its h t).length ≤ 16
theorem TV.gro {C : List Nat} {h h' : Hz} {t : W} (r : TV C h t) (g : Gro h h') : TV C h' t :=
  ⟨r.rd.gro g, fun x hx => (r.el x (by rw [its_gro r.rd g] at hx; exact hx)).gro g, by rw [its_gro r.rd g]; exact r.le⟩
/-- the items of a sequence that is only read -/
def ItP (h : Hz) (ws : List W) (z : Itz) (h' : Hz) : Prop := h' = h ∧ z.fuel = ws ∧ ∀ i h', Gro h h' → zitem z i h' = some ws[i]?
theorem zit_seq {C : List Nat} {h : Hz} {t : W} (r : Rd C h t) (s : isSeq t = true) : Ok (zitOf t h) (ItP h (its h t)) := by
  cases t with
  | tup ws => exact ⟨rfl, rfl, fun _ _ _ => rfl⟩
  | ref n =>
    obtain ⟨xs, e⟩ := r
    have e1 : zitOf (.ref n) h = .ok (.live false n xs) h := by
      show (match h.get n with | some (.lst xs) => R.ok (Itz.live false n xs) h | _ => .err) = _
      rw [e]
    have e2 : its h (.ref n) = xs := by
      show (match h.get n with | some (.lst ws) => ws | _ => []) = _
      rw [e]
    rw [e1, e2]
    refine ⟨rfl, rfl, fun i h' g => ?_⟩
    show (match h'.get n with
      | some (.lst xs) => (match xs[i]? with
        | some w => some (some (wrapE false i w))
        | none => some none)
      | _ => none) = _
    rw [g.get e]
    dsimp only
    cases xs[i]? <;> rfl
  | _ => first | exact False.elim r | cases s
theorem zlc_pure {vs : List Nat} {mi : Ev → M Itz} {i0 : Nat} {nt : Ev → M Bool} {me : Ev → M W} {ρ : Ev} {h : Hz} {ws : List W} {t : W → Bool} {e : W → W} (hi : Ok (mi ρ h) (ItP h ws)) (hl : ws.length ≤ 16)
    (hn : ∀ w ∈ ws, ∀ h', Gro h h' → Ok (nt ((wipeW ρ vs).set i0 (some w)) h') fun a h2 => a = t w ∧ Gro h' h2)
    (he : ∀ w ∈ ws, ∀ h', Gro h h' → t w = true → Ok (me ((wipeW ρ vs).set i0 (some w)) h') fun a h2 => a = e w ∧ Gro h' h2) :
    Ok (zlc vs mi (.nm i0) nt me ρ h) fun a h' => ∃ n, a = .ref n ∧ h'.get n = some (.lst ((ws.filter t).map e)) ∧ Gro h h' := by
  unfold zlc
  rw [ok_bnd]
  refine hi.imp fun z h1 ⟨e1, e2, hz⟩ => ?_
  subst e1
  rw [ok_bnd]
  refine (clz_pure hz hn he z.fuel 0 h1 (Gro.refl _) (by rw [e2, Nat.zero_add])).imp fun ys h2 ⟨ey, g⟩ => ?_
  have l1 : ys.length ≤ LIM := by
    rw [ey, List.length_map]
    exact Nat.le_trans (Nat.le_trans (List.length_filter_le _ _) (by rw [List.drop_zero]; exact hl)) (by decide)
  rw [if_pos l1, ok_new, ey, List.drop_zero]
  exact ⟨_, rfl, Hz.get_push_self _ _, g.trans (Gro.push _ _)⟩
theorem ne_nil {E : ET} {n i j : Nat} {h : Hz} {ys : List W} (ei : h.get i = some (.lst ys)) (ej : h.get j = some (.lst [])) : zcmpNe E (n + 1) (.ref i) (.ref j) h = .ok (.bl (!ys.isEmpty)) h := by
  have k1 : kind h (.ref i) = .lst ys := by show kindC (h.get i) = _; rw [ei]; rfl
  have k2 : kind h (.ref j) = .lst [] := by show kindC (h.get j) = _; rw [ej]; rfl
  have e : zeq E h (n + 1) (.ref i) (.ref j) = some ys.isEmpty := by
    show zeqK E (zeq E h n) (kind h (.ref i)) (kind h (.ref j)) = _
    rw [k1, k2]
    cases ys <;> rfl
  unfold zcmpNe
  rw [k1, e]
  rfl
theorem sif_at {nt : Ev → M Bool} {m k : MS} {ρ : Ev} {h : Hz} {b : Bool} {P : Hz → Prop} (a : Ok (nt ρ h) fun t h' => t = b ∧ P h') : ∃ h', sif nt m k ρ h = (if b = true then m ρ h' else k ρ h') ∧ P h' := by
  obtain ⟨t, h', e, et, p⟩ := a.ex
  subst et
  refine ⟨h', ?_, p⟩
  unfold sif sbnd
  rw [e]
theorem sseq_next {m k : MS} {ρ ρ' : Ev} {h h' : Hz} (e : m ρ h = .ok .next ρ' h') : sseq m k ρ h = k ρ' h' := by unfold sseq; rw [e]
theorem sseq_exc {m k : MS} {ρ ρ' : Ev} {h h' : Hz} {c : Nat} {fs : List (Nat × W)} (e : m ρ h = .exc c fs ρ' h') : sseq m k ρ h = .exc c fs ρ' h' := by unfold sseq; rw [e]
theorem filter_true {ws : List W} : ws.filter (fun _ => true) = ws := by induction ws with | nil => rfl | cons w ws ih => rw [List.filter_cons_of_pos rfl, ih]
theorem join_len {y : List Nat} : ∀ xs : List (List Nat), (TL.joinL y xs).length ≤ sumLen xs + xs.length * y.length
  | [] => Nat.zero_le _
  | [p] => by show p.length ≤ p.length + 0 + 1 * y.length; omega
  | p :: q :: r => by
    have ih := join_len (y := y) (q :: r)
    show (p ++ (y ++ TL.joinL y (q :: r))).length ≤ (p.length + sumLen (q :: r)) + ((q :: r).length + 1) * y.length
    rw [List.length_append, List.length_append, Nat.add_mul]
    omega
theorem ok_join {xs : List (List Nat)} {ws : List W} {y : List Nat} {h : Hz} (e : asStrs ws = some xs) (l : sumLen xs + xs.length * y.length ≤ 4096) : mJoin (.str y) [.tup ws] h = .ok (.str (TL.joinL y xs)) h := by
  have : sumLen xs + xs.length * y.length ≤ LIM := Nat.le_trans l (by decide)
  simp [mJoin, bnd, zseq, ret, e, this]
theorem tup_seq {C : List Nat} {h : Hz} {t : W} (r : Rd C h t) (s : isSeq t = true) : ztuple t h = .ok (.tup (its h t)) h := by
  cases t with
  | tup ws => rfl
  | ref n =>
    obtain ⟨xs, e⟩ := r
    simp [ztuple, bnd, zseq, e, ret, its]
  | _ => first | exact False.elim r | cases s
theorem fldW_ok {cs : List Nat} {h : Hz} {i f c : Nat} {fs : List (Nat × W)} {y : W} (hc : cs.contains c = true) (e : h.get i = some (.ins c fs)) (l : fs.length < 1000) : sfldW cs f (.ref i) y h = .ok () (h.put i (.ins c (putW f y fs))) := by
  show (match h.get i with | some (.ins c fs) => if (cs.contains c && decide (fs.length < 1000)) = true then store i (.ins c (putW f y fs)) h else .err | _ => .err) = _
  rw [e]
  dsimp only
  rw [if_pos (by rw [hc, decide_eq_true l]; rfl)]
  rfl
theorem zfld_ok {cs : List Nat} {h : Hz} {i f c : Nat} {fs : List (Nat × W)} {y : W} (hc : cs.contains c = true) (e : h.get i = some (.ins c fs)) (l : fs.lookup f = some y) : zfldW cs f (.ref i) h = .ok y h := by
  have hc' : c ∈ cs := by simpa using hc
  simp [zfldW, e, l, hc', ofO, ret]
theorem zfld_obj {cs : List Nat} {h : Hz} {f c : Nat} {fs : List (Nat × W)} {y : W} (hc : cs.contains c = true) (l : fs.lookup f = some y) : zfldW cs f (.obj c fs) h = .ok y h := by
  have hc' : c ∈ cs := by simpa using hc
  simp [zfldW, l, hc', ofO, ret]
/-- the old cells stay, but s -/
structure GroB (s : Nat) (h h' : Hz) : Prop where
  same : ∀ j, j < h.n → j ≠ s → h'.get j = h.get j
  size : h.n ≤ h'.n
theorem Gro.b {h h' : Hz} (g : Gro h h') (s : Nat) : GroB s h h' := ⟨fun j hj _ => g.same j hj, g.size⟩
theorem GroB.put {s : Nat} {h h' : Hz} {c d : Cell} (g : GroB s h h') (e : h'.get s = some d) : GroB s h (h'.put s c) := ⟨fun j hj n => by rw [Hz.get_put_ne e n]; exact g.same j hj n, by rw [Hz.put_n]; exact g.size⟩
theorem But.b {b : Nat} {h h' : Hz} (g : But b h h') : GroB b h h' := ⟨fun j _ n => g.same j n, Nat.le_of_eq g.size.symm⟩
theorem GroB.refl (b : Nat) (h : Hz) : GroB b h h := ⟨fun _ _ _ => rfl, Nat.le_refl _⟩
theorem GroB.trans {b : Nat} {h h1 h2 : Hz} (a : GroB b h h1) (c : GroB b h1 h2) : GroB b h h2 := ⟨fun j hj n => (c.same j (Nat.lt_of_lt_of_le hj a.size) n).trans (a.same j hj n), Nat.le_trans a.size c.size⟩
theorem GroB.get {b : Nat} {h h' : Hz} (a : GroB b h h') {j : Nat} {c : Cell} (e : h.get j = some c) (n : j ≠ b) : h'.get j = some c := (a.same j (Hz.get_lt e) n).trans e
theorem Box.gro {b : Nat} {h h' : Hz} (x : Box h b) (g : Gro h h') : Box h' b := by obtain ⟨a, s, t, e⟩ := x; exact ⟨a, s, t, g.get e⟩
theorem Box.lt {b : Nat} {h : Hz} (x : Box h b) : b < h.n := by obtain ⟨a, s, t, e⟩ := x; exact Hz.get_lt e
theorem rangeW_len (n : Nat) : ∀ lo : Int, (rangeW lo n).length = n := by
  induction n with
  | zero => intro lo; rfl
  | succ n ih => intro lo; show (rangeW (lo + 1) n).length + 1 = _; rw [ih]
theorem range1 {d : Int} (h0 : 0 ≤ d) (h1 : d < 1073741824) : zrange [.int d] = ret (.fix (rangeW 0 d.toNat)) := by
  have : rgOk 0 d = true := by
    unfold rgOk P62
    simp only [Bool.and_eq_true, decide_eq_true_eq]
    omega
  show (if rgOk 0 d = true then ret (Itz.fix (rangeW 0 d.toNat)) else bad) = _
  rw [if_pos this]
theorem eq_int {E : ET} {n : Nat} {i j : Int} {h : Hz} : zcmpEq E (n + 1) (.int i) (.int j) h = .ok (.bl (decide (i = j))) h := rfl
theorem zseq_ref {h : Hz} {t : Nat} {ws : List W} (e : h.get t = some (.lst ws)) : zseq (.ref t) h = .ok (false, ws) h := by
  show (match h.get t with | some (.lst xs) => R.ok (false, xs) h | _ => .err) = _
  rw [e]
theorem zlref_ref {h : Hz} {t : Nat} {ws : List W} (e : h.get t = some (.lst ws)) : zlref (.ref t) h = .ok (t, ws) h := by
  show (match h.get t with | some (.lst xs) => R.ok (t, xs) h | _ => .err) = _
  rw [e]
theorem zty_ref {h : Hz} {t : Nat} {ws : List W} (e : h.get t = some (.lst ws)) : zty false (.ref t) h = .ok () h := by
  unfold zty
  simp only [bnd, zseq_ref e, ret]
theorem zlen_ref' {h : Hz} {t : Nat} {ws : List W} (e : h.get t = some (.lst ws)) : zlen (.ref t) h = .ok (.int ws.length) h := by rw [zlen_ref, e]
theorem ins_ok {h : Hz} {t : Nat} {ws : List W} {d : Int} {x : W} (e : h.get t = some (.lst ws)) (h0 : 0 ≤ d) (h1 : d ≤ ws.length) (l : ws.length < 1000) : mInsert (.ref t) [.int d, x] h = .ok .non (h.put t (.lst (ws.take d.toNat ++ [x] ++ ws.drop d.toNat))) := by
  obtain ⟨n, rfl⟩ := Int.eq_ofNat_of_zero_le h0
  have c : ws.length < LIM ∧ n ≤ ws.length := ⟨Nat.lt_of_lt_of_le l (by decide), by omega⟩
  show (bnd (zlref (.ref t)) fun q => if q.2.length < LIM ∧ n ≤ q.2.length then bnd (store q.1 (.lst (q.2.take n ++ [x] ++ q.2.drop n))) fun _ => ret W.non else bad) h = _
  simp only [bnd, zlref_ref e, if_pos c, store, ret]
  rfl
theorem add_lists {h : Hz} {i j : Nat} {xs ys : List W} (ei : h.get i = some (.lst xs)) (ej : h.get j = some (.lst ys)) (l : (xs ++ ys).length ≤ 1000) : zadd (.ref i) (.ref j) h = .ok (.ref h.n) (h.push (.lst (xs ++ ys))) := by
  have c : (xs ++ ys).length ≤ LIM := Nat.le_trans l (by decide)
  show (bnd (zlref (.ref i)) fun p => bnd (zlref (.ref j)) fun q => zlstW (p.2 ++ q.2)) h = _
  simp only [bnd, zlref_ref ei, zlref_ref ej, zlstW, if_pos c, new]
theorem ne_non {E : ET} {n : Nat} {h : Hz} : zcmpNe E (n + 1) .non .non h = .ok (.bl false) h := rfl
theorem ne_str {E : ET} {n : Nat} {s : List Nat} {h : Hz} : zcmpNe E (n + 1) (.str s) (.str s) h = .ok (.bl false) h := by
  have : zcmpNe E (n + 1) (.str s) (.str s) h = .ok (.bl (!(eqN s s))) h := rfl
  rw [this, eqN_eq]
  simp
theorem for_fix {mi : Ev → M Itz} {g : W → MS} {m : MS} {ρ : Ev} {h h' : Hz} {ws : List W} (e : mi ρ h = .ok (.fix ws) h') : sfor mi g m ρ h = sloopF g m ws ρ h' := by
  unfold sfor sbnd
  rw [e]
  rfl
theorem rangeW_mem {n : Nat} : ∀ {lo : Int} {w : W}, 0 ≤ lo → w ∈ rangeW lo n → ∃ kk : Nat, w = .int kk := by
  induction n with
  | zero => intro lo w h0 h; exact absurd h List.not_mem_nil
  | succ n ih =>
    intro lo w h0 h
    rcases List.mem_cons.mp h with e | e
    · obtain ⟨m, rfl⟩ := Int.eq_ofNat_of_zero_le h0
      exact ⟨m, e⟩
    · exact ih (by omega) e
theorem lim_ok {n : Nat} (h : Nat.ble n 16777216 = true) : (n ≤ LIM) = True := eq_true (Nat.le_of_ble_eq_true h)
theorem lim0 : (0 ≤ LIM) = True := lim_ok rfl
theorem lim1 : (1 ≤ LIM) = True := lim_ok rfl
theorem lim2 : (2 ≤ LIM) = True := lim_ok rfl
theorem lim3 : (3 ≤ LIM) = True := lim_ok rfl
theorem lim4 : (4 ≤ LIM) = True := lim_ok rfl
theorem lim5 : (5 ≤ LIM) = True := lim_ok rfl
theorem lim7 : (7 ≤ LIM) = True := lim_ok rfl
theorem lim10 : (10 ≤ LIM) = True := lim_ok rfl
theorem lim11 : (11 ≤ LIM) = True := lim_ok rfl
theorem lim13 : (13 ≤ LIM) = True := lim_ok rfl
theorem lim16 : (16 ≤ LIM) = True := lim_ok rfl
theorem pow18 : zpow (.int 10) (.int 18) = ret (.int 1000000000000000000) := by
  show (if (decide ((0 : Int) ≤ 18) && decide ((18 : Int) ≤ 1000000) && decide ((10 : Int).natAbs < 18446744073709551616)) = true then ret (W.int ((10 : Int) ^ (18 : Int).toNat)) else bad) = _
  rw [if_pos (by decide)]
  rfl
theorem neg3 : zneg (.int 3) = ret (.int (-3)) := rfl
def boxB : MS := (sseq (sasg (zbin zadd (zbin zadd (zbin zmulA (fun _ => ret (.int 7727)) (zvar 1)) (zbin zmulA (fun _ => ret (.int 104729)) (zvar 2))) (fun _ => ret (.int 43))) (gname 3)) (sseq (sif (ztest (zbin zlt (zvar 1) (zb (one1 zlen) (zcons (zvar 0) znil)))) (sseq (sasg (zb (one1 zabs) (zcons (zbin zix (zvar 0) (zvar 1)) znil)) (gname 3)) snil) (sseq (sif (ztest (zbin zgt (zb (one1 zlen) (zcons (zvar 0) znil)) (fun _ => ret (.int 0)))) (sseq (sasg (zbin zadd (zvar 3) (zbin zmulA (zbin zmod (zb (one1 zint1) (zcons (zb (one1 zabs) (zcons (zbin zix (zvar 0) (zbin zmod (zb (one1 zint1) (zcons (zvar 1) znil)) (zb (one1 zlen) (zcons (zvar 0) znil)))) znil)) znil)) (fun _ => ret (.int 2147483629))) (fun _ => ret (.int 69623)))) (gname 3)) snil) snil) snil)) (sseq (sasg (zbin zadd (zbin zmod (zb (one1 zint1) (zcons (zbin zadd (zbin zmulA (zbin zmod (zb (one1 zint1) (zcons (zvar 3) znil)) (fun _ => ret (.int 2147483629))) (fun _ => ret (.int 48271))) (zbin zmulA (fun _ => ret (.int 40692)) (zbin zadd (zvar 1) (zbin zmulA (fun _ => ret (.int 11)) (zvar 2))))) znil)) (fun _ => ret (.int 2147483629))) (fun _ => ret (.int 1))) (gname 4)) (sseq (sret (zlst (zcons (zbin zix (zlst (zcons (fun _ => ret (.int 0)) (zcons (zvar 3) znil))) (zb (one1 zint1) (zcons (zbin zge (zvar 3) (zbin zpow (fun _ => ret (.int 10)) (fun _ => ret (.int 18)))) znil))) (zcons (zvar 4) (zcons (fun _ => ret (.int 0)) znil))))) snil))))
def takeB : MS := (sseq (sif (ztest (zbin zgt (zbin zix (zvar 0) (fun _ => ret (.int 0))) (fun _ => ret (.int 0)))) (sseq (sasg (zbin zmod (zb (one1 zint1) (zcons (zbin zix (zvar 0) (fun _ => ret (.int 0))) znil)) (zvar 1)) (gname 4)) (sseq (sasg (zbin zfdiv (zbin zix (zvar 0) (fun _ => ret (.int 0))) (zvar 1)) (gsub (zvar 0) (fun _ => ret (.int 0)))) (sseq (sret (zvar 4)) snil))) snil) (sseq (sasg (zbin zadd (zbin zix (zvar 0) (fun _ => ret (.int 2))) (fun _ => ret (.int 1))) (gsub (zvar 0) (fun _ => ret (.int 2)))) (sseq (sasg (zbin zmod (zb (one1 zint1) (zcons (zbin zmulA (zbin zadd (zbin zix (zvar 0) (fun _ => ret (.int 1))) (zbin zmulA (fun _ => ret (.int 104729)) (zbin zix (zvar 0) (fun _ => ret (.int 2))))) (fun _ => ret (.int 69623))) znil)) (fun _ => ret (.int 2147483647))) (gname 2)) (sseq (sasg (zbin zadd (zbin zmod (zb (one1 zint1) (zcons (zbin zadd (zbin zmulA (zvar 2) (fun _ => ret (.int 48271))) (fun _ => ret (.int 30103))) znil)) (fun _ => ret (.int 2147483629))) (fun _ => ret (.int 1))) (gsub (zvar 0) (fun _ => ret (.int 1)))) (sseq (sif (ztest (zbin zlt (zvar 1) (zbin zpow (fun _ => ret (.int 2)) (fun _ => ret (.int 40))))) (sseq (sret (zbin zmod (zb (one1 zint1) (zcons (zbin zfdiv (zbin zadd (zbin zmulA (zvar 2) (fun _ => ret (.int 2147483647))) (zbin zix (zvar 0) (fun _ => ret (.int 1)))) (fun _ => ret (.int 8191))) znil)) (zvar 1))) snil) snil) (sseq (sasg (zbin zmulA (zbin zadd (zbin zmulA (zvar 2) (fun _ => ret (.int 2147483647))) (zbin zix (zvar 0) (fun _ => ret (.int 1)))) (zbin zpow (fun _ => ret (.int 2147483629)) (fun _ => ret (.int 3)))) (gname 3)) (sseq (sret (zbin zmod (zb (one1 zint1) (zcons (zbin zadd (zbin zadd (zvar 3) (zbin zmulA (zbin zpow (zbin zix (zvar 0) (fun _ => ret (.int 1))) (fun _ => ret (.int 3))) (fun _ => ret (.int 8191)))) (zvar 2)) znil)) (zvar 1))) snil)))))))
def pickB (F : List W → M W) : MS := (sseq (sret (zbin zix (zvar 1) (zfun (zcons (zvar 0) (zcons (zb (one1 zlen) (zcons (zvar 1) znil)) znil)) znil (zcall 2 0 gId F)))) snil)
theorem take_eq1 {b : Nat} {h : Hz} {m a s t : Int} (hb : h.get b = some (.lst [.int a, .int s, .int t])) (h0 : 0 < m) (h1 : m < 1073741824) (ha : 0 < a) :
    runZ 5 takeB [.ref b, .int m] h = .ok (.int (a % m)) (h.put b (.lst [.int (a / m), .int s, .int t])) := by
  show endZ (takeB [some (.ref b), some (.int m), none, none, none] h) = _
  unfold takeB
  simp [sseq, sif, sbnd, ztest, zbin, bnd, zvar, ret, zix_ref, hb, at3_0, zgt, zint2, zasB, ha, sasg, zb, one1, zcons, znil, zint1, zmod, h0, gname, zfdiv, h1, gsub, zset_ref, ix3_0, sret, endZ, snil]
theorem take_eq2 {b : Nat} {h : Hz} {m a s t : Int} (hb : h.get b = some (.lst [.int a, .int s, .int t])) (h0 : 0 < m) (h1 : m < 1073741824) (ha : ¬ 0 < a) :
    ∃ d s', runZ 5 takeB [.ref b, .int m] h = .ok (.int (d % m)) ((h.put b (.lst [.int a, .int s, .int (t + 1)])).put b (.lst [.int a, .int s', .int (t + 1)])) := by
  have h2 : m < 1099511627776 := by omega
  show ∃ d s', endZ (takeB [some (.ref b), some (.int m), none, none, none] h) = .ok (.int (d % m)) ((h.put b (.lst [.int a, .int s, .int (t + 1)])).put b (.lst [.int a, .int s', .int (t + 1)]))
  unfold takeB
  simp [sseq, sif, sbnd, ztest, zbin, bnd, zvar, ret, zix_ref, hb, at3_0, at3_1, at3_2, zgt, zlt, zpow, zint2, zasB, ha, sasg, zb, one1, zcons, znil, zint1, zmod, h0, gname, zfdiv, h1, gsub, zset_ref, ix3_1, ix3_2, zadd, zmulA, zmul, snil, get_put1 hb, get_put2 hb, P64, sret, h2, endZ]
  exact ⟨⟨_, rfl⟩, ⟨_, rfl⟩⟩
theorem take_spec {b : Nat} {h : Hz} {m : Int} (hb : Box h b) (h0 : 0 < m) (h1 : m < 1073741824) :
    Ok (runZ 5 takeB [.ref b, .int m] h) fun w h' => (∃ d, w = .int d ∧ 0 ≤ d ∧ d < m) ∧ Box h' b ∧ But b h h' := by
  obtain ⟨a, s, t, hb⟩ := hb
  by_cases ha : 0 < a
  · rw [take_eq1 hb h0 h1 ha]
    exact ⟨⟨_, rfl, Int.emod_nonneg _ (by omega), Int.emod_lt_of_pos _ h0⟩, ⟨_, _, _, Hz.get_put_self hb⟩, (But.refl b h).put hb⟩
  · obtain ⟨d, s', e⟩ := take_eq2 hb h0 h1 ha
    rw [e]
    exact ⟨⟨_, rfl, Int.emod_nonneg _ (by omega), Int.emod_lt_of_pos _ h0⟩, ⟨_, _, _, get_put2 hb⟩, ((But.refl b h).put hb).put (get_put1 hb)⟩
/-- a source of draws: F takes a number -/
def TakeOk (F : List W → M W) : Prop := ∀ {b : Nat} {h : Hz} {m : Int}, Box h b → 0 < m → m < 1073741824 → Ok (F [.ref b, .int m] h) fun w h' => (∃ d, w = .int d ∧ 0 ≤ d ∧ d < m) ∧ Box h' b ∧ But b h h'
theorem take_ok : TakeOk (runZ 5 takeB) := fun hb h0 h1 => take_spec hb h0 h1
theorem pick_spec {F : List W → M W} (T : TakeOk F) {b l : Nat} {h : Hz} {xs : List W} (hb : Box h b) (hl : h.get l = some (.lst xs)) (ne : l ≠ b) (h0 : 0 < xs.length) (h1 : xs.length < 1073741824) :
    Ok (runZ 2 (pickB F) [.ref b, .ref l] h) fun w h' => w ∈ xs ∧ Box h' b ∧ But b h h' := by
  obtain ⟨w, h', e, ⟨d, rfl, d0, d1⟩, hb', bt⟩ := (T (m := (xs.length : Int)) hb (by omega) (by omega)).ex
  obtain ⟨w, ew, hw⟩ := atI_nat (xs := xs) d0 d1
  have hl' : h'.get l = some (.lst xs) := (bt.same l ne).trans hl
  show Ok (endZ (pickB F [some (.ref b), some (.ref l)] h)) _
  unfold pickB
  simp [sseq, sret, sbnd, zbin, bnd, zvar, ret, zfun, zcall, gId, zcons, znil, zb, one1, zlen_ref, hl, e, zix_ref, hl', ew, endZ, Ok]
  exact ⟨hw, hb', bt⟩
abbrev stm4_1 : MS := sasg (zbin zadd (zbin zadd (zbin zmulA (fun _ => ret (.int 7727)) (zvar 1)) (zbin zmulA (fun _ => ret (.int 104729)) (zvar 2))) (fun _ => ret (.int 43))) (gname 3)
abbrev stm4_2 : MS := sif (ztest (zbin zlt (zvar 1) (zb (one1 zlen) (zcons (zvar 0) znil)))) (sseq (sasg (zb (one1 zabs) (zcons (zbin zix (zvar 0) (zvar 1)) znil)) (gname 3)) snil) (sseq (sif (ztest (zbin zgt (zb (one1 zlen) (zcons (zvar 0) znil)) (fun _ => ret (.int 0)))) (sseq (sasg (zbin zadd (zvar 3) (zbin zmulA (zbin zmod (zb (one1 zint1) (zcons (zb (one1 zabs) (zcons (zbin zix (zvar 0) (zbin zmod (zb (one1 zint1) (zcons (zvar 1) znil)) (zb (one1 zlen) (zcons (zvar 0) znil)))) znil)) znil)) (fun _ => ret (.int 2147483629))) (fun _ => ret (.int 69623)))) (gname 3)) snil) snil) snil)
abbrev stm4_3 : MS := sasg (zbin zadd (zbin zmod (zb (one1 zint1) (zcons (zbin zadd (zbin zmulA (zbin zmod (zb (one1 zint1) (zcons (zvar 3) znil)) (fun _ => ret (.int 2147483629))) (fun _ => ret (.int 48271))) (zbin zmulA (fun _ => ret (.int 40692)) (zbin zadd (zvar 1) (zbin zmulA (fun _ => ret (.int 11)) (zvar 2))))) znil)) (fun _ => ret (.int 2147483629))) (fun _ => ret (.int 1))) (gname 4)
abbrev stm4_4 : MS := sret (zlst (zcons (zbin zix (zlst (zcons (fun _ => ret (.int 0)) (zcons (zvar 3) znil))) (zb (one1 zint1) (zcons (zbin zge (zvar 3) (zbin zpow (fun _ => ret (.int 10)) (fun _ => ret (.int 18)))) znil))) (zcons (zvar 4) (zcons (fun _ => ret (.int 0)) znil))))
theorem s41 {x z u : Option W} {kk o : Int} {h : Hz} : OkS (stm4_1 [x, some (.int kk), some (.int o), z, u] h) fun f ρ h' => f = .next ∧ ∃ c : Int, ρ = [x, some (.int kk), some (.int o), some (.int c), u] ∧ h' = h := by
  simp [sasg, sbnd, zbin, bnd, zvar, ret, zadd, zmulA, zmul, zint2, P64, gname, OkS]
theorem s42 {u : Option W} {ns : List Int} {kk : Nat} {o c : Int} {h : Hz} : OkS (stm4_2 [some (.fz (ns.map W.int)), some (.int kk), some (.int o), some (.int c), u] h) fun f ρ h' => f = .next ∧ ∃ c : Int, ρ = [some (.fz (ns.map W.int)), some (.int kk), some (.int o), some (.int c), u] ∧ h' = h := by
  by_cases h1 : (kk : Int) < ns.length
  · obtain ⟨i, ei⟩ := atI_map (ns := ns) (d := kk) (by omega) h1
    have h1' : kk < ns.length := by omega
    simp [sseq, sif, sbnd, ztest, zbin, bnd, zvar, ret, zix_fz, zlen_fz, zlt, zint2, zasB, sasg, zb, one1, zcons, znil, zabs, gname, snil, h1', ei, OkS]
  · have h1' : ¬ kk < ns.length := by omega
    by_cases h2 : 0 < ns.length
    · obtain ⟨i, ei⟩ := atI_map (ns := ns) (d := (kk : Int) % ns.length) (Int.emod_nonneg _ (by omega)) (Int.emod_lt_of_pos _ (by omega))
      simp [sseq, sif, sbnd, ztest, zbin, bnd, zvar, ret, zix_fz, zlen_fz, zgt, zlt, zint2, zasB, sasg, zb, one1, zcons, znil, zint1, zabs, zmod, gname, zadd, zmulA, zmul, snil, P64, h1', h2, ei, OkS]
    · have e : ns = [] := by cases ns with | nil => rfl | cons _ _ => exact absurd (Nat.succ_pos _) h2
      subst e
      have e3 : decide ((kk : Int) < ((List.map W.int []).length : Int)) = false := by simp
      simp only [sseq, sif, sbnd, ztest, zbin, bnd, zvar, ret, zlen_fz, zgt, zlt, zint2, zasB, zb, one1, zcons, znil, snil, OkS, List.getD_cons_zero, List.getD_cons_succ, e3]
      exact ⟨rfl, c, rfl, rfl⟩
theorem s43 {x u : Option W} {kk o c : Int} {h : Hz} : OkS (stm4_3 [x, some (.int kk), some (.int o), some (.int c), u] h) fun f ρ h' => f = .next ∧ ∃ s : Int, ρ = [x, some (.int kk), some (.int o), some (.int c), some (.int s)] ∧ h' = h := by
  simp [sasg, sbnd, zbin, bnd, zvar, ret, zadd, zmulA, zmul, zint2, P64, gname, zmod, zb, one1, zcons, znil, zint1, OkS]
theorem s44 {h : Hz} {x y z : Option W} {c s : Int} :
    OkS (stm4_4 [x, y, z, some (.int c), some (.int s)] h) fun f _ h' => ∃ b, f = .ret (.ref b) ∧ Box h' b ∧ h.n ≤ b ∧ Gro h h' := by
  have l2 : 2 ≤ LIM := by decide
  have l3 : 3 ≤ LIM := by decide
  have g1 : (h.push (.lst [.int 0, .int c])).get h.n = some (.lst [.int 0, .int c]) := Hz.get_push_self _ _
  have fin : ∀ v : Int, ∃ b, Fl.ret (W.ref (h.push (.lst [.int 0, .int c])).n) = .ret (.ref b) ∧ Box ((h.push (.lst [.int 0, .int c])).push (.lst [.int v, .int s, .int 0])) b ∧ h.n ≤ b ∧ Gro h ((h.push (.lst [.int 0, .int c])).push (.lst [.int v, .int s, .int 0])) :=
    fun v => ⟨_, rfl, ⟨v, s, 0, Hz.get_push_self _ _⟩, Nat.le_succ _, (Gro.push _ _).trans (Gro.push _ _)⟩
  by_cases hc : (1000000000000000000 : Int) ≤ c
  · have q : stm4_4 [x, y, z, some (.int c), some (.int s)] h = .ok (.ret (.ref (h.push (.lst [.int 0, .int c])).n)) [x, y, z, some (.int c), some (.int s)] ((h.push (.lst [.int 0, .int c])).push (.lst [.int c, .int s, .int 0])) := by
      simp [stm4_4, sret, sbnd, zlst, zcons, znil, zlstW, bnd, ret, zvar, zbin, zb, one1, zge, zpow, zint2, zint1, new, hc, b2z, zix_ref, g1, at2_0, at2_1, l2, l3]
    rw [q]
    exact fin c
  · have q : stm4_4 [x, y, z, some (.int c), some (.int s)] h = .ok (.ret (.ref (h.push (.lst [.int 0, .int c])).n)) [x, y, z, some (.int c), some (.int s)] ((h.push (.lst [.int 0, .int c])).push (.lst [.int 0, .int s, .int 0])) := by
      simp [stm4_4, sret, sbnd, zlst, zcons, znil, zlstW, bnd, ret, zvar, zbin, zb, one1, zge, zpow, zint2, zint1, new, hc, b2z, zix_ref, g1, at2_0, at2_1, l2, l3]
    rw [q]
    exact fin 0
theorem box_spec {h : Hz} {ns : List Int} {kk : Nat} {o : Int} :
    Ok (runZ 5 boxB [.fz (ns.map W.int), .int kk, .int o] h) fun w h' => ∃ b, w = .ref b ∧ Box h' b ∧ h.n ≤ b ∧ Gro h h' := by
  show Ok (endZ (boxB [some (.fz (ns.map W.int)), some (.int kk), some (.int o), none, none] h)) _
  refine ok_end ?_
  unfold boxB
  refine seq_cut (m := stm4_1) s41 fun ρ1 h1 ⟨c1, e1, eh⟩ => ?_
  subst e1 eh
  refine seq_cut (m := stm4_2) s42 fun ρ2 h2 ⟨c2, e2, eh⟩ => ?_
  subst e2 eh
  refine seq_cut (m := stm4_3) s43 fun ρ3 h3 ⟨c3, e3, eh⟩ => ?_
  subst e3 eh
  rw [seq_snil]
  refine (s44).imp fun f ρ h4 ⟨b, e, r⟩ => ?_
  subst e
  exact ⟨b, rfl, r⟩
end Z

set_option Elab.async false
set_option linter.all false
set_option maxRecDepth 100000
set_option maxHeartbeats 4000000
set_option autoImplicit false
namespace Z
def seqB (C : List Nat) : MS := (sseq (sret (zisi (isiF C [3, 4] []) (zvar 0))) snil)
def wordB (C : List Nat) (E : ET) (k : Nat) : MS := (sseq (sret (zandV (zisi (isiF C [2] []) (zvar 0)) (zbin (zin E k) (zvar 0) (zvar 1)))) snil)
def testB (C : List Nat) (E : ET) (k : Nat) : MS := (sseq (sif (znot (ztest (zisi (isiF C [2] []) (zvar 0)))) (sseq (sret (fun _ => ret (.bl false))) snil) snil) (sseq (sret (zbin (zin E k) (zif (ztest (zbm true mStarts (zvar 0) (zcons (fun _ => ret (W.str [110, 111, 116, 32])) znil))) (zslice (zvar 0) (zpart (zb (one1 zlen) (zcons (fun _ => ret (W.str [110, 111, 116, 32])) znil))) (fun _ => ret none)) (zvar 0)) (fun _ => ret (W.tup [.str [116, 104, 101, 114, 101], .str [115, 97, 109, 101], .str [104, 111, 108, 100, 115], .str [99, 111, 118, 101, 114, 115], .str [102, 105, 116, 115]])))) snil))
def textB (E : ET) (k : Nat) : MS := (sseq (sif (ztest (zbin (zcmpEq E (k + 1)) (zb (one1 zlen) (zcons (zvar 0) znil)) (fun _ => ret (.int 0)))) (sseq (sret (zjoined (zpartJ (fun _ => ret (.str [100, 111, 32])) (zpartJ (zfmt (zvar 1)) (fun acc _ => ret acc))))) snil) snil) (sseq (sasg (zbm true mJoin (fun _ => ret (.str [32, 97, 110, 100, 32])) (zcons (zvar 0) znil)) (gname 2)) (sseq (sret (zjoined (zpartJ (fun _ => ret (.str [105, 102, 32])) (zpartJ (zfmt (zvar 2)) (zpartJ (fun _ => ret (.str [32, 100, 111, 32])) (zpartJ (zfmt (zvar 1)) (fun acc _ => ret acc))))))) snil)))
def rowB (c f1 f2 f3 ec ef : Nat) (cs : List Nat) (Fq Fw Ft Fx : List W → M W) (k : Nat) : MS := (sseq (sif (zor (znot (ztest (zfun (zcons (zvar 1) znil) znil (zcall 1 0 gId Fq)))) (znot (ztest (zb (one1 zallB) (zcons (zlc [3] (zit (zvar 1)) (.nm 3) (fun _ => ret true) (zfun (zcons (zvar 3) znil) znil (zcall 1 0 gId Ft))) znil))))) (sseq (gK k (sraise ec ef (zcons (fun _ => ret (.str [116, 101, 115, 116, 115])) znil))) snil) snil) (sseq (sif (znot (ztest (zfun (zcons (zvar 2) (zcons (fun _ => ret (W.tup [.str [115, 108, 111, 116], .str [107, 101, 121], .str [102, 105, 110, 100]])) znil)) znil (zcall 2 0 gId Fw)))) (sseq (gK k (sraise ec ef (zcons (fun _ => ret (.str [100, 101, 101, 100])) znil))) snil) snil) (sseq (sfld [c] f1 (zvar 0) (zb (one1 ztuple) (zcons (zvar 1) znil))) (sseq (sfld [c] f2 (zvar 0) (zvar 2)) (sseq (sfld cs f3 (zvar 0) (zfun (zcons (zfld [c] f1 (zvar 0)) (zcons (zvar 2) znil)) znil (zcall 2 0 gId Fx))) snil)))))
abbrev NOT : List Nat := [110, 111, 116, 32]
abbrev five : List (List Nat) := [[116, 104, 101, 114, 101], [115, 97, 109, 101], [104, 111, 108, 100, 115], [99, 111, 118, 101, 114, 115], [102, 105, 116, 115]]
theorem pre_cut {s : List Nat} : eqN (cutW s none (some 4)) NOT = TL.pre NOT s := by
  rw [eqN_eq]
  have e : cutW s none (some 4) = s.take 4 := by
    unfold cutW
    rw [HT.sIx_none]
    have : HT.sIx s.length s.length (some 4) = min 4 s.length := HT.sIx_nat s.length s.length 4
    rw [this, List.drop_zero, Nat.sub_zero]
    rcases Nat.le_total s.length 4 with q | q
    · rw [Nat.min_eq_right q, List.take_of_length_le (Nat.le_refl _), List.take_of_length_le q]
    · rw [Nat.min_eq_left q]
  rw [e]
  unfold TL.pre
  show decide (List.take 4 s = NOT) = (List.take 4 s == NOT)
  cases q : (List.take 4 s == NOT) with
  | true => exact decide_eq_true (eq_of_beq q)
  | false => exact decide_eq_false fun z => by rw [z] at q; simp at q
def isT (s : List Nat) : Bool := five.any fun t => eqN t (if TL.pre NOT s = true then cutW s (some 4) none else s)
def ist : W → Bool
  | .str s => isT s
  | _ => false
theorem len_NOT : zlen (.str NOT) = ret (.int 4) := by
  show (if NOT.length ≤ LIM then ret (W.int 4) else bad) = _
  rw [if_pos (by decide)]
theorem starts_NOT {s : List Nat} : mStarts (.str s) [.str NOT] = ret (.bl (TL.pre NOT s)) := rfl
def memS (ts : List (List Nat)) : W → Bool
  | .str s => ts.any fun t => eqN t s
  | _ => false
abbrev three : List (List Nat) := [[115, 108, 111, 116], [107, 101, 121], [102, 105, 110, 100]]
def SeqOk (C : List Nat) (F : List W → M W) : Prop := ∀ {h : Hz} {w : W}, Rd C h w → Ok (F [w] h) fun a h' => a = .bl (isSeq w) ∧ h' = h
def WordOk (C : List Nat) (F : List W → M W) : Prop := ∀ {h : Hz} {w : W} {ts : List (List Nat)}, Rd C h w → Ok (F [w, .tup (ts.map W.str)] h) fun a h' => a = .bl (memS ts w) ∧ h' = h
def TestOk (C : List Nat) (F : List W → M W) : Prop := ∀ {h : Hz} {w : W}, Rd C h w → Ok (F [w] h) fun a h' => a = .bl (ist w) ∧ Gro h h'
theorem seq_ok {C : List Nat} : SeqOk C (runZ 1 (seqB C)) := fun {h w} r => by
  show Ok (endZ (seqB C [some w] h)) _
  refine ok_end ?_
  unfold seqB
  simp only [ok_bnd, ok_ret, ok_ok, ok_new, ok_ite, ok_ite2, oks_ite, oks_bnd, oks_seq, nxt_next, nxt_ret, oks_nil, oks_ok, oks_name, zbin, zun, zcons, znil, zlst, zlstW, ztup, ztupW, zb, one1, two2, zif, ztest, znot, zor, zand, zandV, zorV, zisi, zvar_eq, zv_non, zv_bl, zv_int, zv_str, zv_tup, zv_fz, zv_ref, zv_obj, sif, sret, sasg, sexpr, zfun, zcall, gId, zasB, zslice, zpart, zasI, List.getD_cons_zero, List.getD_cons_succ, List.set_cons_zero, List.set_cons_succ, if_true, if_false, Bool.not_true, Bool.not_false, Bool.false_eq_true, List.length_cons, List.length_nil, and_self, Nat.zero_add, Nat.reduceAdd, ite_true, ite_false, reduceIte, reduceCtorEq, true_and, and_true, r.zv, isi_seq r]
theorem word_ok {C : List Nat} {E : ET} {k : Nat} : WordOk C (runZ 2 (wordB C E (k + 1))) := fun {h w ts} r => by
  show Ok (endZ (wordB C E (k + 1) [some w, some (.tup (ts.map W.str))] h)) _
  refine ok_end ?_
  unfold wordB
  have e1 := isi_str r
  cases w with
  | str s =>
    have e1 : isiF C [2] [] (kind h (.str s)) = some true := e1
    have zi := zin_tup (E := E) (n := k) (y := s) (h := h) (ts := ts)
    simp only [ok_bnd, ok_ret, ok_ok, ok_new, ok_ite, ok_ite2, oks_ite, oks_bnd, oks_seq, nxt_next, nxt_ret, oks_nil, oks_ok, oks_name, zbin, zun, zcons, znil, zlst, zlstW, ztup, ztupW, zb, one1, two2, zif, ztest, znot, zor, zand, zandV, zorV, zisi, zvar_eq, zv_non, zv_bl, zv_int, zv_str, zv_tup, zv_fz, zv_ref, zv_obj, sif, sret, sasg, sexpr, zfun, zcall, gId, zasB, zslice, zpart, zasI, List.getD_cons_zero, List.getD_cons_succ, List.set_cons_zero, List.set_cons_succ, if_true, if_false, Bool.not_true, Bool.not_false, Bool.false_eq_true, List.length_cons, List.length_nil, and_self, Nat.zero_add, Nat.reduceAdd, ite_true, ite_false, reduceIte, reduceCtorEq, true_and, and_true, e1, zi, memS]
  | _ =>
    first
      | exact False.elim r
      | (have e1 := e1.trans (show _ = some false from rfl)
         simp only [ok_bnd, ok_ret, ok_ok, ok_new, ok_ite, ok_ite2, oks_ite, oks_bnd, oks_seq, nxt_next, nxt_ret, oks_nil, oks_ok, oks_name, zbin, zun, zcons, znil, zlst, zlstW, ztup, ztupW, zb, one1, two2, zif, ztest, znot, zor, zand, zandV, zorV, zisi, zvar_eq, zv_non, zv_bl, zv_int, zv_str, zv_tup, zv_fz, zv_ref, zv_obj, sif, sret, sasg, sexpr, zfun, zcall, gId, zasB, zslice, zpart, zasI, List.getD_cons_zero, List.getD_cons_succ, List.set_cons_zero, List.set_cons_succ, if_true, if_false, Bool.not_true, Bool.not_false, Bool.false_eq_true, List.length_cons, List.length_nil, and_self, Nat.zero_add, Nat.reduceAdd, ite_true, ite_false, reduceIte, reduceCtorEq, true_and, and_true, e1, r.zv]
         rfl)
theorem test_ok {C : List Nat} {E : ET} {k : Nat} : TestOk C (runZ 1 (testB C E (k + 1))) := fun {h w} r => by
  show Ok (endZ (testB C E (k + 1) [some w] h)) _
  refine ok_end ?_
  unfold testB
  have e1 := isi_str r
  cases w with
  | str s =>
    have e1 : isiF C [2] [] (kind h (.str s)) = some true := e1
    have e3 : zty true (.str s) = ret () := rfl
    have zi := fun y => zin_tup (E := E) (h := h) (n := k) (y := y) (ts := five)
    by_cases q : TL.pre NOT s = true
    · have e2 : ist (.str s) = five.any fun t => eqN t (cutW s (some 4) none) := by show isT s = _; unfold isT; rw [if_pos q]
      have zi := zi (cutW s (some 4) none)
      simp only [List.map] at zi
      simp only [ok_bnd, ok_ret, ok_ok, ok_new, ok_ite, ok_ite2, oks_ite, oks_bnd, oks_seq, nxt_next, nxt_ret, oks_nil, oks_ok, oks_name, zbin, zun, zcons, znil, zlst, zlstW, ztup, ztupW, zb, one1, two2, zif, ztest, znot, zor, zand, zandV, zorV, zisi, zvar_eq, zv_non, zv_bl, zv_int, zv_str, zv_tup, zv_fz, zv_ref, zv_obj, sif, sret, sasg, sexpr, zfun, zcall, gId, zasB, zslice, zpart, zasI, List.getD_cons_zero, List.getD_cons_succ, List.set_cons_zero, List.set_cons_succ, if_true, if_false, Bool.not_true, Bool.not_false, Bool.false_eq_true, List.length_cons, List.length_nil, and_self, Nat.zero_add, Nat.reduceAdd, ite_true, ite_false, reduceIte, reduceCtorEq, true_and, and_true, e1, zbm, e3, starts_NOT, q, len_NOT, cut_str r, zi, e2]
      exact Gro.refl _
    · have q : TL.pre NOT s = false := by simpa using q
      have zi := zi s
      have e2 : ist (.str s) = five.any fun t => eqN t s := by show isT s = _; unfold isT; rw [if_neg (by rw [q]; exact Bool.false_ne_true)]
      simp only [List.map] at zi
      simp only [ok_bnd, ok_ret, ok_ok, ok_new, ok_ite, ok_ite2, oks_ite, oks_bnd, oks_seq, nxt_next, nxt_ret, oks_nil, oks_ok, oks_name, zbin, zun, zcons, znil, zlst, zlstW, ztup, ztupW, zb, one1, two2, zif, ztest, znot, zor, zand, zandV, zorV, zisi, zvar_eq, zv_non, zv_bl, zv_int, zv_str, zv_tup, zv_fz, zv_ref, zv_obj, sif, sret, sasg, sexpr, zfun, zcall, gId, zasB, zslice, zpart, zasI, List.getD_cons_zero, List.getD_cons_succ, List.set_cons_zero, List.set_cons_succ, if_true, if_false, Bool.not_true, Bool.not_false, Bool.false_eq_true, List.length_cons, List.length_nil, and_self, Nat.zero_add, Nat.reduceAdd, ite_true, ite_false, reduceIte, reduceCtorEq, true_and, and_true, e1, zbm, e3, starts_NOT, q, zi, e2]
      exact Gro.refl _
  | _ =>
    first
      | exact False.elim r
      | (have e1 := e1.trans (show _ = some false from rfl)
         simp only [ok_bnd, ok_ret, ok_ok, ok_new, ok_ite, ok_ite2, oks_ite, oks_bnd, oks_seq, nxt_next, nxt_ret, oks_nil, oks_ok, oks_name, zbin, zun, zcons, znil, zlst, zlstW, ztup, ztupW, zb, one1, two2, zif, ztest, znot, zor, zand, zandV, zorV, zisi, zvar_eq, zv_non, zv_bl, zv_int, zv_str, zv_tup, zv_fz, zv_ref, zv_obj, sif, sret, sasg, sexpr, zfun, zcall, gId, zasB, zslice, zpart, zasI, List.getD_cons_zero, List.getD_cons_succ, List.set_cons_zero, List.set_cons_succ, if_true, if_false, Bool.not_true, Bool.not_false, Bool.false_eq_true, List.length_cons, List.length_nil, and_self, Nat.zero_add, Nat.reduceAdd, ite_true, ite_false, reduceIte, reduceCtorEq, true_and, and_true, e1, r.zv]
         exact ⟨rfl, Gro.refl _⟩)
theorem allB_map {ws : List W} : asBs (ws.map fun w => W.bl (ist w)) = some (ws.map ist) := by
  induction ws with
  | nil => rfl
  | cons w ws ih =>
    rw [List.map_cons, List.map_cons]
    unfold asBs
    rw [ih]
/-- what an item that is told to be a test is -/
theorem ist_str {w : W} (q : ist w = true) : ∃ s, w = .str s := by
  cases w with
  | str s => exact ⟨s, rfl⟩
  | _ => cases q
theorem asStrs_ist {C : List Nat} {h : Hz} : ∀ {ws : List W}, (∀ x ∈ ws, Rd C h x) → ws.all ist = true → ∃ xs, asStrs ws = some xs ∧ sumLen xs ≤ 64 * ws.length ∧ xs.length = ws.length
  | [], _, _ => ⟨[], rfl, Nat.le_refl _, rfl⟩
  | w :: ws, r, q => by
    rw [List.all_cons, Bool.and_eq_true] at q
    obtain ⟨s, rfl⟩ := ist_str q.1
    obtain ⟨xs, e, l, n⟩ := asStrs_ist (fun x hx => r x (List.mem_cons_of_mem _ hx)) q.2
    have r1 : s.length ≤ 64 := r _ (List.mem_cons_self ..)
    refine ⟨s :: xs, ?_, ?_, by rw [List.length_cons, List.length_cons, n]⟩
    · unfold asStrs
      rw [e]
    · show s.length + sumLen xs ≤ _
      rw [List.length_cons]
      omega
abbrev tAND : List Nat := [32, 97, 110, 100, 32]
def rowText (xs : List (List Nat)) (s : List Nat) : List Nat := match xs with
  | [] => [100, 111, 32] ++ s
  | x :: r => [105, 102, 32] ++ TL.joinL tAND (x :: r) ++ [32, 100, 111, 32] ++ s
def TextOk (F : List W → M W) : Prop := ∀ {h : Hz} {ws : List W} {xs : List (List Nat)} {s : List Nat}, asStrs ws = some xs → xs.length = ws.length → sumLen xs ≤ 4000 → ws.length ≤ 16 → s.length ≤ 64 → Ok (F [.tup ws, .str s] h) fun a h' => a = .str (rowText xs s) ∧ h' = h
theorem text_ok {E : ET} {k : Nat} : TextOk (runZ 3 (textB E k)) := fun {h ws xs s} ex nx lx l ls => by
  show Ok (endZ (textB E k [some (.tup ws), some (.str s), none] h)) _
  refine ok_end ?_
  unfold textB
  have e1 : zlen (.tup ws) h = .ok (.int ws.length) h := rfl
  have e2 : zcmpEq E (k + 1) (.int ws.length) (.int 0) h = .ok (.bl (decide ((ws.length : Int) = 0))) h := rfl
  have l1 : s.length ≤ LIM := Nat.le_trans ls (by decide)
  have lm : 10000 ≤ LIM := by decide
  have e3 : zasS (.str s) = ret (.str s) := by show (if s.length ≤ LIM then ret (W.str s) else bad) = _; rw [if_pos l1]
  by_cases c : (ws.length : Int) = 0
  · have ew : xs = [] := List.eq_nil_of_length_eq_zero (by omega)
    subst ew
    have e4 : 3 + s.length ≤ LIM := by omega
    have e5 : 3 ≤ LIM := by omega
    have e9 : zcmpEq E (k + 1) (.int 0) (.int 0) h = .ok (.bl true) h := rfl
    simp only [ok_bnd, ok_ret, ok_ok, ok_new, ok_ite, ok_ite2, oks_ite, oks_bnd, oks_seq, nxt_next, nxt_ret, oks_nil, oks_ok, oks_name, zbin, zun, zcons, znil, zlst, zlstW, ztup, ztupW, zb, one1, two2, zif, ztest, znot, zor, zand, zandV, zorV, zisi, zvar_eq, zv_non, zv_bl, zv_int, zv_str, zv_tup, zv_fz, zv_ref, zv_obj, sif, sret, sasg, sexpr, zfun, zcall, gId, zasB, zslice, zpart, zasI, List.getD_cons_zero, List.getD_cons_succ, List.set_cons_zero, List.set_cons_succ, if_true, if_false, Bool.not_true, Bool.not_false, Bool.false_eq_true, List.length_cons, List.length_nil, and_self, Nat.zero_add, Nat.reduceAdd, ite_true, ite_false, reduceIte, reduceCtorEq, true_and, and_true, e1, c, e9, zjoined, zpartJ, zfmt, e3, List.nil_append, e5, List.length_append, e4]
    rfl
  · have e6 := ok_join (y := tAND) (h := h) ex (by rw [nx]; show sumLen xs + ws.length * 5 ≤ _; omega)
    have lj := join_len (y := tAND) xs
    rw [nx] at lj
    have lj : (TL.joinL tAND xs).length ≤ sumLen xs + ws.length * 5 := lj
    have ez : rowText xs s = [105, 102, 32] ++ TL.joinL tAND xs ++ [32, 100, 111, 32] ++ s := by
      cases xs with
      | nil => exfalso; rw [List.length_nil] at nx; omega
      | cons x r => rfl
    generalize TL.joinL tAND xs = z at e6 lj ez
    have l2 : z.length ≤ LIM := by omega
    have e7 : zasS (.str z) = ret (.str z) := by show (if z.length ≤ LIM then ret (W.str z) else bad) = _; rw [if_pos l2]
    have e8 : zty true (.str tAND) = ret () := rfl
    have l3 : 3 ≤ LIM := by omega
    have l4 : 3 + z.length ≤ LIM := by omega
    have l5 : 3 + z.length + 4 ≤ LIM := by omega
    have l6 : 3 + z.length + 4 + s.length ≤ LIM := by omega
    simp only [ok_bnd, ok_ret, ok_ok, ok_new, ok_ite, ok_ite2, oks_ite, oks_bnd, oks_seq, nxt_next, nxt_ret, oks_nil, oks_ok, oks_name, zbin, zun, zcons, znil, zlst, zlstW, ztup, ztupW, zb, one1, two2, zif, ztest, znot, zor, zand, zandV, zorV, zisi, zvar_eq, zv_non, zv_bl, zv_int, zv_str, zv_tup, zv_fz, zv_ref, zv_obj, sif, sret, sasg, sexpr, zfun, zcall, gId, zasB, zslice, zpart, zasI, List.getD_cons_zero, List.getD_cons_succ, List.set_cons_zero, List.set_cons_succ, if_true, if_false, Bool.not_true, Bool.not_false, Bool.false_eq_true, List.length_cons, List.length_nil, and_self, Nat.zero_add, Nat.reduceAdd, ite_true, ite_false, reduceIte, reduceCtorEq, true_and, and_true, e1, e2, c, decide_false, zjoined, zpartJ, zfmt, e3, e7, zbm, e8, e6, List.nil_append, List.length_append, l3, l4, l5, l6, ez]

abbrev tDEED : List Nat := [100, 101, 101, 100]
abbrev tTESTS : List Nat := [116, 101, 115, 116, 115]
def sOk (h : Hz) (t : W) : Bool := isSeq t && (its h t).all ist
def due (h : Hz) (t d : W) : W := if sOk h t = true then (if memS three d = true then .non else .str tDEED) else .str tTESTS
section
variable {C : List Nat} {c f1 f2 f3 ec ef k : Nat} {cs : List Nat} {Fq Fw Ft Fx : List W → M W}
abbrev rc1 (Fq Ft : List W → M W) : Ev → M Bool := zor (znot (ztest (zfun (zcons (zvar 1) znil) znil (zcall 1 0 gId Fq)))) (znot (ztest (zb (one1 zallB) (zcons (zlc [3] (zit (zvar 1)) (.nm 3) (fun _ => ret true) (zfun (zcons (zvar 3) znil) znil (zcall 1 0 gId Ft))) znil))))
abbrev rc2 (Fw : List W → M W) : Ev → M Bool := znot (ztest (zfun (zcons (zvar 2) (zcons (fun _ => ret (W.tup [.str [115, 108, 111, 116], .str [107, 101, 121], .str [102, 105, 110, 100]])) znil)) znil (zcall 2 0 gId Fw)))
theorem rc1_spec (hq : SeqOk C Fq) (ht : TestOk C Ft) {n : Nat} {h : Hz} {t d : W} {x : Option W} (r : TV C h t) : Ok (rc1 Fq Ft [some (.ref n), some t, some d, x] h) fun a h' => a = (!sOk h t) ∧ Gro h h' := by
  have zt := r.rd.zv
  simp only [ok_bnd, ok_ret, ok_ok, ok_new, ok_ite, ok_ite2, oks_ite, oks_bnd, oks_seq, nxt_next, nxt_ret, oks_nil, oks_ok, oks_name, zbin, zun, zcons, znil, zlst, zlstW, ztup, ztupW, zb, one1, two2, zif, ztest, znot, zor, zand, zandV, zorV, zisi, zvar_eq, zv_non, zv_bl, zv_int, zv_str, zv_tup, zv_fz, zv_ref, zv_obj, sif, sret, sasg, sexpr, zfun, zcall, gId, zasB, zslice, zpart, zasI, List.getD_cons_zero, List.getD_cons_succ, List.set_cons_zero, List.set_cons_succ, if_true, if_false, Bool.not_true, Bool.not_false, Bool.false_eq_true, List.length_cons, List.length_nil, and_self, Nat.zero_add, Nat.reduceAdd, ite_true, ite_false, reduceIte, reduceCtorEq, true_and, and_true, zt]
  refine (hq r.rd).imp fun a h1 ⟨ea, eh⟩ => ?_
  subst ea eh
  cases q : isSeq t with
  | false =>
    have e2 : sOk h1 t = false := by unfold sOk; rw [q]; rfl
    simp only [ok_bnd, ok_ret, ok_ok, ok_new, ok_ite, ok_ite2, oks_ite, oks_bnd, oks_seq, nxt_next, nxt_ret, oks_nil, oks_ok, oks_name, zbin, zun, zcons, znil, zlst, zlstW, ztup, ztupW, zb, one1, two2, zif, ztest, znot, zor, zand, zandV, zorV, zisi, zvar_eq, zv_non, zv_bl, zv_int, zv_str, zv_tup, zv_fz, zv_ref, zv_obj, sif, sret, sasg, sexpr, zfun, zcall, gId, zasB, zslice, zpart, zasI, List.getD_cons_zero, List.getD_cons_succ, List.set_cons_zero, List.set_cons_succ, if_true, if_false, Bool.not_true, Bool.not_false, Bool.false_eq_true, List.length_cons, List.length_nil, and_self, Nat.zero_add, Nat.reduceAdd, ite_true, ite_false, reduceIte, reduceCtorEq, true_and, and_true, e2]
    exact Gro.refl _
  | true =>
    have e2 : sOk h1 t = (its h1 t).all ist := by unfold sOk; rw [q]; rfl
    have L := zlc_pure (vs := [3]) (mi := zit (zvar 1)) (i0 := 3) (nt := fun _ => ret true) (me := zfun (zcons (zvar 3) znil) znil (zcall 1 0 gId Ft)) (ρ := [some (.ref n), some t, some d, x]) (t := fun _ => true) (e := fun w => .bl (ist w))
      (show Ok (zit (zvar 1) [some (.ref n), some t, some d, x] h1) (ItP h1 (its h1 t)) by unfold zit; simp only [ok_bnd, ok_ret, ok_ok, ok_new, ok_ite, ok_ite2, oks_ite, oks_bnd, oks_seq, nxt_next, nxt_ret, oks_nil, oks_ok, oks_name, zbin, zun, zcons, znil, zlst, zlstW, ztup, ztupW, zb, one1, two2, zif, ztest, znot, zor, zand, zandV, zorV, zisi, zvar_eq, zv_non, zv_bl, zv_int, zv_str, zv_tup, zv_fz, zv_ref, zv_obj, sif, sret, sasg, sexpr, zfun, zcall, gId, zasB, zslice, zpart, zasI, List.getD_cons_zero, List.getD_cons_succ, List.set_cons_zero, List.set_cons_succ, if_true, if_false, Bool.not_true, Bool.not_false, Bool.false_eq_true, List.length_cons, List.length_nil, and_self, Nat.zero_add, Nat.reduceAdd, ite_true, ite_false, reduceIte, reduceCtorEq, true_and, and_true, zt]; exact zit_seq r.rd q) r.le
      (fun w hw h' g => ⟨rfl, Gro.refl _⟩)
      (fun w hw h' g _ => by
        show Ok (zfun (zcons (zvar 3) znil) znil (zcall 1 0 gId Ft) [some (.ref n), some t, some d, some w] h') _
        simp only [ok_bnd, ok_ret, ok_ok, ok_new, ok_ite, ok_ite2, oks_ite, oks_bnd, oks_seq, nxt_next, nxt_ret, oks_nil, oks_ok, oks_name, zbin, zun, zcons, znil, zlst, zlstW, ztup, ztupW, zb, one1, two2, zif, ztest, znot, zor, zand, zandV, zorV, zisi, zvar_eq, zv_non, zv_bl, zv_int, zv_str, zv_tup, zv_fz, zv_ref, zv_obj, sif, sret, sasg, sexpr, zfun, zcall, gId, zasB, zslice, zpart, zasI, List.getD_cons_zero, List.getD_cons_succ, List.set_cons_zero, List.set_cons_succ, if_true, if_false, Bool.not_true, Bool.not_false, Bool.false_eq_true, List.length_cons, List.length_nil, and_self, Nat.zero_add, Nat.reduceAdd, ite_true, ite_false, reduceIte, reduceCtorEq, true_and, and_true, (r.el w hw).zv]
        exact ht ((r.el w hw).gro g))
    simp only [ok_bnd, ok_ret, ok_ok, ok_new, ok_ite, ok_ite2, oks_ite, oks_bnd, oks_seq, nxt_next, nxt_ret, oks_nil, oks_ok, oks_name, zbin, zun, zcons, znil, zlst, zlstW, ztup, ztupW, zb, one1, two2, zif, ztest, znot, zor, zand, zandV, zorV, zisi, zvar_eq, zv_non, zv_bl, zv_int, zv_str, zv_tup, zv_fz, zv_ref, zv_obj, sif, sret, sasg, sexpr, zfun, zcall, gId, zasB, zslice, zpart, zasI, List.getD_cons_zero, List.getD_cons_succ, List.set_cons_zero, List.set_cons_succ, if_true, if_false, Bool.not_true, Bool.not_false, Bool.false_eq_true, List.length_cons, List.length_nil, and_self, Nat.zero_add, Nat.reduceAdd, ite_true, ite_false, reduceIte, reduceCtorEq, true_and, and_true, Bool.not_true]
    refine L.imp fun a h2 ⟨m, ea, em, g⟩ => ?_
    subst ea
    rw [filter_true] at em
    have e5 : zallB (.ref m) h2 = .ok (.bl ((its h1 t).all ist)) h2 := by
      have : ((its h1 t).map ist).all (fun k => k) = (its h1 t).all ist := by rw [List.all_map]; rfl
      simp [zallB, bnd, zseq, em, allB_map, ret, this]
    simp only [ok_bnd, ok_ret, ok_ok, ok_new, ok_ite, ok_ite2, oks_ite, oks_bnd, oks_seq, nxt_next, nxt_ret, oks_nil, oks_ok, oks_name, zbin, zun, zcons, znil, zlst, zlstW, ztup, ztupW, zb, one1, two2, zif, ztest, znot, zor, zand, zandV, zorV, zisi, zvar_eq, zv_non, zv_bl, zv_int, zv_str, zv_tup, zv_fz, zv_ref, zv_obj, sif, sret, sasg, sexpr, zfun, zcall, gId, zasB, zslice, zpart, zasI, List.getD_cons_zero, List.getD_cons_succ, List.set_cons_zero, List.set_cons_succ, if_true, if_false, Bool.not_true, Bool.not_false, Bool.false_eq_true, List.length_cons, List.length_nil, and_self, Nat.zero_add, Nat.reduceAdd, ite_true, ite_false, reduceIte, reduceCtorEq, true_and, and_true, e5, e2]
    exact g
theorem rc2_spec (hw : WordOk C Fw) {h : Hz} {d : W} {x y z : Option W} (r : Rd C h d) : Ok (rc2 Fw [x, y, some d, z] h) fun a h' => a = (!memS three d) ∧ h' = h := by
  simp only [ok_bnd, ok_ret, ok_ok, ok_new, ok_ite, ok_ite2, oks_ite, oks_bnd, oks_seq, nxt_next, nxt_ret, oks_nil, oks_ok, oks_name, zbin, zun, zcons, znil, zlst, zlstW, ztup, ztupW, zb, one1, two2, zif, ztest, znot, zor, zand, zandV, zorV, zisi, zvar_eq, zv_non, zv_bl, zv_int, zv_str, zv_tup, zv_fz, zv_ref, zv_obj, sif, sret, sasg, sexpr, zfun, zcall, gId, zasB, zslice, zpart, zasI, List.getD_cons_zero, List.getD_cons_succ, List.set_cons_zero, List.set_cons_succ, if_true, if_false, Bool.not_true, Bool.not_false, Bool.false_eq_true, List.length_cons, List.length_nil, and_self, Nat.zero_add, Nat.reduceAdd, ite_true, ite_false, reduceIte, reduceCtorEq, true_and, and_true, r.zv]
  refine (hw (ts := three) r).imp fun a h1 ⟨ea, eh⟩ => ?_
  subst ea eh
  simp only [ok_bnd, ok_ret, ok_ok, ok_new, ok_ite, ok_ite2, oks_ite, oks_bnd, oks_seq, nxt_next, nxt_ret, oks_nil, oks_ok, oks_name, zbin, zun, zcons, znil, zlst, zlstW, ztup, ztupW, zb, one1, two2, zif, ztest, znot, zor, zand, zandV, zorV, zisi, zvar_eq, zv_non, zv_bl, zv_int, zv_str, zv_tup, zv_fz, zv_ref, zv_obj, sif, sret, sasg, sexpr, zfun, zcall, gId, zasB, zslice, zpart, zasI, List.getD_cons_zero, List.getD_cons_succ, List.set_cons_zero, List.set_cons_succ, if_true, if_false, Bool.not_true, Bool.not_false, Bool.false_eq_true, List.length_cons, List.length_nil, and_self, Nat.zero_add, Nat.reduceAdd, ite_true, ite_false, reduceIte, reduceCtorEq, true_and, and_true]
abbrev rs1 (ec ef k : Nat) (Fq Ft : List W → M W) : MS := sif (rc1 Fq Ft) (sseq (gK k (sraise ec ef (zcons (fun _ => ret (.str [116, 101, 115, 116, 115])) znil))) snil) snil
abbrev rs2 (ec ef k : Nat) (Fw : List W → M W) : MS := sif (rc2 Fw) (sseq (gK k (sraise ec ef (zcons (fun _ => ret (.str [100, 101, 101, 100])) znil))) snil) snil
abbrev rs3 (c f1 f2 f3 : Nat) (cs : List Nat) (Fx : List W → M W) : MS := (sseq (sfld [c] f1 (zvar 0) (zb (one1 ztuple) (zcons (zvar 1) znil))) (sseq (sfld [c] f2 (zvar 0) (zvar 2)) (sseq (sfld cs f3 (zvar 0) (zfun (zcons (zfld [c] f1 (zvar 0)) (zcons (zvar 2) znil)) znil (zcall 2 0 gId Fx))) snil)))
theorem row_eq {ws : List W} {h : Hz} : runZ 4 (rowB c f1 f2 f3 ec ef cs Fq Fw Ft Fx k) ws h = endZ (sseq (rs1 ec ef k Fq Ft) (sseq (rs2 ec ef k Fw) (rs3 c f1 f2 f3 cs Fx)) (startZ 4 ws) h) := rfl
theorem row_bad1 (hq : SeqOk C Fq) (ht : TestOk C Ft) {s : Nat} {h : Hz} {t d : W} (r : TV C h t) (q : sOk h t = false) : ∃ h', runZ 4 (rowB c f1 f2 f3 ec ef cs Fq Fw Ft Fx (k + 1)) [.ref s, t, d] h = .exc ec [(ef, .str tTESTS)] h' ∧ Gro h h' := by
  obtain ⟨h1, e, g⟩ := sif_at (m := sseq (gK (k + 1) (sraise ec ef (zcons (fun _ => ret (.str [116, 101, 115, 116, 115])) znil))) snil) (k := snil) (rc1_spec hq ht (n := s) (d := d) (x := none) r)
  rw [q] at e
  have e : rs1 ec ef (k + 1) Fq Ft [some (.ref s), some t, some d, none] h = .exc ec [(ef, .str tTESTS)] [some (.ref s), some t, some d, none] h1 := e
  refine ⟨h1, ?_, g⟩
  rw [row_eq]
  have : startZ 4 [.ref s, t, d] = [some (.ref s), some t, some d, none] := rfl
  rw [this, sseq_exc e]
  rfl
theorem row_go (hq : SeqOk C Fq) (ht : TestOk C Ft) {s : Nat} {h : Hz} {t d : W} (r : TV C h t) (q : sOk h t = true) : ∃ h', runZ 4 (rowB c f1 f2 f3 ec ef cs Fq Fw Ft Fx (k + 1)) [.ref s, t, d] h = endZ (sseq (rs2 ec ef (k + 1) Fw) (rs3 c f1 f2 f3 cs Fx) [some (.ref s), some t, some d, none] h') ∧ Gro h h' := by
  obtain ⟨h1, e, g⟩ := sif_at (m := sseq (gK (k + 1) (sraise ec ef (zcons (fun _ => ret (.str [116, 101, 115, 116, 115])) znil))) snil) (k := snil) (rc1_spec hq ht (n := s) (d := d) (x := none) r)
  rw [q] at e
  have e : rs1 ec ef (k + 1) Fq Ft [some (.ref s), some t, some d, none] h = .ok .next [some (.ref s), some t, some d, none] h1 := e
  refine ⟨h1, ?_, g⟩
  rw [row_eq]
  have : startZ 4 [.ref s, t, d] = [some (.ref s), some t, some d, none] := rfl
  rw [this, sseq_next e]
theorem row_bad2 (hq : SeqOk C Fq) (ht : TestOk C Ft) (hw : WordOk C Fw) {s : Nat} {h : Hz} {t d : W} (r : TV C h t) (rd : Rd C h d) (q : sOk h t = true) (q2 : memS three d = false) : ∃ h', runZ 4 (rowB c f1 f2 f3 ec ef cs Fq Fw Ft Fx (k + 1)) [.ref s, t, d] h = .exc ec [(ef, .str tDEED)] h' ∧ Gro h h' := by
  obtain ⟨h1, e1, g⟩ := row_go (c := c) (f1 := f1) (f2 := f2) (f3 := f3) (ec := ec) (ef := ef) (k := k) (cs := cs) (Fw := Fw) (Fx := Fx) hq ht (s := s) (d := d) r q
  obtain ⟨h2, e, eh⟩ := sif_at (m := sseq (gK (k + 1) (sraise ec ef (zcons (fun _ => ret (.str [100, 101, 101, 100])) znil))) snil) (k := snil) (rc2_spec hw (x := some (.ref s)) (y := some t) (z := none) (rd.gro g))
  subst eh
  rw [q2] at e
  have e : rs2 ec ef (k + 1) Fw [some (.ref s), some t, some d, none] h2 = .exc ec [(ef, .str tDEED)] [some (.ref s), some t, some d, none] h2 := e
  refine ⟨h2, ?_, g⟩
  rw [e1, sseq_exc e]
  rfl
theorem row_good (hq : SeqOk C Fq) (ht : TestOk C Ft) (hw : WordOk C Fw) (hx : TextOk Fx) (n12 : Nat.beq f1 f2 = false) (n13 : Nat.beq f1 f3 = false) (n23 : Nat.beq f2 f3 = false) (hcs : cs.contains c = true) {s : Nat} {h : Hz} {t d : W} (r : TV C h t) (rd : Rd C h d) (q : sOk h t = true) (q2 : memS three d = true) (hs : h.get s = some (.ins c [])) :
    ∃ xs y, asStrs (its h t) = some xs ∧ d = .str y ∧ Ok (runZ 4 (rowB c f1 f2 f3 ec ef cs Fq Fw Ft Fx (k + 1)) [.ref s, t, d] h) fun a h' => a = .non ∧ h'.get s = some (.ins c [(f1, .tup (its h t)), (f2, d), (f3, .str (rowText xs y))]) ∧ GroB s h h' := by
  obtain ⟨h1, e1, g⟩ := row_go (c := c) (f1 := f1) (f2 := f2) (f3 := f3) (ec := ec) (ef := ef) (k := k) (cs := cs) (Fw := Fw) (Fx := Fx) hq ht (s := s) (d := d) r q
  obtain ⟨h2, e, eh⟩ := sif_at (m := sseq (gK (k + 1) (sraise ec ef (zcons (fun _ => ret (.str [100, 101, 101, 100])) znil))) snil) (k := snil) (rc2_spec hw (x := some (.ref s)) (y := some t) (z := none) (rd.gro g))
  subst eh
  rw [q2] at e
  have e : rs2 ec ef (k + 1) Fw [some (.ref s), some t, some d, none] h2 = .ok .next [some (.ref s), some t, some d, none] h2 := e
  rw [e1, sseq_next e]
  have qs : isSeq t = true := by unfold sOk at q; rw [Bool.and_eq_true] at q; exact q.1
  have qa : (its h t).all ist = true := by unfold sOk at q; rw [Bool.and_eq_true] at q; exact q.2
  obtain ⟨y, rfl⟩ : ∃ y, d = .str y := by cases d with | str y => exact ⟨y, rfl⟩ | _ => cases q2
  obtain ⟨xs, ex, lx, nx⟩ := asStrs_ist r.el qa
  refine ⟨xs, y, ex, rfl, ?_⟩
  have rt := r.gro g
  have et := tup_seq rt.rd qs
  rw [its_gro r.rd g] at et
  have hs1 := g.get hs
  have c1 : [c].contains c = true := by simp
  have gs1 : (h2.put s (.ins c [(f1, .tup (its h t))])).get s = some (.ins c [(f1, .tup (its h t))]) := Hz.get_put_self hs1
  have gs2 : ((h2.put s (.ins c [(f1, .tup (its h t))])).put s (.ins c [(f1, .tup (its h t)), (f2, .str y)])).get s = some (.ins c [(f1, .tup (its h t)), (f2, .str y)]) := Hz.get_put_self gs1
  have gb := ((g.b s).put (c := .ins c [(f1, .tup (its h t))]) hs1).put (c := .ins c [(f1, .tup (its h t)), (f2, .str y)]) gs1
  generalize eh3 : (h2.put s (.ins c [(f1, .tup (its h t))])).put s (.ins c [(f1, .tup (its h t)), (f2, .str y)]) = h3 at gs2 gb
  have fw1 := fldW_ok (f := f1) (y := .tup (its h t)) c1 hs1 (by decide)
  have fw2 := fldW_ok (f := f2) (y := .str y) c1 gs1 (Nat.le_of_ble_eq_true rfl)
  have fz := zfld_ok (f := f1) (y := .tup (its h t)) c1 gs2 (by simp [List.lookup])
  have p1 : putW f1 (.tup (its h t)) [] = [(f1, .tup (its h t))] := rfl
  have p2 : putW f2 (.str y) [(f1, .tup (its h t))] = [(f1, .tup (its h t)), (f2, .str y)] := by simp [putW, n12]
  have p3 : ∀ z, putW f3 z [(f1, .tup (its h t)), (f2, .str y)] = [(f1, .tup (its h t)), (f2, .str y), (f3, z)] := fun z => by simp [putW, n13, n23]
  rw [p1] at fw1
  rw [p2, eh3] at fw2
  refine ok_end ?_
  have le := r.le
  simp only [ok_bnd, ok_ret, ok_ok, ok_new, ok_ite, ok_ite2, oks_ite, oks_bnd, oks_seq, nxt_next, nxt_ret, oks_nil, oks_ok, oks_name, zbin, zun, zcons, znil, zlst, zlstW, ztup, ztupW, zb, one1, two2, zif, ztest, znot, zor, zand, zandV, zorV, zisi, zvar_eq, zv_non, zv_bl, zv_int, zv_str, zv_tup, zv_fz, zv_ref, zv_obj, sif, sret, sasg, sexpr, zfun, zcall, gId, zasB, zslice, zpart, zasI, List.getD_cons_zero, List.getD_cons_succ, List.set_cons_zero, List.set_cons_succ, if_true, if_false, Bool.not_true, Bool.not_false, Bool.false_eq_true, List.length_cons, List.length_nil, and_self, Nat.zero_add, Nat.reduceAdd, ite_true, ite_false, reduceIte, reduceCtorEq, true_and, and_true, sfld, r.rd.zv, et, fw1, fw2, zfld, fz]
  refine (hx (h := h3) (s := y) ex nx (by omega) r.le rd).imp fun a h4 ⟨ez, eh⟩ => ?_
  subst ez eh
  simp only [ok_bnd, ok_ret, ok_ok, ok_new, ok_ite, ok_ite2, oks_ite, oks_bnd, oks_seq, nxt_next, nxt_ret, oks_nil, oks_ok, oks_name, zbin, zun, zcons, znil, zlst, zlstW, ztup, ztupW, zb, one1, two2, zif, ztest, znot, zor, zand, zandV, zorV, zisi, zvar_eq, zv_non, zv_bl, zv_int, zv_str, zv_tup, zv_fz, zv_ref, zv_obj, sif, sret, sasg, sexpr, zfun, zcall, gId, zasB, zslice, zpart, zasI, List.getD_cons_zero, List.getD_cons_succ, List.set_cons_zero, List.set_cons_succ, if_true, if_false, Bool.not_true, Bool.not_false, Bool.false_eq_true, List.length_cons, List.length_nil, and_self, Nat.zero_add, Nat.reduceAdd, ite_true, ite_false, reduceIte, reduceCtorEq, true_and, and_true, fldW_ok hcs gs2 (Nat.le_of_ble_eq_true rfl), p3]
  exact ⟨Hz.get_put_self gs2, gb.put gs2⟩
/-- a new row, frozen -/
theorem mk_row {F : List W → M W} (hF : F = runZ 4 (rowB c f1 f2 f3 ec ef cs Fq Fw Ft Fx (k + 1))) (hq : SeqOk C Fq) (ht : TestOk C Ft) (hw : WordOk C Fw) (hx : TextOk Fx) (n12 : Nat.beq f1 f2 = false) (n13 : Nat.beq f1 f3 = false) (n23 : Nat.beq f2 f3 = false) (hcs : cs.contains c = true)
    {h : Hz} {t d : W} (r : TV C h t) (rd : Rd C h d) (q : sOk h t = true) (q2 : memS three d = true) :
    ∃ xs y, asStrs (its h t) = some xs ∧ d = .str y ∧ Ok (zmkW true c 2 0 gId F [t, d] [] h) fun a h' => a = .obj c [(f1, .tup (its h t)), (f2, d), (f3, .str (rowText xs y))] ∧ Gro h h' := by
  have gp := Gro.push h (.ins c [])
  have q' : sOk (h.push (.ins c [])) t = true := by unfold sOk at q ⊢; rw [its_gro r.rd gp]; exact q
  obtain ⟨xs, y, ex, ey, R⟩ := row_good (ec := ec) (ef := ef) (k := k) (cs := cs) hq ht hw hx n12 n13 n23 hcs (s := h.n) (r.gro gp) (rd.gro gp) q' q2 (Hz.get_push_self _ _)
  rw [its_gro r.rd gp] at ex
  refine ⟨xs, y, ex, ey, ?_⟩
  obtain ⟨a, h', e, ea, efs, gb⟩ := R.ex
  subst ea
  rw [its_gro r.rd gp] at efs
  have e1 : zmkW true c 2 0 gId F [t, d] [] h = .ok (.obj c [(f1, .tup (its h t)), (f2, d), (f3, .str (rowText xs y))]) (h'.put h.n .dead) := by
    unfold zmkW
    have : zcall (2 + 1) 0 gId F [.ref h.n, t, d] [] (h.push (.ins c [])) = .ok .non h' := by rw [hF]; exact e
    rw [this]
    dsimp only
    rw [efs]
    rfl
  have g0 : Gro h h' := ⟨fun j hj => (gb.same j (Nat.lt_succ_of_lt hj) (Nat.ne_of_lt hj)).trans (gp.same j hj), Nat.le_trans gp.size gb.size⟩
  rw [e1]
  exact ⟨rfl, g0.put (Nat.le_refl _)⟩
end
end Z

set_option Elab.async false
set_option linter.all false
set_option maxRecDepth 100000
set_option maxHeartbeats 4000000
set_option autoImplicit false
namespace Z
section
variable {g : W → MS} {m : MS} {ws : List W} {h0 : Hz} {I : Nat → Ev → Hz → Prop}
def StepR (g : W → MS) (m : MS) (ws : List W) (h0 : Hz) (I : Nat → Ev → Hz → Prop) : Prop := ∀ i w, ws[i]? = some w → ∀ ρ h, Gro h0 h → I i ρ h → OkS (g w ρ h) fun f ρ1 h1 => f = .next ∧ OkS (m ρ1 h1) fun f2 ρ2 h2 => f2 = .next ∧ I (i + 1) ρ2 h2 ∧ Gro h h2
theorem floop_read {k : MS} {w : W} {i : Nat} {ρ : Ev} {h : Hz} {Q : Fl → Ev → Hz → Prop} (S : StepR g m ws h0 I) (e : ws[i]? = some w) (gr : Gro h0 h) (j : I i ρ h) (nx : ∀ ρ2 h2, I (i + 1) ρ2 h2 → Gro h h2 → OkS (k ρ2 h2) Q) : OkS (floop g m k w ρ h) Q := by
  unfold floop
  have q := S i w e ρ h gr j
  cases e1 : g w ρ h with
  | ok f ρ1 h1 =>
    rw [e1] at q
    obtain ⟨ef, q⟩ := q
    subst ef
    dsimp only
    cases e2 : m ρ1 h1 with
    | ok f2 ρ2 h2 =>
      rw [e2] at q
      obtain ⟨ef, q, g2⟩ := q
      subst ef
      exact nx ρ2 h2 q g2
    | exc c fs ρ2 h2 => rw [e2] at q; exact False.elim q
    | err => rw [e2] at q; exact False.elim q
  | exc c fs ρ1 h1 => rw [e1] at q; exact False.elim q
  | err => rw [e1] at q; exact False.elim q
theorem loopF_read (S : StepR g m ws h0 I) : ∀ (rest : List W) (i : Nat) (ρ : Ev) (h : Hz), ws.drop i = rest → Gro h0 h → I i ρ h → i ≤ ws.length → OkS (sloopF g m rest ρ h) fun f ρ' h' => f = .next ∧ I ws.length ρ' h' ∧ Gro h0 h'
  | [], i, ρ, h, e, gr, j, hi => by
    have : i = ws.length := by
      have q := congrArg List.length e
      rw [List.length_drop, List.length_nil] at q
      omega
    subst this
    exact ⟨rfl, j, gr⟩
  | w :: rest, i, ρ, h, e, gr, j, hi => by
    have hl : i < ws.length := by
      have q := congrArg List.length e
      rw [List.length_drop, List.length_cons] at q
      omega
    rw [List.drop_eq_getElem_cons hl] at e
    injection e with e1 e2
    refine floop_read S (i := i) (by rw [List.getElem?_eq_getElem hl, e1]) gr j fun ρ2 h2 j2 g2 => ?_
    exact loopF_read S rest (i + 1) ρ2 h2 e2 (gr.trans g2) j2 hl
theorem loopL_read {n : Nat} (hz : h0.get n = some (.lst ws)) (S : StepR g m ws h0 I) : ∀ (fuel : List W) (i : Nat) (ρ : Ev) (h : Hz), i + fuel.length = ws.length → Gro h0 h → I i ρ h → OkS (sloopL false g m n fuel i ρ h) fun f ρ' h' => f = .next ∧ I ws.length ρ' h' ∧ Gro h0 h'
  | [], i, ρ, h, e, gr, j => by
    have hi : i = ws.length := by simpa using e
    unfold sloopL
    rw [gr.get hz]
    dsimp only
    rw [List.getElem?_eq_none (by omega)]
    subst hi
    exact ⟨rfl, j, gr⟩
  | x :: fuel, i, ρ, h, e, gr, j => by
    have hl : i < ws.length := by rw [List.length_cons] at e; omega
    unfold sloopL
    rw [gr.get hz]
    dsimp only
    rw [List.getElem?_eq_getElem hl]
    refine floop_read S (i := i) (w := ws[i]) (List.getElem?_eq_getElem hl) gr j fun ρ2 h2 j2 g2 => ?_
    exact loopL_read hz S fuel (i + 1) ρ2 h2 (by rw [List.length_cons] at e; omega) (gr.trans g2) j2
/-- a loop over a list or a tuple that only reads -/
theorem for_read {C : List Nat} {mi : Ev → M Itz} {t : W} {ρ : Ev} {h : Hz} (r : Rd C h t) (s : isSeq t = true) (hm : mi ρ h = zitOf t h) (S : StepR g m (its h t) h I) (j : I 0 ρ h) : OkS (sfor mi g m ρ h) fun f ρ' h' => f = .next ∧ I (its h t).length ρ' h' ∧ Gro h h' := by
  cases t with
  | tup ws =>
    have e : mi ρ h = .ok (.fix ws) h := hm
    rw [for_fix e]
    exact loopF_read S ws 0 ρ h rfl (Gro.refl _) j (Nat.zero_le _)
  | ref n =>
    obtain ⟨xs, e⟩ := r
    have e1 : zitOf (.ref n) h = .ok (.live false n xs) h := by
      show (match h.get n with | some (.lst xs) => R.ok (Itz.live false n xs) h | _ => .err) = _
      rw [e]
    have e2 : its h (.ref n) = xs := by
      show (match h.get n with | some (.lst ws) => ws | _ => []) = _
      rw [e]
    rw [e2] at S ⊢
    unfold sfor sbnd
    rw [hm, e1]
    exact loopL_read e S xs 0 ρ h (Nat.zero_add _) (Gro.refl _) j
  | _ => first | exact False.elim r | cases s
end
def rtextB (cs : List Nat) (f3 : Nat) : MS := (sseq (sasg (zvar 0) (gname 2)) (sseq (sfor (zit (zvar 1)) (gname 3) (sseq (sasg (zjoined (zpartJ (zfmt (zvar 2)) (zpartJ (fun _ => ret (.str [10])) (zpartJ (zfmt (zfld cs f3 (zvar 3))) (fun acc _ => ret acc))))) (gname 2)) snil)) (sseq (sret (zvar 2)) snil)))
def rowTx (f : Nat) : W → List Nat
  | .obj _ fs => match fs.lookup f with
    | some (.str z) => z
    | _ => []
  | _ => []
/-- a row that has a text -/
def RowT (c f : Nat) (w : W) : Prop := ∀ d fs, w = .obj d fs → Nat.beq d c = true → ∃ z, fs.lookup f = some (.str z) ∧ z.length ≤ 4096
def rdText (f : Nat) (w : List Nat) (xs : List W) : List Nat := xs.foldl (fun acc x => acc ++ [10] ++ rowTx f x) w
def RtxOk (C : List Nat) (cr f3 : Nat) (F : List W → M W) : Prop := ∀ {h : Hz} {w : List Nat} {t : W}, w.length ≤ 64 → TV C h t → isSeq t = true → (its h t).all (isCls cr) = true → (∀ x ∈ its h t, RowT cr f3 x) → Ok (F [.str w, t] h) fun a h' => a = .str (rdText f3 w (its h t)) ∧ Gro h h'
theorem rtx_ok {C cs : List Nat} {cr f3 : Nat} (hc : cs.contains cr = true) : RtxOk C cr f3 (runZ 4 (rtextB cs f3)) := fun {h w t} lw r sq al rx => by
  show Ok (endZ (rtextB cs f3 [some (.str w), some t, none, none] h)) _
  refine ok_end ?_
  unfold rtextB
  rw [oks_seq]
  simp only [ok_bnd, ok_ret, ok_ok, ok_new, ok_ite, ok_ite2, oks_ite, oks_bnd, oks_seq, nxt_next, nxt_ret, oks_nil, oks_ok, oks_name, zbin, zun, zcons, znil, zlst, zlstW, ztup, ztupW, zb, one1, two2, zif, ztest, znot, zor, zand, zandV, zorV, zisi, zvar_eq, zv_non, zv_bl, zv_int, zv_str, zv_tup, zv_fz, zv_ref, zv_obj, sif, sret, sasg, sexpr, zfun, zcall, gId, zasB, zslice, zpart, zasI, List.getD_cons_zero, List.getD_cons_succ, List.set_cons_zero, List.set_cons_succ, if_true, if_false, Bool.not_true, Bool.not_false, Bool.false_eq_true, List.length_cons, List.length_nil, and_self, Nat.zero_add, Nat.reduceAdd, ite_true, ite_false, reduceIte, reduceCtorEq, true_and, and_true]
  have lm : 100000 ≤ LIM := by decide
  have le := r.le
  have L := for_read (I := fun i ρ h' => ∃ x3, ρ = [some (.str w), some t, some (.str (rdText f3 w ((its h t).take i))), x3] ∧ (rdText f3 w ((its h t).take i)).length ≤ 64 + 4097 * i) (mi := zit (zvar 1)) (g := gname 3) (m := (sseq (sasg (zjoined (zpartJ (zfmt (zvar 2)) (zpartJ (fun _ => ret (.str [10])) (zpartJ (zfmt (zfld cs f3 (zvar 3))) (fun acc _ => ret acc))))) (gname 2)) snil)) (ρ := [some (.str w), some t, some (.str w), none]) r.rd sq (by unfold zit; simp only [bnd, zvar_eq, List.getD_cons_succ, List.getD_cons_zero, r.rd.zv, ret]) (fun i x ex ρ h1 g1 ⟨x3, er, lr⟩ => by
      subst er
      have hi : i < (its h t).length := by
        rcases Nat.lt_or_ge i (its h t).length with q | q
        · exact q
        · rw [List.getElem?_eq_none q] at ex; cases ex
      have hm : x ∈ its h t := List.mem_of_getElem? ex
      have ax : isCls cr x = true := List.all_eq_true.mp al x hm
      cases x with
      | obj d fs =>
        obtain ⟨z, ez, lz⟩ := rx _ hm d fs rfl ax
        have ed : d = cr := Nat.eq_of_beq_eq_true ax
        subst ed
        have et : (its h t).take (i + 1) = (its h t).take i ++ [.obj d fs] := by rw [List.take_succ, ex]; rfl
        have ef : rdText f3 w ((its h t).take (i + 1)) = rdText f3 w ((its h t).take i) ++ [10] ++ z := by
          unfold rdText
          rw [et, List.foldl_append]
          show _ ++ [10] ++ rowTx f3 (.obj d fs) = _
          have : rowTx f3 (.obj d fs) = z := by show (match fs.lookup f3 with | some (.str z) => z | _ => []) = z; rw [ez]
          rw [this]
        have lf : (rdText f3 w ((its h t).take (i + 1))).length ≤ 64 + 4097 * (i + 1) := by rw [ef, List.length_append, List.length_append, List.length_singleton]; omega
        refine ⟨rfl, ?_⟩
        generalize rdText f3 w ((its h t).take i) = u at lr ef
        have e1 : zasS (.str u) = ret (.str u) := by show (if u.length ≤ LIM then ret (W.str u) else bad) = _; rw [if_pos (by omega)]
        have e2 : zasS (.str z) = ret (.str z) := by show (if z.length ≤ LIM then ret (W.str z) else bad) = _; rw [if_pos (by omega)]
        have l1 : u.length ≤ LIM := by omega
        have l2 : u.length + 1 ≤ LIM := by omega
        have l3 : u.length + 1 + z.length ≤ LIM := by omega
        show OkS ((sseq (sasg (zjoined (zpartJ (zfmt (zvar 2)) (zpartJ (fun _ => ret (.str [10])) (zpartJ (zfmt (zfld cs f3 (zvar 3))) (fun acc _ => ret acc))))) (gname 2)) snil) [some (.str w), some t, some (.str u), some (.obj d fs)] h1) _
        simp only [ok_bnd, ok_ret, ok_ok, ok_new, ok_ite, ok_ite2, oks_ite, oks_bnd, oks_seq, nxt_next, nxt_ret, oks_nil, oks_ok, oks_name, zbin, zun, zcons, znil, zlst, zlstW, ztup, ztupW, zb, one1, two2, zif, ztest, znot, zor, zand, zandV, zorV, zisi, zvar_eq, zv_non, zv_bl, zv_int, zv_str, zv_tup, zv_fz, zv_ref, zv_obj, sif, sret, sasg, sexpr, zfun, zcall, gId, zasB, zslice, zpart, zasI, List.getD_cons_zero, List.getD_cons_succ, List.set_cons_zero, List.set_cons_succ, if_true, if_false, Bool.not_true, Bool.not_false, Bool.false_eq_true, List.length_cons, List.length_nil, and_self, Nat.zero_add, Nat.reduceAdd, ite_true, ite_false, reduceIte, reduceCtorEq, true_and, and_true, zjoined, zpartJ, zfmt, e1, e2, l1, l2, l3, zfld, zfld_obj hc ez, List.length_append, List.nil_append]
        refine ⟨⟨some (.obj d fs), ?_, lf⟩, Gro.refl _⟩
        rw [ef]
      | _ => cases ax) ⟨none, rfl, by show w.length ≤ _; omega⟩
  refine L.imp fun f ρ h1 ⟨ef, ⟨x3, er, lr⟩, g⟩ => ?_
  subst ef er
  rw [List.take_length]
  simp only [ok_bnd, ok_ret, ok_ok, ok_new, ok_ite, ok_ite2, oks_ite, oks_bnd, oks_seq, nxt_next, nxt_ret, oks_nil, oks_ok, oks_name, zbin, zun, zcons, znil, zlst, zlstW, ztup, ztupW, zb, one1, two2, zif, ztest, znot, zor, zand, zandV, zorV, zisi, zvar_eq, zv_non, zv_bl, zv_int, zv_str, zv_tup, zv_fz, zv_ref, zv_obj, sif, sret, sasg, sexpr, zfun, zcall, gId, zasB, zslice, zpart, zasI, List.getD_cons_zero, List.getD_cons_succ, List.set_cons_zero, List.set_cons_succ, if_true, if_false, Bool.not_true, Bool.not_false, Bool.false_eq_true, List.length_cons, List.length_nil, and_self, Nat.zero_add, Nat.reduceAdd, ite_true, ite_false, reduceIte, reduceCtorEq, true_and, and_true]
  exact g
def readerB (C : List Nat) (cr c f1 f2 f3 ec ef : Nat) (cs : List Nat) (Fq Fw Fr : List W → M W) (k : Nat) : MS := (sseq (sif (znot (ztest (zfun (zcons (zvar 1) (zcons (fun _ => ret (W.tup [.str [117, 112], .str [100, 111, 119, 110]])) znil)) znil (zcall 2 0 gId Fw)))) (sseq (gK k (sraise ec ef (zcons (fun _ => ret (.str [119, 97, 121])) znil))) snil) snil) (sseq (sif (zor (znot (ztest (zfun (zcons (zvar 2) znil) znil (zcall 1 0 gId Fq)))) (znot (ztest (zb (one1 zallB) (zcons (zlc [3] (zit (zvar 2)) (.nm 3) (fun _ => ret true) (zisi (isiF C [] [cr]) (zvar 3))) znil))))) (sseq (gK k (sraise ec ef (zcons (fun _ => ret (.str [114, 111, 119, 115])) znil))) snil) snil) (sseq (sfld [c] f1 (zvar 0) (zvar 1)) (sseq (sfld [c] f2 (zvar 0) (zb (one1 ztuple) (zcons (zvar 2) znil))) (sseq (sfld cs f3 (zvar 0) (zfun (zcons (zvar 1) (zcons (zvar 2) znil)) znil (zcall 2 0 gId Fr))) snil)))))

abbrev tWAY : List Nat := [119, 97, 121]
abbrev tROWS : List Nat := [114, 111, 119, 115]
abbrev twoW : List (List Nat) := [[117, 112], [100, 111, 119, 110]]
def rOk (cr : Nat) (h : Hz) (t : W) : Bool := isSeq t && (its h t).all (isCls cr)
def rdue (cr : Nat) (h : Hz) (w t : W) : W := if memS twoW w = true then (if rOk cr h t = true then .non else .str tROWS) else .str tWAY
theorem allB_map' {p : W → Bool} {ws : List W} : asBs (ws.map fun w => W.bl (p w)) = some (ws.map p) := by
  induction ws with
  | nil => rfl
  | cons w ws ih =>
    rw [List.map_cons, List.map_cons]
    unfold asBs
    rw [ih]
section
variable {C : List Nat} {cr c f1 f2 f3 ec ef k : Nat} {cs : List Nat} {Fq Fw Fr : List W → M W}
abbrev dc1 (Fw : List W → M W) : Ev → M Bool := znot (ztest (zfun (zcons (zvar 1) (zcons (fun _ => ret (W.tup [.str [117, 112], .str [100, 111, 119, 110]])) znil)) znil (zcall 2 0 gId Fw)))
abbrev dc2 (C : List Nat) (cr : Nat) (Fq : List W → M W) : Ev → M Bool := zor (znot (ztest (zfun (zcons (zvar 2) znil) znil (zcall 1 0 gId Fq)))) (znot (ztest (zb (one1 zallB) (zcons (zlc [3] (zit (zvar 2)) (.nm 3) (fun _ => ret true) (zisi (isiF C [] [cr]) (zvar 3))) znil))))
theorem dc1_spec (hw : WordOk C Fw) {h : Hz} {d : W} {x y z : Option W} (r : Rd C h d) : Ok (dc1 Fw [x, some d, y, z] h) fun a h' => a = (!memS twoW d) ∧ h' = h := by
  simp only [ok_bnd, ok_ret, ok_ok, ok_new, ok_ite, ok_ite2, oks_ite, oks_bnd, oks_seq, nxt_next, nxt_ret, oks_nil, oks_ok, oks_name, zbin, zun, zcons, znil, zlst, zlstW, ztup, ztupW, zb, one1, two2, zif, ztest, znot, zor, zand, zandV, zorV, zisi, zvar_eq, zv_non, zv_bl, zv_int, zv_str, zv_tup, zv_fz, zv_ref, zv_obj, sif, sret, sasg, sexpr, zfun, zcall, gId, zasB, zslice, zpart, zasI, List.getD_cons_zero, List.getD_cons_succ, List.set_cons_zero, List.set_cons_succ, if_true, if_false, Bool.not_true, Bool.not_false, Bool.false_eq_true, List.length_cons, List.length_nil, and_self, Nat.zero_add, Nat.reduceAdd, ite_true, ite_false, reduceIte, reduceCtorEq, true_and, and_true, r.zv]
  refine (hw (ts := twoW) r).imp fun a h1 ⟨ea, eh⟩ => ?_
  subst ea eh
  simp only [ok_bnd, ok_ret, ok_ok, ok_new, ok_ite, ok_ite2, oks_ite, oks_bnd, oks_seq, nxt_next, nxt_ret, oks_nil, oks_ok, oks_name, zbin, zun, zcons, znil, zlst, zlstW, ztup, ztupW, zb, one1, two2, zif, ztest, znot, zor, zand, zandV, zorV, zisi, zvar_eq, zv_non, zv_bl, zv_int, zv_str, zv_tup, zv_fz, zv_ref, zv_obj, sif, sret, sasg, sexpr, zfun, zcall, gId, zasB, zslice, zpart, zasI, List.getD_cons_zero, List.getD_cons_succ, List.set_cons_zero, List.set_cons_succ, if_true, if_false, Bool.not_true, Bool.not_false, Bool.false_eq_true, List.length_cons, List.length_nil, and_self, Nat.zero_add, Nat.reduceAdd, ite_true, ite_false, reduceIte, reduceCtorEq, true_and, and_true]
theorem dc2_spec (hq : SeqOk C Fq) {h : Hz} {t : W} {x y z : Option W} (r : TV C h t) : Ok (dc2 C cr Fq [x, y, some t, z] h) fun a h' => a = (!rOk cr h t) ∧ Gro h h' := by
  have zt := r.rd.zv
  simp only [ok_bnd, ok_ret, ok_ok, ok_new, ok_ite, ok_ite2, oks_ite, oks_bnd, oks_seq, nxt_next, nxt_ret, oks_nil, oks_ok, oks_name, zbin, zun, zcons, znil, zlst, zlstW, ztup, ztupW, zb, one1, two2, zif, ztest, znot, zor, zand, zandV, zorV, zisi, zvar_eq, zv_non, zv_bl, zv_int, zv_str, zv_tup, zv_fz, zv_ref, zv_obj, sif, sret, sasg, sexpr, zfun, zcall, gId, zasB, zslice, zpart, zasI, List.getD_cons_zero, List.getD_cons_succ, List.set_cons_zero, List.set_cons_succ, if_true, if_false, Bool.not_true, Bool.not_false, Bool.false_eq_true, List.length_cons, List.length_nil, and_self, Nat.zero_add, Nat.reduceAdd, ite_true, ite_false, reduceIte, reduceCtorEq, true_and, and_true, zt]
  refine (hq r.rd).imp fun a h1 ⟨ea, eh⟩ => ?_
  subst ea eh
  cases q : isSeq t with
  | false =>
    have e2 : rOk cr h1 t = false := by unfold rOk; rw [q]; rfl
    simp only [ok_bnd, ok_ret, ok_ok, ok_new, ok_ite, ok_ite2, oks_ite, oks_bnd, oks_seq, nxt_next, nxt_ret, oks_nil, oks_ok, oks_name, zbin, zun, zcons, znil, zlst, zlstW, ztup, ztupW, zb, one1, two2, zif, ztest, znot, zor, zand, zandV, zorV, zisi, zvar_eq, zv_non, zv_bl, zv_int, zv_str, zv_tup, zv_fz, zv_ref, zv_obj, sif, sret, sasg, sexpr, zfun, zcall, gId, zasB, zslice, zpart, zasI, List.getD_cons_zero, List.getD_cons_succ, List.set_cons_zero, List.set_cons_succ, if_true, if_false, Bool.not_true, Bool.not_false, Bool.false_eq_true, List.length_cons, List.length_nil, and_self, Nat.zero_add, Nat.reduceAdd, ite_true, ite_false, reduceIte, reduceCtorEq, true_and, and_true, e2]
    exact Gro.refl _
  | true =>
    have e2 : rOk cr h1 t = (its h1 t).all (isCls cr) := by unfold rOk; rw [q]; rfl
    have L := zlc_pure (vs := [3]) (mi := zit (zvar 2)) (i0 := 3) (nt := fun _ => ret true) (me := zisi (isiF C [] [cr]) (zvar 3)) (ρ := [x, y, some t, z]) (t := fun _ => true) (e := fun w => .bl (isCls cr w))
      (show Ok (zit (zvar 2) [x, y, some t, z] h1) (ItP h1 (its h1 t)) by unfold zit; simp only [ok_bnd, ok_ret, ok_ok, ok_new, ok_ite, ok_ite2, oks_ite, oks_bnd, oks_seq, nxt_next, nxt_ret, oks_nil, oks_ok, oks_name, zbin, zun, zcons, znil, zlst, zlstW, ztup, ztupW, zb, one1, two2, zif, ztest, znot, zor, zand, zandV, zorV, zisi, zvar_eq, zv_non, zv_bl, zv_int, zv_str, zv_tup, zv_fz, zv_ref, zv_obj, sif, sret, sasg, sexpr, zfun, zcall, gId, zasB, zslice, zpart, zasI, List.getD_cons_zero, List.getD_cons_succ, List.set_cons_zero, List.set_cons_succ, if_true, if_false, Bool.not_true, Bool.not_false, Bool.false_eq_true, List.length_cons, List.length_nil, and_self, Nat.zero_add, Nat.reduceAdd, ite_true, ite_false, reduceIte, reduceCtorEq, true_and, and_true, zt]; exact zit_seq r.rd q) r.le
      (fun w hw h' g => ⟨rfl, Gro.refl _⟩)
      (fun w hw h' g _ => by
        show Ok (zisi (isiF C [] [cr]) (zvar 3) [x, y, some t, some w] h') _
        have rw' := (r.el w hw).gro g
        simp only [ok_bnd, ok_ret, ok_ok, ok_new, ok_ite, ok_ite2, oks_ite, oks_bnd, oks_seq, nxt_next, nxt_ret, oks_nil, oks_ok, oks_name, zbin, zun, zcons, znil, zlst, zlstW, ztup, ztupW, zb, one1, two2, zif, ztest, znot, zor, zand, zandV, zorV, zisi, zvar_eq, zv_non, zv_bl, zv_int, zv_str, zv_tup, zv_fz, zv_ref, zv_obj, sif, sret, sasg, sexpr, zfun, zcall, gId, zasB, zslice, zpart, zasI, List.getD_cons_zero, List.getD_cons_succ, List.set_cons_zero, List.set_cons_succ, if_true, if_false, Bool.not_true, Bool.not_false, Bool.false_eq_true, List.length_cons, List.length_nil, and_self, Nat.zero_add, Nat.reduceAdd, ite_true, ite_false, reduceIte, reduceCtorEq, true_and, and_true, rw'.zv, isi_own rw']
        exact Gro.refl _)
    simp only [ok_bnd, ok_ret, ok_ok, ok_new, ok_ite, ok_ite2, oks_ite, oks_bnd, oks_seq, nxt_next, nxt_ret, oks_nil, oks_ok, oks_name, zbin, zun, zcons, znil, zlst, zlstW, ztup, ztupW, zb, one1, two2, zif, ztest, znot, zor, zand, zandV, zorV, zisi, zvar_eq, zv_non, zv_bl, zv_int, zv_str, zv_tup, zv_fz, zv_ref, zv_obj, sif, sret, sasg, sexpr, zfun, zcall, gId, zasB, zslice, zpart, zasI, List.getD_cons_zero, List.getD_cons_succ, List.set_cons_zero, List.set_cons_succ, if_true, if_false, Bool.not_true, Bool.not_false, Bool.false_eq_true, List.length_cons, List.length_nil, and_self, Nat.zero_add, Nat.reduceAdd, ite_true, ite_false, reduceIte, reduceCtorEq, true_and, and_true, Bool.not_true]
    refine L.imp fun a h2 ⟨m, ea, em, g⟩ => ?_
    subst ea
    rw [filter_true] at em
    have e5 : zallB (.ref m) h2 = .ok (.bl ((its h1 t).all (isCls cr))) h2 := by
      have : ((its h1 t).map (isCls cr)).all (fun k => k) = (its h1 t).all (isCls cr) := by rw [List.all_map]; rfl
      simp [zallB, bnd, zseq, em, allB_map', ret, this]
    simp only [ok_bnd, ok_ret, ok_ok, ok_new, ok_ite, ok_ite2, oks_ite, oks_bnd, oks_seq, nxt_next, nxt_ret, oks_nil, oks_ok, oks_name, zbin, zun, zcons, znil, zlst, zlstW, ztup, ztupW, zb, one1, two2, zif, ztest, znot, zor, zand, zandV, zorV, zisi, zvar_eq, zv_non, zv_bl, zv_int, zv_str, zv_tup, zv_fz, zv_ref, zv_obj, sif, sret, sasg, sexpr, zfun, zcall, gId, zasB, zslice, zpart, zasI, List.getD_cons_zero, List.getD_cons_succ, List.set_cons_zero, List.set_cons_succ, if_true, if_false, Bool.not_true, Bool.not_false, Bool.false_eq_true, List.length_cons, List.length_nil, and_self, Nat.zero_add, Nat.reduceAdd, ite_true, ite_false, reduceIte, reduceCtorEq, true_and, and_true, e5, e2]
    exact g
abbrev ds1 (ec ef k : Nat) (Fw : List W → M W) : MS := sif (dc1 Fw) (sseq (gK k (sraise ec ef (zcons (fun _ => ret (.str [119, 97, 121])) znil))) snil) snil
abbrev ds2 (C : List Nat) (cr ec ef k : Nat) (Fq : List W → M W) : MS := sif (dc2 C cr Fq) (sseq (gK k (sraise ec ef (zcons (fun _ => ret (.str [114, 111, 119, 115])) znil))) snil) snil
abbrev ds3 (c f1 f2 f3 : Nat) (cs : List Nat) (Fr : List W → M W) : MS := (sseq (sfld [c] f1 (zvar 0) (zvar 1)) (sseq (sfld [c] f2 (zvar 0) (zb (one1 ztuple) (zcons (zvar 2) znil))) (sseq (sfld cs f3 (zvar 0) (zfun (zcons (zvar 1) (zcons (zvar 2) znil)) znil (zcall 2 0 gId Fr))) snil)))
theorem reader_eq {ws : List W} {h : Hz} : runZ 4 (readerB C cr c f1 f2 f3 ec ef cs Fq Fw Fr k) ws h = endZ (sseq (ds1 ec ef k Fw) (sseq (ds2 C cr ec ef k Fq) (ds3 c f1 f2 f3 cs Fr)) (startZ 4 ws) h) := rfl
theorem reader_bad1 (hw : WordOk C Fw) {s : Nat} {h : Hz} {w t : W} (r : Rd C h w) (q : memS twoW w = false) : runZ 4 (readerB C cr c f1 f2 f3 ec ef cs Fq Fw Fr (k + 1)) [.ref s, w, t] h = .exc ec [(ef, .str tWAY)] h := by
  obtain ⟨h1, e, eh⟩ := sif_at (m := sseq (gK (k + 1) (sraise ec ef (zcons (fun _ => ret (.str [119, 97, 121])) znil))) snil) (k := snil) (dc1_spec hw (x := some (.ref s)) (y := some t) (z := none) r)
  subst eh
  rw [q] at e
  have e : ds1 ec ef (k + 1) Fw [some (.ref s), some w, some t, none] h1 = .exc ec [(ef, .str tWAY)] [some (.ref s), some w, some t, none] h1 := e
  rw [reader_eq]
  have : startZ 4 [.ref s, w, t] = [some (.ref s), some w, some t, none] := rfl
  rw [this, sseq_exc e]
  rfl
theorem reader_go (hw : WordOk C Fw) {s : Nat} {h : Hz} {w t : W} (r : Rd C h w) (q : memS twoW w = true) : runZ 4 (readerB C cr c f1 f2 f3 ec ef cs Fq Fw Fr (k + 1)) [.ref s, w, t] h = endZ (sseq (ds2 C cr ec ef (k + 1) Fq) (ds3 c f1 f2 f3 cs Fr) [some (.ref s), some w, some t, none] h) := by
  obtain ⟨h1, e, eh⟩ := sif_at (m := sseq (gK (k + 1) (sraise ec ef (zcons (fun _ => ret (.str [119, 97, 121])) znil))) snil) (k := snil) (dc1_spec hw (x := some (.ref s)) (y := some t) (z := none) r)
  subst eh
  rw [q] at e
  have e : ds1 ec ef (k + 1) Fw [some (.ref s), some w, some t, none] h1 = .ok .next [some (.ref s), some w, some t, none] h1 := e
  rw [reader_eq]
  have : startZ 4 [.ref s, w, t] = [some (.ref s), some w, some t, none] := rfl
  rw [this, sseq_next e]
theorem reader_bad2 (hw : WordOk C Fw) (hq : SeqOk C Fq) {s : Nat} {h : Hz} {w t : W} (r : Rd C h w) (rt : TV C h t) (q : memS twoW w = true) (q2 : rOk cr h t = false) : ∃ h', runZ 4 (readerB C cr c f1 f2 f3 ec ef cs Fq Fw Fr (k + 1)) [.ref s, w, t] h = .exc ec [(ef, .str tROWS)] h' ∧ Gro h h' := by
  rw [reader_go hw r q]
  obtain ⟨h2, e, g⟩ := sif_at (m := sseq (gK (k + 1) (sraise ec ef (zcons (fun _ => ret (.str [114, 111, 119, 115])) znil))) snil) (k := snil) (dc2_spec (cr := cr) hq (x := some (.ref s)) (y := some w) (z := none) rt)
  rw [q2] at e
  have e : ds2 C cr ec ef (k + 1) Fq [some (.ref s), some w, some t, none] h = .exc ec [(ef, .str tROWS)] [some (.ref s), some w, some t, none] h2 := e
  refine ⟨h2, ?_, g⟩
  rw [sseq_exc e]
  rfl
theorem reader_good (hw : WordOk C Fw) (hq : SeqOk C Fq) (hr : RtxOk C cr f3 Fr) (n12 : Nat.beq f1 f2 = false) (n13 : Nat.beq f1 f3 = false) (n23 : Nat.beq f2 f3 = false) (hcs : cs.contains c = true) {s : Nat} {h : Hz} {w t : W} (r : Rd C h w) (rt : TV C h t) (rx : ∀ x ∈ its h t, RowT cr f3 x) (q : memS twoW w = true) (q2 : rOk cr h t = true) (hs : h.get s = some (.ins c [])) (ts : t ≠ .ref s) (xs : ∀ x ∈ its h t, x ≠ .ref s) :
    ∃ y, w = .str y ∧ Ok (runZ 4 (readerB C cr c f1 f2 f3 ec ef cs Fq Fw Fr (k + 1)) [.ref s, w, t] h) fun a h' => a = .non ∧ h'.get s = some (.ins c [(f1, w), (f2, .tup (its h t)), (f3, .str (rdText f3 y (its h t)))]) ∧ GroB s h h' := by
  rw [reader_go hw r q]
  obtain ⟨h2, e, g⟩ := sif_at (m := sseq (gK (k + 1) (sraise ec ef (zcons (fun _ => ret (.str [114, 111, 119, 115])) znil))) snil) (k := snil) (dc2_spec (cr := cr) hq (x := some (.ref s)) (y := some w) (z := none) rt)
  rw [q2] at e
  have e : ds2 C cr ec ef (k + 1) Fq [some (.ref s), some w, some t, none] h = .ok .next [some (.ref s), some w, some t, none] h2 := e
  rw [sseq_next e]
  have qs : isSeq t = true := by unfold rOk at q2; rw [Bool.and_eq_true] at q2; exact q2.1
  have qa : (its h t).all (isCls cr) = true := by unfold rOk at q2; rw [Bool.and_eq_true] at q2; exact q2.2
  obtain ⟨y, rfl⟩ : ∃ y, w = .str y := by cases w with | str y => exact ⟨y, rfl⟩ | _ => cases q
  refine ⟨y, rfl, ?_⟩
  have c1 : [c].contains c = true := by simp
  have hs1 := g.get hs
  have gs1 : (h2.put s (.ins c [(f1, .str y)])).get s = some (.ins c [(f1, .str y)]) := Hz.get_put_self hs1
  have gb1 := (g.b s).put (c := .ins c [(f1, .str y)]) hs1
  have sub : ∀ {h3 : Hz}, GroB s h h3 → (∃ c fs, h3.get s = some (.ins c fs)) → TV C h3 t ∧ its h3 t = its h t := fun {h3} gb hs3 => by
    have ei : its h3 t = its h t := by
      cases t with
      | ref n =>
        obtain ⟨zs, en⟩ := rt.rd
        have ne : n ≠ s := fun z => ts (by rw [z])
        show (match h3.get n with | some (.lst ws) => ws | _ => []) = (match h.get n with | some (.lst ws) => ws | _ => [])
        rw [gb.same n (Hz.get_lt en) ne]
      | _ => rfl
    have rd3 : ∀ {x : W}, Rd C h x → x ≠ .ref s → Rd C h3 x := fun {x} rx ne => by
      cases x with
      | ref n =>
        obtain ⟨zs, en⟩ := rx
        exact ⟨zs, by rw [gb.same n (Hz.get_lt en) (fun z => ne (by rw [z]))]; exact en⟩
      | _ => exact rx
    exact ⟨⟨rd3 rt.rd ts, by rw [ei]; exact fun x hx => rd3 (rt.el x hx) (xs x hx), by rw [ei]; exact rt.le⟩, ei⟩
  obtain ⟨tv1, ei1⟩ := sub gb1 ⟨_, _, gs1⟩
  have et := tup_seq tv1.rd qs
  rw [ei1] at et
  have gs2 : ((h2.put s (.ins c [(f1, .str y)])).put s (.ins c [(f1, .str y), (f2, .tup (its h t))])).get s = some (.ins c [(f1, .str y), (f2, .tup (its h t))]) := Hz.get_put_self gs1
  have gb2 := gb1.put (c := .ins c [(f1, .str y), (f2, .tup (its h t))]) gs1
  obtain ⟨tv2, ei2⟩ := sub gb2 ⟨_, _, gs2⟩
  have fw1 := fldW_ok (f := f1) (y := .str y) c1 hs1 (by decide)
  have fw2 := fldW_ok (f := f2) (y := .tup (its h t)) c1 gs1 (Nat.le_of_ble_eq_true rfl)
  have p1 : putW f1 (.str y) [] = [(f1, .str y)] := rfl
  have p2 : putW f2 (.tup (its h t)) [(f1, .str y)] = [(f1, .str y), (f2, .tup (its h t))] := by simp [putW, n12]
  have p3 : ∀ z, putW f3 z [(f1, .str y), (f2, .tup (its h t))] = [(f1, .str y), (f2, .tup (its h t)), (f3, z)] := fun z => by simp [putW, n13, n23]
  rw [p1] at fw1
  rw [p2] at fw2
  refine ok_end ?_
  simp only [ok_bnd, ok_ret, ok_ok, ok_new, ok_ite, ok_ite2, oks_ite, oks_bnd, oks_seq, nxt_next, nxt_ret, oks_nil, oks_ok, oks_name, zbin, zun, zcons, znil, zlst, zlstW, ztup, ztupW, zb, one1, two2, zif, ztest, znot, zor, zand, zandV, zorV, zisi, zvar_eq, zv_non, zv_bl, zv_int, zv_str, zv_tup, zv_fz, zv_ref, zv_obj, sif, sret, sasg, sexpr, zfun, zcall, gId, zasB, zslice, zpart, zasI, List.getD_cons_zero, List.getD_cons_succ, List.set_cons_zero, List.set_cons_succ, if_true, if_false, Bool.not_true, Bool.not_false, Bool.false_eq_true, List.length_cons, List.length_nil, and_self, Nat.zero_add, Nat.reduceAdd, ite_true, ite_false, reduceIte, reduceCtorEq, true_and, and_true, sfld, rt.rd.zv, et, fw1, fw2]
  refine (hr r tv2 qs (by rw [ei2]; exact qa) (by rw [ei2]; exact rx)).imp fun a h4 ⟨ez, g4⟩ => ?_
  subst ez
  have gs4 := g4.get gs2
  simp only [ok_bnd, ok_ret, ok_ok, ok_new, ok_ite, ok_ite2, oks_ite, oks_bnd, oks_seq, nxt_next, nxt_ret, oks_nil, oks_ok, oks_name, zbin, zun, zcons, znil, zlst, zlstW, ztup, ztupW, zb, one1, two2, zif, ztest, znot, zor, zand, zandV, zorV, zisi, zvar_eq, zv_non, zv_bl, zv_int, zv_str, zv_tup, zv_fz, zv_ref, zv_obj, sif, sret, sasg, sexpr, zfun, zcall, gId, zasB, zslice, zpart, zasI, List.getD_cons_zero, List.getD_cons_succ, List.set_cons_zero, List.set_cons_succ, if_true, if_false, Bool.not_true, Bool.not_false, Bool.false_eq_true, List.length_cons, List.length_nil, and_self, Nat.zero_add, Nat.reduceAdd, ite_true, ite_false, reduceIte, reduceCtorEq, true_and, and_true, fldW_ok hcs gs4 (Nat.le_of_ble_eq_true rfl), p3, ei2]
  refine ⟨Hz.get_put_self gs4, GroB.put ?_ gs4⟩
  exact ⟨fun j hj n => (g4.same j (Nat.lt_of_lt_of_le hj gb2.size)).trans (gb2.same j hj n), Nat.le_trans gb2.size g4.size⟩
end
end Z

set_option Elab.async false
set_option linter.all false
set_option maxRecDepth 100000
set_option maxHeartbeats 4000000
set_option autoImplicit false
namespace Z
def ten : List (List Nat) := five ++ five.map fun t => NOT ++ t
theorem ten_pre : ∀ a ∈ ten, ∀ b ∈ ten, a.isPrefixOf b = true → a = b := by decide +kernel
theorem ten_free {a b u v : List Nat} (ha : a ∈ ten) (hb : b ∈ ten) (e : a ++ u = b ++ v) : a = b ∧ u = v := by
  have : a = b := by
    rcases List.append_eq_append_iff.mp e with ⟨c, h1, h2⟩ | ⟨c, h1, h2⟩
    · exact ten_pre a ha b hb (List.isPrefixOf_iff_prefix.mpr ⟨c, h1.symm⟩)
    · exact (ten_pre b hb a ha (List.isPrefixOf_iff_prefix.mpr ⟨c, h1.symm⟩)).symm
  subst this
  exact ⟨rfl, List.append_cancel_left e⟩
abbrev tDO : List Nat := [32, 100, 111, 32]
theorem join_inj : ∀ {xs ys : List (List Nat)} {u v : List Nat}, xs ≠ [] → ys ≠ [] → (∀ x ∈ xs, x ∈ ten) → (∀ y ∈ ys, y ∈ ten) → TL.joinL tAND xs ++ (tDO ++ u) = TL.joinL tAND ys ++ (tDO ++ v) → xs = ys ∧ u = v
  | [], _, _, _, h, _, _, _, _ => absurd rfl h
  | _, [], _, _, _, h, _, _, _ => absurd rfl h
  | [p], [q], u, v, _, _, hx, hy, e => by
    have e : p ++ (tDO ++ u) = q ++ (tDO ++ v) := e
    obtain ⟨rfl, e2⟩ := ten_free (hx p (List.mem_singleton.mpr rfl)) (hy q (List.mem_singleton.mpr rfl)) e
    exact ⟨rfl, List.append_cancel_left e2⟩
  | [p], q :: q2 :: r, u, v, _, _, hx, hy, e => by
    have e : p ++ (tDO ++ u) = (q ++ (tAND ++ TL.joinL tAND (q2 :: r))) ++ (tDO ++ v) := e
    rw [List.append_assoc] at e
    obtain ⟨_, e2⟩ := ten_free (hx p (List.mem_singleton.mpr rfl)) (hy q (List.mem_cons_self ..)) e
    simp at e2
  | p :: p2 :: r, [q], u, v, _, _, hx, hy, e => by
    have e : (p ++ (tAND ++ TL.joinL tAND (p2 :: r))) ++ (tDO ++ u) = q ++ (tDO ++ v) := e
    rw [List.append_assoc] at e
    obtain ⟨_, e2⟩ := ten_free (hx p (List.mem_cons_self ..)) (hy q (List.mem_singleton.mpr rfl)) e
    simp at e2
  | p :: p2 :: r, q :: q2 :: t, u, v, _, _, hx, hy, e => by
    have e : (p ++ (tAND ++ TL.joinL tAND (p2 :: r))) ++ (tDO ++ u) = (q ++ (tAND ++ TL.joinL tAND (q2 :: t))) ++ (tDO ++ v) := e
    rw [List.append_assoc p, List.append_assoc q] at e
    obtain ⟨rfl, e2⟩ := ten_free (hx p (List.mem_cons_self ..)) (hy q (List.mem_cons_self ..)) e
    rw [List.append_assoc, List.append_assoc] at e2
    have e3 := List.append_cancel_left e2
    obtain ⟨e4, e5⟩ := join_inj (by simp) (by simp) (fun x h => hx x (List.mem_cons_of_mem _ h)) (fun x h => hy x (List.mem_cons_of_mem _ h)) e3
    exact ⟨by rw [e4], e5⟩
theorem rowText_inj {xs ys : List (List Nat)} {d e : List Nat} (hx : ∀ x ∈ xs, x ∈ ten) (hy : ∀ y ∈ ys, y ∈ ten) (h : rowText xs d = rowText ys e) : xs = ys ∧ d = e := by
  match xs, ys with
  | [], [] =>
    have h : [100, 111, 32] ++ d = [100, 111, 32] ++ e := h
    exact ⟨rfl, List.append_cancel_left h⟩
  | [], y :: ys =>
    have h : [100, 111, 32] ++ d = [105, 102, 32] ++ TL.joinL tAND (y :: ys) ++ [32, 100, 111, 32] ++ e := h
    simp at h
  | x :: xs, [] =>
    have h : [105, 102, 32] ++ TL.joinL tAND (x :: xs) ++ [32, 100, 111, 32] ++ d = [100, 111, 32] ++ e := h
    simp at h
  | x :: xs, y :: ys =>
    have h : [105, 102, 32] ++ TL.joinL tAND (x :: xs) ++ tDO ++ d = [105, 102, 32] ++ TL.joinL tAND (y :: ys) ++ tDO ++ e := h
    rw [List.append_assoc, List.append_assoc, List.append_assoc, List.append_assoc] at h
    exact join_inj (by simp) (by simp) hx hy (List.append_cancel_left h)
theorem zall_strs {E : ET} {h : Hz} {n : Nat} : ∀ xs ys : List (List Nat), zall (zeq E h (n + 1)) (xs.map W.str) (ys.map W.str) = some (decide (xs = ys))
  | [], [] => rfl
  | [], y :: ys => rfl
  | x :: xs, [] => rfl
  | x :: xs, y :: ys => by
    have e : zeq E h (n + 1) (.str x) (.str y) = some (eqN x y) := rfl
    rw [List.map_cons, List.map_cons]
    unfold zall
    rw [e, zall_strs xs ys, eqN_eq]
    simp
theorem zeq_str {E : ET} {h : Hz} {n : Nat} {x y : List Nat} : zeq E h (n + 1) (.str x) (.str y) = some (decide (x = y)) := by
  have : zeq E h (n + 1) (.str x) (.str y) = some (eqN x y) := rfl
  rw [this, eqN_eq]
theorem zeq_tup {E : ET} {h : Hz} {n : Nat} {xs ys : List (List Nat)} : zeq E h (n + 2) (.tup (xs.map W.str)) (.tup (ys.map W.str)) = some (decide (xs = ys)) := zall_strs xs ys
theorem zeq_refs {E : ET} {h : Hz} {n i j : Nat} {xs ys : List (List Nat)} (ei : h.get i = some (.lst (xs.map W.str))) (ej : h.get j = some (.lst (ys.map W.str))) : zeq E h (n + 2) (.ref i) (.ref j) = some (decide (xs = ys)) := by
  have k1 : kind h (.ref i) = .lst (xs.map W.str) := by show kindC (h.get i) = _; rw [ei]; rfl
  have k2 : kind h (.ref j) = .lst (ys.map W.str) := by show kindC (h.get j) = _; rw [ej]; rfl
  show zeqK E (zeq E h (n + 1)) (kind h (.ref i)) (kind h (.ref j)) = _
  rw [k1, k2]
  exact zall_strs xs ys
/-- a row made of texts -/
abbrev rowW (c f1 f2 f3 : Nat) (xs : List (List Nat)) (d : List Nat) : W := .obj c [(f1, .tup (xs.map W.str)), (f2, .str d), (f3, .str (rowText xs d))]
theorem zeq_row {E : ET} {c f1 f2 f3 : Nat} {h : Hz} {n : Nat} {xs ys : List (List Nat)} {d e : List Nat} (hE : E.lookup c = some [f1, f2]) (n12 : Nat.beq f2 f1 = false) : zeq E h (n + 3) (rowW c f1 f2 f3 xs d) (rowW c f1 f2 f3 ys e) = some (decide (xs = ys) && decide (d = e)) := by
  have l1 : ∀ (zs : List (List Nat)) (u : List Nat), List.lookup f1 [(f1, W.tup (zs.map W.str)), (f2, W.str u), (f3, W.str (rowText zs u))] = some (.tup (zs.map W.str)) := fun zs u => by simp [List.lookup]
  have l2 : ∀ (zs : List (List Nat)) (u : List Nat), List.lookup f2 [(f1, W.tup (zs.map W.str)), (f2, W.str u), (f3, W.str (rowText zs u))] = some (.str u) := fun zs u => by
    have : (f2 == f1) = false := beq_eq_false_iff_ne.mpr (Nat.ne_of_beq_eq_false n12)
    simp [List.lookup, this]
  show zeqO E (zeq E h (n + 2)) c _ (.obj c _) = _
  unfold zeqO
  rw [hE]
  dsimp only
  rw [if_pos rfl]
  unfold zflds
  rw [l1, l1]
  dsimp only
  rw [zeq_tup]
  dsimp only
  unfold zflds
  rw [l2, l2]
  dsimp only
  rw [zeq_str]
  dsimp only
  unfold zflds
  simp
theorem zeq_rowstr {E : ET} {c : Nat} {fs : List (Nat × W)} {ks : List Nat} {h : Hz} {n : Nat} {s : List Nat} (hE : E.lookup c = some ks) : zeq E h (n + 1) (.obj c fs) (.str s) = some false := by
  show zeqO E (zeq E h n) c fs (.str s) = _
  unfold zeqO
  rw [hE]
theorem cmpEq_of {E : ET} {h : Hz} {n : Nat} {x y : W} {b : Bool} (e : zeq E h n x y = some b) : zcmpEq E n x y h = .ok (.bl b) h := by unfold zcmpEq; rw [e]
theorem neO_obj {E : ET} {h : Hz} {n : Nat} {c : Nat} {fs : List (Nat × W)} {y : W} {b : Bool} (e : zeq E h n (.obj c fs) y = some b) : zcmpNeO E (n + 1) (.obj c fs) y h = .ok (.bl (!b)) h := by
  show (match zeq E h n (.obj c fs) y with | some k => R.ok (W.bl (!k)) h | none => .err) = _
  rw [e]
theorem neO_no {E : ET} {h : Hz} {n : Nat} {x y : W} {b : Bool} (k : isObjK (kind h x) = false) (e : zeq E h n x y = some b) : zcmpNeO E n x y h = .ok (.bl (!b)) h := by
  unfold zcmpNeO
  rw [k]
  unfold zcmpNe
  rw [k]
  dsimp only
  rw [e]
theorem shLs_strs : ∀ {xs : List (List Nat)}, (∀ x ∈ xs, x.all plainC = true ∧ x.length ≤ 64) → ∃ ts, shLs (xs.map W.str) = some ts ∧ ts.length = xs.length ∧ (commaL ts).length ≤ 70 * xs.length
  | [], _ => ⟨[], by simp [shLs], rfl, Nat.zero_le _⟩
  | x :: xs, hx => by
    obtain ⟨ts, e, l, b⟩ := shLs_strs (fun y hy => hx y (List.mem_cons_of_mem _ hy))
    obtain ⟨p, lx⟩ := hx x (List.mem_cons_self ..)
    refine ⟨(39 :: (x ++ [39])) :: ts, ?_, by rw [List.length_cons, List.length_cons, l], ?_⟩
    · rw [List.map_cons]
      simp only [shLs, shL, p, e]
    · cases ts with
      | nil =>
        show (39 :: (x ++ [39])).length ≤ _
        simp only [List.length_cons, List.length_append, List.length_nil]
        omega
      | cons t ts =>
        show ((39 :: (x ++ [39])) ++ (44 :: 32 :: commaL (t :: ts))).length ≤ _
        simp only [List.length_cons, List.length_append, List.length_nil] at b ⊢
        omega
def tupE : List (List Nat) → List Nat
  | [_] => [44, 41]
  | _ => [41]
theorem shL_tup {ws : List W} {ts : List (List Nat)} (e : shLs ws = some ts) : shL (.tup ws) = some (40 :: (commaL ts ++ tupE ts)) := by
  simp only [shL, e]
  match ts with
  | [] => rfl
  | [_] => rfl
  | _ :: _ :: _ => rfl
theorem tupE_len (ts : List (List Nat)) : (tupE ts).length ≤ 2 := by
  match ts with
  | [] => decide
  | [_] => exact Nat.le_refl 2
  | _ :: _ :: _ => exact Nat.le_succ 1
theorem repr_three {h : Hz} {i : Nat} {xs : List (List Nat)} {d z : List Nat} (e : h.get i = some (.lst [.tup (xs.map W.str), .str d, .str z])) (hx : ∀ x ∈ xs, x.all plainC = true ∧ x.length ≤ 64) (lx : xs.length ≤ 16) (hd : d.all plainC = true) (ld : d.length ≤ 64) (hz : z.all plainC = true) (lz : z.length ≤ 5000) :
    ∃ t, zreprL (.ref i) h = .ok (.str t) h ∧ ∀ (h2 : Hz) (j : Nat), h2.get j = some (.lst [.tup (xs.map W.str), .str d, .str z]) → zreprL (.ref j) h2 = .ok (.str t) h2 := by
  obtain ⟨ts, e1, l1, b1⟩ := shLs_strs hx
  have e2 : ∃ ts, shLs [.tup (xs.map W.str), .str d, .str z] = some ts ∧ (lstTx ts).length ≤ 100000 := by
    have a1 := shL_tup e1
    have a2 := tupE_len ts
    refine ⟨[40 :: (commaL ts ++ tupE ts), 39 :: (d ++ [39]), 39 :: (z ++ [39])], ?_, ?_⟩
    · simp only [shLs, a1]
      simp only [shL, hd, hz]
    · simp only [lstTx, tailL, List.length_cons, List.length_append, List.length_nil]
      omega
  obtain ⟨us, e3, l3⟩ := e2
  have dp : dpWs [.tup (xs.map W.str), .str d, .str z] ≤ 100 := by
    have : ∀ ys : List (List Nat), dpWs (ys.map W.str) = 0 := fun ys => by
      induction ys with
      | nil => simp [dpWs]
      | cons y ys ih => rw [List.map_cons]; simp [dpWs, dpW, ih]
    simp [dpWs, dpW, this]
  have key : ∀ (h2 : Hz) (j : Nat), h2.get j = some (.lst [.tup (xs.map W.str), .str d, .str z]) → zreprL (.ref j) h2 = .ok (.str (lstTx us)) h2 := fun h2 j ej => by
    have q : (Nat.ble (lstTx us).length 100000 && Nat.ble (dpWs [.tup (xs.map W.str), .str d, .str z]) 100) = true := by rw [Nat.ble_eq_true_of_le l3, Nat.ble_eq_true_of_le dp]; rfl
    show (match h2.get j with
      | some (.lst xs) => (match shLs xs with
        | some ts => (match Nat.ble (lstTx ts).length 100000 && Nat.ble (dpWs xs) 100 with
          | true => R.ok (W.str (lstTx ts)) h2
          | false => .err)
        | none => .err)
      | _ => .err) = _
    rw [ej]
    dsimp only
    rw [e3]
    dsimp only
    rw [q]
  exact ⟨_, key h i e, key⟩
theorem ten_plain : ∀ x ∈ ten, x.all plainC = true ∧ x.length ≤ 64 := by decide +kernel
theorem ten_ist : ∀ x ∈ ten, isT x = true := by decide +kernel
theorem joinL_plain : ∀ xs : List (List Nat), (∀ x ∈ xs, x.all plainC = true) → (TL.joinL tAND xs).all plainC = true
  | [], _ => rfl
  | [p], h => h p (List.mem_singleton.mpr rfl)
  | p :: q :: r, h => by
    show (p ++ (tAND ++ TL.joinL tAND (q :: r))).all plainC = true
    have a : tAND.all plainC = true := by decide
    rw [List.all_append, List.all_append, h p (List.mem_cons_self ..), a, joinL_plain (q :: r) (fun x hx => h x (List.mem_cons_of_mem _ hx))]
    rfl
theorem rowText_plain {xs : List (List Nat)} {d : List Nat} (hx : ∀ x ∈ xs, x ∈ ten) (hd : d.all plainC = true) : (rowText xs d).all plainC = true := by
  cases xs with
  | nil =>
    show ([100, 111, 32] ++ d).all plainC = true
    have a : ([100, 111, 32] : List Nat).all plainC = true := by decide
    rw [List.all_append, a, hd]
    rfl
  | cons x xs =>
    show ([105, 102, 32] ++ TL.joinL tAND (x :: xs) ++ [32, 100, 111, 32] ++ d).all plainC = true
    have a : ([105, 102, 32] : List Nat).all plainC = true := by decide
    have b : ([32, 100, 111, 32] : List Nat).all plainC = true := by decide
    rw [List.all_append, List.all_append, List.all_append, a, b, hd, joinL_plain _ (fun y hy => (ten_plain y (hx y hy)).1)]
    rfl
theorem sumLen_le {xs : List (List Nat)} (h : ∀ x ∈ xs, x.length ≤ 64) : sumLen xs ≤ 64 * xs.length := by
  induction xs with
  | nil => exact Nat.zero_le _
  | cons x xs ih =>
    have a := ih (fun y hy => h y (List.mem_cons_of_mem _ hy))
    have b := h x (List.mem_cons_self ..)
    show x.length + sumLen xs ≤ 64 * (xs.length + 1)
    omega
theorem rowText_len {xs : List (List Nat)} {d : List Nat} (hx : ∀ x ∈ xs, x.length ≤ 64) (hl : xs.length ≤ 16) (hd : d.length ≤ 64) : (rowText xs d).length ≤ 2000 := by
  have a := sumLen_le hx
  have b := join_len (y := tAND) xs
  have b : (TL.joinL tAND xs).length ≤ sumLen xs + xs.length * 5 := b
  cases xs with
  | nil =>
    show ([100, 111, 32] ++ d).length ≤ _
    rw [List.length_append]
    show 3 + d.length ≤ _
    omega
  | cons x xs =>
    show ([105, 102, 32] ++ TL.joinL tAND (x :: xs) ++ [32, 100, 111, 32] ++ d).length ≤ _
    rw [List.length_append, List.length_append, List.length_append]
    show 3 + _ + 4 + _ ≤ _
    omega
theorem loopF_idx {N : Nat} {I : Nat → Ev → Hz → Prop} {g : W → MS} {m : MS} : ∀ {ws : List W} {i : Nat} {ρ : Ev} {h : Hz}, i + ws.length ≤ N → (∀ i, i < N → ∀ w ∈ ws, ∀ ρ h, I i ρ h → OkS (g w ρ h) fun f ρ1 h1 => f = .next ∧ OkS (m ρ1 h1) fun f2 ρ2 h2 => f2 = .next ∧ I (i + 1) ρ2 h2) → I i ρ h →
    OkS (sloopF g m ws ρ h) fun f ρ' h' => f = .next ∧ I (i + ws.length) ρ' h'
  | [], i, ρ, h, _, _, j => ⟨rfl, j⟩
  | w :: ws, i, ρ, h, hN, s, j => by
    show OkS (floop g m (sloopF g m ws) w ρ h) _
    unfold floop
    rw [List.length_cons] at hN
    have q := s i (by omega) w (List.mem_cons_self ..) ρ h j
    cases e : g w ρ h with
    | ok f ρ1 h1 =>
      rw [e] at q
      obtain ⟨ef, q⟩ := q
      subst ef
      dsimp only
      cases e2 : m ρ1 h1 with
      | ok f2 ρ2 h2 =>
        rw [e2] at q
        obtain ⟨ef, q⟩ := q
        subst ef
        have := loopF_idx (N := N) (i := i + 1) (by omega) (fun i hi w hw => s i hi w (List.mem_cons_of_mem _ hw)) q
        rw [List.length_cons, Nat.add_comm ws.length 1, ← Nat.add_assoc]
        exact this
      | exc c fs ρ2 h2 => rw [e2] at q; exact False.elim q
      | err => rw [e2] at q; exact False.elim q
    | exc c fs ρ1 h1 => rw [e] at q; exact False.elim q
    | err => rw [e] at q; exact False.elim q
theorem app_ok {h : Hz} {t : Nat} {ws : List W} {x : W} (e : h.get t = some (.lst ws)) (l : ws.length < 1000) : mAppend (.ref t) [x] h = .ok .non (h.put t (.lst (ws ++ [x]))) := by
  have c : ws.length < LIM := Nat.lt_of_lt_of_le l (by decide)
  show (bnd (zlref (.ref t)) fun q => if q.2.length < LIM then bnd (store q.1 (.lst (q.2 ++ [x]))) fun _ => ret W.non else bad) h = _
  simp only [bnd, zlref_ref e, if_pos c, store, ret]
theorem list_ok {h : Hz} {t : Nat} {ws : List W} (e : h.get t = some (.lst ws)) : zlist (.ref t) h = .ok (.ref h.n) (h.push (.lst ws)) := by
  unfold zlist
  simp only [bnd, zseq_ref e, new]
theorem tuple_ok {h : Hz} {t : Nat} {ws : List W} (e : h.get t = some (.lst ws)) : ztuple (.ref t) h = .ok (.tup ws) h := by
  unfold ztuple
  simp only [bnd, zseq_ref e, ret]
theorem asStrs_map : ∀ xs : List (List Nat), asStrs (xs.map W.str) = some xs
  | [] => rfl
  | x :: xs => by
    rw [List.map_cons]
    unfold asStrs
    rw [asStrs_map xs]
end Z

set_option Elab.async false
set_option linter.all false
set_option maxRecDepth 100000
set_option maxHeartbeats 4000000
set_option autoImplicit false
namespace Lk02
open Z
theorem f0 {k : Nat} : fnT (k + 2) 0 = runZ 1 (seqB allC) := rfl
theorem f1 {k : Nat} : fnT (k + 2) 1 = runZ 2 (wordB allC ET k) := rfl
theorem f2 {k : Nat} : fnT (k + 2) 2 = runZ 1 (testB allC ET k) := rfl
theorem f3 {k : Nat} : fnT (k + 2) 3 = runZ 3 (textB ET k) := rfl
theorem f4 {k : Nat} : fnT (k + 2) 4 = runZ 5 boxB := rfl
theorem f5 {k : Nat} : fnT (k + 2) 5 = runZ 5 takeB := rfl
theorem f6 {k : Nat} : fnT (k + 2) 6 = runZ 2 (pickB (fnT (k + 1) 5)) := rfl
theorem f10 {k : Nat} : fnT (k + 2) 10 = runZ 4 (rowB 0 5 3 6 2 4 [0] (fnT (k + 1) 0) (fnT (k + 1) 1) (fnT (k + 1) 2) (fnT (k + 1) 3) k) := rfl
theorem o0 {k : Nat} : SeqOk allC (fnT (k + 2) 0) := by rw [f0]; exact seq_ok
theorem o1 {k : Nat} : WordOk allC (fnT (k + 3) 1) := by rw [f1]; exact word_ok
theorem o2 {k : Nat} : TestOk allC (fnT (k + 3) 2) := by rw [f2]; exact test_ok
theorem o3 {k : Nat} : TextOk (fnT (k + 2) 3) := by rw [f3]; exact text_ok
theorem o5 {k : Nat} : TakeOk (fnT (k + 2) 5) := by rw [f5]; exact take_ok
theorem pick {k b l : Nat} {h : Hz} {xs : List W} (hb : Box h b) (hl : h.get l = some (.lst xs)) (ne : l ≠ b) (h0 : 0 < xs.length) (h1 : xs.length < 1073741824) :
    Ok (fnT (k + 3) 6 [.ref b, .ref l] h) fun w h' => w ∈ xs ∧ Box h' b ∧ GroB b h h' := by
  rw [f6]
  exact (pick_spec (o5 (k := k)) hb hl ne h0 h1).imp fun w h' ⟨a, c, d⟩ => ⟨a, c, d.b⟩
theorem take {k b : Nat} {h : Hz} {m : Int} (hb : Box h b) (h0 : 0 < m) (h1 : m < 1073741824) : Ok (fnT (k + 2) 5 [.ref b, .int m] h) fun w h' => (∃ d, w = .int d ∧ 0 ≤ d ∧ d < m) ∧ Box h' b ∧ GroB b h h' :=
  (o5 (k := k) hb h0 h1).imp fun w h' ⟨a, c, d⟩ => ⟨a, c, d.b⟩
abbrev row (xs : List (List Nat)) (d : List Nat) : W := rowW 0 5 3 6 xs d
/-- drawn tests -/
structure Tx (xs : List (List Nat)) : Prop where
  mem : ∀ x ∈ xs, x ∈ ten
  len : xs.length ≤ 4
theorem Tx.le {xs : List (List Nat)} (t : Tx xs) : ∀ x ∈ xs, x.length ≤ 64 := fun x hx => (ten_plain x (t.mem x hx)).2
theorem all_ist {xs : List (List Nat)} (t : ∀ x ∈ xs, x ∈ ten) : (xs.map W.str).all ist = true := by
  rw [List.all_map, List.all_eq_true]
  exact fun x hx => ten_ist x (t x hx)
theorem three_ok : ∀ d ∈ three, memS three (.str d) = true ∧ d.length ≤ 64 ∧ d.all plainC = true := by decide +kernel
/-- a new row -/
theorem mk {k : Nat} {h : Hz} {t : W} {xs : List (List Nat)} {d : List Nat} (s : isSeq t = true) (rt : Rd allC h t) (ei : its h t = xs.map W.str) (tx : Tx xs) (hd : d ∈ three) :
    Ok (zmkW true 0 2 0 gId (fnT (k + 5) 10) [t, .str d] [] h) fun a h' => a = row xs d ∧ Gro h h' := by
  obtain ⟨m3, ld, _⟩ := three_ok d hd
  have tv : TV allC h t := ⟨rt, by
    rw [ei]
    intro x hx
    obtain ⟨y, hy, rfl⟩ := List.mem_map.mp hx
    exact tx.le y hy, by rw [ei, List.length_map]; have := tx.len; omega⟩
  obtain ⟨xs', y', ex', ey', R⟩ := mk_row (k := k + 2) (F := fnT (k + 5) 10) f10 (o0 (k := k + 2)) (o2 (k := k + 1)) (o1 (k := k + 1)) (o3 (k := k + 2)) rfl rfl rfl rfl tv (d := .str d) (show Rd allC h (.str d) from ld) (by unfold sOk; rw [s, ei, all_ist tx.mem]; rfl) m3
  rw [ei, asStrs_map] at ex'
  cases ex'
  cases ey'
  rw [ei] at R
  exact R
/-- str of a row -/
theorem str_row {k : Nat} {h : Hz} {xs : List (List Nat)} {d : List Nat} (tx : Tx xs) (hd : d ∈ three) : zstrO strT (fnT (k + 2)) (row xs d) h = .ok (.str (rowText xs d)) h := by
  obtain ⟨_, ld, _⟩ := three_ok d hd
  have l1 := rowText_len tx.le (by have := tx.len; omega) ld
  have l2 : (rowText xs d).length ≤ LIM := Nat.le_trans l1 (by decide)
  have e : fnT (k + 2) 12 [row xs d] h = .ok (.str (rowText xs d)) h := by
    show endZ ((sseq (sret (zfmt (zfld [0] 6 (zvar 0)))) snil) [some (row xs d)] h) = _
    have e1 : zasS (.str (rowText xs d)) h = .ok (.str (rowText xs d)) h := by show (if (rowText xs d).length ≤ LIM then ret (W.str (rowText xs d)) else bad) h = _; rw [if_pos l2]; rfl
    have e2 : zfldW [0] 6 (row xs d) h = .ok (.str (rowText xs d)) h := zfld_obj rfl rfl
    simp only [sseq, sret, sbnd, zfmt, zfld, bnd, zvar_eq, List.getD_cons_zero, zv_obj, ret, e2, e1, endZ]
  show (bnd (zins (row xs d)) fun q => bnd (ofO (strT.lookup q.1)) fun i => bnd (noex (zcall 1 0 gId (fnT (k + 2) i) [row xs d] [])) asStrM) h = _
  have e3 : zcall 1 0 gId (fnT (k + 2) 12) [row xs d] [] h = .ok (.str (rowText xs d)) h := e
  show (bnd (noex (zcall 1 0 gId (fnT (k + 2) 12) [row xs d] [])) asStrM) h = _
  simp only [bnd, noex, e3, asStrM, ret]
/-- the law's own text -/
theorem text {k n : Nat} {h : Hz} {xs : List (List Nat)} {d : List Nat} (hn : h.get n = some (.lst (xs.map W.str))) (tx : Tx xs) (hd : d ∈ three) : Ok (fnT (k + 3) 8 [.ref n, .str d] h) fun a h' => a = .str (rowText xs d) ∧ Gro h h' := by
  obtain ⟨_, ld, _⟩ := three_ok d hd
  show Ok (endZ (m_8 (fnT (k + 2)) (fnT (k + 1)) (k + 1) [some (.ref n), some (.str d)] h)) _
  refine ok_end ?_
  unfold m_8
  have g := Gro.push h (.lst [])
  have hn' := g.get hn
  have e1 : zcmpEq ET (k + 1 + 1) (.ref n) (.ref h.n) (h.push (.lst [])) = .ok (.bl (decide (xs = []))) (h.push (.lst [])) := cmpEq_of (zeq_refs (n := k) (ys := []) hn' (Hz.get_push_self _ _))
  have lm : 100000 ≤ LIM := by decide
  have sl := sumLen_le tx.le
  have tl := tx.len
  cases xs with
  | nil =>
    have l1 : 3 + d.length ≤ LIM := by omega
    have e2 : zadd (.str [100, 111, 32]) (.str d) (h.push (.lst [])) = .ok (.str ([100, 111, 32] ++ d)) (h.push (.lst [])) := by
      show (if ([100, 111, 32] : List Nat).length + d.length ≤ LIM then ret (W.str ([100, 111, 32] ++ d)) else bad) (h.push (.lst [])) = _
      rw [if_pos (by show 3 + d.length ≤ LIM; omega)]
      rfl
    simp only [ok_bnd, ok_ret, ok_ok, ok_new, ok_ite, ok_ite2, oks_ite, oks_bnd, oks_seq, nxt_next, nxt_ret, oks_nil, oks_ok, oks_name, zbin, zun, zcons, znil, zlst, zlstW, ztup, ztupW, zb, one1, two2, zif, ztest, znot, zor, zand, zandV, zorV, zisi, zvar_eq, zv_non, zv_bl, zv_int, zv_str, zv_tup, zv_fz, zv_ref, zv_obj, sif, sret, sasg, sexpr, zfun, zcall, gId, zasB, zslice, zpart, zasI, List.getD_cons_zero, List.getD_cons_succ, List.set_cons_zero, List.set_cons_succ, if_true, if_false, Bool.not_true, Bool.not_false, Bool.false_eq_true, List.length_cons, List.length_nil, and_self, Nat.zero_add, Nat.reduceAdd, ite_true, ite_false, reduceIte, reduceCtorEq, true_and, and_true, lim0, e1, decide_true, e2]
    exact ⟨rfl, g⟩
  | cons x xs =>
    have e0 : decide (x :: xs = []) = false := by simp
    rw [e0] at e1
    have ej := ok_join (y := tAND) (h := h.push (.lst [])) (asStrs_map (x :: xs)) (by show sumLen (x :: xs) + (x :: xs).length * 5 ≤ _; omega)
    have ej2 : mJoin (.str tAND) [.ref n] (h.push (.lst [])) = .ok (.str (TL.joinL tAND (x :: xs))) (h.push (.lst [])) := by
      have c : sumLen (x :: xs) + (x :: xs).length * tAND.length ≤ LIM := by show sumLen (x :: xs) + (x :: xs).length * 5 ≤ LIM; omega
      simp only [mJoin, bnd, zseq_ref hn', asStrs_map, if_pos c, ret]
    have lj := join_len (y := tAND) (x :: xs)
    have lj : (TL.joinL tAND (x :: xs)).length ≤ sumLen (x :: xs) + (x :: xs).length * 5 := lj
    have ez : rowText (x :: xs) d = [105, 102, 32] ++ TL.joinL tAND (x :: xs) ++ [32, 100, 111, 32] ++ d := rfl
    generalize TL.joinL tAND (x :: xs) = z at ej2 lj ez
    have e8 : zty true (.str tAND) = ret () := rfl
    have a1 : ∀ (u v : List Nat) (h : Hz), u.length + v.length ≤ LIM → zadd (.str u) (.str v) h = .ok (.str (u ++ v)) h := fun u v h l => by
      show (if u.length + v.length ≤ LIM then ret (W.str (u ++ v)) else bad) h = _
      rw [if_pos l]
      rfl
    have b1 := a1 [105, 102, 32] z (h.push (.lst [])) (by show 3 + z.length ≤ LIM; omega)
    have b2 := a1 ([105, 102, 32] ++ z) [32, 100, 111, 32] (h.push (.lst [])) (by rw [List.length_append]; show 3 + z.length + 4 ≤ LIM; omega)
    have b3 := a1 ([105, 102, 32] ++ z ++ [32, 100, 111, 32]) d (h.push (.lst [])) (by rw [List.length_append, List.length_append]; show 3 + z.length + 4 + d.length ≤ LIM; omega)
    simp only [ok_bnd, ok_ret, ok_ok, ok_new, ok_ite, ok_ite2, oks_ite, oks_bnd, oks_seq, nxt_next, nxt_ret, oks_nil, oks_ok, oks_name, zbin, zun, zcons, znil, zlst, zlstW, ztup, ztupW, zb, one1, two2, zif, ztest, znot, zor, zand, zandV, zorV, zisi, zvar_eq, zv_non, zv_bl, zv_int, zv_str, zv_tup, zv_fz, zv_ref, zv_obj, sif, sret, sasg, sexpr, zfun, zcall, gId, zasB, zslice, zpart, zasI, List.getD_cons_zero, List.getD_cons_succ, List.set_cons_zero, List.set_cons_succ, if_true, if_false, Bool.not_true, Bool.not_false, Bool.false_eq_true, List.length_cons, List.length_nil, and_self, Nat.zero_add, Nat.reduceAdd, ite_true, ite_false, reduceIte, reduceCtorEq, true_and, and_true, lim0, e1, zbm, e8, ej2, b1, b2, b3, ez]
    exact g
theorem five_ten : ∀ y ∈ five, y ∈ ten ∧ NOT ++ y ∈ ten ∧ y.length ≤ 64 := by decide +kernel
/-- drawn tests -/
theorem tests {k b : Nat} {h : Hz} (j : Box h b) : Ok (fnT (k + 4) 7 [.ref b] h) fun a h' => ∃ n xs, a = .ref n ∧ h'.get n = some (.lst (xs.map W.str)) ∧ Tx xs ∧ h.n ≤ n ∧ n ≠ b ∧ Box h' b ∧ GroB b h h' := by
  show Ok (endZ (m_7 (fnT (k + 3)) (fnT (k + 2)) (k + 2) [some (.ref b), none, none, none] h)) _
  refine ok_end ?_
  unfold m_7
  rw [oks_seq]
  simp only [ok_bnd, ok_ret, ok_ok, ok_new, ok_ite, ok_ite2, oks_ite, oks_bnd, oks_seq, nxt_next, nxt_ret, oks_nil, oks_ok, oks_name, zbin, zun, zcons, znil, zlst, zlstW, ztup, ztupW, zb, one1, two2, zif, ztest, znot, zor, zand, zandV, zorV, zisi, zvar_eq, zv_non, zv_bl, zv_int, zv_str, zv_tup, zv_fz, zv_ref, zv_obj, sif, sret, sasg, sexpr, zfun, zcall, gId, zasB, zslice, zpart, zasI, List.getD_cons_zero, List.getD_cons_succ, List.set_cons_zero, List.set_cons_succ, if_true, if_false, Bool.not_true, Bool.not_false, Bool.false_eq_true, List.length_cons, List.length_nil, and_self, Nat.zero_add, Nat.reduceAdd, ite_true, ite_false, reduceIte, reduceCtorEq, true_and, and_true, lim0]
  have g0 := Gro.push h (.lst [])
  have j0 := j.gro g0
  have lt := j.lt
  have e0 := Hz.get_push_self h (.lst [])
  generalize h.push (.lst []) = h0 at g0 j0 e0
  rw [show (sfor (zitR (zcons (zfun (zcons (zvar 0) (zcons (fun _ => ret (.int 5)) znil)) znil (zcall 2 0 gId (fnT (k + 3) 5))) znil)) (gname 2)) = fun m ρ => sbnd (zitR (zcons (zfun (zcons (zvar 0) (zcons (fun _ => ret (.int 5)) znil)) znil (zcall 2 0 gId (fnT (k + 3) 5))) znil) ρ) ρ fun z h => sloop (gname 2) m z ρ h from rfl]
  unfold zitR
  simp only [ok_bnd, ok_ret, ok_ok, ok_new, ok_ite, ok_ite2, oks_ite, oks_bnd, oks_seq, nxt_next, nxt_ret, oks_nil, oks_ok, oks_name, zbin, zun, zcons, znil, zlst, zlstW, ztup, ztupW, zb, one1, two2, zif, ztest, znot, zor, zand, zandV, zorV, zisi, zvar_eq, zv_non, zv_bl, zv_int, zv_str, zv_tup, zv_fz, zv_ref, zv_obj, sif, sret, sasg, sexpr, zfun, zcall, gId, zasB, zslice, zpart, zasI, List.getD_cons_zero, List.getD_cons_succ, List.set_cons_zero, List.set_cons_succ, if_true, if_false, Bool.not_true, Bool.not_false, Bool.false_eq_true, List.length_cons, List.length_nil, and_self, Nat.zero_add, Nat.reduceAdd, ite_true, ite_false, reduceIte, reduceCtorEq, true_and, and_true]
  refine (take (k := k + 1) j0 (by decide) (by decide)).imp fun w h1 ⟨⟨d, ed, d0, d1⟩, j1, g1⟩ => ?_
  subst ed
  rw [range1 d0 (by omega)]
  simp only [ok_bnd, ok_ret, ok_ok, ok_new, ok_ite, ok_ite2, oks_ite, oks_bnd, oks_seq, nxt_next, nxt_ret, oks_nil, oks_ok, oks_name, zbin, zun, zcons, znil, zlst, zlstW, ztup, ztupW, zb, one1, two2, zif, ztest, znot, zor, zand, zandV, zorV, zisi, zvar_eq, zv_non, zv_bl, zv_int, zv_str, zv_tup, zv_fz, zv_ref, zv_obj, sif, sret, sasg, sexpr, zfun, zcall, gId, zasB, zslice, zpart, zasI, List.getD_cons_zero, List.getD_cons_succ, List.set_cons_zero, List.set_cons_succ, if_true, if_false, Bool.not_true, Bool.not_false, Bool.false_eq_true, List.length_cons, List.length_nil, and_self, Nat.zero_add, Nat.reduceAdd, ite_true, ite_false, reduceIte, reduceCtorEq, true_and, and_true]
  have lr := rangeW_len d.toNat 0
  have nb : h.n ≠ b := Nat.ne_of_gt lt
  have L := loopF_idx (N := 4) (i := 0) (ws := rangeW 0 d.toNat) (g := gname 2) (m := (sseq (sasg (zfun (zcons (zvar 0) (zcons (zlst (zcons (fun _ => ret (.str [116, 104, 101, 114, 101])) (zcons (fun _ => ret (.str [115, 97, 109, 101])) (zcons (fun _ => ret (.str [104, 111, 108, 100, 115])) (zcons (fun _ => ret (.str [99, 111, 118, 101, 114, 115])) (zcons (fun _ => ret (.str [102, 105, 116, 115])) znil)))))) znil)) znil (zcall 2 0 gId (fnT (k + 3) 6))) (gname 3)) (sseq (sexpr (zbm false mAppend (zvar 1) (zcons (zif (ztest (zbin (zcmpEq ET (k + 2 + 1)) (zfun (zcons (zvar 0) (zcons (fun _ => ret (.int 2)) znil)) znil (zcall 2 0 gId (fnT (k + 3) 5))) (fun _ => ret (.int 0)))) (zbin zadd (fun _ => ret (.str [110, 111, 116, 32])) (zvar 3)) (zvar 3)) znil))) snil)))
    (I := fun i ρ h' => ∃ x2 x3 xs, ρ = [some (.ref b), some (.ref h.n), x2, x3] ∧ h'.get h.n = some (.lst (xs.map W.str)) ∧ (∀ x ∈ xs, x ∈ ten) ∧ xs.length = i ∧ Box h' b ∧ GroB b h h') (by rw [lr]; omega) (fun i hi4 w hw ρ h' ⟨x2, x3, xs, er, en, mx, lx, j', g'⟩ => by
    subst er
    refine ⟨rfl, ?_⟩
    show OkS (sseq _ _ [some (.ref b), some (.ref h.n), some w, x3] h') _
    simp only [ok_bnd, ok_ret, ok_ok, ok_new, ok_ite, ok_ite2, oks_ite, oks_bnd, oks_seq, nxt_next, nxt_ret, oks_nil, oks_ok, oks_name, zbin, zun, zcons, znil, zlst, zlstW, ztup, ztupW, zb, one1, two2, zif, ztest, znot, zor, zand, zandV, zorV, zisi, zvar_eq, zv_non, zv_bl, zv_int, zv_str, zv_tup, zv_fz, zv_ref, zv_obj, sif, sret, sasg, sexpr, zfun, zcall, gId, zasB, zslice, zpart, zasI, List.getD_cons_zero, List.getD_cons_succ, List.set_cons_zero, List.set_cons_succ, if_true, if_false, Bool.not_true, Bool.not_false, Bool.false_eq_true, List.length_cons, List.length_nil, and_self, Nat.zero_add, Nat.reduceAdd, ite_true, ite_false, reduceIte, reduceCtorEq, true_and, and_true, lim5]
    have g2 := Gro.push h' (.lst [.str [116, 104, 101, 114, 101], .str [115, 97, 109, 101], .str [104, 111, 108, 100, 115], .str [99, 111, 118, 101, 114, 115], .str [102, 105, 116, 115]])
    refine (pick (k := k) (j'.gro g2) (Hz.get_push_self _ _) (Nat.ne_of_gt j'.lt) (Nat.le_of_ble_eq_true rfl) (Nat.le_of_ble_eq_true rfl)).imp fun y h2 ⟨hy, j2, gb⟩ => ?_
    obtain ⟨y, hy5, rfl⟩ : ∃ t ∈ five, y = .str t := by
      obtain ⟨t, ht, e⟩ := List.mem_map.mp (show y ∈ five.map W.str from hy)
      exact ⟨t, ht, e.symm⟩
    have en2 := gb.get (g2.get en) nb
    simp only [ok_bnd, ok_ret, ok_ok, ok_new, ok_ite, ok_ite2, oks_ite, oks_bnd, oks_seq, nxt_next, nxt_ret, oks_nil, oks_ok, oks_name, zbin, zun, zcons, znil, zlst, zlstW, ztup, ztupW, zb, one1, two2, zif, ztest, znot, zor, zand, zandV, zorV, zisi, zvar_eq, zv_non, zv_bl, zv_int, zv_str, zv_tup, zv_fz, zv_ref, zv_obj, sif, sret, sasg, sexpr, zfun, zcall, gId, zasB, zslice, zpart, zasI, List.getD_cons_zero, List.getD_cons_succ, List.set_cons_zero, List.set_cons_succ, if_true, if_false, Bool.not_true, Bool.not_false, Bool.false_eq_true, List.length_cons, List.length_nil, and_self, Nat.zero_add, Nat.reduceAdd, ite_true, ite_false, reduceIte, reduceCtorEq, true_and, and_true, zbm, zty_ref en2]
    refine (take (k := k + 1) j2 (by decide) (by decide)).imp fun u h3 ⟨⟨e, ee, e0, e1⟩, j3, g3⟩ => ?_
    subst ee
    have en3 := g3.get en2 nb
    have gg := (g'.trans (g2.b b)).trans (gb.trans g3)
    have hf := five_ten y hy5
    have fin : ∀ z ∈ ten, OkS (.ok .next [some (.ref b), some (.ref h.n), some w, some (.str y)] (h3.put h.n (.lst (xs.map W.str ++ [.str z])))) fun f2 ρ2 h2 => f2 = .next ∧ ∃ (x2 x3 : Option W) (xs : List (List Nat)), ρ2 = [some (.ref b), some (.ref h.n), x2, x3] ∧ h2.get h.n = some (.lst (xs.map W.str)) ∧ (∀ x ∈ xs, x ∈ ten) ∧ xs.length = i + 1 ∧ Box h2 b ∧ GroB b h h2 := fun z hz => by
      refine ⟨rfl, _, _, xs ++ [z], rfl, ?_, ?_, by rw [List.length_append, lx]; rfl, ?_, ?_⟩
      · rw [Hz.get_put_self en3, List.map_append]; rfl
      · intro x hx
        rcases List.mem_append.mp hx with hx | hx
        · exact mx x hx
        · rw [List.mem_singleton] at hx; subst hx; exact hz
      · obtain ⟨u, v, w, eb⟩ := j3
        exact ⟨u, v, w, by rw [Hz.get_put_ne en3 (Ne.symm nb)]; exact eb⟩
      · exact ⟨fun jj hj n => by rw [Hz.get_put_ne en3 (by omega)]; exact gg.same jj hj n, by rw [Hz.put_n]; exact gg.size⟩
    have la : (xs.map W.str).length < 1000 := by rw [List.length_map]; omega
    by_cases q : e = 0
    · have a1 : zadd (.str [110, 111, 116, 32]) (.str y) h3 = .ok (.str (NOT ++ y)) h3 := by
        show (if NOT.length + y.length ≤ LIM then ret (W.str (NOT ++ y)) else bad) h3 = _
        rw [if_pos (show NOT.length + y.length ≤ LIM from Nat.le_trans (show 4 + y.length ≤ 68 from by have := hf.2.2; omega) (by decide))]
        rfl
      simp only [ok_bnd, ok_ret, ok_ok, ok_new, ok_ite, ok_ite2, oks_ite, oks_bnd, oks_seq, nxt_next, nxt_ret, oks_nil, oks_ok, oks_name, zbin, zun, zcons, znil, zlst, zlstW, ztup, ztupW, zb, one1, two2, zif, ztest, znot, zor, zand, zandV, zorV, zisi, zvar_eq, zv_non, zv_bl, zv_int, zv_str, zv_tup, zv_fz, zv_ref, zv_obj, sif, sret, sasg, sexpr, zfun, zcall, gId, zasB, zslice, zpart, zasI, List.getD_cons_zero, List.getD_cons_succ, List.set_cons_zero, List.set_cons_succ, if_true, if_false, Bool.not_true, Bool.not_false, Bool.false_eq_true, List.length_cons, List.length_nil, and_self, Nat.zero_add, Nat.reduceAdd, ite_true, ite_false, reduceIte, reduceCtorEq, true_and, and_true, eq_int, q, decide_true, a1, app_ok en3 la]
      exact fin _ hf.2.1 |>.2
    · simp only [ok_bnd, ok_ret, ok_ok, ok_new, ok_ite, ok_ite2, oks_ite, oks_bnd, oks_seq, nxt_next, nxt_ret, oks_nil, oks_ok, oks_name, zbin, zun, zcons, znil, zlst, zlstW, ztup, ztupW, zb, one1, two2, zif, ztest, znot, zor, zand, zandV, zorV, zisi, zvar_eq, zv_non, zv_bl, zv_int, zv_str, zv_tup, zv_fz, zv_ref, zv_obj, sif, sret, sasg, sexpr, zfun, zcall, gId, zasB, zslice, zpart, zasI, List.getD_cons_zero, List.getD_cons_succ, List.set_cons_zero, List.set_cons_succ, if_true, if_false, Bool.not_true, Bool.not_false, Bool.false_eq_true, List.length_cons, List.length_nil, and_self, Nat.zero_add, Nat.reduceAdd, ite_true, ite_false, reduceIte, reduceCtorEq, true_and, and_true, eq_int, q, decide_false, app_ok en3 la]
      exact fin _ hf.1 |>.2) ⟨none, none, [], rfl, g1.get e0 nb, fun x hx => absurd hx List.not_mem_nil, rfl, j1, (g0.b b).trans g1⟩
  refine L.imp fun f ρ h' ⟨ef, x2, x3, xs, er, en, mx, lx, j', g'⟩ => ?_
  subst ef er
  simp only [ok_bnd, ok_ret, ok_ok, ok_new, ok_ite, ok_ite2, oks_ite, oks_bnd, oks_seq, nxt_next, nxt_ret, oks_nil, oks_ok, oks_name, zbin, zun, zcons, znil, zlst, zlstW, ztup, ztupW, zb, one1, two2, zif, ztest, znot, zor, zand, zandV, zorV, zisi, zvar_eq, zv_non, zv_bl, zv_int, zv_str, zv_tup, zv_fz, zv_ref, zv_obj, sif, sret, sasg, sexpr, zfun, zcall, gId, zasB, zslice, zpart, zasI, List.getD_cons_zero, List.getD_cons_succ, List.set_cons_zero, List.set_cons_succ, if_true, if_false, Bool.not_true, Bool.not_false, Bool.false_eq_true, List.length_cons, List.length_nil, and_self, Nat.zero_add, Nat.reduceAdd, ite_true, ite_false, reduceIte, reduceCtorEq, true_and, and_true]
  exact ⟨h.n, xs, rfl, en, ⟨mx, by rw [lx, lr]; omega⟩, Nat.le_refl _, nb, j', g'⟩
end Lk02

set_option Elab.async false
set_option linter.all false
set_option maxRecDepth 100000
set_option maxHeartbeats 4000000
set_option autoImplicit false
namespace Lk02
open Z
abbrev st1 (k : Nat) (F1 F0 : Nat → List W → M W) : MS := (spar [9, 10] (ztup (zcons (zfun (zcons (zvar 4) znil) znil (zcall 1 0 gId (F1 7))) (zcons (zfun (zcons (zvar 4) (zcons (zlst (zcons (fun _ => ret (.str [115, 108, 111, 116])) (zcons (fun _ => ret (.str [107, 101, 121])) (zcons (fun _ => ret (.str [102, 105, 110, 100])) znil)))) znil)) znil (zcall 2 0 gId (F1 6))) znil))))
abbrev st2 (k : Nat) (F1 F0 : Nat → List W → M W) : MS := (sasg (zb (one1 zlist) (zcons (zvar 9) znil)) (gname 6))
abbrev st3 (k : Nat) (F1 F0 : Nat → List W → M W) : MS := (sasg (zfun (zcons (zvar 6) (zcons (zvar 10) znil)) znil (zmkW true 0 2 0 gId (F0 10))) (gname 7))
abbrev st4 (k : Nat) (F1 F0 : Nat → List W → M W) : MS := (sif (zor (ztest (zbin (zcmpNeO ET (k + 1)) (zvar 6) (zvar 9))) (ztest (zbin (zcmpNeO ET (k + 1)) (zfld [0] 5 (zvar 7)) (zb (one1 ztuple) (zcons (zvar 9) znil))))) (sseq (sret (fun _ => ret (.bl false))) snil) snil)
abbrev st5 (k : Nat) (F1 F0 : Nat → List W → M W) : MS := (sexpr (zbm false mAppend (zvar 6) (zcons (fun _ => ret (.str [115, 97, 109, 101])) znil)))
abbrev st6 (k : Nat) (F1 F0 : Nat → List W → M W) : MS := (sif (ztest (zbin (zcmpNeO ET (k + 1)) (zb (one1 zreprL) (zcons (zlst (zcons (zfld [0] 5 (zvar 7)) (zcons (zfld [0] 3 (zvar 7)) (zcons (zb (one1 (zstrO strT F0)) (zcons (zvar 7) znil)) znil)))) znil)) (zb (one1 zreprL) (zcons (zlst (zcons (zb (one1 ztuple) (zcons (zvar 9) znil)) (zcons (zvar 10) (zcons (zfun (zcons (zvar 9) (zcons (zvar 10) znil)) znil (zcall 2 0 gId (F1 8))) znil)))) znil)))) (sseq (sret (fun _ => ret (.bl false))) snil) snil)
abbrev st7 (k : Nat) (F1 F0 : Nat → List W → M W) : MS := (sif (zor (ztest (zbin (zcmpNeO ET (k + 1)) (zvar 7) (zfun (zcons (zb (one1 ztuple) (zcons (zvar 9) znil)) (zcons (zvar 10) znil)) znil (zmkW true 0 2 0 gId (F0 10))))) (zor (ztest (zbin (zcmpEq ET (k + 1)) (zvar 7) (zb (one1 (zstrO strT F0)) (zcons (zvar 7) znil)))) (znot (ztest (zbin (zcmpEq ET (k + 1)) (zvar 7) (zfun (zcons (zvar 9) (zcons (zvar 10) znil)) znil (zmkW true 0 2 0 gId (F0 10)))))))) (sseq (sret (fun _ => ret (.bl false))) snil) snil)
abbrev st8 (k : Nat) (F1 F0 : Nat → List W → M W) : MS := (sexpr (zbm false mAppend (zvar 5) (zcons (zvar 7) znil)))
abbrev stAll (k : Nat) (F1 F0 : Nat → List W → M W) : MS := sseq (st1 k F1 F0) (sseq (st2 k F1 F0) (sseq (st3 k F1 F0) (sseq (st4 k F1 F0) (sseq (st5 k F1 F0) (sseq (st6 k F1 F0) (sseq (st7 k F1 F0) (sseq (st8 k F1 F0) (snil))))))))
abbrev ou1 (k : Nat) (F1 F0 : Nat → List W → M W) : MS := (spar [4, 5] (ztup (zcons (zfun (zcons (zvar 0) (zcons (zvar 1) (zcons (fun _ => ret (.int 2)) znil))) znil (zcall 3 0 gId (F1 4))) (zcons (zlst znil) znil))))
abbrev ou2 (k : Nat) (F1 F0 : Nat → List W → M W) : MS := (sfor (zitR (zcons (fun _ => ret (.int 6)) znil)) (gname 2) (sseq (spar [9, 10] (ztup (zcons (zfun (zcons (zvar 4) znil) znil (zcall 1 0 gId (F1 7))) (zcons (zfun (zcons (zvar 4) (zcons (zlst (zcons (fun _ => ret (.str [115, 108, 111, 116])) (zcons (fun _ => ret (.str [107, 101, 121])) (zcons (fun _ => ret (.str [102, 105, 110, 100])) znil)))) znil)) znil (zcall 2 0 gId (F1 6))) znil)))) (sseq (sasg (zb (one1 zlist) (zcons (zvar 9) znil)) (gname 6)) (sseq (sasg (zfun (zcons (zvar 6) (zcons (zvar 10) znil)) znil (zmkW true 0 2 0 gId (F0 10))) (gname 7)) (sseq (sif (zor (ztest (zbin (zcmpNeO ET (k + 1)) (zvar 6) (zvar 9))) (ztest (zbin (zcmpNeO ET (k + 1)) (zfld [0] 5 (zvar 7)) (zb (one1 ztuple) (zcons (zvar 9) znil))))) (sseq (sret (fun _ => ret (.bl false))) snil) snil) (sseq (sexpr (zbm false mAppend (zvar 6) (zcons (fun _ => ret (.str [115, 97, 109, 101])) znil))) (sseq (sif (ztest (zbin (zcmpNeO ET (k + 1)) (zb (one1 zreprL) (zcons (zlst (zcons (zfld [0] 5 (zvar 7)) (zcons (zfld [0] 3 (zvar 7)) (zcons (zb (one1 (zstrO strT F0)) (zcons (zvar 7) znil)) znil)))) znil)) (zb (one1 zreprL) (zcons (zlst (zcons (zb (one1 ztuple) (zcons (zvar 9) znil)) (zcons (zvar 10) (zcons (zfun (zcons (zvar 9) (zcons (zvar 10) znil)) znil (zcall 2 0 gId (F1 8))) znil)))) znil)))) (sseq (sret (fun _ => ret (.bl false))) snil) snil) (sseq (sif (zor (ztest (zbin (zcmpNeO ET (k + 1)) (zvar 7) (zfun (zcons (zb (one1 ztuple) (zcons (zvar 9) znil)) (zcons (zvar 10) znil)) znil (zmkW true 0 2 0 gId (F0 10))))) (zor (ztest (zbin (zcmpEq ET (k + 1)) (zvar 7) (zb (one1 (zstrO strT F0)) (zcons (zvar 7) znil)))) (znot (ztest (zbin (zcmpEq ET (k + 1)) (zvar 7) (zfun (zcons (zvar 9) (zcons (zvar 10) znil)) znil (zmkW true 0 2 0 gId (F0 10)))))))) (sseq (sret (fun _ => ret (.bl false))) snil) snil) (sseq (sexpr (zbm false mAppend (zvar 5) (zcons (zvar 7) znil))) snil)))))))))
abbrev ou3 (k : Nat) (F1 F0 : Nat → List W → M W) : MS := (sfor (zit (zvar 5)) (gname 3) (sseq (sfor (zit (zvar 5)) (gname 8) (sseq (sif (zor (ztest (zbin (zcmpNeO ET (k + 1)) (zbin (zcmpEq ET (k + 1)) (zvar 3) (zvar 8)) (zbin (zcmpEq ET (k + 1)) (zb (one1 (zstrO strT F0)) (zcons (zvar 3) znil)) (zb (one1 (zstrO strT F0)) (zcons (zvar 8) znil))))) (ztest (zbin (zcmpEq ET (k + 1)) (zbin (zcmpNeO ET (k + 1)) (zvar 3) (zvar 8)) (zbin (zcmpEq ET (k + 1)) (zvar 3) (zvar 8))))) (sseq (sret (fun _ => ret (.bl false))) snil) snil) snil)) snil))
abbrev ouAll (k : Nat) (F1 F0 : Nat → List W → M W) : MS := sseq (ou1 k F1 F0) (sseq (ou2 k F1 F0) (sseq (ou3 k F1 F0) (snil)))
abbrev in1 (k : Nat) (F1 F0 : Nat → List W → M W) : MS := (sfor (zit (zvar 5)) (gname 8) (sseq (sif (zor (ztest (zbin (zcmpNeO ET (k + 1)) (zbin (zcmpEq ET (k + 1)) (zvar 3) (zvar 8)) (zbin (zcmpEq ET (k + 1)) (zb (one1 (zstrO strT F0)) (zcons (zvar 3) znil)) (zb (one1 (zstrO strT F0)) (zcons (zvar 8) znil))))) (ztest (zbin (zcmpEq ET (k + 1)) (zbin (zcmpNeO ET (k + 1)) (zvar 3) (zvar 8)) (zbin (zcmpEq ET (k + 1)) (zvar 3) (zvar 8))))) (sseq (sret (fun _ => ret (.bl false))) snil) snil) snil))
abbrev inAll (k : Nat) (F1 F0 : Nat → List W → M W) : MS := sseq (in1 k F1 F0) (snil)
abbrev la1 (k : Nat) (F1 F0 : Nat → List W → M W) : MS := (sfor (zitR (zcons (zb (two2 zmax) (zcons (fun _ => ret (.int 1)) (zcons (zb (two2 zmin) (zcons (fun _ => ret (.int 3)) (zcons (zb (one1 zlen) (zcons (zvar 0) znil)) znil))) znil))) znil)) (gname 1) (sseq (spar [4, 5] (ztup (zcons (zfun (zcons (zvar 0) (zcons (zvar 1) (zcons (fun _ => ret (.int 2)) znil))) znil (zcall 3 0 gId (F1 4))) (zcons (zlst znil) znil)))) (sseq (sfor (zitR (zcons (fun _ => ret (.int 6)) znil)) (gname 2) (sseq (spar [9, 10] (ztup (zcons (zfun (zcons (zvar 4) znil) znil (zcall 1 0 gId (F1 7))) (zcons (zfun (zcons (zvar 4) (zcons (zlst (zcons (fun _ => ret (.str [115, 108, 111, 116])) (zcons (fun _ => ret (.str [107, 101, 121])) (zcons (fun _ => ret (.str [102, 105, 110, 100])) znil)))) znil)) znil (zcall 2 0 gId (F1 6))) znil)))) (sseq (sasg (zb (one1 zlist) (zcons (zvar 9) znil)) (gname 6)) (sseq (sasg (zfun (zcons (zvar 6) (zcons (zvar 10) znil)) znil (zmkW true 0 2 0 gId (F0 10))) (gname 7)) (sseq (sif (zor (ztest (zbin (zcmpNeO ET (k + 1)) (zvar 6) (zvar 9))) (ztest (zbin (zcmpNeO ET (k + 1)) (zfld [0] 5 (zvar 7)) (zb (one1 ztuple) (zcons (zvar 9) znil))))) (sseq (sret (fun _ => ret (.bl false))) snil) snil) (sseq (sexpr (zbm false mAppend (zvar 6) (zcons (fun _ => ret (.str [115, 97, 109, 101])) znil))) (sseq (sif (ztest (zbin (zcmpNeO ET (k + 1)) (zb (one1 zreprL) (zcons (zlst (zcons (zfld [0] 5 (zvar 7)) (zcons (zfld [0] 3 (zvar 7)) (zcons (zb (one1 (zstrO strT F0)) (zcons (zvar 7) znil)) znil)))) znil)) (zb (one1 zreprL) (zcons (zlst (zcons (zb (one1 ztuple) (zcons (zvar 9) znil)) (zcons (zvar 10) (zcons (zfun (zcons (zvar 9) (zcons (zvar 10) znil)) znil (zcall 2 0 gId (F1 8))) znil)))) znil)))) (sseq (sret (fun _ => ret (.bl false))) snil) snil) (sseq (sif (zor (ztest (zbin (zcmpNeO ET (k + 1)) (zvar 7) (zfun (zcons (zb (one1 ztuple) (zcons (zvar 9) znil)) (zcons (zvar 10) znil)) znil (zmkW true 0 2 0 gId (F0 10))))) (zor (ztest (zbin (zcmpEq ET (k + 1)) (zvar 7) (zb (one1 (zstrO strT F0)) (zcons (zvar 7) znil)))) (znot (ztest (zbin (zcmpEq ET (k + 1)) (zvar 7) (zfun (zcons (zvar 9) (zcons (zvar 10) znil)) znil (zmkW true 0 2 0 gId (F0 10)))))))) (sseq (sret (fun _ => ret (.bl false))) snil) snil) (sseq (sexpr (zbm false mAppend (zvar 5) (zcons (zvar 7) znil))) snil))))))))) (sseq (sfor (zit (zvar 5)) (gname 3) (sseq (sfor (zit (zvar 5)) (gname 8) (sseq (sif (zor (ztest (zbin (zcmpNeO ET (k + 1)) (zbin (zcmpEq ET (k + 1)) (zvar 3) (zvar 8)) (zbin (zcmpEq ET (k + 1)) (zb (one1 (zstrO strT F0)) (zcons (zvar 3) znil)) (zb (one1 (zstrO strT F0)) (zcons (zvar 8) znil))))) (ztest (zbin (zcmpEq ET (k + 1)) (zbin (zcmpNeO ET (k + 1)) (zvar 3) (zvar 8)) (zbin (zcmpEq ET (k + 1)) (zvar 3) (zvar 8))))) (sseq (sret (fun _ => ret (.bl false))) snil) snil) snil)) snil)) snil))))
abbrev la2 (k : Nat) (F1 F0 : Nat → List W → M W) : MS := (sret (zandV (zbin (zcmpEq ET (k + 1)) (zfun0 znil (zmkW true 0 0 0 (fun ws _ => ws ++ dd_10_1) (F0 10))) (zfun (zcons (ztup znil) (zcons (fun _ => ret (.str [102, 105, 110, 100])) znil)) znil (zmkW true 0 2 0 gId (F0 10)))) (zandV (zbin (zcmpEq ET (k + 1)) (zb (one1 (zstrO strT F0)) (zcons (zfun (zcons (zlst (zcons (fun _ => ret (.str [115, 97, 109, 101])) znil)) znil) znil (zmkW true 0 1 0 (fun ws _ => ws ++ dd_10_2) (F0 10))) znil)) (fun _ => ret (.str [105, 102, 32, 115, 97, 109, 101, 32, 100, 111, 32, 102, 105, 110, 100]))) (zbin (zcmpEq ET (k + 1)) (zb (one1 (zstrO strT F0)) (zcons (zfun0 znil (zmkW true 0 0 0 (fun ws _ => ws ++ dd_10_1) (F0 10))) znil)) (fun _ => ret (.str [100, 111, 32, 102, 105, 110, 100]))))))
abbrev laAll (k : Nat) (F1 F0 : Nat → List W → M W) : MS := sseq (la1 k F1 F0) (sseq (la2 k F1 F0) (snil))

structure SS (h : Hz) (b m t : Nat) (rws : List W) (xs : List (List Nat)) (d : List Nat) : Prop where
  bx : Box h b
  gm : h.get m = some (.lst rws)
  mb : m ≠ b
  gt : h.get t = some (.lst (xs.map W.str))
  tb : t ≠ b
  tm : t ≠ m
  tx : Tx xs
  hd : d ∈ three
theorem SS.gro {h h' : Hz} {b m t : Nat} {rws : List W} {xs : List (List Nat)} {d : List Nat} (s : SS h b m t rws xs d) (g : Gro h h') : SS h' b m t rws xs d := ⟨s.bx.gro g, g.get s.gm, s.mb, g.get s.gt, s.tb, s.tm, s.tx, s.hd⟩
theorem SS.put {h : Hz} {b m t g : Nat} {rws : List W} {xs : List (List Nat)} {d : List Nat} {c c2 : Cell} (s : SS h b m t rws xs d) (e : h.get g = some c) (gb : g ≠ b) (gm : g ≠ m) (gt : g ≠ t) : SS (h.put g c2) b m t rws xs d := by
  obtain ⟨u, v, w, eb⟩ := s.bx
  exact ⟨⟨u, v, w, by rw [Hz.get_put_ne e (Ne.symm gb)]; exact eb⟩, by rw [Hz.get_put_ne e (Ne.symm gm)]; exact s.gm, s.mb, by rw [Hz.get_put_ne e (Ne.symm gt)]; exact s.gt, s.tb, s.tm, s.tx, s.hd⟩
theorem kref {h : Hz} {i : Nat} {ws : List W} (e : h.get i = some (.lst ws)) : isObjK (kind h (.ref i)) = false := by show isObjK (kindC (h.get i)) = _; rw [e]; rfl
theorem dtrue {α : Type} [DecidableEq α] {x : α} : decide (x = x) = true := by simp
theorem s1 {k b m : Nat} {h : Hz} {rws : List W} {a x1 x2 x3 x6 x7 x8 x9 x10 : Option W} (j : Box h b) (gm : h.get m = some (.lst rws)) (mb : m ≠ b) :
    OkS (st1 (k + 5) (fnT (k + 6)) (fnT (k + 5)) [a, x1, x2, x3, some (.ref b), some (.ref m), x6, x7, x8, x9, x10] h) fun f ρ h' => f = .next ∧
    ∃ t xs d, ρ = [a, x1, x2, x3, some (.ref b), some (.ref m), x6, x7, x8, some (.ref t), some (.str d)] ∧ SS h' b m t rws xs d := by
  simp only [ok_bnd, ok_ret, ok_ok, ok_new, ok_ite, ok_ite2, oks_ite, oks_bnd, oks_seq, nxt_next, nxt_ret, oks_nil, oks_ok, oks_name, zbin, zun, zcons, znil, zlst, zlstW, ztup, ztupW, zb, one1, two2, zif, ztest, znot, zor, zand, zandV, zorV, zisi, zvar_eq, zv_non, zv_bl, zv_int, zv_str, zv_tup, zv_fz, zv_ref, zv_obj, sif, sret, sasg, sexpr, zfun, zcall, gId, zasB, zslice, zpart, zasI, List.getD_cons_zero, List.getD_cons_succ, List.set_cons_zero, List.set_cons_succ, if_true, if_false, Bool.not_true, Bool.not_false, Bool.false_eq_true, List.length_cons, List.length_nil, and_self, Nat.zero_add, Nat.reduceAdd, ite_true, ite_false, reduceIte, reduceCtorEq, true_and, and_true, spar]
  refine (tests (k := k + 2) j).imp fun w h1 ⟨t, xs, ew, gt, tx, nt, tb, j1, g1⟩ => ?_
  subst ew
  simp only [ok_bnd, ok_ret, ok_ok, ok_new, ok_ite, ok_ite2, oks_ite, oks_bnd, oks_seq, nxt_next, nxt_ret, oks_nil, oks_ok, oks_name, zbin, zun, zcons, znil, zlst, zlstW, ztup, ztupW, zb, one1, two2, zif, ztest, znot, zor, zand, zandV, zorV, zisi, zvar_eq, zv_non, zv_bl, zv_int, zv_str, zv_tup, zv_fz, zv_ref, zv_obj, sif, sret, sasg, sexpr, zfun, zcall, gId, zasB, zslice, zpart, zasI, List.getD_cons_zero, List.getD_cons_succ, List.set_cons_zero, List.set_cons_succ, if_true, if_false, Bool.not_true, Bool.not_false, Bool.false_eq_true, List.length_cons, List.length_nil, and_self, Nat.zero_add, Nat.reduceAdd, ite_true, ite_false, reduceIte, reduceCtorEq, true_and, and_true, lim3]
  have g2 := Gro.push h1 (.lst [.str [115, 108, 111, 116], .str [107, 101, 121], .str [102, 105, 110, 100]])
  refine (pick (k := k + 3) (j1.gro g2) (Hz.get_push_self _ _) (Nat.ne_of_gt j1.lt) (Nat.le_of_ble_eq_true rfl) (Nat.le_of_ble_eq_true rfl)).imp fun y h2 ⟨hy, j2, g3⟩ => ?_
  obtain ⟨d, hd, e⟩ := List.mem_map.mp (show y ∈ three.map W.str from hy)
  subst e
  have lm := Hz.get_lt gm
  simp only [ok_bnd, ok_ret, ok_ok, ok_new, ok_ite, ok_ite2, oks_ite, oks_bnd, oks_seq, nxt_next, nxt_ret, oks_nil, oks_ok, oks_name, zbin, zun, zcons, znil, zlst, zlstW, ztup, ztupW, zb, one1, two2, zif, ztest, znot, zor, zand, zandV, zorV, zisi, zvar_eq, zv_non, zv_bl, zv_int, zv_str, zv_tup, zv_fz, zv_ref, zv_obj, sif, sret, sasg, sexpr, zfun, zcall, gId, zasB, zslice, zpart, zasI, List.getD_cons_zero, List.getD_cons_succ, List.set_cons_zero, List.set_cons_succ, if_true, if_false, Bool.not_true, Bool.not_false, Bool.false_eq_true, List.length_cons, List.length_nil, and_self, Nat.zero_add, Nat.reduceAdd, ite_true, ite_false, reduceIte, reduceCtorEq, true_and, and_true, lim2, parSet, List.reverse_cons, List.reverse_nil, List.nil_append, List.cons_append]
  exact ⟨t, xs, d, rfl, j2, g3.get (g2.get (g1.get gm mb)) mb, mb, g3.get (g2.get gt) tb, tb, by omega, tx, hd⟩
theorem s23 {k b m t : Nat} {h : Hz} {rws : List W} {xs : List (List Nat)} {d : List Nat} {a x1 x2 x3 x6 x7 x8 : Option W} (s : SS h b m t rws xs d) :
    OkS (sseq (st2 (k + 5) (fnT (k + 6)) (fnT (k + 5))) (sseq (st3 (k + 5) (fnT (k + 6)) (fnT (k + 5))) snil) [a, x1, x2, x3, some (.ref b), some (.ref m), x6, x7, x8, some (.ref t), some (.str d)] h) fun f ρ h' => f = .next ∧
    ∃ g, ρ = [a, x1, x2, x3, some (.ref b), some (.ref m), some (.ref g), some (row xs d), x8, some (.ref t), some (.str d)] ∧ SS h' b m t rws xs d ∧ h'.get g = some (.lst (xs.map W.str)) ∧ g ≠ b ∧ g ≠ m ∧ g ≠ t := by
  simp only [ok_bnd, ok_ret, ok_ok, ok_new, ok_ite, ok_ite2, oks_ite, oks_bnd, oks_seq, nxt_next, nxt_ret, oks_nil, oks_ok, oks_name, zbin, zun, zcons, znil, zlst, zlstW, ztup, ztupW, zb, one1, two2, zif, ztest, znot, zor, zand, zandV, zorV, zisi, zvar_eq, zv_non, zv_bl, zv_int, zv_str, zv_tup, zv_fz, zv_ref, zv_obj, sif, sret, sasg, sexpr, zfun, zcall, gId, zasB, zslice, zpart, zasI, List.getD_cons_zero, List.getD_cons_succ, List.set_cons_zero, List.set_cons_succ, if_true, if_false, Bool.not_true, Bool.not_false, Bool.false_eq_true, List.length_cons, List.length_nil, and_self, Nat.zero_add, Nat.reduceAdd, ite_true, ite_false, reduceIte, reduceCtorEq, true_and, and_true, list_ok s.gt]
  have g1 := Gro.push h (.lst (xs.map W.str))
  have e1 := Hz.get_push_self h (.lst (xs.map W.str))
  have s1 := s.gro g1
  have lb := s.bx.lt
  have lm := Hz.get_lt s.gm
  have lt := Hz.get_lt s.gt
  refine (mk (k := k) (t := .ref h.n) rfl ⟨_, e1⟩ (by show (match (h.push (.lst (xs.map W.str))).get h.n with | some (.lst ws) => ws | _ => []) = _; rw [e1]) s.tx s.hd).imp fun w h2 ⟨ew, g2⟩ => ?_
  subst ew
  exact ⟨_, rfl, s1.gro g2, g2.get e1, by omega, by omega, by omega⟩
theorem s45 {k b m t g : Nat} {h : Hz} {rws : List W} {xs : List (List Nat)} {d : List Nat} {a x1 x2 x3 x8 : Option W} (s : SS h b m t rws xs d) (eg : h.get g = some (.lst (xs.map W.str))) (gb : g ≠ b) (gm : g ≠ m) (gt : g ≠ t) :
    OkS (sseq (st4 (k + 5) (fnT (k + 6)) (fnT (k + 5))) (sseq (st5 (k + 5) (fnT (k + 6)) (fnT (k + 5))) snil) [a, x1, x2, x3, some (.ref b), some (.ref m), some (.ref g), some (row xs d), x8, some (.ref t), some (.str d)] h) fun f ρ h' => f = .next ∧
    ρ = [a, x1, x2, x3, some (.ref b), some (.ref m), some (.ref g), some (row xs d), x8, some (.ref t), some (.str d)] ∧ SS h' b m t rws xs d := by
  have e1 : zcmpNeO ET (k + 5 + 1) (.ref g) (.ref t) h = .ok (.bl false) h := by
    rw [neO_no (kref eg) (zeq_refs (n := k + 4) eg s.gt), dtrue]
    rfl
  have e2 : zfldW [0] 5 (row xs d) h = .ok (.tup (xs.map W.str)) h := zfld_obj rfl rfl
  have e3 : zcmpNeO ET (k + 5 + 1) (.tup (xs.map W.str)) (.tup (xs.map W.str)) h = .ok (.bl false) h := by
    rw [neO_no rfl (zeq_tup (n := k + 4)), dtrue]
    rfl
  have la : (xs.map W.str).length < 1000 := by rw [List.length_map]; have := s.tx.len; omega
  simp only [ok_bnd, ok_ret, ok_ok, ok_new, ok_ite, ok_ite2, oks_ite, oks_bnd, oks_seq, nxt_next, nxt_ret, oks_nil, oks_ok, oks_name, zbin, zun, zcons, znil, zlst, zlstW, ztup, ztupW, zb, one1, two2, zif, ztest, znot, zor, zand, zandV, zorV, zisi, zvar_eq, zv_non, zv_bl, zv_int, zv_str, zv_tup, zv_fz, zv_ref, zv_obj, sif, sret, sasg, sexpr, zfun, zcall, gId, zasB, zslice, zpart, zasI, List.getD_cons_zero, List.getD_cons_succ, List.set_cons_zero, List.set_cons_succ, if_true, if_false, Bool.not_true, Bool.not_false, Bool.false_eq_true, List.length_cons, List.length_nil, and_self, Nat.zero_add, Nat.reduceAdd, ite_true, ite_false, reduceIte, reduceCtorEq, true_and, and_true, e1, zfld, e2, tuple_ok s.gt, e3, zbm, zty_ref eg, app_ok eg la]
  exact s.put eg gb gm gt
theorem s6 {k b m t g : Nat} {h : Hz} {rws : List W} {xs : List (List Nat)} {d : List Nat} {a x1 x2 x3 x8 : Option W} (s : SS h b m t rws xs d) :
    OkS (st6 (k + 5) (fnT (k + 6)) (fnT (k + 5)) [a, x1, x2, x3, some (.ref b), some (.ref m), some (.ref g), some (row xs d), x8, some (.ref t), some (.str d)] h) fun f ρ h' => f = .next ∧
    ρ = [a, x1, x2, x3, some (.ref b), some (.ref m), some (.ref g), some (row xs d), x8, some (.ref t), some (.str d)] ∧ SS h' b m t rws xs d := by
  have e2 : zfldW [0] 5 (row xs d) h = .ok (.tup (xs.map W.str)) h := zfld_obj rfl rfl
  have e3 : zfldW [0] 3 (row xs d) h = .ok (.str d) h := zfld_obj rfl rfl
  have e4 : zstrO strT (fnT (k + 5)) (row xs d) h = .ok (.str (rowText xs d)) h := str_row (k := k + 3) s.tx s.hd
  obtain ⟨_, ld, pd⟩ := three_ok d s.hd
  have lx := s.tx.len
  simp only [ok_bnd, ok_ret, ok_ok, ok_new, ok_ite, ok_ite2, oks_ite, oks_bnd, oks_seq, nxt_next, nxt_ret, oks_nil, oks_ok, oks_name, zbin, zun, zcons, znil, zlst, zlstW, ztup, ztupW, zb, one1, two2, zif, ztest, znot, zor, zand, zandV, zorV, zisi, zvar_eq, zv_non, zv_bl, zv_int, zv_str, zv_tup, zv_fz, zv_ref, zv_obj, sif, sret, sasg, sexpr, zfun, zcall, gId, zasB, zslice, zpart, zasI, List.getD_cons_zero, List.getD_cons_succ, List.set_cons_zero, List.set_cons_succ, if_true, if_false, Bool.not_true, Bool.not_false, Bool.false_eq_true, List.length_cons, List.length_nil, and_self, Nat.zero_add, Nat.reduceAdd, ite_true, ite_false, reduceIte, reduceCtorEq, true_and, and_true, zfld, e2, e3, e4, lim3]
  have g1 := Gro.push h (.lst [.tup (xs.map W.str), .str d, .str (rowText xs d)])
  obtain ⟨tt, r1, r2⟩ := repr_three (Hz.get_push_self h (.lst [.tup (xs.map W.str), .str d, .str (rowText xs d)])) (fun x hx => ten_plain x (s.tx.mem x hx)) (by omega) pd ld (rowText_plain s.tx.mem pd) (Nat.le_trans (rowText_len s.tx.le (by omega) ld) (by decide))
  rw [r1]
  have s1 := s.gro g1
  simp only [ok_bnd, ok_ret, ok_ok, ok_new, ok_ite, ok_ite2, oks_ite, oks_bnd, oks_seq, nxt_next, nxt_ret, oks_nil, oks_ok, oks_name, zbin, zun, zcons, znil, zlst, zlstW, ztup, ztupW, zb, one1, two2, zif, ztest, znot, zor, zand, zandV, zorV, zisi, zvar_eq, zv_non, zv_bl, zv_int, zv_str, zv_tup, zv_fz, zv_ref, zv_obj, sif, sret, sasg, sexpr, zfun, zcall, gId, zasB, zslice, zpart, zasI, List.getD_cons_zero, List.getD_cons_succ, List.set_cons_zero, List.set_cons_succ, if_true, if_false, Bool.not_true, Bool.not_false, Bool.false_eq_true, List.length_cons, List.length_nil, and_self, Nat.zero_add, Nat.reduceAdd, ite_true, ite_false, reduceIte, reduceCtorEq, true_and, and_true, tuple_ok s1.gt]
  refine (text (k := k + 3) s1.gt s1.tx s1.hd).imp fun w h2 ⟨ew, g2⟩ => ?_
  subst ew
  rw [r2 _ _ (Hz.get_push_self _ _)]
  simp only [ok_bnd, ok_ret, ok_ok, ok_new, ok_ite, ok_ite2, oks_ite, oks_bnd, oks_seq, nxt_next, nxt_ret, oks_nil, oks_ok, oks_name, zbin, zun, zcons, znil, zlst, zlstW, ztup, ztupW, zb, one1, two2, zif, ztest, znot, zor, zand, zandV, zorV, zisi, zvar_eq, zv_non, zv_bl, zv_int, zv_str, zv_tup, zv_fz, zv_ref, zv_obj, sif, sret, sasg, sexpr, zfun, zcall, gId, zasB, zslice, zpart, zasI, List.getD_cons_zero, List.getD_cons_succ, List.set_cons_zero, List.set_cons_succ, if_true, if_false, Bool.not_true, Bool.not_false, Bool.false_eq_true, List.length_cons, List.length_nil, and_self, Nat.zero_add, Nat.reduceAdd, ite_true, ite_false, reduceIte, reduceCtorEq, true_and, and_true]
  rw [neO_no rfl (zeq_str (n := k + 5)), dtrue]
  simp only [ok_bnd, ok_ret, ok_ok, ok_new, ok_ite, ok_ite2, oks_ite, oks_bnd, oks_seq, nxt_next, nxt_ret, oks_nil, oks_ok, oks_name, zbin, zun, zcons, znil, zlst, zlstW, ztup, ztupW, zb, one1, two2, zif, ztest, znot, zor, zand, zandV, zorV, zisi, zvar_eq, zv_non, zv_bl, zv_int, zv_str, zv_tup, zv_fz, zv_ref, zv_obj, sif, sret, sasg, sexpr, zfun, zcall, gId, zasB, zslice, zpart, zasI, List.getD_cons_zero, List.getD_cons_succ, List.set_cons_zero, List.set_cons_succ, if_true, if_false, Bool.not_true, Bool.not_false, Bool.false_eq_true, List.length_cons, List.length_nil, and_self, Nat.zero_add, Nat.reduceAdd, ite_true, ite_false, reduceIte, reduceCtorEq, true_and, and_true]
  exact (s1.gro g2).gro (Gro.push _ _)
theorem s78 {k b m t g : Nat} {h : Hz} {rws : List W} {xs : List (List Nat)} {d : List Nat} {a x1 x2 x3 x8 : Option W} (s : SS h b m t rws xs d) (lr : rws.length < 1000) :
    OkS (sseq (st7 (k + 5) (fnT (k + 6)) (fnT (k + 5))) (sseq (st8 (k + 5) (fnT (k + 6)) (fnT (k + 5))) snil) [a, x1, x2, x3, some (.ref b), some (.ref m), some (.ref g), some (row xs d), x8, some (.ref t), some (.str d)] h) fun f ρ h' => f = .next ∧
    ρ = [a, x1, x2, x3, some (.ref b), some (.ref m), some (.ref g), some (row xs d), x8, some (.ref t), some (.str d)] ∧ Box h' b ∧ h'.get m = some (.lst (rws ++ [row xs d])) := by
  simp only [ok_bnd, ok_ret, ok_ok, ok_new, ok_ite, ok_ite2, oks_ite, oks_bnd, oks_seq, nxt_next, nxt_ret, oks_nil, oks_ok, oks_name, zbin, zun, zcons, znil, zlst, zlstW, ztup, ztupW, zb, one1, two2, zif, ztest, znot, zor, zand, zandV, zorV, zisi, zvar_eq, zv_non, zv_bl, zv_int, zv_str, zv_tup, zv_fz, zv_ref, zv_obj, sif, sret, sasg, sexpr, zfun, zcall, gId, zasB, zslice, zpart, zasI, List.getD_cons_zero, List.getD_cons_succ, List.set_cons_zero, List.set_cons_succ, if_true, if_false, Bool.not_true, Bool.not_false, Bool.false_eq_true, List.length_cons, List.length_nil, and_self, Nat.zero_add, Nat.reduceAdd, ite_true, ite_false, reduceIte, reduceCtorEq, true_and, and_true, tuple_ok s.gt]
  refine (mk (k := k) (t := .tup (xs.map W.str)) rfl trivial rfl s.tx s.hd).imp fun w h1 ⟨ew, g1⟩ => ?_
  subst ew
  have s1 := s.gro g1
  have e1 : zcmpNeO ET (k + 5 + 1) (row xs d) (row xs d) h1 = .ok (.bl false) h1 := by
    rw [neO_obj (zeq_row (E := ET) (n := k + 2) rfl rfl), dtrue, dtrue]
    rfl
  have e4 : zstrO strT (fnT (k + 5)) (row xs d) h1 = .ok (.str (rowText xs d)) h1 := str_row (k := k + 3) s.tx s.hd
  have e5 : zcmpEq ET (k + 5 + 1) (row xs d) (.str (rowText xs d)) h1 = .ok (.bl false) h1 := cmpEq_of (zeq_rowstr (n := k + 5) (ks := [5, 3]) rfl)
  simp only [ok_bnd, ok_ret, ok_ok, ok_new, ok_ite, ok_ite2, oks_ite, oks_bnd, oks_seq, nxt_next, nxt_ret, oks_nil, oks_ok, oks_name, zbin, zun, zcons, znil, zlst, zlstW, ztup, ztupW, zb, one1, two2, zif, ztest, znot, zor, zand, zandV, zorV, zisi, zvar_eq, zv_non, zv_bl, zv_int, zv_str, zv_tup, zv_fz, zv_ref, zv_obj, sif, sret, sasg, sexpr, zfun, zcall, gId, zasB, zslice, zpart, zasI, List.getD_cons_zero, List.getD_cons_succ, List.set_cons_zero, List.set_cons_succ, if_true, if_false, Bool.not_true, Bool.not_false, Bool.false_eq_true, List.length_cons, List.length_nil, and_self, Nat.zero_add, Nat.reduceAdd, ite_true, ite_false, reduceIte, reduceCtorEq, true_and, and_true, e1, e4, e5]
  refine (mk (k := k) (t := .ref t) rfl ⟨_, s1.gt⟩ (by show (match h1.get t with | some (.lst ws) => ws | _ => []) = _; rw [s1.gt]) s.tx s.hd).imp fun w h2 ⟨ew, g2⟩ => ?_
  subst ew
  have s2 := s1.gro g2
  have e6 : zcmpEq ET (k + 5 + 1) (row xs d) (row xs d) h2 = .ok (.bl true) h2 := by
    rw [cmpEq_of (zeq_row (E := ET) (n := k + 3) rfl rfl), dtrue, dtrue]
    rfl
  simp only [ok_bnd, ok_ret, ok_ok, ok_new, ok_ite, ok_ite2, oks_ite, oks_bnd, oks_seq, nxt_next, nxt_ret, oks_nil, oks_ok, oks_name, zbin, zun, zcons, znil, zlst, zlstW, ztup, ztupW, zb, one1, two2, zif, ztest, znot, zor, zand, zandV, zorV, zisi, zvar_eq, zv_non, zv_bl, zv_int, zv_str, zv_tup, zv_fz, zv_ref, zv_obj, sif, sret, sasg, sexpr, zfun, zcall, gId, zasB, zslice, zpart, zasI, List.getD_cons_zero, List.getD_cons_succ, List.set_cons_zero, List.set_cons_succ, if_true, if_false, Bool.not_true, Bool.not_false, Bool.false_eq_true, List.length_cons, List.length_nil, and_self, Nat.zero_add, Nat.reduceAdd, ite_true, ite_false, reduceIte, reduceCtorEq, true_and, and_true, e6, zbm, zty_ref s2.gm, app_ok s2.gm lr]
  obtain ⟨u, v, w, eb⟩ := s2.bx
  exact ⟨⟨u, v, w, by rw [Hz.get_put_ne s2.gm (Ne.symm s2.mb)]; exact eb⟩, Hz.get_put_self s2.gm⟩
end Lk02

set_option Elab.async false
set_option linter.all false
set_option maxRecDepth 100000
set_option maxHeartbeats 4000000
set_option autoImplicit false
namespace Z
theorem seq_cut2 {A B K : MS} {ρ : Ev} {h : Hz} {Q : Fl → Ev → Hz → Prop} {P : Ev → Hz → Prop} (a : OkS (sseq A (sseq B snil) ρ h) fun f ρ' h' => f = .next ∧ P ρ' h') (b : ∀ ρ' h', P ρ' h' → OkS (K ρ' h') Q) : OkS (sseq A (sseq B K) ρ h) Q := by
  rw [oks_seq] at a ⊢
  refine a.imp fun f ρ1 h1 q => ?_
  cases f with
  | next =>
    have q : OkS (sseq B snil ρ1 h1) fun f ρ' h' => f = .next ∧ P ρ' h' := q
    rw [seq_snil] at q
    exact seq_cut q b
  | ret w => exact nomatch q.1
  | brk => exact nomatch q.1
  | cnt => exact nomatch q.1
end Z
namespace Lk02
open Z
def Rws (rws : List W) : Prop := ∀ r ∈ rws, ∃ xs d, r = row xs d ∧ Tx xs ∧ d ∈ three
theorem turn_spec {k b m : Nat} {h : Hz} {rws : List W} {a x1 x2 x3 x6 x7 x8 x9 x10 : Option W} (j : Box h b) (gm : h.get m = some (.lst rws)) (mb : m ≠ b) (lr : rws.length < 1000) (rr : Rws rws) :
    OkS (stAll (k + 5) (fnT (k + 6)) (fnT (k + 5)) [a, x1, x2, x3, some (.ref b), some (.ref m), x6, x7, x8, x9, x10] h) fun f ρ h' => f = .next ∧
    ∃ x6 x7 x9 x10 r2, ρ = [a, x1, x2, x3, some (.ref b), some (.ref m), x6, x7, x8, x9, x10] ∧ Box h' b ∧ h'.get m = some (.lst r2) ∧ r2.length = rws.length + 1 ∧ Rws r2 := by
  refine seq_cut (s1 (k := k) j gm mb) fun ρ h1 ⟨t, xs, d, e, s⟩ => ?_
  subst e
  refine seq_cut2 (s23 (k := k) s) fun ρ h1 ⟨g, e, s, eg, gb, gm, gt⟩ => ?_
  subst e
  refine seq_cut2 (s45 (k := k) s eg gb gm gt) fun ρ h1 ⟨e, s⟩ => ?_
  subst e
  refine seq_cut (s6 (k := k) s) fun ρ h1 ⟨e, s⟩ => ?_
  subst e
  refine (s78 (k := k) s lr).imp fun f ρ h2 ⟨ef, e, bx, gm2⟩ => ?_
  subst ef e
  refine ⟨rfl, _, _, _, _, _, rfl, bx, gm2, by rw [List.length_append]; rfl, fun r hr => ?_⟩
  rcases List.mem_append.mp hr with hr | hr
  · exact rr r hr
  · rw [List.mem_singleton] at hr
    exact ⟨xs, d, hr, s.tx, s.hd⟩
theorem bb {E : Z.ET} {h : Hz} {n : Nat} {a b : Bool} : zeq E h (n + 1) (.bl a) (.bl b) = some (a == b) := rfl
theorem pair_spec {k m : Nat} {h : Hz} {xs ys : List (List Nat)} {d e : List Nat} {a x1 x2 x4 x5 x6 x7 x9 x10 : Option W} (tx : Tx xs) (ty : Tx ys) (hd : d ∈ three) (he : e ∈ three) :
    OkS ((sseq (sif (zor (ztest (zbin (zcmpNeO ET (k + 5 + 1)) (zbin (zcmpEq ET (k + 5 + 1)) (zvar 3) (zvar 8)) (zbin (zcmpEq ET (k + 5 + 1)) (zb (one1 (zstrO strT (fnT (k + 5)))) (zcons (zvar 3) znil)) (zb (one1 (zstrO strT (fnT (k + 5)))) (zcons (zvar 8) znil))))) (ztest (zbin (zcmpEq ET (k + 5 + 1)) (zbin (zcmpNeO ET (k + 5 + 1)) (zvar 3) (zvar 8)) (zbin (zcmpEq ET (k + 5 + 1)) (zvar 3) (zvar 8))))) (sseq (sret (fun _ => ret (.bl false))) snil) snil) snil)
      [a, x1, x2, some (row xs d), x4, x5, x6, x7, some (row ys e), x9, x10] h) fun f ρ h' => f = .next ∧ ρ = [a, x1, x2, some (row xs d), x4, x5, x6, x7, some (row ys e), x9, x10] ∧ h' = h := by
  have e1 : zcmpEq ET (k + 5 + 1) (row xs d) (row ys e) h = .ok (.bl (decide (xs = ys) && decide (d = e))) h := cmpEq_of (zeq_row (E := ET) (n := k + 3) rfl rfl)
  have e2 : zcmpNeO ET (k + 5 + 1) (row xs d) (row ys e) h = .ok (.bl (!(decide (xs = ys) && decide (d = e)))) h := neO_obj (zeq_row (E := ET) (n := k + 2) rfl rfl)
  have e3 : zstrO strT (fnT (k + 5)) (row xs d) h = .ok (.str (rowText xs d)) h := str_row (k := k + 3) tx hd
  have e4 : zstrO strT (fnT (k + 5)) (row ys e) h = .ok (.str (rowText ys e)) h := str_row (k := k + 3) ty he
  have e5 : zcmpEq ET (k + 5 + 1) (.str (rowText xs d)) (.str (rowText ys e)) h = .ok (.bl (decide (rowText xs d = rowText ys e))) h := cmpEq_of (zeq_str (n := k + 5))
  have e6 : decide (rowText xs d = rowText ys e) = (decide (xs = ys) && decide (d = e)) := by
    by_cases q : rowText xs d = rowText ys e
    · obtain ⟨q1, q2⟩ := rowText_inj tx.mem ty.mem q
      simp [q1, q2]
    · rw [decide_eq_false q]
      by_cases q1 : xs = ys
      · by_cases q2 : d = e
        · exact absurd (by rw [q1, q2]) q
        · simp [q2]
      · simp [q1]
  rw [e6] at e5
  generalize (decide (xs = ys) && decide (d = e)) = v at e1 e2 e5
  have e7 : zcmpNeO ET (k + 5 + 1) (.bl v) (.bl v) h = .ok (.bl false) h := by rw [neO_no rfl (bb (n := k + 5))]; cases v <;> rfl
  have e8 : zcmpEq ET (k + 5 + 1) (.bl (!v)) (.bl v) h = .ok (.bl false) h := by rw [cmpEq_of (bb (n := k + 5))]; cases v <;> rfl
  simp only [ok_bnd, ok_ret, ok_ok, ok_new, ok_ite, ok_ite2, oks_ite, oks_bnd, oks_seq, nxt_next, nxt_ret, oks_nil, oks_ok, oks_name, zbin, zun, zcons, znil, zlst, zlstW, ztup, ztupW, zb, one1, two2, zif, ztest, znot, zor, zand, zandV, zorV, zisi, zvar_eq, zv_non, zv_bl, zv_int, zv_str, zv_tup, zv_fz, zv_ref, zv_obj, sif, sret, sasg, sexpr, zfun, zcall, gId, zasB, zslice, zpart, zasI, List.getD_cons_zero, List.getD_cons_succ, List.set_cons_zero, List.set_cons_succ, if_true, if_false, Bool.not_true, Bool.not_false, Bool.false_eq_true, List.length_cons, List.length_nil, and_self, Nat.zero_add, Nat.reduceAdd, ite_true, ite_false, reduceIte, reduceCtorEq, true_and, and_true, e1, e2, e3, e4, e5, e7, e8]
theorem pairs_spec {k b m : Nat} {h : Hz} {rws : List W} {a x1 x2 x3 x6 x7 x8 x9 x10 : Option W} (gm : h.get m = some (.lst rws)) (rr : Rws rws) :
    OkS (ou3 (k + 5) (fnT (k + 6)) (fnT (k + 5)) [a, x1, x2, x3, some (.ref b), some (.ref m), x6, x7, x8, x9, x10] h) fun f ρ h' => f = .next ∧
    ∃ x3 x8, ρ = [a, x1, x2, x3, some (.ref b), some (.ref m), x6, x7, x8, x9, x10] := by
  have ei : ∀ {h' : Hz}, Gro h h' → its h' (.ref m) = rws := fun {h'} g => by show (match h'.get m with | some (.lst ws) => ws | _ => []) = _; rw [g.get gm]
  have rd : ∀ {h' : Hz}, Gro h h' → Rd allC h' (.ref m) := fun g => ⟨_, g.get gm⟩
  refine (for_read (C := allC) (t := .ref m) (I := fun i ρ h' => ∃ x3 x8, ρ = [a, x1, x2, x3, some (.ref b), some (.ref m), x6, x7, x8, x9, x10]) (rd (Gro.refl _)) rfl (by unfold zit; simp only [bnd, zvar_eq, List.getD_cons_succ, List.getD_cons_zero, zv_ref, ret]) (fun i w ew ρ h1 g1 ⟨x3, x8, er⟩ => ?_) ⟨_, _, rfl⟩).imp fun f ρ h' ⟨ef, q, _⟩ => ⟨ef, q⟩
  rw [ei (Gro.refl _)] at ew
  obtain ⟨xs, d, rfl, tx, hd⟩ := rr w (List.mem_of_getElem? ew)
  subst er
  refine ⟨rfl, ?_⟩
  show OkS (sseq (sfor (zit (zvar 5)) (gname 8) _) snil [a, x1, x2, some (row xs d), some (.ref b), some (.ref m), x6, x7, x8, x9, x10] h1) _
  rw [seq_snil]
  refine (for_read (C := allC) (t := .ref m) (I := fun i ρ h' => ∃ x8, ρ = [a, x1, x2, some (row xs d), some (.ref b), some (.ref m), x6, x7, x8, x9, x10]) (rd g1) rfl (by unfold zit; simp only [bnd, zvar_eq, List.getD_cons_succ, List.getD_cons_zero, zv_ref, ret]) (fun i2 w2 ew2 ρ2 h2 g2 ⟨x8, er⟩ => ?_) ⟨_, rfl⟩).imp fun f ρ h' ⟨ef, ⟨x8, q⟩, g⟩ => ⟨ef, ⟨_, x8, q⟩, g⟩
  rw [ei g1] at ew2
  obtain ⟨ys, e, rfl, ty, he⟩ := rr w2 (List.mem_of_getElem? ew2)
  subst er
  refine ⟨rfl, ?_⟩
  refine (pair_spec (k := k) (m := m) tx ty hd he).imp fun f ρ h' ⟨ef, er, eh⟩ => ?_
  subst eh
  exact ⟨ef, ⟨_, er⟩, Gro.refl _⟩
theorem cell_spec {k : Nat} {h : Hz} {ns : List Int} {kk : Nat} {x2 x3 x4 x5 x6 x7 x8 x9 x10 : Option W} : OkS (ouAll (k + 5) (fnT (k + 6)) (fnT (k + 5)) [some (.fz (ns.map W.int)), some (.int kk), x2, x3, x4, x5, x6, x7, x8, x9, x10] h) fun f ρ h' => f = .next ∧
    ∃ x2 x3 x4 x5 x6 x7 x8 x9 x10, ρ = [some (.fz (ns.map W.int)), some (.int kk), x2, x3, x4, x5, x6, x7, x8, x9, x10] := by
  unfold ouAll
  rw [oks_seq]
  simp only [ok_bnd, ok_ret, ok_ok, ok_new, ok_ite, ok_ite2, oks_ite, oks_bnd, oks_seq, nxt_next, nxt_ret, oks_nil, oks_ok, oks_name, zbin, zun, zcons, znil, zlst, zlstW, ztup, ztupW, zb, one1, two2, zif, ztest, znot, zor, zand, zandV, zorV, zisi, zvar_eq, zv_non, zv_bl, zv_int, zv_str, zv_tup, zv_fz, zv_ref, zv_obj, sif, sret, sasg, sexpr, zfun, zcall, gId, zasB, zslice, zpart, zasI, List.getD_cons_zero, List.getD_cons_succ, List.set_cons_zero, List.set_cons_succ, if_true, if_false, Bool.not_true, Bool.not_false, Bool.false_eq_true, List.length_cons, List.length_nil, and_self, Nat.zero_add, Nat.reduceAdd, ite_true, ite_false, reduceIte, reduceCtorEq, true_and, and_true, spar, lim0]
  rw [f4]
  refine (box_spec).imp fun w h1 ⟨b, ew, bx, hb, g⟩ => ?_
  subst ew
  simp only [ok_bnd, ok_ret, ok_ok, ok_new, ok_ite, ok_ite2, oks_ite, oks_bnd, oks_seq, nxt_next, nxt_ret, oks_nil, oks_ok, oks_name, zbin, zun, zcons, znil, zlst, zlstW, ztup, ztupW, zb, one1, two2, zif, ztest, znot, zor, zand, zandV, zorV, zisi, zvar_eq, zv_non, zv_bl, zv_int, zv_str, zv_tup, zv_fz, zv_ref, zv_obj, sif, sret, sasg, sexpr, zfun, zcall, gId, zasB, zslice, zpart, zasI, List.getD_cons_zero, List.getD_cons_succ, List.set_cons_zero, List.set_cons_succ, if_true, if_false, Bool.not_true, Bool.not_false, Bool.false_eq_true, List.length_cons, List.length_nil, and_self, Nat.zero_add, Nat.reduceAdd, ite_true, ite_false, reduceIte, reduceCtorEq, true_and, and_true, lim2, parSet, List.reverse_cons, List.reverse_nil, List.nil_append, List.cons_append]
  have g1 := Gro.push h1 (.lst [])
  have e1 := Hz.get_push_self h1 (.lst [])
  have bx1 := bx.gro g1
  have nb : h1.n ≠ b := Nat.ne_of_gt bx.lt
  generalize h1.push (.lst []) = h2 at g1 e1 bx1
  show OkS (sfor (zitR (zcons (fun _ => ret (.int 6)) znil)) (gname 2) (stAll (k + 5) (fnT (k + 6)) (fnT (k + 5))) _ h2) _
  rw [for_fix (ws := rangeW 0 6) (h' := h2) rfl]
  refine (loopF_idx (N := 6) (i := 0) (I := fun i ρ h => ∃ x2 x3 x6 x7 x8 x9 x10 rws, ρ = [some (.fz (ns.map W.int)), some (.int kk), x2, x3, some (.ref b), some (.ref h1.n), x6, x7, x8, x9, x10] ∧ Box h b ∧ h.get h1.n = some (.lst rws) ∧ rws.length = i ∧ Rws rws) (by rw [rangeW_len]; decide) (fun i hi w hw ρ h ⟨x2, x3, x6, x7, x8, x9, x10, rws, e, bx, gm, lr, rr⟩ => ?_) ⟨_, _, _, _, _, _, _, [], rfl, bx1, e1, rfl, fun r hr => absurd hr List.not_mem_nil⟩).imp fun f ρ h' ⟨ef, x2, x3, x6, x7, x8, x9, x10, rws, e, bx, gm, lr, rr⟩ => ?_
  · subst e
    refine ⟨rfl, ?_⟩
    refine (turn_spec (k := k) bx gm nb (by omega) rr).imp fun f ρ h' ⟨ef, x6, x7, x9, x10, r2, e, bx, gm, l2, rr⟩ => ⟨ef, _, _, x6, x7, _, x9, x10, r2, e, bx, gm, by omega, rr⟩
  · subst ef e
    show OkS (sseq (ou3 (k + 5) (fnT (k + 6)) (fnT (k + 5))) snil _ h') _
    rw [seq_snil]
    exact (pairs_spec (k := k) gm rr).imp fun f ρ h'' ⟨ef, x3, x8, e⟩ => ⟨ef, _, _, _, _, _, _, _, _, _, e⟩
end Lk02

set_option Elab.async false
set_option linter.all false
set_option maxRecDepth 100000
set_option maxHeartbeats 4000000
set_option autoImplicit false
namespace Lk02
open Z
theorem tx0 : Tx [] := ⟨fun x hx => absurd hx List.not_mem_nil, Nat.zero_le _⟩
theorem tx1 : Tx [[115, 97, 109, 101]] := ⟨by decide +kernel, by decide⟩
theorem last_spec {k : Nat} {ρ : Ev} {h : Hz} : OkS (la2 (k + 5) (fnT (k + 6)) (fnT (k + 5)) ρ h) fun f _ _ => f = .ret (.bl true) := by
  have hf : [102, 105, 110, 100] ∈ three := by decide
  have nt : its h (.tup []) = ([] : List (List Nat)).map W.str := rfl
  simp only [ok_bnd, ok_ret, ok_ok, ok_new, ok_ite, ok_ite2, oks_ite, oks_bnd, oks_seq, nxt_next, nxt_ret, oks_nil, oks_ok, oks_name, zbin, zun, zcons, znil, zlst, zlstW, ztup, ztupW, zb, one1, two2, zif, ztest, znot, zor, zand, zandV, zorV, zisi, zvar_eq, zv_non, zv_bl, zv_int, zv_str, zv_tup, zv_fz, zv_ref, zv_obj, sif, sret, sasg, sexpr, zfun, zcall, gId, zasB, zslice, zpart, zasI, List.getD_cons_zero, List.getD_cons_succ, List.set_cons_zero, List.set_cons_succ, if_true, if_false, Bool.not_true, Bool.not_false, Bool.false_eq_true, List.length_cons, List.length_nil, and_self, Nat.zero_add, Nat.reduceAdd, ite_true, ite_false, reduceIte, reduceCtorEq, true_and, and_true, zfun0]
  show Ok (zmkW true 0 2 0 gId (fnT (k + 5) 10) [.tup [], .str [102, 105, 110, 100]] [] h) _
  refine (mk (k := k) (t := .tup []) (xs := []) rfl trivial rfl tx0 hf).imp fun w h1 ⟨ew, g1⟩ => ?_
  subst ew
  simp only [ok_bnd, ok_ret, ok_ok, ok_new, ok_ite, ok_ite2, oks_ite, oks_bnd, oks_seq, nxt_next, nxt_ret, oks_nil, oks_ok, oks_name, zbin, zun, zcons, znil, zlst, zlstW, ztup, ztupW, zb, one1, two2, zif, ztest, znot, zor, zand, zandV, zorV, zisi, zvar_eq, zv_non, zv_bl, zv_int, zv_str, zv_tup, zv_fz, zv_ref, zv_obj, sif, sret, sasg, sexpr, zfun, zcall, gId, zasB, zslice, zpart, zasI, List.getD_cons_zero, List.getD_cons_succ, List.set_cons_zero, List.set_cons_succ, if_true, if_false, Bool.not_true, Bool.not_false, Bool.false_eq_true, List.length_cons, List.length_nil, and_self, Nat.zero_add, Nat.reduceAdd, ite_true, ite_false, reduceIte, reduceCtorEq, true_and, and_true, lim0]
  refine (mk (k := k) (t := .tup []) (xs := []) rfl trivial rfl tx0 hf).imp fun w h2 ⟨ew, g2⟩ => ?_
  subst ew
  have e6 : zcmpEq ET (k + 5 + 1) (row [] [102, 105, 110, 100]) (row [] [102, 105, 110, 100]) h2 = .ok (.bl true) h2 := by
    rw [cmpEq_of (zeq_row (E := ET) (n := k + 3) rfl rfl), dtrue, dtrue]
    rfl
  simp only [ok_bnd, ok_ret, ok_ok, ok_new, ok_ite, ok_ite2, oks_ite, oks_bnd, oks_seq, nxt_next, nxt_ret, oks_nil, oks_ok, oks_name, zbin, zun, zcons, znil, zlst, zlstW, ztup, ztupW, zb, one1, two2, zif, ztest, znot, zor, zand, zandV, zorV, zisi, zvar_eq, zv_non, zv_bl, zv_int, zv_str, zv_tup, zv_fz, zv_ref, zv_obj, sif, sret, sasg, sexpr, zfun, zcall, gId, zasB, zslice, zpart, zasI, List.getD_cons_zero, List.getD_cons_succ, List.set_cons_zero, List.set_cons_succ, if_true, if_false, Bool.not_true, Bool.not_false, Bool.false_eq_true, List.length_cons, List.length_nil, and_self, Nat.zero_add, Nat.reduceAdd, ite_true, ite_false, reduceIte, reduceCtorEq, true_and, and_true, e6, lim1]
  show Ok (zmkW true 0 2 0 gId (fnT (k + 5) 10) [.ref h2.n, .str [102, 105, 110, 100]] [] (h2.push (.lst [.str [115, 97, 109, 101]]))) _
  have g3 := Hz.get_push_self h2 (.lst [.str [115, 97, 109, 101]])
  refine (mk (k := k) (t := .ref h2.n) (xs := [[115, 97, 109, 101]]) rfl ⟨_, g3⟩ (by show (match (h2.push (.lst [.str [115, 97, 109, 101]])).get h2.n with | some (.lst ws) => ws | _ => []) = _; rw [g3]; rfl) tx1 hf).imp fun w h3 ⟨ew, _⟩ => ?_
  subst ew
  have e7 : zstrO strT (fnT (k + 5)) (row [[115, 97, 109, 101]] [102, 105, 110, 100]) h3 = .ok (.str (rowText [[115, 97, 109, 101]] [102, 105, 110, 100])) h3 := str_row (k := k + 3) tx1 hf
  have e8 : zcmpEq ET (k + 5 + 1) (.str (rowText [[115, 97, 109, 101]] [102, 105, 110, 100])) (.str [105, 102, 32, 115, 97, 109, 101, 32, 100, 111, 32, 102, 105, 110, 100]) h3 = .ok (.bl true) h3 := rfl
  simp only [ok_bnd, ok_ret, ok_ok, ok_new, ok_ite, ok_ite2, oks_ite, oks_bnd, oks_seq, nxt_next, nxt_ret, oks_nil, oks_ok, oks_name, zbin, zun, zcons, znil, zlst, zlstW, ztup, ztupW, zb, one1, two2, zif, ztest, znot, zor, zand, zandV, zorV, zisi, zvar_eq, zv_non, zv_bl, zv_int, zv_str, zv_tup, zv_fz, zv_ref, zv_obj, sif, sret, sasg, sexpr, zfun, zcall, gId, zasB, zslice, zpart, zasI, List.getD_cons_zero, List.getD_cons_succ, List.set_cons_zero, List.set_cons_succ, if_true, if_false, Bool.not_true, Bool.not_false, Bool.false_eq_true, List.length_cons, List.length_nil, and_self, Nat.zero_add, Nat.reduceAdd, ite_true, ite_false, reduceIte, reduceCtorEq, true_and, and_true, e7, e8]
  show Ok (zmkW true 0 2 0 gId (fnT (k + 5) 10) [.tup [], .str [102, 105, 110, 100]] [] h3) _
  refine (mk (k := k) (t := .tup []) (xs := []) rfl trivial rfl tx0 hf).imp fun w h4 ⟨ew, _⟩ => ?_
  subst ew
  have e9 : zstrO strT (fnT (k + 5)) (row [] [102, 105, 110, 100]) h4 = .ok (.str (rowText [] [102, 105, 110, 100])) h4 := str_row (k := k + 3) tx0 hf
  have ea : zcmpEq ET (k + 5 + 1) (.str (rowText [] [102, 105, 110, 100])) (.str [100, 111, 32, 102, 105, 110, 100]) h4 = .ok (.bl true) h4 := rfl
  simp only [ok_bnd, ok_ret, ok_ok, ok_new, ok_ite, ok_ite2, oks_ite, oks_bnd, oks_seq, nxt_next, nxt_ret, oks_nil, oks_ok, oks_name, zbin, zun, zcons, znil, zlst, zlstW, ztup, ztupW, zb, one1, two2, zif, ztest, znot, zor, zand, zandV, zorV, zisi, zvar_eq, zv_non, zv_bl, zv_int, zv_str, zv_tup, zv_fz, zv_ref, zv_obj, sif, sret, sasg, sexpr, zfun, zcall, gId, zasB, zslice, zpart, zasI, List.getD_cons_zero, List.getD_cons_succ, List.set_cons_zero, List.set_cons_succ, if_true, if_false, Bool.not_true, Bool.not_false, Bool.false_eq_true, List.length_cons, List.length_nil, and_self, Nat.zero_add, Nat.reduceAdd, ite_true, ite_false, reduceIte, reduceCtorEq, true_and, and_true, e9, ea]
theorem law_spec {ns : List Int} : Ok (fnT 60 9 [.fz (ns.map W.int)] Hz.empty) fun w _ => w = .bl true := by
  show Ok (Z.endZ (laAll 58 (fnT 59) (fnT 58) [some (.fz (ns.map W.int)), none, none, none, none, none, none, none, none, none, none] Hz.empty)) _
  refine ok_end ?_
  have hr : ∃ n : Nat, (zitR (zcons (zb (two2 zmax) (zcons (fun _ => ret (.int 1)) (zcons (zb (two2 zmin) (zcons (fun _ => ret (.int 3)) (zcons (zb (one1 zlen) (zcons (zvar 0) znil)) znil))) znil))) znil)) [some (.fz (ns.map W.int)), none, none, none, none, none, none, none, none, none, none] Hz.empty = .ok (.fix (rangeW 0 n)) Hz.empty := by
    have e1 : ∀ d : Int, 0 ≤ d → d < 1073741824 → zrange [.int d] Hz.empty = .ok (.fix (rangeW 0 d.toNat)) Hz.empty := fun d h0 h2 => by rw [range1 h0 h2]; rfl
    unfold zitR
    simp only [bnd, zcons, znil, zb, two2, one1, zvar_eq, List.getD_cons_zero, zv_fz, zlen_fz, zmin, zmax, ret]
    refine ⟨_, e1 _ ?_ ?_⟩
    · split <;> (try split) <;> omega
    · split <;> (try split) <;> omega
  obtain ⟨n, hr⟩ := hr
  unfold laAll
  rw [oks_seq]
  unfold la1
  rw [for_fix hr]
  refine (loopF_inv (I := fun ρ h => ∃ x1 x2 x3 x4 x5 x6 x7 x8 x9 x10, ρ = [some (.fz (ns.map W.int)), x1, x2, x3, x4, x5, x6, x7, x8, x9, x10]) (fun w hw ρ h ⟨x1, x2, x3, x4, x5, x6, x7, x8, x9, x10, e⟩ => ?_) ⟨_, _, _, _, _, _, _, _, _, _, rfl⟩).imp fun f ρ h' ⟨ef, x1, x2, x3, x4, x5, x6, x7, x8, x9, x10, e⟩ => ?_
  · subst e
    refine ⟨rfl, ?_⟩
    obtain ⟨kk, rfl⟩ := rangeW_mem (Int.le_refl 0) hw
    exact (cell_spec (k := 53)).imp fun f ρ h' ⟨ef, x2, x3, x4, x5, x6, x7, x8, x9, x10, e⟩ => ⟨ef, _, x2, x3, x4, x5, x6, x7, x8, x9, x10, e⟩
  · subst ef
    rw [nxt_next, seq_snil]
    exact (last_spec (k := 53)).imp fun f ρ h ef => by subst ef; rfl
theorem law_ok : LawOk 63 (fnT 60 9) := fun ns _ _ => by
  obtain ⟨w, h', e, ew⟩ := (law_spec (ns := ns)).ex
  subst ew
  exact ⟨h', e⟩
end Lk02

set_option Elab.async false
set_option linter.all false
set_option maxRecDepth 100000
set_option maxHeartbeats 0
set_option autoImplicit false
namespace Lk02
open PySem L2 Z
open PyProof.Rows hiding St
structure Top (W0 : World) (K : PySem.W.Frag) (mg : Str → Option Value) where
  nj : NmInj (GG K)
  isT : IsT K (GG K) allC
  fd_0 : FuncData
  F_0 : FunD K "is_sequence" "is_sequence" (defArgs s_0) (defBody s_0) (defScope s_0) [] [] ((GG K).fn 0) fd_0
  f_0 : mg "is_sequence" = some (.ref ((GG K).fn 0))
  fd_1 : FuncData
  F_1 : FunD K "is_word" "is_word" (defArgs s_1) (defBody s_1) (defScope s_1) [] [] ((GG K).fn 1) fd_1
  f_1 : mg "is_word" = some (.ref ((GG K).fn 1))
  fd_2 : FuncData
  F_2 : FunD K "is_test" "is_test" (defArgs s_2) (defBody s_2) (defScope s_2) [] [] ((GG K).fn 2) fd_2
  f_2 : mg "is_test" = some (.ref ((GG K).fn 2))
  fd_3 : FuncData
  F_3 : FunD K "text_of" "text_of" (defArgs s_3) (defBody s_3) (defScope s_3) [] [] ((GG K).fn 3) fd_3
  f_3 : mg "text_of" = some (.ref ((GG K).fn 3))
  fd_4 : FuncData
  F_4 : FunD K "_law_box" "_law_box" (defArgs s_4) (defBody s_4) (defScope s_4) [] [] ((GG K).fn 4) fd_4
  f_4 : mg "_law_box" = some (.ref ((GG K).fn 4))
  fd_5 : FuncData
  F_5 : FunD K "_law_take" "_law_take" (defArgs s_5) (defBody s_5) (defScope s_5) [] [] ((GG K).fn 5) fd_5
  f_5 : mg "_law_take" = some (.ref ((GG K).fn 5))
  fd_6 : FuncData
  F_6 : FunD K "_law_pick" "_law_pick" (defArgs s_6) (defBody s_6) (defScope s_6) [] [] ((GG K).fn 6) fd_6
  f_6 : mg "_law_pick" = some (.ref ((GG K).fn 6))
  fd_7 : FuncData
  F_7 : FunD K "_law_tests" "_law_tests" (defArgs s_7) (defBody s_7) (defScope s_7) [] [] ((GG K).fn 7) fd_7
  f_7 : mg "_law_tests" = some (.ref ((GG K).fn 7))
  fd_8 : FuncData
  F_8 : FunD K "_law_text" "_law_text" (defArgs s_8) (defBody s_8) (defScope s_8) [] [] ((GG K).fn 8) fd_8
  f_8 : mg "_law_text" = some (.ref ((GG K).fn 8))
  fd_9 : FuncData
  F_9 : FunD K "law" "law" (defArgs s_9) (defBody s_9) (defScope s_9) [] [] ((GG K).fn 9) fd_9
  f_9 : mg "law" = some (.ref ((GG K).fn 9))
  fd_10 : FuncData
  F_10 : FunD K "__init__" "Row.__init__" (defArgs s_10) (defBody s_10) (defScope s_10) [He.Dv.v K (.adr (He.dflAt ("Row", some "__init__") 0)), He.Dv.v K (.str "find")] [] ((GG K).fn 10) fd_10
  fd_11 : FuncData
  F_11 : FunD K "__eq__" "Row.__eq__" (defArgs s_11) (defBody s_11) (defScope s_11) [] [] ((GG K).fn 11) fd_11
  fd_12 : FuncData
  F_12 : FunD K "__str__" "Row.__str__" (defArgs s_12) (defBody s_12) (defScope s_12) [] [] ((GG K).fn 12) fd_12
  b_abs : mg "abs" = none
  b_all : mg "all" = none
  b_int : mg "int" = none
  b_isinstance : mg "isinstance" = none
  b_len : mg "len" = none
  b_list : mg "list" = none
  b_max : mg "max" = none
  b_min : mg "min" = none
  b_range : mg "range" = none
  b_repr : mg "repr" = none
  b_str : mg "str" = none
  b_tuple : mg "tuple" = none
  c_Row : mg "Row" = some (.ref ((GG K).cl 0))
  cl_Row : Cls K ((GG K).cl 0)
  mk_Row : Mk K ((GG K).cl 0) ((GG K).fn 10)
  na_tests : NoAt K (GG K) 5 [0]
  na_deed : NoAt K (GG K) 3 [0]
  na_text : NoAt K (GG K) 6 [0]
  me___eq___0 : Meth K ((GG K).cl 0) ((GG K).nm 0) ((GG K).fn 11)
  me___init___0 : Meth K ((GG K).cl 0) ((GG K).nm 1) ((GG K).fn 10)
  me___str___0 : Meth K ((GG K).cl 0) ((GG K).nm 2) ((GG K).fn 12)
  eq_11 : PySem.W.findIn K (.ref ((GG K).cl 0)) "__eq__" = some (some (.ref ((GG K).fn 11))) ∧ PySem.W.isFn K (.ref ((GG K).fn 11)) = true ∧ ∀ d, (ET.lookup d).isSome = true → PySem.W.notFirst K ((GG K).cl 0) (.ref ((GG K).cl d)) = true
  nec_0 : NeC K ((GG K).cl 0)
  st_0 : PySem.W.findIn K (.ref ((GG K).cl 0)) "__str__" = some (some (.ref ((GG K).fn 12))) ∧ PySem.W.isFn K (.ref ((GG K).fn 12)) = true
  k_TESTS : mg "TESTS" = some (.ref (He.ga K "TESTS")) ∧ ∀ H, SqT K H (He.ga K "TESTS") [V.str "there", V.str "same", V.str "holds", V.str "covers", V.str "fits"]
  k_DEEDS : mg "DEEDS" = some (.ref (He.ga K "DEEDS")) ∧ ∀ H, SqT K H (He.ga K "DEEDS") [V.str "slot", V.str "key", V.str "find"]
  k_NOT : ∃ t, mg "NOT" = some (.str (S [110, 111, 116, 32]) t)
  xg_InvalidRow : mg "InvalidRow" = some (.ref ((GG K).cl 2))
  xc_InvalidRow : XcF K "InvalidRow" ["part"]
  xd_InvalidRow : FuncData
  xF_InvalidRow : FunD K "__init__" "InvalidRow.__init__" (defArgs sx_InvalidRow) (defBody sx_InvalidRow) (defScope sx_InvalidRow) [] [] (He.ma K (He.ga K "InvalidRow") "__init__") xd_InvalidRow
  xs_SlotError : mg "SlotError" = some (.ref (He.ga K "SlotError")) ∧ ClX.CRead K (He.ga K "SlotError") (.type "type") ∧ PySem.W.findCls K (.ref (He.ga K "SlotError")) (.type "type") "__init__" = some (.val (.builtin "ValueError.__init__"))
  xf_part : XfOk K (GG K) 4 [2]
  dt_10_0 : ∀ H, SqT K H (He.dflAt ("Row", some "__init__") 0 K) []
variable {P : Program} {w : World} {K : PySem.W.Frag} {mg : Str → Option Value} {base : Heap} {k : Nat}
theorem pg_TESTS {b : Bool} {X : Cx} {no : Addr → Prop} {Wf : WX} {pos : Pos} (T : Top w K mg) (hg : Gl X "TESTS") (hK : X.K = K) (hm : X.mg = mg) : PZ b X (GN K no) Wf (.Name "TESTS" pos) (fun _ => ret gc_TESTS) := by
  subst hK hm
  exact pg_tup' hg T.k_TESTS.1 (by decide) T.k_TESTS.2 fun ι h H => (.cons (rep_str [116, 104, 101, 114, 101] (by kernel_rfl)) (.cons (rep_str [115, 97, 109, 101] (by kernel_rfl)) (.cons (rep_str [104, 111, 108, 100, 115] (by kernel_rfl)) (.cons (rep_str [99, 111, 118, 101, 114, 115] (by kernel_rfl)) (.cons (rep_str [102, 105, 116, 115] (by kernel_rfl)) .nil)))))
theorem pg_DEEDS {b : Bool} {X : Cx} {no : Addr → Prop} {Wf : WX} {pos : Pos} (T : Top w K mg) (hg : Gl X "DEEDS") (hK : X.K = K) (hm : X.mg = mg) : PZ b X (GN K no) Wf (.Name "DEEDS" pos) (fun _ => ret gc_DEEDS) := by
  subst hK hm
  exact pg_tup' hg T.k_DEEDS.1 (by decide) T.k_DEEDS.2 fun ι h H => (.cons (rep_str [115, 108, 111, 116] (by kernel_rfl)) (.cons (rep_str [107, 101, 121] (by kernel_rfl)) (.cons (rep_str [102, 105, 110, 100] (by kernel_rfl)) .nil)))
theorem pg_NOT {b : Bool} {X : Cx} {no : Addr → Prop} {Wf : WX} {pos : Pos} (T : Top w K mg) (hg : Gl X "NOT") (hK : X.K = K) (hm : X.mg = mg) : PZ b X (GN K no) Wf (.Name "NOT" pos) (fun _ => ret gc_NOT) := by
  subst hK hm
  exact pg_str' hg T.k_NOT (by decide)
theorem njN (T : Top w K mg) {no : Addr → Prop} : NmInj (GN K no) := T.nj
structure Lv (P : Program) (w : World) (base : Heap) {K : PySem.W.Frag} {mg : Str → Option Value} (T : Top w K mg) (k : Nat) : Prop where
  o_0 : Z.FnOk P w K mg base (CX P w) k ((GG K).fn 0) T.fd_0 ["value"] (spZ K (GG K) 1 (fnT k 0))
  o_1 : Z.FnOk P w K mg base (CX P w) k ((GG K).fn 1) T.fd_1 ["value", "some"] (spZ K (GG K) 2 (fnT k 1))
  o_2 : Z.FnOk P w K mg base (CX P w) k ((GG K).fn 2) T.fd_2 ["value"] (spZ K (GG K) 1 (fnT k 2))
  o_3 : Z.FnOk P w K mg base (CX P w) k ((GG K).fn 3) T.fd_3 ["tests", "deed"] (spZ K (GG K) 2 (fnT k 3))
  o_4 : Z.FnOk P w K mg base (CX P w) k ((GG K).fn 4) T.fd_4 ["_law_script", "_law_k", "_law_own"] (spZ K (GG K) 3 (fnT k 4))
  o_5 : Z.FnOk P w K mg base (CX P w) k ((GG K).fn 5) T.fd_5 ["_law_box_here", "_law_many"] (spZ K (GG K) 2 (fnT k 5))
  o_6 : Z.FnOk P w K mg base (CX P w) k ((GG K).fn 6) T.fd_6 ["_law_box_here", "_law_items"] (spZ K (GG K) 2 (fnT k 6))
  o_7 : Z.FnOk P w K mg base (CX P w) k ((GG K).fn 7) T.fd_7 ["_law_box_here"] (spZ K (GG K) 1 (fnT k 7))
  o_8 : Z.FnOk P w K mg base (CX P w) k ((GG K).fn 8) T.fd_8 ["_law_tests_here", "_law_deed"] (spZ K (GG K) 2 (fnT k 8))
  o_9 : Z.FnOk P w K mg base (CX P w) k ((GG K).fn 9) T.fd_9 ["_law_script"] (spZ K (GG K) 1 (fnT k 9))
  o_10 : Z.FnOk P w K mg base (CX P w) k ((GG K).fn 10) T.fd_10 ["self", "tests", "deed"] (spZ K (GG K) 3 (fnT k 10))
  o_11 : L2.FnOk P w K mg base (CX P w) k ((GG K).fn 11) T.fd_11 ["self", "other"] (spZ K (GG K) 2 (fnT k 11))
  o_12 : Z.FnOk P w K mg base (CX P w) k ((GG K).fn 12) T.fd_12 ["self"] (spZ K (GG K) 1 (fnT k 12))
theorem fe_11 : ∀ j, fnT (j + 1) 11 = runZ 2 (m_11 j)
  | 0 => rfl
  | _ + 1 => rfl
theorem ownX (T : Top w K mg) {no : Addr → Prop} {n : Nat} (L : ∀ j, j ≤ n → Lv P w base T j) {X : Cx} (hP : X.prog = P) (hw : X.w = w) (hK : X.K = K) (hm : X.mg = mg) (hb : X.base = base) : ∀ j, j < n → ∀ c ks, ET.lookup c = some ks → OwnD X (GN K no) ET j c := by
  subst hP hw hK hm hb
  intro j hj c ks hc
  have ha : ∀ d, (ET.lookup d).isSome = true → allC.contains d = true := lk_all (by decide)
  have hin := lk_in hc
  clear hc
  rcases List.mem_cons.1 hin with e | hin
  · cases e; refine ⟨T.cl_Row, T.eq_11.2.2, 11, T.fd_11, _, T.eq_11.1, T.eq_11.2.1, ⟨_, _, (L (j + 1) hj).o_11, T.F_11.bindsN (ps := ["self", "other"]) (fun _ _ _ _ _ _ us hl => match us, hl with | [_, _], _ => rfl)⟩, fun h x y fs k kx e => ?_⟩; rw [fe_11]; exact eqBody_val rfl (by decide) ha h x y fs k kx e
  exact absurd hin (by simp)
theorem eqX (T : Top w K mg) {no : Addr → Prop} {n : Nat} (L : ∀ j, j ≤ n → Lv P w base T j) {X : Cx} (hP : X.prog = P) (hw : X.w = w) (hK : X.K = K) (hm : X.mg = mg) (hb : X.base = base) {Wf : WX} (tkx : Takes X Wf) : EqS X (GN K no) ET n ∧ NeS X (GN K no) ET n ∧ EqB X (GN K no) ET (n - 1) := by
  have cj : ClInj (GN K no) ET := cj_of T.isT.wn (lk_mem (by decide))
  have a := eq_all (E := ET) (njN T) cj tkx n (ownX T L hP hw hK hm hb)
  have a2 := eq_all (E := ET) (njN T) cj tkx (n - 1) (ownX T (n := n - 1) (fun j hj => L j (by omega)) hP hw hK hm hb)
  exact ⟨a.1, a.2, eqB_of (njN T) cj a2.1⟩
theorem xk_InvalidRow (T : Top w K mg) {no : Addr → Prop} {k : Nat} {X : Cx} (hP : X.prog = P := by rfl) (hw : X.w = w := by rfl) (hK : X.K = K := by rfl) (hm : X.mg = mg := by rfl) : XkOk X (GN K no) (k + 1) 2 4 := by
  subst hP hw hK hm
  refine ⟨T.xc_InvalidRow.oex, _, T.xd_InvalidRow, "self", "part", T.xc_InvalidRow.init, T.xc_InvalidRow.fn, ?_, T.xF_InvalidRow.bindsN (ps := ["self", "part"]) (fun _ _ _ _ _ _ us hl => match us, hl with | [_, _], _ => rfl)⟩
  exact T.xF_InvalidRow.ok scx_InvalidRow x1_len fun cdv A outer s H vs Q E hr h => ⟨_, pss_cons (ps_expr (pe_slinit rfl T.xs_SlotError.1 T.xs_SlotError.2.1 T.xs_SlotError.2.2 (pa_cons (pv 0) (pa_cons pe_str pa_nil)) (by decide) rfl (by rfl) (by decide))) (pss_one (ps_ost (pv 0) (pv 1))), x1_pure T.xc_InvalidRow.oex (T.xc_InvalidRow.no _ (by simp)) h⟩
theorem co_0_all (T : Top w K mg) {no : Addr → Prop} {n : Nat} (L : ∀ j, j ≤ n → Lv P w base T j) {X : Cx} (hP : X.prog = P := by rfl) (hw : X.w = w := by rfl) (hK : X.K = K := by rfl) (hm : X.mg = mg := by rfl) (hb : X.base = base := by rfl) : CallOk X (GN K no) n 0 1 [] gId (fnT n 0) := by
  subst hP hw hK hm hb
  exact ⟨T.F_0.kp, T.fd_0, _, (L n (Nat.le_refl _)).o_0, bn_all (ps := ["value"]) T.F_0 (fun _ _ _ _ _ _ us hl => match us, hl with | [_], _ => rfl)⟩
theorem co_10_all (T : Top w K mg) {no : Addr → Prop} {n : Nat} (L : ∀ j, j ≤ n → Lv P w base T j) {X : Cx} (hP : X.prog = P := by rfl) (hw : X.w = w := by rfl) (hK : X.K = K := by rfl) (hm : X.mg = mg := by rfl) (hb : X.base = base := by rfl) : CallOk X (GN K no) n 10 3 [] gId (fnT n 10) := by
  subst hP hw hK hm hb
  exact ⟨T.F_10.kp, T.fd_10, _, (L n (Nat.le_refl _)).o_10, bn_alld (ps := ["self", "tests", "deed"]) (n := 3) (j := 2) T.F_10 (by simp) rfl rfl (fun _ _ _ _ _ _ _ us its hl hi => match us, hl, its, hi with | [_, _, _], _, [_, _], _ => ⟨_, rfl, rfl⟩)⟩
theorem co_10_d1 (T : Top w K mg) {no : Addr → Prop} {n : Nat} (L : ∀ j, j ≤ n → Lv P w base T j) {X : Cx} (hP : X.prog = P := by rfl) (hw : X.w = w := by rfl) (hK : X.K = K := by rfl) (hm : X.mg = mg := by rfl) (hb : X.base = base := by rfl) : CallOk X (GN K no) n 10 1 [] (fun ws _ => ws ++ dd_10_1) (fnT n 10) := by
  subst hP hw hK hm hb
  exact ⟨T.F_10.kp, T.fd_10, _, (L n (Nat.le_refl _)).o_10, bn_dfl (ps := ["self", "tests", "deed"]) (n := 1) (j := 0) (dws := dd_10_1) T.F_10 (by simp) rfl (fun ι h H r => (.cons (.tup (T.dt_10_0 H) .nil) (.cons (rep_str [102, 105, 110, 100] (by kernel_rfl)) .nil))) (fun _ _ _ _ _ _ _ us its hl hi => match us, hl, its, hi with | [_], _, [_, _], _ => ⟨_, rfl, rfl⟩)⟩
theorem co_10_d2 (T : Top w K mg) {no : Addr → Prop} {n : Nat} (L : ∀ j, j ≤ n → Lv P w base T j) {X : Cx} (hP : X.prog = P := by rfl) (hw : X.w = w := by rfl) (hK : X.K = K := by rfl) (hm : X.mg = mg := by rfl) (hb : X.base = base := by rfl) : CallOk X (GN K no) n 10 2 [] (fun ws _ => ws ++ dd_10_2) (fnT n 10) := by
  subst hP hw hK hm hb
  exact ⟨T.F_10.kp, T.fd_10, _, (L n (Nat.le_refl _)).o_10, bn_dfl (ps := ["self", "tests", "deed"]) (n := 2) (j := 1) (dws := dd_10_2) T.F_10 (by simp) rfl (fun ι h H r => (.cons (rep_str [102, 105, 110, 100] (by kernel_rfl)) .nil)) (fun _ _ _ _ _ _ _ us its hl hi => match us, hl, its, hi with | [_, _], _, [_, _], _ => ⟨_, rfl, rfl⟩)⟩
theorem co_1_all (T : Top w K mg) {no : Addr → Prop} {n : Nat} (L : ∀ j, j ≤ n → Lv P w base T j) {X : Cx} (hP : X.prog = P := by rfl) (hw : X.w = w := by rfl) (hK : X.K = K := by rfl) (hm : X.mg = mg := by rfl) (hb : X.base = base := by rfl) : CallOk X (GN K no) n 1 2 [] gId (fnT n 1) := by
  subst hP hw hK hm hb
  exact ⟨T.F_1.kp, T.fd_1, _, (L n (Nat.le_refl _)).o_1, bn_all (ps := ["value", "some"]) T.F_1 (fun _ _ _ _ _ _ us hl => match us, hl with | [_, _], _ => rfl)⟩
theorem co_2_all (T : Top w K mg) {no : Addr → Prop} {n : Nat} (L : ∀ j, j ≤ n → Lv P w base T j) {X : Cx} (hP : X.prog = P := by rfl) (hw : X.w = w := by rfl) (hK : X.K = K := by rfl) (hm : X.mg = mg := by rfl) (hb : X.base = base := by rfl) : CallOk X (GN K no) n 2 1 [] gId (fnT n 2) := by
  subst hP hw hK hm hb
  exact ⟨T.F_2.kp, T.fd_2, _, (L n (Nat.le_refl _)).o_2, bn_all (ps := ["value"]) T.F_2 (fun _ _ _ _ _ _ us hl => match us, hl with | [_], _ => rfl)⟩
theorem co_3_all (T : Top w K mg) {no : Addr → Prop} {n : Nat} (L : ∀ j, j ≤ n → Lv P w base T j) {X : Cx} (hP : X.prog = P := by rfl) (hw : X.w = w := by rfl) (hK : X.K = K := by rfl) (hm : X.mg = mg := by rfl) (hb : X.base = base := by rfl) : CallOk X (GN K no) n 3 2 [] gId (fnT n 3) := by
  subst hP hw hK hm hb
  exact ⟨T.F_3.kp, T.fd_3, _, (L n (Nat.le_refl _)).o_3, bn_all (ps := ["tests", "deed"]) T.F_3 (fun _ _ _ _ _ _ us hl => match us, hl with | [_, _], _ => rfl)⟩
theorem co_4_all (T : Top w K mg) {no : Addr → Prop} {n : Nat} (L : ∀ j, j ≤ n → Lv P w base T j) {X : Cx} (hP : X.prog = P := by rfl) (hw : X.w = w := by rfl) (hK : X.K = K := by rfl) (hm : X.mg = mg := by rfl) (hb : X.base = base := by rfl) : CallOk X (GN K no) n 4 3 [] gId (fnT n 4) := by
  subst hP hw hK hm hb
  exact ⟨T.F_4.kp, T.fd_4, _, (L n (Nat.le_refl _)).o_4, bn_all (ps := ["_law_script", "_law_k", "_law_own"]) T.F_4 (fun _ _ _ _ _ _ us hl => match us, hl with | [_, _, _], _ => rfl)⟩
theorem co_5_all (T : Top w K mg) {no : Addr → Prop} {n : Nat} (L : ∀ j, j ≤ n → Lv P w base T j) {X : Cx} (hP : X.prog = P := by rfl) (hw : X.w = w := by rfl) (hK : X.K = K := by rfl) (hm : X.mg = mg := by rfl) (hb : X.base = base := by rfl) : CallOk X (GN K no) n 5 2 [] gId (fnT n 5) := by
  subst hP hw hK hm hb
  exact ⟨T.F_5.kp, T.fd_5, _, (L n (Nat.le_refl _)).o_5, bn_all (ps := ["_law_box_here", "_law_many"]) T.F_5 (fun _ _ _ _ _ _ us hl => match us, hl with | [_, _], _ => rfl)⟩
theorem co_6_all (T : Top w K mg) {no : Addr → Prop} {n : Nat} (L : ∀ j, j ≤ n → Lv P w base T j) {X : Cx} (hP : X.prog = P := by rfl) (hw : X.w = w := by rfl) (hK : X.K = K := by rfl) (hm : X.mg = mg := by rfl) (hb : X.base = base := by rfl) : CallOk X (GN K no) n 6 2 [] gId (fnT n 6) := by
  subst hP hw hK hm hb
  exact ⟨T.F_6.kp, T.fd_6, _, (L n (Nat.le_refl _)).o_6, bn_all (ps := ["_law_box_here", "_law_items"]) T.F_6 (fun _ _ _ _ _ _ us hl => match us, hl with | [_, _], _ => rfl)⟩
theorem co_7_all (T : Top w K mg) {no : Addr → Prop} {n : Nat} (L : ∀ j, j ≤ n → Lv P w base T j) {X : Cx} (hP : X.prog = P := by rfl) (hw : X.w = w := by rfl) (hK : X.K = K := by rfl) (hm : X.mg = mg := by rfl) (hb : X.base = base := by rfl) : CallOk X (GN K no) n 7 1 [] gId (fnT n 7) := by
  subst hP hw hK hm hb
  exact ⟨T.F_7.kp, T.fd_7, _, (L n (Nat.le_refl _)).o_7, bn_all (ps := ["_law_box_here"]) T.F_7 (fun _ _ _ _ _ _ us hl => match us, hl with | [_], _ => rfl)⟩
theorem co_8_all (T : Top w K mg) {no : Addr → Prop} {n : Nat} (L : ∀ j, j ≤ n → Lv P w base T j) {X : Cx} (hP : X.prog = P := by rfl) (hw : X.w = w := by rfl) (hK : X.K = K := by rfl) (hm : X.mg = mg := by rfl) (hb : X.base = base := by rfl) : CallOk X (GN K no) n 8 2 [] gId (fnT n 8) := by
  subst hP hw hK hm hb
  exact ⟨T.F_8.kp, T.fd_8, _, (L n (Nat.le_refl _)).o_8, bn_all (ps := ["_law_tests_here", "_law_deed"]) T.F_8 (fun _ _ _ _ _ _ us hl => match us, hl with | [_, _], _ => rfl)⟩
theorem mk_10_d1 (T : Top w K mg) {no : Addr → Prop} {n : Nat} (L : ∀ j, j ≤ n + 1 → Lv P w base T j) {X : Cx} (hP : X.prog = P := by rfl) (hw : X.w = w := by rfl) (hK : X.K = K := by rfl) (hm : X.mg = mg := by rfl) (hb : X.base = base := by rfl) : MkOk X (GN K no) n 0 10 0 [] (fun ws _ => ws ++ dd_10_1) (fnT n 10) :=
  ⟨by rw [hK]; exact T.mk_Row, co_10_d1 T (fun j hj => L j (by omega)) hP hw hK hm hb⟩
theorem mk_10_all (T : Top w K mg) {no : Addr → Prop} {n : Nat} (L : ∀ j, j ≤ n + 1 → Lv P w base T j) {X : Cx} (hP : X.prog = P := by rfl) (hw : X.w = w := by rfl) (hK : X.K = K := by rfl) (hm : X.mg = mg := by rfl) (hb : X.base = base := by rfl) : MkOk X (GN K no) n 0 10 2 [] gId (fnT n 10) :=
  ⟨by rw [hK]; exact T.mk_Row, co_10_all T (fun j hj => L j (by omega)) hP hw hK hm hb⟩
theorem mk_10_d2 (T : Top w K mg) {no : Addr → Prop} {n : Nat} (L : ∀ j, j ≤ n + 1 → Lv P w base T j) {X : Cx} (hP : X.prog = P := by rfl) (hw : X.w = w := by rfl) (hK : X.K = K := by rfl) (hm : X.mg = mg := by rfl) (hb : X.base = base := by rfl) : MkOk X (GN K no) n 0 10 1 [] (fun ws _ => ws ++ dd_10_2) (fnT n 10) :=
  ⟨by rw [hK]; exact T.mk_Row, co_10_d2 T (fun j hj => L j (by omega)) hP hw hK hm hb⟩
theorem neX (T : Top w K mg) {no : Addr → Prop} {n : Nat} (L : ∀ j, j ≤ n → Lv P w base T j) {X : Cx} (hP : X.prog = P) (hw : X.w = w) (hK : X.K = K) (hm : X.mg = mg) (hb : X.base = base) {Wf : WX} (tkx : Takes X Wf) (hr : L2.Room n X.A) : OpZ X (GN K no) Wf (compareOp .NotEq) (zcmpNeO ET n) := by
  refine op_zneO (fun c ks hc => ?_) (fun m hm2 => ownS_of tkx (ownX T L hP hw hK hm hb m (by omega))) (eqX T L hP hw hK hm hb tkx).2.1 hr
  have hin := lk_in hc
  clear hc
  subst hK
  rcases List.mem_cons.1 hin with e | hin
  · cases e; exact T.nec_0
  exact absurd hin (by simp)
theorem st_ok (T : Top w K mg) {no : Addr → Prop} {n : Nat} (L : ∀ j, j ≤ n + 1 → Lv P w base T j) {X : Cx} (hP : X.prog = P := by rfl) (hw : X.w = w := by rfl) (hK : X.K = K := by rfl) (hm : X.mg = mg := by rfl) (hb : X.base = base := by rfl) : StrOk X (GN K no) n strT (fnT n) := by
  subst hP hw hK hm hb
  intro c i hi
  have hin := lk_in hi
  clear hi
  rcases List.mem_cons.1 hin with e | hin
  · cases e; exact ⟨T.st_0.1, T.st_0.2, T.F_12.kp, T.fd_12, _, (L n (by omega)).o_12, bn_all (ps := ["self"]) T.F_12 (fun _ _ _ _ _ _ us hl => match us, hl with | [_], _ => rfl)⟩
  exact absurd hin (by simp)
theorem ok_0 (T : Top w K mg) {k : Nat} (L : ∀ j, j ≤ k + 1 → Lv P w base T j) : Z.FnOk P w K mg base (CX P w) (k + 2) ((GG K).fn 0) T.fd_0 ["value"] (spZ K (GG K) 1 (runZ 1 (m_0 (fnT (k + 1)) (fnT k) k))) :=
  fnZ T.F_0 sc_0 rfl fun cdv A outer s H E no hr => (pzss_cons (pzs_ret (pz_isi (isi_types T.isT.wn (ts := [3, 4]) (by decide)) rfl T.b_isinstance (pz_var (i := 0) rfl (by first | exact Or.inl rfl | exact Or.inr (Or.inl rfl) | exact Or.inr (Or.inr rfl)) (by decide) (by decide)) (car_two rfl T.b_list (by rfl) (by decide) (by decide) rfl T.b_tuple (by rfl) (by decide) (by decide)) (by rfl))) pzss_nil)
theorem ok_1 (T : Top w K mg) {k : Nat} (L : ∀ j, j ≤ k + 1 → Lv P w base T j) : Z.FnOk P w K mg base (CX P w) (k + 2) ((GG K).fn 1) T.fd_1 ["value", "some"] (spZ K (GG K) 2 (runZ 2 (m_1 (fnT (k + 1)) (fnT k) k))) :=
  fnZ T.F_1 sc_1 rfl fun cdv A outer s H E no hr => (pzss_cons (pzs_ret (pz_and (pz_isi (isi_types T.isT.wn (ts := [2]) (by decide)) rfl T.b_isinstance (pz_var (i := 0) rfl (by first | exact Or.inl rfl | exact Or.inr (Or.inl rfl) | exact Or.inr (Or.inr rfl)) (by decide) (by decide)) (car_ty rfl T.b_str (by rfl) (by decide) (by decide)) (by rfl)) (pz_one (pz_cmp (op_zin (eqX T L rfl rfl rfl rfl rfl takesZ).2.2 hr.rm) (pz_var (i := 0) rfl (by first | exact Or.inl rfl | exact Or.inr (Or.inl rfl) | exact Or.inr (Or.inr rfl)) (by decide) (by decide)) (pz_var (i := 1) rfl (by first | exact Or.inl rfl | exact Or.inr (Or.inl rfl) | exact Or.inr (Or.inr rfl)) (by decide) (by decide)) (by rfl))))) pzss_nil)
theorem ok_2 (T : Top w K mg) {k : Nat} (L : ∀ j, j ≤ k + 1 → Lv P w base T j) : Z.FnOk P w K mg base (CX P w) (k + 2) ((GG K).fn 2) T.fd_2 ["value"] (spZ K (GG K) 1 (runZ 1 (m_2 (fnT (k + 1)) (fnT k) k))) :=
  fnZ T.F_2 sc_2 rfl fun cdv A outer s H E no hr => (pzss_cons (pzs_if (pzt_not (pzt_val (pz_isi (isi_types T.isT.wn (ts := [2]) (by decide)) rfl T.b_isinstance (pz_var (i := 0) rfl (by first | exact Or.inl rfl | exact Or.inr (Or.inl rfl) | exact Or.inr (Or.inr rfl)) (by decide) (by decide)) (car_ty rfl T.b_str (by rfl) (by decide) (by decide)) (by rfl)) (fun _ => rfl))) (pzss_cons (pzs_ret pz_bl) pzss_nil) pzss_nil) (pzss_cons (pzs_ret (pz_cmp (op_zin (eqX T L rfl rfl rfl rfl rfl takesZ).2.2 hr.rm) (pz_ifExp (pzt_val (pz_bm (t := true) F.plainAttrs_str F.slot_str_startswith F.type_str_startswith mt_zstarts (pz_var (i := 0) rfl (by first | exact Or.inl rfl | exact Or.inr (Or.inl rfl) | exact Or.inr (Or.inr rfl)) (by decide) (by decide)) (pza_cons (pg_NOT T rfl rfl rfl) pza_nil (starEach_cons rfl)) (by rfl) (by rfl) (by rfl) (by decide)) (fun _ => rfl)) (pz_slice (pz_var (i := 0) rfl (by first | exact Or.inl rfl | exact Or.inr (Or.inl rfl) | exact Or.inr (Or.inr rfl)) (by decide) (by decide)) (pzo_some (pz_callB call_zlen rfl T.b_len (by rfl) (pza_cons (pg_NOT T rfl rfl rfl) pza_nil (starEach_cons rfl)) (by rfl) (by decide) (by decide))) pzo_none) (pz_var (i := 0) rfl (by first | exact Or.inl rfl | exact Or.inr (Or.inl rfl) | exact Or.inr (Or.inr rfl)) (by decide) (by decide))) (pg_TESTS T rfl rfl rfl) (by rfl))) pzss_nil))
theorem ok_3 (T : Top w K mg) {k : Nat} (L : ∀ j, j ≤ k + 1 → Lv P w base T j) : Z.FnOk P w K mg base (CX P w) (k + 2) ((GG K).fn 3) T.fd_3 ["tests", "deed"] (spZ K (GG K) 2 (runZ 3 (m_3 (fnT (k + 1)) (fnT k) k))) :=
  fnZ T.F_3 sc_3 rfl fun cdv A outer s H E no hr => (pzss_cons (pzs_if (pzt_cmp (op_zeq (eqX T L rfl rfl rfl rfl rfl takesZ).1 hr.rm) (pz_callB call_zlen rfl T.b_len (by rfl) (pza_cons (pz_var (i := 0) rfl (by first | exact Or.inl rfl | exact Or.inr (Or.inl rfl) | exact Or.inr (Or.inr rfl)) (by decide) (by decide)) pza_nil (starEach_cons rfl)) (by rfl) (by decide) (by decide)) pz_int (by rfl)) (pzss_cons (pzs_ret (pz_joined (pzj_cons (pz_str (z := [100, 111, 32]) (by kernel_rfl)) (pzj_cons (pz_fmt (pz_var (i := 1) rfl (by first | exact Or.inl rfl | exact Or.inr (Or.inl rfl) | exact Or.inr (Or.inr rfl)) (by decide) (by decide))) pzj_nil)))) pzss_nil) pzss_nil) (pzss_cons (pzs_asg (pz_bm (t := true) F.plainAttrs_str F.slot_str_join F.type_str_join mt_zjoin (pz_str (z := [32, 97, 110, 100, 32]) (by kernel_rfl)) (pza_cons (pz_var (i := 0) rfl (by first | exact Or.inl rfl | exact Or.inr (Or.inl rfl) | exact Or.inr (Or.inr rfl)) (by decide) (by decide)) pza_nil (starEach_cons rfl)) (by rfl) (by rfl) (by rfl) (by decide)) (pzg_name (i := 2) sc_3.nd rfl (by first | exact Or.inl rfl | exact Or.inr rfl) (by first | exact Or.inr rfl | exact Or.inl rfl)) (by rfl) (by rfl) (by rfl) gn_name) (pzss_cons (pzs_ret (pz_joined (pzj_cons (pz_str (z := [105, 102, 32]) (by kernel_rfl)) (pzj_cons (pz_fmt (pz_var (i := 2) rfl (by first | exact Or.inl rfl | exact Or.inr (Or.inl rfl) | exact Or.inr (Or.inr rfl)) (by decide) (by decide))) (pzj_cons (pz_str (z := [32, 100, 111, 32]) (by kernel_rfl)) (pzj_cons (pz_fmt (pz_var (i := 1) rfl (by first | exact Or.inl rfl | exact Or.inr (Or.inl rfl) | exact Or.inr (Or.inr rfl)) (by decide) (by decide))) pzj_nil)))))) pzss_nil)))
theorem ok_4 (T : Top w K mg) {k : Nat} (L : ∀ j, j ≤ k + 1 → Lv P w base T j) : Z.FnOk P w K mg base (CX P w) (k + 2) ((GG K).fn 4) T.fd_4 ["_law_script", "_law_k", "_law_own"] (spZ K (GG K) 3 (runZ 5 (m_4 (fnT (k + 1)) (fnT k) k))) :=
  fnZ T.F_4 sc_4 rfl fun cdv A outer s H E no hr => (pzss_cons (pzs_asg (pz_bin op_zadd (pz_bin op_zadd (pz_bin op_zmulA pz_int (pz_var (i := 1) rfl (by first | exact Or.inl rfl | exact Or.inr (Or.inl rfl) | exact Or.inr (Or.inr rfl)) (by decide) (by decide))) (pz_bin op_zmulA pz_int (pz_var (i := 2) rfl (by first | exact Or.inl rfl | exact Or.inr (Or.inl rfl) | exact Or.inr (Or.inr rfl)) (by decide) (by decide)))) pz_int) (pzg_name (i := 3) sc_4.nd rfl (by first | exact Or.inl rfl | exact Or.inr rfl) (by first | exact Or.inr rfl | exact Or.inl rfl)) (by rfl) (by rfl) (by rfl) gn_name) (pzss_cons (pzs_if (pzt_cmp op_zlt (pz_var (i := 1) rfl (by first | exact Or.inl rfl | exact Or.inr (Or.inl rfl) | exact Or.inr (Or.inr rfl)) (by decide) (by decide)) (pz_callB call_zlen rfl T.b_len (by rfl) (pza_cons (pz_var (i := 0) rfl (by first | exact Or.inl rfl | exact Or.inr (Or.inl rfl) | exact Or.inr (Or.inr rfl)) (by decide) (by decide)) pza_nil (starEach_cons rfl)) (by rfl) (by decide) (by decide)) (by rfl)) (pzss_cons (pzs_asg (pz_callB call_zabs rfl T.b_abs (by rfl) (pza_cons (pz_ix (pz_var (i := 0) rfl (by first | exact Or.inl rfl | exact Or.inr (Or.inl rfl) | exact Or.inr (Or.inr rfl)) (by decide) (by decide)) (pz_var (i := 1) rfl (by first | exact Or.inl rfl | exact Or.inr (Or.inl rfl) | exact Or.inr (Or.inr rfl)) (by decide) (by decide)) (fun _ _ => rfl)) pza_nil (starEach_cons rfl)) (by rfl) (by decide) (by decide)) (pzg_name (i := 3) sc_4.nd rfl (by first | exact Or.inl rfl | exact Or.inr rfl) (by first | exact Or.inr rfl | exact Or.inl rfl)) (by rfl) (by rfl) (by rfl) gn_name) pzss_nil) (pzss_cons (pzs_if (pzt_cmp op_zgt (pz_callB call_zlen rfl T.b_len (by rfl) (pza_cons (pz_var (i := 0) rfl (by first | exact Or.inl rfl | exact Or.inr (Or.inl rfl) | exact Or.inr (Or.inr rfl)) (by decide) (by decide)) pza_nil (starEach_cons rfl)) (by rfl) (by decide) (by decide)) pz_int (by rfl)) (pzss_cons (pzs_asg (pz_bin op_zadd (pz_var (i := 3) rfl (by first | exact Or.inl rfl | exact Or.inr (Or.inl rfl) | exact Or.inr (Or.inr rfl)) (by decide) (by decide)) (pz_bin op_zmulA (pz_bin op_zmod (pz_callT call_zint rfl T.b_int (by rfl) (pza_cons (pz_callB call_zabs rfl T.b_abs (by rfl) (pza_cons (pz_ix (pz_var (i := 0) rfl (by first | exact Or.inl rfl | exact Or.inr (Or.inl rfl) | exact Or.inr (Or.inr rfl)) (by decide) (by decide)) (pz_bin op_zmod (pz_callT call_zint rfl T.b_int (by rfl) (pza_cons (pz_var (i := 1) rfl (by first | exact Or.inl rfl | exact Or.inr (Or.inl rfl) | exact Or.inr (Or.inr rfl)) (by decide) (by decide)) pza_nil (starEach_cons rfl)) (by rfl) (by decide) (by decide)) (pz_callB call_zlen rfl T.b_len (by rfl) (pza_cons (pz_var (i := 0) rfl (by first | exact Or.inl rfl | exact Or.inr (Or.inl rfl) | exact Or.inr (Or.inr rfl)) (by decide) (by decide)) pza_nil (starEach_cons rfl)) (by rfl) (by decide) (by decide))) (fun _ _ => rfl)) pza_nil (starEach_cons rfl)) (by rfl) (by decide) (by decide)) pza_nil (starEach_cons rfl)) (by rfl) (by decide) (by decide)) pz_int) pz_int)) (pzg_name (i := 3) sc_4.nd rfl (by first | exact Or.inl rfl | exact Or.inr rfl) (by first | exact Or.inr rfl | exact Or.inl rfl)) (by rfl) (by rfl) (by rfl) gn_name) pzss_nil) pzss_nil) pzss_nil)) (pzss_cons (pzs_asg (pz_bin op_zadd (pz_bin op_zmod (pz_callT call_zint rfl T.b_int (by rfl) (pza_cons (pz_bin op_zadd (pz_bin op_zmulA (pz_bin op_zmod (pz_callT call_zint rfl T.b_int (by rfl) (pza_cons (pz_var (i := 3) rfl (by first | exact Or.inl rfl | exact Or.inr (Or.inl rfl) | exact Or.inr (Or.inr rfl)) (by decide) (by decide)) pza_nil (starEach_cons rfl)) (by rfl) (by decide) (by decide)) pz_int) pz_int) (pz_bin op_zmulA pz_int (pz_bin op_zadd (pz_var (i := 1) rfl (by first | exact Or.inl rfl | exact Or.inr (Or.inl rfl) | exact Or.inr (Or.inr rfl)) (by decide) (by decide)) (pz_bin op_zmulA pz_int (pz_var (i := 2) rfl (by first | exact Or.inl rfl | exact Or.inr (Or.inl rfl) | exact Or.inr (Or.inr rfl)) (by decide) (by decide)))))) pza_nil (starEach_cons rfl)) (by rfl) (by decide) (by decide)) pz_int) pz_int) (pzg_name (i := 4) sc_4.nd rfl (by first | exact Or.inl rfl | exact Or.inr rfl) (by first | exact Or.inr rfl | exact Or.inl rfl)) (by rfl) (by rfl) (by rfl) gn_name) (pzss_cons (pzs_ret (pz_lst (pza_cons (pz_ix (pz_lst (pza_cons pz_int (pza_cons (pz_var (i := 3) rfl (by first | exact Or.inl rfl | exact Or.inr (Or.inl rfl) | exact Or.inr (Or.inr rfl)) (by decide) (by decide)) pza_nil (starEach_cons rfl)) (starEach_cons rfl))) (pz_callT call_zint rfl T.b_int (by rfl) (pza_cons (pz_cmp op_zge (pz_var (i := 3) rfl (by first | exact Or.inl rfl | exact Or.inr (Or.inl rfl) | exact Or.inr (Or.inr rfl)) (by decide) (by decide)) (pz_bin op_zpow pz_int pz_int) (by rfl)) pza_nil (starEach_cons rfl)) (by rfl) (by decide) (by decide)) (fun _ _ => rfl)) (pza_cons (pz_var (i := 4) rfl (by first | exact Or.inl rfl | exact Or.inr (Or.inl rfl) | exact Or.inr (Or.inr rfl)) (by decide) (by decide)) (pza_cons pz_int pza_nil (starEach_cons rfl)) (starEach_cons rfl)) (starEach_cons rfl)))) pzss_nil))))
theorem ok_5 (T : Top w K mg) {k : Nat} (L : ∀ j, j ≤ k + 1 → Lv P w base T j) : Z.FnOk P w K mg base (CX P w) (k + 2) ((GG K).fn 5) T.fd_5 ["_law_box_here", "_law_many"] (spZ K (GG K) 2 (runZ 5 (m_5 (fnT (k + 1)) (fnT k) k))) :=
  fnZ T.F_5 sc_5 rfl fun cdv A outer s H E no hr => (pzss_cons (pzs_if (pzt_cmp op_zgt (pz_ix (pz_var (i := 0) rfl (by first | exact Or.inl rfl | exact Or.inr (Or.inl rfl) | exact Or.inr (Or.inr rfl)) (by decide) (by decide)) pz_int (fun _ _ => rfl)) pz_int (by rfl)) (pzss_cons (pzs_asg (pz_bin op_zmod (pz_callT call_zint rfl T.b_int (by rfl) (pza_cons (pz_ix (pz_var (i := 0) rfl (by first | exact Or.inl rfl | exact Or.inr (Or.inl rfl) | exact Or.inr (Or.inr rfl)) (by decide) (by decide)) pz_int (fun _ _ => rfl)) pza_nil (starEach_cons rfl)) (by rfl) (by decide) (by decide)) (pz_var (i := 1) rfl (by first | exact Or.inl rfl | exact Or.inr (Or.inl rfl) | exact Or.inr (Or.inr rfl)) (by decide) (by decide))) (pzg_name (i := 4) sc_5.nd rfl (by first | exact Or.inl rfl | exact Or.inr rfl) (by first | exact Or.inr rfl | exact Or.inl rfl)) (by rfl) (by rfl) (by rfl) gn_name) (pzss_cons (pzs_asg (pz_bin op_zfdiv (pz_ix (pz_var (i := 0) rfl (by first | exact Or.inl rfl | exact Or.inr (Or.inl rfl) | exact Or.inr (Or.inr rfl)) (by decide) (by decide)) pz_int (fun _ _ => rfl)) (pz_var (i := 1) rfl (by first | exact Or.inl rfl | exact Or.inr (Or.inl rfl) | exact Or.inr (Or.inr rfl)) (by decide) (by decide))) (pzg_sub (pz_var (i := 0) rfl (by first | exact Or.inl rfl | exact Or.inr (Or.inl rfl) | exact Or.inr (Or.inr rfl)) (by decide) (by decide)) pz_int (fun _ => rfl)) (by rfl) (by rfl) (by rfl) gn_sub) (pzss_cons (pzs_ret (pz_var (i := 4) rfl (by first | exact Or.inl rfl | exact Or.inr (Or.inl rfl) | exact Or.inr (Or.inr rfl)) (by decide) (by decide))) pzss_nil))) pzss_nil) (pzss_cons (pzs_asg (pz_bin op_zadd (pz_ix (pz_var (i := 0) rfl (by first | exact Or.inl rfl | exact Or.inr (Or.inl rfl) | exact Or.inr (Or.inr rfl)) (by decide) (by decide)) pz_int (fun _ _ => rfl)) pz_int) (pzg_sub (pz_var (i := 0) rfl (by first | exact Or.inl rfl | exact Or.inr (Or.inl rfl) | exact Or.inr (Or.inr rfl)) (by decide) (by decide)) pz_int (fun _ => rfl)) (by rfl) (by rfl) (by rfl) gn_sub) (pzss_cons (pzs_asg (pz_bin op_zmod (pz_callT call_zint rfl T.b_int (by rfl) (pza_cons (pz_bin op_zmulA (pz_bin op_zadd (pz_ix (pz_var (i := 0) rfl (by first | exact Or.inl rfl | exact Or.inr (Or.inl rfl) | exact Or.inr (Or.inr rfl)) (by decide) (by decide)) pz_int (fun _ _ => rfl)) (pz_bin op_zmulA pz_int (pz_ix (pz_var (i := 0) rfl (by first | exact Or.inl rfl | exact Or.inr (Or.inl rfl) | exact Or.inr (Or.inr rfl)) (by decide) (by decide)) pz_int (fun _ _ => rfl)))) pz_int) pza_nil (starEach_cons rfl)) (by rfl) (by decide) (by decide)) pz_int) (pzg_name (i := 2) sc_5.nd rfl (by first | exact Or.inl rfl | exact Or.inr rfl) (by first | exact Or.inr rfl | exact Or.inl rfl)) (by rfl) (by rfl) (by rfl) gn_name) (pzss_cons (pzs_asg (pz_bin op_zadd (pz_bin op_zmod (pz_callT call_zint rfl T.b_int (by rfl) (pza_cons (pz_bin op_zadd (pz_bin op_zmulA (pz_var (i := 2) rfl (by first | exact Or.inl rfl | exact Or.inr (Or.inl rfl) | exact Or.inr (Or.inr rfl)) (by decide) (by decide)) pz_int) pz_int) pza_nil (starEach_cons rfl)) (by rfl) (by decide) (by decide)) pz_int) pz_int) (pzg_sub (pz_var (i := 0) rfl (by first | exact Or.inl rfl | exact Or.inr (Or.inl rfl) | exact Or.inr (Or.inr rfl)) (by decide) (by decide)) pz_int (fun _ => rfl)) (by rfl) (by rfl) (by rfl) gn_sub) (pzss_cons (pzs_if (pzt_cmp op_zlt (pz_var (i := 1) rfl (by first | exact Or.inl rfl | exact Or.inr (Or.inl rfl) | exact Or.inr (Or.inr rfl)) (by decide) (by decide)) (pz_bin op_zpow pz_int pz_int) (by rfl)) (pzss_cons (pzs_ret (pz_bin op_zmod (pz_callT call_zint rfl T.b_int (by rfl) (pza_cons (pz_bin op_zfdiv (pz_bin op_zadd (pz_bin op_zmulA (pz_var (i := 2) rfl (by first | exact Or.inl rfl | exact Or.inr (Or.inl rfl) | exact Or.inr (Or.inr rfl)) (by decide) (by decide)) pz_int) (pz_ix (pz_var (i := 0) rfl (by first | exact Or.inl rfl | exact Or.inr (Or.inl rfl) | exact Or.inr (Or.inr rfl)) (by decide) (by decide)) pz_int (fun _ _ => rfl))) pz_int) pza_nil (starEach_cons rfl)) (by rfl) (by decide) (by decide)) (pz_var (i := 1) rfl (by first | exact Or.inl rfl | exact Or.inr (Or.inl rfl) | exact Or.inr (Or.inr rfl)) (by decide) (by decide)))) pzss_nil) pzss_nil) (pzss_cons (pzs_asg (pz_bin op_zmulA (pz_bin op_zadd (pz_bin op_zmulA (pz_var (i := 2) rfl (by first | exact Or.inl rfl | exact Or.inr (Or.inl rfl) | exact Or.inr (Or.inr rfl)) (by decide) (by decide)) pz_int) (pz_ix (pz_var (i := 0) rfl (by first | exact Or.inl rfl | exact Or.inr (Or.inl rfl) | exact Or.inr (Or.inr rfl)) (by decide) (by decide)) pz_int (fun _ _ => rfl))) (pz_bin op_zpow pz_int pz_int)) (pzg_name (i := 3) sc_5.nd rfl (by first | exact Or.inl rfl | exact Or.inr rfl) (by first | exact Or.inr rfl | exact Or.inl rfl)) (by rfl) (by rfl) (by rfl) gn_name) (pzss_cons (pzs_ret (pz_bin op_zmod (pz_callT call_zint rfl T.b_int (by rfl) (pza_cons (pz_bin op_zadd (pz_bin op_zadd (pz_var (i := 3) rfl (by first | exact Or.inl rfl | exact Or.inr (Or.inl rfl) | exact Or.inr (Or.inr rfl)) (by decide) (by decide)) (pz_bin op_zmulA (pz_bin op_zpow (pz_ix (pz_var (i := 0) rfl (by first | exact Or.inl rfl | exact Or.inr (Or.inl rfl) | exact Or.inr (Or.inr rfl)) (by decide) (by decide)) pz_int (fun _ _ => rfl)) pz_int) pz_int)) (pz_var (i := 2) rfl (by first | exact Or.inl rfl | exact Or.inr (Or.inl rfl) | exact Or.inr (Or.inr rfl)) (by decide) (by decide))) pza_nil (starEach_cons rfl)) (by rfl) (by decide) (by decide)) (pz_var (i := 1) rfl (by first | exact Or.inl rfl | exact Or.inr (Or.inl rfl) | exact Or.inr (Or.inr rfl)) (by decide) (by decide)))) pzss_nil)))))))
theorem ok_6 (T : Top w K mg) {k : Nat} (L : ∀ j, j ≤ k + 1 → Lv P w base T j) : Z.FnOk P w K mg base (CX P w) (k + 2) ((GG K).fn 6) T.fd_6 ["_law_box_here", "_law_items"] (spZ K (GG K) 2 (runZ 2 (m_6 (fnT (k + 1)) (fnT k) k))) :=
  fnZ T.F_6 sc_6 rfl fun cdv A outer s H E no hr => (pzss_cons (pzs_ret (pz_ix (pz_var (i := 1) rfl (by first | exact Or.inl rfl | exact Or.inr (Or.inl rfl) | exact Or.inr (Or.inr rfl)) (by decide) (by decide)) (pz_call (co_5_all T L) hr takesZ rfl T.f_5 (pza_cons (pz_var (i := 0) rfl (by first | exact Or.inl rfl | exact Or.inr (Or.inl rfl) | exact Or.inr (Or.inr rfl)) (by decide) (by decide)) (pza_cons (pz_callB call_zlen rfl T.b_len (by rfl) (pza_cons (pz_var (i := 1) rfl (by first | exact Or.inl rfl | exact Or.inr (Or.inl rfl) | exact Or.inr (Or.inr rfl)) (by decide) (by decide)) pza_nil (starEach_cons rfl)) (by rfl) (by decide) (by decide)) pza_nil (starEach_cons rfl)) (starEach_cons rfl)) pzk_nil (by rfl) (by rfl) (by decide)) (fun _ _ => rfl))) pzss_nil)
theorem ok_7 (T : Top w K mg) {k : Nat} (L : ∀ j, j ≤ k + 1 → Lv P w base T j) : Z.FnOk P w K mg base (CX P w) (k + 2) ((GG K).fn 7) T.fd_7 ["_law_box_here"] (spZ K (GG K) 1 (runZ 4 (m_7 (fnT (k + 1)) (fnT k) k))) :=
  fnZ T.F_7 sc_7 rfl fun cdv A outer s H E no hr => (pzss_cons (pzs_asg (pz_lst pza_nil) (pzg_name (i := 1) sc_7.nd rfl (by first | exact Or.inl rfl | exact Or.inr rfl) (by first | exact Or.inr rfl | exact Or.inl rfl)) (by rfl) (by rfl) (by rfl) gn_name) (pzss_cons (pzs_for ownZ rfl (pzi_range rfl T.b_range (pza_cons (pz_call (co_5_all T L) hr takesZ rfl T.f_5 (pza_cons (pz_var (i := 0) rfl (by first | exact Or.inl rfl | exact Or.inr (Or.inl rfl) | exact Or.inr (Or.inr rfl)) (by decide) (by decide)) (pza_cons pz_int pza_nil (starEach_cons rfl)) (starEach_cons rfl)) pzk_nil (by rfl) (by rfl) (by decide)) pza_nil (starEach_cons rfl)) (by rfl)) (pzg_name (i := 2) sc_7.nd rfl (by first | exact Or.inl rfl | exact Or.inr rfl) (by first | exact Or.inr rfl | exact Or.inl rfl)) (pzss_cons (pzs_asg (pz_call (co_6_all T L) hr takesZ rfl T.f_6 (pza_cons (pz_var (i := 0) rfl (by first | exact Or.inl rfl | exact Or.inr (Or.inl rfl) | exact Or.inr (Or.inr rfl)) (by decide) (by decide)) (pza_cons (pz_lst (pza_cons (pz_str (z := [116, 104, 101, 114, 101]) (by kernel_rfl)) (pza_cons (pz_str (z := [115, 97, 109, 101]) (by kernel_rfl)) (pza_cons (pz_str (z := [104, 111, 108, 100, 115]) (by kernel_rfl)) (pza_cons (pz_str (z := [99, 111, 118, 101, 114, 115]) (by kernel_rfl)) (pza_cons (pz_str (z := [102, 105, 116, 115]) (by kernel_rfl)) pza_nil (starEach_cons rfl)) (starEach_cons rfl)) (starEach_cons rfl)) (starEach_cons rfl)) (starEach_cons rfl))) pza_nil (starEach_cons rfl)) (starEach_cons rfl)) pzk_nil (by rfl) (by rfl) (by decide)) (pzg_name (i := 3) sc_7.nd rfl (by first | exact Or.inl rfl | exact Or.inr rfl) (by first | exact Or.inr rfl | exact Or.inl rfl)) (by rfl) (by rfl) (by rfl) gn_name) (pzss_cons (pzs_expr (pz_bm (t := false) F.plainAttrs_list F.slot_list_append F.type_list_append mt_zappend (pz_var (i := 1) rfl (by first | exact Or.inl rfl | exact Or.inr (Or.inl rfl) | exact Or.inr (Or.inr rfl)) (by decide) (by decide)) (pza_cons (pz_ifExp (pzt_cmp (op_zeq (eqX T L rfl rfl rfl rfl rfl takesZ).1 hr.rm) (pz_call (co_5_all T L) hr takesZ rfl T.f_5 (pza_cons (pz_var (i := 0) rfl (by first | exact Or.inl rfl | exact Or.inr (Or.inl rfl) | exact Or.inr (Or.inr rfl)) (by decide) (by decide)) (pza_cons pz_int pza_nil (starEach_cons rfl)) (starEach_cons rfl)) pzk_nil (by rfl) (by rfl) (by decide)) pz_int (by rfl)) (pz_bin op_zadd (pz_str (z := [110, 111, 116, 32]) (by kernel_rfl)) (pz_var (i := 3) rfl (by first | exact Or.inl rfl | exact Or.inr (Or.inl rfl) | exact Or.inr (Or.inr rfl)) (by decide) (by decide))) (pz_var (i := 3) rfl (by first | exact Or.inl rfl | exact Or.inr (Or.inl rfl) | exact Or.inr (Or.inr rfl)) (by decide) (by decide))) pza_nil (starEach_cons rfl)) (by rfl) (by rfl) (by rfl) (by decide)) (by rfl)) pzss_nil)) (fun _ => rfl)) (pzss_cons (pzs_ret (pz_var (i := 1) rfl (by first | exact Or.inl rfl | exact Or.inr (Or.inl rfl) | exact Or.inr (Or.inr rfl)) (by decide) (by decide))) pzss_nil)))
theorem ok_8 (T : Top w K mg) {k : Nat} (L : ∀ j, j ≤ k + 1 → Lv P w base T j) : Z.FnOk P w K mg base (CX P w) (k + 2) ((GG K).fn 8) T.fd_8 ["_law_tests_here", "_law_deed"] (spZ K (GG K) 2 (runZ 2 (m_8 (fnT (k + 1)) (fnT k) k))) :=
  fnZ T.F_8 sc_8 rfl fun cdv A outer s H E no hr => (pzss_cons (pzs_ret (pz_ifExp (pzt_cmp (op_zeq (eqX T L rfl rfl rfl rfl rfl takesZ).1 hr.rm) (pz_var (i := 0) rfl (by first | exact Or.inl rfl | exact Or.inr (Or.inl rfl) | exact Or.inr (Or.inr rfl)) (by decide) (by decide)) (pz_lst pza_nil) (by rfl)) (pz_bin op_zadd (pz_str (z := [100, 111, 32]) (by kernel_rfl)) (pz_var (i := 1) rfl (by first | exact Or.inl rfl | exact Or.inr (Or.inl rfl) | exact Or.inr (Or.inr rfl)) (by decide) (by decide))) (pz_bin op_zadd (pz_bin op_zadd (pz_bin op_zadd (pz_str (z := [105, 102, 32]) (by kernel_rfl)) (pz_bm (t := true) F.plainAttrs_str F.slot_str_join F.type_str_join mt_zjoin (pz_str (z := [32, 97, 110, 100, 32]) (by kernel_rfl)) (pza_cons (pz_var (i := 0) rfl (by first | exact Or.inl rfl | exact Or.inr (Or.inl rfl) | exact Or.inr (Or.inr rfl)) (by decide) (by decide)) pza_nil (starEach_cons rfl)) (by rfl) (by rfl) (by rfl) (by decide))) (pz_str (z := [32, 100, 111, 32]) (by kernel_rfl))) (pz_var (i := 1) rfl (by first | exact Or.inl rfl | exact Or.inr (Or.inl rfl) | exact Or.inr (Or.inr rfl)) (by decide) (by decide))))) pzss_nil)
theorem ok_9 (T : Top w K mg) {k : Nat} (L : ∀ j, j ≤ k + 1 → Lv P w base T j) : Z.FnOk P w K mg base (CX P w) (k + 2) ((GG K).fn 9) T.fd_9 ["_law_script"] (spZ K (GG K) 1 (runZ 11 (m_9 (fnT (k + 1)) (fnT k) k))) :=
  fnZ T.F_9 sc_9 rfl fun cdv A outer s H E no hr => (pzss_cons (pzs_for ownZ rfl (pzi_range rfl T.b_range (pza_cons (pz_callB (call_zmax rfl) rfl T.b_max (by rfl) (pza_cons pz_int (pza_cons (pz_callB (call_zmin rfl) rfl T.b_min (by rfl) (pza_cons pz_int (pza_cons (pz_callB call_zlen rfl T.b_len (by rfl) (pza_cons (pz_var (i := 0) rfl (by first | exact Or.inl rfl | exact Or.inr (Or.inl rfl) | exact Or.inr (Or.inr rfl)) (by decide) (by decide)) pza_nil (starEach_cons rfl)) (by rfl) (by decide) (by decide)) pza_nil (starEach_cons rfl)) (starEach_cons rfl)) (by rfl) (by decide) (by decide)) pza_nil (starEach_cons rfl)) (starEach_cons rfl)) (by rfl) (by decide) (by decide)) pza_nil (starEach_cons rfl)) (by rfl)) (pzg_name (i := 1) sc_9.nd rfl (by first | exact Or.inl rfl | exact Or.inr rfl) (by first | exact Or.inr rfl | exact Or.inl rfl)) (pzss_cons (pzs_par (ps := [(4, "_law_box_here"), (5, "_law_made")]) rfl sc_9.nd (by intro p hp; simp at hp; rcases hp with hp | hp <;> subst hp <;> exact ⟨rfl, rfl⟩) (pz_tup (pza_cons (pz_call (co_4_all T L) hr takesZ rfl T.f_4 (pza_cons (pz_var (i := 0) rfl (by first | exact Or.inl rfl | exact Or.inr (Or.inl rfl) | exact Or.inr (Or.inr rfl)) (by decide) (by decide)) (pza_cons (pz_var (i := 1) rfl (by first | exact Or.inl rfl | exact Or.inr (Or.inl rfl) | exact Or.inr (Or.inr rfl)) (by decide) (by decide)) (pza_cons pz_int pza_nil (starEach_cons rfl)) (starEach_cons rfl)) (starEach_cons rfl)) pzk_nil (by rfl) (by rfl) (by decide)) (pza_cons (pz_lst pza_nil) pza_nil (starEach_cons rfl)) (starEach_cons rfl))) (by rfl) (by rfl)) (pzss_cons (pzs_for ownZ rfl (pzi_range rfl T.b_range (pza_cons pz_int pza_nil (starEach_cons rfl)) (by rfl)) (pzg_name (i := 2) sc_9.nd rfl (by first | exact Or.inl rfl | exact Or.inr rfl) (by first | exact Or.inr rfl | exact Or.inl rfl)) (pzss_cons (pzs_par (ps := [(9, "_law_tests_here"), (10, "_law_deed")]) rfl sc_9.nd (by intro p hp; simp at hp; rcases hp with hp | hp <;> subst hp <;> exact ⟨rfl, rfl⟩) (pz_tup (pza_cons (pz_call (co_7_all T L) hr takesZ rfl T.f_7 (pza_cons (pz_var (i := 4) rfl (by first | exact Or.inl rfl | exact Or.inr (Or.inl rfl) | exact Or.inr (Or.inr rfl)) (by decide) (by decide)) pza_nil (starEach_cons rfl)) pzk_nil (by rfl) (by rfl) (by decide)) (pza_cons (pz_call (co_6_all T L) hr takesZ rfl T.f_6 (pza_cons (pz_var (i := 4) rfl (by first | exact Or.inl rfl | exact Or.inr (Or.inl rfl) | exact Or.inr (Or.inr rfl)) (by decide) (by decide)) (pza_cons (pz_lst (pza_cons (pz_str (z := [115, 108, 111, 116]) (by kernel_rfl)) (pza_cons (pz_str (z := [107, 101, 121]) (by kernel_rfl)) (pza_cons (pz_str (z := [102, 105, 110, 100]) (by kernel_rfl)) pza_nil (starEach_cons rfl)) (starEach_cons rfl)) (starEach_cons rfl))) pza_nil (starEach_cons rfl)) (starEach_cons rfl)) pzk_nil (by rfl) (by rfl) (by decide)) pza_nil (starEach_cons rfl)) (starEach_cons rfl))) (by rfl) (by rfl)) (pzss_cons (pzs_asg (pz_callT call_zlist rfl T.b_list (by rfl) (pza_cons (pz_var (i := 9) rfl (by first | exact Or.inl rfl | exact Or.inr (Or.inl rfl) | exact Or.inr (Or.inr rfl)) (by decide) (by decide)) pza_nil (starEach_cons rfl)) (by rfl) (by decide) (by decide)) (pzg_name (i := 6) sc_9.nd rfl (by first | exact Or.inl rfl | exact Or.inr rfl) (by first | exact Or.inr rfl | exact Or.inl rfl)) (by rfl) (by rfl) (by rfl) gn_name) (pzss_cons (pzs_asg (pz_mk (fr := true) (mk_10_all T L) hr takesZ rfl T.c_Row (pza_cons (pz_var (i := 6) rfl (by first | exact Or.inl rfl | exact Or.inr (Or.inl rfl) | exact Or.inr (Or.inr rfl)) (by decide) (by decide)) (pza_cons (pz_var (i := 10) rfl (by first | exact Or.inl rfl | exact Or.inr (Or.inl rfl) | exact Or.inr (Or.inr rfl)) (by decide) (by decide)) pza_nil (starEach_cons rfl)) (starEach_cons rfl)) pzk_nil (by rfl) (by rfl) (by decide)) (pzg_name (i := 7) sc_9.nd rfl (by first | exact Or.inl rfl | exact Or.inr rfl) (by first | exact Or.inr rfl | exact Or.inl rfl)) (by rfl) (by rfl) (by rfl) gn_name) (pzss_cons (pzs_if (PZW.t (pzw_or (pzt_cmp (neX T L rfl rfl rfl rfl rfl takesZ hr.rm) (pz_var (i := 6) rfl (by first | exact Or.inl rfl | exact Or.inr (Or.inl rfl) | exact Or.inr (Or.inr rfl)) (by decide) (by decide)) (pz_var (i := 9) rfl (by first | exact Or.inl rfl | exact Or.inr (Or.inl rfl) | exact Or.inr (Or.inr rfl)) (by decide) (by decide)) (by rfl)) (pzw_or1 (pzt_cmp (neX T L rfl rfl rfl rfl rfl takesZ hr.rm) (pz_fld (njN T) rfl T.na_tests (pz_var (i := 7) rfl (by first | exact Or.inl rfl | exact Or.inr (Or.inl rfl) | exact Or.inr (Or.inr rfl)) (by decide) (by decide)) (attrBase_of (by rfl))) (pz_callT call_ztuple rfl T.b_tuple (by rfl) (pza_cons (pz_var (i := 9) rfl (by first | exact Or.inl rfl | exact Or.inr (Or.inl rfl) | exact Or.inr (Or.inr rfl)) (by decide) (by decide)) pza_nil (starEach_cons rfl)) (by rfl) (by decide) (by decide)) (by rfl))))) (pzss_cons (pzs_ret pz_bl) pzss_nil) pzss_nil) (pzss_cons (pzs_expr (pz_bm (t := false) F.plainAttrs_list F.slot_list_append F.type_list_append mt_zappend (pz_var (i := 6) rfl (by first | exact Or.inl rfl | exact Or.inr (Or.inl rfl) | exact Or.inr (Or.inr rfl)) (by decide) (by decide)) (pza_cons (pz_str (z := [115, 97, 109, 101]) (by kernel_rfl)) pza_nil (starEach_cons rfl)) (by rfl) (by rfl) (by rfl) (by decide)) (by rfl)) (pzss_cons (pzs_if (pzt_cmp (neX T L rfl rfl rfl rfl rfl takesZ hr.rm) (pz_callB (call_zreprL hr) rfl T.b_repr (by rfl) (pza_cons (pz_lst (pza_cons (pz_fld (njN T) rfl T.na_tests (pz_var (i := 7) rfl (by first | exact Or.inl rfl | exact Or.inr (Or.inl rfl) | exact Or.inr (Or.inr rfl)) (by decide) (by decide)) (attrBase_of (by rfl))) (pza_cons (pz_fld (njN T) rfl T.na_deed (pz_var (i := 7) rfl (by first | exact Or.inl rfl | exact Or.inr (Or.inl rfl) | exact Or.inr (Or.inr rfl)) (by decide) (by decide)) (attrBase_of (by rfl))) (pza_cons (pz_callT (call_zstrO (st_ok T L) hr takesZ) rfl T.b_str (by rfl) (pza_cons (pz_var (i := 7) rfl (by first | exact Or.inl rfl | exact Or.inr (Or.inl rfl) | exact Or.inr (Or.inr rfl)) (by decide) (by decide)) pza_nil (starEach_cons rfl)) (by rfl) (by decide) (by decide)) pza_nil (starEach_cons rfl)) (starEach_cons rfl)) (starEach_cons rfl))) pza_nil (starEach_cons rfl)) (by rfl) (by decide) (by decide)) (pz_callB (call_zreprL hr) rfl T.b_repr (by rfl) (pza_cons (pz_lst (pza_cons (pz_callT call_ztuple rfl T.b_tuple (by rfl) (pza_cons (pz_var (i := 9) rfl (by first | exact Or.inl rfl | exact Or.inr (Or.inl rfl) | exact Or.inr (Or.inr rfl)) (by decide) (by decide)) pza_nil (starEach_cons rfl)) (by rfl) (by decide) (by decide)) (pza_cons (pz_var (i := 10) rfl (by first | exact Or.inl rfl | exact Or.inr (Or.inl rfl) | exact Or.inr (Or.inr rfl)) (by decide) (by decide)) (pza_cons (pz_call (co_8_all T L) hr takesZ rfl T.f_8 (pza_cons (pz_var (i := 9) rfl (by first | exact Or.inl rfl | exact Or.inr (Or.inl rfl) | exact Or.inr (Or.inr rfl)) (by decide) (by decide)) (pza_cons (pz_var (i := 10) rfl (by first | exact Or.inl rfl | exact Or.inr (Or.inl rfl) | exact Or.inr (Or.inr rfl)) (by decide) (by decide)) pza_nil (starEach_cons rfl)) (starEach_cons rfl)) pzk_nil (by rfl) (by rfl) (by decide)) pza_nil (starEach_cons rfl)) (starEach_cons rfl)) (starEach_cons rfl))) pza_nil (starEach_cons rfl)) (by rfl) (by decide) (by decide)) (by rfl)) (pzss_cons (pzs_ret pz_bl) pzss_nil) pzss_nil) (pzss_cons (pzs_if (PZW.t (pzw_or (pzt_cmp (neX T L rfl rfl rfl rfl rfl takesZ hr.rm) (pz_var (i := 7) rfl (by first | exact Or.inl rfl | exact Or.inr (Or.inl rfl) | exact Or.inr (Or.inr rfl)) (by decide) (by decide)) (pz_mk (fr := true) (mk_10_all T L) hr takesZ rfl T.c_Row (pza_cons (pz_callT call_ztuple rfl T.b_tuple (by rfl) (pza_cons (pz_var (i := 9) rfl (by first | exact Or.inl rfl | exact Or.inr (Or.inl rfl) | exact Or.inr (Or.inr rfl)) (by decide) (by decide)) pza_nil (starEach_cons rfl)) (by rfl) (by decide) (by decide)) (pza_cons (pz_var (i := 10) rfl (by first | exact Or.inl rfl | exact Or.inr (Or.inl rfl) | exact Or.inr (Or.inr rfl)) (by decide) (by decide)) pza_nil (starEach_cons rfl)) (starEach_cons rfl)) pzk_nil (by rfl) (by rfl) (by decide)) (by rfl)) (pzw_or (pzt_cmp (op_zeq (eqX T L rfl rfl rfl rfl rfl takesZ).1 hr.rm) (pz_var (i := 7) rfl (by first | exact Or.inl rfl | exact Or.inr (Or.inl rfl) | exact Or.inr (Or.inr rfl)) (by decide) (by decide)) (pz_callT (call_zstrO (st_ok T L) hr takesZ) rfl T.b_str (by rfl) (pza_cons (pz_var (i := 7) rfl (by first | exact Or.inl rfl | exact Or.inr (Or.inl rfl) | exact Or.inr (Or.inr rfl)) (by decide) (by decide)) pza_nil (starEach_cons rfl)) (by rfl) (by decide) (by decide)) (by rfl)) (pzw_or1 (pzt_not (pzt_cmp (op_zeq (eqX T L rfl rfl rfl rfl rfl takesZ).1 hr.rm) (pz_var (i := 7) rfl (by first | exact Or.inl rfl | exact Or.inr (Or.inl rfl) | exact Or.inr (Or.inr rfl)) (by decide) (by decide)) (pz_mk (fr := true) (mk_10_all T L) hr takesZ rfl T.c_Row (pza_cons (pz_var (i := 9) rfl (by first | exact Or.inl rfl | exact Or.inr (Or.inl rfl) | exact Or.inr (Or.inr rfl)) (by decide) (by decide)) (pza_cons (pz_var (i := 10) rfl (by first | exact Or.inl rfl | exact Or.inr (Or.inl rfl) | exact Or.inr (Or.inr rfl)) (by decide) (by decide)) pza_nil (starEach_cons rfl)) (starEach_cons rfl)) pzk_nil (by rfl) (by rfl) (by decide)) (by rfl))))))) (pzss_cons (pzs_ret pz_bl) pzss_nil) pzss_nil) (pzss_cons (pzs_expr (pz_bm (t := false) F.plainAttrs_list F.slot_list_append F.type_list_append mt_zappend (pz_var (i := 5) rfl (by first | exact Or.inl rfl | exact Or.inr (Or.inl rfl) | exact Or.inr (Or.inr rfl)) (by decide) (by decide)) (pza_cons (pz_var (i := 7) rfl (by first | exact Or.inl rfl | exact Or.inr (Or.inl rfl) | exact Or.inr (Or.inr rfl)) (by decide) (by decide)) pza_nil (starEach_cons rfl)) (by rfl) (by rfl) (by rfl) (by decide)) (by rfl)) pzss_nil)))))))) (fun _ => rfl)) (pzss_cons (pzs_for ownZ rfl (pzi_val (pz_var (i := 5) rfl (by first | exact Or.inl rfl | exact Or.inr (Or.inl rfl) | exact Or.inr (Or.inr rfl)) (by decide) (by decide))) (pzg_name (i := 3) sc_9.nd rfl (by first | exact Or.inl rfl | exact Or.inr rfl) (by first | exact Or.inr rfl | exact Or.inl rfl)) (pzss_cons (pzs_for ownZ rfl (pzi_val (pz_var (i := 5) rfl (by first | exact Or.inl rfl | exact Or.inr (Or.inl rfl) | exact Or.inr (Or.inr rfl)) (by decide) (by decide))) (pzg_name (i := 8) sc_9.nd rfl (by first | exact Or.inl rfl | exact Or.inr rfl) (by first | exact Or.inr rfl | exact Or.inl rfl)) (pzss_cons (pzs_if (PZW.t (pzw_or (pzt_cmp (neX T L rfl rfl rfl rfl rfl takesZ hr.rm) (pz_cmp (op_zeq (eqX T L rfl rfl rfl rfl rfl takesZ).1 hr.rm) (pz_var (i := 3) rfl (by first | exact Or.inl rfl | exact Or.inr (Or.inl rfl) | exact Or.inr (Or.inr rfl)) (by decide) (by decide)) (pz_var (i := 8) rfl (by first | exact Or.inl rfl | exact Or.inr (Or.inl rfl) | exact Or.inr (Or.inr rfl)) (by decide) (by decide)) (by rfl)) (pz_cmp (op_zeq (eqX T L rfl rfl rfl rfl rfl takesZ).1 hr.rm) (pz_callT (call_zstrO (st_ok T L) hr takesZ) rfl T.b_str (by rfl) (pza_cons (pz_var (i := 3) rfl (by first | exact Or.inl rfl | exact Or.inr (Or.inl rfl) | exact Or.inr (Or.inr rfl)) (by decide) (by decide)) pza_nil (starEach_cons rfl)) (by rfl) (by decide) (by decide)) (pz_callT (call_zstrO (st_ok T L) hr takesZ) rfl T.b_str (by rfl) (pza_cons (pz_var (i := 8) rfl (by first | exact Or.inl rfl | exact Or.inr (Or.inl rfl) | exact Or.inr (Or.inr rfl)) (by decide) (by decide)) pza_nil (starEach_cons rfl)) (by rfl) (by decide) (by decide)) (by rfl)) (by rfl)) (pzw_or1 (pzt_cmp (op_zeq (eqX T L rfl rfl rfl rfl rfl takesZ).1 hr.rm) (pz_cmp (neX T L rfl rfl rfl rfl rfl takesZ hr.rm) (pz_var (i := 3) rfl (by first | exact Or.inl rfl | exact Or.inr (Or.inl rfl) | exact Or.inr (Or.inr rfl)) (by decide) (by decide)) (pz_var (i := 8) rfl (by first | exact Or.inl rfl | exact Or.inr (Or.inl rfl) | exact Or.inr (Or.inr rfl)) (by decide) (by decide)) (by rfl)) (pz_cmp (op_zeq (eqX T L rfl rfl rfl rfl rfl takesZ).1 hr.rm) (pz_var (i := 3) rfl (by first | exact Or.inl rfl | exact Or.inr (Or.inl rfl) | exact Or.inr (Or.inr rfl)) (by decide) (by decide)) (pz_var (i := 8) rfl (by first | exact Or.inl rfl | exact Or.inr (Or.inl rfl) | exact Or.inr (Or.inr rfl)) (by decide) (by decide)) (by rfl)) (by rfl))))) (pzss_cons (pzs_ret pz_bl) pzss_nil) pzss_nil) pzss_nil) (fun _ => rfl)) pzss_nil) (fun _ => rfl)) pzss_nil))) (fun _ => rfl)) (pzss_cons (pzs_ret (pz_and (pz_cmp (op_zeq (eqX T L rfl rfl rfl rfl rfl takesZ).1 hr.rm) (pz_mk0 (fr := true) (mk_10_d1 T L) hr takesZ rfl T.c_Row pzk_nil (by rfl) (by decide)) (pz_mk (fr := true) (mk_10_all T L) hr takesZ rfl T.c_Row (pza_cons (pz_tup pza_nil) (pza_cons (pz_str (z := [102, 105, 110, 100]) (by kernel_rfl)) pza_nil (starEach_cons rfl)) (starEach_cons rfl)) pzk_nil (by rfl) (by rfl) (by decide)) (by rfl)) (pz_and (pz_cmp (op_zeq (eqX T L rfl rfl rfl rfl rfl takesZ).1 hr.rm) (pz_callT (call_zstrO (st_ok T L) hr takesZ) rfl T.b_str (by rfl) (pza_cons (pz_mk (fr := true) (mk_10_d2 T L) hr takesZ rfl T.c_Row (pza_cons (pz_lst (pza_cons (pz_str (z := [115, 97, 109, 101]) (by kernel_rfl)) pza_nil (starEach_cons rfl))) pza_nil (starEach_cons rfl)) pzk_nil (by rfl) (by rfl) (by decide)) pza_nil (starEach_cons rfl)) (by rfl) (by decide) (by decide)) (pz_str (z := [105, 102, 32, 115, 97, 109, 101, 32, 100, 111, 32, 102, 105, 110, 100]) (by kernel_rfl)) (by rfl)) (pz_one (pz_cmp (op_zeq (eqX T L rfl rfl rfl rfl rfl takesZ).1 hr.rm) (pz_callT (call_zstrO (st_ok T L) hr takesZ) rfl T.b_str (by rfl) (pza_cons (pz_mk0 (fr := true) (mk_10_d1 T L) hr takesZ rfl T.c_Row pzk_nil (by rfl) (by decide)) pza_nil (starEach_cons rfl)) (by rfl) (by decide) (by decide)) (pz_str (z := [100, 111, 32, 102, 105, 110, 100]) (by kernel_rfl)) (by rfl)))))) pzss_nil))
theorem ok_10 (T : Top w K mg) {k : Nat} (L : ∀ j, j ≤ k + 1 → Lv P w base T j) : Z.FnOk P w K mg base (CX P w) (k + 2) ((GG K).fn 10) T.fd_10 ["self", "tests", "deed"] (spZ K (GG K) 3 (runZ 4 (m_10 (fnT (k + 1)) (fnT k) k))) :=
  fnZ T.F_10 sc_10 rfl fun cdv A outer s H E no hr => (pzss_cons (pzs_if (PZW.t (pzw_or (pzt_not (pzt_val (pz_call (co_0_all T L) hr takesZ rfl T.f_0 (pza_cons (pz_var (i := 1) rfl (by first | exact Or.inl rfl | exact Or.inr (Or.inl rfl) | exact Or.inr (Or.inr rfl)) (by decide) (by decide)) pza_nil (starEach_cons rfl)) pzk_nil (by rfl) (by rfl) (by decide)) (fun _ => rfl))) (pzw_or1 (pzt_not (pzt_val (pz_callB (call_zall rfl) rfl T.b_all (by rfl) (pza_cons (pz_lc (own := [("test", 3)]) (ct := (.nm 3))  rfl sc_10.nd  (pzi_val (pz_var (i := 1) rfl (by first | exact Or.inl rfl | exact Or.inr (Or.inl rfl) | exact Or.inr (Or.inr rfl)) (by decide) (by decide))) (blkOk_by (by kernel_rfl)) (by decide) (fun _ _ _ _ _ => (pg_name (i := 3) sc_10.nd rfl (by first | exact Or.inl rfl | exact Or.inr rfl) (by first | exact Or.inr rfl | exact Or.inl rfl))) (fun _ _ _ _ _ => pzts_nil) (fun _ _ _ _ _ => (pz_call (co_2_all T L) hr takes_blk rfl T.f_2 (pza_cons (pz_var (i := 3) rfl (by first | exact Or.inl rfl | exact Or.inr (Or.inl rfl) | exact Or.inr (Or.inr rfl)) (by decide) (by decide)) pza_nil (starEach_cons rfl)) pzk_nil (by rfl) (by rfl) (by decide))) (fun _ => rfl)) pza_nil (starEach_cons rfl)) (by rfl) (by decide) (by decide)) (fun _ => rfl)))))) (pzss_cons (pzs_gK fun j hj => by subst hj; exact pzs_raise rfl takesZ (xk_InvalidRow T) hr rfl T.xg_InvalidRow (pza_cons (pz_str (z := [116, 101, 115, 116, 115]) (by kernel_rfl)) pza_nil (starEach_cons rfl)) (by decide) (by rfl)) pzss_nil) pzss_nil) (pzss_cons (pzs_if (pzt_not (pzt_val (pz_call (co_1_all T L) hr takesZ rfl T.f_1 (pza_cons (pz_var (i := 2) rfl (by first | exact Or.inl rfl | exact Or.inr (Or.inl rfl) | exact Or.inr (Or.inr rfl)) (by decide) (by decide)) (pza_cons (pg_DEEDS T rfl rfl rfl) pza_nil (starEach_cons rfl)) (starEach_cons rfl)) pzk_nil (by rfl) (by rfl) (by decide)) (fun _ => rfl))) (pzss_cons (pzs_gK fun j hj => by subst hj; exact pzs_raise rfl takesZ (xk_InvalidRow T) hr rfl T.xg_InvalidRow (pza_cons (pz_str (z := [100, 101, 101, 100]) (by kernel_rfl)) pza_nil (starEach_cons rfl)) (by decide) (by rfl)) pzss_nil) pzss_nil) (pzss_cons (pzs_fld (njN T) rfl T.na_tests (pz_var (i := 0) rfl (by first | exact Or.inl rfl | exact Or.inr (Or.inl rfl) | exact Or.inr (Or.inr rfl)) (by decide) (by decide)) (pz_callT call_ztuple rfl T.b_tuple (by rfl) (pza_cons (pz_var (i := 1) rfl (by first | exact Or.inl rfl | exact Or.inr (Or.inl rfl) | exact Or.inr (Or.inr rfl)) (by decide) (by decide)) pza_nil (starEach_cons rfl)) (by rfl) (by decide) (by decide)) (by rfl)) (pzss_cons (pzs_fld (njN T) rfl T.na_deed (pz_var (i := 0) rfl (by first | exact Or.inl rfl | exact Or.inr (Or.inl rfl) | exact Or.inr (Or.inr rfl)) (by decide) (by decide)) (pz_var (i := 2) rfl (by first | exact Or.inl rfl | exact Or.inr (Or.inl rfl) | exact Or.inr (Or.inr rfl)) (by decide) (by decide)) (by rfl)) (pzss_cons (pzs_fld (njN T) rfl T.na_text (pz_var (i := 0) rfl (by first | exact Or.inl rfl | exact Or.inr (Or.inl rfl) | exact Or.inr (Or.inr rfl)) (by decide) (by decide)) (pz_call (co_3_all T L) hr takesZ rfl T.f_3 (pza_cons (pz_fld (njN T) rfl T.na_tests (pz_var (i := 0) rfl (by first | exact Or.inl rfl | exact Or.inr (Or.inl rfl) | exact Or.inr (Or.inr rfl)) (by decide) (by decide)) (attrBase_of (by rfl))) (pza_cons (pz_var (i := 2) rfl (by first | exact Or.inl rfl | exact Or.inr (Or.inl rfl) | exact Or.inr (Or.inr rfl)) (by decide) (by decide)) pza_nil (starEach_cons rfl)) (starEach_cons rfl)) pzk_nil (by rfl) (by rfl) (by decide)) (by rfl)) pzss_nil)))))
theorem ok_11 (T : Top w K mg) {k : Nat} (L : ∀ j, j ≤ k → Lv P w base T j) : L2.FnOk P w K mg base (CX P w) (k + 1) ((GG K).fn 11) T.fd_11 ["self", "other"] (spZ K (GG K) 2 (runZ 2 (m_11 k))) :=
  fnZL T.F_11 sc_11 rfl fun cdv A outer s H E no hr => (pzss_cons (pzs_ret (pz_and (pz_isi (isi_cls T.isT.wn (d := 0) (by decide)) rfl T.b_isinstance (pz_var (i := 1) rfl (by first | exact Or.inl rfl | exact Or.inr (Or.inl rfl) | exact Or.inr (Or.inr rfl)) (by decide) (by decide)) (car_cls rfl T.c_Row (by decide)) (by rfl)) (pz_and (pz_cmp (op_zeq (eqX T L rfl rfl rfl rfl rfl takesZ).1 hr) (pz_fld (njN T) rfl (T.na_tests.sub (by decide)) (pz_var (i := 0) rfl (by first | exact Or.inl rfl | exact Or.inr (Or.inl rfl) | exact Or.inr (Or.inr rfl)) (by decide) (by decide)) (attrBase_of (by rfl))) (pz_fld (njN T) rfl (T.na_tests.sub (by decide)) (pz_var (i := 1) rfl (by first | exact Or.inl rfl | exact Or.inr (Or.inl rfl) | exact Or.inr (Or.inr rfl)) (by decide) (by decide)) (attrBase_of (by rfl))) (by rfl)) (pz_one (pz_cmp (op_zeq (eqX T L rfl rfl rfl rfl rfl takesZ).1 hr) (pz_fld (njN T) rfl (T.na_deed.sub (by decide)) (pz_var (i := 0) rfl (by first | exact Or.inl rfl | exact Or.inr (Or.inl rfl) | exact Or.inr (Or.inr rfl)) (by decide) (by decide)) (attrBase_of (by rfl))) (pz_fld (njN T) rfl (T.na_deed.sub (by decide)) (pz_var (i := 1) rfl (by first | exact Or.inl rfl | exact Or.inr (Or.inl rfl) | exact Or.inr (Or.inr rfl)) (by decide) (by decide)) (attrBase_of (by rfl))) (by rfl)))))) pzss_nil)
theorem ok_12 (T : Top w K mg) {k : Nat} (L : ∀ j, j ≤ k + 1 → Lv P w base T j) : Z.FnOk P w K mg base (CX P w) (k + 2) ((GG K).fn 12) T.fd_12 ["self"] (spZ K (GG K) 1 (runZ 1 (m_12 (fnT (k + 1)) (fnT k) k))) :=
  fnZ T.F_12 sc_12 rfl fun cdv A outer s H E no hr => (pzss_cons (pzs_ret (pz_joined1 (pz_fmt (pz_fld (njN T) rfl T.na_text (pz_var (i := 0) rfl (by first | exact Or.inl rfl | exact Or.inr (Or.inl rfl) | exact Or.inr (Or.inr rfl)) (by decide) (by decide)) (attrBase_of (by rfl)))))) pzss_nil)
end Lk02
set_option Elab.async false
set_option linter.all false
set_option maxRecDepth 100000
set_option maxHeartbeats 0
set_option autoImplicit false
namespace Lk02
open PySem L2 Z
open PyProof.Rows hiding St
variable {P : Program} {w : World} {K : PySem.W.Frag} {mg : Str → Option Value} {base : Heap} {k : Nat}
theorem lv_0 (T : Top w K mg) : Lv P w base T 0 :=
  ⟨fn_bad (F := T.fd_0), fn_bad (F := T.fd_1), fn_bad (F := T.fd_2), fn_bad (F := T.fd_3), fn_bad (F := T.fd_4), fn_bad (F := T.fd_5), fn_bad (F := T.fd_6), fn_bad (F := T.fd_7), fn_bad (F := T.fd_8), fn_bad (F := T.fd_9), fn_bad (F := T.fd_10), fn_badL (F := T.fd_11), fn_bad (F := T.fd_12)⟩
theorem lv_1 (T : Top w K mg) (L : ∀ j, j ≤ 0 → Lv P w base T j) : Lv P w base T 1 :=
  ⟨fn_bad (F := T.fd_0), fn_bad (F := T.fd_1), fn_bad (F := T.fd_2), fn_bad (F := T.fd_3), fn_bad (F := T.fd_4), fn_bad (F := T.fd_5), fn_bad (F := T.fd_6), fn_bad (F := T.fd_7), fn_bad (F := T.fd_8), fn_bad (F := T.fd_9), fn_bad (F := T.fd_10), ok_11 T L, fn_bad (F := T.fd_12)⟩
theorem lv_2 (T : Top w K mg) {k : Nat} (L : ∀ j, j ≤ k + 1 → Lv P w base T j) : Lv P w base T (k + 2) :=
  ⟨ok_0 T L, ok_1 T L, ok_2 T L, ok_3 T L, ok_4 T L, ok_5 T L, ok_6 T L, ok_7 T L, ok_8 T L, ok_9 T L, ok_10 T L, ok_11 T L, ok_12 T L⟩
theorem lv_up (T : Top w K mg) : ∀ n, ∀ j, j ≤ n → Lv P w base T j
  | 0 => fun j hj => by
    have e : j = 0 := Nat.le_zero.1 hj
    subst e
    exact lv_0 T
  | n + 1 => fun j hj => by
    rcases Nat.lt_or_ge j (n + 1) with q | q
    · exact lv_up T n j (Nat.le_of_lt_succ q)
    · have e : j = n + 1 := Nat.le_antisymm hj q
      subst e
      cases n with
      | zero => exact lv_1 T (lv_up T 0)
      | succ m => exact lv_2 T (lv_up T (m + 1))
def dA0 : List He5.DefA := [⟨fun K => He.ga K "is_sequence", "is_sequence", "is_sequence", defArgs s_0, defBody s_0, defScope s_0, [], []⟩, ⟨fun K => He.ga K "is_word", "is_word", "is_word", defArgs s_1, defBody s_1, defScope s_1, [], []⟩, ⟨fun K => He.ga K "is_test", "is_test", "is_test", defArgs s_2, defBody s_2, defScope s_2, [], []⟩, ⟨fun K => He.ga K "text_of", "text_of", "text_of", defArgs s_3, defBody s_3, defScope s_3, [], []⟩, ⟨fun K => He.ga K "_law_box", "_law_box", "_law_box", defArgs s_4, defBody s_4, defScope s_4, [], []⟩, ⟨fun K => He.ga K "_law_take", "_law_take", "_law_take", defArgs s_5, defBody s_5, defScope s_5, [], []⟩, ⟨fun K => He.ga K "_law_pick", "_law_pick", "_law_pick", defArgs s_6, defBody s_6, defScope s_6, [], []⟩, ⟨fun K => He.ga K "_law_tests", "_law_tests", "_law_tests", defArgs s_7, defBody s_7, defScope s_7, [], []⟩, ⟨fun K => He.ga K "_law_text", "_law_text", "_law_text", defArgs s_8, defBody s_8, defScope s_8, [], []⟩, ⟨fun K => He.ga K "law", "law", "law", defArgs s_9, defBody s_9, defScope s_9, [], []⟩, ⟨fun K => He.ma K (He.ga K "Row") "__init__", "__init__", "Row.__init__", defArgs s_10, defBody s_10, defScope s_10, [.adr (He.dflAt ("Row", some "__init__") 0), .str "find"], []⟩, ⟨fun K => He.ma K (He.ga K "Row") "__eq__", "__eq__", "Row.__eq__", defArgs s_11, defBody s_11, defScope s_11, [], []⟩, ⟨fun K => He.ma K (He.ga K "Row") "__str__", "__str__", "Row.__str__", defArgs s_12, defBody s_12, defScope s_12, [], []⟩]
def dAx : List He5.DefA := [⟨fun K => He.ma K (He.ga K "InvalidRow") "__init__", "__init__", "InvalidRow.__init__", defArgs sx_InvalidRow, defBody sx_InvalidRow, defScope sx_InvalidRow, [], []⟩]
def dAy : List He5.DefA := dA0 ++ dAx
def dA : List He5.DefA := dAy
def chk2_0 : List (PySem.W.Frag → Bool) := [fun K => [("is_sequence" : Str), ("is_word" : Str), ("is_test" : Str), ("text_of" : Str), ("_law_box" : Str), ("_law_take" : Str), ("_law_pick" : Str), ("_law_tests" : Str), ("_law_text" : Str), ("law" : Str)].all fun x => cGlo x K, cFrees ["abs", "all", "int", "isinstance", "len", "list", "max", "min", "range", "repr", "str", "tuple"], cCls "Row" ["tests", "deed", "text"], cMkr "Row", cMeth "Row" "__eq__", cMeth "Row" "__init__", cMeth "Row" "__str__", cIsi CLo]
def chk2 : List (PySem.W.Frag → Bool) := chk2_0
def chk3_0 : List (PySem.W.Frag → Bool) := [cEq ["Row"], cNe ["Row"], cStrO ["Row"], cTup "TESTS" [.str "there", .str "same", .str "holds", .str "covers", .str "fits"], cTup "DEEDS" [.str "slot", .str "key", .str "find"], cStr "NOT" "not ", cXc "InvalidRow" ["part"], cSl "SlotError", cTupA (He.dflAt ("Row", some "__init__") 0) []]
def chk3 : List (PySem.W.Frag → Bool) := chk3_0
def dcs : List (Str × List Str) := []
abbrev prt1 : Prt := ⟨[], dA, []⟩
abbrev prt2 : Prt := ⟨chk2, [], []⟩
abbrev prt3 : Prt := ⟨chk3, [], dcs⟩
theorem top_of {h : Heap} (X : K.In h) (G : h.Ns mainGlobals mg) (ca : SaysY w.params prt1.chk prt1.fn prt1.ds K) (cb : SaysY w.params prt2.chk prt2.fn prt2.ds K) (cd : SaysY w.params prt3.chk prt3.fn prt3.ds K) : ∃ T : Top w K mg, True := by
  have c1 : SaysZ [] dA K := ca.z
  have c2 : SaysZ chk2 [] K := cb.z
  have c3 : SaysZ chk3 [] K := cd.z
  obtain ⟨fd_0, F_0⟩ := c1.def_ 0 rfl
  obtain ⟨fd_1, F_1⟩ := c1.def_ 1 rfl
  obtain ⟨fd_2, F_2⟩ := c1.def_ 2 rfl
  obtain ⟨fd_3, F_3⟩ := c1.def_ 3 rfl
  obtain ⟨fd_4, F_4⟩ := c1.def_ 4 rfl
  obtain ⟨fd_5, F_5⟩ := c1.def_ 5 rfl
  obtain ⟨fd_6, F_6⟩ := c1.def_ 6 rfl
  obtain ⟨fd_7, F_7⟩ := c1.def_ 7 rfl
  obtain ⟨fd_8, F_8⟩ := c1.def_ 8 rfl
  obtain ⟨fd_9, F_9⟩ := c1.def_ 9 rfl
  obtain ⟨fd_10, F_10⟩ := c1.def_ 10 rfl
  obtain ⟨fd_11, F_11⟩ := c1.def_ 11 rfl
  obtain ⟨fd_12, F_12⟩ := c1.def_ 12 rfl
  obtain ⟨xd_InvalidRow, xF_InvalidRow⟩ := c1.def_ 13 rfl
  have XC_InvalidRow := cXc_ok X G (c3.fact 6 rfl)
  have C_0 := cCls_ok X G (c2.fact 2 rfl)
  have isT : IsT K (GG K) allC := isT_pre (isT_of (fns := fns) (xs := CLo) (nms := NMn) (by decide +kernel) (fun x hx => by
    have hx : x ∈ CLo := hx
    rcases List.mem_cons.1 hx with e | hx
    · subst e; exact C_0.2.1
    exact absurd hx (by simp)) (c2.fact 7 rfl))
  have na_tests : NoAt K (GG K) 5 [0] := fun i hi => by
    rcases List.mem_cons.1 hi with e | hi
    · subst e; exact ⟨C_0.2.1, C_0.2.2 "tests" (by simp)⟩
    exact absurd hi (by simp)
  have na_deed : NoAt K (GG K) 3 [0] := fun i hi => by
    rcases List.mem_cons.1 hi with e | hi
    · subst e; exact ⟨C_0.2.1, C_0.2.2 "deed" (by simp)⟩
    exact absurd hi (by simp)
  have na_text : NoAt K (GG K) 6 [0] := fun i hi => by
    rcases List.mem_cons.1 hi with e | hi
    · subst e; exact ⟨C_0.2.1, C_0.2.2 "text" (by simp)⟩
    exact absurd hi (by simp)
  have eqc := c3.fact 0 (f := cEq ["Row"]) rfl
  have eq_11 : PySem.W.findIn K (.ref ((GG K).cl 0)) "__eq__" = some (some (.ref ((GG K).fn 11))) ∧ PySem.W.isFn K (.ref ((GG K).fn 11)) = true ∧ ∀ d, (ET.lookup d).isSome = true → PySem.W.notFirst K ((GG K).cl 0) (.ref ((GG K).cl d)) = true := by
    have q := List.all_eq_true.mp eqc "Row" (by simp)
    obtain ⟨q, q3⟩ := He.ba q
    obtain ⟨q1, q2⟩ := He.ba q
    refine ⟨of_decide_eq_true q1, q2, fun d hd => ?_⟩
    have hd := lk_mem (l := [0]) (by decide) d hd
    rcases List.mem_cons.1 hd with e | hd
    · subst e; exact List.all_eq_true.mp q3 "Row" (by simp)
    exact absurd hd (by simp)
  have xf_part : XfOk K (GG K) 4 [2] := fun i hi => by
    rcases List.mem_cons.1 hi with e | hi
    · subst e; exact ⟨XC_InvalidRow.2.xf, XC_InvalidRow.2.no "part" (by simp)⟩
    exact absurd hi (by simp)
  exact ⟨⟨nj_of (by decide +kernel) (by decide +kernel),
    isT,
    fd_0,
    F_0,
    He.glo_ok X G (List.all_eq_true.mp (c2.fact 0 (f := fun K => [("is_sequence" : Str), ("is_word" : Str), ("is_test" : Str), ("text_of" : Str), ("_law_box" : Str), ("_law_take" : Str), ("_law_pick" : Str), ("_law_tests" : Str), ("_law_text" : Str), ("law" : Str)].all fun x => cGlo x K) rfl) "is_sequence" (by simp)),
    fd_1,
    F_1,
    He.glo_ok X G (List.all_eq_true.mp (c2.fact 0 (f := fun K => [("is_sequence" : Str), ("is_word" : Str), ("is_test" : Str), ("text_of" : Str), ("_law_box" : Str), ("_law_take" : Str), ("_law_pick" : Str), ("_law_tests" : Str), ("_law_text" : Str), ("law" : Str)].all fun x => cGlo x K) rfl) "is_word" (by simp)),
    fd_2,
    F_2,
    He.glo_ok X G (List.all_eq_true.mp (c2.fact 0 (f := fun K => [("is_sequence" : Str), ("is_word" : Str), ("is_test" : Str), ("text_of" : Str), ("_law_box" : Str), ("_law_take" : Str), ("_law_pick" : Str), ("_law_tests" : Str), ("_law_text" : Str), ("law" : Str)].all fun x => cGlo x K) rfl) "is_test" (by simp)),
    fd_3,
    F_3,
    He.glo_ok X G (List.all_eq_true.mp (c2.fact 0 (f := fun K => [("is_sequence" : Str), ("is_word" : Str), ("is_test" : Str), ("text_of" : Str), ("_law_box" : Str), ("_law_take" : Str), ("_law_pick" : Str), ("_law_tests" : Str), ("_law_text" : Str), ("law" : Str)].all fun x => cGlo x K) rfl) "text_of" (by simp)),
    fd_4,
    F_4,
    He.glo_ok X G (List.all_eq_true.mp (c2.fact 0 (f := fun K => [("is_sequence" : Str), ("is_word" : Str), ("is_test" : Str), ("text_of" : Str), ("_law_box" : Str), ("_law_take" : Str), ("_law_pick" : Str), ("_law_tests" : Str), ("_law_text" : Str), ("law" : Str)].all fun x => cGlo x K) rfl) "_law_box" (by simp)),
    fd_5,
    F_5,
    He.glo_ok X G (List.all_eq_true.mp (c2.fact 0 (f := fun K => [("is_sequence" : Str), ("is_word" : Str), ("is_test" : Str), ("text_of" : Str), ("_law_box" : Str), ("_law_take" : Str), ("_law_pick" : Str), ("_law_tests" : Str), ("_law_text" : Str), ("law" : Str)].all fun x => cGlo x K) rfl) "_law_take" (by simp)),
    fd_6,
    F_6,
    He.glo_ok X G (List.all_eq_true.mp (c2.fact 0 (f := fun K => [("is_sequence" : Str), ("is_word" : Str), ("is_test" : Str), ("text_of" : Str), ("_law_box" : Str), ("_law_take" : Str), ("_law_pick" : Str), ("_law_tests" : Str), ("_law_text" : Str), ("law" : Str)].all fun x => cGlo x K) rfl) "_law_pick" (by simp)),
    fd_7,
    F_7,
    He.glo_ok X G (List.all_eq_true.mp (c2.fact 0 (f := fun K => [("is_sequence" : Str), ("is_word" : Str), ("is_test" : Str), ("text_of" : Str), ("_law_box" : Str), ("_law_take" : Str), ("_law_pick" : Str), ("_law_tests" : Str), ("_law_text" : Str), ("law" : Str)].all fun x => cGlo x K) rfl) "_law_tests" (by simp)),
    fd_8,
    F_8,
    He.glo_ok X G (List.all_eq_true.mp (c2.fact 0 (f := fun K => [("is_sequence" : Str), ("is_word" : Str), ("is_test" : Str), ("text_of" : Str), ("_law_box" : Str), ("_law_take" : Str), ("_law_pick" : Str), ("_law_tests" : Str), ("_law_text" : Str), ("law" : Str)].all fun x => cGlo x K) rfl) "_law_text" (by simp)),
    fd_9,
    F_9,
    He.glo_ok X G (List.all_eq_true.mp (c2.fact 0 (f := fun K => [("is_sequence" : Str), ("is_word" : Str), ("is_test" : Str), ("text_of" : Str), ("_law_box" : Str), ("_law_take" : Str), ("_law_pick" : Str), ("_law_tests" : Str), ("_law_text" : Str), ("law" : Str)].all fun x => cGlo x K) rfl) "law" (by simp)),
    fd_10,
    F_10,
    fd_11,
    F_11,
    fd_12,
    F_12,
    cFrees_ok X G (c2.fact 1 rfl) (by simp),
    cFrees_ok X G (c2.fact 1 rfl) (by simp),
    cFrees_ok X G (c2.fact 1 rfl) (by simp),
    cFrees_ok X G (c2.fact 1 rfl) (by simp),
    cFrees_ok X G (c2.fact 1 rfl) (by simp),
    cFrees_ok X G (c2.fact 1 rfl) (by simp),
    cFrees_ok X G (c2.fact 1 rfl) (by simp),
    cFrees_ok X G (c2.fact 1 rfl) (by simp),
    cFrees_ok X G (c2.fact 1 rfl) (by simp),
    cFrees_ok X G (c2.fact 1 rfl) (by simp),
    cFrees_ok X G (c2.fact 1 rfl) (by simp),
    cFrees_ok X G (c2.fact 1 rfl) (by simp),
    C_0.1,
    C_0.2.1,
    He.mkr_ok (c2.fact 3 (f := cMkr "Row") rfl),
    na_tests,
    na_deed,
    na_text,
    He.meth_ok (c2.fact 4 (f := cMeth "Row" "__eq__") rfl),
    He.meth_ok (c2.fact 5 (f := cMeth "Row" "__init__") rfl),
    He.meth_ok (c2.fact 6 (f := cMeth "Row" "__str__") rfl),
    eq_11,
    cNe_ok (c3.fact 1 (f := cNe ["Row"]) rfl) (x := "Row") (by simp),
    cStrO_ok (c3.fact 2 (f := cStrO ["Row"]) rfl) (x := "Row") (by simp),
    cTup_ok X G (c3.fact 3 rfl),
    cTup_ok X G (c3.fact 4 rfl),
    He.str_ok X G (c3.fact 5 (f := cStr "NOT" "not ") rfl),
    XC_InvalidRow.1,
    XC_InvalidRow.2,
    xd_InvalidRow,
    xF_InvalidRow,
    cSl_ok X G (c3.fact 7 rfl),
    xf_part,
    fun H => cTupA_ok (c3.fact 8 rfl) H⟩, trivial⟩
def names0 : List PySem.Str := ["SlotError", "InvalidRow", "TESTS", "DEEDS", "NOT", "is_sequence", "is_word", "is_test", "Row", "text_of", "_law_box", "_law_take", "_law_pick", "_law_tests", "_law_text"]
def names : List PySem.Str := names0
abbrev R : PySem.W.OpenRow := PySem.W.OpenLaw.row PySem.Challenge.rw_keptslot_k02_rows_made
abbrev hk : PySem.W.Hook := hook3 5 prt1 prt2 prt3
abbrev ob (s : PySem.W.SharedT) : AlY × AlY × AlY := ob3 5 prt1 prt2 prt3 s
theorem ob_eq (s : PySem.W.SharedT) : ob s = hk.obs s.abs := ob3_eq s
theorem run0 (w : World) : Run0 R (PySem.W.view R.prog [19]) 20000 names w := by
  intro os
  kernel_rfl
theorem run1_0 (w : World) : RunP R 5 20000 w prt1 := by
  intro os
  kernel_rfl
theorem runp1 (w : World) : RunP R 5 20000 w prt1 := (run1_0 w)
theorem run2_0 (w : World) : RunP R 5 20000 w prt2 := by
  intro os
  kernel_rfl
theorem runp2 (w : World) : RunP R 5 20000 w prt2 := (run2_0 w)
theorem run3_0 (w : World) : RunP R 5 20000 w prt3 := by
  intro os
  kernel_rfl
theorem runp3 (w : World) : RunP R 5 20000 w prt3 := (run3_0 w)
theorem run (w : World) : HandSHeadRun.RunEq R (PySem.W.view R.prog [19]) hk ob 20000 names w := (run_of (run0 w) (runp1 w) (runp2 w) (runp3 w))
end Lk02
theorem Lk02.endZ (N : Nat) (hN : L2.Room N PySem.callerA) (hl : Z.LawOk 63 (Lk02.fnT N 9)) : PySem.Challenge.rw_keptslot_k02_rows_made.Holds := by
  open PySem PySem.W PySem.Calls PyProof.Rows in
  w_on; o_law
  refine HandSHeadRun.head_any (r := PySem.W.OpenLaw.row PySem.Challenge.rw_keptslot_k02_rows_made) (q := PySem.W.view (PySem.W.OpenLaw.row PySem.Challenge.rw_keptslot_k02_rows_made).prog [19]) (H := Lk02.hk) (ob := Lk02.ob) (M := 20000) (loose := Lk02.names) (d := HandSHeadRun.topDef (PySem.W.OpenLaw.row PySem.Challenge.rw_keptslot_k02_rows_made).prog 19) (kwd := []) Lk02.ob_eq
    (by kernel_rfl) (fun s => by kernel_rfl) Lk02.run (by kernel_rfl) (by kernel_rfl) (by kernel_rfl) (by rfl) (by first | assumption | decide +kernel) (by decide +kernel) ⟨rfl, rfl, rfl, rfl, rfl, by decide +kernel⟩ ?hw ?hc
  case hw => w_witness2
  case hc =>
    refine Z.walk_ofZ (l := PySem.Challenge.rw_keptslot_k02_rows_made) (n := 63) (k := N) (x := "_law_script") rfl (by decide) (by kernel_rfl) ⟨hN, rfl⟩ hl ?F
    intro w mg fa h Y G hmg0
    obtain ⟨K, KX, ca, cb, cd⟩ := Y
    have hmg : mg ("law" : PySem.Str) = some (.ref fa) := by
      have e : (HandSHeadRun.topDef (PySem.W.OpenLaw.row PySem.Challenge.rw_keptslot_k02_rows_made).prog 19).name = ("law" : PySem.Str) := by kernel_rfl
      rw [← e]
      exact hmg0
    obtain ⟨T, _⟩ := Lk02.top_of KX G ca cb cd
    have e := hmg.symm.trans T.f_9
    cases e
    have b := L2.FunD.bindsA (ps := ["_law_script"]) T.F_9 fun _ _ _ _ _ _ us hl => match us, hl with | [_], _ => rfl
    exact ⟨K, T.fd_9, Lk02.GG K, KX, fun s v => b s [v] rfl, fun base _ _ => (Lk02.lv_up T N N (Nat.le_refl _)).o_9⟩

theorem PySem.Challenge.cw_keptslot_k02_rows_made_holds : PySem.Challenge.rw_keptslot_k02_rows_made.Holds :=
  Lk02.endZ 60 ⟨rfl, by decide, by decide⟩ Lk02.law_ok
