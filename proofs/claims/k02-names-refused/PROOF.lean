import PyProof.Rows.All
import Wide.All
import OpenK.AllK
import Wide.FinOn
import HandS.ForMost
import HandS.ForExc
import HandS.Defaults
import HandS.Walk
import HandS.TupAny
import HandS.HeadHook1
import HandS.Wide
import HandS.Deep
import HandS.Style
import HandS.Flow
import HandS.IsInst
import HandS.FStr
import HandS.CallSlots
import HandS.WordsExc
import HandS.Property
import KE.LtData
import HandS.More
import HandS.HeadHook2
import HandS.Head0
import HandS.Head1
import HandS.Head2
import HandS.HeadEnd
import HandS.ExcInit
import HandS.ExcField
import HandS.TryMany
import KE.KExcIs
import KE.GoesEnum
import KE.GoesMore
import HandS.Iter
import OpenK.KMeth
import PyProof.StrBlock2
import PyProof.Rows.StrMul
import PyProof.FitsReplace
import KE.KStateDown
import Lean
import PySem.Challenge.RW_tryback_k02_names_refused
namespace Hy
open PySem
/-- the classes, by numbers -/
def cname : Nat → Str
  | 0 => "Log"
  | 1 => "Puzzle"
  | 2 => "Spelled"
  | 3 => "Function"
  | 4 => "Code"
  | 5 => "Checker"
  | 6 => "Reader"
  | 7 => "Answer"
  | 8 => "Visit"
  | 9 => "Run"
  | 10 => "Frame"
  | 11 => "Given"
  | 12 => "Walker"
  | 13 => "Seen"
  | 14 => "Matcher"
  | 15 => "Answers"
  | 16 => "Desk"
  | 17 => "Node"
  | 18 => "Layout"
  | 19 => "Context"
  | 20 => "Table"
  | 21 => "Maps"
  | 22 => "Search"
  | 23 => "Break"
  | 24 => "Spoiled"
  | 25 => "Unlike"
  | 26 => "Pair"
  | 27 => "Spot"
  | 28 => "Ways"
  | 29 => "Heights"
  | 30 => "RowWays"
  | 31 => "CellWays"
  | 32 => "Flow"
  | 33 => "Mending"
  | 34 => "TryError"
  | 35 => "BadCode"
  | 36 => "TooGreat"
  | 37 => "NoSuch"
  | 38 => "BadText"
  | 39 => "BadPuzzle"
  | 40 => "Ended"
  | 41 => "Waiting"
  | 42 => "NothingToUndo"
  | 43 => "NoContext"
  | 44 => "NoWay"
  | 45 => "NoCell"
  | 46 => "Unclean"
  | 47 => "OtherShape"
  | 48 => "NoSpot"
  | 49 => "TooMany"
  | 50 => "NoEntry"
  | 51 => "NoRow"
  | _ => "?"
/-- the attributes, in the order in which __init__ stores them -/
def flds : Nat → List Str
  | 3 => ["name", "body", "many"]
  | 4 => ["cells", "rows", "functions", "start"]
  | 5 => ["code", "function", "number"]
  | 34 => []
  | 35 => ["function", "number"]
  | 36 => []
  | 1 => ["bits", "children", "size", "depth", "spelling"]
  | 2 => ["text", "at"]
  | _ => []
def ix_body : Nat → Option Nat
  | 3 => some 1
  | _ => none
def ix_cells : Nat → Option Nat
  | 4 => some 0
  | _ => none
def ix_code : Nat → Option Nat
  | 5 => some 0
  | _ => none
def ix_function : Nat → Option Nat
  | 5 => some 1
  | _ => none
def ix_functions : Nat → Option Nat
  | 4 => some 2
  | _ => none
def ix_many : Nat → Option Nat
  | 3 => some 2
  | _ => none
def ix_name : Nat → Option Nat
  | 3 => some 0
  | _ => none
def ix_number : Nat → Option Nat
  | 5 => some 2
  | _ => none
def ix_rows : Nat → Option Nat
  | 4 => some 1
  | _ => none
def ix_start : Nat → Option Nat
  | 4 => some 3
  | _ => none
def ix_bits : Nat → Option Nat
  | 1 => some 0
  | _ => none
def ix_children : Nat → Option Nat
  | 1 => some 1
  | _ => none
def ix_size : Nat → Option Nat
  | 1 => some 2
  | _ => none
def ix_depth : Nat → Option Nat
  | 1 => some 3
  | _ => none
def ix_spelling : Nat → Option Nat
  | 1 => some 4
  | _ => none
def ix_text : Nat → Option Nat
  | 2 => some 0
  | _ => none
def ix_at : Nat → Option Nat
  | 2 => some 1
  | _ => none
end Hy

set_option Elab.async false
set_option linter.all false
set_option maxRecDepth 100000
set_option maxHeartbeats 4000000
set_option autoImplicit false
/-! Hy, the core: data D over the hand layer's heap, readings over D. -/
namespace Hy
abbrev St := L2.St
open PySem PySem.Spec PyProof.Rows L2

/-- data: what never changes is a tree; what may change is an address -/
inductive D where
  | non | bl (b : Bool) | int (i : Int) | str (x : Str) | ref (a : Addr) | ty (n : String)
  | tup (xs : List D) | lst (xs : List D) | rls (xs : List D) | obj (c : Nat) (xs : List D)
  | exc (c : Nat) (xs : List D)

/-- what stands at an address that may change -/
inductive M where
  | lst (xs : List D)
  | dct (kvs : List (Key × D))
  | ins (c : Nat) (xs : List D)
abbrev Sto := Addr → Option M
def up (S : Sto) (a : Addr) (m : M) : Sto := fun b => if b = a then some m else S b
def dl (S : Sto) (a : Addr) : Sto := fun b => if b = a then none else S b
theorem up_same {S : Sto} {a : Addr} {m : M} : up S a m a = some m := if_pos rfl
theorem up_ne {S : Sto} {a b : Addr} {m : M} (h : b ≠ a) : up S a m b = S b := if_neg h
theorem dl_same {S : Sto} {a : Addr} : dl S a a = none := if_pos rfl
theorem dl_ne {S : Sto} {a b : Addr} (h : b ≠ a) : dl S a b = S b := if_neg h
theorem up_up {S : Sto} {a : Addr} {m n : M} : up (up S a m) a n = up S a n := by
  funext b; unfold up; split <;> rfl
theorem dl_up {S : Sto} {a : Addr} {m : M} (h : S a = none) : dl (up S a m) a = S := by
  funext b
  by_cases e : b = a
  · subst e; rw [dl_same, h]
  · rw [dl_ne e, up_ne e]
theorem sne {S : Sto} {a b : Addr} {m : M} (h : S a = some m) (h' : S b = none) : a ≠ b := by
  intro e; subst e; rw [h] at h'; cases h'

/-- at F all that holds the data stands -/
abbrev Le (F F' : Hp) : Prop := ∀ a o, F a = some o → F' a = some o
theorem Le.rfl' {F : Hp} : Le F F := fun _ _ h => h
theorem Le.trans {F G J : Hp} (h : Le F G) (k : Le G J) : Le F J := fun a o e => k a o (h a o e)
theorem Le.upd {F : Hp} {p : Addr} {o : HO} (h : F p = none) : Le F (upd F p o) := fun a u e => by rw [upd_ne (ne_of_none e h)]; exact e
theorem SqT.le {K : PySem.W.Frag} {F F' : Hp} {a : Addr} {xs : List V} (e : Le F F') (h : SqT K F a xs) : SqT K F' a xs := by
  rcases h with (h | ⟨o, h⟩) | h
  · exact .inl (.inl (e _ _ h))
  · exact .inl (.inr ⟨o, e _ _ h⟩)
  · exact .inr h
theorem SqL.le {K : PySem.W.Frag} {F F' : Hp} {a : Addr} {xs : List V} (e : Le F F') (h : SqL K F a xs) : SqL K F' a xs := by
  rcases h with (h | ⟨o, h⟩) | h
  · exact .inl (.inl (e _ _ h))
  · exact .inl (.inr ⟨o, e _ _ h⟩)
  · exact .inr h

/-- the class's address -/
abbrev cad (K : PySem.W.Frag) (c : Nat) : Addr := He.ga K (cname c)
mutual
def Rep (K : PySem.W.Frag) (F : Hp) : D → V → Prop
  | .non, v => v = .non
  | .bl b, v => v = .bl b
  | .int i, v => v = .int i
  | .str x, v => v = .str x
  | .ref a, v => v = .ref a
  | .ty n, v => v = .ty n
  | .tup ds, v => ∃ a vs, v = .ref a ∧ SqT K F a vs ∧ Reps K F ds vs ∧ ds.length ≤ sizeLine
  | .lst ds, v => ∃ a vs, v = .ref a ∧ F a = some (.lst vs) ∧ Reps K F ds vs ∧ ds.length ≤ sizeLine
  | .rls ds, v => ∃ a vs, v = .ref a ∧ SqL K F a vs ∧ Reps K F ds vs ∧ ds.length ≤ sizeLine
  | .obj c ds, v => ∃ a dx vs, v = .ref a ∧ F a = some (.ins (cad K c) dx ((flds c).zip vs)) ∧ Reps K F ds vs
  | .exc _ _, _ => False
def Reps (K : PySem.W.Frag) (F : Hp) : List D → List V → Prop
  | [], vs => vs = []
  | d :: ds, vs => ∃ v ws, vs = v :: ws ∧ Rep K F d v ∧ Reps K F ds ws
end

/-- an exception: its class, its own dict -/
def RepX (K : PySem.W.Frag) (F : Hp) (x : D) (cls : Value) (dd : Option Addr) : Prop := match x with
  | .exc c ds => cls = .ref (cad K c) ∧ ((ds = [] ∧ dd = none) ∨ ∃ q fs, dd = some q ∧ F q = some (.xd fs) ∧ ∀ (i : Nat) (f : Str) (d : D), (flds c)[i]? = some f → ds[i]? = some d → ∃ v, fs.lookup f = some v ∧ Rep K F d v)
  | _ => False

section
variable {K : PySem.W.Frag} {F F' : Hp}
mutual
theorem Rep.le (h : Le F F') : ∀ {d : D} {v : V}, Rep K F d v → Rep K F' d v
  | .non, _, r => r
  | .bl _, _, r => r
  | .int _, _, r => r
  | .str _, _, r => r
  | .ref _, _, r => r
  | .ty _, _, r => r
  | .tup _, _, ⟨a, vs, e, q, r, z⟩ => ⟨a, vs, e, SqT.le h q, Reps.le h r, z⟩
  | .lst _, _, ⟨a, vs, e, q, r, z⟩ => ⟨a, vs, e, h _ _ q, Reps.le h r, z⟩
  | .rls _, _, ⟨a, vs, e, q, r, z⟩ => ⟨a, vs, e, SqL.le h q, Reps.le h r, z⟩
  | .obj _ _, _, ⟨a, dx, vs, e, q, r⟩ => ⟨a, dx, vs, e, h _ _ q, Reps.le h r⟩
  | .exc _ _, _, r => r.elim
theorem Reps.le (h : Le F F') : ∀ {ds : List D} {vs : List V}, Reps K F ds vs → Reps K F' ds vs
  | [], _, r => r
  | _ :: _, _, ⟨v, ws, e, r, q⟩ => ⟨v, ws, e, Rep.le h r, Reps.le h q⟩
end
theorem RepX.le (h : Le F F') {x : D} {cls : Value} {dd : Option Addr} (r : RepX K F x cls dd) : RepX K F' x cls dd := by
  cases x <;> first | exact r.elim | skip
  obtain ⟨e, r⟩ := r
  refine ⟨e, ?_⟩
  rcases r with r | ⟨q, vs, e1, e2, e3⟩
  · exact .inl r
  · exact .inr ⟨q, vs, e1, h _ _ e2, fun i f d h1 h2 => let ⟨v, h3, h4⟩ := e3 i f d h1 h2; ⟨v, h3, h4.le h⟩⟩
theorem Reps.len : ∀ {ds : List D} {vs : List V}, Reps K F ds vs → vs.length = ds.length
  | [], _, r => by cases r; rfl
  | _ :: _, _, ⟨v, ws, e, r, q⟩ => by cases e; simp [Reps.len q]
theorem Reps.at : ∀ {ds : List D} {vs : List V} {i : Nat} {d : D}, Reps K F ds vs → ds[i]? = some d → ∃ v, vs[i]? = some v ∧ Rep K F d v
  | [], _, _, _, _, e => by simp at e
  | _ :: _, _, 0, _, ⟨v, ws, e1, r, q⟩, e => by cases e1; simp at e; subst e; exact ⟨v, by simp, r⟩
  | _ :: _, _, i + 1, _, ⟨v, ws, e1, r, q⟩, e => by
    cases e1
    obtain ⟨v', h1, h2⟩ := Reps.at (i := i) q (by simpa using e)
    exact ⟨v', by simpa using h1, h2⟩
theorem Reps.at' : ∀ {ds : List D} {vs : List V} {i : Nat} {v : V}, Reps K F ds vs → vs[i]? = some v → ∃ d, ds[i]? = some d ∧ Rep K F d v
  | [], _, _, _, r, e => by cases r; simp at e
  | _ :: _, _, 0, _, ⟨v, ws, e1, r, q⟩, e => by cases e1; simp at e; subst e; exact ⟨_, by simp, r⟩
  | _ :: _, _, i + 1, _, ⟨v, ws, e1, r, q⟩, e => by
    cases e1
    obtain ⟨v', h1, h2⟩ := Reps.at' (i := i) q (by simpa using e)
    exact ⟨v', by simpa using h1, h2⟩
theorem Reps.append : ∀ {ds es : List D} {vs ws : List V}, Reps K F ds vs → Reps K F es ws → Reps K F (ds ++ es) (vs ++ ws)
  | [], _, _, _, r, q => by cases r; exact q
  | _ :: _, _, _, _, ⟨v, us, e1, r, q⟩, q' => by cases e1; exact ⟨v, us ++ _, rfl, r, Reps.append q q'⟩
theorem Reps.take : ∀ {ds : List D} {vs : List V} (n : Nat), Reps K F ds vs → Reps K F (ds.take n) (vs.take n)
  | _, _, 0, r => by simp [Reps]
  | [], _, _ + 1, r => by cases r; simp [Reps]
  | _ :: _, _, n + 1, ⟨v, us, e1, r, q⟩ => by cases e1; exact ⟨v, us.take n, rfl, r, Reps.take n q⟩
theorem Reps.drop : ∀ {ds : List D} {vs : List V} (n : Nat), Reps K F ds vs → Reps K F (ds.drop n) (vs.drop n)
  | _, _, 0, r => r
  | [], _, _ + 1, r => by cases r; simp [Reps]
  | _ :: _, _, n + 1, ⟨v, us, e1, r, q⟩ => by cases e1; exact Reps.drop n q
theorem Reps.set : ∀ {ds : List D} {vs : List V} {d : D} {v : V} (n : Nat), Rep K F d v → Reps K F ds vs → Reps K F (ds.set n d) (vs.set n v)
  | [], _, _, _, _, _, r => by cases r; simp [Reps]
  | _ :: _, _, _, _, 0, h, ⟨v, us, e1, r, q⟩ => by cases e1; exact ⟨_, us, rfl, h, q⟩
  | _ :: _, _, _, _, n + 1, h, ⟨v, us, e1, r, q⟩ => by cases e1; exact ⟨v, us.set n _, rfl, r, Reps.set n h q⟩
theorem Reps.reverse : ∀ {ds : List D} {vs : List V}, Reps K F ds vs → Reps K F ds.reverse vs.reverse
  | [], _, r => by cases r; simp [Reps]
  | d :: ds, _, ⟨v, us, e1, r, q⟩ => by
    cases e1
    rw [List.reverse_cons, List.reverse_cons]
    exact Reps.append (Reps.reverse q) ⟨v, [], rfl, r, rfl⟩
theorem Reps.one {d : D} {v : V} (r : Rep K F d v) : Reps K F [d] [v] := ⟨v, [], rfl, r, rfl⟩
theorem Reps.nil_inv {vs : List V} (r : Reps K F [] vs) : vs = [] := r
theorem Reps.cons_inv {d : D} {ds : List D} {vs : List V} (r : Reps K F (d :: ds) vs) : ∃ v ws, vs = v :: ws ∧ Rep K F d v ∧ Reps K F ds ws := r
theorem Reps.isNil {ds : List D} {vs : List V} (r : Reps K F ds vs) : vs = [] ↔ ds = [] := by
  have := r.len
  constructor
  · intro e; subst e; exact List.eq_nil_of_length_eq_zero (by simpa using this.symm)
  · intro e; subst e; exact r
end

def RepM (K : PySem.W.Frag) (F : Hp) : M → HO → Prop
  | .lst ds, o => ∃ vs, o = .lst vs ∧ Reps K F ds vs ∧ ds.length ≤ sizeLine
  | .dct kvs, o => ∃ vs, o = .dK ((kvs.map (·.1)).zip vs) ∧ Reps K F (kvs.map (·.2)) vs
  | .ins c ds, o => ∃ dx vs, o = .ins (cad K c) dx ((flds c).zip vs) ∧ Reps K F ds vs
theorem RepM.le {K : PySem.W.Frag} {F F' : Hp} (h : Le F F') {m : M} {o : HO} (r : RepM K F m o) : RepM K F' m o := by
  cases m with
  | lst ds => obtain ⟨vs, e, q, z⟩ := r; exact ⟨vs, e, q.le h, z⟩
  | dct kvs => obtain ⟨vs, e, q⟩ := r; exact ⟨vs, e, q.le h⟩
  | ins C fs => obtain ⟨dx, vs, e, q⟩ := r; exact ⟨dx, vs, e, q.le h⟩

/-- the world: what is frozen and what may change, apart -/
structure Wd (K : PySem.W.Frag) (G F : Hp) (S : Sto) (H : Hp) : Prop where
  gr : ∀ a o, G a = some o → H a = some o ∧ F a = none ∧ S a = none
  fr : Le F H
  st : ∀ a m, S a = some m → ∃ o, H a = some o ∧ RepM K F m o
  dj : ∀ a m, S a = some m → F a = none
theorem Wd.freshF {K : PySem.W.Frag} {G F : Hp} {S : Sto} {H : Hp} (W : Wd K G F S H) {p : Addr} (h : H p = none) : F p = none := by
  cases e : F p with
  | none => rfl
  | some o => rw [W.fr p o e] at h; cases h
theorem Wd.freshS {K : PySem.W.Frag} {G F : Hp} {S : Sto} {H : Hp} (W : Wd K G F S H) {p : Addr} (h : H p = none) : S p = none := by
  cases e : S p with
  | none => rfl
  | some m => obtain ⟨o, q, _⟩ := W.st p m e; rw [q] at h; cases h
/-- a new frozen object -/
theorem Wd.newF {K : PySem.W.Frag} {G F : Hp} {S : Sto} {H : Hp} (W : Wd K G F S H) {p : Addr} (o : HO) (h : H p = none) : Wd K G (upd F p o) S (upd H p o) ∧ Le F (upd F p o) := by
  have hF := W.freshF h
  have hS := W.freshS h
  refine ⟨⟨fun a u e => ?_, fun a u e => ?_, fun a m e => ?_, fun a m e => ?_⟩, Le.upd hF⟩
  · obtain ⟨h1, h2, h3⟩ := W.gr a u e
    have ha : a ≠ p := fun z => by subst z; rw [h] at h1; cases h1
    exact ⟨by rw [upd_ne ha]; exact h1, by rw [upd_ne ha]; exact h2, h3⟩
  · by_cases ha : a = p
    · subst ha; rw [upd_same] at e ⊢; exact e
    · rw [upd_ne ha] at e ⊢; exact W.fr a u e
  · have ha : a ≠ p := fun z => by subst z; rw [hS] at e; cases e
    obtain ⟨u, q, r⟩ := W.st a m e
    exact ⟨u, by rw [upd_ne ha]; exact q, r.le (Le.upd hF)⟩
  · have ha : a ≠ p := fun z => by subst z; rw [hS] at e; cases e
    rw [upd_ne ha]; exact W.dj a m e
/-- a new object that may change -/
theorem Wd.newS {K : PySem.W.Frag} {G F : Hp} {S : Sto} {H : Hp} (W : Wd K G F S H) {p : Addr} {o : HO} {m : M} (h : H p = none) (r : RepM K F m o) : Wd K G F (up S p m) (upd H p o) := by
  have hF := W.freshF h
  refine ⟨fun a u e => ?_, fun a u e => ?_, fun a n e => ?_, fun a n e => ?_⟩
  · obtain ⟨h1, h2, h3⟩ := W.gr a u e
    have ha : a ≠ p := fun z => by subst z; rw [h] at h1; cases h1
    exact ⟨by rw [upd_ne ha]; exact h1, h2, by rw [up_ne ha]; exact h3⟩
  · rw [upd_ne (ne_of_none e hF)]; exact W.fr a u e
  · by_cases ha : a = p
    · subst ha; rw [up_same] at e; cases e; exact ⟨o, upd_same, r⟩
    · rw [up_ne ha] at e; obtain ⟨u, q, r⟩ := W.st a n e; exact ⟨u, by rw [upd_ne ha]; exact q, r⟩
  · by_cases ha : a = p
    · subst ha; exact hF
    · rw [up_ne ha] at e; exact W.dj a n e
/-- an object changed -/
theorem Wd.put {K : PySem.W.Frag} {G F : Hp} {S : Sto} {H : Hp} (W : Wd K G F S H) {p : Addr} {o : HO} {m n : M} (h : S p = some n) (r : RepM K F m o) : Wd K G F (up S p m) (upd H p o) := by
  have hF := W.dj p n h
  refine ⟨fun a u e => ?_, fun a u e => ?_, fun a n e => ?_, fun a n e => ?_⟩
  · obtain ⟨h1, h2, h3⟩ := W.gr a u e
    have ha : a ≠ p := fun z => by subst z; rw [h3] at h; cases h
    exact ⟨by rw [upd_ne ha]; exact h1, h2, by rw [up_ne ha]; exact h3⟩
  · rw [upd_ne (ne_of_none e hF)]; exact W.fr a u e
  · by_cases ha : a = p
    · subst ha; rw [up_same] at e; cases e; exact ⟨o, upd_same, r⟩
    · rw [up_ne ha] at e; obtain ⟨u, q, r⟩ := W.st a n e; exact ⟨u, by rw [upd_ne ha]; exact q, r⟩
  · by_cases ha : a = p
    · subst ha; exact hF
    · rw [up_ne ha] at e; exact W.dj a n e
/-- less is known -/
abbrev SLe (S S' : Sto) : Prop := ∀ a m, S a = some m → S' a = some m
theorem SLe.rfl' {S : Sto} : SLe S S := fun _ _ h => h
theorem SLe.trans {S T U : Sto} (h : SLe S T) (k : SLe T U) : SLe S U := fun a m e => k a m (h a m e)
theorem SLe.up {S T : Sto} {p : Addr} {m : M} (h : SLe S T) (n : S p = none) : SLe S (Hy.up T p m) := fun a u e => by
  rw [up_ne (sne e n)]; exact h a u e
theorem SLe.dl {S : Sto} {p : Addr} : SLe (Hy.dl S p) S := fun a u e => by
  by_cases h : a = p
  · subst h; rw [dl_same] at e; cases e
  · rw [dl_ne h] at e; exact e
theorem Wd.less {K : PySem.W.Frag} {G F : Hp} {S S' : Sto} {H : Hp} (W : Wd K G F S' H) (h : SLe S S') : Wd K G F S H :=
  ⟨fun a o e => let ⟨h1, h2, h3⟩ := W.gr a o e; ⟨h1, h2, by
    cases q : S a with
    | none => rfl
    | some m => rw [h a m q] at h3; cases h3⟩, W.fr, fun a m e => W.st a m (h a m e), fun a m e => W.dj a m (h a m e)⟩

theorem Wd.lessG {K : PySem.W.Frag} {G G' F : Hp} {S : Sto} {H : Hp} (W : Wd K G' F S H) (h : Le G G') : Wd K G F S H := ⟨fun a o e => W.gr a o (h a o e), W.fr, W.st, W.dj⟩
/-- a new object that nobody reads -/
theorem Wd.newG {K : PySem.W.Frag} {G F : Hp} {S : Sto} {H : Hp} (W : Wd K G F S H) {p : Addr} (o : HO) (h : H p = none) : Wd K (upd G p o) F S (upd H p o) := by
  have hF := W.freshF h
  have hS := W.freshS h
  refine ⟨fun a u e => ?_, fun a u e => ?_, fun a m e => ?_, W.dj⟩
  · by_cases ha : a = p
    · subst ha; rw [upd_same] at e; cases e; exact ⟨upd_same, hF, hS⟩
    · rw [upd_ne ha] at e
      obtain ⟨h1, h2, h3⟩ := W.gr a u e
      exact ⟨by rw [upd_ne ha]; exact h1, h2, h3⟩
  · rw [upd_ne (ne_of_none e hF)]; exact W.fr a u e
  · obtain ⟨u, q, r⟩ := W.st a m e
    exact ⟨u, by rw [upd_ne (sne e hS)]; exact q, r⟩
theorem Wd.putG {K : PySem.W.Frag} {G F : Hp} {S : Sto} {H : Hp} {p : Addr} {o : HO} (W : Wd K (upd G p o) F S H) (o' : HO) : Wd K (upd G p o') F S (upd H p o') := by
  obtain ⟨_, hF, hS⟩ := W.gr p o upd_same
  refine ⟨fun a u e => ?_, fun a u e => ?_, fun a m e => ?_, W.dj⟩
  · by_cases ha : a = p
    · subst ha; rw [upd_same] at e; cases e; exact ⟨upd_same, hF, hS⟩
    · rw [upd_ne ha] at e
      obtain ⟨h1, h2, h3⟩ := W.gr a u (by rw [upd_ne ha]; exact e)
      exact ⟨by rw [upd_ne ha]; exact h1, h2, h3⟩
  · rw [upd_ne (ne_of_none e hF)]; exact W.fr a u e
  · obtain ⟨u, q, r⟩ := W.st a m e
    exact ⟨u, by rw [upd_ne (sne e hS)]; exact q, r⟩
theorem Wd.endG {K : PySem.W.Frag} {G F : Hp} {S : Sto} {H : Hp} {p : Addr} {o : HO} (W : Wd K (upd G p o) F S H) (hG : G p = none) : Wd K G (upd F p o) S H ∧ Le F (upd F p o) := by
  obtain ⟨hH, hF, hS⟩ := W.gr p o upd_same
  refine ⟨⟨fun a u e => ?_, fun a u e => ?_, fun a m e => ?_, fun a m e => ?_⟩, Le.upd hF⟩
  · have ha := ne_of_none e hG
    obtain ⟨h1, h2, h3⟩ := W.gr a u (by rw [upd_ne ha]; exact e)
    exact ⟨h1, by rw [upd_ne ha]; exact h2, h3⟩
  · by_cases ha : a = p
    · subst ha; rw [upd_same] at e; cases e; exact hH
    · rw [upd_ne ha] at e; exact W.fr a u e
  · obtain ⟨u, q, r⟩ := W.st a m e
    exact ⟨u, q, r.le (Le.upd hF)⟩
  · rw [upd_ne (sne e hS)]; exact W.dj a m e
/-! ### names -/
abbrev HEnv := List (Option D)
structure RepN (K : PySem.W.Frag) (F : Hp) (env : HEnv) (σ : St) : Prop where
  len : env.length = σ.length
  get : ∀ (i : Nat) (d : D), env[i]? = some (some d) → ∃ v, σ[i]? = some (some v) ∧ Rep K F d v
theorem RepN.le {K : PySem.W.Frag} {F F' : Hp} {env : HEnv} {σ : St} (h : Le F F') (r : RepN K F env σ) : RepN K F' env σ :=
  ⟨r.len, fun i d e => let ⟨v, h1, h2⟩ := r.get i d e; ⟨v, h1, h2.le h⟩⟩
theorem RepN.set {K : PySem.W.Frag} {F : Hp} {env : HEnv} {σ : St} (r : RepN K F env σ) {d : D} {v : V} (h : Rep K F d v) (i : Nat) : RepN K F (env.set i (some d)) (σ.set i (some v)) :=
  ⟨by simp [r.len], fun j e q => by
    by_cases hj : j = i
    · subst hj
      have hl : j < env.length := by
        rcases Nat.lt_or_ge j env.length with z | z
        · exact z
        · rw [List.getElem?_eq_none (by simpa using z)] at q; cases q
      rw [List.getElem?_set_self hl] at q
      cases q
      exact ⟨v, by rw [List.getElem?_set_self (by rw [← r.len]; exact hl)], h⟩
    · rw [List.getElem?_set_ne (Ne.symm hj)] at q ⊢
      exact r.get j e q⟩
theorem RepN.unset {K : PySem.W.Frag} {F : Hp} {env : HEnv} {σ : St} (r : RepN K F env σ) (i : Nat) : RepN K F (env.set i none) (σ.set i none) :=
  ⟨by simp [r.len], fun j e q => by
    by_cases hj : j = i
    · subst hj
      have hl : j < env.length := by
        rcases Nat.lt_or_ge j env.length with z | z
        · exact z
        · rw [List.getElem?_eq_none (by simpa using z)] at q; cases q
      rw [List.getElem?_set_self hl] at q
      cases q
    · rw [List.getElem?_set_ne (Ne.symm hj)] at q ⊢
      exact r.get j e q⟩
def wipeE (env : HEnv) : List Nat → HEnv
  | [] => env
  | i :: r => wipeE (env.set i none) r

/-! ### readings -/
abbrev HK := D → Sto → Prop
abbrev HTE := HEnv → Sto → HK → HK → Prop
abbrev HTT := HEnv → Sto → (Bool → Sto → Prop) → HK → Prop
abbrev HTA := HEnv → Sto → (List D → Sto → Prop) → HK → Prop
structure HEnds where
  nx : HEnv → Sto → Prop
  rt : HK
  bk : HEnv → Sto → Prop := fun _ _ => False
  ct : HEnv → Sto → Prop := fun _ _ => False
  ex : D → HEnv → Sto → Prop
abbrev HTS := HEnds → HEnv → Sto → Prop

def OkQ (K : PySem.W.Frag) (G F : Hp) (Q0 : HK) (Q : VK) : Prop := ∀ d v F' S' H', Le F F' → Wd K G F' S' H' → Rep K F' d v → Q0 d S' → Q v H'
def OkB (K : PySem.W.Frag) (G F : Hp) (Q0 : Bool → Sto → Prop) (Q : Bool → Hp → Prop) : Prop := ∀ b F' S' H', Le F F' → Wd K G F' S' H' → Q0 b S' → Q b H'
def OkA (K : PySem.W.Frag) (G F : Hp) (Q0 : List D → Sto → Prop) (Q : List V → Hp → Prop) : Prop := ∀ ds vs F' S' H', Le F F' → Wd K G F' S' H' → Reps K F' ds vs → Q0 ds S' → Q vs H'
def OkE (K : PySem.W.Frag) (G F : Hp) (E0 : HK) (E : XK) : Prop := ∀ x cls dd F' S' H', Le F F' → Wd K G F' S' H' → RepX K F' x cls dd → E0 x S' → E cls dd H'
def OkN (K : PySem.W.Frag) (G F : Hp) (Q0 : HEnv → Sto → Prop) (Q : St → Hp → Prop) : Prop := ∀ env σ F' S' H', Le F F' → Wd K G F' S' H' → RepN K F' env σ → Q0 env S' → Q σ H'
def OkW (K : PySem.W.Frag) (G F : Hp) (E0 : D → HEnv → Sto → Prop) (W : WX) : Prop := ∀ x cls dd env σ F' S' H', Le F F' → Wd K G F' S' H' → RepN K F' env σ → RepX K F' x cls dd → E0 x env S' → W cls dd σ H'
theorem OkQ.le {K G F F'} {Q0 : HK} {Q : VK} (h : Le F F') (q : OkQ K G F Q0 Q) : OkQ K G F' Q0 Q := fun d v F1 S H l => q d v F1 S H (h.trans l)
theorem OkB.le {K G F F'} {Q0} {Q} (h : Le F F') (q : OkB K G F Q0 Q) : OkB K G F' Q0 Q := fun b F1 S H l => q b F1 S H (h.trans l)
theorem OkA.le {K G F F'} {Q0} {Q} (h : Le F F') (q : OkA K G F Q0 Q) : OkA K G F' Q0 Q := fun d v F1 S H l => q d v F1 S H (h.trans l)
theorem OkE.le {K G F F'} {Q0} {Q} (h : Le F F') (q : OkE K G F Q0 Q) : OkE K G F' Q0 Q := fun x c dd F1 S H l => q x c dd F1 S H (h.trans l)
theorem OkN.le {K G F F'} {Q0} {Q} (h : Le F F') (q : OkN K G F Q0 Q) : OkN K G F' Q0 Q := fun e σ F1 S H l => q e σ F1 S H (h.trans l)
theorem OkW.le {K G F F'} {Q0} {Q} (h : Le F F') (q : OkW K G F Q0 Q) : OkW K G F' Q0 Q := fun x c dd e σ F1 S H l => q x c dd e σ F1 S H (h.trans l)

structure OkS (K : PySem.W.Frag) (G F : Hp) (E : HEnds) (D : Ends) (W : WX) : Prop where
  nx : OkN K G F E.nx D.nx
  rt : OkQ K G F E.rt D.rt
  bk : OkN K G F E.bk D.bk
  ct : OkN K G F E.ct D.ct
  ex : OkW K G F E.ex W
theorem OkS.le {K G F F'} {E : HEnds} {D : Ends} {W : WX} (h : Le F F') (q : OkS K G F E D W) : OkS K G F' E D W := ⟨q.nx.le h, q.rt.le h, q.bk.le h, q.ct.le h, q.ex.le h⟩

def lE (K : PySem.W.Frag) (W : WX) (t : HTE) : TE := fun σ H Q => ∃ G F S env Q0 E0, RepN K F env σ ∧ Wd K G F S H ∧ t env S Q0 E0 ∧ OkQ K G F Q0 Q ∧ OkE K G F E0 (WE W σ)
def lT (K : PySem.W.Frag) (W : WX) (t : HTT) : TT := fun σ H Q => ∃ G F S env Q0 E0, RepN K F env σ ∧ Wd K G F S H ∧ t env S Q0 E0 ∧ OkB K G F Q0 Q ∧ OkE K G F E0 (WE W σ)
def lA (K : PySem.W.Frag) (W : WX) (t : HTA) : TA := fun σ H Q => ∃ G F S env Q0 E0, RepN K F env σ ∧ Wd K G F S H ∧ t env S Q0 E0 ∧ OkA K G F Q0 Q ∧ OkE K G F E0 (WE W σ)
def lS (K : PySem.W.Frag) (W : WX) (t : HTS) : TS := fun D σ H => ∃ G F S env E, RepN K F env σ ∧ Wd K G F S H ∧ t E env S ∧ OkS K G F E D W

/-- where the code stands -/
structure Bs where
  P : Program
  w : World
  K : PySem.W.Frag
  mg : Str → Option Value
  base : Heap
  k : Nat
  N : List Str
  sc : Scope
  top : Bool
  own : Str → Bool
structure OkC (B : Bs) (X : Cx) : Prop where
  eP : X.prog = B.P
  ew : X.w = B.w
  eK : X.K = B.K
  em : X.mg = B.mg
  eb : X.base = B.base
  eN : X.N = B.N
  es : X.env.scope = B.sc
  nd : X.N.Nodup
  calm : X.calm = true
  room : Room B.k X.A
  fn : ∀ x, B.own x = true → X.env.scope.names.lookup x = some .cell → X.fn x = true
  own : PassesOwn (model X.prog X.w) X.A X.env X.xe
  stk : B.top = true → X.stack = X.env :: X.outer ∧ X.env.frame = some X.env.locals ∧ X.ex = []

structure HE (B : Bs) (e : Expr) (t : HTE) : Prop where
  run : ∀ (X : Cx) (W : WX), OkC B X → Takes X W → PE X e (lE B.K W t)
structure HT (B : Bs) (e : Expr) (t : HTT) : Prop where
  run : ∀ (X : Cx) (W : WX), OkC B X → Takes X W → PT X e (lT B.K W t)
structure HW (B : Bs) (e : Expr) (t : HTT) : Prop where
  run : ∀ (X : Cx) (W : WX), OkC B X → Takes X W → PW X e (lT B.K W t)
structure HA (B : Bs) (es : List Expr) (t : HTA) : Prop where
  run : ∀ (X : Cx) (W : WX), OkC B X → Takes X W → PA X es (lA B.K W t)
structure HS (B : Bs) (st : Stmt) (t : HTS) : Prop where
  run : ∀ (X : Cx) (W : WX), OkC B X → Takes X W → PS X st (lS B.K W t)
structure HSs (B : Bs) (st : List Stmt) (t : HTS) : Prop where
  run : ∀ (X : Cx) (W : WX), OkC B X → Takes X W → PSs X st (lS B.K W t)

theorem PE.imp {X : Cx} {e : Expr} {t t' : TE} (h : PE X e t) (i : ∀ σ H Q, t' σ H Q → t σ H Q) : PE X e t' := ⟨fun pins s σ H Q I q => h.run pins s σ H Q I (i σ H Q q)⟩
theorem PT.imp {X : Cx} {e : Expr} {t t' : TT} (h : PT X e t) (i : ∀ σ H Q, t' σ H Q → t σ H Q) : PT X e t' := ⟨fun pins s σ H Q I q => h.run pins s σ H Q I (i σ H Q q)⟩
theorem PW.imp {X : Cx} {e : Expr} {t t' : TT} (h : PW X e t) (i : ∀ σ H Q, t' σ H Q → t σ H Q) : PW X e t' := ⟨fun wh pins s σ H Q I q => h.run wh pins s σ H Q I (i σ H Q q)⟩
theorem PA.imp {X : Cx} {e : List Expr} {t t' : TA} (h : PA X e t) (i : ∀ σ H Q, t' σ H Q → t σ H Q) : PA X e t' := ⟨fun pos pins s σ H Q I q => h.run pos pins s σ H Q I (i σ H Q q)⟩
theorem PS.imp {X : Cx} {e : Stmt} {t t' : TS} (h : PS X e t) (i : ∀ D σ H, t' D σ H → t D σ H) : PS X e t' := ⟨fun pins s σ H D I q => h.run pins s σ H D I (i D σ H q)⟩
theorem PSs.imp {X : Cx} {e : List Stmt} {t t' : TS} (h : PSs X e t) (i : ∀ D σ H, t' D σ H → t D σ H) : PSs X e t' := ⟨fun pins s σ H D I q => h.run pins s σ H D I (i D σ H q)⟩
end Hy

set_option Elab.async false
set_option linter.all false
set_option maxRecDepth 100000
set_option maxHeartbeats 4000000
set_option autoImplicit false
namespace Hy
open PySem PySem.Spec PyProof.Rows L2

section
variable {B : Bs} {e a b c o : Expr} {es rest : List Expr} {pos : Pos} {ta tb tc to : HTE} {t u : HTT} {tr : HTA}
/-! ### names, constants -/
def hV (i : Nat) : HTE := fun env S Q _ => match env[i]? with
  | some (some d) => Q d S
  | _ => False
def hC (d : D) : HTE := fun _ S Q _ => Q d S
theorem hv {B : Bs} (i : Nat) {x : Str} {pos : Pos} (hN : B.N[i]? = some x := by rfl) (hvis : Vis B.sc x := by first | exact Or.inl rfl | exact Or.inr (Or.inl rfl) | exact Or.inr (Or.inr rfl))
    (hd : (x == ("__debug__" : Str)) = false := by decide) (hcd : (x == ("__classdict__" : Str)) = false := by decide) : HE B (.Name x pos) (hV i) :=
  ⟨fun X W ok tk => PE.imp (pe_var (i := i) (by rw [ok.eN]; exact hN) (by rw [ok.es]; exact hvis) hd hcd) fun σ H Q ⟨G, F, S, env, Q0, E0, rn, wd, h, hq, he⟩ => by
    unfold hV at h
    cases e : env[i]? with
    | none => rw [e] at h; exact h.elim
    | some o =>
      cases o with
      | none => rw [e] at h; exact h.elim
      | some d =>
        rw [e] at h
        obtain ⟨v, h1, h2⟩ := rn.get i d e
        exact ⟨v, h1, hq d v F S H Le.rfl' wd h2 h⟩⟩
theorem hconst {d : D} {v : V} (h : ∀ X, PE X e (tC v)) (r : ∀ K F, Rep K F d v) : HE B e (hC d) :=
  ⟨fun X W ok tk => PE.imp (h X) fun σ H Q ⟨G, F, S, env, Q0, E0, rn, wd, h, hq, he⟩ => hq d v F S H Le.rfl' wd (r _ _) h⟩
theorem hint {i : Int} {j : Nat} : HE B (.Constant (.int i) j pos) (hC (.int i)) := hconst (fun _ => pe_int) fun _ _ => rfl
theorem hbl {i : Bool} {j : Nat} : HE B (.Constant (.bool i) j pos) (hC (.bl i)) := hconst (fun _ => pe_bl) fun _ _ => rfl
theorem hnon {j : Nat} : HE B (.Constant .none j pos) (hC .non) := hconst (fun _ => pe_non) fun _ _ => rfl
theorem hstr {x : Str} {j : Nat} : HE B (.Constant (.str x) j pos) (hC (.str x)) := hconst (fun _ => pe_str) fun _ _ => rfl

/-! ### two operands by values -/
abbrev G1 := D → Sto → HK → Prop
abbrev G2 := D → D → Sto → HK → Prop
abbrev GL := List D → Sto → HK → Prop
abbrev GM := D → List D → Sto → HK → Prop
def R1ok (K : PySem.W.Frag) (g : G1) (r : V → Hp → VK → Prop) : Prop := ∀ G F S H d v Q0 Q, Wd K G F S H → Rep K F d v → g d S Q0 → OkQ K G F Q0 Q → r v H Q
def R2ok (K : PySem.W.Frag) (g : G2) (r : R2) : Prop := ∀ G F S H d1 v1 d2 v2 Q0 Q, Wd K G F S H → Rep K F d1 v1 → Rep K F d2 v2 → g d1 d2 S Q0 → OkQ K G F Q0 Q → r v1 v2 H Q
def RLok (K : PySem.W.Frag) (g : GL) (r : List V → Hp → VK → Prop) : Prop := ∀ G F S H ds vs Q0 Q, Wd K G F S H → Reps K F ds vs → g ds S Q0 → OkQ K G F Q0 Q → r vs H Q
def hop (g : G2) (ta tb : HTE) : HTE := fun env S Q E => ta env S (fun x S1 => tb env S1 (fun y S2 => g x y S2 Q) E) E
def hun (g : G1) (ta : HTE) : HTE := fun env S Q E => ta env S (fun x S1 => g x S1 Q) E
theorem lop {K : PySem.W.Frag} {W : WX} {g : G2} {r : R2} (hg : R2ok K g r) (ta tb : HTE) (σ : St) (H : Hp) (Q : VK) (h : lE K W (hop g ta tb) σ H Q) : tOp r (lE K W ta) (lE K W tb) σ H Q := by
  obtain ⟨G, F, S, env, Q0, E0, rn, wd, h, hq, he⟩ := h
  refine ⟨G, F, S, env, fun x S1 => tb env S1 (fun y S2 => g x y S2 Q0) E0, E0, rn, wd, h, fun d v F1 S1 H1 l1 w1 r1 h1 => ?_, he⟩
  refine ⟨G, F1, S1, env, fun y S2 => g d y S2 Q0, E0, rn.le l1, w1, h1, fun d2 v2 F2 S2 H2 l2 w2 r2 h2 => ?_, he.le l1⟩
  exact hg G F2 S2 H2 d v d2 v2 Q0 _ w2 (r1.le l2) r2 h2 (hq.le (l1.trans l2))
theorem lun {K : PySem.W.Frag} {W : WX} {g : G1} {r : V → Hp → VK → Prop} (hg : R1ok K g r) (ta : HTE) (σ : St) (H : Hp) (Q : VK) (h : lE K W (hun g ta) σ H Q) : tUn r (lE K W ta) σ H Q := by
  obtain ⟨G, F, S, env, Q0, E0, rn, wd, h, hq, he⟩ := h
  exact ⟨G, F, S, env, fun x S1 => g x S1 Q0, E0, rn, wd, h, fun d v F1 S1 H1 l1 w1 r1 h1 => hg G F1 S1 H1 d v Q0 _ w1 r1 h1 (hq.le l1), he⟩
theorem hbin {op : Operator} {g : G2} {r : PySem.W.Frag → R2} (ho : ∀ X, OkC B X → OpR X (binaryOp op) (r X.K)) (hg : R2ok B.K g (r B.K)) (ha : HE B a ta) (hb : HE B b tb) : HE B (.BinOp a op b pos) (hop g ta tb) :=
  ⟨fun X W ok tk => PE.imp (pe_op (by have := ho X ok; rw [ok.eK] at this; exact this) (ha.run X W ok tk) (hb.run X W ok tk)) fun σ H Q h => lop hg ta tb σ H Q h⟩
theorem hunr {op : UnaryOp} {g : G1} {r : V → Hp → VK → Prop} (ho : ∀ X, UnR X (unaryOp op) r) (hg : R1ok B.K g r) (ha : HE B a ta) : HE B (.UnaryOp op a pos) (hun g ta) :=
  ⟨fun X W ok tk => PE.imp (pe_un (ho X) (ha.run X W ok tk)) fun σ H Q h => lun hg ta σ H Q h⟩
/-- a comparison, as a value -/
theorem hcmp {op : CmpOp} {g : G2} {r : PySem.W.Frag → R2} (ho : ∀ X, OkC B X → OpR X (compareOp op) (r X.K)) (hg : R2ok B.K g (r B.K)) (ha : HE B a ta) (hb : HE B b tb) (hm : behindInMarks op b = false) : HE B (.Compare a [op] [b] pos) (hop g ta tb) :=
  ⟨fun X W ok tk => PE.imp (pe_cmpR (by have := ho X ok; rw [ok.eK] at this; exact this) (ha.run X W ok tk) (hb.run X W ok tk) hm) fun σ H Q h => lop hg ta tb σ H Q h⟩
/-- as a test -/
def hB (ta : HTE) : HTT := fun env S Q E => ta env S (fun x S1 => match x with
  | .bl b => Q b S1
  | _ => False) E
theorem lB {K : PySem.W.Frag} {W : WX} {t : TE} {ta : HTE} (i : ∀ σ H Q, lE K W ta σ H Q → t σ H Q) (σ : St) (H : Hp) (Q : Bool → Hp → Prop) (h : lT K W (hB ta) σ H Q) : tTest t σ H Q := by
  obtain ⟨G, F, S, env, Q0, E0, rn, wd, h, hq, he⟩ := h
  refine i _ _ _ ⟨G, F, S, env, _, E0, rn, wd, h, fun d v F1 S1 H1 l1 w1 r1 h1 => ?_, he⟩
  cases d <;> first | exact h1.elim | skip
  exact ⟨_, r1, hq _ F1 S1 H1 l1 w1 h1⟩
theorem hcmpT {op : CmpOp} {g : G2} {r : PySem.W.Frag → R2} (ho : ∀ X, OkC B X → OpR X (compareOp op) (r X.K)) (hg : R2ok B.K g (r B.K)) (ha : HE B a ta) (hb : HE B b tb) (hm : behindInMarks op b = false) : HT B (.Compare a [op] [b] pos) (hB (hop g ta tb)) :=
  ⟨fun X W ok tk => PT.imp (pt_cmpR (by have := ho X ok; rw [ok.eK] at this; exact this) (ha.run X W ok tk) (hb.run X W ok tk) hm) fun σ H Q h => lB (fun σ H Q h => lop hg ta tb σ H Q h) σ H Q h⟩
theorem htv (h : HE B a ta) (he : ∀ env whole, isTrue a env whole = (do let v ← whole; standAt a.pos; holding [v] (truthy v)) := by intro _ _; rfl) : HT B a (hB ta) :=
  ⟨fun X W ok tk => PT.imp (pt_val (h.run X W ok tk) (he _)) fun σ H Q h => lB (fun σ H Q h => h) σ H Q h⟩

/-! ### and, or, not, if-else -/
def hAnd (t u : HTT) : HTT := fun env S Q E => t env S (fun c S1 => match c with
  | true => u env S1 Q E
  | false => Q false S1) E
def hOr (t u : HTT) : HTT := fun env S Q E => t env S (fun c S1 => match c with
  | true => Q true S1
  | false => u env S1 Q E) E
def hNot (t : HTT) : HTT := fun env S Q E => t env S (fun c S1 => Q (!c) S1) E
theorem hand1 (ha : HT B a t) : HW B (.BoolOp .And [a] pos) t := ⟨fun X W ok tk => pw_and1 (ha.run X W ok tk)⟩
theorem hor1 (ha : HT B a t) : HW B (.BoolOp .Or [a] pos) t := ⟨fun X W ok tk => pw_or1 (ha.run X W ok tk)⟩
theorem hand (ha : HT B a t) (hb : HW B (.BoolOp .And (b :: rest) pos) u) : HW B (.BoolOp .And (a :: b :: rest) pos) (hAnd t u) :=
  ⟨fun X W ok tk => PW.imp (pw_and (ha.run X W ok tk) (hb.run X W ok tk)) fun σ H Q ⟨G, F, S, env, Q0, E0, rn, wd, h, hq, he⟩ =>
    ⟨G, F, S, env, _, E0, rn, wd, h, fun c F1 S1 H1 l1 w1 h1 => by
      cases c with
      | true => exact ⟨G, F1, S1, env, Q0, E0, rn.le l1, w1, h1, hq.le l1, he.le l1⟩
      | false => exact hq _ F1 S1 H1 l1 w1 h1, he⟩⟩
theorem hor (ha : HT B a t) (hb : HW B (.BoolOp .Or (b :: rest) pos) u) : HW B (.BoolOp .Or (a :: b :: rest) pos) (hOr t u) :=
  ⟨fun X W ok tk => PW.imp (pw_or (ha.run X W ok tk) (hb.run X W ok tk)) fun σ H Q ⟨G, F, S, env, Q0, E0, rn, wd, h, hq, he⟩ =>
    ⟨G, F, S, env, _, E0, rn, wd, h, fun c F1 S1 H1 l1 w1 h1 => by
      cases c with
      | false => exact ⟨G, F1, S1, env, Q0, E0, rn.le l1, w1, h1, hq.le l1, he.le l1⟩
      | true => exact hq _ F1 S1 H1 l1 w1 h1, he⟩⟩
theorem hw (h : HW B a t) : HT B a t := ⟨fun X W ok tk => (h.run X W ok tk).pt⟩
theorem hnot (ha : HT B a t) : HT B (.UnaryOp .Not a pos) (hNot t) :=
  ⟨fun X W ok tk => PT.imp (pt_not (ha.run X W ok tk)) fun σ H Q ⟨G, F, S, env, Q0, E0, rn, wd, h, hq, he⟩ =>
    ⟨G, F, S, env, _, E0, rn, wd, h, fun c F1 S1 H1 l1 w1 h1 => hq _ F1 S1 H1 l1 w1 h1, he⟩⟩
def hIf (t : HTT) (ta tb : HTE) : HTE := fun env S Q E => t env S (fun c S1 => match c with
  | true => ta env S1 Q E
  | false => tb env S1 Q E) E
theorem hife (hc : HT B c t) (ha : HE B a ta) (hb : HE B b tb) : HE B (.IfExp c a b pos) (hIf t ta tb) :=
  ⟨fun X W ok tk => PE.imp (pe_ifExp (hc.run X W ok tk) (ha.run X W ok tk) (hb.run X W ok tk)) fun σ H Q ⟨G, F, S, env, Q0, E0, rn, wd, h, hq, he⟩ =>
    ⟨G, F, S, env, _, E0, rn, wd, h, fun k F1 S1 H1 l1 w1 h1 => by
      cases k with
      | true => exact ⟨G, F1, S1, env, Q0, E0, rn.le l1, w1, h1, hq.le l1, he.le l1⟩
      | false => exact ⟨G, F1, S1, env, Q0, E0, rn.le l1, w1, h1, hq.le l1, he.le l1⟩, he⟩⟩
/-- not, and, or as values of bools -/
def hNotV (ta : HTE) : HTE := fun env S Q E => ta env S (fun x S1 => match x with
  | .bl b => Q (.bl (!b)) S1
  | _ => False) E
theorem hnotv (ha : HE B a ta) : HE B (.UnaryOp .Not a pos) (hNotV ta) :=
  ⟨fun X W ok tk => PE.imp (pe_not (ha.run X W ok tk)) fun σ H Q ⟨G, F, S, env, Q0, E0, rn, wd, h, hq, he⟩ =>
    ⟨G, F, S, env, _, E0, rn, wd, h, fun d v F1 S1 H1 l1 w1 r1 h1 => by
      cases d <;> first | exact h1.elim | skip
      exact ⟨_, r1, hq (.bl _) _ F1 S1 H1 l1 w1 (by show V.bl _ = _; rfl) h1⟩, he⟩⟩
def hAndV (ta tb : HTE) : HTE := fun env S Q E => ta env S (fun x S1 => match x with
  | .bl true => tb env S1 Q E
  | .bl false => Q (.bl false) S1
  | _ => False) E
def hOrV (ta tb : HTE) : HTE := fun env S Q E => ta env S (fun x S1 => match x with
  | .bl false => tb env S1 Q E
  | .bl true => Q (.bl true) S1
  | _ => False) E
theorem hone {op : PySem.BoolOp} (h : HE B a ta) : HE B (.BoolOp op [a] pos) ta := ⟨fun X W ok tk => pe_one (h.run X W ok tk)⟩
theorem handv (ha : HE B a ta) (hb : HE B (.BoolOp .And (b :: rest) pos) tb) : HE B (.BoolOp .And (a :: b :: rest) pos) (hAndV ta tb) :=
  ⟨fun X W ok tk => PE.imp (pe_and (ha.run X W ok tk) (hb.run X W ok tk)) fun σ H Q ⟨G, F, S, env, Q0, E0, rn, wd, h, hq, he⟩ =>
    ⟨G, F, S, env, _, E0, rn, wd, h, fun d v F1 S1 H1 l1 w1 r1 h1 => by
      cases d <;> first | exact h1.elim | skip
      rename_i k
      cases k with
      | true => exact ⟨true, r1, G, F1, S1, env, Q0, E0, rn.le l1, w1, h1, hq.le l1, he.le l1⟩
      | false => exact ⟨false, r1, hq (.bl false) _ F1 S1 H1 l1 w1 (by show V.bl _ = _; rfl) h1⟩, he⟩⟩
theorem horv (ha : HE B a ta) (hb : HE B (.BoolOp .Or (b :: rest) pos) tb) : HE B (.BoolOp .Or (a :: b :: rest) pos) (hOrV ta tb) :=
  ⟨fun X W ok tk => PE.imp (pe_or (ha.run X W ok tk) (hb.run X W ok tk)) fun σ H Q ⟨G, F, S, env, Q0, E0, rn, wd, h, hq, he⟩ =>
    ⟨G, F, S, env, _, E0, rn, wd, h, fun d v F1 S1 H1 l1 w1 r1 h1 => by
      cases d <;> first | exact h1.elim | skip
      rename_i k
      cases k with
      | false => exact ⟨false, r1, G, F1, S1, env, Q0, E0, rn.le l1, w1, h1, hq.le l1, he.le l1⟩
      | true => exact ⟨true, r1, hq (.bl true) _ F1 S1 H1 l1 w1 (by show V.bl _ = _; rfl) h1⟩, he⟩⟩

/-! ### argument lists, displays -/
def hNil : HTA := fun _ S Q _ => Q [] S
def hCons (ta : HTE) (tr : HTA) : HTA := fun env S Q E => ta env S (fun x S1 => tr env S1 (fun xs S2 => Q (x :: xs) S2) E) E
theorem hnil : HA B [] hNil := ⟨fun X W ok tk => PA.imp pa_nil fun σ H Q ⟨G, F, S, env, Q0, E0, rn, wd, h, hq, he⟩ => hq [] [] F S H Le.rfl' wd rfl h⟩
theorem hcons (ha : HE B e ta) (hr : HA B es tr) (hs : ∀ env, starEach (e :: es) env = (false, eval e env) :: starEach es env := by intro _; rfl) : HA B (e :: es) (hCons ta tr) :=
  ⟨fun X W ok tk => PA.imp (pa_cons (ha.run X W ok tk) (hr.run X W ok tk) (hs _)) fun σ H Q ⟨G, F, S, env, Q0, E0, rn, wd, h, hq, he⟩ =>
    ⟨G, F, S, env, _, E0, rn, wd, h, fun d v F1 S1 H1 l1 w1 r1 h1 =>
      ⟨G, F1, S1, env, _, E0, rn.le l1, w1, h1, fun ds vs F2 S2 H2 l2 w2 r2 h2 => hq (d :: ds) (v :: vs) F2 S2 H2 (l1.trans l2) w2 ⟨v, vs, rfl, r1.le l2, r2⟩ h2, he.le l1⟩, he⟩⟩
def hTup (t : HTA) : HTE := fun env S Q E => t env S (fun ds S1 => match Nat.ble ds.length 1000 with
  | true => Q (.tup ds) S1
  | false => False) E
def hLst (t : HTA) : HTE := fun env S Q E => t env S (fun ds S1 => match Nat.ble ds.length 1000 with
  | true => Q (.lst ds) S1
  | false => False) E
/-- a list that may change -/
def hLstM (t : HTA) : HTE := fun env S Q E => t env S (fun ds S1 => match Nat.ble ds.length 1000 with
  | true => ∀ p, S1 p = none → Q (.ref p) (up S1 p (.lst ds))
  | false => False) E
theorem le_line {n : Nat} (h : n ≤ 1000) : n ≤ sizeLine := Nat.le_trans h (by decide)
/-- new data is frozen -/
theorem newTup {K : PySem.W.Frag} {G F : Hp} {S : Sto} {H : Hp} {Q0 : HK} {Q : VK} {ds : List D} {vs : List V} (w : Wd K G F S H) (r : Reps K F ds vs) (z : ds.length ≤ sizeLine) (hq : OkQ K G F Q0 Q) (h : Q0 (.tup ds) S) :
    vs.length ≤ sizeLine ∧ ∀ p, H p = none → Q (.ref p) (upd H p (.tup vs)) :=
  ⟨by rw [r.len]; exact z, fun p hp => by
    obtain ⟨w', l'⟩ := w.newF (.tup vs) hp
    exact hq (.tup ds) _ _ S _ l' w' ⟨p, vs, rfl, SqT.of upd_same, r.le l', z⟩ h⟩
theorem newLst {K : PySem.W.Frag} {G F : Hp} {S : Sto} {H : Hp} {Q0 : HK} {Q : VK} {ds : List D} {vs : List V} (w : Wd K G F S H) (r : Reps K F ds vs) (z : ds.length ≤ sizeLine) (hq : OkQ K G F Q0 Q) (h : Q0 (.lst ds) S) :
    vs.length ≤ sizeLine ∧ ∀ p, H p = none → Q (.ref p) (upd H p (.lst vs)) :=
  ⟨by rw [r.len]; exact z, fun p hp => by
    obtain ⟨w', l'⟩ := w.newF (.lst vs) hp
    exact hq (.lst ds) _ _ S _ l' w' ⟨p, vs, rfl, upd_same, r.le l', z⟩ h⟩
theorem newLstM {K : PySem.W.Frag} {G F : Hp} {S : Sto} {H : Hp} {Q0 : HK} {Q : VK} {ds : List D} {vs : List V} (w : Wd K G F S H) (r : Reps K F ds vs) (z : ds.length ≤ sizeLine) (hq : OkQ K G F Q0 Q) (h : ∀ p, S p = none → Q0 (.ref p) (up S p (.lst ds))) :
    vs.length ≤ sizeLine ∧ ∀ p, H p = none → Q (.ref p) (upd H p (.lst vs)) :=
  ⟨by rw [r.len]; exact z, fun p hp => hq (.ref p) _ F (up S p (.lst ds)) _ Le.rfl' (w.newS (m := .lst ds) hp ⟨vs, rfl, r, z⟩) (by show V.ref _ = _; rfl) (h p (w.freshS hp))⟩
theorem ble_le {n : Nat} {A : Prop} (h : match Nat.ble n 1000 with | true => A | false => False) : n ≤ sizeLine ∧ A := by
  cases e : Nat.ble n 1000 with
  | false => rw [e] at h; exact h.elim
  | true => rw [e] at h; exact ⟨le_line (Nat.le_of_ble_eq_true e), h⟩
theorem htup {k : Nat} (h : HA B es tr) : HE B (.Tuple es k pos) (hTup tr) :=
  ⟨fun X W ok tk => PE.imp (pe_tup (h.run X W ok tk)) fun σ H Q ⟨G, F, S, env, Q0, E0, rn, wd, h, hq, he⟩ =>
    ⟨G, F, S, env, _, E0, rn, wd, h, fun ds vs F1 S1 H1 l1 w1 r1 h1 => newTup w1 r1 (ble_le h1).1 (hq.le l1) (ble_le h1).2, he⟩⟩
theorem hlst (h : HA B es tr) : HE B (.List es pos) (hLst tr) :=
  ⟨fun X W ok tk => PE.imp (pe_lst (h.run X W ok tk)) fun σ H Q ⟨G, F, S, env, Q0, E0, rn, wd, h, hq, he⟩ =>
    ⟨G, F, S, env, _, E0, rn, wd, h, fun ds vs F1 S1 H1 l1 w1 r1 h1 => newLst w1 r1 (ble_le h1).1 (hq.le l1) (ble_le h1).2, he⟩⟩
theorem hlstM (h : HA B es tr) : HE B (.List es pos) (hLstM tr) :=
  ⟨fun X W ok tk => PE.imp (pe_lst (h.run X W ok tk)) fun σ H Q ⟨G, F, S, env, Q0, E0, rn, wd, h, hq, he⟩ =>
    ⟨G, F, S, env, _, E0, rn, wd, h, fun ds vs F1 S1 H1 l1 w1 r1 h1 => newLstM w1 r1 (ble_le h1).1 (hq.le l1) (ble_le h1).2, he⟩⟩
end

/-! ### operators by values -/
/-- a list as it is now -/
def items (S : Sto) : D → Option (List D)
  | .tup ds => some ds
  | .lst ds => some ds
  | .rls ds => some ds
  | .ref p => match S p with
    | some (.lst ds) => some ds
    | _ => none
  | _ => none
def itemsL (S : Sto) : D → Option (List D)
  | .lst ds => some ds
  | .rls ds => some ds
  | .ref p => match S p with
    | some (.lst ds) => some ds
    | _ => none
  | _ => none
theorem itemsL_ok {K : PySem.W.Frag} {G F : Hp} {S : Sto} {H : Hp} {d : D} {v : V} {ds : List D} (w : Wd K G F S H) (r : Rep K F d v) (h : itemsL S d = some ds) : ∃ a vs, v = .ref a ∧ SqL K H a vs ∧ Reps K F ds vs ∧ ds.length ≤ sizeLine := by
  cases d <;> simp only [itemsL] at h <;> first | (cases h; done) | skip
  · rename_i p
    cases e : S p with
    | none => rw [e] at h; cases h
    | some m =>
      rw [e] at h
      cases m <;> first | (cases h; done) | skip
      cases h
      obtain ⟨o, h1, vs, rfl, h2, h3⟩ := w.st p _ e
      exact ⟨p, vs, r, SqL.of h1, h2, h3⟩
  · cases h
    obtain ⟨a, vs, h1, h2, h3, z⟩ := r
    exact ⟨a, vs, h1, SqL.of (w.fr _ _ h2), h3, z⟩
  · cases h
    obtain ⟨a, vs, h1, h2, h3, z⟩ := r
    exact ⟨a, vs, h1, SqL.le w.fr h2, h3, z⟩
theorem items_ok {K : PySem.W.Frag} {G F : Hp} {S : Sto} {H : Hp} {d : D} {v : V} {ds : List D} (w : Wd K G F S H) (r : Rep K F d v) (h : items S d = some ds) : ∃ a vs, v = .ref a ∧ (SqL K H a vs ∨ SqT K H a vs) ∧ Reps K F ds vs ∧ ds.length ≤ sizeLine := by
  cases d with
  | tup es =>
    cases h
    obtain ⟨a, vs, h1, h2, h3, z⟩ := r
    exact ⟨a, vs, h1, .inr (SqT.le w.fr h2), h3, z⟩
  | lst es => obtain ⟨a, vs, h1, h2, h3⟩ := itemsL_ok w r (show itemsL S (.lst es) = some ds from h); exact ⟨a, vs, h1, .inl h2, h3⟩
  | rls es => obtain ⟨a, vs, h1, h2, h3⟩ := itemsL_ok w r (show itemsL S (.rls es) = some ds from h); exact ⟨a, vs, h1, .inl h2, h3⟩
  | ref p => obtain ⟨a, vs, h1, h2, h3⟩ := itemsL_ok w r (show itemsL S (.ref p) = some ds from h); exact ⟨a, vs, h1, .inl h2, h3⟩
  | _ => cases h

section
variable {B : Bs}
theorem room_u {k : Nat} {A : Around} (h : Room k A) : A.units + 65 < cLine := by have := h.un; omega
/-! + -/
def gAdd : G2 := fun x y S Q => match x, y with
  | .int i, .int j => Q (.int (i + j)) S
  | .str s, .str t => s.length + t.length ≤ sizeLine ∧ Q (.str (s ++ t)) S
  | .tup xs, .tup ys => xs.length + ys.length ≤ sizeLine ∧ Q (.tup (xs ++ ys)) S
  | .lst xs, .lst ys => xs.length + ys.length ≤ sizeLine ∧ Q (.lst (xs ++ ys)) S
  | .ref p, .lst ys => match S p with
    | some (.lst xs) => xs.length + ys.length ≤ sizeLine ∧ Q (.lst (xs ++ ys)) S
    | _ => False
  | .lst xs, .ref p => match S p with
    | some (.lst ys) => xs.length + ys.length ≤ sizeLine ∧ Q (.lst (xs ++ ys)) S
    | _ => False
  | _, _ => False
def rAddA (K : PySem.W.Frag) : R2 := fun x y H Q => rI0 (fun i j => .int (i + j)) x y H Q ∨ (∃ i j, x = .str i ∧ y = .str j ∧ i.length + j.length ≤ sizeLine ∧ Q (.str (i ++ j)) H) ∨ rCatA K x y H Q ∨ rCat x y H Q
theorem op_addA (X : Cx) : OpR X (binaryOp .Add) (rAddA X.K) := op_add.or (op_add_str.or (op_catA.or op_cat))
theorem lstAt {K : PySem.W.Frag} {G F : Hp} {S : Sto} {H : Hp} {p : Addr} {ds : List D} (w : Wd K G F S H) (e : S p = some (.lst ds)) : ∃ vs, H p = some (.lst vs) ∧ Reps K F ds vs ∧ ds.length ≤ sizeLine := by
  obtain ⟨o, h1, vs, rfl, h2, h3⟩ := w.st p _ e
  exact ⟨vs, h1, h2, h3⟩
theorem catOk {K : PySem.W.Frag} {G F : Hp} {S : Sto} {H : Hp} {a b : Addr} {xs ys : List D} {vs ws : List V} {Q0 : HK} {Q : VK} (w : Wd K G F S H) (ha : H a = some (.lst vs)) (hb : H b = some (.lst ws)) (ra : Reps K F xs vs) (rb : Reps K F ys ws)
    (h : xs.length + ys.length ≤ sizeLine ∧ Q0 (.lst (xs ++ ys)) S) (hq : OkQ K G F Q0 Q) : rCat (.ref a) (.ref b) H Q := by
  have z : (xs ++ ys).length ≤ sizeLine := by rw [List.length_append]; exact h.1
  obtain ⟨z2, n⟩ := newLst w (ra.append rb) z hq h.2
  exact ⟨a, b, vs, ws, rfl, rfl, ha, hb, by rw [ra.len, rb.len]; exact h.1, n⟩
theorem gAdd_ok {K : PySem.W.Frag} : R2ok K gAdd (rAddA K) := by
  intro G F S H d1 v1 d2 v2 Q0 Q w r1 r2 h hq
  unfold gAdd at h
  split at h
  · exact .inl ⟨_, _, r1, r2, hq (.int _) _ F S H Le.rfl' w (by show V.int _ = _; rfl) h⟩
  · exact .inr (.inl ⟨_, _, r1, r2, h.1, hq (.str _) _ F S H Le.rfl' w (by show V.str _ = _; rfl) h.2⟩)
  · rename_i xs ys
    obtain ⟨a, vs, rfl, qa, ra, za⟩ := id r1
    obtain ⟨b, ws, rfl, qb, rb, zb⟩ := id r2
    refine .inr (.inr (.inl ⟨a, b, vs, ws, rfl, rfl, SqT.le w.fr qa, SqT.le w.fr qb, by rw [ra.len, rb.len]; exact h.1, fun e => ?_, fun _ e => ?_, fun _ _ => ?_⟩))
    · have e' := ra.isNil.mp e
      subst e'
      exact hq (.tup ys) _ F S H Le.rfl' w r2 (by simpa using h.2)
    · have e' := rb.isNil.mp e
      subst e'
      exact hq (.tup xs) _ F S H Le.rfl' w r1 (by simpa using h.2)
    · exact (newTup w (ra.append rb) (by rw [List.length_append]; exact h.1) hq h.2).2
  · obtain ⟨a, vs, rfl, qa, ra, za⟩ := id r1
    obtain ⟨b, ws, rfl, qb, rb, zb⟩ := id r2
    exact .inr (.inr (.inr (catOk w (w.fr _ _ qa) (w.fr _ _ qb) ra rb h hq)))
  · rename_i p ys
    obtain ⟨b, ws, rfl, qb, rb, zb⟩ := id r2
    obtain rfl : v1 = .ref p := r1
    split at h
    · rename_i xs e
      obtain ⟨vs, h1, h2, h3⟩ := lstAt w e
      exact .inr (.inr (.inr (catOk w h1 (w.fr _ _ qb) h2 rb h hq)))
    · exact h.elim
  · rename_i xs p
    obtain ⟨a, vs, rfl, qa, ra, za⟩ := id r1
    obtain rfl : v2 = .ref p := r2
    split at h
    · rename_i ys e
      obtain ⟨ws, h1, h2, h3⟩ := lstAt w e
      exact .inr (.inr (.inr (catOk w (w.fr _ _ qa) h1 ra h2 h hq)))
    · exact h.elim
  · exact h.elim
theorem hadd {a b : Expr} {ta tb : HTE} {pos : Pos} (ha : HE B a ta) (hb : HE B b tb) : HE B (.BinOp a .Add b pos) (hop gAdd ta tb) := hbin (fun X _ => op_addA X) gAdd_ok ha hb
/-! ints -/
def gI (C : Int → Int → Prop) (f : Int → Int → D) : G2 := fun x y S Q => match x, y with
  | .int i, .int j => C i j ∧ Q (f i j) S
  | _, _ => False
def gI0 (f : Int → Int → D) : G2 := fun x y S Q => match x, y with
  | .int i, .int j => Q (f i j) S
  | _, _ => False
theorem gI_ok {K : PySem.W.Frag} {C : Int → Int → Prop} {f : Int → Int → D} {g : Int → Int → V} (hf : ∀ F i j, Rep K F (f i j) (g i j)) : R2ok K (gI C f) (rI C g) := by
  intro G F S H d1 v1 d2 v2 Q0 Q w r1 r2 h hq
  unfold gI at h
  split at h
  · exact ⟨_, _, r1, r2, h.1, hq _ _ F S H Le.rfl' w (hf _ _ _) h.2⟩
  · exact h.elim
theorem gI0_ok {K : PySem.W.Frag} {f : Int → Int → D} {g : Int → Int → V} (hf : ∀ F i j, Rep K F (f i j) (g i j)) : R2ok K (gI0 f) (rI0 g) := by
  intro G F S H d1 v1 d2 v2 Q0 Q w r1 r2 h hq
  unfold gI0 at h
  split at h
  · exact ⟨_, _, r1, r2, hq _ _ F S H Le.rfl' w (hf _ _ _) h⟩
  · exact h.elim
abbrev gSub : G2 := gI0 fun i j => .int (i - j)
abbrev gMulI : G2 := gI CMulW fun i j => .int (i * j)
abbrev gDiv : G2 := gI CDiv fun i j => .int (i / j)
abbrev gMod : G2 := gI (fun _ j => 0 < j) fun i j => .int (i % j)
abbrev gPow : G2 := gI CPow fun i j => .int (i ^ j.toNat)
section
variable {a b : Expr} {ta tb : HTE} {pos : Pos}
theorem hsub (ha : HE B a ta) (hb : HE B b tb) : HE B (.BinOp a .Sub b pos) (hop gSub ta tb) := hbin (r := fun _ => _) (fun X _ => op_sub) (gI0_ok fun _ _ _ => rfl) ha hb
theorem hmulI (ha : HE B a ta) (hb : HE B b tb) : HE B (.BinOp a .Mult b pos) (hop gMulI ta tb) := hbin (r := fun _ => _) (fun X _ => op_mulW) (gI_ok fun _ _ _ => rfl) ha hb
theorem hdiv (ha : HE B a ta) (hb : HE B b tb) : HE B (.BinOp a .FloorDiv b pos) (hop gDiv ta tb) := hbin (r := fun _ => _) (fun X _ => op_fdiv) (gI_ok fun _ _ _ => rfl) ha hb
theorem hmod (ha : HE B a ta) (hb : HE B b tb) : HE B (.BinOp a .Mod b pos) (hop gMod ta tb) := hbin (r := fun _ => _) (fun X _ => op_mod) (gI_ok fun _ _ _ => rfl) ha hb
theorem hpow (ha : HE B a ta) (hb : HE B b tb) : HE B (.BinOp a .Pow b pos) (hop gPow ta tb) := hbin (r := fun _ => _) (fun X _ => op_pow) (gI_ok fun _ _ _ => rfl) ha hb
end
/-- a list times an int -/
def gMulL : G2 := fun x y S Q => match x, y with
  | .lst xs, .int k => -(2 ^ 63) ≤ k ∧ k < 2 ^ 63 ∧ xs.length * k.toNat ≤ sizeLine ∧ Q (.lst (List.replicate k.toNat xs).flatten) S
  | _, _ => False
theorem Reps.rep {K : PySem.W.Frag} {F : Hp} {ds : List D} {vs : List V} (r : Reps K F ds vs) : ∀ k : Nat, Reps K F (List.replicate k ds).flatten (List.replicate k vs).flatten
  | 0 => rfl
  | k + 1 => by
    rw [List.replicate_succ, List.replicate_succ, List.flatten_cons, List.flatten_cons]
    exact r.append (r.rep k)
theorem gMulL_ok {K : PySem.W.Frag} : R2ok K gMulL rRep := by
  intro G F S H d1 v1 d2 v2 Q0 Q w r1 r2 h hq
  unfold gMulL at h
  split at h
  · rename_i xs k
    obtain ⟨a, vs, rfl, qa, ra, za⟩ := id r1
    obtain ⟨h1, h2, h3, h4⟩ := h
    have z : (List.replicate k.toNat xs).flatten.length ≤ sizeLine := by
      rw [List.length_flatten, List.map_replicate, List.sum_replicate_nat]
      rw [Nat.mul_comm]; exact h3
    exact ⟨a, k, vs, rfl, r2, w.fr _ _ qa, h1, h2, by rw [ra.len]; exact h3, (newLst w (ra.rep _) z hq h4).2⟩
  · exact h.elim
theorem hmulL {a b : Expr} {ta tb : HTE} {pos : Pos} (ha : HE B a ta) (hb : HE B b tb) : HE B (.BinOp a .Mult b pos) (hop gMulL ta tb) := hbin (r := fun _ => _) (fun X _ => op_rep) gMulL_ok ha hb
theorem hneg {a : Expr} {ta : HTE} {pos : Pos} (ha : HE B a ta) : HE B (.UnaryOp .USub a pos) (hun (fun x S Q => match x with | .int i => Q (.int (-i)) S | _ => False) ta) :=
  hunr (fun X => un_neg) (by
    intro G F S H d v Q0 Q w r h hq
    split at h
    · exact ⟨_, r, hq (.int _) _ F S H Le.rfl' w (by show V.int _ = _; rfl) h⟩
    · exact h.elim) ha
end
end Hy

set_option Elab.async false
set_option linter.all false
set_option maxRecDepth 100000
set_option maxHeartbeats 4000000
set_option autoImplicit false
namespace Hy
open PySem PySem.Spec PyProof.Rows L2

/-! ### data as a whole: == -/
mutual
def toP : D → PyData
  | .non => .none
  | .bl b => .bool b
  | .int i => .int i
  | .str x => .str x
  | .tup ds => .tuple (toPs ds)
  | .lst ds => .list (toPs ds)
  | .rls ds => .list (toPs ds)
  | .ref _ => .none
  | .ty _ => .none
  | .obj _ _ => .none
  | .exc _ _ => .none
def toPs : List D → List PyData
  | [] => []
  | d :: ds => toP d :: toPs ds
end
mutual
/-- plain data, at most n deep -/
def dok : Nat → D → Bool
  | _, .non => true
  | _, .bl _ => true
  | _, .int _ => true
  | _, .str x => PyData.strOk x
  | n, .tup ds => match n with
    | 0 => false
    | n + 1 => doks n ds
  | n, .lst ds => match n with
    | 0 => false
    | n + 1 => doks n ds
  | n, .rls ds => match n with
    | 0 => false
    | n + 1 => doks n ds
  | _, .ref _ => false
  | _, .ty _ => false
  | _, .obj _ _ => false
  | _, .exc _ _ => false
def doks : Nat → List D → Bool
  | _, [] => true
  | n, d :: ds => dok n d && doks n ds
end
def deq (x y : D) : Bool := PyData.eqv (toP x) (toP y)
mutual
theorem dok_ok : ∀ (d : D) (n : Nat), dok n d = true → (toP d).canLay0 = true ∧ (toP d).depth ≤ n
  | .non, _, _ => ⟨rfl, by simp [toP, PyData.depth]⟩
  | .bl _, _, _ => ⟨rfl, by simp [toP, PyData.depth]⟩
  | .int _, _, _ => ⟨rfl, by simp [toP, PyData.depth]⟩
  | .str x, _, h => ⟨by simpa [toP, PyData.canLay0, dok] using h, by simp [toP, PyData.depth]⟩
  | .tup ds, n, h => by
    cases n with
    | zero => simp [dok] at h
    | succ n =>
      obtain ⟨h1, h2⟩ := doks_ok ds n (by simpa [dok] using h)
      exact ⟨by simpa [toP, PyData.canLay0] using h1, by simp [toP, PyData.depth]; omega⟩
  | .lst ds, n, h => by
    cases n with
    | zero => simp [dok] at h
    | succ n =>
      obtain ⟨h1, h2⟩ := doks_ok ds n (by simpa [dok] using h)
      exact ⟨by simpa [toP, PyData.canLay0] using h1, by simp [toP, PyData.depth]; omega⟩
  | .rls ds, n, h => by
    cases n with
    | zero => simp [dok] at h
    | succ n =>
      obtain ⟨h1, h2⟩ := doks_ok ds n (by simpa [dok] using h)
      exact ⟨by simpa [toP, PyData.canLay0] using h1, by simp [toP, PyData.depth]; omega⟩
  | .ref _, _, h => by simp [dok] at h
  | .ty _, _, h => by simp [dok] at h
  | .obj _ _, _, h => by simp [dok] at h
  | .exc _ _, _, h => by simp [dok] at h
theorem doks_ok : ∀ (ds : List D) (n : Nat), doks n ds = true → PyData.canLayAll0 (toPs ds) = true ∧ PyData.depthAll (toPs ds) ≤ n
  | [], _, _ => ⟨rfl, by simp [toPs, PyData.depthAll]⟩
  | d :: ds, n, h => by
    have h' : (dok n d && doks n ds) = true := by simpa [doks] using h
    obtain ⟨a, b⟩ := Bool.and_eq_true_iff.mp h'
    obtain ⟨h1, h2⟩ := dok_ok d n a
    obtain ⟨h3, h4⟩ := doks_ok ds n b
    exact ⟨by simp [toPs, PyData.canLayAll0, h1, h3], by simp [toPs, PyData.depthAll]; omega⟩
end
theorem shaped_of {d : D} (h : dok 60 d = true) : SeqAt.shaped (toP d) = true := by
  obtain ⟨h1, h2⟩ := dok_ok d 60 h
  unfold SeqAt.shaped
  rw [h1, decide_eq_true (by omega)]
  rfl
mutual
theorem dp_of {K : PySem.W.Frag} {F H : Hp} (l : Le F H) : ∀ (d : D) (n : Nat) (v : V), dok n d = true → Rep K F d v → Dp K H v (toP d)
  | .non, _, _, _, r => by cases r; exact .non
  | .bl _, _, _, _, r => by cases r; exact .bl _
  | .int _, _, _, _, r => by cases r; exact .int _
  | .str x, _, _, h, r => by cases r; exact .str _
  | .tup ds, n, _, h, ⟨a, vs, e, q, r, _⟩ => by
    cases n with
    | zero => simp [dok] at h
    | succ n => subst e; exact .tup (SqT.le l q) (dps_of l ds n vs (by simpa [dok] using h) r)
  | .lst ds, n, _, h, ⟨a, vs, e, q, r, _⟩ => by
    cases n with
    | zero => simp [dok] at h
    | succ n => subst e; exact .lst (SqL.of (l _ _ q)) (dps_of l ds n vs (by simpa [dok] using h) r)
  | .rls ds, n, _, h, ⟨a, vs, e, q, r, _⟩ => by
    cases n with
    | zero => simp [dok] at h
    | succ n => subst e; exact .lst (SqL.le l q) (dps_of l ds n vs (by simpa [dok] using h) r)
  | .ref _, _, _, h, _ => by simp [dok] at h
  | .ty _, _, _, h, _ => by simp [dok] at h
  | .obj _ _, _, _, h, _ => by simp [dok] at h
  | .exc _ _, _, _, h, _ => by simp [dok] at h
theorem dps_of {K : PySem.W.Frag} {F H : Hp} (l : Le F H) : ∀ (ds : List D) (n : Nat) (vs : List V), doks n ds = true → Reps K F ds vs → DpAll K H vs (toPs ds)
  | [], _, _, _, r => by cases r; exact .nil
  | d :: ds, n, _, h, ⟨v, ws, e, r, q⟩ => by
    have h' : (dok n d && doks n ds) = true := by simpa [doks] using h
    obtain ⟨a, b⟩ := Bool.and_eq_true_iff.mp h'
    subst e
    exact .cons (dp_of l d n v a r) (dps_of l ds n ws b q)
end
/-- a list that may change, as it is now -/
def dr (S : Sto) : D → D
  | .ref p => match S p with
    | some (.lst ds) => .lst ds
    | _ => .ref p
  | d => d
theorem dp_dr {K : PySem.W.Frag} {G F : Hp} {S : Sto} {H : Hp} {d : D} {v : V} (w : Wd K G F S H) (r : Rep K F d v) (h : dok 60 (dr S d) = true) : Dp K H v (toP (dr S d)) := by
  cases d with
  | ref p =>
    cases e : S p with
    | none => simp [dr, e, dok] at h
    | some m =>
      cases m with
      | lst ds =>
        simp only [dr, e] at h ⊢
        obtain ⟨vs, h1, h2, h3⟩ := lstAt w e
        obtain rfl : v = .ref p := r
        exact .lst (SqL.of h1) (dps_of w.fr ds 59 vs (by simpa [dok] using h) h2)
      | _ => simp [dr, e, dok] at h
  | _ => exact dp_of w.fr _ 60 v h r

def ng : Bool → Bool → Bool
  | false, b => b
  | true, b => !b
section
variable {B : Bs} {a b : Expr} {ta tb : HTE} {pos : Pos}
def gEqG (neg : Bool) : G2 := fun x y S Q => match x, y with
  | .str s, .str t => Q (.bl (ng neg (s == t))) S
  | x, y => match dok 60 (dr S x) && dok 60 (dr S y) with
    | true => Q (.bl (ng neg (deq (dr S x) (dr S y)))) S
    | false => False
abbrev gEq : G2 := gEqG false
abbrev gNe : G2 := gEqG true
theorem gEqG_ok {K : PySem.W.Frag} (neg : Bool) : R2ok K (gEqG neg) (fun x y H Q => (∃ s t, x = .str s ∧ y = .str t ∧ Q (.bl (ng neg (s == t))) H) ∨ ∃ d e, Dp K H x d ∧ Dp K H y e ∧ SeqAt.shaped d = true ∧ SeqAt.shaped e = true ∧ Q (.bl (ng neg (PyData.eqv d e))) H) := by
  intro G F S H d1 v1 d2 v2 Q0 Q w r1 r2 h hq
  unfold gEqG at h
  split at h
  · exact .inl ⟨_, _, r1, r2, hq (.bl _) _ F S H Le.rfl' w (by show V.bl _ = _; rfl) h⟩
  · split at h
    · rename_i e
      obtain ⟨e1, e2⟩ := Bool.and_eq_true_iff.mp e
      exact .inr ⟨_, _, dp_dr w r1 e1, dp_dr w r2 e2, shaped_of e1, shaped_of e2, hq (.bl _) _ F S H Le.rfl' w (by show V.bl _ = _; rfl) h⟩
    · exact h.elim
theorem rEq_of {X : Cx} (hr : Room 0 X.A) : OpR X (compareOp .Eq) (fun x y H Q => (∃ s t, x = .str s ∧ y = .str t ∧ Q (.bl (ng false (s == t))) H) ∨ ∃ d e, Dp X.K H x d ∧ Dp X.K H y e ∧ SeqAt.shaped d = true ∧ SeqAt.shaped e = true ∧ Q (.bl (ng false (PyData.eqv d e))) H) := by
  have h := (op_eq (X := X)).or (op_eqD hr.units)
  intro pins s σ H x y v u Q I rx ry q
  refine h pins s σ H x y v u Q I rx ry ?_
  rcases q with ⟨s, t, rfl, rfl, q⟩ | ⟨d, e, h1, h2, h3, h4, q⟩
  · refine .inl ⟨rfl, ?_⟩
    rw [dec_str]; exact q
  · exact .inr ⟨d, e, h1, h2, h3, h4, q⟩
theorem rNe_of {X : Cx} (hr : Room 0 X.A) : OpR X (compareOp .NotEq) (fun x y H Q => (∃ s t, x = .str s ∧ y = .str t ∧ Q (.bl (ng true (s == t))) H) ∨ ∃ d e, Dp X.K H x d ∧ Dp X.K H y e ∧ SeqAt.shaped d = true ∧ SeqAt.shaped e = true ∧ Q (.bl (ng true (PyData.eqv d e))) H) := by
  have h := (op_ne (X := X)).or (op_neD hr.units)
  intro pins s σ H x y v u Q I rx ry q
  refine h pins s σ H x y v u Q I rx ry ?_
  rcases q with ⟨s, t, rfl, rfl, q⟩ | ⟨d, e, h1, h2, h3, h4, q⟩
  · refine .inl ⟨rfl, ?_⟩
    rw [dec_str]; exact q
  · exact .inr ⟨d, e, h1, h2, h3, h4, q⟩
theorem heq (ha : HE B a ta) (hb : HE B b tb) : HE B (.Compare a [.Eq] [b] pos) (hop gEq ta tb) := hcmp (r := fun K x y H Q => (∃ s t, x = .str s ∧ y = .str t ∧ Q (.bl (ng false (s == t))) H) ∨ ∃ d e, Dp K H x d ∧ Dp K H y e ∧ SeqAt.shaped d = true ∧ SeqAt.shaped e = true ∧ Q (.bl (ng false (PyData.eqv d e))) H) (fun X ok => rEq_of (ok.room.mono (Nat.zero_le _))) (gEqG_ok false) ha hb (nomark _)
theorem hne (ha : HE B a ta) (hb : HE B b tb) : HE B (.Compare a [.NotEq] [b] pos) (hop gNe ta tb) := hcmp (r := fun K x y H Q => (∃ s t, x = .str s ∧ y = .str t ∧ Q (.bl (ng true (s == t))) H) ∨ ∃ d e, Dp K H x d ∧ Dp K H y e ∧ SeqAt.shaped d = true ∧ SeqAt.shaped e = true ∧ Q (.bl (ng true (PyData.eqv d e))) H) (fun X ok => rNe_of (ok.room.mono (Nat.zero_le _))) (gEqG_ok true) ha hb (nomark _)
theorem heqT (ha : HE B a ta) (hb : HE B b tb) : HT B (.Compare a [.Eq] [b] pos) (hB (hop gEq ta tb)) := hcmpT (r := fun K x y H Q => (∃ s t, x = .str s ∧ y = .str t ∧ Q (.bl (ng false (s == t))) H) ∨ ∃ d e, Dp K H x d ∧ Dp K H y e ∧ SeqAt.shaped d = true ∧ SeqAt.shaped e = true ∧ Q (.bl (ng false (PyData.eqv d e))) H) (fun X ok => rEq_of (ok.room.mono (Nat.zero_le _))) (gEqG_ok false) ha hb (nomark _)
theorem hneT (ha : HE B a ta) (hb : HE B b tb) : HT B (.Compare a [.NotEq] [b] pos) (hB (hop gNe ta tb)) := hcmpT (r := fun K x y H Q => (∃ s t, x = .str s ∧ y = .str t ∧ Q (.bl (ng true (s == t))) H) ∨ ∃ d e, Dp K H x d ∧ Dp K H y e ∧ SeqAt.shaped d = true ∧ SeqAt.shaped e = true ∧ Q (.bl (ng true (PyData.eqv d e))) H) (fun X ok => rNe_of (ok.room.mono (Nat.zero_le _))) (gEqG_ok true) ha hb (nomark _)
/-! <, <=, >, >= -/
def gOrd (f : Int → Int → Bool) (g : List Nat → List Nat → Bool) : G2 := fun x y S Q => match x, y with
  | .int i, .int j => Q (.bl (f i j)) S
  | .str s, .str t => Q (.bl (g s.cps.toList t.cps.toList)) S
  | _, _ => False
abbrev rOrd (f : Int → Int → Bool) (g : List Nat → List Nat → Bool) : R2 := fun x y H Q => rI0 (fun i j => .bl (f i j)) x y H Q ∨ ∃ i j, x = .str i ∧ y = .str j ∧ Q (.bl (g i.cps.toList j.cps.toList)) H
theorem gOrd_ok {K : PySem.W.Frag} {f : Int → Int → Bool} {g : List Nat → List Nat → Bool} : R2ok K (gOrd f g) (rOrd f g) := by
  intro G F S H d1 v1 d2 v2 Q0 Q w r1 r2 h hq
  unfold gOrd at h
  split at h
  · exact .inl ⟨_, _, r1, r2, hq (.bl _) _ F S H Le.rfl' w (by show V.bl _ = _; rfl) h⟩
  · exact .inr ⟨_, _, r1, r2, hq (.bl _) _ F S H Le.rfl' w (by show V.bl _ = _; rfl) h⟩
  · exact h.elim
abbrev gLt : G2 := gOrd (fun i j => decide (i < j)) fun s t => decide (s < t)
abbrev gLe : G2 := gOrd (fun i j => decide (i ≤ j)) fun s t => !decide (t < s)
abbrev gGt : G2 := gOrd (fun i j => decide (j < i)) fun s t => decide (t < s)
abbrev gGe : G2 := gOrd (fun i j => decide (j ≤ i)) fun s t => !decide (s < t)
theorem hlt (ha : HE B a ta) (hb : HE B b tb) : HE B (.Compare a [.Lt] [b] pos) (hop gLt ta tb) := hcmp (r := fun _ => _) (fun X _ => op_lt.or op_lt_str) gOrd_ok ha hb (nomark _)
theorem hle (ha : HE B a ta) (hb : HE B b tb) : HE B (.Compare a [.LtE] [b] pos) (hop gLe ta tb) := hcmp (r := fun _ => _) (fun X _ => op_le.or op_le_str) gOrd_ok ha hb (nomark _)
theorem hgt (ha : HE B a ta) (hb : HE B b tb) : HE B (.Compare a [.Gt] [b] pos) (hop gGt ta tb) := hcmp (r := fun _ => _) (fun X _ => op_gt.or op_gt_str) gOrd_ok ha hb (nomark _)
theorem hge (ha : HE B a ta) (hb : HE B b tb) : HE B (.Compare a [.GtE] [b] pos) (hop gGe ta tb) := hcmp (r := fun _ => _) (fun X _ => op_ge.or op_ge_str) gOrd_ok ha hb (nomark _)
theorem hltT (ha : HE B a ta) (hb : HE B b tb) : HT B (.Compare a [.Lt] [b] pos) (hB (hop gLt ta tb)) := hcmpT (r := fun _ => _) (fun X _ => op_lt.or op_lt_str) gOrd_ok ha hb (nomark _)
theorem hleT (ha : HE B a ta) (hb : HE B b tb) : HT B (.Compare a [.LtE] [b] pos) (hB (hop gLe ta tb)) := hcmpT (r := fun _ => _) (fun X _ => op_le.or op_le_str) gOrd_ok ha hb (nomark _)
theorem hgtT (ha : HE B a ta) (hb : HE B b tb) : HT B (.Compare a [.Gt] [b] pos) (hB (hop gGt ta tb)) := hcmpT (r := fun _ => _) (fun X _ => op_gt.or op_gt_str) gOrd_ok ha hb (nomark _)
theorem hgeT (ha : HE B a ta) (hb : HE B b tb) : HT B (.Compare a [.GtE] [b] pos) (hB (hop gGe ta tb)) := hcmpT (r := fun _ => _) (fun X _ => op_ge.or op_ge_str) gOrd_ok ha hb (nomark _)
/-! is -/
def isN : D → Bool
  | .non => true
  | _ => false
def gIsN (neg : Bool) : G2 := fun x y S Q => match y with
  | .non => Q (.bl (ng neg (isN x))) S
  | .bl b => match x with
    | .bl a => Q (.bl (ng neg (a == b))) S
    | _ => False
  | _ => False
theorem isN_ok {K : PySem.W.Frag} {F : Hp} {d : D} {v : V} (r : Rep K F d v) : decide (v = .non) = isN d := by
  cases d with
  | non => cases r; rfl
  | bl _ => cases r; rfl
  | int _ => cases r; rfl
  | str _ => cases r; rfl
  | ref _ => cases r; rfl
  | ty _ => cases r; rfl
  | tup _ => obtain ⟨a, vs, rfl, _⟩ := r; rfl
  | lst _ => obtain ⟨a, vs, rfl, _⟩ := r; rfl
  | rls _ => obtain ⟨a, vs, rfl, _⟩ := r; rfl
  | obj _ _ => obtain ⟨a, dx, vs, rfl, _⟩ := r; rfl
  | exc _ _ => exact r.elim
theorem gIs_ok {K : PySem.W.Frag} : R2ok K (gIsN false) (fun x y H Q => (y = .non ∧ Q (.bl (decide (x = .non))) H) ∨ rIsB x y H Q) := by
  intro G F S H d1 v1 d2 v2 Q0 Q w r1 r2 h hq
  unfold gIsN at h
  split at h
  · exact .inl ⟨r2, hq (.bl _) _ F S H Le.rfl' w (by show V.bl _ = _; rw [isN_ok r1]; rfl) h⟩
  · split at h
    · exact .inr ⟨_, _, r1, r2, hq (.bl _) _ F S H Le.rfl' w (by show V.bl _ = _; first | rfl | (simp [ng]; rfl) | (simp [ng])) h⟩
    · exact h.elim
  · exact h.elim
theorem gIsNot_ok {K : PySem.W.Frag} : R2ok K (gIsN true) (fun x y H Q => (y = .non ∧ Q (.bl (!decide (x = .non))) H) ∨ rNotB x y H Q) := by
  intro G F S H d1 v1 d2 v2 Q0 Q w r1 r2 h hq
  unfold gIsN at h
  split at h
  · exact .inl ⟨r2, hq (.bl _) _ F S H Le.rfl' w (by show V.bl _ = _; rw [isN_ok r1]; rfl) h⟩
  · split at h
    · exact .inr ⟨_, _, r1, r2, hq (.bl _) _ F S H Le.rfl' w (by show V.bl _ = _; first | rfl | (simp [ng]; rfl) | (simp [ng])) h⟩
    · exact h.elim
  · exact h.elim
theorem his (ha : HE B a ta) (hb : HE B b tb) : HE B (.Compare a [.Is] [b] pos) (hop (gIsN false) ta tb) := hcmp (r := fun _ => _) (fun X _ => op_isN.or op_isBl) gIs_ok ha hb (nomark _)
theorem hisnot (ha : HE B a ta) (hb : HE B b tb) : HE B (.Compare a [.IsNot] [b] pos) (hop (gIsN true) ta tb) := hcmp (r := fun _ => _) (fun X _ => op_notN.or op_notBl) gIsNot_ok ha hb (nomark _)
theorem hisT (ha : HE B a ta) (hb : HE B b tb) : HT B (.Compare a [.Is] [b] pos) (hB (hop (gIsN false) ta tb)) := hcmpT (r := fun _ => _) (fun X _ => op_isN.or op_isBl) gIs_ok ha hb (nomark _)
theorem hisnotT (ha : HE B a ta) (hb : HE B b tb) : HT B (.Compare a [.IsNot] [b] pos) (hB (hop (gIsN true) ta tb)) := hcmpT (r := fun _ => _) (fun X _ => op_notN.or op_notBl) gIsNot_ok ha hb (nomark _)
end
end Hy

set_option Elab.async false
set_option linter.all false
set_option maxRecDepth 100000
set_option maxHeartbeats 4000000
set_option autoImplicit false
namespace Hy
open PySem PySem.Spec PyProof.Rows L2
section
variable {B : Bs} {a b : Expr} {ta tb : HTE} {pos : Pos}
/-! ### in -/
def flatD : D → Bool
  | .non => true
  | .bl _ => true
  | .int _ => true
  | .str _ => true
  | _ => false
theorem flat_ok {K : PySem.W.Frag} {F : Hp} {d : D} {v : V} (r : Rep K F d v) (h : flatD d = true) : flatV v = true := by
  cases d <;> first | (simp [flatD] at h; done) | (cases r; rfl)
theorem flats_ok {K : PySem.W.Frag} {F : Hp} : ∀ {ds : List D} {vs : List V}, Reps K F ds vs → ds.all flatD = true → vs.all flatV = true
  | [], _, r, _ => by cases r; rfl
  | d :: ds, _, ⟨v, ws, e, r, q⟩, h => by
    subst e
    rw [List.all_cons, Bool.and_eq_true] at h ⊢
    exact ⟨flat_ok r h.1, flats_ok q h.2⟩
theorem eqV_deq {K : PySem.W.Frag} {F : Hp} {x y : D} {v w : V} (rx : Rep K F x v) (ry : Rep K F y w) (hx : flatD x = true) (hy : flatD y = true) : eqV v w = deq x y := by
  cases x <;> first | (simp [flatD] at hx; done) | skip
  all_goals (cases y <;> first | (simp [flatD] at hy; done) | skip)
  all_goals (cases rx; cases ry; simp [eqV, deq, toP, PyData.eqv])
theorem inV_any {K : PySem.W.Frag} {F : Hp} {x : D} {v : V} (rx : Rep K F x v) (hx : flatD x = true) : ∀ {ds : List D} {vs : List V}, Reps K F ds vs → ds.all flatD = true → inV v vs = ds.any fun z => deq z x
  | [], _, r, _ => by cases r; rfl
  | d :: ds, _, ⟨w, ws, e, r, q⟩, h => by
    subst e
    rw [List.all_cons, Bool.and_eq_true] at h
    have ih := inV_any rx hx q h.2
    unfold inV at ih ⊢
    rw [List.any_cons, List.any_cons, ih, eqV_deq r rx h.1 hx]
def gInG (neg : Bool) : G2 := fun x y S Q => match y with
  | .str z => match x with
    | .str w => match w.cps.toList with
      | [c] => Q (.bl (ng neg (decide (c ∈ z.cps.toList)))) S
      | _ => Q (.bl (ng neg (!(Builtin.Str.occurrences z w 0 z.length 1).isEmpty))) S
    | _ => False
  | y => match items S y with
    | some ds => match flatD x && ds.all flatD with
      | true => Q (.bl (ng neg (ds.any fun z => deq z x))) S
      | false => match itemsL S y with
        | some es => match dok 60 x && dok 60 (.lst es) with
          | true => Q (.bl (ng neg (es.any fun z => deq z x))) S
          | false => False
        | none => False
    | none => False
abbrev gIn : G2 := gInG false
abbrev gNotIn : G2 := gInG true
theorem str_of1 {w : Str} {c : Nat} (h : w.cps.toList = [c]) : w = ⟨#[c]⟩ := by
  cases w with
  | mk cps => simp at h; simp [← h]
theorem any_toPs (x : D) : ∀ ds : List D, ((toPs ds).any fun z => PyData.eqv z (toP x)) = ds.any fun z => deq z x
  | [] => rfl
  | d :: ds => by simp only [toPs, List.any_cons, any_toPs x ds]; rfl
abbrev rInG (neg : Bool) (K : PySem.W.Frag) : R2 := fun x y H Q => (∃ (c : Nat) (z : Str), x = .str ⟨#[c]⟩ ∧ y = .str z ∧ Q (.bl (ng neg (decide (c ∈ z.cps.toList)))) H) ∨
  (∃ i j, x = .str i ∧ y = .str j ∧ Q (.bl (ng neg (!(Builtin.Str.occurrences j i 0 j.length 1).isEmpty))) H) ∨
  (∃ p xs, y = .ref p ∧ (SqL K H p xs ∨ SqT K H p xs) ∧ flatV x = true ∧ xs.all flatV = true ∧ Q (.bl (ng neg (inV x xs))) H) ∨
  ∃ d ds, Dp K H x d ∧ Dp K H y (.list ds) ∧ SeqAt.shaped d = true ∧ SeqAt.shaped (.list ds) = true ∧ Q (.bl (ng neg (ds.any fun z => PyData.eqv z d))) H
theorem gInG_ok {K : PySem.W.Frag} (neg : Bool) : R2ok K (gInG neg) (rInG neg K) := by
  intro G F S H d1 v1 d2 v2 Q0 Q w r1 r2 h hq
  unfold gInG at h
  split at h
  · split at h
    · split at h
      · rename_i c e
        obtain rfl := str_of1 e
        exact .inl ⟨c, _, r1, r2, hq (.bl _) _ F S H Le.rfl' w (by show V.bl _ = _; rfl) h⟩
      · exact .inr (.inl ⟨_, _, r1, r2, hq (.bl _) _ F S H Le.rfl' w (by show V.bl _ = _; rfl) h⟩)
    · exact h.elim
  · rename_i y' hy
    split at h
    · rename_i ds e
      split at h
      · rename_i f
        obtain ⟨f1, f2⟩ := Bool.and_eq_true_iff.mp f
        obtain ⟨p, vs, rfl, hs, rs, _⟩ := items_ok w r2 e
        exact .inr (.inr (.inl ⟨p, vs, rfl, hs, flat_ok r1 f1, flats_ok rs f2, hq (.bl _) _ F S H Le.rfl' w (by show V.bl _ = _; rw [inV_any r1 f1 rs f2]) h⟩))
      · split at h
        · rename_i es e2
          split at h
          · rename_i f
            obtain ⟨f1, f2⟩ := Bool.and_eq_true_iff.mp f
            obtain ⟨p, vs, rfl, hs, rs, _⟩ := itemsL_ok w r2 e2
            refine .inr (.inr (.inr ⟨toP d1, toPs es, dp_of w.fr _ 60 _ f1 r1, .lst hs (dps_of w.fr es 59 vs (by simpa [dok] using f2) rs), shaped_of f1, shaped_of (d := .lst es) f2, hq (.bl _) _ F S H Le.rfl' w (by show V.bl _ = _; rw [any_toPs]) h⟩))
          · exact h.elim
        · exact h.elim
    · exact h.elim
theorem rIn_of {X : Cx} (hr : Room 0 X.A) : OpR X (compareOp .In) (rInG false X.K) := by
  have h := (op_in_sign (X := X)).or ((op_in_str (X := X)).or ((op_in_seq (X := X)).or (op_inD (room_u hr))))
  intro pins s σ H x y v u Q I rx ry q
  refine h pins s σ H x y v u Q I rx ry ?_
  rcases q with q | q | ⟨p, xs, h1, h2, h3, h4, q⟩ | q
  · exact .inl q
  · exact .inr (.inl q)
  · exact .inr (.inr (.inl ⟨p, xs, h1, h2, h3, h4, q⟩))
  · exact .inr (.inr (.inr q))
theorem rNotIn_of {X : Cx} (hr : Room 0 X.A) : OpR X (compareOp .NotIn) (rInG true X.K) := by
  have h := (op_notIn_sign (X := X)).or ((op_notIn_str (X := X)).or ((op_notIn_seq (X := X)).or (op_notInD (room_u hr))))
  intro pins s σ H x y v u Q I rx ry q
  refine h pins s σ H x y v u Q I rx ry ?_
  rcases q with q | q | ⟨p, xs, h1, h2, h3, h4, q⟩ | q
  · exact .inl q
  · exact .inr (.inl q)
  · exact .inr (.inr (.inl ⟨p, xs, h1, h2, h3, h4, q⟩))
  · exact .inr (.inr (.inr q))
section
variable (hm : behindInMarks .In b = false := by rfl)
theorem hin (ha : HE B a ta) (hb : HE B b tb) (hm : behindInMarks .In b = false := by rfl) : HE B (.Compare a [.In] [b] pos) (hop gIn ta tb) := hcmp (r := rInG false) (fun X ok => rIn_of (ok.room.mono (Nat.zero_le _))) (gInG_ok false) ha hb hm
theorem hinT (ha : HE B a ta) (hb : HE B b tb) (hm : behindInMarks .In b = false := by rfl) : HT B (.Compare a [.In] [b] pos) (hB (hop gIn ta tb)) := hcmpT (r := rInG false) (fun X ok => rIn_of (ok.room.mono (Nat.zero_le _))) (gInG_ok false) ha hb hm
theorem hnotin (ha : HE B a ta) (hb : HE B b tb) (hm : behindInMarks .NotIn b = false := by rfl) : HE B (.Compare a [.NotIn] [b] pos) (hop gNotIn ta tb) := hcmp (r := rInG true) (fun X ok => rNotIn_of (ok.room.mono (Nat.zero_le _))) (gInG_ok true) ha hb hm
theorem hnotinT (ha : HE B a ta) (hb : HE B b tb) (hm : behindInMarks .NotIn b = false := by rfl) : HT B (.Compare a [.NotIn] [b] pos) (hB (hop gNotIn ta tb)) := hcmpT (r := rInG true) (fun X ok => rNotIn_of (ok.room.mono (Nat.zero_le _))) (gInG_ok true) ha hb hm
end
/-! ### subscripts, slices -/
def gIx : G2 := fun x y S Q => match y with
  | .int i => match x with
    | .str z => z.length ≤ sizeLine ∧ (match atI z.cps.toList i with
      | some c => Q (.str ⟨#[c]⟩) S
      | none => False)
    | x => match items S x with
      | some ds => match atI ds i with
        | some d => Q d S
        | none => False
      | none => False
  | _ => False
theorem atI_reps {K : PySem.W.Frag} {F : Hp} {ds : List D} {vs : List V} {i : Int} {d : D} (r : Reps K F ds vs) (h : atI ds i = some d) : ∃ v, atI vs i = some v ∧ Rep K F d v := by
  unfold atI at h ⊢
  rw [r.len]
  cases e : ixN ds.length i with
  | none => rw [e] at h; cases h
  | some j =>
    rw [e] at h
    obtain ⟨v, h1, h2⟩ := r.at (i := j) (by simpa using h)
    exact ⟨v, by simpa using h1, h2⟩
theorem gIx_ok {K : PySem.W.Frag} : R2ok K gIx (rIx K) := by
  intro G F S H d1 v1 d2 v2 Q0 Q w r1 r2 h hq
  unfold gIx at h
  split at h
  · split at h
    · obtain ⟨z, h⟩ := h
      split at h
      · rename_i c e
        exact .inr (.inr ⟨_, _, c, r1, r2, z, e, hq (.str _) _ F S H Le.rfl' w (by show V.str _ = _; rfl) h⟩)
      · exact h.elim
    · split at h
      · rename_i ds e
        split at h
        · rename_i d e2
          obtain ⟨p, vs, rfl, hs, rs, _⟩ := items_ok w r1 e
          obtain ⟨v, h1, h2⟩ := atI_reps rs e2
          have q := hq d v F S H Le.rfl' w h2 h
          rcases hs with hs | hs
          · exact .inl ⟨p, vs, _, v, rfl, r2, hs, h1, q⟩
          · exact .inr (.inl ⟨p, vs, _, v, rfl, r2, hs, h1, q⟩)
        · exact h.elim
      · exact h.elim
  · exact h.elim
theorem hix (ha : HE B a ta) (hb : HE B b tb) (hs : PlainIx b := by exact fun _ _ => rfl) : HE B (.Subscript a b pos) (hop gIx ta tb) :=
  ⟨fun X W ok tk => PE.imp (pe_ix (by have := ix_seq (X := X); rw [ok.eK] at this; exact this) (ha.run X W ok tk) (hb.run X W ok tk) hs) fun σ H Q h => lop gIx_ok ta tb σ H Q h⟩
/-- a part of a slice -/
abbrev HTO := HEnv → Sto → (Option Int → Sto → Prop) → HK → Prop
def lO (K : PySem.W.Frag) (W : WX) (t : HTO) : TO := fun σ H Q => ∃ G F S env Q0 E0, RepN K F env σ ∧ Wd K G F S H ∧ t env S Q0 E0 ∧ (∀ o F' S' H', Le F F' → Wd K G F' S' H' → Q0 o S' → Q o H') ∧ OkE K G F E0 (WE W σ)
structure HO_ (B : Bs) (e : Option Expr) (t : HTO) : Prop where
  run : ∀ (X : Cx) (W : WX), OkC B X → Takes X W → PO X e (lO B.K W t)
theorem PO.imp {X : Cx} {e : Option Expr} {t t' : TO} (h : PO X e t) (i : ∀ σ H Q, t' σ H Q → t σ H Q) : PO X e t' := ⟨fun pins s σ H Q I q => h.run pins s σ H Q I (i σ H Q q)⟩
def hNoP : HTO := fun _ S Q _ => Q none S
def hPart (t : HTE) : HTO := fun env S Q E => t env S (fun x S1 => match x with
  | .int i => Q (some i) S1
  | _ => False) E
theorem hnop : HO_ B none hNoP := ⟨fun X W ok tk => PO.imp po_none fun σ H Q ⟨G, F, S, env, Q0, E0, rn, wd, h, hq, he⟩ => hq none F S H Le.rfl' wd h⟩
theorem hpart (h : HE B a ta) : HO_ B (some a) (hPart ta) := ⟨fun X W ok tk => PO.imp (po_some (h.run X W ok tk)) fun σ H Q ⟨G, F, S, env, Q0, E0, rn, wd, h, hq, he⟩ =>
  ⟨G, F, S, env, _, E0, rn, wd, h, fun d v F1 S1 H1 l1 w1 r1 h1 => by
    cases d <;> first | exact h1.elim | skip
    exact ⟨_, r1, hq _ F1 S1 H1 l1 w1 h1⟩, he⟩⟩
def cutD (xs : List D) (lo hi : Option Int) : List D := (xs.drop (HT.sIx xs.length 0 lo)).take (HT.sIx xs.length xs.length hi - HT.sIx xs.length 0 lo)
theorem cutD_reps {K : PySem.W.Frag} {F : Hp} {ds : List D} {vs : List V} (r : Reps K F ds vs) (lo hi : Option Int) : Reps K F (cutD ds lo hi) (cutV vs lo hi) := by
  unfold cutD cutV
  rw [r.len]
  exact (r.drop _).take _
theorem cutD_len (ds : List D) (lo hi : Option Int) : (cutD ds lo hi).length ≤ ds.length := by
  unfold cutD
  rw [List.length_take, List.length_drop]
  omega
def gSl : D → Option Int → Option Int → Sto → HK → Prop := fun x lo hi S Q => match x with
  | .str z => z.length ≤ sizeLine ∧ Q (.str (cutS z lo hi)) S
  | .tup ds => Q (.tup (cutD ds lo hi)) S
  | x => match itemsL S x with
    | some ds => Q (.lst (cutD ds lo hi)) S
    | none => False
def hSl (te : HTE) (tl th : HTO) : HTE := fun env S Q E => te env S (fun x S1 => tl env S1 (fun l S2 => th env S2 (fun u S3 => gSl x l u S3 Q) E) E) E
abbrev rSlG (K : PySem.W.Frag) : V → Option Int → Option Int → Hp → VK → Prop := fun x lo hi H Q => rSlS x lo hi H Q ∨ rSlA K x lo hi H Q ∨ rSlL K x lo hi H Q
theorem gSl_ok {K : PySem.W.Frag} {G F : Hp} {S : Sto} {H : Hp} {d : D} {v : V} {lo hi : Option Int} {Q0 : HK} {Q : VK} (w : Wd K G F S H) (r : Rep K F d v) (h : gSl d lo hi S Q0) (hq : OkQ K G F Q0 Q) : rSlG K v lo hi H Q := by
  unfold gSl at h
  split at h
  · exact .inl ⟨_, r, h.1, hq (.str _) _ F S H Le.rfl' w (by show V.str _ = _; rfl) h.2⟩
  · rename_i ds
    obtain ⟨a, vs, rfl, qa, ra, za⟩ := id r
    refine .inr (.inl ⟨a, vs, rfl, SqT.le w.fr qa, fun e => ?_, fun _ => ?_⟩)
    · have e2 : cutD ds lo hi = ds := by
        unfold cutD
        rw [ra.len] at e
        rw [e.1, e.2]
        simp
      rw [e2] at h
      exact hq (.tup ds) _ F S H Le.rfl' w r h
    · exact (newTup w (cutD_reps ra lo hi) (Nat.le_trans (cutD_len _ _ _) za) hq h).2
  · split at h
    · rename_i ds e
      obtain ⟨p, vs, rfl, hs, rs, z⟩ := itemsL_ok w r e
      exact .inr (.inr ⟨p, vs, rfl, hs, (newLst w (cutD_reps rs lo hi) (Nat.le_trans (cutD_len _ _ _) z) hq h).2⟩)
    · exact h.elim
theorem hsl {lo hi : Option Expr} {tl th : HTO} {p2 : Pos} (he : HE B a ta) (hl : HO_ B lo tl) (hu : HO_ B hi th) : HE B (.Subscript a (.Slice lo hi none p2) pos) (hSl ta tl th) :=
  ⟨fun X W ok tk => PE.imp (pe_slice (by have := (sl_str (X := X)).or ((sl_tupA (X := X)).or (sl_list (X := X))); rw [ok.eK] at this; exact this) (he.run X W ok tk) (hl.run X W ok tk) (hu.run X W ok tk)) fun σ H Q ⟨G, F, S, env, Q0, E0, rn, wd, h, hq, he⟩ =>
    ⟨G, F, S, env, _, E0, rn, wd, h, fun d v F1 S1 H1 l1 w1 r1 h1 =>
      ⟨G, F1, S1, env, _, E0, rn.le l1, w1, h1, fun l F2 S2 H2 l2 w2 h2 =>
        ⟨G, F2, S2, env, _, E0, rn.le (l1.trans l2), w2, h2, fun u F3 S3 H3 l3 w3 h3 => gSl_ok w3 (r1.le (l2.trans l3)) h3 (hq.le (l1.trans (l2.trans l3))), he.le (l1.trans l2)⟩, he.le l1⟩, he⟩⟩
/-- xs[::-1] of a list -/
def gRev : G1 := fun x S Q => match itemsL S x with
  | some ds => Q (.lst ds.reverse) S
  | none => False
theorem hrevL {k : Nat} {p1 p2 p3 : Pos} (he : HE B a ta) : HE B (.Subscript a (.Slice none none (some (.UnaryOp .USub (.Constant (.int 1) k p1) p2)) p3) pos) (hun gRev ta) :=
  ⟨fun X W ok tk => PE.imp (pe_revL (he.run X W ok tk)) fun σ H Q h => by
    refine lun (r := fun x H1 Q => ∃ a xs, x = .ref a ∧ SqL X.K H1 a xs ∧ ∀ p, H1 p = none → Q (.ref p) (upd H1 p (.lst xs.reverse))) ?_ ta σ H Q h
    intro G F S H d v Q0 Q w r h hq
    unfold gRev at h
    split at h
    · rename_i ds e
      obtain ⟨p, vs, rfl, hs, rs, z⟩ := itemsL_ok w r e
      exact ⟨p, vs, rfl, by rw [ok.eK]; exact hs, (newLst w rs.reverse (by rw [List.length_reverse]; exact z) hq h).2⟩
    · exact h.elim⟩
end
end Hy

set_option Elab.async false
set_option linter.all false
set_option maxRecDepth 100000
set_option maxHeartbeats 4000000
set_option autoImplicit false
namespace Hy
open PySem PySem.Spec PyProof.Rows L2
section
variable {B : Bs} {e a b o : Expr} {es : List Expr} {ta tb te to : HTE} {tr : HTA} {x m : Str} {p pos apos : Pos}
abbrev Gn (B : Bs) (x : Str) : Prop := B.sc.names.lookup x = some .globalImplicit
theorem OkC.gl {X : Cx} (ok : OkC B X) (h : Gn B x) : Gl X x := by
  show X.env.scope.names.lookup x = some .globalImplicit
  rw [ok.es]; exact h
/-! ### built-ins called by name -/
def hcb (g : GL) (t : HTA) : HTE := fun env S Q E => t env S (fun ds S1 => g ds S1 Q) E
theorem lcb {K : PySem.W.Frag} {W : WX} {g : GL} {r : List V → Hp → VK → Prop} (hg : RLok K g r) (t : HTA) (σ : St) (H : Hp) (Q : VK) (h : lE K W (hcb g t) σ H Q) : tCB r (lA K W t) σ H Q := by
  obtain ⟨G, F, S, env, Q0, E0, rn, wd, h, hq, he⟩ := h
  exact ⟨G, F, S, env, fun x S1 => g x S1 Q0, E0, rn, wd, h, fun d v F1 S1 H1 l1 w1 r1 h1 => hg G F1 S1 H1 d v Q0 _ w1 r1 h1 (hq.le l1), he⟩
theorem hcallB {id : String} {g : GL} {r : PySem.W.Frag → List V → Hp → VK → Prop} (ho : ∀ X, OkC B X → CallR X (.builtin id) (r X.K)) (hg : RLok B.K g (r B.K)) (gn : Gn B x) (hm : B.mg x = none) (hv : bootBuiltins x = some (.builtin id)) (ha : HA B (e :: es) tr)
    (hn : x ≠ "__name__" := by decide) (hdb : (x == ("__debug__" : Str)) = false := by decide) (he : ∀ env, starEach (e :: es) env = (false, eval e env) :: starEach es env := by intro _; rfl) (hpl : ∀ env, (backTo pos (starEach es env)).any (·.1) = false := by intro _; rfl) :
    HE B (.Call (.Name x p) (e :: es) [] pos) (hcb g tr) :=
  ⟨fun X W ok tk => PE.imp (pe_callB (by have := ho X ok; rw [ok.eK] at this; exact this) (ok.gl gn) (by rw [ok.em]; exact hm) hv (ha.run X W ok tk) hn hdb (he _) (hpl _)) fun σ H Q h => lcb hg tr σ H Q h⟩
theorem hcallTy {T : String} {g : GL} {r : PySem.W.Frag → List V → Hp → VK → Prop} (ho : ∀ X, OkC B X → CallR X (.type T) (r X.K)) (hg : RLok B.K g (r B.K)) (gn : Gn B x) (hm : B.mg x = none) (hv : bootBuiltins x = some (.type T)) (ha : HA B (e :: es) tr)
    (hn : x ≠ "__name__" := by decide) (hdb : (x == ("__debug__" : Str)) = false := by decide) (he : ∀ env, starEach (e :: es) env = (false, eval e env) :: starEach es env := by intro _; rfl) (hpl : ∀ env, (backTo pos (starEach es env)).any (·.1) = false := by intro _; rfl) :
    HE B (.Call (.Name x p) (e :: es) [] pos) (hcb g tr) :=
  ⟨fun X W ok tk => PE.imp (pe_callTy (by have := ho X ok; rw [ok.eK] at this; exact this) (ok.gl gn) (by rw [ok.em]; exact hm) hv (ha.run X W ok tk) hn hdb (he _) (hpl _)) fun σ H Q h => lcb hg tr σ H Q h⟩
theorem Reps.one_inv {K : PySem.W.Frag} {F : Hp} {d : D} {vs : List V} (r : Reps K F [d] vs) : ∃ v, vs = [v] ∧ Rep K F d v := by
  obtain ⟨v, ws, rfl, r, q⟩ := r
  cases q
  exact ⟨v, rfl, r⟩
theorem Reps.two_inv {K : PySem.W.Frag} {F : Hp} {d e : D} {vs : List V} (r : Reps K F [d, e] vs) : ∃ v w, vs = [v, w] ∧ Rep K F d v ∧ Rep K F e w := by
  obtain ⟨v, ws, rfl, r, q⟩ := r
  obtain ⟨w, e, q⟩ := q.one_inv
  exact ⟨v, w, by rw [e], r, q⟩
/-! len -/
def gLen : GL := fun ds S Q => match ds with
  | [.str z] => z.length ≤ sizeLine ∧ Q (.int z.length) S
  | [x] => match items S x with
    | some xs => Q (.int xs.length) S
    | none => match x with
      | .ref q => match S q with
        | some (.dct kvs) => Q (.int kvs.length) S
        | _ => False
      | _ => False
  | _ => False
abbrev rLenG (K : PySem.W.Frag) : List V → Hp → VK → Prop := fun xs H Q => (∃ z, xs = [.str z] ∧ z.length ≤ sizeLine ∧ Q (.int z.length) H) ∨ (∃ p ys, xs = [.ref p] ∧ (SqL K H p ys ∨ SqT K H p ys) ∧ Q (.int ys.length) H) ∨ ∃ a kvs, xs = [.ref a] ∧ H a = some (.dK kvs) ∧ Q (.int kvs.length) H
theorem dctAt {K : PySem.W.Frag} {G F : Hp} {S : Sto} {H : Hp} {q : Addr} {kvs : List (Key × D)} (w : Wd K G F S H) (e : S q = some (.dct kvs)) : ∃ vs, H q = some (.dK ((kvs.map (·.1)).zip vs)) ∧ Reps K F (kvs.map (·.2)) vs := by
  obtain ⟨o, h1, vs, rfl, h2⟩ := w.st q _ e
  exact ⟨vs, h1, h2⟩
theorem zip_len {κ : Type} {K : PySem.W.Frag} {F : Hp} {kvs : List (κ × D)} {vs : List V} (r : Reps K F (kvs.map (·.2)) vs) : ((kvs.map (·.1)).zip vs).length = kvs.length := by
  have := r.len
  rw [List.length_zip, this, List.length_map, List.length_map, Nat.min_self]
theorem gLen_ok {K : PySem.W.Frag} : RLok K gLen (rLenG K) := by
  intro G F S H ds vs Q0 Q w r h hq
  unfold gLen at h
  split at h
  · obtain ⟨v, rfl, r1⟩ := r.one_inv
    exact .inl ⟨_, by rw [show v = V.str _ from r1], h.1, hq (.int _) _ F S H Le.rfl' w (by show V.int _ = _; rfl) h.2⟩
  · rename_i x _
    obtain ⟨v, rfl, r1⟩ := r.one_inv
    split at h
    · rename_i xs e
      obtain ⟨p, vs, rfl, hs, rs, _⟩ := items_ok w r1 e
      exact .inr (.inl ⟨p, vs, rfl, hs, hq (.int _) _ F S H Le.rfl' w (by show V.int _ = _; rw [rs.len]) h⟩)
    · cases x <;> first | exact h.elim | skip
      rename_i q _ _
      dsimp only at h
      split at h
      · rename_i kvs e
        obtain ⟨vs, h1, h2⟩ := dctAt w e
        obtain rfl : v = .ref q := r1
        exact .inr (.inr ⟨q, _, rfl, h1, hq (.int _) _ F S H Le.rfl' w (by show V.int _ = _; rw [zip_len h2]) h⟩)
      · exact h.elim
  · exact h.elim
theorem CallR.or3 {X : Cx} {f : Value} {r r' r'' : List V → Hp → VK → Prop} (h : CallR X f r) (h' : CallR X f r') (h'' : CallR X f r'') : CallR X f (fun xs H Q => r xs H Q ∨ r' xs H Q ∨ r'' xs H Q) := h.or (h'.or h'')
theorem call_lenK {X : Cx} : CallR X (.builtin "len") (fun xs H Q => ∃ a kvs, xs = [.ref a] ∧ H a = some (.dK kvs) ∧ Q (.int kvs.length) H) := by
  intro pins s σ H xs us Q I r h
  obtain ⟨a, kvs, rfl, e, q⟩ := h
  exact call_lenD pins s σ H _ us Q I r ⟨a, kvs, rfl, e, q⟩
theorem hlen (gn : Gn B "len") (hm : B.mg "len" = none) (ha : HA B [a] tr) (he : ∀ env, starEach [a] env = (false, eval a env) :: starEach [] env := by intro _; rfl) : HE B (.Call (.Name "len" p) [a] [] pos) (hcb gLen tr) :=
  hcallB (r := rLenG) (fun X _ => CallR.or3 call_len_str call_len_seq call_lenK) gLen_ok gn hm boot_len ha (he := he) (hpl := fun _ => rfl)
/-! tuple(..), list(..) -/
def gTuple : GL := fun ds S Q => match ds with
  | [x] => match items S x with
    | some xs => Q (.tup xs) S
    | none => False
  | _ => False
theorem gTuple_ok {K : PySem.W.Frag} : RLok K gTuple (fun xs H Q => ∃ p ys, xs = [.ref p] ∧ ((SqL K H p ys ∧ ∀ l, H l = none → Q (.ref l) (upd H l (.tup ys))) ∨ (SqT K H p ys ∧ Q (.ref p) H))) := by
  intro G F S H ds vs Q0 Q w r h hq
  unfold gTuple at h
  split at h
  · obtain ⟨v, rfl, r1⟩ := r.one_inv
    rename_i x
    split at h
    · rename_i xs e
      cases x with
      | tup es =>
        cases e
        obtain ⟨a, us, rfl, qa, ra, z⟩ := id r1
        exact ⟨a, us, rfl, .inr ⟨SqT.le w.fr qa, hq (.tup xs) _ F S H Le.rfl' w r1 h⟩⟩
      | _ =>
        obtain ⟨p, us, rfl, hs, rs, z⟩ := itemsL_ok w r1 (by first | exact e | (cases e; done))
        exact ⟨p, us, rfl, .inl ⟨hs, (newTup w rs z hq h).2⟩⟩
    · exact h.elim
  · exact h.elim
theorem htuple (gn : Gn B "tuple") (hm : B.mg "tuple" = none) (ha : HA B [a] tr) (he : ∀ env, starEach [a] env = (false, eval a env) :: starEach [] env := by intro _; rfl) : HE B (.Call (.Name "tuple" p) [a] [] pos) (hcb gTuple tr) :=
  hcallTy (r := fun K xs H Q => ∃ p ys, xs = [.ref p] ∧ ((SqL K H p ys ∧ ∀ l, H l = none → Q (.ref l) (upd H l (.tup ys))) ∨ (SqT K H p ys ∧ Q (.ref p) H))) (fun X _ => call_tuple_of) gTuple_ok gn hm (by decide +kernel) ha (he := he) (hpl := fun _ => rfl)
def gList : GL := fun ds S Q => match ds with
  | [x] => match items S x with
    | some xs => Q (.lst xs) S
    | none => False
  | _ => False
def gListM : GL := fun ds S Q => match ds with
  | [x] => match items S x with
    | some xs => ∀ p, S p = none → Q (.ref p) (up S p (.lst xs))
    | none => False
  | _ => False
abbrev rListG (K : PySem.W.Frag) : List V → Hp → VK → Prop := fun xs H Q => ∃ p ys, xs = [.ref p] ∧ (SqL K H p ys ∨ SqT K H p ys) ∧ ∀ l, H l = none → Q (.ref l) (upd H l (.lst ys))
theorem gList_ok {K : PySem.W.Frag} : RLok K gList (rListG K) := by
  intro G F S H ds vs Q0 Q w r h hq
  unfold gList at h
  split at h
  · obtain ⟨v, rfl, r1⟩ := r.one_inv
    split at h
    · rename_i x xs e
      obtain ⟨p, us, rfl, hs, rs, z⟩ := items_ok w r1 e
      exact ⟨p, us, rfl, hs, (newLst w rs z hq h).2⟩
    · exact h.elim
  · exact h.elim
theorem gListM_ok {K : PySem.W.Frag} : RLok K gListM (rListG K) := by
  intro G F S H ds vs Q0 Q w r h hq
  unfold gListM at h
  split at h
  · obtain ⟨v, rfl, r1⟩ := r.one_inv
    split at h
    · rename_i x xs e
      obtain ⟨p, us, rfl, hs, rs, z⟩ := items_ok w r1 e
      exact ⟨p, us, rfl, hs, (newLstM w rs z hq h).2⟩
    · exact h.elim
  · exact h.elim
theorem hlist (gn : Gn B "list") (hm : B.mg "list" = none) (ha : HA B [a] tr) (he : ∀ env, starEach [a] env = (false, eval a env) :: starEach [] env := by intro _; rfl) : HE B (.Call (.Name "list" p) [a] [] pos) (hcb gList tr) :=
  hcallTy (r := rListG) (fun X _ => call_list_of) gList_ok gn hm (by decide +kernel) ha (he := he) (hpl := fun _ => rfl)
theorem hlistM (gn : Gn B "list") (hm : B.mg "list" = none) (ha : HA B [a] tr) (he : ∀ env, starEach [a] env = (false, eval a env) :: starEach [] env := by intro _; rfl) : HE B (.Call (.Name "list" p) [a] [] pos) (hcb gListM tr) :=
  hcallTy (r := rListG) (fun X _ => call_list_of) gListM_ok gn hm (by decide +kernel) ha (he := he) (hpl := fun _ => rfl)
/-! sum, max, all, any over a list; int(..), str(..), max(a, b), min(a, b) -/
def dInts : List D → Option (List Int)
  | [] => some []
  | .int i :: r => (dInts r).map (i :: ·)
  | _ :: _ => none
def dBls : List D → Option (List Bool)
  | [] => some []
  | .bl i :: r => (dBls r).map (i :: ·)
  | _ :: _ => none
def dStrs : List D → Option (List Str)
  | [] => some []
  | .str i :: r => (dStrs r).map (i :: ·)
  | _ :: _ => none
theorem ints_ok {K : PySem.W.Frag} {F : Hp} : ∀ {ds : List D} {vs : List V} {ns : List Int}, dInts ds = some ns → Reps K F ds vs → vs = ns.map V.int
  | [], _, _, h, r => by cases h; exact r
  | .int i :: ds, _, ns, h, ⟨v, ws, e, r, q⟩ => by
    simp only [dInts, Option.map_eq_some_iff] at h
    obtain ⟨ms, h1, rfl⟩ := h
    cases r
    rw [e, ints_ok h1 q]; rfl
theorem bls_ok {K : PySem.W.Frag} {F : Hp} : ∀ {ds : List D} {vs : List V} {ns : List Bool}, dBls ds = some ns → Reps K F ds vs → vs = ns.map V.bl
  | [], _, _, h, r => by cases h; exact r
  | .bl i :: ds, _, ns, h, ⟨v, ws, e, r, q⟩ => by
    simp only [dBls, Option.map_eq_some_iff] at h
    obtain ⟨ms, h1, rfl⟩ := h
    cases r
    rw [e, bls_ok h1 q]; rfl
theorem strs_ok {K : PySem.W.Frag} {F : Hp} : ∀ {ds : List D} {vs : List V} {ns : List Str}, dStrs ds = some ns → Reps K F ds vs → vs = ns.map V.str
  | [], _, _, h, r => by cases h; exact r
  | .str i :: ds, _, ns, h, ⟨v, ws, e, r, q⟩ => by
    simp only [dStrs, Option.map_eq_some_iff] at h
    obtain ⟨ms, h1, rfl⟩ := h
    cases r
    rw [e, strs_ok h1 q]; rfl
theorem ints_map : ∀ ns : List Int, dInts (ns.map D.int) = some ns
  | [] => rfl
  | n :: ns => by simp [dInts, ints_map ns]
theorem bls_map : ∀ ns : List Bool, dBls (ns.map D.bl) = some ns
  | [] => rfl
  | n :: ns => by simp [dBls, bls_map ns]
theorem strs_map : ∀ ns : List Str, dStrs (ns.map D.str) = some ns
  | [] => rfl
  | n :: ns => by simp [dStrs, strs_map ns]
def gOver {α : Type} (dec : List D → Option α) (f : α → Sto → HK → Prop) : GL := fun ds S Q => match ds with
  | [x] => match itemsL S x with
    | some xs => match dec xs with
      | some ns => f ns S Q
      | none => False
    | none => False
  | _ => False
abbrev gSum : GL := gOver dInts fun ns S Q => Q (.int ns.sum) S
abbrev gAll : GL := gOver dBls fun ns S Q => Q (.bl (ns.all id)) S
abbrev gAny : GL := gOver dBls fun ns S Q => Q (.bl (ns.any id)) S
/-- the greatest of a list that is not empty -/
def maxI : List Int → Int
  | [] => 0
  | [x] => x
  | x :: r => max x (maxI r)
theorem maxI_mem : ∀ {l : List Int}, l ≠ [] → maxI l ∈ l
  | [], h => (h rfl).elim
  | [x], _ => by simp [maxI]
  | x :: y :: r, _ => by
    have ih := maxI_mem (l := y :: r) (by simp)
    show max x (maxI (y :: r)) ∈ _
    rcases Int.le_total x (maxI (y :: r)) with z | z
    · rw [Int.max_eq_right z]; exact List.mem_cons_of_mem _ ih
    · rw [Int.max_eq_left z]; exact List.mem_cons_self
theorem le_maxI : ∀ {l : List Int} {y : Int}, y ∈ l → y ≤ maxI l
  | [x], y, h => by simp at h; subst h; exact Int.le_refl _
  | x :: z :: r, y, h => by
    show y ≤ max x (maxI (z :: r))
    rcases List.mem_cons.mp h with e | h
    · subst e; omega
    · have := le_maxI h; omega
def minI : List Int → Int
  | [] => 0
  | [x] => x
  | x :: r => min x (minI r)
theorem minI_mem : ∀ {l : List Int}, l ≠ [] → minI l ∈ l
  | [], h => (h rfl).elim
  | [x], _ => by simp [minI]
  | x :: y :: r, _ => by
    have ih := minI_mem (l := y :: r) (by simp)
    show min x (minI (y :: r)) ∈ _
    rcases Int.le_total x (minI (y :: r)) with z | z
    · rw [Int.min_eq_left z]; exact List.mem_cons_self
    · rw [Int.min_eq_right z]; exact List.mem_cons_of_mem _ ih
theorem minI_le : ∀ {l : List Int} {y : Int}, y ∈ l → minI l ≤ y
  | [x], y, h => by simp at h; subst h; exact Int.le_refl _
  | x :: z :: r, y, h => by
    show min x (minI (z :: r)) ≤ y
    rcases List.mem_cons.mp h with e | h
    · subst e; omega
    · have := minI_le h; omega
abbrev gMaxL : GL := gOver dInts fun ns S Q => match ns with
  | [] => False
  | ns => Q (.int (maxI ns)) S
abbrev gMinL : GL := gOver dInts fun ns S Q => match ns with
  | [] => False
  | ns => Q (.int (minI ns)) S
theorem gOver_ok {K : PySem.W.Frag} {α : Type} {β : Type} {dec : List D → Option (List α)} {j : α → V} {f : List α → Sto → HK → Prop} (hd : ∀ {F : Hp} {ds : List D} {vs : List V} {ns : List α}, dec ds = some ns → Reps K F ds vs → vs = ns.map j)
    {r : List V → Hp → VK → Prop} (hr : ∀ G F S H a ns Q0 Q, Wd K G F S H → SqL K H a (ns.map j) → f ns S Q0 → OkQ K G F Q0 Q → r [.ref a] H Q) : RLok K (gOver dec f) r := by
  intro G F S H ds vs Q0 Q w rs h hq
  unfold gOver at h
  split at h
  · obtain ⟨v, rfl, r1⟩ := rs.one_inv
    split at h
    · rename_i xs e
      split at h
      · rename_i ns e2
        obtain ⟨p, us, rfl, hs, rs, z⟩ := itemsL_ok w r1 e
        rw [hd e2 rs] at hs
        exact hr G F S H p ns Q0 Q w hs h hq
      · exact h.elim
    · exact h.elim
  · exact h.elim
theorem hsum (gn : Gn B "sum") (hm : B.mg "sum" = none) (ha : HA B [a] tr) (he : ∀ env, starEach [a] env = (false, eval a env) :: starEach [] env := by intro _; rfl) : HE B (.Call (.Name "sum" p) [a] [] pos) (hcb gSum tr) :=
  hcallB (r := rSum) (fun X ok => cr_sum ok.calm) (gOver_ok (β := Unit) (fun h r => ints_ok h r) fun G F S H a ns Q0 Q w hs h hq => ⟨a, ns, rfl, hs, hq (.int _) _ F S H Le.rfl' w (by show V.int _ = _; rfl) h⟩) gn hm (by decide +kernel) ha (he := he) (hpl := fun _ => rfl)
theorem hall (gn : Gn B "all") (hm : B.mg "all" = none) (ha : HA B [a] tr) (he : ∀ env, starEach [a] env = (false, eval a env) :: starEach [] env := by intro _; rfl) : HE B (.Call (.Name "all" p) [a] [] pos) (hcb gAll tr) :=
  hcallB (r := rAll) (fun X ok => cr_all ok.calm) (gOver_ok (β := Unit) (fun h r => bls_ok h r) fun G F S H a ns Q0 Q w hs h hq => ⟨a, ns, rfl, hs, hq (.bl _) _ F S H Le.rfl' w (by show V.bl _ = _; rfl) h⟩) gn hm (by decide +kernel) ha (he := he) (hpl := fun _ => rfl)
theorem hany (gn : Gn B "any") (hm : B.mg "any" = none) (ha : HA B [a] tr) (he : ∀ env, starEach [a] env = (false, eval a env) :: starEach [] env := by intro _; rfl) : HE B (.Call (.Name "any" p) [a] [] pos) (hcb gAny tr) :=
  hcallB (r := rAny) (fun X ok => cr_any ok.calm) (gOver_ok (β := Unit) (fun h r => bls_ok h r) fun G F S H a ns Q0 Q w hs h hq => ⟨a, ns, rfl, hs, hq (.bl _) _ F S H Le.rfl' w (by show V.bl _ = _; rfl) h⟩) gn hm (by decide +kernel) ha (he := he) (hpl := fun _ => rfl)
theorem hmaxL (gn : Gn B "max") (hm : B.mg "max" = none) (ha : HA B [a] tr) (he : ∀ env, starEach [a] env = (false, eval a env) :: starEach [] env := by intro _; rfl) : HE B (.Call (.Name "max" p) [a] [] pos) (hcb gMaxL tr) :=
  hcallB (r := rMax) (fun X ok => cr_max ok.calm) (gOver_ok (β := Unit) (fun h r => ints_ok h r) fun G F S H a ns Q0 Q w hs h hq => by
    have hne : ns ≠ [] := fun z => by subst z; exact h
    have h' : Q0 (.int (maxI ns)) S := by cases ns with
      | nil => exact (hne rfl).elim
      | cons n r => exact h
    refine ⟨a, ns, rfl, hs, List.length_pos_iff.mpr hne, fun m hm1 hm2 => ?_⟩
    have e : m = maxI ns := Int.le_antisymm (le_maxI hm1) (hm2 _ (maxI_mem hne))
    exact hq (.int _) _ F S H Le.rfl' w (by show V.int _ = _; rw [e]) h') gn hm (by decide +kernel) ha (he := he) (hpl := fun _ => rfl)
theorem hminL (gn : Gn B "min") (hm : B.mg "min" = none) (ha : HA B [a] tr) (he : ∀ env, starEach [a] env = (false, eval a env) :: starEach [] env := by intro _; rfl) : HE B (.Call (.Name "min" p) [a] [] pos) (hcb gMinL tr) :=
  hcallB (r := rMin) (fun X ok => cr_min ok.calm) (gOver_ok (β := Unit) (fun h r => ints_ok h r) fun G F S H a ns Q0 Q w hs h hq => by
    have hne : ns ≠ [] := fun z => by subst z; exact h
    have h' : Q0 (.int (minI ns)) S := by cases ns with
      | nil => exact (hne rfl).elim
      | cons n r => exact h
    refine ⟨a, ns, rfl, hs, List.length_pos_iff.mpr hne, fun m hm1 hm2 => ?_⟩
    have e : m = minI ns := Int.le_antisymm (hm2 _ (minI_mem hne)) (minI_le hm1)
    exact hq (.int _) _ F S H Le.rfl' w (by show V.int _ = _; rw [e]) h') gn hm (by decide +kernel) ha (he := he) (hpl := fun _ => rfl)
def gInt1 : GL := fun ds S Q => match ds with
  | [.int i] => Q (.int i) S
  | [.bl k] => Q (.int (if k then 1 else 0)) S
  | [.str z] => match PySem.intText? z with
    | some n => z.length ≤ 640 ∧ Q (.int n) S
    | none => False
  | _ => False
theorem hint1 (gn : Gn B "int") (hm : B.mg "int" = none) (ha : HA B [a] tr) (he : ∀ env, starEach [a] env = (false, eval a env) :: starEach [] env := by intro _; rfl) : HE B (.Call (.Name "int" p) [a] [] pos) (hcb gInt1 tr) :=
  hcallTy (r := fun _ xs H Q => ((∃ i, xs = [.int i] ∧ Q (.int i) H) ∨ ∃ k, xs = [.bl k] ∧ Q (.int (if k then 1 else 0)) H) ∨ ∃ a n, xs = [.str a] ∧ PySem.intText? a = some n ∧ a.length ≤ 640 ∧ Q (.int n) H) (fun X _ => call_int1.or call_int_str) (by
    intro G F S H ds vs Q0 Q w r h hq
    unfold gInt1 at h
    split at h
    · obtain ⟨v, rfl, r1⟩ := r.one_inv
      exact .inl (.inl ⟨_, by rw [show v = V.int _ from r1], hq (.int _) _ F S H Le.rfl' w (by show V.int _ = _; rfl) h⟩)
    · obtain ⟨v, rfl, r1⟩ := r.one_inv
      exact .inl (.inr ⟨_, by rw [show v = V.bl _ from r1], hq (.int _) _ F S H Le.rfl' w (by show V.int _ = _; rfl) h⟩)
    · obtain ⟨v, rfl, r1⟩ := r.one_inv
      split at h
      · rename_i n e
        exact .inr ⟨_, n, by rw [show v = V.str _ from r1], e, h.1, hq (.int _) _ F S H Le.rfl' w (by show V.int _ = _; rfl) h.2⟩
      · exact h.elim
    · exact h.elim) gn hm (by decide +kernel) ha (he := he) (hpl := fun _ => rfl)
def gStr1 : GL := fun ds S Q => match ds with
  | [.int i] => i.natAbs.log2 < 1920 ∧ Q (.str (toString i)) S
  | _ => False
theorem hstr1 (gn : Gn B "str") (hm : B.mg "str" = none) (ha : HA B [a] tr) (he : ∀ env, starEach [a] env = (false, eval a env) :: starEach [] env := by intro _; rfl) : HE B (.Call (.Name "str" p) [a] [] pos) (hcb gStr1 tr) :=
  hcallTy (r := fun _ xs H Q => ∃ i, xs = [.int i] ∧ i.natAbs.log2 < 1920 ∧ Q (.str (toString i)) H) (fun X _ => call_str_int) (by
    intro G F S H ds vs Q0 Q w r h hq
    unfold gStr1 at h
    split at h
    · obtain ⟨v, rfl, r1⟩ := r.one_inv
      exact ⟨_, by rw [show v = V.int _ from r1], h.1, hq (.str _) _ F S H Le.rfl' w (by show V.str _ = _; rfl) h.2⟩
    · exact h.elim) gn hm (by decide +kernel) ha (he := he) (hpl := fun _ => rfl)
def gMax2 : GL := fun ds S Q => match ds with
  | [.int i, .int j] => Q (.int (max i j)) S
  | _ => False
def gMin2 : GL := fun ds S Q => match ds with
  | [.int i, .int j] => Q (.int (min i j)) S
  | _ => False
theorem hmax2 (gn : Gn B "max") (hm : B.mg "max" = none) (ha : HA B [a, b] tr) (he : ∀ env, starEach [a, b] env = (false, eval a env) :: starEach [b] env := by intro _; rfl) (hpl : ∀ env, (backTo pos (starEach [b] env)).any (·.1) = false := by intro _; rfl) : HE B (.Call (.Name "max" p) [a, b] [] pos) (hcb gMax2 tr) :=
  hcallB (r := fun _ xs H Q => ∃ i j, xs = [.int i, .int j] ∧ Q (.int (if j > i then j else i)) H) (fun X ok => call_max2 ok.calm) (by
    intro G F S H ds vs Q0 Q w r h hq
    unfold gMax2 at h
    split at h
    · rename_i i j
      obtain ⟨v, u, rfl, r1, r2⟩ := r.two_inv
      exact ⟨_, _, by rw [show v = V.int _ from r1, show u = V.int _ from r2], hq (.int _) _ F S H Le.rfl' w (by show V.int _ = _; congr 1; split <;> omega) h⟩
    · exact h.elim) gn hm (by decide +kernel) ha (he := he) (hpl := hpl)
theorem hmin2 (gn : Gn B "min") (hm : B.mg "min" = none) (ha : HA B [a, b] tr) (he : ∀ env, starEach [a, b] env = (false, eval a env) :: starEach [b] env := by intro _; rfl) (hpl : ∀ env, (backTo pos (starEach [b] env)).any (·.1) = false := by intro _; rfl) : HE B (.Call (.Name "min" p) [a, b] [] pos) (hcb gMin2 tr) :=
  hcallB (r := fun _ xs H Q => ∃ i j, xs = [.int i, .int j] ∧ Q (.int (if j < i then j else i)) H) (fun X ok => call_min2 ok.calm) (by
    intro G F S H ds vs Q0 Q w r h hq
    unfold gMin2 at h
    split at h
    · rename_i i j
      obtain ⟨v, u, rfl, r1, r2⟩ := r.two_inv
      exact ⟨_, _, by rw [show v = V.int _ from r1, show u = V.int _ from r2], hq (.int _) _ F S H Le.rfl' w (by show V.int _ = _; congr 1; split <;> omega) h⟩
    · exact h.elim) gn hm (by decide +kernel) ha (he := he) (hpl := hpl)
end
end Hy

set_option Elab.async false
set_option linter.all false
set_option maxRecDepth 100000
set_option maxHeartbeats 4000000
set_option autoImplicit false
namespace Hy
open PySem PySem.Spec PyProof.Rows L2

/-! ### targets: names and tuples of names -/
inductive Pt where
  | nm (i : Nat)
  | tp (l : List Pt)
mutual
def bindD : Pt → D → HEnv → Option HEnv
  | .nm i, d, env => some (env.set i (some d))
  | .tp l, d, env => match d with
    | .tup ds => bindDs l ds env
    | _ => none
def bindDs : List Pt → List D → HEnv → Option HEnv
  | [], [], env => some env
  | p :: ps, d :: ds, env => match bindD p d env with
    | some env1 => bindDs ps ds env1
    | none => none
  | _, _, _ => none
end
mutual
def gV (K : PySem.W.Frag) : Pt → TG
  | .nm i => gName i
  | .tp l => gTup K l.length (gVs K l)
def gVs (K : PySem.W.Frag) : List Pt → TGs
  | [] => gNil
  | p :: ps => gCons (gV K p) (gVs K ps)
end
mutual
def slots : Pt → List Nat
  | .nm i => [i]
  | .tp l => slotss l
def slotss : List Pt → List Nat
  | [] => []
  | p :: ps => slots p ++ slotss ps
end
/-- all but these slots stand -/
def SameBut (vs : List Nat) (σ σ' : St) : Prop := σ.length = σ'.length ∧ ∀ j, j ∉ vs → σ'[j]? = σ[j]?
theorem SameBut.rfl' {vs : List Nat} {σ : St} : SameBut vs σ σ := ⟨rfl, fun _ _ => rfl⟩
theorem SameBut.trans {vs ws : List Nat} {a b c : St} (h : SameBut vs a b) (k : SameBut ws b c) : SameBut (vs ++ ws) a c :=
  ⟨h.1.trans k.1, fun j hj => (k.2 j fun z => hj (List.mem_append_right _ z)).trans (h.2 j fun z => hj (List.mem_append_left _ z))⟩
theorem bindDs_len : ∀ {l : List Pt} {ds : List D} {env env1 : HEnv}, bindDs l ds env = some env1 → ds.length = l.length
  | [], [], _, _, _ => rfl
  | [], _ :: _, _, _, h => by simp [bindDs] at h
  | _ :: _, [], _, _, h => by simp [bindDs] at h
  | p :: ps, d :: ds, env, env1, h => by
    unfold bindDs at h
    split at h
    · simp [bindDs_len h]
    · cases h
mutual
theorem bind_ok {K : PySem.W.Frag} {F H : Hp} (le : Le F H) : ∀ (p : Pt) {d : D} {v : V} {env env1 : HEnv} {σ : St} {Q : St → Hp → Prop}, Rep K F d v → RepN K F env σ → bindD p d env = some env1 →
    (∀ σ1, RepN K F env1 σ1 → SameBut (slots p) σ σ1 → Q σ1 H) → gV K p v σ H Q
  | .nm i, d, v, env, env1, σ, Q, r, rn, e, h => by
    cases e
    refine h _ (rn.set r i) ⟨by simp, fun j hj => ?_⟩
    have : i ≠ j := fun z => hj (by rw [z]; exact List.mem_singleton_self j)
    rw [List.getElem?_set_ne this]
  | .tp l, d, v, env, env1, σ, Q, r, rn, e, h => by
    unfold bindD at e
    split at e
    · obtain ⟨a, vs, rfl, q, rs, _⟩ := r
      exact ⟨a, vs, rfl, SqT.le le q, by rw [rs.len, bindDs_len e], binds_ok le l rs rn e h⟩
    · cases e
theorem binds_ok {K : PySem.W.Frag} {F H : Hp} (le : Le F H) : ∀ (l : List Pt) {ds : List D} {vs : List V} {env env1 : HEnv} {σ : St} {Q : St → Hp → Prop}, Reps K F ds vs → RepN K F env σ → bindDs l ds env = some env1 →
    (∀ σ1, RepN K F env1 σ1 → SameBut (slotss l) σ σ1 → Q σ1 H) → gVs K l vs σ H Q
  | [], ds, vs, env, env1, σ, Q, r, rn, e, h => by
    cases ds with
    | nil => cases e; cases r; exact ⟨rfl, h σ rn SameBut.rfl'⟩
    | cons _ _ => simp [bindDs] at e
  | p :: ps, ds, vs, env, env1, σ, Q, r, rn, e, h => by
    cases ds with
    | nil => simp [bindDs] at e
    | cons d ds =>
      obtain ⟨v, ws, rfl, r1, r2⟩ := r
      unfold bindDs at e
      split at e
      · rename_i e2 he
        exact ⟨v, ws, rfl, bind_ok le p r1 rn he fun σ1 rn1 sb1 => binds_ok le ps r2 rn1 e fun σ2 rn2 sb2 => h σ2 rn2 (sb1.trans sb2)⟩
      · cases e
end
structure HP (B : Bs) (tg : Expr) (p : Pt) : Prop where
  run : ∀ X, OkC B X → PG X tg (gV B.K p)
structure HPs (B : Bs) (tgs : List Expr) (p : List Pt) : Prop where
  run : ∀ X, OkC B X → PGs X tgs (gVs B.K p)
section
variable {B : Bs} {pos : Pos} {x : Str}
theorem OkC.loc {X : Cx} (ok : OkC B X) (h : Loc B.sc x) : Loc X.env.scope x := by rw [ok.es]; exact h
/-- a name that is stored here -/
def Own (B : Bs) (x : Str) : Prop := B.sc.names.lookup x = some .local ∨ (B.sc.names.lookup x = some .cell ∧ B.own x = true)
theorem Own.loc (h : Own B x) : Loc B.sc x := h.elim .inl fun z => .inr z.1
theorem OkC.fnl {X : Cx} (ok : OkC B X) (h : Own B x) : X.fn x = true ∨ X.env.scope.names.lookup x = some .local := by
  rcases h with h | ⟨h, h2⟩
  · exact .inr (by rw [ok.es]; exact h)
  · exact .inl (ok.fn x h2 (by rw [ok.es]; exact h))
theorem hnm (i : Nat) (hN : B.N[i]? = some x := by rfl) (hl : Own B x := by first | exact Or.inl rfl | exact Or.inr ⟨rfl, rfl⟩) : HP B (.Name x pos) (.nm i) :=
  ⟨fun X ok => pg_name ok.nd (by rw [ok.eN]; exact hN) (ok.loc hl.loc) (ok.fnl hl)⟩
theorem hps0 : HPs B [] [] := ⟨fun X ok => pgs_nil⟩
theorem hps {e : Expr} {es : List Expr} {p : Pt} {ps : List Pt} (h : HP B e p) (r : HPs B es ps) (hs : ∀ env, (assignEach (e :: es) env).map (·.2) = assign e env :: (assignEach es env).map (·.2) := by intro _; rfl) : HPs B (e :: es) (p :: ps) :=
  ⟨fun X ok => pgs_cons (h.run X ok) (r.run X ok) (hs _)⟩
theorem htp {es : List Expr} {k : Nat} {l : List Pt} (h : HPs B es l) (hn : ∀ env, (assignEach es env).length = l.length := by intro _; rfl) (hst : ∀ env, (assignEach es env).findIdx? (·.1) = none := by intro _; rfl) : HP B (.Tuple es k pos) (.tp l) :=
  ⟨fun X ok => pg_tup (by exact ok.calm) (by have := h.run X ok; rw [← ok.eK] at this ⊢; exact this) (hn _) (hst _) |> fun (q : PG X _ (gTup X.K l.length (gVs B.K l))) => by rw [ok.eK] at q; exact q⟩
end

/-! ### statements -/
section
variable {B : Bs} {st : Stmt} {rest body : List Stmt} {t u : HTS} {e : Expr} {te : HTE} {pos : Pos} {c : Expr} {tc : HTT}
def hNx : HTS := fun D env S => D.nx env S
def hSeq (t u : HTS) : HTS := fun D env S => t { D with nx := u D } env S
theorem OkS.exc {K : PySem.W.Frag} {G F : Hp} {E : HEnds} {D : Ends} {W : WX} (o : OkS K G F E D W) {env : HEnv} {σ : St} (rn : RepN K F env σ) : OkE K G F (fun x S => E.ex x env S) (WE W σ) :=
  fun x cls dd F' S' H' l w r h => o.ex x cls dd env σ F' S' H' l w (rn.le l) r h
theorem hss0 : HSs B [] hNx := ⟨fun X W ok tk => PSs.imp pss_nil fun D σ H ⟨G, F, S, env, E, rn, wd, h, o⟩ => o.nx env σ F S H Le.rfl' wd rn h⟩
theorem hss (h1 : HS B st t) (h2 : HSs B rest u) : HSs B (st :: rest) (hSeq t u) :=
  ⟨fun X W ok tk => PSs.imp (pss_cons (h1.run X W ok tk) (h2.run X W ok tk)) fun D σ H ⟨G, F, S, env, E, rn, wd, h, o⟩ =>
    ⟨G, F, S, env, { E with nx := u E }, rn, wd, h, ⟨fun env1 σ1 F1 S1 H1 l w1 rn1 q => ⟨G, F1, S1, env1, E, rn1, w1, q, o.le l⟩, o.rt, o.bk, o.ct, o.ex⟩⟩⟩
theorem hss1 (h1 : HS B st t) : HSs B [st] t := ⟨fun X W ok tk => pss_one (h1.run X W ok tk)⟩
theorem hpass : HS B (.Pass pos) hNx := ⟨fun X W ok tk => PS.imp ps_pass fun D σ H ⟨G, F, S, env, E, rn, wd, h, o⟩ => o.nx env σ F S H Le.rfl' wd rn h⟩
theorem hbreak : HS B (.Break pos) (fun D env S => D.bk env S) := ⟨fun X W ok tk => PS.imp ps_break fun D σ H ⟨G, F, S, env, E, rn, wd, h, o⟩ => o.bk env σ F S H Le.rfl' wd rn h⟩
theorem hcont : HS B (.Continue pos) (fun D env S => D.ct env S) := ⟨fun X W ok tk => PS.imp ps_continue fun D σ H ⟨G, F, S, env, E, rn, wd, h, o⟩ => o.ct env σ F S H Le.rfl' wd rn h⟩
def hNever : HTS := fun _ _ _ => False
theorem hnever : HS B st hNever := ⟨fun X W ok tk => PS.imp ps_never fun D σ H ⟨G, F, S, env, E, rn, wd, h, o⟩ => h⟩
def hExpr (te : HTE) : HTS := fun D env S => te env S (fun _ S1 => D.nx env S1) fun x S1 => D.ex x env S1
theorem hexpr (h : HE B e te) (hs : ∀ env, swapsWith e none pos.line env = pure false := by intro _; rfl) : HS B (.Expr e pos) (hExpr te) :=
  ⟨fun X W ok tk => PS.imp (ps_expr (h.run X W ok tk) (hs _)) fun D σ H ⟨G, F, S, env, E, rn, wd, h, o⟩ =>
    ⟨G, F, S, env, _, _, rn, wd, h, fun d v F1 S1 H1 l w r q => o.nx env σ F1 S1 H1 l w (rn.le l) q, o.exc rn⟩⟩
def hRet (te : HTE) : HTS := fun D env S => te env S D.rt fun x S1 => D.ex x env S1
theorem hret (h : HE B e te) : HS B (.Return (some e) pos) (hRet te) :=
  ⟨fun X W ok tk => PS.imp (ps_ret (h.run X W ok tk)) fun D σ H ⟨G, F, S, env, E, rn, wd, h, o⟩ => ⟨G, F, S, env, _, _, rn, wd, h, o.rt, o.exc rn⟩⟩
def hRetN : HTS := fun D _ S => D.rt .non S
theorem hretn : HS B (.Return none pos) hRetN := ⟨fun X W ok tk => PS.imp ps_retN fun D σ H ⟨G, F, S, env, E, rn, wd, h, o⟩ => o.rt .non .non F S H Le.rfl' wd rfl h⟩
def hIfS (c : HTT) (t u : HTS) : HTS := fun D env S => c env S (fun b S1 => match b with
  | true => t D env S1
  | false => u D env S1) fun x S1 => D.ex x env S1
theorem hif {b : List Stmt} (hc : HT B c tc) (h1 : HSs B body t) (h2 : HSs B b u) : HS B (.If c body b pos) (hIfS tc t u) :=
  ⟨fun X W ok tk => PS.imp (ps_if (hc.run X W ok tk) (h1.run X W ok tk) (h2.run X W ok tk)) fun D σ H ⟨G, F, S, env, E, rn, wd, h, o⟩ =>
    ⟨G, F, S, env, _, _, rn, wd, h, fun k F1 S1 H1 l w q => by
      cases k with
      | true => exact ⟨G, F1, S1, env, E, rn.le l, w, q, o.le l⟩
      | false => exact ⟨G, F1, S1, env, E, rn.le l, w, q, o.le l⟩, o.exc rn⟩⟩
/-- target = value -/
def hAsg (p : Pt) (te : HTE) : HTS := fun D env S => te env S (fun d S1 => match bindD p d env with
  | some env1 => D.nx env1 S1
  | none => False) fun x S1 => D.ex x env S1
theorem hasg {tg : Expr} {p : Pt} (h : HE B e te) (hg : HP B tg p) (hs : ∀ env, swapsWithSole [tg] e pos.line env = pure false := by intro _; rfl) (hw : ∀ env, swappedStores [tg] e env = pure none := by intro _; rfl)
    (h1 : ∀ env, (assignEach [tg] env).map (·.2) = [assign tg env] := by intro _; rfl) : HS B (.Assign [tg] e pos) (hAsg p te) :=
  ⟨fun X W ok tk => PS.imp (ps_asg (h.run X W ok tk) (hg.run X ok) (hs _) (hw _) (h1 _)) fun D σ H ⟨G, F, S, env, E, rn, wd, h, o⟩ =>
    ⟨G, F, S, env, _, _, rn, wd, h, fun d v F1 S1 H1 l w r q => by
      dsimp only at q
      split at q
      · rename_i env1 eb
        exact bind_ok w.fr p r (rn.le l) eb fun σ1 rn1 _ => o.nx env1 σ1 F1 S1 H1 l w rn1 q
      · exact q.elim, o.exc rn⟩⟩
def hSet (i : Nat) (te : HTE) : HTS := fun D env S => te env S (fun d S1 => D.nx (env.set i (some d)) S1) fun x S1 => D.ex x env S1
theorem hset (i : Nat) {x : Str} {pos' : Pos} (h : HE B e te) (hN : B.N[i]? = some x := by rfl) (hl : Own B x := by first | exact Or.inl rfl | exact Or.inr ⟨rfl, rfl⟩) (hs : ∀ env, swapsWith e (some (.Name x pos')) pos.line env = pure false := by intro _; rfl) :
    HS B (.Assign [.Name x pos'] e pos) (hSet i te) :=
  ⟨fun X W ok tk => PS.imp (ps_set (i := i) ok.nd (by rw [ok.eN]; exact hN) (ok.loc hl.loc) (h.run X W ok tk) (hs _) (ok.fnl hl)) fun D σ H ⟨G, F, S, env, E, rn, wd, h, o⟩ =>
    ⟨G, F, S, env, _, _, rn, wd, h, fun d v F1 S1 H1 l w r q => o.nx _ _ F1 S1 H1 l w ((rn.le l).set r i) q, o.exc rn⟩⟩
/-- a, b = e1, e2 -/
def hPar (i j : Nat) (ta : HTA) : HTS := fun D env S => ta env S (fun ds S1 => match ds with
  | [d1, d2] => D.nx ((env.set i (some d1)).set j (some d2)) S1
  | _ => False) fun x S1 => D.ex x env S1
/-- name op= e, whole numbers -/
def hAug (i : Nat) (g : G2) (te : HTE) : HTS := fun D env S => match env[i]? with
  | some (some x) => te env S (fun y S1 => g x y S1 fun z S2 => D.nx (env.set i (some z)) S2) fun x S1 => D.ex x env S1
  | _ => False
theorem haug (i : Nat) {x : Str} {pos' : Pos} {op : Operator} {g : G2} {r : PySem.W.Frag → R2} (ho : ∀ X, OkC B X → OpR X (inplaceOp op) (r X.K)) (hg : R2ok B.K g (r B.K)) (h : HE B e te) (hN : B.N[i]? = some x := by rfl) (hl : Own B x := by first | exact Or.inl rfl | exact Or.inr ⟨rfl, rfl⟩) :
    HS B (.AugAssign (.Name x pos') op e pos) (hAug i g te) :=
  ⟨fun X W ok tk => PS.imp (ps_aug (i := i) (ti := r B.K) ok.nd (by rw [ok.eN]; exact hN) (ok.loc hl.loc) (h.run X W ok tk) (by
      intro pins s σ H x y v u Q I r1 r2 q
      have := ho X ok
      rw [ok.eK] at this
      exact this pins s σ H x y v u Q I r1 r2 q) (ok.fnl hl)) fun D σ H ⟨G, F, S, env, E, rn, wd, h, o⟩ => by
    unfold hAug at h
    split at h
    · rename_i d ed
      obtain ⟨v, h1, h2⟩ := rn.get i d ed
      exact ⟨v, h1, G, F, S, env, _, _, rn, wd, h, fun d2 v2 F1 S1 H1 l w r q => hg G F1 S1 H1 d v d2 v2 _ _ w (h2.le l) r q fun d3 v3 F2 S2 H2 l2 w2 r3 q3 => o.nx _ _ F2 S2 H2 (l.trans l2) w2 ((rn.le (l.trans l2)).set r3 i) q3, o.exc rn⟩
    · exact h.elim⟩
theorem haugAdd (i : Nat) {x : Str} {pos' : Pos} (h : HE B e te) (hN : B.N[i]? = some x := by rfl) (hl : Own B x := by first | exact Or.inl rfl | exact Or.inr ⟨rfl, rfl⟩) : HS B (.AugAssign (.Name x pos') .Add e pos) (hAug i (gI0 fun i j => .int (i + j)) te) :=
  haug i (r := fun _ => _) (fun X _ => iop_add) (gI0_ok fun _ _ _ => rfl) h hN hl
theorem haugSub (i : Nat) {x : Str} {pos' : Pos} (h : HE B e te) (hN : B.N[i]? = some x := by rfl) (hl : Own B x := by first | exact Or.inl rfl | exact Or.inr ⟨rfl, rfl⟩) : HS B (.AugAssign (.Name x pos') .Sub e pos) (hAug i gSub te) :=
  haug i (r := fun _ => _) (fun X _ => iop_sub) (gI0_ok fun _ _ _ => rfl) h hN hl
theorem haugMul (i : Nat) {x : Str} {pos' : Pos} (h : HE B e te) (hN : B.N[i]? = some x := by rfl) (hl : Own B x := by first | exact Or.inl rfl | exact Or.inr ⟨rfl, rfl⟩) : HS B (.AugAssign (.Name x pos') .Mult e pos) (hAug i (gI CMul fun i j => .int (i * j)) te) :=
  haug i (r := fun _ => _) (fun X _ => iop_mul) (gI_ok fun _ _ _ => rfl) h hN hl
theorem haugDiv (i : Nat) {x : Str} {pos' : Pos} (h : HE B e te) (hN : B.N[i]? = some x := by rfl) (hl : Own B x := by first | exact Or.inl rfl | exact Or.inr ⟨rfl, rfl⟩) : HS B (.AugAssign (.Name x pos') .FloorDiv e pos) (hAug i gDiv te) :=
  haug i (r := fun _ => _) (fun X _ => iop_fdiv) (gI_ok fun _ _ _ => rfl) h hN hl
/-! while -/
def hWhile (c : HTT) (tb : HTS) : HTS := fun D env S => ∃ I : Nat → HEnv → Sto → Prop, (∃ m, I m env S) ∧ ∀ m env S, I m env S → c env S (fun b S1 => match b with
  | true => tb { D with nx := fun e S => ∃ m', m' < m ∧ I m' e S, ct := fun e S => ∃ m', m' < m ∧ I m' e S, bk := D.nx } env S1
  | false => D.nx env S1) fun x S1 => D.ex x env S1
theorem hwhile (hc : HT B c tc) (hb : HSs B body t) : HS B (.While c body [] pos) (hWhile tc t) :=
  ⟨fun X W ok tk => PS.imp (ps_while ok.own (hc.run X W ok tk) (hb.run X W ok tk)) fun D σ H ⟨G, F, S, env, E, rn, wd, ⟨I, ⟨m0, h0⟩, step⟩, o⟩ => by
    refine ⟨fun m σ H => ∃ F1 S1 env1, Le F F1 ∧ RepN B.K F1 env1 σ ∧ Wd B.K G F1 S1 H ∧ I m env1 S1, ⟨m0, F, S, env, Le.rfl', rn, wd, h0⟩, ?_⟩
    rintro m σ1 H1 ⟨F1, S1, env1, l1, rn1, w1, h1⟩
    have o1 := o.le l1
    refine ⟨G, F1, S1, env1, _, _, rn1, w1, step m env1 S1 h1, fun k F2 S2 H2 l2 w2 q => ?_, o1.exc rn1⟩
    cases k with
    | false => exact o1.nx env1 σ1 F2 S2 H2 l2 w2 (rn1.le l2) q
    | true =>
      rw [if_pos rfl]
      refine ⟨fun σ' H' => ∃ m', m' < m ∧ ∃ F1 S1 env1, Le F F1 ∧ RepN B.K F1 env1 σ' ∧ Wd B.K G F1 S1 H' ∧ I m' env1 S1, fun σ' H' h => h, ?_⟩
      have nx : OkN B.K G F2 (fun e S => ∃ m', m' < m ∧ I m' e S) (fun σ' H' => ∃ m', m' < m ∧ ∃ F1 S1 env1, Le F F1 ∧ RepN B.K F1 env1 σ' ∧ Wd B.K G F1 S1 H' ∧ I m' env1 S1) :=
        fun env3 σ3 F3 S3 H3 l3 w3 rn3 ⟨m', hm, hi⟩ => ⟨m', hm, F3, S3, env3, l1.trans (l2.trans l3), rn3, w3, hi⟩
      exact ⟨G, F2, S2, env1, _, rn1.le l2, w2, q, nx, (o1.le l2).rt, (o1.le l2).nx, nx, (o1.le l2).ex⟩⟩
end
end Hy

set_option Elab.async false
set_option linter.all false
set_option maxRecDepth 100000
set_option maxHeartbeats 4000000
set_option autoImplicit false
namespace Hy
open PySem PySem.Spec PyProof.Rows L2

/-! ### what is walked -/
/-- a list that may change stands while it is walked -/
abbrev Ck := Option (Addr × List D)
def chk (k : Ck) (S : Sto) (A : Prop) : Prop := match k with
  | none => A
  | some (p, ds) => S p = some (.lst ds) ∧ A
theorem chk_a {k : Ck} {S : Sto} {A : Prop} (h : chk k S A) : A := by
  cases k with
  | none => exact h
  | some q => exact h.2
theorem chk_t {k : Ck} {S : Sto} {A : Prop} (h : chk k S A) : chk k S True := by
  cases k with
  | none => trivial
  | some q => exact ⟨h.1, trivial⟩
structure IterOk (K : PySem.W.Frag) (G F : Hp) (ds : List D) (k : Ck) (J : It) : Prop where
  w : Walk J ds.length (fun H => ∃ F1 S1, Le F F1 ∧ Wd K G F1 S1 H ∧ chk k S1 True) (fun i H x H' => ∀ G1 F1 S1, Le G G1 → Le F F1 → Wd K G1 F1 S1 H → chk k S1 True → ∃ d F2, ds[i]? = some d ∧ Le F1 F2 ∧ Wd K G1 F2 S1 H' ∧ Rep K F2 d x)
  z : ds.length ≤ sizeLine
abbrev HTI := HEnv → Sto → (List D → Ck → Sto → Prop) → HK → Prop
def lI (K : PySem.W.Frag) (W : WX) (t : HTI) : TI := fun σ H R => ∃ G F S env R0 E0, RepN K F env σ ∧ Wd K G F S H ∧ t env S R0 E0 ∧
  (∀ ds k F' S' H' J, Le F F' → Wd K G F' S' H' → IterOk K G F' ds k J → R0 ds k S' → R J H') ∧ OkE K G F E0 (WE W σ)
structure HI (B : Bs) (tg iter : Expr) (t : HTI) : Prop where
  run : ∀ (X : Cx) (W : WX), OkC B X → Takes X W → PI X tg iter (lI B.K W t)
theorem PI.imp {X : Cx} {tg iter : Expr} {t t' : TI} (h : PI X tg iter t) (i : ∀ σ H Q, t' σ H Q → t σ H Q) : PI X tg iter t' := ⟨fun pins s σ H Q I q => h.run pins s σ H Q I (i σ H Q q)⟩
/-- a list, a tuple or a text by its value -/
def iSq (K : PySem.W.Frag) (tl : TE) : TI := fun σ H R => tl σ H fun x H1 => (∃ a, x = .ref a ∧ (∃ xs, SqL K H1 a xs) ∧ R (Itl K a) H1) ∨ (∃ a, x = .ref a ∧ (∃ xs, SqT K H1 a xs) ∧ R (Itt K a) H1) ∨ ∃ z, x = .str z ∧ R (Its z) H1
theorem one_it {X : Cx} {tg : Expr} {pins : List (Addr × Obj)} {σ : St} {H : Hp} {s : Shared} {R : It → Hp → Prop} {ob : Obj} {J : It} {tn : Nat → Heap → Prop} (I : Inv X pins σ H s)
    (T : Turn X.prog X.w X.K tg J [s.heap.objs.size] s.heap.objs.size tn) (t0 : tn 0 (s.heap.push ob)) (q : R J H) : PIE X pins σ tg R (.ref s.heap.objs.size) { s with heap := s.heap.push ob } := by
  have J2 : Inv X pins σ H { s with heap := s.heap.push ob, toks := s.toks } := I.kept fun _ _ e => Heap.get?_push_of_some _ e
  refine ⟨_, _, _, _, H, rfl, J2, T, t0, fun b hb => ?_, q⟩
  cases List.mem_singleton.mp hb
  exact I.fpOk (Nat.le_refl _) (I.hok.fresh (Nat.le_refl _))
theorem pi_sq {X : Cx} {tg l : Expr} {tl : TE} (hl : PE X l tl) : PI X tg l (iSq X.K tl) :=
  ⟨fun pins s σ H R I h => thn (hl.run pins s σ H _ I h) fun v s1 ⟨x, H1, I1, r1, q1⟩ => by
    rcases q1 with ⟨a, rfl, ⟨xs, hx⟩, q⟩ | ⟨a, rfl, ⟨xs, hx⟩, q⟩ | ⟨z, rfl, q⟩
    · cases r1
      obtain ⟨its, rv, pl, hz⟩ := I1.list hx
      exact wpAny_pyIter_list pl.isList (one_it I1 (turn_list a _) ⟨_, Heap.get?_push_size _ rfl, rfl, rfl⟩ q)
    · cases r1
      obtain ⟨its, rv, pl, hz⟩ := I1.tuple hx
      exact wpAny_pyIter_tuple pl (one_it I1 (turn_tuple a _) ⟨_, Heap.get?_push_size _ rfl, rfl, rfl⟩ q)
    · obtain ⟨t, rfl⟩ := r1
      cases hz : z.cps.all (· < 128) with
      | true => exact wpAny_pyIter_ascii hz (one_it I1 (turn_str _ z t "str_ascii_iterator" (.inl rfl)) ⟨_, Heap.get?_push_size _ rfl, rfl, rfl⟩ q)
      | false => exact wpAny_pyIter_wide hz (one_it I1 (turn_str _ z t "str_iterator" (.inr rfl)) ⟨_, Heap.get?_push_size _ rfl, rfl, rfl⟩ q)⟩
def ckOf : D → List D → Ck
  | .ref p, ds => some (p, ds)
  | _, _ => none
def hiSq (te : HTE) : HTI := fun env S R E => te env S (fun x S1 => match x with
  | .str z => z.length ≤ sizeLine ∧ R (z.cps.toList.map fun c => .str ⟨#[c]⟩) none S1
  | x => match items S1 x with
    | some ds => R ds (ckOf x ds) S1
    | none => False) E
theorem iter_l {K : PySem.W.Frag} {G F : Hp} {a : Addr} {ds : List D} {vs : List V} {k : Ck} (rs : Reps K F ds vs) (z : ds.length ≤ sizeLine)
    (st : ∀ G1 F1 S1 H, Le G G1 → Le F F1 → Wd K G1 F1 S1 H → chk k S1 True → ∃ us, SqL K H a us ∧ Reps K F1 ds us) : IterOk K G F ds k (Itl K a) := by
  refine ⟨⟨fun i H hi ⟨F1, S1, l, w, c⟩ => ?_, fun H ⟨F1, S1, l, w, c⟩ => ?_, fun i H x H' hi _ y G1 F1 S1 lg l w c => ?_⟩, z⟩
  · obtain ⟨us, h1, h2⟩ := st G F1 S1 H Le.rfl' l w c
    obtain ⟨v, h3, _⟩ := h2.at (i := i) (d := ds[i]) (by simp [hi])
    exact ⟨us, v, h1, h3⟩
  · obtain ⟨us, h1, h2⟩ := st G F1 S1 H Le.rfl' l w c
    exact ⟨us, h1, by rw [h2.len]; exact Nat.le_refl _⟩
  · obtain ⟨us, h1, h2⟩ := st G1 F1 S1 H lg l w c
    obtain ⟨rfl, y⟩ := y
    obtain ⟨d, h3, h4⟩ := h2.at' (y us h1)
    exact ⟨d, F1, h3, Le.rfl', w, h4⟩
theorem iter_t {K : PySem.W.Frag} {G F : Hp} {a : Addr} {ds : List D} {vs : List V} {k : Ck} (hs : SqT K F a vs) (rs : Reps K F ds vs) (z : ds.length ≤ sizeLine) : IterOk K G F ds k (Itt K a) := by
  refine ⟨⟨fun i H hi ⟨F1, S1, l, w, c⟩ => ?_, fun H ⟨F1, S1, l, w, c⟩ => ?_, fun i H x H' hi _ y G1 F1 S1 lg l w c => ?_⟩, z⟩
  · obtain ⟨v, h3, _⟩ := rs.at (i := i) (d := ds[i]) (by simp [hi])
    exact ⟨vs, v, SqT.le (l.trans w.fr) hs, h3⟩
  · exact ⟨vs, SqT.le (l.trans w.fr) hs, by rw [rs.len]; exact Nat.le_refl _⟩
  · obtain ⟨rfl, y⟩ := y
    obtain ⟨d, h3, h4⟩ := rs.at' (y vs (SqT.le (l.trans w.fr) hs))
    exact ⟨d, F1, h3, Le.rfl', w, h4.le l⟩
theorem iter_s {K : PySem.W.Frag} {G F : Hp} {z : Str} (hz : z.length ≤ sizeLine) : IterOk K G F (z.cps.toList.map fun c => D.str ⟨#[c]⟩) none (Its z) := by
  refine ⟨⟨fun i H hi _ => ?_, fun H _ => ?_, fun i H x H' hi _ y G1 F1 S1 lg l w c => ?_⟩, by rw [List.length_map, Array.length_toList]; exact hz⟩
  · rw [List.length_map, Array.length_toList] at hi; exact hi
  · rw [List.length_map, Array.length_toList]; exact Nat.le_refl _
  · obtain ⟨rfl, c, hc, rfl⟩ := y
    exact ⟨.str ⟨#[c]⟩, F1, by rw [List.getElem?_map, Array.getElem?_toList, hc]; rfl, Le.rfl', w, rfl⟩
section
variable {B : Bs} {tg e a b : Expr} {te : HTE} {tr : HTA} {p pos : Pos}
theorem hisq (h : HE B e te) : HI B tg e (hiSq te) :=
  ⟨fun X W ok tk => PI.imp (t := iSq B.K (lE B.K W te)) (by have q := pi_sq (tg := tg) (h.run X W ok tk); rw [ok.eK] at q; exact q) fun σ H R ⟨G, F, S, env, R0, E0, rn, wd, h, hr, he⟩ =>
    ⟨G, F, S, env, _, E0, rn, wd, h, fun d v F1 S1 H1 l1 w1 r1 h1 => by
      dsimp only at h1
      split at h1
      · exact .inr (.inr ⟨_, r1, hr _ _ F1 S1 H1 _ l1 w1 (iter_s h1.1) h1.2⟩)
      · split at h1
        · rename_i ds ed
          cases d with
          | tup es =>
            cases ed
            obtain ⟨a, vs, rfl, hs, rs, z⟩ := r1
            exact .inr (.inl ⟨a, rfl, ⟨vs, SqT.le w1.fr hs⟩, hr _ _ F1 S1 H1 _ l1 w1 (iter_t hs rs z) h1⟩)
          | lst es =>
            cases ed
            obtain ⟨a, vs, rfl, hs, rs, z⟩ := r1
            exact .inl ⟨a, rfl, ⟨vs, SqL.of (w1.fr _ _ hs)⟩, hr _ _ F1 S1 H1 _ l1 w1 (iter_l rs z fun G2 F2 S2 H2 lg l2 w2 _ => ⟨vs, SqL.of (w2.fr _ _ (l2 _ _ hs)), rs.le l2⟩) h1⟩
          | rls es =>
            cases ed
            obtain ⟨a, vs, rfl, hs, rs, z⟩ := r1
            exact .inl ⟨a, rfl, ⟨vs, SqL.le w1.fr hs⟩, hr _ _ F1 S1 H1 _ l1 w1 (iter_l rs z fun G2 F2 S2 H2 lg l2 w2 _ => ⟨vs, SqL.le (l2.trans w2.fr) hs, rs.le l2⟩) h1⟩
          | ref q =>
            obtain rfl : v = .ref q := r1
            simp only [items] at ed
            split at ed
            · rename_i es eq
              cases ed
              obtain ⟨vs, g1, g2, g3⟩ := lstAt w1 eq
              exact .inl ⟨q, rfl, ⟨vs, SqL.of g1⟩, hr _ _ F1 S1 H1 _ l1 w1 (iter_l g2 g3 fun G2 F2 S2 H2 lg l2 w2 c => by
                obtain ⟨us, k1, k2, _⟩ := lstAt w2 c.1
                exact ⟨us, SqL.of k1, k2⟩) h1⟩
            · cases ed
          | _ => cases ed
        · exact h1.elim, he⟩⟩
/-! range -/
def rngD (lo : Int) (n : Nat) : List D := (List.range n).map fun i => .int (lo + (i : Nat))
theorem rngD_len (lo : Int) (n : Nat) : (rngD lo n).length = n := by simp [rngD]
theorem iter_r {K : PySem.W.Frag} {G F : Hp} {lo : Int} {n : Nat} (hn : n ≤ sizeLine) : IterOk K G F (rngD lo n) none (Itr lo n) := by
  refine ⟨⟨fun i H hi _ => ?_, fun H _ => ?_, fun i H x H' hi _ y G1 F1 S1 lg l w c => ?_⟩, by rw [rngD_len]; exact hn⟩
  · rw [rngD_len] at hi; exact hi
  · rw [rngD_len]; exact Nat.le_refl _
  · obtain ⟨rfl, rfl⟩ := y
    rw [rngD_len] at hi
    exact ⟨.int (lo + (i : Nat)), F1, by simp [rngD, hi], Le.rfl', w, rfl⟩
def hiR1 (t : HTA) : HTI := fun env S R E => t env S (fun ds S1 => match ds with
  | [.int j] => j ≤ 16777216 ∧ -(2 ^ 62) ≤ j ∧ R (rngD 0 j.toNat) none S1
  | _ => False) E
def hiR2 (t : HTA) : HTI := fun env S R E => t env S (fun ds S1 => match ds with
  | [.int i, .int j] => (j - i ≤ 16777216 ∧ -(2 ^ 62) ≤ i ∧ i < 2 ^ 62 ∧ -(2 ^ 62) ≤ j ∧ j < 2 ^ 62) ∧ R (rngD i (j - i).toNat) none S1
  | _ => False) E
theorem line_int {j : Int} (h : j ≤ 16777216) : j.toNat ≤ sizeLine := by rw [sizeLine_eq]; omega
theorem hir1 (gn : Gn B "range") (hm : B.mg "range" = none) (ha : HA B [a] tr) (hs : ∀ env, starEach [a] env = [(false, eval a env)] := by intro _; rfl) : HI B tg (.Call (.Name "range" p) [a] [] pos) (hiR1 tr) :=
  ⟨fun X W ok tk => PI.imp (pi_range1 (ok.gl gn) (by rw [ok.em]; exact hm) (ha.run X W ok tk) (hs _)) fun σ H R ⟨G, F, S, env, R0, E0, rn, wd, h, hr, he⟩ =>
    ⟨G, F, S, env, _, E0, rn, wd, h, fun ds vs F1 S1 H1 l1 w1 r1 h1 => by
      dsimp only at h1
      split at h1
      · obtain ⟨v, rfl, r⟩ := r1.one_inv
        obtain ⟨z1, z2, h1⟩ := h1
        exact ⟨_, by rw [show v = V.int _ from r], z2, by omega, hr _ _ F1 S1 H1 _ l1 w1 (iter_r (line_int z1)) h1⟩
      · exact h1.elim, he⟩⟩
theorem hir2 (gn : Gn B "range") (hm : B.mg "range" = none) (ha : HA B [a, b] tr) (hs : ∀ env, starEach [a, b] env = [(false, eval a env), (false, eval b env)] := by intro _; rfl) (hs2 : ∀ env, starEach [b] env = [(false, eval b env)] := by intro _; rfl) :
    HI B tg (.Call (.Name "range" p) [a, b] [] pos) (hiR2 tr) :=
  ⟨fun X W ok tk => PI.imp (pi_range2 (ok.gl gn) (by rw [ok.em]; exact hm) (ha.run X W ok tk) (hs _) (hs2 _)) fun σ H R ⟨G, F, S, env, R0, E0, rn, wd, h, hr, he⟩ =>
    ⟨G, F, S, env, _, E0, rn, wd, h, fun ds vs F1 S1 H1 l1 w1 r1 h1 => by
      dsimp only at h1
      split at h1
      · obtain ⟨v, u, rfl, r, r2⟩ := r1.two_inv
        obtain ⟨⟨z1, z2, z3, z4, z5⟩, h1⟩ := h1
        exact ⟨_, _, by rw [show v = V.int _ from r, show u = V.int _ from r2], ⟨z2, z3, z4, z5⟩, hr _ _ F1 S1 H1 _ l1 w1 (iter_r (line_int z1)) h1⟩
      · exact h1.elim, he⟩⟩
/-! ### for -/
def floop (p : Pt) (tb : HTS) (k : Ck) : List D → HEnds → HEnv → Sto → Prop
  | [], D, env, S => chk k S (D.nx env S)
  | d :: ds, D, env, S => chk k S (match bindD p d env with
    | some env1 => tb { D with nx := floop p tb k ds D, ct := floop p tb k ds D, bk := D.nx } env1 S
    | none => False)
def hFor (ti : HTI) (p : Pt) (tb : HTS) : HTS := fun D env S => ti env S (fun ds k S1 => floop p tb k ds D env S1) fun x S1 => D.ex x env S1
theorem floop_chk {p : Pt} {tb : HTS} {k : Ck} {ds : List D} {D : HEnds} {env : HEnv} {S : Sto} (h : floop p tb k ds D env S) : chk k S True := by
  cases ds with
  | nil => exact chk_t h
  | cons d ds => exact chk_t h
theorem hfor {q : Pt} {body : List Stmt} {ti : HTI} {tb : HTS} (hi : HI B tg e ti) (hg : HP B tg q) (hb : HSs B body tb) (hs : ∀ env x, foldedSetIterable e env x = pure x := by intro _ _; rfl) : HS B (.For tg e body [] pos) (hFor ti q tb) :=
  ⟨fun X W ok tk => PS.imp (ps_for ok.own ok.calm (hi.run X W ok tk) (hg.run X ok) (hb.run X W ok tk) (hs _)) fun D σ H ⟨G, F, S, env, E, rn, wd, h, o⟩ =>
    ⟨G, F, S, env, _, _, rn, wd, h, fun ds k F1 S1 H1 J l1 w1 it h1 => by
      have o1 := o.le l1
      refine for_it it.w (fun i σ' H' => ∃ F2 S2 env2, Le F1 F2 ∧ RepN B.K F2 env2 σ' ∧ Wd B.K G F2 S2 H' ∧ floop q tb k (ds.drop i) E env2 S2) ⟨F1, S1, env, Le.rfl', rn.le l1, w1, by simpa using h1⟩
        (fun i σ' H' _ ⟨F2, S2, env2, l2, rn2, w2, q2⟩ => ⟨F2, S2, l2, w2, floop_chk q2⟩) (fun i x σ' H' H'' hi ⟨F2, S2, env2, l2, rn2, w2, q2⟩ y => ?_) (fun σ' H' ⟨F2, S2, env2, l2, rn2, w2, q2⟩ => ?_)
      · obtain ⟨d, F3, e1, l3, w3, r3⟩ := y G F2 S2 Le.rfl' l2 w2 (floop_chk q2)
        have e2 : ds.drop i = d :: ds.drop (i + 1) := by
          rw [List.drop_eq_getElem_cons hi]
          rw [List.getElem?_eq_getElem hi] at e1
          cases e1; rfl
        rw [e2] at q2
        have q3 := chk_a (show chk k S2 (match bindD q d env2 with | some env1 => tb { E with nx := floop q tb k (ds.drop (i + 1)) E, ct := floop q tb k (ds.drop (i + 1)) E, bk := E.nx } env1 S2 | none => False) from q2)
        split at q3
        · rename_i env3 eb
          refine bind_ok w3.fr q r3 (rn2.le l3) eb fun σ1 rn3 _ => ⟨G, F3, S2, env3, _, rn3, w3, q3, ?_⟩
          have l13 := l2.trans l3
          have nx : OkN B.K G F3 (floop q tb k (ds.drop (i + 1)) E) (fun σ' H' => ∃ F2 S2 env2, Le F1 F2 ∧ RepN B.K F2 env2 σ' ∧ Wd B.K G F2 S2 H' ∧ floop q tb k (ds.drop (i + 1)) E env2 S2) :=
            fun env4 σ4 F4 S4 H4 l4 w4 rn4 q4 => ⟨F4, S4, env4, l13.trans l4, rn4, w4, q4⟩
          exact ⟨nx, (o1.le l13).rt, (o1.le l13).nx, nx, (o1.le l13).ex⟩
        · exact q3.elim
      · rw [List.drop_length] at q2
        exact (o1.le l2).nx env2 σ' F2 S2 H' Le.rfl' w2 rn2 (chk_a q2), o.exc rn⟩⟩
end
end Hy

set_option Elab.async false
set_option linter.all false
set_option maxRecDepth 100000
set_option maxHeartbeats 4000000
set_option autoImplicit false
namespace Hy
open PySem PySem.Spec PyProof.Rows L2

/-! ### comprehensions -/
def wipeN (env : HEnv) : List Nat → HEnv
  | [] => env
  | v :: vs => (wipeN env vs).set v none
theorem wipe_rep {K : PySem.W.Frag} {F : Hp} {env : HEnv} {σ : St} (rn : RepN K F env σ) : ∀ vs : List Nat, RepN K F (wipeN env vs) (wipe σ vs)
  | [] => rn
  | v :: vs => (wipe_rep rn vs).unset v
theorem wipe_at (σ : St) (j : Nat) : ∀ vs : List Nat, (wipe σ vs)[j]? = if j ∈ vs then (if j < σ.length then some none else none) else σ[j]?
  | [] => by simp [wipe]
  | v :: vs => by
    unfold wipe
    by_cases e : v = j
    · subst e
      rw [if_pos List.mem_cons_self]
      by_cases l : v < σ.length
      · rw [if_pos l, List.getElem?_set_self (by rw [wipe_length]; exact l)]
      · rw [if_neg l, List.getElem?_eq_none (by rw [List.length_set, wipe_length]; omega)]
    · rw [List.getElem?_set_ne e, wipe_at σ j vs]
      have : j ∈ v :: vs ↔ j ∈ vs := by simp [Ne.symm e]
      simp only [this]
theorem wipe_same {σ σ2 : St} {vs ws : List Nat} (h : SameBut ws (wipe σ vs) σ2) (hs : ∀ j ∈ ws, j ∈ vs) : wipe σ2 vs = wipe σ vs := by
  have hl : σ2.length = σ.length := by have := h.1; rw [wipe_length] at this; exact this.symm
  refine List.ext_getElem? fun j => ?_
  rw [wipe_at, wipe_at, hl]
  by_cases e : j ∈ vs
  · rw [if_pos e, if_pos e]
  · rw [if_neg e, if_neg e]
    have := h.2 j fun z => e (hs j z)
    rw [this, wipe_at, if_neg e]

abbrev Bs.blk (B : Bs) (scope : Scope) : Bs := { B with sc := relS scope B.sc, top := false, own := fun x => scope.names.lookup x == some .cell }
theorem OkC.blk {B : Bs} {X : Cx} (ok : OkC B X) (s : Shared) (H : Hp) (scope : Scope) (C : Addr) (cl : List (Str × Addr)) (fp : List Addr) : OkC (B.blk scope) (X.blk s H scope (compEnvC scope cl C X.env) fp) where
  eP := ok.eP
  ew := ok.ew
  eK := ok.eK
  em := ok.em
  eb := ok.eb
  eN := ok.eN
  es := by show relS scope X.env.scope = relS scope B.sc; rw [ok.es]
  nd := ok.nd
  calm := ok.calm
  room := ok.room
  fn := fun _ h _ => h
  own := PassesOwn.never
  stk := fun h => nomatch h
structure HTs (B : Bs) (ifs : List Expr) (t : HTT) : Prop where
  run : ∀ (X : Cx) (W : WX), OkC B X → Takes X W → PTs X ifs (lT B.K W t)
section
variable {B : Bs} {e elt tg iter c : Expr} {ifs : List Expr} {te : HTE} {tc : HTT} {ti : HTI} {p : Pt} {pos : Pos} {scope : Scope}
def hYes : HTT := fun _ S Q _ => Q true S
theorem PTs.imp {X : Cx} {t t' : TT} (h : PTs X ifs t) (i : ∀ σ H Q, t' σ H Q → t σ H Q) : PTs X ifs t' := ⟨fun pins s σ H Q I q => h.run pins s σ H Q I (i σ H Q q)⟩
theorem hif0 : HTs B [] hYes := ⟨fun X W ok tk => PTs.imp pts_nil fun σ H Q ⟨G, F, S, env, Q0, E0, rn, wd, h, hq, he⟩ => hq true F S H Le.rfl' wd h⟩
theorem hif1 (h : HT B c tc) : HTs B [c] tc := ⟨fun X W ok tk => pts_one (h.run X W ok tk)⟩
def cloop (p : Pt) (tt : HTT) (te : HTE) (k : Ck) : List D → List D → HEnv → Sto → HK → Prop
  | [], acc, env, S, Q => chk k S (Q (.lst acc) S)
  | d :: ds, acc, env, S, Q => chk k S (match bindD p d env with
    | some env1 => tt env1 S (fun b S1 => match b with
      | true => te env1 S1 (fun y S2 => cloop p tt te k ds (acc ++ [y]) env S2 Q) fun _ _ => False
      | false => cloop p tt te k ds acc env S1 Q) fun _ _ => False
    | none => False)
theorem cloop_chk {p : Pt} {tt : HTT} {te : HTE} {k : Ck} {ds acc : List D} {env : HEnv} {S : Sto} {Q : HK} (h : cloop p tt te k ds acc env S Q) : chk k S True := by
  cases ds with
  | nil => exact chk_t h
  | cons d ds => exact chk_t h
def hLc (ti : HTI) (p : Pt) (tt : HTT) (te : HTE) (vs : List Nat) : HTE := fun env S Q E => ti env S (fun ds k S1 => cloop p tt te k ds [] (wipeN env vs) S1 Q) E
theorem no_ex {K : PySem.W.Frag} {G F : Hp} {E : XK} : OkE K G F (fun _ _ => False) E := fun _ _ _ _ _ _ _ _ _ h => h.elim
theorem lc_lift {K : PySem.W.Frag} {W : WX} {vs : List Nat} (hv : ∀ j ∈ slots p, j ∈ vs) (σ : St) (H : Hp) (Q : VK) (h : lE K W (hLc ti p tc te vs) σ H Q) :
    tLc (lI K W ti) (gV K p) (lT K (fun _ _ _ _ => False) tc) (lE K (fun _ _ _ _ => False) te) vs σ H Q := by
  obtain ⟨G, F, S, env, Q0, E0, rn, wd, h, hq, he⟩ := h
  refine ⟨G, F, S, env, _, E0, rn, wd, h, fun ds k F1 S1 H1 J l1 w1 it h1 => ?_, he⟩
  intro Dd hD
  have hGD : G Dd = none := by
    cases q : G Dd with
    | none => rfl
    | some o => rw [(w1.gr Dd o q).1] at hD; cases hD
  have leG : ∀ o, Le G (upd G Dd o) := fun o => Le.upd hGD
  refine lc_it it.w (fun i H' => ∃ F2 S2 acc us, Le F1 F2 ∧ Wd K (upd G Dd (.lst us)) F2 S2 H' ∧ Reps K F2 acc us ∧ acc.length ≤ i ∧ cloop p tc te k (ds.drop i) acc (wipeN env vs) S2 Q0)
    ⟨F1, S1, [], [], Le.rfl', w1.newG _ hD, rfl, Nat.le_refl _, by simpa using h1⟩ (fun i H' _ ⟨F2, S2, acc, us, l2, w2, _, _, q2⟩ => ⟨F2, S2, l2, w2.lessG (leG _), cloop_chk q2⟩)
    (fun i x H' H'' hi ⟨F2, S2, acc, us, l2, w2, ra, hz, q2⟩ y => ?_) (fun H' ⟨F2, S2, acc, us, l2, w2, ra, hz, q2⟩ => ?_)
  · obtain ⟨d, F3, e1, l3, w3, r3⟩ := y _ F2 S2 (leG _) l2 w2 (cloop_chk q2)
    have e2 : ds.drop i = d :: ds.drop (i + 1) := by
      rw [List.drop_eq_getElem_cons hi]
      rw [List.getElem?_eq_getElem hi] at e1
      cases e1; rfl
    rw [e2] at q2
    have q3 := chk_a (show chk k S2 (match bindD p d (wipeN env vs) with
      | some env1 => tc env1 S2 (fun b S1 => match b with
        | true => te env1 S1 (fun y S2 => cloop p tc te k (ds.drop (i + 1)) (acc ++ [y]) (wipeN env vs) S2 Q0) fun _ _ => False
        | false => cloop p tc te k (ds.drop (i + 1)) acc (wipeN env vs) S1 Q0) fun _ _ => False
      | none => False) from q2)
    split at q3
    · rename_i env3 eb
      refine bind_ok w3.fr p r3 (wipe_rep (rn.le (l1.trans (l2.trans l3))) vs) eb fun σ1 rn3 sb => ⟨wipe_same sb hv, ?_⟩
      refine ⟨_, F3, S2, env3, _, _, rn3, w3, q3, fun b F4 S4 H4 l4 w4 q4 => ?_, no_ex⟩
      cases b with
      | false =>
        rw [if_neg Bool.false_ne_true]
        exact ⟨F4, S4, acc, us, l2.trans (l3.trans l4), w4, (ra.le l3).le l4, by omega, q4⟩
      | true =>
        rw [if_pos rfl]
        refine ⟨_, F4, S4, env3, _, _, rn3.le l4, w4, q4, fun y v F5 S5 H5 l5 w5 r5 q5 => ?_, no_ex⟩
        obtain ⟨g1, _, _⟩ := w5.gr Dd _ upd_same
        have hi2 : i < sizeLine := Nat.lt_of_lt_of_le hi it.z
        refine ⟨us, g1, by rw [ra.len]; omega, F5, S5, acc ++ [y], us ++ [v], l2.trans (l3.trans (l4.trans l5)), w5.putG _, ((ra.le l3).le (l4.trans l5)).append (Reps.one r5), by rw [List.length_append]; simp; omega, q5⟩
    · exact q3.elim
  · rw [List.drop_length] at q2
    obtain ⟨w3, l3⟩ := w2.endG hGD
    exact hq (.lst acc) _ _ S2 H' (l1.trans (l2.trans l3)) w3 ⟨Dd, us, rfl, upd_same, ra.le l3, Nat.le_trans hz it.z⟩ (chk_a q2)
theorem hlc (own : List (Str × Nat)) (hi : HI B tg iter ti) (ok : blkC B.N B.sc scope own = true) (hv : ∀ j ∈ slots p, j ∈ own.map (·.2)) (hg : HP (B.blk scope) tg p) (ht : HTs (B.blk scope) ifs tc) (he : HE (B.blk scope) elt te)
    (hs : ∀ env x, foldedSetIterable iter env x = pure x := by intro _ _; rfl) : HE B (.ListComp elt [⟨tg, iter, ifs, 0⟩] scope pos) (hLc ti p tc te (own.map (·.2))) :=
  ⟨fun X W okc tk => PE.imp (pe_lc (own := own) okc.calm okc.nd (hi.run X W okc tk) (by rw [okc.eN, okc.es]; exact blkOk_by ok) (fun s H C cl fp => hg.run _ (okc.blk s H scope C cl fp)) (fun s H C cl fp => ht.run _ _ (okc.blk s H scope C cl fp) takes0)
    (fun s H C cl fp => he.run _ _ (okc.blk s H scope C cl fp) takes0) (hs _)) fun σ H Q h => lc_lift hv σ H Q h⟩
/-- y = [..] on one line -/
theorem hsetlc (i : Nat) {y : Str} {py spos : Pos} (own : List (Str × Nat)) (hi : HI B tg iter ti) (ok : blkC B.N B.sc scope own = true) (hv : ∀ j ∈ slots p, j ∈ own.map (·.2)) (hg : HP (B.blk scope) tg p) (ht : HTs (B.blk scope) ifs tc) (he : HE (B.blk scope) elt te)
    (hN : B.N[i]? = some y := by rfl) (hyl : B.sc.names.lookup y = some .local := by rfl) (hk : B.sc.kind = .function := by rfl) (hl : (py.line == pos.line) = true := by rfl) (ha : (scope.names.any fun (n, k) => n == y && (k == .local || k == .cell)) = false := by decide +kernel)
    (hs : ∀ env x, foldedSetIterable iter env x = pure x := by intro _ _; rfl) : HS B (.Assign [.Name y py] (.ListComp elt [⟨tg, iter, ifs, 0⟩] scope pos) spos) (hSet i (hLc ti p tc te (own.map (·.2)))) :=
  ⟨fun X W okc tk => PS.imp (ps_setLc (own := own) (i := i) okc.calm okc.nd (by rw [okc.eN]; exact hN) (by rw [okc.es]; exact hyl) (sw_true (by rw [okc.es]; exact hk) (by rw [okc.es]; exact hyl) hl ha) (hi.run X W okc tk) (by rw [okc.eN, okc.es]; exact blkOk_by ok) (fun s H C cl fp => hg.run _ (okc.blk s H scope C cl fp)) (fun s H C cl fp => ht.run _ _ (okc.blk s H scope C cl fp) takes0)
    (fun s H C cl fp => he.run _ _ (okc.blk s H scope C cl fp) takes0) (hs _)) fun D σ H ⟨G, F, S, env, E, rn, wd, h, o⟩ =>
    lc_lift (W := W) hv σ H _ ⟨G, F, S, env, _, _, rn, wd, h, fun d v F1 S1 H1 l w r q => o.nx _ _ F1 S1 H1 l w ((rn.le l).set r i) q, o.exc rn⟩⟩
end
end Hy

set_option Elab.async false
set_option linter.all false
set_option maxRecDepth 100000
set_option maxHeartbeats 4000000
set_option autoImplicit false
namespace Hy
open PySem PySem.Spec PyProof.Rows L2

/-! ### seen otherwise -/
/-- d in S may be seen as d' in S' -/
def Vw (d : D) (S : Sto) (d' : D) (S' : Sto) : Prop := ∀ K G F H v, Wd K G F S H → Rep K F d v → ∃ F', Le F F' ∧ Wd K G F' S' H ∧ Rep K F' d' v
theorem Vw.rfl' {d : D} {S : Sto} : Vw d S d S := fun K G F H v w r => ⟨F, Le.rfl', w, r⟩
theorem Vw.less {d : D} {S S' : Sto} (h : SLe S' S) : Vw d S d S' := fun K G F H v w r => ⟨F, Le.rfl', w.less h, r⟩
theorem Vw.trans {d d1 d2 : D} {S S1 S2 : Sto} (h : Vw d S d1 S1) (k : Vw d1 S1 d2 S2) : Vw d S d2 S2 := fun K G F H v w r => by
  obtain ⟨F1, l1, w1, r1⟩ := h K G F H v w r
  obtain ⟨F2, l2, w2, r2⟩ := k K G F1 H v w1 r1
  exact ⟨F2, l1.trans l2, w2, r2⟩
/-- an object frozen -/
theorem Wd.freeze {K : PySem.W.Frag} {G F : Hp} {S : Sto} {H : Hp} (W : Wd K G F S H) {p : Addr} {m : M} {o : HO} (h : S p = some m) (ho : H p = some o) : Wd K G (upd F p o) (dl S p) H ∧ Le F (upd F p o) := by
  have hF := W.dj p m h
  refine ⟨⟨fun a u e => ?_, fun a u e => ?_, fun a n e => ?_, fun a n e => ?_⟩, Le.upd hF⟩
  · obtain ⟨h1, h2, h3⟩ := W.gr a u e
    have ha : a ≠ p := fun z => by subst z; rw [h] at h3; cases h3
    exact ⟨h1, by rw [upd_ne ha]; exact h2, by rw [dl_ne ha]; exact h3⟩
  · by_cases ha : a = p
    · subst ha; rw [upd_same] at e; cases e; exact ho
    · rw [upd_ne ha] at e; exact W.fr a u e
  · by_cases ha : a = p
    · subst ha; rw [dl_same] at e; cases e
    · rw [dl_ne ha] at e
      obtain ⟨u, q, r⟩ := W.st a n e
      exact ⟨u, q, r.le (Le.upd hF)⟩
  · by_cases ha : a = p
    · subst ha; rw [dl_same] at e; cases e
    · rw [dl_ne ha] at e; rw [upd_ne ha]; exact W.dj a n e
theorem Vw.lst {S : Sto} {p : Addr} {ds : List D} (h : S p = some (.lst ds)) : Vw (.ref p) S (.lst ds) (dl S p) := fun K G F H v w r => by
  obtain ⟨vs, h1, h2, h3⟩ := lstAt w h
  obtain ⟨w', l'⟩ := w.freeze h h1
  exact ⟨_, l', w', p, vs, r, upd_same, h2.le l', h3⟩
theorem Vw.obj {S : Sto} {p : Addr} {c : Nat} {ds : List D} (h : S p = some (.ins c ds)) : Vw (.ref p) S (.obj c ds) (dl S p) := fun K G F H v w r => by
  obtain ⟨o, h1, dx, vs, rfl, h2⟩ := w.st p _ h
  obtain ⟨w', l'⟩ := w.freeze h h1
  exact ⟨_, l', w', p, dx, vs, r, upd_same, h2.le l'⟩
theorem Wd.grow {K : PySem.W.Frag} {G F : Hp} {S : Sto} {H : Hp} (W : Wd K G F S H) {p : Addr} (o : HO) (h : H p = none) : Wd K G F S (upd H p o) := (W.newG o h).lessG (Le.upd (by
  cases q : G p with
  | none => rfl
  | some u => rw [(W.gr p u q).1] at h; cases h))

/-! ### what a def promises -/
abbrev HSp := List D → Sto → HK → HK → Prop
/-- handed back: less is known, or it is seen otherwise -/
def Rt (Q : HK) (d : D) (S : Sto) : Prop := ∃ d' S', Vw d S d' S' ∧ Q d' S'
theorem Rt.mk {Q : HK} {d : D} {S : Sto} (h : Q d S) : Rt Q d S := ⟨d, S, Vw.rfl', h⟩
theorem Rt.less {Q : HK} {d : D} {S S' : Sto} (l : SLe S' S) (h : Q d S') : Rt Q d S := ⟨d, S', Vw.less l, h⟩
def Rx (E : HK) (x : D) (S : Sto) : Prop := ∃ S', SLe S' S ∧ E x S'
theorem Rx.mk {Q : HK} {d : D} {S : Sto} (h : Q d S) : Rx Q d S := ⟨S, SLe.rfl', h⟩
theorem Rx.less {Q : HK} {d : D} {S S' : Sto} (l : SLe S' S) (h : Q d S') : Rx Q d S := ⟨S', l, h⟩
theorem Rt.ok {K : PySem.W.Frag} {G F : Hp} {Q0 : HK} {Q : VK} (h : OkQ K G F Q0 Q) : OkQ K G F (Rt Q0) Q := fun d v F' S' H' l w r ⟨d', S2, vw, q⟩ => by
  obtain ⟨F2, l2, w2, r2⟩ := vw K G F' H' v w r
  exact h d' v F2 S2 H' (l.trans l2) w2 r2 q
theorem Rx.ok {K : PySem.W.Frag} {G F : Hp} {E0 : HK} {E : XK} (h : OkE K G F E0 E) : OkE K G F (Rx E0) E := fun x cls dd F' S' H' l w r ⟨S2, le, q⟩ => h x cls dd F' S2 H' l (w.less le) r q

def lSp (K : PySem.W.Frag) (n : Nat) (sp : HSp) : Sp := fun vs H Q E => vs.length = n ∧ ∃ G F S ds Q0 E0, Reps K F ds vs ∧ Wd K G F S H ∧ sp ds S Q0 E0 ∧ OkQ K G F Q0 Q ∧ OkE K G F E0 E
/-- the def at f keeps sp, n parameters, the last ones handed in as dds where they are defaults -/
structure FnAt (B : Bs) (k : Nat) (f : Addr) (n : Nat) (dds : List D) (sp : HSp) : Prop where
  ex : ∃ (fd : FuncData) (ps : List Str) (ds : List Value) (dvs : List V), ps.length = n ∧ Binds B.K fd ps ds ∧ Vals dvs ds ∧ (∀ F, Reps B.K F dds dvs) ∧ FnOk B.P B.w B.K B.mg B.base (CX B.P B.w) k f fd ps (lSp B.K n sp)
theorem FnAt.mono {B : Bs} {j k : Nat} {f : Addr} {n : Nat} {dds : List D} {sp : HSp} (h : FnAt B j f n dds sp) (l : j ≤ k) : FnAt B k f n dds sp := by
  obtain ⟨fd, ps, ds, dvs, h1, h2, h3, h4, h5⟩ := h.ex
  exact ⟨fd, ps, ds, dvs, h1, h2, h3, h4, h5.mono l⟩
theorem FnAt.imp {B : Bs} {k : Nat} {f : Addr} {n : Nat} {dds : List D} {sp sp' : HSp} (h : FnAt B k f n dds sp) (i : ∀ ds S Q E, sp' ds S Q E → sp ds S Q E) : FnAt B k f n dds sp' := by
  obtain ⟨fd, ps, ds, dvs, h1, h2, h3, h4, h5⟩ := h.ex
  exact ⟨fd, ps, ds, dvs, h1, h2, h3, h4, h5.imp fun vs H Q E ⟨hn, G, F, S, ds, Q0, E0, a, b, c, d, e⟩ => ⟨hn, G, F, S, ds, Q0, E0, a, b, i _ _ _ _ c, d, e⟩⟩
/-- the module's def of that name -/
structure HFn (B : Bs) (k : Nat) (x : Str) (n : Nat) (dds : List D) (sp : HSp) : Prop where
  mg : B.mg x = some (.ref (He.ga B.K x))
  kp : PySem.W.keepIn B.K (.ref (He.ga B.K x)) = true
  at_ : FnAt B k (He.ga B.K x) n dds sp
def startE (n : Nat) (ds : List D) : HEnv := ds.map some ++ List.replicate (n - ds.length) none
theorem start_rep {K : PySem.W.Frag} {F : Hp} {N : List Str} {ds : List D} {vs : List V} (r : Reps K F ds vs) : RepN K F (startE N.length ds) (L2.start N vs) := by
  have hl := r.len
  refine ⟨by unfold startE L2.start; simp [hl], fun i d e => ?_⟩
  unfold startE at e
  unfold L2.start
  by_cases hi : i < ds.length
  · rw [List.getElem?_append_left (by simpa using hi)] at e
    rw [List.getElem?_append_left (by simpa [hl] using hi)]
    rw [List.getElem?_map] at e ⊢
    obtain ⟨d', h1, h2⟩ := Option.map_eq_some_iff.mp e
    cases h2
    obtain ⟨v, h3, h4⟩ := r.at h1
    exact ⟨v, by rw [h3]; rfl, h4⟩
  · rw [List.getElem?_append_right (by simpa using hi)] at e
    obtain ⟨h1, h2⟩ := List.getElem?_eq_some_iff.mp e
    rw [List.getElem_replicate] at h2
    cases h2
/-- THE RULE for a def: its body's reading keeps the promise -/
theorem fnAt {B : Bs} {x qual : Str} {params : Arguments} {body : List Stmt} {scope : Scope} {dvs : List V} {f : Addr} {fd : FuncData} {N ps : List Str} {k : Nat} {sp : HSp} {t : HTS} {dds : List D} {ds : List Value}
    (F : FunD B.K x qual params body scope dvs [] f fd) (hb : Binds B.K fd ps ds) (hv : Vals dvs ds) (hd : ∀ F, Reps B.K F dds dvs) (S : FnScope N ps scope) (hbody : HSs { B with k := k, N := N, sc := scope, top := true, own := fun _ => true } body t)
    (hr : ∀ ds S Q E, ds.length = ps.length → sp ds S Q E → t { nx := fun _ S' => Rt Q .non S', rt := Rt Q, ex := fun x _ S' => Rx E x S' } (startE N.length ds) S) : FnAt B (k + 1) f ps.length dds sp := by
  refine ⟨fd, ps, ds, dvs, rfl, hb, hv, hd, F.ok S (fun vs H Q E h => h.1) fun cdv A outer s H vs Q E hroom h => ?_⟩
  obtain ⟨hn, G, F0, S0, ds, Q0, E0, rs, wd, hsp, hq, he⟩ := h
  refine ⟨_, hbody.run _ (fun cls d _ H => E cls d H) ⟨rfl, rfl, rfl, rfl, rfl, rfl, rfl, S.nd, rfl, hroom, fun _ _ _ => rfl, passes_of rfl, fun _ => ⟨rfl, rfl, rfl⟩⟩ (takes_of rfl rfl rfl rfl), ?_⟩
  refine ⟨G, F0, S0, startE N.length ds, _, start_rep rs, wd, hr ds S0 Q0 E0 (by rw [← rs.len]; exact hn) hsp, ⟨fun env σ F' S' H' l w rn ⟨d', S2, vw, q⟩ => ?_, Rt.ok hq, fun _ _ _ _ _ _ _ _ h => h.elim, fun _ _ _ _ _ _ _ _ h => h.elim, fun x cls dd env σ F' S' H' l w rn r h => Rx.ok he x cls dd F' S' H' l w r h⟩⟩
  obtain ⟨F2, l2, w2, r2⟩ := vw B.K G F' H' .non w rfl
  exact hq d' .non F2 S2 H' (l.trans l2) w2 r2 q

section
variable {B : Bs} {e a b o : Expr} {es : List Expr} {ta tb te to : HTE} {tr : HTA} {x m : Str} {p pos apos : Pos} {k n : Nat} {dds : List D} {sp : HSp}
/-! ### calls of defs -/
def hCall (n : Nat) (dds : List D) (sp : HSp) (t : HTA) : HTE := fun env S Q E => t env S (fun ds S1 => match Nat.beq (ds ++ dds).length n with
  | true => sp (ds ++ dds) S1 Q E
  | false => False) E
theorem beq_n {m n : Nat} {A : Prop} (h : match Nat.beq m n with | true => A | false => False) : m = n ∧ A := by
  cases e : Nat.beq m n with
  | false => rw [e] at h; exact h.elim
  | true => rw [e] at h; exact ⟨Nat.eq_of_beq_eq_true e, h⟩
theorem OkC.fnOk {X : Cx} (ok : OkC B X) {f : Addr} {fd : FuncData} {ps : List Str} {s : Sp} (h : FnOk B.P B.w B.K B.mg B.base (CX B.P B.w) k f fd ps s) : FnOk X.prog X.w X.K X.mg X.base (CX X.prog X.w) k f fd ps s := by
  rw [ok.eP, ok.ew, ok.eK, ok.em, ok.eb]; exact h
theorem hcall (h : HFn B k x n dds sp) (hk : k ≤ B.k) (gn : Gn B x) (ha : HA B (e :: es) tr) (hdb : (x == ("__debug__" : Str)) = false := by decide) (he : ∀ env, starEach (e :: es) env = (false, eval e env) :: starEach es env := by intro _; rfl)
    (hpl : ∀ env, (backTo pos (starEach es env)).any (·.1) = false := by intro _; rfl) : HE B (.Call (.Name x p) (e :: es) [] pos) (hCall n dds sp tr) :=
  ⟨fun X W ok tk => by
    obtain ⟨fd, ps, ds, dvs, hn, hb, hv, hd, hf⟩ := h.at_.ex
    refine PE.imp (pe_callSD (E := WE W) (ok.fnOk hf) (ok.room.mono hk) (ok.gl gn) (by rw [ok.em]; exact h.mg) (by rw [ok.eK]; exact h.kp) (by rw [ok.eK]; exact hb) hv (fun σ => passAt tk σ) (ha.run X W ok tk) hdb (he _) (hpl _)) fun σ H Q ⟨G, F, S, env, Q0, E0, rn, wd, h, hq, he⟩ => ?_
    refine ⟨G, F, S, env, _, E0, rn, wd, h, fun ds vs F1 S1 H1 l1 w1 r1 h1 => ?_, he⟩
    obtain ⟨z, h1⟩ := beq_n h1
    have rr := r1.append (hd F1)
    exact ⟨by rw [rr.len]; exact z, G, F1, S1, _, Q0, E0, rr, w1, h1, hq.le l1, he.le l1⟩⟩
/-! ### attributes -/
/-- where a class has the attribute -/
structure Attr (K : PySem.W.Frag) (f : Str) (ix : Nat → Option Nat) : Prop where
  ok : ∀ c i, ix c = some i → Cls K (cad K c) ∧ NoAttr K (cad K c) f ∧ (flds c)[i]? = some f ∧ (flds c).Nodup ∧ (flds c).length ≤ 900
def gFld (ix : Nat → Option Nat) : G1 := fun x S Q => match x with
  | .obj c ds => match ix c with
    | some i => match ds[i]? with
      | some d => Q d S
      | none => False
    | none => False
  | .ref q => match S q with
    | some (.ins c ds) => match ix c with
      | some i => match ds[i]? with
        | some d => Q d S
        | none => False
      | none => False
    | _ => False
  | _ => False
theorem lookup_zip {f : Str} {v : V} : ∀ {ns : List Str} {vs : List V} {i : Nat}, ns.Nodup → ns[i]? = some f → vs[i]? = some v → (ns.zip vs).lookup f = some v
  | [], _, _, _, h, _ => by simp at h
  | n :: ns, [], _, _, _, h => by simp at h
  | n :: ns, v' :: vs, 0, _, h1, h2 => by
    simp at h1 h2; subst h1 h2; simp
  | n :: ns, v' :: vs, i + 1, hd, h1, h2 => by
    have hn : f ≠ n := fun z => by
      subst z
      exact (List.nodup_cons.mp hd).1 (List.mem_of_getElem? (by simpa using h1))
    have : (f == n) = false := by simpa using hn
    rw [List.zip_cons_cons, List.lookup_cons, this]
    exact lookup_zip (List.nodup_cons.mp hd).2 (by simpa using h1) (by simpa using h2)
theorem insAt {K : PySem.W.Frag} {G F : Hp} {S : Sto} {H : Hp} {q : Addr} {c : Nat} {ds : List D} (w : Wd K G F S H) (e : S q = some (.ins c ds)) : ∃ dx vs, H q = some (.ins (cad K c) dx ((flds c).zip vs)) ∧ Reps K F ds vs := by
  obtain ⟨o, h1, dx, vs, rfl, h2⟩ := w.st q _ e
  exact ⟨dx, vs, h1, h2⟩
theorem hfld {f : Str} {ix : Nat → Option Nat} (A : Attr B.K f ix) (h : HE B e te) (hb : ∀ env, attributeBase e f env (eval e env) = eval e env := by intro _; rfl) : HE B (.Attribute e f pos) (hun (gFld ix) te) :=
  ⟨fun X W ok tk => PE.imp (pe_fld (h.run X W ok tk) (hb _)) fun σ H Q h => by
    refine lun (r := fun x H1 Q => ∃ a C dx fs v, x = .ref a ∧ H1 a = some (.ins C dx fs) ∧ Cls X.K C ∧ NoAttr X.K C f ∧ fs.lookup f = some v ∧ Q v H1) ?_ te σ H Q h
    intro G F S H d v Q0 Q w r h hq
    unfold gFld at h
    split at h
    · rename_i c ds
      obtain ⟨a, dx, vs, rfl, hF, rs⟩ := r
      split at h
      · rename_i i ei
        split at h
        · rename_i d ed
          obtain ⟨z1, z2, z3, z4, _⟩ := A.ok c i ei
          obtain ⟨u, h1, h2⟩ := rs.at ed
          exact ⟨a, _, dx, _, u, rfl, w.fr _ _ hF, by rw [ok.eK]; exact z1, by rw [ok.eK]; exact z2, lookup_zip z4 z3 h1, hq d u F S H Le.rfl' w h2 h⟩
        · exact h.elim
      · exact h.elim
    · rename_i q
      obtain rfl : v = .ref q := r
      split at h
      · rename_i c ds es
        obtain ⟨dx, vs, hH, rs⟩ := insAt w es
        split at h
        · rename_i i ei
          split at h
          · rename_i d ed
            obtain ⟨z1, z2, z3, z4, _⟩ := A.ok c i ei
            obtain ⟨u, h1, h2⟩ := rs.at ed
            exact ⟨q, _, dx, _, u, rfl, hH, by rw [ok.eK]; exact z1, by rw [ok.eK]; exact z2, lookup_zip z4 z3 h1, hq d u F S H Le.rfl' w h2 h⟩
          · exact h.elim
        · exact h.elim
      · exact h.elim
    · exact h.elim⟩
/-- where it is put: at its place, or as the next one -/
def putD (ds : List D) (i : Nat) (d : D) : Option (List D) := match Nat.blt i ds.length with
  | true => some (ds.set i d)
  | false => match Nat.beq i ds.length with
    | true => some (ds ++ [d])
    | false => none
def gFst (ix : Nat → Option Nat) (x d : D) (S : Sto) (Q : Sto → Prop) : Prop := match x with
  | .ref q => match S q with
    | some (.ins c ds) => match ix c with
      | some i => match putD ds i d with
        | some ds' => Q (up S q (.ins c ds'))
        | none => False
      | none => False
    | _ => False
  | _ => False
theorem putF_zip {f : Str} {v : V} : ∀ {ns : List Str} {vs : List V} {i : Nat}, ns.Nodup → ns[i]? = some f → i < vs.length → putF f v (ns.zip vs) = ns.zip (vs.set i v)
  | [], _, _, _, h, _ => by simp at h
  | n :: ns, [], _, _, _, h => by simp at h
  | n :: ns, w :: vs, 0, _, h, _ => by
    simp at h; subst h
    simp [putF]
  | n :: ns, w :: vs, i + 1, hd, h, hl => by
    have hn : n ≠ f := fun z => by
      subst z
      exact (List.nodup_cons.mp hd).1 (List.mem_of_getElem? (by simpa using h))
    have ih := putF_zip (v := v) (List.nodup_cons.mp hd).2 (i := i) (vs := vs) (by simpa using h) (by simpa using hl)
    simp only [List.zip_cons_cons, List.set_cons_succ]
    rw [← ih]
    simp [putF, hn]
theorem putF_zip_end {f : Str} {v : V} : ∀ {ns : List Str} {vs : List V}, ns.Nodup → ns[vs.length]? = some f → putF f v (ns.zip vs) = ns.zip (vs ++ [v])
  | [], _, _, h => by simp at h
  | n :: ns, [], _, h => by
    simp at h; subst h
    simp [putF]
  | n :: ns, w :: vs, hd, h => by
    have hn : n ≠ f := fun z => by
      subst z
      exact (List.nodup_cons.mp hd).1 (List.mem_of_getElem? (by simpa using h))
    have ih := putF_zip_end (v := v) (List.nodup_cons.mp hd).2 (vs := vs) (by simpa using h)
    simp only [List.zip_cons_cons, List.cons_append]
    rw [← ih]
    simp [putF, hn]
theorem blt_lt {i n : Nat} (h : Nat.blt i n = true) : i < n := Nat.le_of_ble_eq_true h
theorem putD_ok {K : PySem.W.Frag} {F : Hp} {ds ds' : List D} {vs : List V} {d : D} {v : V} {i : Nat} {f : Str} {ns : List Str} (hd : ns.Nodup) (hf : ns[i]? = some f) (rs : Reps K F ds vs) (r : Rep K F d v) (h : putD ds i d = some ds') :
    ∃ vs', putF f v (ns.zip vs) = ns.zip vs' ∧ Reps K F ds' vs' := by
  unfold putD at h
  split at h
  · rename_i e
    cases h
    exact ⟨vs.set i v, putF_zip hd hf (by rw [rs.len]; exact blt_lt e), rs.set i r⟩
  · split at h
    · rename_i e
      cases h
      have e2 := Nat.eq_of_beq_eq_true e
      exact ⟨vs ++ [v], putF_zip_end hd (by rw [rs.len, ← e2]; exact hf), rs.append (Reps.one r)⟩
    · cases h
theorem fst_ok {K : PySem.W.Frag} {G F : Hp} {S : Sto} {H : Hp} {f : Str} {ix : Nat → Option Nat} (A : Attr K f ix) {x d : D} {u v : V} {Q : Sto → Prop} (w : Wd K G F S H) (rx : Rep K F x u) (rd : Rep K F d v) (h : gFst ix x d S Q) :
    ∃ a C dx fs, u = .ref a ∧ H a = some (.ins C dx fs) ∧ Cls K C ∧ NoAttr K C f ∧ fs.length < 1000 ∧ ∃ S', Wd K G F S' (upd H a (.ins C dx (putF f v fs))) ∧ Q S' := by
  unfold gFst at h
  split at h
  · rename_i q
    obtain rfl : u = .ref q := rx
    split at h
    · rename_i c ds es
      split at h
      · rename_i i ei
        split at h
        · rename_i ds' ed
          obtain ⟨dx, vs, hH, rs⟩ := insAt w es
          obtain ⟨z1, z2, z3, z4, z5⟩ := A.ok c i ei
          obtain ⟨vs', e1, r1⟩ := putD_ok z4 z3 rs rd ed
          refine ⟨q, _, dx, _, rfl, hH, z1, z2, ?_, up S q (.ins c ds'), w.put (m := .ins c ds') es ⟨dx, vs', by rw [e1], r1⟩, h⟩
          rw [List.length_zip]; omega
        · exact h.elim
      · exact h.elim
    · exact h.elim
  · exact h.elim
/-- o.f = e -/
def hFst (ix : Nat → Option Nat) (to te : HTE) : HTS := fun D env S => te env S (fun d S1 => to env S1 (fun x S2 => gFst ix x d S2 fun S3 => D.nx env S3) fun x S2 => D.ex x env S2) fun x S1 => D.ex x env S1
theorem hfst {f : Str} {ix : Nat → Option Nat} {pos' : Pos} (A : Attr B.K f ix) (ho : HE B o to) (h : HE B e te) (hs : ∀ env, swapsWith e (some (.Attribute o f pos')) pos.line env = pure false := by intro _; rfl) : HS B (.Assign [.Attribute o f pos'] e pos) (hFst ix to te) :=
  ⟨fun X W ok tk => PS.imp (ps_fld (ho.run X W ok tk) (h.run X W ok tk) (hs _)) fun D σ H ⟨G, F, S, env, E, rn, wd, h, oo⟩ =>
    ⟨G, F, S, env, _, _, rn, wd, h, fun d v F1 S1 H1 l1 w1 r1 h1 =>
      ⟨G, F1, S1, env, _, _, rn.le l1, w1, h1, fun x u F2 S2 H2 l2 w2 r2 h2 => by
        obtain ⟨a, C, dx, fs, z1, z2, z3, z4, z5, S3, w3, q⟩ := fst_ok A w2 r2 (r1.le l2) h2
        exact ⟨a, C, dx, fs, z1, z2, by rw [ok.eK]; exact z3, by rw [ok.eK]; exact z4, z5, oo.nx env σ F2 S3 _ (l1.trans l2) w3 (rn.le (l1.trans l2)) q⟩, (oo.le l1).exc (rn.le l1)⟩, oo.exc rn⟩⟩
end
end Hy

set_option Elab.async false
set_option linter.all false
set_option maxRecDepth 100000
set_option maxHeartbeats 4000000
set_option autoImplicit false
namespace Hy
open PySem PySem.Spec PyProof.Rows L2
section
variable {X : Cx} {CX' : CXT} {k : Nat} {f C : Addr} {fd : FuncData} {ps : List Str} {sp : Sp} {E : L2.St → XK} {x m : Str} {p pos apos : Pos} {e o : Expr} {es : List Expr} {ta : TE} {t : TA} {ds : List Value} {dvs : List V}
/-- the tree of a method's call -/
abbrev MethTree (pl : Sem Bool) (o : Expr) (m : Str) (apos pos : Pos) (es : List Expr) (env : Env) : Prop :=
  eval (.Call (.Attribute o m apos) es [] pos) env = (do let ov ← eval o env; standAt apos.atName; let (f, first) ← holding [ov] (getMethod ov m pl); callWith pos f first (backTo pos (starEach es env)) (backToKw pos (keywordEach [] env)))
/-- o.m(e, ..), what it raises wished for at the slots -/
theorem pe_methE {pl : Sem Bool} (he : PE X o ta) (c : Cls X.K C) (hm : Meth X.K C m f) (F : FnOk X.prog X.w X.K X.mg X.base CX' k f fd ps sp) (hr : Room k X.A) (hb : Binds X.K fd ps ds) (hd : Vals dvs ds) (hx : ∀ σ, PassesAt CX' X σ (E σ))
    (ha : PA X (e :: es) t) (hst : starEach (e :: es) X.env = (false, eval e X.env) :: starEach es X.env) (hpl : (backTo pos (starEach es X.env)).any (·.1) = false) (ht : MethTree pl o m apos pos (e :: es) X.env) :
    PE X (.Call (.Attribute o m apos) (e :: es) [] pos) (fun σ H Q => ta σ H fun x H1 => ∃ a dx fs, x = .ref a ∧ H1 a = some (.ins C dx fs) ∧ fs.lookup m = none ∧ t σ H1 fun vs H2 => sp (.ref a :: (vs ++ dvs)) H2 Q (E σ)) :=
  ⟨fun pins s σ H Q I h => PySem.W.methodCall_KW (pl := pl) (thn (he.run pins s σ H _ I h) fun u s1 ⟨y, H1, I1, ry, a, dx, fs, ey, ea, hl, q⟩ => by
    subst ey
    cases (show u = Value.ref a from ry)
    exact getmeth_ok I1 ea c hm hl (PySem.W.callWith_K (first := [.ref a]) (h₀ := X.base) I.ok.mod.kin hm.kp
      (thn (ha.run pos pins s1 σ H1 _ I1 q) fun us s2 ⟨vs, H2, I2, r, q2⟩ => ⟨I2.kIn, run_fnSD (us := .ref a :: us) (vs := .ref a :: vs) F hr hb hd (hx σ) I2 (.cons rfl r) q2⟩) hst hpl)) ht⟩
theorem pe_methE0 {pl : Sem Bool} (he : PE X o ta) (c : Cls X.K C) (hm : Meth X.K C m f) (F : FnOk X.prog X.w X.K X.mg X.base CX' k f fd ps sp) (hr : Room k X.A) (hb : Binds X.K fd ps ds) (hd : Vals dvs ds) (hx : ∀ σ, PassesAt CX' X σ (E σ))
    (ht : MethTree pl o m apos pos [] X.env) :
    PE X (.Call (.Attribute o m apos) [] [] pos) (fun σ H Q => ta σ H fun x H1 => ∃ a dx fs, x = .ref a ∧ H1 a = some (.ins C dx fs) ∧ fs.lookup m = none ∧ sp (.ref a :: dvs) H1 Q (E σ)) :=
  ⟨fun pins s σ H Q I h => PySem.W.methodCall_KW (pl := pl) (thn (he.run pins s σ H _ I h) fun u s1 ⟨y, H1, I1, ry, a, dx, fs, ey, ea, hl, q⟩ => by
    subst ey
    cases (show u = Value.ref a from ry)
    exact getmeth_ok I1 ea c hm hl (PySem.W.callWith_K0 (first := [.ref a]) I1.kIn hm.kp (run_fnSD (us := [.ref a]) (vs := [.ref a]) F hr hb hd (hx σ) I1 (.cons rfl .nil) q))) ht⟩
/-- C(e, ..) -/
theorem run_makeE {pins : List (Addr × Obj)} {σ : L2.St} {H : Hp} {s : Shared} {Q : VK} {us : List Value} {vs : List V} (Mm : Mk X.K C f) (F : FnOk X.prog X.w X.K X.mg X.base CX' k f fd ps sp) (hr : Room (k + 1) X.A) (hb : Binds X.K fd ps ds) (hd : Vals dvs ds)
    (hx : PassesAt CX' X σ (E σ)) (I : L2.Inv X pins σ H s) (r : Vals vs us)
    (h : ∀ a dx, H a = none → H dx = none → dx ≠ a → sp (.ref a :: (vs ++ dvs)) (upd (upd H dx (.own a)) a (.ins C dx [])) (fun v H2 => v = .non ∧ Q (.ref a) H2) (E σ)) :
    wpAny (model X.prog X.w) X.A (call (.ref C) us) (EP X pins σ Q) X.xe s := by
  let a0 := s.heap.objs.size
  have go := h (a0 + 1) a0 (I.hok.fresh (Nat.le_succ _)) (I.hok.fresh (Nat.le_refl _)) (Nat.ne_of_lt (Nat.lt_succ_self _))
  have J := Inv.made (C := C) I
  have rr : Vals (V.ref (a0 + 1) :: (vs ++ dvs)) (Value.ref (a0 + 1) :: (us ++ ds)) := .cons rfl (r.append hd)
  have len : (Value.ref (a0 + 1) :: us ++ ds).length = ps.length := (rr.length.symm).trans (F.len _ _ _ _ go)
  refine wpAny_call (make_map (f := f) I.kIn Mm.makes Mm.init (beq_iff_eq.mp Mm.fn) (codeAny_mono (F.run _ X.stack _ _ ⟨Value.ref (a0 + 1) :: us, []⟩ (Value.ref (a0 + 1) :: (us ++ ds)) _ _ (E σ) (hr.make C us [])
    (J.env0.make C us []) (hb _ (Value.ref (a0 + 1) :: us) J.kIn len) rr go) fun res s' got => ?_))
  match res, got with
  | .error er, got => exact hx pins _ _ er s' J got
  | .ok (.ret u), got =>
    obtain ⟨v, H', I3, rv, ev, q3⟩ := J.after got
    cases ev
    exact ⟨rv, ⟨V.ref (a0 + 1), H', I3, rfl, q3⟩⟩
  | .ok .next, got => exact got.elim
  | .ok .brk, got => exact got.elim
  | .ok .cont, got => exact got.elim
theorem pe_makeE (Mm : Mk X.K C f) (F : FnOk X.prog X.w X.K X.mg X.base CX' k f fd ps sp) (hr : Room (k + 1) X.A) (hg : Gl X x) (hm : X.mg x = some (.ref C)) (hb : Binds X.K fd ps ds) (hd : Vals dvs ds) (hx : ∀ σ, PassesAt CX' X σ (E σ))
    (ha : PA X (e :: es) t) (hdb : (x == ("__debug__" : Str)) = false) (he : starEach (e :: es) X.env = (false, eval e X.env) :: starEach es X.env) (hpl : (backTo pos (starEach es X.env)).any (·.1) = false) :
    PE X (.Call (.Name x p) (e :: es) [] pos) (fun σ H Q => t σ H fun vs H1 => ∀ a dx, H1 a = none → H1 dx = none → dx ≠ a → sp (.ref a :: (vs ++ dvs)) (upd (upd H1 dx (.own a)) a (.ins C dx [])) (fun v H2 => v = .non ∧ Q (.ref a) H2) (E σ)) :=
  ⟨fun pins s σ H Q I h => wpAny_Call_Name_kw (ld_glob I hg hm (PySem.W.callWith_K (h₀ := X.base) I.ok.mod.kin Mm.kp
    (thn (ha.run pos pins s σ H _ I h) fun us s1 ⟨vs, H1, I1, r, q⟩ => ⟨I1.kIn, run_makeE Mm F hr hb hd (hx σ) I1 r q⟩) he hpl) hdb)⟩
theorem pe_makeE0 (Mm : Mk X.K C f) (F : FnOk X.prog X.w X.K X.mg X.base CX' k f fd ps sp) (hr : Room (k + 1) X.A) (hg : Gl X x) (hm : X.mg x = some (.ref C)) (hb : Binds X.K fd ps ds) (hd : Vals dvs ds) (hx : ∀ σ, PassesAt CX' X σ (E σ))
    (hdb : (x == ("__debug__" : Str)) = false) :
    PE X (.Call (.Name x p) [] [] pos) (fun σ H Q => ∀ a dx, H a = none → H dx = none → dx ≠ a → sp (.ref a :: dvs) (upd (upd H dx (.own a)) a (.ins C dx [])) (fun v H2 => v = .non ∧ Q (.ref a) H2) (E σ)) :=
  ⟨fun pins s σ H Q I h => wpAny_Call_Name_kw (ld_glob I hg hm (PySem.W.callWith_K0 (first := []) I.kIn Mm.kp (run_makeE (us := []) (vs := []) Mm F hr hb hd (hx σ) I .nil h)) hdb)⟩
end
section
variable {B : Bs} {e a b o : Expr} {es : List Expr} {ta tb te to : HTE} {tr : HTA} {x m : Str} {p pos apos : Pos} {k n : Nat} {dds : List D} {sp : HSp}
/-! ### methods of own classes -/
structure HMeth (B : Bs) (k : Nat) (c : Nat) (m : Str) (n : Nat) (dds : List D) (sp : HSp) : Prop where
  cl : Cls B.K (cad B.K c)
  me : ∃ f, Meth B.K (cad B.K c) m f ∧ FnAt B k f n dds sp
  no : m ∉ flds c
def isC (c : Nat) (S : Sto) : D → Bool
  | .obj c' _ => Nat.beq c' c
  | .ref q => match S q with
    | some (.ins c' _) => Nat.beq c' c
    | _ => false
  | _ => false
def hMeth (c n : Nat) (dds : List D) (sp : HSp) (to : HTE) (t : HTA) : HTE := fun env S Q E => to env S (fun x S1 => match isC c S1 x with
  | true => t env S1 (fun ds S2 => match Nat.beq (x :: (ds ++ dds)).length n with
    | true => sp (x :: (ds ++ dds)) S2 Q E
    | false => False) E
  | false => False) E
theorem lookup_no {m : Str} : ∀ {ns : List Str} {vs : List V}, m ∉ ns → (ns.zip vs).lookup m = none
  | [], _, _ => by simp
  | n :: ns, [], _ => by simp
  | n :: ns, v :: vs, h => by
    have h1 : m ≠ n := fun z => h (z ▸ List.mem_cons_self)
    have : (m == n) = false := by simpa using h1
    rw [List.zip_cons_cons, List.lookup_cons, this]
    exact lookup_no fun z => h (List.mem_cons_of_mem _ z)
theorem isC_ok {K : PySem.W.Frag} {G F : Hp} {S : Sto} {H : Hp} {c : Nat} {d : D} {v : V} (w : Wd K G F S H) (r : Rep K F d v) (h : isC c S d = true) : ∃ a dx vs, v = .ref a ∧ H a = some (.ins (cad K c) dx ((flds c).zip vs)) := by
  unfold isC at h
  split at h
  · obtain rfl := Nat.eq_of_beq_eq_true h
    obtain ⟨a, dx, vs, rfl, hF, rs⟩ := r
    exact ⟨a, dx, vs, rfl, w.fr _ _ hF⟩
  · rename_i q
    split at h
    · rename_i c' ds es
      obtain rfl := Nat.eq_of_beq_eq_true h
      obtain ⟨dx, vs, hH, rs⟩ := insAt w es
      exact ⟨q, dx, vs, r, hH⟩
    · cases h
  · cases h
theorem hmeth {c : Nat} {pl : Env → Sem Bool} (h : HMeth B k c m n dds sp) (hk : k ≤ B.k) (ho : HE B o to) (ha : HA B (e :: es) tr) (he : ∀ env, starEach (e :: es) env = (false, eval e env) :: starEach es env := by intro _; rfl)
    (hpl : ∀ env, (backTo pos (starEach es env)).any (·.1) = false := by intro _; rfl) (ht : ∀ env, MethTree (pl env) o m apos pos (e :: es) env := by intro _; rfl) : HE B (.Call (.Attribute o m apos) (e :: es) [] pos) (hMeth c n dds sp to tr) :=
  ⟨fun X W ok tk => by
    obtain ⟨f, hm, hf⟩ := h.me
    obtain ⟨fd, ps, ds, dvs, hn, hb, hv, hd, hf⟩ := hf.ex
    refine PE.imp (pe_methE (E := WE W) (pl := pl X.env) (ho.run X W ok tk) (by rw [ok.eK]; exact h.cl) (by rw [ok.eK]; exact hm) (ok.fnOk hf) (ok.room.mono hk) (by rw [ok.eK]; exact hb) hv (fun σ => passAt tk σ) (ha.run X W ok tk) (he _) (hpl _) (ht _)) fun σ H Q ⟨G, F, S, env, Q0, E0, rn, wd, hh, hq, hE⟩ => ?_
    refine ⟨G, F, S, env, _, E0, rn, wd, hh, fun d v F1 S1 H1 l1 w1 r1 h1 => ?_, hE⟩
    dsimp only at h1
    split at h1
    · rename_i ic
      obtain ⟨a, dx, vs, rfl, hH⟩ := isC_ok w1 r1 ic
      refine ⟨a, dx, _, rfl, hH, lookup_no h.no, G, F1, S1, env, _, E0, rn.le l1, w1, h1, fun ds us F2 S2 H2 l2 w2 r2 h2 => ?_, hE.le l1⟩
      obtain ⟨z, h2⟩ := beq_n h2
      have rr : Reps B.K F2 (d :: (ds ++ dds)) (V.ref a :: (us ++ dvs)) := ⟨_, _, rfl, r1.le l2, r2.append (hd F2)⟩
      exact ⟨by rw [rr.len]; exact z, G, F2, S2, _, Q0, E0, rr, w2, h2, hq.le (l1.trans l2), hE.le (l1.trans l2)⟩
    · exact h1.elim⟩
theorem hmeth0 {c : Nat} {pl : Env → Sem Bool} (h : HMeth B k c m n dds sp) (hk : k ≤ B.k) (ho : HE B o to) (ht : ∀ env, MethTree (pl env) o m apos pos [] env := by intro _; rfl) : HE B (.Call (.Attribute o m apos) [] [] pos) (hMeth c n dds sp to hNil) :=
  ⟨fun X W ok tk => by
    obtain ⟨f, hm, hf⟩ := h.me
    obtain ⟨fd, ps, ds, dvs, hn, hb, hv, hd, hf⟩ := hf.ex
    refine PE.imp (pe_methE0 (E := WE W) (pl := pl X.env) (ho.run X W ok tk) (by rw [ok.eK]; exact h.cl) (by rw [ok.eK]; exact hm) (ok.fnOk hf) (ok.room.mono hk) (by rw [ok.eK]; exact hb) hv (fun σ => passAt tk σ) (ht _)) fun σ H Q ⟨G, F, S, env, Q0, E0, rn, wd, hh, hq, hE⟩ => ?_
    refine ⟨G, F, S, env, _, E0, rn, wd, hh, fun d v F1 S1 H1 l1 w1 r1 h1 => ?_, hE⟩
    dsimp only at h1
    split at h1
    · rename_i ic
      obtain ⟨a, dx, vs, rfl, hH⟩ := isC_ok w1 r1 ic
      obtain ⟨z, h2⟩ := beq_n (show match Nat.beq (d :: ([] ++ dds)).length n with | true => sp (d :: ([] ++ dds)) S1 Q0 E0 | false => False from h1)
      have rr : Reps B.K F1 (d :: dds) (V.ref a :: dvs) := ⟨_, _, rfl, r1, hd F1⟩
      exact ⟨a, dx, _, rfl, hH, lookup_no h.no, by rw [rr.len]; exact z, G, F1, S1, _, Q0, E0, rr, w1, h2, hq.le l1, hE.le l1⟩
    · exact h1.elim⟩
/-! ### new instances -/
structure HMake (B : Bs) (k : Nat) (c : Nat) (n : Nat) (dds : List D) (sp : HSp) : Prop where
  mg : B.mg (cname c) = some (.ref (cad B.K c))
  mkr : ∃ f, Mk B.K (cad B.K c) f ∧ FnAt B k f n dds sp
def hMake (c n : Nat) (dds : List D) (sp : HSp) (t : HTA) : HTE := fun env S Q E => t env S (fun ds S1 => ∀ p, S1 p = none → match Nat.beq (D.ref p :: (ds ++ dds)).length n with
  | true => sp (.ref p :: (ds ++ dds)) (up S1 p (.ins c [])) (fun r S2 => isN r = true ∧ Rt Q (.ref p) S2) (Rx E)
  | false => False) E
theorem zip_nil {α β : Type} (l : List α) : l.zip ([] : List β) = [] := by cases l <;> rfl
theorem make_lift {G F : Hp} {S : Sto} {H : Hp} {ds : List D} {vs dvs : List V} {c : Nat} {Q0 E0 : HK} {Q : VK} {E : XK} (hd : ∀ F, Reps B.K F dds dvs) (w : Wd B.K G F S H) (rs : Reps B.K F ds vs) (hq : OkQ B.K G F Q0 Q) (he : OkE B.K G F E0 E)
    (h : ∀ p, S p = none → match Nat.beq (D.ref p :: (ds ++ dds)).length n with
      | true => sp (.ref p :: (ds ++ dds)) (up S p (.ins c [])) (fun r S2 => isN r = true ∧ Rt Q0 (.ref p) S2) (Rx E0)
      | false => False) (a dx : Addr) (ha : H a = none) (hdx : H dx = none) (ne : dx ≠ a) :
    lSp B.K n sp (.ref a :: (vs ++ dvs)) (upd (upd H dx (.own a)) a (.ins (cad B.K c) dx [])) (fun v H2 => v = .non ∧ Q (.ref a) H2) E := by
  obtain ⟨z, h1⟩ := beq_n (h a (w.freshS ha))
  have w1 := w.grow (.own a) hdx
  have w2 := w1.newS (m := .ins c []) (p := a) (o := .ins (cad B.K c) dx []) (by rw [upd_ne (Ne.symm ne)]; exact ha) ⟨dx, [], by rw [zip_nil], rfl⟩
  have rr : Reps B.K F (D.ref a :: (ds ++ dds)) (V.ref a :: (vs ++ dvs)) := ⟨_, _, rfl, rfl, rs.append (hd F)⟩
  refine ⟨by rw [rr.len]; exact z, G, F, _, _, _, _, rr, w2, h1, fun d v F' S' H' l w' r ⟨e, q⟩ => ?_, Rx.ok he⟩
  cases d <;> first | (cases e; done) | skip
  exact ⟨r, Rt.ok hq (.ref a) _ F' S' H' l w' rfl q⟩
theorem hmake {c : Nat} (h : HMake B k c n dds sp) (hk : k + 1 ≤ B.k) (gn : Gn B (cname c)) (ha : HA B (e :: es) tr) (hdb : (cname c == ("__debug__" : Str)) = false := by decide) (he : ∀ env, starEach (e :: es) env = (false, eval e env) :: starEach es env := by intro _; rfl)
    (hpl : ∀ env, (backTo pos (starEach es env)).any (·.1) = false := by intro _; rfl) : HE B (.Call (.Name (cname c) p) (e :: es) [] pos) (hMake c n dds sp tr) :=
  ⟨fun X W ok tk => by
    obtain ⟨f, hm, hf⟩ := h.mkr
    obtain ⟨fd, ps, ds, dvs, hn, hb, hv, hd, hf⟩ := hf.ex
    exact PE.imp (pe_makeE (E := WE W) (by rw [ok.eK]; exact hm) (ok.fnOk hf) (ok.room.mono hk) (ok.gl gn) (by rw [ok.em]; exact h.mg) (by rw [ok.eK]; exact hb) hv (fun σ => passAt tk σ) (ha.run X W ok tk) hdb (he _) (hpl _)) fun σ H Q ⟨G, F, S, env, Q0, E0, rn, wd, hh, hq, hE⟩ =>
      ⟨G, F, S, env, _, E0, rn, wd, hh, fun ds vs F1 S1 H1 l1 w1 r1 h1 => make_lift hd w1 r1 (hq.le l1) (hE.le l1) h1, hE⟩⟩
theorem hmake0 {c : Nat} (h : HMake B k c n dds sp) (hk : k + 1 ≤ B.k) (gn : Gn B (cname c)) (hdb : (cname c == ("__debug__" : Str)) = false := by decide) : HE B (.Call (.Name (cname c) p) [] [] pos) (hMake c n dds sp hNil) :=
  ⟨fun X W ok tk => by
    obtain ⟨f, hm, hf⟩ := h.mkr
    obtain ⟨fd, ps, ds, dvs, hn, hb, hv, hd, hf⟩ := hf.ex
    exact PE.imp (pe_makeE0 (E := WE W) (by rw [ok.eK]; exact hm) (ok.fnOk hf) (ok.room.mono hk) (ok.gl gn) (by rw [ok.em]; exact h.mg) (by rw [ok.eK]; exact hb) hv (fun σ => passAt tk σ) hdb) fun σ H Q ⟨G, F, S, env, Q0, E0, rn, wd, hh, hq, hE⟩ =>
      fun a dx h1 h2 h3 => make_lift (vs := []) (ds := []) hd wd rfl hq hE hh a dx h1 h2 h3⟩
/-! ### isinstance against an own class -/
structure InsFacts (K : PySem.W.Frag) (c : Nat) : Prop where
  cl : Cls K (cad K c)
  ha : PySem.W.findIn K (.ref (cad K c)) "__class__" = some (some (.builtin "object.__class__"))
  hn : PySem.W.specialIn K (.builtin "object.__class__") "__get__" = some (some (.builtin "getset_descriptor.__get__"))
  tk : PySem.W.takesIn K (.builtin "object.__class__") = some true
  hm : PySem.W.mroIn K (cad K c) (.type "object") = some true
end
end Hy

set_option Elab.async false
set_option linter.all false
set_option maxRecDepth 100000
set_option maxHeartbeats 4000000
set_option autoImplicit false
namespace Hy
open PySem PySem.Spec PyProof.Rows L2
section
variable {B : Bs} {e a b o : Expr} {es : List Expr} {ta tb te to : HTE} {tr : HTA} {x m : Str} {p pos apos : Pos} {k n : Nat} {dds : List D} {sp : HSp}
/-! ### methods of built-in types -/
def RMok (K : PySem.W.Frag) (g : GM) (r : V → List V → Hp → VK → Prop) : Prop := ∀ G F S H d v ds vs Q0 Q, Wd K G F S H → Rep K F d v → Reps K F ds vs → g d ds S Q0 → OkQ K G F Q0 Q → r v vs H Q
def isStr : Sto → D → Bool
  | _, .str _ => true
  | _, _ => false
def isLst (S : Sto) (x : D) : Bool := (itemsL S x).isSome
def isDct : Sto → D → Bool
  | S, .ref q => match S q with
    | some (.dct _) => true
    | _ => false
  | _, _ => false
def KdOk (K : PySem.W.Frag) (T : String) (kd : Sto → D → Bool) : Prop := ∀ G F S H d v, Wd K G F S H → Rep K F d v → kd S d = true → tyV K T v H
theorem kd_str {K : PySem.W.Frag} : KdOk K "str" isStr := fun G F S H d v w r h => by
  cases d <;> first | (cases h; done) | skip
  cases r; rfl
theorem kd_lst {K : PySem.W.Frag} : KdOk K "list" isLst := fun G F S H d v w r h => by
  obtain ⟨ds, e⟩ := Option.isSome_iff_exists.mp h
  obtain ⟨a, vs, rfl, hs, _⟩ := itemsL_ok w r e
  exact .inl ⟨rfl, vs, hs⟩
theorem kd_dct {K : PySem.W.Frag} : KdOk K "dict" isDct := fun G F S H d v w r h => by
  cases d <;> first | (cases h; done) | skip
  rename_i q
  obtain rfl : v = .ref q := r
  simp only [isDct] at h
  split at h
  · rename_i kvs e
    obtain ⟨vs, h1, _⟩ := dctAt w e
    exact .inr (.inr (.inl ⟨rfl, .inl ⟨_, h1⟩⟩))
  · cases h
def hMt (kd : Sto → D → Bool) (g : GM) (to : HTE) (t : HTA) : HTE := fun env S Q E => to env S (fun x S1 => match kd S1 x with
  | true => t env S1 (fun ds S2 => g x ds S2 Q) E
  | false => False) E
theorem hbm {T id : String} {name : Str} {kd : Sto → D → Bool} {g : GM} {r : PySem.W.Frag → V → List V → Hp → VK → Prop} (pa : PlainAttrs T) (slot : Slot T name id) (hty : typeOf (.builtin id) = pure (.type "method_descriptor")) (hm : ∀ X, OkC B X → MtR X id (r X.K)) (hg : RMok B.K g (r B.K)) (hk : KdOk B.K T kd)
    (ho : HE B o to) (ha : HA B (e :: es) tr) (hbase : ∀ env, attributeBase o name env (eval o env) = eval o env := by intro _; rfl)
    (hfew : ∀ env, ((backTo pos (starEach (e :: es) env)).all (fun x => !x.1) && (backToKw pos (keywordEach [] env)).all (fun x => x.1.isSome) && decide ((e :: es).length + ([] : List Keyword).length + (if ([] : List Keyword).isEmpty then 0 else 1) < 30)) = true := by intro _; rfl)
    (hline : (apos.endLine == pos.line) = true := by rfl) (hs : ∀ env, starEach (e :: es) env = (false, eval e env) :: starEach es env := by intro _; rfl) (hplain : ∀ env, (backTo pos (starEach es env)).any (·.1) = false := by intro _; rfl) :
    HE B (.Call (.Attribute o name apos) (e :: es) [] pos) (hMt kd g to tr) :=
  ⟨fun X W ok tk => PE.imp (pe_bm pa slot hty (by have := hm X ok; rw [ok.eK] at this; exact this) (ho.run X W ok tk) (ha.run X W ok tk) (hbase _) (hfew _) hline (hs _) (hplain _)) fun σ H Q ⟨G, F, S, env, Q0, E0, rn, wd, h, hq, he⟩ =>
    ⟨G, F, S, env, _, E0, rn, wd, h, fun d v F1 S1 H1 l1 w1 r1 h1 => by
      dsimp only at h1
      split at h1
      · rename_i ek
        exact ⟨by rw [ok.eK]; exact hk G F1 S1 H1 d v w1 r1 ek, G, F1, S1, env, _, E0, rn.le l1, w1, h1, fun ds vs F2 S2 H2 l2 w2 r2 h2 => hg G F2 S2 H2 d v ds vs Q0 Q w2 (r1.le l2) r2 h2 (hq.le (l1.trans l2)), he.le l1⟩
      · exact h1.elim, he⟩⟩
theorem hbm0 {T id : String} {name : Str} {kd : Sto → D → Bool} {g : GM} {r : PySem.W.Frag → V → List V → Hp → VK → Prop} (pa : PlainAttrs T) (slot : Slot T name id) (hty : typeOf (.builtin id) = pure (.type "method_descriptor")) (hm : ∀ X, OkC B X → MtR X id (r X.K)) (hg : RMok B.K g (r B.K)) (hk : KdOk B.K T kd)
    (ho : HE B o to) (hbase : ∀ env, attributeBase o name env (eval o env) = eval o env := by intro _; rfl) (hline : (apos.endLine == pos.line) = true := by rfl) : HE B (.Call (.Attribute o name apos) [] [] pos) (hMt kd g to hNil) :=
  ⟨fun X W ok tk => PE.imp (pe_bm0 pa slot hty (by have := hm X ok; rw [ok.eK] at this; exact this) (ho.run X W ok tk) (hbase _) hline) fun σ H Q ⟨G, F, S, env, Q0, E0, rn, wd, h, hq, he⟩ =>
    ⟨G, F, S, env, _, E0, rn, wd, h, fun d v F1 S1 H1 l1 w1 r1 h1 => by
      dsimp only at h1
      split at h1
      · rename_i ek
        exact ⟨by rw [ok.eK]; exact hk G F1 S1 H1 d v w1 r1 ek, hg G F1 S1 H1 d v [] [] Q0 Q w1 r1 rfl h1 (hq.le l1)⟩
      · exact h1.elim, he⟩⟩
theorem line_lt {n : Nat} (h : n < 16777216) : n < sizeLine := by rw [sizeLine_eq]; exact h
theorem line_le {n : Nat} (h : n ≤ 16777216) : n ≤ sizeLine := by rw [sizeLine_eq]; exact h
/-! append, extend, pop, insert -/
def gAppend : GM := fun x ds S Q => match x with
  | .ref q => match S q with
    | some (.lst xs) => match ds with
      | [d] => xs.length < 16777216 ∧ Q .non (up S q (.lst (xs ++ [d])))
      | _ => False
    | _ => False
  | _ => False
theorem gAppend_ok {K : PySem.W.Frag} : RMok K gAppend rAppend := by
  intro G F S H d v ds vs Q0 Q w r rs h hq
  unfold gAppend at h
  split at h
  · rename_i q
    obtain rfl : v = .ref q := r
    split at h
    · rename_i xs e
      split at h
      · obtain ⟨u, rfl, r1⟩ := rs.one_inv
        obtain ⟨us, h1, h2, h3⟩ := lstAt w e
        exact ⟨q, us, u, rfl, rfl, h1, by rw [h2.len]; exact line_lt h.1, hq .non _ F _ _ Le.rfl' (w.put (m := .lst (xs ++ [_])) e ⟨_, rfl, h2.append (Reps.one r1), by rw [List.length_append]; exact line_lt h.1⟩) rfl h.2⟩
      · exact h.elim
    · exact h.elim
  · exact h.elim
theorem happend (ho : HE B o to) (ha : HA B [e] tr) (hbase : ∀ env, attributeBase o "append" env (eval o env) = eval o env := by intro _; rfl)
    (hfew : ∀ env, ((backTo pos (starEach [e] env)).all (fun x => !x.1) && (backToKw pos (keywordEach [] env)).all (fun x => x.1.isSome) && decide ([e].length + ([] : List Keyword).length + (if ([] : List Keyword).isEmpty then 0 else 1) < 30)) = true := by intro _; rfl)
    (hline : (apos.endLine == pos.line) = true := by rfl) (hs : ∀ env, starEach [e] env = (false, eval e env) :: starEach [] env := by intro _; rfl) : HE B (.Call (.Attribute o "append" apos) [e] [] pos) (hMt isLst gAppend to tr) :=
  hbm (r := fun _ => rAppend) PySem.F.plainAttrs_list PySem.F.slot_list_append PySem.F.type_list_append (fun X _ => mt_append) gAppend_ok kd_lst ho ha hbase hfew hline hs (fun _ => rfl)
def gExtend : GM := fun x ds S Q => match x with
  | .ref q => match S q with
    | some (.lst xs) => match ds with
      | [.lst ys] => xs.length + ys.length ≤ 16777216 ∧ Q .non (up S q (.lst (xs ++ ys)))
      | [.ref q2] => match S q2 with
        | some (.lst ys) => xs.length + ys.length ≤ 16777216 ∧ Q .non (up S q (.lst (xs ++ ys)))
        | _ => False
      | _ => False
    | _ => False
  | _ => False
theorem ext_lem {K : PySem.W.Frag} {G F : Hp} {S : Sto} {H : Hp} {q b : Addr} {xs ys : List D} {ws : List V} {Q0 : HK} {Q : VK} (w : Wd K G F S H) (e : S q = some (.lst xs)) (hb : H b = some (.lst ws)) (rb : Reps K F ys ws)
    (h : xs.length + ys.length ≤ 16777216 ∧ Q0 .non (up S q (.lst (xs ++ ys)))) (hq : OkQ K G F Q0 Q) : rExtend (.ref q) [.ref b] H Q := by
  obtain ⟨us, h1, h2, h3⟩ := lstAt w e
  exact ⟨q, b, us, ws, rfl, rfl, h1, hb, by rw [h2.len, rb.len]; exact line_le h.1, hq .non _ F _ _ Le.rfl' (w.put (m := .lst (xs ++ ys)) e ⟨_, rfl, h2.append rb, by rw [List.length_append]; exact line_le h.1⟩) rfl h.2⟩
theorem gExtend_ok {K : PySem.W.Frag} : RMok K gExtend rExtend := by
  intro G F S H d v ds vs Q0 Q w r rs h hq
  unfold gExtend at h
  split at h
  · rename_i q
    obtain rfl : v = .ref q := r
    split at h
    · rename_i xs e
      split at h
      · obtain ⟨u, rfl, r1⟩ := rs.one_inv
        obtain ⟨b, ws, rfl, hb, rb, _⟩ := r1
        exact ext_lem w e (w.fr _ _ hb) rb h hq
      · rename_i q2
        obtain ⟨u, rfl, r1⟩ := rs.one_inv
        obtain rfl : u = .ref q2 := r1
        split at h
        · rename_i ys e2
          obtain ⟨ws, h1, h2, _⟩ := lstAt w e2
          exact ext_lem w e h1 h2 h hq
        · exact h.elim
      · exact h.elim
    · exact h.elim
  · exact h.elim
theorem hextend (ho : HE B o to) (ha : HA B [e] tr) (hbase : ∀ env, attributeBase o "extend" env (eval o env) = eval o env := by intro _; rfl)
    (hfew : ∀ env, ((backTo pos (starEach [e] env)).all (fun x => !x.1) && (backToKw pos (keywordEach [] env)).all (fun x => x.1.isSome) && decide ([e].length + ([] : List Keyword).length + (if ([] : List Keyword).isEmpty then 0 else 1) < 30)) = true := by intro _; rfl)
    (hline : (apos.endLine == pos.line) = true := by rfl) (hs : ∀ env, starEach [e] env = (false, eval e env) :: starEach [] env := by intro _; rfl) : HE B (.Call (.Attribute o "extend" apos) [e] [] pos) (hMt isLst gExtend to tr) :=
  hbm (r := fun _ => rExtend) PySem.F.plainAttrs_list PySem.F.slot_list_extend PySem.F.type_list_extend (fun X _ => mt_extend) gExtend_ok kd_lst ho ha hbase hfew hline hs (fun _ => rfl)
/-! join -/
def gJoin : GM := fun x ds S Q => match x with
  | .str z => match ds with
    | [y] => match items S y with
      | some ys => match dStrs ys with
        | some ts => (ts.map (·.length)).sum + ts.length * z.length ≤ 16777216 ∧ Q (.str (Txt.join z ts)) S
        | none => False
      | none => False
    | _ => False
  | _ => False
theorem gJoin_ok {K : PySem.W.Frag} : RMok K gJoin (fun x xs H Q => ∃ a p, ∃ ys : List Str, x = .str a ∧ xs = [.ref p] ∧ (SqL K H p (ys.map V.str) ∨ SqT K H p (ys.map V.str)) ∧ (ys.map (·.length)).sum + ys.length * a.length ≤ 16777216 ∧ Q (.str (Txt.join a ys)) H) := by
  intro G F S H d v ds vs Q0 Q w r rs h hq
  unfold gJoin at h
  split at h
  · split at h
    · obtain ⟨u, rfl, r1⟩ := rs.one_inv
      split at h
      · rename_i ys e
        split at h
        · rename_i ts e2
          obtain ⟨q, us, rfl, hs, rr, _⟩ := items_ok w r1 e
          rw [strs_ok e2 rr] at hs
          exact ⟨_, q, ts, r, rfl, hs, h.1, hq (.str _) _ F S H Le.rfl' w (by show V.str _ = _; rfl) h.2⟩
        · exact h.elim
      · exact h.elim
    · exact h.elim
  · exact h.elim
theorem hjoin (ho : HE B o to) (ha : HA B [e] tr) (hbase : ∀ env, attributeBase o "join" env (eval o env) = eval o env := by intro _; rfl)
    (hfew : ∀ env, ((backTo pos (starEach [e] env)).all (fun x => !x.1) && (backToKw pos (keywordEach [] env)).all (fun x => x.1.isSome) && decide ([e].length + ([] : List Keyword).length + (if ([] : List Keyword).isEmpty then 0 else 1) < 30)) = true := by intro _; rfl)
    (hline : (apos.endLine == pos.line) = true := by rfl) (hs : ∀ env, starEach [e] env = (false, eval e env) :: starEach [] env := by intro _; rfl) : HE B (.Call (.Attribute o "join" apos) [e] [] pos) (hMt isStr gJoin to tr) :=
  hbm (r := fun K x xs H Q => ∃ a p, ∃ ys : List Str, x = .str a ∧ xs = [.ref p] ∧ (SqL K H p (ys.map V.str) ∨ SqT K H p (ys.map V.str)) ∧ (ys.map (·.length)).sum + ys.length * a.length ≤ 16777216 ∧ Q (.str (Txt.join a ys)) H) PySem.F.plainAttrs_str PySem.F.slot_str_join PySem.F.type_str_join (fun X _ => mt_join) gJoin_ok kd_str ho ha hbase hfew hline hs (fun _ => rfl)
/-! ### f-strings -/
def gFmt : G1 := fun x S Q => match x with
  | .str y => y.length ≤ sizeLine ∧ Q (.str y) S
  | .int i => i.natAbs.log2 < 1920 ∧ Q (.str (toString i)) S
  | _ => False
theorem hfmt (h : HE B e te) : HE B (.FormattedValue e (-1) none pos) (hun gFmt te) :=
  ⟨fun X W ok tk => PE.imp (pe_fmt (h.run X W ok tk)) fun σ H Q h => by
    refine lun (r := fun x H1 Q => (∃ y : Str, x = .str y ∧ y.length ≤ sizeLine ∧ Q (.str y) H1) ∨ ∃ i : Int, x = .int i ∧ i.natAbs.log2 < 1920 ∧ Q (.str (toString i)) H1) ?_ te σ H Q h
    intro G F S H d v Q0 Q w r h hq
    unfold gFmt at h
    split at h
    · exact .inl ⟨_, r, h.1, hq (.str _) _ F S H Le.rfl' w (by show V.str _ = _; rfl) h.2⟩
    · exact .inr ⟨_, r, h.1, hq (.str _) _ F S H Le.rfl' w (by show V.str _ = _; rfl) h.2⟩
    · exact h.elim⟩
def hJs : List HTE → Str → HTE
  | [], acc, _, S, Q, _ => Q (.str acc) S
  | t :: ts, acc, env, S, Q, E => t env S (fun x S1 => match x with
    | .str y => (acc ++ y).length ≤ 16777216 ∧ hJs ts (acc ++ y) env S1 Q E
    | _ => False) E
inductive HJ (B : Bs) : List Expr → List HTE → Prop where
  | nil : HJ B [] []
  | cons {e : Expr} {t : HTE} {es : List Expr} {ts : List HTE} (h : HE B e t) (r : HJ B es ts) : HJ B (e :: es) (t :: ts)
theorem HJ.pj {es : List Expr} {ts : List HTE} (h : HJ B es ts) {X : Cx} {W : WX} (ok : OkC B X) (tk : Takes X W) : PJ X es (ts.map (lE B.K W)) := by
  induction h with
  | nil => exact .nil
  | cons h _ ih => exact .cons (h.run X W ok tk) ih
theorem js_lift {K : PySem.W.Frag} {W : WX} {Q : VK} {σ : St} : ∀ (ts : List HTE) (acc : Str) (G F : Hp) (S : Sto) (H : Hp) (env : HEnv) (Q0 E0 : HK), RepN K F env σ → Wd K G F S H → hJs ts acc env S Q0 E0 → OkQ K G F Q0 Q → OkE K G F E0 (WE W σ) →
    tJs (ts.map (lE K W)) acc σ H fun out H1 => Q (.str out) H1
  | [], acc, G, F, S, H, env, Q0, E0, rn, wd, h, hq, he => hq (.str acc) _ F S H Le.rfl' wd rfl h
  | t :: ts, acc, G, F, S, H, env, Q0, E0, rn, wd, h, hq, he => by
    refine ⟨G, F, S, env, _, E0, rn, wd, h, fun d v F1 S1 H1 l1 w1 r1 h1 => ?_, he⟩
    dsimp only at h1
    split at h1
    · exact ⟨_, r1, line_le h1.1, js_lift ts _ G F1 S1 H1 env Q0 E0 (rn.le l1) w1 h1.2 (hq.le l1) (he.le l1)⟩
    · exact h1.elim
theorem hjoined {v1 v2 : Expr} {rest : List Expr} {ts : List HTE} (h : HJ B (v1 :: v2 :: rest) ts) : HE B (.JoinedStr (v1 :: v2 :: rest) pos) (hJs ts Str.empty) :=
  ⟨fun X W ok tk => PE.imp (pe_joined (h.pj ok tk)) fun σ H Q ⟨G, F, S, env, Q0, E0, rn, wd, h, hq, he⟩ => js_lift ts _ G F S H env Q0 E0 rn wd h hq he⟩
theorem hjoined1 (h : HE B e te) : HE B (.JoinedStr [e] pos) te := ⟨fun X W ok tk => pe_joined1 (h.run X W ok tk)⟩
/-! ### < of tuples -/
def gLtD : G2 := fun x y S Q => match x, y with
  | .int i, .int j => Q (.bl (decide (i < j))) S
  | .str s, .str t => Q (.bl (decide (s.cps.toList < t.cps.toList))) S
  | .tup xs, .tup ys => match dok 60 (.tup xs) && dok 60 (.tup ys) && PySem.W.alike (toP (.tup xs)) (toP (.tup ys)) with
    | true => Q (.bl (PySem.W.dataLt (toP (.tup xs)) (toP (.tup ys)))) S
    | false => False
  | _, _ => False
theorem op_ltD {X : Cx} (hu : X.A.units + 64 < cLine) : OpR X (compareOp .Lt) (fun x y H Q => ∃ d e, Dp X.K H x d ∧ Dp X.K H y e ∧ SeqAt.shaped d = true ∧ PySem.W.alike d e = true ∧ d ≠ .none ∧ Q (.bl (PySem.W.dataLt d e)) H) := by
  intro pins s σ H x y v u Q I rx ry h
  obtain ⟨d, e, hd, he, sd, al, nn, q⟩ := h
  obtain ⟨as, r1⟩ := Dp.reads I d x v hd rx
  obtain ⟨bs, r2⟩ := Dp.reads I e y u he ry
  have hz := SeqAt.depth_of_shaped sd
  show wpAny (model X.prog X.w) X.A (richCompare .Lt v u) (EP X pins σ Q) X.xe s
  exact PySem.W.rcLt_alike d e X.A s v u as bs r1 r2 al nn (by have := Nat.min_le_left d.depth e.depth; omega) X.prog X.w _ _ ⟨.bl _, H, I, rfl, q⟩
theorem gLtD_ok {K : PySem.W.Frag} : R2ok K gLtD (fun x y H Q => rOrd (fun i j => decide (i < j)) (fun s t => decide (s < t)) x y H Q ∨ ∃ d e, Dp K H x d ∧ Dp K H y e ∧ SeqAt.shaped d = true ∧ PySem.W.alike d e = true ∧ d ≠ .none ∧ Q (.bl (PySem.W.dataLt d e)) H) := by
  intro G F S H d1 v1 d2 v2 Q0 Q w r1 r2 h hq
  unfold gLtD at h
  split at h
  · exact .inl (.inl ⟨_, _, r1, r2, hq (.bl _) _ F S H Le.rfl' w (by show V.bl _ = _; rfl) h⟩)
  · exact .inl (.inr ⟨_, _, r1, r2, hq (.bl _) _ F S H Le.rfl' w (by show V.bl _ = _; rfl) h⟩)
  · split at h
    · rename_i e
      obtain ⟨e, e3⟩ := Bool.and_eq_true_iff.mp e
      obtain ⟨e1, e2⟩ := Bool.and_eq_true_iff.mp e
      exact .inr ⟨_, _, dp_of w.fr _ 60 _ e1 r1, dp_of w.fr _ 60 _ e2 r2, shaped_of e1, e3, (fun z => by simp [toP] at z), hq (.bl _) _ F S H Le.rfl' w (by show V.bl _ = _; rfl) h⟩
    · exact h.elim
  · exact h.elim
theorem hltD (ha : HE B a ta) (hb : HE B b tb) : HE B (.Compare a [.Lt] [b] pos) (hop gLtD ta tb) := hcmp (r := fun K x y H Q => rOrd (fun i j => decide (i < j)) (fun s t => decide (s < t)) x y H Q ∨ ∃ d e, Dp K H x d ∧ Dp K H y e ∧ SeqAt.shaped d = true ∧ PySem.W.alike d e = true ∧ d ≠ .none ∧ Q (.bl (PySem.W.dataLt d e)) H) (fun X ok => (op_lt.or op_lt_str).or (op_ltD ok.room.units)) gLtD_ok ha hb (nomark _)
/-! ### == by an own __eq__ -/
structure HEqOwn (B : Bs) (k : Nat) (c : Nat) (sp : HSp) : Prop where
  ex : ∃ f, PySem.W.findIn B.K (.ref (cad B.K c)) "__eq__" = some (some (.ref f)) ∧ PySem.W.isFn B.K (.ref f) = true ∧ FnAt B k f 2 [] sp
  cl : Cls B.K (cad B.K c)
/-- what stands at the right may be compared by the left's own def -/
def rightOk : Sto → D → Bool
  | _, .non => true
  | _, .bl _ => true
  | _, .int _ => true
  | _, .str _ => true
  | _, .tup _ => true
  | _, .lst _ => true
  | _, _ => false
def hEqO (c : Nat) (sp : HSp) (to tb : HTE) : HTE := fun env S Q E => to env S (fun x S1 => tb env S1 (fun y S2 => match isC c S2 x && (isC c S2 y || rightOk S2 y) with
  | true => sp [x, y] S2 (fun r S3 => match r with
    | .bl _ => Q r S3
    | _ => False) (fun _ _ => False)
  | false => False) E) E
end
end Hy

set_option Elab.async false
set_option linter.all false
set_option maxRecDepth 100000
set_option maxHeartbeats 4000000
set_option autoImplicit false
namespace Hy
open PySem PySem.Spec PyProof.Rows L2
section
variable {B : Bs} {e a b o : Expr} {es : List Expr} {ta tb te to : HTE} {tr : HTA} {x m : Str} {p pos apos : Pos} {k n : Nat} {dds : List D} {sp : HSp}
/-- the type of what stands at the right -/
theorem right_type {X : Cx} {pins : List (Addr × Obj)} {σ : L2.St} {H : Hp} {s : Shared} {G F : Hp} {S : Sto} {c : Nat} {d : D} {v : V} {u : Value} (I : L2.Inv X pins σ H s) (w : Wd X.K G F S H) (r : Rep X.K F d v) (rv : RelV v u) (h : (isC c S d || rightOk S d) = true) :
    ∃ tb, PySem.W.Looks (model X.prog X.w) s.heap (typeOf u) tb ∧ PySem.W.notFirst X.K (cad X.K c) tb = true := by
  have own : isC c S d = true → ∃ tb, PySem.W.Looks (model X.prog X.w) s.heap (typeOf u) tb ∧ PySem.W.notFirst X.K (cad X.K c) tb = true := fun hc => by
    obtain ⟨a, dx, vs, rfl, hH⟩ := isC_ok w r hc
    cases rv
    obtain ⟨mA, O, _⟩ := ins_get I.hok hH
    obtain ⟨od, J, _⟩ := O.look
    exact ⟨_, J.type, by simp [PySem.W.notFirst]⟩
  cases hc : isC c S d with
  | true => exact own hc
  | false =>
    rw [hc] at h
    cases d <;> first | (simp [rightOk] at h; done) | skip
    · cases r; cases rv
      exact ⟨.type "NoneType", .of_pure rfl, by rfl⟩
    · cases r; cases rv
      exact ⟨.type "bool", .of_pure rfl, by rfl⟩
    · cases r
      obtain ⟨t, rfl⟩ := rv
      exact ⟨.type "int", .of_pure rfl, by rfl⟩
    · cases r
      obtain ⟨t, rfl⟩ := rv
      exact ⟨.type "str", .of_pure rfl, by rfl⟩
    · obtain ⟨a, vs, rfl, hs, _⟩ := r
      cases rv
      obtain ⟨its, _, ⟨oo, e1, e2, _⟩, _⟩ := I.tuple (SqT.le w.fr hs)
      exact ⟨.type "tuple", fun A Q E s2 kk q => wpAny_typeOf_ref (kk _ _ e1) (by rw [e2]; exact q), by rfl⟩
    · obtain ⟨a, vs, rfl, hs, _⟩ := r
      cases rv
      obtain ⟨its, _, ⟨oo, _, e1, e2, _⟩, _⟩ := I.list (SqL.of (w.fr _ _ hs))
      exact ⟨.type "list", fun A Q E s2 kk q => wpAny_typeOf_ref (kk _ _ e1) (by rw [e2]; exact q), by rfl⟩
/-- what == gives by an own def -/
def rEqO (K : PySem.W.Frag) (c : Nat) (sp : HSp) : R2 := fun x y H Q => ∃ G F S d1 d2 Q0, Wd K G F S H ∧ Rep K F d1 x ∧ Rep K F d2 y ∧ isC c S d1 = true ∧ (isC c S d2 || rightOk S d2) = true ∧
  sp [d1, d2] S Q0 (fun _ _ => False) ∧ ∀ d v F' S' H', Le F F' → Wd K G F' S' H' → Rep K F' d v → Q0 d S' → (∃ k, d = .bl k) ∧ Q v H'
theorem op_eqO {X : Cx} {c : Nat} (ok : OkC B X) (h : HEqOwn B k c sp) (hk : k ≤ B.k) : OpR X (compareOp .Eq) (rEqO X.K c sp) := by
  intro pins s σ H x y u v Q I rx ry hq
  obtain ⟨G, F, S, d1, d2, Q0, w, r1, r2, c1, c2, hsp, hh⟩ := hq
  obtain ⟨f, hs, hf, hat⟩ := h.ex
  obtain ⟨fd, ps, ds, dvs, hn, hb, hv, hd, hF⟩ := hat.ex
  rw [← ok.eK] at hs hf hb hd
  have hF := ok.fnOk hF
  rw [← ok.eK] at hF
  have e0 : dvs = [] := by have := (hd F).len; exact List.eq_nil_of_length_eq_zero (by simpa using this)
  subst e0
  have e1 : ds = [] := by cases hv; rfl
  subst e1
  obtain ⟨a, dx, vs, rfl, hH⟩ := isC_ok w r1 c1
  obtain ⟨tb, lk, nf⟩ := right_type I w r2 ry c2
  obtain rfl : u = Value.ref a := rx
  obtain ⟨mA, O, _⟩ := ins_get I.hok hH
  obtain ⟨od, J, _⟩ := O.look
  obtain ⟨mm, hfr⟩ := I.fr
  show wpAny (model X.prog X.w) X.A (richCompare .Eq (.ref a) v) (EP X pins σ Q) X.xe s
  refine PySem.W.cmp_K (op := .Eq) (tb := tb) ok.room.units0 hfr I.ok.mod.kin J lk nf hs hf ?_
  have rr : Reps X.K F [d1, d2] [V.ref a, y] := ⟨_, _, rfl, r1, Reps.one r2⟩
  refine wpAny_mono (run_fn (Q := fun z H' => (∃ k, z = V.bl k) ∧ Q z H') (E := E0) (dvs := []) hF (ok.room.mono hk) hb .nil passL I (.cons rfl (.cons ry .nil) : Vals [V.ref a, y] [Value.ref a, v])
    ⟨by simp, G, F, S, [d1, d2], Q0, _, rr, w, hsp, fun d z F' S' H' l w' r q => ?_, fun _ _ _ _ _ _ _ _ _ q => q.elim⟩) (fun r' s' hr => ?_) fun _ _ z => z
  · obtain ⟨⟨kk, e⟩, q2⟩ := hh d z F' S' H' l w' r q
    subst e
    exact ⟨⟨kk, r⟩, q2⟩
  · obtain ⟨z, H', I', rz, ⟨kk, e⟩, q⟩ := hr
    subst e
    cases rz
    exact ⟨.bl kk, H', I', rfl, q⟩
theorem lEqO {K : PySem.W.Frag} {W : WX} {c : Nat} (σ : L2.St) (H : Hp) (Q : VK) (h : lE K W (hEqO c sp ta tb) σ H Q) : tOp (rEqO K c sp) (lE K W ta) (lE K W tb) σ H Q := by
  obtain ⟨G, F, S, env, Q0, E0, rn, wd, h, hq, he⟩ := h
  refine ⟨G, F, S, env, _, E0, rn, wd, h, fun d v F1 S1 H1 l1 w1 r1 h1 => ?_, he⟩
  refine ⟨G, F1, S1, env, _, E0, rn.le l1, w1, h1, fun d2 v2 F2 S2 H2 l2 w2 r2 h2 => ?_, he.le l1⟩
  dsimp only at h2
  split at h2
  · rename_i e
    obtain ⟨e1, e2⟩ := Bool.and_eq_true_iff.mp e
    refine ⟨G, F2, S2, d, d2, _, w2, r1.le l2, r2, e1, e2, h2, fun d3 v3 F3 S3 H3 l3 w3 r3 q3 => ?_⟩
    try dsimp only at q3
    split at q3
    · exact ⟨⟨_, rfl⟩, hq _ _ F3 S3 H3 (l1.trans (l2.trans l3)) w3 r3 q3⟩
    · exact q3.elim
  · exact h2.elim
theorem heqO {c : Nat} (h : HEqOwn B k c sp) (hk : k ≤ B.k) (ha : HE B a ta) (hb : HE B b tb) : HE B (.Compare a [.Eq] [b] pos) (hEqO c sp ta tb) :=
  ⟨fun X W ok tk => PE.imp (pe_cmpR (op_eqO ok h hk) (ha.run X W ok tk) (hb.run X W ok tk) (nomark _)) fun σ H Q q => by rw [ok.eK]; exact lEqO σ H Q q⟩
theorem heqOT {c : Nat} (h : HEqOwn B k c sp) (hk : k ≤ B.k) (ha : HE B a ta) (hb : HE B b tb) : HT B (.Compare a [.Eq] [b] pos) (hB (hEqO c sp ta tb)) :=
  ⟨fun X W ok tk => PT.imp (pt_cmpR (op_eqO ok h hk) (ha.run X W ok tk) (hb.run X W ok tk) (nomark _)) fun σ H Q q => lB (fun σ H Q q => by rw [ok.eK]; exact lEqO σ H Q q) σ H Q q⟩
/-! ### isinstance(x, T) -/
/-- the answer for a built-in class -/
def isTy (T : String) (S : Sto) : D → Option Bool
  | .non => some false
  | .bl _ => some (T == "bool" || T == "int")
  | .int _ => some (T == "int")
  | .str _ => some (T == "str")
  | .tup _ => some (T == "tuple")
  | .lst _ => some (T == "list")
  | .ref q => match S q with
    | some (.lst _) => some (T == "list")
    | some (.dct _) => some (T == "dict")
    | _ => none
  | _ => none
/-- an own class, as isinstance sees it: against which classes of the text it is asked -/
structure IsiC (K : PySem.W.Frag) (c : Nat) (cs : List Nat) : Prop where
  ty : ∀ T ∈ ["NoneType", "bool", "int", "str", "list", "tuple"], PySem.W.kitOne K (.type T) (.ref (cad K c)) = some false
  cl : ∀ c' ∈ cs, InsFacts K c' ∧ PySem.W.kitOne K (.ref (cad K c')) (.ref (cad K c)) = some (Nat.beq c' c)
def memN (c : Nat) : List Nat → Bool
  | [] => false
  | d :: ds => match Nat.beq c d with
    | true => true
    | false => memN c ds
theorem memN_ok {c : Nat} : ∀ {l : List Nat}, memN c l = true → c ∈ l
  | [], h => by cases h
  | d :: ds, h => by
    unfold memN at h
    split at h
    · rename_i e
      rw [Nat.eq_of_beq_eq_true e]; exact List.mem_cons_self
    · exact List.mem_cons_of_mem _ (memN_ok h)
def isiO (c : Nat) (cs : List Nat) (S : Sto) : D → Option Bool
  | .non => some false
  | .bl _ => some false
  | .int _ => some false
  | .str _ => some false
  | .tup _ => some false
  | .lst _ => some false
  | .obj c' _ => match memN c' cs with
    | true => some (Nat.beq c' c)
    | false => none
  | .ref q => match S q with
    | some (.lst _) => some false
    | some (.ins c' _) => match memN c' cs with
      | true => some (Nat.beq c' c)
      | false => none
    | _ => none
  | _ => none
theorem ty_tup {K : PySem.W.Frag} {H : Hp} {a : Addr} {vs : List V} (h : SqT K H a vs) : TyX K H (.ref a) (.type "tuple") := by
  rcases h with (h | ⟨o, h⟩) | ⟨o, its, n, hk, hc, _⟩
  · exact .base (.tup h)
  · exact .fTuple h
  · exact .kTuple hk hc
theorem isiO_ok {K : PySem.W.Frag} {G F : Hp} {S : Sto} {H : Hp} {c : Nat} {cs : List Nat} {d : D} {v : V} {b : Bool} (I : IsiC K c cs) (w : Wd K G F S H) (r : Rep K F d v) (h : isiO c cs S d = some b) : ∃ t, TyX K H v t ∧ PySem.W.kitOne K t (.ref (cad K c)) = some b := by
  cases d with
  | non => cases h; cases r; exact ⟨_, .base .non, I.ty _ (by simp)⟩
  | bl _ => cases h; cases r; exact ⟨_, .base (.bl _), I.ty _ (by simp)⟩
  | int _ => cases h; cases r; exact ⟨_, .base (.int _), I.ty _ (by simp)⟩
  | str _ => cases h; cases r; exact ⟨_, .base (.str _), I.ty _ (by simp)⟩
  | tup _ =>
    cases h
    obtain ⟨a, vs, rfl, hs, _⟩ := r
    exact ⟨_, ty_tup (SqT.le w.fr hs), I.ty _ (by simp)⟩
  | lst _ =>
    cases h
    obtain ⟨a, vs, rfl, hs, _⟩ := r
    exact ⟨_, .base (.lst (w.fr _ _ hs)), I.ty _ (by simp)⟩
  | obj c' _ =>
    simp only [isiO] at h
    split at h
    · rename_i em
      cases h
      obtain ⟨f, e⟩ := I.cl c' (memN_ok em)
      obtain ⟨a, dx, vs, rfl, hs, _⟩ := r
      exact ⟨_, .base (.ins (w.fr _ _ hs) f.cl f.ha f.hn f.tk f.hm), e⟩
    · cases h
  | ref q =>
    obtain rfl : v = .ref q := r
    simp only [isiO] at h
    split at h
    · rename_i e
      cases h
      obtain ⟨vs, h1, _⟩ := lstAt w e
      exact ⟨_, .base (.lst h1), I.ty _ (by simp)⟩
    · rename_i c' ds es
      split at h
      · rename_i em
        cases h
        obtain ⟨f, e⟩ := I.cl c' (memN_ok em)
        obtain ⟨dx, vs, hH, _⟩ := insAt w es
        exact ⟨_, .base (.ins hH f.cl f.ha f.hn f.tk f.hm), e⟩
      · cases h
    · cases h
  | _ => cases h
/-- the name of a class of the text, as a value -/
theorem hcls (c : Nat) (gn : Gn B (cname c)) (hm : B.mg (cname c) = some (.ref (cad B.K c))) (hdb : (cname c == ("__debug__" : Str)) = false := by decide) : HE B (.Name (cname c) pos) (hC (.ref (cad B.K c))) :=
  ⟨fun X W ok tk => PE.imp (pe_glob (v := .ref (cad B.K c)) (ok.gl gn) (by rw [ok.em]; exact hm) rfl hdb) fun σ H Q ⟨G, F, S, env, Q0, E0, rn, wd, h, hq, he⟩ => hq (.ref _) _ F S H Le.rfl' wd rfl h⟩
/-- a built-in class, as a value -/
theorem hty {T : String} (gn : Gn B x) (hm : B.mg x = none) (hv : bootBuiltins x = some (.type T)) (hn : x ≠ "__name__" := by decide) (hdb : (x == ("__debug__" : Str)) = false := by decide) : HE B (.Name x pos) (hC (.ty T)) :=
  ⟨fun X W ok tk => PE.imp (pe_bltn (v := .ty T) (ok.gl gn) (by rw [ok.em]; exact hm) hv rfl hn hdb) fun σ H Q ⟨G, F, S, env, Q0, E0, rn, wd, h, hq, he⟩ => hq (.ty T) _ F S H Le.rfl' wd rfl h⟩
def gIsiO (c : Nat) (cs : List Nat) : GL := fun ds S Q => match ds with
  | [x, _] => match isiO c cs S x with
    | some b => Q (.bl b) S
    | none => False
  | _ => False
/-- isinstance(e, C) -/
theorem hisiO (c : Nat) (cs : List Nat) (I : IsiC B.K c cs) (gi : Gn B "isinstance") (mi : B.mg "isinstance" = none) (gn : Gn B (cname c)) (hm : B.mg (cname c) = some (.ref (cad B.K c))) {p2 : Pos} (h : HE B e te) (hdb : (cname c == ("__debug__" : Str)) = false := by decide)
    (he : ∀ env, starEach [e, .Name (cname c) p2] env = (false, eval e env) :: starEach [.Name (cname c) p2] env := by intro _; rfl) :
    HE B (.Call (.Name "isinstance" p) [e, .Name (cname c) p2] [] pos) (hun (fun x S Q => match isiO c cs S x with
      | some b => Q (.bl b) S
      | none => False) te) :=
  ⟨fun X W ok tk => PE.imp (pe_callB (call_isi (X := X)) (ok.gl gi) (by rw [ok.em]; exact mi) (by decide +kernel) (pa_cons (h.run X W ok tk) (pa_cons (pe_glob (v := .ref (cad B.K c)) (ok.gl gn) (by rw [ok.em]; exact hm) rfl hdb) pa_nil) (he _)) (by decide) (by decide) (he _) rfl)
    fun σ H Q ⟨G, F, S, env, Q0, E0, rn, wd, h, hq, hE⟩ => ⟨G, F, S, env, _, E0, rn, wd, h, fun d v F1 S1 H1 l1 w1 r1 h1 => by
      dsimp only at h1
      split at h1
      · rename_i b eb
        obtain ⟨t, ht, hk⟩ := isiO_ok I w1 r1 eb
        exact ⟨v, .ref (cad B.K c), t, .ref (cad B.K c), b, rfl, .own _, by rw [ok.eK]; exact ht, by rw [ok.eK]; exact hk, hq (.bl b) _ F1 S1 H1 l1 w1 rfl h1⟩
      · exact h1.elim, hE⟩⟩
/-! isinstance against a built-in class -/
def tagN : Nat → String
  | 0 => "NoneType"
  | 1 => "bool"
  | 2 => "int"
  | 3 => "str"
  | 4 => "tuple"
  | 5 => "list"
  | _ => "dict"
def tag (S : Sto) : D → Option Nat
  | .non => some 0
  | .bl _ => some 1
  | .int _ => some 2
  | .str _ => some 3
  | .tup _ => some 4
  | .lst _ => some 5
  | .ref q => match S q with
    | some (.lst _) => some 5
    | some (.dct _) => some 6
    | _ => none
  | _ => none
theorem tag_ok {K : PySem.W.Frag} {G F : Hp} {S : Sto} {H : Hp} {d : D} {v : V} {i : Nat} (w : Wd K G F S H) (r : Rep K F d v) (h : tag S d = some i) : TyX K H v (.type (tagN i)) := by
  cases d with
  | non => cases h; cases r; exact .base .non
  | bl _ => cases h; cases r; exact .base (.bl _)
  | int _ => cases h; cases r; exact .base (.int _)
  | str _ => cases h; cases r; exact .base (.str _)
  | tup _ =>
    cases h
    obtain ⟨a, vs, rfl, hs, _⟩ := r
    exact ty_tup (SqT.le w.fr hs)
  | lst _ =>
    cases h
    obtain ⟨a, vs, rfl, hs, _⟩ := r
    exact .base (.lst (w.fr _ _ hs))
  | ref q =>
    obtain rfl : v = .ref q := r
    simp only [tag] at h
    split at h
    · rename_i e
      cases h
      obtain ⟨vs, h1, _⟩ := lstAt w e
      exact .base (.lst h1)
    · rename_i e
      cases h
      obtain ⟨vs, h1, _⟩ := dctAt w e
      exact .base (.dK h1)
    · cases h
  | _ => cases h
structure IsT (T : String) (ans : Nat → Bool) : Prop where
  ok : ∀ (K : PySem.W.Frag) (i : Nat), PySem.W.kitOne K (.type (tagN i)) (.type T) = some (ans i)
theorem isT_of {T : String} {ans : Nat → Bool} (h0 : kitB "NoneType" T = some (ans 0)) (h1 : kitB "bool" T = some (ans 1)) (h2 : kitB "int" T = some (ans 2)) (h3 : kitB "str" T = some (ans 3)) (h4 : kitB "tuple" T = some (ans 4)) (h5 : kitB "list" T = some (ans 5))
    (h6 : kitB "dict" T = some (ans 6)) (hc : ∀ i, 6 ≤ i → ans i = ans 6) : IsT T ans := ⟨fun K i => match i with
  | 0 => kit_ty h0
  | 1 => kit_ty h1
  | 2 => kit_ty h2
  | 3 => kit_ty h3
  | 4 => kit_ty h4
  | 5 => kit_ty h5
  | i + 6 => by rw [hc (i + 6) (by omega)]; exact kit_ty h6⟩
def isTup : Nat → Bool
  | 4 => true
  | _ => false
def isLis : Nat → Bool
  | 5 => true
  | _ => false
def isTxt : Nat → Bool
  | 3 => true
  | _ => false
theorem isT_tuple : IsT "tuple" isTup := isT_of (by decide +kernel) (by decide +kernel) (by decide +kernel) (by decide +kernel) (by decide +kernel) (by decide +kernel) (by decide +kernel) (fun i h => by
  obtain ⟨j, rfl⟩ : ∃ j, i = j + 6 := ⟨i - 6, by omega⟩
  rfl)
theorem isT_list : IsT "list" isLis := isT_of (by decide +kernel) (by decide +kernel) (by decide +kernel) (by decide +kernel) (by decide +kernel) (by decide +kernel) (by decide +kernel) (fun i h => by
  obtain ⟨j, rfl⟩ : ∃ j, i = j + 6 := ⟨i - 6, by omega⟩
  rfl)
theorem isT_str : IsT "str" isTxt := isT_of (by decide +kernel) (by decide +kernel) (by decide +kernel) (by decide +kernel) (by decide +kernel) (by decide +kernel) (by decide +kernel) (fun i h => by
  obtain ⟨j, rfl⟩ : ∃ j, i = j + 6 := ⟨i - 6, by omega⟩
  rfl)
def gIsiT (ans : Nat → Bool) : G1 := fun x S Q => match tag S x with
  | some i => Q (.bl (ans i)) S
  | none => False
/-- isinstance(e, T), T built in -/
theorem hisiT {T : String} {ans : Nat → Bool} (I : IsT T ans) (gi : Gn B "isinstance") (mi : B.mg "isinstance" = none) {xt : Str} (gn : Gn B xt) (hm : B.mg xt = none) (hv : bootBuiltins xt = some (.type T)) {p2 : Pos} (h : HE B e te) (hn : xt ≠ "__name__" := by decide) (hdb : (xt == ("__debug__" : Str)) = false := by decide)
    (he : ∀ env, starEach [e, .Name xt p2] env = (false, eval e env) :: starEach [.Name xt p2] env := by intro _; rfl) :
    HE B (.Call (.Name "isinstance" p) [e, .Name xt p2] [] pos) (hun (gIsiT ans) te) :=
  ⟨fun X W ok tk => PE.imp (pe_callB (call_isi (X := X)) (ok.gl gi) (by rw [ok.em]; exact mi) (by decide +kernel) (pa_cons (h.run X W ok tk) (pa_cons (pe_bltn (v := .ty T) (ok.gl gn) (by rw [ok.em]; exact hm) hv rfl hn hdb) pa_nil) (he _)) (by decide) (by decide) (he _) rfl)
    fun σ H Q ⟨G, F, S, env, Q0, E0, rn, wd, h, hq, hE⟩ => ⟨G, F, S, env, _, E0, rn, wd, h, fun d v F1 S1 H1 l1 w1 r1 h1 => by
      dsimp only [gIsiT] at h1
      split at h1
      · rename_i i ei
        exact ⟨v, .ty T, _, .type T, ans i, rfl, .ty _, by rw [ok.eK]; exact tag_ok w1 r1 ei, I.ok _ _, hq (.bl _) _ F1 S1 H1 l1 w1 rfl h1⟩
      · exact h1.elim, hE⟩⟩
end
end Hy

set_option Elab.async false
set_option linter.all false
set_option maxRecDepth 100000
set_option maxHeartbeats 4000000
set_option autoImplicit false
namespace Hy
open PySem PySem.Spec PyProof.Rows L2
section
variable {B : Bs} {e a b o i : Expr} {es rest : List Expr} {ta tb te to ti : HTE} {tr : HTA} {x : Str} {p pos apos : Pos}
/-! ### truth -/
def gTru : D → Sto → (Bool → Sto → Prop) → Prop := fun x S Q => match x with
  | .non => Q false S
  | .bl b => Q b S
  | .int i => Q (i != 0) S
  | .str y => y.length ≤ 16777216 ∧ Q ((y.length : Int) != 0) S
  | .ref q => match S q with
    | some (.lst ds) => Q (!ds.isEmpty) S
    | some (.dct kvs) => Q (!kvs.isEmpty) S
    | _ => False
  | .tup ds => Q (!ds.isEmpty) S
  | .lst ds => Q (!ds.isEmpty) S
  | .rls ds => Q (!ds.isEmpty) S
  | _ => False
theorem emp_reps {K : PySem.W.Frag} {F : Hp} {ds : List D} {vs : List V} (r : Reps K F ds vs) : vs.isEmpty = ds.isEmpty := by
  cases ds with
  | nil => cases r; rfl
  | cons d ds => obtain ⟨v, ws, rfl, _⟩ := r; rfl
theorem gTru_ok {K : PySem.W.Frag} {G F : Hp} {S : Sto} {H : Hp} {d : D} {v : V} {Q0 : Bool → Sto → Prop} (w : Wd K G F S H) (r : Rep K F d v) (h : gTru d S Q0) : ∃ k, TruV K v H k ∧ Q0 k S := by
  cases d with
  | non => cases r; exact ⟨_, rfl, h⟩
  | bl b => cases r; exact ⟨_, rfl, h⟩
  | int i => cases r; exact ⟨_, rfl, h⟩
  | str y => cases r; exact ⟨_, ⟨line_le h.1, rfl⟩, h.2⟩
  | ref q =>
    obtain rfl : v = .ref q := r
    unfold gTru at h
    dsimp only at h
    split at h
    · rename_i ds e
      obtain ⟨vs, h1, h2, _⟩ := lstAt w e
      exact ⟨_, .inl ⟨vs, SqL.of h1, rfl⟩, by rw [emp_reps h2]; exact h⟩
    · rename_i kvs e
      obtain ⟨vs, h1, h2⟩ := dctAt w e
      refine ⟨_, .inr (.inr ⟨_, h1, rfl⟩), ?_⟩
      have hl := zip_len h2
      have : ((kvs.map (·.1)).zip vs).isEmpty = kvs.isEmpty := by
        cases kvs with
        | nil => rfl
        | cons kv kvs =>
          cases e3 : ((kv :: kvs).map (·.1)).zip vs with
          | nil => rw [e3] at hl; cases hl
          | cons _ _ => rfl
      rw [this]; exact h
    · exact h.elim
  | tup ds =>
    obtain ⟨a, vs, rfl, hs, rs, _⟩ := r
    exact ⟨_, .inr (.inl ⟨vs, SqT.le w.fr hs, rfl⟩), by rw [emp_reps rs]; exact h⟩
  | lst ds =>
    obtain ⟨a, vs, rfl, hs, rs, _⟩ := r
    exact ⟨_, .inl ⟨vs, SqL.of (w.fr _ _ hs), rfl⟩, by rw [emp_reps rs]; exact h⟩
  | rls ds =>
    obtain ⟨a, vs, rfl, hs, rs, _⟩ := r
    exact ⟨_, .inl ⟨vs, SqL.le w.fr hs, rfl⟩, by rw [emp_reps rs]; exact h⟩
  | _ => exact h.elim
def hTr (t : HTE) : HTT := fun env S Q E => t env S (fun x S1 => gTru x S1 Q) E
theorem htr (h : HE B a ta) (he : ∀ env whole, isTrue a env whole = (do let v ← whole; standAt a.pos; holding [v] (truthy v)) := by intro _ _; rfl) : HT B a (hTr ta) :=
  ⟨fun X W ok tk => PT.imp (pt_truth (h.run X W ok tk) (he _)) fun σ H Q ⟨G, F, S, env, Q0, E0, rn, wd, h, hq, hE⟩ =>
    ⟨G, F, S, env, _, E0, rn, wd, h, fun d v F1 S1 H1 l1 w1 r1 h1 => by
      obtain ⟨k, t, q⟩ := gTru_ok w1 r1 h1
      exact ⟨k, by rw [ok.eK]; exact t, hq k F1 S1 H1 l1 w1 q⟩, hE⟩⟩
def hOrT (ta tb : HTE) : HTE := fun env S Q E => ta env S (fun x S1 => gTru x S1 fun b S2 => match b with
  | true => Q x S2
  | false => tb env S2 Q E) E
theorem gTru_S {d : D} {S : Sto} {Q : Bool → Sto → Prop} (h : gTru d S Q) : gTru d S fun b S2 => S2 = S ∧ Q b S := by
  cases d with
  | ref q =>
    unfold gTru at h ⊢
    dsimp only at h ⊢
    split at h
    · exact ⟨rfl, h⟩
    · exact ⟨rfl, h⟩
    · exact h.elim
  | str y => exact ⟨h.1, rfl, h.2⟩
  | obj _ _ => exact h.elim
  | exc _ _ => exact h.elim
  | ty _ => exact h.elim
  | _ => exact ⟨rfl, h⟩
theorem horT (ha : HE B a ta) (hb : HE B (.BoolOp .Or (b :: rest) pos) tb) : HE B (.BoolOp .Or (a :: b :: rest) pos) (hOrT ta tb) :=
  ⟨fun X W ok tk => PE.imp (pe_orT (ha.run X W ok tk) (hb.run X W ok tk)) fun σ H Q ⟨G, F, S, env, Q0, E0, rn, wd, h, hq, hE⟩ =>
    ⟨G, F, S, env, _, E0, rn, wd, h, fun d v F1 S1 H1 l1 w1 r1 h1 => by
      obtain ⟨k, t, q⟩ := gTru_ok w1 r1 (gTru_S h1)
      refine ⟨k, by rw [ok.eK]; exact t, ?_⟩
      obtain ⟨_, q⟩ := q
      cases k with
      | true => rw [if_pos rfl]; exact hq d v F1 S1 H1 l1 w1 r1 q
      | false => rw [if_neg Bool.false_ne_true]; exact ⟨G, F1, S1, env, Q0, E0, rn.le l1, w1, q, hq.le l1, hE.le l1⟩, hE⟩⟩
def hAndT (ta tb : HTE) : HTE := fun env S Q E => ta env S (fun x S1 => gTru x S1 fun b S2 => match b with
  | true => tb env S2 Q E
  | false => Q x S2) E
theorem handT (ha : HE B a ta) (hb : HE B (.BoolOp .And (b :: rest) pos) tb) : HE B (.BoolOp .And (a :: b :: rest) pos) (hAndT ta tb) :=
  ⟨fun X W ok tk => PE.imp (pe_andT (ha.run X W ok tk) (hb.run X W ok tk)) fun σ H Q ⟨G, F, S, env, Q0, E0, rn, wd, h, hq, hE⟩ =>
    ⟨G, F, S, env, _, E0, rn, wd, h, fun d v F1 S1 H1 l1 w1 r1 h1 => by
      obtain ⟨k, t, q⟩ := gTru_ok w1 r1 (gTru_S h1)
      refine ⟨k, by rw [ok.eK]; exact t, ?_⟩
      obtain ⟨_, q⟩ := q
      cases k with
      | false => rw [if_neg Bool.false_ne_true]; exact hq d v F1 S1 H1 l1 w1 r1 q
      | true => rw [if_pos rfl]; exact ⟨G, F1, S1, env, Q0, E0, rn.le l1, w1, q, hq.le l1, hE.le l1⟩, hE⟩⟩
def hNotT (ta : HTE) : HTE := fun env S Q E => ta env S (fun x S1 => gTru x S1 fun b S2 => Q (.bl (!b)) S2) E
theorem hnotT (ha : HE B a ta) : HE B (.UnaryOp .Not a pos) (hNotT ta) :=
  ⟨fun X W ok tk => PE.imp (pe_notT (ha.run X W ok tk)) fun σ H Q ⟨G, F, S, env, Q0, E0, rn, wd, h, hq, hE⟩ =>
    ⟨G, F, S, env, _, E0, rn, wd, h, fun d v F1 S1 H1 l1 w1 r1 h1 => by
      obtain ⟨k, t, q⟩ := gTru_ok w1 r1 h1
      exact ⟨k, by rw [ok.eK]; exact t, hq (.bl (!k)) _ F1 S1 H1 l1 w1 rfl q⟩, hE⟩⟩
/-! ### o[i] = e of a list -/
def gSetI (x y z : D) (S : Sto) (Q : Sto → Prop) : Prop := match x, y with
  | .ref q, .int k => match S q with
    | some (.lst ds) => match ixN ds.length k with
      | some j => Q (up S q (.lst (ds.set j z)))
      | none => False
    | _ => False
  | _, _ => False
theorem gSetI_ok {K : PySem.W.Frag} {G F : Hp} {S : Sto} {H : Hp} {x y z : D} {v u t : V} {Q0 : Sto → Prop} (w : Wd K G F S H) (rx : Rep K F x v) (ry : Rep K F y u) (rz : Rep K F z t) (h : gSetI x y z S Q0) {Q : Hp → Prop} (hq : ∀ S' H', Wd K G F S' H' → Q0 S' → Q H') : rSetL v u t H Q := by
  unfold gSetI at h
  split at h
  · rename_i q k
    obtain rfl : v = .ref q := rx
    obtain rfl : u = .int k := ry
    split at h
    · rename_i ds e
      split at h
      · rename_i j ej
        obtain ⟨vs, h1, h2, h3⟩ := lstAt w e
        exact ⟨q, vs, k, j, rfl, rfl, h1, by rw [h2.len]; exact ej, hq _ _ (w.put (m := .lst (ds.set j z)) e ⟨_, rfl, h2.set j rz, by rw [List.length_set]; exact h3⟩) h⟩
      · exact h.elim
    · exact h.elim
  · exact h.elim
def hSetI (to ti te : HTE) : HTS := fun D env S => te env S (fun z S1 => to env S1 (fun x S2 => ti env S2 (fun y S3 => gSetI x y z S3 fun S4 => D.nx env S4) fun x S3 => D.ex x env S3) fun x S2 => D.ex x env S2) fun x S1 => D.ex x env S1
theorem hseti {pos' : Pos} (ho : HE B o to) (hi : HE B i ti) (h : HE B e te) (hs : ∀ env, swapsWithSole [.Subscript o i pos'] e pos.line env = pure false := by intro _; rfl) (hw : ∀ env, swappedStores [.Subscript o i pos'] e env = pure none := by intro _; rfl)
    (h1 : ∀ env, (assignEach [.Subscript o i pos'] env).map (·.2) = [assign (.Subscript o i pos') env] := by intro _; rfl)
    (ha : ∀ env v, assign (.Subscript o i pos') env v = (do
      let ov ← holding [v] (eval o env)
      let iv ← holding [v, ov] (eval i env)
      standAt pos'
      holding [v, ov, iv] (setItem ov iv v)
      release [v, ov, iv] []) := by intro _ _; rfl) : HS B (.Assign [.Subscript o i pos'] e pos) (hSetI to ti te) :=
  ⟨fun X W ok tk => PS.imp (ps_asg (h.run X W ok tk) (pg_sub (ho.run X W ok tk) (hi.run X W ok tk) set_list (ha _)) (hs _) (hw _) (h1 _)) fun D σ H ⟨G, F, S, env, E, rn, wd, h, oo⟩ =>
    ⟨G, F, S, env, _, _, rn, wd, h, fun z t F1 S1 H1 l1 w1 r1 h1 =>
      ⟨G, F1, S1, env, _, _, rn.le l1, w1, h1, fun x v F2 S2 H2 l2 w2 r2 h2 =>
        ⟨G, F2, S2, env, _, _, rn.le (l1.trans l2), w2, h2, fun y u F3 S3 H3 l3 w3 r3 h3 =>
          gSetI_ok w3 (r2.le l3) r3 (r1.le (l2.trans l3)) h3 fun S' H' w' q => oo.nx env σ F3 S' H' (l1.trans (l2.trans l3)) w' (rn.le (l1.trans (l2.trans l3))) q, (oo.le (l1.trans l2)).exc (rn.le (l1.trans l2))⟩, (oo.le l1).exc (rn.le l1)⟩, oo.exc rn⟩⟩
/-! ### constants of the module -/
theorem hgi {n : Int} (gn : Gn B x) (hm : ∃ t, B.mg x = some (.int n t)) (hdb : (x == ("__debug__" : Str)) = false := by decide) : HE B (.Name x pos) (hC (.int n)) :=
  ⟨fun X W ok tk => by
    obtain ⟨t, hm⟩ := hm
    exact PE.imp (pe_glob (v := .int n) (ok.gl gn) (by rw [ok.em]; exact hm) ⟨t, rfl⟩ hdb) fun σ H Q ⟨G, F, S, env, Q0, E0, rn, wd, h, hq, he⟩ => hq (.int n) _ F S H Le.rfl' wd rfl h⟩
theorem hgs {z : Str} (gn : Gn B x) (hm : ∃ t, B.mg x = some (.str z t)) (hdb : (x == ("__debug__" : Str)) = false := by decide) : HE B (.Name x pos) (hC (.str z)) :=
  ⟨fun X W ok tk => by
    obtain ⟨t, hm⟩ := hm
    exact PE.imp (pe_glob (v := .str z) (ok.gl gn) (by rw [ok.em]; exact hm) ⟨t, rfl⟩ hdb) fun σ H Q ⟨G, F, S, env, Q0, E0, rn, wd, h, hq, he⟩ => hq (.str z) _ F S H Le.rfl' wd rfl h⟩
/-- a table of the module, a tuple -/
theorem hgtup {ds : List D} (gn : Gn B x) (hm : B.mg x = some (.ref (He.ga B.K x))) (hr : ∀ F, Rep B.K F (.tup ds) (.ref (He.ga B.K x))) (hdb : (x == ("__debug__" : Str)) = false := by decide) : HE B (.Name x pos) (hC (.tup ds)) :=
  ⟨fun X W ok tk => by
    exact PE.imp (pe_glob (v := .ref (He.ga B.K x)) (ok.gl gn) (by rw [ok.em]; exact hm) rfl hdb) fun σ H Q ⟨G, F, S, env, Q0, E0, rn, wd, h, hq, he⟩ => hq (.tup ds) _ F S H Le.rfl' wd (hr F) h⟩
end
end Hy

set_option Elab.async false
set_option linter.all false
set_option maxRecDepth 100000
set_option maxHeartbeats 4000000
set_option autoImplicit false
namespace Hy
open PySem PySem.Spec PyProof.Rows L2
/-! ### comprehensions whose list is changed later -/
theorem Wd.endS {K : PySem.W.Frag} {G F : Hp} {S : Sto} {H : Hp} {p : Addr} {o : HO} {m : M} (W : Wd K (upd G p o) F S H) (hG : G p = none) (r : RepM K F m o) : Wd K G F (up S p m) H ∧ S p = none := by
  obtain ⟨hH, hF, hS⟩ := W.gr p o upd_same
  refine ⟨⟨fun a u e => ?_, W.fr, fun a n e => ?_, fun a n e => ?_⟩, hS⟩
  · have ha := ne_of_none e hG
    obtain ⟨h1, h2, h3⟩ := W.gr a u (by rw [upd_ne ha]; exact e)
    exact ⟨h1, h2, by rw [up_ne ha]; exact h3⟩
  · by_cases ha : a = p
    · subst ha; rw [up_same] at e; cases e; exact ⟨o, hH, r⟩
    · rw [up_ne ha] at e; exact W.st a n e
  · by_cases ha : a = p
    · subst ha; exact hF
    · rw [up_ne ha] at e; exact W.dj a n e
/-- a frozen list that nobody else names: it may change again -/
def hThaw (t : HTE) : HTE := fun env S Q E => t env S (fun x S1 => match x with
  | .lst acc => ∀ p, S1 p = none → Q (.ref p) (up S1 p (.lst acc))
  | _ => False) E
section
variable {B : Bs} {e elt tg iter c : Expr} {ifs : List Expr} {te : HTE} {tc : HTT} {ti : HTI} {p : Pt} {pos : Pos} {scope : Scope}
def cloopM (p : Pt) (tt : HTT) (te : HTE) (k : Ck) : List D → List D → HEnv → Sto → HK → Prop
  | [], acc, env, S, Q => chk k S (∀ q, S q = none → Q (.ref q) (up S q (.lst acc)))
  | d :: ds, acc, env, S, Q => chk k S (match bindD p d env with
    | some env1 => tt env1 S (fun b S1 => match b with
      | true => te env1 S1 (fun y S2 => cloopM p tt te k ds (acc ++ [y]) env S2 Q) fun _ _ => False
      | false => cloopM p tt te k ds acc env S1 Q) fun _ _ => False
    | none => False)
theorem cloopM_chk {p : Pt} {tt : HTT} {te : HTE} {k : Ck} {ds acc : List D} {env : HEnv} {S : Sto} {Q : HK} (h : cloopM p tt te k ds acc env S Q) : chk k S True := by
  cases ds with
  | nil => exact chk_t h
  | cons d ds => exact chk_t h
def hLcM (ti : HTI) (p : Pt) (tt : HTT) (te : HTE) (vs : List Nat) : HTE := fun env S Q E => ti env S (fun ds k S1 => cloopM p tt te k ds [] (wipeN env vs) S1 Q) E
theorem lcM_lift {K : PySem.W.Frag} {W : WX} {vs : List Nat} (hv : ∀ j ∈ slots p, j ∈ vs) (σ : St) (H : Hp) (Q : VK) (h : lE K W (hLcM ti p tc te vs) σ H Q) :
    tLc (lI K W ti) (gV K p) (lT K (fun _ _ _ _ => False) tc) (lE K (fun _ _ _ _ => False) te) vs σ H Q := by
  obtain ⟨G, F, S, env, Q0, E0, rn, wd, h, hq, he⟩ := h
  refine ⟨G, F, S, env, _, E0, rn, wd, h, fun ds k F1 S1 H1 J l1 w1 it h1 => ?_, he⟩
  intro Dd hD
  have hGD : G Dd = none := by
    cases q : G Dd with
    | none => rfl
    | some o => rw [(w1.gr Dd o q).1] at hD; cases hD
  have leG : ∀ o, Le G (upd G Dd o) := fun o => Le.upd hGD
  refine lc_it it.w (fun i H' => ∃ F2 S2 acc us, Le F1 F2 ∧ Wd K (upd G Dd (.lst us)) F2 S2 H' ∧ Reps K F2 acc us ∧ acc.length ≤ i ∧ cloopM p tc te k (ds.drop i) acc (wipeN env vs) S2 Q0)
    ⟨F1, S1, [], [], Le.rfl', w1.newG _ hD, rfl, Nat.le_refl _, by simpa using h1⟩ (fun i H' _ ⟨F2, S2, acc, us, l2, w2, _, _, q2⟩ => ⟨F2, S2, l2, w2.lessG (leG _), cloopM_chk q2⟩)
    (fun i x H' H'' hi ⟨F2, S2, acc, us, l2, w2, ra, hz, q2⟩ y => ?_) (fun H' ⟨F2, S2, acc, us, l2, w2, ra, hz, q2⟩ => ?_)
  · obtain ⟨d, F3, e1, l3, w3, r3⟩ := y _ F2 S2 (leG _) l2 w2 (cloopM_chk q2)
    have e2 : ds.drop i = d :: ds.drop (i + 1) := by
      rw [List.drop_eq_getElem_cons hi]
      rw [List.getElem?_eq_getElem hi] at e1
      cases e1; rfl
    rw [e2] at q2
    have q3 := chk_a (show chk k S2 (match bindD p d (wipeN env vs) with
      | some env1 => tc env1 S2 (fun b S1 => match b with
        | true => te env1 S1 (fun y S2 => cloopM p tc te k (ds.drop (i + 1)) (acc ++ [y]) (wipeN env vs) S2 Q0) fun _ _ => False
        | false => cloopM p tc te k (ds.drop (i + 1)) acc (wipeN env vs) S1 Q0) fun _ _ => False
      | none => False) from q2)
    split at q3
    · rename_i env3 eb
      refine bind_ok w3.fr p r3 (wipe_rep (rn.le (l1.trans (l2.trans l3))) vs) eb fun σ1 rn3 sb => ⟨wipe_same sb hv, ?_⟩
      refine ⟨_, F3, S2, env3, _, _, rn3, w3, q3, fun b F4 S4 H4 l4 w4 q4 => ?_, no_ex⟩
      cases b with
      | false =>
        rw [if_neg Bool.false_ne_true]
        exact ⟨F4, S4, acc, us, l2.trans (l3.trans l4), w4, (ra.le l3).le l4, by omega, q4⟩
      | true =>
        rw [if_pos rfl]
        refine ⟨_, F4, S4, env3, _, _, rn3.le l4, w4, q4, fun y v F5 S5 H5 l5 w5 r5 q5 => ?_, no_ex⟩
        obtain ⟨g1, _, _⟩ := w5.gr Dd _ upd_same
        have hi2 : i < sizeLine := Nat.lt_of_lt_of_le hi it.z
        refine ⟨us, g1, by rw [ra.len]; omega, F5, S5, acc ++ [y], us ++ [v], l2.trans (l3.trans (l4.trans l5)), w5.putG _, ((ra.le l3).le (l4.trans l5)).append (Reps.one r5), by rw [List.length_append]; simp; omega, q5⟩
    · exact q3.elim
  · rw [List.drop_length] at q2
    obtain ⟨w3, hs⟩ := w2.endS (m := .lst acc) hGD ⟨us, rfl, ra, Nat.le_trans hz it.z⟩
    exact hq (.ref Dd) _ _ _ H' (l1.trans l2) w3 rfl (chk_a q2 Dd hs)
theorem hlcM (own : List (Str × Nat)) (hi : HI B tg iter ti) (ok : blkC B.N B.sc scope own = true) (hv : ∀ j ∈ slots p, j ∈ own.map (·.2)) (hg : HP (B.blk scope) tg p) (ht : HTs (B.blk scope) ifs tc) (he : HE (B.blk scope) elt te)
    (hs : ∀ env x, foldedSetIterable iter env x = pure x := by intro _ _; rfl) : HE B (.ListComp elt [⟨tg, iter, ifs, 0⟩] scope pos) (hLcM ti p tc te (own.map (·.2))) :=
  ⟨fun X W okc tk => PE.imp (pe_lc (own := own) okc.calm okc.nd (hi.run X W okc tk) (by rw [okc.eN, okc.es]; exact blkOk_by ok) (fun s H C cl fp => hg.run _ (okc.blk s H scope C cl fp)) (fun s H C cl fp => ht.run _ _ (okc.blk s H scope C cl fp) takes0)
    (fun s H C cl fp => he.run _ _ (okc.blk s H scope C cl fp) takes0) (hs _)) fun σ H Q h => lcM_lift hv σ H Q h⟩
theorem hsetlcM (i : Nat) {y : Str} {py spos : Pos} (own : List (Str × Nat)) (hi : HI B tg iter ti) (ok : blkC B.N B.sc scope own = true) (hv : ∀ j ∈ slots p, j ∈ own.map (·.2)) (hg : HP (B.blk scope) tg p) (ht : HTs (B.blk scope) ifs tc) (he : HE (B.blk scope) elt te)
    (hN : B.N[i]? = some y := by rfl) (hyl : B.sc.names.lookup y = some .local := by rfl) (hk : B.sc.kind = .function := by rfl) (hl : (py.line == pos.line) = true := by rfl) (ha : (scope.names.any fun (n, k) => n == y && (k == .local || k == .cell)) = false := by decide +kernel)
    (hs : ∀ env x, foldedSetIterable iter env x = pure x := by intro _ _; rfl) : HS B (.Assign [.Name y py] (.ListComp elt [⟨tg, iter, ifs, 0⟩] scope pos) spos) (hSet i (hLcM ti p tc te (own.map (·.2)))) :=
  ⟨fun X W okc tk => PS.imp (ps_setLc (own := own) (i := i) okc.calm okc.nd (by rw [okc.eN]; exact hN) (by rw [okc.es]; exact hyl) (sw_true (by rw [okc.es]; exact hk) (by rw [okc.es]; exact hyl) hl ha) (hi.run X W okc tk) (by rw [okc.eN, okc.es]; exact blkOk_by ok) (fun s H C cl fp => hg.run _ (okc.blk s H scope C cl fp)) (fun s H C cl fp => ht.run _ _ (okc.blk s H scope C cl fp) takes0)
    (fun s H C cl fp => he.run _ _ (okc.blk s H scope C cl fp) takes0) (hs _)) fun D σ H ⟨G, F, S, env, E, rn, wd, h, o⟩ =>
    lcM_lift (W := W) hv σ H _ ⟨G, F, S, env, _, _, rn, wd, h, fun d v F1 S1 H1 l w r q => o.nx _ _ F1 S1 H1 l w ((rn.le l).set r i) q, o.exc rn⟩⟩
end
/-! ### t[::-1] of a tuple -/
section
variable {prog : Program} {w : World} {A : Around} {E : Value → Shared → Prop} {s : Shared}
theorem places_back (n : Nat) : Builtin.Slice.slicePlaces ((n : Int) - 1) (-1) (-1) = n := by
  unfold Builtin.Slice.slicePlaces
  have h1 : ¬ ((-1 : Int) > 0) := by omega
  simp only [h1, if_false]
  by_cases h : (n : Int) - 1 > -1
  · simp only [h, if_true, show (-(-1 : Int)) = 1 by decide, Int.ediv_one]; omega
  · simp only [h, if_false]; omega
theorem fm_congr {α β : Type} {f g : α → Option β} : ∀ {l : List α}, (∀ x ∈ l, f x = g x) → l.filterMap f = l.filterMap g
  | [], _ => rfl
  | a :: l, h => by
    rw [List.filterMap_cons, List.filterMap_cons, h a List.mem_cons_self, fm_congr fun x hx => h x (List.mem_cons_of_mem _ hx)]
theorem back_pick (xs : Array Value) : ((List.range xs.size).filterMap fun (m : Nat) => xs[(((xs.size : Int) - 1) + (m : Int) * (-1)).toNat]?).toArray = xs.toList.reverse.toArray := by
  have e : (List.range xs.size).filterMap (fun (m : Nat) => xs[(((xs.size : Int) - 1) + (m : Int) * (-1)).toNat]?) = ((List.range xs.size).map fun k => xs.size - 1 - k).filterMap (xs[·]?) := by
    rw [List.filterMap_map]
    refine fm_congr fun m hm => ?_
    have := List.mem_range.mp hm
    show xs[(((xs.size : Int) - 1) + (m : Int) * (-1)).toNat]? = xs[xs.size - 1 - m]?
    rw [show (((xs.size : Int) - 1) + (m : Int) * (-1)).toNat = xs.size - 1 - m by omega]
  rw [e, PySem.W.krv_range, List.filterMap_reverse, PySem.W.krv_all]
theorem tuple_back {t sl : Addr} {items : Array Value} {vk : Value} {Q : Value → Shared → Prop} (ht : IsTup s.heap t items) (hs : s.heap.IsSliceOf sl .none .none vk) (pk : IsPart vk (some (-1))) (hsz : items.size ≤ sizeLine)
    (h : Q (.ref s.heap.objs.size) { s with heap := s.heap.push { cls := .type "tuple", data := .seq items.toList.reverse.toArray } }) : wpAny (model prog w) A (getItem (.ref t) (.ref sl)) Q E s := by
  have fits : sizeOk (.seq items.toList.reverse.toArray) := by
    show items.toList.reverse.toArray.size ≤ sizeLine
    rw [List.size_toArray, List.length_reverse, Array.length_toList]
    exact hsz
  obtain ⟨os, g1, g2, g3⟩ := id hs
  have tS : s.TypeIs (.ref sl) "slice" := ⟨os, g1, g2⟩
  unfold getItem
  try with_reducible refine wpAny_holding ?_
  first | refine wpAny_bind (wpAny_pure ?_) | skip
  refine wpAny_bind (wpAny_sequenceKey ht.typeIs (by decide) ?_)
  refine wpAny_bind (wpAny_callSpecial?_slot (name := Str.ofString "__getitem__") ht.typeIs PyProof.Rows.slot_tuple_getitem
    (wpAny_call_entry PyProof.Rows.slot_tuple_getitem ht.typeIs entry_tuple_getitem ?_ (args_tuple_getitem _ _)))
  show wpAny _ _ (Builtin.Tuple.tupleItemsOf (.ref t) >>= _) _ _ s
  refine wpAny_bind (tupleItemsOf_ ht ?_)
  refine wpAny_bind (wpAny_typeOf tS ?_)
  rw [if_pos (by decide)]
  have hap : ∀ {A' : Around} {Q' : Int × Int × Nat → Shared → Prop}, Q' ((items.size : Int) - 1, -1, items.size) s → wpAny (model prog w) A' (Builtin.Slice.sliceApplied (.ref sl) (pure (items.size : Int))) Q' E s := fun {A'} {Q'} hQ => by
    unfold Builtin.Slice.sliceApplied Builtin.Slice.sliceFields
    refine wpAny_bind (wpAny_bind (wpAny_field g1 g3 (x := .none) rfl (wpAny_bind (wpAny_field g1 g3 (x := .none) rfl (wpAny_bind (wpAny_field g1 g3 (x := vk) rfl (wpAny_pure ?_)))))))
    refine wpAny_bind (HT.slicePart_ pk ?_)
    show wpAny _ _ (if ((-1 : Int) == 0) = true then _ else _) _ _ s
    rw [if_neg (by decide)]
    refine wpAny_bind (HT.slicePart_ .none (wpAny_bind (HT.slicePart_ .none (wpAny_bind (wpAny_pure ?_)))))
    show wpAny _ _ (pure ((items.size : Int) - 1, (-1 : Int), Builtin.Slice.slicePlaces ((items.size : Int) - 1) (-1) (-1))) _ _ s
    rw [places_back]
    exact wpAny_pure hQ
  refine wpAny_bind (hap ?_)
  have no : ¬ (((items.size : Int) - 1 == 0 && (-1 : Int) == 1 && items.size == items.size) = true) := by
    intro q
    rw [Bool.and_eq_true, Bool.and_eq_true] at q
    exact absurd q.1.2 (by decide)
  show wpAny _ _ (if ((items.size : Int) - 1 == 0 && (-1 : Int) == 1 && items.size == items.size) = true then _ else _) _ _ s
  rw [if_neg no, back_pick]
  first
    | exact wpAny_bind (m := Builtin.Tuple.tupleExact _) (wpAny_newObj_type (wpAny_pure ⟨_, rfl, wpAny_pure h⟩) fits)
    | exact wpAny_bind (m := Builtin.Tuple.tupleExact _) (wpAny_newObj_type (wpAny_bind (wpAny_pure (wpAny_pure ⟨_, rfl, wpAny_pure h⟩))) fits)
    | exact wpAny_bind (wpAny_bind (m := Builtin.Tuple.tupleExact _) (wpAny_newObj_type (wpAny_pure (wpAny_pure ⟨_, rfl, wpAny_pure h⟩)) fits))
    | exact wpAny_bind (wpAny_bind (m := Builtin.Tuple.tupleExact _) (wpAny_newObj_type (wpAny_pure ⟨_, rfl, wpAny_pure h⟩) fits))
end
section
variable {X : Cx} {B : Bs} {a : Expr} {ta : HTE} {pos : Pos}
theorem pe_revT {e : Expr} {te : TE} {k : Nat} {p1 p2 p3 pos : Pos} (he : PE X e te) : PE X (.Subscript e (.Slice none none (some (.UnaryOp .USub (.Constant (.int 1) k p1) p2)) p3) pos)
    (fun σ H Q => te σ H fun x H1 => ∃ a xs, x = .ref a ∧ SqT X.K H1 a xs ∧ ∀ p, H1 p = none → Q (.ref p) (upd H1 p (.tup xs.reverse))) := by
  refine ⟨fun pins s σ H Q I h => Subscript_ (thn (he.run pins s σ H _ I h) fun v s1 ⟨x, H1, I1, r1, a, xs, ex, hx, q⟩ => ?_)⟩
  subst ex
  cases (show v = Value.ref a from r1)
  have stp : PO X (some (.UnaryOp .USub (.Constant (.int 1) k p1) p2)) (tPart (tUn (rU fun i => .int (-i)) (tC (.int 1)))) := po_some (pe_un un_neg pe_int)
  refine wpAny_Slice (thn (po_none.run pins s1 σ H1 (fun o H2 => o = none ∧ H2 = H1) I1 ⟨rfl, rfl⟩) fun vl s2 ⟨l, H2, I2, pl, el, e2⟩ => ?_)
  subst el e2
  refine thn (po_none.run pins s2 σ H2 (fun o H3 => o = none ∧ H3 = H2) I2 ⟨rfl, rfl⟩) fun vu s3 ⟨u, H3, I3, pu, eu, e3⟩ => ?_
  subst eu e3
  refine thn (stp.run pins s3 σ H3 (fun o H4 => o = some (-1) ∧ H4 = H3) I3 ⟨1, rfl, -1, rfl, rfl, rfl⟩) fun vs s4 ⟨o, H4, I4, ps, eo, e4⟩ => ?_
  subst eo e4
  cases pl
  cases pu
  have J : L2.Inv X pins σ H4 { s4 with heap := s4.heap.push { cls := .type "slice", data := .fields #[.none, .none, vs] } } := I4.kept (t' := s4.toks) fun b ob q => Heap.get?_push_of_some _ q
  obtain ⟨its, r, ht, hz⟩ := J.tuple hx
  show wpAny (model X.prog X.w) X.A (subscriptTail e (.Slice none none (some (.UnaryOp .USub (.Constant (.int 1) k p1) p2)) p3) (.ref a) (.ref s4.heap.objs.size)) (EP X pins σ Q) X.xe { s4 with heap := s4.heap.push { cls := .type "slice", data := .fields #[.none, .none, vs] } }
  refine tail_any (ops := [.ref a, .ref s4.heap.objs.size]) ht.typeIs PyProof.Rows.slot_tuple_getitem.lookup ?_ (by with_unfolding_all rfl)
  refine tuple_back ht (Heap.IsSliceOf.new _ .none .none vs) ps (by rw [List.size_toArray, ← r.length]; exact hz) ?_
  exact ⟨.ref _, _, J.laid (t' := s4.toks) (o := .tup xs.reverse) (fun b ob q => Heap.get?_push_of_some _ q) (Nat.le_refl _) ⟨by rw [List.length_reverse]; exact hz, _, r.reverse, IsTup.new _ _⟩, rfl, q _ (J.hok.fresh (Nat.le_refl _))⟩
def gRevT : G1 := fun x S Q => match x with
  | .tup ds => Q (.tup ds.reverse) S
  | _ => False
theorem hrevT {k : Nat} {p1 p2 p3 : Pos} (he : HE B a ta) : HE B (.Subscript a (.Slice none none (some (.UnaryOp .USub (.Constant (.int 1) k p1) p2)) p3) pos) (hun gRevT ta) :=
  ⟨fun X W ok tk => PE.imp (pe_revT (he.run X W ok tk)) fun σ H Q h => by
    refine lun (r := fun x H1 Q => ∃ a xs, x = .ref a ∧ SqT X.K H1 a xs ∧ ∀ p, H1 p = none → Q (.ref p) (upd H1 p (.tup xs.reverse))) ?_ ta σ H Q h
    intro G F S H d v Q0 Q w r h hq
    cases d <;> first | exact h.elim | skip
    obtain ⟨p, vs, rfl, hs, rs, z⟩ := r
    exact ⟨p, vs, rfl, by rw [ok.eK]; exact SqT.le w.fr hs, (newTup w rs.reverse (by rw [List.length_reverse]; exact z) hq h).2⟩⟩
end
end Hy

set_option Elab.async false
set_option linter.all false
set_option maxRecDepth 100000
set_option maxHeartbeats 4000000
set_option autoImplicit false
namespace Hy
open PySem PySem.Spec PyProof.Rows L2
/-! ### promises, seen from within a def -/
section
variable {B : Bs} {k k' n c : Nat} {N : List Str} {sc : Scope} {top : Bool} {own : Str → Bool} {x m : Str} {dds : List D} {sp : HSp}
theorem HFn.in_ (h : HFn B k x n dds sp) : HFn ⟨B.P, B.w, B.K, B.mg, B.base, k', N, sc, top, own⟩ k x n dds sp := ⟨h.mg, h.kp, ⟨h.at_.ex⟩⟩
theorem HFn.mono {j : Nat} (h : HFn B j x n dds sp) (l : j ≤ k) : HFn B k x n dds sp := ⟨h.mg, h.kp, h.at_.mono l⟩
theorem HMeth.in_ (h : HMeth B k c m n dds sp) : HMeth ⟨B.P, B.w, B.K, B.mg, B.base, k', N, sc, top, own⟩ k c m n dds sp := ⟨h.cl, let ⟨f, a, b⟩ := h.me; ⟨f, a, ⟨b.ex⟩⟩, h.no⟩
theorem HMeth.mono {j : Nat} (h : HMeth B j c m n dds sp) (l : j ≤ k) : HMeth B k c m n dds sp := ⟨h.cl, let ⟨f, a, b⟩ := h.me; ⟨f, a, b.mono l⟩, h.no⟩
theorem HMake.in_ (h : HMake B k c n dds sp) : HMake ⟨B.P, B.w, B.K, B.mg, B.base, k', N, sc, top, own⟩ k c n dds sp := ⟨h.mg, let ⟨f, a, b⟩ := h.mkr; ⟨f, a, ⟨b.ex⟩⟩⟩
theorem HMake.mono {j : Nat} (h : HMake B j c n dds sp) (l : j ≤ k) : HMake B k c n dds sp := ⟨h.mg, let ⟨f, a, b⟩ := h.mkr; ⟨f, a, b.mono l⟩⟩
theorem HEqOwn.in_ (h : HEqOwn B k c sp) : HEqOwn ⟨B.P, B.w, B.K, B.mg, B.base, k', N, sc, top, own⟩ k c sp := ⟨let ⟨f, a, b, d⟩ := h.ex; ⟨f, a, b, ⟨d.ex⟩⟩, h.cl⟩
theorem HEqOwn.mono {j : Nat} (h : HEqOwn B j c sp) (l : j ≤ k) : HEqOwn B k c sp := ⟨let ⟨f, a, b, d⟩ := h.ex; ⟨f, a, b, d.mono l⟩, h.cl⟩
end
/-- THE RULE for a def, its own defaults apart from those that a call leaves out -/
theorem fnAtD {B : Bs} {x qual : Str} {params : Arguments} {body : List Stmt} {scope : Scope} {dv0 dvs : List V} {f : Addr} {fd : FuncData} {N ps : List Str} {k : Nat} {sp : HSp} {t : HTS} {dds : List D}
    (F : FunD B.K x qual params body scope dv0 [] f fd) (hb : ∃ ds, Vals dvs ds ∧ Binds B.K fd ps ds) (hd : ∀ F, Reps B.K F dds dvs) (S : FnScope N ps scope) (hbody : HSs { B with k := k, N := N, sc := scope, top := true, own := fun _ => true } body t)
    (hr : ∀ ds S Q E, ds.length = ps.length → sp ds S Q E → t { nx := fun _ S' => Rt Q .non S', rt := Rt Q, ex := fun x _ S' => Rx E x S' } (startE N.length ds) S) : FnAt B (k + 1) f ps.length dds sp := by
  obtain ⟨ds, hv, hb⟩ := hb
  refine ⟨fd, ps, ds, dvs, rfl, hb, hv, hd, F.ok S (fun vs H Q E h => h.1) fun cdv A outer s H vs Q E hroom h => ?_⟩
  obtain ⟨hn, G, F0, S0, es, Q0, E0, rs, wd, hsp, hq, he⟩ := h
  refine ⟨_, hbody.run _ (fun cls d _ H => E cls d H) ⟨rfl, rfl, rfl, rfl, rfl, rfl, rfl, S.nd, rfl, hroom, fun _ _ _ => rfl, passes_of rfl, fun _ => ⟨rfl, rfl, rfl⟩⟩ (takes_of rfl rfl rfl rfl), ?_⟩
  refine ⟨G, F0, S0, startE N.length es, _, start_rep rs, wd, hr es S0 Q0 E0 (by rw [← rs.len]; exact hn) hsp, ⟨fun env σ F' S' H' l w rn ⟨d', S2, vw, q⟩ => ?_, Rt.ok hq, fun _ _ _ _ _ _ _ _ h => h.elim, fun _ _ _ _ _ _ _ _ h => h.elim, fun x cls dd env σ F' S' H' l w rn r h => Rx.ok he x cls dd F' S' H' l w r h⟩⟩
  obtain ⟨F2, l2, w2, r2⟩ := vw B.K G F' H' .non w rfl
  exact hq d' .non F2 S2 H' (l.trans l2) w2 r2 q
/-- all parameters are handed in -/
theorem bindAll {K : PySem.W.Frag} {fd : FuncData} {ps : List Str} (h : Binds K fd ps []) : ∃ ds, Vals ([] : List V) ds ∧ Binds K fd ps ds := ⟨[], .nil, h⟩
theorem noDds {K : PySem.W.Frag} : ∀ F, Reps K F [] ([] : List V) := fun _ => rfl
/-! ### what stands behind the top -/
abbrev Pr : Type := PySem.W.Frag → Bool
structure Book where
  fa : List He.Fa
  fn : List He.DefD
  ex : List Pr
def Book.fine (b : Book) (K : PySem.W.Frag) : Bool := (b.fa.all fun f => f.ok K) && ((b.fn.all fun d => d.ok K) && b.ex.all fun g => g K)
def Book.seen (b : Book) (K : PySem.W.Frag) : He.AlD := (b.fine K, b.fn.map fun d => He.fnW K d.at_)
def Book.due (b : Book) : He.AlD := (true, b.fn.map He.DefD.val)
def Book.look (b : Book) (n : Nat) (g : Addr → Option Obj) : He.AlD := b.seen (He.frG g (cStatics :: He.asD g n))
def Book.hook (b : Book) (n : Nat) : PySem.W.Hook where
  α := He.AlD
  obs := fun s => b.look n s.heap.get?
  val := fun _ => b.due
  says := fun _ h => ∃ K : PySem.W.Frag, K.In h ∧ b.seen K = b.due
  of := fun _ _ e => ⟨_, He.frG_in, e⟩
  keeps := fun _ _ _ ⟨K, i, c⟩ k => ⟨K, PySem.W.Frag.In.keeps i k, c⟩
theorem Book.look_eq {b : Book} {n : Nat} {g : Addr → Option Obj} {s : Shared} (h : ∀ a, g a = s.heap.get? a) : b.look n g = (b.hook n).obs s := by
  obtain rfl : g = s.heap.get? := funext h
  rfl
section
variable {b : Book} {K : PySem.W.Frag}
theorem Book.parts (c : b.seen K = b.due) : (∀ f ∈ b.fa, f.ok K = true) ∧ (∀ d ∈ b.fn, d.ok K = true ∧ He.fnW K d.at_ = d.val) ∧ ∀ g ∈ b.ex, g K = true := by
  have c1 : b.fine K = true := congrArg (fun z : He.AlD => z.1) c
  have c2 : (b.fn.map fun d => He.fnW K d.at_) = b.fn.map He.DefD.val := congrArg (fun z : He.AlD => z.2) c
  unfold Book.fine at c1
  rw [Bool.and_eq_true, Bool.and_eq_true] at c1
  obtain ⟨p, q, r⟩ := c1
  refine ⟨List.all_eq_true.mp p, fun d hd => ⟨List.all_eq_true.mp q d hd, ?_⟩, List.all_eq_true.mp r⟩
  obtain ⟨i, hi⟩ := List.mem_iff_getElem?.mp hd
  have e : (b.fn.map fun d => He.fnW K d.at_)[i]? = (b.fn.map He.DefD.val)[i]? := by rw [c2]
  rw [List.getElem?_map, List.getElem?_map, hi] at e
  exact Option.some.inj e
theorem Book.fact (c : b.seen K = b.due) (i : Nat) {f : He.Fa} (h : b.fa[i]? = some f := by rfl) : f.ok K = true := (Book.parts c).1 f (List.mem_of_getElem? h)
theorem Book.more (c : b.seen K = b.due) (i : Nat) {g : Pr} (h : b.ex[i]? = some g := by rfl) : g K = true := (Book.parts c).2.2 g (List.mem_of_getElem? h)
theorem Book.def_ (c : b.seen K = b.due) (i : Nat) {d : He.DefD} (h : b.fn[i]? = some d := by rfl) : ∃ fd, FunD K d.name d.qual d.params d.body d.scope (d.dvs K) (d.kws K) (He.fAd K d.at_) fd := by
  obtain ⟨a, e⟩ := (Book.parts c).2.1 d (List.mem_of_getElem? h)
  exact He.DefD.funD e a
end
/-! ### facts of one's own -/
def prIns (x : Str) : Pr := fun K => He.eqO (PySem.W.findIn K (.ref (He.ga K x)) "__class__") (some (some (.builtin "object.__class__"))) && (He.eqO (PySem.W.specialIn K (.builtin "object.__class__") "__get__") (some (some (.builtin "getset_descriptor.__get__"))) &&
  (decide (PySem.W.takesIn K (.builtin "object.__class__") = some true) && decide (PySem.W.mroIn K (He.ga K x) (.type "object") = some true)))
theorem prIns_ok {K : PySem.W.Frag} {c : Nat} (h : prIns (cname c) K = true) (hc : Cls K (cad K c)) : InsFacts K c := by
  unfold prIns at h
  simp only [Bool.and_eq_true] at h
  obtain ⟨h1, h2, h3, h4⟩ := h
  exact ⟨hc, He.eqO_ok h1, He.eqO_ok h2, of_decide_eq_true h3, of_decide_eq_true h4⟩
def tyNames : List String := ["NoneType", "bool", "int", "str", "list", "tuple"]
def prIsi (c : Nat) (cs : List Nat) : Pr := fun K => (tyNames.all fun T => decide (PySem.W.kitOne K (.type T) (.ref (cad K c)) = some false)) && cs.all fun c' => decide (PySem.W.kitOne K (.ref (cad K c')) (.ref (cad K c)) = some (Nat.beq c' c))
theorem prIsi_ok {K : PySem.W.Frag} {c : Nat} {cs : List Nat} (h : prIsi c cs K = true) (hi : ∀ c' ∈ cs, InsFacts K c') : IsiC K c cs := by
  unfold prIsi at h
  rw [Bool.and_eq_true, List.all_eq_true, List.all_eq_true] at h
  exact ⟨fun T hT => of_decide_eq_true (h.1 T hT), fun c' hc => ⟨hi c' hc, of_decide_eq_true (h.2 c' hc)⟩⟩
theorem heqOwn_of {B : Bs} {k c : Nat} {f : Addr} {sp : HSp} (hc : Cls B.K (cad B.K c)) (hm : Meth B.K (cad B.K c) "__eq__" f) (h : FnAt B k f 2 [] sp) : HEqOwn B k c sp := ⟨⟨f, hm.at_, hm.fn, h⟩, hc⟩
end Hy

set_option Elab.async false
set_option linter.all false
set_option maxRecDepth 100000
set_option maxHeartbeats 4000000
set_option autoImplicit false
namespace Hy
open PySem PySem.Spec PyProof.Rows L2
/-! ### a law's end -/
/-- what an exception is, whatever flies -/
def CXe : CXT := fun _ _ _ E _ _ => ∃ cls d H', E cls d H'
def spScr (K : PySem.W.Frag) : Sp := fun vs H Q _ => ∃ (a : Addr) (ns : List Int), vs = [.ref a] ∧ ns.length ≤ 63 ∧ SqL K H a (ns.map V.int) ∧ ∀ H', Q (.bl true) H'
def S0 : Sto := fun _ => none
/-- what a law has to promise -/
def spLaw : HSp := fun ds S Q _ => ∃ ns : List Int, ns.length ≤ 63 ∧ ds = [.rls (ns.map D.int)] ∧ S = S0 ∧ ∀ S', Q (.bl true) S'
theorem ints_reps {K : PySem.W.Frag} {F : Hp} : ∀ ns : List Int, Reps K F (ns.map D.int) (ns.map V.int)
  | [] => rfl
  | n :: ns => ⟨_, _, rfl, rfl, ints_reps ns⟩
theorem scr_lift {K : PySem.W.Frag} {vs : List V} {H : Hp} {Q : VK} {E : XK} (h : spScr K vs H Q E) : lSp K 1 spLaw vs H (fun v _ => v = .bl true) (fun _ _ _ => False) ∧ ∀ v H', v = .bl true → Q v H' := by
  obtain ⟨a, ns, rfl, hl, hs, hq⟩ := h
  refine ⟨⟨rfl, fun _ => none, H, S0, [.rls (ns.map D.int)], fun d _ => d = .bl true, fun _ _ => False, ?_, ?_, ⟨ns, hl, rfl, rfl, fun _ => rfl⟩, ?_, ?_⟩, fun v H' e => by rw [e]; exact hq H'⟩
  · exact Reps.one ⟨a, _, rfl, hs, ints_reps ns, by rw [List.length_map]; exact Nat.le_trans hl (by decide)⟩
  · exact ⟨fun _ _ e => (nomatch e), Le.rfl', fun _ _ e => (nomatch e), fun _ _ e => (nomatch e)⟩
  · intro d v F' S' H' _ _ r e
    cases e
    exact r
  · intro _ _ _ _ _ _ _ _ _ h
    exact h.elim
/-- the law's def, as the end wants it -/
theorem law_ok {P : Program} {w : World} {K : PySem.W.Frag} {mg : Str → Option Value} {base : Heap} {k : Nat} {f : Addr} {fd : FuncData} {x : Str} (F : FnOk P w K mg base (CX P w) k f fd [x] (lSp K 1 spLaw)) : FnOk P w K mg base CXe k f fd [x] (spScr K) :=
  ⟨fun vs H Q E ⟨a, ns, e, _⟩ => by rw [e]; rfl, fun A outer s H args us vs Q E hr he hb hv hs => by
    obtain ⟨h1, h2⟩ := scr_lift hs
    refine codeAny_mono (F.run A outer s H args us vs _ _ hr he hb hv h1) fun r s' got => ?_
    cases r with
    | error e =>
      obtain ⟨_, _, _, _, _, _, _, _, _, _, _, _, z⟩ := got
      exact z.elim
    | ok fl =>
      cases fl with
      | ret u =>
        obtain ⟨v, H', a1, a2, a3, a4, a5, a6⟩ := got
        exact ⟨v, H', a1, a2, a3, a4, a5, h2 v H' a6⟩
      | _ => exact got.elim⟩
theorem fnOkD {B : Bs} {x qual : Str} {params : Arguments} {body : List Stmt} {scope : Scope} {dv0 : List V} {f : Addr} {fd : FuncData} {N ps : List Str} {k : Nat} {sp : HSp} {t : HTS}
    (F : FunD B.K x qual params body scope dv0 [] f fd) (S : FnScope N ps scope) (hbody : HSs { B with k := k, N := N, sc := scope, top := true, own := fun _ => true } body t)
    (hr : ∀ ds S Q E, ds.length = ps.length → sp ds S Q E → t { nx := fun _ S' => Rt Q .non S', rt := Rt Q, ex := fun x _ S' => Rx E x S' } (startE N.length ds) S) : FnOk B.P B.w B.K B.mg B.base (CX B.P B.w) (k + 1) f fd ps (lSp B.K ps.length sp) := by
  refine F.ok S (fun vs H Q E h => h.1) fun cdv A outer s H vs Q E hroom h => ?_
  obtain ⟨hn, G, F0, S0, es, Q0, E0, rs, wd, hsp, hq, he⟩ := h
  refine ⟨_, hbody.run _ (fun cls d _ H => E cls d H) ⟨rfl, rfl, rfl, rfl, rfl, rfl, rfl, S.nd, rfl, hroom, fun _ _ _ => rfl, passes_of rfl, fun _ => ⟨rfl, rfl, rfl⟩⟩ (takes_of rfl rfl rfl rfl), ?_⟩
  refine ⟨G, F0, S0, startE N.length es, _, start_rep rs, wd, hr es S0 Q0 E0 (by rw [← rs.len]; exact hn) hsp, ⟨fun env σ F' S' H' l w rn ⟨d', S2, vw, q⟩ => ?_, Rt.ok hq, fun _ _ _ _ _ _ _ _ h => h.elim, fun _ _ _ _ _ _ _ _ h => h.elim, fun x cls dd env σ F' S' H' l w rn r h => Rx.ok he x cls dd F' S' H' l w r h⟩⟩
  obtain ⟨F2, l2, w2, r2⟩ := vw B.K G F' H' .non w rfl
  exact hq d' .non F2 S2 H' (l.trans l2) w2 r2 q
end Hy

set_option Elab.async false
set_option linter.all false
set_option maxRecDepth 100000
set_option maxHeartbeats 4000000
set_option autoImplicit false
namespace Hy
open PySem PySem.Spec PyProof.Rows L2
/-- a promise that nobody can ask -/
theorem fnNone {B : Bs} {k n : Nat} {f : Addr} {fd : FuncData} {ps : List Str} {sp : HSp} (hn : ps.length = n) (hb : Binds B.K fd ps []) (h0 : ∀ ds S Q E, sp ds S Q E → False) : FnAt B k f n [] sp :=
  ⟨fd, ps, [], [], hn, hb, .nil, fun _ => rfl, ⟨fun _ _ _ _ ⟨_, _, _, _, ds, _, _, _, _, h, _⟩ => (h0 _ _ _ _ h).elim, fun _ _ _ _ _ _ _ _ _ _ _ _ _ ⟨_, _, _, _, ds, _, _, _, _, h, _⟩ => (h0 _ _ _ _ h).elim⟩⟩
abbrev gNeg : G1 := fun x S Q => match x with
  | .int i => Q (.int (-i)) S
  | _ => False
abbrev gIsi1 (c : Nat) (cs : List Nat) : G1 := fun x S Q => match isiO c cs S x with
  | some b => Q (.bl b) S
  | none => False
abbrev hBrk : HTS := fun D env S => D.bk env S
abbrev hCnt : HTS := fun D env S => D.ct env S
def sc00 : Scope := { kind := .function, names := [], isGenerator := false, isCoroutine := false, more := [] }
section
variable {B : Bs} {e a b o : Expr} {es rest : List Expr} {ta tb te to : HTE} {x : Str} {p pos apos : Pos}
theorem hisiX {c : Nat} {cs : List Nat} {xc : Str} {p2 : Pos} (I : IsiC B.K c cs) (gi : Gn B "isinstance") (mi : B.mg "isinstance" = none) (gn : Gn B xc) (hm : B.mg (cname c) = some (.ref (cad B.K c))) (h : HE B e te) (hx : cname c = xc := by rfl) (hdb : (cname c == ("__debug__" : Str)) = false := by decide)
    (he : ∀ env, starEach [e, .Name xc p2] env = (false, eval e env) :: starEach [.Name xc p2] env := by intro _; rfl) :
    HE B (.Call (.Name "isinstance" p) [e, .Name xc p2] [] pos) (hun (gIsi1 c cs) te) := by
  subst hx
  exact hisiO c cs I gi mi gn hm h hdb he
theorem hisiTX {T : String} {ans : Nat → Bool} {xt : Str} {p2 : Pos} (I : IsT T ans) (gi : Gn B "isinstance") (mi : B.mg "isinstance" = none) (gn : Gn B xt) (hm : B.mg xt = none) (hv : bootBuiltins xt = some (.type T)) (h : HE B e te) (hn : xt ≠ "__name__" := by decide) (hdb : (xt == ("__debug__" : Str)) = false := by decide)
    (he : ∀ env, starEach [e, .Name xt p2] env = (false, eval e env) :: starEach [.Name xt p2] env := by intro _; rfl) :
    HE B (.Call (.Name "isinstance" p) [e, .Name xt p2] [] pos) (hun (gIsiT ans) te) := hisiT I gi mi gn hm hv h hn hdb he
theorem hltDT (ha : HE B a ta) (hb : HE B b tb) : HT B (.Compare a [.Lt] [b] pos) (hB (hop gLtD ta tb)) := hcmpT (r := fun K x y H Q => rOrd (fun i j => decide (i < j)) (fun s t => decide (s < t)) x y H Q ∨ ∃ d e, Dp K H x d ∧ Dp K H y e ∧ SeqAt.shaped d = true ∧ PySem.W.alike d e = true ∧ d ≠ .none ∧ Q (.bl (PySem.W.dataLt d e)) H) (fun X ok => (op_lt.or op_lt_str).or (op_ltD ok.room.units)) gLtD_ok ha hb (nomark _)
/-! the same rules, all that the reading tells left out -/
variable {i : Nat} {y : Str} {py pos' spos : Pos} {g : G2} {scope : Scope} {tg iter elt : Expr} {ifs : List Expr} {ti : HTI} {tc : HTT} {q : Pt}
theorem hsetX (h : HE B e te) (hN : B.N[i]? = some x := by rfl) (hl : Own B x := by first | exact Or.inl rfl | exact Or.inr ⟨rfl, rfl⟩) (hs : ∀ env, swapsWith e (some (.Name x pos')) pos.line env = pure false := by intro _; rfl) : HS B (.Assign [.Name x pos'] e pos) (hSet i te) := hset i h hN hl hs
theorem haugAddX (h : HE B e te) (hN : B.N[i]? = some x := by rfl) (hl : Own B x := by first | exact Or.inl rfl | exact Or.inr ⟨rfl, rfl⟩) : HS B (.AugAssign (.Name x pos') .Add e pos) (hAug i (gI0 fun i j => .int (i + j)) te) := haugAdd i h hN hl
theorem haugSubX (h : HE B e te) (hN : B.N[i]? = some x := by rfl) (hl : Own B x := by first | exact Or.inl rfl | exact Or.inr ⟨rfl, rfl⟩) : HS B (.AugAssign (.Name x pos') .Sub e pos) (hAug i gSub te) := haugSub i h hN hl
theorem haugMulX (h : HE B e te) (hN : B.N[i]? = some x := by rfl) (hl : Own B x := by first | exact Or.inl rfl | exact Or.inr ⟨rfl, rfl⟩) : HS B (.AugAssign (.Name x pos') .Mult e pos) (hAug i (gI CMul fun i j => .int (i * j)) te) := haugMul i h hN hl
theorem haugDivX (h : HE B e te) (hN : B.N[i]? = some x := by rfl) (hl : Own B x := by first | exact Or.inl rfl | exact Or.inr ⟨rfl, rfl⟩) : HS B (.AugAssign (.Name x pos') .FloorDiv e pos) (hAug i gDiv te) := haugDiv i h hN hl
theorem hlcX {vs : List Nat} (own : List (Str × Nat)) (hi : HI B tg iter ti) (ok : blkC B.N B.sc scope own = true) (hv : ∀ j ∈ slots q, j ∈ own.map (·.2)) (hg : HP (B.blk scope) tg q) (ht : HTs (B.blk scope) ifs tc) (he : HE (B.blk scope) elt te) (hvs : own.map (·.2) = vs := by rfl)
    (hs : ∀ env x, foldedSetIterable iter env x = pure x := by intro _ _; rfl) : HE B (.ListComp elt [⟨tg, iter, ifs, 0⟩] scope pos) (hLc ti q tc te vs) := by
  subst hvs; exact hlc own hi ok hv hg ht he hs
theorem hlcMX {vs : List Nat} (own : List (Str × Nat)) (hi : HI B tg iter ti) (ok : blkC B.N B.sc scope own = true) (hv : ∀ j ∈ slots q, j ∈ own.map (·.2)) (hg : HP (B.blk scope) tg q) (ht : HTs (B.blk scope) ifs tc) (he : HE (B.blk scope) elt te) (hvs : own.map (·.2) = vs := by rfl)
    (hs : ∀ env x, foldedSetIterable iter env x = pure x := by intro _ _; rfl) : HE B (.ListComp elt [⟨tg, iter, ifs, 0⟩] scope pos) (hLcM ti q tc te vs) := by
  subst hvs; exact hlcM own hi ok hv hg ht he hs
theorem hsetlcX {vs : List Nat} (own : List (Str × Nat)) (hi : HI B tg iter ti) (ok : blkC B.N B.sc scope own = true) (hv : ∀ j ∈ slots q, j ∈ own.map (·.2)) (hg : HP (B.blk scope) tg q) (ht : HTs (B.blk scope) ifs tc) (he : HE (B.blk scope) elt te) (hvs : own.map (·.2) = vs := by rfl)
    (hN : B.N[i]? = some y := by rfl) (hyl : B.sc.names.lookup y = some .local := by rfl) (hk : B.sc.kind = .function := by rfl) (hl : (py.line == pos.line) = true := by rfl) (ha : (scope.names.any fun (n, k) => n == y && (k == .local || k == .cell)) = false := by decide +kernel)
    (hs : ∀ env x, foldedSetIterable iter env x = pure x := by intro _ _; rfl) : HS B (.Assign [.Name y py] (.ListComp elt [⟨tg, iter, ifs, 0⟩] scope pos) spos) (hSet i (hLc ti q tc te vs)) := by
  subst hvs; exact hsetlc i own hi ok hv hg ht he hN hyl hk hl ha hs
theorem hsetlcMX {vs : List Nat} (own : List (Str × Nat)) (hi : HI B tg iter ti) (ok : blkC B.N B.sc scope own = true) (hv : ∀ j ∈ slots q, j ∈ own.map (·.2)) (hg : HP (B.blk scope) tg q) (ht : HTs (B.blk scope) ifs tc) (he : HE (B.blk scope) elt te) (hvs : own.map (·.2) = vs := by rfl)
    (hN : B.N[i]? = some y := by rfl) (hyl : B.sc.names.lookup y = some .local := by rfl) (hk : B.sc.kind = .function := by rfl) (hl : (py.line == pos.line) = true := by rfl) (ha : (scope.names.any fun (n, k) => n == y && (k == .local || k == .cell)) = false := by decide +kernel)
    (hs : ∀ env x, foldedSetIterable iter env x = pure x := by intro _ _; rfl) : HS B (.Assign [.Name y py] (.ListComp elt [⟨tg, iter, ifs, 0⟩] scope pos) spos) (hSet i (hLcM ti q tc te vs)) := by
  subst hvs; exact hsetlcM i own hi ok hv hg ht he hN hyl hk hl ha hs
end
end Hy

set_option Elab.async false
set_option linter.all false
set_option maxRecDepth 100000
set_option maxHeartbeats 4000000
set_option autoImplicit false
namespace Hy
open PySem PySem.Spec PyProof.Rows L2
/-! ### xs + ys, xs * n whose list is changed later -/
def gAddM : G2 := fun x y S Q => match itemsL S x with
  | some xs => match itemsL S y with
    | some ys => xs.length + ys.length ≤ 16777216 ∧ ∀ p, S p = none → Q (.ref p) (up S p (.lst (xs ++ ys)))
    | none => False
  | none => False
/-- a list that is not the script's: it stands in the heap -/
def ownL : D → Bool
  | .rls _ => false
  | _ => true
theorem ownAt {K : PySem.W.Frag} {G F : Hp} {S : Sto} {H : Hp} {d : D} {v : V} {ds : List D} (w : Wd K G F S H) (r : Rep K F d v) (o : ownL d = true) (h : itemsL S d = some ds) : ∃ a vs, v = .ref a ∧ H a = some (.lst vs) ∧ Reps K F ds vs ∧ ds.length ≤ sizeLine := by
  cases d with
  | lst es =>
    cases h
    obtain ⟨a, vs, rfl, q, rs, z⟩ := r
    exact ⟨a, vs, rfl, w.fr _ _ q, rs, z⟩
  | ref p =>
    obtain rfl : v = .ref p := r
    unfold itemsL at h
    dsimp only at h
    split at h
    · rename_i es e
      cases h
      obtain ⟨vs, h1, h2, h3⟩ := lstAt w e
      exact ⟨p, vs, rfl, h1, h2, h3⟩
    · cases h
  | rls _ => cases o
  | _ => cases h
def gAddN : G2 := fun x y S Q => match ownL x && ownL y with
  | true => gAddM x y S Q
  | false => False
theorem gAddN_ok {K : PySem.W.Frag} : R2ok K gAddN rCat := by
  intro G F S H d1 v1 d2 v2 Q0 Q w r1 r2 h hq
  unfold gAddN at h
  split at h
  · rename_i o
    rw [Bool.and_eq_true] at o
    unfold gAddM at h
    split at h
    · rename_i xs e1
      split at h
      · rename_i ys e2
        obtain ⟨a, vs, rfl, ha, ra, za⟩ := ownAt w r1 o.1 e1
        obtain ⟨b, ws, rfl, hb, rb, zb⟩ := ownAt w r2 o.2 e2
        have z : (xs ++ ys).length ≤ sizeLine := by rw [List.length_append]; exact line_le h.1
        exact ⟨a, b, vs, ws, rfl, rfl, ha, hb, by rw [ra.len, rb.len]; exact line_le h.1, (newLstM w (ra.append rb) z hq h.2).2⟩
      · exact h.elim
    · exact h.elim
  · exact h.elim
section
variable {B : Bs} {a b : Expr} {ta tb : HTE} {pos : Pos}
theorem haddM (ha : HE B a ta) (hb : HE B b tb) : HE B (.BinOp a .Add b pos) (hop gAddN ta tb) := hbin (r := fun _ => rCat) (fun X _ => op_cat) gAddN_ok ha hb
end
/-! ### a default that is an empty tuple -/
def prTup0 (p : PySem.W.Frag → Addr) : Pr := fun K => match K.lookup (p K) with
  | some ⟨.type c, _, .seq its _, _⟩ => decide (c = "tuple") && its.toList.isEmpty
  | _ => false
theorem prTup0_ok {K : PySem.W.Frag} {p : PySem.W.Frag → Addr} (h : prTup0 p K = true) (F : Hp) : Rep K F (.tup []) (.ref (p K)) := by
  unfold prTup0 at h
  cases q : K.lookup (p K) with
  | none => rw [q] at h; cases h
  | some o =>
    obtain ⟨oc, od, dt, osl⟩ := o
    rw [q] at h
    cases oc with
    | type c =>
      cases dt with
      | seq its n =>
        obtain ⟨h1, h2⟩ := Bool.and_eq_true_iff.mp (show (decide (c = "tuple") && its.toList.isEmpty) = true from h)
        have e := List.isEmpty_iff.mp h2
        refine ⟨p K, [], rfl, .inr ⟨_, its, n, q, congrArg Value.type (of_decide_eq_true h1), rfl, ?_, by rw [e]; exact .nil⟩, rfl, Nat.zero_le _⟩
        have : its.size = 0 := by rw [← Array.length_toList, e] <;> rfl
        rw [this]; exact Nat.zero_le _
      | _ => cases h
    | _ => cases dt <;> cases h
end Hy

set_option Elab.async false
set_option linter.all false
set_option maxRecDepth 100000
set_option maxHeartbeats 4000000
set_option autoImplicit false
namespace Hy
open PySem PySem.Spec PyProof.Rows L2
/-! ### exceptions of the text: what the written part says of their classes -/
def oexB (K : PySem.W.Frag) (C : Addr) : Bool := match K.lookup C with
  | some ⟨.type ty, _, .cls cd, sl⟩ => (match cd.mro, sl.toList with
    | .ref C' :: bm, [_, _, _, _, some (.builtin n), _] => decide (ty = "type") && (decide (C' = C) && (decide (n = "ValueError.__new__") && (!cd.hasDel && (cd.hasDict && PySem.HandSPX.refsVE bm))))
    | _, _ => false)
  | _ => false
theorem oexB_ok {K : PySem.W.Frag} {C : Addr} (h : oexB K C = true) : ∃ nm q N bs bm sn sub ab col dd k0 k1 k2 k3 k5, K.lookup C = some (excClassObj nm q C N bs bm true sn sub ab col dd k0 k1 k2 k3 k5 "ValueError.__new__") ∧ PySem.HandSPX.refsVE bm = true := by
  unfold oexB at h
  split at h
  · rename_i ty dd cd sl ho
    split at h
    · rename_i C' bm k0 k1 k2 k3 n k5 hm hs
      simp only [Bool.and_eq_true, decide_eq_true_eq, Bool.not_eq_true'] at h
      obtain ⟨rfl, rfl, rfl, hdel, hd, hr⟩ := h
      obtain ⟨nm, bs, mro, ns, qn, hdd, sn, sub, ab, col, del⟩ := cd
      dsimp only at hm hdel hd
      subst hm hdel hd
      have e : sl = #[k0, k1, k2, k3, some (.builtin "ValueError.__new__"), k5] := by
        obtain ⟨l⟩ := sl
        dsimp only at hs
        rw [hs]
      subst e
      exact ⟨_, _, _, _, _, _, _, _, _, _, _, _, _, _, _, ho, hr⟩
    · cases h
  · cases h
structure ExcOk (K : PySem.W.Frag) (c : Nat) : Prop where
  ox : OexC K (cad K c)
  xf : XfC K (cad K c)
  cl : (PySem.W.clsIn K (cad K c)).isSome = true
  ha : PySem.W.findIn K (.ref (cad K c)) "__class__" = some (some (.builtin "object.__class__"))
  hn : PySem.W.specialIn K (.builtin "object.__class__") "__get__" = some (some (.builtin "getset_descriptor.__get__"))
  tk : PySem.W.takesIn K (.builtin "object.__class__") = some true
  hm : PySem.W.mroIn K (cad K c) (.type "object") = some true
  no : ∀ f ∈ flds c, PySem.W.findIn K (.ref (cad K c)) f = some none
  few : (flds c).length ≤ 900
  nd : (flds c).Nodup
def prExc (c : Nat) : Pr := fun K => oexB K (cad K c) && (He.eqO (PySem.W.findIn K (.ref (cad K c)) "__setattr__") (some (some (.builtin "object.__setattr__"))) && (decide (PySem.W.subIn K (.ref (cad K c)) (.type "BaseException") = some true) && (decide (PySem.W.typeIn K (.ref (cad K c)) = some (.type "type")) && (PySem.W.keepIn K (.ref (cad K c)) &&
  (xfB K (cad K c) && ((PySem.W.clsIn K (cad K c)).isSome && (He.eqO (PySem.W.findIn K (.ref (cad K c)) "__class__") (some (some (.builtin "object.__class__"))) && (He.eqO (PySem.W.specialIn K (.builtin "object.__class__") "__get__") (some (some (.builtin "getset_descriptor.__get__"))) &&
  (decide (PySem.W.takesIn K (.builtin "object.__class__") = some true) && (decide (PySem.W.mroIn K (cad K c) (.type "object") = some true) && (flds c).all fun f => He.eqO (PySem.W.findIn K (.ref (cad K c)) f) (some none)))))))))))
theorem prExc_ok {K : PySem.W.Frag} {c : Nat} (h : prExc c K = true) (few : (flds c).length ≤ 900) (nd : (flds c).Nodup) : ExcOk K c := by
  unfold prExc at h
  simp only [Bool.and_eq_true, decide_eq_true_eq, List.all_eq_true] at h
  obtain ⟨h1, h2, h3, h4, h5, h6, h7, h8, h9, h10, h11, h12⟩ := h
  exact ⟨⟨oexB_ok h1, He.eqO_ok h2, h3, h4, h5⟩, xfB_ok h6, h7, He.eqO_ok h8, He.eqO_ok h9, h10, h11, fun f hf => He.eqO_ok (h12 f hf), few, nd⟩
/-- the base class of the text's exceptions: its __init__ is ValueError's -/
structure BaseOk (K : PySem.W.Frag) (c : Nat) : Prop where
  sp : PySem.W.specialIn K (.ref (cad K c)) "__getattribute__" = some (some (.builtin "type.__getattribute__"))
  rd : PySem.W.readsIn K (cad K c) (.type "type") = true
  fc : PySem.W.findCls K (.ref (cad K c)) (.type "type") "__init__" = some (.val (.builtin "ValueError.__init__"))
def prBase (c : Nat) : Pr := fun K => He.eqO (PySem.W.specialIn K (.ref (cad K c)) "__getattribute__") (some (some (.builtin "type.__getattribute__"))) && (PySem.W.readsIn K (cad K c) (.type "type") && (match PySem.W.findCls K (.ref (cad K c)) (.type "type") "__init__" with
  | some (.val (.builtin n)) => decide (n = "ValueError.__init__")
  | _ => false))
theorem prBase_ok {K : PySem.W.Frag} {c : Nat} (h : prBase c K = true) : BaseOk K c := by
  unfold prBase at h
  obtain ⟨h1, h⟩ := Bool.and_eq_true_iff.mp h
  obtain ⟨h2, h3⟩ := Bool.and_eq_true_iff.mp h
  refine ⟨He.eqO_ok h1, h2, ?_⟩
  split at h3
  · rename_i n e
    rw [e, of_decide_eq_true h3]
  · cases h3
/-! ### __init__ of an exception: Base.__init__(self, ".."), then self.f = f -/
def tX0 (K : PySem.W.Frag) : TS := fun D σ H => ∃ (a C : Addr), σ[0]? = some (some (.ref a)) ∧ OexC K C ∧ H a = some (exo a C none) ∧ D.nx σ H
def tX1 (K : PySem.W.Frag) (j : Nat) (f : Str) : TS := fun D σ H => ∃ (a C : Addr) (v : V), σ[0]? = some (some (.ref a)) ∧ σ[j]? = some (some v) ∧ OexC K C ∧ PySem.W.findIn K (.ref C) f = some none ∧
  ((H a = some (exo a C none) ∧ ∀ dx, H dx = none → dx ≠ a → D.nx σ (upd (upd H dx (exd dx [(f, v)])) a (exo a C (some dx)))) ∨
    ∃ (dx : Addr) (fs : List (Str × V)), H a = some (exo a C (some dx)) ∧ H dx = some (exd dx fs) ∧ fs.length ≤ 900 ∧ D.nx σ (upd H dx (exd dx ((f, v) :: fs))))
def tXs (K : PySem.W.Frag) : List Str → Nat → TS
  | [], _ => fun D σ H => D.nx σ H
  | f :: r, j => fun D σ H => tX1 K j f { D with nx := tXs K r (j + 1) D } σ H
structure HX0 (B : Bs) (st : Stmt) : Prop where
  run : ∀ (X : Cx) (W : WX), OkC B X → Takes X W → PS X st (tX0 B.K)
structure HX1 (B : Bs) (st : Stmt) (j : Nat) (f : Str) : Prop where
  run : ∀ (X : Cx) (W : WX), OkC B X → Takes X W → PS X st (tX1 B.K j f)
structure HXs (B : Bs) (ss : List Stmt) (fs : List Str) (j : Nat) : Prop where
  run : ∀ (X : Cx) (W : WX), OkC B X → Takes X W → PSs X ss (tXs B.K fs j)
structure HXI (B : Bs) (ss : List Stmt) (fs : List Str) : Prop where
  run : ∀ (X : Cx) (W : WX), OkC B X → Takes X W → PSs X ss (fun D σ H => tX0 B.K { D with nx := tXs B.K fs 1 D } σ H)
section
variable {B : Bs} {st : Stmt} {rest : List Stmt} {fs : List Str} {f x xb : Str} {j : Nat}
theorem hxs0 : HXs B [] [] j := ⟨fun X W ok tk => pss_nil⟩
theorem hxs (h : HX1 B st j f) (r : HXs B rest fs (j + 1)) : HXs B (st :: rest) (f :: fs) j := ⟨fun X W ok tk => PSs.imp (pss_cons (h.run X W ok tk) (r.run X W ok tk)) fun D σ H h => h⟩
theorem hxi (h : HX0 B st) (r : HXs B rest fs 1) : HXI B (st :: rest) fs := ⟨fun X W ok tk => PSs.imp (pss_cons (h.run X W ok tk) (r.run X W ok tk)) fun D σ H h => h⟩
theorem hx1 {p1 p2 p3 p4 : Pos} (hN : B.N[j]? = some x := by rfl) (hvis : Vis B.sc x := by first | exact Or.inl rfl | exact Or.inr (Or.inl rfl) | exact Or.inr (Or.inr rfl)) (h0 : B.N[0]? = some ("self" : PySem.Str) := by rfl)
    (hv0 : Vis B.sc "self" := by first | exact Or.inl rfl | exact Or.inr (Or.inl rfl) | exact Or.inr (Or.inr rfl)) (hd : (x == ("__debug__" : Str)) = false := by decide) (hcd : (x == ("__classdict__" : Str)) = false := by decide)
    (hs : ∀ env, swapsWith (.Name x p3) (some (.Attribute (.Name "self" p1) f p2)) p4.line env = pure false := by intro _; rfl) : HX1 B (.Assign [.Attribute (.Name "self" p1) f p2] (.Name x p3) p4) j f :=
  ⟨fun X W ok tk => PS.imp (ps_ost (pe_var (i := 0) (by rw [ok.eN]; exact h0) (by rw [ok.es]; exact hv0) (by decide) (by decide)) (pe_var (i := j) (by rw [ok.eN]; exact hN) (by rw [ok.es]; exact hvis) hd hcd) (hs _)) fun D σ H ⟨a, C, v, e0, e1, T, no, q⟩ => by
    refine ⟨v, e1, .ref a, e0, a, C, rfl, by rw [ok.eK]; exact T, by rw [ok.eK]; exact no, q⟩⟩
/-- Base.__init__(self, "..") -/
theorem pe_base {X : Cx} {C0 : Addr} {ta : TA} {e : Expr} {es : List Expr} {p1 p2 pos : Pos} {pl : Sem Bool} (hg : Gl X xb) (hm : X.mg xb = some (.ref C0)) (h1 : PySem.W.specialIn X.K (.ref C0) "__getattribute__" = some (some (.builtin "type.__getattribute__"))) (h2 : PySem.W.readsIn X.K C0 (.type "type") = true)
    (h3 : PySem.W.findCls X.K (.ref C0) (.type "type") "__init__" = some (.val (.builtin "ValueError.__init__"))) (hdb : (xb == ("__debug__" : Str)) = false) (ha : PA X (e :: es) ta) (hc : MethTree pl (.Name xb p1) "__init__" p2 pos (e :: es) X.env)
    (he : starEach (e :: es) X.env = (false, eval e X.env) :: starEach es X.env) (hpl : (backTo pos (starEach es X.env)).any (·.1) = false) :
    PE X (.Call (.Attribute (.Name xb p1) "__init__" p2) (e :: es) [] pos) (tVeI X.K ta) := by
  refine ⟨fun pins s σ H Q I h => PySem.W.methodCall_KW (ld_glob I hg hm ?_ hdb) hc⟩
  refine PySem.W.method_cls I.kIn h1 (PySem.W.cls_value I.kIn h2 h3 (by decide +kernel) ?_)
  show wpAny _ _ (callWith pos (Value.builtin "ValueError.__init__") [] (backTo pos (starEach (e :: es) X.env)) []) _ _ _
  refine PyProof.Rows.callWith_method1 (thn (ha.run pos pins _ σ H _ (I.tok _) h) fun us s1 ⟨vs, H1, I1, r1, a, C, ws, ev, hl, T, ea, q⟩ => ?_) he hpl
  subst ev
  cases r1 with
  | @cons _ u0 _ ur ra rw' =>
    cases (show u0 = Value.ref a from ra)
    exact oinit_ok T I1 ea (by rw [← Paired.length rw', sizeLine_eq]; omega) fun s' J => ⟨.non, H1, J, rfl, q⟩
theorem hx0 {c : Nat} {z : Str} {m : Nat} {p1 p2 p3 p4 p5 p6 : Pos} {pl : Env → Sem Bool} (b : BaseOk B.K c) (gn : Gn B xb) (hm : B.mg (cname c) = some (.ref (cad B.K c))) (hx : cname c = xb := by rfl) (h0 : B.N[0]? = some ("self" : PySem.Str) := by rfl)
    (hv0 : Vis B.sc "self" := by first | exact Or.inl rfl | exact Or.inr (Or.inl rfl) | exact Or.inr (Or.inr rfl)) (hdb : (xb == ("__debug__" : Str)) = false := by decide)
    (hc : ∀ env, MethTree (pl env) (.Name xb p1) "__init__" p2 p5 [.Name "self" p3, .Constant (.str z) m p4] env := by intro _; rfl) (he : ∀ env, starEach [.Name "self" p3, .Constant (.str z) m p4] env = (false, eval (.Name "self" p3) env) :: starEach [.Constant (.str z) m p4] env := by intro _; rfl)
    (he2 : ∀ env, starEach [Expr.Constant (.str z) m p4] env = (false, eval (.Constant (.str z) m p4) env) :: starEach [] env := by intro _; rfl)
    (hpl : ∀ env, (backTo p5 (starEach [Expr.Constant (.str z) m p4] env)).any (·.1) = false := by intro _; rfl) (hs : ∀ env, swapsWith (.Call (.Attribute (.Name xb p1) "__init__" p2) [.Name "self" p3, .Constant (.str z) m p4] [] p5) none p6.line env = pure false := by intro _; rfl) :
    HX0 B (.Expr (.Call (.Attribute (.Name xb p1) "__init__" p2) [.Name "self" p3, .Constant (.str z) m p4] [] p5) p6) := by
  subst hx
  exact ⟨fun X W ok tk => PS.imp (ps_expr (pe_base (ok.gl gn) (by rw [ok.em]; exact hm) (by rw [ok.eK]; exact b.sp) (by rw [ok.eK]; exact b.rd) (by rw [ok.eK]; exact b.fc) hdb
    (pa_cons (pe_var (i := 0) (by rw [ok.eN]; exact h0) (by rw [ok.es]; exact hv0) (by decide) (by decide)) (pa_cons pe_str pa_nil (he2 _)) (he _)) (hc _) (he _) (hpl _)) (hs _)) fun D σ H ⟨a, C, e0, T, ea, q⟩ =>
      ⟨.ref a, e0, a, C, [.str z], rfl, (by show 1 ≤ 1000; omega), by rw [ok.eK]; exact T, ea, q⟩⟩
end
end Hy

set_option Elab.async false
set_option linter.all false
set_option maxRecDepth 100000
set_option maxHeartbeats 4000000
set_option autoImplicit false
namespace Hy
open PySem PySem.Spec PyProof.Rows L2
/-! ### what __init__ leaves -/
inductive ExEnd (H : Hp) (a C : Addr) : List Str → List V → Hp → Prop where
  | bare : ExEnd H a C [] [] H
  | full (f : Str) (fs : List Str) (v : V) (vs : List V) (dx : Addr) (l : List (Str × V)) (H' : Hp) (h0 : H dx = none) (ne : dx ≠ a) (ha : H' a = some (exo a C (some dx))) (hd : H' dx = some (exd dx l)) (hb : ∀ b, b ≠ a → b ≠ dx → H' b = H b)
      (hl : ∀ (i : Nat) (g : Str) (w : V), (f :: fs)[i]? = some g → (v :: vs)[i]? = some w → l.lookup g = some w) : ExEnd H a C (f :: fs) (v :: vs) H'
def spExI (K : PySem.W.Frag) (c : Nat) : Sp := fun vs H Q _ => ∃ (a : Addr) (ws : List V), vs = .ref a :: ws ∧ ws.length = (flds c).length ∧ H a = some (exo a (cad K c) none) ∧ ∀ H', ExEnd H a (cad K c) (flds c) ws H' → Q .non H'
theorem start_0 {N : List Str} {v : V} {ws : List V} : (L2.start N (v :: ws))[0]? = some (some v) := by unfold L2.start; simp
theorem start_at {N : List Str} {v : V} {ws : List V} {j : Nat} {w : V} (h : ws[j]? = some w) : (L2.start N (v :: ws))[j + 1]? = some (some w) := by
  unfold L2.start
  have hl : j < ws.length := (List.getElem?_eq_some_iff.mp h).1
  rw [List.getElem?_append_left (by simp; exact hl)]
  simp [h]
/-- the fields behind the first one -/
theorem xs_go {K : PySem.W.Frag} {D : Ends} {c : Nat} {a dx : Addr} {N : List Str} {ws : List V} {P : Hp → Prop} (T : OexC K (cad K c)) (hp : ∀ H', P H' → D.nx (L2.start N (.ref a :: ws)) H') (ne : dx ≠ a) :
    ∀ (fs : List Str) (j : Nat) (H : Hp) (l : List (Str × V)), (∀ f ∈ fs, PySem.W.findIn K (.ref (cad K c)) f = some none) → fs.length + l.length ≤ 900 → H a = some (exo a (cad K c) (some dx)) → H dx = some (exd dx l) → (∀ i, i < fs.length → ∃ w, ws[j + i]? = some w) →
    (∀ H' l', H' a = some (exo a (cad K c) (some dx)) → H' dx = some (exd dx l') → (∀ b, b ≠ a → b ≠ dx → H' b = H b) → (∀ g, g ∉ fs → l'.lookup g = l.lookup g) → (fs.Nodup → ∀ i g w, fs[i]? = some g → ws[j + i]? = some w → l'.lookup g = some w) → P H') →
    tXs K fs (j + 1) D (L2.start N (.ref a :: ws)) H
  | [], j, H, l, _, _, ha, hd, _, h => hp _ (h H l ha hd (fun _ _ _ => rfl) (fun _ _ => rfl) fun _ i g w e => by simp at e)
  | f :: fs, j, H, l, hno, hz, ha, hd, hw, h => by
    obtain ⟨w0, hw0⟩ := hw 0 (by simp)
    refine ⟨a, cad K c, w0, start_0, start_at hw0, T, hno f List.mem_cons_self, .inr ⟨dx, l, ha, hd, by simp at hz; omega, ?_⟩⟩
    refine xs_go T hp ne fs (j + 1) _ ((f, w0) :: l) (fun g hg => hno g (List.mem_cons_of_mem _ hg)) (by simp at hz ⊢; omega) ((upd_ne ne.symm).trans ha) upd_same (fun i hi => ?_) fun H' l' e1 e2 e3 e4 e5 => ?_
    · obtain ⟨w, e⟩ := hw (i + 1) (by simpa using hi)
      exact ⟨w, by rw [show j + 1 + i = j + (i + 1) by omega]; exact e⟩
    · refine h H' l' e1 e2 (fun b h1 h2 => (e3 b h1 h2).trans (upd_ne h2)) (fun g hg => ?_) fun nd i g w hi hw' => ?_
      · rw [e4 g fun z => hg (List.mem_cons_of_mem _ z), lookup_put, if_neg fun z => hg (by rw [z]; exact List.mem_cons_self)]
      · cases i with
        | zero =>
          simp at hi
          subst hi
          obtain rfl : w0 = w := Option.some.inj (hw0.symm.trans hw')
          rw [e4 f (List.nodup_cons.mp nd).1, lookup_put, if_pos rfl]
        | succ i => exact e5 (List.nodup_cons.mp nd).2 i g w (by simpa using hi) (by rw [show j + 1 + i = j + (i + 1) by omega]; exact hw')
theorem xi_go {K : PySem.W.Frag} {c : Nat} (ok : ExcOk K c) {D : Ends} {N : List Str} {vs : List V} {H : Hp} {Q : VK} {E : XK} (h : spExI K c vs H Q E) (hq : ∀ σ H', Q .non H' → D.nx σ H') : tX0 K { D with nx := tXs K (flds c) 1 D } (L2.start N vs) H := by
  obtain ⟨a, ws, rfl, hl, ha, g⟩ := h
  refine ⟨a, cad K c, start_0, ok.ox, ha, ?_⟩
  have no := ok.no
  have few := ok.few
  have nd := ok.nd
  revert no few nd g hl
  generalize flds c = fs
  intro hl g no few nd
  cases fs with
  | nil =>
    cases ws with
    | nil => exact hq _ _ (g H .bare)
    | cons _ _ => cases hl
  | cons f fs =>
    cases ws with
    | nil => cases hl
    | cons v vs =>
      refine ⟨a, cad K c, v, start_0, start_at (j := 0) rfl, ok.ox, no f List.mem_cons_self, .inl ⟨ha, fun dx hdx ne => ?_⟩⟩
      refine xs_go (P := fun H' => Q .non H') ok.ox (fun H' q => hq _ _ q) ne fs 1 _ [(f, v)] (fun g hg => no g (List.mem_cons_of_mem _ hg)) (by simp at few ⊢; omega) upd_same ((upd_ne ne).trans upd_same) (fun i hi => ?_) fun H' l' e1 e2 e3 e4 e5 => g H' (.full f fs v vs dx l' H' hdx ne e1 e2 (fun b h1 h2 => ?_) fun i g' w hi hw => ?_)
      · have : i < vs.length := by simp at hl; omega
        exact ⟨vs[i], by rw [show 1 + i = i + 1 by omega]; simp [this]⟩
      · rw [e3 b h1 h2, upd_ne h1, upd_ne h2]
      · cases i with
        | zero =>
          simp at hi hw
          subst hi hw
          rw [e4 f (List.nodup_cons.mp nd).1, lookup_put, if_pos rfl]
        | succ i => exact e5 (List.nodup_cons.mp nd).2 i g' w (by simpa using hi) (by rw [show 1 + i = i + 1 by omega]; simpa using hw)
/-- the def __init__ of an exception -/
theorem fnExc {B : Bs} {c k : Nat} {x qual : Str} {params : Arguments} {body : List Stmt} {scope : Scope} {f : Addr} {fd : FuncData} {N ps : List Str} (ok : ExcOk B.K c) (F : FunD B.K x qual params body scope [] [] f fd) (S : FnScope N ps scope) (hp : ps.length = (flds c).length + 1)
    (hbody : HXI { B with k := k, N := N, sc := scope, top := true, own := fun _ => true } body (flds c)) : FnOk B.P B.w B.K B.mg B.base (CX B.P B.w) (k + 1) f fd ps (spExI B.K c) := by
  refine F.ok S (fun vs H Q E ⟨a, ws, e, hl, _⟩ => by rw [e, hp, List.length_cons, hl]) fun cdv A outer s H vs Q E hroom h => ?_
  exact ⟨_, hbody.run _ (fun cls d _ H => E cls d H) ⟨rfl, rfl, rfl, rfl, rfl, rfl, rfl, S.nd, rfl, hroom, fun _ _ _ => rfl, passes_of rfl, fun _ => ⟨rfl, rfl, rfl⟩⟩ (takes_of rfl rfl rfl rfl), xi_go ok h fun _ _ q => q⟩
/-! ### raise C(..) -/
structure HExc (B : Bs) (k c : Nat) : Prop where
  mg : B.mg (cname c) = some (.ref (cad B.K c))
  ok : ExcOk B.K c
  ini : ∃ fI fd ps, PySem.W.findIn B.K (.ref (cad B.K c)) "__init__" = some (some (.ref fI)) ∧ PySem.W.typeIn B.K (.ref fI) = some (.type "function") ∧ Binds B.K fd ps [] ∧ FnOk B.P B.w B.K B.mg B.base (CX B.P B.w) k fI fd ps (spExI B.K c)
theorem HExc.in_ {B : Bs} {k k' c : Nat} {N : List Str} {sc : Scope} {top : Bool} {own : Str → Bool} (h : HExc B k c) : HExc ⟨B.P, B.w, B.K, B.mg, B.base, k', N, sc, top, own⟩ k c := ⟨h.mg, h.ok, h.ini⟩
theorem HExc.mono {B : Bs} {j k c : Nat} (h : HExc B j c) (l : j ≤ k) : HExc B k c := ⟨h.mg, h.ok, let ⟨fI, fd, ps, a, b, d, e⟩ := h.ini; ⟨fI, fd, ps, a, b, d, e.mono l⟩⟩
def hRaise (c : Nat) (t : HTA) : HTS := fun D env S => t env S (fun ds S1 => match Nat.beq ds.length (flds c).length with
  | true => D.ex (.exc c ds) env S1
  | false => False) fun x S1 => D.ex x env S1
/-- a made exception that has no fields, let go -/
theorem bare_end {X : Cx} {pins : List (Addr × Obj)} {σ : L2.St} {H1 : Hp} {Q : XK} {hp hp2 h2 : Heap} {g1 g2 : Array GenState} {d1 d2 : Drawn} {t1 t2 : Nat} {os1 os2 : OsState} {a C : Addr} (T : Raises X (.ref C)) (I1 : L2.Inv X pins σ H1 ⟨hp, g1, d1, t1, os1⟩)
    (ha : hp.objs.size ≤ a) (k : ∀ b o, hp.get? b = some o → hp2.get? b = some o) (un : Un (frs X.stack) [] (upd H1 a (exo a C none)) (upd H1 a (exo a C none)) hp2 h2) (hok : HOk X.prog X.w (upd H1 a (exo a C none)) h2) (ho : os2 = os1) (hb : AllBare g2)
    (q : Q (.ref C) none H1) : MkP X pins σ Q (.ref a) ⟨h2, g2, d2, t2, os2⟩ := by
  obtain ⟨t0, hoe⟩ := exo_at hok (show upd H1 a (exo a C none) a = some (exo a C none) from upd_same)
  have hn : H1 a = none := I1.hok.fresh ha
  obtain ⟨G, y1, y2⟩ := restrict h2 fun b => decide (b ≠ a)
  have gk : ∀ b, b ≠ a → G.get? b = h2.get? b := fun b hb => y1 b (decide_eq_true hb)
  have ge : G.get? a = none := y2 a (by simp)
  have nha : ∀ {b : Addr} {o : Obj}, hp.get? b = some o → b ≠ a := fun {b o} z e => by
    subst e
    exact absurd (Nat.lt_of_lt_of_le (Heap.lt_size z) ha) (Nat.lt_irrefl _)
  have upn : ∀ {b : Addr}, b ≠ a → H1 b = none → upd H1 a (exo a C none) b = none := fun {b} hb n => (upd_ne hb).trans n
  have U : Un (frs X.stack) [] H1 H1 hp G := {
    keep := fun b o z n hf hx => (gk b (nha z)).trans (un.keep b o (k b o z) (upn (nha z) n) hf hx)
    slot := fun b o z n hf hx => by rw [gk b (nha z)]; exact un.slot b o (k b o z) (upn (nha z) n) hf hx
    free := fun _ _ _ n _ => n
    there := fun b o z hx => by rw [gk b (nha z)]; exact un.there b o (k b o z) hx
    tups := fun _ _ z => z
    frzs := fun _ _ _ z => z
    tbls := fun b ps z => ⟨#[], by rw [z]; simp⟩ }
  have hok3 : HOk X.prog X.w H1 G := fun b o z => by
    have hba : b ≠ a := fun e => by rw [e, hn] at z; cases z
    have noa : ∀ {c : Addr}, upd H1 a (exo a C none) c = some (.own b) → c ≠ a := fun {c} hc => at_ne (show upd H1 a (exo a C none) a = some (exo a C none) from upd_same) hc exo_own
    refine (hok b o ((upd_ne hba).trans z)).stay (fun c v hc y => ?_) (fun c hc => ?_) fun c xs hc => ?_
    · have hca : c ≠ a := by
        rcases hc with hc | hc
        · rw [hc]; exact hba
        · exact noa hc
      exact (gk c hca).trans y
    · rw [upd_ne (noa hc)] at hc; exact hc
    · rw [upd_ne (at_ne (show upd H1 a (exo a C none) a = some (exo a C none) from upd_same) hc exo_tup)] at hc; exact hc
  have J : L2.Inv X pins σ H1 ⟨G, g2, d2, t2, os2⟩ := I1.call' (ch := []) ho U hok3 hb (fun b z => absurd z (by simp))
  refine ⟨a, _, _, ⟨G, g2, d2, t2, os2⟩, _, .ref C, none, rfl, J, fun b o z => ?_, ge, hoe, ⟨rfl, rfl⟩, rfl, rfl, hn, rfl, hb, T, q⟩
  by_cases hba : b = a
  · rw [hba, ge] at z; cases z
  · exact (gk b hba).symm.trans z
end Hy

set_option Elab.async false
set_option linter.all false
set_option maxRecDepth 100000
set_option maxHeartbeats 4000000
set_option autoImplicit false
namespace Hy
open PySem PySem.Spec PyProof.Rows L2
section
variable {X : Cx} {x : Str} {c k : Nat} {p pos : Pos} {C fI : Addr} {fd : FuncData} {ps : List Str}
/-- C() of an exception without fields -/
theorem pmk_bare {CX' : CXT} (T : OexC X.K (cad X.K c)) (hf : flds c = []) (iC : PySem.W.findIn X.K (.ref (cad X.K c)) "__init__" = some (some (.ref fI))) (tI : PySem.W.typeIn X.K (.ref fI) = some (.type "function")) (F1 : FnOk X.prog X.w X.K X.mg X.base CX' k fI fd ps (spExI X.K c)) (hr : Room (k + 1) X.A)
    (hb : Binds X.K fd ps []) (hx : Passes CX' X (fun _ _ _ => False)) (hg : Gl X x) (hm : X.mg x = some (.ref (cad X.K c))) (hdb : (x == ("__debug__" : Str)) = false) : PMk X (.Call (.Name x p) [] [] pos) (fun _ H Q => Q (.ref (cad X.K c)) none H) := by
  intro pins s σ H Q I h
  obtain ⟨nm, q, N, bs, bm, sn, sub, ab, col, dd, k0, k1, k2, k3, k5, hC, hbm⟩ := T.cls
  refine wpAny_Call_Name_kw (ld_glob I hg hm (PySem.W.callWith_K0 (first := []) I.kIn T.kC ?_) hdb)
  show wpAny _ _ (call (.ref (cad X.K c)) []) _ _ _
  generalize eI : ({ s with toks := s.toks } : Shared) = sI
  obtain ⟨hp, g, dr, tk, os⟩ := s
  have hsz : hp.objs.size ≤ hp.objs.size + 1 := Nat.le_succ _
  have hn : H (hp.objs.size + 1) = none := I.hok.fresh hsz
  have kk : ∀ b o, hp.get? b = some o → ((hp.push (PySem.W.kdv_tup [])).push (PySem.HandSPX.excO (cad X.K c) hp.objs.size)).get? b = some o := fun b o e => Heap.get?_push_of_some _ (Heap.get?_push_of_some _ e)
  have hget : ((hp.push (PySem.W.kdv_tup [])).push (PySem.HandSPX.excO (cad X.K c) hp.objs.size)).get? (hp.objs.size + 1) = some (PySem.HandSPX.excO (cad X.K c) hp.objs.size) := by heap_get
  have I2 : L2.Inv X pins σ (upd H (hp.objs.size + 1) (exo (hp.objs.size + 1) (cad X.K c) none)) ⟨(hp.push (PySem.W.kdv_tup [])).push (PySem.HandSPX.excO (cad X.K c) hp.objs.size), g, dr, tk, os⟩ :=
    I.laid (t' := tk) (a := hp.objs.size + 1) (o := exo (hp.objs.size + 1) (cad X.K c) none) (h' := (hp.push (PySem.W.kdv_tup [])).push (PySem.HandSPX.excO (cad X.K c) hp.objs.size)) kk hsz (exo_ok hget)
  have go : spExI X.K c [V.ref (hp.objs.size + 1)] (upd H (hp.objs.size + 1) (exo (hp.objs.size + 1) (cad X.K c) none)) (fun v H2 => v = .non ∧ H2 = upd H (hp.objs.size + 1) (exo (hp.objs.size + 1) (cad X.K c) none)) (fun _ _ _ => False) :=
    ⟨_, [], rfl, by rw [hf] <;> rfl, upd_same, fun H' e => by rw [hf] at e; cases e; exact ⟨rfl, rfl⟩⟩
  have r2 : Vals [V.ref (hp.objs.size + 1)] [Value.ref (hp.objs.size + 1)] := .cons rfl .nil
  have hl : ([Value.ref (hp.objs.size + 1)] ++ ([] : List Value)).length = ps.length := by
    have e := r2.length
    rw [F1.len _ _ _ _ go] at e
    simpa using e.symm
  subst eI
  refine wpAny_call (PySem.HandSPX.call_own F.excBase_ValueError (fun Y => PySem.HandSPX.refsVE_contains Y bm hbm) (I.kIn _ _ hC) (PySem.W.looks_findIn I.kIn iC) (fun self => PySem.W.bind_fn I.kIn self tI) (Nat.zero_le _)
    (codeAny_mono (F1.run _ X.stack _ _ ⟨[Value.ref (hp.objs.size + 1)], []⟩ [Value.ref (hp.objs.size + 1)] _ _ (fun _ _ _ => False) (hr.make (cad X.K c) [] []) (I2.env0.make (cad X.K c) [] []) (by have := hb _ [Value.ref (hp.objs.size + 1)] I2.kIn hl; simpa using this) r2 go) fun r s' hq' => ?_))
  cases r with
  | error er => exact hx pins σ _ _ er s' I2 hq'
  | ok fl =>
    cases fl with
    | ret u =>
      obtain ⟨v, H2, os2, bare2, un2, hok2, rv, ev, eH⟩ := hq'
      subst ev eH
      obtain ⟨h2, g2, d2, t2, os'⟩ := s'
      exact ⟨rv, bare_end (raises_own T.exC T.tyC) I hsz kk un2 hok2 os2 bare2 h⟩
    | next => exact False.elim hq'
    | brk => exact False.elim hq'
    | cont => exact False.elim hq'
end
theorem repx_full {K : PySem.W.Frag} {F : Hp} {c : Nat} {ds : List D} {vs : List V} {d : Addr} {l : List (Str × V)} (hd : F d = some (.xd l)) (rs : Reps K F ds vs) (hl : ∀ (i : Nat) (g : Str) (w : V), (flds c)[i]? = some g → vs[i]? = some w → l.lookup g = some w) : RepX K F (.exc c ds) (.ref (cad K c)) (some d) :=
  ⟨rfl, .inr ⟨d, l, rfl, hd, fun i f x e1 e2 => by
    obtain ⟨v, h1, h2⟩ := rs.at e2
    exact ⟨v, hl i f v e1 h1, h2⟩⟩⟩
theorem ExEnd.inv {H H' : Hp} {a C : Addr} {fs : List Str} {ws : List V} (h : ExEnd H a C fs ws H') (hf : fs.length ≠ 0) : ∃ (dx : Addr) (l : List (Str × V)), H dx = none ∧ dx ≠ a ∧ H' a = some (exo a C (some dx)) ∧ H' dx = some (exd dx l) ∧ (∀ b, b ≠ a → b ≠ dx → H' b = H b) ∧
    ∀ (i : Nat) (g : Str) (w : V), fs[i]? = some g → ws[i]? = some w → l.lookup g = some w := by
  cases h with
  | bare => exact absurd rfl hf
  | full f fs v vs dx l _ h0 ne ha hd hb hl => exact ⟨dx, l, h0, ne, ha, hd, hb, hl⟩
section
variable {B : Bs} {e : Expr} {es : List Expr} {tr : HTA} {c k : Nat} {xc : Str} {p pos pos2 : Pos}
theorem hraise (h : HExc B k c) (hk : k + 1 ≤ B.k) (gn : Gn B xc) (ha : HA B (e :: es) tr) (hx : cname c = xc := by rfl) (hdb : (xc == ("__debug__" : Str)) = false := by decide) (he : ∀ env, starEach (e :: es) env = (false, eval e env) :: starEach es env := by intro _; rfl)
    (hpl : ∀ env, (backTo pos (starEach es env)).any (·.1) = false := by intro _; rfl) (hf : (flds c).length ≠ 0 := by decide) : HS B (.Raise (some (.Call (.Name xc p) (e :: es) [] pos)) none pos2) (hRaise c tr) := by
  subst hx
  obtain ⟨fI, fd, ps, i1, i2, i3, i4⟩ := h.ini
  exact ⟨fun X W ok tk => PS.imp (ps_raise ok.calm tk (pmk_oex (sp := spExI X.K c) (ds := []) (dvs := []) (by rw [ok.eK]; exact h.ok.ox) (by rw [ok.eK]; exact i1) (by rw [ok.eK]; exact i2) (by have := ok.fnOk i4; rw [ok.eK] at this ⊢; exact this) (ok.room.mono hk) (by rw [ok.eK]; exact i3) .nil passL (ok.gl gn)
    (by rw [ok.em]; exact h.mg) (ha.run X W ok tk) hdb (he _) (hpl _))) fun D σ H ⟨G, F, S, env, E, rn, wd, hh, o⟩ => by
      refine ⟨G, F, S, env, _, _, rn, wd, hh, fun ds vs F1 S1 H1 l1 w1 r1 h1 => ?_, o.exc rn⟩
      obtain ⟨z, h1⟩ := beq_n h1
      have few := h.ok.few
      rw [ok.eK]
      refine ⟨by rw [r1.len, z]; omega, fun a ha => ⟨a, vs, by rw [List.append_nil], by rw [r1.len, z], upd_same, fun H' e => ?_⟩⟩
      obtain ⟨d, l, h0, ne, e1, e2, e3, hl⟩ := e.inv hf
      have hd1 : H1 d = none := by rw [upd_ne ne] at h0; exact h0
      have eH : upd (L2.del H' a) d (.xd l) = upd H1 d (.xd l) := by
        funext b
        by_cases hb : b = d
        · rw [hb, upd_same, upd_same]
        · rw [upd_ne hb, upd_ne hb]
          by_cases hba : b = a
          · rw [hba, L2.del_same, ha]
          · rw [L2.del_ne hba, e3 b hba hb, upd_ne hba]
      refine ⟨rfl, d, l, e1, e2, hd1, ?_⟩
      rw [eH]
      obtain ⟨w2, l2⟩ := w1.newF (.xd l) hd1
      exact o.ex _ _ _ env σ _ _ _ (l1.trans l2) w2 (rn.le (l1.trans l2)) (repx_full upd_same (r1.le l2) hl) h1⟩
theorem hraise0 (h : HExc B k c) (hk : k + 1 ≤ B.k) (gn : Gn B xc) (hx : cname c = xc := by rfl) (hdb : (xc == ("__debug__" : Str)) = false := by decide) (hf : flds c = [] := by rfl) : HS B (.Raise (some (.Call (.Name xc p) [] [] pos)) none pos2) (hRaise c hNil) := by
  subst hx
  obtain ⟨fI, fd, ps, i1, i2, i3, i4⟩ := h.ini
  exact ⟨fun X W ok tk => PS.imp (ps_raise ok.calm tk (pmk_bare (c := c) (by rw [ok.eK]; exact h.ok.ox) hf (by rw [ok.eK]; exact i1) (by rw [ok.eK]; exact i2) (by have := ok.fnOk i4; rw [ok.eK] at this ⊢; exact this) (ok.room.mono hk) (by rw [ok.eK]; exact i3) passL (ok.gl gn)
    (by rw [ok.em, ok.eK]; exact h.mg) hdb)) fun D σ H ⟨G, F, S, env, E, rn, wd, hh, o⟩ => by
      obtain ⟨_, h1⟩ := beq_n (show match Nat.beq ([] : List Hy.D).length (flds c).length with | true => E.ex (.exc c []) env S | false => False from hh)
      rw [ok.eK]
      exact o.ex _ _ _ env σ F S H Le.rfl' wd rn (show RepX B.K F (.exc c []) _ _ from ⟨rfl, .inl ⟨rfl, rfl⟩⟩) h1⟩
end
end Hy

set_option Elab.async false
set_option linter.all false
set_option maxRecDepth 100000
set_option maxHeartbeats 4000000
set_option autoImplicit false
namespace Hy
open PySem PySem.Spec PyProof.Rows L2
/-! ### try: body, then clauses with and without a name -/
abbrev ClX := Value × Option Nat × (Addr → Value → Option Addr → TS)
/-- the ends of a suite whose name goes at its end -/
abbrev goneD (D : Ends) (i : Nat) : Ends := { nx := fun σ H => D.nx (σ.set i none) H, rt := D.rt, bk := fun σ H => D.bk (σ.set i none) H, ct := fun σ H => D.ct (σ.set i none) H }
def wMix (K : PySem.W.Frag) (Wo : WX) (D : Ends) : List ClX → WX
  | [] => Wo
  | (c, o, ts) :: r => fun cls d σ H => ∃ b, PySem.W.exmOne K cls c = some b ∧ (b = true → ∀ a, H a = none → match o with
    | none => ts a cls d D σ H
    | some i => ts a cls d (goneD D i) (σ.set i (some (.ref a))) H) ∧ (b = false → wMix K Wo D r cls d σ H)
abbrev SuOk (X : Cx) (su : List Stmt) (ts : Addr → Value → Option Addr → TS) : Prop := ∀ (a : Addr) (oe : Obj) (cls : Value) (d : Option Addr) (pn : List (Addr × Obj)), Zc cls d oe → (∃ vs, oe.data = .fields vs) → PSs (X.suite a ((a, oe) :: pn)) su (ts a cls d)
inductive HdsX (X : Cx) : List ExceptHandler → List ClX → Prop
  | nil : HdsX X [] []
  | bare {x : Str} {c : Value} {ts : Addr → Value → Option Addr → TS} {b0 : Stmt} {su : List Stmt} {np p : Pos} {hs : List ExceptHandler} {l : List ClX} (hc : Names X x c) (ok : SuOk X (b0 :: su) ts) (r : HdsX X hs l) :
      HdsX X (.ExceptHandler (some (.Name x np)) none (b0 :: su) p :: hs) ((c, none, ts) :: l)
  | as_ {x n : Str} {i : Nat} {c : Value} {ts : Addr → Value → Option Addr → TS} {b0 : Stmt} {su : List Stmt} {np p : Pos} {hs : List ExceptHandler} {l : List ClX} (hc : Names X x c) (hi : X.N[i]? = some n) (hl : X.env.kindOf n = some .local) (ok : SuOk X (b0 :: su) ts) (r : HdsX X hs l) :
      HdsX X (.ExceptHandler (some (.Name x np)) (some n) (b0 :: su) p :: hs) ((c, some i, ts) :: l)
section
variable {X : Cx} {pins : List (Addr × Obj)} {σ : L2.St} {H : Hp} {s : Shared} {D : Ends}
/-- out of a suite without a name -/
theorem su_bare {a : Addr} {q : Addr × Obj} (ok : X.Ok) {f : Flow} (h : SP (X.suite a (q :: (X.pn ++ pins))) [] D f s) : SP X pins D f s := by
  cases f with
  | next => obtain ⟨σ1, H1, S1, q1⟩ := h; exact ⟨_, _, S1.unsuite ok, q1⟩
  | brk => obtain ⟨σ1, H1, S1, q1⟩ := h; exact ⟨_, _, S1.unsuite ok, q1⟩
  | cont => obtain ⟨σ1, H1, S1, q1⟩ := h; exact ⟨_, _, S1.unsuite ok, q1⟩
  | ret u => obtain ⟨v1, σ1, H1, S1, r1, q1⟩ := h; exact ⟨_, _, _, S1.unsuite ok, r1, q1⟩
/-- an exception that no clause takes -/
theorem pass_on {W : WX} {B : Heap} {sI : Shared} {a : Addr} {cls : Value} {d : Option Addr} {env : Env} {outer : List Env} (hs : X.stack = X.env :: X.outer) (hf : X.env.frame = some X.env.locals) (tk : Takes X W) (J : L2.Inv X pins σ H sI)
    (nb : ∀ b o, sI.heap.get? b = some o → b ∉ frs X.stack → B.get? b = some o) (fl : PySem.HandSPX.FlyingZ B (X.env :: X.outer) a (Zc cls d) s.heap) (up : sI.heap.UpToSlots s.heap) (na : H a = none) (os : s.os = sI.os) (ag : AllBare s.gens) (w : W cls d σ H) {Q : Flow → Shared → Prop} :
    wpAny (model X.prog X.w) X.A (handleBy (.ref a) X.env []) Q X.xe s := by
  refine wpAny_handleBy_nil ?_
  obtain ⟨_, _, _, oe, vs, T, _, _, he, _, hd, h1, _⟩ := id fl
  unfold PySem.passOn
  refine wpAny_bind (wpAny_field he hd h1 ?_)
  rw [if_neg (show ¬ ((Value.ref T == Value.none) = true) from by simp)]
  have fin : wpAny (model X.prog X.w) X.A (setFlight (.ref a) X.env.frame) (fun _ s4 => wpAny (model X.prog X.w) X.A (throw (.ref a) : Sem Flow) Q X.xe s4) X.xe s := by
    rw [hf]
    exact PySem.HandSPX.setFlight_upZ fl fun h4 hh4 up4 => wpAny_throw (tk _ _ ⟨a, B, sI, pins, σ, H, cls, d, rfl, J, nb, up.trans up4, .inr (.inr (by rw [hs]; exact hh4)), na, os, ag, w⟩)
  first
    | exact wpAny_bind (wpAny_pure (wpAny_bind fin))
    | exact wpAny_bind fin
end
section
variable {X : Cx} {body : List Stmt} {h0 : ExceptHandler} {hds : List ExceptHandler} {l : List ClX} {pos : Pos} {tb : WX → TS} {Wo : WX}
theorem ps_try_mix (hs : X.stack = X.env :: X.outer) (hf : X.env.frame = some X.env.locals) (hN : X.N.Nodup) (tk : Takes X Wo)
    (hb : ∀ (W : WX) (pn : List (Addr × Obj)) (xe : Value → Shared → Prop), Takes (X.tr pn xe) W → PassesOwn (model X.prog X.w) X.A X.env xe → PSs (X.tr pn xe) body (tb W))
    (hh : HdsX X (h0 :: hds) l) : PS X (.Try body (h0 :: hds) [] [] pos) (fun D σ H => tb (wMix X.K Wo D l) D σ H) := by
  refine ⟨fun pins s σ H D I h => wpAny_Try_except ?_⟩
  have ok := I.ok
  have hfr : X.A.frames = some (X.env :: X.outer) := by rw [ok.frames, hs]
  let xe' : Value → Shared → Prop := fun e s1 => wpAny (model X.prog X.w) X.A (noteFrame e X.env) (fun _ s2 => wpAny (model X.prog X.w) X.A (setFlight e none) (fun _ s3 => wpAny (model X.prog X.w) X.A (handleBy e X.env (h0 :: hds)) (SP X pins D) X.xe s3) X.xe s2) X.xe s1
  have takes : Takes (X.tr (X.pn ++ pins) xe') (wMix X.K Wo D l) := by
    intro u s' xx
    obtain ⟨a, B, sI, pins', σ', H', cls, d, rfl, J', nb, up, sky, na, os, ag, w⟩ := xx
    have J : L2.Inv X pins σ' H' sI := J'.ofTry ok
    have sky' : Sky B (X.env :: X.outer) a (Zc cls d) X.env.locals s'.heap := by rw [← hs]; exact sky
    show wpAny (model X.prog X.w) X.A (noteFrame (.ref a) X.env) _ _ _
    refine Sky.land Zc.steady hfr hf sky' fun h3 fl3 up3 => ?_
    have J3 : L2.Inv X pins σ' H' { s' with heap := h3 } := J.landed nb fl3.1 (up.trans up3) os ag
    obtain ⟨oe3, vs3, he3, hz3, hd3⟩ := fl3.there
    have nfr : a ∉ frs (X.env :: X.outer) := fun hm => by
      obtain ⟨_, o', e', hnf⟩ := fl3.2.2.1.mem hm
      rw [he3] at e'; cases e'
      exact hnf _ hd3
    have nL : a ≠ X.env.locals := fun z => nfr (List.mem_filterMap.mpr ⟨X.env, List.mem_cons_self, by rw [hf, z]⟩)
    have nF : a ∉ X.fs := fun hm => by
      obtain ⟨e, he, q⟩ := List.mem_filterMap.mp hm
      exact nfr (List.mem_filterMap.mpr ⟨e, List.mem_cons_of_mem _ he, q⟩)
    have S3 := J3.suite he3 hd3 na nL nF
    have looks : ∀ {c : Value} {b : Bool}, PySem.W.exmOne X.K cls c = some b → _ := fun {c b} e => PySem.W.exm_one (M := model X.prog X.w) (J3.kIn) (fun A Q E s k q => wpAny_typeOf_ref (k _ _ he3) (by rw [hz3.1]; exact q) : PySem.W.Looks (model X.prog X.w) h3 (typeOf (.ref a)) cls) e
    have test : ∀ {x : Str} {c : Value} {np : Pos} {Q : Value → Shared → Prop} {E : Value → Shared → Prop}, Names X x c → Q c { s' with heap := h3 } → wpAny (model X.prog X.w) (X.A.mark (some (.ref a))) (eval (.Name x np) X.env) Q E { s' with heap := h3 } := fun {x c np Q E} hc q => by
      obtain ⟨hg, hdbg, hm | ⟨hm, hv, hnn⟩⟩ := hc
      · exact ld_glob (X := X.suite a ((a, oe3) :: (X.pn ++ pins))) S3 hg hm q hdbg
      · exact ld_blt (X := X.suite a ((a, oe3) :: (X.pn ++ pins))) S3 hg hm hv q hnn hdbg
    suffices go : ∀ {hds' : List ExceptHandler} {l' : List ClX}, HdsX X hds' l' → wMix X.K Wo D l' cls d σ' H' → wpAny (model X.prog X.w) X.A (handleBy (.ref a) X.env hds') (SP X pins D) X.xe { s' with heap := h3 } from go hh w
    intro hds' l' hk
    induction hk with
    | nil => exact fun w => pass_on (s := { s' with heap := h3 }) (env := X.env) (outer := X.outer) hs hf tk J nb fl3 (up.trans up3) na os ag w
    | @bare x c ts b0 su np p hs2 l2 hc hsu r ih =>
      rintro ⟨b, hb1, hyes, hno⟩
      refine wpAny_handleBy_cons (codeAny_handlers_test (test hc ((looks hb1).here ?_))) (by intro q; cases q)
      cases b with
      | false => exact ih (hno rfl)
      | true =>
        refine codeAny_handlers_suite (PySem.HandSPX.lands_againZ fl3 fun h4 fl4 up4 => ?_)
        have J4 : L2.Inv X pins σ' H' { s' with heap := h4 } := J.landed nb fl4.1 ((up.trans up3).trans up4) os ag
        obtain ⟨oe4, vs4, he4, hz4, hd4⟩ := fl4.there
        exact wpAny_mono ((hsu a oe4 cls d (X.pn ++ pins) hz4 ⟨_, hd4⟩).run [] _ _ H' D (J4.suite he4 hd4 na nL nF) (hyes rfl a na)) (fun f s6 hsp => su_bare ok hsp) fun _ _ z => z.elim
    | @as_ x n i c ts b0 su np p hs2 l2 hc hi hln hsu r ih =>
      rintro ⟨b, hb1, hyes, hno⟩
      refine wpAny_handleBy_cons (codeAny_handlers_test (test hc ((looks hb1).here ?_))) (by intro q; cases q)
      cases b with
      | false => exact ih (hno rfl)
      | true =>
        refine codeAny_handlers_suite_as (PySem.HandSPX.lands_againZ fl3 fun h4 fl4 up4 => ?_)
        have J4 : L2.Inv X pins σ' H' { s' with heap := h4 } := J.landed nb fl4.1 ((up.trans up3).trans up4) os ag
        obtain ⟨oe4, vs4, he4, hz4, hd4⟩ := fl4.there
        refine store_ok (X := X.suite a ((a, oe4) :: (X.pn ++ pins))) (v := .ref a) (J4.suite he4 hd4 na nL nF) hN hi (.inl hln) rfl (fun s5 S5 => ?_) (.inr hln)
        refine wpAny_mono ((hsu a oe4 cls d (X.pn ++ pins) hz4 ⟨_, hd4⟩).run [] s5 _ H' _ S5 (hyes rfl a na)) (fun f s6 hsp => ?_) fun _ _ z => z.elim
        have gone : ∀ {σ6 : L2.St} {H6 : Hp} {Q : Shared → Prop}, L2.Inv (X.suite a ((a, oe4) :: (X.pn ++ pins))) [] σ6 H6 s6 → (∀ s7, L2.Inv X pins (σ6.set i none) H6 s7 → Q s7) →
            wpAny (model X.prog X.w) X.A (do bindName X.env n .none; unbindBehindTheSuite X.env n p) (fun _ s7 => Q s7) X.xe s6 := fun {σ6 H6 Q} S6 hq => gone_ok (S6.unsuite ok) hN hi hln hq
        cases f with
        | next => obtain ⟨σ6, H6, S6, q6⟩ := hsp; exact gone S6 fun s7 J7 => ⟨_, _, J7, q6⟩
        | brk => obtain ⟨σ6, H6, S6, q6⟩ := hsp; exact gone S6 fun s7 J7 => ⟨_, _, J7, q6⟩
        | cont => obtain ⟨σ6, H6, S6, q6⟩ := hsp; exact gone S6 fun s7 J7 => ⟨_, _, J7, q6⟩
        | ret u => obtain ⟨v6, σ6, H6, S6, r6, q6⟩ := hsp; exact gone S6 fun s7 J7 => ⟨_, _, _, J7, r6, q6⟩
  refine wpAny_mono ((hb _ (X.pn ++ pins) xe' takes PassesOwn.looking).run [] s σ H D (I.toTry _) h) (fun f s1 hsp => ?_) fun e s1 he => he
  cases f with
  | next => obtain ⟨σ1, H1, J1, q⟩ := hsp; exact wpAny_execs_nil ⟨σ1, H1, J1.ofTry ok, q⟩
  | brk => obtain ⟨σ1, H1, J1, q⟩ := hsp; exact ⟨σ1, H1, J1.ofTry ok, q⟩
  | cont => obtain ⟨σ1, H1, J1, q⟩ := hsp; exact ⟨σ1, H1, J1.ofTry ok, q⟩
  | ret u => obtain ⟨v1, σ1, H1, J1, r, q⟩ := hsp; exact ⟨v1, σ1, H1, J1.ofTry ok, r, q⟩
end
end Hy

set_option Elab.async false
set_option linter.all false
set_option maxRecDepth 100000
set_option maxHeartbeats 4000000
set_option autoImplicit false
namespace Hy
open PySem PySem.Spec PyProof.Rows L2
/-! ### what an except suite reckons: no store is changed -/
abbrev SX := D → HEnv → Option D
abbrev SXs := D → HEnv → Option (List D)
structure SuAt (K : PySem.W.Frag) (G F : Hp) (S : Sto) (env : HEnv) (x : D) (a : Addr) (cls : Value) (dd : Option Addr) (o : Option Nat) (σ : L2.St) (H : Hp) : Prop where
  rn : RepN K F env σ
  wd : Wd K G F S H
  rx : RepX K F x cls dd
  sl : ∀ i, o = some i → σ[i]? = some (some (.ref a))
theorem SuAt.le {K : PySem.W.Frag} {G F F' : Hp} {S : Sto} {env : HEnv} {x : D} {a : Addr} {cls : Value} {dd : Option Addr} {o : Option Nat} {σ : L2.St} {H H' : Hp} (h : SuAt K G F S env x a cls dd o σ H) (l : Le F F') (w : Wd K G F' S H') : SuAt K G F' S env x a cls dd o σ H' := ⟨h.rn.le l, w, h.rx.le l, h.sl⟩
def lX (K : PySem.W.Frag) (a : Addr) (cls : Value) (dd : Option Addr) (o : Option Nat) (t : SX) : TE := fun σ H Q => ∃ G F S env x d, SuAt K G F S env x a cls dd o σ H ∧ t x env = some d ∧ ∀ v F' H', Le F F' → Wd K G F' S H' → Rep K F' d v → Q v H'
def lXs (K : PySem.W.Frag) (a : Addr) (cls : Value) (dd : Option Addr) (o : Option Nat) (t : SXs) : TA := fun σ H Q => ∃ G F S env x ds, SuAt K G F S env x a cls dd o σ H ∧ t x env = some ds ∧ ∀ vs F' H', Le F F' → Wd K G F' S H' → Reps K F' ds vs → Q vs H'
/-- an expression of the suite of a clause for the class c, whose name is at slot o -/
structure HXE (B : Bs) (c : Nat) (o : Option Nat) (e : Expr) (t : SX) : Prop where
  run : ∀ (X : Cx) (a : Addr) (oe : Obj) (dd : Option Addr) (pn : List (Addr × Obj)), OkC B X → Zc (.ref (cad B.K c)) dd oe → (∃ vs, oe.data = .fields vs) → PE (X.suite a ((a, oe) :: pn)) e (lX B.K a (.ref (cad B.K c)) dd o t)
structure HXA (B : Bs) (c : Nat) (o : Option Nat) (es : List Expr) (t : SXs) : Prop where
  run : ∀ (X : Cx) (a : Addr) (oe : Obj) (dd : Option Addr) (pn : List (Addr × Obj)), OkC B X → Zc (.ref (cad B.K c)) dd oe → (∃ vs, oe.data = .fields vs) → PA (X.suite a ((a, oe) :: pn)) es (lXs B.K a (.ref (cad B.K c)) dd o t)
section
variable {B : Bs} {c : Nat} {o : Option Nat} {e b : Expr} {es : List Expr} {t u : SX} {r : SXs} {pos p p2 : Pos}
def xC (d : D) : SX := fun _ _ => some d
def xV (j : Nat) : SX := fun _ env => match env[j]? with
  | some (some d) => some d
  | _ => none
def xF (c j : Nat) : SX := fun x _ => match x with
  | .exc c' ds => match Nat.beq c' c with
    | true => ds[j]?
    | false => none
  | _ => none
def xGt (t u : SX) : SX := fun x env => match t x env, u x env with
  | some (.int i), some (.int j) => some (.bl (decide (j < i)))
  | _, _ => none
def xNil : SXs := fun _ _ => some []
def xCons (t : SX) (r : SXs) : SXs := fun x env => match t x env with
  | some d => match r x env with
    | some ds => some (d :: ds)
    | none => none
  | none => none
theorem hxconst {d : D} {v : V} (h : ∀ X, PE X e (tC v)) (r : ∀ K F, Rep K F d v) : HXE B c o e (xC d) :=
  ⟨fun X a oe dd pn ok hz hf => PE.imp (h _) fun σ H Q ⟨G, F, S, env, x, d', su, ed, hq⟩ => by cases ed; exact hq v F H Le.rfl' su.wd (r _ _)⟩
theorem hxint {i : Int} {j : Nat} : HXE B c o (.Constant (.int i) j pos) (xC (.int i)) := hxconst (fun _ => pe_int) fun _ _ => rfl
theorem hxbl {i : Bool} {j : Nat} : HXE B c o (.Constant (.bool i) j pos) (xC (.bl i)) := hxconst (fun _ => pe_bl) fun _ _ => rfl
theorem hxnon {j : Nat} : HXE B c o (.Constant .none j pos) (xC .non) := hxconst (fun _ => pe_non) fun _ _ => rfl
theorem hxstr {z : Str} {j : Nat} : HXE B c o (.Constant (.str z) j pos) (xC (.str z)) := hxconst (fun _ => pe_str) fun _ _ => rfl
theorem hxv (j : Nat) {n : Str} (hN : B.N[j]? = some n := by rfl) (hvis : Vis B.sc n := by first | exact Or.inl rfl | exact Or.inr (Or.inl rfl) | exact Or.inr (Or.inr rfl)) (hd : (n == ("__debug__" : Str)) = false := by decide) (hcd : (n == ("__classdict__" : Str)) = false := by decide) :
    HXE B c o (.Name n pos) (xV j) :=
  ⟨fun X a oe dd pn ok hz hf => PE.imp (pe_var (X := X.suite a ((a, oe) :: pn)) (i := j) (by show X.N[j]? = _; rw [ok.eN]; exact hN) (by show Vis X.env.scope n; rw [ok.es]; exact hvis) hd hcd) fun σ H Q ⟨G, F, S, env, x, d, su, ed, hq⟩ => by
    unfold xV at ed
    split at ed
    · rename_i d' e1
      cases ed
      obtain ⟨v, h1, h2⟩ := su.rn.get j _ e1
      exact ⟨v, h1, hq v F H Le.rfl' su.wd h2⟩
    · cases ed⟩
/-- e.f -/
theorem hxf (i j : Nat) {n f : Str} (T : ExcOk B.K c) (hj : (flds c)[j]? = some f) (hN : B.N[i]? = some n := by rfl) (hvis : Vis B.sc n := by first | exact Or.inl rfl | exact Or.inr (Or.inl rfl) | exact Or.inr (Or.inr rfl)) (hd : (n == ("__debug__" : Str)) = false := by decide)
    (hcd : (n == ("__classdict__" : Str)) = false := by decide) (hb : ∀ env, attributeBase (.Name n p) f env (eval (.Name n p) env) = eval (.Name n p) env := by intro _; rfl) : HXE B c (some i) (.Attribute (.Name n p) f pos) (xF c j) :=
  ⟨fun X a oe dd pn ok hz hf => PE.imp (pe_xf (X := X) (a := a) (cls := .ref (cad B.K c)) (d := dd) (C := cad B.K c) (by rw [ok.eK]; exact T.xf) (by rw [ok.eK]; exact T.no f (List.mem_of_getElem? hj)) hz hf
      (pe_var (X := X.suite a ((a, oe) :: pn)) (i := i) (by show X.N[i]? = _; rw [ok.eN]; exact hN) (by show Vis X.env.scope n; rw [ok.es]; exact hvis) hd hcd) (hb _)) fun σ H Q ⟨G, F, S, env, x, d, su, ed, hq⟩ => by
    refine ⟨.ref a, su.sl i rfl, rfl, rfl, ?_⟩
    unfold xF at ed
    split at ed
    · rename_i c' ds
      split at ed
      · rename_i ec
        obtain rfl := Nat.eq_of_beq_eq_true ec
        obtain ⟨_, q⟩ := (show _ = _ ∧ _ from su.rx)
        rcases q with ⟨rfl, _⟩ | ⟨q, l, rfl, hF, hl⟩
        · simp at ed
        · obtain ⟨v, h1, h2⟩ := hl j f d hj ed
          exact ⟨q, l, v, rfl, su.wd.fr _ _ hF, h1, hq v F H Le.rfl' su.wd h2⟩
      · cases ed
    · cases ed⟩
theorem hxnil : HXA B c o [] xNil := ⟨fun X a oe dd pn ok hz hf => PA.imp pa_nil fun σ H Q ⟨G, F, S, env, x, ds, su, ed, hq⟩ => by cases ed; exact hq [] F H Le.rfl' su.wd rfl⟩
theorem hxcons (h : HXE B c o e t) (q : HXA B c o es r) (hs : ∀ env, starEach (e :: es) env = (false, eval e env) :: starEach es env := by intro _; rfl) : HXA B c o (e :: es) (xCons t r) :=
  ⟨fun X a oe dd pn ok hz hf => PA.imp (pa_cons (h.run X a oe dd pn ok hz hf) (q.run X a oe dd pn ok hz hf) (hs _)) fun σ H Q ⟨G, F, S, env, x, ds, su, ed, hq⟩ => by
    unfold xCons at ed
    split at ed
    · rename_i d e1
      split at ed
      · rename_i ds' e2
        cases ed
        refine ⟨G, F, S, env, x, d, su, e1, fun v F1 H1 l1 w1 r1 => ⟨G, F1, S, env, x, ds', su.le l1 w1, e2, fun vs F2 H2 l2 w2 r2 => hq (v :: vs) F2 H2 (l1.trans l2) w2 ⟨v, vs, rfl, r1.le l2, r2⟩⟩⟩
      · cases ed
    · cases ed⟩
def xTup (r : SXs) : SX := fun x env => match r x env with
  | some ds => match Nat.ble ds.length 1000 with
    | true => some (.tup ds)
    | false => none
  | none => none
theorem hxtup {k : Nat} (h : HXA B c o es r) : HXE B c o (.Tuple es k pos) (xTup r) :=
  ⟨fun X a oe dd pn ok hz hf => PE.imp (pe_tup (h.run X a oe dd pn ok hz hf)) fun σ H Q ⟨G, F, S, env, x, d, su, ed, hq⟩ => by
    unfold xTup at ed
    split at ed
    · rename_i ds e1
      split at ed
      · rename_i e2
        cases ed
        refine ⟨G, F, S, env, x, ds, su, e1, fun vs F1 H1 l1 w1 r1 => ?_⟩
        have z := le_line (Nat.le_of_ble_eq_true e2)
        refine ⟨by rw [r1.len]; exact z, fun q hq' => ?_⟩
        obtain ⟨w', l'⟩ := w1.newF (.tup vs) hq'
        exact hq _ _ _ (l1.trans l') w' ⟨q, vs, rfl, SqT.of upd_same, r1.le l', z⟩
      · cases ed
    · cases ed⟩
theorem hxgt (ha : HXE B c o e t) (hb : HXE B c o b u) : HXE B c o (.Compare e [.Gt] [b] pos) (xGt t u) :=
  ⟨fun X a oe dd pn ok hz hf => PE.imp (pe_cmpR op_gt (ha.run X a oe dd pn ok hz hf) (hb.run X a oe dd pn ok hz hf) (nomark _)) fun σ H Q ⟨G, F, S, env, x, d, su, ed, hq⟩ => by
    unfold xGt at ed
    split at ed
    · rename_i i j e1 e2
      cases ed
      exact ⟨G, F, S, env, x, _, su, e1, fun v F1 H1 l1 w1 r1 => ⟨G, F1, S, env, x, _, su.le l1 w1, e2, fun v2 F2 H2 l2 w2 r2 => ⟨i, j, r1, r2, hq _ F2 H2 (l1.trans l2) w2 rfl⟩⟩⟩
    · cases ed⟩
/-! isinstance(e, T) -/
/-- a class as isinstance is asked for it of an exception of the class c -/
structure KitA (K : PySem.W.Frag) (c : Nat) (cv : Value) (ans : Bool) : Prop where
  ok : PySem.W.kitOne K (.ref (cad K c)) cv = some ans
theorem call_isX {X : Cx} {c : Nat} {a : Addr} {oe : Obj} {d : Option Addr} {pn : List (Addr × Obj)} (C : ExcOk X.K c) (hz : Zc (.ref (cad X.K c)) d oe) (hf : ∃ vs, oe.data = .fields vs) : CallR (X.suite a ((a, oe) :: pn)) (.builtin "isinstance")
    (fun xs H Q => ∃ (y : V) (cv : Value) (b : Bool), xs = [.ref a, y] ∧ (∀ u, RelV y u → u = cv) ∧ PySem.W.kitOne X.K (.ref (cad X.K c)) cv = some b ∧ (∀ dx, d = some dx → ∃ fs, H dx = some (.xd fs)) ∧ Q (.bl b) H) := by
  intro pins s σ H xs us Q I r h
  obtain ⟨y, cv, b, rfl, hcv, e, hd, q⟩ := h
  cases r with
  | cons rx rr =>
    cases rr with
    | cons rt rr =>
      cases rr
      cases rx
      obtain rfl := hcv _ rt
      obtain ⟨hget, _⟩ := I.pin (a, oe) (List.mem_append_left _ List.mem_cons_self)
      obtain ⟨vs, hv⟩ := hf
      have J : ∃ od, PySem.W.InstAt s.heap a oe (cad X.K c) od := by
        have nc : PySem.W.notCls oe = true := by unfold PySem.W.notCls; rw [hv] <;> rfl
        cases d with
        | none => exact ⟨none, hget, hz.1, nc, by rw [hz.2]; trivial⟩
        | some dx =>
          obtain ⟨fs, hx⟩ := hd dx rfl
          have hx2 : ObjOk X.prog X.w H s.heap dx (.xd fs) := I.hok dx _ hx
          obtain ⟨mA, hns, hr⟩ := hx2
          obtain ⟨od, ho, _⟩ := lookIn_ns hns
          exact ⟨some od, hget, hz.1, nc, by rw [hz.2]; exact ho⟩
      obtain ⟨od, J⟩ := J
      exact PySem.W.kia_one (PySem.W.kitx_exc (od := od) C.cl C.xf.ga C.xf.gg C.xf.exC C.ha C.hn C.tk C.hm) I.kIn J e (fun z => nomatch z) fun tk => ⟨.bl b, H, I.kept (t' := tk) fun _ _ z => z, rfl, q⟩
theorem su_dict {K : PySem.W.Frag} {F H : Hp} {x : D} {cls : Value} {dd : Option Addr} (l : Le F H) (r : RepX K F x cls dd) : ∀ dx, dd = some dx → ∃ fs, H dx = some (.xd fs) := by
  intro dx e
  cases x <;> first | exact r.elim | skip
  obtain ⟨_, q⟩ := (show _ = _ ∧ _ from r)
  rcases q with ⟨_, h⟩ | ⟨q, fs, h, hF, _⟩
  · rw [h] at e; cases e
  · rw [h] at e; cases e
    exact ⟨fs, l _ _ hF⟩
theorem hxisi {i : Nat} {n xc : Str} {c2 : Nat} {ans : Bool} {p3 : Pos} (T : ExcOk B.K c) (kit : KitA B.K c (.ref (cad B.K c2)) ans) (gi : Gn B "isinstance") (mi : B.mg "isinstance" = none) (gn : Gn B xc) (hm : B.mg (cname c2) = some (.ref (cad B.K c2))) (hx : cname c2 = xc := by rfl) (hN : B.N[i]? = some n := by rfl)
    (hvis : Vis B.sc n := by first | exact Or.inl rfl | exact Or.inr (Or.inl rfl) | exact Or.inr (Or.inr rfl)) (hd : (n == ("__debug__" : Str)) = false := by decide) (hcd : (n == ("__classdict__" : Str)) = false := by decide) (hdb : (xc == ("__debug__" : Str)) = false := by decide)
    (he : ∀ env, starEach [.Name n p2, .Name xc p] env = (false, eval (.Name n p2) env) :: starEach [.Name xc p] env := by intro _; rfl) (hs : ∀ env, starEach [Expr.Name xc p] env = (false, eval (.Name xc p) env) :: starEach [] env := by intro _; rfl) (hpl : ∀ env, (backTo pos (starEach [Expr.Name xc p] env)).any (·.1) = false := by intro _; rfl) :
    HXE B c (some i) (.Call (.Name "isinstance" p3) [.Name n p2, .Name xc p] [] pos) (xC (.bl ans)) := by
  subst hx
  exact ⟨fun X a oe dd pn ok hz hf => PE.imp (pe_callB (X := X.suite a ((a, oe) :: pn)) (call_isX (X := X) (c := c) (d := dd) (by rw [ok.eK]; exact T) (by rw [ok.eK]; exact hz) hf) (ok.gl gi) (by show X.mg _ = _; rw [ok.em]; exact mi) (by decide +kernel)
    (pa_cons (pe_var (X := X.suite a ((a, oe) :: pn)) (i := i) (by show X.N[i]? = _; rw [ok.eN]; exact hN) (by show Vis X.env.scope n; rw [ok.es]; exact hvis) hd hcd)
      (pa_cons (pe_glob (X := X.suite a ((a, oe) :: pn)) (v := .ref (cad B.K c2)) (ok.gl gn) (by show X.mg _ = _; rw [ok.em]; exact hm) rfl hdb) pa_nil (hs _)) (he _)) (by decide) (by decide) (he _) (hpl _)) fun σ H Q ⟨G, F, S, env, x, d, su, ed, hq⟩ => by
      cases ed
      exact ⟨.ref a, su.sl i rfl, .ref (cad B.K c2), .ref (cad B.K c2), ans, rfl, fun u r => r, by rw [ok.eK]; exact kit.ok, su_dict su.wd.fr su.rx, hq _ F H Le.rfl' su.wd rfl⟩⟩
end
end Hy

set_option Elab.async false
set_option linter.all false
set_option maxRecDepth 100000
set_option maxHeartbeats 4000000
set_option autoImplicit false
namespace Hy
open PySem PySem.Spec PyProof.Rows L2
/-! ### the suite of a clause: one store -/
def lU (K : PySem.W.Frag) (a : Addr) (cls : Value) (dd : Option Addr) (o : Option Nat) (t : D → HTS) : TS := fun D σ H => ∃ G F S env E x, SuAt K G F S env x a cls dd o σ H ∧ t x E env S ∧ OkN K G F E.nx D.nx
structure HSU (B : Bs) (c : Nat) (o : Option Nat) (su : List Stmt) (t : D → HTS) : Prop where
  run : ∀ (X : Cx) (a : Addr) (oe : Obj) (dd : Option Addr) (pn : List (Addr × Obj)), OkC B X → Zc (.ref (cad B.K c)) dd oe → (∃ vs, oe.data = .fields vs) → PSs (X.suite a ((a, oe) :: pn)) su (lU B.K a (.ref (cad B.K c)) dd o t)
def uSet (j : Nat) (t : SX) : D → HTS := fun x D env S => match t x env with
  | some d => D.nx (env.set j (some d)) S
  | none => False
section
variable {B : Bs} {c : Nat} {o : Option Nat} {e : Expr} {t : SX} {n : Str} {pos p : Pos}
theorem huset (j : Nat) (h : HXE B c o e t) (hN : B.N[j]? = some n := by rfl) (hl : B.sc.names.lookup n = some .local := by rfl) (hs : ∀ env, swapsWith e (some (.Name n p)) pos.line env = pure false := by intro _; rfl) : HSU B c o [.Assign [.Name n p] e pos] (uSet j t) :=
  ⟨fun X a oe dd pn ok hz hf => PSs.imp (pss_one (ps_set (X := X.suite a ((a, oe) :: pn)) (i := j) ok.nd (by show X.N[j]? = _; rw [ok.eN]; exact hN) (by show Loc X.env.scope n; rw [ok.es]; exact .inl hl) (h.run X a oe dd pn ok hz hf) (hs _) (by show _ ∨ X.env.scope.names.lookup n = _; rw [ok.es]; exact .inr hl)))
    fun D σ H ⟨G, F, S, env, E, x, su, q, o⟩ => by
      unfold uSet at q
      split at q
      · rename_i d ed
        exact ⟨G, F, S, env, x, d, su, ed, fun v F1 H1 l1 w1 r1 => o _ _ F1 S H1 l1 w1 ((su.rn.le l1).set r1 j) q⟩
      · exact q.elim⟩
end
/-! ### try -/
abbrev ClH := Nat × Option Nat × (D → HTS)
abbrev goneE (E : HEnds) (i : Nat) : HEnds := { E with nx := fun env S => E.nx (env.set i none) S }
def hClauses (cs : List Nat) : List ClH → D → HEnds → HEnv → Sto → Prop
  | [], x, E, env, S => E.ex x env S
  | (c, o, t) :: r, x, E, env, S => match x with
    | .exc c' _ => match memN c' cs with
      | true => match Nat.beq c' c with
        | true => match o with
          | none => t x E env S
          | some i => match Nat.blt i env.length with
            | true => t x (goneE E i) (env.set i none) S
            | false => False
        | false => hClauses cs r x E env S
      | false => False
    | _ => False
def hTry (cs : List Nat) (tb : HTS) (l : List ClH) : HTS := fun E env S => tb { E with ex := fun x env1 S1 => hClauses cs l x E env1 S1 } env S
/-- which of the text's exceptions a clause for c takes -/
structure ExmC (K : PySem.W.Frag) (c : Nat) (cs : List Nat) : Prop where
  ok : ∀ c' ∈ cs, PySem.W.exmOne K (.ref (cad K c')) (.ref (cad K c)) = some (Nat.beq c' c)
inductive HCls (B : Bs) (cs : List Nat) : List ExceptHandler → List ClH → Prop
  | nil : HCls B cs [] []
  | bare {x : Str} {c : Nat} {t : D → HTS} {b0 : Stmt} {su : List Stmt} {np p : Pos} {hs : List ExceptHandler} {l : List ClH} (gn : Gn B x) (hm : B.mg (cname c) = some (.ref (cad B.K c))) (hx : cname c = x) (hdb : (x == ("__debug__" : Str)) = false) (ex : ExmC B.K c cs) (ok : HSU B c none (b0 :: su) t) (r : HCls B cs hs l) :
      HCls B cs (.ExceptHandler (some (.Name x np)) none (b0 :: su) p :: hs) ((c, none, t) :: l)
  | as_ {x n : Str} {i : Nat} {c : Nat} {t : D → HTS} {b0 : Stmt} {su : List Stmt} {np p : Pos} {hs : List ExceptHandler} {l : List ClH} (gn : Gn B x) (hm : B.mg (cname c) = some (.ref (cad B.K c))) (hx : cname c = x) (hdb : (x == ("__debug__" : Str)) = false) (ex : ExmC B.K c cs) (hi : B.N[i]? = some n) (hl : B.sc.names.lookup n = some .local) (ok : HSU B c (some i) (b0 :: su) t) (r : HCls B cs hs l) :
      HCls B cs (.ExceptHandler (some (.Name x np)) (some n) (b0 :: su) p :: hs) ((c, some i, t) :: l)
theorem OkC.tr {B : Bs} {X : Cx} (ok : OkC B X) (pn : List (Addr × Obj)) (xe : Value → Shared → Prop) (own : PassesOwn (model X.prog X.w) X.A X.env xe) : OkC B (X.tr pn xe) := ⟨ok.eP, ok.ew, ok.eK, ok.em, ok.eb, ok.eN, ok.es, ok.nd, ok.calm, ok.room, ok.fn, own, ok.stk⟩
/-- the clauses, as the rule for try wants them -/
def clX (B : Bs) : List ClH → List ClX
  | [] => []
  | (c, o, t) :: r => (.ref (cad B.K c), o, fun a cls dd D σ H => cls = .ref (cad B.K c) ∧ lU B.K a (.ref (cad B.K c)) dd o t D σ H) :: clX B r
theorem HCls.hds {B : Bs} {X : Cx} {cs : List Nat} (ok : OkC B X) {hs : List ExceptHandler} {l : List ClH} (h : HCls B cs hs l) : HdsX X hs (clX B l) := by
  induction h with
  | nil => exact .nil
  | @bare x c t b0 su np p hs l gn hm hx hdb ex hsu r ih =>
    refine .bare ⟨ok.gl gn, hdb, .inl (by rw [ok.em, ← hx]; exact hm)⟩ (fun a oe cls d pn hz hf => ⟨fun pins s σ H D I ⟨e, q⟩ => ?_⟩) ih
    subst e
    exact (hsu.run X a oe d pn ok hz hf).run pins s σ H D I q
  | @as_ x n i c t b0 su np p hs l gn hm hx hdb ex hi hl hsu r ih =>
    refine .as_ ⟨ok.gl gn, hdb, .inl (by rw [ok.em, ← hx]; exact hm)⟩ (by rw [ok.eN]; exact hi) (by show X.env.scope.names.lookup n = _; rw [ok.es]; exact hl) (fun a oe cls d pn hz hf => ⟨fun pins s σ H D I ⟨e, q⟩ => ?_⟩) ih
    subst e
    exact (hsu.run X a oe d pn ok hz hf).run pins s σ H D I q
theorem RepN.hide {K : PySem.W.Frag} {F : Hp} {env : HEnv} {σ : L2.St} (r : RepN K F env σ) (i : Nat) (v : Option V) : RepN K F (env.set i none) (σ.set i v) :=
  ⟨by simp [r.len], fun j d e => by
    by_cases hj : j = i
    · subst hj
      have hl : j < env.length := by
        rcases Nat.lt_or_ge j env.length with z | z
        · exact z
        · rw [List.getElem?_eq_none (by simpa using z)] at e; cases e
      rw [List.getElem?_set_self hl] at e
      cases e
    · rw [List.getElem?_set_ne (Ne.symm hj)] at e ⊢
      exact r.get j d e⟩
theorem clauses_ok {B : Bs} {cs : List Nat} {Wo : WX} {G F : Hp} {E : HEnds} {De : Ends} (o : OkS B.K G F E De Wo) {hs : List ExceptHandler} {l : List ClH} (hh : HCls B cs hs l) : ∀ {x : D} {cls : Value} {dd : Option Addr} {env : HEnv} {σ : L2.St} {F' : Hp} {S' : Sto} {H' : Hp}, Le F F' → Wd B.K G F' S' H' → RepN B.K F' env σ → RepX B.K F' x cls dd → hClauses cs l x E env S' → wMix B.K Wo De (clX B l) cls dd σ H' := by
  induction hh with
  | nil => exact fun l w rn rx q => o.ex _ _ _ _ _ _ _ _ l w rn rx q
  | @bare xn c t b0 su np p hs l gn hm hx hdb ex hsu r ih =>
    intro x cls dd env σ F' S' H' le w rn rx q
    cases x <;> first | exact rx.elim | skip
    rename_i c' ds
    obtain ⟨ec, rx2⟩ := (show _ = _ ∧ _ from rx)
    subst ec
    unfold hClauses at q
    dsimp only at q
    split at q
    · rename_i em
      refine ⟨_, ex.ok c' (memN_ok em), fun eb a ha => ?_, fun eb => ?_⟩
      · obtain rfl := Nat.eq_of_beq_eq_true eb
        rw [eb] at q
        exact ⟨rfl, G, F', S', env, E, _, ⟨rn, w, rx, fun i e => by cases e⟩, q, fun env1 σ1 F1 S1 H1 l1 w1 rn1 q1 => o.nx env1 σ1 F1 S1 H1 (le.trans l1) w1 rn1 q1⟩
      · rw [eb] at q
        exact ih le w rn rx q
    · exact q.elim
  | @as_ xn n i c t b0 su np p hs l gn hm hx hdb ex hi hl hsu r ih =>
    intro x cls dd env σ F' S' H' le w rn rx q
    cases x <;> first | exact rx.elim | skip
    rename_i c' ds
    obtain ⟨ec, rx2⟩ := (show _ = _ ∧ _ from rx)
    subst ec
    unfold hClauses at q
    dsimp only at q
    split at q
    · rename_i em
      refine ⟨_, ex.ok c' (memN_ok em), fun eb a ha => ?_, fun eb => ?_⟩
      · obtain rfl := Nat.eq_of_beq_eq_true eb
        rw [eb] at q
        dsimp only at q
        split at q <;> first | exact q.elim | skip
        rename_i el
        refine ⟨rfl, G, F', S', env.set i none, goneE E i, _, ⟨rn.hide i _, w, rx, fun j e => ?_⟩, q, fun env1 σ1 F1 S1 H1 l1 w1 rn1 q1 => o.nx _ _ F1 S1 H1 (le.trans l1) w1 (rn1.unset i) q1⟩
        cases e
        exact List.getElem?_set_self (by rw [← rn.len]; exact blt_lt el)
      · rw [eb] at q
        exact ih le w rn rx q
    · exact q.elim
section
variable {B : Bs} {body : List Stmt} {h0 : ExceptHandler} {hds : List ExceptHandler} {pos : Pos} {tb : HTS} {l : List ClH} {cs : List Nat}
theorem htry (ht : B.top = true) (hb : HSs B body tb) (hh : HCls B cs (h0 :: hds) l) : HS B (.Try body (h0 :: hds) [] [] pos) (hTry cs tb l) :=
  ⟨fun X W ok tk => by
    obtain ⟨s1, s2, s3⟩ := ok.stk ht
    refine PS.imp (ps_try_mix (Wo := W) (tb := fun W => lS B.K W tb) s1 s2 ok.nd tk (fun W pn xe tk' own => hb.run _ W (ok.tr pn xe own) tk') (hh.hds ok)) fun D σ H ⟨G, F, S, env, E, rn, wd, h, o⟩ => ?_
    rw [ok.eK]
    exact ⟨G, F, S, env, _, rn, wd, h, ⟨o.nx, o.rt, o.bk, o.ct, fun x cls dd env1 σ1 F1 S1 H1 l1 w1 rn1 rx q => clauses_ok o hh l1 w1 rn1 rx q⟩⟩⟩
end
end Hy

set_option Elab.async false
set_option linter.all false
set_option maxRecDepth 100000
set_option maxHeartbeats 4000000
set_option autoImplicit false
/-! ### enumerate of a tuple -/
namespace PySem
set_option maxHeartbeats 1000000 in
theorem hyEnum1 {v : Value} {o : Obj} {H : Heap → Prop} (B : Begins v o H) :
    Meets (Builtin.«enumerate.__new__» ⟨[.type "enumerate", v], []⟩) (fun _ R s => H s.heap ∧
      R (.ok (.ret (.ref (s.heap.push o).objs.size))) { s with heap := (s.heap.push o).push { cls := .type "enumerate", data := .fields #[.none, .bool false, .ref s.heap.objs.size, rawInt 0, .none, .none] } }) :=
  .of_wp fun prog w A R s h => by
    obtain ⟨hp, g, d, tk, os⟩ := s; obtain ⟨h1, h⟩ := h
    have hs := sub_enumerate
    have it : ∀ {A' : Around} {E : Value → Shared → Prop} {Q : Value → Shared → Prop}, Q (.ref hp.objs.size) ⟨hp.push o, g, d, tk, os⟩ → wpAny (model prog w) A' (pyIter v) Q E ⟨hp, g, d, tk, os⟩ := fun q => B.iter prog w _ _ ⟨hp, g, d, tk, os⟩ _ h1 q
    wp_walk using it
    refine wpAny_stack_any fun st => wpAny_pure ?_
    split
    · rename_i c _ _ _ _ _
      cases (c == Value.type "enumerate")
      · wp_walk using it
        exact ⟨_, rfl, h⟩
      · wp_walk using it
        exact ⟨_, rfl, h⟩
    · wp_walk using it
      exact ⟨_, rfl, h⟩
theorem hyEnum {prog : Program} {w : World} {A : Around} {E : Value → Shared → Prop} {s : Shared} {v : Value} {o : Obj} {H : Heap → Prop} {Q : Value → Shared → Prop} (B : Begins v o H) (h1 : H s.heap)
    (h : ∀ h', IsEnum h' (s.heap.objs.size + 1) s.heap.objs.size 0 .none → h'.get? s.heap.objs.size = some o → (∀ b o, s.heap.get? b = some o → h'.get? b = some o) → Q (.ref (s.heap.objs.size + 1)) { s with heap := h' }) :
    wpAny (model prog w) A (call (.type "enumerate") [v]) Q E s := by
  refine callType_new F.called_enumerate (by decide) (F.typeCall_enumerate_1 _) (F.newCall_enumerate_1 _) (fun obj => F.args_object_init_2 obj _) F.entry_enumerate_new (hyEnum1 B) ⟨h1, ?_⟩
  have hz : (s.heap.push o).objs.size = s.heap.objs.size + 1 := Heap.size_push ..
  show _ ∧ _
  rw [hz]
  have he : IsEnum ((s.heap.push o).push { cls := .type "enumerate", data := .fields #[.none, .bool false, .ref s.heap.objs.size, rawInt 0, .none, .none] }) (s.heap.objs.size + 1) s.heap.objs.size 0 .none := by
    have := Heap.get?_push_size (s.heap.push o) (o := { cls := .type "enumerate", data := .fields #[.none, .bool false, .ref s.heap.objs.size, rawInt 0, .none, .none] }) rfl
    rw [hz] at this
    exact this
  exact ⟨⟨_, he, rfl⟩, h _ he (Heap.get?_push_of_some _ (Heap.get?_push_size _ B.free)) fun b o x => Heap.get?_push_of_some _ (Heap.get?_push_of_some _ x)⟩
end PySem
namespace Hy
open PySem PySem.Spec PyProof.Rows L2
def Itu (K : PySem.W.Frag) (a : Addr) : It :=
  ⟨fun i H => ∃ (xs : List V) (x : V), SqT K H a xs ∧ xs[i]? = some x, fun i H v H' => ∃ T x, v = .ref T ∧ H T = none ∧ H' = upd H T (.tup [.int (i : Nat), x]) ∧ ∀ xs, SqT K H a xs → xs[i]? = some x, fun i H => ∃ xs : List V, SqT K H a xs ∧ xs.length ≤ i⟩
theorem turn_enumT {P : Program} {w : World} {K : PySem.W.Frag} {elts : List Expr} {kk : Nat} {tpos : Pos} (a e it : Addr) :
    Turn P w K (.Tuple elts kk tpos) (Itu K a) [e, it] e (fun i h => (∃ old, IsEnum h e it ((i : Nat) : Int) old) ∧ h.IsTupleIter it a i ∧ e ≠ it) where
  mem := by simp
  obj := fun i h st b hb => by
    obtain ⟨⟨old, he⟩, ⟨o, ho, hc, hd⟩, _⟩ := st
    have hb2 : b = e ∨ b = it := by simpa using hb
    rcases hb2 with rfl | rfl
    · exact ⟨_, he, fun v q => nomatch q⟩
    · exact ⟨o, ho, fun v q => by rw [hd] at q; cases q⟩
  keep := fun i h h' st k => let ⟨⟨old, he⟩, hi, hne⟩ := st; ⟨⟨old, k e (by simp) _ he⟩, hi.at fun o q => k it (by simp) o q, hne⟩
  item := by
    intro X hP hw hK hc i pins s σ H E I hf st hg
    subst hP hw hK
    obtain ⟨⟨old, he⟩, hit, hne⟩ := st
    obtain ⟨xs, x, hq, hx⟩ := hg
    obtain ⟨its, rv, p, hz⟩ := I.tuple hq
    obtain ⟨u, hu, ru⟩ := rv.get hx
    have hel : e < s.heap.objs.size := Heap.lt_size he
    have hil : it < s.heap.objs.size := by obtain ⟨_, q, _⟩ := hit; exact Heap.lt_size q
    have pt : s.heap.IsTuple a its.toArray := p
    have nea : a ≠ e := fun z => by
      subst z
      obtain ⟨o1, q1, q2, _⟩ := pt
      rw [he] at q1
      cases q1
      exact absurd (Value.type.inj q2) (by decide)
    have net : a ≠ it := fun z => by
      subst z
      obtain ⟨o1, q1, q2, _⟩ := pt
      obtain ⟨o2, q3, q4, _⟩ := hit
      rw [q1] at q3
      cases q3
      rw [q2] at q4
      exact absurd (Value.type.inj q4) (by decide)
    have hlt : i < its.toArray.size := by
      have := (List.getElem?_eq_some_iff.mp hu).1
      simpa using this
    refine wpAny_pyNext_enum_itemC (Draws.tuple (prog := X.prog) (w := X.w) (A := X.A.in1) (I.ok.hd hc) it a net its.toArray) he ⟨hit, pt⟩ hlt hne (by simp [hne, Ne.symm nea]) fun y h' tk hy ho hst' hT hsz hk => ?_
    have hyu : y = u := by
      have e1 : its.toArray[i]? = some u := by simpa using hu
      rw [e1] at hy
      exact (Option.some.inj hy).symm
    subst hyu
    refine ⟨_, rfl, wpAny_letOwnedTupleGo_enum (s := { s with heap := h', toks := tk + 1 }) ho fun h'' he' sb => ?_⟩
    have hT2 : h''.get? s.heap.objs.size = some { cls := .type "tuple", data := .seq #[.int i tk, y] } := (sb.2 _ (Nat.ne_of_gt hel)).trans hT
    have new : ObjOk X.prog X.w (upd H s.heap.objs.size (.tup [.int (i : Nat), x])) h'' s.heap.objs.size (.tup [.int (i : Nat), x]) :=
      ⟨by show 2 ≤ sizeLine; decide, [.int i tk, y], .cons ⟨_, rfl⟩ (.cons ru .nil), ⟨_, hT2, rfl, _, rfl⟩⟩
    have I1 : L2.Inv X pins σ (upd H s.heap.objs.size (.tup [.int (i : Nat), x])) { s with heap := h'', toks := tk + 1 } :=
      I.turnedNew (ch := [e, it]) (fun b ob hb q => (sb.2 b (fun z => hb (by simp [z]))).trans (hk b ob (fun z => hb (by simp [z])) (fun z => hb (by simp [z])) q)) hf (Nat.le_refl _) new
    refine ⟨.ref s.heap.objs.size, _, I1, rfl, ⟨_, x, rfl, I.hok.fresh (Nat.le_refl _), rfl, fun ys hy => by rw [I.tuple_inj hy hq]; exact hx⟩, ⟨⟨y, ?_⟩, hst'.1.at fun o q => (sb.2 it (Ne.symm hne)).trans q, hne⟩, fun b hb => ?_⟩
    · rw [show ((i + 1 : Nat) : Int) = (i : Int) + 1 by omega]
      exact he'
    · have hb' : b < s.heap.objs.size := by
        have hb2 : b = e ∨ b = it := by simpa using hb
        rcases hb2 with rfl | rfl
        · exact hel
        · exact hil
      rw [upd_ne (Nat.ne_of_lt hb')]
      exact (hf b hb).1
  done := by
    intro X hP hw hK hc i pins s σ H E I hf st hg
    subst hP hw hK
    obtain ⟨⟨old, he⟩, hit, hne⟩ := st
    obtain ⟨xs, hq, hx⟩ := hg
    obtain ⟨its, rv, p, hz⟩ := I.tuple hq
    obtain ⟨f0, f1, f2, f3, f4, f5⟩ := hf it (by simp)
    have pt : s.heap.IsTuple a its.toArray := p
    have hT : s.TypeIs (.ref e) "enumerate" := ⟨_, he, rfl⟩
    have hl := rv.length
    unfold pyNext
    refine wpAny_bind (wpAny_attempt (wpAny_callSpecial?_slot (name := Str.ofString "__next__") hT F.slot_enumerate_next (wpAny_call_entry F.slot_enumerate_next hT F.entry_enumerate_next ?_ (F.args_enumerate_next_1 _))))
    show wpAny _ _ (field (.ref e) 2 >>= _) _ _ _
    refine wpAny_bind (wpAny_field he rfl (x := .ref it) rfl ?_)
    refine wpAny_bind (wpAny_nextOf_tuple_end (I.ok.hd hc) hit pt (by simp; omega) fun h' x he' hx' => ?_)
    obtain ⟨o, ho, hc'⟩ := hx'
    refine wpAny_bind (wpAny_isInstance (T := "StopIteration") (b := true) ⟨o, ho, hc'⟩ isSubtype_stop ?_)
    exact wpAny_pure ⟨rfl, I.turned (t' := s.toks) (fun b o hb q => he' b o hb q) f0 f1 f3 f4 f5⟩
  self := fun A i s Q E st h => let ⟨⟨_, he⟩, _⟩ := st; wpAny_pyIter_enum he h
end Hy

set_option Elab.async false
set_option linter.all false
set_option maxRecDepth 100000
set_option maxHeartbeats 4000000
set_option autoImplicit false
namespace Hy
open PySem PySem.Spec PyProof.Rows L2
/-! ### enumerate -/
abbrev iEnumG (K : PySem.W.Frag) (ta : TA) : TI := fun σ H R => ta σ H fun vs H1 => ∃ a xs, vs = [.ref a] ∧ ((SqL K H1 a xs ∧ R (Ite K a) H1) ∨ (SqT K H1 a xs ∧ R (Itu K a) H1))
theorem pi_enumG {X : Cx} {e : Expr} {ta : TA} {p pos tpos : Pos} {elts : List Expr} {kk : Nat} (hg : Gl X "enumerate") (hm : X.mg "enumerate" = none) (ha : PA X [e] ta) (hs : starEach [e] X.env = [(false, eval e X.env)]) :
    PI X (.Tuple elts kk tpos) (.Call (.Name "enumerate" p) [e] [] pos) (iEnumG X.K ta) := by
  refine ⟨fun pins s σ H R I h => Call_ (ld_blt I hg hm boot_enumerate (PyProof.Rows.callWith_type1 (thn (ha.run pos pins s σ H _ I h) fun us s1 ⟨vs, H1, I1, r1, a, xs, ex, q⟩ => ?_) hs rfl))⟩
  subst ex
  cases r1 with
  | cons r rr =>
    cases rr
    cases r
    have big : ∀ b, b = s1.heap.objs.size + 1 ∨ b = s1.heap.objs.size → s1.heap.objs.size ≤ b := fun b z => by
      rcases z with z | z
      · rw [z]; exact Nat.le_add_right _ _
      · rw [z]; exact Nat.le_refl _
    rcases q with ⟨hq, q⟩ | ⟨hq, q⟩
    · obtain ⟨its, rv, p', hz⟩ := I1.list hq
      refine call_enumerate_list p'.isList fun h' he hit hsz hk => wpAny_pyIter_enum he ?_
      refine ⟨s1.heap.objs.size + 1, [s1.heap.objs.size + 1, s1.heap.objs.size], _, _, H1, rfl, I1.kept (t' := s1.toks) hk, turn_enum a (s1.heap.objs.size + 1) s1.heap.objs.size, ⟨⟨.none, he⟩, hit, Nat.succ_ne_self _⟩, fun b hb => ?_, q⟩
      have hle := big b (by simpa using hb)
      exact I1.fpOk hle (I1.hok.fresh hle)
    · obtain ⟨its, rv, p', hz⟩ := I1.tuple hq
      have pt : s1.heap.IsTuple a its.toArray := p'
      refine hyEnum (begins_tuple a its.toArray) pt fun h' he hit hk => wpAny_pyIter_enum he ?_
      refine ⟨s1.heap.objs.size + 1, [s1.heap.objs.size + 1, s1.heap.objs.size], _, _, H1, rfl, I1.kept (t' := s1.toks) hk, turn_enumT a (s1.heap.objs.size + 1) s1.heap.objs.size, ⟨⟨.none, he⟩, ⟨_, hit, rfl, rfl⟩, Nat.succ_ne_self _⟩, fun b hb => ?_, q⟩
      have hle := big b (by simpa using hb)
      exact I1.fpOk hle (I1.hok.fresh hle)
/-- the pairs of a row's numbers and items -/
def enumD : Nat → List D → List D
  | _, [] => []
  | i, d :: ds => .tup [.int (i : Nat), d] :: enumD (i + 1) ds
theorem enumD_len : ∀ (i : Nat) (ds : List D), (enumD i ds).length = ds.length
  | _, [] => rfl
  | i, d :: ds => by show (enumD (i + 1) ds).length + 1 = _; rw [enumD_len (i + 1) ds] <;> rfl
theorem enumD_at : ∀ (k : Nat) (ds : List D) (i : Nat) (d : D), ds[i]? = some d → (enumD k ds)[i]? = some (.tup [.int ((k + i : Nat)), d])
  | _, [], _, _, h => by simp at h
  | k, d' :: ds, 0, d, h => by simp at h; subst h; rfl
  | k, d' :: ds, i + 1, d, h => by
    have := enumD_at (k + 1) ds i d (by simpa using h)
    rw [show k + 1 + i = k + (i + 1) by omega] at this
    simpa [enumD] using this
theorem new_pair {K : PySem.W.Frag} {G F : Hp} {S : Sto} {H : Hp} {T : Addr} {i : Nat} {d : D} {v : V} (w : Wd K G F S H) (hT : H T = none) (r : Rep K F d v) : ∃ F2, Le F F2 ∧ Wd K G F2 S (upd H T (.tup [.int (i : Nat), v])) ∧ Rep K F2 (.tup [.int (i : Nat), d]) (.ref T) := by
  obtain ⟨w', l'⟩ := w.newF (.tup [.int (i : Nat), v]) hT
  exact ⟨_, l', w', T, _, rfl, SqT.of upd_same, ⟨_, _, rfl, rfl, Reps.one (r.le l')⟩, by show 2 ≤ sizeLine; decide⟩
theorem iter_eL {K : PySem.W.Frag} {G F : Hp} {a : Addr} {ds : List D} {k : Ck} (z : ds.length ≤ sizeLine)
    (st : ∀ G1 F1 S1 H, Le G G1 → Le F F1 → Wd K G1 F1 S1 H → chk k S1 True → ∃ us, SqL K H a us ∧ Reps K F1 ds us) : IterOk K G F (enumD 0 ds) k (Ite K a) := by
  refine ⟨⟨fun i H hi ⟨F1, S1, l, w, c⟩ => ?_, fun H ⟨F1, S1, l, w, c⟩ => ?_, fun i H x H' hi _ y G1 F1 S1 lg l w c => ?_⟩, by rw [enumD_len]; exact z⟩
  · rw [enumD_len] at hi
    obtain ⟨us, h1, h2⟩ := st G F1 S1 H Le.rfl' l w c
    obtain ⟨v, h3, _⟩ := h2.at (i := i) (d := ds[i]) (by simp [hi])
    exact ⟨us, v, h1, h3⟩
  · obtain ⟨us, h1, h2⟩ := st G F1 S1 H Le.rfl' l w c
    exact ⟨us, h1, by rw [h2.len, enumD_len]; exact Nat.le_refl _⟩
  · obtain ⟨us, h1, h2⟩ := st G1 F1 S1 H lg l w c
    obtain ⟨T, v, rfl, hT, rfl, y⟩ := y
    obtain ⟨d, h3, h4⟩ := h2.at' (y us h1)
    obtain ⟨F2, l2, w2, r2⟩ := new_pair (i := i) w hT h4
    exact ⟨_, F2, by rw [enumD_at 0 ds i d h3, Nat.zero_add], l2, w2, r2⟩
theorem iter_eT {K : PySem.W.Frag} {G F : Hp} {a : Addr} {ds : List D} {vs : List V} {k : Ck} (hs : SqT K F a vs) (rs : Reps K F ds vs) (z : ds.length ≤ sizeLine) : IterOk K G F (enumD 0 ds) k (Itu K a) := by
  refine ⟨⟨fun i H hi ⟨F1, S1, l, w, c⟩ => ?_, fun H ⟨F1, S1, l, w, c⟩ => ?_, fun i H x H' hi _ y G1 F1 S1 lg l w c => ?_⟩, by rw [enumD_len]; exact z⟩
  · rw [enumD_len] at hi
    obtain ⟨v, h3, _⟩ := rs.at (i := i) (d := ds[i]) (by simp [hi])
    exact ⟨vs, v, SqT.le (l.trans w.fr) hs, h3⟩
  · exact ⟨vs, SqT.le (l.trans w.fr) hs, by rw [rs.len, enumD_len]; exact Nat.le_refl _⟩
  · obtain ⟨T, v, rfl, hT, rfl, y⟩ := y
    obtain ⟨d, h3, h4⟩ := rs.at' (y vs (SqT.le (l.trans w.fr) hs))
    obtain ⟨F2, l2, w2, r2⟩ := new_pair (i := i) w hT (h4.le l)
    exact ⟨_, F2, by rw [enumD_at 0 ds i d h3, Nat.zero_add], l2, w2, r2⟩
def hiEnum (t : HTA) : HTI := fun env S R E => t env S (fun ds S1 => match ds with
  | [x] => match items S1 x with
    | some xs => R (enumD 0 xs) (ckOf x xs) S1
    | none => False
  | _ => False) E
section
variable {B : Bs} {e : Expr} {tr : HTA} {p pos tpos : Pos} {elts : List Expr} {kk : Nat}
theorem hienum (gn : Gn B "enumerate") (hm : B.mg "enumerate" = none) (ha : HA B [e] tr) (hs : ∀ env, starEach [e] env = [(false, eval e env)] := by intro _; rfl) : HI B (.Tuple elts kk tpos) (.Call (.Name "enumerate" p) [e] [] pos) (hiEnum tr) :=
  ⟨fun X W ok tk => PI.imp (pi_enumG (ok.gl gn) (by rw [ok.em]; exact hm) (ha.run X W ok tk) (hs _)) fun σ H R ⟨G, F, S, env, R0, E0, rn, wd, h, hr, he⟩ =>
    ⟨G, F, S, env, _, E0, rn, wd, h, fun ds vs F1 S1 H1 l1 w1 r1 h1 => by
      dsimp only at h1
      split at h1
      · rename_i x
        obtain ⟨v, rfl, r⟩ := r1.one_inv
        split at h1
        · rename_i xs ed
          rw [ok.eK]
          cases x with
          | tup es =>
            cases ed
            obtain ⟨a, us, rfl, hs, rs, z⟩ := r
            exact ⟨a, us, rfl, .inr ⟨SqT.le w1.fr hs, hr _ _ F1 S1 H1 _ l1 w1 (iter_eT hs rs z) h1⟩⟩
          | lst es =>
            cases ed
            obtain ⟨a, us, rfl, hs, rs, z⟩ := r
            exact ⟨a, us, rfl, .inl ⟨SqL.of (w1.fr _ _ hs), hr _ _ F1 S1 H1 _ l1 w1 (iter_eL z fun G2 F2 S2 H2 lg l2 w2 _ => ⟨us, SqL.of (w2.fr _ _ (l2 _ _ hs)), rs.le l2⟩) h1⟩⟩
          | rls es =>
            cases ed
            obtain ⟨a, us, rfl, hs, rs, z⟩ := r
            exact ⟨a, us, rfl, .inl ⟨SqL.le w1.fr hs, hr _ _ F1 S1 H1 _ l1 w1 (iter_eL z fun G2 F2 S2 H2 lg l2 w2 _ => ⟨us, SqL.le (l2.trans w2.fr) hs, rs.le l2⟩) h1⟩⟩
          | ref q =>
            obtain rfl : v = .ref q := r
            simp only [items] at ed
            split at ed
            · rename_i es eq
              cases ed
              obtain ⟨us, g1, g2, g3⟩ := lstAt w1 eq
              exact ⟨q, us, rfl, .inl ⟨SqL.of g1, hr _ _ F1 S1 H1 _ l1 w1 (iter_eL g3 fun G2 F2 S2 H2 lg l2 w2 c => by
                obtain ⟨us, k1, k2, _⟩ := lstAt w2 c.1
                exact ⟨us, SqL.of k1, k2⟩) h1⟩⟩
            · cases ed
          | _ => cases ed
        · exact h1.elim
      · exact h1.elim, he⟩⟩
end
/-! ### own in, own [] -/
structure HInOwn (B : Bs) (k c : Nat) (sp : HSp) : Prop where
  ex : ∃ f, PySem.W.findIn B.K (.ref (cad B.K c)) "__contains__" = some (some (.ref f)) ∧ PySem.W.isFn B.K (.ref f) = true ∧ FnAt B k f 2 [] sp
  cl : Cls B.K (cad B.K c)
theorem HInOwn.in_ {B : Bs} {k k' c : Nat} {N : List Str} {sc : Scope} {top : Bool} {own : Str → Bool} {sp : HSp} (h : HInOwn B k c sp) : HInOwn ⟨B.P, B.w, B.K, B.mg, B.base, k', N, sc, top, own⟩ k c sp := ⟨let ⟨f, a, b, d⟩ := h.ex; ⟨f, a, b, ⟨d.ex⟩⟩, h.cl⟩
theorem HInOwn.mono {B : Bs} {j k c : Nat} {sp : HSp} (h : HInOwn B j c sp) (l : j ≤ k) : HInOwn B k c sp := ⟨let ⟨f, a, b, d⟩ := h.ex; ⟨f, a, b, d.mono l⟩, h.cl⟩
def hInO (c : Nat) (sp : HSp) (neg : Bool) (ta to : HTE) : HTE := fun env S Q E => ta env S (fun y S1 => to env S1 (fun x S2 => match isC c S2 x with
  | true => sp [x, y] S2 (fun r S3 => match r with
    | .bl b => Q (.bl (ng neg b)) S3
    | _ => False) (fun _ _ => False)
  | false => False) E) E
def rInO (K : PySem.W.Frag) (c : Nat) (neg : Bool) (sp : HSp) : R2 := fun y x H Q => ∃ G F S d1 d2 Q0, Wd K G F S H ∧ Rep K F d1 x ∧ Rep K F d2 y ∧ isC c S d1 = true ∧ sp [d1, d2] S Q0 (fun _ _ => False) ∧
  ∀ d v F' S' H', Le F F' → Wd K G F' S' H' → Rep K F' d v → Q0 d S' → ∃ k, d = .bl k ∧ Q (.bl (ng neg k)) H'
section
variable {B : Bs} {k c : Nat} {sp : HSp} {a b o : Expr} {ta tb to : HTE} {pos : Pos}
theorem in_call {X : Cx} {neg : Bool} {pins : List (Addr × Obj)} {s : Shared} {σ : L2.St} {H : Hp} {x y : V} {u v : Value} {Q : VK} (ok : OkC B X) (h : HInOwn B k c sp) (hk : k ≤ B.k) (I : L2.Inv X pins σ H s) (rx : RelV x u) (ry : RelV y v) (hq : rInO X.K c neg sp x y H Q) :
    ∃ (aa : Addr) (f : Addr) (ox od : _), v = .ref aa ∧ PySem.W.InstAt s.heap aa ox (cad X.K c) od ∧ PySem.W.findIn X.K (.ref (cad X.K c)) "__contains__" = some (some (.ref f)) ∧ PySem.W.isFn X.K (.ref f) = true ∧
      wpAny (model X.prog X.w) X.A (call (.ref f) [.ref aa, u]) (fun r s' => ∃ kk H', r = .bool kk ∧ L2.Inv X pins σ H' s' ∧ Q (.bl (ng neg kk)) H') X.xe s := by
  obtain ⟨G, F, S, d1, d2, Q0, w, r1, r2, c1, hsp, hh⟩ := hq
  obtain ⟨f, hs, hf, hat⟩ := h.ex
  obtain ⟨fd, ps, ds, dvs, hn, hb, hv, hd, hF⟩ := hat.ex
  rw [← ok.eK] at hs hf hb hd
  have hF := ok.fnOk hF
  rw [← ok.eK] at hF
  have e0 : dvs = [] := by have := (hd F).len; exact List.eq_nil_of_length_eq_zero (by simpa using this)
  subst e0
  have e1 : ds = [] := by cases hv; rfl
  subst e1
  obtain ⟨aa, dx, vs, rfl, hH⟩ := isC_ok w r1 c1
  obtain rfl : v = Value.ref aa := ry
  obtain ⟨mA, O, _⟩ := ins_get I.hok hH
  obtain ⟨od, J, _⟩ := O.look
  have rr : Reps X.K F [d1, d2] [V.ref aa, x] := ⟨_, _, rfl, r1, Reps.one r2⟩
  refine ⟨aa, f, _, _, rfl, J, hs, hf, ?_⟩
  refine wpAny_mono (run_fn (Q := fun z H' => ∃ kk, z = V.bl kk ∧ Q (.bl (ng neg kk)) H') (E := E0) (dvs := []) hF (ok.room.mono hk) hb .nil passL I (.cons rfl (.cons rx .nil) : Vals [V.ref aa, x] [Value.ref aa, u])
    ⟨by simp, G, F, S, [d1, d2], Q0, _, rr, w, hsp, fun d z F' S' H' l w' r q => ?_, fun _ _ _ _ _ _ _ _ _ q => q.elim⟩) (fun r' s' hr => ?_) fun _ _ z => z
  · obtain ⟨kk, e, q2⟩ := hh d z F' S' H' l w' r q
    subst e
    exact ⟨kk, r, q2⟩
  · obtain ⟨z, H', I', rz, kk, e, q⟩ := hr
    subst e
    cases rz
    exact ⟨kk, H', rfl, I', q⟩
theorem op_inO {X : Cx} (ok : OkC B X) (h : HInOwn B k c sp) (hk : k ≤ B.k) : OpR X (compareOp .In) (rInO X.K c false sp) := by
  intro pins s σ H x y u v Q I rx ry hq
  obtain ⟨aa, f, ox, od, rfl, J, hs, hf, hc⟩ := in_call ok h hk I rx ry hq
  obtain ⟨mm, hfr⟩ := I.fr
  refine PySem.W.in_K hfr I.ok.mod.kin J hs hf (wpAny_mono hc (fun r s' ⟨kk, H', e, I', q⟩ => ?_) fun _ _ z => z)
  subst e
  exact wpAny_pure ⟨.bl kk, H', I', rfl, q⟩
theorem op_notinO {X : Cx} (ok : OkC B X) (h : HInOwn B k c sp) (hk : k ≤ B.k) : OpR X (compareOp .NotIn) (rInO X.K c true sp) := by
  intro pins s σ H x y u v Q I rx ry hq
  obtain ⟨aa, f, ox, od, rfl, J, hs, hf, hc⟩ := in_call ok h hk I rx ry hq
  obtain ⟨mm, hfr⟩ := I.fr
  refine PySem.W.notIn_K hfr I.ok.mod.kin J hs hf (wpAny_mono hc (fun r s' ⟨kk, H', e, I', q⟩ => ?_) fun _ _ z => z)
  subst e
  exact wpAny_pure ⟨.bl (!kk), H', I', rfl, q⟩
theorem lInO {K : PySem.W.Frag} {W : WX} {neg : Bool} (σ : L2.St) (H : Hp) (Q : VK) (h : lE K W (hInO c sp neg ta to) σ H Q) : tOp (rInO K c neg sp) (lE K W ta) (lE K W to) σ H Q := by
  obtain ⟨G, F, S, env, Q0, E0, rn, wd, h, hq, he⟩ := h
  refine ⟨G, F, S, env, _, E0, rn, wd, h, fun d v F1 S1 H1 l1 w1 r1 h1 => ?_, he⟩
  refine ⟨G, F1, S1, env, _, E0, rn.le l1, w1, h1, fun d2 v2 F2 S2 H2 l2 w2 r2 h2 => ?_, he.le l1⟩
  dsimp only at h2
  split at h2
  · rename_i e
    refine ⟨G, F2, S2, d2, d, _, w2, r2, r1.le l2, e, h2, fun d3 v3 F3 S3 H3 l3 w3 r3 q3 => ?_⟩
    try dsimp only at q3
    split at q3
    · exact ⟨_, rfl, hq (.bl _) _ F3 S3 H3 (l1.trans (l2.trans l3)) w3 rfl q3⟩
    · exact q3.elim
  · exact h2.elim
theorem hinO (h : HInOwn B k c sp) (hk : k ≤ B.k) (ha : HE B a ta) (ho : HE B o to) (hm : behindInMarks .In o = false := by rfl) : HE B (.Compare a [.In] [o] pos) (hInO c sp false ta to) :=
  ⟨fun X W ok tk => PE.imp (pe_cmpR (op_inO ok h hk) (ha.run X W ok tk) (ho.run X W ok tk) hm) fun σ H Q q => by rw [ok.eK]; exact lInO σ H Q q⟩
theorem hinOT (h : HInOwn B k c sp) (hk : k ≤ B.k) (ha : HE B a ta) (ho : HE B o to) (hm : behindInMarks .In o = false := by rfl) : HT B (.Compare a [.In] [o] pos) (hB (hInO c sp false ta to)) :=
  ⟨fun X W ok tk => PT.imp (pt_cmpR (op_inO ok h hk) (ha.run X W ok tk) (ho.run X W ok tk) hm) fun σ H Q q => lB (fun σ H Q q => by rw [ok.eK]; exact lInO σ H Q q) σ H Q q⟩
theorem hnotinO (h : HInOwn B k c sp) (hk : k ≤ B.k) (ha : HE B a ta) (ho : HE B o to) (hm : behindInMarks .NotIn o = false := by rfl) : HE B (.Compare a [.NotIn] [o] pos) (hInO c sp true ta to) :=
  ⟨fun X W ok tk => PE.imp (pe_cmpR (op_notinO ok h hk) (ha.run X W ok tk) (ho.run X W ok tk) hm) fun σ H Q q => by rw [ok.eK]; exact lInO σ H Q q⟩
theorem hnotinOT (h : HInOwn B k c sp) (hk : k ≤ B.k) (ha : HE B a ta) (ho : HE B o to) (hm : behindInMarks .NotIn o = false := by rfl) : HT B (.Compare a [.NotIn] [o] pos) (hB (hInO c sp true ta to)) :=
  ⟨fun X W ok tk => PT.imp (pt_cmpR (op_notinO ok h hk) (ha.run X W ok tk) (ho.run X W ok tk) hm) fun σ H Q q => lB (fun σ H Q q => by rw [ok.eK]; exact lInO σ H Q q) σ H Q q⟩
end
theorem hinOwn_of {B : Bs} {k c : Nat} {f : Addr} {sp : HSp} (hc : Cls B.K (cad B.K c)) (hm : Meth B.K (cad B.K c) "__contains__" f) (h : FnAt B k f 2 [] sp) : HInOwn B k c sp := ⟨⟨f, hm.at_, hm.fn, h⟩, hc⟩
end Hy

set_option Elab.async false
set_option linter.all false
set_option maxRecDepth 100000
set_option maxHeartbeats 4000000
set_option autoImplicit false
namespace Hy
open PySem PySem.Spec PyProof.Rows L2
/-! ### o[i] by an own __getitem__ -/
structure HGetOwn (B : Bs) (k c : Nat) (sp : HSp) : Prop where
  ex : ∃ f, PySem.W.findIn B.K (.ref (cad B.K c)) "__getitem__" = some (some (.ref f)) ∧ PySem.W.isFn B.K (.ref f) = true ∧ PySem.W.fnIn B.K f = true ∧ FnAt B k f 2 [] sp
  cl : Cls B.K (cad B.K c)
theorem HGetOwn.in_ {B : Bs} {k k' c : Nat} {N : List Str} {sc : Scope} {top : Bool} {own : Str → Bool} {sp : HSp} (h : HGetOwn B k c sp) : HGetOwn ⟨B.P, B.w, B.K, B.mg, B.base, k', N, sc, top, own⟩ k c sp := ⟨let ⟨f, a, b, d, e⟩ := h.ex; ⟨f, a, b, d, ⟨e.ex⟩⟩, h.cl⟩
theorem HGetOwn.mono {B : Bs} {j k c : Nat} {sp : HSp} (h : HGetOwn B j c sp) (l : j ≤ k) : HGetOwn B k c sp := ⟨let ⟨f, a, b, d, e⟩ := h.ex; ⟨f, a, b, d, e.mono l⟩, h.cl⟩
def hGetO (c : Nat) (sp : HSp) (to ti : HTE) : HTE := fun env S Q E => to env S (fun x S1 => ti env S1 (fun y S2 => match isC c S2 x with
  | true => sp [x, y] S2 Q E
  | false => False) E) E
section
variable {X : Cx} {CX' : CXT} {k : Nat} {f : Addr} {fd : FuncData} {ps : List Str} {sp : Sp} {E : L2.St → XK}
theorem run_fn1 {pins : List (Addr × Obj)} {σ : L2.St} {H : Hp} {s : Shared} {Q : VK} {us : List Value} {vs : List V} (F : FnOk X.prog X.w X.K X.mg X.base CX' k f fd ps sp) (hr : Room (k + 1) X.A) (hb : Binds X.K fd ps []) (hx : PassesAt CX' X σ (E σ))
    (I : L2.Inv X pins σ H s) (r : Vals vs us) (h : sp vs H Q (E σ)) : wpAny (model X.prog X.w) X.A.in1 (call (.ref f) us) (EP X pins σ Q) X.xe s := by
  have hl : (us ++ ([] : List Value)).length = ps.length := by rw [List.append_nil, ← r.length]; exact F.len _ _ _ _ h
  refine wpAny_call (codeAny_mono (F.run X.A.in1 X.stack s H ⟨us, []⟩ us vs Q (E σ) hr.in1 I.env0.in1 (by have := hb s us I.kIn hl; rwa [List.append_nil] at this) r h) fun r s' hq => ?_)
  cases r with
  | error e => exact hx pins H s e s' I hq
  | ok fl =>
    cases fl with
    | ret u => exact I.after hq
    | next => exact False.elim hq
    | brk => exact False.elim hq
    | cont => exact False.elim hq
end
section
variable {B : Bs} {k c : Nat} {sp : HSp} {o i : Expr} {to ti : HTE} {pos : Pos}
theorem hgeto (h : HGetOwn B k c sp) (hk : k + 1 ≤ B.k) (ho : HE B o to) (hi : HE B i ti) (hsl : ∀ (x : Addr) (v : Value), subscripted i true (.ref x) v = runValue (.builtin "lifetime.subscript" ⟨[.ref x, v], []⟩) := by with_unfolding_all exact fun _ _ => rfl) : HE B (.Subscript o i pos) (hGetO c sp to ti) :=
  ⟨fun X W ok tk => ⟨fun pins s σ H Q I ⟨G, F, S, env, Q0, E0, rn, wd, hh, hq, he⟩ => by
    refine Subscript_ (binT (R := fun x y H2 => ∃ F2 S2 d1 d2, Le F F2 ∧ Wd B.K G F2 S2 H2 ∧ Rep B.K F2 d1 x ∧ Rep B.K F2 d2 y ∧ isC c S2 d1 = true ∧ sp [d1, d2] S2 Q0 E0) (ho.run X W ok tk) (hi.run X W ok tk) I
      ⟨G, F, S, env, _, E0, rn, wd, hh, fun d1 v1 F1 S1 H1 l1 w1 r1 h1 => ⟨G, F1, S1, env, _, E0, rn.le l1, w1, h1, fun d2 v2 F2 S2 H2 l2 w2 r2 h2 => ?_, he.le l1⟩, he⟩
      fun v u s2 x y H2 I2 rx ry ⟨F2, S2, d1, d2, l, w, r1, r2, ic, q⟩ => ?_)
    · dsimp only at h2
      split at h2
      · rename_i ic
        exact ⟨F2, S2, d1, d2, l1.trans l2, w2, r1.le l2, r2, ic, h2⟩
      · exact h2.elim
    · obtain ⟨f, hs, hf, hfn, hat⟩ := h.ex
      obtain ⟨fd, ps, ds, dvs, hn, hb, hv, hd, hF⟩ := hat.ex
      have hF := ok.fnOk hF
      rw [← ok.eK] at hs hf hfn hb hd
      have e0 : dvs = [] := by have := (hd F).len; exact List.eq_nil_of_length_eq_zero (by simpa using this)
      subst e0
      have e1 : ds = [] := by cases hv; rfl
      subst e1
      obtain ⟨aa, dx, vs, rfl, hH⟩ := isC_ok w r1 ic
      obtain rfl : v = Value.ref aa := rx
      obtain ⟨mA, O, _⟩ := ins_get I2.hok hH
      obtain ⟨od, J, _⟩ := O.look
      obtain ⟨mm, hfr⟩ := I2.fr
      have rr : Reps B.K F2 [d1, d2] [V.ref aa, y] := ⟨_, _, rfl, r1, Reps.one r2⟩
      rw [← ok.eK] at J
      refine PySem.W.sub_K hfr I2.ok.mod.kin J hs hfn hf (run_fn1 (E := WE W) hF (ok.room.mono hk) hb (passAt tk σ) I2 (.cons rfl (.cons ry .nil) : Vals [V.ref aa, y] [Value.ref aa, u]) ?_) (hsl _ _)
      exact ⟨by simp, G, F2, S2, [d1, d2], Q0, E0, rr, w, q, hq.le l, he.le l⟩⟩⟩
end
/-! ### facts about exceptions' classes -/
def prKit (c c2 : Nat) (ans : Bool) : Pr := fun K => decide (PySem.W.kitOne K (.ref (cad K c)) (.ref (cad K c2)) = some ans)
theorem prKit_ok {K : PySem.W.Frag} {c c2 : Nat} {ans : Bool} (h : prKit c c2 ans K = true) : KitA K c (.ref (cad K c2)) ans := ⟨of_decide_eq_true h⟩
def prExm (c : Nat) (cs : List Nat) : Pr := fun K => cs.all fun c' => decide (PySem.W.exmOne K (.ref (cad K c')) (.ref (cad K c)) = some (Nat.beq c' c))
theorem prExm_ok {K : PySem.W.Frag} {c : Nat} {cs : List Nat} (h : prExm c cs K = true) : ExmC K c cs := ⟨fun c' hc => of_decide_eq_true (List.all_eq_true.mp h c' hc)⟩
def prFn (x m : Str) : Pr := fun K => PySem.W.fnIn K (He.fAd K (x, some m))
/-- an exception's class, all together -/
theorem hexc_of {B : Bs} {c k : Nat} {f : Addr} {fd : FuncData} {ps : List Str} (ok : ExcOk B.K c) (mg : B.mg (cname c) = some (.ref (cad B.K c))) (hm : Meth B.K (cad B.K c) "__init__" f) (hb : Binds B.K fd ps []) (h : FnOk B.P B.w B.K B.mg B.base (CX B.P B.w) k f fd ps (spExI B.K c)) : HExc B k c :=
  ⟨mg, ok, f, fd, ps, hm.at_, beq_iff_eq.mp hm.fn, hb, h⟩
theorem hgetOwn_of {B : Bs} {k c : Nat} {f : Addr} {sp : HSp} (hc : Cls B.K (cad B.K c)) (hm : Meth B.K (cad B.K c) "__getitem__" f) (hf : PySem.W.fnIn B.K f = true) (h : FnAt B k f 2 [] sp) : HGetOwn B k c sp := ⟨⟨f, hm.at_, hm.fn, hf, h⟩, hc⟩
/-! ### rules that the generated terms want -/
section
variable {B : Bs} {pos' spos : Pos} {x y : Str} {i j : Nat} {e1 e2 : Expr} {ta tb : HTE}
end
end Hy

set_option Elab.async false
set_option linter.all false
set_option maxRecDepth 100000
set_option maxHeartbeats 4000000
set_option autoImplicit false
namespace Hy
open PySem PySem.Spec PyProof.Rows L2
section
variable {B : Bs} {a b c e o : Expr} {ta tb tc to : HTE} {tr : HTA} {x y z : Str} {px py pz pt pos apos : Pos} {kt k2 : Nat} {pt2 : Pos} {i j l : Nat}
/-- a, b = e1, e2 with plain local names -/
theorem hpar (ha : HA B [a, b] tr) (hi : B.N[i]? = some x := by rfl) (hj : B.N[j]? = some y := by rfl) (hij : i ≠ j := by decide) (hx : B.sc.names.lookup x = some .local := by rfl) (hy : B.sc.names.lookup y = some .local := by rfl)
    (hw : ∀ env : Env, env.scope = B.sc → swappedStores [.Tuple [.Name x px, .Name y py] kt pt] (.Tuple [a, b] k2 pt2) env = pure (some [x, y]) := by intro env h; cases env; dsimp only at h; subst h; rfl)
    (hs : ∀ env, swapsWithSole [.Tuple [.Name x px, .Name y py] kt pt] (.Tuple [a, b] k2 pt2) pos.line env = pure false := by intro _; rfl) :
    HS B (.Assign [.Tuple [.Name x px, .Name y py] kt pt] (.Tuple [a, b] k2 pt2) pos) (hPar i j tr) :=
  ⟨fun X W ok tk => PS.imp (ps_par (i := i) (j := j) ok.calm ok.nd (by rw [ok.eN]; exact hi) (by rw [ok.eN]; exact hj) hij (by rw [ok.es]; exact hx) (by rw [ok.es]; exact hy) (ha.run X W ok tk) (hw _ ok.es) (hs _)) fun D σ H ⟨G, F, S, env, E, rn, wd, h, oo⟩ =>
    ⟨G, F, S, env, _, _, rn, wd, h, fun ds vs F1 S1 H1 l1 w1 r1 h1 => by
      dsimp only at h1
      split at h1
      · obtain ⟨v, u, rfl, r2, r3⟩ := r1.two_inv
        exact ⟨v, u, rfl, oo.nx _ _ F1 S1 H1 l1 w1 (((rn.le l1).set r2 i).set r3 j) h1⟩
      · exact h1.elim, oo.exc rn⟩⟩
def hPar3 (i j l : Nat) (ta : HTA) : HTS := fun D env S => ta env S (fun ds S1 => match ds with
  | [d1, d2, d3] => D.nx (((env.set i (some d1)).set j (some d2)).set l (some d3)) S1
  | _ => False) fun x S1 => D.ex x env S1
theorem hpar3 (ha : HA B [a, b, c] tr) (hi : B.N[i]? = some x := by rfl) (hj : B.N[j]? = some y := by rfl) (hl : B.N[l]? = some z := by rfl) (hij : i ≠ j := by decide) (hil : i ≠ l := by decide) (hjl : j ≠ l := by decide) (hx : B.sc.names.lookup x = some .local := by rfl) (hy : B.sc.names.lookup y = some .local := by rfl)
    (hz : B.sc.names.lookup z = some .local := by rfl) (hw : ∀ env : Env, env.scope = B.sc → swappedStores [.Tuple [.Name x px, .Name y py, .Name z pz] kt pt] (.Tuple [a, b, c] k2 pt2) env = pure (some [x, y, z]) := by intro env h; cases env; dsimp only at h; subst h; rfl)
    (hs : ∀ env, swapsWithSole [.Tuple [.Name x px, .Name y py, .Name z pz] kt pt] (.Tuple [a, b, c] k2 pt2) pos.line env = pure false := by intro _; rfl) :
    HS B (.Assign [.Tuple [.Name x px, .Name y py, .Name z pz] kt pt] (.Tuple [a, b, c] k2 pt2) pos) (hPar3 i j l tr) :=
  ⟨fun X W ok tk => PS.imp (ps_par3 (i := i) (j := j) (l := l) ok.calm ok.nd (by rw [ok.eN]; exact hi) (by rw [ok.eN]; exact hj) (by rw [ok.eN]; exact hl) hij hil hjl (by rw [ok.es]; exact hx) (by rw [ok.es]; exact hy) (by rw [ok.es]; exact hz) (ha.run X W ok tk) (hw _ ok.es) (hs _)) fun D σ H ⟨G, F, S, env, E, rn, wd, h, oo⟩ =>
    ⟨G, F, S, env, _, _, rn, wd, h, fun ds vs F1 S1 H1 l1 w1 r1 h1 => by
      dsimp only at h1
      split at h1
      · obtain ⟨v, us, rfl, r2, r3⟩ := r1
        obtain ⟨u, t, rfl, r4, r5⟩ := r3.two_inv
        exact ⟨v, u, t, rfl, oo.nx _ _ F1 S1 H1 l1 w1 ((((rn.le l1).set r2 i).set r4 j).set r5 l) h1⟩
      · exact h1.elim, oo.exc rn⟩⟩
/-! xs.insert(i, y), xs.pop() -/
def gInsert : GM := fun x ds S Q => match x with
  | .ref q => match S q with
    | some (.lst xs) => match ds with
      | [.int i, d] => (xs.length < 16777216 ∧ 0 ≤ i ∧ i < 2 ^ 63) ∧ Q .non (up S q (.lst (xs.take i.toNat ++ [d] ++ xs.drop i.toNat)))
      | _ => False
    | _ => False
  | _ => False
abbrev rInsert : V → List V → Hp → VK → Prop := fun x vs H Q => ∃ (l : Addr) (xs : List V) (i : Int) (y : V), x = .ref l ∧ vs = [.int i, y] ∧ H l = some (.lst xs) ∧ xs.length < sizeLine ∧ 0 ≤ i ∧ i < 2 ^ 63 ∧
    Q .non (upd H l (.lst (xs.take i.toNat ++ [y] ++ xs.drop i.toNat)))
theorem gInsert_ok {K : PySem.W.Frag} : RMok K gInsert rInsert := by
  intro G F S H d v ds vs Q0 Q w r rs h hq
  unfold gInsert at h
  split at h
  · rename_i q
    obtain rfl : v = .ref q := r
    split at h
    · rename_i xs e
      split at h
      · rename_i i d
        obtain ⟨u1, u2, rfl, r1, r2⟩ := rs.two_inv
        obtain rfl : u1 = .int i := r1
        obtain ⟨us, h1, h2, h3⟩ := lstAt w e
        obtain ⟨⟨z1, z2, z3⟩, h⟩ := h
        have rr := ((h2.take i.toNat).append (Reps.one r2)).append (h2.drop i.toNat)
        refine ⟨q, us, i, u2, rfl, rfl, h1, by rw [h2.len]; exact line_lt z1, z2, z3, hq .non _ F _ _ Le.rfl' (w.put (m := .lst (xs.take i.toNat ++ [d] ++ xs.drop i.toNat)) e ⟨_, rfl, rr, ?_⟩) rfl h⟩
        have : (xs.take i.toNat ++ [d] ++ xs.drop i.toNat).length = xs.length + 1 := by
          rw [List.length_append, List.length_append, List.length_take, List.length_drop, List.length_singleton]; omega
        rw [this]
        exact line_lt z1
      · exact h.elim
    · exact h.elim
  · exact h.elim
theorem hinsert (ho : HE B o to) (ha : HA B [a, b] tr) (hbase : ∀ env, attributeBase o "insert" env (eval o env) = eval o env := by intro _; rfl)
    (hfew : ∀ env, ((backTo pos (starEach [a, b] env)).all (fun x => !x.1) && (backToKw pos (keywordEach [] env)).all (fun x => x.1.isSome) && decide ([a, b].length + ([] : List Keyword).length + (if ([] : List Keyword).isEmpty then 0 else 1) < 30)) = true := by intro _; rfl)
    (hline : (apos.endLine == pos.line) = true := by rfl) (hs : ∀ env, starEach [a, b] env = (false, eval a env) :: starEach [b] env := by intro _; rfl) (hpl : ∀ env, (backTo pos (starEach [b] env)).any (·.1) = false := by intro _; rfl) : HE B (.Call (.Attribute o "insert" apos) [a, b] [] pos) (hMt isLst gInsert to tr) :=
  hbm (r := fun _ => rInsert) PySem.F.plainAttrs_list PySem.F.slot_list_insert PySem.F.type_list_insert (fun X _ => mt_insert) gInsert_ok kd_lst ho ha hbase hfew hline hs hpl
def gPop0 : GM := fun x ds S Q => match x with
  | .ref q => match S q with
    | some (.lst xs) => match ds with
      | [] => match xs[xs.length - 1]? with
        | some d => Q d (up S q (.lst xs.dropLast))
        | none => False
      | _ => False
    | _ => False
  | _ => False
theorem Reps.dropLast {K : PySem.W.Frag} {F : Hp} {ds : List D} {vs : List V} (r : Reps K F ds vs) : Reps K F ds.dropLast vs.dropLast := by
  rw [List.dropLast_eq_take, List.dropLast_eq_take, r.len]
  exact r.take _
theorem gPop0_ok {K : PySem.W.Frag} : RMok K gPop0 rPop := by
  intro G F S H d v ds vs Q0 Q w r rs h hq
  unfold gPop0 at h
  split at h
  · rename_i q
    obtain rfl : v = .ref q := r
    split at h
    · rename_i xs e
      split at h
      · split at h
        · rename_i d ed
          obtain rfl := rs.nil_inv
          obtain ⟨us, h1, h2, h3⟩ := lstAt w e
          obtain ⟨u, e2, r2⟩ := h2.at ed
          exact ⟨q, us, u, rfl, rfl, h1, by rw [h2.len]; exact e2, hq d u F _ _ Le.rfl' (w.put (m := .lst xs.dropLast) e ⟨_, rfl, h2.dropLast, by rw [List.length_dropLast]; omega⟩) r2 h⟩
        · exact h.elim
      · exact h.elim
    · exact h.elim
  · exact h.elim
theorem hpop0 (ho : HE B o to) (hbase : ∀ env, attributeBase o "pop" env (eval o env) = eval o env := by intro _; rfl) (hline : (apos.endLine == pos.line) = true := by rfl) : HE B (.Call (.Attribute o "pop" apos) [] [] pos) (hMt isLst gPop0 to hNil) :=
  hbm0 (r := fun _ => rPop) PySem.F.plainAttrs_list PySem.F.slot_list_pop PySem.F.type_list_pop (fun X _ => mt_pop) gPop0_ok kd_lst ho hbase hline
end
end Hy

set_option Elab.async false
set_option linter.all false
set_option maxRecDepth 100000
set_option maxHeartbeats 4000000
set_option autoImplicit false
namespace Hy
open PySem PySem.Spec PyProof.Rows L2
/-! o.f op= e -/
def hFaug (ix : Nat → Option Nat) (g : G2) (to te : HTE) : HTS := fun D env S => to env S (fun x S1 => match x with
  | .ref q => match S1 q with
    | some (.ins c ds) => match ix c with
      | some i => match ds[i]? with
        | some d => te env S1 (fun y S2 => g d y S2 fun z S3 => match S3 q with
          | some (.ins c' ds') => match Nat.beq c' c with
            | true => match putD ds' i z with
              | some es => D.nx env (up S3 q (.ins c' es))
              | none => False
            | false => False
          | _ => False) fun x S2 => D.ex x env S2
        | none => False
      | none => False
    | _ => False
  | _ => False) fun x S1 => D.ex x env S1
section
variable {B : Bs} {a b e o : Expr} {ta tb te to : HTE} {f : Str} {ix : Nat → Option Nat} {pos pos' : Pos}
theorem hfaug {op : Operator} {g : G2} {r : PySem.W.Frag → R2} (A : Attr B.K f ix) (hop : ∀ X, OkC B X → OpR X (inplaceOp op) (r X.K)) (hg : R2ok B.K g (r B.K)) (ho : HE B o to) (h : HE B e te) : HS B (.AugAssign (.Attribute o f pos') op e pos) (hFaug ix g to te) :=
  ⟨fun X W ok tk => PS.imp (ps_fldaug (rd := r B.K) (ho.run X W ok tk) (h.run X W ok tk) (by
      intro pins s σ H x y u v Q I r1 r2 q
      have := hop X ok
      rw [ok.eK] at this
      exact this pins s σ H x y u v Q I r1 r2 q)) fun D σ H ⟨G, F, S, env, E, rn, wd, h, oo⟩ =>
    ⟨G, F, S, env, _, _, rn, wd, h, fun x v F1 S1 H1 l1 w1 r1 h1 => by
      dsimp only at h1
      split at h1
      · rename_i q
        obtain rfl : v = .ref q := r1
        split at h1
        · rename_i c ds es
          obtain ⟨dx, vs, hH, rs⟩ := insAt w1 es
          split at h1
          · rename_i i ei
            split at h1
            · rename_i d ed
              obtain ⟨z1, z2, z3, z4, z5⟩ := A.ok c i ei
              obtain ⟨u, u1, u2⟩ := rs.at ed
              refine ⟨q, _, dx, _, u, rfl, hH, by rw [ok.eK]; exact z1, by rw [ok.eK]; exact z2, lookup_zip z4 z3 u1, G, F1, S1, env, _, _, rn.le l1, w1, h1, fun y w F2 S2 H2 l2 w2 r2 h2 => ?_, (oo.le l1).exc (rn.le l1)⟩
              refine hg G F2 S2 H2 d u y w _ _ w2 (u2.le l2) r2 h2 fun z zv F3 S3 H3 l3 w3 r3 h3 => ?_
              split at h3
              · rename_i c' ds' es'
                split at h3
                · rename_i ec
                  obtain rfl := Nat.eq_of_beq_eq_true ec
                  split at h3
                  · rename_i es2 ed2
                    obtain ⟨dx', vs', hH3, rs3⟩ := insAt w3 es'
                    obtain ⟨vs2, e1, r4⟩ := putD_ok z4 z3 rs3 r3 ed2
                    exact ⟨dx', _, hH3, by rw [List.length_zip]; omega, oo.nx env σ F3 _ _ (l1.trans (l2.trans l3)) (w3.put (m := .ins _ es2) es' ⟨dx', vs2, by rw [e1], r4⟩) (rn.le (l1.trans (l2.trans l3))) h3⟩
                  · exact h3.elim
                · exact h3.elim
              · exact h3.elim
            · exact h1.elim
          · exact h1.elim
        · exact h1.elim
      · exact h1.elim, oo.exc rn⟩⟩
theorem hfaugAdd (A : Attr B.K f ix) (ho : HE B o to) (h : HE B e te) : HS B (.AugAssign (.Attribute o f pos') .Add e pos) (hFaug ix (gI0 fun i j => .int (i + j)) to te) :=
  hfaug (r := fun _ => _) A (fun X _ => iop_add) (gI0_ok fun _ _ _ => rfl) ho h
theorem hfaugSub (A : Attr B.K f ix) (ho : HE B o to) (h : HE B e te) : HS B (.AugAssign (.Attribute o f pos') .Sub e pos) (hFaug ix gSub to te) :=
  hfaug (r := fun _ => _) A (fun X _ => iop_sub) (gI0_ok fun _ _ _ => rfl) ho h
/-! "s" * n -/
abbrev rMulS : R2 := fun x y H Q => ∃ (z : Str) (n : Int), x = .str z ∧ y = .int n ∧ MulOk z n ∧ Q (.str (Txt.mul z n)) H
theorem op_mulS {X : Cx} : OpR X (binaryOp .Mult) rMulS := by
  intro pins s σ H x y v u Q I rx ry h
  obtain ⟨z, n, rfl, rfl, ok, q⟩ := h
  obtain ⟨t, rfl⟩ := rx
  obtain ⟨t', rfl⟩ := ry
  exact PySem.SB.mul ok fun t2 k => ⟨.str (Txt.mul z n), H, I.tok _, ⟨_, rfl⟩, q⟩
def gMulS : G2 := fun x y S Q => match x, y with
  | .str z, .int n => (z.length ≤ 1000 ∧ -1000 ≤ n ∧ n ≤ 1000) ∧ Q (.str (Txt.mul z n)) S
  | _, _ => False
theorem gMulS_ok {K : PySem.W.Frag} : R2ok K gMulS rMulS := by
  intro G F S H d1 v1 d2 v2 Q0 Q w r1 r2 h hq
  unfold gMulS at h
  split at h
  · rename_i z n
    obtain ⟨⟨h1, h2, h3⟩, h4⟩ := h
    cases r1
    cases r2
    exact ⟨z, n, rfl, rfl, mulOk_of 1000 1000 h1 (by omega) (by omega) (by decide) (by decide), hq (.str _) _ F S H Le.rfl' w rfl h4⟩
  · exact h.elim
theorem hmulS (ha : HE B a ta) (hb : HE B b tb) : HE B (.BinOp a .Mult b pos) (hop gMulS ta tb) := hbin (r := fun _ => _) (fun X _ => op_mulS) gMulS_ok ha hb
end
end Hy

set_option Elab.async false
set_option linter.all false
set_option maxRecDepth 100000
set_option maxHeartbeats 4000000
set_option autoImplicit false
namespace Hy
open PySem PySem.Spec PyProof.Rows L2
/-! a op1 b op2 c -/
def hChain (g g' : G2) (ta tb tc : HTE) : HTE := fun env S Q E => ta env S (fun x S1 => tb env S1 (fun y S2 => g x y S2 fun z S3 => match z with
  | .bl true => tc env S3 (fun w S4 => g' y w S4 Q) E
  | .bl false => Q (.bl false) S3
  | _ => False) E) E
theorem lchain {K : PySem.W.Frag} {W : WX} {g g' : G2} {r r' : R2} (hg : R2ok K g r) (hg' : R2ok K g' r') (ta tb tc : HTE) (σ : St) (H : Hp) (Q : VK) (h : lE K W (hChain g g' ta tb tc) σ H Q) : tChain r r' (lE K W ta) (lE K W tb) (lE K W tc) σ H Q := by
  obtain ⟨G, F, S, env, Q0, E0, rn, wd, h, hq, he⟩ := h
  refine ⟨G, F, S, env, _, E0, rn, wd, h, fun d v F1 S1 H1 l1 w1 r1 h1 => ?_, he⟩
  refine ⟨G, F1, S1, env, _, E0, rn.le l1, w1, h1, fun d2 v2 F2 S2 H2 l2 w2 r2 h2 => ?_, he.le l1⟩
  refine hg G F2 S2 H2 d v d2 v2 _ _ w2 (r1.le l2) r2 h2 fun z zv F3 S3 H3 l3 w3 r3 h3 => ?_
  split at h3
  · cases r3
    refine ⟨true, rfl, ?_⟩
    rw [if_pos rfl]
    have l := l1.trans (l2.trans l3)
    exact ⟨G, F3, S3, env, _, E0, rn.le l, w3, h3, fun d4 v4 F4 S4 H4 l4 w4 r4 h4 => hg' G F4 S4 H4 d2 v2 d4 v4 Q0 _ w4 (r2.le (l3.trans l4)) r4 h4 (hq.le (l.trans l4)), he.le l⟩
  · cases r3
    refine ⟨false, rfl, ?_⟩
    rw [if_neg (by decide)]
    exact hq (.bl false) _ F3 S3 H3 (l1.trans (l2.trans l3)) w3 rfl h3
  · exact h3.elim
section
variable {B : Bs} {a b c : Expr} {ta tb tc : HTE} {pos : Pos}
theorem hchain {op op' : CmpOp} {g g' : G2} {r r' : PySem.W.Frag → R2} (ho : ∀ X, OkC B X → OpR X (compareOp op) (r X.K)) (ho' : ∀ X, OkC B X → OpR X (compareOp op') (r' X.K)) (hg : R2ok B.K g (r B.K)) (hg' : R2ok B.K g' (r' B.K)) (ha : HE B a ta) (hb : HE B b tb) (hc : HE B c tc)
    (hm : lastMarks [op, op'] [b, c] = false) : HE B (.Compare a [op, op'] [b, c] pos) (hChain g g' ta tb tc) :=
  ⟨fun X W ok tk => PE.imp (pe_chain (by have := ho X ok; rw [ok.eK] at this; exact this) (by have := ho' X ok; rw [ok.eK] at this; exact this) (ha.run X W ok tk) (hb.run X W ok tk) (hc.run X W ok tk) hm) fun σ H Q h => lchain hg hg' ta tb tc σ H Q h⟩
theorem hchainT {op op' : CmpOp} {g g' : G2} {r r' : PySem.W.Frag → R2} (ho : ∀ X, OkC B X → OpR X (compareOp op) (r X.K)) (ho' : ∀ X, OkC B X → OpR X (compareOp op') (r' X.K)) (hg : R2ok B.K g (r B.K)) (hg' : R2ok B.K g' (r' B.K)) (ha : HE B a ta) (hb : HE B b tb) (hc : HE B c tc)
    (hm : lastMarks [op, op'] [b, c] = false) : HT B (.Compare a [op, op'] [b, c] pos) (hB (hChain g g' ta tb tc)) :=
  ⟨fun X W ok tk => PT.imp (pt_chain (by have := ho X ok; rw [ok.eK] at this; exact this) (by have := ho' X ok; rw [ok.eK] at this; exact this) (ha.run X W ok tk) (hb.run X W ok tk) (hc.run X W ok tk) hm) fun σ H Q h => lB (fun σ H Q h => lchain hg hg' ta tb tc σ H Q h) σ H Q h⟩
theorem hchLL (ha : HE B a ta) (hb : HE B b tb) (hc : HE B c tc) : HE B (.Compare a [.LtE, .LtE] [b, c] pos) (hChain gLe gLe ta tb tc) := hchain (r := fun _ => _) (r' := fun _ => _) (fun X _ => op_le.or op_le_str) (fun X _ => op_le.or op_le_str) gOrd_ok gOrd_ok ha hb hc (nomark _)
theorem hchLLT (ha : HE B a ta) (hb : HE B b tb) (hc : HE B c tc) : HT B (.Compare a [.LtE, .LtE] [b, c] pos) (hB (hChain gLe gLe ta tb tc)) := hchainT (r := fun _ => _) (r' := fun _ => _) (fun X _ => op_le.or op_le_str) (fun X _ => op_le.or op_le_str) gOrd_ok gOrd_ok ha hb hc (nomark _)
theorem hchLt (ha : HE B a ta) (hb : HE B b tb) (hc : HE B c tc) : HE B (.Compare a [.LtE, .Lt] [b, c] pos) (hChain gLe gLt ta tb tc) := hchain (r := fun _ => _) (r' := fun _ => _) (fun X _ => op_le.or op_le_str) (fun X _ => op_lt.or op_lt_str) gOrd_ok gOrd_ok ha hb hc (nomark _)
theorem hchLtT (ha : HE B a ta) (hb : HE B b tb) (hc : HE B c tc) : HT B (.Compare a [.LtE, .Lt] [b, c] pos) (hB (hChain gLe gLt ta tb tc)) := hchainT (r := fun _ => _) (r' := fun _ => _) (fun X _ => op_le.or op_le_str) (fun X _ => op_lt.or op_lt_str) gOrd_ok gOrd_ok ha hb hc (nomark _)
end
/-! isinstance(e, T) of a caught exception, T built in -/
def prKitB (c : Nat) (T : String) (ans : Bool) : Pr := fun K => decide (PySem.W.kitOne K (.ref (cad K c)) (.type T) = some ans)
theorem prKitB_ok {K : PySem.W.Frag} {c : Nat} {T : String} {ans : Bool} (h : prKitB c T ans K = true) : KitA K c (.type T) ans := ⟨of_decide_eq_true h⟩
section
variable {B : Bs} {p p2 pos : Pos} {c : Nat}
theorem hxisiB {i : Nat} {n xc : Str} {T : String} {ans : Bool} {p3 : Pos} (E : ExcOk B.K c) (kit : KitA B.K c (.type T) ans) (gi : Gn B "isinstance") (mi : B.mg "isinstance" = none) (gn : Gn B xc) (hm : B.mg xc = none) (hv : bootBuiltins xc = some (.type T)) (hN : B.N[i]? = some n := by rfl)
    (hvis : Vis B.sc n := by first | exact Or.inl rfl | exact Or.inr (Or.inl rfl) | exact Or.inr (Or.inr rfl)) (hd : (n == ("__debug__" : Str)) = false := by decide) (hcd : (n == ("__classdict__" : Str)) = false := by decide) (hn : xc ≠ "__name__" := by decide) (hdb : (xc == ("__debug__" : Str)) = false := by decide)
    (he : ∀ env, starEach [.Name n p2, .Name xc p] env = (false, eval (.Name n p2) env) :: starEach [.Name xc p] env := by intro _; rfl) (hs : ∀ env, starEach [Expr.Name xc p] env = (false, eval (.Name xc p) env) :: starEach [] env := by intro _; rfl) (hpl : ∀ env, (backTo pos (starEach [Expr.Name xc p] env)).any (·.1) = false := by intro _; rfl) :
    HXE B c (some i) (.Call (.Name "isinstance" p3) [.Name n p2, .Name xc p] [] pos) (xC (.bl ans)) :=
  ⟨fun X a oe dd pn ok hz hf => PE.imp (pe_callB (X := X.suite a ((a, oe) :: pn)) (call_isX (X := X) (c := c) (d := dd) (by rw [ok.eK]; exact E) (by rw [ok.eK]; exact hz) hf) (ok.gl gi) (by show X.mg _ = _; rw [ok.em]; exact mi) (by decide +kernel)
    (pa_cons (pe_var (X := X.suite a ((a, oe) :: pn)) (i := i) (by show X.N[i]? = _; rw [ok.eN]; exact hN) (by show Vis X.env.scope n; rw [ok.es]; exact hvis) hd hcd)
      (pa_cons (pe_bltn (X := X.suite a ((a, oe) :: pn)) (v := .ty T) (ok.gl gn) (by show X.mg _ = _; rw [ok.em]; exact hm) hv rfl hn hdb) pa_nil (hs _)) (he _)) (by decide) (by decide) (he _) (hpl _)) fun σ H Q ⟨G, F, S, env, x, d, su, ed, hq⟩ => by
      cases ed
      exact ⟨.ref a, su.sl i rfl, .ty T, .type T, ans, rfl, fun u r => r, by rw [ok.eK]; exact kit.ok, su_dict su.wd.fr su.rx, hq _ F H Le.rfl' su.wd rfl⟩⟩
end
/-! a table of the module: a tuple of strings -/
def prTupS (x : Str) (ss : List Str) : Pr := fun K => He.tupB K x (ss.map He.Dv.str)
theorem strs_reps {K : PySem.W.Frag} (F : Hp) : ∀ ss : List Str, Reps K F (ss.map D.str) (ss.map V.str)
  | [] => rfl
  | s :: ss => ⟨_, _, rfl, rfl, strs_reps F ss⟩
theorem prTupS_ok {K : PySem.W.Frag} {x : Str} {ss : List Str} (hl : ss.length ≤ 1000) (h : prTupS x ss K = true) (F : Hp) : Rep K F (.tup (ss.map D.str)) (.ref (He.ga K x)) := by
  have q := He.tupB_ok h F
  have e : (ss.map He.Dv.str).map (He.Dv.v K) = ss.map V.str := by rw [List.map_map] <;> rfl
  rw [e] at q
  exact ⟨He.ga K x, ss.map V.str, rfl, q, strs_reps F ss, by rw [List.length_map]; exact le_line hl⟩
end Hy

set_option Elab.async false
set_option linter.all false
set_option maxRecDepth 100000
set_option maxHeartbeats 4000000
set_option autoImplicit false
namespace Hy
open PySem PySem.Spec PyProof.Rows L2
abbrev EN (Q E : HK) : HEnds := { nx := fun _ S' => Rt Q .non S', rt := Rt Q, ex := fun x _ S' => Rx E x S' }
theorem seq_ {t u : HTS} {D : HEnds} {env : HEnv} {S : Sto} (h : t { D with nx := u D } env S) : hSeq t u D env S := h
theorem bnot_t : (!true) = false := rfl
theorem bnot_f : (!false) = true := rfl
def gSq (x : D) (S : Sto) (R : List D → Ck → Sto → Prop) : Prop := match x with
  | .str z => z.length ≤ sizeLine ∧ R (z.cps.toList.map fun c => .str ⟨#[c]⟩) none S
  | x => match items S x with
    | some ds => R ds (ckOf x ds) S
    | none => False
theorem hiSq_eq (te : HTE) : hiSq te = fun env S R E => te env S (fun x S1 => gSq x S1 R) E := rfl
local macro_rules | `(tactic| walk_at "p") => `(tactic| try simp only [hSet, hAsg, hRet, hRetN, hExpr, hIfS, hNx, hop, hun, hcb, hV, hC, hB, hTr, hNot, hAnd, hOr, hIf, hTup, hLst, hLstM, hCons, hNil, hCall, hMeth, hMake, hMt, hSl, hNoP, hPart, hSetI, hFst, hOrT, hAndT, hNotT, hAug, bindD, bindDs, hEqO, hInO, hGetO, hiEnum, hRaise, hPar3, hYes, hFor, hLc, hLcM, hiR1, hiR2, hiSq_eq, wipeN, startE, List.map_cons, List.map_nil, List.length_cons, List.length_nil, List.replicate, List.cons_append, List.nil_append, List.append_nil, List.getElem?_cons_zero, List.getElem?_cons_succ, List.set_cons_zero, List.set_cons_succ, Nat.reduceAdd, Nat.reduceSub, Nat.zero_add, gI0, gI, gTru, gFmt, gNeg, gOrd, gIsN, isN, ng, Nat.beq, Nat.ble, isStr, bnot_t, bnot_f])
local macro_rules | `(tactic| walk_at "q") => `(tactic| ((try dsimp only); refine seq_ ?_; walk_at "p"))
local macro_rules | `(tactic| walk_at "g") => `(tactic| try simp only [gLt, gLe, gGt, gGe, gSub, gOrd, gI0, gI, gAdd, gNeg])
/-! ### steps at addresses -/
section
variable {S : Sto} {q : Addr} {ds ys : List D} {d z : D} {i k : Int} {j : Nat} {Q : HK} {K : Sto → Prop}
theorem ix_ref (h : S q = some (.lst ds)) (e : atI ds i = some d) (g : Q d S) : gIx (.ref q) (.int i) S Q := by
  show (match items S (.ref q) with
    | some ds => match atI ds i with
      | some d => Q d S
      | none => False
    | none => False)
  have : items S (.ref q) = some ds := by show (match S q with | some (.lst ds) => some ds | _ => none) = some ds; rw [h]
  rw [this]
  dsimp only
  rw [e]
  exact g
theorem set_ref (h : S q = some (.lst ds)) (e : ixN ds.length k = some j) (g : K (up S q (.lst (ds.set j z)))) : gSetI (.ref q) (.int k) z S K := by
  unfold gSetI
  dsimp only
  rw [h]
  dsimp only
  rw [e]
  exact g
theorem len_ref (h : S q = some (.lst ds)) (g : Q (.int ds.length) S) : gLen [.ref q] S Q := by
  show (match items S (.ref q) with
    | some xs => Q (.int xs.length) S
    | none => _)
  have : items S (.ref q) = some ds := by show (match S q with | some (.lst ds) => some ds | _ => none) = some ds; rw [h]
  rw [this]
  exact g
theorem app_ref (h : S q = some (.lst ds)) (l : ds.length < 16777216) (g : Q .non (up S q (.lst (ds ++ [d])))) : gAppend (.ref q) [d] S Q := by
  unfold gAppend
  dsimp only
  rw [h]
  exact ⟨l, g⟩
theorem is_lst_ref (h : S q = some (.lst ds)) : isLst S (.ref q) = true := by
  unfold isLst itemsL
  dsimp only
  rw [h] <;> rfl
theorem mt_ref {g : GM} {t : List D} (h : S q = some (.lst ds)) (r : g (.ref q) t S Q) : (match isLst S (.ref q) with | true => g (.ref q) t S Q | false => False) := by
  rw [is_lst_ref h]; exact r
theorem tup_ref (h : S q = some (.lst ds)) (g : Q (.tup ds) S) : gTuple [.ref q] S Q := by
  unfold gTuple
  dsimp only
  have : items S (.ref q) = some ds := by unfold items; dsimp only; rw [h]
  rw [this]
  exact g
theorem atI_nat {α : Type} {l : List α} {n : Nat} (h : n < l.length) : atI l (n : Int) = some l[n] := by
  unfold atI ixN
  rw [if_pos (by omega), if_pos (by omega)]
  simp [h]
theorem ixN_nat {l n : Nat} (h : n < l) : ixN l (n : Int) = some n := by
  unfold ixN
  rw [if_pos (by omega), if_pos (by omega)]
  simp
theorem atI_int {α : Type} {l : List α} {i : Int} (h0 : 0 ≤ i) (h : i < l.length) : ∃ x, atI l i = some x ∧ x ∈ l := by
  obtain ⟨n, rfl⟩ : ∃ n : Nat, i = n := ⟨i.toNat, by omega⟩
  exact ⟨_, atI_nat (by omega), List.getElem_mem _⟩
end
/-! ### the pen -/
/-- the pen at p: its row of cells at q, its spot at most n -/
def Pen (S : Sto) (p q : Addr) (n : Nat) : Prop := ∃ (cs : List Int) (s : Nat), S p = some (.lst [.ref q, .int s]) ∧ S q = some (.lst (cs.map D.int)) ∧ cs ≠ [] ∧ s ≤ n
/-- all but the pen stands -/
def Fr2 (p q : Addr) (S S' : Sto) : Prop := ∀ a, a ≠ p → a ≠ q → S' a = S a
theorem Fr2.rfl' {p q : Addr} {S : Sto} : Fr2 p q S S := fun _ _ _ => rfl
theorem Fr2.trans {p q : Addr} {S T U : Sto} (h : Fr2 p q S T) (k : Fr2 p q T U) : Fr2 p q S U := fun a h1 h2 => (k a h1 h2).trans (h a h1 h2)
theorem Pen.ne {S : Sto} {p q : Addr} {n : Nat} (h : Pen S p q n) : p ≠ q := by
  obtain ⟨cs, s, h1, h2, _⟩ := h
  intro e
  subst e
  rw [h1] at h2
  cases cs with
  | nil => cases h2
  | cons c cs => cases h2
theorem Pen.mono {S : Sto} {p q : Addr} {n m : Nat} (h : Pen S p q n) (l : n ≤ m) : Pen S p q m := by
  obtain ⟨cs, s, h1, h2, h3, h4⟩ := h
  exact ⟨cs, s, h1, h2, h3, Nat.le_trans h4 l⟩
theorem Pen.frame {S S' : Sto} {p q : Addr} {n : Nat} (h : Pen S p q n) (h1 : S' p = S p) (h2 : S' q = S q) : Pen S' p q n := by
  obtain ⟨cs, s, a, b, c, d⟩ := h
  exact ⟨cs, s, h1.trans a, h2.trans b, c, d⟩
theorem Pen.up {S : Sto} {p q a : Addr} {n : Nat} {m : M} (h : Pen S p q n) (ha : S a = none) : Pen (Hy.up S a m) p q n := by
  obtain ⟨cs, s, h1, h2, _⟩ := id h
  exact h.frame (up_ne (sne h1 ha)) (up_ne (sne h2 ha))
/-- at most so many draws -/
abbrev most : Nat := 1000000
def spDraw : HSp := fun ds S Q _ => ∃ (p q : Addr) (n : Nat) (m : Int), ds = [.ref p, .int m] ∧ 0 < m ∧ m ≤ 1000000 ∧ Pen S p q n ∧ n < most ∧ ∀ (v : Int) (S' : Sto), 0 ≤ v → v < m → Pen S' p q (n + 1) → Fr2 p q S S' → Q (.int v) S'
def rdDraw : HTS := (hSeq (hSet 2 (hop gIx (hV 0) (hC (.int 1))))
  (hSeq (hSetI (hV 0) (hC (.int 1)) (hop gAdd (hV 2) (hC (.int 1))))
  (hSeq (hSet 3 (hop gMod (hcb gInt1 (hCons (hV 2) hNil)) (hcb gLen (hCons (hop gIx (hV 0) (hC (.int 0))) hNil))))
  (hSeq (hSet 4 (hcb gInt1 (hCons (hop gIx (hop gIx (hV 0) (hC (.int 0))) (hV 3)) hNil)))
  (hSeq (hIfS (hB (hop gGe (hV 4) (hop gPow (hC (.int 10)) (hC (.int 18))))) (hSeq (hSetI (hop gIx (hV 0) (hC (.int 0))) (hV 3) (hop gDiv (hV 4) (hV 1)))
  (hRet (hop gMod (hcb gInt1 (hCons (hV 4) hNil)) (hV 1)))) hNx)
  (hSeq (hSet 5 (hop gPow (hcb gInt1 (hCons (hop gAdd (hop gAdd (hop gMulI (hop gMod (hcb gInt1 (hCons (hV 4) hNil)) (hC (.int 1000000007))) (hC (.int 48271))) (hop gMulI (hV 2) (hC (.int 7919)))) (hC (.int 104729))) hNil)) (hC (.int 5))))
  (hRet (hop gMod (hop gDiv (hcb gInt1 (hCons (hop gMod (hcb gInt1 (hCons (hV 5) hNil)) (hC (.int 2147483647))) hNil)) (hC (.int 8))) (hV 1)))))))))
theorem log_lt {i : Int} {n : Nat} (h : i.natAbs < 2 ^ n) (hn : 0 < n) : i.natAbs.log2 < n := by
  by_cases e : i.natAbs = 0
  · rw [e]; simpa using hn
  · exact (Nat.log2_lt e).mpr h
theorem mod_small {i m : Int} (h : 0 < m) : (i % m).natAbs < m.natAbs := by
  have h1 := Int.emod_nonneg i (Int.ne_of_gt h)
  have h2 := Int.emod_lt_of_pos i h
  omega
theorem draw_keeps {ds : List D} {S : Sto} {Q E : HK} (h : spDraw ds S Q E) : rdDraw (EN Q E) (startE 6 ds) S := by
  obtain ⟨p, q, n, m, rfl, hm, hm2, pen, hn, g⟩ := h
  obtain ⟨cs, s, hp, hq, hc, hs⟩ := id pen
  have ne := pen.ne
  have hcl : 0 < cs.length := List.length_pos_iff.mpr hc
  unfold rdDraw
  walk_at "q"
  refine ix_ref hp rfl ?_
  walk_at "q"
  refine set_ref (j := 1) hp rfl ?_
  have hp1 : up S p (.lst ([D.ref q, .int s].set 1 (.int (s + 1)))) p = some (.lst [.ref q, .int ((s + 1 : Nat) : Int)]) := up_same
  have hq1 : up S p (.lst ([D.ref q, .int s].set 1 (.int (s + 1)))) q = some (.lst (cs.map D.int)) := (up_ne (Ne.symm ne)).trans hq
  have fr1 : Fr2 p q S (up S p (.lst ([D.ref q, .int s].set 1 (.int (s + 1))))) := fun a h1 _ => up_ne h1
  generalize up S p (.lst ([D.ref q, .int s].set 1 (.int (s + 1)))) = S1 at hp1 hq1 fr1 ⊢
  walk_at "q"
  simp only [gInt1]
  refine ix_ref hp1 rfl ?_
  refine len_ref hq1 ?_
  have hl : ((cs.map D.int).length : Int) = cs.length := by simp
  have r0 := Int.emod_nonneg (s : Int) (show ((cs.map D.int).length : Int) ≠ 0 by omega)
  have r1 := Int.emod_lt_of_pos (s : Int) (show 0 < ((cs.map D.int).length : Int) by omega)
  refine ⟨by rw [hl]; omega, ?_⟩
  obtain ⟨at_, hat⟩ : ∃ at_ : Nat, (s : Int) % ((cs.map D.int).length : Int) = at_ := ⟨((s : Int) % ((cs.map D.int).length : Int)).toNat, by omega⟩
  have hlt : at_ < (cs.map D.int).length := by omega
  dsimp only
  rw [hat]
  have hlt2 : at_ < cs.length := by simpa using hlt
  have hx : atI (cs.map D.int) (at_ : Int) = some (.int cs[at_]) := by rw [atI_nat hlt]; simp
  generalize cs[at_] = c at hx
  walk_at "q"
  refine ix_ref hp1 rfl ?_
  refine ix_ref hq1 hx ?_
  simp only [gInt1]
  walk_at "q"
  refine ⟨⟨by decide, by decide, by decide⟩, ?_⟩
  cases decide ((10 : Int) ^ (18 : Int).toNat ≤ c) with
  | true =>
    walk_at "q"
    refine ⟨⟨hm, by omega⟩, ?_⟩
    refine ix_ref hp1 rfl ?_
    refine set_ref hq1 (ixN_nat hlt) ?_
    have ep : up S1 q (.lst ((cs.map D.int).set at_ (.int (c / m)))) p = some (.lst [.ref q, .int ((s + 1 : Nat) : Int)]) := (up_ne ne).trans hp1
    have eq : up S1 q (.lst ((cs.map D.int).set at_ (.int (c / m)))) q = some (.lst ((cs.set at_ (c / m)).map D.int)) := by rw [up_same, List.map_set]
    have fr2 : Fr2 p q S (up S1 q (.lst ((cs.map D.int).set at_ (.int (c / m))))) := fun a h1 h2 => (up_ne h2).trans (fr1 a h1 h2)
    simp only [gInt1]
    refine ⟨hm, ?_⟩
    exact Rt.mk (g _ _ (Int.emod_nonneg _ (by omega)) (Int.emod_lt_of_pos _ hm) ⟨_, s + 1, ep, eq, by simpa using hc, by omega⟩ fr2)
  | false =>
    have b1 := mod_small (i := c) (m := 1000000007) (by decide)
    walk_at "q"
    simp only [gInt1, gAdd]
    have hs6 : s ≤ 1000000 := Nat.le_trans hs (Nat.le_of_lt hn)
    refine ⟨by show (0 : Int) < 1000000007; decide, ?_⟩
    refine ⟨Nat.lt_of_lt_of_le (Nat.add_lt_add (log_lt (n := 64) (by omega) (by decide)) (log_lt (n := 64) (by decide) (by decide))) (by decide), ?_⟩
    refine ⟨Nat.lt_of_lt_of_le (Nat.add_lt_add (log_lt (n := 64) (by omega) (by decide)) (log_lt (n := 64) (by decide) (by decide))) (by decide), ?_⟩
    refine ⟨⟨by decide, by decide, by omega⟩, ?_⟩
    simp only [gInt1]
    walk_at "p"
    refine ⟨by decide, ?_⟩
    refine ⟨⟨by decide, by decide⟩, ?_⟩
    refine ⟨hm, ?_⟩
    exact Rt.mk (g _ _ (Int.emod_nonneg _ (by omega)) (Int.emod_lt_of_pos _ hm) ⟨_, s + 1, hp1, hq1, hc, by omega⟩ fr1)
theorem sq_items {S : Sto} {x : D} {xs : List D} {R : List D → Ck → Sto → Prop} (h : items S x = some xs) (g : R xs (ckOf x xs) S) : gSq x S R := by
  cases x with
  | str z => cases h
  | _ => unfold gSq; dsimp only; rw [h]; exact g
/-! ### picks -/
def spPick : HSp := fun ds S Q _ => ∃ (p q : Addr) (n : Nat) (x : D) (xs : List D), ds = [.ref p, x] ∧ items S x = some xs ∧ xs ≠ [] ∧ xs.length ≤ 1000000 ∧ Pen S p q n ∧ n < most ∧ (∀ S', Fr2 p q S S' → items S' x = some xs) ∧ ∀ (v : D) (S' : Sto), v ∈ xs → Pen S' p q (n + 1) → Fr2 p q S S' → Q v S'
def rdPick (sp : HSp) : HTS := (hRet (hop gIx (hV 1) (hCall 2 [] sp (hCons (hV 0) (hCons (hcb gLen (hCons (hV 1) hNil)) hNil)))))
theorem len_items {S : Sto} {x : D} {xs : List D} {Q : HK} (h : items S x = some xs) (g : Q (.int xs.length) S) : gLen [x] S Q := by
  cases x with
  | str z => cases h
  | ref p => unfold gLen; dsimp only; rw [h]; exact g
  | tup ys => cases h; exact g
  | lst ys => cases h; exact g
  | rls ys => cases h; exact g
  | _ => cases h
theorem ix_items {S : Sto} {x : D} {xs : List D} {i : Int} {d : D} {Q : HK} (h : items S x = some xs) (e : atI xs i = some d) (g : Q d S) : gIx x (.int i) S Q := by
  cases x with
  | str z => cases h
  | ref p => unfold gIx; dsimp only; rw [h]; dsimp only; rw [e]; exact g
  | tup ys => cases h; unfold gIx; dsimp only [items]; rw [e]; exact g
  | lst ys => cases h; unfold gIx; dsimp only [items]; rw [e]; exact g
  | rls ys => cases h; unfold gIx; dsimp only [items]; rw [e]; exact g
  | _ => cases h
theorem pick_keeps {ds : List D} {S : Sto} {Q E : HK} (h : spPick ds S Q E) : rdPick spDraw (EN Q E) (startE 2 ds) S := by
  obtain ⟨p, q, n, x, xs, rfl, hx, hne, hl, pen, hn, keep, g⟩ := h
  unfold rdPick
  walk_at "p"
  refine len_items hx ?_
  have := List.length_pos_iff.mpr hne
  refine ⟨p, q, n, _, rfl, by omega, by omega, pen, hn, fun v S' h0 h1 pen' fr => ?_⟩
  obtain ⟨d, e, hd⟩ := atI_int h0 h1
  exact ix_items (keep S' fr) e (Rt.mk (g d S' hd pen' fr))
end Hy

set_option Elab.async false
set_option linter.all false
set_option maxRecDepth 100000
set_option maxHeartbeats 4000000
set_option autoImplicit false
namespace Hy
open PySem PySem.Spec PyProof.Rows L2
local macro_rules | `(tactic| walk_at "p") => `(tactic| try simp only [hSet, hAsg, hRet, hRetN, hExpr, hIfS, hNx, hop, hun, hcb, hV, hC, hB, hTr, hNot, hAnd, hOr, hIf, hTup, hLst, hLstM, hCons, hNil, hCall, hMeth, hMake, hMt, hSl, hNoP, hPart, hSetI, hFst, hOrT, hAndT, hNotT, hAug, bindD, bindDs, hEqO, hInO, hGetO, hiEnum, hRaise, hPar3, hYes, hFor, hLc, hLcM, hiR1, hiR2, hiSq_eq, wipeN, startE, List.map_cons, List.map_nil, List.length_cons, List.length_nil, List.replicate, List.cons_append, List.nil_append, List.append_nil, List.getElem?_cons_zero, List.getElem?_cons_succ, List.set_cons_zero, List.set_cons_succ, Nat.reduceAdd, Nat.reduceSub, Nat.zero_add, gI0, gI, gTru, gFmt, gNeg, gOrd, gIsN, isN, ng, Nat.beq, Nat.ble, isStr, bnot_t, bnot_f])
local macro_rules | `(tactic| walk_at "q") => `(tactic| ((try dsimp only); refine seq_ ?_; walk_at "p"))
local macro_rules | `(tactic| walk_at "g") => `(tactic| try simp only [gLt, gLe, gGt, gGe, gSub, gOrd, gI0, gI, gAdd, gNeg])
/-! ### trees -/
inductive Tr where
  | nd (bits : List Int) (kids : List (Option Tr))
mutual
def trD : Tr → D
  | .nd b ks => .tup [.tup (b.map D.int), .tup (ksD ks)]
def ksD : List (Option Tr) → List D
  | [] => []
  | k :: ks => kD k :: ksD ks
def kD : Option Tr → D
  | none => .non
  | some t => trD t
end
def OkK (P : Tr → Prop) : Option Tr → Prop
  | none => True
  | some t => P t
def BitsOk (b : List Int) : Prop := (∀ x ∈ b, x = 0 ∨ x = 1) ∧ b.length ≤ 64
/-- at most n levels, small -/
def Ok : Nat → Tr → Prop
  | 0, _ => False
  | n + 1, .nd b ks => BitsOk b ∧ ks.length ≤ 600 ∧ ∀ k ∈ ks, OkK (Ok n) k
abbrev Oks (n : Nat) (ks : List (Option Tr)) : Prop := ∀ k ∈ ks, OkK (Ok n) k
theorem Ok.up : ∀ {n : Nat} {t : Tr}, Ok n t → Ok (n + 1) t
  | 0, _, h => h.elim
  | n + 1, .nd b ks, h => ⟨h.1, h.2.1, fun k hk => by
    have := h.2.2 k hk
    cases k with
    | none => trivial
    | some t => exact Ok.up this⟩
theorem Ok.mono {n m : Nat} {t : Tr} (h : Ok n t) (l : n ≤ m) : Ok m t := by
  induction l with
  | refl => exact h
  | step _ ih => exact ih.up
/-- a def of trees -/
def spTP (P : Tr → Prop) (f : Tr → D) : HSp := fun ds S Q _ => ∃ t, ds = [trD t] ∧ P t ∧ Q (f t) S
abbrev spT (n : Nat) (f : Tr → D) : HSp := spTP (Ok n) f
/-! size -/
mutual
def Tr.size : Tr → Int
  | .nd _ ks => 1 + ksSize ks
def ksSize : List (Option Tr) → Int
  | [] => 0
  | k :: ks => kSize k + ksSize ks
def kSize : Option Tr → Int
  | none => 0
  | some t => t.size
end
def OkP (n : Nat) (t : Tr) : Prop := Ok n t ∧ t.size ≤ 500
mutual
theorem size_pos : ∀ t : Tr, 1 ≤ t.size
  | .nd b ks => by
    have := ksSize_nn ks
    show 1 ≤ 1 + ksSize ks
    omega
theorem ksSize_nn : ∀ ks : List (Option Tr), 0 ≤ ksSize ks
  | [] => Int.le_refl _
  | none :: ks => by have := ksSize_nn ks; show 0 ≤ 0 + ksSize ks; omega
  | some t :: ks => by have := ksSize_nn ks; have := size_pos t; show 0 ≤ t.size + ksSize ks; omega
end
theorem kid_size {ks : List (Option Tr)} {t : Tr} (h : some t ∈ ks) : t.size ≤ ksSize ks := by
  induction ks with
  | nil => cases h
  | cons k ks ih =>
    rcases List.mem_cons.mp h with rfl | h
    · have := ksSize_nn ks
      show t.size ≤ t.size + ksSize ks
      omega
    · have h1 := ih h
      have : 0 ≤ kSize k := by
        cases k with
        | none => exact Int.le_refl _
        | some u => have := size_pos u; show 0 ≤ u.size; omega
      show t.size ≤ kSize k + ksSize ks
      omega
theorem okp_kids {n : Nat} {b : List Int} {ks : List (Option Tr)} (h : OkP (n + 1) (.nd b ks)) : ∀ k ∈ ks, OkK (OkP n) k := fun k hk => by
  cases k with
  | none => trivial
  | some t =>
    have h1 := kid_size hk
    have h2 : 1 + ksSize ks ≤ 500 := h.2
    exact ⟨h.1.2.2 _ hk, by omega⟩
theorem OkP.mono {n m : Nat} {t : Tr} (h : OkP n t) (l : n ≤ m) : OkP m t := ⟨h.1.mono l, h.2⟩
/-- what f makes of the kids that are there -/
def mapK {α : Type} (f : Tr → α) : List (Option Tr) → List α
  | [] => []
  | none :: ks => mapK f ks
  | some t :: ks => f t :: mapK f ks
theorem size_sum : ∀ ks : List (Option Tr), (mapK Tr.size ks).sum = ksSize ks
  | [] => rfl
  | none :: ks => by
    show (mapK Tr.size ks).sum = 0 + ksSize ks
    rw [size_sum ks]; omega
  | some t :: ks => by
    show (t.size :: mapK Tr.size ks).sum = t.size + ksSize ks
    rw [List.sum_cons, size_sum ks]
theorem mapK_map {α β : Type} (f : Tr → α) (g : α → β) : ∀ ks : List (Option Tr), (mapK f ks).map g = mapK (fun t => g (f t)) ks
  | [] => rfl
  | none :: ks => mapK_map f g ks
  | some t :: ks => by
    show g (f t) :: (mapK f ks).map g = g (f t) :: mapK _ ks
    rw [mapK_map f g ks]
theorem kD_some (t : Tr) : isN (trD t) = false := by cases t; rfl
/-- [f(child) for child in kids if child is not None] -/
theorem some_loop {n : Nat} {f : Tr → D} {x : Option D} {S : Sto} {Q : HK} : ∀ (ks : List (Option Tr)) (acc : List D), Oks n ks → Q (.lst (acc ++ mapK f ks)) S →
    cloop (.nm 1) (hB (hop (gIsN true) (hV 1) (hC .non))) (hCall 1 [] (spT n f) (hCons (hV 1) hNil)) none (ksD ks) acc [x, none] S Q
  | [], acc, _, h => by
    show Q (.lst acc) S
    have e : acc ++ mapK f [] = acc := List.append_nil acc
    rw [e] at h
    exact h
  | none :: ks, acc, hk, h => some_loop ks acc (fun k z => hk k (List.mem_cons_of_mem _ z)) h
  | some t :: ks, acc, hk, h => by
    show (match ng true (isN (trD t)) with
      | true => hCall 1 [] (spT n f) (hCons (hV 1) hNil) [x, some (trD t)] S (fun y S2 => cloop (.nm 1) (hB (hop (gIsN true) (hV 1) (hC .non))) (hCall 1 [] (spT n f) (hCons (hV 1) hNil)) none (ksD ks) (acc ++ [y]) [x, none] S2 Q) fun _ _ => False
      | false => _)
    rw [kD_some]
    refine ⟨t, rfl, hk _ List.mem_cons_self, ?_⟩
    refine some_loop ks (acc ++ [f t]) (fun k z => hk k (List.mem_cons_of_mem _ z)) ?_
    rw [List.append_assoc]
    exact h
def rdSize (sp : HSp) : HTS := (hRet (hop gAdd (hC (.int 1)) (hcb gSum (hCons (hLc (hiSq (hop gIx (hV 0) (hC (.int 1)))) (.nm 1) (hB (hop (gIsN true) (hV 1) (hC .non))) (hCall 1 [] sp (hCons (hV 1) hNil)) [1]) hNil))))
abbrev szD (t : Tr) : D := .int t.size
theorem over_lst {α : Type} {dec : List D → Option α} {f : α → Sto → HK → Prop} {xs : List D} {ns : α} {S : Sto} {Q : HK} (e : dec xs = some ns) (h : f ns S Q) : gOver dec f [.lst xs] S Q := by
  unfold gOver
  dsimp only [itemsL]
  rw [e]
  exact h
theorem size_keeps {n : Nat} {ds : List D} {S : Sto} {Q E : HK} (h : spT (n + 1) szD ds S Q E) : rdSize (spT n szD) (EN Q E) (startE 2 ds) S := by
  obtain ⟨⟨b, ks⟩, rfl, ⟨_, _, hk⟩, g⟩ := h
  unfold rdSize
  walk_at "p"
  refine ix_items (xs := [.tup (b.map D.int), .tup (ksD ks)]) rfl rfl ?_
  try dsimp only [gSq, items, ckOf]
  refine some_loop ks [] hk ?_
  refine over_lst (ns := mapK Tr.size ks) (by rw [List.nil_append, ← mapK_map Tr.size D.int]; exact ints_map _) ?_
  exact Rt.mk (by
    rw [size_sum]
    exact g)
/-! ### the shortened row -/
/-- the place behind the last one that p holds of -/
def lastOf {α : Type} (p : α → Bool) : List α → Nat
  | [] => 0
  | x :: xs => match lastOf p xs with
    | 0 => match p x with
      | true => 1
      | false => 0
    | n + 1 => n + 2
theorem lastOf_le {α : Type} (p : α → Bool) : ∀ xs : List α, lastOf p xs ≤ xs.length
  | [] => Nat.le_refl _
  | x :: xs => by
    have := lastOf_le p xs
    unfold lastOf
    split
    · split <;> simp
    · simp; omega
theorem lastOf_snoc {α : Type} (p : α → Bool) : ∀ (xs : List α) (y : α), lastOf p (xs ++ [y]) = match p y with
    | true => xs.length + 1
    | false => lastOf p xs
  | [], y => by
    show (match p y with | true => 1 | false => 0) = _
    cases p y <;> rfl
  | x :: xs, y => by
    have ih := lastOf_snoc p xs y
    show (match lastOf p (xs ++ [y]) with
      | 0 => match p x with
        | true => 1
        | false => 0
      | n + 1 => n + 2) = _
    rw [ih]
    cases p y with
    | true => rfl
    | false => rfl
theorem lastOf_map {α β : Type} (p : β → Bool) (f : α → β) : ∀ xs : List α, lastOf p (xs.map f) = lastOf (fun x => p (f x)) xs
  | [] => rfl
  | x :: xs => by
    show (match lastOf p (xs.map f) with | 0 => _ | n + 1 => _) = _
    rw [lastOf_map p f xs] <;> rfl
def short {α : Type} (p : α → Bool) (xs : List α) : List α := xs.take (lastOf p xs)
theorem short_map {α β : Type} (p : β → Bool) (f : α → β) (xs : List α) : short p (xs.map f) = (short (fun x => p (f x)) xs).map f := by
  unfold short
  rw [lastOf_map, List.map_take]
theorem short_mem {α : Type} {p : α → Bool} {xs : List α} {x : α} (h : x ∈ short p xs) : x ∈ xs := List.mem_of_mem_take h
theorem short_len {α : Type} (p : α → Bool) (xs : List α) : (short p xs).length ≤ xs.length := by
  unfold short
  rw [List.length_take]; omega
theorem short_short {α : Type} (p : α → Bool) : ∀ xs : List α, short p (short p xs) = short p xs := by
  have key : ∀ xs : List α, lastOf p (xs.take (lastOf p xs)) = lastOf p xs := by
    intro xs
    induction xs with
    | nil => rfl
    | cons x xs ih =>
      cases e : lastOf p xs with
      | zero =>
        cases ep : p x with
        | true =>
          have e1 : lastOf p (x :: xs) = 1 := by unfold lastOf; rw [e]; dsimp only; rw [ep]
          rw [e1]
          show lastOf p [x] = 1
          unfold lastOf
          show (match p x with | true => 1 | false => 0) = 1
          rw [ep]
        | false =>
          have e1 : lastOf p (x :: xs) = 0 := by unfold lastOf; rw [e]; dsimp only; rw [ep]
          rw [e1] <;> rfl
      | succ m =>
        have e1 : lastOf p (x :: xs) = m + 2 := by show (match lastOf p xs with | 0 => _ | n + 1 => n + 2) = _; rw [e]
        rw [e1]
        show (match lastOf p (xs.take (m + 1)) with | 0 => _ | n + 1 => n + 2) = _
        rw [← e, ih, e]
  intro xs
  show ((xs.take (lastOf p xs)).take (lastOf p (xs.take (lastOf p xs)))) = _
  rw [key, List.take_take, Nat.min_self] <;> rfl
/-- row, spare: the row without what is spare at its end -/
def spShort : HSp := fun ds S Q _ => ∃ (c : List D → D) (xs : List D) (sp : D) (p : D → Bool), ds = [c xs, sp] ∧ (c = .tup ∨ c = .lst) ∧ xs.length ≤ 1000000 ∧ (∀ x ∈ xs, ∀ (S : Sto) (K : HK), K (.bl (p x)) S → gNe x sp S K) ∧ Q (c (short p xs)) S
def rdShort : HTS := (hSeq (hSet 2 (hC (.int 0)))
  (hSeq (hFor (hiR1 (hCons (hcb gLen (hCons (hV 0) hNil)) hNil)) (.nm 3) (hIfS (hB (hop gNe (hop gIx (hV 0) (hV 3)) (hV 1))) (hSet 2 (hop gAdd (hV 3) (hC (.int 1)))) hNx))
  (hRet (hSl (hV 0) hNoP (hPart (hV 2))))))
theorem cut_take (xs : List D) (n : Nat) : cutD xs none (some (n : Int)) = xs.take n := by
  unfold cutD
  rw [HT.sIx_none, HT.sIx_nat, List.drop_zero, Nat.sub_zero]
  by_cases h : n ≤ xs.length
  · rw [Nat.min_eq_left h]
  · rw [Nat.min_eq_right (by omega), List.take_of_length_le (Nat.le_refl _), List.take_of_length_le (by omega)]
theorem short_loop {c : List D → D} {xs : List D} {sp : D} {p : D → Bool} {D0 : HEnds} {S : Sto} (hc : c = .tup ∨ c = .lst) (hp : ∀ x ∈ xs, ∀ (S : Sto) (K : HK), K (.bl (p x)) S → gNe x sp S K) :
    ∀ (m i : Nat) (y : Option D), i + m = xs.length → (∀ y, D0.nx [some (c xs), some sp, some (.int (lastOf p xs : Nat)), y] S) →
    floop (.nm 3) (hIfS (hB (hop gNe (hop gIx (hV 0) (hV 3)) (hV 1))) (hSet 2 (hop gAdd (hV 3) (hC (.int 1)))) hNx) none ((List.range' i m).map fun (j : Nat) => .int (0 + (j : Int))) D0 [some (c xs), some sp, some (.int (lastOf p (xs.take i) : Nat)), y] S
  | 0, i, y, hi, h => by
    show D0.nx _ S
    rw [List.take_of_length_le (by omega)]
    exact h y
  | m + 1, i, y, hi, h => by
    have hlt : i < xs.length := by omega
    have ih := short_loop (D0 := D0) (S := S) hc hp m (i + 1) (some (.int (0 + (i : Int)))) (by omega) h
    have e1 : xs.take (i + 1) = xs.take i ++ [xs[i]] := (List.take_succ_eq_append_getElem hlt)
    show (hIfS (hB (hop gNe (hop gIx (hV 0) (hV 3)) (hV 1))) (hSet 2 (hop gAdd (hV 3) (hC (.int 1)))) hNx
      { D0 with nx := floop (.nm 3) (hIfS (hB (hop gNe (hop gIx (hV 0) (hV 3)) (hV 1))) (hSet 2 (hop gAdd (hV 3) (hC (.int 1)))) hNx) none ((List.range' (i + 1) m).map fun (j : Nat) => .int (0 + (j : Int))) D0
                ct := floop (.nm 3) (hIfS (hB (hop gNe (hop gIx (hV 0) (hV 3)) (hV 1))) (hSet 2 (hop gAdd (hV 3) (hC (.int 1)))) hNx) none ((List.range' (i + 1) m).map fun (j : Nat) => .int (0 + (j : Int))) D0, bk := D0.nx }
      [some (c xs), some sp, some (.int (lastOf p (xs.take i) : Nat)), some (.int (0 + (i : Int)))] S)
    walk_at "p"
    have hx : items S (c xs) = some xs := by rcases hc with rfl | rfl <;> rfl
    refine ix_items (i := 0 + (i : Int)) (d := xs[i]) hx (by rw [Int.zero_add]; exact atI_nat hlt) ?_
    refine hp _ (List.getElem_mem _) S _ ?_
    rw [e1, lastOf_snoc] at ih
    cases ep : p xs[i] with
    | true =>
      rw [ep] at ih
      dsimp only at ih ⊢
      have hl : (xs.take i).length = i := by rw [List.length_take]; omega
      rw [hl] at ih
      simp only [gAdd]
      rw [show (0 + (i : Int)) + 1 = ((i + 1 : Nat) : Int) by omega]
      exact ih
    | false =>
      rw [ep] at ih
      exact ih
theorem rng_eq (n : Nat) : rngD 0 n = (List.range' 0 n).map fun (j : Nat) => D.int (0 + (j : Int)) := by
  unfold rngD
  rw [List.range_eq_range']
theorem sl_seq {c : List D → D} {xs : List D} {n : Nat} {S : Sto} {Q : HK} (hc : c = .tup ∨ c = .lst) (h : Q (c (xs.take n)) S) : gSl (c xs) none (some (n : Int)) S Q := by
  rcases hc with rfl | rfl
  · show Q (.tup (cutD xs none (some (n : Int)))) S
    rw [cut_take]; exact h
  · show Q (.lst (cutD xs none (some (n : Int)))) S
    rw [cut_take]; exact h
theorem short_keeps {ds : List D} {S : Sto} {Q E : HK} (h : spShort ds S Q E) : rdShort (EN Q E) (startE 4 ds) S := by
  obtain ⟨c, xs, sp, p, rfl, hc, hl, hp, g⟩ := h
  unfold rdShort
  walk_at "q"
  walk_at "q"
  have hx : items S (c xs) = some xs := by rcases hc with rfl | rfl <;> rfl
  refine len_items hx ?_
  refine ⟨by omega, by omega, ?_⟩
  rw [Int.toNat_natCast, rng_eq]
  refine short_loop hc hp xs.length 0 none (by omega) fun y => ?_
  walk_at "p"
  exact sl_seq hc (Rt.mk g)
end Hy

set_option Elab.async false
set_option linter.all false
set_option maxRecDepth 100000
set_option maxHeartbeats 4000000
set_option autoImplicit false
namespace Hy
open PySem PySem.Spec PyProof.Rows L2
local macro_rules | `(tactic| walk_at "p") => `(tactic| try simp only [hSet, hAsg, hRet, hRetN, hExpr, hIfS, hNx, hop, hun, hcb, hV, hC, hB, hTr, hNot, hAnd, hOr, hIf, hTup, hLst, hLstM, hCons, hNil, hCall, hMeth, hMake, hMt, hSl, hNoP, hPart, hSetI, hFst, hOrT, hAndT, hNotT, hAug, bindD, bindDs, hEqO, hInO, hGetO, hiEnum, hRaise, hPar3, hYes, hFor, hLc, hLcM, hiR1, hiR2, hiSq_eq, wipeN, startE, List.map_cons, List.map_nil, List.length_cons, List.length_nil, List.replicate, List.cons_append, List.nil_append, List.append_nil, List.getElem?_cons_zero, List.getElem?_cons_succ, List.set_cons_zero, List.set_cons_succ, Nat.reduceAdd, Nat.reduceSub, Nat.zero_add, gI0, gI, gTru, gFmt, gNeg, gOrd, gIsN, isN, ng, Nat.beq, Nat.ble, isStr, bnot_t, bnot_f])
local macro_rules | `(tactic| walk_at "q") => `(tactic| ((try dsimp only); refine seq_ ?_; walk_at "p"))
local macro_rules | `(tactic| walk_at "g") => `(tactic| try simp only [gLt, gLe, gGt, gGe, gSub, gOrd, gI0, gI, gAdd, gNeg])
/-! ### over all kids -/
def mapO {α : Type} (z : α) (f : Tr → α) : List (Option Tr) → List α
  | [] => []
  | none :: ks => z :: mapO z f ks
  | some t :: ks => f t :: mapO z f ks
theorem mapO_len {α : Type} (z : α) (f : Tr → α) : ∀ ks : List (Option Tr), (mapO z f ks).length = ks.length
  | [] => rfl
  | none :: ks => by show (mapO z f ks).length + 1 = _; rw [mapO_len z f ks] <;> rfl
  | some t :: ks => by show (mapO z f ks).length + 1 = _; rw [mapO_len z f ks] <;> rfl
theorem mapO_map {α β : Type} (z : α) (f : Tr → α) (g : α → β) : ∀ ks : List (Option Tr), (mapO z f ks).map g = mapO (g z) (fun t => g (f t)) ks
  | [] => rfl
  | none :: ks => by show g z :: (mapO z f ks).map g = _; rw [mapO_map z f g ks] <;> rfl
  | some t :: ks => by show g (f t) :: (mapO z f ks).map g = _; rw [mapO_map z f g ks] <;> rfl
/-- [z if child is None else f(child) for child in kids] -/
theorem kid_loop {P : Tr → Prop} {i : Nat} {f : Tr → D} {z : D} {env : HEnv} {S : Sto} {Q : HK} (hi : i < env.length) : ∀ (ks : List (Option Tr)) (acc : List D), (∀ k ∈ ks, OkK P k) → Q (.lst (acc ++ mapO z f ks)) S →
    cloop (.nm i) hYes (hIf (hB (hop (gIsN false) (hV i) (hC .non))) (hC z) (hCall 1 [] (spTP P f) (hCons (hV i) hNil))) none (ksD ks) acc env S Q
  | [], acc, _, h => by
    show Q (.lst acc) S
    have e : acc ++ mapO z f [] = acc := List.append_nil acc
    rw [e] at h
    exact h
  | none :: ks, acc, hk, h => by
    have ih := kid_loop (P := P) (i := i) (f := f) (z := z) (env := env) (S := S) (Q := Q) hi ks (acc ++ [z]) (fun k y => hk k (List.mem_cons_of_mem _ y)) (by rw [List.append_assoc]; exact h)
    simp only [ksD, kD, cloop, chk, bindD, hYes, hIf, hB, hop, hV, hC, List.getElem?_set_self hi, gIsN, isN, ng]
    exact ih
  | some t :: ks, acc, hk, h => by
    have ih := kid_loop (P := P) (i := i) (f := f) (z := z) (env := env) (S := S) (Q := Q) hi ks (acc ++ [f t]) (fun k y => hk k (List.mem_cons_of_mem _ y)) (by rw [List.append_assoc]; exact h)
    simp only [ksD, kD, cloop, chk, bindD, hYes, hIf, hB, hop, hV, hC, List.getElem?_set_self hi, gIsN, kD_some, ng, hCall, hCons, hNil, List.append_nil, List.length_cons, List.length_nil, Nat.beq, Nat.zero_add]
    exact ⟨t, rfl, hk _ List.mem_cons_self, ih⟩
/-! ### trimmed -/
def nz (x : Int) : Bool := x != 0
mutual
def Tr.trim : Tr → Tr
  | .nd b ks => .nd (short nz b) (short Option.isSome (trims ks))
def trims : List (Option Tr) → List (Option Tr)
  | [] => []
  | k :: ks => ktrim k :: trims ks
def ktrim : Option Tr → Option Tr
  | none => none
  | some t => some t.trim
end
theorem ksD_map : ∀ ks : List (Option Tr), ksD ks = ks.map kD
  | [] => rfl
  | k :: ks => by show kD k :: ksD ks = _; rw [ksD_map ks] <;> rfl
theorem ksD_len (ks : List (Option Tr)) : (ksD ks).length = ks.length := by rw [ksD_map, List.length_map]
theorem mapO_trim : ∀ ks : List (Option Tr), mapO D.non (fun t => trD t.trim) ks = ksD (trims ks)
  | [] => rfl
  | none :: ks => by show D.non :: mapO _ _ ks = D.non :: ksD (trims ks); rw [mapO_trim ks]
  | some t :: ks => by show trD t.trim :: mapO _ _ ks = trD t.trim :: ksD (trims ks); rw [mapO_trim ks]
theorem trims_len : ∀ ks : List (Option Tr), (trims ks).length = ks.length
  | [] => rfl
  | k :: ks => by show (trims ks).length + 1 = _; rw [trims_len ks] <;> rfl
theorem Ok.trim : ∀ {n : Nat} {t : Tr}, Ok n t → Ok n t.trim
  | 0, _, h => h.elim
  | n + 1, .nd b ks, ⟨h1, h2, h3⟩ => by
    have key : ∀ ks : List (Option Tr), Oks n ks → Oks n (trims ks) := by
      intro ks
      induction ks with
      | nil => intro _ k hk; cases hk
      | cons k ks ih =>
        intro h k' hk
        rcases List.mem_cons.mp (show k' ∈ ktrim k :: trims ks from hk) with rfl | hk
        · have := h k List.mem_cons_self
          cases k with
          | none => trivial
          | some t => exact Ok.trim this
        · exact ih (fun k' z => h k' (List.mem_cons_of_mem _ z)) k' hk
    exact ⟨⟨fun x hx => h1.1 x (short_mem hx), Nat.le_trans (short_len _ _) h1.2⟩, Nat.le_trans (short_len _ _) (by rw [trims_len]; exact h2), fun k hk => key ks h3 k (short_mem hk)⟩
theorem oks_trims {n : Nat} : ∀ ks : List (Option Tr), Oks n ks → Oks n (trims ks)
  | [], _, k, hk => by cases hk
  | k :: ks, h, k', hk => by
    rcases List.mem_cons.mp (show k' ∈ ktrim k :: trims ks from hk) with rfl | hk
    · have := h k List.mem_cons_self
      cases k with
      | none => trivial
      | some t => exact Ok.trim this
    · exact oks_trims ks (fun k' z => h k' (List.mem_cons_of_mem _ z)) k' hk
mutual
theorem dok_tr : ∀ (n : Nat) (t : Tr), Ok n t → dok (2 * n) (trD t) = true
  | 0, _, h => h.elim
  | n + 1, .nd b ks, h => by
    have hb : ∀ (b : List Int) (m : Nat), doks m (b.map D.int) = true := by
      intro b m
      induction b with
      | nil => rfl
      | cons x b ih => show (true && doks m (b.map D.int)) = true; rw [ih] <;> rfl
    show (dok (2 * n + 1) (.tup (b.map D.int)) && (dok (2 * n + 1) (.tup (ksD ks)) && true)) = true
    show (doks (2 * n) (b.map D.int) && (doks (2 * n) (ksD ks) && true)) = true
    rw [hb, dok_ks n ks h.2.2] <;> rfl
theorem dok_ks : ∀ (n : Nat) (ks : List (Option Tr)), Oks n ks → doks (2 * n) (ksD ks) = true
  | _, [], _ => rfl
  | n, k :: ks, h => by
    show (dok (2 * n) (kD k) && doks (2 * n) (ksD ks)) = true
    rw [dok_ks n ks fun k' z => h k' (List.mem_cons_of_mem _ z)]
    have := h k List.mem_cons_self
    cases k with
    | none => cases n <;> rfl
    | some t => rw [show kD (some t) = trD t from rfl, dok_tr n t this] <;> rfl
end
mutual
theorem dok_up : ∀ (d : D) (n m : Nat), n ≤ m → dok n d = true → dok m d = true
  | .tup ds, 0, _, _, h => by cases h
  | .tup ds, n + 1, 0, l, _ => by omega
  | .tup ds, n + 1, m + 1, l, h => doks_up ds n m (by omega) h
  | .lst ds, 0, _, _, h => by cases h
  | .lst ds, n + 1, 0, l, _ => by omega
  | .lst ds, n + 1, m + 1, l, h => doks_up ds n m (by omega) h
  | .rls ds, 0, _, _, h => by cases h
  | .rls ds, n + 1, 0, l, _ => by omega
  | .rls ds, n + 1, m + 1, l, h => doks_up ds n m (by omega) h
  | .non, n, m, _, _ => by cases m <;> rfl
  | .bl _, n, m, _, _ => by cases m <;> rfl
  | .int _, n, m, _, _ => by cases m <;> rfl
  | .str x, n, m, _, h => by cases n <;> cases m <;> exact h
  | .ref _, n, m, _, h => by cases n <;> cases h
  | .ty _, n, m, _, h => by cases n <;> cases h
  | .obj _ _, n, m, _, h => by cases n <;> cases h
  | .exc _ _, n, m, _, h => by cases n <;> cases h
theorem doks_up : ∀ (ds : List D) (n m : Nat), n ≤ m → doks n ds = true → doks m ds = true
  | [], _, _, _, _ => by simp [doks]
  | d :: ds, n, m, l, h => by
    simp only [doks, Bool.and_eq_true] at h ⊢
    exact ⟨dok_up d n m l h.1, doks_up ds n m l h.2⟩
end
def rdTrimmed (sp sp2 : HSp) : HTS := (hSeq (hSet 2 (hLc (hiSq (hop gIx (hV 0) (hC (.int 1)))) (.nm 1) hYes (hIf (hB (hop (gIsN false) (hV 1) (hC .non))) (hC .non) (hCall 1 [] sp (hCons (hV 1) hNil))) [1]))
  (hRet (hTup (hCons (hcb gTuple (hCons (hCall 2 [] sp2 (hCons (hop gIx (hV 0) (hC (.int 0))) (hCons (hC (.int 0)) hNil))) hNil)) (hCons (hcb gTuple (hCons (hCall 2 [] sp2 (hCons (hV 2) (hCons (hC .non) hNil))) hNil)) hNil)))))
abbrev tmD (t : Tr) : D := trD t.trim
def isI : D → Bool
  | .int i => nz i
  | _ => true
theorem ne_int (x : Int) (S : Sto) (K : HK) (h : K (.bl (nz x)) S) : gNe (.int x) (.int 0) S K := by
  show K (.bl (ng true (deq (.int x) (.int 0)))) S
  have e : deq (.int x) (.int 0) = (x == 0) := by simp [deq, toP, PyData.eqv]
  rw [e]
  exact h
theorem ne_kid {n : Nat} (hn : n ≤ 29) (k : Option Tr) (hk : OkK (Ok n) k) (S : Sto) (K : HK) (h : K (.bl k.isSome) S) : gNe (kD k) .non S K := by
  cases k with
  | none => exact h
  | some t =>
    cases t with
    | nd b ks =>
      have d := dok_up _ _ 60 (by omega) (dok_tr n _ hk)
      show (match dok 60 (trD (.nd b ks)) && dok 60 .non with
        | true => K (.bl (ng true (deq (trD (.nd b ks)) .non))) S
        | false => False)
      rw [d]
      have e : deq (trD (.nd b ks)) .non = false := by simp [deq, trD, toP, PyData.eqv]
      rw [e]
      exact h
theorem tup_lst {xs : List D} {S : Sto} {Q : HK} (h : Q (.tup xs) S) : gTuple [.lst xs] S Q := h
theorem tup_tup {xs : List D} {S : Sto} {Q : HK} (h : Q (.tup xs) S) : gTuple [.tup xs] S Q := h
theorem trimmed_keeps {n : Nat} (hn : n ≤ 28) {ds : List D} {S : Sto} {Q E : HK} (h : spT (n + 1) tmD ds S Q E) : rdTrimmed (spT n tmD) spShort (EN Q E) (startE 3 ds) S := by
  obtain ⟨⟨b, ks⟩, rfl, ⟨h1, h2, hk⟩, g⟩ := h
  unfold rdTrimmed
  walk_at "q"
  refine ix_items (xs := [.tup (b.map D.int), .tup (ksD ks)]) rfl rfl ?_
  try dsimp only [gSq, items, ckOf]
  refine kid_loop (P := Ok n) (f := tmD) (show 1 < 3 by decide) ks [] hk ?_
  rw [List.nil_append, mapO_trim]
  walk_at "p"
  refine ix_items (xs := [.tup (b.map D.int), .tup (ksD ks)]) rfl rfl ?_
  refine ⟨.tup, b.map D.int, .int 0, isI, rfl, .inl rfl, by rw [List.length_map]; exact Nat.le_trans h1.2 (by decide), fun x hx S K hK => ?_, ?_⟩
  · obtain ⟨i, _, rfl⟩ := List.mem_map.mp hx
    exact ne_int i S K hK
  rw [short_map]
  refine tup_tup ?_
  have key : Oks n (trims ks) := oks_trims ks hk
  refine ⟨.lst, ksD (trims ks), .non, fun d => !isN d, rfl, .inr rfl, by rw [ksD_len, trims_len]; exact Nat.le_trans h2 (by decide), fun x hx S K hK => ?_, ?_⟩
  · rw [ksD_map] at hx
    obtain ⟨k, hk', rfl⟩ := List.mem_map.mp hx
    refine ne_kid (n := n) (by omega) k (key k hk') S K ?_
    have e : k.isSome = !isN (kD k) := by cases k with
      | none => rfl
      | some t => rw [show kD (some t) = trD t from rfl, kD_some] <;> rfl
    rw [e]
    exact hK
  rw [ksD_map, short_map]
  have e : (fun k => !isN (kD k)) = Option.isSome := by
    funext k
    cases k with
    | none => rfl
    | some t => rw [show kD (some t) = trD t from rfl, kD_some] <;> rfl
  rw [e, ← ksD_map]
  refine tup_lst ?_
  exact Rt.mk g
end Hy

set_option Elab.async false
set_option linter.all false
set_option maxRecDepth 100000
set_option maxHeartbeats 4000000
set_option autoImplicit false
namespace Hy
open PySem PySem.Spec PyProof.Rows L2
local macro_rules | `(tactic| walk_at "p") => `(tactic| try simp only [hSet, hAsg, hRet, hRetN, hExpr, hIfS, hNx, hop, hun, hcb, hV, hC, hB, hTr, hNot, hAnd, hOr, hIf, hTup, hLst, hLstM, hCons, hNil, hCall, hMeth, hMake, hMt, hSl, hNoP, hPart, hSetI, hFst, hOrT, hAndT, hNotT, hAug, bindD, bindDs, hEqO, hInO, hGetO, hiEnum, hRaise, hPar3, hYes, hFor, hLc, hLcM, hiR1, hiR2, hiSq_eq, wipeN, startE, List.map_cons, List.map_nil, List.length_cons, List.length_nil, List.replicate, List.cons_append, List.nil_append, List.append_nil, List.getElem?_cons_zero, List.getElem?_cons_succ, List.set_cons_zero, List.set_cons_succ, Nat.reduceAdd, Nat.reduceSub, Nat.zero_add, gI0, gI, gTru, gFmt, gNeg, gOrd, gIsN, isN, ng, Nat.beq, Nat.ble, isStr, bnot_t, bnot_f])
local macro_rules | `(tactic| walk_at "q") => `(tactic| ((try dsimp only); refine seq_ ?_; walk_at "p"))
local macro_rules | `(tactic| walk_at "g") => `(tactic| try simp only [gLt, gLe, gGt, gGe, gSub, gOrd, gI0, gI, gAdd, gNeg])
/-! ### spelled -/
abbrev numS (i : Int) : Str := (toString i : String)
def bitsS (b : List Int) : Str := match b with
  | [] => ("." : PySem.Str)
  | x :: r => Txt.join ("" : PySem.Str) ((x :: r).map numS)
mutual
def Tr.spell : Tr → Str
  | .nd b ks => match ks with
    | [] => bitsS b
    | k :: r => bitsS b ++ ("(" : PySem.Str) ++ Txt.join ("," : PySem.Str) (spells (k :: r)) ++ (")" : PySem.Str)
def spells : List (Option Tr) → List Str
  | [] => []
  | k :: ks => kspell k :: spells ks
def kspell : Option Tr → Str
  | none => ("-" : PySem.Str)
  | some t => t.spell
end
theorem str_len (a b : Str) : (a ++ b).length = a.length + b.length := Array.size_append
theorem join_len (z : Str) (l : List Str) : (Txt.join z l).length ≤ (l.map (·.length)).sum + l.length * z.length := by
  show (Txt.join z l).length ≤ _
  unfold Txt.join
  rw [size_glued]
  have : (l.length - 1) * z.length ≤ l.length * z.length := Nat.mul_le_mul_right _ (Nat.sub_le _ _)
  omega
theorem sum_le {l : List Str} {m : Nat} (h : ∀ x ∈ l, x.length ≤ m) : (l.map (·.length)).sum ≤ l.length * m := by
  induction l with
  | nil => simp
  | cons x l ih =>
    have h1 := h x List.mem_cons_self
    have h2 := ih fun y z => h y (List.mem_cons_of_mem _ z)
    rw [List.map_cons, List.sum_cons, List.length_cons, Nat.succ_mul]
    omega
theorem numS_len {x : Int} (h : x = 0 ∨ x = 1) : (numS x).length = 1 := by
  rcases h with rfl | rfl <;> decide +kernel
theorem numS_ok {x : Int} (h : x = 0 ∨ x = 1) : PyData.strOk (numS x) = true := by
  rcases h with rfl | rfl <;> decide +kernel
theorem bitsS_len {b : List Int} (h : BitsOk b) : (bitsS b).length ≤ 64 := by
  cases b with
  | nil => decide +kernel
  | cons x r =>
    have e : (("" : PySem.Str)).length = 0 := by decide +kernel
    have h1 := join_len ("" : PySem.Str) ((x :: r).map numS)
    have h2 := sum_le (l := (x :: r).map numS) (m := 1) (fun y hy => by
      obtain ⟨z, hz, rfl⟩ := List.mem_map.mp hy
      rw [numS_len (h.1 z hz)]; exact Nat.le_refl _)
    have h3 := h.2
    rw [e] at h1
    rw [List.length_map] at h1 h2
    show (Txt.join ("" : PySem.Str) ((x :: r).map numS)).length ≤ 64
    omega
theorem spells_map : ∀ ks : List (Option Tr), spells ks = mapO ("-" : PySem.Str) Tr.spell ks
  | [] => rfl
  | none :: ks => by show ("-" : PySem.Str) :: spells ks = _; rw [spells_map ks] <;> rfl
  | some t :: ks => by show t.spell :: spells ks = _; rw [spells_map ks] <;> rfl
theorem spells_len (ks : List (Option Tr)) : (spells ks).length = ks.length := by rw [spells_map, mapO_len]
theorem dash_len : ("-" : PySem.Str).length = 1 := by decide +kernel
theorem comma_len : ("," : PySem.Str).length = 1 := by decide +kernel
theorem par_len : ("(" : PySem.Str).length = 1 ∧ (")" : PySem.Str).length = 1 := by decide +kernel
mutual
theorem spell_len : ∀ (n : Nat) (t : Tr), Ok n t → (t.spell.length : Int) ≤ 1300 * t.size
  | 0, _, h => h.elim
  | n + 1, .nd b [], h => by
    have := bitsS_len h.1
    show ((bitsS b).length : Int) ≤ 1300 * (1 + 0)
    omega
  | n + 1, .nd b (k :: r), h => by
    have h1 := bitsS_len h.1
    have h2 := join_len ("," : PySem.Str) (spells (k :: r))
    have h3 := spells_len' n (k :: r) h.2.2
    rw [spells_len] at h2
    rw [comma_len] at h2
    obtain ⟨p1, p2⟩ := par_len
    have h4 : (k :: r).length ≤ 600 := h.2.1
    show ((bitsS b ++ ("(" : PySem.Str) ++ Txt.join ("," : PySem.Str) (spells (k :: r)) ++ (")" : PySem.Str)).length : Int) ≤ 1300 * (1 + ksSize (k :: r))
    rw [str_len, str_len, str_len, p1, p2]
    omega
theorem spells_len' : ∀ (n : Nat) (ks : List (Option Tr)), Oks n ks → ((((spells ks).map (·.length)).sum : Nat) : Int) ≤ 1300 * ksSize ks + ks.length
  | _, [], _ => by decide
  | n, k :: ks, h => by
    have ih := spells_len' n ks fun k' z => h k' (List.mem_cons_of_mem _ z)
    have hk := h k List.mem_cons_self
    show (((kspell k).length + ((spells ks).map (·.length)).sum : Nat) : Int) ≤ 1300 * (kSize k + ksSize ks) + ((ks.length + 1 : Nat) : Int)
    cases k with
    | none =>
      have e : (kspell none).length = 1 := dash_len
      have e2 : kSize none = 0 := rfl
      omega
    | some t =>
      have := spell_len n t hk
      have e : (kspell (some t)).length = t.spell.length := rfl
      have e2 : kSize (some t) = t.size := rfl
      omega
end
theorem spell_line {n : Nat} {t : Tr} (h : Ok n t) (hs : t.size ≤ 500) : t.spell.length ≤ 700000 := by
  have := spell_len n t h
  omega
theorem join_line {n : Nat} {ks : List (Option Tr)} (h : Oks n ks) (hk : ks.length ≤ 600) (hs : ksSize ks ≤ 500) : ((spells ks).map (·.length)).sum + (spells ks).length * ("," : PySem.Str).length ≤ 16777216 ∧ (Txt.join ("," : PySem.Str) (spells ks)).length ≤ 16000000 := by
  have h2 := join_len ("," : PySem.Str) (spells ks)
  have h3 := spells_len' n ks h
  rw [spells_len] at h2 ⊢
  rw [comma_len] at h2 ⊢
  omega
theorem bits_line {b : List Int} (h : BitsOk b) : ((b.map numS).map (·.length)).sum + (b.map numS).length * ("" : PySem.Str).length ≤ 16777216 := by
  have e : (("" : PySem.Str)).length = 0 := by decide +kernel
  have h2 := sum_le (l := b.map numS) (m := 1) (fun y hy => by
    obtain ⟨z, hz, rfl⟩ := List.mem_map.mp hy
    rw [numS_len (h.1 z hz)]; exact Nat.le_refl _)
  have h3 := h.2
  rw [List.length_map] at h2 ⊢
  rw [e]
  omega
/-- [str(bit) for bit in bits] -/
theorem num_loop {i : Nat} {env : HEnv} {S : Sto} {Q : HK} (hi : i < env.length) : ∀ (b : List Int) (acc : List D), (∀ x ∈ b, x = 0 ∨ x = 1) → Q (.lst (acc ++ b.map fun x => .str (numS x))) S →
    cloop (.nm i) hYes (hcb gStr1 (hCons (hV i) hNil)) none (b.map D.int) acc env S Q
  | [], acc, _, h => by
    show Q (.lst acc) S
    have e : acc ++ ([] : List Int).map (fun x => D.str (numS x)) = acc := List.append_nil acc
    rw [e] at h
    exact h
  | x :: b, acc, hb, h => by
    have ih := num_loop (i := i) (env := env) (S := S) (Q := Q) hi b (acc ++ [.str (numS x)]) (fun y z => hb y (List.mem_cons_of_mem _ z)) (by rw [List.append_assoc]; exact h)
    simp only [List.map_cons, cloop, chk, bindD, hYes, hcb, hCons, hNil, hV, List.getElem?_set_self hi, gStr1]
    refine ⟨?_, ih⟩
    rcases hb x List.mem_cons_self with rfl | rfl <;> decide
theorem join_lst {z : Str} {ts : List Str} {S : Sto} {Q : HK} (hl : (ts.map (·.length)).sum + ts.length * z.length ≤ 16777216) (h : Q (.str (Txt.join z ts)) S) : gJoin (.str z) [.lst (ts.map D.str)] S Q := by
  unfold gJoin
  try dsimp only [gSq, items, ckOf]
  rw [strs_map]
  exact ⟨hl, h⟩
theorem bits_empty {b : List Int} (h : BitsOk b) : b ≠ [] → ((Txt.join ("" : PySem.Str) (b.map numS)).length : Int) != 0 := by
  intro hb
  cases b with
  | nil => exact absurd rfl hb
  | cons x r =>
    unfold Txt.join
    rw [size_glued]
    have := numS_len (h.1 x List.mem_cons_self)
    rw [List.map_cons, List.map_cons, List.sum_cons, this, show ("" : PySem.Str).length = 0 by decide +kernel, Nat.mul_zero, bne_iff_ne]
    omega
def rdSpelled (sp : HSp) : HTS := (hSeq (hSet 2 (hOrT (hMt isStr gJoin (hC (.str ("" : PySem.Str))) (hCons (hLc (hiSq (hop gIx (hV 0) (hC (.int 0)))) (.nm 1) hYes (hcb gStr1 (hCons (hV 1) hNil)) [1]) hNil)) (hC (.str ("." : PySem.Str)))))
  (hSeq (hSet 4 (hMt isStr gJoin (hC (.str ("," : PySem.Str))) (hCons (hLc (hiSq (hop gIx (hV 0) (hC (.int 1)))) (.nm 3) hYes (hIf (hB (hop (gIsN false) (hV 3) (hC .non))) (hC (.str ("-" : PySem.Str))) (hCall 1 [] sp (hCons (hV 3) hNil))) [3]) hNil)))
  (hRet (hIf (hB (hop gNe (hop gIx (hV 0) (hC (.int 1))) (hTup hNil))) (hop gAdd (hop gAdd (hop gAdd (hV 2) (hC (.str ("(" : PySem.Str)))) (hV 4)) (hC (.str (")" : PySem.Str)))) (hV 2)))))
abbrev spD (t : Tr) : D := .str t.spell
theorem add_str {a b : Str} {S : Sto} {Q : HK} (hl : a.length + b.length ≤ 16777216) (h : Q (.str (a ++ b)) S) : gAdd (.str a) (.str b) S Q := ⟨line_le hl, h⟩
theorem ne_kids {n : Nat} (hn : n ≤ 28) (ks : List (Option Tr)) (hk : Oks n ks) (S : Sto) (K : HK) (h : K (.bl (!ks.isEmpty)) S) : gNe (.tup (ksD ks)) (.tup []) S K := by
  have d : dok 60 (.tup (ksD ks)) = true := doks_up (ksD ks) (2 * n) 59 (by omega) (dok_ks n ks hk)
  show (match dok 60 (.tup (ksD ks)) && dok 60 (.tup []) with
    | true => K (.bl (ng true (deq (.tup (ksD ks)) (.tup [])))) S
    | false => False)
  rw [d]
  have e : deq (.tup (ksD ks)) (.tup []) = ks.isEmpty := by
    cases ks with
    | nil => simp [deq, toP, toPs, ksD, PyData.eqv, PyData.eqvAll]
    | cons k ks => simp [deq, toP, toPs, ksD, PyData.eqv, PyData.eqvAll]
  rw [e]
  exact h
theorem spelled_keeps {n : Nat} (hn : n + 1 ≤ 29) {ds : List D} {S : Sto} {Q E : HK} (h : spTP (OkP (n + 1)) spD ds S Q E) : rdSpelled (spTP (OkP n) spD) (EN Q E) (startE 5 ds) S := by
  obtain ⟨⟨b, ks⟩, rfl, okp, g⟩ := h
  have hkp := okp_kids okp
  obtain ⟨ok, hsz⟩ := okp
  have hsk : ksSize ks ≤ 500 := by
    have : 1 + ksSize ks ≤ 500 := hsz
    omega
  obtain ⟨h1, h2, hk⟩ := id ok
  unfold rdSpelled
  walk_at "q"
  refine ix_items (xs := [.tup (b.map D.int), .tup (ksD ks)]) rfl rfl ?_
  try dsimp only [gSq, items, ckOf]
  refine num_loop (show 1 < 5 by decide) b [] h1.1 ?_
  rw [List.nil_append, show (b.map fun x => D.str (numS x)) = (b.map numS).map D.str by rw [List.map_map] <;> rfl]
  refine join_lst (bits_line h1) ?_
  have key : ∀ z : Str, z = bitsS b → hSeq (hSet 4 (hMt isStr gJoin (hC (.str ("," : PySem.Str))) (hCons (hLc (hiSq (hop gIx (hV 0) (hC (.int 1)))) (.nm 3) hYes (hIf (hB (hop (gIsN false) (hV 3) (hC .non))) (hC (.str ("-" : PySem.Str))) (hCall 1 [] (spTP (OkP n) spD) (hCons (hV 3) hNil))) [3]) hNil)))
      (hRet (hIf (hB (hop gNe (hop gIx (hV 0) (hC (.int 1))) (hTup hNil))) (hop gAdd (hop gAdd (hop gAdd (hV 2) (hC (.str ("(" : PySem.Str)))) (hV 4)) (hC (.str (")" : PySem.Str)))) (hV 2))) (EN Q E) [some (trD (.nd b ks)), none, some (.str z), none, none] S := by
    rintro z rfl
    walk_at "q"
    refine ix_items (xs := [.tup (b.map D.int), .tup (ksD ks)]) rfl rfl ?_
    try dsimp only [gSq, items, ckOf]
    refine kid_loop (P := OkP n) (f := spD) (show 3 < 5 by decide) ks [] hkp ?_
    rw [List.nil_append, ← mapO_map ("-" : PySem.Str) Tr.spell D.str, ← spells_map]
    obtain ⟨j1, j2⟩ := join_line hk h2 hsk
    refine join_lst j1 ?_
    walk_at "p"
    refine ix_items (xs := [.tup (b.map D.int), .tup (ksD ks)]) rfl rfl ?_
    refine ne_kids (n := n) (by omega) ks hk S _ ?_
    have l1 := bitsS_len h1
    obtain ⟨p1, p2⟩ := par_len
    cases ks with
    | nil => exact Rt.mk g
    | cons k r =>
      refine add_str (by rw [p1]; omega) ?_
      refine add_str (by rw [str_len, p1]; omega) ?_
      refine add_str (by rw [str_len, str_len, p1, p2]; omega) ?_
      exact Rt.mk g
  refine ⟨?_, ?_⟩
  · have := bits_line h1
    have h4 := join_len ("" : PySem.Str) (b.map numS)
    omega
  · cases b with
    | nil => exact key _ rfl
    | cons x r =>
      have e := bits_empty h1 (by simp)
      rw [e]
      exact key _ rfl
end Hy

set_option Elab.async false
set_option linter.all false
set_option maxRecDepth 100000
set_option maxHeartbeats 4000000
set_option autoImplicit false
namespace Hy
open PySem PySem.Spec PyProof.Rows L2
local macro_rules | `(tactic| walk_at "p") => `(tactic| try simp only [hSet, hAsg, hRet, hRetN, hExpr, hIfS, hNx, hop, hun, hcb, hV, hC, hB, hTr, hNot, hAnd, hOr, hIf, hTup, hLst, hLstM, hCons, hNil, hCall, hMeth, hMake, hMt, hSl, hNoP, hPart, hSetI, hFst, hOrT, hAndT, hNotT, hAug, bindD, bindDs, hEqO, hInO, hGetO, hiEnum, hRaise, hPar3, hYes, hFor, hLc, hLcM, hiR1, hiR2, hiSq_eq, wipeN, startE, List.map_cons, List.map_nil, List.length_cons, List.length_nil, List.replicate, List.cons_append, List.nil_append, List.append_nil, List.getElem?_cons_zero, List.getElem?_cons_succ, List.set_cons_zero, List.set_cons_succ, Nat.reduceAdd, Nat.reduceSub, Nat.zero_add, gI0, gI, gTru, gFmt, gNeg, gOrd, gIsN, isN, ng, Nat.beq, Nat.ble, isStr, bnot_t, bnot_f])
local macro_rules | `(tactic| walk_at "q") => `(tactic| ((try dsimp only); refine seq_ ?_; walk_at "p"))
local macro_rules | `(tactic| walk_at "g") => `(tactic| try simp only [gLt, gLe, gGt, gGe, gSub, gOrd, gI0, gI, gAdd, gNeg])
/-! ### puzzles -/
mutual
def Tr.deep : Tr → Int
  | .nd _ ks => 1 + maxI (deeps ks ++ [0])
def deeps : List (Option Tr) → List Int
  | [] => []
  | k :: ks => kdeep k ++ deeps ks
def kdeep : Option Tr → List Int
  | none => []
  | some t => [t.deep]
end
theorem deeps_map : ∀ ks : List (Option Tr), deeps ks = mapK Tr.deep ks
  | [] => rfl
  | none :: ks => by show [] ++ deeps ks = _; rw [deeps_map ks] <;> rfl
  | some t :: ks => by show [t.deep] ++ deeps ks = _; rw [deeps_map ks] <;> rfl
theorem deep_ks (ks : List (Option Tr)) {m : Int} (h0 : 0 ≤ m) (h : ∀ t, some t ∈ ks → t.deep ≤ m) : maxI (deeps ks ++ [0]) ≤ m := by
  have hm := maxI_mem (l := deeps ks ++ [0]) (by simp)
  rcases List.mem_append.mp hm with hm | hm
  · rw [deeps_map] at hm ⊢
    have key : ∀ (ks : List (Option Tr)) (y : Int), (∀ t, some t ∈ ks → t.deep ≤ m) → y ∈ mapK Tr.deep ks → y ≤ m := by
      intro ks y h hy
      induction ks with
      | nil => cases hy
      | cons k ks ih =>
        cases k with
        | none => exact ih (fun t z => h t (List.mem_cons_of_mem _ z)) hy
        | some t =>
          rcases List.mem_cons.mp hy with rfl | hy
          · exact h t List.mem_cons_self
          · exact ih (fun t z => h t (List.mem_cons_of_mem _ z)) hy
    exact key ks _ h hm
  · rw [List.mem_singleton.mp hm]; exact h0
theorem deep_ok : ∀ (n : Nat) (t : Tr), Ok n t → t.deep ≤ n
  | 0, _, h => h.elim
  | n + 1, .nd b ks, h => by
    have := deep_ks ks (m := n) (by omega) fun t ht => deep_ok n t (h.2.2 _ ht)
    show 1 + maxI (deeps ks ++ [0]) ≤ ((n + 1 : Nat) : Int)
    omega
mutual
def pzD : Tr → D
  | .nd b ks => .obj 1 [.tup (b.map D.int), .tup (pzs ks), .int (Tr.nd b ks).size, .int (Tr.nd b ks).deep, .str (Tr.nd b ks).spell]
def pzs : List (Option Tr) → List D
  | [] => []
  | k :: ks => pzk k :: pzs ks
def pzk : Option Tr → D
  | none => .non
  | some t => pzD t
end
/-- what a puzzle tells -/
def pzF (t : Tr) : List D := match t with
  | .nd b ks => [.tup (b.map D.int), .tup (pzs ks), .int (Tr.nd b ks).size, .int (Tr.nd b ks).deep, .str (Tr.nd b ks).spell]
theorem pzD_eq (t : Tr) : pzD t = .obj 1 (pzF t) := by cases t; rfl
theorem pzs_map : ∀ ks : List (Option Tr), pzs ks = ks.map pzk
  | [] => rfl
  | k :: ks => by show pzk k :: pzs ks = _; rw [pzs_map ks] <;> rfl
theorem pzs_len (ks : List (Option Tr)) : (pzs ks).length = ks.length := by rw [pzs_map, List.length_map]
theorem pzs_mapO : ∀ ks : List (Option Tr), pzs ks = mapO D.non pzD ks
  | [] => rfl
  | none :: ks => by show D.non :: pzs ks = _; rw [pzs_mapO ks] <;> rfl
  | some t :: ks => by show pzD t :: pzs ks = _; rw [pzs_mapO ks] <;> rfl
theorem pzk_isN (k : Option Tr) : isN (pzk k) = !k.isSome := by
  cases k with
  | none => rfl
  | some t => show isN (pzD t) = false; rw [pzD_eq] <;> rfl
/-! spelling_of -/
def spSpell : HSp := fun ds S Q _ => ∃ (n : Nat) (b : List Int) (ks : List (Option Tr)), ds = [.tup (b.map D.int), .tup (pzs ks)] ∧ ksSize ks ≤ 500 ∧ Ok (n + 1) (.nd b ks) ∧ Q (.str (Tr.nd b ks).spell) S
def rdSpellingOf : HTS := (hSeq (hSet 3 (hIf (hTr (hV 0)) (hMt isStr gJoin (hC (.str ("" : PySem.Str))) (hCons (hLc (hiSq (hV 0)) (.nm 2) hYes (hcb gStr1 (hCons (hV 2) hNil)) [2]) hNil)) (hC (.str ("." : PySem.Str)))))
  (hSeq (hIfS (hNot (hTr (hV 1))) (hRet (hV 3)) hNx)
  (hSeq (hSet 5 (hMt isStr gJoin (hC (.str ("," : PySem.Str))) (hCons (hLc (hiSq (hV 1)) (.nm 4) hYes (hIf (hB (hop (gIsN false) (hV 4) (hC .non))) (hC (.str ("-" : PySem.Str))) (hun (gFld ix_spelling) (hV 4))) [4]) hNil)))
  (hRet (hJs [(hun gFmt (hV 3)), (hC (.str ("(" : PySem.Str))), (hun gFmt (hV 5)), (hC (.str (")" : PySem.Str)))] Str.empty)))))
theorem fld_pz {t : Tr} {ix : Nat → Option Nat} {i : Nat} {d : D} {S : Sto} {Q : HK} (e : ix 1 = some i) (ed : (pzF t)[i]? = some d) (h : Q d S) : gFld ix (pzD t) S Q := by
  rw [pzD_eq]
  unfold gFld
  dsimp only
  rw [e]
  dsimp only
  rw [ed]
  exact h
theorem pz_spell (t : Tr) : (pzF t)[4]? = some (.str t.spell) := by cases t; rfl
theorem pz_size (t : Tr) : (pzF t)[2]? = some (.int t.size) := by cases t; rfl
theorem pz_deep (t : Tr) : (pzF t)[3]? = some (.int t.deep) := by cases t; rfl
theorem dash_loop {i : Nat} {env : HEnv} {S : Sto} {Q : HK} (hi : i < env.length) : ∀ (ks : List (Option Tr)) (acc : List D), Q (.lst (acc ++ (spells ks).map D.str)) S →
    cloop (.nm i) hYes (hIf (hB (hop (gIsN false) (hV i) (hC .non))) (hC (.str ("-" : PySem.Str))) (hun (gFld ix_spelling) (hV i))) none (pzs ks) acc env S Q
  | [], acc, h => by
    show Q (.lst acc) S
    have e : acc ++ (spells []).map D.str = acc := List.append_nil acc
    rw [e] at h
    exact h
  | none :: ks, acc, h => by
    have ih := dash_loop (i := i) (env := env) (S := S) (Q := Q) hi ks (acc ++ [.str ("-" : PySem.Str)]) (by rw [List.append_assoc]; exact h)
    simp only [pzs, pzk, cloop, chk, bindD, hYes, hIf, hB, hop, hV, hC, List.getElem?_set_self hi, gIsN, isN, ng]
    exact ih
  | some t :: ks, acc, h => by
    have ih := dash_loop (i := i) (env := env) (S := S) (Q := Q) hi ks (acc ++ [.str t.spell]) (by rw [List.append_assoc]; exact h)
    have e := pzk_isN (some t)
    simp only [pzk] at e
    simp only [pzs, pzk, cloop, chk, bindD, hYes, hIf, hB, hop, hun, hV, hC, List.getElem?_set_self hi, gIsN, e, Option.isSome, ng, bnot_t]
    exact fld_pz (i := 4) rfl (pz_spell t) ih
theorem empty_app (z : Str) : Str.empty ++ z = z := by
  show Str.append Str.empty z = z
  cases z
  simp [Str.append, Str.empty]
theorem spelling_keeps {ds : List D} {S : Sto} {Q E : HK} (h : spSpell ds S Q E) : rdSpellingOf (EN Q E) (startE 6 ds) S := by
  obtain ⟨n, b, ks, rfl, hn, ok, g⟩ := h
  obtain ⟨h1, h2, hk⟩ := id ok
  unfold rdSpellingOf
  walk_at "q"
  have l1 := bitsS_len h1
  obtain ⟨p1, p2⟩ := par_len
  have key : ∀ z : Str, z = bitsS b → hSeq (hIfS (hNot (hTr (hV 1))) (hRet (hV 3)) hNx)
      (hSeq (hSet 5 (hMt isStr gJoin (hC (.str ("," : PySem.Str))) (hCons (hLc (hiSq (hV 1)) (.nm 4) hYes (hIf (hB (hop (gIsN false) (hV 4) (hC .non))) (hC (.str ("-" : PySem.Str))) (hun (gFld ix_spelling) (hV 4))) [4]) hNil)))
      (hRet (hJs [(hun gFmt (hV 3)), (hC (.str ("(" : PySem.Str))), (hun gFmt (hV 5)), (hC (.str (")" : PySem.Str)))] Str.empty))) (EN Q E) [some (.tup (b.map D.int)), some (.tup (pzs ks)), none, some (.str z), none, none] S := by
    rintro z rfl
    walk_at "q"
    cases ks with
    | nil => exact Rt.mk g
    | cons k r =>
      show hSeq (hSet 5 _) _ _ _ _
      walk_at "q"
      try dsimp only [gSq, items, ckOf]
      refine dash_loop (show 4 < 6 by decide) (k :: r) [] ?_
      rw [List.nil_append]
      obtain ⟨j1, j2⟩ := join_line hk h2 hn
      refine join_lst j1 ?_
      walk_at "p"
      simp only [hJs]
      walk_at "p"
      rw [empty_app]
      have e1 := str_len (bitsS b) ("(" : PySem.Str)
      have e2 := str_len (bitsS b ++ ("(" : PySem.Str)) (Txt.join ("," : PySem.Str) (spells (k :: r)))
      have e3 := str_len (bitsS b ++ ("(" : PySem.Str) ++ Txt.join ("," : PySem.Str) (spells (k :: r))) (")" : PySem.Str)
      refine ⟨line_le (by omega), by omega, by omega, line_le (by omega), by omega, by omega, ?_⟩
      exact Rt.mk g
  cases b with
  | nil => exact key _ rfl
  | cons x r =>
    simp only [List.map_cons, List.isEmpty_cons, Bool.not_false, gSq, items, ckOf]
    refine num_loop (show 2 < 6 by decide) (x :: r) [] h1.1 ?_
    rw [List.nil_append, show ((x :: r).map fun x => D.str (numS x)) = ((x :: r).map numS).map D.str by rw [List.map_map] <;> rfl]
    refine join_lst (bits_line h1) ?_
    exact key _ rfl
end Hy

set_option Elab.async false
set_option linter.all false
set_option maxRecDepth 100000
set_option maxHeartbeats 4000000
set_option autoImplicit false
namespace Hy
open PySem PySem.Spec PyProof.Rows L2
local macro_rules | `(tactic| walk_at "p") => `(tactic| try simp only [hSet, hAsg, hRet, hRetN, hExpr, hIfS, hNx, hop, hun, hcb, hV, hC, hB, hTr, hNot, hAnd, hOr, hIf, hTup, hLst, hLstM, hCons, hNil, hCall, hMeth, hMake, hMt, hSl, hNoP, hPart, hSetI, hFst, hOrT, hAndT, hNotT, hAug, bindD, bindDs, hEqO, hInO, hGetO, hiEnum, hRaise, hPar3, hYes, hFor, hLc, hLcM, hiR1, hiR2, hiSq_eq, wipeN, startE, List.map_cons, List.map_nil, List.length_cons, List.length_nil, List.replicate, List.cons_append, List.nil_append, List.append_nil, List.getElem?_cons_zero, List.getElem?_cons_succ, List.set_cons_zero, List.set_cons_succ, Nat.reduceAdd, Nat.reduceSub, Nat.zero_add, gI0, gI, gTru, gFmt, gNeg, gOrd, gIsN, isN, ng, Nat.beq, Nat.ble, isStr, bnot_t, bnot_f])
local macro_rules | `(tactic| walk_at "q") => `(tactic| ((try dsimp only); refine seq_ ?_; walk_at "p"))
local macro_rules | `(tactic| walk_at "g") => `(tactic| try simp only [gLt, gLe, gGt, gGe, gSub, gOrd, gI0, gI, gAdd, gNeg])
/-! ### Puzzle.__init__ -/
theorem lastOf_all {α : Type} {p : α → Bool} {xs : List α} {m : Nat} (h : ∀ i x, xs[i]? = some x → m ≤ i → p x = false) : lastOf p xs ≤ m := by
  induction xs generalizing m with
  | nil => exact Nat.zero_le _
  | cons x xs ih =>
    unfold lastOf
    cases m with
    | zero =>
      have e := ih (m := 0) fun i y hy _ => h (i + 1) y (by simpa using hy) (Nat.zero_le _)
      have e0 : lastOf p xs = 0 := by omega
      rw [e0]
      dsimp only
      rw [h 0 x rfl (Nat.le_refl _)]
      exact Nat.le_refl _
    | succ m =>
      have e := ih (m := m) fun i y hy hi => h (i + 1) y (by simpa using hy) (by omega)
      split
      · split <;> omega
      · omega
theorem lastOf_at {α : Type} {p : α → Bool} {xs : List α} {i : Nat} {x : α} (hx : xs[i]? = some x) (hp : p x = true) : i < lastOf p xs := by
  induction xs generalizing i with
  | nil => simp at hx
  | cons y xs ih =>
    unfold lastOf
    cases i with
    | zero =>
      simp at hx
      subst hx
      split
      · rw [hp]; exact Nat.one_pos
      · omega
    | succ i =>
      have := ih (i := i) (by simpa using hx)
      split
      · omega
      · omega
/-- while at > 0 and row[at - 1] is spare: at -= 1 -/
theorem while_short {tc : HTT} {tb : HTS} {xs : List D} {p : D → Bool} {i : Nat} {env : HEnv} {S : Sto} {D0 : HEnds}
    (hc : ∀ (m : Nat) (Q : Bool → Sto → Prop) (E : HK), m ≤ xs.length → (m = 0 → Q false S) → (∀ k x, m = k + 1 → xs[k]? = some x → Q (!p x) S) → tc (env.set i (some (.int (m : Nat)))) S Q E)
    (hb : ∀ (k : Nat) (D : HEnds), D.nx (env.set i (some (.int (k : Nat)))) S → tb D (env.set i (some (.int (k + 1 : Nat)))) S)
    (h : D0.nx (env.set i (some (.int (lastOf p xs : Nat)))) S) : hWhile tc tb D0 (env.set i (some (.int (xs.length : Nat)))) S := by
  refine ⟨fun m e S' => e = env.set i (some (.int (m : Nat))) ∧ S' = S ∧ lastOf p xs ≤ m ∧ m ≤ xs.length ∧ ∀ j x, xs[j]? = some x → m ≤ j → p x = false, ⟨xs.length, rfl, rfl, lastOf_le _ _, Nat.le_refl _, fun j x hx hj => ?_⟩, ?_⟩
  · obtain ⟨hl, _⟩ := List.getElem?_eq_some_iff.mp hx
    omega
  rintro m e S' ⟨rfl, rfl, h1, h2, h3⟩
  refine hc m _ _ h2 (fun e => ?_) fun k x e hx => ?_
  · subst e
    have e0 : lastOf p xs = 0 := by omega
    rw [e0] at h
    exact h
  · subst e
    cases ep : p x with
    | true =>
      have := lastOf_at hx ep
      have e1 : lastOf p xs = k + 1 := by omega
      rw [e1] at h
      exact h
    | false =>
      have h4 : ∀ j x, xs[j]? = some x → k ≤ j → p x = false := fun j y hy hj => by
        rcases Nat.lt_or_ge k j with hj2 | hj2
        · exact h3 j y hy hj2
        · have : j = k := by omega
          subst this
          rw [hx] at hy
          cases hy
          exact ep
      exact hb k _ ⟨k, Nat.lt_succ_self k, rfl, rfl, lastOf_all h4, by omega, h4⟩
/-- a row handed in: how it is read while only p changes -/
structure RowAt (S : Sto) (p : Addr) (x : D) (xs : List D) : Prop where
  it : ∀ S', (∀ a, a ≠ p → S' a = S a) → items S' x = some xs ∧ (∀ A : Prop, A → chk (ckOf x xs) S' A) ∧ ∀ (n : Nat) (Q : HK), Q (.tup (xs.take n)) S' → gSl x none (some (n : Int)) S' fun y S2 => gTuple [y] S2 Q
theorem rowLst {S : Sto} {p : Addr} {xs : List D} : RowAt S p (.lst xs) xs := ⟨fun S' _ => ⟨rfl, fun A a => a, fun n Q h => sl_seq (c := .lst) (.inr rfl) h⟩⟩
theorem rowTup {S : Sto} {p : Addr} {xs : List D} : RowAt S p (.tup xs) xs := ⟨fun S' _ => ⟨rfl, fun A a => a, fun n Q h => sl_seq (c := .tup) (.inl rfl) h⟩⟩
theorem rowRef {S : Sto} {p q : Addr} {xs : List D} (hq : S q = some (.lst xs)) (ne : q ≠ p) : RowAt S p (.ref q) xs := ⟨fun S' f => by
  have e : S' q = some (.lst xs) := (f q ne).trans hq
  have it : items S' (.ref q) = some xs := by unfold items; dsimp only; rw [e]
  refine ⟨it, fun A a => ⟨e, a⟩, fun n Q h => ?_⟩
  have itl : itemsL S' (.ref q) = some xs := by unfold itemsL; dsimp only; rw [e]
  unfold gSl
  dsimp only
  rw [itl]
  dsimp only
  rw [cut_take]
  exact h⟩
def spInit : HSp := fun ds S Q _ => ∃ (p : Addr) (n : Nat) (b : List Int) (ks : List (Option Tr)) (x y : D), ds = [.ref p, x, y] ∧ RowAt S p x (b.map D.int) ∧ RowAt S p y (pzs ks) ∧ S p = some (.ins 1 []) ∧ n + 1 ≤ 30 ∧ Ok (n + 1) (.nd b ks) ∧ (Tr.nd b ks).size ≤ 500 ∧ Q .non (up S p (.ins 1 (pzF (.nd (short nz b) (short Option.isSome ks)))))
def rdInit (sp_spelling_of : HSp) : HTS := (hSeq (hIfS (hNot (hTr (hcb gAll (hCons (hLc (hiSq (hV 1)) (.nm 3) hYes (hop gIn (hV 3) (hTup (hCons (hC (.int 0)) (hCons (hC (.int 1)) hNil)))) [3]) hNil)))) hNever hNx)
  (hSeq (hFor (hiSq (hV 2)) (.nm 4) (hIfS (hAnd (hB (hop (gIsN true) (hV 4) (hC .non))) (hNot (hTr (hun (gIsi1 1 [1]) (hV 4))))) hNever hNx))
  (hSeq (hSet 5 (hcb gLen (hCons (hV 1) hNil)))
  (hSeq (hWhile (hAnd (hB (hop gGt (hV 5) (hC (.int 0)))) (hB (hop gEq (hop gIx (hV 1) (hop gSub (hV 5) (hC (.int 1)))) (hC (.int 0))))) (hAug 5 gSub (hC (.int 1))))
  (hSeq (hFst ix_bits (hV 0) (hcb gTuple (hCons (hSl (hV 1) hNoP (hPart (hV 5))) hNil)))
  (hSeq (hSet 6 (hcb gLen (hCons (hV 2) hNil)))
  (hSeq (hWhile (hAnd (hB (hop gGt (hV 6) (hC (.int 0)))) (hB (hop (gIsN false) (hop gIx (hV 2) (hop gSub (hV 6) (hC (.int 1)))) (hC .non)))) (hAug 6 gSub (hC (.int 1))))
  (hSeq (hFst ix_children (hV 0) (hcb gTuple (hCons (hSl (hV 2) hNoP (hPart (hV 6))) hNil)))
  (hSeq (hSet 7 (hLc (hiSq (hun (gFld ix_children) (hV 0))) (.nm 4) (hB (hop (gIsN true) (hV 4) (hC .non))) (hV 4) [4]))
  (hSeq (hFst ix_size (hV 0) (hop gAdd (hC (.int 1)) (hcb gSum (hCons (hLc (hiSq (hV 7)) (.nm 4) hYes (hun (gFld ix_size) (hV 4)) [4]) hNil))))
  (hSeq (hFst ix_depth (hV 0) (hop gAdd (hC (.int 1)) (hcb gMaxL (hCons (hop gAdd (hLc (hiSq (hV 7)) (.nm 4) hYes (hun (gFld ix_depth) (hV 4)) [4]) (hLst (hCons (hC (.int 0)) hNil))) hNil))))
  (hSeq (hIfS (hOr (hB (hop gGt (hun (gFld ix_size) (hV 0)) (hC (.int 500)))) (hB (hop gGt (hun (gFld ix_depth) (hV 0)) (hC (.int 30))))) hNever hNx)
  (hFst ix_spelling (hV 0) (hCall 2 [] sp_spelling_of (hCons (hun (gFld ix_bits) (hV 0)) (hCons (hun (gFld ix_children) (hV 0)) hNil))))))))))))))))
theorem in01_loop {i : Nat} {env : HEnv} {S : Sto} {Q : HK} {k : Ck} (hi : i < env.length) (ck : ∀ A : Prop, A → chk k S A) : ∀ (b : List Int) (acc : List D), (∀ x ∈ b, x = 0 ∨ x = 1) → Q (.lst (acc ++ (b.map fun _ => true).map D.bl)) S →
    cloop (.nm i) hYes (hop gIn (hV i) (hTup (hCons (hC (.int 0)) (hCons (hC (.int 1)) hNil)))) k (b.map D.int) acc env S Q
  | [], acc, _, h => by
    refine ck _ ?_
    have e : acc ++ (([] : List Int).map fun _ => true).map D.bl = acc := List.append_nil acc
    rw [e] at h
    exact h
  | x :: b, acc, hb, h => by
    have ih := in01_loop (i := i) (env := env) (S := S) (Q := Q) hi ck b (acc ++ [.bl true]) (fun y z => hb y (List.mem_cons_of_mem _ z)) (by rw [List.append_assoc]; exact h)
    refine ck _ ?_
    simp only [bindD, hYes, hop, hTup, hCons, hNil, hC, hV, List.getElem?_set_self hi]
    rcases hb x List.mem_cons_self with rfl | rfl
    · exact ih
    · exact ih
theorem isi_pz (t : Tr) {S : Sto} {Q : HK} (h : Q (.bl true) S) : gIsi1 1 [1] (pzD t) S Q := by
  rw [pzD_eq]; exact h
theorem kids_ok {i : Nat} {S : Sto} {D0 : HEnds} {kk : Ck} (ck : ∀ A : Prop, A → chk kk S A) : ∀ (ks : List (Option Tr)) (env : HEnv), i < env.length → (∀ y, D0.nx (env.set i y) S) → D0.nx env S →
    floop (.nm i) (hIfS (hAnd (hB (hop (gIsN true) (hV i) (hC .non))) (hNot (hTr (hun (gIsi1 1 [1]) (hV i))))) hNever hNx) kk (pzs ks) D0 env S
  | [], env, _, _, h => ck _ h
  | k :: ks, env, hi, h, h0 => by
    have ih := kids_ok (D0 := D0) (S := S) ck ks (env.set i (some (pzk k))) (by rw [List.length_set]; exact hi) (fun y => by rw [List.set_set]; exact h y) (h _)
    refine ck _ ?_
    cases k with
    | none =>
      simp only [pzs, pzk, bindD, hIfS, hAnd, hB, hNot, hop, hV, hC, List.getElem?_set_self hi, gIsN, isN, ng, hNx, bnot_t]
      exact ih
    | some t =>
      have e := pzk_isN (some t)
      simp only [pzk] at e
      simp only [pzs, pzk, bindD, hIfS, hAnd, hB, hNot, hTr, hun, hop, hV, hC, List.getElem?_set_self hi, gIsN, e, Option.isSome, ng, hNx, bnot_t, bnot_f]
      refine isi_pz t ?_
      exact ih
theorem there_loop {i : Nat} {env : HEnv} {S : Sto} {Q : HK} (hi : i < env.length) : ∀ (ks : List (Option Tr)) (acc : List D), Q (.lst (acc ++ mapK pzD ks)) S →
    cloop (.nm i) (hB (hop (gIsN true) (hV i) (hC .non))) (hV i) none (pzs ks) acc env S Q
  | [], acc, h => by
    show Q (.lst acc) S
    have e : acc ++ mapK pzD [] = acc := List.append_nil acc
    rw [e] at h
    exact h
  | none :: ks, acc, h => by
    have ih := there_loop (i := i) (env := env) (S := S) (Q := Q) hi ks acc h
    simp only [pzs, pzk, cloop, chk, bindD, hB, hop, hV, hC, List.getElem?_set_self hi, gIsN, isN, ng, bnot_t]
    exact ih
  | some t :: ks, acc, h => by
    have ih := there_loop (i := i) (env := env) (S := S) (Q := Q) hi ks (acc ++ [pzD t]) (by rw [List.append_assoc]; exact h)
    have e := pzk_isN (some t)
    simp only [pzk] at e
    simp only [pzs, pzk, cloop, chk, bindD, hB, hop, hV, hC, List.getElem?_set_self hi, gIsN, e, Option.isSome, ng, bnot_t, bnot_f]
    exact ih
theorem fld_loop {i j : Nat} {ix : Nat → Option Nat} {f : Tr → Int} {env : HEnv} {S : Sto} {Q : HK} (hi : i < env.length) (hx : ix 1 = some j) (hf : ∀ t, (pzF t)[j]? = some (.int (f t))) : ∀ (ks : List (Option Tr)) (acc : List D), Q (.lst (acc ++ (mapK f ks).map D.int)) S →
    cloop (.nm i) hYes (hun (gFld ix) (hV i)) none (mapK pzD ks) acc env S Q
  | [], acc, h => by
    show Q (.lst acc) S
    have e : acc ++ (mapK f []).map D.int = acc := List.append_nil acc
    rw [e] at h
    exact h
  | none :: ks, acc, h => fld_loop (i := i) (env := env) (S := S) (Q := Q) hi hx hf ks acc h
  | some t :: ks, acc, h => by
    have ih := fld_loop (i := i) (env := env) (S := S) (Q := Q) hi hx hf ks (acc ++ [.int (f t)]) (by rw [List.append_assoc]; exact h)
    simp only [mapK, cloop, chk, bindD, hYes, hun, hV, List.getElem?_set_self hi]
    exact fld_pz hx (hf t) ih
theorem fst_ref {ix : Nat → Option Nat} {c i : Nat} {q : Addr} {ds ds' : List D} {d : D} {S : Sto} {K : Sto → Prop} (h : S q = some (.ins c ds)) (e : ix c = some i) (e2 : putD ds i d = some ds') (g : K (up S q (.ins c ds'))) : gFst ix (.ref q) d S K := by
  unfold gFst
  dsimp only
  rw [h]
  dsimp only
  rw [e]
  dsimp only
  rw [e2]
  exact g
theorem fld_ref {ix : Nat → Option Nat} {c i : Nat} {q : Addr} {ds : List D} {d : D} {S : Sto} {Q : HK} (h : S q = some (.ins c ds)) (e : ix c = some i) (e2 : ds[i]? = some d) (g : Q d S) : gFld ix (.ref q) S Q := by
  unfold gFld
  dsimp only
  rw [h]
  dsimp only
  rw [e]
  dsimp only
  rw [e2]
  exact g
theorem mapK_short {α : Type} (f : Tr → α) (ks : List (Option Tr)) : mapK f (short Option.isSome ks) = mapK f ks := by
  have key : ∀ ks : List (Option Tr), mapK f (ks.take (lastOf Option.isSome ks)) = mapK f ks := by
    intro ks
    induction ks with
    | nil => rfl
    | cons k ks ih =>
      unfold lastOf
      cases e : lastOf Option.isSome ks with
      | zero =>
        rw [e] at ih
        cases k with
        | none => exact ih
        | some t => show f t :: mapK f [] = f t :: mapK f ks; rw [← ih] <;> rfl
      | succ m =>
        rw [e] at ih
        cases k with
        | none => exact ih
        | some t => show f t :: mapK f (ks.take (m + 1)) = f t :: mapK f ks; rw [ih]
  exact key ks
theorem eq_zero (x : Int) (S : Sto) (K : HK) (h : K (.bl (!nz x)) S) : gEq (.int x) (.int 0) S K := by
  show K (.bl (ng false (deq (.int x) (.int 0)))) S
  have e : deq (.int x) (.int 0) = (x == 0) := by simp [deq, toP, PyData.eqv]
  rw [e]
  have e2 : (!nz x) = (x == 0) := by unfold nz; simp [bne]
  rw [e2] at h
  exact h
end Hy

set_option Elab.async false
set_option linter.all false
set_option maxRecDepth 100000
set_option maxHeartbeats 4000000
set_option autoImplicit false
namespace Hy
open PySem PySem.Spec PyProof.Rows L2
local macro_rules | `(tactic| walk_at "p") => `(tactic| try simp only [hSet, hAsg, hRet, hRetN, hExpr, hIfS, hNx, hop, hun, hcb, hV, hC, hB, hTr, hNot, hAnd, hOr, hIf, hTup, hLst, hLstM, hCons, hNil, hCall, hMeth, hMake, hMt, hSl, hNoP, hPart, hSetI, hFst, hOrT, hAndT, hNotT, hAug, bindD, bindDs, hEqO, hInO, hGetO, hiEnum, hRaise, hPar3, hYes, hFor, hLc, hLcM, hiR1, hiR2, hiSq_eq, wipeN, startE, List.map_cons, List.map_nil, List.length_cons, List.length_nil, List.replicate, List.cons_append, List.nil_append, List.append_nil, List.getElem?_cons_zero, List.getElem?_cons_succ, List.set_cons_zero, List.set_cons_succ, Nat.reduceAdd, Nat.reduceSub, Nat.zero_add, gI0, gI, gTru, gFmt, gNeg, gOrd, gIsN, isN, ng, Nat.beq, Nat.ble, isStr, bnot_t, bnot_f])
local macro_rules | `(tactic| walk_at "q") => `(tactic| ((try dsimp only); refine seq_ ?_; walk_at "p"))
local macro_rules | `(tactic| walk_at "g") => `(tactic| try simp only [gLt, gLe, gGt, gGe, gSub, gOrd, gI0, gI, gAdd, gNeg])
theorem oks_short {n : Nat} {ks : List (Option Tr)} (h : Oks n ks) : Oks n (short Option.isSome ks) := fun k hk => h k (short_mem hk)
theorem ok_short {n : Nat} {b : List Int} {ks : List (Option Tr)} (h : Ok (n + 1) (.nd b ks)) : Ok (n + 1) (.nd (short nz b) (short Option.isSome ks)) :=
  ⟨⟨fun x hx => h.1.1 x (short_mem hx), Nat.le_trans (short_len _ _) h.1.2⟩, Nat.le_trans (short_len _ _) h.2.1, oks_short h.2.2⟩
theorem size_eq (b : List Int) (ks : List (Option Tr)) : (Tr.nd b ks).size = 1 + (mapK Tr.size ks).sum := by
  rw [size_sum] <;> rfl
theorem deep_eq (b : List Int) (ks : List (Option Tr)) : (Tr.nd b ks).deep = 1 + maxI (mapK Tr.deep ks ++ [0]) := by
  rw [← deeps_map] <;> rfl
theorem add_lst {xs ys : List D} {S : Sto} {Q : HK} (hl : xs.length + ys.length ≤ 16777216) (h : Q (.lst (xs ++ ys)) S) : gAdd (.lst xs) (.lst ys) S Q := ⟨line_le hl, h⟩
theorem mapK_len {α : Type} (f : Tr → α) : ∀ ks : List (Option Tr), (mapK f ks).length ≤ ks.length
  | [] => Nat.le_refl _
  | none :: ks => Nat.le_succ_of_le (mapK_len f ks)
  | some t :: ks => Nat.succ_le_succ (mapK_len f ks)
theorem max_lst {ns : List Int} {x : Int} {S : Sto} {Q : HK} (h : Q (.int (maxI (ns ++ [x]))) S) : gMaxL [.lst (ns.map D.int ++ [.int x])] S Q := by
  have e : ns.map D.int ++ [.int x] = (ns ++ [x]).map D.int := by rw [List.map_append] <;> rfl
  rw [e]
  refine over_lst (ints_map _) ?_
  cases e2 : ns ++ [x] with
  | nil => simp at e2
  | cons y ys => rw [e2] at h; exact h
theorem init_keeps {ds : List D} {S : Sto} {Q E : HK} (h : spInit ds S Q E) : rdInit spSpell (EN Q E) (startE 8 ds) S := by
  obtain ⟨p, n, b, ks, x0, y0, rfl, hx0, hy0, hp, hn, ok, hsz, g⟩ := h
  obtain ⟨ix0, cx0, sx0⟩ := hx0.it S fun _ _ => rfl
  obtain ⟨iy0, cy0, sy0⟩ := hy0.it S fun _ _ => rfl
  obtain ⟨h1, h2, hk⟩ := id ok
  unfold rdInit
  walk_at "q"
  refine sq_items ix0 ?_
  refine in01_loop (show 3 < 8 by decide) cx0 b [] h1.1 ?_
  rw [List.nil_append]
  refine over_lst (bls_map _) ?_
  have e1 : (b.map fun _ => true).all id = true := by simp
  rw [e1]
  dsimp only
  walk_at "q"
  refine sq_items iy0 ?_
  suffices step : ∀ y : Option D, hSeq (hSet 5 (hcb gLen (hCons (hV 1) hNil)))
      (hSeq (hWhile (hAnd (hB (hop gGt (hV 5) (hC (.int 0)))) (hB (hop gEq (hop gIx (hV 1) (hop gSub (hV 5) (hC (.int 1)))) (hC (.int 0))))) (hAug 5 gSub (hC (.int 1))))
      (hSeq (hFst ix_bits (hV 0) (hcb gTuple (hCons (hSl (hV 1) hNoP (hPart (hV 5))) hNil)))
      (hSeq (hSet 6 (hcb gLen (hCons (hV 2) hNil)))
      (hSeq (hWhile (hAnd (hB (hop gGt (hV 6) (hC (.int 0)))) (hB (hop (gIsN false) (hop gIx (hV 2) (hop gSub (hV 6) (hC (.int 1)))) (hC .non)))) (hAug 6 gSub (hC (.int 1))))
      (hSeq (hFst ix_children (hV 0) (hcb gTuple (hCons (hSl (hV 2) hNoP (hPart (hV 6))) hNil)))
      (hSeq (hSet 7 (hLc (hiSq (hun (gFld ix_children) (hV 0))) (.nm 4) (hB (hop (gIsN true) (hV 4) (hC .non))) (hV 4) [4]))
      (hSeq (hFst ix_size (hV 0) (hop gAdd (hC (.int 1)) (hcb gSum (hCons (hLc (hiSq (hV 7)) (.nm 4) hYes (hun (gFld ix_size) (hV 4)) [4]) hNil))))
      (hSeq (hFst ix_depth (hV 0) (hop gAdd (hC (.int 1)) (hcb gMaxL (hCons (hop gAdd (hLc (hiSq (hV 7)) (.nm 4) hYes (hun (gFld ix_depth) (hV 4)) [4]) (hLst (hCons (hC (.int 0)) hNil))) hNil))))
      (hSeq (hIfS (hOr (hB (hop gGt (hun (gFld ix_size) (hV 0)) (hC (.int 500)))) (hB (hop gGt (hun (gFld ix_depth) (hV 0)) (hC (.int 30))))) hNever hNx)
      (hFst ix_spelling (hV 0) (hCall 2 [] spSpell (hCons (hun (gFld ix_bits) (hV 0)) (hCons (hun (gFld ix_children) (hV 0)) hNil))))))))))))) (EN Q E)
      [some (.ref p), some x0, some y0, none, y, none, none, none] S by
    exact kids_ok (i := 4) cy0 ks [some (.ref p), some x0, some y0, none, none, none, none, none] (by show 4 < 8; decide) (fun y => step y) (step none)
  intro y
  walk_at "q"
  refine len_items (xs := b.map D.int) ix0 ?_
  refine seq_ ?_
  have el : ((b.map D.int).length : Int) = ((b.map D.int).length : Nat) := rfl
  refine while_short (xs := b.map D.int) (p := isI) (i := 5) (env := [some (.ref p), some x0, some y0, none, y, none, none, none]) (fun m Q E hm h0 hs => ?_) (fun k D h => ?_) ?_
  · walk_at "p"
    cases m with
    | zero => exact h0 rfl
    | succ k =>
      have hlt : k < (b.map D.int).length := by omega
      rw [show decide ((0 : Int) < ((k + 1 : Nat) : Int)) = true by simp]
      dsimp only
      rw [show ((k + 1 : Nat) : Int) - 1 = (k : Int) by omega]
      refine ix_items (xs := b.map D.int) ix0 (atI_nat hlt) ?_
      have hx : (b.map D.int)[k]? = some (b.map D.int)[k] := List.getElem?_eq_getElem hlt
      have hq := hs k _ rfl hx
      rw [List.getElem_map] at hq ⊢
      exact eq_zero _ S _ hq
  · walk_at "p"
    rw [show ((k + 1 : Nat) : Int) - 1 = (k : Int) by omega]
    exact h
  have e3 : lastOf isI (b.map D.int) = lastOf nz b := lastOf_map isI D.int b
  rw [e3]
  walk_at "q"
  refine sx0 _ _ ?_
  refine fst_ref hp (i := 0) rfl rfl ?_
  rw [List.nil_append, ← List.map_take]
  have hp1 : up S p (.ins 1 [.tup ((b.take (lastOf nz b)).map D.int)]) p = some (.ins 1 [.tup ((b.take (lastOf nz b)).map D.int)]) := up_same
  obtain ⟨iy1, cy1, sy1⟩ := hy0.it (up S p (.ins 1 [.tup ((b.take (lastOf nz b)).map D.int)])) fun a ha => up_ne ha
  walk_at "q"
  refine len_items (xs := pzs ks) iy1 ?_
  refine seq_ ?_
  refine while_short (xs := pzs ks) (p := fun d => !isN d) (i := 6) (env := [some (.ref p), some x0, some y0, none, y, some (.int (lastOf nz b : Nat)), none, none]) (fun m Q E hm h0 hs => ?_) (fun k D h => ?_) ?_
  · walk_at "p"
    cases m with
    | zero => exact h0 rfl
    | succ k =>
      have hlt : k < (pzs ks).length := by omega
      rw [show decide ((0 : Int) < ((k + 1 : Nat) : Int)) = true by simp]
      dsimp only
      rw [show ((k + 1 : Nat) : Int) - 1 = (k : Int) by omega]
      refine ix_items (xs := pzs ks) iy1 (atI_nat hlt) ?_
      have hx : (pzs ks)[k]? = some (pzs ks)[k] := List.getElem?_eq_getElem hlt
      have hq := hs k _ rfl hx
      rw [Bool.not_not] at hq
      exact hq
  · walk_at "p"
    rw [show ((k + 1 : Nat) : Int) - 1 = (k : Int) by omega]
    exact h
  have e4 : lastOf (fun d => !isN d) (pzs ks) = lastOf Option.isSome ks := by
    rw [pzs_map, lastOf_map]
    congr 1
    funext k
    rw [pzk_isN, Bool.not_not]
  rw [e4]
  walk_at "q"
  refine sy1 _ _ ?_
  refine fst_ref hp1 (i := 1) rfl rfl ?_
  have e5 : (pzs ks).take (lastOf Option.isSome ks) = pzs (short Option.isSome ks) := by
    rw [pzs_map, ← List.map_take, ← pzs_map] <;> rfl
  rw [e5, up_up]
  have oks := ok_short ok
  have esz : (mapK Tr.size ks) = mapK Tr.size (short Option.isSome ks) := (mapK_short _ ks).symm
  generalize hks' : short Option.isSome ks = ks' at *
  rw [show b.take (lastOf nz b) = short nz b from rfl]
  generalize hb' : short nz b = b' at *
  show hSeq _ _ _ _ (up S p (.ins 1 [.tup (b'.map D.int), .tup (pzs ks')]))
  have hp2 : up S p (.ins 1 [.tup (b'.map D.int), .tup (pzs ks')]) p = some (.ins 1 [.tup (b'.map D.int), .tup (pzs ks')]) := up_same
  walk_at "q"
  refine fld_ref hp2 (i := 1) rfl rfl ?_
  try dsimp only [gSq, items, ckOf]
  refine there_loop (show 4 < 8 by decide) ks' [] ?_
  rw [List.nil_append]
  walk_at "q"
  try dsimp only [gSq, items, ckOf]
  refine fld_loop (j := 2) (f := Tr.size) (show 4 < 8 by decide) rfl pz_size ks' [] ?_
  rw [List.nil_append]
  refine over_lst (ints_map _) ?_
  try dsimp only [gAdd]
  refine fst_ref hp2 (i := 2) rfl rfl ?_
  rw [up_up, ← size_eq b' ks']
  show hSeq _ _ _ _ (up S p (.ins 1 [.tup (b'.map D.int), .tup (pzs ks'), .int (Tr.nd b' ks').size]))
  have hp3 : up S p (.ins 1 [.tup (b'.map D.int), .tup (pzs ks'), .int (Tr.nd b' ks').size]) p = some (.ins 1 [.tup (b'.map D.int), .tup (pzs ks'), .int (Tr.nd b' ks').size]) := up_same
  walk_at "q"
  try dsimp only [gSq, items, ckOf]
  refine fld_loop (j := 3) (f := Tr.deep) (show 4 < 8 by decide) rfl pz_deep ks' [] ?_
  rw [List.nil_append]
  have l1 := mapK_len Tr.deep ks'
  have l2 : ks'.length ≤ 600 := oks.2.1
  refine add_lst (by rw [List.length_map]; show _ + 1 ≤ _; omega) ?_
  refine max_lst ?_
  try dsimp only [gAdd]
  refine fst_ref hp3 (i := 3) rfl rfl ?_
  rw [up_up, ← deep_eq b' ks']
  show hSeq _ _ _ _ (up S p (.ins 1 [.tup (b'.map D.int), .tup (pzs ks'), .int (Tr.nd b' ks').size, .int (Tr.nd b' ks').deep]))
  have hp4 : up S p (.ins 1 [.tup (b'.map D.int), .tup (pzs ks'), .int (Tr.nd b' ks').size, .int (Tr.nd b' ks').deep]) p = some (.ins 1 [.tup (b'.map D.int), .tup (pzs ks'), .int (Tr.nd b' ks').size, .int (Tr.nd b' ks').deep]) := up_same
  walk_at "q"
  refine fld_ref hp4 (i := 2) rfl rfl ?_
  have hs5 : (Tr.nd b' ks').size ≤ 500 := by
    rw [size_eq, ← esz, ← size_eq b ks]; exact hsz
  have hd5 : (Tr.nd b' ks').deep ≤ 30 := by
    have := deep_ok _ _ oks
    omega
  walk_at "g"
  rw [decide_eq_false (Int.not_lt.mpr hs5)]
  dsimp only
  refine fld_ref hp4 (i := 3) rfl rfl ?_
  walk_at "g"
  rw [decide_eq_false (Int.not_lt.mpr hd5)]
  dsimp only
  refine fld_ref hp4 (i := 0) rfl rfl ?_
  refine fld_ref hp4 (i := 1) rfl rfl ?_
  refine ⟨n, b', ks', rfl, (by have : 1 + ksSize ks' ≤ 500 := hs5; omega), oks, ?_⟩
  refine fst_ref hp4 (i := 4) rfl rfl ?_
  rw [up_up]
  exact Rt.mk g
end Hy

set_option Elab.async false
set_option linter.all false
set_option maxRecDepth 100000
set_option maxHeartbeats 4000000
set_option autoImplicit false
namespace Hy
open PySem PySem.Spec PyProof.Rows L2
local macro_rules | `(tactic| walk_at "p") => `(tactic| try simp only [hSet, hAsg, hRet, hRetN, hExpr, hIfS, hNx, hop, hun, hcb, hV, hC, hB, hTr, hNot, hAnd, hOr, hIf, hTup, hLst, hLstM, hCons, hNil, hCall, hMeth, hMake, hMt, hSl, hNoP, hPart, hSetI, hFst, hOrT, hAndT, hNotT, hAug, bindD, bindDs, hEqO, hInO, hGetO, hiEnum, hRaise, hPar3, hYes, hFor, hLc, hLcM, hiR1, hiR2, hiSq_eq, wipeN, startE, List.map_cons, List.map_nil, List.length_cons, List.length_nil, List.replicate, List.cons_append, List.nil_append, List.append_nil, List.getElem?_cons_zero, List.getElem?_cons_succ, List.set_cons_zero, List.set_cons_succ, Nat.reduceAdd, Nat.reduceSub, Nat.zero_add, gI0, gI, gTru, gFmt, gNeg, gOrd, gIsN, isN, ng, Nat.beq, Nat.ble, isStr, bnot_t, bnot_f])
local macro_rules | `(tactic| walk_at "q") => `(tactic| ((try dsimp only); refine seq_ ?_; walk_at "p"))
local macro_rules | `(tactic| walk_at "g") => `(tactic| try simp only [gLt, gLe, gGt, gGe, gSub, gOrd, gI0, gI, gAdd, gNeg])
/-! ### a tree's puzzle -/
abbrev ptD (t : Tr) : D := pzD t.trim
theorem mapO_pt : ∀ ks : List (Option Tr), mapO D.non ptD ks = pzs (trims ks)
  | [] => rfl
  | none :: ks => by show D.non :: mapO _ _ ks = D.non :: pzs (trims ks); rw [mapO_pt ks]
  | some t :: ks => by show ptD t :: mapO _ _ ks = ptD t :: pzs (trims ks); rw [mapO_pt ks]
mutual
theorem trim_size : ∀ t : Tr, t.trim.size = t.size
  | .nd b ks => by
    show (Tr.nd (short nz b) (short Option.isSome (trims ks))).size = 1 + ksSize ks
    rw [size_eq, mapK_short, size_sum, trims_size ks]
theorem trims_size : ∀ ks : List (Option Tr), ksSize (trims ks) = ksSize ks
  | [] => rfl
  | none :: ks => by show 0 + ksSize (trims ks) = 0 + ksSize ks; rw [trims_size ks]
  | some t :: ks => by show t.trim.size + ksSize (trims ks) = t.size + ksSize ks; rw [trims_size ks, trim_size t]
end
def rdLawPuzzle (sp sp2 : HSp) : HTS := (hSeq (hSet 2 (hLc (hiSq (hop gIx (hV 0) (hC (.int 1)))) (.nm 1) hYes (hIf (hB (hop (gIsN false) (hV 1) (hC .non))) (hC .non) (hCall 1 [] sp (hCons (hV 1) hNil))) [1]))
  (hRet (hMake 1 3 [] sp2 (hCons (hcb gList (hCons (hop gIx (hV 0) (hC (.int 0))) hNil)) (hCons (hV 2) hNil)))))
theorem list_tup {xs : List D} {S : Sto} {Q : HK} (h : Q (.lst xs) S) : gList [.tup xs] S Q := h
theorem puzzle_keeps {n : Nat} (hn : n + 1 ≤ 30) {ds : List D} {S : Sto} {Q E : HK} (h : spTP (OkP (n + 1)) ptD ds S Q E) : rdLawPuzzle (spTP (OkP n) ptD) spInit (EN Q E) (startE 3 ds) S := by
  obtain ⟨⟨b, ks⟩, rfl, okp, g⟩ := h
  have hk := okp_kids okp
  obtain ⟨⟨h1, h2, h3⟩, hs⟩ := id okp
  unfold rdLawPuzzle
  walk_at "q"
  refine ix_items (xs := [.tup (b.map D.int), .tup (ksD ks)]) rfl rfl ?_
  try dsimp only [gSq, items, ckOf]
  refine kid_loop (P := OkP n) (f := ptD) (show 1 < 3 by decide) ks [] hk ?_
  rw [List.nil_append, mapO_pt]
  walk_at "p"
  refine ix_items (xs := [.tup (b.map D.int), .tup (ksD ks)]) rfl rfl ?_
  refine list_tup ?_
  intro p hp
  refine ⟨p, n, b, trims ks, _, _, rfl, rowLst, rowLst, up_same, hn, ⟨h1, by rw [trims_len]; exact h2, oks_trims ks h3⟩, ?_, rfl, ?_⟩
  · have : (Tr.nd b (trims ks)).size = 1 + ksSize ks := by
      show 1 + ksSize (trims ks) = _
      rw [trims_size]
    rw [this]
    exact hs
  rw [up_up]
  refine ⟨_, _, Vw.obj up_same, ?_⟩
  rw [dl_up hp, ← pzD_eq]
  exact Rt.mk g
/-! before, == -/
def spBefore : HSp := fun ds S Q _ => ∃ t u : Tr, ds = [pzD t, pzD u] ∧ gLtD (.tup [.int t.size, .str t.spell]) (.tup [.int u.size, .str u.spell]) S Q
def rdBefore : HTS := (hRet (hop gLtD (hTup (hCons (hun (gFld ix_size) (hV 0)) (hCons (hun (gFld ix_spelling) (hV 0)) hNil))) (hTup (hCons (hun (gFld ix_size) (hV 1)) (hCons (hun (gFld ix_spelling) (hV 1)) hNil)))))
theorem lt_Rt {x y : D} {S : Sto} {Q : HK} (h : gLtD x y S Q) : gLtD x y S (Rt Q) := by
  unfold gLtD at h ⊢
  split at h
  · exact Rt.mk h
  · exact Rt.mk h
  · split at h
    · exact Rt.mk h
    · exact h.elim
  · exact h.elim
theorem before_keeps {ds : List D} {S : Sto} {Q E : HK} (h : spBefore ds S Q E) : rdBefore (EN Q E) (startE 2 ds) S := by
  obtain ⟨t, u, rfl, g⟩ := h
  unfold rdBefore
  walk_at "p"
  refine fld_pz (i := 2) rfl (pz_size t) ?_
  refine fld_pz (i := 4) rfl (pz_spell t) ?_
  refine fld_pz (i := 2) rfl (pz_size u) ?_
  refine fld_pz (i := 4) rfl (pz_spell u) ?_
  exact lt_Rt g
def spEq : HSp := fun ds S Q _ => ∃ t u : Tr, ds = [pzD t, pzD u] ∧ Q (.bl (t.spell == u.spell)) S
def rdEq : HTS := (hRet (hAndT (hun (gIsi1 1 [1]) (hV 1)) (hop gEq (hun (gFld ix_spelling) (hV 0)) (hun (gFld ix_spelling) (hV 1)))))
theorem eq_keeps {ds : List D} {S : Sto} {Q E : HK} (h : spEq ds S Q E) : rdEq (EN Q E) (startE 2 ds) S := by
  obtain ⟨t, u, rfl, g⟩ := h
  unfold rdEq
  walk_at "p"
  refine isi_pz u ?_
  walk_at "p"
  refine fld_pz (i := 4) rfl (pz_spell t) ?_
  refine fld_pz (i := 4) rfl (pz_spell u) ?_
  exact Rt.mk g
/-! trimmed twice -/
theorem trims_map : ∀ ks : List (Option Tr), trims ks = ks.map ktrim
  | [] => rfl
  | k :: ks => by show ktrim k :: trims ks = _; rw [trims_map ks] <;> rfl
theorem trims_short (ks : List (Option Tr)) : trims (short Option.isSome ks) = short Option.isSome (trims ks) := by
  rw [trims_map, trims_map, short_map]
  have e : (fun k => (ktrim k).isSome) = Option.isSome := by
    funext k
    cases k <;> rfl
  rw [e]
mutual
theorem trim_trim : ∀ t : Tr, t.trim.trim = t.trim
  | .nd b ks => by
    show Tr.nd (short nz (short nz b)) (short Option.isSome (trims (short Option.isSome (trims ks)))) = Tr.nd (short nz b) (short Option.isSome (trims ks))
    rw [short_short, trims_short, short_short, trims_trims ks]
theorem trims_trims : ∀ ks : List (Option Tr), trims (trims ks) = trims ks
  | [] => rfl
  | none :: ks => by show none :: trims (trims ks) = none :: trims ks; rw [trims_trims ks]
  | some t :: ks => by show some t.trim.trim :: trims (trims ks) = some t.trim :: trims ks; rw [trims_trims ks, trim_trim t]
end
end Hy

set_option Elab.async false
set_option linter.all false
set_option maxRecDepth 100000
set_option maxHeartbeats 4000000
set_option autoImplicit false
namespace Hy
open PySem PySem.Spec PyProof.Rows L2
local macro_rules | `(tactic| walk_at "p") => `(tactic| try simp only [hSet, hAsg, hRet, hRetN, hExpr, hIfS, hNx, hop, hun, hcb, hV, hC, hB, hTr, hNot, hAnd, hOr, hIf, hTup, hLst, hLstM, hCons, hNil, hCall, hMeth, hMake, hMt, hSl, hNoP, hPart, hSetI, hFst, hOrT, hAndT, hNotT, hAug, bindD, bindDs, hEqO, hInO, hGetO, hiEnum, hRaise, hPar3, hYes, hFor, hLc, hLcM, hiR1, hiR2, hiSq_eq, wipeN, startE, List.map_cons, List.map_nil, List.length_cons, List.length_nil, List.replicate, List.cons_append, List.nil_append, List.append_nil, List.getElem?_cons_zero, List.getElem?_cons_succ, List.set_cons_zero, List.set_cons_succ, Nat.reduceAdd, Nat.reduceSub, Nat.zero_add, gI0, gI, gTru, gFmt, gNeg, gOrd, gIsN, isN, ng, Nat.beq, Nat.ble, isStr, bnot_t, bnot_f])
local macro_rules | `(tactic| walk_at "q") => `(tactic| ((try dsimp only); refine seq_ ?_; walk_at "p"))
local macro_rules | `(tactic| walk_at "g") => `(tactic| try simp only [gLt, gLe, gGt, gGe, gSub, gOrd, gI0, gI, gAdd, gNeg])
/-! ### drawn rows -/
/-- [_law_draw(pen, m) for k in ..] -/
theorem draws_loop {i j : Nat} {p q : Addr} {m : Int} {env : HEnv} {Q : HK} (hm : 0 < m) (hm2 : m ≤ 1000000) (he : ∀ d, (env.set i (some d))[j]? = some (some (.ref p))) : ∀ (l : List D) (acc : List Int) (n : Nat) (S : Sto), Pen S p q n → n + l.length ≤ most →
    (∀ (bs : List Int) (S' : Sto), bs.length = acc.length + l.length → (∀ x ∈ bs, x ∈ acc ∨ (0 ≤ x ∧ x < m)) → Pen S' p q (n + l.length) → Fr2 p q S S' → Q (.lst (bs.map D.int)) S') →
    cloop (.nm i) hYes (hCall 2 [] spDraw (hCons (hV j) (hCons (hC (.int m)) hNil))) none l (acc.map D.int) env S Q
  | [], acc, n, S, pen, hn, h => h acc S rfl (fun x hx => .inl hx) pen Fr2.rfl'
  | d :: l, acc, n, S, pen, hn, h => by
    simp only [cloop, chk, bindD, hYes, hCall, hCons, hNil, hV, hC, he, List.append_nil, List.length_cons, List.length_nil, Nat.beq, Nat.zero_add]
    simp only [List.length_cons] at hn h
    refine ⟨p, q, n, m, rfl, hm, hm2, pen, by omega, fun v S1 h0 h1 pen1 fr1 => ?_⟩
    have ih := draws_loop (i := i) (j := j) (q := q) (env := env) (Q := Q) hm hm2 he l (acc ++ [v]) (n + 1) S1 pen1 (by omega) fun bs S' hl hb pen' fr => h bs S' (by rw [hl]; simp; omega) (fun x hx => by
      rcases hb x hx with hx | hx
      · rcases List.mem_append.mp hx with hx | hx
        · exact .inl hx
        · rw [List.mem_singleton.mp hx]; exact .inr ⟨h0, h1⟩
      · exact .inr hx) (by rw [show n + (l.length + 1) = n + 1 + l.length by omega]; exact pen') (fr1.trans fr)
    rw [List.map_append] at ih
    exact ih
/-- a drawn tree: at most n levels, 6 bits and 3 kids a node -/
def Sm : Nat → Tr → Prop
  | 0, _ => False
  | n + 1, .nd b ks => ((∀ x ∈ b, x = 0 ∨ x = 1) ∧ b.length ≤ 6) ∧ ks.length ≤ 3 ∧ ∀ k ∈ ks, OkK (Sm n) k
abbrev Sms (n : Nat) (ks : List (Option Tr)) : Prop := ∀ k ∈ ks, OkK (Sm n) k
theorem Sm.ok : ∀ {n : Nat} {t : Tr}, Sm n t → Ok n t
  | 0, _, h => h.elim
  | n + 1, .nd b ks, h => ⟨⟨h.1.1, Nat.le_trans h.1.2 (by decide)⟩, Nat.le_trans h.2.1 (by decide), fun k hk => by
    have := h.2.2 k hk
    cases k with
    | none => trivial
    | some t => exact Sm.ok this⟩
theorem Sm.trim : ∀ {n : Nat} {t : Tr}, Sm n t → Sm n t.trim
  | 0, _, h => h.elim
  | n + 1, .nd b ks, ⟨h1, h2, h3⟩ => ⟨⟨fun x hx => h1.1 x (short_mem hx), Nat.le_trans (short_len _ _) h1.2⟩, Nat.le_trans (short_len _ _) (by rw [trims_len]; exact h2), fun k hk => by
    have hk := short_mem hk
    rw [trims_map] at hk
    obtain ⟨k0, hk0, rfl⟩ := List.mem_map.mp hk
    have := h3 k0 hk0
    cases k0 with
    | none => trivial
    | some t => exact Sm.trim this⟩
/-- how many draws a tree of n levels takes at most -/
def cst : Nat → Nat
  | 0 => 0
  | n + 1 => 20 + 3 * (2 + cst n)
def spTree (n : Nat) : HSp := fun ds S Q _ => ∃ (p q : Addr) (m e : Nat) (room : Int), ds = [.ref p, .int room, .int (e : Nat)] ∧ e < n ∧ 1 ≤ room ∧ room ≤ 1000000 ∧ Pen S p q m ∧ m + cst (e + 1) ≤ most ∧
  ∀ (t : Tr) (S' : Sto), Sm (e + 1) t → t.size ≤ room → Pen S' p q (m + cst (e + 1)) → Fr2 p q S S' → Q (trD t) S'
def tBody (sp_law_draw sp_law_tree sp_law_size : HSp) : HTS := (hIfS (hAnd (hB (hop gGt (hV 2) (hC (.int 0)))) (hAnd (hB (hop gGt (hV 5) (hC (.int 0)))) (hB (hop gGt (hCall 2 [] sp_law_draw (hCons (hV 0) (hCons (hC (.int 4)) hNil))) (hC (.int 0)))))) (hSeq (hSet 7 (hCall 3 [] sp_law_tree (hCons (hV 0) (hCons (hop gAdd (hC (.int 1)) (hCall 2 [] sp_law_draw (hCons (hV 0) (hCons (hV 5) hNil)))) (hCons (hop gSub (hV 2) (hC (.int 1))) hNil)))))
  (hSeq (hSet 5 (hop gSub (hV 5) (hCall 1 [] sp_law_size (hCons (hV 7) hNil))))
  (hExpr (hMt isLst gAppend (hV 6) (hCons (hV 7) hNil))))) (hExpr (hMt isLst gAppend (hV 6) (hCons (hC .non) hNil))))
def rdTree (sp_law_draw sp_law_tree sp_law_size : HSp) : HTS := (hSeq (hSet 4 (hcb gTuple (hCons (hLc (hiR1 (hCons (hCall 2 [] sp_law_draw (hCons (hV 0) (hCons (hC (.int 7)) hNil))) hNil)) (.nm 3) hYes (hCall 2 [] sp_law_draw (hCons (hV 0) (hCons (hC (.int 2)) hNil))) [3]) hNil)))
  (hSeq (hSet 5 (hop gSub (hV 1) (hC (.int 1))))
  (hSeq (hSet 6 (hLstM hNil))
  (hSeq (hFor (hiR1 (hCons (hCall 2 [] sp_law_draw (hCons (hV 0) (hCons (hC (.int 4)) hNil))) hNil)) (.nm 3) (tBody sp_law_draw sp_law_tree sp_law_size))
  (hRet (hTup (hCons (hV 4) (hCons (hcb gTuple (hCons (hV 6) hNil)) hNil))))))))
theorem ksD_app (ks : List (Option Tr)) (k : Option Tr) : ksD (ks ++ [k]) = ksD ks ++ [kD k] := by
  rw [ksD_map, ksD_map, List.map_append] <;> rfl
theorem ksSize_app (ks : List (Option Tr)) (k : Option Tr) : ksSize (ks ++ [k]) = ksSize ks + kSize k := by
  induction ks with
  | nil => show kSize k + 0 = 0 + kSize k; omega
  | cons x ks ih => show kSize x + ksSize (ks ++ [k]) = kSize x + ksSize ks + kSize k; rw [ih]; omega
theorem oks_app {n : Nat} {ks : List (Option Tr)} {k : Option Tr} (h : Sms n ks) (hk : OkK (Sm n) k) : Sms n (ks ++ [k]) := fun x hx => by
  rcases List.mem_append.mp hx with hx | hx
  · exact h x hx
  · rw [List.mem_singleton.mp hx]; exact hk
def Fr3 (p q r : Addr) (S S' : Sto) : Prop := ∀ a, a ≠ p → a ≠ q → a ≠ r → S' a = S a
theorem mtl_ref {g : GM} {q : Addr} {ds t : List D} {S : Sto} {Q : HK} (h : S q = some (.lst ds)) (r : g (.ref q) t S Q) : (match isLst S (.ref q) with
    | true => g (.ref q) t S Q
    | false => False) := by
  rw [is_lst_ref h]; exact r
theorem tree_loop {n e : Nat} {p q r : Addr} {room bits : D} {rm : Int} {D0 : HEnds} {N : Nat} (hen : e < n + 1) (hn : n + 1 ≤ 8) (hrm : rm ≤ 1000000) (hN : N ≤ most) (hrp : r ≠ p) (hrq : r ≠ q) :
    ∀ (l : List D) (ks : List (Option Tr)) (kk ch : Option D) (S : Sto) (m : Nat), ks.length + l.length ≤ 3 → Sms e ks → 1 + ksSize ks ≤ rm → Pen S p q m → m + l.length * (2 + cst e) ≤ N → S r = some (.lst (ksD ks)) →
    (∀ (ks' : List (Option Tr)) (kk ch : Option D) (S' : Sto) (left : Int), ks'.length ≤ 3 → Sms e ks' → 1 + ksSize ks' ≤ rm → Pen S' p q N → S' r = some (.lst (ksD ks')) → Fr3 p q r S S' →
      D0.nx [some (.ref p), some room, some (.int (e : Nat)), kk, some bits, some (.int left), some (.ref r), ch] S') →
    floop (.nm 3) (tBody spDraw (spTree n) (spT 29 szD)) none l D0 [some (.ref p), some room, some (.int (e : Nat)), kk, some bits, some (.int (rm - 1 - ksSize ks)), some (.ref r), ch] S
  | [], ks, kk, ch, S, m, hl, hk, hs, pen, hm, hr, h => h ks kk ch S _ (by simpa using hl) hk hs (pen.mono (by simpa using hm)) hr fun _ _ _ _ => rfl
  | d :: l, ks, kk, ch, S, m, hl, hk, hs, pen, hm, hr, h => by
    simp only [List.length_cons, Nat.succ_mul] at hl hm
    have none_case : ∀ (ch : Option D) (S1 : Sto) (m1 : Nat), Pen S1 p q m1 → m1 + l.length * (2 + cst e) ≤ N → S1 r = some (.lst (ksD ks)) → Fr3 p q r S S1 →
        hExpr (hMt isLst gAppend (hV 6) (hCons (hC .non) hNil)) { D0 with nx := floop (.nm 3) (tBody spDraw (spTree n) (spT 29 szD)) none l D0, ct := floop (.nm 3) (tBody spDraw (spTree n) (spT 29 szD)) none l D0, bk := D0.nx }
          [some (.ref p), some room, some (.int (e : Nat)), some d, some bits, some (.int (rm - 1 - ksSize ks)), some (.ref r), ch] S1 := fun ch S1 m1 pen1 hm1 hr1 fr1 => by
      have ih := tree_loop (D0 := D0) (room := room) (bits := bits) (q := q) hen hn hrm hN hrp hrq l (ks ++ [none]) (some d) ch (up S1 r (.lst (ksD (ks ++ [none])))) m1 (by simp; omega) (oks_app hk trivial) (by rw [ksSize_app]; show 1 + (ksSize ks + 0) ≤ rm; omega) (pen1.frame (up_ne hrp.symm) (up_ne hrq.symm)) hm1 up_same
        fun ks' kk ch S' left a1 a2 a3 a4 a5 a6 => h ks' kk ch S' left a1 a2 a3 a4 a5 fun a b1 b2 b3 => ((a6 a b1 b2 b3).trans (up_ne b3)).trans (fr1 a b1 b2 b3)
      rw [ksSize_app, ksD_app, show ksSize ks + kSize none = ksSize ks from Int.add_zero _] at ih
      walk_at "p"
      refine mtl_ref hr1 ?_
      refine app_ref hr1 (by rw [ksD_len]; omega) ?_
      exact ih
    show tBody spDraw (spTree n) (spT 29 szD) _ [some (.ref p), some room, some (.int (e : Nat)), some d, some bits, some (.int (rm - 1 - ksSize ks)), some (.ref r), ch] S
    have nc := none_case ch
    unfold tBody
    show hIfS _ _ _ _ _ _
    walk_at "p"
    walk_at "g"
    cases e with
    | zero =>
      rw [show decide ((0 : Int) < ((0 : Nat) : Int)) = false by decide]
      dsimp only
      have q := nc S m pen (by omega) hr fun _ _ _ _ => rfl
      exact q
    | succ e =>
      rw [show decide ((0 : Int) < ((e + 1 : Nat) : Int)) = true by simp]
      dsimp only
      cases hleft : decide ((0 : Int) < rm - 1 - ksSize ks) with
      | false =>
        have q := nc S m pen (by omega) hr fun _ _ _ _ => rfl
        exact q
      | true =>
        have hl0 : (0 : Int) < rm - 1 - ksSize ks := of_decide_eq_true hleft
        have nn := ksSize_nn ks
        dsimp only
        refine ⟨p, q, m, 4, rfl, by decide, by decide, pen, by omega, fun v S1 v0 v1 pen1 fr1 => ?_⟩
        have hr1 : S1 r = some (.lst (ksD ks)) := (fr1 r hrp hrq).trans hr
        dsimp only
        cases hv : decide ((0 : Int) < v) with
        | false =>
          have q := nc S1 (m + 1) pen1 (by omega) hr1 fun a b1 b2 b3 => fr1 a b1 b2
          exact q
        | true =>
          walk_at "q"
          refine ⟨p, q, m + 1, rm - 1 - ksSize ks, rfl, hl0, by omega, pen1, by omega, fun w S2 w0 w1 pen2 fr2 => ?_⟩
          walk_at "g"
          have hc : cst (e + 1) = 20 + 3 * (2 + cst e) := rfl
          refine ⟨p, q, m + 2, e, 1 + w, by rw [show ((e + 1 : Nat) : Int) - 1 = ((e : Nat) : Int) by omega], by omega, by omega, by omega, pen2, by omega, fun t S3 ht hts pen3 fr3 => ?_⟩
          have hr3 : S3 r = some (.lst (ksD ks)) := (fr3 r hrp hrq).trans ((fr2 r hrp hrq).trans hr1)
          have fr13 : Fr3 p q r S S3 := fun a b1 b2 b3 => (fr3 a b1 b2).trans ((fr2 a b1 b2).trans (fr1 a b1 b2))
          walk_at "q"
          refine ⟨t, rfl, ht.ok.mono (by omega), ?_⟩
          walk_at "g"
          walk_at "p"
          refine mtl_ref hr3 ?_
          refine app_ref hr3 (by rw [ksD_len]; omega) ?_
          have ih := tree_loop (D0 := D0) (room := room) (bits := bits) (q := q) hen hn hrm hN hrp hrq l (ks ++ [some t]) (some d) (some (trD t)) (up S3 r (.lst (ksD (ks ++ [some t])))) (m + 2 + cst (e + 1)) (by simp; omega) (oks_app hk ht) (by rw [ksSize_app]; show 1 + (ksSize ks + t.size) ≤ rm; omega) (pen3.frame (up_ne hrp.symm) (up_ne hrq.symm)) (by omega) up_same
            fun ks' kk ch S' left a1 a2 a3 a4 a5 a6 => h ks' kk ch S' left a1 a2 a3 a4 a5 fun a b1 b2 b3 => ((a6 a b1 b2 b3).trans (up_ne b3)).trans (fr13 a b1 b2 b3)
          rw [ksSize_app, ksD_app, show rm - 1 - (ksSize ks + kSize (some t)) = rm - 1 - ksSize ks - t.size by show rm - 1 - (ksSize ks + t.size) = _; omega] at ih
          exact ih
theorem tree_keeps {n : Nat} (hn : n + 1 ≤ 8) {ds : List D} {S : Sto} {Q E : HK} (h : spTree (n + 1) ds S Q E) : rdTree spDraw (spTree n) (spT 29 szD) (EN Q E) (startE 8 ds) S := by
  obtain ⟨p, q, m, e, rm, rfl, he, hr1, hr2, pen, hm, g⟩ := h
  have hc : cst (e + 1) = 20 + 3 * (2 + cst e) := rfl
  unfold rdTree
  walk_at "q"
  refine ⟨p, q, m, 7, rfl, by decide, by decide, pen, by omega, fun v S1 v0 v1 pen1 fr1 => ?_⟩
  refine ⟨by omega, by omega, ?_⟩
  refine draws_loop (i := 3) (j := 0) (p := p) (q := q) (by decide) (by decide) (fun d => rfl) (rngD 0 v.toNat) [] (m + 1) S1 pen1 (by rw [rngD_len]; omega) fun bs S2 hl hb pen2 fr2 => ?_
  rw [rngD_len] at hl pen2
  refine tup_lst ?_
  walk_at "q"
  walk_at "g"
  walk_at "q"
  intro r hr
  have hrp : r ≠ p := by
    obtain ⟨cs, s, h1, h2, _⟩ := pen2
    exact fun e => by subst e; rw [hr] at h1; cases h1
  have hrq : r ≠ q := by
    obtain ⟨cs, s, h1, h2, _⟩ := pen2
    exact fun e => by subst e; rw [hr] at h2; cases h2
  have pen3 : Pen (up S2 r (.lst [])) p q (m + 1 + v.toNat) := pen2.up hr
  walk_at "q"
  refine ⟨p, q, m + 1 + v.toNat, 4, rfl, by decide, by decide, pen3, by omega, fun w S3 w0 w1 pen4 fr3 => ?_⟩
  refine ⟨by omega, by omega, ?_⟩
  have hr3 : S3 r = some (.lst (ksD [])) := (fr3 r hrp hrq).trans up_same
  have hb1 : (∀ x ∈ bs, x = 0 ∨ x = 1) ∧ bs.length ≤ 6 := ⟨fun x hx => by
    rcases hb x hx with hx | ⟨h1, h2⟩
    · cases hx
    · omega, by simp at hl; omega⟩
  have loop := tree_loop (n := n) (e := e) (p := p) (q := q) (r := r) (room := .int rm) (bits := .tup (bs.map D.int)) (rm := rm) (N := m + cst (e + 1)) (D0 := { EN Q E with nx := hRet (hTup (hCons (hV 4) (hCons (hcb gTuple (hCons (hV 6) hNil)) hNil))) (EN Q E) }) he hn hr2 (by omega) hrp hrq
    (rngD 0 w.toNat) [] none none S3 (m + 1 + v.toNat + 1) (by rw [rngD_len]; show 0 + _ ≤ 3; omega) (fun k hk => by cases hk) (by show 1 + 0 ≤ rm; omega) pen4 (by
      rw [rngD_len]
      have : w.toNat * (2 + cst e) ≤ 3 * (2 + cst e) := Nat.mul_le_mul_right _ (by omega)
      omega) hr3 fun ks' kk ch S' left a1 a2 a3 a4 a5 a6 => ?_
  · rw [show rm - 1 - ksSize [] = rm - 1 from Int.sub_zero _] at loop
    exact loop
  walk_at "p"
  refine tup_ref a5 ?_
  have hrS : S r = none := ((fr1.trans fr2) r hrp hrq).symm.trans hr
  refine Rt.less (S' := dl S' r) SLe.dl ?_
  refine g (.nd bs ks') (dl S' r) ⟨hb1, by omega, a2⟩ a3 (a4.frame (dl_ne hrp.symm) (dl_ne hrq.symm)) fun a b1 b2 => ?_
  by_cases b3 : a = r
  · subst b3
    rw [dl_same, hrS]
  · rw [dl_ne b3]
    exact (a6 a b1 b2 b3).trans ((fr3 a b1 b2).trans ((up_ne b3).trans ((fr1.trans fr2) a b1 b2)))
end Hy

set_option Elab.async false
set_option linter.all false
set_option maxRecDepth 100000
set_option maxHeartbeats 4000000
set_option autoImplicit false
namespace Hy
open PySem PySem.Spec PyProof.Rows L2
local macro_rules | `(tactic| walk_at "p") => `(tactic| try simp only [hSet, hAsg, hRet, hRetN, hExpr, hIfS, hNx, hop, hun, hcb, hV, hC, hB, hTr, hNot, hAnd, hOr, hIf, hTup, hLst, hLstM, hCons, hNil, hCall, hMeth, hMake, hMt, hSl, hNoP, hPart, hSetI, hFst, hOrT, hAndT, hNotT, hAug, bindD, bindDs, hEqO, hInO, hGetO, hiEnum, hRaise, hPar3, hYes, hFor, hLc, hLcM, hiR1, hiR2, hiSq_eq, wipeN, startE, List.map_cons, List.map_nil, List.length_cons, List.length_nil, List.replicate, List.cons_append, List.nil_append, List.append_nil, List.getElem?_cons_zero, List.getElem?_cons_succ, List.set_cons_zero, List.set_cons_succ, Nat.reduceAdd, Nat.reduceSub, Nat.zero_add, gI0, gI, gTru, gFmt, gNeg, gOrd, gIsN, isN, ng, Nat.beq, Nat.ble, isStr, bnot_t, bnot_f])
local macro_rules | `(tactic| walk_at "q") => `(tactic| ((try dsimp only); refine seq_ ?_; walk_at "p"))
local macro_rules | `(tactic| walk_at "g") => `(tactic| try simp only [gLt, gLe, gGt, gGe, gSub, gOrd, gI0, gI, gAdd, gNeg])
/-! ### what a spelling's signs weigh -/
theorem app_cps (a b : Str) : (a ++ b).cps.toList = a.cps.toList ++ b.cps.toList := by
  show (a.cps ++ b.cps).toList = _
  simp
theorem join_cons2 (z x y : Str) (r : List Str) : Txt.join z (x :: y :: r) = x ++ z ++ Txt.join z (y :: r) := by
  unfold Txt.join
  rw [StrLaws.glued_eq_join, StrLaws.glued_eq_join] <;> rfl
theorem join_one (z x : Str) : Txt.join z [x] = x := by
  unfold Txt.join
  rw [StrLaws.glued_eq_join] <;> rfl
theorem join_nil (z : Str) : Txt.join z [] = Str.empty := by
  unfold Txt.join
  rw [StrLaws.glued_eq_join] <;> rfl
/-- a property of all signs -/
def cpsOk (x : Str) : Bool := x.cps.toList.all (· < 0x110000)
theorem strOk_of {x : Str} (h : cpsOk x = true) : PyData.strOk x = true := by
  unfold cpsOk at h
  unfold PyData.strOk
  rw [← Array.all_toList]
  exact h
theorem cpsOk_app {a b : Str} (ha : cpsOk a = true) (hb : cpsOk b = true) : cpsOk (a ++ b) = true := by
  unfold cpsOk at ha hb ⊢
  rw [app_cps, List.all_append, ha, hb] <;> rfl
theorem cpsOk_join {z : Str} (hz : cpsOk z = true) : ∀ l : List Str, (∀ x ∈ l, cpsOk x = true) → cpsOk (Txt.join z l) = true
  | [], _ => by rw [join_nil] <;> rfl
  | [x], h => by rw [join_one]; exact h x List.mem_cons_self
  | x :: y :: r, h => by
    rw [join_cons2]
    exact cpsOk_app (cpsOk_app (h x List.mem_cons_self) hz) (cpsOk_join hz (y :: r) fun w hw => h w (List.mem_cons_of_mem _ hw))
theorem bitsS_ok {b : List Int} (h : BitsOk b) : cpsOk (bitsS b) = true := by
  cases b with
  | nil => decide +kernel
  | cons x r =>
    refine cpsOk_join (by decide +kernel) _ fun y hy => ?_
    obtain ⟨z, hz, rfl⟩ := List.mem_map.mp hy
    rcases h.1 z hz with rfl | rfl <;> decide +kernel
mutual
theorem spell_ok : ∀ (n : Nat) (t : Tr), Ok n t → cpsOk t.spell = true
  | 0, _, h => h.elim
  | n + 1, .nd b [], h => bitsS_ok h.1
  | n + 1, .nd b (k :: r), h => cpsOk_app (cpsOk_app (cpsOk_app (bitsS_ok h.1) (by decide +kernel)) (cpsOk_join (by decide +kernel) _ (spells_ok n (k :: r) h.2.2))) (by decide +kernel)
theorem spells_ok : ∀ (n : Nat) (ks : List (Option Tr)), Oks n ks → ∀ x ∈ spells ks, cpsOk x = true
  | _, [], _, x, hx => by cases hx
  | n, k :: ks, h, x, hx => by
    rcases List.mem_cons.mp (show x ∈ kspell k :: spells ks from hx) with rfl | hx
    · have := h k List.mem_cons_self
      cases k with
      | none => show cpsOk ("-" : PySem.Str) = true; decide +kernel
      | some t => exact spell_ok n t this
    · exact spells_ok n ks (fun k' z => h k' (List.mem_cons_of_mem _ z)) x hx
end
def wt (c : Nat) : Int := if c = 40 then 1 else if c = 44 then 1 else if c = 45 then -1 else 0
def swt (x : Str) : Int := (x.cps.toList.map wt).sum
theorem swt_app (a b : Str) : swt (a ++ b) = swt a + swt b := by
  unfold swt
  rw [app_cps, List.map_append, List.sum_append]
theorem swt_join (z : Str) : ∀ (x : Str) (l : List Str), swt (Txt.join z (x :: l)) = ((x :: l).map swt).sum + l.length * swt z
  | x, [] => by rw [join_one]; simp
  | x, y :: r => by
    rw [join_cons2, swt_app, swt_app, swt_join z y r]
    simp only [List.map_cons, List.sum_cons, List.length_cons]
    rw [show (((r.length + 1 : Nat) : Int)) * swt z = r.length * swt z + swt z by rw [Int.natCast_add, Int.add_mul]; simp]
    omega
theorem bitsS_wt {b : List Int} (h : BitsOk b) : swt (bitsS b) = 0 := by
  cases b with
  | nil => decide +kernel
  | cons x r =>
    have key : ∀ l : List Int, (∀ y ∈ l, y = 0 ∨ y = 1) → ((l.map numS).map swt).sum = 0 := by
      intro l hl
      induction l with
      | nil => rfl
      | cons y l ih =>
        rw [List.map_cons, List.map_cons, List.sum_cons, ih fun z hz => hl z (List.mem_cons_of_mem _ hz)]
        rcases hl y List.mem_cons_self with rfl | rfl <;> decide +kernel
    show swt (Txt.join ("" : PySem.Str) (numS x :: r.map numS)) = 0
    rw [swt_join, show swt ("" : PySem.Str) = 0 by decide +kernel, Int.mul_zero, Int.add_zero]
    exact key (x :: r) h.1
mutual
theorem spell_wt : ∀ (n : Nat) (t : Tr), Ok n t → 1 + swt t.spell = t.size
  | 0, _, h => h.elim
  | n + 1, .nd b [], h => by
    show 1 + swt (bitsS b) = 1 + 0
    rw [bitsS_wt h.1]
  | n + 1, .nd b (k :: r), h => by
    show 1 + swt (bitsS b ++ ("(" : PySem.Str) ++ Txt.join ("," : PySem.Str) (kspell k :: spells r) ++ (")" : PySem.Str)) = 1 + ksSize (k :: r)
    rw [swt_app, swt_app, swt_app, swt_join, bitsS_wt h.1, show swt ("(" : PySem.Str) = 1 by decide +kernel, show swt (")" : PySem.Str) = 0 by decide +kernel, show swt ("," : PySem.Str) = 1 by decide +kernel, Int.mul_one]
    have e := spells_wt n (k :: r) h.2.2
    rw [spells_len]
    have e2 : (((kspell k :: spells r).map swt).sum) + ((k :: r).length : Int) = ksSize (k :: r) := e
    rw [List.length_cons] at e2
    omega
theorem spells_wt : ∀ (n : Nat) (ks : List (Option Tr)), Oks n ks → ((spells ks).map swt).sum + (ks.length : Int) = ksSize ks
  | _, [], _ => rfl
  | n, k :: ks, h => by
    have ih := spells_wt n ks fun k' z => h k' (List.mem_cons_of_mem _ z)
    have hk := h k List.mem_cons_self
    show (swt (kspell k) :: (spells ks).map swt).sum + ((ks.length + 1 : Nat) : Int) = kSize k + ksSize ks
    rw [List.sum_cons]
    cases k with
    | none =>
      rw [show swt (kspell none) = -1 by show swt ("-" : PySem.Str) = -1; decide +kernel]
      show -1 + _ + _ = 0 + ksSize ks
      omega
    | some t =>
      have := spell_wt n t hk
      show swt t.spell + _ + _ = t.size + ksSize ks
      omega
end
theorem size_of_spell {n : Nat} {t u : Tr} (ht : Ok n t) (hu : Ok n u) (h : t.spell = u.spell) : t.size = u.size := by
  rw [← spell_wt n t ht, ← spell_wt n u hu, h]
/-! keys: size and spelling -/
abbrev keyD (t : Tr) : D := .tup [.int t.size, .str t.spell]
theorem dok_key {n : Nat} {t : Tr} (h : Ok n t) : dok 60 (keyD t) = true := by
  show (true && (PyData.strOk t.spell && true)) = true
  rw [strOk_of (spell_ok n t h)] <;> rfl
theorem lt_key {n : Nat} {t u : Tr} (ht : Ok n t) (hu : Ok n u) (S : Sto) (K : HK) (h : K (.bl (PySem.W.dataLt (toP (keyD t)) (toP (keyD u)))) S) : gLtD (keyD t) (keyD u) S K := by
  show (match dok 60 (keyD t) && dok 60 (keyD u) && PySem.W.alike (toP (keyD t)) (toP (keyD u)) with
    | true => K (.bl (PySem.W.dataLt (toP (keyD t)) (toP (keyD u)))) S
    | false => False)
  rw [dok_key ht, dok_key hu, show PySem.W.alike (toP (keyD t)) (toP (keyD u)) = true by simp [toP, toPs, PySem.W.alike, PySem.W.alikeAll]]
  exact h
theorem eq_key {n : Nat} {t u : Tr} (ht : Ok n t) (hu : Ok n u) (S : Sto) (K : HK) (h : K (.bl (t.spell == u.spell)) S) : gEq (keyD t) (keyD u) S K := by
  show (match dok 60 (keyD t) && dok 60 (keyD u) with
    | true => K (.bl (ng false (deq (keyD t) (keyD u)))) S
    | false => False)
  rw [dok_key ht, dok_key hu]
  have e : deq (keyD t) (keyD u) = (t.spell == u.spell) := by
    have e1 : deq (keyD t) (keyD u) = (t.size == u.size && (t.spell == u.spell)) := by simp [deq, toP, toPs, PyData.eqv, PyData.eqvAll]
    rw [e1]
    cases e2 : t.spell == u.spell with
    | false => rw [Bool.and_false]
    | true => rw [size_of_spell ht hu (eq_of_beq e2)]; simp
  rw [e]
  exact h
theorem ne_bool (a : Bool) (S : Sto) (K : HK) (h : K (.bl false) S) : gNe (.bl a) (.bl a) S K := by
  show K (.bl (ng true (deq (.bl a) (.bl a)))) S
  have e : deq (.bl a) (.bl a) = true := by cases a <;> simp [deq, toP, PyData.eqv]
  rw [e]
  exact h
/-! a loop that changes names only -/
theorem floop_all {p : Pt} {tb : HTS} {D0 : HEnds} {S : Sto} {I : HEnv → Prop} : ∀ (l : List D), (∀ d ∈ l, ∀ env, I env → ∃ env1, bindD p d env = some env1 ∧ ∀ K : HEnv → Sto → Prop, (∀ e, I e → K e S) → tb { D0 with nx := K, ct := K, bk := D0.nx } env1 S) →
    (∀ env, I env → D0.nx env S) → ∀ env, I env → floop p tb none l D0 env S
  | [], _, h, env, hi => h env hi
  | d :: l, hs, h, env, hi => by
    obtain ⟨env1, e, hb⟩ := hs d List.mem_cons_self env hi
    show (match bindD p d env with
      | some env1 => tb { D0 with nx := floop p tb none l D0, ct := floop p tb none l D0, bk := D0.nx } env1 S
      | none => False)
    rw [e]
    exact hb _ fun e he => floop_all l (fun d' hd => hs d' (List.mem_cons_of_mem _ hd)) h e he
/-! the pen at the beginning -/
def rdPen : HTE := (hLstM (hCons (hOrT (hcb gListM (hCons (hV 0) hNil)) (hLstM (hCons (hC (.int 0)) hNil))) (hCons (hC (.int 0)) hNil)))
theorem pen_start {ns : List Int} {rest : HEnv} {S : Sto} {Q E : HK} (h : ∀ p q S', Pen S' p q 0 → Q (.ref p) S') : rdPen (some (.rls (ns.map D.int)) :: rest) S Q E := by
  unfold rdPen
  have fin : ∀ (q : Addr) (cs : List Int) (S1 : Sto), cs ≠ [] → S1 q = some (.lst (cs.map D.int)) → ∀ p, S1 p = none → Q (.ref p) (up S1 p (.lst [.ref q, .int 0])) := fun q cs S1 hc hq p hp =>
    h p q _ ⟨cs, 0, up_same, (up_ne (sne hq hp)).trans hq, hc, Nat.le_refl _⟩
  walk_at "p"
  intro q0 hq0
  dsimp only
  have e0 : up S q0 (.lst (ns.map D.int)) q0 = some (.lst (ns.map D.int)) := up_same
  rw [e0]
  dsimp only
  cases ns with
  | cons n ns => exact fin q0 (n :: ns) _ (by simp) e0
  | nil =>
    intro q1 hq1
    exact fin q1 [0] _ (by simp) up_same
end Hy

set_option Elab.async false
set_option linter.all false
set_option maxRecDepth 100000
set_option maxHeartbeats 4000000
set_option autoImplicit false
namespace Hy
open PySem PySem.Spec PyProof.Rows L2
local macro_rules | `(tactic| walk_at "p") => `(tactic| try simp only [hSet, hAsg, hRet, hRetN, hExpr, hIfS, hNx, hop, hun, hcb, hV, hC, hB, hTr, hNot, hAnd, hOr, hIf, hTup, hLst, hLstM, hCons, hNil, hCall, hMeth, hMake, hMt, hSl, hNoP, hPart, hSetI, hFst, hOrT, hAndT, hNotT, hAug, bindD, bindDs, hEqO, hInO, hGetO, hiEnum, hRaise, hPar3, hYes, hFor, hLc, hLcM, hiR1, hiR2, hiSq_eq, wipeN, startE, List.map_cons, List.map_nil, List.length_cons, List.length_nil, List.replicate, List.cons_append, List.nil_append, List.append_nil, List.getElem?_cons_zero, List.getElem?_cons_succ, List.set_cons_zero, List.set_cons_succ, Nat.reduceAdd, Nat.reduceSub, Nat.zero_add, gI0, gI, gTru, gFmt, gNeg, gOrd, gIsN, isN, ng, Nat.beq, Nat.ble, isStr, bnot_t, bnot_f])
local macro_rules | `(tactic| walk_at "q") => `(tactic| ((try dsimp only); refine seq_ ?_; walk_at "p"))
local macro_rules | `(tactic| walk_at "g") => `(tactic| try simp only [gLt, gLe, gGt, gGe, gSub, gOrd, gI0, gI, gAdd, gNeg])
/-! ### unlike trees have unlike spellings -/
/-- a sign of a node's bits -/
def isBit (c : Nat) : Bool := c == 48 || c == 49 || c == 46
/-- nothing of a node's bits stands here -/
def Stop (r : List Nat) : Prop := ∀ c r', r = c :: r' → isBit c = false
theorem bits_split : ∀ (d1 d2 : List Nat) (r s : List Nat), (∀ c ∈ d1, isBit c = true) → (∀ c ∈ d2, isBit c = true) → Stop r → Stop s → d1 ++ r = d2 ++ s → d1 = d2 ∧ r = s
  | [], [], r, s, _, _, _, _, h => ⟨rfl, h⟩
  | [], c :: d2, r, s, _, h2, hr, _, h => by
    have := hr c (d2 ++ s) h
    rw [h2 c List.mem_cons_self] at this
    cases this
  | c :: d1, [], r, s, h1, _, _, hs, h => by
    have := hs c (d1 ++ r) h.symm
    rw [h1 c List.mem_cons_self] at this
    cases this
  | c :: d1, c2 :: d2, r, s, h1, h2, hr, hs, h => by
    simp only [List.cons_append, List.cons.injEq] at h
    obtain ⟨e1, e2⟩ := bits_split d1 d2 r s (fun c hc => h1 c (List.mem_cons_of_mem _ hc)) (fun c hc => h2 c (List.mem_cons_of_mem _ hc)) hr hs h.2
    exact ⟨by rw [h.1, e1], e2⟩
def bitC (x : Int) : Nat := if x = 0 then 48 else 49
/-- the signs of a node's bits -/
def bitsC (b : List Int) : List Nat := match b with
  | [] => [46]
  | x :: r => (x :: r).map bitC
theorem bitsC_bit {b : List Int} : ∀ c ∈ bitsC b, isBit c = true := by
  cases b with
  | nil => intro c hc; rw [List.mem_singleton.mp hc]; rfl
  | cons x r =>
    intro c hc
    obtain ⟨y, _, rfl⟩ := List.mem_map.mp hc
    unfold bitC
    split <;> rfl
theorem bitC_inj {x y : Int} (hx : x = 0 ∨ x = 1) (hy : y = 0 ∨ y = 1) (h : bitC x = bitC y) : x = y := by
  rcases hx with rfl | rfl <;> rcases hy with rfl | rfl <;> first | rfl | (exact absurd h (by decide))
theorem bitsC_inj : ∀ {a b : List Int}, (∀ x ∈ a, x = 0 ∨ x = 1) → (∀ x ∈ b, x = 0 ∨ x = 1) → bitsC a = bitsC b → a = b := by
  have key : ∀ (a b : List Int), (∀ x ∈ a, x = 0 ∨ x = 1) → (∀ x ∈ b, x = 0 ∨ x = 1) → a.map bitC = b.map bitC → a = b := by
    intro a
    induction a with
    | nil => intro b _ _ h; cases b with
      | nil => rfl
      | cons _ _ => cases h
    | cons x a ih =>
      intro b ha hb h
      cases b with
      | nil => cases h
      | cons y b =>
        simp only [List.map_cons, List.cons.injEq] at h
        rw [bitC_inj (ha x List.mem_cons_self) (hb y List.mem_cons_self) h.1, ih b (fun z hz => ha z (List.mem_cons_of_mem _ hz)) (fun z hz => hb z (List.mem_cons_of_mem _ hz)) h.2]
  intro a b ha hb h
  cases a with
  | nil =>
    cases b with
    | nil => rfl
    | cons y b =>
      simp only [bitsC, List.map_cons, List.cons.injEq] at h
      rcases hb y List.mem_cons_self with rfl | rfl <;> exact absurd h.1 (by decide)
  | cons x a =>
    cases b with
    | nil =>
      simp only [bitsC, List.map_cons, List.cons.injEq] at h
      rcases ha x List.mem_cons_self with rfl | rfl <;> exact absurd h.1 (by decide)
    | cons y b => exact key _ _ ha hb h
mutual
/-- a spelling's signs -/
def Tr.signs : Tr → List Nat
  | .nd b ks => bitsC b ++ match ks with
    | [] => []
    | k :: r => 40 :: (ksigns (k :: r) ++ [41])
def ksigns : List (Option Tr) → List Nat
  | [] => []
  | k :: ks => ksign k ++ match ks with
    | [] => []
    | k2 :: r => 44 :: ksigns (k2 :: r)
def ksign : Option Tr → List Nat
  | none => [45]
  | some t => t.signs
end
theorem bitsS_signs {b : List Int} (h : BitsOk b) : (bitsS b).cps.toList = bitsC b := by
  have n1 : ∀ x : Int, x = 0 ∨ x = 1 → (numS x).cps.toList = [bitC x] := by
    intro x hx
    rcases hx with rfl | rfl <;> decide +kernel
  have key : ∀ l : List Int, (∀ x ∈ l, x = 0 ∨ x = 1) → (Txt.join ("" : PySem.Str) (l.map numS)).cps.toList = l.map bitC := by
    intro l hl
    induction l with
    | nil => rw [List.map_nil, join_nil] <;> rfl
    | cons x l ih =>
      cases l with
      | nil => rw [List.map_cons, List.map_nil, join_one, n1 x (hl x List.mem_cons_self)] <;> rfl
      | cons y r =>
        have e := ih fun z hz => hl z (List.mem_cons_of_mem _ hz)
        rw [List.map_cons, List.map_cons, join_cons2, app_cps, app_cps, n1 x (hl x List.mem_cons_self), show ("" : PySem.Str).cps.toList = [] by decide +kernel, ← List.map_cons, e] <;> rfl
  cases b with
  | nil => decide +kernel
  | cons x r => exact key (x :: r) h.1
mutual
theorem spell_signs : ∀ (n : Nat) (t : Tr), Ok n t → t.spell.cps.toList = t.signs
  | 0, _, h => h.elim
  | n + 1, .nd b [], h => by
    show (bitsS b).cps.toList = bitsC b ++ []
    rw [bitsS_signs h.1, List.append_nil]
  | n + 1, .nd b (k :: r), h => by
    show (bitsS b ++ ("(" : PySem.Str) ++ Txt.join ("," : PySem.Str) (spells (k :: r)) ++ (")" : PySem.Str)).cps.toList = bitsC b ++ 40 :: (ksigns (k :: r) ++ [41])
    rw [app_cps, app_cps, app_cps, bitsS_signs h.1, show ("(" : PySem.Str).cps.toList = [40] by decide +kernel, show (")" : PySem.Str).cps.toList = [41] by decide +kernel, spells_signs n (k :: r) h.2.2]
    simp
theorem spells_signs : ∀ (n : Nat) (ks : List (Option Tr)), Oks n ks → (Txt.join ("," : PySem.Str) (spells ks)).cps.toList = ksigns ks
  | _, [], _ => by show (Txt.join ("," : PySem.Str) []).cps.toList = []; rw [join_nil] <;> rfl
  | n, k :: [], h => by
    show (Txt.join ("," : PySem.Str) [kspell k]).cps.toList = ksign k ++ []
    rw [join_one, List.append_nil]
    have := h k List.mem_cons_self
    cases k with
    | none => show ("-" : PySem.Str).cps.toList = [45]; decide +kernel
    | some t => exact spell_signs n t this
  | n, k :: k2 :: r, h => by
    have e := spells_signs n (k2 :: r) fun k' z => h k' (List.mem_cons_of_mem _ z)
    show (Txt.join ("," : PySem.Str) (kspell k :: kspell k2 :: spells r)).cps.toList = ksign k ++ 44 :: ksigns (k2 :: r)
    rw [join_cons2, app_cps, app_cps, show ("," : PySem.Str).cps.toList = [44] by decide +kernel]
    have e2 : (Txt.join ("," : PySem.Str) (kspell k2 :: spells r)).cps.toList = ksigns (k2 :: r) := e
    rw [e2]
    have := h k List.mem_cons_self
    cases k with
    | none => rw [show (kspell none).cps.toList = [45] by show ("-" : PySem.Str).cps.toList = [45]; decide +kernel] <;> rfl
    | some t =>
      rw [show (kspell (some t)).cps.toList = t.signs from spell_signs n t this]
      simp [ksign]
end
/-- here a node is at its end -/
def Out (r : List Nat) : Prop := ∀ c r', r = c :: r' → isBit c = false ∧ c ≠ 40
theorem ks_inj {n : Nat} (ih : ∀ (t u : Tr) (r s : List Nat), Ok n t → Ok n u → Out r → Out s → t.signs ++ r = u.signs ++ s → t = u ∧ r = s) :
    ∀ (ks ls : List (Option Tr)) (r s : List Nat), ks ≠ [] → ls ≠ [] → Oks n ks → Oks n ls → ksigns ks ++ 41 :: r = ksigns ls ++ 41 :: s → ks = ls ∧ r = s
  | [], _, _, _, h, _, _, _, _ => absurd rfl h
  | _ :: _, [], _, _, _, h, _, _, _ => absurd rfl h
  | k :: ks, l :: ls, r, s, _, _, hk, hl, h => by
    have kid : ∀ (R R' : List Nat), Out R → Out R' → ksign k ++ R = ksign l ++ R' → k = l ∧ R = R' := by
      intro R R' hR hR' e
      have o1 := hk k List.mem_cons_self
      have o2 := hl l List.mem_cons_self
      have first : ∀ (t : Tr) (X : List Nat), ∃ c Y, t.signs ++ X = c :: Y ∧ isBit c = true := by
        intro t X
        cases t with
        | nd b ks =>
          cases e : bitsC b with
          | nil => cases b <;> cases e
          | cons c d =>
            have hb := bitsC_bit (b := b) c (by rw [e]; exact List.mem_cons_self)
            cases ks with
            | nil => exact ⟨c, d ++ [] ++ X, by show (bitsC b ++ []) ++ X = _; rw [e] <;> rfl, hb⟩
            | cons k2 r2 => exact ⟨c, d ++ 40 :: (ksigns (k2 :: r2) ++ [41]) ++ X, by show (bitsC b ++ 40 :: (ksigns (k2 :: r2) ++ [41])) ++ X = _; rw [e] <;> rfl, hb⟩
      cases k with
      | none =>
        cases l with
        | none => exact ⟨rfl, by simpa [ksign] using e⟩
        | some u =>
          obtain ⟨c, Y, e1, e2⟩ := first u R'
          have e3 : [45] ++ R = c :: Y := e.trans e1
          cases e3
          cases e2
      | some t =>
        cases l with
        | none =>
          obtain ⟨c, Y, e1, e2⟩ := first t R
          have e3 : c :: Y = [45] ++ R' := e1.symm.trans e
          cases e3
          cases e2
        | some u =>
          obtain ⟨e1, e2⟩ := ih t u R R' o1 o2 hR hR' e
          exact ⟨by rw [e1], e2⟩
    have out41 : ∀ X : List Nat, Out (41 :: X) := fun X c r' e => by cases e; exact ⟨rfl, by decide⟩
    have out44 : ∀ X : List Nat, Out (44 :: X) := fun X c r' e => by cases e; exact ⟨rfl, by decide⟩
    cases ks with
    | nil =>
      cases ls with
      | nil =>
        have e : ksign k ++ 41 :: r = ksign l ++ 41 :: s := by simpa [ksigns] using h
        obtain ⟨e1, e2⟩ := kid _ _ (out41 r) (out41 s) e
        cases e2
        exact ⟨by rw [e1], rfl⟩
      | cons l2 ls =>
        have e : ksign k ++ 41 :: r = ksign l ++ 44 :: (ksigns (l2 :: ls) ++ 41 :: s) := by
          have : ksign k ++ [] ++ 41 :: r = (ksign l ++ 44 :: ksigns (l2 :: ls)) ++ 41 :: s := h
          simpa using this
        obtain ⟨_, e2⟩ := kid _ _ (out41 r) (out44 _) e
        cases e2
    | cons k2 ks =>
      cases ls with
      | nil =>
        have e : ksign k ++ 44 :: (ksigns (k2 :: ks) ++ 41 :: r) = ksign l ++ 41 :: s := by
          have : (ksign k ++ 44 :: ksigns (k2 :: ks)) ++ 41 :: r = ksign l ++ [] ++ 41 :: s := h
          simpa using this
        obtain ⟨_, e2⟩ := kid _ _ (out44 _) (out41 s) e
        cases e2
      | cons l2 ls =>
        have e : ksign k ++ 44 :: (ksigns (k2 :: ks) ++ 41 :: r) = ksign l ++ 44 :: (ksigns (l2 :: ls) ++ 41 :: s) := by
          have : (ksign k ++ 44 :: ksigns (k2 :: ks)) ++ 41 :: r = (ksign l ++ 44 :: ksigns (l2 :: ls)) ++ 41 :: s := h
          simpa using this
        obtain ⟨e1, e2⟩ := kid _ _ (out44 _) (out44 _) e
        simp only [List.cons.injEq, true_and] at e2
        obtain ⟨e3, e4⟩ := ks_inj ih (k2 :: ks) (l2 :: ls) r s (by simp) (by simp) (fun z hz => hk z (List.mem_cons_of_mem _ hz)) (fun z hz => hl z (List.mem_cons_of_mem _ hz)) e2
        exact ⟨by rw [e1, e3], e4⟩
theorem sg_inj : ∀ (n : Nat) (t u : Tr) (r s : List Nat), Ok n t → Ok n u → Out r → Out s → t.signs ++ r = u.signs ++ s → t = u ∧ r = s
  | 0, _, _, _, _, h, _, _, _, _ => h.elim
  | n + 1, .nd b ks, .nd c ls, r, s, ht, hu, hr, hs, h => by
    have st : ∀ X : List Nat, Stop (40 :: X) := fun X c r' e => by cases e; rfl
    cases ks with
    | nil =>
      cases ls with
      | nil =>
        have e : bitsC b ++ r = bitsC c ++ s := by
          have : (bitsC b ++ []) ++ r = (bitsC c ++ []) ++ s := h
          simpa using this
        obtain ⟨e1, e2⟩ := bits_split _ _ _ _ bitsC_bit bitsC_bit (fun c r' e => (hr c r' e).1) (fun c r' e => (hs c r' e).1) e
        exact ⟨by rw [bitsC_inj ht.1.1 hu.1.1 e1], e2⟩
      | cons l ls =>
        have e : bitsC b ++ r = bitsC c ++ 40 :: (ksigns (l :: ls) ++ 41 :: s) := by
          have : (bitsC b ++ []) ++ r = (bitsC c ++ 40 :: (ksigns (l :: ls) ++ [41])) ++ s := h
          simpa using this
        obtain ⟨_, e2⟩ := bits_split _ _ _ _ bitsC_bit bitsC_bit (fun c r' e => (hr c r' e).1) (st _) e
        exact absurd rfl (hr _ _ e2).2
    | cons k ks =>
      cases ls with
      | nil =>
        have e : bitsC b ++ 40 :: (ksigns (k :: ks) ++ 41 :: r) = bitsC c ++ s := by
          have : (bitsC b ++ 40 :: (ksigns (k :: ks) ++ [41])) ++ r = (bitsC c ++ []) ++ s := h
          simpa using this
        obtain ⟨_, e2⟩ := bits_split _ _ _ _ bitsC_bit bitsC_bit (st _) (fun c r' e => (hs c r' e).1) e
        exact absurd rfl (hs _ _ e2.symm).2
      | cons l ls =>
        have e : bitsC b ++ 40 :: (ksigns (k :: ks) ++ 41 :: r) = bitsC c ++ 40 :: (ksigns (l :: ls) ++ 41 :: s) := by
          have : (bitsC b ++ 40 :: (ksigns (k :: ks) ++ [41])) ++ r = (bitsC c ++ 40 :: (ksigns (l :: ls) ++ [41])) ++ s := h
          simpa using this
        obtain ⟨e1, e2⟩ := bits_split _ _ _ _ bitsC_bit bitsC_bit (st _) (st _) e
        simp only [List.cons.injEq, true_and] at e2
        obtain ⟨e3, e4⟩ := ks_inj (sg_inj n) (k :: ks) (l :: ls) r s (by simp) (by simp) ht.2.2 hu.2.2 e2
        exact ⟨by rw [bitsC_inj ht.1.1 hu.1.1 e1, e3], e4⟩
theorem spell_inj {n : Nat} {t u : Tr} (ht : Ok n t) (hu : Ok n u) (h : t.spell = u.spell) : t = u := by
  have e : t.signs ++ [] = u.signs ++ [] := by rw [List.append_nil, List.append_nil, ← spell_signs n t ht, ← spell_signs n u hu, h]
  exact (sg_inj n t u [] [] ht hu (fun c r' e => nomatch e) (fun c r' e => nomatch e) e).1
end Hy

set_option Elab.async false
set_option linter.all false
set_option maxRecDepth 100000
set_option maxHeartbeats 4000000
set_option autoImplicit false
namespace Hy
open PySem PySem.Spec PyProof.Rows L2
local macro_rules | `(tactic| walk_at "p") => `(tactic| try simp only [hSet, hAsg, hRet, hRetN, hExpr, hIfS, hNx, hop, hun, hcb, hV, hC, hB, hTr, hNot, hAnd, hOr, hIf, hTup, hLst, hLstM, hCons, hNil, hCall, hMeth, hMake, hMt, hSl, hNoP, hPart, hSetI, hFst, hOrT, hAndT, hNotT, hAug, bindD, bindDs, hEqO, hInO, hGetO, hiEnum, hRaise, hPar3, hYes, hFor, hLc, hLcM, hiR1, hiR2, hiSq_eq, wipeN, startE, List.map_cons, List.map_nil, List.length_cons, List.length_nil, List.replicate, List.cons_append, List.nil_append, List.append_nil, List.getElem?_cons_zero, List.getElem?_cons_succ, List.set_cons_zero, List.set_cons_succ, Nat.reduceAdd, Nat.reduceSub, Nat.zero_add, gI0, gI, gTru, gFmt, gNeg, gOrd, gIsN, isN, ng, Nat.beq, Nat.ble, isStr, bnot_t, bnot_f])
local macro_rules | `(tactic| walk_at "q") => `(tactic| ((try dsimp only); refine seq_ ?_; walk_at "p"))
local macro_rules | `(tactic| walk_at "g") => `(tactic| try simp only [gLt, gLe, gGt, gGe, gSub, gOrd, gI0, gI, gAdd, gNeg])
/-! ### == of trees -/
theorem eqv_ints : ∀ a b : List Int, PyData.eqvAll (toPs (a.map D.int)) (toPs (b.map D.int)) = true ↔ a = b
  | [], [] => by simp [toPs, PyData.eqvAll]
  | [], _ :: _ => by simp [toPs, PyData.eqvAll]
  | _ :: _, [] => by simp [toPs, PyData.eqvAll]
  | x :: a, y :: b => by
    have ih := eqv_ints a b
    simp only [List.map_cons, toPs, toP, PyData.eqvAll, PyData.eqv, Bool.and_eq_true, ih, beq_iff_eq, List.cons.injEq]
mutual
theorem eqv_tr : ∀ t u : Tr, PyData.eqv (toP (trD t)) (toP (trD u)) = true ↔ t = u
  | .nd b ks, .nd c ls => by
    have h1 := eqv_ints b c
    have h2 := eqv_ks ks ls
    simp only [trD, toP, toPs, PyData.eqv, PyData.eqvAll, Bool.and_eq_true, h1, h2, Bool.and_true, Tr.nd.injEq]
theorem eqv_ks : ∀ ks ls : List (Option Tr), PyData.eqvAll (toPs (ksD ks)) (toPs (ksD ls)) = true ↔ ks = ls
  | [], [] => by simp [ksD, toPs, PyData.eqvAll]
  | [], _ :: _ => by simp [ksD, toPs, PyData.eqvAll]
  | _ :: _, [] => by simp [ksD, toPs, PyData.eqvAll]
  | k :: ks, l :: ls => by
    have h1 := eqv_k k l
    have h2 := eqv_ks ks ls
    simp only [ksD, toPs, PyData.eqvAll, Bool.and_eq_true, h1, h2, List.cons.injEq]
theorem eqv_k : ∀ k l : Option Tr, PyData.eqv (toP (kD k)) (toP (kD l)) = true ↔ k = l
  | none, none => by simp [kD, toP, PyData.eqv]
  | none, some (.nd _ _) => by simp [kD, trD, toP, PyData.eqv]
  | some (.nd _ _), none => by simp [kD, trD, toP, PyData.eqv]
  | some t, some u => by
    have h := eqv_tr t u
    simp only [kD, h, Option.some.injEq]
end
theorem deq_spell {n : Nat} {t u : Tr} (ht : Ok n t) (hu : Ok n u) : deq (trD t) (trD u) = (t.spell == u.spell) := by
  have h1 : deq (trD t) (trD u) = true ↔ t = u := eqv_tr t u
  rw [Bool.eq_iff_iff, h1, beq_iff_eq]
  exact ⟨fun e => by rw [e], fun e => spell_inj ht hu e⟩
theorem eq_tree {n : Nat} (hn : n ≤ 30) {t u : Tr} (ht : Ok n t) (hu : Ok n u) (S : Sto) (K : HK) (h : K (.bl (t.spell == u.spell)) S) : gEq (trD t) (trD u) S K := by
  have d1 := dok_up _ _ 60 (by omega) (dok_tr n t ht)
  have d2 := dok_up _ _ 60 (by omega) (dok_tr n u hu)
  cases t with
  | nd b ks =>
  cases u with
  | nd c ls =>
  show (match dok 60 (trD (.nd b ks)) && dok 60 (trD (.nd c ls)) with
    | true => K (.bl (ng false (deq (trD (.nd b ks)) (trD (.nd c ls))))) S
    | false => False)
  rw [d1, d2, deq_spell ht hu]
  exact h
/-! depth by the law -/
abbrev dpD (t : Tr) : D := .int t.deep
def rdDeep (sp_law_deep : HSp) : HTS := (hRet (hop gAdd (hC (.int 1)) (hcb gMaxL (hCons (hop gAdd (hLc (hiSq (hop gIx (hV 0) (hC (.int 1)))) (.nm 1) (hB (hop (gIsN true) (hV 1) (hC .non))) (hCall 1 [] sp_law_deep (hCons (hV 1) hNil)) [1]) (hLst (hCons (hC (.int 0)) hNil))) hNil))))
theorem deep_keeps {n : Nat} {ds : List D} {S : Sto} {Q E : HK} (h : spT (n + 1) dpD ds S Q E) : rdDeep (spT n dpD) (EN Q E) (startE 2 ds) S := by
  obtain ⟨⟨b, ks⟩, rfl, ⟨_, h2, hk⟩, g⟩ := h
  unfold rdDeep
  walk_at "p"
  refine ix_items (xs := [.tup (b.map D.int), .tup (ksD ks)]) rfl rfl ?_
  try dsimp only [gSq, items, ckOf]
  refine some_loop ks [] hk ?_
  rw [List.nil_append, ← mapK_map Tr.deep D.int]
  have l1 := mapK_len Tr.deep ks
  refine add_lst (by rw [List.length_map]; show _ + 1 ≤ _; omega) ?_
  refine max_lst ?_
  exact Rt.mk (by
    rw [← deep_eq b ks]
    exact g)
end Hy

set_option Elab.async false
set_option linter.all false
set_option maxRecDepth 100000
set_option maxHeartbeats 4000000
set_option autoImplicit false
namespace Hy
open PySem PySem.Spec PyProof.Rows L2
local macro_rules | `(tactic| walk_at "p") => `(tactic| try simp only [hSet, hAsg, hRet, hRetN, hExpr, hIfS, hNx, hop, hun, hcb, hV, hC, hB, hTr, hNot, hAnd, hOr, hIf, hTup, hLst, hLstM, hCons, hNil, hCall, hMeth, hMake, hMt, hSl, hNoP, hPart, hSetI, hFst, hOrT, hAndT, hNotT, hAug, bindD, bindDs, hEqO, hInO, hGetO, hiEnum, hRaise, hPar3, hYes, hFor, hLc, hLcM, hiR1, hiR2, hiSq_eq, wipeN, startE, List.map_cons, List.map_nil, List.length_cons, List.length_nil, List.replicate, List.cons_append, List.nil_append, List.append_nil, List.getElem?_cons_zero, List.getElem?_cons_succ, List.set_cons_zero, List.set_cons_succ, Nat.reduceAdd, Nat.reduceSub, Nat.zero_add, gI0, gI, gTru, gFmt, gNeg, gOrd, gIsN, isN, ng, Nat.beq, Nat.ble, isStr, bnot_t, bnot_f])
local macro_rules | `(tactic| walk_at "q") => `(tactic| ((try dsimp only); refine seq_ ?_; walk_at "p"))
local macro_rules | `(tactic| walk_at "g") => `(tactic| try simp only [gLt, gLe, gGt, gGe, gSub, gOrd, gI0, gI, gAdd, gNeg])
theorem ne_ints (b : List Int) (S : Sto) (K : HK) (h : K (.bl false) S) : gNe (.tup (b.map D.int)) (.tup (b.map D.int)) S K := by
  have d : ∀ (b : List Int) (m : Nat), doks m (b.map D.int) = true := by
    intro b m
    induction b with
    | nil => cases m <;> rfl
    | cons x b ih => show (dok m (.int x) && doks m (b.map D.int)) = true; rw [ih]; cases m <;> rfl
  show (match doks 59 (b.map D.int) && doks 59 (b.map D.int) with
    | true => K (.bl (ng true (deq (.tup (b.map D.int)) (.tup (b.map D.int))))) S
    | false => False)
  rw [d]
  have e : deq (.tup (b.map D.int)) (.tup (b.map D.int)) = true := by
    show PyData.eqv (.tuple _) (.tuple _) = true
    simp only [PyData.eqv]
    exact (eqv_ints b b).mpr rfl
  rw [e]
  exact h
theorem ne_same_int (a : Int) (S : Sto) (K : HK) (h : K (.bl false) S) : gNe (.int a) (.int a) S K := by
  show K (.bl (ng true (deq (.int a) (.int a)))) S
  have e : deq (.int a) (.int a) = true := by simp [deq, toP, PyData.eqv]
  rw [e]
  exact h
theorem ne_same_str (a : Str) (S : Sto) (K : HK) (h : K (.bl false) S) : gNe (.str a) (.str a) S K := by
  show K (.bl (ng true (a == a))) S
  have e : (a == a) = true := by simp
  rw [e]
  exact h
theorem isi_tup {xs : List D} {S : Sto} {Q : HK} (h : Q (.bl true) S) : gIsiT isTup (.tup xs) S Q := h
def spSame (n : Nat) : HSp := fun ds S Q _ => ∃ t, ds = [pzD t, trD t] ∧ OkP n t ∧ Q (.bl true) S
def rdSame (sp_law_spelled sp_law_size sp_law_deep sp_law_same : HSp) : HTS := (hSeq (hIfS (hOr (hNot (hTr (hun (gIsi1 1 [1]) (hV 0)))) (hOr (hB (hop gNe (hun (gFld ix_bits) (hV 0)) (hop gIx (hV 1) (hC (.int 0))))) (hNot (hTr (hun (gIsiT isTup) (hun (gFld ix_children) (hV 0))))))) (hRet (hC (.bl false))) hNx)
  (hSeq (hIfS (hOr (hB (hop gNe (hcb gLen (hCons (hun (gFld ix_children) (hV 0)) hNil)) (hcb gLen (hCons (hop gIx (hV 1) (hC (.int 1))) hNil)))) (hB (hop gNe (hun (gFld ix_spelling) (hV 0)) (hCall 1 [] sp_law_spelled (hCons (hV 1) hNil))))) (hRet (hC (.bl false))) hNx)
  (hSeq (hIfS (hOr (hB (hop gNe (hun (gFld ix_size) (hV 0)) (hCall 1 [] sp_law_size (hCons (hV 1) hNil)))) (hB (hop gNe (hun (gFld ix_depth) (hV 0)) (hCall 1 [] sp_law_deep (hCons (hV 1) hNil))))) (hRet (hC (.bl false))) hNx)
  (hSeq (hFor (hiR1 (hCons (hcb gLen (hCons (hop gIx (hV 1) (hC (.int 1))) hNil)) hNil)) (.nm 2) (hSeq (hSet 3 (hop gIx (hun (gFld ix_children) (hV 0)) (hV 2)))
  (hSeq (hIfS (hAnd (hB (hop (gIsN false) (hop gIx (hop gIx (hV 1) (hC (.int 1))) (hV 2)) (hC .non))) (hB (hop (gIsN true) (hV 3) (hC .non)))) (hRet (hC (.bl false))) hNx)
  (hIfS (hAnd (hB (hop (gIsN true) (hop gIx (hop gIx (hV 1) (hC (.int 1))) (hV 2)) (hC .non))) (hNot (hTr (hCall 2 [] sp_law_same (hCons (hV 3) (hCons (hop gIx (hop gIx (hV 1) (hC (.int 1))) (hV 2)) hNil)))))) (hRet (hC (.bl false))) hNx))))
  (hRet (hC (.bl true)))))))
theorem pz_bits (b : List Int) (ks : List (Option Tr)) : (pzF (.nd b ks))[0]? = some (.tup (b.map D.int)) := rfl
theorem pz_kids (b : List Int) (ks : List (Option Tr)) : (pzF (.nd b ks))[1]? = some (.tup (pzs ks)) := rfl
theorem same_keeps {n : Nat} (hn : n + 1 ≤ 29) {ds : List D} {S : Sto} {Q E : HK} (h : spSame (n + 1) ds S Q E) : rdSame (spTP (OkP 29) spD) (spT 29 szD) (spT 29 dpD) (spSame n) (EN Q E) (startE 4 ds) S := by
  obtain ⟨⟨b, ks⟩, rfl, okp, g⟩ := h
  have hkp := okp_kids okp
  have okp8 := okp.mono hn
  have ok := okp.1
  obtain ⟨h1, h2, hk⟩ := id ok
  have ok8 : Ok 29 (.nd b ks) := ok.mono hn
  unfold rdSame
  walk_at "q"
  refine isi_pz _ ?_
  walk_at "p"
  refine fld_pz (i := 0) rfl (pz_bits b ks) ?_
  refine ix_items (xs := [.tup (b.map D.int), .tup (ksD ks)]) rfl (d := .tup (b.map D.int)) rfl ?_
  refine ne_ints b S _ ?_
  walk_at "p"
  refine fld_pz (i := 1) rfl (pz_kids b ks) ?_
  refine isi_tup ?_
  walk_at "q"
  refine fld_pz (i := 1) rfl (pz_kids b ks) ?_
  refine len_items (xs := pzs ks) rfl ?_
  refine ix_items (xs := [.tup (b.map D.int), .tup (ksD ks)]) rfl (d := .tup (ksD ks)) rfl ?_
  refine len_items (xs := ksD ks) rfl ?_
  rw [pzs_len, ksD_len]
  refine ne_same_int _ S _ ?_
  walk_at "p"
  refine fld_pz (i := 4) rfl (pz_spell _) ?_
  refine ⟨.nd b ks, rfl, okp8, ?_⟩
  refine ne_same_str _ S _ ?_
  show hSeq _ _ _ _ _
  walk_at "q"
  refine fld_pz (i := 2) rfl (pz_size _) ?_
  refine ⟨.nd b ks, rfl, ok8, ?_⟩
  refine ne_same_int _ S _ ?_
  walk_at "p"
  refine fld_pz (i := 3) rfl (pz_deep _) ?_
  refine ⟨.nd b ks, rfl, ok8, ?_⟩
  refine ne_same_int _ S _ ?_
  show hSeq _ _ _ _ _
  walk_at "q"
  refine ix_items (xs := [.tup (b.map D.int), .tup (ksD ks)]) rfl (d := .tup (ksD ks)) rfl ?_
  refine len_items (xs := ksD ks) rfl ?_
  rw [ksD_len]
  refine ⟨by omega, by omega, ?_⟩
  refine floop_all (I := fun env => ∃ y2 y3, env = [some (pzD (.nd b ks)), some (trD (.nd b ks)), y2, y3]) _ ?_ ?_ _ ⟨_, _, rfl⟩
  · rintro d hd _ ⟨y2, y3, rfl⟩
    obtain ⟨i, hi, rfl⟩ := List.mem_map.mp hd
    have hi := List.mem_range.mp hi
    have hi2 : i < ks.length := by omega
    have e1 : atI (pzs ks) (0 + (i : Int)) = some (pzk ks[i]) := by rw [Int.zero_add, pzs_map, atI_nat (by rw [List.length_map]; exact hi2)]; simp
    have e2 : atI (ksD ks) (0 + (i : Int)) = some (kD ks[i]) := by rw [Int.zero_add, ksD_map, atI_nat (by rw [List.length_map]; exact hi2)]; simp
    have okk := hkp _ (List.getElem_mem hi2)
    generalize ks[i] = k at e1 e2 okk
    refine ⟨_, rfl, fun K hK => ?_⟩
    walk_at "q"
    refine fld_pz (i := 1) rfl (pz_kids b ks) ?_
    refine ix_items (xs := pzs ks) rfl e1 ?_
    walk_at "q"
    refine ix_items (xs := [.tup (b.map D.int), .tup (ksD ks)]) rfl (d := .tup (ksD ks)) rfl ?_
    refine ix_items (xs := ksD ks) rfl e2 ?_
    have e3 : isN (kD k) = !k.isSome := by
      cases k with
      | none => rfl
      | some t => exact kD_some t
    have e4 := pzk_isN k
    unfold isN at e3 e4
    rw [e3]
    cases k with
    | none =>
      simp only [Option.isSome, Bool.not_false]
      rw [e4]
      simp only [Option.isSome, Bool.not_false, Bool.not_true]
      refine ix_items (xs := [.tup (b.map D.int), .tup (ksD ks)]) rfl (d := .tup (ksD ks)) rfl ?_
      refine ix_items (xs := ksD ks) rfl e2 ?_
      exact hK _ ⟨_, _, rfl⟩
    | some t =>
      simp only [Option.isSome, Bool.not_true]
      refine ix_items (xs := [.tup (b.map D.int), .tup (ksD ks)]) rfl (d := .tup (ksD ks)) rfl ?_
      refine ix_items (xs := ksD ks) rfl e2 ?_
      rw [e3]
      simp only [Option.isSome, Bool.not_true, Bool.not_false]
      refine ix_items (xs := [.tup (b.map D.int), .tup (ksD ks)]) rfl (d := .tup (ksD ks)) rfl ?_
      refine ix_items (xs := ksD ks) rfl e2 ?_
      refine ⟨t, rfl, okk, ?_⟩
      exact hK _ ⟨_, _, rfl⟩
  · rintro _ ⟨y2, y3, rfl⟩
    exact Rt.mk g
end Hy

set_option Elab.async false
set_option linter.all false
set_option maxRecDepth 100000
set_option maxHeartbeats 4000000
set_option autoImplicit false
namespace Hy
open PySem PySem.Spec PyProof.Rows L2
local macro_rules | `(tactic| walk_at "p") => `(tactic| try simp only [hSet, hAsg, hRet, hRetN, hExpr, hIfS, hNx, hop, hun, hcb, hV, hC, hB, hTr, hNot, hAnd, hOr, hIf, hTup, hLst, hLstM, hCons, hNil, hCall, hMeth, hMake, hMt, hSl, hNoP, hPart, hSetI, hFst, hOrT, hAndT, hNotT, hAug, bindD, bindDs, hEqO, hInO, hGetO, hiEnum, hRaise, hPar3, hYes, hFor, hLc, hLcM, hiR1, hiR2, hiSq_eq, wipeN, startE, List.map_cons, List.map_nil, List.length_cons, List.length_nil, List.replicate, List.cons_append, List.nil_append, List.append_nil, List.getElem?_cons_zero, List.getElem?_cons_succ, List.set_cons_zero, List.set_cons_succ, Nat.reduceAdd, Nat.reduceSub, Nat.zero_add, gI0, gI, gTru, gFmt, gNeg, gOrd, gIsN, isN, ng, Nat.beq, Nat.ble, isStr, bnot_t, bnot_f])
local macro_rules | `(tactic| walk_at "q") => `(tactic| ((try dsimp only); refine seq_ ?_; walk_at "p"))
local macro_rules | `(tactic| walk_at "g") => `(tactic| try simp only [gLt, gLe, gGt, gGe, gSub, gOrd, gI0, gI, gAdd, gNeg])
/-! ### one change -/
theorem cut_drop (xs : List D) (n : Nat) (h : n ≤ xs.length) : cutD xs (some (n : Int)) none = xs.drop n := by
  unfold cutD
  rw [HT.sIx_none, HT.sIx_nat, Nat.min_eq_left h, List.take_of_length_le (by rw [List.length_drop]; omega)]
theorem drop_sl {xs : List D} {n : Nat} {S : Sto} {Q : HK} (hn : n ≤ xs.length) (h : Q (.tup (xs.drop n)) S) : gSl (.tup xs) (some (n : Int)) none S Q := by
  show Q (.tup (cutD xs (some (n : Int)) none)) S
  rw [cut_drop _ _ hn]; exact h
theorem add_tup {xs ys : List D} {S : Sto} {Q : HK} (hl : xs.length + ys.length ≤ 16777216) (h : Q (.tup (xs ++ ys)) S) : gAdd (.tup xs) (.tup ys) S Q := ⟨line_le hl, h⟩
def spBent (n : Nat) : HSp := fun ds S Q _ => ∃ (p q : Addr) (m : Nat) (t : Tr), ds = [.ref p, trD t] ∧ Sm n t ∧ Pen S p q m ∧ m + 3 * n ≤ most ∧
  ∀ (u : Tr) (S' : Sto), Ok (n + 1) u → u.size ≤ t.size + 1 → Pen S' p q (m + 3 * n) → Fr2 p q S S' → Q (trD u) S'
def rdBent (sp_law_draw sp_law_bent : HSp) : HTS := (hSeq (hAsg (.tp [(.nm 2), (.nm 3)]) (hV 1))
  (hSeq (hSet 4 (hCall 2 [] sp_law_draw (hCons (hV 0) (hCons (hop gAdd (hcb gLen (hCons (hV 2) hNil)) (hC (.int 1))) hNil))))
  (hSeq (hSet 5 (hCall 2 [] sp_law_draw (hCons (hV 0) (hCons (hC (.int 4)) hNil))))
  (hSeq (hIfS (hAnd (hB (hop gEq (hV 5) (hC (.int 0)))) (hB (hop gNe (hV 3) (hTup hNil)))) (hSeq (hSet 6 (hCall 2 [] sp_law_draw (hCons (hV 0) (hCons (hcb gLen (hCons (hV 3) hNil)) hNil))))
  (hSeq (hSet 7 (hIf (hB (hop (gIsN false) (hop gIx (hV 3) (hV 6)) (hC .non))) (hTup (hCons (hTup hNil) (hCons (hTup hNil) hNil))) (hCall 2 [] sp_law_bent (hCons (hV 0) (hCons (hop gIx (hV 3) (hV 6)) hNil)))))
  (hRet (hTup (hCons (hV 2) (hCons (hop gAdd (hop gAdd (hSl (hV 3) hNoP (hPart (hV 6))) (hTup (hCons (hV 7) hNil))) (hSl (hV 3) (hPart (hop gAdd (hV 6) (hC (.int 1)))) hNoP)) hNil)))))) hNx)
  (hSeq (hIfS (hB (hop gEq (hV 5) (hC (.int 1)))) (hRet (hTup (hCons (hV 2) (hCons (hop gAdd (hV 3) (hTup (hCons (hTup (hCons (hTup hNil) (hCons (hTup hNil) hNil))) hNil))) hNil)))) hNx)
  (hSeq (hIfS (hB (hop gEq (hV 5) (hC (.int 2)))) (hRet (hTup (hCons (hV 2) (hCons (hop gAdd (hop gAdd (hTup (hCons (hC .non) hNil)) (hV 3)) (hTup (hCons (hTup (hCons (hTup (hCons (hC (.int 1)) hNil)) (hCons (hTup hNil) hNil))) hNil))) hNil)))) hNx)
  (hRet (hTup (hCons (hop gAdd (hop gAdd (hop gAdd (hSl (hV 2) hNoP (hPart (hV 4))) (hTup (hCons (hC (.int 1)) hNil))) (hSl (hV 2) (hPart (hV 4)) hNoP)) (hTup (hCons (hC (.int 1)) hNil))) (hCons (hV 3) hNil))))))))))
theorem eq_int (x y : Int) (S : Sto) (K : HK) (h : K (.bl (x == y)) S) : gEq (.int x) (.int y) S K := by
  show K (.bl (ng false (deq (.int x) (.int y)))) S
  have e : deq (.int x) (.int y) = (x == y) := by simp [deq, toP, PyData.eqv]
  rw [e]
  exact h
theorem ok_new {n : Nat} : Ok (n + 1) (.nd [] []) := ⟨⟨fun x hx => (by cases hx), by decide⟩, by decide, fun k hk => (by cases hk)⟩
theorem ok_new1 {n : Nat} : Ok (n + 1) (.nd [1] []) := ⟨⟨fun x hx => .inr (List.mem_singleton.mp hx), by decide⟩, by decide, fun k hk => (by cases hk)⟩
theorem oks_up {n : Nat} {ks : List (Option Tr)} (h : Sms n ks) : Oks (n + 1) ks := fun k hk => by
  have := h k hk
  cases k with
  | none => trivial
  | some t => exact (Sm.ok this).up
theorem ksize_split (ks : List (Option Tr)) (i : Nat) (h : i < ks.length) : ksSize ks = ksSize (ks.take i) + kSize ks[i] + ksSize (ks.drop (i + 1)) := by
  induction ks generalizing i with
  | nil => cases h
  | cons k ks ih =>
    cases i with
    | zero => show kSize k + ksSize ks = 0 + kSize k + ksSize ks; omega
    | succ i =>
      have := ih i (by simpa using h)
      have hi : i < ks.length := by simpa using h
      show kSize k + ksSize ks = kSize k + ksSize (ks.take i) + kSize (ks[i]'hi) + ksSize (ks.drop (i + 1))
      omega
theorem ksize_apps (a b : List (Option Tr)) : ksSize (a ++ b) = ksSize a + ksSize b := by
  induction a with
  | nil => show ksSize b = 0 + ksSize b; omega
  | cons k a ih => show kSize k + ksSize (a ++ b) = kSize k + ksSize a + ksSize b; omega
theorem bent_keeps {n : Nat} (hn : n + 1 ≤ 8) {ds : List D} {S : Sto} {Q E : HK} (h : spBent (n + 1) ds S Q E) : rdBent spDraw (spBent n) (EN Q E) (startE 8 ds) S := by
  obtain ⟨p, q, m, ⟨b, ks⟩, rfl, sm, pen, hm, g⟩ := h
  obtain ⟨h1, h2, hk⟩ := id sm
  have okb : BitsOk b := ⟨h1.1, Nat.le_trans h1.2 (by decide)⟩
  rw [show trD (.nd b ks) = .tup [.tup (b.map D.int), .tup (ksD ks)] from rfl]
  unfold rdBent
  walk_at "q"
  walk_at "q"
  refine len_items (xs := b.map D.int) rfl ?_
  simp only [gAdd]
  rw [List.length_map]
  refine ⟨p, q, m, (b.length : Int) + 1, rfl, by omega, by have := h1.2; omega, pen, by omega, fun v S1 v0 v1 pen1 fr1 => ?_⟩
  walk_at "q"
  refine ⟨p, q, m + 1, 4, rfl, by decide, by decide, pen1, by omega, fun w S2 w0 w1 pen2 fr2 => ?_⟩
  have fr : Fr2 p q S S2 := fr1.trans fr2
  have p2 : Pen S2 p q (m + 3 * (n + 1)) := pen2.mono (by omega)
  have lb := h1.2
  have lk := ksD_len ks
  have rest : ∀ y6 y7 : Option D, hSeq (hIfS (hB (hop gEq (hV 5) (hC (.int 1)))) (hRet (hTup (hCons (hV 2) (hCons (hop gAdd (hV 3) (hTup (hCons (hTup (hCons (hTup hNil) (hCons (hTup hNil) hNil))) hNil))) hNil)))) hNx)
      (hSeq (hIfS (hB (hop gEq (hV 5) (hC (.int 2)))) (hRet (hTup (hCons (hV 2) (hCons (hop gAdd (hop gAdd (hTup (hCons (hC .non) hNil)) (hV 3)) (hTup (hCons (hTup (hCons (hTup (hCons (hC (.int 1)) hNil)) (hCons (hTup hNil) hNil))) hNil))) hNil)))) hNx)
      (hRet (hTup (hCons (hop gAdd (hop gAdd (hop gAdd (hSl (hV 2) hNoP (hPart (hV 4))) (hTup (hCons (hC (.int 1)) hNil))) (hSl (hV 2) (hPart (hV 4)) hNoP)) (hTup (hCons (hC (.int 1)) hNil))) (hCons (hV 3) hNil))))) (EN Q E)
      [some (.ref p), some (.tup [.tup (b.map D.int), .tup (ksD ks)]), some (.tup (b.map D.int)), some (.tup (ksD ks)), some (.int v), some (.int w), y6, y7] S2 := by
    intro y6 y7
    walk_at "q"
    refine eq_int w 1 S2 _ ?_
    cases hw1 : (w == 1) with
    | true =>
      dsimp only
      refine add_tup (by show _ + 1 ≤ _; omega) ?_
      refine Rt.mk ?_
      have e : ksD ks ++ [D.tup [.tup [], .tup []]] = ksD (ks ++ [some (.nd [] [])]) := by rw [ksD_app] <;> rfl
      rw [e]
      refine g (.nd b (ks ++ [some (.nd [] [])])) S2 ⟨okb, by rw [List.length_append]; show _ + 1 ≤ 600; omega, fun k hk' => ?_⟩ ?_ p2 fr
      · rcases List.mem_append.mp hk' with hk' | hk'
        · exact oks_up hk k hk'
        · rw [List.mem_singleton.mp hk']; exact ok_new
      · show 1 + ksSize (ks ++ [some (.nd [] [])]) ≤ 1 + ksSize ks + 1
        rw [ksSize_app]
        show 1 + (ksSize ks + (1 + 0)) ≤ _
        omega
    | false =>
      walk_at "q"
      refine eq_int w 2 S2 _ ?_
      cases hw2 : (w == 2) with
      | true =>
        dsimp only
        refine add_tup (by show 1 + _ ≤ _; omega) ?_
        refine add_tup (by rw [List.length_append]; show 1 + _ + 1 ≤ _; omega) ?_
        refine Rt.mk ?_
        have e : [D.non] ++ ksD ks ++ [D.tup [.tup [.int 1], .tup []]] = ksD (none :: (ks ++ [some (.nd [1] [])])) := by
          show _ = D.non :: ksD (ks ++ [some (.nd [1] [])])
          rw [ksD_app] <;> rfl
        rw [e]
        refine g (.nd b (none :: (ks ++ [some (.nd [1] [])]))) S2 ⟨okb, by rw [List.length_cons, List.length_append]; show _ + 1 + 1 ≤ 600; omega, fun k hk' => ?_⟩ ?_ p2 fr
        · rcases List.mem_cons.mp hk' with rfl | hk'
          · trivial
          · rcases List.mem_append.mp hk' with hk' | hk'
            · exact oks_up hk k hk'
            · rw [List.mem_singleton.mp hk']; exact ok_new1
        · show 1 + (0 + ksSize (ks ++ [some (.nd [1] [])])) ≤ 1 + ksSize ks + 1
          rw [ksSize_app]
          show 1 + (0 + (ksSize ks + (1 + 0))) ≤ _
          omega
      | false =>
        dsimp only
        obtain ⟨a, rfl⟩ : ∃ a : Nat, v = a := ⟨v.toNat, by omega⟩
        have ha : a ≤ (b.map D.int).length := by rw [List.length_map]; omega
        have t1 : ((b.map D.int).take a).length ≤ 6 := by rw [List.length_take, List.length_map]; omega
        have t2 : ((b.map D.int).drop a).length ≤ 6 := by rw [List.length_drop, List.length_map]; omega
        refine sl_seq (c := .tup) (.inl rfl) ?_
        refine add_tup (by show _ + 1 ≤ _; omega) ?_
        refine drop_sl ha ?_
        refine add_tup (by rw [List.length_append]; show _ + 1 + _ ≤ _; omega) ?_
        refine add_tup (by rw [List.length_append, List.length_append]; show _ + 1 + _ + 1 ≤ _; omega) ?_
        refine Rt.mk ?_
        have e : (b.map D.int).take a ++ [.int 1] ++ (b.map D.int).drop a ++ [.int 1] = (b.take a ++ [1] ++ b.drop a ++ [1]).map D.int := by simp
        rw [e]
        refine g (.nd (b.take a ++ [1] ++ b.drop a ++ [1]) ks) S2 ⟨⟨fun x hx => ?_, ?_⟩, Nat.le_trans h2 (by decide), oks_up hk⟩ (by show 1 + ksSize ks ≤ 1 + ksSize ks + 1; omega) p2 fr
        · simp only [List.mem_append, List.mem_singleton] at hx
          rcases hx with ((hx | hx) | hx) | hx
          · exact h1.1 x (List.mem_of_mem_take hx)
          · exact .inr hx
          · exact h1.1 x (List.mem_of_mem_drop hx)
          · exact .inr hx
        · simp only [List.length_append, List.length_take, List.length_drop, List.length_singleton]
          omega
  have okk : Oks n ks := fun k hk' => by
    have := hk k hk'
    cases k with
    | none => trivial
    | some t => exact Sm.ok this
  walk_at "q"
  refine eq_int w 0 S2 _ ?_
  cases hw0 : (w == 0) with
  | false => exact rest none none
  | true =>
    dsimp only
    refine ne_kids (n := n) (by omega) ks okk S2 _ ?_
    cases hks : ks.isEmpty with
    | true => exact rest none none
    | false =>
      have hpos : 0 < ks.length := by
        cases ks with
        | nil => cases hks
        | cons _ _ => exact Nat.succ_pos _
      dsimp only [Bool.not_false]
      walk_at "q"
      refine len_items (xs := ksD ks) rfl ?_
      rw [lk]
      refine ⟨p, q, m + 2, (ks.length : Int), rfl, by omega, by omega, pen2, by omega, fun x S3 x0 x1 pen3 fr3 => ?_⟩
      obtain ⟨i, rfl⟩ : ∃ i : Nat, x = i := ⟨x.toNat, by omega⟩
      have hi : i < ks.length := by omega
      have e2 : atI (ksD ks) (i : Int) = some (kD ks[i]) := by rw [ksD_map, atI_nat (by rw [List.length_map]; exact hi)]; simp
      have hki := hk _ (List.getElem_mem hi)
      have hsz := ksize_split ks i hi
      have fin : ∀ (u : Tr) (S4 : Sto), Ok (n + 1) u → u.size ≤ kSize ks[i] + 1 → Pen S4 p q (m + 3 * (n + 1)) → Fr2 p q S S4 →
          hRet (hTup (hCons (hV 2) (hCons (hop gAdd (hop gAdd (hSl (hV 3) hNoP (hPart (hV 6))) (hTup (hCons (hV 7) hNil))) (hSl (hV 3) (hPart (hop gAdd (hV 6) (hC (.int 1)))) hNoP)) hNil))) (EN Q E)
            [some (.ref p), some (.tup [.tup (b.map D.int), .tup (ksD ks)]), some (.tup (b.map D.int)), some (.tup (ksD ks)), some (.int v), some (.int w), some (.int (i : Int)), some (trD u)] S4 := by
        intro u S4 hu hus pen4 fr4
        walk_at "p"
        have t1 : ((ksD ks).take i).length ≤ 3 := by rw [List.length_take, lk]; omega
        have t2 : ((ksD ks).drop (i + 1)).length ≤ 3 := by rw [List.length_drop, lk]; omega
        refine sl_seq (c := .tup) (.inl rfl) ?_
        refine add_tup (by show _ + 1 ≤ _; omega) ?_
        walk_at "g"
        rw [show (i : Int) + 1 = ((i + 1 : Nat) : Int) by omega]
        refine drop_sl (by rw [lk]; omega) ?_
        refine ⟨line_le (by rw [List.length_append]; show _ + 1 + _ ≤ _; omega), ?_⟩
        refine Rt.mk ?_
        have e : (ksD ks).take i ++ [trD u] ++ (ksD ks).drop (i + 1) = ksD (ks.take i ++ [some u] ++ ks.drop (i + 1)) := by
          simp only [ksD_map, List.map_append, List.map_take, List.map_drop, List.map_cons, List.map_nil]
          rfl
        rw [e]
        refine g (.nd b (ks.take i ++ [some u] ++ ks.drop (i + 1))) S4 ⟨okb, ?_, fun k hk' => ?_⟩ ?_ pen4 fr4
        · simp only [List.length_append, List.length_take, List.length_drop, List.length_singleton]
          omega
        · rcases List.mem_append.mp hk' with hk' | hk'
          · rcases List.mem_append.mp hk' with hk' | hk'
            · exact oks_up hk k (List.mem_of_mem_take hk')
            · rw [List.mem_singleton.mp hk']; exact hu
          · exact oks_up hk k (List.mem_of_mem_drop hk')
        · show 1 + ksSize (ks.take i ++ [some u] ++ ks.drop (i + 1)) ≤ 1 + ksSize ks + 1
          rw [ksize_apps, ksize_apps]
          show 1 + (ksSize (ks.take i) + (u.size + 0) + ksSize (ks.drop (i + 1))) ≤ _
          omega
      generalize ks[i] = k at e2 hki hsz fin
      refine seq_ ?_
      walk_at "p"
      refine ix_items (xs := ksD ks) rfl e2 ?_
      cases k with
      | none =>
        exact fin (.nd [] []) S3 ok_new (by show 1 + 0 ≤ 0 + 1; omega) (pen3.mono (by omega)) (fr.trans fr3)
      | some t =>
        have en : isN (kD (some t)) = false := kD_some t
        unfold isN at en
        rw [en]
        dsimp only
        refine ix_items (xs := ksD ks) rfl e2 ?_
        refine ⟨p, q, m + 3, t, rfl, hki, pen3, by omega, fun u S4 hu hus pen4 fr4 => ?_⟩
        exact fin u S4 hu hus (pen4.mono (by omega)) (fr.trans (fr3.trans fr4))
end Hy

set_option Elab.async false
set_option linter.all false
set_option maxRecDepth 100000
set_option maxHeartbeats 4000000
set_option autoImplicit false
namespace Hy
open PySem PySem.Spec PyProof.Rows L2
local macro_rules | `(tactic| walk_at "p") => `(tactic| try simp only [hSet, hAsg, hRet, hRetN, hExpr, hIfS, hNx, hop, hun, hcb, hV, hC, hB, hTr, hNot, hAnd, hOr, hIf, hTup, hLst, hLstM, hCons, hNil, hCall, hMeth, hMake, hMt, hSl, hNoP, hPart, hSetI, hFst, hOrT, hAndT, hNotT, hAug, bindD, bindDs, hEqO, hInO, hGetO, hiEnum, hRaise, hPar3, hYes, hFor, hLc, hLcM, hiR1, hiR2, hiSq_eq, wipeN, startE, List.map_cons, List.map_nil, List.length_cons, List.length_nil, List.replicate, List.cons_append, List.nil_append, List.append_nil, List.getElem?_cons_zero, List.getElem?_cons_succ, List.set_cons_zero, List.set_cons_succ, Nat.reduceAdd, Nat.reduceSub, Nat.zero_add, gI0, gI, gTru, gFmt, gNeg, gOrd, gIsN, isN, ng, Nat.beq, Nat.ble, isStr, bnot_t, bnot_f])
local macro_rules | `(tactic| walk_at "q") => `(tactic| ((try dsimp only); refine seq_ ?_; walk_at "p"))
local macro_rules | `(tactic| walk_at "g") => `(tactic| try simp only [gLt, gLe, gGt, gGe, gSub, gOrd, gI0, gI, gAdd, gNeg])
/-! ### == of a puzzle and anything -/
def spEqX : HSp := fun ds S Q _ => ∃ (t : Tr) (y : D), ds = [pzD t, y] ∧ ((∃ u, y = pzD u ∧ Q (.bl (t.spell == u.spell)) S) ∨ (isiO 1 [1] S y = some false ∧ Q (.bl false) S))
theorem eqx_keeps {ds : List D} {S : Sto} {Q E : HK} (h : spEqX ds S Q E) : rdEq (EN Q E) (startE 2 ds) S := by
  obtain ⟨t, y, rfl, h⟩ := h
  unfold rdEq
  walk_at "p"
  rcases h with ⟨u, rfl, g⟩ | ⟨e, g⟩
  · refine isi_pz u ?_
    walk_at "p"
    refine fld_pz (i := 4) rfl (pz_spell t) ?_
    refine fld_pz (i := 4) rfl (pz_spell u) ?_
    exact Rt.mk g
  · unfold gIsi1
    rw [e]
    exact Rt.mk g
/-! zeros and Nones at the end are dropped -/
theorem short_pad {α : Type} {p : α → Bool} {x : α} (hx : p x = false) (xs : List α) : ∀ n : Nat, short p (xs ++ List.replicate n x) = short p xs := by
  have key : ∀ n : Nat, lastOf p (xs ++ List.replicate n x) = lastOf p xs := by
    intro n
    induction n with
    | zero => simp
    | succ n ih =>
      rw [List.replicate_succ', ← List.append_assoc, lastOf_snoc, hx, ih]
  intro n
  unfold short
  rw [key, List.take_append_of_le_length (lastOf_le p xs)]
end Hy

set_option Elab.async false
set_option linter.all false
set_option maxRecDepth 100000
set_option maxHeartbeats 4000000
set_option autoImplicit false
namespace Hy
open PySem PySem.Spec PyProof.Rows L2
local macro_rules | `(tactic| walk_at "p") => `(tactic| try simp only [hSet, hAsg, hRet, hRetN, hExpr, hIfS, hNx, hop, hun, hcb, hV, hC, hB, hTr, hNot, hAnd, hOr, hIf, hTup, hLst, hLstM, hCons, hNil, hCall, hMeth, hMake, hMt, hSl, hNoP, hPart, hSetI, hFst, hOrT, hAndT, hNotT, hAug, bindD, bindDs, hEqO, hInO, hGetO, hiEnum, hRaise, hPar3, hYes, hFor, hLc, hLcM, hiR1, hiR2, hiSq_eq, wipeN, startE, List.map_cons, List.map_nil, List.length_cons, List.length_nil, List.replicate, List.cons_append, List.nil_append, List.append_nil, List.getElem?_cons_zero, List.getElem?_cons_succ, List.set_cons_zero, List.set_cons_succ, Nat.reduceAdd, Nat.reduceSub, Nat.zero_add, gI0, gI, gTru, gFmt, gNeg, gOrd, gIsN, isN, ng, Nat.beq, Nat.ble, isStr, bnot_t, bnot_f])
local macro_rules | `(tactic| walk_at "q") => `(tactic| ((try dsimp only); refine seq_ ?_; walk_at "p"))
local macro_rules | `(tactic| walk_at "g") => `(tactic| try simp only [gLt, gLe, gGt, gGe, gSub, gOrd, gI0, gI, gAdd, gNeg])
/-! ### loops by an invariant over the turn's number -/
theorem floop_ix' {p : Pt} {tb : HTS} {k : Ck} {D0 : HEnds} (I : Nat → HEnv → Sto → Prop) : ∀ (l : List D) (j : Nat), (∀ i env S, i ≤ l.length → I (j + i) env S → ∀ A : Prop, A → chk k S A) →
    (∀ i d env S, l[i]? = some d → I (j + i) env S → ∃ env1, bindD p d env = some env1 ∧ ∀ K : HEnv → Sto → Prop, (∀ e S', I (j + i + 1) e S' → K e S') → tb { D0 with nx := K, ct := K, bk := D0.nx } env1 S) →
    (∀ env S, I (j + l.length) env S → D0.nx env S) → ∀ env S, I j env S → floop p tb k l D0 env S
  | [], j, hc, _, hf, env, S, h => hc 0 env S (Nat.le_refl _) h _ (hf env S h)
  | d :: l, j, hc, hs, hf, env, S, h => by
    refine hc 0 env S (Nat.zero_le _) h _ ?_
    obtain ⟨env1, e, hb⟩ := hs 0 d env S rfl h
    show (match bindD p d env with
      | some env1 => tb { D0 with nx := floop p tb k l D0, ct := floop p tb k l D0, bk := D0.nx } env1 S
      | none => False)
    rw [e]
    refine hb _ fun e' S' h' => floop_ix' I l (j + 1) (fun i env S hi => ?_) (fun i d' env S hd => ?_) (fun env S => ?_) e' S' h'
    · have := hc (i + 1) env S (by simpa using hi)
      rwa [show j + (i + 1) = j + 1 + i by omega] at this
    · have := hs (i + 1) d' env S (by simpa using hd)
      rwa [show j + (i + 1) = j + 1 + i by omega] at this
    · have := hf env S
      rwa [show j + (d :: l).length = j + 1 + l.length by simp; omega] at this
theorem floop_ix {p : Pt} {tb : HTS} {D0 : HEnds} (I : Nat → HEnv → Sto → Prop) (l : List D)
    (hs : ∀ i d env S, l[i]? = some d → I i env S → ∃ env1, bindD p d env = some env1 ∧ ∀ K : HEnv → Sto → Prop, (∀ e S', I (i + 1) e S' → K e S') → tb { D0 with nx := K, ct := K, bk := D0.nx } env1 S)
    (hf : ∀ env S, I l.length env S → D0.nx env S) {env : HEnv} {S : Sto} (h : I 0 env S) : floop p tb none l D0 env S :=
  floop_ix' I l 0 (fun i env S h1 h2 A a => (show chk none S A from a)) (fun i d env S hd hi => by rw [Nat.zero_add] at hi ⊢; exact hs i d env S hd hi) (fun env S hi => hf env S (by rwa [Nat.zero_add] at hi)) env S h
/-- a list that may change is walked: it stands -/
theorem floop_rf {p : Pt} {tb : HTS} {D0 : HEnds} {q : Addr} (I : Nat → HEnv → Sto → Prop) (l : List D) (hq : ∀ i env S, I i env S → S q = some (.lst l))
    (hs : ∀ i d env S, l[i]? = some d → I i env S → ∃ env1, bindD p d env = some env1 ∧ ∀ K : HEnv → Sto → Prop, (∀ e S', I (i + 1) e S' → K e S') → tb { D0 with nx := K, ct := K, bk := D0.nx } env1 S)
    (hf : ∀ env S, I l.length env S → D0.nx env S) {env : HEnv} {S : Sto} (h : I 0 env S) : floop p tb (some (q, l)) l D0 env S :=
  floop_ix' I l 0 (fun i env S _ hi A a => (show chk (some (q, l)) S A from ⟨hq _ env S hi, a⟩)) (fun i d env S hd hi => by rw [Nat.zero_add] at hi ⊢; exact hs i d env S hd hi) (fun env S hi => hf env S (by rwa [Nat.zero_add] at hi)) env S h
theorem floop_nm {j : Nat} {tb : HTS} {d : D} {l : List D} {D0 : HEnds} {env : HEnv} {S : Sto} (h : tb { D0 with nx := floop (.nm j) tb none l D0, ct := floop (.nm j) tb none l D0, bk := D0.nx } (env.set j (some d)) S) : floop (.nm j) tb none (d :: l) D0 env S := h
theorem rngD_at {lo : Int} {n i : Nat} {d : D} (h : (rngD lo n)[i]? = some d) : i < n ∧ d = .int (lo + (i : Nat)) := by
  unfold rngD at h
  rw [List.getElem?_map] at h
  obtain ⟨j, h1, h2⟩ := Option.map_eq_some_iff.mp h
  obtain ⟨hl, h3⟩ := List.getElem?_eq_some_iff.mp h1
  rw [List.getElem_range] at h3
  subst h3
  exact ⟨by simpa using hl, h2.symm⟩
/-- a comprehension that changes nothing: f of each item, or nothing -/
theorem cloop_fm {p : Pt} {tt : HTT} {te : HTE} {k : Ck} {env : HEnv} {S : Sto} {Q : HK} (f : D → Option D) (hc : ∀ A : Prop, A → chk k S A) : ∀ (l acc : List D),
    (∀ d ∈ l, ∃ env1, bindD p d env = some env1 ∧ ((f d = none ∧ ∀ (R : Bool → Sto → Prop) (E : HK), R false S → tt env1 S R E) ∨ ∃ y, f d = some y ∧ (∀ (R : Bool → Sto → Prop) (E : HK), R true S → tt env1 S R E) ∧ ∀ (R E : HK), R y S → te env1 S R E)) →
    Q (.lst (acc ++ l.filterMap f)) S → cloop p tt te k l acc env S Q
  | [], acc, _, h => hc _ (by rw [List.filterMap_nil, List.append_nil] at h; exact h)
  | d :: l, acc, hs, h => by
    refine hc _ ?_
    obtain ⟨env1, e, hb⟩ := hs d List.mem_cons_self
    rw [e]
    have hs' := fun d' hd => hs d' (List.mem_cons_of_mem _ hd)
    rcases hb with ⟨e1, ht⟩ | ⟨y, e1, ht, hy⟩
    · refine ht _ _ (cloop_fm f hc l acc hs' ?_)
      rwa [List.filterMap_cons_none e1] at h
    · refine ht _ _ (hy _ _ (cloop_fm f hc l (acc ++ [y]) hs' ?_))
      rw [List.filterMap_cons_some e1] at h
      rwa [List.append_assoc]
theorem cloop_map {p : Pt} {te : HTE} {k : Ck} {env : HEnv} {S : Sto} {Q : HK} (f : D → D) (hc : ∀ A : Prop, A → chk k S A) : ∀ (l acc : List D),
    (∀ d ∈ l, ∃ env1, bindD p d env = some env1 ∧ ∀ (R E : HK), R (f d) S → te env1 S R E) → Q (.lst (acc ++ l.map f)) S → cloop p hYes te k l acc env S Q
  | [], acc, _, h => hc _ (by rw [List.map_nil, List.append_nil] at h; exact h)
  | d :: l, acc, hs, h => by
    refine hc _ ?_
    obtain ⟨env1, e, hy⟩ := hs d List.mem_cons_self
    rw [e]
    refine hy _ _ (cloop_map f hc l (acc ++ [f d]) (fun d' hd => hs d' (List.mem_cons_of_mem _ hd)) ?_)
    rw [List.map_cons] at h
    rwa [List.append_assoc]
theorem no_ck (S : Sto) (A : Prop) (a : A) : chk none S A := a
theorem rf_ck {q : Addr} {l : List D} {S : Sto} (h : S q = some (.lst l)) (A : Prop) (a : A) : chk (some (q, l)) S A := ⟨h, a⟩
/-! ### equality of rows of numbers -/
theorem doks_ints : ∀ (b : List Int) (m : Nat), doks m (b.map D.int) = true
  | [], m => by simp [doks]
  | x :: b, m => by
    have := doks_ints b m
    simp [doks, dok, this]
abbrev paD (p : List Int) : D := .tup (p.map D.int)
theorem dok_pa (p : List Int) (m : Nat) : dok (m + 1) (paD p) = true := by
  show doks m (p.map D.int) = true
  exact doks_ints p m
theorem doks_pas : ∀ (ps : List (List Int)) (m : Nat), doks (m + 1) (ps.map paD) = true
  | [], m => by simp [doks]
  | p :: ps, m => by
    have := doks_pas ps m
    show (dok (m + 1) (paD p) && doks (m + 1) (ps.map paD)) = true
    rw [dok_pa, this] <;> rfl
theorem deq_pa (a b : List Int) : deq (paD a) (paD b) = (a == b) := by
  rw [Bool.eq_iff_iff, beq_iff_eq]
  show PyData.eqv (.tuple _) (.tuple _) = true ↔ _
  simp only [PyData.eqv]
  exact eqv_ints a b
theorem eqv_pas : ∀ as bs : List (List Int), PyData.eqvAll (toPs (as.map paD)) (toPs (bs.map paD)) = true ↔ as = bs
  | [], [] => by simp [toPs, PyData.eqvAll]
  | [], _ :: _ => by simp [toPs, PyData.eqvAll]
  | _ :: _, [] => by simp [toPs, PyData.eqvAll]
  | a :: as, b :: bs => by
    have ih := eqv_pas as bs
    have h1 : PyData.eqv (toP (paD a)) (toP (paD b)) = true ↔ a = b := by
      have := deq_pa a b
      unfold deq at this
      rw [this, beq_iff_eq]
    show (PyData.eqv (toP (paD a)) (toP (paD b)) && PyData.eqvAll (toPs (as.map paD)) (toPs (bs.map paD))) = true ↔ _
    rw [Bool.and_eq_true, h1, ih, List.cons.injEq]
/-- path in a list of paths -/
theorem in_pas {p : List Int} {ps : List (List Int)} {S : Sto} {Q : HK} (h : Q (.bl (decide (p ∈ ps))) S) : gIn (paD p) (.lst (ps.map paD)) S Q := by
  have e1 : (flatD (paD p) && (ps.map paD).all flatD) = false := rfl
  have e2 : (dok 60 (paD p) && dok 60 (.lst (ps.map paD))) = true := by
    rw [dok_pa p 59]
    show (true && doks 59 (ps.map paD)) = true
    rw [doks_pas ps 58] <;> rfl
  have e3 : ((ps.map paD).any fun z => deq z (paD p)) = decide (p ∈ ps) := by
    rw [List.any_map]
    rw [Bool.eq_iff_iff, List.any_eq_true, decide_eq_true_iff]
    constructor
    · rintro ⟨a, ha, e⟩
      have : (a == p) = true := by rw [← deq_pa]; exact e
      rw [← eq_of_beq this]; exact ha
    · intro hp
      exact ⟨p, hp, by show deq (paD p) (paD p) = true; rw [deq_pa]; simp⟩
  show (match flatD (paD p) && (ps.map paD).all flatD with
    | true => Q (.bl (ng false ((ps.map paD).any fun z => deq z (paD p)))) S
    | false => match itemsL S (.lst (ps.map paD)) with
      | some es => match dok 60 (paD p) && dok 60 (.lst es) with
        | true => Q (.bl (ng false (es.any fun z => deq z (paD p)))) S
        | false => False
      | none => False)
  rw [e1]
  show (match dok 60 (paD p) && dok 60 (.lst (ps.map paD)) with
        | true => Q (.bl (ng false ((ps.map paD).any fun z => deq z (paD p)))) S
        | false => False)
  rw [e2, e3]
  exact h
/-- the list at q is that of these paths -/
theorem ne_pas {q : Addr} {ps : List (List Int)} {S : Sto} {Q : HK} (hq : S q = some (.lst (ps.map paD))) (h : Q (.bl false) S) : gNe (.ref q) (.lst (ps.map paD)) S Q := by
  have e1 : dr S (.ref q) = .lst (ps.map paD) := by unfold dr; dsimp only; rw [hq]
  have e2 : dok 60 (.lst (ps.map paD)) = true := by show doks 59 _ = true; exact doks_pas ps 58
  show (match dok 60 (dr S (.ref q)) && dok 60 (dr S (.lst (ps.map paD))) with
    | true => Q (.bl (ng true (deq (dr S (.ref q)) (dr S (.lst (ps.map paD)))))) S
    | false => False)
  rw [e1]
  show (match dok 60 (.lst (ps.map paD)) && dok 60 (.lst (ps.map paD)) with
    | true => Q (.bl (ng true (deq (.lst (ps.map paD)) (.lst (ps.map paD))))) S
    | false => False)
  rw [e2]
  have e3 : deq (.lst (ps.map paD)) (.lst (ps.map paD)) = true := by
    show PyData.eqv (.list _) (.list _) = true
    simp only [PyData.eqv]
    exact (eqv_pas ps ps).mpr rfl
  rw [e3]
  exact h
end Hy

set_option Elab.async false
set_option linter.all false
set_option maxRecDepth 100000
set_option maxHeartbeats 4000000
set_option autoImplicit false
namespace Hy
open PySem PySem.Spec PyProof.Rows L2
local macro_rules | `(tactic| walk_at "p") => `(tactic| try simp only [hSet, hAsg, hRet, hRetN, hExpr, hIfS, hNx, hop, hun, hcb, hV, hC, hB, hTr, hNot, hAnd, hOr, hIf, hTup, hLst, hLstM, hCons, hNil, hCall, hMeth, hMake, hMt, hSl, hNoP, hPart, hSetI, hFst, hOrT, hAndT, hNotT, hAug, bindD, bindDs, hEqO, hInO, hGetO, hiEnum, hRaise, hPar3, hYes, hFor, hLc, hLcM, hiR1, hiR2, hiSq_eq, wipeN, startE, List.map_cons, List.map_nil, List.length_cons, List.length_nil, List.replicate, List.cons_append, List.nil_append, List.append_nil, List.getElem?_cons_zero, List.getElem?_cons_succ, List.set_cons_zero, List.set_cons_succ, Nat.reduceAdd, Nat.reduceSub, Nat.zero_add, gI0, gI, gTru, gFmt, gNeg, gOrd, gIsN, isN, ng, Nat.beq, Nat.ble, isStr, bnot_t, bnot_f])
local macro_rules | `(tactic| walk_at "q") => `(tactic| ((try dsimp only); refine seq_ ?_; walk_at "p"))
local macro_rules | `(tactic| walk_at "g") => `(tactic| try simp only [gLt, gLe, gGt, gGe, gSub, gOrd, gI0, gI, gAdd, gNeg])
/-! ### paths of a tree -/
mutual
def Tr.paths : Tr → List (List Int)
  | .nd _ ks => [] :: kpaths 0 ks
def kpaths : Nat → List (Option Tr) → List (List Int)
  | _, [] => []
  | i, k :: ks => kpath i k ++ kpaths (i + 1) ks
def kpath : Nat → Option Tr → List (List Int)
  | _, none => []
  | i, some t => t.paths.map ((i : Int) :: ·)
end
mutual
theorem paths_len : ∀ t : Tr, (t.paths.length : Int) = t.size
  | .nd b ks => by
    have := kpaths_len 0 ks
    show ((kpaths 0 ks).length + 1 : Nat) = 1 + ksSize ks
    omega
theorem kpaths_len : ∀ (i : Nat) (ks : List (Option Tr)), ((kpaths i ks).length : Int) = ksSize ks
  | _, [] => rfl
  | i, k :: ks => by
    have h1 := kpaths_len (i + 1) ks
    have h2 := kpath_len i k
    show ((kpath i k ++ kpaths (i + 1) ks).length : Int) = kSize k + ksSize ks
    rw [List.length_append]
    omega
theorem kpath_len : ∀ (i : Nat) (k : Option Tr), ((kpath i k).length : Int) = kSize k
  | _, none => rfl
  | i, some t => by
    have := paths_len t
    show ((t.paths.map ((i : Int) :: ·)).length : Int) = t.size
    rw [List.length_map]
    exact this
end
/-- how long the paths are -/
theorem paths_short : ∀ (n : Nat) (t : Tr), Ok n t → ∀ p ∈ t.paths, p.length < n
  | 0, _, h => h.elim
  | n + 1, .nd b ks, h => by
    intro p hp
    rcases List.mem_cons.mp (show p ∈ [] :: kpaths 0 ks from hp) with rfl | hp
    · exact Nat.succ_pos _
    · have key : ∀ (ks : List (Option Tr)) (i : Nat), Oks n ks → p ∈ kpaths i ks → p.length < n + 1 := by
        intro ks
        induction ks with
        | nil => intro i _ hp; cases hp
        | cons k ks ih =>
          intro i hk hp
          rcases List.mem_append.mp (show p ∈ kpath i k ++ kpaths (i + 1) ks from hp) with hp | hp
          · have h1 := hk k List.mem_cons_self
            cases k with
            | none => cases hp
            | some t =>
              obtain ⟨q, hq, rfl⟩ := List.mem_map.mp (show p ∈ t.paths.map ((i : Int) :: ·) from hp)
              have := paths_short n t h1 q hq
              simp
              exact this
          · exact ih (i + 1) (fun k' z => hk k' (List.mem_cons_of_mem _ z)) hp
      exact key ks 0 h.2.2 hp
theorem kpaths_snoc : ∀ (ks : List (Option Tr)) (i : Nat) (k : Option Tr), kpaths i (ks ++ [k]) = kpaths i ks ++ kpath (i + ks.length) k
  | [], i, k => by
    show kpath i k ++ [] = [] ++ kpath (i + 0) k
    simp
  | k' :: ks, i, k => by
    have ih := kpaths_snoc ks (i + 1) k
    show kpath i k' ++ kpaths (i + 1) (ks ++ [k]) = (kpath i k' ++ kpaths (i + 1) ks) ++ kpath (i + (ks.length + 1)) k
    rw [ih, List.append_assoc, show i + 1 + ks.length = i + (ks.length + 1) by omega]
theorem kpaths_take (ks : List (Option Tr)) (i : Nat) (h : i < ks.length) : kpaths 0 (ks.take (i + 1)) = kpaths 0 (ks.take i) ++ kpath i ks[i] := by
  rw [List.take_succ_eq_append_getElem h, kpaths_snoc, List.length_take, Nat.min_eq_left (Nat.le_of_lt h), Nat.zero_add]
/-! the node at a path -/
def atN (ks : List (Option Tr)) (i : Int) : Option Tr := if 0 ≤ i then (match ks[i.toNat]? with
  | some k => k
  | none => none) else none
def atP : Option Tr → List Int → Option Tr
  | k, [] => k
  | none, _ :: _ => none
  | some (.nd _ ks), i :: p => atP (atN ks i) p
theorem atP_none : ∀ p : List Int, atP none p = none
  | [] => rfl
  | _ :: _ => rfl
theorem kpaths_mem : ∀ (ks : List (Option Tr)) (j : Nat) (p : List Int), p ∈ kpaths j ks ↔ ∃ (i : Nat) (t : Tr) (q : List Int), ks[i]? = some (some t) ∧ q ∈ t.paths ∧ p = ((j + i : Nat) : Int) :: q
  | [], j, p => by
    constructor
    · intro h; cases h
    · rintro ⟨i, t, q, h, _⟩; simp at h
  | k :: ks, j, p => by
    have ih := kpaths_mem ks (j + 1) p
    show p ∈ kpath j k ++ kpaths (j + 1) ks ↔ _
    rw [List.mem_append, ih]
    constructor
    · rintro (h | ⟨i, t, q, h1, h2, h3⟩)
      · cases k with
        | none => cases h
        | some t =>
          obtain ⟨q, hq, rfl⟩ := List.mem_map.mp (show p ∈ t.paths.map ((j : Int) :: ·) from h)
          exact ⟨0, t, q, rfl, hq, rfl⟩
      · exact ⟨i + 1, t, q, by simpa using h1, h2, by rw [h3, show j + (i + 1) = j + 1 + i by omega]⟩
    · rintro ⟨i, t, q, h1, h2, h3⟩
      cases i with
      | zero =>
        simp at h1
        subst h1
        exact .inl (List.mem_map.mpr ⟨q, h2, by rw [h3] <;> rfl⟩)
      | succ i => exact .inr ⟨i, t, q, by simpa using h1, h2, by rw [h3, show j + (i + 1) = j + 1 + i by omega]⟩
/-- a path is there exactly if there is a node -/
theorem paths_at : ∀ (p : List Int) (t : Tr), p ∈ t.paths ↔ (atP (some t) p).isSome = true
  | [], .nd b ks => by
    constructor
    · intro _; rfl
    · intro _; exact List.mem_cons_self
  | i :: p, .nd b ks => by
    have e : i :: p ∈ (Tr.nd b ks).paths ↔ i :: p ∈ kpaths 0 ks := by
      show i :: p ∈ [] :: kpaths 0 ks ↔ _
      simp
    rw [e, kpaths_mem]
    show _ ↔ (atP (atN ks i) p).isSome = true
    constructor
    · rintro ⟨j, t, q, h1, h2, h3⟩
      rw [Nat.zero_add] at h3
      cases h3
      have : atN ks (j : Int) = some t := by unfold atN; rw [if_pos (by omega), Int.toNat_natCast, h1]
      rw [this]
      exact (paths_at p t).mp h2
    · intro h
      cases hk : atN ks i with
      | none => rw [hk, atP_none] at h; cases h
      | some t =>
        rw [hk] at h
        unfold atN at hk
        split at hk
        · rename_i h0
          cases e2 : ks[i.toNat]? with
          | none => rw [e2] at hk; cases hk
          | some k =>
            rw [e2] at hk
            dsimp only at hk
            subst hk
            exact ⟨i.toNat, t, p, e2, (paths_at p t).mpr h, by rw [Nat.zero_add, Int.toNat_of_nonneg h0]⟩
        · cases hk
theorem atP_ok : ∀ (p : List Int) (n : Nat) (t u : Tr), Ok n t → atP (some t) p = some u → Ok n u
  | [], n, t, u, h, e => by cases e; exact h
  | i :: p, 0, t, u, h, e => h.elim
  | i :: p, n + 1, .nd b ks, u, h, e => by
    have e' : atP (atN ks i) p = some u := e
    cases hk : atN ks i with
    | none => rw [hk, atP_none] at e'; cases e'
    | some t =>
      rw [hk] at e'
      unfold atN at hk
      split at hk
      · cases e2 : ks[i.toNat]? with
        | none => rw [e2] at hk; cases hk
        | some k =>
          rw [e2] at hk
          dsimp only at hk
          subst hk
          exact (atP_ok p n t u (h.2.2 _ (List.mem_of_getElem? e2)) e').up
      · cases hk
/-! ### the law's paths, the law's node -/
def spPaths (n : Nat) : HSp := fun ds S Q _ => ∃ t : Tr, ds = [trD t] ∧ Ok n t ∧ t.size ≤ 1000 ∧ Q (.lst (t.paths.map paD)) S
def rdLawPaths (sp_law_paths : HSp) : HTS := (hSeq (hSet 1 (hLst (hCons (hTup hNil) hNil)))
  (hSeq (hFor (hiR1 (hCons (hcb gLen (hCons (hop gIx (hV 0) (hC (.int 1))) hNil)) hNil)) (.nm 2) (hIfS (hB (hop (gIsN true) (hop gIx (hop gIx (hV 0) (hC (.int 1))) (hV 2)) (hC .non))) (hSet 1 (hop gAdd (hV 1) (hLc (hiSq (hCall 1 [] sp_law_paths (hCons (hop gIx (hop gIx (hV 0) (hC (.int 1))) (hV 2)) hNil))) (.nm 3) hYes (hop gAdd (hTup (hCons (hV 2) hNil)) (hV 3)) [3]))) hNx))
  (hRet (hV 1))))
theorem kpaths_le (ks : List (Option Tr)) (i : Nat) : ((kpaths 0 (ks.take i)).length : Int) ≤ ksSize ks := by
  have h1 := kpaths_len 0 (ks.take i)
  have h2 := ksize_apps (ks.take i) (ks.drop i)
  rw [List.take_append_drop] at h2
  have := ksSize_nn (ks.drop i)
  omega
theorem lawpaths_keeps {n : Nat} (hn : n + 1 ≤ 16) {ds : List D} {S : Sto} {Q E : HK} (h : spPaths (n + 1) ds S Q E) : rdLawPaths (spPaths n) (EN Q E) (startE 4 ds) S := by
  obtain ⟨⟨b, ks⟩, rfl, ok, hs, g⟩ := h
  obtain ⟨h1, h2, hk⟩ := id ok
  have hsz : 1 + ksSize ks ≤ 1000 := hs
  unfold rdLawPaths
  walk_at "q"
  walk_at "q"
  refine ix_items (xs := [.tup (b.map D.int), .tup (ksD ks)]) rfl (d := .tup (ksD ks)) rfl ?_
  refine len_items (xs := ksD ks) rfl ?_
  rw [ksD_len]
  refine ⟨by omega, by omega, ?_⟩
  refine floop_ix (fun i env S' => S' = S ∧ ∃ y2 y3, env = [some (trD (.nd b ks)), some (.lst (([] :: kpaths 0 (ks.take i)).map paD)), y2, y3]) _ ?_ ?_ ⟨rfl, _, _, rfl⟩
  · rintro i d _ _ hd ⟨rfl, y2, y3, rfl⟩
    obtain ⟨hi, rfl⟩ := rngD_at hd
    have hi2 : i < ks.length := by simpa using hi
    have e2 : atI (ksD ks) (0 + (i : Int)) = some (kD ks[i]) := by rw [Int.zero_add, ksD_map, atI_nat (by rw [List.length_map]; exact hi2)]; simp
    have okk := hk _ (List.getElem_mem hi2)
    have tk := kpaths_take ks i hi2
    have le1 := kpaths_le ks (i + 1)
    have kl := kpath_len i ks[i]
    generalize ks[i] = k at e2 okk tk kl
    rw [tk, List.length_append] at le1
    refine ⟨_, rfl, fun K hK => ?_⟩
    walk_at "p"
    refine ix_items (xs := [.tup (b.map D.int), .tup (ksD ks)]) rfl (d := .tup (ksD ks)) rfl ?_
    refine ix_items (xs := ksD ks) rfl e2 ?_
    cases k with
    | none =>
      have tk' : kpaths 0 (ks.take (i + 1)) = kpaths 0 (ks.take i) := by rw [tk]; simp [kpath]
      exact hK _ _ ⟨rfl, some (.int (0 + (i : Int))), y3, by rw [tk'] <;> rfl⟩
    | some t =>
      have e3 : isN (kD (some t)) = false := kD_some t
      unfold isN at e3
      rw [e3]
      simp only [Bool.not_false]
      refine ix_items (xs := [.tup (b.map D.int), .tup (ksD ks)]) rfl (d := .tup (ksD ks)) rfl ?_
      refine ix_items (xs := ksD ks) rfl e2 ?_
      have kl' : (t.paths.length : Int) ≤ 1000 := by
        have : kSize (some t) = t.size := rfl
        have := paths_len t
        have : ((kpath i (some t)).length : Int) = t.paths.length := by show ((t.paths.map ((i : Int) :: ·)).length : Int) = _; rw [List.length_map]
        omega
      refine ⟨t, rfl, okk, by rw [← paths_len t]; exact kl', ?_⟩
      refine cloop_map (fun z => match z with | .tup xs => .tup ([.int (0 + (i : Int))] ++ xs) | z => z) (no_ck _) _ _ ?_ ?_
      · intro z hz
        obtain ⟨p, hp, rfl⟩ := List.mem_map.mp hz
        refine ⟨_, rfl, fun R E' hR => ?_⟩
        walk_at "p"
        have := paths_short n t okk p hp
        exact add_tup (by rw [List.length_map]; show 1 + p.length ≤ _; omega) hR
      · rw [List.nil_append]
        refine add_lst (by
          simp only [List.length_map, List.length_cons]
          omega) ?_
        refine hK _ _ ⟨rfl, some (.int (0 + (i : Int))), y3, ?_⟩
        rw [tk]
        congr 3
        rw [← List.cons_append, List.map_append]
        congr 2
        show _ = (t.paths.map ((i : Int) :: ·)).map paD
        rw [List.map_map, List.map_map]
        refine List.map_congr_left fun p _ => ?_
        show D.tup (.int (0 + (i : Int)) :: p.map D.int) = D.tup (.int (i : Int) :: p.map D.int)
        rw [Int.zero_add]
  · rintro _ _ ⟨rfl, y2, y3, rfl⟩
    have e : (rngD 0 ((ks.length : Int)).toNat).length = ks.length := by rw [rngD_len]; simp
    refine Rt.mk ?_
    rw [e, List.take_length]
    exact g
def spAt : HSp := fun ds S Q _ => ∃ (t u : Tr) (p : List Int), ds = [trD t, paD p] ∧ atP (some t) p = some u ∧ p.length ≤ 1000 ∧ Q (trD u) S
def rdLawAt : HTS := (hSeq (hFor (hiSq (hV 1)) (.nm 2) (hSet 0 (hop gIx (hop gIx (hV 0) (hC (.int 1))) (hV 2))))
  (hRet (hV 0)))
theorem at_loop {D0 : HEnds} {u : Tr} {x : Option D} {S : Sto} : ∀ (p : List Int) (t : Tr) (y : Option D), atP (some t) p = some u → (∀ y, D0.nx [some (trD u), x, y] S) → floop (.nm 2) (hSet 0 (hop gIx (hop gIx (hV 0) (hC (.int 1))) (hV 2))) none (p.map D.int) D0 [some (trD t), x, y] S
  | [], t, y, e, h => by cases e; exact h y
  | i :: p, .nd b ks, y, e, h => by
    have e' : atP (atN ks i) p = some u := e
    cases hk : atN ks i with
    | none => rw [hk, atP_none] at e'; cases e'
    | some t =>
      rw [hk] at e'
      have e2 : atI (ksD ks) i = some (trD t) := by
        unfold atN at hk
        split at hk
        · rename_i h0
          cases e2 : ks[i.toNat]? with
          | none => rw [e2] at hk; cases hk
          | some k =>
            rw [e2] at hk
            dsimp only at hk
            subst hk
            obtain ⟨hl, e3⟩ := List.getElem?_eq_some_iff.mp e2
            have := atI_nat (l := ksD ks) (n := i.toNat) (by rw [ksD_len]; exact hl)
            rw [Int.toNat_of_nonneg h0] at this
            rw [this]
            simp only [ksD_map, List.getElem_map, e3]
            rfl
        · cases hk
      have ih := at_loop (D0 := D0) (x := x) (S := S) p t (some (.int i)) e' h
      show chk none S _
      show (hSet 0 (hop gIx (hop gIx (hV 0) (hC (.int 1))) (hV 2))) _ [some (trD (.nd b ks)), x, some (.int i)] S
      walk_at "p"
      refine ix_items (xs := [.tup (b.map D.int), .tup (ksD ks)]) rfl (d := .tup (ksD ks)) rfl ?_
      refine ix_items (xs := ksD ks) rfl e2 ?_
      exact ih
theorem lawat_keeps {ds : List D} {S : Sto} {Q E : HK} (h : spAt ds S Q E) : rdLawAt (EN Q E) (startE 3 ds) S := by
  obtain ⟨t, u, p, rfl, e, hl, g⟩ := h
  unfold rdLawAt
  walk_at "q"
  try dsimp only [gSq, items, ckOf]
  refine at_loop p t none e fun y => ?_
  exact Rt.mk g
end Hy

set_option Elab.async false
set_option linter.all false
set_option maxRecDepth 100000
set_option maxHeartbeats 4000000
set_option autoImplicit false
namespace Hy
open PySem PySem.Spec PyProof.Rows L2
def top (i : Nat) : Stmt := PySem.Challenge.pw_tryback_k02_names_refused.main.body.getD i (.Pass ⟨0, 0, 0, 0⟩)
/-- what stands behind the top -/
structure Fc (K : PySem.W.Frag) (mg : Str → Option Value) : Prop where
  f_ValueError : mg "ValueError" = none
  f_all : mg "all" = none
  f_enumerate : mg "enumerate" = none
  f_int : mg "int" = none
  f_isinstance : mg "isinstance" = none
  f_len : mg "len" = none
  f_list : mg "list" = none
  f_range : mg "range" = none
  f_sum : mg "sum" = none
  f_tuple : mg "tuple" = none
  g_ALONE : mg "ALONE" = some (.ref (He.ga K "ALONE"))
  t_ALONE : ∀ F, Rep K F (.tup [(.str ("fault" : PySem.Str)), (.str ("may" : PySem.Str)), (.str ("again" : PySem.Str)), (.str ("out" : PySem.Str))]) (.ref (He.ga K "ALONE"))
  g_BLOCKS : ∃ t, mg "BLOCKS" = some (.int 3 t)
  g_CELL_DEEDS : mg "CELL_DEEDS" = some (.ref (He.ga K "CELL_DEEDS"))
  t_CELL_DEEDS : ∀ F, Rep K F (.tup [(.str ("put" : PySem.Str)), (.str ("blank" : PySem.Str)), (.str ("give" : PySem.Str))]) (.ref (He.ga K "CELL_DEEDS"))
  g_LETTERS : ∃ t, mg "LETTERS" = some (.str ("abcdefghijklmnopqrstuvwxyz" : PySem.Str) t)
  g_ROW_DEEDS : mg "ROW_DEEDS" = some (.ref (He.ga K "ROW_DEEDS"))
  t_ROW_DEEDS : ∀ F, Rep K F (.tup [(.str ("push" : PySem.Str)), (.str ("pop" : PySem.Str)), (.str ("cut" : PySem.Str))]) (.ref (He.ga K "ROW_DEEDS"))
  g_STATEMENTS : ∃ t, mg "STATEMENTS" = some (.int 14 t)
  g_TWO_PARTS : mg "TWO_PARTS" = some (.ref (He.ga K "TWO_PARTS"))
  t_TWO_PARTS : ∀ F, Rep K F (.tup [(.str ("either" : PySem.Str)), (.str ("told" : PySem.Str)), (.str ("guard" : PySem.Str)), (.str ("lastly" : PySem.Str))]) (.ref (He.ga K "TWO_PARTS"))
  n_BadCode : mg (cname 35) = some (.ref (cad K 35))
  n_Checker : mg (cname 5) = some (.ref (cad K 5))
  n_Code : mg (cname 4) = some (.ref (cad K 4))
  n_Function : mg (cname 3) = some (.ref (cad K 3))
  n_TooGreat : mg (cname 36) = some (.ref (cad K 36))
  n_TryError : mg (cname 34) = some (.ref (cad K 34))
  k_Function : Cls K (cad K 3)
  k_Code : Cls K (cad K 4)
  k_Checker : Cls K (cad K 5)
  a_body : Attr K "body" ix_body
  a_cells : Attr K "cells" ix_cells
  a_code : Attr K "code" ix_code
  a_function : Attr K "function" ix_function
  a_functions : Attr K "functions" ix_functions
  a_many : Attr K "many" ix_many
  a_name : Attr K "name" ix_name
  a_number : Attr K "number" ix_number
  a_rows : Attr K "rows" ix_rows
  a_start : Attr K "start" ix_start
  i_Function : IsiC K 3 [3]
  i_Code : IsiC K 4 [4]
  x_BadCode : ExcOk K 35
  x_TooGreat : ExcOk K 36
  b_TryError : BaseOk K 34
  m_BadCode : ExmC K 35 [35, 36]
  m_TooGreat : ExmC K 36 [35, 36]
  tb_TooGreat_ValueError : KitA K 36 (.type "ValueError") true
  t_BadCode_TooGreat : KitA K 35 (.ref (cad K 36)) false
  t_BadCode_TryError : KitA K 35 (.ref (cad K 34)) true
  t_TooGreat_BadCode : KitA K 36 (.ref (cad K 35)) false
abbrev s_BadCode_init : Stmt := inClass (top 3) 0
def N_BadCode_init : List Str := [("self" : PySem.Str), ("function" : PySem.Str), ("number" : PySem.Str)]
theorem sc_BadCode_init : FnScope N_BadCode_init [("self" : PySem.Str), ("function" : PySem.Str), ("number" : PySem.Str)] (defScope s_BadCode_init) := ⟨rfl, rfl, rfl, by decide +kernel, rfl, by decide +kernel, by decide +kernel⟩
theorem xi_BadCode_init {B : Bs} {k : Nat} (c : Fc B.K B.mg) : HXI ⟨B.P, B.w, B.K, B.mg, B.base, k, N_BadCode_init, defScope s_BadCode_init, true, fun _ => true⟩ (defBody s_BadCode_init) (flds 35) := hxi (hx0 c.b_TryError rfl c.n_TryError) (hxs hx1 (hxs hx1 hxs0))
theorem xk_BadCode_init {B : Bs} {k : Nat} {f : Addr} {fd : FuncData} (c : Fc B.K B.mg) (F : FunD B.K "__init__" "BadCode.__init__" (defArgs s_BadCode_init) (defBody s_BadCode_init) (defScope s_BadCode_init) [] [] f fd) : FnOk B.P B.w B.K B.mg B.base (CX B.P B.w) (k + 1) f fd [("self" : PySem.Str), ("function" : PySem.Str), ("number" : PySem.Str)] (spExI B.K 35) := fnExc c.x_BadCode F sc_BadCode_init rfl (xi_BadCode_init c)
theorem xb_BadCode_init {K : PySem.W.Frag} {f : Addr} {fd : FuncData} (F : FunD K "__init__" "BadCode.__init__" (defArgs s_BadCode_init) (defBody s_BadCode_init) (defScope s_BadCode_init) [] [] f fd) : Binds K fd [("self" : PySem.Str), ("function" : PySem.Str), ("number" : PySem.Str)] [] := F.bindsN (ps := [("self" : PySem.Str), ("function" : PySem.Str), ("number" : PySem.Str)]) fun _ _ _ _ _ _ us hl => match us, hl with | [_, _, _], _ => rfl
def d_BadCode_init : He.DefD := ⟨("BadCode", some "__init__"), "__init__", "BadCode.__init__", defArgs s_BadCode_init, defBody s_BadCode_init, defScope s_BadCode_init, [], []⟩

abbrev s_TooGreat_init : Stmt := inClass (top 4) 0
def N_TooGreat_init : List Str := [("self" : PySem.Str)]
theorem sc_TooGreat_init : FnScope N_TooGreat_init [("self" : PySem.Str)] (defScope s_TooGreat_init) := ⟨rfl, rfl, rfl, by decide +kernel, rfl, by decide +kernel, by decide +kernel⟩
theorem xi_TooGreat_init {B : Bs} {k : Nat} (c : Fc B.K B.mg) : HXI ⟨B.P, B.w, B.K, B.mg, B.base, k, N_TooGreat_init, defScope s_TooGreat_init, true, fun _ => true⟩ (defBody s_TooGreat_init) (flds 36) := hxi (hx0 c.b_TryError rfl c.n_TryError) hxs0
theorem xk_TooGreat_init {B : Bs} {k : Nat} {f : Addr} {fd : FuncData} (c : Fc B.K B.mg) (F : FunD B.K "__init__" "TooGreat.__init__" (defArgs s_TooGreat_init) (defBody s_TooGreat_init) (defScope s_TooGreat_init) [] [] f fd) : FnOk B.P B.w B.K B.mg B.base (CX B.P B.w) (k + 1) f fd [("self" : PySem.Str)] (spExI B.K 36) := fnExc c.x_TooGreat F sc_TooGreat_init rfl (xi_TooGreat_init c)
theorem xb_TooGreat_init {K : PySem.W.Frag} {f : Addr} {fd : FuncData} (F : FunD K "__init__" "TooGreat.__init__" (defArgs s_TooGreat_init) (defBody s_TooGreat_init) (defScope s_TooGreat_init) [] [] f fd) : Binds K fd [("self" : PySem.Str)] [] := F.bindsN (ps := [("self" : PySem.Str)]) fun _ _ _ _ _ _ us hl => match us, hl with | [_], _ => rfl
def d_TooGreat_init : He.DefD := ⟨("TooGreat", some "__init__"), "__init__", "TooGreat.__init__", defArgs s_TooGreat_init, defBody s_TooGreat_init, defScope s_TooGreat_init, [], []⟩

abbrev CS : List Nat := [35, 36]
abbrev s_word_of : Stmt := top 13
def N_word_of : List Str := [("statement" : PySem.Str)]
theorem sc_word_of : FnScope N_word_of [("statement" : PySem.Str)] (defScope s_word_of) := ⟨rfl, rfl, rfl, by decide +kernel, rfl, by decide +kernel, by decide +kernel⟩
def rd_word_of : HTS := (hRet (hIf (hTr (hV 0)) (hop gIx (hV 0) (hC (.int 0))) (hC (.str ("" : PySem.Str)))))
set_option maxHeartbeats 4000000 in
theorem ok_word_of {B : Bs} {k : Nat} (c : Fc B.K B.mg)  : HSs ⟨B.P, B.w, B.K, B.mg, B.base, k + 1, N_word_of, defScope s_word_of, true, fun _ => true⟩ (defBody s_word_of) (rd_word_of) :=
  (hss1 (hret (hife (htr (hv 0)) (hix (hv 0) hint) hstr)))
theorem at_word_of {B : Bs} {k : Nat} {f : Addr} {fd : FuncData} {sp : HSp} (c : Fc B.K B.mg) (F : FunD B.K "word_of" "word_of" (defArgs s_word_of) (defBody s_word_of) (defScope s_word_of) [] [] f fd) 
    (hr : ∀ ds S Q E, ds.length = 1 → sp ds S Q E → rd_word_of { nx := fun _ S' => Rt Q .non S', rt := Rt Q, ex := fun x _ S' => Rx E x S' } (startE N_word_of.length ds) S) : FnAt B (k + 2) f 1 [] sp :=
  fnAtD F (bindAll (F.bindsN fun _ _ _ _ _ _ us hl => match us, hl with | [_], _ => rfl)) noDds sc_word_of (ok_word_of c ) hr
theorem no_word_of {B : Bs} {k : Nat} {f : Addr} {fd : FuncData} {sp : HSp} (F : FunD B.K "word_of" "word_of" (defArgs s_word_of) (defBody s_word_of) (defScope s_word_of) [] [] f fd) (h0 : ∀ ds S Q E, sp ds S Q E → False) : FnAt B k f 1 [] sp :=
  fnNone rfl (F.bindsN (ps := [("statement" : PySem.Str)]) fun _ _ _ _ _ _ us hl => match us, hl with | [_], _ => rfl) h0
def d_word_of : He.DefD := ⟨("word_of", none), "word_of", "word_of", defArgs s_word_of, defBody s_word_of, defScope s_word_of, [], []⟩

abbrev s_parts_of : Stmt := top 14
def N_parts_of : List Str := [("statement" : PySem.Str), ("word" : PySem.Str)]
theorem sc_parts_of : FnScope N_parts_of [("statement" : PySem.Str)] (defScope s_parts_of) := ⟨rfl, rfl, rfl, by decide +kernel, rfl, by decide +kernel, by decide +kernel⟩
def rd_parts_of (sp_word_of : HSp) : HTS := (hSeq (hSet 1 (hCall 1 [] sp_word_of (hCons (hV 0) hNil)))
  (hSeq (hIfS (hAnd (hB (hop gEq (hV 1) (hC (.str ("tries" : PySem.Str))))) (hB (hop gEq (hcb gLen (hCons (hV 0) hNil)) (hC (.int 2))))) (hRet (hTup (hCons (hop gIx (hV 0) (hC (.int 1))) hNil))) hNx)
  (hSeq (hIfS (hAnd (hB (hop gEq (hV 1) (hC (.str ("look" : PySem.Str))))) (hB (hop gEq (hcb gLen (hCons (hV 0) hNil)) (hC (.int 4))))) (hRet (hTup (hCons (hop gIx (hV 0) (hC (.int 2))) (hCons (hop gIx (hV 0) (hC (.int 3))) hNil)))) hNx)
  (hSeq (hIfS (hAnd (hB (hop gIn (hV 1) (hC (.tup [(.str ("either" : PySem.Str)), (.str ("told" : PySem.Str)), (.str ("guard" : PySem.Str)), (.str ("lastly" : PySem.Str))])))) (hB (hop gEq (hcb gLen (hCons (hV 0) hNil)) (hC (.int 3))))) (hRet (hTup (hCons (hop gIx (hV 0) (hC (.int 1))) (hCons (hop gIx (hV 0) (hC (.int 2))) hNil)))) hNx)
  (hRet (hTup hNil))))))
set_option maxHeartbeats 4000000 in
theorem ok_parts_of {B : Bs} {k : Nat} {sp_word_of : HSp} (c : Fc B.K B.mg) (h_word_of : HFn B (k + 1) "word_of" 1 [] sp_word_of) : HSs ⟨B.P, B.w, B.K, B.mg, B.base, k + 1, N_parts_of, defScope s_parts_of, true, fun _ => true⟩ (defBody s_parts_of) (rd_parts_of sp_word_of) :=
  (hss (hsetX (hcall (h_word_of.in_) (Nat.le_refl _) rfl (hcons (hv 0) hnil)))
  (hss (hif (hw (hand (heqT (hv 1) hstr) (hand1 (heqT (hlen rfl c.f_len (hcons (hv 0) hnil)) hint)))) (hss1 (hret (htup (hcons (hix (hv 0) hint) hnil)))) hss0)
  (hss (hif (hw (hand (heqT (hv 1) hstr) (hand1 (heqT (hlen rfl c.f_len (hcons (hv 0) hnil)) hint)))) (hss1 (hret (htup (hcons (hix (hv 0) hint) (hcons (hix (hv 0) hint) hnil))))) hss0)
  (hss (hif (hw (hand (hinT (hv 1) (hgtup rfl c.g_TWO_PARTS c.t_TWO_PARTS)) (hand1 (heqT (hlen rfl c.f_len (hcons (hv 0) hnil)) hint)))) (hss1 (hret (htup (hcons (hix (hv 0) hint) (hcons (hix (hv 0) hint) hnil))))) hss0)
  (hss1 (hret (htup hnil)))))))
theorem at_parts_of {B : Bs} {k : Nat} {f : Addr} {fd : FuncData} {sp_word_of : HSp} {sp : HSp} (c : Fc B.K B.mg) (F : FunD B.K "parts_of" "parts_of" (defArgs s_parts_of) (defBody s_parts_of) (defScope s_parts_of) [] [] f fd) (h_word_of : HFn B (k + 1) "word_of" 1 [] sp_word_of)
    (hr : ∀ ds S Q E, ds.length = 1 → sp ds S Q E → rd_parts_of sp_word_of { nx := fun _ S' => Rt Q .non S', rt := Rt Q, ex := fun x _ S' => Rx E x S' } (startE N_parts_of.length ds) S) : FnAt B (k + 2) f 1 [] sp :=
  fnAtD F (bindAll (F.bindsN fun _ _ _ _ _ _ us hl => match us, hl with | [_], _ => rfl)) noDds sc_parts_of (ok_parts_of c h_word_of) hr
theorem no_parts_of {B : Bs} {k : Nat} {f : Addr} {fd : FuncData} {sp : HSp} (F : FunD B.K "parts_of" "parts_of" (defArgs s_parts_of) (defBody s_parts_of) (defScope s_parts_of) [] [] f fd) (h0 : ∀ ds S Q E, sp ds S Q E → False) : FnAt B k f 1 [] sp :=
  fnNone rfl (F.bindsN (ps := [("statement" : PySem.Str)]) fun _ _ _ _ _ _ us hl => match us, hl with | [_], _ => rfl) h0
def d_parts_of : He.DefD := ⟨("parts_of", none), "parts_of", "parts_of", defArgs s_parts_of, defBody s_parts_of, defScope s_parts_of, [], []⟩

abbrev s_tidy : Stmt := top 15
def N_tidy : List Str := [("body" : PySem.Str), ("made" : PySem.Str), ("statement" : PySem.Str), ("part" : PySem.Str), ("parts" : PySem.Str)]
theorem sc_tidy : FnScope N_tidy [("body" : PySem.Str)] (defScope s_tidy) := ⟨rfl, rfl, rfl, by decide +kernel, rfl, by decide +kernel, by decide +kernel⟩
def rd_tidy (sp_parts_of : HSp) (sp_tidy : HSp) : HTS := (hSeq (hSet 1 (hLstM hNil))
  (hSeq (hFor (hiSq (hV 0)) (.nm 2) (hSeq (hSet 4 (hcb gTuple (hCons (hLc (hiSq (hCall 1 [] sp_parts_of (hCons (hV 2) hNil))) (.nm 3) hYes (hCall 1 [] sp_tidy (hCons (hV 3) hNil)) [3]) hNil)))
  (hIfS (hTr (hV 4)) (hExpr (hMt isLst gAppend (hV 1) (hCons (hop gAdd (hcb gTuple (hCons (hSl (hV 2) hNoP (hPart (hop gSub (hcb gLen (hCons (hV 2) hNil)) (hcb gLen (hCons (hV 4) hNil))))) hNil)) (hV 4)) hNil))) (hExpr (hMt isLst gAppend (hV 1) (hCons (hcb gTuple (hCons (hV 2) hNil)) hNil))))))
  (hRet (hcb gTuple (hCons (hV 1) hNil)))))
set_option maxHeartbeats 4000000 in
theorem ok_tidy {B : Bs} {k : Nat} {sp_parts_of : HSp} {sp_tidy : HSp} (c : Fc B.K B.mg) (h_parts_of : HFn B (k + 1) "parts_of" 1 [] sp_parts_of) (h_tidy : HFn B (k + 1) "tidy" 1 [] sp_tidy) : HSs ⟨B.P, B.w, B.K, B.mg, B.base, k + 1, N_tidy, defScope s_tidy, true, fun _ => true⟩ (defBody s_tidy) (rd_tidy sp_parts_of sp_tidy) :=
  (hss (hsetX (hlstM hnil))
  (hss (hfor (hisq (hv 0)) (hnm 2) (hss (hsetX (htuple rfl c.f_tuple (hcons (hlcX [("part", 3)] (hisq (hcall (h_parts_of.in_) (Nat.le_refl _) rfl (hcons (hv 2) hnil))) (by dsimp only [Bs.blk]; decide +kernel) (by decide) (hnm 3) hif0 (hcall (h_tidy.in_) (Nat.le_refl _) rfl (hcons (hv 3) hnil))) hnil)))
  (hss1 (hif (htr (hv 4)) (hss1 (hexpr (happend (hv 1) (hcons (hadd (htuple rfl c.f_tuple (hcons (hsl (hv 2) hnop (hpart (hsub (hlen rfl c.f_len (hcons (hv 2) hnil)) (hlen rfl c.f_len (hcons (hv 4) hnil))))) hnil)) (hv 4)) hnil)))) (hss1 (hexpr (happend (hv 1) (hcons (htuple rfl c.f_tuple (hcons (hv 2) hnil)) hnil))))))))
  (hss1 (hret (htuple rfl c.f_tuple (hcons (hv 1) hnil))))))
theorem at_tidy {B : Bs} {k : Nat} {f : Addr} {fd : FuncData} {sp_parts_of : HSp} {sp_tidy : HSp} {sp : HSp} (c : Fc B.K B.mg) (F : FunD B.K "tidy" "tidy" (defArgs s_tidy) (defBody s_tidy) (defScope s_tidy) [] [] f fd) (h_parts_of : HFn B (k + 1) "parts_of" 1 [] sp_parts_of) (h_tidy : HFn B (k + 1) "tidy" 1 [] sp_tidy)
    (hr : ∀ ds S Q E, ds.length = 1 → sp ds S Q E → rd_tidy sp_parts_of sp_tidy { nx := fun _ S' => Rt Q .non S', rt := Rt Q, ex := fun x _ S' => Rx E x S' } (startE N_tidy.length ds) S) : FnAt B (k + 2) f 1 [] sp :=
  fnAtD F (bindAll (F.bindsN fun _ _ _ _ _ _ us hl => match us, hl with | [_], _ => rfl)) noDds sc_tidy (ok_tidy c h_parts_of h_tidy) hr
theorem no_tidy {B : Bs} {k : Nat} {f : Addr} {fd : FuncData} {sp : HSp} (F : FunD B.K "tidy" "tidy" (defArgs s_tidy) (defBody s_tidy) (defScope s_tidy) [] [] f fd) (h0 : ∀ ds S Q E, sp ds S Q E → False) : FnAt B k f 1 [] sp :=
  fnNone rfl (F.bindsN (ps := [("body" : PySem.Str)]) fun _ _ _ _ _ _ us hl => match us, hl with | [_], _ => rfl) h0
def d_tidy : He.DefD := ⟨("tidy", none), "tidy", "tidy", defArgs s_tidy, defBody s_tidy, defScope s_tidy, [], []⟩

abbrev s_count : Stmt := top 16
def N_count : List Str := [("body" : PySem.Str), ("many" : PySem.Str), ("statement" : PySem.Str), ("part" : PySem.Str)]
theorem sc_count : FnScope N_count [("body" : PySem.Str)] (defScope s_count) := ⟨rfl, rfl, rfl, by decide +kernel, rfl, by decide +kernel, by decide +kernel⟩
def rd_count (sp_parts_of : HSp) (sp_count : HSp) : HTS := (hSeq (hSet 1 (hC (.int 0)))
  (hSeq (hFor (hiSq (hV 0)) (.nm 2) (hAug 1 (gI0 fun i j => .int (i + j)) (hop gAdd (hC (.int 1)) (hcb gSum (hCons (hLc (hiSq (hCall 1 [] sp_parts_of (hCons (hV 2) hNil))) (.nm 3) hYes (hCall 1 [] sp_count (hCons (hV 3) hNil)) [3]) hNil)))))
  (hRet (hV 1))))
set_option maxHeartbeats 4000000 in
theorem ok_count {B : Bs} {k : Nat} {sp_parts_of : HSp} {sp_count : HSp} (c : Fc B.K B.mg) (h_parts_of : HFn B (k + 1) "parts_of" 1 [] sp_parts_of) (h_count : HFn B (k + 1) "count" 1 [] sp_count) : HSs ⟨B.P, B.w, B.K, B.mg, B.base, k + 1, N_count, defScope s_count, true, fun _ => true⟩ (defBody s_count) (rd_count sp_parts_of sp_count) :=
  (hss (hsetX hint)
  (hss (hfor (hisq (hv 0)) (hnm 2) (hss1 (haugAddX (hadd hint (hsum rfl c.f_sum (hcons (hlcX [("part", 3)] (hisq (hcall (h_parts_of.in_) (Nat.le_refl _) rfl (hcons (hv 2) hnil))) (by dsimp only [Bs.blk]; decide +kernel) (by decide) (hnm 3) hif0 (hcall (h_count.in_) (Nat.le_refl _) rfl (hcons (hv 3) hnil))) hnil))))))
  (hss1 (hret (hv 1)))))
theorem at_count {B : Bs} {k : Nat} {f : Addr} {fd : FuncData} {sp_parts_of : HSp} {sp_count : HSp} {sp : HSp} (c : Fc B.K B.mg) (F : FunD B.K "count" "count" (defArgs s_count) (defBody s_count) (defScope s_count) [] [] f fd) (h_parts_of : HFn B (k + 1) "parts_of" 1 [] sp_parts_of) (h_count : HFn B (k + 1) "count" 1 [] sp_count)
    (hr : ∀ ds S Q E, ds.length = 1 → sp ds S Q E → rd_count sp_parts_of sp_count { nx := fun _ S' => Rt Q .non S', rt := Rt Q, ex := fun x _ S' => Rx E x S' } (startE N_count.length ds) S) : FnAt B (k + 2) f 1 [] sp :=
  fnAtD F (bindAll (F.bindsN fun _ _ _ _ _ _ us hl => match us, hl with | [_], _ => rfl)) noDds sc_count (ok_count c h_parts_of h_count) hr
theorem no_count {B : Bs} {k : Nat} {f : Addr} {fd : FuncData} {sp : HSp} (F : FunD B.K "count" "count" (defArgs s_count) (defBody s_count) (defScope s_count) [] [] f fd) (h0 : ∀ ds S Q E, sp ds S Q E → False) : FnAt B k f 1 [] sp :=
  fnNone rfl (F.bindsN (ps := [("body" : PySem.Str)]) fun _ _ _ _ _ _ us hl => match us, hl with | [_], _ => rfl) h0
def d_count : He.DefD := ⟨("count", none), "count", "count", defArgs s_count, defBody s_count, defScope s_count, [], []⟩

abbrev s_is_name : Stmt := top 17
def N_is_name : List Str := [("text" : PySem.Str), ("letter" : PySem.Str)]
theorem sc_is_name : FnScope N_is_name [("text" : PySem.Str)] (defScope s_is_name) := ⟨rfl, rfl, rfl, by decide +kernel, rfl, by decide +kernel, by decide +kernel⟩
def rd_is_name : HTS := (hRet (hAndT (hChain gLe gLe (hC (.int 1)) (hcb gLen (hCons (hV 0) hNil)) (hC (.int 12))) (hcb gAll (hCons (hLc (hiSq (hV 0)) (.nm 1) hYes (hop gIn (hV 1) (hC (.str ("abcdefghijklmnopqrstuvwxyz" : PySem.Str)))) [1]) hNil))))
set_option maxHeartbeats 4000000 in
theorem ok_is_name {B : Bs} {k : Nat} (c : Fc B.K B.mg)  : HSs ⟨B.P, B.w, B.K, B.mg, B.base, k + 1, N_is_name, defScope s_is_name, true, fun _ => true⟩ (defBody s_is_name) (rd_is_name) :=
  (hss1 (hret (handT (hchLL hint (hlen rfl c.f_len (hcons (hv 0) hnil)) hint) (hone (hall rfl c.f_all (hcons (hlcX [("letter", 1)] (hisq (hv 0)) (by dsimp only [Bs.blk]; decide +kernel) (by decide) (hnm 1) hif0 (hin (hv 1) (hgs rfl c.g_LETTERS))) hnil))))))
theorem at_is_name {B : Bs} {k : Nat} {f : Addr} {fd : FuncData} {sp : HSp} (c : Fc B.K B.mg) (F : FunD B.K "is_name" "is_name" (defArgs s_is_name) (defBody s_is_name) (defScope s_is_name) [] [] f fd) 
    (hr : ∀ ds S Q E, ds.length = 1 → sp ds S Q E → rd_is_name { nx := fun _ S' => Rt Q .non S', rt := Rt Q, ex := fun x _ S' => Rx E x S' } (startE N_is_name.length ds) S) : FnAt B (k + 2) f 1 [] sp :=
  fnAtD F (bindAll (F.bindsN fun _ _ _ _ _ _ us hl => match us, hl with | [_], _ => rfl)) noDds sc_is_name (ok_is_name c ) hr
theorem no_is_name {B : Bs} {k : Nat} {f : Addr} {fd : FuncData} {sp : HSp} (F : FunD B.K "is_name" "is_name" (defArgs s_is_name) (defBody s_is_name) (defScope s_is_name) [] [] f fd) (h0 : ∀ ds S Q E, sp ds S Q E → False) : FnAt B k f 1 [] sp :=
  fnNone rfl (F.bindsN (ps := [("text" : PySem.Str)]) fun _ _ _ _ _ _ us hl => match us, hl with | [_], _ => rfl) h0
def d_is_name : He.DefD := ⟨("is_name", none), "is_name", "is_name", defArgs s_is_name, defBody s_is_name, defScope s_is_name, [], []⟩

abbrev s_Function_init : Stmt := inClass (top 18) 0
def N_Function_init : List Str := [("self" : PySem.Str), ("name" : PySem.Str), ("body" : PySem.Str)]
theorem sc_Function_init : FnScope N_Function_init [("self" : PySem.Str), ("name" : PySem.Str), ("body" : PySem.Str)] (defScope s_Function_init) := ⟨rfl, rfl, rfl, by decide +kernel, rfl, by decide +kernel, by decide +kernel⟩
def rd_Function_init (sp_tidy : HSp) (sp_count : HSp) : HTS := (hSeq (hFst ix_name (hV 0) (hV 1))
  (hSeq (hFst ix_body (hV 0) (hCall 1 [] sp_tidy (hCons (hV 2) hNil)))
  (hFst ix_many (hV 0) (hCall 1 [] sp_count (hCons (hun (gFld ix_body) (hV 0)) hNil)))))
set_option maxHeartbeats 4000000 in
theorem ok_Function_init {B : Bs} {k : Nat} {sp_tidy : HSp} {sp_count : HSp} (c : Fc B.K B.mg) (h_tidy : HFn B (k + 1) "tidy" 1 [] sp_tidy) (h_count : HFn B (k + 1) "count" 1 [] sp_count) : HSs ⟨B.P, B.w, B.K, B.mg, B.base, k + 1, N_Function_init, defScope s_Function_init, true, fun _ => true⟩ (defBody s_Function_init) (rd_Function_init sp_tidy sp_count) :=
  (hss (hfst c.a_name (hv 0) (hv 1))
  (hss (hfst c.a_body (hv 0) (hcall (h_tidy.in_) (Nat.le_refl _) rfl (hcons (hv 2) hnil)))
  (hss1 (hfst c.a_many (hv 0) (hcall (h_count.in_) (Nat.le_refl _) rfl (hcons (hfld c.a_body (hv 0)) hnil))))))
theorem at_Function_init {B : Bs} {k : Nat} {f : Addr} {fd : FuncData} {sp_tidy : HSp} {sp_count : HSp} {sp : HSp} (c : Fc B.K B.mg) (F : FunD B.K "__init__" "Function.__init__" (defArgs s_Function_init) (defBody s_Function_init) (defScope s_Function_init) [] [] f fd) (h_tidy : HFn B (k + 1) "tidy" 1 [] sp_tidy) (h_count : HFn B (k + 1) "count" 1 [] sp_count)
    (hr : ∀ ds S Q E, ds.length = 3 → sp ds S Q E → rd_Function_init sp_tidy sp_count { nx := fun _ S' => Rt Q .non S', rt := Rt Q, ex := fun x _ S' => Rx E x S' } (startE N_Function_init.length ds) S) : FnAt B (k + 2) f 3 [] sp :=
  fnAtD F (bindAll (F.bindsN fun _ _ _ _ _ _ us hl => match us, hl with | [_, _, _], _ => rfl)) noDds sc_Function_init (ok_Function_init c h_tidy h_count) hr
theorem no_Function_init {B : Bs} {k : Nat} {f : Addr} {fd : FuncData} {sp : HSp} (F : FunD B.K "__init__" "Function.__init__" (defArgs s_Function_init) (defBody s_Function_init) (defScope s_Function_init) [] [] f fd) (h0 : ∀ ds S Q E, sp ds S Q E → False) : FnAt B k f 3 [] sp :=
  fnNone rfl (F.bindsN (ps := [("self" : PySem.Str), ("name" : PySem.Str), ("body" : PySem.Str)]) fun _ _ _ _ _ _ us hl => match us, hl with | [_, _, _], _ => rfl) h0
def d_Function_init : He.DefD := ⟨("Function", some "__init__"), "__init__", "Function.__init__", defArgs s_Function_init, defBody s_Function_init, defScope s_Function_init, [], []⟩

abbrev s_Function_eq : Stmt := inClass (top 18) 1
def N_Function_eq : List Str := [("self" : PySem.Str), ("other" : PySem.Str)]
theorem sc_Function_eq : FnScope N_Function_eq [("self" : PySem.Str), ("other" : PySem.Str)] (defScope s_Function_eq) := ⟨rfl, rfl, rfl, by decide +kernel, rfl, by decide +kernel, by decide +kernel⟩
def rd_Function_eq : HTS := (hRet (hAndT (hun (gIsi1 3 [3]) (hV 1)) (hAndT (hop gEq (hun (gFld ix_name) (hV 0)) (hun (gFld ix_name) (hV 1))) (hop gEq (hun (gFld ix_body) (hV 0)) (hun (gFld ix_body) (hV 1))))))
set_option maxHeartbeats 4000000 in
theorem ok_Function_eq {B : Bs} {k : Nat} (c : Fc B.K B.mg)  : HSs ⟨B.P, B.w, B.K, B.mg, B.base, k + 1, N_Function_eq, defScope s_Function_eq, true, fun _ => true⟩ (defBody s_Function_eq) (rd_Function_eq) :=
  (hss1 (hret (handT (hisiX c.i_Function rfl c.f_isinstance rfl c.n_Function (hv 1)) (handT (heq (hfld c.a_name (hv 0)) (hfld c.a_name (hv 1))) (hone (heq (hfld c.a_body (hv 0)) (hfld c.a_body (hv 1))))))))
theorem at_Function_eq {B : Bs} {k : Nat} {f : Addr} {fd : FuncData} {sp : HSp} (c : Fc B.K B.mg) (F : FunD B.K "__eq__" "Function.__eq__" (defArgs s_Function_eq) (defBody s_Function_eq) (defScope s_Function_eq) [] [] f fd) 
    (hr : ∀ ds S Q E, ds.length = 2 → sp ds S Q E → rd_Function_eq { nx := fun _ S' => Rt Q .non S', rt := Rt Q, ex := fun x _ S' => Rx E x S' } (startE N_Function_eq.length ds) S) : FnAt B (k + 2) f 2 [] sp :=
  fnAtD F (bindAll (F.bindsN fun _ _ _ _ _ _ us hl => match us, hl with | [_, _], _ => rfl)) noDds sc_Function_eq (ok_Function_eq c ) hr
theorem no_Function_eq {B : Bs} {k : Nat} {f : Addr} {fd : FuncData} {sp : HSp} (F : FunD B.K "__eq__" "Function.__eq__" (defArgs s_Function_eq) (defBody s_Function_eq) (defScope s_Function_eq) [] [] f fd) (h0 : ∀ ds S Q E, sp ds S Q E → False) : FnAt B k f 2 [] sp :=
  fnNone rfl (F.bindsN (ps := [("self" : PySem.Str), ("other" : PySem.Str)]) fun _ _ _ _ _ _ us hl => match us, hl with | [_, _], _ => rfl) h0
def d_Function_eq : He.DefD := ⟨("Function", some "__eq__"), "__eq__", "Function.__eq__", defArgs s_Function_eq, defBody s_Function_eq, defScope s_Function_eq, [], []⟩

abbrev s_Code_init : Stmt := inClass (top 19) 0
def N_Code_init : List Str := [("self" : PySem.Str), ("cells" : PySem.Str), ("rows" : PySem.Str), ("functions" : PySem.Str), ("start" : PySem.Str), ("one" : PySem.Str), ("names" : PySem.Str), ("seen" : PySem.Str), ("name" : PySem.Str)]
theorem sc_Code_init : FnScope N_Code_init [("self" : PySem.Str), ("cells" : PySem.Str), ("rows" : PySem.Str), ("functions" : PySem.Str), ("start" : PySem.Str)] (defScope s_Code_init) := ⟨rfl, rfl, rfl, by decide +kernel, rfl, by decide +kernel, by decide +kernel⟩
def rd_Code_init (sp_is_name : HSp) (sp_Checker_part : HSp) (sp_Checker_init : HSp) : HTS := (hSeq (hIfS (hOr (hB (hop gGt (hcb gLen (hCons (hV 1) hNil)) (hC (.int 3)))) (hOr (hB (hop gGt (hcb gLen (hCons (hV 2) hNil)) (hC (.int 2)))) (hB (hop gGt (hcb gLen (hCons (hV 3) hNil)) (hC (.int 3)))))) (hRaise 36 hNil) hNx)
  (hSeq (hFst ix_cells (hV 0) (hcb gTuple (hCons (hV 1) hNil)))
  (hSeq (hFst ix_rows (hV 0) (hcb gTuple (hCons (hV 2) hNil)))
  (hSeq (hFst ix_functions (hV 0) (hcb gTuple (hCons (hV 3) hNil)))
  (hSeq (hFst ix_start (hV 0) (hV 4))
  (hSeq (hSet 6 (hLc (hiSq (hun (gFld ix_functions) (hV 0))) (.nm 5) hYes (hun (gFld ix_name) (hV 5)) [5]))
  (hSeq (hIfS (hNot (hTr (hV 6))) (hRaise 35 (hCons (hC .non) (hCons (hC .non) hNil))) hNx)
  (hSeq (hSet 7 (hLstM hNil))
  (hSeq (hFor (hiSq (hop gAdd (hop gAdd (hcb gList (hCons (hun (gFld ix_cells) (hV 0)) hNil)) (hcb gList (hCons (hun (gFld ix_rows) (hV 0)) hNil))) (hV 6))) (.nm 8) (hSeq (hIfS (hOr (hNot (hTr (hCall 1 [] sp_is_name (hCons (hV 8) hNil)))) (hB (hop gIn (hV 8) (hV 7)))) (hRaise 35 (hCons (hC .non) (hCons (hC .non) hNil))) hNx)
  (hExpr (hMt isLst gAppend (hV 7) (hCons (hV 8) hNil)))))
  (hSeq (hIfS (hB (hop gNotIn (hV 4) (hV 6))) (hRaise 35 (hCons (hC .non) (hCons (hC .non) hNil))) hNx)
  (hFor (hiSq (hun (gFld ix_functions) (hV 0))) (.nm 5) (hExpr (hMeth 5 5 [] sp_Checker_part (hMake 5 3 [] sp_Checker_init (hCons (hV 0) (hCons (hV 5) hNil))) (hCons (hun (gFld ix_body) (hV 5)) (hCons (hC (.int 0)) (hCons (hC (.bl false)) (hCons (hC (.bl false)) hNil)))))))))))))))))
set_option maxHeartbeats 4000000 in
theorem ok_Code_init {B : Bs} {k : Nat} {sp_is_name : HSp} {sp_Checker_part : HSp} {sp_Checker_init : HSp} (c : Fc B.K B.mg) (hx_TooGreat : HExc B k 36) (hx_BadCode : HExc B k 35) (h_is_name : HFn B (k + 1) "is_name" 1 [] sp_is_name) (h_Checker_part : HMeth B (k + 1) 5 "part" 5 [] sp_Checker_part) (h_Checker_init : HMake B k 5 3 [] sp_Checker_init) : HSs ⟨B.P, B.w, B.K, B.mg, B.base, k + 1, N_Code_init, defScope s_Code_init, true, fun _ => true⟩ (defBody s_Code_init) (rd_Code_init sp_is_name sp_Checker_part sp_Checker_init) :=
  (hss (hif (hw (hor (hgtT (hlen rfl c.f_len (hcons (hv 1) hnil)) hint) (hor (hgtT (hlen rfl c.f_len (hcons (hv 2) hnil)) hint) (hor1 (hgtT (hlen rfl c.f_len (hcons (hv 3) hnil)) hint))))) (hss1 (hraise0 (hx_TooGreat.in_) (Nat.le_refl _) rfl)) hss0)
  (hss (hfst c.a_cells (hv 0) (htuple rfl c.f_tuple (hcons (hv 1) hnil)))
  (hss (hfst c.a_rows (hv 0) (htuple rfl c.f_tuple (hcons (hv 2) hnil)))
  (hss (hfst c.a_functions (hv 0) (htuple rfl c.f_tuple (hcons (hv 3) hnil)))
  (hss (hfst c.a_start (hv 0) (hv 4))
  (hss (hsetlcX [("one", 5)] (hisq (hfld c.a_functions (hv 0))) (by dsimp only [Bs.blk]; decide +kernel) (by decide) (hnm 5) hif0 (hfld c.a_name (hv 5)))
  (hss (hif (hnot (htr (hv 6))) (hss1 (hraise (hx_BadCode.in_) (Nat.le_refl _) rfl (hcons hnon (hcons hnon hnil)))) hss0)
  (hss (hsetX (hlstM hnil))
  (hss (hfor (hisq (hadd (hadd (hlist rfl c.f_list (hcons (hfld c.a_cells (hv 0)) hnil)) (hlist rfl c.f_list (hcons (hfld c.a_rows (hv 0)) hnil))) (hv 6))) (hnm 8) (hss (hif (hw (hor (hnot (htr (hcall (h_is_name.in_) (Nat.le_refl _) rfl (hcons (hv 8) hnil)))) (hor1 (hinT (hv 8) (hv 7))))) (hss1 (hraise (hx_BadCode.in_) (Nat.le_refl _) rfl (hcons hnon (hcons hnon hnil)))) hss0)
  (hss1 (hexpr (happend (hv 7) (hcons (hv 8) hnil))))))
  (hss (hif (hnotinT (hv 4) (hv 6)) (hss1 (hraise (hx_BadCode.in_) (Nat.le_refl _) rfl (hcons hnon (hcons hnon hnil)))) hss0)
  (hss1 (hfor (hisq (hfld c.a_functions (hv 0))) (hnm 5) (hss1 (hexpr (hmeth (h_Checker_part.in_) (Nat.le_refl _) (hmake (h_Checker_init.in_) (Nat.le_refl _) rfl (hcons (hv 0) (hcons (hv 5) hnil))) (hcons (hfld c.a_body (hv 5)) (hcons hint (hcons hbl (hcons hbl hnil)))))))))))))))))))
theorem at_Code_init {B : Bs} {k : Nat} {f : Addr} {fd : FuncData} {sp_is_name : HSp} {sp_Checker_part : HSp} {sp_Checker_init : HSp} {sp : HSp} (c : Fc B.K B.mg) (F : FunD B.K "__init__" "Code.__init__" (defArgs s_Code_init) (defBody s_Code_init) (defScope s_Code_init) [] [] f fd) (hx_TooGreat : HExc B k 36) (hx_BadCode : HExc B k 35) (h_is_name : HFn B (k + 1) "is_name" 1 [] sp_is_name) (h_Checker_part : HMeth B (k + 1) 5 "part" 5 [] sp_Checker_part) (h_Checker_init : HMake B k 5 3 [] sp_Checker_init)
    (hr : ∀ ds S Q E, ds.length = 5 → sp ds S Q E → rd_Code_init sp_is_name sp_Checker_part sp_Checker_init { nx := fun _ S' => Rt Q .non S', rt := Rt Q, ex := fun x _ S' => Rx E x S' } (startE N_Code_init.length ds) S) : FnAt B (k + 2) f 5 [] sp :=
  fnAtD F (bindAll (F.bindsN fun _ _ _ _ _ _ us hl => match us, hl with | [_, _, _, _, _], _ => rfl)) noDds sc_Code_init (ok_Code_init c hx_TooGreat hx_BadCode h_is_name h_Checker_part h_Checker_init) hr
theorem no_Code_init {B : Bs} {k : Nat} {f : Addr} {fd : FuncData} {sp : HSp} (F : FunD B.K "__init__" "Code.__init__" (defArgs s_Code_init) (defBody s_Code_init) (defScope s_Code_init) [] [] f fd) (h0 : ∀ ds S Q E, sp ds S Q E → False) : FnAt B k f 5 [] sp :=
  fnNone rfl (F.bindsN (ps := [("self" : PySem.Str), ("cells" : PySem.Str), ("rows" : PySem.Str), ("functions" : PySem.Str), ("start" : PySem.Str)]) fun _ _ _ _ _ _ us hl => match us, hl with | [_, _, _, _, _], _ => rfl) h0
def d_Code_init : He.DefD := ⟨("Code", some "__init__"), "__init__", "Code.__init__", defArgs s_Code_init, defBody s_Code_init, defScope s_Code_init, [], []⟩

abbrev s_Code_eq : Stmt := inClass (top 19) 2
def N_Code_eq : List Str := [("self" : PySem.Str), ("other" : PySem.Str)]
theorem sc_Code_eq : FnScope N_Code_eq [("self" : PySem.Str), ("other" : PySem.Str)] (defScope s_Code_eq) := ⟨rfl, rfl, rfl, by decide +kernel, rfl, by decide +kernel, by decide +kernel⟩
def rd_Code_eq : HTS := (hRet (hAndT (hun (gIsi1 4 [4]) (hV 1)) (hAndT (hop gEq (hun (gFld ix_cells) (hV 0)) (hun (gFld ix_cells) (hV 1))) (hAndT (hop gEq (hun (gFld ix_rows) (hV 0)) (hun (gFld ix_rows) (hV 1))) (hAndT (hop gEq (hun (gFld ix_functions) (hV 0)) (hun (gFld ix_functions) (hV 1))) (hop gEq (hun (gFld ix_start) (hV 0)) (hun (gFld ix_start) (hV 1))))))))
set_option maxHeartbeats 4000000 in
theorem ok_Code_eq {B : Bs} {k : Nat} (c : Fc B.K B.mg)  : HSs ⟨B.P, B.w, B.K, B.mg, B.base, k + 1, N_Code_eq, defScope s_Code_eq, true, fun _ => true⟩ (defBody s_Code_eq) (rd_Code_eq) :=
  (hss1 (hret (handT (hisiX c.i_Code rfl c.f_isinstance rfl c.n_Code (hv 1)) (handT (heq (hfld c.a_cells (hv 0)) (hfld c.a_cells (hv 1))) (handT (heq (hfld c.a_rows (hv 0)) (hfld c.a_rows (hv 1))) (handT (heq (hfld c.a_functions (hv 0)) (hfld c.a_functions (hv 1))) (hone (heq (hfld c.a_start (hv 0)) (hfld c.a_start (hv 1))))))))))
theorem at_Code_eq {B : Bs} {k : Nat} {f : Addr} {fd : FuncData} {sp : HSp} (c : Fc B.K B.mg) (F : FunD B.K "__eq__" "Code.__eq__" (defArgs s_Code_eq) (defBody s_Code_eq) (defScope s_Code_eq) [] [] f fd) 
    (hr : ∀ ds S Q E, ds.length = 2 → sp ds S Q E → rd_Code_eq { nx := fun _ S' => Rt Q .non S', rt := Rt Q, ex := fun x _ S' => Rx E x S' } (startE N_Code_eq.length ds) S) : FnAt B (k + 2) f 2 [] sp :=
  fnAtD F (bindAll (F.bindsN fun _ _ _ _ _ _ us hl => match us, hl with | [_, _], _ => rfl)) noDds sc_Code_eq (ok_Code_eq c ) hr
theorem no_Code_eq {B : Bs} {k : Nat} {f : Addr} {fd : FuncData} {sp : HSp} (F : FunD B.K "__eq__" "Code.__eq__" (defArgs s_Code_eq) (defBody s_Code_eq) (defScope s_Code_eq) [] [] f fd) (h0 : ∀ ds S Q E, sp ds S Q E → False) : FnAt B k f 2 [] sp :=
  fnNone rfl (F.bindsN (ps := [("self" : PySem.Str), ("other" : PySem.Str)]) fun _ _ _ _ _ _ us hl => match us, hl with | [_, _], _ => rfl) h0
def d_Code_eq : He.DefD := ⟨("Code", some "__eq__"), "__eq__", "Code.__eq__", defArgs s_Code_eq, defBody s_Code_eq, defScope s_Code_eq, [], []⟩

abbrev s_Checker_init : Stmt := inClass (top 20) 0
def N_Checker_init : List Str := [("self" : PySem.Str), ("code" : PySem.Str), ("function" : PySem.Str)]
theorem sc_Checker_init : FnScope N_Checker_init [("self" : PySem.Str), ("code" : PySem.Str), ("function" : PySem.Str)] (defScope s_Checker_init) := ⟨rfl, rfl, rfl, by decide +kernel, rfl, by decide +kernel, by decide +kernel⟩
def rd_Checker_init : HTS := (hSeq (hFst ix_code (hV 0) (hV 1))
  (hSeq (hFst ix_function (hV 0) (hV 2))
  (hFst ix_number (hV 0) (hC (.int 0)))))
set_option maxHeartbeats 4000000 in
theorem ok_Checker_init {B : Bs} {k : Nat} (c : Fc B.K B.mg)  : HSs ⟨B.P, B.w, B.K, B.mg, B.base, k + 1, N_Checker_init, defScope s_Checker_init, true, fun _ => true⟩ (defBody s_Checker_init) (rd_Checker_init) :=
  (hss (hfst c.a_code (hv 0) (hv 1))
  (hss (hfst c.a_function (hv 0) (hv 2))
  (hss1 (hfst c.a_number (hv 0) hint))))
theorem at_Checker_init {B : Bs} {k : Nat} {f : Addr} {fd : FuncData} {sp : HSp} (c : Fc B.K B.mg) (F : FunD B.K "__init__" "Checker.__init__" (defArgs s_Checker_init) (defBody s_Checker_init) (defScope s_Checker_init) [] [] f fd) 
    (hr : ∀ ds S Q E, ds.length = 3 → sp ds S Q E → rd_Checker_init { nx := fun _ S' => Rt Q .non S', rt := Rt Q, ex := fun x _ S' => Rx E x S' } (startE N_Checker_init.length ds) S) : FnAt B (k + 2) f 3 [] sp :=
  fnAtD F (bindAll (F.bindsN fun _ _ _ _ _ _ us hl => match us, hl with | [_, _, _], _ => rfl)) noDds sc_Checker_init (ok_Checker_init c ) hr
theorem no_Checker_init {B : Bs} {k : Nat} {f : Addr} {fd : FuncData} {sp : HSp} (F : FunD B.K "__init__" "Checker.__init__" (defArgs s_Checker_init) (defBody s_Checker_init) (defScope s_Checker_init) [] [] f fd) (h0 : ∀ ds S Q E, sp ds S Q E → False) : FnAt B k f 3 [] sp :=
  fnNone rfl (F.bindsN (ps := [("self" : PySem.Str), ("code" : PySem.Str), ("function" : PySem.Str)]) fun _ _ _ _ _ _ us hl => match us, hl with | [_, _, _], _ => rfl) h0
def d_Checker_init : He.DefD := ⟨("Checker", some "__init__"), "__init__", "Checker.__init__", defArgs s_Checker_init, defBody s_Checker_init, defScope s_Checker_init, [], []⟩

abbrev s_Checker_part : Stmt := inClass (top 20) 1
def N_Checker_part : List Str := [("self" : PySem.Str), ("body" : PySem.Str), ("blocks" : PySem.Str), ("looping" : PySem.Str), ("last" : PySem.Str), ("statement" : PySem.Str), ("number" : PySem.Str), ("parts" : PySem.Str), ("word" : PySem.Str), ("place" : PySem.Str), ("inner" : PySem.Str)]
theorem sc_Checker_part : FnScope N_Checker_part [("self" : PySem.Str), ("body" : PySem.Str), ("blocks" : PySem.Str), ("looping" : PySem.Str), ("last" : PySem.Str)] (defScope s_Checker_part) := ⟨rfl, rfl, rfl, by decide +kernel, rfl, by decide +kernel, by decide +kernel⟩
def rd_Checker_part (sp_Checker_fits : HSp) (sp_parts_of : HSp) (sp_Checker_part : HSp) : HTS := (hFor (hiSq (hV 1)) (.nm 5) (hSeq (hSet 6 (hun (gFld ix_number) (hV 0)))
  (hSeq (hFst ix_number (hV 0) (hop gAdd (hV 6) (hC (.int 1))))
  (hSeq (hIfS (hB (hop gGe (hV 6) (hC (.int 14)))) (hRaise 36 hNil) hNx)
  (hSeq (hIfS (hNot (hTr (hMeth 5 4 [] sp_Checker_fits (hV 0) (hCons (hV 5) (hCons (hV 3) (hCons (hV 4) hNil)))))) (hRaise 35 (hCons (hun (gFld ix_name) (hun (gFld ix_function) (hV 0))) (hCons (hV 6) hNil))) hNx)
  (hSeq (hSet 7 (hCall 1 [] sp_parts_of (hCons (hV 5) hNil)))
  (hSeq (hIfS (hAnd (hTr (hV 7)) (hB (hop gGe (hV 2) (hC (.int 3))))) (hRaise 36 hNil) hNx)
  (hSeq (hSet 8 (hop gIx (hV 5) (hC (.int 0))))
  (hFor (hiEnum (hCons (hV 7) hNil)) (.tp [(.nm 9), (.nm 10)]) (hExpr (hMeth 5 5 [] sp_Checker_part (hV 0) (hCons (hV 10) (hCons (hop gAdd (hV 2) (hC (.int 1))) (hCons (hOrT (hV 3) (hop gEq (hV 8) (hC (.str ("tries" : PySem.Str))))) (hCons (hAndT (hop gEq (hV 8) (hC (.str ("lastly" : PySem.Str)))) (hop gEq (hV 9) (hC (.int 1)))) hNil)))))))))))))))
set_option maxHeartbeats 4000000 in
theorem ok_Checker_part {B : Bs} {k : Nat} {sp_Checker_fits : HSp} {sp_parts_of : HSp} {sp_Checker_part : HSp} (c : Fc B.K B.mg) (hx_TooGreat : HExc B k 36) (h_Checker_fits : HMeth B (k + 1) 5 "fits" 4 [] sp_Checker_fits) (hx_BadCode : HExc B k 35) (h_parts_of : HFn B (k + 1) "parts_of" 1 [] sp_parts_of) (h_Checker_part : HMeth B (k + 1) 5 "part" 5 [] sp_Checker_part) : HSs ⟨B.P, B.w, B.K, B.mg, B.base, k + 1, N_Checker_part, defScope s_Checker_part, true, fun _ => true⟩ (defBody s_Checker_part) (rd_Checker_part sp_Checker_fits sp_parts_of sp_Checker_part) :=
  (hss1 (hfor (hisq (hv 1)) (hnm 5) (hss (hsetX (hfld c.a_number (hv 0)))
  (hss (hfst c.a_number (hv 0) (hadd (hv 6) hint))
  (hss (hif (hgeT (hv 6) (hgi rfl c.g_STATEMENTS)) (hss1 (hraise0 (hx_TooGreat.in_) (Nat.le_refl _) rfl)) hss0)
  (hss (hif (hnot (htr (hmeth (h_Checker_fits.in_) (Nat.le_refl _) (hv 0) (hcons (hv 5) (hcons (hv 3) (hcons (hv 4) hnil)))))) (hss1 (hraise (hx_BadCode.in_) (Nat.le_refl _) rfl (hcons (hfld c.a_name (hfld c.a_function (hv 0))) (hcons (hv 6) hnil)))) hss0)
  (hss (hsetX (hcall (h_parts_of.in_) (Nat.le_refl _) rfl (hcons (hv 5) hnil)))
  (hss (hif (hw (hand (htr (hv 7)) (hand1 (hgeT (hv 2) (hgi rfl c.g_BLOCKS))))) (hss1 (hraise0 (hx_TooGreat.in_) (Nat.le_refl _) rfl)) hss0)
  (hss (hsetX (hix (hv 5) hint))
  (hss1 (hfor (hienum rfl c.f_enumerate (hcons (hv 7) hnil)) (htp (hps (hnm 9) (hps (hnm 10) hps0))) (hss1 (hexpr (hmeth (h_Checker_part.in_) (Nat.le_refl _) (hv 0) (hcons (hv 10) (hcons (hadd (hv 2) hint) (hcons (horT (hv 3) (hone (heq (hv 8) hstr))) (hcons (handT (heq (hv 8) hstr) (hone (heq (hv 9) hint))) hnil))))))))))))))))))
theorem at_Checker_part {B : Bs} {k : Nat} {f : Addr} {fd : FuncData} {sp_Checker_fits : HSp} {sp_parts_of : HSp} {sp_Checker_part : HSp} {sp : HSp} (c : Fc B.K B.mg) (F : FunD B.K "part" "Checker.part" (defArgs s_Checker_part) (defBody s_Checker_part) (defScope s_Checker_part) [] [] f fd) (hx_TooGreat : HExc B k 36) (h_Checker_fits : HMeth B (k + 1) 5 "fits" 4 [] sp_Checker_fits) (hx_BadCode : HExc B k 35) (h_parts_of : HFn B (k + 1) "parts_of" 1 [] sp_parts_of) (h_Checker_part : HMeth B (k + 1) 5 "part" 5 [] sp_Checker_part)
    (hr : ∀ ds S Q E, ds.length = 5 → sp ds S Q E → rd_Checker_part sp_Checker_fits sp_parts_of sp_Checker_part { nx := fun _ S' => Rt Q .non S', rt := Rt Q, ex := fun x _ S' => Rx E x S' } (startE N_Checker_part.length ds) S) : FnAt B (k + 2) f 5 [] sp :=
  fnAtD F (bindAll (F.bindsN fun _ _ _ _ _ _ us hl => match us, hl with | [_, _, _, _, _], _ => rfl)) noDds sc_Checker_part (ok_Checker_part c hx_TooGreat h_Checker_fits hx_BadCode h_parts_of h_Checker_part) hr
theorem no_Checker_part {B : Bs} {k : Nat} {f : Addr} {fd : FuncData} {sp : HSp} (F : FunD B.K "part" "Checker.part" (defArgs s_Checker_part) (defBody s_Checker_part) (defScope s_Checker_part) [] [] f fd) (h0 : ∀ ds S Q E, sp ds S Q E → False) : FnAt B k f 5 [] sp :=
  fnNone rfl (F.bindsN (ps := [("self" : PySem.Str), ("body" : PySem.Str), ("blocks" : PySem.Str), ("looping" : PySem.Str), ("last" : PySem.Str)]) fun _ _ _ _ _ _ us hl => match us, hl with | [_, _, _, _, _], _ => rfl) h0
def d_Checker_part : He.DefD := ⟨("Checker", some "part"), "part", "Checker.part", defArgs s_Checker_part, defBody s_Checker_part, defScope s_Checker_part, [], []⟩

abbrev s_Checker_fits : Stmt := inClass (top 20) 2
def N_Checker_fits : List Str := [("self" : PySem.Str), ("statement" : PySem.Str), ("looping" : PySem.Str), ("last" : PySem.Str), ("word" : PySem.Str)]
theorem sc_Checker_fits : FnScope N_Checker_fits [("self" : PySem.Str), ("statement" : PySem.Str), ("looping" : PySem.Str), ("last" : PySem.Str)] (defScope s_Checker_fits) := ⟨rfl, rfl, rfl, by decide +kernel, rfl, by decide +kernel, by decide +kernel⟩
def rd_Checker_fits (sp_word_of : HSp) (sp_parts_of : HSp) (sp_Checker_choices : HSp) : HTS := (hSeq (hSet 4 (hCall 1 [] sp_word_of (hCons (hV 1) hNil)))
  (hSeq (hIfS (hAnd (hTr (hV 3)) (hAnd (hB (hop gNotIn (hV 4) (hC (.tup [(.str ("put" : PySem.Str)), (.str ("blank" : PySem.Str)), (.str ("give" : PySem.Str))])))) (hB (hop gNotIn (hV 4) (hC (.tup [(.str ("push" : PySem.Str)), (.str ("pop" : PySem.Str)), (.str ("cut" : PySem.Str))])))))) (hRet (hC (.bl false))) hNx)
  (hSeq (hIfS (hAnd (hB (hop gIn (hV 4) (hTup (hCons (hC (.str ("again" : PySem.Str))) (hCons (hC (.str ("out" : PySem.Str))) hNil))))) (hNot (hTr (hV 2)))) (hRet (hC (.bl false))) hNx)
  (hSeq (hIfS (hB (hop gIn (hV 4) (hC (.tup [(.str ("fault" : PySem.Str)), (.str ("may" : PySem.Str)), (.str ("again" : PySem.Str)), (.str ("out" : PySem.Str))])))) (hRet (hop gEq (hcb gLen (hCons (hV 1) hNil)) (hC (.int 1)))) hNx)
  (hSeq (hIfS (hB (hop gEq (hV 4) (hC (.str ("look" : PySem.Str))))) (hRet (hAndT (hop gEq (hcb gLen (hCons (hV 1) hNil)) (hC (.int 4))) (hop gIn (hop gIx (hV 1) (hC (.int 1))) (hun (gFld ix_cells) (hun (gFld ix_code) (hV 0)))))) hNx)
  (hSeq (hIfS (hOr (hB (hop gEq (hV 4) (hC (.str ("tries" : PySem.Str))))) (hB (hop gIn (hV 4) (hC (.tup [(.str ("either" : PySem.Str)), (.str ("told" : PySem.Str)), (.str ("guard" : PySem.Str)), (.str ("lastly" : PySem.Str))]))))) (hRet (hop gGt (hcb gLen (hCons (hCall 1 [] sp_parts_of (hCons (hV 1) hNil)) hNil)) (hC (.int 0)))) hNx)
  (hRet (hAndT (hop gEq (hcb gLen (hCons (hV 1) hNil)) (hC (.int 2))) (hop gIn (hop gIx (hV 1) (hC (.int 1))) (hMeth 5 2 [] sp_Checker_choices (hV 0) (hCons (hV 4) hNil)))))))))))
set_option maxHeartbeats 4000000 in
theorem ok_Checker_fits {B : Bs} {k : Nat} {sp_word_of : HSp} {sp_parts_of : HSp} {sp_Checker_choices : HSp} (c : Fc B.K B.mg) (h_word_of : HFn B (k + 1) "word_of" 1 [] sp_word_of) (h_parts_of : HFn B (k + 1) "parts_of" 1 [] sp_parts_of) (h_Checker_choices : HMeth B (k + 1) 5 "choices" 2 [] sp_Checker_choices) : HSs ⟨B.P, B.w, B.K, B.mg, B.base, k + 1, N_Checker_fits, defScope s_Checker_fits, true, fun _ => true⟩ (defBody s_Checker_fits) (rd_Checker_fits sp_word_of sp_parts_of sp_Checker_choices) :=
  (hss (hsetX (hcall (h_word_of.in_) (Nat.le_refl _) rfl (hcons (hv 1) hnil)))
  (hss (hif (hw (hand (htr (hv 3)) (hand (hnotinT (hv 4) (hgtup rfl c.g_CELL_DEEDS c.t_CELL_DEEDS)) (hand1 (hnotinT (hv 4) (hgtup rfl c.g_ROW_DEEDS c.t_ROW_DEEDS)))))) (hss1 (hret hbl)) hss0)
  (hss (hif (hw (hand (hinT (hv 4) (htup (hcons hstr (hcons hstr hnil)))) (hand1 (hnot (htr (hv 2)))))) (hss1 (hret hbl)) hss0)
  (hss (hif (hinT (hv 4) (hgtup rfl c.g_ALONE c.t_ALONE)) (hss1 (hret (heq (hlen rfl c.f_len (hcons (hv 1) hnil)) hint))) hss0)
  (hss (hif (heqT (hv 4) hstr) (hss1 (hret (handT (heq (hlen rfl c.f_len (hcons (hv 1) hnil)) hint) (hone (hin (hix (hv 1) hint) (hfld c.a_cells (hfld c.a_code (hv 0)))))))) hss0)
  (hss (hif (hw (hor (heqT (hv 4) hstr) (hor1 (hinT (hv 4) (hgtup rfl c.g_TWO_PARTS c.t_TWO_PARTS))))) (hss1 (hret (hgt (hlen rfl c.f_len (hcons (hcall (h_parts_of.in_) (Nat.le_refl _) rfl (hcons (hv 1) hnil)) hnil)) hint))) hss0)
  (hss1 (hret (handT (heq (hlen rfl c.f_len (hcons (hv 1) hnil)) hint) (hone (hin (hix (hv 1) hint) (hmeth (h_Checker_choices.in_) (Nat.le_refl _) (hv 0) (hcons (hv 4) hnil)))))))))))))
theorem at_Checker_fits {B : Bs} {k : Nat} {f : Addr} {fd : FuncData} {sp_word_of : HSp} {sp_parts_of : HSp} {sp_Checker_choices : HSp} {sp : HSp} (c : Fc B.K B.mg) (F : FunD B.K "fits" "Checker.fits" (defArgs s_Checker_fits) (defBody s_Checker_fits) (defScope s_Checker_fits) [] [] f fd) (h_word_of : HFn B (k + 1) "word_of" 1 [] sp_word_of) (h_parts_of : HFn B (k + 1) "parts_of" 1 [] sp_parts_of) (h_Checker_choices : HMeth B (k + 1) 5 "choices" 2 [] sp_Checker_choices)
    (hr : ∀ ds S Q E, ds.length = 4 → sp ds S Q E → rd_Checker_fits sp_word_of sp_parts_of sp_Checker_choices { nx := fun _ S' => Rt Q .non S', rt := Rt Q, ex := fun x _ S' => Rx E x S' } (startE N_Checker_fits.length ds) S) : FnAt B (k + 2) f 4 [] sp :=
  fnAtD F (bindAll (F.bindsN fun _ _ _ _ _ _ us hl => match us, hl with | [_, _, _, _], _ => rfl)) noDds sc_Checker_fits (ok_Checker_fits c h_word_of h_parts_of h_Checker_choices) hr
theorem no_Checker_fits {B : Bs} {k : Nat} {f : Addr} {fd : FuncData} {sp : HSp} (F : FunD B.K "fits" "Checker.fits" (defArgs s_Checker_fits) (defBody s_Checker_fits) (defScope s_Checker_fits) [] [] f fd) (h0 : ∀ ds S Q E, sp ds S Q E → False) : FnAt B k f 4 [] sp :=
  fnNone rfl (F.bindsN (ps := [("self" : PySem.Str), ("statement" : PySem.Str), ("looping" : PySem.Str), ("last" : PySem.Str)]) fun _ _ _ _ _ _ us hl => match us, hl with | [_, _, _, _], _ => rfl) h0
def d_Checker_fits : He.DefD := ⟨("Checker", some "fits"), "fits", "Checker.fits", defArgs s_Checker_fits, defBody s_Checker_fits, defScope s_Checker_fits, [], []⟩

abbrev s_Checker_choices : Stmt := inClass (top 20) 3
def N_Checker_choices : List Str := [("self" : PySem.Str), ("word" : PySem.Str), ("one" : PySem.Str)]
theorem sc_Checker_choices : FnScope N_Checker_choices [("self" : PySem.Str), ("word" : PySem.Str)] (defScope s_Checker_choices) := ⟨rfl, rfl, rfl, by decide +kernel, rfl, by decide +kernel, by decide +kernel⟩
def rd_Checker_choices : HTS := (hSeq (hIfS (hB (hop gIn (hV 1) (hC (.tup [(.str ("put" : PySem.Str)), (.str ("blank" : PySem.Str)), (.str ("give" : PySem.Str))])))) (hRet (hun (gFld ix_cells) (hun (gFld ix_code) (hV 0)))) hNx)
  (hSeq (hIfS (hB (hop gIn (hV 1) (hC (.tup [(.str ("push" : PySem.Str)), (.str ("pop" : PySem.Str)), (.str ("cut" : PySem.Str))])))) (hRet (hun (gFld ix_rows) (hun (gFld ix_code) (hV 0)))) hNx)
  (hSeq (hIfS (hB (hop gEq (hV 1) (hC (.str ("deeper" : PySem.Str))))) (hRet (hcb gTuple (hCons (hLc (hiSq (hun (gFld ix_functions) (hun (gFld ix_code) (hV 0)))) (.nm 2) hYes (hun (gFld ix_name) (hV 2)) [2]) hNil))) hNx)
  (hSeq (hIfS (hB (hop gEq (hV 1) (hC (.str ("answer" : PySem.Str))))) (hRet (hTup (hCons (hC (.str ("copy" : PySem.Str))) (hCons (hC (.str ("view" : PySem.Str))) hNil)))) hNx)
  (hSeq (hIfS (hB (hop gEq (hV 1) (hC (.str ("stop" : PySem.Str))))) (hRet (hTup (hCons (hC (.str ("found" : PySem.Str))) (hCons (hC (.str ("none" : PySem.Str))) hNil)))) hNx)
  (hRet (hTup hNil)))))))
set_option maxHeartbeats 4000000 in
theorem ok_Checker_choices {B : Bs} {k : Nat} (c : Fc B.K B.mg)  : HSs ⟨B.P, B.w, B.K, B.mg, B.base, k + 1, N_Checker_choices, defScope s_Checker_choices, true, fun _ => true⟩ (defBody s_Checker_choices) (rd_Checker_choices) :=
  (hss (hif (hinT (hv 1) (hgtup rfl c.g_CELL_DEEDS c.t_CELL_DEEDS)) (hss1 (hret (hfld c.a_cells (hfld c.a_code (hv 0))))) hss0)
  (hss (hif (hinT (hv 1) (hgtup rfl c.g_ROW_DEEDS c.t_ROW_DEEDS)) (hss1 (hret (hfld c.a_rows (hfld c.a_code (hv 0))))) hss0)
  (hss (hif (heqT (hv 1) hstr) (hss1 (hret (htuple rfl c.f_tuple (hcons (hlcX [("one", 2)] (hisq (hfld c.a_functions (hfld c.a_code (hv 0)))) (by dsimp only [Bs.blk]; decide +kernel) (by decide) (hnm 2) hif0 (hfld c.a_name (hv 2))) hnil)))) hss0)
  (hss (hif (heqT (hv 1) hstr) (hss1 (hret (htup (hcons hstr (hcons hstr hnil))))) hss0)
  (hss (hif (heqT (hv 1) hstr) (hss1 (hret (htup (hcons hstr (hcons hstr hnil))))) hss0)
  (hss1 (hret (htup hnil))))))))
theorem at_Checker_choices {B : Bs} {k : Nat} {f : Addr} {fd : FuncData} {sp : HSp} (c : Fc B.K B.mg) (F : FunD B.K "choices" "Checker.choices" (defArgs s_Checker_choices) (defBody s_Checker_choices) (defScope s_Checker_choices) [] [] f fd) 
    (hr : ∀ ds S Q E, ds.length = 2 → sp ds S Q E → rd_Checker_choices { nx := fun _ S' => Rt Q .non S', rt := Rt Q, ex := fun x _ S' => Rx E x S' } (startE N_Checker_choices.length ds) S) : FnAt B (k + 2) f 2 [] sp :=
  fnAtD F (bindAll (F.bindsN fun _ _ _ _ _ _ us hl => match us, hl with | [_, _], _ => rfl)) noDds sc_Checker_choices (ok_Checker_choices c ) hr
theorem no_Checker_choices {B : Bs} {k : Nat} {f : Addr} {fd : FuncData} {sp : HSp} (F : FunD B.K "choices" "Checker.choices" (defArgs s_Checker_choices) (defBody s_Checker_choices) (defScope s_Checker_choices) [] [] f fd) (h0 : ∀ ds S Q E, sp ds S Q E → False) : FnAt B k f 2 [] sp :=
  fnNone rfl (F.bindsN (ps := [("self" : PySem.Str), ("word" : PySem.Str)]) fun _ _ _ _ _ _ us hl => match us, hl with | [_, _], _ => rfl) h0
def d_Checker_choices : He.DefD := ⟨("Checker", some "choices"), "choices", "Checker.choices", defArgs s_Checker_choices, defBody s_Checker_choices, defScope s_Checker_choices, [], []⟩

abbrev s_law_draw : Stmt := top 22
def N_law_draw : List Str := [("_law_pen" : PySem.Str), ("_law_many" : PySem.Str), ("_law_spot" : PySem.Str), ("_law_at" : PySem.Str), ("_law_cell" : PySem.Str), ("_law_mixed" : PySem.Str)]
theorem sc_law_draw : FnScope N_law_draw [("_law_pen" : PySem.Str), ("_law_many" : PySem.Str)] (defScope s_law_draw) := ⟨rfl, rfl, rfl, by decide +kernel, rfl, by decide +kernel, by decide +kernel⟩
def rd_law_draw : HTS := (hSeq (hSet 2 (hop gIx (hV 0) (hC (.int 1))))
  (hSeq (hSetI (hV 0) (hC (.int 1)) (hop gAdd (hV 2) (hC (.int 1))))
  (hSeq (hSet 3 (hop gMod (hcb gInt1 (hCons (hV 2) hNil)) (hcb gLen (hCons (hop gIx (hV 0) (hC (.int 0))) hNil))))
  (hSeq (hSet 4 (hcb gInt1 (hCons (hop gIx (hop gIx (hV 0) (hC (.int 0))) (hV 3)) hNil)))
  (hSeq (hIfS (hB (hop gGe (hV 4) (hop gPow (hC (.int 10)) (hC (.int 18))))) (hSeq (hSetI (hop gIx (hV 0) (hC (.int 0))) (hV 3) (hop gDiv (hV 4) (hV 1)))
  (hRet (hop gMod (hcb gInt1 (hCons (hV 4) hNil)) (hV 1)))) hNx)
  (hSeq (hSet 5 (hop gPow (hcb gInt1 (hCons (hop gAdd (hop gAdd (hop gMulI (hop gMod (hcb gInt1 (hCons (hV 4) hNil)) (hC (.int 1000000007))) (hC (.int 48271))) (hop gMulI (hV 2) (hC (.int 7919)))) (hC (.int 104729))) hNil)) (hC (.int 5))))
  (hRet (hop gMod (hop gDiv (hcb gInt1 (hCons (hop gMod (hcb gInt1 (hCons (hV 5) hNil)) (hC (.int 2147483647))) hNil)) (hC (.int 8))) (hV 1)))))))))
set_option maxHeartbeats 4000000 in
theorem ok_law_draw {B : Bs} {k : Nat} (c : Fc B.K B.mg)  : HSs ⟨B.P, B.w, B.K, B.mg, B.base, k + 1, N_law_draw, defScope s_law_draw, true, fun _ => true⟩ (defBody s_law_draw) (rd_law_draw) :=
  (hss (hsetX (hix (hv 0) hint))
  (hss (hseti (hv 0) hint (hadd (hv 2) hint))
  (hss (hsetX (hmod (hint1 rfl c.f_int (hcons (hv 2) hnil)) (hlen rfl c.f_len (hcons (hix (hv 0) hint) hnil))))
  (hss (hsetX (hint1 rfl c.f_int (hcons (hix (hix (hv 0) hint) (hv 3)) hnil)))
  (hss (hif (hgeT (hv 4) (hpow hint hint)) (hss (hseti (hix (hv 0) hint) (hv 3) (hdiv (hv 4) (hv 1)))
  (hss1 (hret (hmod (hint1 rfl c.f_int (hcons (hv 4) hnil)) (hv 1))))) hss0)
  (hss (hsetX (hpow (hint1 rfl c.f_int (hcons (hadd (hadd (hmulI (hmod (hint1 rfl c.f_int (hcons (hv 4) hnil)) hint) hint) (hmulI (hv 2) hint)) hint) hnil)) hint))
  (hss1 (hret (hmod (hdiv (hint1 rfl c.f_int (hcons (hmod (hint1 rfl c.f_int (hcons (hv 5) hnil)) hint) hnil)) hint) (hv 1))))))))))
theorem at_law_draw {B : Bs} {k : Nat} {f : Addr} {fd : FuncData} {sp : HSp} (c : Fc B.K B.mg) (F : FunD B.K "_law_draw" "_law_draw" (defArgs s_law_draw) (defBody s_law_draw) (defScope s_law_draw) [] [] f fd) 
    (hr : ∀ ds S Q E, ds.length = 2 → sp ds S Q E → rd_law_draw { nx := fun _ S' => Rt Q .non S', rt := Rt Q, ex := fun x _ S' => Rx E x S' } (startE N_law_draw.length ds) S) : FnAt B (k + 2) f 2 [] sp :=
  fnAtD F (bindAll (F.bindsN fun _ _ _ _ _ _ us hl => match us, hl with | [_, _], _ => rfl)) noDds sc_law_draw (ok_law_draw c ) hr
theorem no_law_draw {B : Bs} {k : Nat} {f : Addr} {fd : FuncData} {sp : HSp} (F : FunD B.K "_law_draw" "_law_draw" (defArgs s_law_draw) (defBody s_law_draw) (defScope s_law_draw) [] [] f fd) (h0 : ∀ ds S Q E, sp ds S Q E → False) : FnAt B k f 2 [] sp :=
  fnNone rfl (F.bindsN (ps := [("_law_pen" : PySem.Str), ("_law_many" : PySem.Str)]) fun _ _ _ _ _ _ us hl => match us, hl with | [_, _], _ => rfl) h0
def d_law_draw : He.DefD := ⟨("_law_draw", none), "_law_draw", "_law_draw", defArgs s_law_draw, defBody s_law_draw, defScope s_law_draw, [], []⟩

abbrev s_law_pick : Stmt := top 23
def N_law_pick : List Str := [("_law_pen" : PySem.Str), ("_law_row" : PySem.Str)]
theorem sc_law_pick : FnScope N_law_pick [("_law_pen" : PySem.Str), ("_law_row" : PySem.Str)] (defScope s_law_pick) := ⟨rfl, rfl, rfl, by decide +kernel, rfl, by decide +kernel, by decide +kernel⟩
def rd_law_pick (sp_law_draw : HSp) : HTS := (hRet (hop gIx (hV 1) (hCall 2 [] sp_law_draw (hCons (hV 0) (hCons (hcb gLen (hCons (hV 1) hNil)) hNil)))))
set_option maxHeartbeats 4000000 in
theorem ok_law_pick {B : Bs} {k : Nat} {sp_law_draw : HSp} (c : Fc B.K B.mg) (h_law_draw : HFn B (k + 1) "_law_draw" 2 [] sp_law_draw) : HSs ⟨B.P, B.w, B.K, B.mg, B.base, k + 1, N_law_pick, defScope s_law_pick, true, fun _ => true⟩ (defBody s_law_pick) (rd_law_pick sp_law_draw) :=
  (hss1 (hret (hix (hv 1) (hcall (h_law_draw.in_) (Nat.le_refl _) rfl (hcons (hv 0) (hcons (hlen rfl c.f_len (hcons (hv 1) hnil)) hnil))))))
theorem at_law_pick {B : Bs} {k : Nat} {f : Addr} {fd : FuncData} {sp_law_draw : HSp} {sp : HSp} (c : Fc B.K B.mg) (F : FunD B.K "_law_pick" "_law_pick" (defArgs s_law_pick) (defBody s_law_pick) (defScope s_law_pick) [] [] f fd) (h_law_draw : HFn B (k + 1) "_law_draw" 2 [] sp_law_draw)
    (hr : ∀ ds S Q E, ds.length = 2 → sp ds S Q E → rd_law_pick sp_law_draw { nx := fun _ S' => Rt Q .non S', rt := Rt Q, ex := fun x _ S' => Rx E x S' } (startE N_law_pick.length ds) S) : FnAt B (k + 2) f 2 [] sp :=
  fnAtD F (bindAll (F.bindsN fun _ _ _ _ _ _ us hl => match us, hl with | [_, _], _ => rfl)) noDds sc_law_pick (ok_law_pick c h_law_draw) hr
theorem no_law_pick {B : Bs} {k : Nat} {f : Addr} {fd : FuncData} {sp : HSp} (F : FunD B.K "_law_pick" "_law_pick" (defArgs s_law_pick) (defBody s_law_pick) (defScope s_law_pick) [] [] f fd) (h0 : ∀ ds S Q E, sp ds S Q E → False) : FnAt B k f 2 [] sp :=
  fnNone rfl (F.bindsN (ps := [("_law_pen" : PySem.Str), ("_law_row" : PySem.Str)]) fun _ _ _ _ _ _ us hl => match us, hl with | [_, _], _ => rfl) h0
def d_law_pick : He.DefD := ⟨("_law_pick", none), "_law_pick", "_law_pick", defArgs s_law_pick, defBody s_law_pick, defScope s_law_pick, [], []⟩

abbrev s_law_word : Stmt := top 24
def N_law_word : List Str := [("_law_pen" : PySem.Str), ("_law_most" : PySem.Str), ("_law_letters" : PySem.Str), ("_law_k" : PySem.Str)]
theorem sc_law_word : FnScope N_law_word [("_law_pen" : PySem.Str), ("_law_most" : PySem.Str)] (defScope s_law_word) := ⟨rfl, rfl, rfl, by decide +kernel, rfl, by decide +kernel, by decide +kernel⟩
def rd_law_word (sp_law_draw : HSp) : HTS := (hSeq (hSet 2 (hC (.str ("abcdefghijklmnopqrstuvwxyz" : PySem.Str))))
  (hRet (hMt isStr gJoin (hC (.str ("" : PySem.Str))) (hCons (hLc (hiR1 (hCons (hop gAdd (hC (.int 1)) (hCall 2 [] sp_law_draw (hCons (hV 0) (hCons (hV 1) hNil)))) hNil)) (.nm 3) hYes (hop gIx (hV 2) (hCall 2 [] sp_law_draw (hCons (hV 0) (hCons (hC (.int 26)) hNil)))) [3]) hNil))))
set_option maxHeartbeats 4000000 in
theorem ok_law_word {B : Bs} {k : Nat} {sp_law_draw : HSp} (c : Fc B.K B.mg) (h_law_draw : HFn B (k + 1) "_law_draw" 2 [] sp_law_draw) : HSs ⟨B.P, B.w, B.K, B.mg, B.base, k + 1, N_law_word, defScope s_law_word, true, fun _ => true⟩ (defBody s_law_word) (rd_law_word sp_law_draw) :=
  (hss (hsetX hstr)
  (hss1 (hret (hjoin hstr (hcons (hlcX [("_law_k", 3)] (hir1 rfl c.f_range (hcons (hadd hint (hcall (h_law_draw.in_) (Nat.le_refl _) rfl (hcons (hv 0) (hcons (hv 1) hnil)))) hnil)) (by dsimp only [Bs.blk]; decide +kernel) (by decide) (hnm 3) hif0 (hix (hv 2) (hcall (h_law_draw.in_) (Nat.le_refl _) rfl (hcons (hv 0) (hcons hint hnil))))) hnil)))))
theorem at_law_word {B : Bs} {k : Nat} {f : Addr} {fd : FuncData} {sp_law_draw : HSp} {sp : HSp} (c : Fc B.K B.mg) (F : FunD B.K "_law_word" "_law_word" (defArgs s_law_word) (defBody s_law_word) (defScope s_law_word) [] [] f fd) (h_law_draw : HFn B (k + 1) "_law_draw" 2 [] sp_law_draw)
    (hr : ∀ ds S Q E, ds.length = 2 → sp ds S Q E → rd_law_word sp_law_draw { nx := fun _ S' => Rt Q .non S', rt := Rt Q, ex := fun x _ S' => Rx E x S' } (startE N_law_word.length ds) S) : FnAt B (k + 2) f 2 [] sp :=
  fnAtD F (bindAll (F.bindsN fun _ _ _ _ _ _ us hl => match us, hl with | [_, _], _ => rfl)) noDds sc_law_word (ok_law_word c h_law_draw) hr
theorem no_law_word {B : Bs} {k : Nat} {f : Addr} {fd : FuncData} {sp : HSp} (F : FunD B.K "_law_word" "_law_word" (defArgs s_law_word) (defBody s_law_word) (defScope s_law_word) [] [] f fd) (h0 : ∀ ds S Q E, sp ds S Q E → False) : FnAt B k f 2 [] sp :=
  fnNone rfl (F.bindsN (ps := [("_law_pen" : PySem.Str), ("_law_most" : PySem.Str)]) fun _ _ _ _ _ _ us hl => match us, hl with | [_, _], _ => rfl) h0
def d_law_word : He.DefD := ⟨("_law_word", none), "_law_word", "_law_word", defArgs s_law_word, defBody s_law_word, defScope s_law_word, [], []⟩

abbrev s_law_names : Stmt := top 25
def N_law_names : List Str := [("_law_pen" : PySem.Str), ("_law_many" : PySem.Str), ("_law_found" : PySem.Str), ("_law_k" : PySem.Str), ("_law_name_here" : PySem.Str), ("_law_word_here" : PySem.Str), ("_law_n" : PySem.Str), ("_law_spare" : PySem.Str)]
theorem sc_law_names : FnScope N_law_names [("_law_pen" : PySem.Str), ("_law_many" : PySem.Str)] (defScope s_law_names) := ⟨rfl, rfl, rfl, by decide +kernel, rfl, by decide +kernel, by decide +kernel⟩
def rd_law_names (sp_law_word : HSp) (sp_law_draw : HSp) : HTS := (hSeq (hSet 2 (hLstM hNil))
  (hSeq (hFor (hiR1 (hCons (hV 1) hNil)) (.nm 3) (hSeq (hSet 4 (hCall 2 [] sp_law_word (hCons (hV 0) (hCons (hIf (hB (hop gEq (hCall 2 [] sp_law_draw (hCons (hV 0) (hCons (hC (.int 4)) hNil))) (hC (.int 0)))) (hC (.int 12)) (hC (.int 2))) hNil))))
  (hSeq (hSet 7 (hLc (hiSq (hLc (hiR2 (hCons (hC (.int 1)) (hCons (hC (.int 13)) hNil))) (.nm 6) hYes (hop gMulS (hC (.str ("a" : PySem.Str))) (hV 6)) [6])) (.nm 5) (hB (hop gNotIn (hV 5) (hV 2))) (hV 5) [5]))
  (hExpr (hMt isLst gAppend (hV 2) (hCons (hIf (hB (hop gIn (hV 4) (hV 2))) (hop gIx (hV 7) (hC (.int 0))) (hV 4)) hNil))))))
  (hRet (hV 2))))
set_option maxHeartbeats 4000000 in
theorem ok_law_names {B : Bs} {k : Nat} {sp_law_word : HSp} {sp_law_draw : HSp} (c : Fc B.K B.mg) (h_law_word : HFn B (k + 1) "_law_word" 2 [] sp_law_word) (h_law_draw : HFn B (k + 1) "_law_draw" 2 [] sp_law_draw) : HSs ⟨B.P, B.w, B.K, B.mg, B.base, k + 1, N_law_names, defScope s_law_names, true, fun _ => true⟩ (defBody s_law_names) (rd_law_names sp_law_word sp_law_draw) :=
  (hss (hsetX (hlstM hnil))
  (hss (hfor (hir1 rfl c.f_range (hcons (hv 1) hnil)) (hnm 3) (hss (hsetX (hcall (h_law_word.in_) (Nat.le_refl _) rfl (hcons (hv 0) (hcons (hife (heqT (hcall (h_law_draw.in_) (Nat.le_refl _) rfl (hcons (hv 0) (hcons hint hnil))) hint) hint hint) hnil))))
  (hss (hsetlcX [("_law_word_here", 5)] (hisq (hlcX [("_law_n", 6)] (hir2 rfl c.f_range (hcons hint (hcons hint hnil))) (by dsimp only [Bs.blk]; decide +kernel) (by decide) (hnm 6) hif0 (hmulS hstr (hv 6)))) (by dsimp only [Bs.blk]; decide +kernel) (by decide) (hnm 5) (hif1 (hnotinT (hv 5) (hv 2))) (hv 5))
  (hss1 (hexpr (happend (hv 2) (hcons (hife (hinT (hv 4) (hv 2)) (hix (hv 7) hint) (hv 4)) hnil)))))))
  (hss1 (hret (hv 2)))))
theorem at_law_names {B : Bs} {k : Nat} {f : Addr} {fd : FuncData} {sp_law_word : HSp} {sp_law_draw : HSp} {sp : HSp} (c : Fc B.K B.mg) (F : FunD B.K "_law_names" "_law_names" (defArgs s_law_names) (defBody s_law_names) (defScope s_law_names) [] [] f fd) (h_law_word : HFn B (k + 1) "_law_word" 2 [] sp_law_word) (h_law_draw : HFn B (k + 1) "_law_draw" 2 [] sp_law_draw)
    (hr : ∀ ds S Q E, ds.length = 2 → sp ds S Q E → rd_law_names sp_law_word sp_law_draw { nx := fun _ S' => Rt Q .non S', rt := Rt Q, ex := fun x _ S' => Rx E x S' } (startE N_law_names.length ds) S) : FnAt B (k + 2) f 2 [] sp :=
  fnAtD F (bindAll (F.bindsN fun _ _ _ _ _ _ us hl => match us, hl with | [_, _], _ => rfl)) noDds sc_law_names (ok_law_names c h_law_word h_law_draw) hr
theorem no_law_names {B : Bs} {k : Nat} {f : Addr} {fd : FuncData} {sp : HSp} (F : FunD B.K "_law_names" "_law_names" (defArgs s_law_names) (defBody s_law_names) (defScope s_law_names) [] [] f fd) (h0 : ∀ ds S Q E, sp ds S Q E → False) : FnAt B k f 2 [] sp :=
  fnNone rfl (F.bindsN (ps := [("_law_pen" : PySem.Str), ("_law_many" : PySem.Str)]) fun _ _ _ _ _ _ us hl => match us, hl with | [_, _], _ => rfl) h0
def d_law_names : He.DefD := ⟨("_law_names", none), "_law_names", "_law_names", defArgs s_law_names, defBody s_law_names, defScope s_law_names, [], []⟩

abbrev s_law_name : Stmt := top 26
def N_law_name : List Str := [("_law_pen" : PySem.Str), ("_law_good_here" : PySem.Str), ("_law_bad" : PySem.Str)]
theorem sc_law_name : FnScope N_law_name [("_law_pen" : PySem.Str), ("_law_good_here" : PySem.Str)] (defScope s_law_name) := ⟨rfl, rfl, rfl, by decide +kernel, rfl, by decide +kernel, by decide +kernel⟩
def rd_law_name (sp_law_draw : HSp) (sp_law_pick : HSp) : HTS := (hSeq (hSet 2 (hLst (hCons (hC (.str ("" : PySem.Str))) (hCons (hC (.str ("A" : PySem.Str))) (hCons (hC (.str ("a1" : PySem.Str))) (hCons (hC (.str ("a b" : PySem.Str))) (hCons (hC (.str ("_" : PySem.Str))) (hCons (hC (.str ("bC" : PySem.Str))) (hCons (hop gAdd (hC (.str ("zz" : PySem.Str))) (hop gMulS (hC (.str ("y" : PySem.Str))) (hC (.int 11)))) (hCons (hop gMulS (hC (.str ("a" : PySem.Str))) (hC (.int 13))) (hCons (hC (.str ("-" : PySem.Str))) (hCons (hop gMulS (hC (.str ("b" : PySem.Str))) (hC (.int 14))) hNil))))))))))))
  (hRet (hIf (hB (hop gEq (hCall 2 [] sp_law_draw (hCons (hV 0) (hCons (hC (.int 12)) hNil))) (hC (.int 0)))) (hCall 2 [] sp_law_pick (hCons (hV 0) (hCons (hV 2) hNil))) (hV 1))))
set_option maxHeartbeats 4000000 in
theorem ok_law_name {B : Bs} {k : Nat} {sp_law_draw : HSp} {sp_law_pick : HSp} (c : Fc B.K B.mg) (h_law_draw : HFn B (k + 1) "_law_draw" 2 [] sp_law_draw) (h_law_pick : HFn B (k + 1) "_law_pick" 2 [] sp_law_pick) : HSs ⟨B.P, B.w, B.K, B.mg, B.base, k + 1, N_law_name, defScope s_law_name, true, fun _ => true⟩ (defBody s_law_name) (rd_law_name sp_law_draw sp_law_pick) :=
  (hss (hsetX (hlst (hcons hstr (hcons hstr (hcons hstr (hcons hstr (hcons hstr (hcons hstr (hcons (hadd hstr (hmulS hstr hint)) (hcons (hmulS hstr hint) (hcons hstr (hcons (hmulS hstr hint) hnil))))))))))))
  (hss1 (hret (hife (heqT (hcall (h_law_draw.in_) (Nat.le_refl _) rfl (hcons (hv 0) (hcons hint hnil))) hint) (hcall (h_law_pick.in_) (Nat.le_refl _) rfl (hcons (hv 0) (hcons (hv 2) hnil))) (hv 1)))))
theorem at_law_name {B : Bs} {k : Nat} {f : Addr} {fd : FuncData} {sp_law_draw : HSp} {sp_law_pick : HSp} {sp : HSp} (c : Fc B.K B.mg) (F : FunD B.K "_law_name" "_law_name" (defArgs s_law_name) (defBody s_law_name) (defScope s_law_name) [] [] f fd) (h_law_draw : HFn B (k + 1) "_law_draw" 2 [] sp_law_draw) (h_law_pick : HFn B (k + 1) "_law_pick" 2 [] sp_law_pick)
    (hr : ∀ ds S Q E, ds.length = 2 → sp ds S Q E → rd_law_name sp_law_draw sp_law_pick { nx := fun _ S' => Rt Q .non S', rt := Rt Q, ex := fun x _ S' => Rx E x S' } (startE N_law_name.length ds) S) : FnAt B (k + 2) f 2 [] sp :=
  fnAtD F (bindAll (F.bindsN fun _ _ _ _ _ _ us hl => match us, hl with | [_, _], _ => rfl)) noDds sc_law_name (ok_law_name c h_law_draw h_law_pick) hr
theorem no_law_name {B : Bs} {k : Nat} {f : Addr} {fd : FuncData} {sp : HSp} (F : FunD B.K "_law_name" "_law_name" (defArgs s_law_name) (defBody s_law_name) (defScope s_law_name) [] [] f fd) (h0 : ∀ ds S Q E, sp ds S Q E → False) : FnAt B k f 2 [] sp :=
  fnNone rfl (F.bindsN (ps := [("_law_pen" : PySem.Str), ("_law_good_here" : PySem.Str)]) fun _ _ _ _ _ _ us hl => match us, hl with | [_, _], _ => rfl) h0
def d_law_name : He.DefD := ⟨("_law_name", none), "_law_name", "_law_name", defArgs s_law_name, defBody s_law_name, defScope s_law_name, [], []⟩

abbrev s_law_good : Stmt := top 27
def N_law_good : List Str := [("_law_name_here" : PySem.Str), ("_law_letters" : PySem.Str), ("_law_sign" : PySem.Str)]
theorem sc_law_good : FnScope N_law_good [("_law_name_here" : PySem.Str)] (defScope s_law_good) := ⟨rfl, rfl, rfl, by decide +kernel, rfl, by decide +kernel, by decide +kernel⟩
def rd_law_good : HTS := (hSeq (hSet 1 (hC (.str ("abcdefghijklmnopqrstuvwxyz" : PySem.Str))))
  (hRet (hAndT (hChain gLe gLe (hC (.int 1)) (hcb gLen (hCons (hV 0) hNil)) (hC (.int 12))) (hop gEq (hLc (hiSq (hV 0)) (.nm 2) (hB (hop gNotIn (hV 2) (hV 1))) (hV 2) [2]) (hLst hNil)))))
set_option maxHeartbeats 4000000 in
theorem ok_law_good {B : Bs} {k : Nat} (c : Fc B.K B.mg)  : HSs ⟨B.P, B.w, B.K, B.mg, B.base, k + 1, N_law_good, defScope s_law_good, true, fun _ => true⟩ (defBody s_law_good) (rd_law_good) :=
  (hss (hsetX hstr)
  (hss1 (hret (handT (hchLL hint (hlen rfl c.f_len (hcons (hv 0) hnil)) hint) (hone (heq (hlcX [("_law_sign", 2)] (hisq (hv 0)) (by dsimp only [Bs.blk]; decide +kernel) (by decide) (hnm 2) (hif1 (hnotinT (hv 2) (hv 1))) (hv 2)) (hlst hnil)))))))
theorem at_law_good {B : Bs} {k : Nat} {f : Addr} {fd : FuncData} {sp : HSp} (c : Fc B.K B.mg) (F : FunD B.K "_law_good" "_law_good" (defArgs s_law_good) (defBody s_law_good) (defScope s_law_good) [] [] f fd) 
    (hr : ∀ ds S Q E, ds.length = 1 → sp ds S Q E → rd_law_good { nx := fun _ S' => Rt Q .non S', rt := Rt Q, ex := fun x _ S' => Rx E x S' } (startE N_law_good.length ds) S) : FnAt B (k + 2) f 1 [] sp :=
  fnAtD F (bindAll (F.bindsN fun _ _ _ _ _ _ us hl => match us, hl with | [_], _ => rfl)) noDds sc_law_good (ok_law_good c ) hr
theorem no_law_good {B : Bs} {k : Nat} {f : Addr} {fd : FuncData} {sp : HSp} (F : FunD B.K "_law_good" "_law_good" (defArgs s_law_good) (defBody s_law_good) (defScope s_law_good) [] [] f fd) (h0 : ∀ ds S Q E, sp ds S Q E → False) : FnAt B k f 1 [] sp :=
  fnNone rfl (F.bindsN (ps := [("_law_name_here" : PySem.Str)]) fun _ _ _ _ _ _ us hl => match us, hl with | [_], _ => rfl) h0
def d_law_good : He.DefD := ⟨("_law_good", none), "_law_good", "_law_good", defArgs s_law_good, defBody s_law_good, defScope s_law_good, [], []⟩

abbrev s_law_due : Stmt := top 28
def N_law_due : List Str := [("_law_cells" : PySem.Str), ("_law_rows" : PySem.Str), ("_law_order" : PySem.Str), ("_law_start" : PySem.Str), ("_law_names_here" : PySem.Str), ("_law_at" : PySem.Str)]
theorem sc_law_due : FnScope N_law_due [("_law_cells" : PySem.Str), ("_law_rows" : PySem.Str), ("_law_order" : PySem.Str), ("_law_start" : PySem.Str)] (defScope s_law_due) := ⟨rfl, rfl, rfl, by decide +kernel, rfl, by decide +kernel, by decide +kernel⟩
def rd_law_due (sp_law_good : HSp) : HTS := (hSeq (hIfS (hOr (hB (hop gGt (hcb gLen (hCons (hV 0) hNil)) (hC (.int 3)))) (hOr (hB (hop gGt (hcb gLen (hCons (hV 1) hNil)) (hC (.int 2)))) (hB (hop gGt (hcb gLen (hCons (hV 2) hNil)) (hC (.int 3)))))) (hRet (hTup (hCons (hC (.str ("great" : PySem.Str))) (hCons (hC (.bl true)) (hCons (hC (.bl false)) hNil))))) hNx)
  (hSeq (hSet 4 (hop gAdd (hop gAdd (hV 0) (hV 1)) (hV 2)))
  (hSeq (hFor (hiR1 (hCons (hcb gLen (hCons (hV 4) hNil)) hNil)) (.nm 5) (hIfS (hOr (hNot (hTr (hCall 1 [] sp_law_good (hCons (hop gIx (hV 4) (hV 5)) hNil)))) (hB (hop gIn (hop gIx (hV 4) (hV 5)) (hSl (hV 4) hNoP (hPart (hV 5)))))) (hRet (hTup (hCons (hC (.str ("bad" : PySem.Str))) (hCons (hC .non) (hCons (hC .non) (hCons (hC (.bl true)) (hCons (hC (.bl false)) hNil))))))) hNx))
  (hSeq (hIfS (hB (hop gNotIn (hV 3) (hV 2))) (hRet (hTup (hCons (hC (.str ("bad" : PySem.Str))) (hCons (hC .non) (hCons (hC .non) (hCons (hC (.bl true)) (hCons (hC (.bl false)) hNil))))))) hNx)
  (hRet (hTup (hCons (hC (.str ("made" : PySem.Str))) (hCons (hcb gTuple (hCons (hV 0) hNil)) (hCons (hcb gTuple (hCons (hV 1) hNil)) (hCons (hV 3) hNil))))))))))
set_option maxHeartbeats 4000000 in
theorem ok_law_due {B : Bs} {k : Nat} {sp_law_good : HSp} (c : Fc B.K B.mg) (h_law_good : HFn B (k + 1) "_law_good" 1 [] sp_law_good) : HSs ⟨B.P, B.w, B.K, B.mg, B.base, k + 1, N_law_due, defScope s_law_due, true, fun _ => true⟩ (defBody s_law_due) (rd_law_due sp_law_good) :=
  (hss (hif (hw (hor (hgtT (hlen rfl c.f_len (hcons (hv 0) hnil)) hint) (hor (hgtT (hlen rfl c.f_len (hcons (hv 1) hnil)) hint) (hor1 (hgtT (hlen rfl c.f_len (hcons (hv 2) hnil)) hint))))) (hss1 (hret (htup (hcons hstr (hcons hbl (hcons hbl hnil)))))) hss0)
  (hss (hsetX (hadd (hadd (hv 0) (hv 1)) (hv 2)))
  (hss (hfor (hir1 rfl c.f_range (hcons (hlen rfl c.f_len (hcons (hv 4) hnil)) hnil)) (hnm 5) (hss1 (hif (hw (hor (hnot (htr (hcall (h_law_good.in_) (Nat.le_refl _) rfl (hcons (hix (hv 4) (hv 5)) hnil)))) (hor1 (hinT (hix (hv 4) (hv 5)) (hsl (hv 4) hnop (hpart (hv 5))))))) (hss1 (hret (htup (hcons hstr (hcons hnon (hcons hnon (hcons hbl (hcons hbl hnil)))))))) hss0)))
  (hss (hif (hnotinT (hv 3) (hv 2)) (hss1 (hret (htup (hcons hstr (hcons hnon (hcons hnon (hcons hbl (hcons hbl hnil)))))))) hss0)
  (hss1 (hret (htup (hcons hstr (hcons (htuple rfl c.f_tuple (hcons (hv 0) hnil)) (hcons (htuple rfl c.f_tuple (hcons (hv 1) hnil)) (hcons (hv 3) hnil)))))))))))
theorem at_law_due {B : Bs} {k : Nat} {f : Addr} {fd : FuncData} {sp_law_good : HSp} {sp : HSp} (c : Fc B.K B.mg) (F : FunD B.K "_law_due" "_law_due" (defArgs s_law_due) (defBody s_law_due) (defScope s_law_due) [] [] f fd) (h_law_good : HFn B (k + 1) "_law_good" 1 [] sp_law_good)
    (hr : ∀ ds S Q E, ds.length = 4 → sp ds S Q E → rd_law_due sp_law_good { nx := fun _ S' => Rt Q .non S', rt := Rt Q, ex := fun x _ S' => Rx E x S' } (startE N_law_due.length ds) S) : FnAt B (k + 2) f 4 [] sp :=
  fnAtD F (bindAll (F.bindsN fun _ _ _ _ _ _ us hl => match us, hl with | [_, _, _, _], _ => rfl)) noDds sc_law_due (ok_law_due c h_law_good) hr
theorem no_law_due {B : Bs} {k : Nat} {f : Addr} {fd : FuncData} {sp : HSp} (F : FunD B.K "_law_due" "_law_due" (defArgs s_law_due) (defBody s_law_due) (defScope s_law_due) [] [] f fd) (h0 : ∀ ds S Q E, sp ds S Q E → False) : FnAt B k f 4 [] sp :=
  fnNone rfl (F.bindsN (ps := [("_law_cells" : PySem.Str), ("_law_rows" : PySem.Str), ("_law_order" : PySem.Str), ("_law_start" : PySem.Str)]) fun _ _ _ _ _ _ us hl => match us, hl with | [_, _, _, _], _ => rfl) h0
def d_law_due : He.DefD := ⟨("_law_due", none), "_law_due", "_law_due", defArgs s_law_due, defBody s_law_due, defScope s_law_due, [], []⟩

abbrev s_law_told : Stmt := top 29
def N_law_told : List Str := [("_law_cells" : PySem.Str), ("_law_rows" : PySem.Str), ("_law_functions" : PySem.Str), ("_law_start" : PySem.Str), ("_law_code" : PySem.Str), ("_law_told_here" : PySem.Str), ("e" : PySem.Str)]
theorem sc_law_told : FnScope N_law_told [("_law_cells" : PySem.Str), ("_law_rows" : PySem.Str), ("_law_functions" : PySem.Str), ("_law_start" : PySem.Str)] (defScope s_law_told) := ⟨rfl, rfl, rfl, by decide +kernel, rfl, by decide +kernel, by decide +kernel⟩
def rd_law_told (sp_Code_init : HSp) : HTS := (hSeq (hTry CS (hSeq (hSet 4 (hMake 4 5 [] sp_Code_init (hCons (hV 0) (hCons (hV 1) (hCons (hV 2) (hCons (hV 3) hNil))))))
  (hSet 5 (hTup (hCons (hC (.str ("made" : PySem.Str))) (hCons (hun (gFld ix_cells) (hV 4)) (hCons (hun (gFld ix_rows) (hV 4)) (hCons (hun (gFld ix_start) (hV 4)) hNil))))))) [(35, some 6, uSet 5 (xTup (xCons (xC (.str ("bad" : PySem.Str))) (xCons (xF 35 0) (xCons (xF 35 1) (xCons (xC (.bl true)) (xCons (xC (.bl false)) xNil))))))), (36, some 6, uSet 5 (xTup (xCons (xC (.str ("great" : PySem.Str))) (xCons (xC (.bl true)) (xCons (xC (.bl false)) xNil)))))])
  (hRet (hV 5)))
set_option maxHeartbeats 4000000 in
theorem ok_law_told {B : Bs} {k : Nat} {sp_Code_init : HSp} (c : Fc B.K B.mg) (h_Code_init : HMake B k 4 5 [] sp_Code_init) : HSs ⟨B.P, B.w, B.K, B.mg, B.base, k + 1, N_law_told, defScope s_law_told, true, fun _ => true⟩ (defBody s_law_told) (rd_law_told sp_Code_init) :=
  (hss (htry rfl (hss (hsetX (hmake (h_Code_init.in_) (Nat.le_refl _) rfl (hcons (hv 0) (hcons (hv 1) (hcons (hv 2) (hcons (hv 3) hnil))))))
  (hss1 (hsetX (htup (hcons hstr (hcons (hfld c.a_cells (hv 4)) (hcons (hfld c.a_rows (hv 4)) (hcons (hfld c.a_start (hv 4)) hnil)))))))) (.as_ rfl c.n_BadCode rfl (by decide) c.m_BadCode rfl rfl (huset 5 (hxtup (hxcons hxstr (hxcons (hxf 6 0 c.x_BadCode rfl) (hxcons (hxf 6 1 c.x_BadCode rfl) (hxcons (hxisi c.x_BadCode c.t_BadCode_TryError rfl c.f_isinstance rfl c.n_TryError) (hxcons (hxisi c.x_BadCode c.t_BadCode_TooGreat rfl c.f_isinstance rfl c.n_TooGreat) hxnil))))))) (.as_ rfl c.n_TooGreat rfl (by decide) c.m_TooGreat rfl rfl (huset 5 (hxtup (hxcons hxstr (hxcons (hxisiB c.x_TooGreat c.tb_TooGreat_ValueError rfl c.f_isinstance rfl c.f_ValueError (by rfl)) (hxcons (hxisi c.x_TooGreat c.t_TooGreat_BadCode rfl c.f_isinstance rfl c.n_BadCode) hxnil))))) .nil)))
  (hss1 (hret (hv 5))))
theorem at_law_told {B : Bs} {k : Nat} {f : Addr} {fd : FuncData} {sp_Code_init : HSp} {sp : HSp} (c : Fc B.K B.mg) (F : FunD B.K "_law_told" "_law_told" (defArgs s_law_told) (defBody s_law_told) (defScope s_law_told) [] [] f fd) (h_Code_init : HMake B k 4 5 [] sp_Code_init)
    (hr : ∀ ds S Q E, ds.length = 4 → sp ds S Q E → rd_law_told sp_Code_init { nx := fun _ S' => Rt Q .non S', rt := Rt Q, ex := fun x _ S' => Rx E x S' } (startE N_law_told.length ds) S) : FnAt B (k + 2) f 4 [] sp :=
  fnAtD F (bindAll (F.bindsN fun _ _ _ _ _ _ us hl => match us, hl with | [_, _, _, _], _ => rfl)) noDds sc_law_told (ok_law_told c h_Code_init) hr
theorem no_law_told {B : Bs} {k : Nat} {f : Addr} {fd : FuncData} {sp : HSp} (F : FunD B.K "_law_told" "_law_told" (defArgs s_law_told) (defBody s_law_told) (defScope s_law_told) [] [] f fd) (h0 : ∀ ds S Q E, sp ds S Q E → False) : FnAt B k f 4 [] sp :=
  fnNone rfl (F.bindsN (ps := [("_law_cells" : PySem.Str), ("_law_rows" : PySem.Str), ("_law_functions" : PySem.Str), ("_law_start" : PySem.Str)]) fun _ _ _ _ _ _ us hl => match us, hl with | [_, _, _, _], _ => rfl) h0
def d_law_told : He.DefD := ⟨("_law_told", none), "_law_told", "_law_told", defArgs s_law_told, defBody s_law_told, defScope s_law_told, [], []⟩

abbrev s_law : Stmt := top 30
def N_law : List Str := [("_law_script" : PySem.Str), ("_law_pen" : PySem.Str), ("_law_turn" : PySem.Str), ("_law_counts" : PySem.Str), ("_law_name_here" : PySem.Str), ("_law_names_here" : PySem.Str), ("_law_cells" : PySem.Str), ("_law_rest" : PySem.Str), ("_law_rows" : PySem.Str), ("_law_order" : PySem.Str), ("_law_start" : PySem.Str), ("_law_body" : PySem.Str), ("_law_functions" : PySem.Str)]
theorem sc_law : FnScope N_law [("_law_script" : PySem.Str)] (defScope s_law) := ⟨rfl, rfl, rfl, by decide +kernel, rfl, by decide +kernel, by decide +kernel⟩
def rd_law (sp_law_draw : HSp) (sp_law_names : HSp) (sp_law_name : HSp) (sp_law_pick : HSp) (sp_Function_init : HSp) (sp_law_told : HSp) (sp_law_due : HSp) : HTS := (hSeq (hSet 1 (hLstM (hCons (hOrT (hcb gListM (hCons (hV 0) hNil)) (hLstM (hCons (hC (.int 0)) hNil))) (hCons (hC (.int 0)) hNil))))
  (hSeq (hFor (hiR1 (hCons (hC (.int 6)) hNil)) (.nm 2) (hSeq (hSet 3 (hLst (hCons (hCall 2 [] sp_law_draw (hCons (hV 1) (hCons (hC (.int 4)) hNil))) (hCons (hCall 2 [] sp_law_draw (hCons (hV 1) (hCons (hC (.int 3)) hNil))) (hCons (hop gAdd (hC (.int 1)) (hCall 2 [] sp_law_draw (hCons (hV 1) (hCons (hC (.int 3)) hNil)))) hNil)))))
  (hSeq (hIfS (hB (hop gEq (hCall 2 [] sp_law_draw (hCons (hV 1) (hCons (hC (.int 3)) hNil))) (hC (.int 0)))) (hSet 3 (hLst (hCons (hCall 2 [] sp_law_draw (hCons (hV 1) (hCons (hC (.int 5)) hNil))) (hCons (hCall 2 [] sp_law_draw (hCons (hV 1) (hCons (hC (.int 4)) hNil))) (hCons (hCall 2 [] sp_law_draw (hCons (hV 1) (hCons (hC (.int 5)) hNil))) hNil))))) hNx)
  (hSeq (hSet 5 (hLcM (hiSq (hCall 2 [] sp_law_names (hCons (hV 1) (hCons (hcb gSum (hCons (hV 3) hNil)) hNil)))) (.nm 4) hYes (hCall 2 [] sp_law_name (hCons (hV 1) (hCons (hV 4) hNil))) [4]))
  (hSeq (hIfS (hAnd (hB (hop gGt (hcb gLen (hCons (hV 5) hNil)) (hC (.int 1)))) (hB (hop gEq (hCall 2 [] sp_law_draw (hCons (hV 1) (hCons (hC (.int 4)) hNil))) (hC (.int 0))))) (hSetI (hV 5) (hCall 2 [] sp_law_draw (hCons (hV 1) (hCons (hcb gLen (hCons (hV 5) hNil)) hNil))) (hCall 2 [] sp_law_pick (hCons (hV 1) (hCons (hV 5) hNil)))) hNx)
  (hSeq (hPar 6 7 (hCons (hSl (hV 5) hNoP (hPart (hop gIx (hV 3) (hC (.int 0))))) (hCons (hSl (hV 5) (hPart (hop gIx (hV 3) (hC (.int 0)))) hNoP) hNil)))
  (hSeq (hPar 8 9 (hCons (hSl (hV 7) hNoP (hPart (hop gIx (hV 3) (hC (.int 1))))) (hCons (hSl (hV 7) (hPart (hop gIx (hV 3) (hC (.int 1)))) hNoP) hNil)))
  (hSeq (hSet 10 (hIf (hB (hop gEq (hCall 2 [] sp_law_draw (hCons (hV 1) (hCons (hC (.int 3)) hNil))) (hC (.int 0)))) (hCall 2 [] sp_law_pick (hCons (hV 1) (hCons (hop gAdd (hV 9) (hLst (hCons (hC (.str ("ab" : PySem.Str))) hNil))) hNil))) (hop gIx (hop gAdd (hV 9) (hLst (hCons (hC (.str ("ab" : PySem.Str))) hNil))) (hC (.int 0)))))
  (hSeq (hSet 11 (hIf (hB (hop gEq (hCall 2 [] sp_law_draw (hCons (hV 1) (hCons (hC (.int 2)) hNil))) (hC (.int 0)))) (hLst (hCons (hTup (hCons (hC (.str ("fault" : PySem.Str))) hNil)) hNil)) (hTup hNil)))
  (hSeq (hSet 12 (hLc (hiSq (hV 9)) (.nm 4) hYes (hMake 3 3 [] sp_Function_init (hCons (hV 4) (hCons (hV 11) hNil))) [4]))
  (hIfS (hB (hop gNe (hCall 4 [] sp_law_told (hCons (hcb gList (hCons (hV 6) hNil)) (hCons (hcb gList (hCons (hV 8) hNil)) (hCons (hV 12) (hCons (hV 10) hNil))))) (hCall 4 [] sp_law_due (hCons (hV 6) (hCons (hV 8) (hCons (hV 9) (hCons (hV 10) hNil))))))) (hRet (hC (.bl false))) hNx)))))))))))
  (hRet (hC (.bl true)))))
set_option maxHeartbeats 4000000 in
theorem ok_law {B : Bs} {k : Nat} {sp_law_draw : HSp} {sp_law_names : HSp} {sp_law_name : HSp} {sp_law_pick : HSp} {sp_Function_init : HSp} {sp_law_told : HSp} {sp_law_due : HSp} (c : Fc B.K B.mg) (h_law_draw : HFn B (k + 1) "_law_draw" 2 [] sp_law_draw) (h_law_names : HFn B (k + 1) "_law_names" 2 [] sp_law_names) (h_law_name : HFn B (k + 1) "_law_name" 2 [] sp_law_name) (h_law_pick : HFn B (k + 1) "_law_pick" 2 [] sp_law_pick) (h_Function_init : HMake B k 3 3 [] sp_Function_init) (h_law_told : HFn B (k + 1) "_law_told" 4 [] sp_law_told) (h_law_due : HFn B (k + 1) "_law_due" 4 [] sp_law_due) : HSs ⟨B.P, B.w, B.K, B.mg, B.base, k + 1, N_law, defScope s_law, true, fun _ => true⟩ (defBody s_law) (rd_law sp_law_draw sp_law_names sp_law_name sp_law_pick sp_Function_init sp_law_told sp_law_due) :=
  (hss (hsetX (hlstM (hcons (horT (hlistM rfl c.f_list (hcons (hv 0) hnil)) (hone (hlstM (hcons hint hnil)))) (hcons hint hnil))))
  (hss (hfor (hir1 rfl c.f_range (hcons hint hnil)) (hnm 2) (hss (hsetX (hlst (hcons (hcall (h_law_draw.in_) (Nat.le_refl _) rfl (hcons (hv 1) (hcons hint hnil))) (hcons (hcall (h_law_draw.in_) (Nat.le_refl _) rfl (hcons (hv 1) (hcons hint hnil))) (hcons (hadd hint (hcall (h_law_draw.in_) (Nat.le_refl _) rfl (hcons (hv 1) (hcons hint hnil)))) hnil)))))
  (hss (hif (heqT (hcall (h_law_draw.in_) (Nat.le_refl _) rfl (hcons (hv 1) (hcons hint hnil))) hint) (hss1 (hsetX (hlst (hcons (hcall (h_law_draw.in_) (Nat.le_refl _) rfl (hcons (hv 1) (hcons hint hnil))) (hcons (hcall (h_law_draw.in_) (Nat.le_refl _) rfl (hcons (hv 1) (hcons hint hnil))) (hcons (hcall (h_law_draw.in_) (Nat.le_refl _) rfl (hcons (hv 1) (hcons hint hnil))) hnil)))))) hss0)
  (hss (hsetlcMX [("_law_name_here", 4)] (hisq (hcall (h_law_names.in_) (Nat.le_refl _) rfl (hcons (hv 1) (hcons (hsum rfl c.f_sum (hcons (hv 3) hnil)) hnil)))) (by dsimp only [Bs.blk]; decide +kernel) (by decide) (hnm 4) hif0 (hcall (h_law_name.in_) (Nat.le_refl _) rfl (hcons (hv 1) (hcons (hv 4) hnil))))
  (hss (hif (hw (hand (hgtT (hlen rfl c.f_len (hcons (hv 5) hnil)) hint) (hand1 (heqT (hcall (h_law_draw.in_) (Nat.le_refl _) rfl (hcons (hv 1) (hcons hint hnil))) hint)))) (hss1 (hseti (hv 5) (hcall (h_law_draw.in_) (Nat.le_refl _) rfl (hcons (hv 1) (hcons (hlen rfl c.f_len (hcons (hv 5) hnil)) hnil))) (hcall (h_law_pick.in_) (Nat.le_refl _) rfl (hcons (hv 1) (hcons (hv 5) hnil))))) hss0)
  (hss (hpar (hcons (hsl (hv 5) hnop (hpart (hix (hv 3) hint))) (hcons (hsl (hv 5) (hpart (hix (hv 3) hint)) hnop) hnil)))
  (hss (hpar (hcons (hsl (hv 7) hnop (hpart (hix (hv 3) hint))) (hcons (hsl (hv 7) (hpart (hix (hv 3) hint)) hnop) hnil)))
  (hss (hsetX (hife (heqT (hcall (h_law_draw.in_) (Nat.le_refl _) rfl (hcons (hv 1) (hcons hint hnil))) hint) (hcall (h_law_pick.in_) (Nat.le_refl _) rfl (hcons (hv 1) (hcons (hadd (hv 9) (hlst (hcons hstr hnil))) hnil))) (hix (hadd (hv 9) (hlst (hcons hstr hnil))) hint)))
  (hss (hsetX (hife (heqT (hcall (h_law_draw.in_) (Nat.le_refl _) rfl (hcons (hv 1) (hcons hint hnil))) hint) (hlst (hcons (htup (hcons hstr hnil)) hnil)) (htup hnil)))
  (hss (hsetlcX [("_law_name_here", 4)] (hisq (hv 9)) (by dsimp only [Bs.blk]; decide +kernel) (by decide) (hnm 4) hif0 (hmake (h_Function_init.in_) (Nat.le_refl _) rfl (hcons (hv 4) (hcons (hv 11) hnil))))
  (hss1 (hif (hneT (hcall (h_law_told.in_) (Nat.le_refl _) rfl (hcons (hlist rfl c.f_list (hcons (hv 6) hnil)) (hcons (hlist rfl c.f_list (hcons (hv 8) hnil)) (hcons (hv 12) (hcons (hv 10) hnil))))) (hcall (h_law_due.in_) (Nat.le_refl _) rfl (hcons (hv 6) (hcons (hv 8) (hcons (hv 9) (hcons (hv 10) hnil)))))) (hss1 (hret hbl)) hss0))))))))))))
  (hss1 (hret hbl))))
theorem at_law {B : Bs} {k : Nat} {f : Addr} {fd : FuncData} {sp_law_draw : HSp} {sp_law_names : HSp} {sp_law_name : HSp} {sp_law_pick : HSp} {sp_Function_init : HSp} {sp_law_told : HSp} {sp_law_due : HSp} (c : Fc B.K B.mg) (F : FunD B.K "law" "law" (defArgs s_law) (defBody s_law) (defScope s_law) [] [] f fd) (h_law_draw : HFn B (k + 1) "_law_draw" 2 [] sp_law_draw) (h_law_names : HFn B (k + 1) "_law_names" 2 [] sp_law_names) (h_law_name : HFn B (k + 1) "_law_name" 2 [] sp_law_name) (h_law_pick : HFn B (k + 1) "_law_pick" 2 [] sp_law_pick) (h_Function_init : HMake B k 3 3 [] sp_Function_init) (h_law_told : HFn B (k + 1) "_law_told" 4 [] sp_law_told) (h_law_due : HFn B (k + 1) "_law_due" 4 [] sp_law_due)
    (hr : ∀ ds S Q E, ds.length = 1 → spLaw ds S Q E → rd_law sp_law_draw sp_law_names sp_law_name sp_law_pick sp_Function_init sp_law_told sp_law_due { nx := fun _ S' => Rt Q .non S', rt := Rt Q, ex := fun x _ S' => Rx E x S' } (startE N_law.length ds) S) : FnOk B.P B.w B.K B.mg B.base (CX B.P B.w) (k + 2) f fd [("_law_script" : PySem.Str)] (lSp B.K 1 spLaw) :=
  fnOkD F sc_law (ok_law c h_law_draw h_law_names h_law_name h_law_pick h_Function_init h_law_told h_law_due) hr
def d_law : He.DefD := ⟨("law", none), "law", "law", defArgs s_law, defBody s_law, defScope s_law, [], []⟩

def book : Book := ⟨[.free "ValueError", .free "all", .free "enumerate", .free "int", .free "isinstance", .free "len", .free "list", .free "range", .free "sum", .free "tuple", .glo "ALONE", .int "BLOCKS" 3, .glo "CELL_DEEDS", .str "LETTERS" "abcdefghijklmnopqrstuvwxyz", .glo "ROW_DEEDS", .int "STATEMENTS" 14, .glo "TWO_PARTS", .glo "BadCode", .glo "Checker", .glo "Code", .glo "Function", .glo "TooGreat", .glo "TryError", .cls "Function", .cls "Code", .cls "Checker", .noat "Function" "body", .noat "Code" "cells", .noat "Checker" "code", .noat "Checker" "function", .noat "Code" "functions", .noat "Function" "many", .noat "Function" "name", .noat "Checker" "number", .noat "Code" "rows", .noat "Code" "start", .meth "BadCode" "__init__", .meth "TooGreat" "__init__", .meth "Function" "__eq__", .meth "Code" "__eq__", .meth "Checker" "part", .meth "Checker" "fits", .meth "Checker" "choices", .mkr "Function", .mkr "Code", .mkr "Checker", .glo "word_of", .glo "parts_of", .glo "tidy", .glo "count", .glo "is_name", .glo "_law_draw", .glo "_law_pick", .glo "_law_word", .glo "_law_names", .glo "_law_name", .glo "_law_good", .glo "_law_due", .glo "_law_told", .glo "law"], [d_word_of, d_parts_of, d_tidy, d_count, d_is_name, d_Function_init, d_Function_eq, d_Code_init, d_Code_eq, d_Checker_init, d_Checker_part, d_Checker_fits, d_Checker_choices, d_law_draw, d_law_pick, d_law_word, d_law_names, d_law_name, d_law_good, d_law_due, d_law_told, d_law, d_BadCode_init, d_TooGreat_init], [prTupS "ALONE" [("fault" : PySem.Str), ("may" : PySem.Str), ("again" : PySem.Str), ("out" : PySem.Str)], prTupS "CELL_DEEDS" [("put" : PySem.Str), ("blank" : PySem.Str), ("give" : PySem.Str)], prTupS "ROW_DEEDS" [("push" : PySem.Str), ("pop" : PySem.Str), ("cut" : PySem.Str)], prTupS "TWO_PARTS" [("either" : PySem.Str), ("told" : PySem.Str), ("guard" : PySem.Str), ("lastly" : PySem.Str)], prIns (cname 3), prIsi 3 [3], prIns (cname 4), prIsi 4 [4], prExc 35, prExc 36, prBase 34, prExm 35 [35, 36], prExm 36 [35, 36], prKitB 36 "ValueError" true, prKit 35 36 false, prKit 35 34 true, prKit 36 35 false]⟩
theorem fc_of {K : PySem.W.Frag} {h : Heap} {mg : Str → Option Value} (X : K.In h) (G : h.Ns mainGlobals mg) (s : book.seen K = book.due) : Fc K mg where
  f_ValueError := He.free_ok X G (Book.fact s 0)
  f_all := He.free_ok X G (Book.fact s 1)
  f_enumerate := He.free_ok X G (Book.fact s 2)
  f_int := He.free_ok X G (Book.fact s 3)
  f_isinstance := He.free_ok X G (Book.fact s 4)
  f_len := He.free_ok X G (Book.fact s 5)
  f_list := He.free_ok X G (Book.fact s 6)
  f_range := He.free_ok X G (Book.fact s 7)
  f_sum := He.free_ok X G (Book.fact s 8)
  f_tuple := He.free_ok X G (Book.fact s 9)
  g_ALONE := He.glo_ok X G (Book.fact s 10)
  t_ALONE := prTupS_ok (x := "ALONE") (ss := [("fault" : PySem.Str), ("may" : PySem.Str), ("again" : PySem.Str), ("out" : PySem.Str)]) (by decide) (Book.more s 0)
  g_BLOCKS := He.int_ok X G (Book.fact s 11)
  g_CELL_DEEDS := He.glo_ok X G (Book.fact s 12)
  t_CELL_DEEDS := prTupS_ok (x := "CELL_DEEDS") (ss := [("put" : PySem.Str), ("blank" : PySem.Str), ("give" : PySem.Str)]) (by decide) (Book.more s 1)
  g_LETTERS := He.str_ok X G (Book.fact s 13)
  g_ROW_DEEDS := He.glo_ok X G (Book.fact s 14)
  t_ROW_DEEDS := prTupS_ok (x := "ROW_DEEDS") (ss := [("push" : PySem.Str), ("pop" : PySem.Str), ("cut" : PySem.Str)]) (by decide) (Book.more s 2)
  g_STATEMENTS := He.int_ok X G (Book.fact s 15)
  g_TWO_PARTS := He.glo_ok X G (Book.fact s 16)
  t_TWO_PARTS := prTupS_ok (x := "TWO_PARTS") (ss := [("either" : PySem.Str), ("told" : PySem.Str), ("guard" : PySem.Str), ("lastly" : PySem.Str)]) (by decide) (Book.more s 3)
  n_BadCode := He.glo_ok X G (Book.fact s 17)
  n_Checker := He.glo_ok X G (Book.fact s 18)
  n_Code := He.glo_ok X G (Book.fact s 19)
  n_Function := He.glo_ok X G (Book.fact s 20)
  n_TooGreat := He.glo_ok X G (Book.fact s 21)
  n_TryError := He.glo_ok X G (Book.fact s 22)
  k_Function := He.cls_ok (Book.fact s 23)
  k_Code := He.cls_ok (Book.fact s 24)
  k_Checker := He.cls_ok (Book.fact s 25)
  a_body := ⟨fun c i h => by
      unfold ix_body at h
      split at h
      · cases h; exact ⟨He.cls_ok (Book.fact s 23), He.noat_ok (Book.fact s 26), rfl, by decide +kernel, by decide +kernel⟩
      · cases h⟩
  a_cells := ⟨fun c i h => by
      unfold ix_cells at h
      split at h
      · cases h; exact ⟨He.cls_ok (Book.fact s 24), He.noat_ok (Book.fact s 27), rfl, by decide +kernel, by decide +kernel⟩
      · cases h⟩
  a_code := ⟨fun c i h => by
      unfold ix_code at h
      split at h
      · cases h; exact ⟨He.cls_ok (Book.fact s 25), He.noat_ok (Book.fact s 28), rfl, by decide +kernel, by decide +kernel⟩
      · cases h⟩
  a_function := ⟨fun c i h => by
      unfold ix_function at h
      split at h
      · cases h; exact ⟨He.cls_ok (Book.fact s 25), He.noat_ok (Book.fact s 29), rfl, by decide +kernel, by decide +kernel⟩
      · cases h⟩
  a_functions := ⟨fun c i h => by
      unfold ix_functions at h
      split at h
      · cases h; exact ⟨He.cls_ok (Book.fact s 24), He.noat_ok (Book.fact s 30), rfl, by decide +kernel, by decide +kernel⟩
      · cases h⟩
  a_many := ⟨fun c i h => by
      unfold ix_many at h
      split at h
      · cases h; exact ⟨He.cls_ok (Book.fact s 23), He.noat_ok (Book.fact s 31), rfl, by decide +kernel, by decide +kernel⟩
      · cases h⟩
  a_name := ⟨fun c i h => by
      unfold ix_name at h
      split at h
      · cases h; exact ⟨He.cls_ok (Book.fact s 23), He.noat_ok (Book.fact s 32), rfl, by decide +kernel, by decide +kernel⟩
      · cases h⟩
  a_number := ⟨fun c i h => by
      unfold ix_number at h
      split at h
      · cases h; exact ⟨He.cls_ok (Book.fact s 25), He.noat_ok (Book.fact s 33), rfl, by decide +kernel, by decide +kernel⟩
      · cases h⟩
  a_rows := ⟨fun c i h => by
      unfold ix_rows at h
      split at h
      · cases h; exact ⟨He.cls_ok (Book.fact s 24), He.noat_ok (Book.fact s 34), rfl, by decide +kernel, by decide +kernel⟩
      · cases h⟩
  a_start := ⟨fun c i h => by
      unfold ix_start at h
      split at h
      · cases h; exact ⟨He.cls_ok (Book.fact s 24), He.noat_ok (Book.fact s 35), rfl, by decide +kernel, by decide +kernel⟩
      · cases h⟩
  i_Function := prIsi_ok (Book.more s 5) fun c' hc => by
      simp only [List.mem_cons, List.not_mem_nil, or_false] at hc
      rcases hc with rfl
      · exact prIns_ok (Book.more s 4) (He.cls_ok (Book.fact s 23))

  i_Code := prIsi_ok (Book.more s 7) fun c' hc => by
      simp only [List.mem_cons, List.not_mem_nil, or_false] at hc
      rcases hc with rfl
      · exact prIns_ok (Book.more s 6) (He.cls_ok (Book.fact s 24))

  x_BadCode := prExc_ok (Book.more s 8) (by decide) (by decide)
  x_TooGreat := prExc_ok (Book.more s 9) (by decide) (by decide)
  b_TryError := prBase_ok (Book.more s 10)
  m_BadCode := prExm_ok (Book.more s 11)
  m_TooGreat := prExm_ok (Book.more s 12)
  tb_TooGreat_ValueError := prKitB_ok (Book.more s 13)
  t_BadCode_TooGreat := prKit_ok (Book.more s 14)
  t_BadCode_TryError := prKit_ok (Book.more s 15)
  t_TooGreat_BadCode := prKit_ok (Book.more s 16)
theorem fd_word_of {K : PySem.W.Frag} (s : book.seen K = book.due) : ∃ fd, FunD K "word_of" "word_of" (defArgs s_word_of) (defBody s_word_of) (defScope s_word_of) (d_word_of.dvs K) [] (He.fAd K ("word_of", none)) fd := Book.def_ s 0 (d := d_word_of) rfl
theorem fd_parts_of {K : PySem.W.Frag} (s : book.seen K = book.due) : ∃ fd, FunD K "parts_of" "parts_of" (defArgs s_parts_of) (defBody s_parts_of) (defScope s_parts_of) (d_parts_of.dvs K) [] (He.fAd K ("parts_of", none)) fd := Book.def_ s 1 (d := d_parts_of) rfl
theorem fd_tidy {K : PySem.W.Frag} (s : book.seen K = book.due) : ∃ fd, FunD K "tidy" "tidy" (defArgs s_tidy) (defBody s_tidy) (defScope s_tidy) (d_tidy.dvs K) [] (He.fAd K ("tidy", none)) fd := Book.def_ s 2 (d := d_tidy) rfl
theorem fd_count {K : PySem.W.Frag} (s : book.seen K = book.due) : ∃ fd, FunD K "count" "count" (defArgs s_count) (defBody s_count) (defScope s_count) (d_count.dvs K) [] (He.fAd K ("count", none)) fd := Book.def_ s 3 (d := d_count) rfl
theorem fd_is_name {K : PySem.W.Frag} (s : book.seen K = book.due) : ∃ fd, FunD K "is_name" "is_name" (defArgs s_is_name) (defBody s_is_name) (defScope s_is_name) (d_is_name.dvs K) [] (He.fAd K ("is_name", none)) fd := Book.def_ s 4 (d := d_is_name) rfl
theorem fd_Function_init {K : PySem.W.Frag} (s : book.seen K = book.due) : ∃ fd, FunD K "__init__" "Function.__init__" (defArgs s_Function_init) (defBody s_Function_init) (defScope s_Function_init) (d_Function_init.dvs K) [] (He.fAd K ("Function", some "__init__")) fd := Book.def_ s 5 (d := d_Function_init) rfl
theorem fd_Function_eq {K : PySem.W.Frag} (s : book.seen K = book.due) : ∃ fd, FunD K "__eq__" "Function.__eq__" (defArgs s_Function_eq) (defBody s_Function_eq) (defScope s_Function_eq) (d_Function_eq.dvs K) [] (He.fAd K ("Function", some "__eq__")) fd := Book.def_ s 6 (d := d_Function_eq) rfl
theorem fd_Code_init {K : PySem.W.Frag} (s : book.seen K = book.due) : ∃ fd, FunD K "__init__" "Code.__init__" (defArgs s_Code_init) (defBody s_Code_init) (defScope s_Code_init) (d_Code_init.dvs K) [] (He.fAd K ("Code", some "__init__")) fd := Book.def_ s 7 (d := d_Code_init) rfl
theorem fd_Code_eq {K : PySem.W.Frag} (s : book.seen K = book.due) : ∃ fd, FunD K "__eq__" "Code.__eq__" (defArgs s_Code_eq) (defBody s_Code_eq) (defScope s_Code_eq) (d_Code_eq.dvs K) [] (He.fAd K ("Code", some "__eq__")) fd := Book.def_ s 8 (d := d_Code_eq) rfl
theorem fd_Checker_init {K : PySem.W.Frag} (s : book.seen K = book.due) : ∃ fd, FunD K "__init__" "Checker.__init__" (defArgs s_Checker_init) (defBody s_Checker_init) (defScope s_Checker_init) (d_Checker_init.dvs K) [] (He.fAd K ("Checker", some "__init__")) fd := Book.def_ s 9 (d := d_Checker_init) rfl
theorem fd_Checker_part {K : PySem.W.Frag} (s : book.seen K = book.due) : ∃ fd, FunD K "part" "Checker.part" (defArgs s_Checker_part) (defBody s_Checker_part) (defScope s_Checker_part) (d_Checker_part.dvs K) [] (He.fAd K ("Checker", some "part")) fd := Book.def_ s 10 (d := d_Checker_part) rfl
theorem fd_Checker_fits {K : PySem.W.Frag} (s : book.seen K = book.due) : ∃ fd, FunD K "fits" "Checker.fits" (defArgs s_Checker_fits) (defBody s_Checker_fits) (defScope s_Checker_fits) (d_Checker_fits.dvs K) [] (He.fAd K ("Checker", some "fits")) fd := Book.def_ s 11 (d := d_Checker_fits) rfl
theorem fd_Checker_choices {K : PySem.W.Frag} (s : book.seen K = book.due) : ∃ fd, FunD K "choices" "Checker.choices" (defArgs s_Checker_choices) (defBody s_Checker_choices) (defScope s_Checker_choices) (d_Checker_choices.dvs K) [] (He.fAd K ("Checker", some "choices")) fd := Book.def_ s 12 (d := d_Checker_choices) rfl
theorem fd_law_draw {K : PySem.W.Frag} (s : book.seen K = book.due) : ∃ fd, FunD K "_law_draw" "_law_draw" (defArgs s_law_draw) (defBody s_law_draw) (defScope s_law_draw) (d_law_draw.dvs K) [] (He.fAd K ("_law_draw", none)) fd := Book.def_ s 13 (d := d_law_draw) rfl
theorem fd_law_pick {K : PySem.W.Frag} (s : book.seen K = book.due) : ∃ fd, FunD K "_law_pick" "_law_pick" (defArgs s_law_pick) (defBody s_law_pick) (defScope s_law_pick) (d_law_pick.dvs K) [] (He.fAd K ("_law_pick", none)) fd := Book.def_ s 14 (d := d_law_pick) rfl
theorem fd_law_word {K : PySem.W.Frag} (s : book.seen K = book.due) : ∃ fd, FunD K "_law_word" "_law_word" (defArgs s_law_word) (defBody s_law_word) (defScope s_law_word) (d_law_word.dvs K) [] (He.fAd K ("_law_word", none)) fd := Book.def_ s 15 (d := d_law_word) rfl
theorem fd_law_names {K : PySem.W.Frag} (s : book.seen K = book.due) : ∃ fd, FunD K "_law_names" "_law_names" (defArgs s_law_names) (defBody s_law_names) (defScope s_law_names) (d_law_names.dvs K) [] (He.fAd K ("_law_names", none)) fd := Book.def_ s 16 (d := d_law_names) rfl
theorem fd_law_name {K : PySem.W.Frag} (s : book.seen K = book.due) : ∃ fd, FunD K "_law_name" "_law_name" (defArgs s_law_name) (defBody s_law_name) (defScope s_law_name) (d_law_name.dvs K) [] (He.fAd K ("_law_name", none)) fd := Book.def_ s 17 (d := d_law_name) rfl
theorem fd_law_good {K : PySem.W.Frag} (s : book.seen K = book.due) : ∃ fd, FunD K "_law_good" "_law_good" (defArgs s_law_good) (defBody s_law_good) (defScope s_law_good) (d_law_good.dvs K) [] (He.fAd K ("_law_good", none)) fd := Book.def_ s 18 (d := d_law_good) rfl
theorem fd_law_due {K : PySem.W.Frag} (s : book.seen K = book.due) : ∃ fd, FunD K "_law_due" "_law_due" (defArgs s_law_due) (defBody s_law_due) (defScope s_law_due) (d_law_due.dvs K) [] (He.fAd K ("_law_due", none)) fd := Book.def_ s 19 (d := d_law_due) rfl
theorem fd_law_told {K : PySem.W.Frag} (s : book.seen K = book.due) : ∃ fd, FunD K "_law_told" "_law_told" (defArgs s_law_told) (defBody s_law_told) (defScope s_law_told) (d_law_told.dvs K) [] (He.fAd K ("_law_told", none)) fd := Book.def_ s 20 (d := d_law_told) rfl
theorem fd_law {K : PySem.W.Frag} (s : book.seen K = book.due) : ∃ fd, FunD K "law" "law" (defArgs s_law) (defBody s_law) (defScope s_law) (d_law.dvs K) [] (He.fAd K ("law", none)) fd := Book.def_ s 21 (d := d_law) rfl
theorem px_BadCode {B : Bs} {h : Heap} (X : B.K.In h) (G : h.Ns mainGlobals B.mg) (s : book.seen B.K = book.due) : HExc B 1 35 := by
  obtain ⟨fd, F⟩ : ∃ fd, FunD B.K "__init__" "BadCode.__init__" (defArgs s_BadCode_init) (defBody s_BadCode_init) (defScope s_BadCode_init) (d_BadCode_init.dvs B.K) [] (He.fAd B.K ("BadCode", some "__init__")) fd := Book.def_ s 22 (d := d_BadCode_init) rfl
  exact hexc_of (fc_of X G s).x_BadCode (fc_of X G s).n_BadCode (He.meth_ok (x := "BadCode") (m := "__init__") (Book.fact s 36 rfl)) (xb_BadCode_init F) (xk_BadCode_init (k := 0) (fc_of X G s) F)
theorem px_TooGreat {B : Bs} {h : Heap} (X : B.K.In h) (G : h.Ns mainGlobals B.mg) (s : book.seen B.K = book.due) : HExc B 1 36 := by
  obtain ⟨fd, F⟩ : ∃ fd, FunD B.K "__init__" "TooGreat.__init__" (defArgs s_TooGreat_init) (defBody s_TooGreat_init) (defScope s_TooGreat_init) (d_TooGreat_init.dvs B.K) [] (He.fAd B.K ("TooGreat", some "__init__")) fd := Book.def_ s 23 (d := d_TooGreat_init) rfl
  exact hexc_of (fc_of X G s).x_TooGreat (fc_of X G s).n_TooGreat (He.meth_ok (x := "TooGreat") (m := "__init__") (Book.fact s 37 rfl)) (xb_TooGreat_init F) (xk_TooGreat_init (k := 0) (fc_of X G s) F)
theorem me_Function_eq {K : PySem.W.Frag} (s : book.seen K = book.due) : Meth K (cad K 3) "__eq__" (He.fAd K ("Function", some "__eq__")) := He.meth_ok (x := "Function") (m := "__eq__") (Book.fact s 38 rfl)
theorem me_Code_eq {K : PySem.W.Frag} (s : book.seen K = book.due) : Meth K (cad K 4) "__eq__" (He.fAd K ("Code", some "__eq__")) := He.meth_ok (x := "Code") (m := "__eq__") (Book.fact s 39 rfl)
theorem me_Checker_part {K : PySem.W.Frag} (s : book.seen K = book.due) : Meth K (cad K 5) "part" (He.fAd K ("Checker", some "part")) := He.meth_ok (x := "Checker") (m := "part") (Book.fact s 40 rfl)
theorem me_Checker_fits {K : PySem.W.Frag} (s : book.seen K = book.due) : Meth K (cad K 5) "fits" (He.fAd K ("Checker", some "fits")) := He.meth_ok (x := "Checker") (m := "fits") (Book.fact s 41 rfl)
theorem me_Checker_choices {K : PySem.W.Frag} (s : book.seen K = book.due) : Meth K (cad K 5) "choices" (He.fAd K ("Checker", some "choices")) := He.meth_ok (x := "Checker") (m := "choices") (Book.fact s 42 rfl)
theorem mk_Function_init {K : PySem.W.Frag} (s : book.seen K = book.due) : Mk K (cad K 3) (He.fAd K ("Function", some "__init__")) := He.mkr_ok (x := "Function") (Book.fact s 43 rfl)
theorem mk_Code_init {K : PySem.W.Frag} (s : book.seen K = book.due) : Mk K (cad K 4) (He.fAd K ("Code", some "__init__")) := He.mkr_ok (x := "Code") (Book.fact s 44 rfl)
theorem mk_Checker_init {K : PySem.W.Frag} (s : book.seen K = book.due) : Mk K (cad K 5) (He.fAd K ("Checker", some "__init__")) := He.mkr_ok (x := "Checker") (Book.fact s 45 rfl)
theorem gl_word_of {K : PySem.W.Frag} {h : Heap} {mg : Str → Option Value} (X : K.In h) (G : h.Ns mainGlobals mg) (s : book.seen K = book.due) : mg "word_of" = some (.ref (He.ga K "word_of")) := He.glo_ok X G (x := "word_of") (Book.fact s 46 rfl)
theorem gl_parts_of {K : PySem.W.Frag} {h : Heap} {mg : Str → Option Value} (X : K.In h) (G : h.Ns mainGlobals mg) (s : book.seen K = book.due) : mg "parts_of" = some (.ref (He.ga K "parts_of")) := He.glo_ok X G (x := "parts_of") (Book.fact s 47 rfl)
theorem gl_tidy {K : PySem.W.Frag} {h : Heap} {mg : Str → Option Value} (X : K.In h) (G : h.Ns mainGlobals mg) (s : book.seen K = book.due) : mg "tidy" = some (.ref (He.ga K "tidy")) := He.glo_ok X G (x := "tidy") (Book.fact s 48 rfl)
theorem gl_count {K : PySem.W.Frag} {h : Heap} {mg : Str → Option Value} (X : K.In h) (G : h.Ns mainGlobals mg) (s : book.seen K = book.due) : mg "count" = some (.ref (He.ga K "count")) := He.glo_ok X G (x := "count") (Book.fact s 49 rfl)
theorem gl_is_name {K : PySem.W.Frag} {h : Heap} {mg : Str → Option Value} (X : K.In h) (G : h.Ns mainGlobals mg) (s : book.seen K = book.due) : mg "is_name" = some (.ref (He.ga K "is_name")) := He.glo_ok X G (x := "is_name") (Book.fact s 50 rfl)
theorem gl_law_draw {K : PySem.W.Frag} {h : Heap} {mg : Str → Option Value} (X : K.In h) (G : h.Ns mainGlobals mg) (s : book.seen K = book.due) : mg "_law_draw" = some (.ref (He.ga K "_law_draw")) := He.glo_ok X G (x := "_law_draw") (Book.fact s 51 rfl)
theorem gl_law_pick {K : PySem.W.Frag} {h : Heap} {mg : Str → Option Value} (X : K.In h) (G : h.Ns mainGlobals mg) (s : book.seen K = book.due) : mg "_law_pick" = some (.ref (He.ga K "_law_pick")) := He.glo_ok X G (x := "_law_pick") (Book.fact s 52 rfl)
theorem gl_law_word {K : PySem.W.Frag} {h : Heap} {mg : Str → Option Value} (X : K.In h) (G : h.Ns mainGlobals mg) (s : book.seen K = book.due) : mg "_law_word" = some (.ref (He.ga K "_law_word")) := He.glo_ok X G (x := "_law_word") (Book.fact s 53 rfl)
theorem gl_law_names {K : PySem.W.Frag} {h : Heap} {mg : Str → Option Value} (X : K.In h) (G : h.Ns mainGlobals mg) (s : book.seen K = book.due) : mg "_law_names" = some (.ref (He.ga K "_law_names")) := He.glo_ok X G (x := "_law_names") (Book.fact s 54 rfl)
theorem gl_law_name {K : PySem.W.Frag} {h : Heap} {mg : Str → Option Value} (X : K.In h) (G : h.Ns mainGlobals mg) (s : book.seen K = book.due) : mg "_law_name" = some (.ref (He.ga K "_law_name")) := He.glo_ok X G (x := "_law_name") (Book.fact s 55 rfl)
theorem gl_law_good {K : PySem.W.Frag} {h : Heap} {mg : Str → Option Value} (X : K.In h) (G : h.Ns mainGlobals mg) (s : book.seen K = book.due) : mg "_law_good" = some (.ref (He.ga K "_law_good")) := He.glo_ok X G (x := "_law_good") (Book.fact s 56 rfl)
theorem gl_law_due {K : PySem.W.Frag} {h : Heap} {mg : Str → Option Value} (X : K.In h) (G : h.Ns mainGlobals mg) (s : book.seen K = book.due) : mg "_law_due" = some (.ref (He.ga K "_law_due")) := He.glo_ok X G (x := "_law_due") (Book.fact s 57 rfl)
theorem gl_law_told {K : PySem.W.Frag} {h : Heap} {mg : Str → Option Value} (X : K.In h) (G : h.Ns mainGlobals mg) (s : book.seen K = book.due) : mg "_law_told" = some (.ref (He.ga K "_law_told")) := He.glo_ok X G (x := "_law_told") (Book.fact s 58 rfl)
theorem gl_law {K : PySem.W.Frag} {h : Heap} {mg : Str → Option Value} (X : K.In h) (G : h.Ns mainGlobals mg) (s : book.seen K = book.due) : mg "law" = some (.ref (He.ga K "law")) := He.glo_ok X G (x := "law") (Book.fact s 59 rfl)
end Hy

set_option Elab.async false
set_option linter.all false
set_option maxRecDepth 100000
set_option maxHeartbeats 4000000
set_option autoImplicit false
namespace Hy
open PySem PySem.Spec PyProof.Rows L2
local macro_rules | `(tactic| walk_at "p") => `(tactic| try simp only [hSet, hAsg, hRet, hRetN, hExpr, hIfS, hNx, hop, hun, hcb, hV, hC, hB, hTr, hNot, hAnd, hOr, hIf, hTup, hLst, hLstM, hCons, hNil, hCall, hMeth, hMake, hMt, hSl, hNoP, hPart, hSetI, hFst, hOrT, hAndT, hNotT, hAug, bindD, bindDs, hEqO, hInO, hGetO, hiEnum, hRaise, hPar3, hYes, hFor, hLc, hLcM, hiR1, hiR2, hiSq_eq, wipeN, startE, List.map_cons, List.map_nil, List.length_cons, List.length_nil, List.replicate, List.cons_append, List.nil_append, List.append_nil, List.getElem?_cons_zero, List.getElem?_cons_succ, List.set_cons_zero, List.set_cons_succ, Nat.reduceAdd, Nat.reduceSub, Nat.zero_add, gI0, gI, gTru, gFmt, gNeg, gOrd, gIsN, isN, ng, Nat.beq, Nat.ble, isStr, bnot_t, bnot_f])
local macro_rules | `(tactic| walk_at "q") => `(tactic| ((try dsimp only); refine seq_ ?_; walk_at "p"))
local macro_rules | `(tactic| walk_at "g") => `(tactic| try simp only [gLt, gLe, gGt, gGe, gSub, gOrd, gI0, gI, gAdd, gNeg])
theorem deq_str (a b : Str) : deq (.str a) (.str b) = (a == b) := by simp [deq, toP, PyData.eqv]
abbrev cp (z : Str) : List Nat := z.cps.toList
theorem ne_tups {xs ys : List D} {S : Sto} {Q : HK} (d1 : dok 60 (.tup xs) = true) (d2 : dok 60 (.tup ys) = true) (h : Q (.bl (ng true (deq (.tup xs) (.tup ys)))) S) : gNe (.tup xs) (.tup ys) S Q := by
  show (match dok 60 (.tup xs) && dok 60 (.tup ys) with
    | true => Q (.bl (ng true (deq (.tup xs) (.tup ys)))) S
    | false => False)
  rw [d1, d2]
  exact h
/-! ### strings as names -/
def Nice (s : Str) : Prop := cpsOk s = true ∧ s.length ≤ 1000
def abc : Str := ("abcdefghijklmnopqrstuvwxyz" : PySem.Str)
def okName (s : Str) : Bool := decide (1 ≤ s.length) && decide (s.length ≤ 12) && (cp s).all fun c => decide (c ∈ cp abc)
theorem len_nice {s : Str} {S : Sto} {Q : HK} (h : s.length ≤ 1000) (g : Q (.int (s.length : Nat)) S) : gLen [.str s] S Q := ⟨line_le (by omega), g⟩
theorem in_abc {neg : Bool} {c : Nat} {S : Sto} {Q : HK} (h : Q (.bl (ng neg (decide (c ∈ cp abc)))) S) : gInG neg (.str ⟨#[c]⟩) (.str abc) S Q := h
theorem abc_loop {i : Nat} {env : HEnv} {S : Sto} {Q : HK} (hi : i < env.length) : ∀ (l : List Nat) (acc : List Bool), Q (.lst ((acc ++ l.map fun c => decide (c ∈ cp abc)).map D.bl)) S →
    cloop (.nm i) hYes (hop gIn (hV i) (hC (.str abc))) none (l.map fun c => .str ⟨#[c]⟩) (acc.map D.bl) env S Q
  | [], acc, h => by rw [List.map_nil, List.append_nil] at h; exact h
  | c :: l, acc, h => by
    have ih := abc_loop (i := i) (env := env) (S := S) (Q := Q) hi l (acc ++ [decide (c ∈ cp abc)]) (by rw [List.append_assoc]; exact h)
    simp only [List.map_cons, cloop, chk, bindD, hYes, hop, hV, hC, List.getElem?_set_self hi]
    rw [List.map_append] at ih
    exact in_abc ih
theorem not_abc_loop {i j : Nat} {env : HEnv} {S : Sto} {Q : HK} (hi : i < env.length) (hj : ∀ d, (env.set i (some d))[j]? = some (some (.str abc))) : ∀ (l : List Nat) (acc : List Nat), Q (.lst ((acc ++ l.filter fun c => !decide (c ∈ cp abc)).map fun c => .str ⟨#[c]⟩)) S →
    cloop (.nm i) (hB (hop gNotIn (hV i) (hV j))) (hV i) none (l.map fun c => .str ⟨#[c]⟩) (acc.map fun c => .str ⟨#[c]⟩) env S Q
  | [], acc, h => by rw [List.filter_nil, List.append_nil] at h; exact h
  | c :: l, acc, h => by
    simp only [List.map_cons, cloop, chk, bindD, hB, hop, hV, hj, List.getElem?_set_self hi]
    refine in_abc (neg := true) ?_
    cases e : decide (c ∈ cp abc) with
    | true =>
      rw [List.filter_cons_of_neg (by rw [e]; decide)] at h
      exact not_abc_loop (i := i) (j := j) (env := env) (S := S) (Q := Q) hi hj l acc h
    | false =>
      rw [List.filter_cons_of_pos (by rw [e]; rfl)] at h
      have ih := not_abc_loop (i := i) (j := j) (env := env) (S := S) (Q := Q) hi hj l (acc ++ [c]) (by rw [List.append_assoc]; exact h)
      rw [List.map_append] at ih
      exact ih
def spIsName : HSp := fun ds S Q _ => ∃ s : Str, ds = [.str s] ∧ s.length ≤ 1000 ∧ Q (.bl (okName s)) S
theorem isname_keeps {ds : List D} {S : Sto} {Q E : HK} (h : spIsName ds S Q E) : rd_is_name (EN Q E) (startE 2 ds) S := by
  obtain ⟨s, rfl, hs, g⟩ := h
  unfold rd_is_name
  walk_at "p"
  simp only [hChain, hcb, hCons, hNil, hV, hC, List.getElem?_cons_zero, List.append_nil]
  refine len_nice hs ?_
  unfold okName at g
  walk_at "g"
  rw [show decide ((1 : Int) ≤ ((s.length : Nat) : Int)) = decide (1 ≤ s.length) by rw [Bool.eq_iff_iff, decide_eq_true_iff, decide_eq_true_iff]; omega]
  cases h1 : decide (1 ≤ s.length) with
  | false =>
    rw [h1] at g
    exact Rt.mk g
  | true =>
    rw [h1] at g
    dsimp only
    walk_at "g"
    rw [show decide (((s.length : Nat) : Int) ≤ 12) = decide (s.length ≤ 12) by rw [Bool.eq_iff_iff, decide_eq_true_iff, decide_eq_true_iff]; omega]
    cases h2 : decide (s.length ≤ 12) with
    | false =>
      rw [h2] at g
      exact Rt.mk g
    | true =>
      rw [h2] at g
      dsimp only
      refine ⟨line_le (by omega), ?_⟩
      refine abc_loop (i := 1) (by show 1 < 2; decide) (cp s) [] ?_
      rw [List.nil_append]
      refine over_lst (bls_map _) ?_
      rw [List.all_map]
      exact Rt.mk g
theorem doks_strs2 : ∀ (ss : List Str) (m : Nat), (∀ s ∈ ss, PyData.strOk s = true) → doks m (ss.map D.str) = true
  | [], m, _ => by simp [doks]
  | s :: ss, m, h => by
    have h1 := h s List.mem_cons_self
    have h2 := doks_strs2 ss m fun x hx => h x (List.mem_cons_of_mem _ hx)
    show (dok m (.str s) && doks m (ss.map D.str)) = true
    rw [h2, Bool.and_true]
    cases m <;> exact h1
theorem eq_nil_str {ss : List Str} {S : Sto} {Q : HK} (hs : ∀ s ∈ ss, PyData.strOk s = true) (h : Q (.bl ss.isEmpty) S) : gEq (.lst (ss.map D.str)) (.lst []) S Q := by
  have e1 : dok 60 (.lst (ss.map D.str)) = true := doks_strs2 ss 59 hs
  have e3 : deq (.lst (ss.map D.str)) (.lst []) = ss.isEmpty := by
    cases ss with
    | nil => rfl
    | cons x xs => simp [deq, toP, toPs, PyData.eqv, PyData.eqvAll]
  show (match dok 60 (.lst (ss.map D.str)) && dok 60 (.lst []) with
    | true => Q (.bl (ng false (deq (.lst (ss.map D.str)) (.lst [])))) S
    | false => False)
  rw [e1, show dok 60 (.lst []) = true from rfl, e3]
  exact h
theorem filt_none (p : Nat → Bool) (l : List Nat) : (l.filter fun c => !p c).isEmpty = l.all p := by
  induction l with
  | nil => rfl
  | cons c l ih =>
    cases e : p c with
    | true => rw [List.filter_cons_of_neg (by rw [e]; decide), ih, List.all_cons, e] <;> rfl
    | false => rw [List.filter_cons_of_pos (by rw [e]; rfl), List.all_cons, e] <;> rfl
def spLawGood : HSp := fun ds S Q _ => ∃ s : Str, ds = [.str s] ∧ Nice s ∧ Q (.bl (okName s)) S
theorem lawgood_keeps {ds : List D} {S : Sto} {Q E : HK} (h : spLawGood ds S Q E) : rd_law_good (EN Q E) (startE 3 ds) S := by
  obtain ⟨s, rfl, ⟨hc, hs⟩, g⟩ := h
  unfold rd_law_good
  walk_at "q"
  simp only [hChain, hcb, hCons, hNil, hV, hC, List.getElem?_cons_zero, List.append_nil]
  refine len_nice hs ?_
  unfold okName at g
  walk_at "g"
  rw [show decide ((1 : Int) ≤ ((s.length : Nat) : Int)) = decide (1 ≤ s.length) by rw [Bool.eq_iff_iff, decide_eq_true_iff, decide_eq_true_iff]; omega]
  cases h1 : decide (1 ≤ s.length) with
  | false =>
    rw [h1] at g
    exact Rt.mk g
  | true =>
    rw [h1] at g
    dsimp only
    walk_at "g"
    rw [show decide (((s.length : Nat) : Int) ≤ 12) = decide (s.length ≤ 12) by rw [Bool.eq_iff_iff, decide_eq_true_iff, decide_eq_true_iff]; omega]
    cases h2 : decide (s.length ≤ 12) with
    | false =>
      rw [h2] at g
      exact Rt.mk g
    | true =>
      rw [h2] at g
      dsimp only
      refine ⟨line_le (by omega), ?_⟩
      refine not_abc_loop (i := 2) (j := 1) (by show 2 < 3; decide) (fun d => rfl) (cp s) [] ?_
      rw [List.nil_append]
      rw [show ((cp s).filter fun c => !decide (c ∈ cp abc)).map (fun c => D.str ⟨#[c]⟩) = (((cp s).filter fun c => !decide (c ∈ cp abc)).map fun c => (⟨#[c]⟩ : Str)).map D.str by rw [List.map_map] <;> rfl]
      refine eq_nil_str (fun x hx => ?_) ?_
      · obtain ⟨c, hc2, rfl⟩ := List.mem_map.mp hx
        have hc3 := (List.mem_filter.mp hc2).1
        refine strOk_of ?_
        have := List.all_eq_true.mp (show (cp s).all (· < 0x110000) = true from hc) c hc3
        show [c].all (· < 0x110000) = true
        rw [List.all_cons, this] <;> rfl
      · rw [List.isEmpty_map, filt_none (fun c => decide (c ∈ cp abc))]
        exact Rt.mk g
/-! ### statements of the bodies that are used here -/
abbrev faultD : D := .tup [.str ("fault" : PySem.Str)]
def bodyIn : Bool → D
  | false => .tup []
  | true => .lst [faultD]
def bodyD : Bool → D
  | false => .tup []
  | true => .tup [faultD]
def manyN : Bool → Int
  | false => 0
  | true => 1
def spWord : HSp := fun ds S Q _ => ds = [faultD] ∧ Q (.str ("fault" : PySem.Str)) S
theorem word_keeps {ds : List D} {S : Sto} {Q E : HK} (h : spWord ds S Q E) : rd_word_of (EN Q E) (startE 1 ds) S := by
  obtain ⟨rfl, g⟩ := h
  unfold rd_word_of
  walk_at "p"
  exact Rt.mk g
def spPartsF : HSp := fun ds S Q _ => ds = [faultD] ∧ Q (.tup []) S
theorem eq_lits {a b : Str} {r : Bool} {S : Sto} {Q : HK} (e : (a == b) = r) (h : Q (.bl r) S) : gEq (.str a) (.str b) S Q := by
  show Q (.bl (ng false (deq (.str a) (.str b)))) S
  rw [deq_str, e]
  exact h
theorem in_lits {neg : Bool} {a : Str} {ss : List Str} {r : Bool} {S : Sto} {Q : HK} (e : (ss.any fun z => z == a) = r) (h : Q (.bl (ng neg r)) S) : gInG neg (.str a) (.tup (ss.map D.str)) S Q := by
  have e1 : ((ss.map D.str).any fun z => deq z (.str a)) = r := by
    rw [List.any_map, ← e]
    congr 1 <;> (funext z; exact deq_str z a)
  have e2 : (flatD (.str a) && (ss.map D.str).all flatD) = true := by
    rw [List.all_map]
    show (true && ss.all fun _ => true) = true
    simp
  show (match flatD (.str a) && (ss.map D.str).all flatD with
      | true => Q (.bl (ng neg ((ss.map D.str).any fun z => deq z (.str a)))) S
      | false => _)
  rw [e2, e1]
  exact h
theorem parts_keeps {ds : List D} {S : Sto} {Q E : HK} (h : spPartsF ds S Q E) : rd_parts_of spWord (EN Q E) (startE 2 ds) S := by
  obtain ⟨rfl, g⟩ := h
  unfold rd_parts_of
  walk_at "q"
  refine ⟨rfl, ?_⟩
  walk_at "q"
  refine eq_lits (r := false) (by decide +kernel) ?_
  dsimp only
  walk_at "q"
  refine eq_lits (r := false) (by decide +kernel) ?_
  dsimp only
  walk_at "q"
  refine in_lits (ss := [("either" : PySem.Str), ("told" : PySem.Str), ("guard" : PySem.Str), ("lastly" : PySem.Str)]) (r := false) (by decide +kernel) ?_
  exact Rt.mk g
def spTidyF : HSp := fun ds S Q _ => ∃ b, ds = [bodyIn b] ∧ Q (bodyD b) S
theorem tidy_keeps {ds : List D} {S : Sto} {Q E : HK} {sp : HSp} (h : spTidyF ds S Q E) : rd_tidy spPartsF sp (EN Q E) (startE 5 ds) S := by
  obtain ⟨b, rfl, g⟩ := h
  unfold rd_tidy
  walk_at "q"
  intro r hr
  have er : up S r (.lst []) r = some (.lst []) := up_same
  have sl : SLe S (up S r (.lst [])) := SLe.up SLe.rfl' hr
  cases b with
  | false =>
    simp only [bodyIn]
    walk_at "q"
    try dsimp only [gSq, items, ckOf]
    walk_at "p"
    refine tup_ref er ?_
    exact Rt.less sl g
  | true =>
    simp only [bodyIn]
    walk_at "q"
    try dsimp only [gSq, items, ckOf]
    refine floop_nm ?_
    walk_at "q"
    refine ⟨rfl, ?_⟩
    show match isLst (up S r (.lst [])) (.ref r) with
      | true => _
      | false => False
    rw [is_lst_ref er]
    dsimp only
    refine tup_tup ?_
    refine app_ref er (by decide) ?_
    show gTuple [.ref r] _ _
    refine tup_ref up_same ?_
    rw [up_up]
    exact Rt.less (SLe.up SLe.rfl' hr) g
def spCountF : HSp := fun ds S Q _ => ∃ b, ds = [bodyD b] ∧ Q (.int (manyN b)) S
theorem count_keeps {ds : List D} {S : Sto} {Q E : HK} {sp : HSp} (h : spCountF ds S Q E) : rd_count spPartsF sp (EN Q E) (startE 4 ds) S := by
  obtain ⟨b, rfl, g⟩ := h
  unfold rd_count
  cases b with
  | false => exact Rt.mk g
  | true =>
    walk_at "q"
    simp only [bodyD]
    try dsimp only [gSq, items, ckOf]
    walk_at "q"
    try dsimp only [gSq, items, ckOf]
    refine floop_nm ?_
    walk_at "p"
    refine ⟨rfl, ?_⟩
    exact Rt.mk g
def fnF (n : Str) (b : Bool) : List D := [.str n, bodyD b, .int (manyN b)]
def spFnInit : HSp := fun ds S Q _ => ∃ (p : Addr) (n : Str) (b : Bool), ds = [.ref p, .str n, bodyIn b] ∧ S p = some (.ins 3 []) ∧ Q .non (up S p (.ins 3 (fnF n b)))
theorem fninit_keeps {ds : List D} {S : Sto} {Q E : HK} (h : spFnInit ds S Q E) : rd_Function_init spTidyF spCountF (EN Q E) (startE 3 ds) S := by
  obtain ⟨p, n, b, rfl, hp, g⟩ := h
  unfold rd_Function_init
  walk_at "q"
  refine fst_ref hp (i := 0) rfl rfl ?_
  have h1 : up S p (.ins 3 [.str n]) p = some (.ins 3 [.str n]) := up_same
  refine seq_ ?_
  walk_at "p"
  refine ⟨b, rfl, ?_⟩
  refine fst_ref h1 (i := 1) rfl rfl ?_
  rw [up_up]
  have h2 : up S p (.ins 3 [.str n, bodyD b]) p = some (.ins 3 [.str n, bodyD b]) := up_same
  walk_at "p"
  refine fld_ref h2 (i := 1) rfl rfl ?_
  refine ⟨b, rfl, ?_⟩
  refine fst_ref h2 (i := 2) rfl rfl ?_
  rw [up_up]
  exact Rt.mk g
/-! ### Checker -/
theorem is_ins2 {c : Nat} {q : Addr} {ds : List D} {S : Sto} (h : S q = some (.ins c ds)) : isC c S (.ref q) = true := by
  unfold isC
  dsimp only
  rw [h]
  exact Nat.beq_refl c
def spChkInit : HSp := fun ds S Q _ => ∃ (p : Addr) (x y : D), ds = [.ref p, x, y] ∧ S p = some (.ins 5 []) ∧ Q .non (up S p (.ins 5 [x, y, .int 0]))
theorem chkinit_keeps {ds : List D} {S : Sto} {Q E : HK} (h : spChkInit ds S Q E) : rd_Checker_init (EN Q E) (startE 3 ds) S := by
  obtain ⟨p, x, y, rfl, hp, g⟩ := h
  unfold rd_Checker_init
  walk_at "q"
  refine fst_ref hp (i := 0) rfl rfl ?_
  have h1 : up S p (.ins 5 [x]) p = some (.ins 5 [x]) := up_same
  refine seq_ ?_
  walk_at "p"
  refine fst_ref h1 (i := 1) rfl rfl ?_
  rw [up_up]
  have h2 : up S p (.ins 5 [x, y]) p = some (.ins 5 [x, y]) := up_same
  walk_at "p"
  refine fst_ref h2 (i := 2) rfl rfl ?_
  rw [up_up]
  exact Rt.mk g
def spFits : HSp := fun ds S Q _ => ∃ c : Addr, ds = [.ref c, faultD, .bl false, .bl false] ∧ Q (.bl true) S
theorem fits_keeps {ds : List D} {S : Sto} {Q E : HK} {sp sp2 : HSp} (h : spFits ds S Q E) : rd_Checker_fits spWord sp sp2 (EN Q E) (startE 5 ds) S := by
  obtain ⟨c, rfl, g⟩ := h
  unfold rd_Checker_fits
  walk_at "q"
  refine ⟨rfl, ?_⟩
  walk_at "q"
  walk_at "q"
  refine in_lits (ss := [("again" : PySem.Str), ("out" : PySem.Str)]) (r := false) (by decide +kernel) ?_
  dsimp only [ng]
  walk_at "q"
  refine in_lits (ss := [("fault" : PySem.Str), ("may" : PySem.Str), ("again" : PySem.Str), ("out" : PySem.Str)]) (r := true) (by decide +kernel) ?_
  dsimp only [ng]
  walk_at "p"
  refine len_items (xs := [.str ("fault" : PySem.Str)]) rfl ?_
  refine eq_int _ _ _ _ ?_
  exact Rt.mk g
def spPart : HSp := fun ds S Q _ => ∃ (c : Addr) (b : Bool) (x y : D), ds = [.ref c, bodyD b, .int 0, .bl false, .bl false] ∧ S c = some (.ins 5 [x, y, .int 0]) ∧ ∀ S' : Sto, (∀ a, a ≠ c → S' a = S a) → Q .non S'
theorem part_keeps {ds : List D} {S : Sto} {Q E : HK} {sp : HSp} (h : spPart ds S Q E) : rd_Checker_part spFits spPartsF sp (EN Q E) (startE 11 ds) S := by
  obtain ⟨c, b, x, y, rfl, hc, g⟩ := h
  unfold rd_Checker_part
  cases b with
  | false =>
    simp only [bodyD]
    walk_at "p"
    try dsimp only [gSq, items, ckOf]
    exact Rt.mk (g S fun _ _ => rfl)
  | true =>
    simp only [bodyD]
    walk_at "p"
    try dsimp only [gSq, items, ckOf]
    refine floop_nm ?_
    walk_at "q"
    refine fld_ref hc (i := 2) rfl rfl ?_
    refine seq_ ?_
    walk_at "p"
    walk_at "g"
    refine fst_ref hc (i := 2) rfl rfl ?_
    have h1 : up S c (.ins 5 [x, y, .int (0 + 1)]) c = some (.ins 5 [x, y, .int (0 + 1)]) := up_same
    show hSeq _ _ _ _ (up S c (.ins 5 [x, y, .int (0 + 1)]))
    walk_at "q"
    walk_at "g"
    rw [show decide ((14 : Int) ≤ 0) = false by decide]
    dsimp only
    walk_at "q"
    rw [is_ins2 h1]
    dsimp only
    refine ⟨c, rfl, ?_⟩
    walk_at "p"
    walk_at "q"
    refine ⟨rfl, ?_⟩
    walk_at "q"
    walk_at "q"
    refine ix_items (xs := [.str ("fault" : PySem.Str)]) rfl rfl ?_
    walk_at "p"
    exact Rt.mk (g _ fun a ha => up_ne ha)
theorem Pen.notP {S : Sto} {p q r : Addr} {n : Nat} (h : Pen S p q n) (hr : S r = none) : r ≠ p ∧ r ≠ q := by
  obtain ⟨cs, s, h1, h2, _⟩ := h
  exact ⟨fun e => (by subst e; rw [hr] at h1; cases h1), fun e => (by subst e; rw [hr] at h2; cases h2)⟩
def nmB : HTS := (hSeq (hIfS (hOr (hNot (hTr (hCall 1 [] spIsName (hCons (hV 8) hNil)))) (hB (hop gIn (hV 8) (hV 7)))) (hRaise 35 (hCons (hC .non) (hCons (hC .non) hNil))) hNx)
  (hExpr (hMt isLst gAppend (hV 7) (hCons (hV 8) hNil))))
def ckB : HTS := (hExpr (hMeth 5 5 [] spPart (hMake 5 3 [] spChkInit (hCons (hV 0) (hCons (hV 5) hNil))) (hCons (hun (gFld ix_body) (hV 5)) (hCons (hC (.int 0)) (hCons (hC (.bl false)) (hCons (hC (.bl false)) hNil))))))
def nmT : HTS := (hSeq (hSet 7 (hLc (hiSq (hLc (hiR2 (hCons (hC (.int 1)) (hCons (hC (.int 13)) hNil))) (.nm 6) hYes (hop gMulS (hC (.str ("a" : PySem.Str))) (hV 6)) [6])) (.nm 5) (hB (hop gNotIn (hV 5) (hV 2))) (hV 5) [5]))
  (hExpr (hMt isLst gAppend (hV 2) (hCons (hIf (hB (hop gIn (hV 4) (hV 2))) (hop gIx (hV 7) (hC (.int 0))) (hV 4)) hNil))))
/-! ### Code.__init__ -/
def hasS (ss : List Str) (x : Str) : Bool := ss.any fun z => z == x
def chkN (seen : List Str) : List Str → Bool
  | [] => true
  | x :: r => okName x && (!(hasS seen x) && chkN (seen ++ [x]) r)
def codeFate (cs rs os : List Str) (st : Str) : Nat := match decide (3 < cs.length) || (decide (2 < rs.length) || decide (3 < os.length)) with
  | true => 0
  | false => match chkN [] (cs ++ rs ++ os) && hasS os st with
    | true => 2
    | false => 1
def fnO (b : Bool) (n : Str) : D := .obj 3 (fnF n b)
def codeF (cs rs os : List Str) (st : Str) (b : Bool) : List D := [.tup (cs.map D.str), .tup (rs.map D.str), .tup (os.map (fnO b)), .str st]
abbrev Keeps (p : Addr) (S S' : Sto) : Prop := ∀ a m, a ≠ p → S a = some m → S' a = some m
def spCode : HSp := fun ds S Q E => ∃ (p : Addr) (cs rs os : List Str) (st : Str) (b : Bool), ds = [.ref p, .lst (cs.map D.str), .lst (rs.map D.str), .lst (os.map (fnO b)), .str st] ∧ S p = some (.ins 4 []) ∧ (∀ s ∈ cs ++ rs ++ os, s.length ≤ 1000) ∧ cs.length ≤ 100 ∧ rs.length ≤ 100 ∧ os.length ≤ 100 ∧
  match codeFate cs rs os st with
  | 0 => ∀ S', Keeps p S S' → E (.exc 36 []) S'
  | 1 => ∀ S', Keeps p S S' → E (.exc 35 [.non, .non]) S'
  | _ => ∀ S', Keeps p S S' → S' p = some (.ins 4 (codeF cs rs os st b)) → Q .non S'
theorem in_refS {neg : Bool} {q : Addr} {x : Str} {ss : List Str} {S : Sto} {Q : HK} (e : S q = some (.lst (ss.map D.str))) (h : Q (.bl (ng neg (hasS ss x))) S) : gInG neg (.str x) (.ref q) S Q := by
  have e1 : ((ss.map D.str).any fun z => deq z (.str x)) = hasS ss x := by
    rw [List.any_map]
    unfold hasS
    congr 1 <;> (funext z; exact deq_str z x)
  have e2 : (flatD (.str x) && (ss.map D.str).all flatD) = true := by
    rw [List.all_map]
    show (true && ss.all fun _ => true) = true
    simp
  have it : items S (.ref q) = some (ss.map D.str) := by unfold items; dsimp only; rw [e]
  show (match items S (.ref q) with
    | some ds => match flatD (.str x) && ds.all flatD with
      | true => Q (.bl (ng neg (ds.any fun z => deq z (.str x)))) S
      | false => _
    | none => _)
  rw [it]
  show (match flatD (.str x) && (ss.map D.str).all flatD with
      | true => Q (.bl (ng neg ((ss.map D.str).any fun z => deq z (.str x)))) S
      | false => _)
  rw [e2, e1]
  exact h
theorem in_lstS {neg : Bool} {x : Str} {ss : List Str} {S : Sto} {Q : HK} (h : Q (.bl (ng neg (hasS ss x))) S) : gInG neg (.str x) (.lst (ss.map D.str)) S Q := by
  have e1 : ((ss.map D.str).any fun z => deq z (.str x)) = hasS ss x := by
    rw [List.any_map]
    unfold hasS
    congr 1 <;> (funext z; exact deq_str z x)
  have e2 : (flatD (.str x) && (ss.map D.str).all flatD) = true := by
    rw [List.all_map]
    show (true && ss.all fun _ => true) = true
    simp
  show (match flatD (.str x) && (ss.map D.str).all flatD with
      | true => Q (.bl (ng neg ((ss.map D.str).any fun z => deq z (.str x)))) S
      | false => _)
  rw [e2, e1]
  exact h
theorem fnames_loop {i : Nat} {env : HEnv} {S : Sto} {Q : HK} {b : Bool} (hi : i < env.length) : ∀ (os acc : List Str), Q (.lst ((acc ++ os).map D.str)) S →
    cloop (.nm i) hYes (hun (gFld ix_name) (hV i)) none (os.map (fnO b)) (acc.map D.str) env S Q
  | [], acc, h => by rw [List.append_nil] at h; exact h
  | n :: os, acc, h => by
    have ih := fnames_loop (i := i) (env := env) (S := S) (Q := Q) (b := b) hi os (acc ++ [n]) (by rw [List.append_assoc]; exact h)
    rw [List.map_append] at ih
    simp only [List.map_cons, cloop, chk, bindD, hYes, hun, hV, List.getElem?_set_self hi]
    exact ih
theorem names_loop {q : Addr} {D0 : HEnds} {e0 e1 e2 e3 e4 e5 e6 : Option D} {S0 : Sto} (ok : Bool) (hB : ok = false → ∀ S', (∀ a, a ≠ q → S' a = S0 a) → ∀ e8, D0.ex (.exc 35 [.non, .non]) [e0, e1, e2, e3, e4, e5, e6, some (.ref q), e8] S')
    (hN : ok = true → ∀ S', (∀ a, a ≠ q → S' a = S0 a) → ∀ e8, D0.nx [e0, e1, e2, e3, e4, e5, e6, some (.ref q), e8] S') : ∀ (l seen : List Str) (e8 : Option D) (S : Sto), (∀ s ∈ l, s.length ≤ 1000) → seen.length + l.length ≤ 1000 → S q = some (.lst (seen.map D.str)) → (∀ a, a ≠ q → S a = S0 a) → chkN seen l = ok →
    floop (.nm 8) nmB none (l.map D.str) D0 [e0, e1, e2, e3, e4, e5, e6, some (.ref q), e8] S
  | [], seen, e8, S, _, _, _, fr, h => by subst h; exact hN rfl S fr e8
  | x :: l, seen, e8, S, hl, hn, hq, fr, h => by
    have hx := hl x List.mem_cons_self
    have h' : (okName x && (!(hasS seen x) && chkN (seen ++ [x]) l)) = ok := h
    refine floop_nm ?_
    unfold nmB
    walk_at "q"
    refine ⟨x, rfl, hx, ?_⟩
    cases h1 : okName x with
    | false =>
      rw [h1] at h'
      walk_at "p"
      exact hB h'.symm S fr _
    | true =>
      walk_at "p"
      refine in_refS hq ?_
      simp only [ng]
      cases h2 : hasS seen x with
      | true =>
        rw [h1, h2] at h'
        walk_at "p"
        exact hB h'.symm S fr _
      | false =>
        rw [h1, h2] at h'
        simp only [Bool.not_false, Bool.true_and] at h'
        walk_at "p"
        rw [is_lst_ref hq]
        dsimp only
        simp only [List.length_cons] at hn
        refine app_ref hq (by rw [List.length_map]; omega) ?_
        refine names_loop ok hB hN l (seen ++ [x]) _ _ (fun s hs => hl s (List.mem_cons_of_mem _ hs)) (by rw [List.length_append]; show seen.length + 1 + _ ≤ _; omega) ?_ (fun a ha => (up_ne ha).trans (fr a ha)) h'
        rw [up_same, List.map_append] <;> rfl
theorem parts_loop {p : Addr} {D0 : HEnds} {b : Bool} {cd : List D} {e1 e2 e3 e4 e6 e7 e8 : Option D} {S0 : Sto} (hp : S0 p = some (.ins 4 cd)) (hN : ∀ S' e5, (∀ a m, S0 a = some m → S' a = some m) → D0.nx [some (.ref p), e1, e2, e3, e4, e5, e6, e7, e8] S') : ∀ (os : List Str) (e5 : Option D) (S : Sto), (∀ a m, S0 a = some m → S a = some m) →
    floop (.nm 5) ckB none (os.map (fnO b)) D0 [some (.ref p), e1, e2, e3, e4, e5, e6, e7, e8] S
  | [], e5, S, k => hN S e5 k
  | n :: os, e5, S, k => by
    refine floop_nm ?_
    unfold ckB
    walk_at "p"
    intro c hc
    refine ⟨c, _, _, rfl, up_same, rfl, ?_⟩
    rw [up_up]
    refine Rt.mk ?_
    have h1 : up S c (.ins 5 [.ref p, fnO b n, .int 0]) c = some (.ins 5 [.ref p, fnO b n, .int 0]) := up_same
    rw [is_ins2 h1]
    dsimp only
    refine ⟨c, b, _, _, rfl, h1, fun S' fr => ?_⟩
    dsimp only
    refine parts_loop hp hN os _ S' fun a m ea => ?_
    have hac : a ≠ c := sne (k a m ea) hc
    rw [fr a hac, up_ne hac]
    exact k a m ea
theorem dec_nat (k : Nat) (n : Nat) : decide ((k : Int) < (n : Int)) = decide (k < n) := by rw [Bool.eq_iff_iff, decide_eq_true_iff, decide_eq_true_iff]; omega
theorem code_keeps {ds : List D} {S : Sto} {Q E : HK} (h : spCode ds S Q E) : rd_Code_init spIsName spPart spChkInit (EN Q E) (startE 9 ds) S := by
  obtain ⟨p, cs, rs, os, st, b, rfl, hp, hl, l1, l2, l3, g⟩ := h
  unfold codeFate at g
  unfold rd_Code_init
  walk_at "q"
  refine len_items (xs := cs.map D.str) rfl ?_
  rw [List.length_map]
  walk_at "g"
  rw [show decide ((3 : Int) < (cs.length : Int)) = decide (3 < cs.length) from dec_nat 3 _]
  cases c1 : decide (3 < cs.length) with
  | true =>
    rw [c1] at g
    exact Rx.mk (g S fun a m _ e => e)
  | false =>
  rw [c1] at g
  dsimp only
  refine len_items (xs := rs.map D.str) rfl ?_
  rw [List.length_map]
  walk_at "g"
  rw [show decide ((2 : Int) < (rs.length : Int)) = decide (2 < rs.length) from dec_nat 2 _]
  cases c2 : decide (2 < rs.length) with
  | true =>
    rw [c2] at g
    exact Rx.mk (g S fun a m _ e => e)
  | false =>
  rw [c2] at g
  dsimp only
  refine len_items (xs := os.map (fnO b)) rfl ?_
  rw [List.length_map]
  walk_at "g"
  rw [show decide ((3 : Int) < (os.length : Int)) = decide (3 < os.length) from dec_nat 3 _]
  cases c3 : decide (3 < os.length) with
  | true =>
    rw [c3] at g
    exact Rx.mk (g S fun a m _ e => e)
  | false =>
  rw [c3] at g
  simp only [Bool.or_false] at g
  dsimp only
  walk_at "q"
  refine tup_lst ?_
  refine fst_ref hp (i := 0) rfl rfl ?_
  have h1 : up S p (.ins 4 [.tup (cs.map D.str)]) p = some (.ins 4 [.tup (cs.map D.str)]) := up_same
  refine seq_ ?_
  walk_at "p"
  refine tup_lst ?_
  refine fst_ref h1 (i := 1) rfl rfl ?_
  rw [up_up]
  have h2 : up S p (.ins 4 [.tup (cs.map D.str), .tup (rs.map D.str)]) p = some (.ins 4 [.tup (cs.map D.str), .tup (rs.map D.str)]) := up_same
  refine seq_ ?_
  walk_at "p"
  refine tup_lst ?_
  refine fst_ref h2 (i := 2) rfl rfl ?_
  rw [up_up]
  have h3 : up S p (.ins 4 [.tup (cs.map D.str), .tup (rs.map D.str), .tup (os.map (fnO b))]) p = some (.ins 4 [.tup (cs.map D.str), .tup (rs.map D.str), .tup (os.map (fnO b))]) := up_same
  refine seq_ ?_
  walk_at "p"
  refine fst_ref h3 (i := 3) rfl rfl ?_
  rw [up_up]
  show hSeq _ _ _ _ (up S p (.ins 4 (codeF cs rs os st b)))
  have h4 : up S p (.ins 4 (codeF cs rs os st b)) p = some (.ins 4 (codeF cs rs os st b)) := up_same
  have k4 : Keeps p S (up S p (.ins 4 (codeF cs rs os st b))) := fun a m ha e => (up_ne ha).trans e
  generalize up S p (.ins 4 (codeF cs rs os st b)) = S4 at h4 k4 ⊢
  walk_at "q"
  refine fld_ref h4 (i := 2) rfl rfl ?_
  try dsimp only [gSq, items, ckOf]
  refine fnames_loop (i := 5) (b := b) (by show 5 < 9; decide) os [] ?_
  rw [List.nil_append]
  walk_at "q"
  cases os with
  | nil =>
    have hz : (chkN [] (cs ++ rs ++ []) && hasS [] st) = false := by show (_ && false) = false; rw [Bool.and_false]
    rw [hz] at g
    exact Rx.mk (g S4 k4)
  | cons o os' =>
  simp only [List.map_cons, List.isEmpty_cons, Bool.not_false, Bool.not_true]
  rw [show D.str o :: os'.map D.str = (o :: os').map D.str from rfl]
  generalize o :: os' = os at *
  walk_at "q"
  intro r hr
  have npr : p ≠ r := sne h4 hr
  have h5 : up S4 r (.lst []) p = some (.ins 4 (codeF cs rs os st b)) := (up_ne npr).trans h4
  have e5 : up S4 r (.lst []) r = some (.lst (([] : List Str).map D.str)) := up_same
  have k5 : Keeps p S (up S4 r (.lst [])) := fun a m ha e => by
    have := k4 a m ha e
    exact (up_ne (sne this hr)).trans this
  have nr : ∀ a m, a ≠ p → S a = some m → a ≠ r := fun a m ha e => sne (k4 a m ha e) hr
  generalize up S4 r (.lst []) = S5 at h5 e5 k5 ⊢
  walk_at "q"
  refine fld_ref h5 (i := 0) rfl rfl ?_
  refine list_tup ?_
  refine fld_ref h5 (i := 1) rfl rfl ?_
  refine list_tup ?_
  dsimp only
  refine ⟨line_le (by rw [List.length_map, List.length_map]; omega), ?_⟩
  refine ⟨line_le (by rw [List.length_append, List.length_map, List.length_map, List.length_map]; omega), ?_⟩
  rw [← List.map_append, ← List.map_append]
  try dsimp only [gSq, items, ckOf]
  refine names_loop (S0 := S5) (q := r) (chkN [] (cs ++ rs ++ os)) (fun hf S' fr e8 => ?_) (fun ht S' fr e8 => ?_) (cs ++ rs ++ os) [] _ S5 hl (by rw [List.length_append, List.length_append]; show 0 + _ ≤ 1000; omega) e5 (fun _ _ => rfl) rfl
  · rw [hf] at g
    exact Rx.mk (g S' fun a m ha e => (fr a (nr a m ha e)).trans (k5 a m ha e))
  · rw [ht] at g
    simp only [Bool.true_and] at g
    have h6 : S' p = some (.ins 4 (codeF cs rs os st b)) := (fr p npr).trans h5
    have k6 : Keeps p S S' := fun a m ha e => (fr a (nr a m ha e)).trans (k5 a m ha e)
    walk_at "q"
    refine in_lstS (neg := true) ?_
    cases hs : hasS os st with
    | false =>
      rw [hs] at g
      exact Rx.mk (g S' k6)
    | true =>
      rw [hs] at g
      dsimp only [ng]
      simp only [Bool.not_true]
      walk_at "p"
      refine fld_ref h6 (i := 2) rfl rfl ?_
      try dsimp only [gSq, items, ckOf]
      refine parts_loop (S0 := S') h6 (fun S7 e5 k7 => ?_) os _ S' (fun a m e => e)
      exact Rt.mk (g S7 (fun a m ha e => k7 a m (k6 a m ha e)) (k7 p _ h6))
/-! ### told and due -/
def resD2 (cs rs os : List Str) (st : Str) : D := match codeFate cs rs os st with
  | 0 => .tup [.str ("great" : PySem.Str), .bl true, .bl false]
  | 1 => .tup [.str ("bad" : PySem.Str), .non, .non, .bl true, .bl false]
  | _ => .tup [.str ("made" : PySem.Str), .tup (cs.map D.str), .tup (rs.map D.str), .str st]
def spTold2 : HSp := fun ds S Q _ => ∃ (cs rs os : List Str) (st : Str) (b : Bool), ds = [.lst (cs.map D.str), .lst (rs.map D.str), .lst (os.map (fnO b)), .str st] ∧ (∀ s ∈ cs ++ rs ++ os, s.length ≤ 1000) ∧ cs.length ≤ 100 ∧ rs.length ≤ 100 ∧ os.length ≤ 100 ∧ Q (resD2 cs rs os st) S
theorem fate_cases (cs rs os : List Str) (st : Str) : codeFate cs rs os st = 0 ∨ codeFate cs rs os st = 1 ∨ codeFate cs rs os st = 2 := by
  unfold codeFate
  split
  · exact .inl rfl
  · split
    · exact .inr (.inr rfl)
    · exact .inr (.inl rfl)
theorem told2_keeps {ds : List D} {S : Sto} {Q E : HK} (h : spTold2 ds S Q E) : rd_law_told spCode (EN Q E) (startE 7 ds) S := by
  obtain ⟨cs, rs, os, st, b, rfl, hl, l1, l2, l3, g⟩ := h
  unfold rd_law_told
  refine seq_ ?_
  unfold hTry
  refine seq_ ?_
  walk_at "p"
  intro p hp
  refine ⟨p, cs, rs, os, st, b, rfl, up_same, hl, l1, l2, l3, ?_⟩
  have sl : ∀ S', Keeps p (up S p (.ins 4 [])) S' → SLe S S' := fun S' k a m e => by
    have na := sne e hp
    exact k a m na ((up_ne na).trans e)
  unfold resD2 at g
  rcases fate_cases cs rs os st with e | e | e
  · rw [e] at g ⊢
    intro S' k
    exact Rx.less (sl S' k) (Rt.mk g)
  · rw [e] at g ⊢
    intro S' k
    exact Rx.less (sl S' k) (Rt.mk g)
  · rw [e] at g ⊢
    intro S' k hp'
    refine ⟨rfl, ?_⟩
    refine ⟨_, _, Vw.obj hp', ?_⟩
    have sl2 : SLe S (dl S' p) := fun a m ea => by
      have na := sne ea hp
      rw [dl_ne na]
      exact sl S' k a m ea
    exact Rt.less sl2 g
def spDue2 : HSp := fun ds S Q _ => ∃ (cs rs os : List Str) (st : Str), ds = [.lst (cs.map D.str), .lst (rs.map D.str), .lst (os.map D.str), .str st] ∧ (∀ s ∈ cs ++ rs ++ os, Nice s) ∧ cs.length ≤ 100 ∧ rs.length ≤ 100 ∧ os.length ≤ 100 ∧ Q (resD2 cs rs os st) S
theorem sl_lstI {xs : List D} {k : Int} {n : Nat} {S : Sto} {Q : HK} (e : k = (n : Int)) (h : Q (.lst (xs.take n)) S) : gSl (.lst xs) none (some k) S Q := by
  subst e
  exact sl_seq (c := .lst) (.inr rfl) h
theorem due2_keeps {ds : List D} {S : Sto} {Q E : HK} (h : spDue2 ds S Q E) : rd_law_due spLawGood (EN Q E) (startE 6 ds) S := by
  obtain ⟨cs, rs, os, st, rfl, hl, l1, l2, l3, g⟩ := h
  unfold resD2 codeFate at g
  unfold rd_law_due
  walk_at "q"
  refine len_items (xs := cs.map D.str) rfl ?_
  rw [List.length_map]
  walk_at "g"
  rw [show decide ((3 : Int) < (cs.length : Int)) = decide (3 < cs.length) from dec_nat 3 _]
  cases c1 : decide (3 < cs.length) with
  | true =>
    rw [c1] at g
    exact Rt.mk g
  | false =>
  rw [c1] at g
  dsimp only
  refine len_items (xs := rs.map D.str) rfl ?_
  rw [List.length_map]
  walk_at "g"
  rw [show decide ((2 : Int) < (rs.length : Int)) = decide (2 < rs.length) from dec_nat 2 _]
  cases c2 : decide (2 < rs.length) with
  | true =>
    rw [c2] at g
    exact Rt.mk g
  | false =>
  rw [c2] at g
  dsimp only
  refine len_items (xs := os.map D.str) rfl ?_
  rw [List.length_map]
  walk_at "g"
  rw [show decide ((3 : Int) < (os.length : Int)) = decide (3 < os.length) from dec_nat 3 _]
  cases c3 : decide (3 < os.length) with
  | true =>
    rw [c3] at g
    exact Rt.mk g
  | false =>
  rw [c3] at g
  simp only [Bool.or_false] at g
  dsimp only
  walk_at "q"
  walk_at "g"
  try dsimp only
  refine ⟨line_le (by rw [List.length_map, List.length_map]; omega), ?_⟩
  refine ⟨line_le (by rw [List.length_append, List.length_map, List.length_map, List.length_map]; omega), ?_⟩
  rw [← List.map_append, ← List.map_append]
  have ll : (cs ++ rs ++ os).length ≤ 300 := by rw [List.length_append, List.length_append]; omega
  generalize cs ++ rs ++ os = l at hl g ll ⊢
  walk_at "q"
  refine len_items (xs := l.map D.str) rfl ?_
  rw [List.length_map]
  refine ⟨by omega, by omega, ?_⟩
  refine floop_ix (fun i env S' => S' = S ∧ ∃ y, env = [some (.lst (cs.map D.str)), some (.lst (rs.map D.str)), some (.lst (os.map D.str)), some (.str st), some (.lst (l.map D.str)), y] ∧ chkN (l.take i) (l.drop i) = chkN [] l) _ ?_ ?_ ⟨rfl, none, rfl, rfl⟩
  · rintro i d _ _ hd ⟨rfl, y, rfl, hk⟩
    obtain ⟨hi, rfl⟩ := rngD_at hd
    have hi : i < l.length := by omega
    refine ⟨_, rfl, fun K hK => ?_⟩
    have ed := List.drop_eq_getElem_cons hi
    have ni := hl l[i] (List.getElem_mem hi)
    have eat : atI (l.map D.str) ((0 : Int) + (i : Nat)) = some (.str l[i]) := by
      rw [Int.zero_add, atI_nat (l := l.map D.str) (n := i) (by rw [List.length_map]; exact hi)]
      simp
    rw [ed] at hk
    have hk' : (okName l[i] && (!(hasS (l.take i) l[i]) && chkN (l.take i ++ [l[i]]) (l.drop (i + 1)))) = chkN [] l := hk
    walk_at "p"
    refine ix_items (xs := l.map D.str) rfl eat ?_
    refine ⟨l[i], rfl, ni, ?_⟩
    cases h1 : okName l[i] with
    | false =>
      rw [h1] at hk'
      rw [← hk'] at g
      exact Rt.mk g
    | true =>
      rw [h1] at hk'
      walk_at "p"
      refine ix_items (xs := l.map D.str) rfl eat ?_
      refine sl_lstI (n := i) (by omega) ?_
      rw [← List.map_take]
      refine in_lstS (neg := false) ?_
      cases h2 : hasS (l.take i) l[i] with
      | true =>
        rw [h2] at hk'
        rw [← hk'] at g
        exact Rt.mk g
      | false =>
        rw [h2] at hk'
        simp only [Bool.not_false, Bool.true_and] at hk'
        refine hK _ _ ⟨rfl, _, rfl, ?_⟩
        rw [List.take_succ_eq_append_getElem hi]
        exact hk'
  · rintro _ _ ⟨rfl, y, rfl, hk⟩
    rw [rngD_len, show ((l.length : Int)).toNat = l.length by omega, List.take_length, List.drop_length] at hk
    have hk : true = chkN [] l := hk
    rw [← hk] at g
    simp only [Bool.true_and] at g
    walk_at "q"
    refine in_lstS (neg := true) ?_
    cases hs : hasS os st with
    | false =>
      rw [hs] at g
      exact Rt.mk g
    | true =>
      rw [hs] at g
      dsimp only [ng]
      simp only [Bool.not_true]
      walk_at "p"
      exact Rt.mk g
/-! ### drawn names -/
theorem abc_facts : abc.length = 26 ∧ (cp abc).length = 26 ∧ (cp abc).all (· < 0x110000) = true := by decide +kernel
theorem letters_loop {i j k : Nat} {p q : Addr} {env : HEnv} {Q : HK} (he : ∀ d, (env.set i (some d))[j]? = some (some (.ref p))) (hk : ∀ d, (env.set i (some d))[k]? = some (some (.str abc))) : ∀ (l : List D) (acc : List Str) (n : Nat) (S : Sto), Pen S p q n → n + l.length ≤ most → (∀ s ∈ acc, cpsOk s = true ∧ s.length = 1) →
    (∀ (ss : List Str) (S' : Sto), ss.length = acc.length + l.length → (∀ s ∈ ss, cpsOk s = true ∧ s.length = 1) → Pen S' p q (n + l.length) → Fr2 p q S S' → Q (.lst (ss.map D.str)) S') →
    cloop (.nm i) hYes (hop gIx (hV k) (hCall 2 [] spDraw (hCons (hV j) (hCons (hC (.int 26)) hNil)))) none l (acc.map D.str) env S Q
  | [], acc, n, S, pen, hn, ha, h => h acc S rfl ha pen Fr2.rfl'
  | d :: l, acc, n, S, pen, hn, ha, h => by
    simp only [cloop, chk, bindD, hYes, hop, hCall, hCons, hNil, hV, hC, he, hk, List.append_nil, List.length_cons, List.length_nil, Nat.beq, Nat.zero_add]
    simp only [List.length_cons] at hn h
    refine ⟨p, q, n, 26, rfl, by decide, by decide, pen, by omega, fun v S1 h0 h1 pen1 fr1 => ?_⟩
    obtain ⟨v, rfl⟩ := Int.eq_ofNat_of_zero_le h0
    obtain ⟨a1, a2, a3⟩ := abc_facts
    have hv : v < (cp abc).length := by omega
    have e1 : atI abc.cps.toList ((v : Nat) : Int) = some (cp abc)[v] := atI_nat hv
    show abc.length ≤ sizeLine ∧ (match atI abc.cps.toList ((v : Nat) : Int) with
      | some c => _
      | none => False)
    rw [e1]
    refine ⟨line_le (by omega), ?_⟩
    have nc : cpsOk (⟨#[(cp abc)[v]]⟩ : Str) = true := by
      have := List.all_eq_true.mp a3 (cp abc)[v] (List.getElem_mem hv)
      show [(cp abc)[v]].all (· < 0x110000) = true
      rw [List.all_cons, this] <;> rfl
    have ih := letters_loop (i := i) (j := j) (k := k) (q := q) (env := env) (Q := Q) he hk l (acc ++ [⟨#[(cp abc)[v]]⟩]) (n + 1) S1 pen1 (by omega) (fun s hs => by
      rcases List.mem_append.mp hs with hs | hs
      · exact ha s hs
      · rw [List.mem_singleton.mp hs]; exact ⟨nc, rfl⟩) fun ss S' hl hs pen' fr => h ss S' (by rw [hl, List.length_append]; show acc.length + 1 + _ = _; omega) hs (by rw [show n + (l.length + 1) = n + 1 + l.length by omega]; exact pen') (fr1.trans fr)
    rw [List.map_append] at ih
    exact ih
def spWordL : HSp := fun ds S Q _ => ∃ (p q : Addr) (n m : Nat), ds = [.ref p, .int (m : Nat)] ∧ 1 ≤ m ∧ m ≤ 100 ∧ Pen S p q n ∧ n + 1 + m ≤ most ∧ ∀ (s : Str) (S' : Sto), Nice s → Pen S' p q (n + 1 + m) → Fr2 p q S S' → Q (.str s) S'
theorem wordl_keeps {ds : List D} {S : Sto} {Q E : HK} (h : spWordL ds S Q E) : rd_law_word spDraw (EN Q E) (startE 4 ds) S := by
  obtain ⟨p, q, n, m, rfl, m1, m2, pen, hn, g⟩ := h
  have hn' : n + 1 + m ≤ 1000000 := hn
  unfold rd_law_word
  walk_at "q"
  refine ⟨p, q, n, (m : Nat), rfl, by omega, by omega, pen, by show n < 1000000; omega, fun v S1 v0 v1 pen1 fr1 => ?_⟩
  walk_at "g"
  refine ⟨by omega, by omega, ?_⟩
  refine letters_loop (i := 3) (j := 0) (k := 2) (p := p) (q := q) (fun d => rfl) (fun d => rfl) (rngD 0 (1 + v).toNat) [] (n + 1) S1 pen1 (by rw [rngD_len]; show n + 1 + _ ≤ 1000000; omega) (fun s hs => by cases hs) fun ss S2 hl hs pen2 fr2 => ?_
  rw [rngD_len] at hl pen2
  simp only [List.length_nil, Nat.zero_add] at hl
  have s1 := sum_le (l := ss) (m := 1) (fun y hy => by rw [(hs y hy).2]; exact Nat.le_refl _)
  have e0 : ("" : PySem.Str).length = 0 := by decide +kernel
  have jl := join_len ("" : PySem.Str) ss
  rw [e0] at jl
  refine join_lst (by rw [e0]; omega) ?_
  exact Rt.mk (g _ S2 ⟨cpsOk_join (by decide +kernel) ss fun s h => (hs s h).1, by omega⟩ (pen2.mono (by omega)) (fr1.trans fr2))
theorem pigeon : ∀ (l m : List Str), l.Nodup → (∀ x ∈ l, x ∈ m) → l.length ≤ m.length
  | [], m, _, _ => Nat.zero_le _
  | x :: l, m, hd, h => by
    obtain ⟨h1, h2⟩ := List.nodup_cons.mp hd
    have hm := h x List.mem_cons_self
    have ih := pigeon l (m.erase x) h2 fun y hy => by
      have hne : y ≠ x := fun e => h1 (e ▸ hy)
      exact (List.mem_erase_of_ne hne).mpr (h y (List.mem_cons_of_mem _ hy))
    rw [List.length_erase_of_mem hm] at ih
    have := List.length_pos_of_mem hm
    rw [List.length_cons]
    omega
def cands : List Str := (List.range 12).map fun (i : Nat) => Txt.mul ("a" : PySem.Str) (1 + (i : Int))
theorem cands_facts : cands.length = 12 ∧ cands.Nodup ∧ (∀ s ∈ cands, cpsOk s = true ∧ s.length ≤ 12) := by decide +kernel
theorem hasS_mem {ss : List Str} {x : Str} : hasS ss x = true ↔ x ∈ ss := by
  unfold hasS
  rw [List.any_eq_true]
  constructor
  · rintro ⟨y, h1, h2⟩
    rw [← eq_of_beq h2]; exact h1
  · intro h
    exact ⟨x, h, by simp⟩
theorem spare_some {found : List Str} (h : found.length ≤ 11) : ∃ x r, (cands.filter fun s => !hasS found s) = x :: r := by
  obtain ⟨c1, c2, c3⟩ := cands_facts
  cases e : cands.filter fun s => !hasS found s with
  | cons x r => exact ⟨x, r, rfl⟩
  | nil =>
    have := pigeon cands found c2 fun x hx => by
      rw [List.filter_eq_nil_iff] at e
      have := e x hx
      rw [← hasS_mem]
      simpa using this
    omega
theorem filt2_loop {i j : Nat} {env : HEnv} {q : Addr} {found : List Str} {S : Sto} {Q : HK} (hi : i < env.length) (hj : ∀ d, (env.set i (some d))[j]? = some (some (.ref q))) (hq : S q = some (.lst (found.map D.str))) : ∀ (l acc : List Str), Q (.lst ((acc ++ l.filter fun s => !hasS found s).map D.str)) S →
    cloop (.nm i) (hB (hop gNotIn (hV i) (hV j))) (hV i) none (l.map D.str) (acc.map D.str) env S Q
  | [], acc, h => by rw [List.filter_nil, List.append_nil] at h; exact h
  | c :: l, acc, h => by
    simp only [List.map_cons, cloop, chk, bindD, hB, hop, hV, hj, List.getElem?_set_self hi]
    refine in_refS (neg := true) hq ?_
    cases e : hasS found c with
    | true =>
      rw [List.filter_cons_of_neg (by rw [e]; decide)] at h
      exact filt2_loop (i := i) (j := j) (env := env) (Q := Q) hi hj hq l acc h
    | false =>
      rw [List.filter_cons_of_pos (by rw [e]; rfl)] at h
      have ih := filt2_loop (i := i) (j := j) (env := env) (Q := Q) hi hj hq l (acc ++ [c]) (by rw [List.append_assoc]; exact h)
      rw [List.map_append] at ih
      exact ih
theorem mul_loop {i : Nat} {env : HEnv} {S : Sto} {Q : HK} (hi : i < env.length) : ∀ (l : List Nat) (acc : List Str), (∀ n ∈ l, n < 12) → Q (.lst ((acc ++ l.map fun (n : Nat) => Txt.mul ("a" : PySem.Str) (1 + (n : Int))).map D.str)) S →
    cloop (.nm i) hYes (hop gMulS (hC (.str ("a" : PySem.Str))) (hV i)) none (l.map fun (n : Nat) => .int (1 + (n : Int))) (acc.map D.str) env S Q
  | [], acc, _, h => by rw [List.map_nil, List.append_nil] at h; exact h
  | n :: l, acc, hl, h => by
    have hn := hl n List.mem_cons_self
    have ih := mul_loop (i := i) (env := env) (S := S) (Q := Q) hi l (acc ++ [Txt.mul ("a" : PySem.Str) (1 + (n : Int))]) (fun x hx => hl x (List.mem_cons_of_mem _ hx)) (by rw [List.append_assoc]; exact h)
    simp only [List.map_cons, cloop, chk, bindD, hYes, hop, hC, hV, List.getElem?_set_self hi]
    refine ⟨⟨by decide +kernel, by omega, by omega⟩, ?_⟩
    rw [List.map_append] at ih
    exact ih
def badNames : List Str := [("" : PySem.Str), ("A" : PySem.Str), ("a1" : PySem.Str), ("a b" : PySem.Str), ("_" : PySem.Str), ("bC" : PySem.Str), ("zz" : PySem.Str) ++ Txt.mul ("y" : PySem.Str) 11, Txt.mul ("a" : PySem.Str) 13, ("-" : PySem.Str), Txt.mul ("b" : PySem.Str) 14]
theorem bad_nice : ∀ s ∈ badNames, cpsOk s = true ∧ s.length ≤ 1000 := by decide +kernel
def spName2 : HSp := fun ds S Q _ => ∃ (p q : Addr) (n : Nat) (s : Str), ds = [.ref p, .str s] ∧ Nice s ∧ Pen S p q n ∧ n + 2 ≤ most ∧ ∀ (s' : Str) (S' : Sto), Nice s' → Pen S' p q (n + 2) → Fr2 p q S S' → Q (.str s') S'
theorem name2_keeps {ds : List D} {S : Sto} {Q E : HK} (h : spName2 ds S Q E) : rd_law_name spDraw spPick (EN Q E) (startE 3 ds) S := by
  obtain ⟨p, q, n, s, rfl, ns, pen, hn, g⟩ := h
  have hn' : n + 2 ≤ 1000000 := hn
  unfold rd_law_name
  walk_at "q"
  refine ⟨⟨by decide +kernel, by decide, by decide⟩, ?_⟩
  refine ⟨line_le (by decide +kernel), ?_⟩
  refine ⟨⟨by decide +kernel, by decide, by decide⟩, ?_⟩
  refine ⟨⟨by decide +kernel, by decide, by decide⟩, ?_⟩
  refine ⟨p, q, n, 12, rfl, by decide, by decide, pen, by show n < 1000000; omega, fun v S1 v0 v1 pen1 fr1 => ?_⟩
  refine eq_int _ _ _ _ ?_
  cases v == (0 : Int) with
  | false => exact Rt.mk (g s S1 ns (pen1.mono (by omega)) fr1)
  | true =>
    refine ⟨p, q, _, .lst (badNames.map D.str), badNames.map D.str, rfl, rfl, by simp [badNames], by show 10 ≤ _; omega, pen1, by show n + 1 < 1000000; omega, fun _ _ => rfl, fun w S2 hw pen2 fr2 => ?_⟩
    obtain ⟨s', hs', rfl⟩ := List.mem_map.mp hw
    exact Rt.mk (g s' S2 (bad_nice s' hs') pen2 (fr1.trans fr2))
theorem nmT_keeps {p r : Addr} {m : Int} {ss : List Str} {s : Str} {S : Sto} {y3 y7 : Option D} {D0 : HEnds} (hq : S r = some (.lst (ss.map D.str))) (hl : ss.length ≤ 11) (ns : Nice s)
    (hK : ∀ (x : Str) (y7 : Option D), Nice x → D0.nx [some (.ref p), some (.int m), some (.ref r), y3, some (.str s), none, none, y7] (up S r (.lst ((ss ++ [x]).map D.str)))) :
    nmT D0 [some (.ref p), some (.int m), some (.ref r), y3, some (.str s), none, none, y7] S := by
  obtain ⟨x, rest, e⟩ := spare_some hl
  have hx : x ∈ cands := by
    have : x ∈ cands.filter fun s => !hasS ss s := by rw [e]; exact List.mem_cons_self
    exact (List.mem_filter.mp this).1
  have nx : Nice x := ⟨(cands_facts.2.2 x hx).1, by have := (cands_facts.2.2 x hx).2; omega⟩
  unfold nmT
  walk_at "q"
  refine ⟨by decide, ?_⟩
  show cloop _ _ _ _ ((List.range 12).map fun (n : Nat) => .int (1 + (n : Int))) (([] : List Str).map D.str) _ _ _
  refine mul_loop (i := 6) (by show 6 < 8; decide) (List.range 12) [] (fun n hn => List.mem_range.mp hn) ?_
  rw [List.nil_append]
  show gSq (.lst (cands.map D.str)) _ _
  try dsimp only [gSq, items, ckOf]
  refine filt2_loop (i := 5) (j := 2) (by show 5 < 8; decide) (fun d => rfl) hq cands [] ?_
  rw [List.nil_append, e]
  walk_at "p"
  rw [is_lst_ref hq]
  dsimp only
  refine in_refS (neg := false) hq ?_
  simp only [ng]
  have fin : ∀ z : Str, Nice z → gAppend (.ref r) [.str z] S fun _ S' => D0.nx [some (.ref p), some (.int m), some (.ref r), y3, some (.str s), none, none, some (.lst ((x :: rest).map D.str))] S' := fun z nz => by
    refine app_ref hq (by rw [List.length_map]; omega) ?_
    have := hK z (some (.lst ((x :: rest).map D.str))) nz
    rw [List.map_append] at this
    exact this
  cases hasS ss s with
  | false => exact fin s ns
  | true =>
    refine ix_items (xs := D.str x :: rest.map D.str) rfl (d := .str x) (atI_nat (l := D.str x :: rest.map D.str) (n := 0) (by simp)) ?_
    exact fin x nx
def spNames2 : HSp := fun ds S Q _ => ∃ (p q : Addr) (n m : Nat), ds = [.ref p, .int (m : Nat)] ∧ m ≤ 11 ∧ Pen S p q n ∧ n + 20 * m ≤ 900000 ∧ ∀ (r : Addr) (ss : List Str) (S' : Sto), S r = none → S' r = some (.lst (ss.map D.str)) → ss.length = m → (∀ s ∈ ss, Nice s) → Pen S' p q (n + 20 * m) → (∀ a, a ≠ p → a ≠ q → a ≠ r → S' a = S a) → Q (.ref r) S'
theorem names2_keeps {ds : List D} {S : Sto} {Q E : HK} (h : spNames2 ds S Q E) : rd_law_names spWordL spDraw (EN Q E) (startE 8 ds) S := by
  obtain ⟨p, q, n, m, rfl, hm, pen, hn, g⟩ := h
  unfold rd_law_names
  walk_at "q"
  intro r hr
  obtain ⟨nrp, nrq⟩ := pen.notP hr
  have e0 : up S r (.lst []) r = some (.lst (([] : List Str).map D.str)) := up_same
  have pen0 := pen.up (m := .lst []) hr
  have fr0 : ∀ a, a ≠ p → a ≠ q → a ≠ r → up S r (.lst []) a = S a := fun a _ _ h => up_ne h
  generalize up S r (.lst []) = S0 at e0 pen0 fr0 ⊢
  walk_at "q"
  refine ⟨by omega, by omega, ?_⟩
  refine floop_ix (fun i env S' => Pen S' p q (n + 20 * i) ∧ (∀ a, a ≠ p → a ≠ q → a ≠ r → S' a = S a) ∧ (∃ ss : List Str, ss.length = i ∧ (∀ s ∈ ss, Nice s) ∧ S' r = some (.lst (ss.map D.str))) ∧ ∃ y3 y4 y7, env = [some (.ref p), some (.int (m : Nat)), some (.ref r), y3, y4, none, none, y7]) _ ?_ ?_ ⟨pen0, fr0, ⟨[], rfl, fun s hs => (by cases hs), e0⟩, none, none, none, rfl⟩
  · rintro i d _ S1 hd ⟨pen1, fr1, ⟨ss, hl, hs, e1⟩, y3, y4, y7, rfl⟩
    obtain ⟨hi, rfl⟩ := rngD_at hd
    have hi : i < m := by omega
    refine ⟨_, rfl, fun K hK => ?_⟩
    walk_at "q"
    refine ⟨p, q, _, 4, rfl, by decide, by decide, pen1, by show _ < 1000000; omega, fun v S2 v0 v1 pen2 fr2 => ?_⟩
    refine eq_int _ _ _ _ ?_
    have fin : ∀ (s : Str) (S3 : Sto) (k : Nat) (DD : HEnds), DD.nx = K → k ≤ 12 → Nice s → Pen S3 p q (n + 20 * i + 1 + 1 + k) → Fr2 p q S2 S3 → nmT DD [some (.ref p), some (.int (m : Nat)), some (.ref r), some (.int (0 + (i : Nat))), some (.str s), none, none, y7] S3 := by
      intro s S3 k DD eD hk ns pen3 fr3
      have e3 : S3 r = some (.lst (ss.map D.str)) := ((fr2.trans fr3) r nrp nrq).trans e1
      refine nmT_keeps e3 (by omega) ns fun x y7 nx => ?_
      rw [eD]
      refine hK _ _ ⟨(pen3.frame (up_ne nrp.symm) (up_ne nrq.symm)).mono (by omega), fun a h1 h2 h3 => (up_ne h3).trans (((fr2.trans fr3) a h1 h2).trans (fr1 a h1 h2 h3)), ⟨ss ++ [x], by rw [List.length_append, hl] <;> rfl, fun z hz => ?_, up_same⟩, _, _, _, rfl⟩
      rcases List.mem_append.mp hz with hz | hz
      · exact hs z hz
      · rw [List.mem_singleton.mp hz]; exact nx
    cases v == (0 : Int) with
    | true => exact ⟨p, q, _, 12, rfl, by decide, by decide, pen2, by show _ ≤ 1000000; omega, fun s S3 ns pen3 fr3 => fin s S3 12 _ rfl (by decide) ns pen3 fr3⟩
    | false => exact ⟨p, q, _, 2, rfl, by decide, by decide, pen2, by show _ ≤ 1000000; omega, fun s S3 ns pen3 fr3 => fin s S3 2 _ rfl (by decide) ns pen3 fr3⟩
  · rintro _ S1 ⟨pen1, fr1, ⟨ss, hl, hs, e1⟩, y3, y4, y7, rfl⟩
    rw [rngD_len] at pen1 hl
    walk_at "p"
    exact Rt.mk (g r ss S1 hr e1 (by omega) hs (pen1.mono (by omega)) fr1)
theorem cloopM_eq {p : Pt} {tt : HTT} {te : HTE} {k : Ck} {Q : HK} : ∀ (l acc : List D) (env : HEnv) (S : Sto), cloopM p tt te k l acc env S Q = cloop p tt te k l acc env S (fun d S' => match d with
    | .lst xs => ∀ q, S' q = none → Q (.ref q) (up S' q (.lst xs))
    | _ => False)
  | [], acc, env, S => rfl
  | d :: l, acc, env, S => by
    have ih := fun acc S => cloopM_eq (p := p) (tt := tt) (te := te) (k := k) (Q := Q) l acc env S
    simp only [cloopM, cloop, ih] <;> rfl
theorem nm_loop {i j : Nat} {p q r : Addr} {full : List D} {env : HEnv} {Q : HK} (hi : i < env.length) (he : ∀ d, (env.set i (some d))[j]? = some (some (.ref p))) (nrp : r ≠ p) (nrq : r ≠ q) : ∀ (l acc : List Str) (n : Nat) (S : Sto), Pen S p q n → n + 2 * l.length ≤ 1000000 → S r = some (.lst full) → (∀ s ∈ l, Nice s) → (∀ s ∈ acc, Nice s) →
    (∀ (ss : List Str) (S' : Sto), ss.length = acc.length + l.length → (∀ s ∈ ss, Nice s) → Pen S' p q (n + 2 * l.length) → Fr2 p q S S' → Q (.lst (ss.map D.str)) S') →
    cloop (.nm i) hYes (hCall 2 [] spName2 (hCons (hV j) (hCons (hV i) hNil))) (some (r, full)) (l.map D.str) (acc.map D.str) env S Q
  | [], acc, n, S, pen, hn, hr, hl, ha, h => ⟨hr, h acc S rfl ha pen Fr2.rfl'⟩
  | x :: l, acc, n, S, pen, hn, hr, hl, ha, h => by
    simp only [List.length_cons] at hn h
    refine ⟨hr, ?_⟩
    simp only [bindD, hYes, hCall, hCons, hNil, hV, he, List.getElem?_set_self hi, List.append_nil, List.length_cons, List.length_nil, Nat.beq, Nat.zero_add]
    refine ⟨p, q, n, x, rfl, hl x List.mem_cons_self, pen, by show n + 2 ≤ 1000000; omega, fun s S1 ns pen1 fr1 => ?_⟩
    have ih := nm_loop (i := i) (j := j) (q := q) (full := full) (env := env) (Q := Q) hi he nrp nrq l (acc ++ [s]) (n + 2) S1 pen1 (by omega) ((fr1 r nrp nrq).trans hr) (fun z hz => hl z (List.mem_cons_of_mem _ hz)) (fun z hz => by
      rcases List.mem_append.mp hz with hz | hz
      · exact ha z hz
      · rw [List.mem_singleton.mp hz]; exact ns) fun ss S' hl2 hs pen' fr => h ss S' (by rw [hl2, List.length_append]; show acc.length + 1 + _ = _; omega) hs (by rw [show n + 2 * (l.length + 1) = n + 2 + 2 * l.length by omega]; exact pen') (fr1.trans fr)
    rw [List.map_append] at ih
    exact ih
theorem mkf_loop {i j : Nat} {b : Bool} {env : HEnv} {S : Sto} {Q : HK} (hi : i < env.length) (hj : ∀ d, (env.set i (some d))[j]? = some (some (bodyIn b))) : ∀ (l acc : List Str), Q (.lst ((acc ++ l).map (fnO b))) S →
    cloop (.nm i) hYes (hMake 3 3 [] spFnInit (hCons (hV i) (hCons (hV j) hNil))) none (l.map D.str) (acc.map (fnO b)) env S Q
  | [], acc, h => by rw [List.append_nil] at h; exact h
  | x :: l, acc, h => by
    have ih := mkf_loop (i := i) (j := j) (b := b) (env := env) (S := S) (Q := Q) hi hj l (acc ++ [x]) (by rw [List.append_assoc]; exact h)
    rw [List.map_append] at ih
    simp only [List.map_cons, cloop, chk, bindD, hYes, hMake, hCons, hNil, hV, hj, List.getElem?_set_self hi, List.append_nil, List.length_cons, List.length_nil, Nat.beq, Nat.zero_add, List.cons_append, List.nil_append]
    intro p hp
    refine ⟨p, x, b, rfl, up_same, rfl, ?_⟩
    rw [up_up]
    refine ⟨_, _, Vw.obj up_same, ?_⟩
    rw [dl_up hp]
    exact ih
theorem eqv_strs : ∀ ss : List Str, PyData.eqvAll (toPs (ss.map D.str)) (toPs (ss.map D.str)) = true
  | [] => by simp [toPs, PyData.eqvAll]
  | s :: ss => by
    have := eqv_strs ss
    simp only [List.map_cons, toPs, PyData.eqvAll, this, Bool.and_true]
    simp [toP, PyData.eqv]
theorem ne_res {cs rs os : List Str} {st : Str} (hc : ∀ s ∈ cs, Nice s) (hr : ∀ s ∈ rs, Nice s) (hs : Nice st) {S : Sto} {Q : HK} (h : Q (.bl false) S) : gNe (resD2 cs rs os st) (resD2 cs rs os st) S Q := by
  unfold resD2
  rcases fate_cases cs rs os st with e | e | e
  · rw [e]
    exact ne_tups (by decide +kernel) (by decide +kernel) (by
      rw [show deq (.tup [.str ("great" : PySem.Str), .bl true, .bl false]) (.tup [.str ("great" : PySem.Str), .bl true, .bl false]) = true by unfold deq; simp [toP, toPs, PyData.eqv, PyData.eqvAll]]
      exact h)
  · rw [e]
    exact ne_tups (by decide +kernel) (by decide +kernel) (by
      rw [show deq (.tup [.str ("bad" : PySem.Str), .non, .non, .bl true, .bl false]) (.tup [.str ("bad" : PySem.Str), .non, .non, .bl true, .bl false]) = true by unfold deq; simp [toP, toPs, PyData.eqv, PyData.eqvAll]]
      exact h)
  · rw [e]
    have d1 := doks_strs2 cs 58 fun s h => strOk_of (hc s h).1
    have d2 := doks_strs2 rs 58 fun s h => strOk_of (hr s h).1
    have dk : dok 60 (.tup [.str ("made" : PySem.Str), .tup (cs.map D.str), .tup (rs.map D.str), .str st]) = true := by
      show (PyData.strOk ("made" : PySem.Str) && (doks 58 (cs.map D.str) && (doks 58 (rs.map D.str) && (PyData.strOk st && true)))) = true
      rw [d1, d2, strOk_of hs.1, show PyData.strOk ("made" : PySem.Str) = true by decide +kernel] <;> rfl
    have dq : deq (.tup [.str ("made" : PySem.Str), .tup (cs.map D.str), .tup (rs.map D.str), .str st]) (.tup [.str ("made" : PySem.Str), .tup (cs.map D.str), .tup (rs.map D.str), .str st]) = true := by
      have e1 := eqv_strs cs
      have e2 := eqv_strs rs
      unfold deq
      simp only [toP, toPs, PyData.eqv, PyData.eqvAll, e1, e2, beq_self_eq_true, Bool.and_true]
    exact ne_tups dk dk (by rw [dq]; exact h)
theorem list_lst {xs : List D} {S : Sto} {Q : HK} (h : Q (.lst xs) S) : gList [.lst xs] S Q := h
def tC2 : HTS := (hSeq (hSet 12 (hLc (hiSq (hV 9)) (.nm 4) hYes (hMake 3 3 [] spFnInit (hCons (hV 4) (hCons (hV 11) hNil))) [4]))
  (hIfS (hB (hop gNe (hCall 4 [] spTold2 (hCons (hcb gList (hCons (hV 6) hNil)) (hCons (hcb gList (hCons (hV 8) hNil)) (hCons (hV 12) (hCons (hV 10) hNil))))) (hCall 4 [] spDue2 (hCons (hV 6) (hCons (hV 8) (hCons (hV 9) (hCons (hV 10) hNil))))))) (hRet (hC (.bl false))) hNx))
def tC : HTS := (hSeq (hSet 11 (hIf (hB (hop gEq (hCall 2 [] spDraw (hCons (hV 1) (hCons (hC (.int 2)) hNil))) (hC (.int 0)))) (hLst (hCons (hTup (hCons (hC (.str ("fault" : PySem.Str))) hNil)) hNil)) (hTup hNil)))
  tC2)
def tB : HTS := (hSeq (hPar 6 7 (hCons (hSl (hV 5) hNoP (hPart (hop gIx (hV 3) (hC (.int 0))))) (hCons (hSl (hV 5) (hPart (hop gIx (hV 3) (hC (.int 0)))) hNoP) hNil)))
  (hSeq (hPar 8 9 (hCons (hSl (hV 7) hNoP (hPart (hop gIx (hV 3) (hC (.int 1))))) (hCons (hSl (hV 7) (hPart (hop gIx (hV 3) (hC (.int 1)))) hNoP) hNil)))
  (hSeq (hSet 10 (hIf (hB (hop gEq (hCall 2 [] spDraw (hCons (hV 1) (hCons (hC (.int 3)) hNil))) (hC (.int 0)))) (hCall 2 [] spPick (hCons (hV 1) (hCons (hop gAdd (hV 9) (hLst (hCons (hC (.str ("ab" : PySem.Str))) hNil))) hNil))) (hop gIx (hop gAdd (hV 9) (hLst (hCons (hC (.str ("ab" : PySem.Str))) hNil))) (hC (.int 0)))))
  tC)))
def tA : HTS := (hSeq (hSet 5 (hLcM (hiSq (hCall 2 [] spNames2 (hCons (hV 1) (hCons (hcb gSum (hCons (hV 3) hNil)) hNil)))) (.nm 4) hYes (hCall 2 [] spName2 (hCons (hV 1) (hCons (hV 4) hNil))) [4]))
  (hSeq (hIfS (hAnd (hB (hop gGt (hcb gLen (hCons (hV 5) hNil)) (hC (.int 1)))) (hB (hop gEq (hCall 2 [] spDraw (hCons (hV 1) (hCons (hC (.int 4)) hNil))) (hC (.int 0))))) (hSetI (hV 5) (hCall 2 [] spDraw (hCons (hV 1) (hCons (hcb gLen (hCons (hV 5) hNil)) hNil))) (hCall 2 [] spPick (hCons (hV 1) (hCons (hV 5) hNil)))) hNx)
  tB))
/-! ### the law -/
def kI2 (p q : Addr) (x0 : D) (n : Nat) (env : HEnv) (S : Sto) : Prop := Pen S p q n ∧ ∃ y2 y3 y5 y6 y7 y8 y9 y10 y11 y12, env = [some x0, some (.ref p), y2, y3, none, y5, y6, y7, y8, y9, y10, y11, y12]
theorem tC_keeps {p q : Addr} {x0 : D} {N : Nat} {cs rs os : List Str} {st : Str} (hn : ∀ s ∈ cs ++ rs ++ os, Nice s) (hst : Nice st) (l1 : cs.length ≤ 100) (l2 : rs.length ≤ 100) (l3 : os.length ≤ 100) {S : Sto} {n : Nat} (pen : Pen S p q n) (hN : n + 1 ≤ N) (hN2 : N ≤ 900000) {y2 y3 y5 y7 y11 y12 : Option D} {D0 : HEnds}
    (hK : ∀ e S', kI2 p q x0 N e S' → D0.nx e S') : tC D0 [some x0, some (.ref p), y2, y3, none, y5, some (.lst (cs.map D.str)), y7, some (.lst (rs.map D.str)), some (.lst (os.map D.str)), some (.str st), y11, y12] S := by
  have key : ∀ (b : Bool) (S1 : Sto), Pen S1 p q (n + 1) → tC2 D0 [some x0, some (.ref p), y2, y3, none, y5, some (.lst (cs.map D.str)), y7, some (.lst (rs.map D.str)), some (.lst (os.map D.str)), some (.str st), some (bodyIn b), y12] S1 := by
    intro b S1 pen1
    unfold tC2
    walk_at "q"
    try dsimp only [gSq, items, ckOf]
    refine mkf_loop (i := 4) (j := 11) (b := b) (by show 4 < 13; decide) (fun d => rfl) os [] ?_
    rw [List.nil_append]
    walk_at "p"
    refine list_lst ?_
    refine list_lst ?_
    refine ⟨cs, rs, os, st, b, rfl, fun s hs => (hn s hs).2, l1, l2, l3, ?_⟩
    refine ⟨cs, rs, os, st, rfl, hn, l1, l2, l3, ?_⟩
    refine ne_res (fun s hs => hn s (by simp [hs])) (fun s hs => hn s (by simp [hs])) hst ?_
    exact hK _ _ ⟨pen1.mono hN, _, _, _, _, _, _, _, _, _, _, rfl⟩
  unfold tC
  walk_at "q"
  refine ⟨p, q, n, 2, rfl, by decide, by decide, pen, by show n < 1000000; omega, fun v S1 v0 v1 pen1 fr1 => ?_⟩
  refine eq_int _ _ _ _ ?_
  cases v == (0 : Int) with
  | true => exact key true S1 pen1
  | false => exact key false S1 pen1
theorem sl_refTo {r : Addr} {xs : List D} {c : Nat} {S : Sto} {Q : HK} (e : S r = some (.lst xs)) (h : Q (.lst (xs.take c)) S) : gSl (.ref r) none (some (c : Int)) S Q := by
  have it : itemsL S (.ref r) = some xs := by unfold itemsL; dsimp only; rw [e]
  show (match itemsL S (.ref r) with
    | some ds => Q (.lst (cutD ds none (some (c : Int)))) S
    | none => False)
  rw [it]
  dsimp only
  rw [cut_take]
  exact h
theorem sl_refFrom {r : Addr} {xs : List D} {c : Nat} {S : Sto} {Q : HK} (e : S r = some (.lst xs)) (hc : c ≤ xs.length) (h : Q (.lst (xs.drop c)) S) : gSl (.ref r) (some (c : Int)) none S Q := by
  have it : itemsL S (.ref r) = some xs := by unfold itemsL; dsimp only; rw [e]
  show (match itemsL S (.ref r) with
    | some ds => Q (.lst (cutD ds (some (c : Int)) none)) S
    | none => False)
  rw [it]
  dsimp only
  rw [cut_drop _ _ hc]
  exact h
theorem sl_lstFrom {xs : List D} {c : Nat} {S : Sto} {Q : HK} (hc : c ≤ xs.length) (h : Q (.lst (xs.drop c)) S) : gSl (.lst xs) (some (c : Int)) none S Q := by
  show Q (.lst (cutD xs (some (c : Int)) none)) S
  rw [cut_drop _ _ hc]
  exact h
theorem tB_keeps2 {p q r : Addr} {x0 : D} {N : Nat} {ss : List Str} {c0 c1 c2 : Nat} (hl : ss.length = c0 + c1 + c2) (hm : c0 + c1 + c2 ≤ 11) (hs : ∀ s ∈ ss, Nice s) {S : Sto} {n : Nat} (pen : Pen S p q n) (er : S r = some (.lst (ss.map D.str))) (hN : n + 3 ≤ N) (hN2 : N ≤ 900000) {y2 y6 y7 y8 y9 y10 y11 y12 : Option D} {D0 : HEnds}
    (hK : ∀ e S', kI2 p q x0 N e S' → D0.nx e S') : tB D0 [some x0, some (.ref p), y2, some (.lst [.int (c0 : Nat), .int (c1 : Nat), .int (c2 : Nat)]), none, some (.ref r), y6, y7, y8, y9, y10, y11, y12] S := by
  unfold tB
  refine seq_ ?_
  simp only [hPar]
  walk_at "p"
  refine ix_items (xs := [.int (c0 : Nat), .int (c1 : Nat), .int (c2 : Nat)]) rfl (d := .int (c0 : Nat)) rfl ?_
  walk_at "p"
  refine sl_refTo er ?_
  refine ix_items (xs := [.int (c0 : Nat), .int (c1 : Nat), .int (c2 : Nat)]) rfl (d := .int (c0 : Nat)) rfl ?_
  walk_at "p"
  refine sl_refFrom er (by rw [List.length_map]; omega) ?_
  rw [← List.map_take, ← List.map_drop]
  refine seq_ ?_
  simp only [hPar]
  walk_at "p"
  refine ix_items (xs := [.int (c0 : Nat), .int (c1 : Nat), .int (c2 : Nat)]) rfl (d := .int (c1 : Nat)) rfl ?_
  walk_at "p"
  refine sl_lstI (n := c1) rfl ?_
  refine ix_items (xs := [.int (c0 : Nat), .int (c1 : Nat), .int (c2 : Nat)]) rfl (d := .int (c1 : Nat)) rfl ?_
  walk_at "p"
  refine sl_lstFrom (by rw [List.length_map, List.length_drop]; omega) ?_
  rw [← List.map_take, ← List.map_drop]
  have n1 : ∀ s ∈ ss.take c0, Nice s := fun s h => hs s (List.mem_of_mem_take h)
  have n2 : ∀ s ∈ (ss.drop c0).take c1, Nice s := fun s h => hs s (List.mem_of_mem_drop (List.mem_of_mem_take h))
  have n3 : ∀ s ∈ (ss.drop c0).drop c1, Nice s := fun s h => hs s (List.mem_of_mem_drop (List.mem_of_mem_drop h))
  have l1 : (ss.take c0).length ≤ 100 := by rw [List.length_take]; omega
  have l2 : ((ss.drop c0).take c1).length ≤ 100 := by rw [List.length_take]; omega
  have l3 : ((ss.drop c0).drop c1).length ≤ 100 := by rw [List.length_drop, List.length_drop]; omega
  generalize ss.take c0 = cs at n1 l1 ⊢
  generalize (ss.drop c0).take c1 = rs at n2 l2 ⊢
  generalize (ss.drop c0).drop c1 = os at n3 l3 ⊢
  have hn : ∀ s ∈ cs ++ rs ++ os, Nice s := fun s h => by
    rcases List.mem_append.mp h with h | h
    · rcases List.mem_append.mp h with h | h
      · exact n1 s h
      · exact n2 s h
    · exact n3 s h
  have nab : Nice ("ab" : PySem.Str) := ⟨by decide +kernel, by decide +kernel⟩
  have hab : ∀ s ∈ os ++ [("ab" : PySem.Str)], Nice s := fun s h => by
    rcases List.mem_append.mp h with h | h
    · exact n3 s h
    · rw [List.mem_singleton.mp h]; exact nab
  have eab : os.map D.str ++ [.str ("ab" : PySem.Str)] = (os ++ [("ab" : PySem.Str)]).map D.str := by rw [List.map_append] <;> rfl
  walk_at "q"
  refine ⟨p, q, n, 3, rfl, by decide, by decide, pen, by show n < 1000000; omega, fun v S1 v0 v1 pen1 fr1 => ?_⟩
  refine eq_int _ _ _ _ ?_
  cases v == (0 : Int) with
  | true =>
    refine add_lst (xs := os.map D.str) (ys := [.str ("ab" : PySem.Str)]) (by rw [List.length_map]; show _ + 1 ≤ _; omega) ?_
    rw [eab]
    refine ⟨p, q, _, .lst ((os ++ [("ab" : PySem.Str)]).map D.str), (os ++ [("ab" : PySem.Str)]).map D.str, rfl, rfl, by simp, by rw [List.length_map, List.length_append]; show _ + 1 ≤ _; omega, pen1, by show n + 1 < 1000000; omega, fun _ _ => rfl, fun w S2 hw pen2 fr2 => ?_⟩
    obtain ⟨st, hst, rfl⟩ := List.mem_map.mp hw
    exact tC_keeps hn (hab st hst) l1 l2 l3 pen2 (by omega) hN2 hK
  | false =>
    refine add_lst (xs := os.map D.str) (ys := [.str ("ab" : PySem.Str)]) (by rw [List.length_map]; show _ + 1 ≤ _; omega) ?_
    rw [eab]
    have h0 : 0 < (os ++ [("ab" : PySem.Str)]).length := by simp
    refine ix_items (xs := (os ++ [("ab" : PySem.Str)]).map D.str) rfl (d := .str (os ++ [("ab" : PySem.Str)])[0]) (by
      have := atI_nat (l := (os ++ [("ab" : PySem.Str)]).map D.str) (n := 0) (by rw [List.length_map]; exact h0)
      rw [List.getElem_map] at this
      exact this) ?_
    exact tC_keeps hn (hab _ (List.getElem_mem h0)) l1 l2 l3 pen1 (by omega) hN2 hK
theorem tA_keeps2 {p q : Addr} {x0 : D} {N : Nat} {c0 c1 c2 : Nat} (hm : c0 + c1 + c2 ≤ 11) {S : Sto} {n : Nat} (pen : Pen S p q n) (hN : n + 260 ≤ N) (hN2 : N ≤ 800000) {y2 y5 y6 y7 y8 y9 y10 y11 y12 : Option D} {D0 : HEnds}
    (hK : ∀ e S', kI2 p q x0 N e S' → D0.nx e S') : tA D0 [some x0, some (.ref p), y2, some (.lst [.int (c0 : Nat), .int (c1 : Nat), .int (c2 : Nat)]), none, y5, y6, y7, y8, y9, y10, y11, y12] S := by
  unfold tA
  walk_at "q"
  refine over_lst (xs := [.int (c0 : Nat), .int (c1 : Nat), .int (c2 : Nat)]) (ns := [(c0 : Int), (c1 : Int), (c2 : Int)]) rfl ?_
  have e3 : ([(c0 : Int), (c1 : Int), (c2 : Int)] : List Int).sum = ((c0 + c1 + c2 : Nat) : Int) := by simp; omega
  rw [e3]
  refine ⟨p, q, n, c0 + c1 + c2, rfl, hm, pen, by omega, fun r ss S1 hr er hl hs pen1 fr1 => ?_⟩
  obtain ⟨nrp, nrq⟩ := pen.notP hr
  refine sq_items (xs := ss.map D.str) (by unfold items; dsimp only; rw [er]) ?_
  dsimp only [ckOf]
  rw [cloopM_eq]
  refine nm_loop (i := 4) (j := 1) (full := ss.map D.str) (by show 4 < 13; decide) (fun d => rfl) nrp nrq ss [] _ S1 pen1 (by omega) er hs (fun s h => by cases h) fun s5 S2 hl5 hs5 pen2 fr2 => ?_
  intro r5 hr5
  obtain ⟨n5p, n5q⟩ := pen2.notP hr5
  have e5 : up S2 r5 (.lst (s5.map D.str)) r5 = some (.lst (s5.map D.str)) := up_same
  have pen3 := pen2.up (m := .lst (s5.map D.str)) hr5
  generalize up S2 r5 (.lst (s5.map D.str)) = S3 at e5 pen3 ⊢
  have hl5 : s5.length = c0 + c1 + c2 := by rw [hl5, List.length_nil, hl]; omega
  walk_at "q"
  refine len_items (xs := s5.map D.str) (by unfold items; dsimp only; rw [e5]) ?_
  rw [List.length_map]
  walk_at "g"
  cases h1 : decide ((1 : Int) < ((s5.length : Nat) : Int)) with
  | false =>
    dsimp only
    exact tB_keeps2 hl5 hm hs5 pen3 e5 (by omega) (by omega) hK
  | true =>
    have h1 := of_decide_eq_true h1
    dsimp only
    refine ⟨p, q, _, 4, rfl, by decide, by decide, pen3, by show _ < 1000000; omega, fun v S4 v0 v1 pen4 fr4 => ?_⟩
    have e6 := (fr4 r5 n5p n5q).trans e5
    refine eq_int _ _ _ _ ?_
    cases v == (0 : Int) with
    | false => exact tB_keeps2 hl5 hm hs5 pen4 e6 (by omega) (by omega) hK
    | true =>
      refine ⟨p, q, _, .ref r5, s5.map D.str, rfl, by unfold items; dsimp only; rw [e6], (fun e => by
        have := congrArg List.length e
        rw [List.length_map, List.length_nil] at this
        omega), by rw [List.length_map]; omega, pen4, by show _ < 1000000; omega, fun S' fr => by unfold items; dsimp only; rw [fr r5 n5p n5q, e6], fun w S5 hw pen5 fr5 => ?_⟩
      obtain ⟨st, hst, rfl⟩ := List.mem_map.mp hw
      have e7 := (fr5 r5 n5p n5q).trans e6
      refine len_items (xs := s5.map D.str) (by unfold items; dsimp only; rw [e7]) ?_
      rw [List.length_map]
      refine ⟨p, q, _, (s5.length : Nat), rfl, by omega, by omega, pen5, by show _ < 1000000; omega, fun j S6 j0 j1 pen6 fr6 => ?_⟩
      obtain ⟨j, rfl⟩ := Int.eq_ofNat_of_zero_le j0
      have e8 := (fr6 r5 n5p n5q).trans e7
      refine set_ref (j := j) e8 (ixN_nat (by rw [List.length_map]; omega)) ?_
      rw [← List.map_set]
      refine tB_keeps2 (r := r5) (ss := s5.set j st) (by rw [List.length_set]; exact hl5) hm (fun s h => ?_) (pen6.frame (up_ne n5p.symm) (up_ne n5q.symm)) up_same (by omega) (by omega) hK
      rcases List.mem_or_eq_of_mem_set h with h | rfl
      · exact hs5 s h
      · exact hs5 s hst
theorem law_keeps {ds : List D} {S : Sto} {Q E : HK} (h : spLaw ds S Q E) : rd_law spDraw spNames2 spName2 spPick spFnInit spTold2 spDue2 (EN Q E) (startE 13 ds) S := by
  obtain ⟨ns, hns, rfl, rfl, g⟩ := h
  unfold rd_law
  refine seq_ ?_
  refine pen_start (rest := [none, none, none, none, none, none, none, none, none, none, none, none]) fun p q S pen => ?_
  walk_at "q"
  refine ⟨by decide, by decide, ?_⟩
  refine floop_ix (fun i => kI2 p q (.rls (ns.map D.int)) (300 * i)) _ ?_ ?_ ⟨pen, _, _, _, _, _, _, _, _, _, _, rfl⟩
  · rintro i d _ S3 hd ⟨pen3, y2, y3, y5, y6, y7, y8, y9, y10, y11, y12, rfl⟩
    obtain ⟨hi, rfl⟩ := rngD_at hd
    have hi : i < 6 := by simpa using hi
    refine ⟨_, rfl, fun K hK => ?_⟩
    walk_at "q"
    refine ⟨p, q, _, 4, rfl, by decide, by decide, pen3, by show _ < 1000000; omega, fun a S4 a0 a1 pen4 fr4 => ?_⟩
    refine ⟨p, q, _, 3, rfl, by decide, by decide, pen4, by show _ < 1000000; omega, fun b S5 b0 b1 pen5 fr5 => ?_⟩
    refine ⟨p, q, _, 3, rfl, by decide, by decide, pen5, by show _ < 1000000; omega, fun c S6 c0 c1 pen6 fr6 => ?_⟩
    walk_at "g"
    obtain ⟨a, rfl⟩ := Int.eq_ofNat_of_zero_le a0
    obtain ⟨b, rfl⟩ := Int.eq_ofNat_of_zero_le b0
    obtain ⟨c, ec⟩ : ∃ c' : Nat, 1 + c = (c' : Int) := ⟨(1 + c).toNat, by omega⟩
    rw [ec]
    walk_at "q"
    refine ⟨p, q, _, 3, rfl, by decide, by decide, pen6, by show _ < 1000000; omega, fun v S7 v0 v1 pen7 fr7 => ?_⟩
    refine eq_int _ _ _ _ ?_
    cases v == (0 : Int) with
    | false => exact tA_keeps2 (by omega) pen7 (N := 300 * (i + 1)) (by omega) (by omega) hK
    | true =>
      walk_at "p"
      refine ⟨p, q, _, 5, rfl, by decide, by decide, pen7, by show _ < 1000000; omega, fun a S8 a0 a1 pen8 fr8 => ?_⟩
      refine ⟨p, q, _, 4, rfl, by decide, by decide, pen8, by show _ < 1000000; omega, fun b S9 b0 b1 pen9 fr9 => ?_⟩
      refine ⟨p, q, _, 5, rfl, by decide, by decide, pen9, by show _ < 1000000; omega, fun c S10 c0 c1 pen10 fr10 => ?_⟩
      obtain ⟨a, rfl⟩ := Int.eq_ofNat_of_zero_le a0
      obtain ⟨b, rfl⟩ := Int.eq_ofNat_of_zero_le b0
      obtain ⟨c, rfl⟩ := Int.eq_ofNat_of_zero_le c0
      exact tA_keeps2 (by omega) pen10 (N := 300 * (i + 1)) (by omega) (by omega) hK
  · rintro _ S3 ⟨pen3, y2, y3, y5, y6, y7, y8, y9, y10, y11, y12, rfl⟩
    walk_at "p"
    exact Rt.mk (g _)
/-! ### all together -/
section
variable {B : Bs} {h : Heap} (X : B.K.In h) (G : h.Ns mainGlobals B.mg) (s : book.seen B.K = book.due)
include X G s
theorem p_draw : HFn B 2 "_law_draw" 2 [] spDraw := by
  obtain ⟨fd, F⟩ := fd_law_draw s
  exact ⟨gl_law_draw X G s, F.kp, at_law_draw (k := 0) (fc_of X G s) F fun ds S Q E _ h => draw_keeps h⟩
theorem p_pick : HFn B 3 "_law_pick" 2 [] spPick := by
  obtain ⟨fd, F⟩ := fd_law_pick s
  exact ⟨gl_law_pick X G s, F.kp, at_law_pick (k := 1) (fc_of X G s) F (p_draw X G s) fun ds S Q E _ h => pick_keeps h⟩
theorem p_word : HFn B 2 "word_of" 1 [] spWord := by
  obtain ⟨fd, F⟩ := fd_word_of s
  exact ⟨gl_word_of X G s, F.kp, at_word_of (k := 0) (fc_of X G s) F fun ds S Q E _ h => word_keeps h⟩
theorem p_parts : HFn B 3 "parts_of" 1 [] spPartsF := by
  obtain ⟨fd, F⟩ := fd_parts_of s
  exact ⟨gl_parts_of X G s, F.kp, at_parts_of (k := 1) (fc_of X G s) F (p_word X G s) fun ds S Q E _ h => parts_keeps h⟩
theorem p_tidy : HFn B 4 "tidy" 1 [] spTidyF := by
  have nn : HFn B 3 "tidy" 1 [] (fun _ _ _ _ => False) := by
    obtain ⟨fd, F⟩ := fd_tidy s
    exact ⟨gl_tidy X G s, F.kp, no_tidy F fun _ _ _ _ h => h⟩
  obtain ⟨fd, F⟩ := fd_tidy s
  exact ⟨gl_tidy X G s, F.kp, at_tidy (k := 2) (fc_of X G s) F (h_parts_of := p_parts X G s) (h_tidy := nn) fun ds S Q E _ h => tidy_keeps h⟩
theorem p_count : HFn B 4 "count" 1 [] spCountF := by
  have nn : HFn B 3 "count" 1 [] (fun _ _ _ _ => False) := by
    obtain ⟨fd, F⟩ := fd_count s
    exact ⟨gl_count X G s, F.kp, no_count F fun _ _ _ _ h => h⟩
  obtain ⟨fd, F⟩ := fd_count s
  exact ⟨gl_count X G s, F.kp, at_count (k := 2) (fc_of X G s) F (h_parts_of := p_parts X G s) (h_count := nn) fun ds S Q E _ h => count_keeps h⟩
theorem p_isname : HFn B 2 "is_name" 1 [] spIsName := by
  obtain ⟨fd, F⟩ := fd_is_name s
  exact ⟨gl_is_name X G s, F.kp, at_is_name (k := 0) (fc_of X G s) F fun ds S Q E _ h => isname_keeps h⟩
theorem p_fn : HMake B 5 3 3 [] spFnInit := by
  obtain ⟨fd, F⟩ := fd_Function_init s
  exact ⟨(fc_of X G s).n_Function, _, mk_Function_init s, at_Function_init (k := 3) (fc_of X G s) F (h_tidy := p_tidy X G s) (h_count := p_count X G s) fun ds S Q E _ h => fninit_keeps h⟩
theorem p_chki : HMake B 2 5 3 [] spChkInit := by
  obtain ⟨fd, F⟩ := fd_Checker_init s
  exact ⟨(fc_of X G s).n_Checker, _, mk_Checker_init s, at_Checker_init (k := 0) (fc_of X G s) F fun ds S Q E _ h => chkinit_keeps h⟩
theorem p_fits : HMeth B 5 5 "fits" 4 [] spFits := by
  have nn : HMeth B 4 5 "choices" 2 [] (fun _ _ _ _ => False) := by
    obtain ⟨fd, F⟩ := fd_Checker_choices s
    exact ⟨(fc_of X G s).k_Checker, ⟨_, me_Checker_choices s, no_Checker_choices F fun _ _ _ _ h => h⟩, by decide +kernel⟩
  obtain ⟨fd, F⟩ := fd_Checker_fits s
  exact ⟨(fc_of X G s).k_Checker, ⟨_, me_Checker_fits s, at_Checker_fits (k := 3) (fc_of X G s) F (h_word_of := (p_word X G s).mono (by decide)) (h_parts_of := (p_parts X G s).mono (by decide)) (h_Checker_choices := nn) fun ds S Q E _ h => fits_keeps h⟩, by decide +kernel⟩
theorem p_part : HMeth B 6 5 "part" 5 [] spPart := by
  have nn : HMeth B 5 5 "part" 5 [] (fun _ _ _ _ => False) := by
    obtain ⟨fd, F⟩ := fd_Checker_part s
    exact ⟨(fc_of X G s).k_Checker, ⟨_, me_Checker_part s, no_Checker_part F fun _ _ _ _ h => h⟩, by decide +kernel⟩
  obtain ⟨fd, F⟩ := fd_Checker_part s
  exact ⟨(fc_of X G s).k_Checker, ⟨_, me_Checker_part s, at_Checker_part (k := 4) (fc_of X G s) F (hx_TooGreat := (px_TooGreat X G s).mono (by decide)) (hx_BadCode := (px_BadCode X G s).mono (by decide)) (h_Checker_fits := p_fits X G s) (h_parts_of := (p_parts X G s).mono (by decide)) (h_Checker_part := nn) fun ds S Q E _ h => part_keeps h⟩, by decide +kernel⟩
theorem p_code : HMake B 7 4 5 [] spCode := by
  obtain ⟨fd, F⟩ := fd_Code_init s
  exact ⟨(fc_of X G s).n_Code, _, mk_Code_init s, at_Code_init (k := 5) (fc_of X G s) F (hx_TooGreat := (px_TooGreat X G s).mono (by decide)) (hx_BadCode := (px_BadCode X G s).mono (by decide)) (h_is_name := (p_isname X G s).mono (by decide)) (h_Checker_part := p_part X G s) (h_Checker_init := (p_chki X G s).mono (by decide)) fun ds S Q E _ h => code_keeps h⟩
theorem p_told2 : HFn B 9 "_law_told" 4 [] spTold2 := by
  obtain ⟨fd, F⟩ := fd_law_told s
  exact ⟨gl_law_told X G s, F.kp, at_law_told (k := 7) (fc_of X G s) F (p_code X G s) fun ds S Q E _ h => told2_keeps h⟩
theorem p_good : HFn B 2 "_law_good" 1 [] spLawGood := by
  obtain ⟨fd, F⟩ := fd_law_good s
  exact ⟨gl_law_good X G s, F.kp, at_law_good (k := 0) (fc_of X G s) F fun ds S Q E _ h => lawgood_keeps h⟩
theorem p_due2 : HFn B 3 "_law_due" 4 [] spDue2 := by
  obtain ⟨fd, F⟩ := fd_law_due s
  exact ⟨gl_law_due X G s, F.kp, at_law_due (k := 1) (fc_of X G s) F (p_good X G s) fun ds S Q E _ h => due2_keeps h⟩
theorem p_wordl : HFn B 3 "_law_word" 2 [] spWordL := by
  obtain ⟨fd, F⟩ := fd_law_word s
  exact ⟨gl_law_word X G s, F.kp, at_law_word (k := 1) (fc_of X G s) F (p_draw X G s) fun ds S Q E _ h => wordl_keeps h⟩
theorem p_names2 : HFn B 4 "_law_names" 2 [] spNames2 := by
  obtain ⟨fd, F⟩ := fd_law_names s
  exact ⟨gl_law_names X G s, F.kp, at_law_names (k := 2) (fc_of X G s) F (h_law_word := p_wordl X G s) (h_law_draw := (p_draw X G s).mono (by decide)) fun ds S Q E _ h => names2_keeps h⟩
theorem p_name2 : HFn B 4 "_law_name" 2 [] spName2 := by
  obtain ⟨fd, F⟩ := fd_law_name s
  exact ⟨gl_law_name X G s, F.kp, at_law_name (k := 2) (fc_of X G s) F (h_law_draw := (p_draw X G s).mono (by decide)) (h_law_pick := p_pick X G s) fun ds S Q E _ h => name2_keeps h⟩
end
abbrev lawK : Nat := 14
theorem law_at {B : Bs} {h : Heap} {fd : FuncData} (X : B.K.In h) (G : h.Ns mainGlobals B.mg) (s : book.seen B.K = book.due) (F : FunD B.K "law" "law" (defArgs s_law) (defBody s_law) (defScope s_law) [] [] (He.fAd B.K ("law", none)) fd) :
    FnOk B.P B.w B.K B.mg B.base (CX B.P B.w) lawK (He.fAd B.K ("law", none)) fd ["_law_script"] (lSp B.K 1 spLaw) :=
  at_law (k := 12) (fc_of X G s) F (h_law_draw := (p_draw X G s).mono (by decide)) (h_law_names := (p_names2 X G s).mono (by decide)) (h_law_name := (p_name2 X G s).mono (by decide)) (h_law_pick := (p_pick X G s).mono (by decide)) (h_Function_init := (p_fn X G s).mono (by decide))
    (h_law_told := (p_told2 X G s).mono (by decide)) (h_law_due := (p_due2 X G s).mono (by decide)) fun ds S Q E _ h => law_keeps h

end Hy

set_option Elab.async false
set_option linter.all false
set_option maxRecDepth 100000
set_option maxHeartbeats 0
set_option autoImplicit false
namespace Hy
open PySem PySem.Spec PyProof.Rows L2
def nms0 : List PySem.Str := [("_wall" : PySem.Str), ("TryError" : PySem.Str), ("BadCode" : PySem.Str), ("TooGreat" : PySem.Str), ("LETTERS" : PySem.Str), ("CELL_DEEDS" : PySem.Str), ("ROW_DEEDS" : PySem.Str), ("ALONE" : PySem.Str), ("TWO_PARTS" : PySem.Str), ("STATEMENTS" : PySem.Str), ("BLOCKS" : PySem.Str), ("word_of" : PySem.Str), ("parts_of" : PySem.Str), ("tidy" : PySem.Str), ("count" : PySem.Str), ("is_name" : PySem.Str), ("Function" : PySem.Str), ("Code" : PySem.Str), ("Checker" : PySem.Str), ("_law_draw" : PySem.Str)]
def nms1 : List PySem.Str := [("_law_pick" : PySem.Str), ("_law_word" : PySem.Str), ("_law_names" : PySem.Str), ("_law_name" : PySem.Str), ("_law_good" : PySem.Str), ("_law_due" : PySem.Str), ("_law_told" : PySem.Str)]
def nms : List PySem.Str := nms0 ++ (nms1)
abbrev LRow : PySem.W.OpenRow := PySem.W.OpenLaw.row PySem.Challenge.rw_tryback_k02_names_refused
abbrev hk : PySem.W.Hook := book.hook 5
def ob (s : PySem.W.SharedT) : He.AlD := book.look 5 (HandSHeadRun.getT s)
theorem ob_eq (s : PySem.W.SharedT) : ob s = hk.obs s.abs := Book.look_eq (HandSHeadRun.getT_eq s)
theorem run (w : World) : HandSHeadRun.RunEq LRow (PySem.W.view LRow.prog [30]) hk ob 20000 nms w := by
  intro os
  kernel_rfl
end Hy
open PySem PySem.W PySem.Calls PyProof.Rows
theorem PySem.Challenge.cw_tryback_k02_names_refused_holds : PySem.Challenge.rw_tryback_k02_names_refused.Holds := by
  w_on; o_law
  refine HandSHeadRun.head_any (r := OpenLaw.row PySem.Challenge.rw_tryback_k02_names_refused) (q := view (OpenLaw.row PySem.Challenge.rw_tryback_k02_names_refused).prog [30]) (H := Hy.hk) (ob := Hy.ob) (M := 20000) (loose := Hy.nms) (d := HandSHeadRun.topDef (OpenLaw.row PySem.Challenge.rw_tryback_k02_names_refused).prog 30) (kwd := []) Hy.ob_eq
    (by kernel_rfl) (fun s => by kernel_rfl) Hy.run (by kernel_rfl) (by kernel_rfl) (by kernel_rfl) (by rfl) (by first | assumption | decide +kernel) (by decide +kernel) ⟨rfl, rfl, rfl, rfl, rfl, by decide +kernel⟩ ?hw ?hc
  case hw => w_witness2
  case hc =>
    refine L2.walk_ofE (l := PySem.Challenge.rw_tryback_k02_names_refused) (n := 63) (k := Hy.lawK) (x := "_law_script") (CX := Hy.CXe) rfl (by decide) (by kernel_rfl) ⟨rfl, by decide, by decide⟩ ?F (fun _ _ _ _ ⟨_, _, _, z⟩ => z)
    intro w mg fa h Y G hmg0
    obtain ⟨K, KX, c⟩ := Y
    have hmg : mg ("law" : PySem.Str) = some (.ref fa) := by
      have e : (HandSHeadRun.topDef (OpenLaw.row PySem.Challenge.rw_tryback_k02_names_refused).prog 30).name = ("law" : PySem.Str) := by kernel_rfl
      rw [← e]
      exact hmg0
    cases hmg.symm.trans (Hy.gl_law KX G c)
    obtain ⟨fd, F⟩ := Hy.fd_law c
    exact ⟨K, fd, Hy.spScr K, KX, L2.FunD.bindsA (ps := ["_law_script"]) F (fun _ _ _ _ _ _ us hl => match us, hl with | [_], _ => rfl) |> fun b s v => b s [v] rfl, fun H a ns hl _ hS => ⟨a, ns, rfl, hl, hS, fun _ => rfl⟩, fun base B0 _ => Hy.law_ok (Hy.law_at (B := ⟨(PySem.Challenge.rw_tryback_k02_names_refused).prog, w, K, mg, base, 0, [], Hy.sc00, true, fun _ => true⟩) KX G c F)⟩

