import PyProof.Rows.All
import Wide.All
import OpenK.AllK
import Wide.FinOn
import HandS.ForMost
import HandS.ForExc
import HandS.Defaults
import HandS.Walk
import HandS.TupAny
import HandS.HeadHook1
import HandS.ExcInit
import HandS.Wide
import HandS.Deep
import HandS.Style
import HandS.Flow
import HandS.IsInst
import HandS.FStr
import HandS.CallSlots
import HandS.WordsExc
import HandS.Property
import KE.LtData
import HandS.More
import HandS.HeadHook2
import HandS.HeadNt
import HandS.Head0
import HandS.Head1
import HandS.Head2
import HandS.HeadEnd
import HandS.ExcField
import HandS.TryMany
import KE.KExcIs
import KE.GoesEnum
import KE.GoesMore
import HandS.Iter
import OpenK.KMeth
import PyProof.StrBlock2
import PyProof.Rows.StrMul
import HandS.Dict
import HandS.DictComp
import HandS.Sort
import KE.KDictSum
import HandS.SetFor
import HandS.HeadHook3
import HandS.Conv
import HandS.OwnEq
import HandS.Strs
import PyProof.EqAt
import HandS.StrMore
import HandS.Replace
import PyProof.NeKinds
import KE.KStateDown
import Lean
import PySem.Challenge.RW_tryback_k46_errors_stand_apart
namespace Hy
open PySem
/-- the classes, by numbers -/
def cname : Nat → Str
  | 0 => "Log"
  | 1 => "Puzzle"
  | 2 => "Spelled"
  | 3 => "Function"
  | 4 => "Code"
  | 5 => "Checker"
  | 6 => "Reader"
  | 7 => "Answer"
  | 8 => "Visit"
  | 9 => "Run"
  | 10 => "Frame"
  | 11 => "Given"
  | 12 => "Walker"
  | 13 => "Seen"
  | 14 => "Matcher"
  | 15 => "Answers"
  | 16 => "Desk"
  | 17 => "Node"
  | 18 => "Layout"
  | 19 => "Context"
  | 20 => "Table"
  | 21 => "Maps"
  | 22 => "Search"
  | 23 => "Break"
  | 24 => "Spoiled"
  | 25 => "Unlike"
  | 26 => "Pair"
  | 27 => "Spot"
  | 28 => "Ways"
  | 29 => "Heights"
  | 30 => "RowWays"
  | 31 => "CellWays"
  | 32 => "Flow"
  | 33 => "Mending"
  | 34 => "TryError"
  | 35 => "BadCode"
  | 36 => "TooGreat"
  | 37 => "NoSuch"
  | 38 => "BadText"
  | 39 => "BadPuzzle"
  | 40 => "Ended"
  | 41 => "Waiting"
  | 42 => "NothingToUndo"
  | 43 => "NoContext"
  | 44 => "NoWay"
  | 45 => "NoCell"
  | 46 => "Unclean"
  | 47 => "OtherShape"
  | 48 => "NoSpot"
  | 49 => "TooMany"
  | 50 => "NoEntry"
  | 51 => "NoRow"
  | _ => "?"
/-- the attributes, in the order in which __init__ stores them -/
def flds : Nat → List Str
  | 34 => []
  | 35 => ["function", "number"]
  | 36 => []
  | 37 => ["name"]
  | 38 => ["line"]
  | 39 => []
  | 40 => []
  | 42 => []
  | 43 => ["function", "flags"]
  | 44 => ["way", "how"]
  | 45 => ["name"]
  | 46 => ["function", "thing"]
  | 47 => []
  | 48 => ["spot"]
  | 49 => ["count"]
  | 50 => ["number"]
  | 51 => ["name"]
  | 1 => ["bits", "children", "size", "depth", "spelling"]
  | 2 => ["text", "at"]
  | _ => []
def ix_bits : Nat → Option Nat
  | 1 => some 0
  | _ => none
def ix_children : Nat → Option Nat
  | 1 => some 1
  | _ => none
def ix_size : Nat → Option Nat
  | 1 => some 2
  | _ => none
def ix_depth : Nat → Option Nat
  | 1 => some 3
  | _ => none
def ix_spelling : Nat → Option Nat
  | 1 => some 4
  | _ => none
def ix_text : Nat → Option Nat
  | 2 => some 0
  | _ => none
def ix_at : Nat → Option Nat
  | 2 => some 1
  | _ => none
end Hy

set_option Elab.async false
set_option linter.all false
set_option maxRecDepth 100000
set_option maxHeartbeats 4000000
set_option autoImplicit false
/-! Hy, the core: data D over the hand layer's heap, readings over D. -/
namespace Hy
abbrev St := L2.St
open PySem PySem.Spec PyProof.Rows L2

/-- data: what never changes is a tree; what may change is an address -/
inductive D where
  | non | bl (b : Bool) | int (i : Int) | str (x : Str) | ref (a : Addr) | ty (n : String)
  | tup (xs : List D) | lst (xs : List D) | rls (xs : List D) | obj (c : Nat) (xs : List D)
  | exc (c : Nat) (xs : List D)
  | tpx (xs : List D)

/-- what stands at an address that may change -/
inductive M where
  | lst (xs : List D)
  | dct (kvs : List (Key × D))
  | ins (c : Nat) (xs : List D)
abbrev Sto := Addr → Option M
def up (S : Sto) (a : Addr) (m : M) : Sto := fun b => if b = a then some m else S b
def dl (S : Sto) (a : Addr) : Sto := fun b => if b = a then none else S b
theorem up_same {S : Sto} {a : Addr} {m : M} : up S a m a = some m := if_pos rfl
theorem up_ne {S : Sto} {a b : Addr} {m : M} (h : b ≠ a) : up S a m b = S b := if_neg h
theorem dl_same {S : Sto} {a : Addr} : dl S a a = none := if_pos rfl
theorem dl_ne {S : Sto} {a b : Addr} (h : b ≠ a) : dl S a b = S b := if_neg h
theorem up_up {S : Sto} {a : Addr} {m n : M} : up (up S a m) a n = up S a n := by
  funext b; unfold up; split <;> rfl
theorem dl_up {S : Sto} {a : Addr} {m : M} (h : S a = none) : dl (up S a m) a = S := by
  funext b
  by_cases e : b = a
  · subst e; rw [dl_same, h]
  · rw [dl_ne e, up_ne e]
theorem sne {S : Sto} {a b : Addr} {m : M} (h : S a = some m) (h' : S b = none) : a ≠ b := by
  intro e; subst e; rw [h] at h'; cases h'

/-- at F all that holds the data stands -/
abbrev Le (F F' : Hp) : Prop := ∀ a o, F a = some o → F' a = some o
theorem Le.rfl' {F : Hp} : Le F F := fun _ _ h => h
theorem Le.trans {F G J : Hp} (h : Le F G) (k : Le G J) : Le F J := fun a o e => k a o (h a o e)
theorem Le.upd {F : Hp} {p : Addr} {o : HO} (h : F p = none) : Le F (upd F p o) := fun a u e => by rw [upd_ne (ne_of_none e h)]; exact e
theorem SqT.le {K : PySem.W.Frag} {F F' : Hp} {a : Addr} {xs : List V} (e : Le F F') (h : SqT K F a xs) : SqT K F' a xs := by
  rcases h with (h | ⟨o, h⟩) | h
  · exact .inl (.inl (e _ _ h))
  · exact .inl (.inr ⟨o, e _ _ h⟩)
  · exact .inr h
theorem SqL.le {K : PySem.W.Frag} {F F' : Hp} {a : Addr} {xs : List V} (e : Le F F') (h : SqL K F a xs) : SqL K F' a xs := by
  rcases h with (h | ⟨o, h⟩) | h
  · exact .inl (.inl (e _ _ h))
  · exact .inl (.inr ⟨o, e _ _ h⟩)
  · exact .inr h

/-- the class's address -/
abbrev cad (K : PySem.W.Frag) (c : Nat) : Addr := He.ga K (cname c)
mutual
def Rep (K : PySem.W.Frag) (F : Hp) : D → V → Prop
  | .non, v => v = .non
  | .bl b, v => v = .bl b
  | .int i, v => v = .int i
  | .str x, v => v = .str x
  | .ref a, v => v = .ref a
  | .ty n, v => v = .ty n
  | .tup ds, v => ∃ a vs, v = .ref a ∧ SqT K F a vs ∧ Reps K F ds vs ∧ ds.length ≤ sizeLine
  | .lst ds, v => ∃ a vs, v = .ref a ∧ F a = some (.lst vs) ∧ Reps K F ds vs ∧ ds.length ≤ sizeLine
  | .rls ds, v => ∃ a vs, v = .ref a ∧ SqL K F a vs ∧ Reps K F ds vs ∧ ds.length ≤ sizeLine
  | .obj c ds, v => ∃ a dx vs, v = .ref a ∧ F a = some (.ins (cad K c) dx ((flds c).zip vs)) ∧ Reps K F ds vs
  | .exc c ds, v => ∃ a d vs, v = .ref a ∧ F a = some (exo a (cad K c) d) ∧ Reps K F ds vs ∧ ((flds c = [] ∧ d = none) ∨ ∃ q fs, d = some q ∧ F q = some (exd q fs) ∧ ∀ (i : Nat) (f : Str) (x : V), (flds c)[i]? = some f → vs[i]? = some x → fs.lookup f = some x)
  | .tpx ds, v => ∃ a vs o, v = .ref a ∧ F a = some (.frz o (.tup vs)) ∧ o.cls = .type "tuple" ∧ o.dict = none ∧ Reps K F ds vs ∧ ds.length ≤ sizeLine
def Reps (K : PySem.W.Frag) (F : Hp) : List D → List V → Prop
  | [], vs => vs = []
  | d :: ds, vs => ∃ v ws, vs = v :: ws ∧ Rep K F d v ∧ Reps K F ds ws
end

/-- an exception: its class, its own dict -/
def RepX (K : PySem.W.Frag) (F : Hp) (x : D) (cls : Value) (dd : Option Addr) : Prop := match x with
  | .exc c ds => cls = .ref (cad K c) ∧ ((ds = [] ∧ dd = none) ∨ ∃ q fs, dd = some q ∧ F q = some (.xd fs) ∧ ∀ (i : Nat) (f : Str) (d : D), (flds c)[i]? = some f → ds[i]? = some d → ∃ v, fs.lookup f = some v ∧ Rep K F d v)
  | _ => False

section
variable {K : PySem.W.Frag} {F F' : Hp}
mutual
theorem Rep.le (h : Le F F') : ∀ {d : D} {v : V}, Rep K F d v → Rep K F' d v
  | .non, _, r => r
  | .bl _, _, r => r
  | .int _, _, r => r
  | .str _, _, r => r
  | .ref _, _, r => r
  | .ty _, _, r => r
  | .tup _, _, ⟨a, vs, e, q, r, z⟩ => ⟨a, vs, e, SqT.le h q, Reps.le h r, z⟩
  | .lst _, _, ⟨a, vs, e, q, r, z⟩ => ⟨a, vs, e, h _ _ q, Reps.le h r, z⟩
  | .rls _, _, ⟨a, vs, e, q, r, z⟩ => ⟨a, vs, e, SqL.le h q, Reps.le h r, z⟩
  | .obj _ _, _, ⟨a, dx, vs, e, q, r⟩ => ⟨a, dx, vs, e, h _ _ q, Reps.le h r⟩
  | .exc _ _, _, ⟨a, d, vs, e, q, r, z⟩ => ⟨a, d, vs, e, h _ _ q, Reps.le h r, match z with
    | .inl y => .inl y
    | .inr ⟨q, fs, z1, z2, z3⟩ => .inr ⟨q, fs, z1, h _ _ z2, z3⟩⟩
  | .tpx _, _, ⟨a, vs, o, e, q, h1, h2, r, z⟩ => ⟨a, vs, o, e, h _ _ q, h1, h2, Reps.le h r, z⟩
theorem Reps.le (h : Le F F') : ∀ {ds : List D} {vs : List V}, Reps K F ds vs → Reps K F' ds vs
  | [], _, r => r
  | _ :: _, _, ⟨v, ws, e, r, q⟩ => ⟨v, ws, e, Rep.le h r, Reps.le h q⟩
end
theorem RepX.le (h : Le F F') {x : D} {cls : Value} {dd : Option Addr} (r : RepX K F x cls dd) : RepX K F' x cls dd := by
  cases x <;> first | exact r.elim | skip
  obtain ⟨e, r⟩ := r
  refine ⟨e, ?_⟩
  rcases r with r | ⟨q, vs, e1, e2, e3⟩
  · exact .inl r
  · exact .inr ⟨q, vs, e1, h _ _ e2, fun i f d h1 h2 => let ⟨v, h3, h4⟩ := e3 i f d h1 h2; ⟨v, h3, h4.le h⟩⟩
theorem Reps.len : ∀ {ds : List D} {vs : List V}, Reps K F ds vs → vs.length = ds.length
  | [], _, r => by cases r; rfl
  | _ :: _, _, ⟨v, ws, e, r, q⟩ => by cases e; simp [Reps.len q]
theorem Reps.at : ∀ {ds : List D} {vs : List V} {i : Nat} {d : D}, Reps K F ds vs → ds[i]? = some d → ∃ v, vs[i]? = some v ∧ Rep K F d v
  | [], _, _, _, _, e => by simp at e
  | _ :: _, _, 0, _, ⟨v, ws, e1, r, q⟩, e => by cases e1; simp at e; subst e; exact ⟨v, by simp, r⟩
  | _ :: _, _, i + 1, _, ⟨v, ws, e1, r, q⟩, e => by
    cases e1
    obtain ⟨v', h1, h2⟩ := Reps.at (i := i) q (by simpa using e)
    exact ⟨v', by simpa using h1, h2⟩
theorem Reps.at' : ∀ {ds : List D} {vs : List V} {i : Nat} {v : V}, Reps K F ds vs → vs[i]? = some v → ∃ d, ds[i]? = some d ∧ Rep K F d v
  | [], _, _, _, r, e => by cases r; simp at e
  | _ :: _, _, 0, _, ⟨v, ws, e1, r, q⟩, e => by cases e1; simp at e; subst e; exact ⟨_, by simp, r⟩
  | _ :: _, _, i + 1, _, ⟨v, ws, e1, r, q⟩, e => by
    cases e1
    obtain ⟨v', h1, h2⟩ := Reps.at' (i := i) q (by simpa using e)
    exact ⟨v', by simpa using h1, h2⟩
theorem Reps.append : ∀ {ds es : List D} {vs ws : List V}, Reps K F ds vs → Reps K F es ws → Reps K F (ds ++ es) (vs ++ ws)
  | [], _, _, _, r, q => by cases r; exact q
  | _ :: _, _, _, _, ⟨v, us, e1, r, q⟩, q' => by cases e1; exact ⟨v, us ++ _, rfl, r, Reps.append q q'⟩
theorem Reps.take : ∀ {ds : List D} {vs : List V} (n : Nat), Reps K F ds vs → Reps K F (ds.take n) (vs.take n)
  | _, _, 0, r => by simp [Reps]
  | [], _, _ + 1, r => by cases r; simp [Reps]
  | _ :: _, _, n + 1, ⟨v, us, e1, r, q⟩ => by cases e1; exact ⟨v, us.take n, rfl, r, Reps.take n q⟩
theorem Reps.drop : ∀ {ds : List D} {vs : List V} (n : Nat), Reps K F ds vs → Reps K F (ds.drop n) (vs.drop n)
  | _, _, 0, r => r
  | [], _, _ + 1, r => by cases r; simp [Reps]
  | _ :: _, _, n + 1, ⟨v, us, e1, r, q⟩ => by cases e1; exact Reps.drop n q
theorem Reps.set : ∀ {ds : List D} {vs : List V} {d : D} {v : V} (n : Nat), Rep K F d v → Reps K F ds vs → Reps K F (ds.set n d) (vs.set n v)
  | [], _, _, _, _, _, r => by cases r; simp [Reps]
  | _ :: _, _, _, _, 0, h, ⟨v, us, e1, r, q⟩ => by cases e1; exact ⟨_, us, rfl, h, q⟩
  | _ :: _, _, _, _, n + 1, h, ⟨v, us, e1, r, q⟩ => by cases e1; exact ⟨v, us.set n _, rfl, r, Reps.set n h q⟩
theorem Reps.reverse : ∀ {ds : List D} {vs : List V}, Reps K F ds vs → Reps K F ds.reverse vs.reverse
  | [], _, r => by cases r; simp [Reps]
  | d :: ds, _, ⟨v, us, e1, r, q⟩ => by
    cases e1
    rw [List.reverse_cons, List.reverse_cons]
    exact Reps.append (Reps.reverse q) ⟨v, [], rfl, r, rfl⟩
theorem Reps.one {d : D} {v : V} (r : Rep K F d v) : Reps K F [d] [v] := ⟨v, [], rfl, r, rfl⟩
theorem Reps.nil_inv {vs : List V} (r : Reps K F [] vs) : vs = [] := r
theorem Reps.cons_inv {d : D} {ds : List D} {vs : List V} (r : Reps K F (d :: ds) vs) : ∃ v ws, vs = v :: ws ∧ Rep K F d v ∧ Reps K F ds ws := r
theorem Reps.isNil {ds : List D} {vs : List V} (r : Reps K F ds vs) : vs = [] ↔ ds = [] := by
  have := r.len
  constructor
  · intro e; subst e; exact List.eq_nil_of_length_eq_zero (by simpa using this.symm)
  · intro e; subst e; exact r
end

def RepM (K : PySem.W.Frag) (F : Hp) : M → HO → Prop
  | .lst ds, o => ∃ vs, o = .lst vs ∧ Reps K F ds vs ∧ ds.length ≤ sizeLine
  | .dct kvs, o => ∃ vs, o = .dK ((kvs.map (·.1)).zip vs) ∧ Reps K F (kvs.map (·.2)) vs
  | .ins c ds, o => ∃ dx vs, o = .ins (cad K c) dx ((flds c).zip vs) ∧ Reps K F ds vs
theorem RepM.le {K : PySem.W.Frag} {F F' : Hp} (h : Le F F') {m : M} {o : HO} (r : RepM K F m o) : RepM K F' m o := by
  cases m with
  | lst ds => obtain ⟨vs, e, q, z⟩ := r; exact ⟨vs, e, q.le h, z⟩
  | dct kvs => obtain ⟨vs, e, q⟩ := r; exact ⟨vs, e, q.le h⟩
  | ins C fs => obtain ⟨dx, vs, e, q⟩ := r; exact ⟨dx, vs, e, q.le h⟩

/-- the world: what is frozen and what may change, apart -/
structure Wd (K : PySem.W.Frag) (G F : Hp) (S : Sto) (H : Hp) : Prop where
  gr : ∀ a o, G a = some o → H a = some o ∧ F a = none ∧ S a = none
  fr : Le F H
  st : ∀ a m, S a = some m → ∃ o, H a = some o ∧ RepM K F m o
  dj : ∀ a m, S a = some m → F a = none
theorem Wd.freshF {K : PySem.W.Frag} {G F : Hp} {S : Sto} {H : Hp} (W : Wd K G F S H) {p : Addr} (h : H p = none) : F p = none := by
  cases e : F p with
  | none => rfl
  | some o => rw [W.fr p o e] at h; cases h
theorem Wd.freshS {K : PySem.W.Frag} {G F : Hp} {S : Sto} {H : Hp} (W : Wd K G F S H) {p : Addr} (h : H p = none) : S p = none := by
  cases e : S p with
  | none => rfl
  | some m => obtain ⟨o, q, _⟩ := W.st p m e; rw [q] at h; cases h
/-- a new frozen object -/
theorem Wd.newF {K : PySem.W.Frag} {G F : Hp} {S : Sto} {H : Hp} (W : Wd K G F S H) {p : Addr} (o : HO) (h : H p = none) : Wd K G (upd F p o) S (upd H p o) ∧ Le F (upd F p o) := by
  have hF := W.freshF h
  have hS := W.freshS h
  refine ⟨⟨fun a u e => ?_, fun a u e => ?_, fun a m e => ?_, fun a m e => ?_⟩, Le.upd hF⟩
  · obtain ⟨h1, h2, h3⟩ := W.gr a u e
    have ha : a ≠ p := fun z => by subst z; rw [h] at h1; cases h1
    exact ⟨by rw [upd_ne ha]; exact h1, by rw [upd_ne ha]; exact h2, h3⟩
  · by_cases ha : a = p
    · subst ha; rw [upd_same] at e ⊢; exact e
    · rw [upd_ne ha] at e ⊢; exact W.fr a u e
  · have ha : a ≠ p := fun z => by subst z; rw [hS] at e; cases e
    obtain ⟨u, q, r⟩ := W.st a m e
    exact ⟨u, by rw [upd_ne ha]; exact q, r.le (Le.upd hF)⟩
  · have ha : a ≠ p := fun z => by subst z; rw [hS] at e; cases e
    rw [upd_ne ha]; exact W.dj a m e
/-- a new object that may change -/
theorem Wd.newS {K : PySem.W.Frag} {G F : Hp} {S : Sto} {H : Hp} (W : Wd K G F S H) {p : Addr} {o : HO} {m : M} (h : H p = none) (r : RepM K F m o) : Wd K G F (up S p m) (upd H p o) := by
  have hF := W.freshF h
  refine ⟨fun a u e => ?_, fun a u e => ?_, fun a n e => ?_, fun a n e => ?_⟩
  · obtain ⟨h1, h2, h3⟩ := W.gr a u e
    have ha : a ≠ p := fun z => by subst z; rw [h] at h1; cases h1
    exact ⟨by rw [upd_ne ha]; exact h1, h2, by rw [up_ne ha]; exact h3⟩
  · rw [upd_ne (ne_of_none e hF)]; exact W.fr a u e
  · by_cases ha : a = p
    · subst ha; rw [up_same] at e; cases e; exact ⟨o, upd_same, r⟩
    · rw [up_ne ha] at e; obtain ⟨u, q, r⟩ := W.st a n e; exact ⟨u, by rw [upd_ne ha]; exact q, r⟩
  · by_cases ha : a = p
    · subst ha; exact hF
    · rw [up_ne ha] at e; exact W.dj a n e
/-- an object changed -/
theorem Wd.put {K : PySem.W.Frag} {G F : Hp} {S : Sto} {H : Hp} (W : Wd K G F S H) {p : Addr} {o : HO} {m n : M} (h : S p = some n) (r : RepM K F m o) : Wd K G F (up S p m) (upd H p o) := by
  have hF := W.dj p n h
  refine ⟨fun a u e => ?_, fun a u e => ?_, fun a n e => ?_, fun a n e => ?_⟩
  · obtain ⟨h1, h2, h3⟩ := W.gr a u e
    have ha : a ≠ p := fun z => by subst z; rw [h3] at h; cases h
    exact ⟨by rw [upd_ne ha]; exact h1, h2, by rw [up_ne ha]; exact h3⟩
  · rw [upd_ne (ne_of_none e hF)]; exact W.fr a u e
  · by_cases ha : a = p
    · subst ha; rw [up_same] at e; cases e; exact ⟨o, upd_same, r⟩
    · rw [up_ne ha] at e; obtain ⟨u, q, r⟩ := W.st a n e; exact ⟨u, by rw [upd_ne ha]; exact q, r⟩
  · by_cases ha : a = p
    · subst ha; exact hF
    · rw [up_ne ha] at e; exact W.dj a n e
/-- less is known -/
abbrev SLe (S S' : Sto) : Prop := ∀ a m, S a = some m → S' a = some m
theorem SLe.rfl' {S : Sto} : SLe S S := fun _ _ h => h
theorem SLe.trans {S T U : Sto} (h : SLe S T) (k : SLe T U) : SLe S U := fun a m e => k a m (h a m e)
theorem SLe.up {S T : Sto} {p : Addr} {m : M} (h : SLe S T) (n : S p = none) : SLe S (Hy.up T p m) := fun a u e => by
  rw [up_ne (sne e n)]; exact h a u e
theorem SLe.dl {S : Sto} {p : Addr} : SLe (Hy.dl S p) S := fun a u e => by
  by_cases h : a = p
  · subst h; rw [dl_same] at e; cases e
  · rw [dl_ne h] at e; exact e
theorem Wd.less {K : PySem.W.Frag} {G F : Hp} {S S' : Sto} {H : Hp} (W : Wd K G F S' H) (h : SLe S S') : Wd K G F S H :=
  ⟨fun a o e => let ⟨h1, h2, h3⟩ := W.gr a o e; ⟨h1, h2, by
    cases q : S a with
    | none => rfl
    | some m => rw [h a m q] at h3; cases h3⟩, W.fr, fun a m e => W.st a m (h a m e), fun a m e => W.dj a m (h a m e)⟩

theorem Wd.lessG {K : PySem.W.Frag} {G G' F : Hp} {S : Sto} {H : Hp} (W : Wd K G' F S H) (h : Le G G') : Wd K G F S H := ⟨fun a o e => W.gr a o (h a o e), W.fr, W.st, W.dj⟩
/-- a new object that nobody reads -/
theorem Wd.newG {K : PySem.W.Frag} {G F : Hp} {S : Sto} {H : Hp} (W : Wd K G F S H) {p : Addr} (o : HO) (h : H p = none) : Wd K (upd G p o) F S (upd H p o) := by
  have hF := W.freshF h
  have hS := W.freshS h
  refine ⟨fun a u e => ?_, fun a u e => ?_, fun a m e => ?_, W.dj⟩
  · by_cases ha : a = p
    · subst ha; rw [upd_same] at e; cases e; exact ⟨upd_same, hF, hS⟩
    · rw [upd_ne ha] at e
      obtain ⟨h1, h2, h3⟩ := W.gr a u e
      exact ⟨by rw [upd_ne ha]; exact h1, h2, h3⟩
  · rw [upd_ne (ne_of_none e hF)]; exact W.fr a u e
  · obtain ⟨u, q, r⟩ := W.st a m e
    exact ⟨u, by rw [upd_ne (sne e hS)]; exact q, r⟩
theorem Wd.putG {K : PySem.W.Frag} {G F : Hp} {S : Sto} {H : Hp} {p : Addr} {o : HO} (W : Wd K (upd G p o) F S H) (o' : HO) : Wd K (upd G p o') F S (upd H p o') := by
  obtain ⟨_, hF, hS⟩ := W.gr p o upd_same
  refine ⟨fun a u e => ?_, fun a u e => ?_, fun a m e => ?_, W.dj⟩
  · by_cases ha : a = p
    · subst ha; rw [upd_same] at e; cases e; exact ⟨upd_same, hF, hS⟩
    · rw [upd_ne ha] at e
      obtain ⟨h1, h2, h3⟩ := W.gr a u (by rw [upd_ne ha]; exact e)
      exact ⟨by rw [upd_ne ha]; exact h1, h2, h3⟩
  · rw [upd_ne (ne_of_none e hF)]; exact W.fr a u e
  · obtain ⟨u, q, r⟩ := W.st a m e
    exact ⟨u, by rw [upd_ne (sne e hS)]; exact q, r⟩
theorem Wd.endG {K : PySem.W.Frag} {G F : Hp} {S : Sto} {H : Hp} {p : Addr} {o : HO} (W : Wd K (upd G p o) F S H) (hG : G p = none) : Wd K G (upd F p o) S H ∧ Le F (upd F p o) := by
  obtain ⟨hH, hF, hS⟩ := W.gr p o upd_same
  refine ⟨⟨fun a u e => ?_, fun a u e => ?_, fun a m e => ?_, fun a m e => ?_⟩, Le.upd hF⟩
  · have ha := ne_of_none e hG
    obtain ⟨h1, h2, h3⟩ := W.gr a u (by rw [upd_ne ha]; exact e)
    exact ⟨h1, by rw [upd_ne ha]; exact h2, h3⟩
  · by_cases ha : a = p
    · subst ha; rw [upd_same] at e; cases e; exact hH
    · rw [upd_ne ha] at e; exact W.fr a u e
  · obtain ⟨u, q, r⟩ := W.st a m e
    exact ⟨u, q, r.le (Le.upd hF)⟩
  · rw [upd_ne (sne e hS)]; exact W.dj a m e
/-! ### names -/
abbrev HEnv := List (Option D)
structure RepN (K : PySem.W.Frag) (F : Hp) (env : HEnv) (σ : St) : Prop where
  len : env.length = σ.length
  get : ∀ (i : Nat) (d : D), env[i]? = some (some d) → ∃ v, σ[i]? = some (some v) ∧ Rep K F d v
theorem RepN.le {K : PySem.W.Frag} {F F' : Hp} {env : HEnv} {σ : St} (h : Le F F') (r : RepN K F env σ) : RepN K F' env σ :=
  ⟨r.len, fun i d e => let ⟨v, h1, h2⟩ := r.get i d e; ⟨v, h1, h2.le h⟩⟩
theorem RepN.set {K : PySem.W.Frag} {F : Hp} {env : HEnv} {σ : St} (r : RepN K F env σ) {d : D} {v : V} (h : Rep K F d v) (i : Nat) : RepN K F (env.set i (some d)) (σ.set i (some v)) :=
  ⟨by simp [r.len], fun j e q => by
    by_cases hj : j = i
    · subst hj
      have hl : j < env.length := by
        rcases Nat.lt_or_ge j env.length with z | z
        · exact z
        · rw [List.getElem?_eq_none (by simpa using z)] at q; cases q
      rw [List.getElem?_set_self hl] at q
      cases q
      exact ⟨v, by rw [List.getElem?_set_self (by rw [← r.len]; exact hl)], h⟩
    · rw [List.getElem?_set_ne (Ne.symm hj)] at q ⊢
      exact r.get j e q⟩
theorem RepN.unset {K : PySem.W.Frag} {F : Hp} {env : HEnv} {σ : St} (r : RepN K F env σ) (i : Nat) : RepN K F (env.set i none) (σ.set i none) :=
  ⟨by simp [r.len], fun j e q => by
    by_cases hj : j = i
    · subst hj
      have hl : j < env.length := by
        rcases Nat.lt_or_ge j env.length with z | z
        · exact z
        · rw [List.getElem?_eq_none (by simpa using z)] at q; cases q
      rw [List.getElem?_set_self hl] at q
      cases q
    · rw [List.getElem?_set_ne (Ne.symm hj)] at q ⊢
      exact r.get j e q⟩
def wipeE (env : HEnv) : List Nat → HEnv
  | [] => env
  | i :: r => wipeE (env.set i none) r

/-! ### readings -/
abbrev HK := D → Sto → Prop
abbrev HTE := HEnv → Sto → HK → HK → Prop
abbrev HTT := HEnv → Sto → (Bool → Sto → Prop) → HK → Prop
abbrev HTA := HEnv → Sto → (List D → Sto → Prop) → HK → Prop
structure HEnds where
  nx : HEnv → Sto → Prop
  rt : HK
  bk : HEnv → Sto → Prop := fun _ _ => False
  ct : HEnv → Sto → Prop := fun _ _ => False
  ex : D → HEnv → Sto → Prop
abbrev HTS := HEnds → HEnv → Sto → Prop

def OkQ (K : PySem.W.Frag) (G F : Hp) (Q0 : HK) (Q : VK) : Prop := ∀ d v F' S' H', Le F F' → Wd K G F' S' H' → Rep K F' d v → Q0 d S' → Q v H'
def OkB (K : PySem.W.Frag) (G F : Hp) (Q0 : Bool → Sto → Prop) (Q : Bool → Hp → Prop) : Prop := ∀ b F' S' H', Le F F' → Wd K G F' S' H' → Q0 b S' → Q b H'
def OkA (K : PySem.W.Frag) (G F : Hp) (Q0 : List D → Sto → Prop) (Q : List V → Hp → Prop) : Prop := ∀ ds vs F' S' H', Le F F' → Wd K G F' S' H' → Reps K F' ds vs → Q0 ds S' → Q vs H'
def OkE (K : PySem.W.Frag) (G F : Hp) (E0 : HK) (E : XK) : Prop := ∀ x cls dd F' S' H', Le F F' → Wd K G F' S' H' → RepX K F' x cls dd → E0 x S' → E cls dd H'
def OkN (K : PySem.W.Frag) (G F : Hp) (Q0 : HEnv → Sto → Prop) (Q : St → Hp → Prop) : Prop := ∀ env σ F' S' H', Le F F' → Wd K G F' S' H' → RepN K F' env σ → Q0 env S' → Q σ H'
def OkW (K : PySem.W.Frag) (G F : Hp) (E0 : D → HEnv → Sto → Prop) (W : WX) : Prop := ∀ x cls dd env σ F' S' H', Le F F' → Wd K G F' S' H' → RepN K F' env σ → RepX K F' x cls dd → E0 x env S' → W cls dd σ H'
theorem OkQ.le {K G F F'} {Q0 : HK} {Q : VK} (h : Le F F') (q : OkQ K G F Q0 Q) : OkQ K G F' Q0 Q := fun d v F1 S H l => q d v F1 S H (h.trans l)
theorem OkB.le {K G F F'} {Q0} {Q} (h : Le F F') (q : OkB K G F Q0 Q) : OkB K G F' Q0 Q := fun b F1 S H l => q b F1 S H (h.trans l)
theorem OkA.le {K G F F'} {Q0} {Q} (h : Le F F') (q : OkA K G F Q0 Q) : OkA K G F' Q0 Q := fun d v F1 S H l => q d v F1 S H (h.trans l)
theorem OkE.le {K G F F'} {Q0} {Q} (h : Le F F') (q : OkE K G F Q0 Q) : OkE K G F' Q0 Q := fun x c dd F1 S H l => q x c dd F1 S H (h.trans l)
theorem OkN.le {K G F F'} {Q0} {Q} (h : Le F F') (q : OkN K G F Q0 Q) : OkN K G F' Q0 Q := fun e σ F1 S H l => q e σ F1 S H (h.trans l)
theorem OkW.le {K G F F'} {Q0} {Q} (h : Le F F') (q : OkW K G F Q0 Q) : OkW K G F' Q0 Q := fun x c dd e σ F1 S H l => q x c dd e σ F1 S H (h.trans l)

structure OkS (K : PySem.W.Frag) (G F : Hp) (E : HEnds) (D : Ends) (W : WX) : Prop where
  nx : OkN K G F E.nx D.nx
  rt : OkQ K G F E.rt D.rt
  bk : OkN K G F E.bk D.bk
  ct : OkN K G F E.ct D.ct
  ex : OkW K G F E.ex W
theorem OkS.le {K G F F'} {E : HEnds} {D : Ends} {W : WX} (h : Le F F') (q : OkS K G F E D W) : OkS K G F' E D W := ⟨q.nx.le h, q.rt.le h, q.bk.le h, q.ct.le h, q.ex.le h⟩

def lE (K : PySem.W.Frag) (W : WX) (t : HTE) : TE := fun σ H Q => ∃ G F S env Q0 E0, RepN K F env σ ∧ Wd K G F S H ∧ t env S Q0 E0 ∧ OkQ K G F Q0 Q ∧ OkE K G F E0 (WE W σ)
def lT (K : PySem.W.Frag) (W : WX) (t : HTT) : TT := fun σ H Q => ∃ G F S env Q0 E0, RepN K F env σ ∧ Wd K G F S H ∧ t env S Q0 E0 ∧ OkB K G F Q0 Q ∧ OkE K G F E0 (WE W σ)
def lA (K : PySem.W.Frag) (W : WX) (t : HTA) : TA := fun σ H Q => ∃ G F S env Q0 E0, RepN K F env σ ∧ Wd K G F S H ∧ t env S Q0 E0 ∧ OkA K G F Q0 Q ∧ OkE K G F E0 (WE W σ)
def lS (K : PySem.W.Frag) (W : WX) (t : HTS) : TS := fun D σ H => ∃ G F S env E, RepN K F env σ ∧ Wd K G F S H ∧ t E env S ∧ OkS K G F E D W

/-- where the code stands -/
structure Bs where
  P : Program
  w : World
  K : PySem.W.Frag
  mg : Str → Option Value
  base : Heap
  k : Nat
  N : List Str
  sc : Scope
  top : Bool
  own : Str → Bool
structure OkC (B : Bs) (X : Cx) : Prop where
  eP : X.prog = B.P
  ew : X.w = B.w
  eK : X.K = B.K
  em : X.mg = B.mg
  eb : X.base = B.base
  eN : X.N = B.N
  es : X.env.scope = B.sc
  nd : X.N.Nodup
  calm : X.calm = true
  room : Room B.k X.A
  fn : ∀ x, B.own x = true → X.env.scope.names.lookup x = some .cell → X.fn x = true
  own : PassesOwn (model X.prog X.w) X.A X.env X.xe
  stk : B.top = true → X.stack = X.env :: X.outer ∧ X.env.frame = some X.env.locals ∧ X.ex = []

structure HE (B : Bs) (e : Expr) (t : HTE) : Prop where
  run : ∀ (X : Cx) (W : WX), OkC B X → Takes X W → PE X e (lE B.K W t)
structure HT (B : Bs) (e : Expr) (t : HTT) : Prop where
  run : ∀ (X : Cx) (W : WX), OkC B X → Takes X W → PT X e (lT B.K W t)
structure HW (B : Bs) (e : Expr) (t : HTT) : Prop where
  run : ∀ (X : Cx) (W : WX), OkC B X → Takes X W → PW X e (lT B.K W t)
structure HA (B : Bs) (es : List Expr) (t : HTA) : Prop where
  run : ∀ (X : Cx) (W : WX), OkC B X → Takes X W → PA X es (lA B.K W t)
structure HS (B : Bs) (st : Stmt) (t : HTS) : Prop where
  run : ∀ (X : Cx) (W : WX), OkC B X → Takes X W → PS X st (lS B.K W t)
structure HSs (B : Bs) (st : List Stmt) (t : HTS) : Prop where
  run : ∀ (X : Cx) (W : WX), OkC B X → Takes X W → PSs X st (lS B.K W t)

theorem PE.imp {X : Cx} {e : Expr} {t t' : TE} (h : PE X e t) (i : ∀ σ H Q, t' σ H Q → t σ H Q) : PE X e t' := ⟨fun pins s σ H Q I q => h.run pins s σ H Q I (i σ H Q q)⟩
theorem PT.imp {X : Cx} {e : Expr} {t t' : TT} (h : PT X e t) (i : ∀ σ H Q, t' σ H Q → t σ H Q) : PT X e t' := ⟨fun pins s σ H Q I q => h.run pins s σ H Q I (i σ H Q q)⟩
theorem PW.imp {X : Cx} {e : Expr} {t t' : TT} (h : PW X e t) (i : ∀ σ H Q, t' σ H Q → t σ H Q) : PW X e t' := ⟨fun wh pins s σ H Q I q => h.run wh pins s σ H Q I (i σ H Q q)⟩
theorem PA.imp {X : Cx} {e : List Expr} {t t' : TA} (h : PA X e t) (i : ∀ σ H Q, t' σ H Q → t σ H Q) : PA X e t' := ⟨fun pos pins s σ H Q I q => h.run pos pins s σ H Q I (i σ H Q q)⟩
theorem PS.imp {X : Cx} {e : Stmt} {t t' : TS} (h : PS X e t) (i : ∀ D σ H, t' D σ H → t D σ H) : PS X e t' := ⟨fun pins s σ H D I q => h.run pins s σ H D I (i D σ H q)⟩
theorem PSs.imp {X : Cx} {e : List Stmt} {t t' : TS} (h : PSs X e t) (i : ∀ D σ H, t' D σ H → t D σ H) : PSs X e t' := ⟨fun pins s σ H D I q => h.run pins s σ H D I (i D σ H q)⟩
end Hy

set_option Elab.async false
set_option linter.all false
set_option maxRecDepth 100000
set_option maxHeartbeats 4000000
set_option autoImplicit false
namespace Hy
open PySem PySem.Spec PyProof.Rows L2

section
variable {B : Bs} {e a b c o : Expr} {es rest : List Expr} {pos : Pos} {ta tb tc to : HTE} {t u : HTT} {tr : HTA}
/-! ### names, constants -/
def hV (i : Nat) : HTE := fun env S Q _ => match env[i]? with
  | some (some d) => Q d S
  | _ => False
def hC (d : D) : HTE := fun _ S Q _ => Q d S
theorem hv {B : Bs} (i : Nat) {x : Str} {pos : Pos} (hN : B.N[i]? = some x := by rfl) (hvis : Vis B.sc x := by first | exact Or.inl rfl | exact Or.inr (Or.inl rfl) | exact Or.inr (Or.inr rfl))
    (hd : (x == ("__debug__" : Str)) = false := by decide) (hcd : (x == ("__classdict__" : Str)) = false := by decide) : HE B (.Name x pos) (hV i) :=
  ⟨fun X W ok tk => PE.imp (pe_var (i := i) (by rw [ok.eN]; exact hN) (by rw [ok.es]; exact hvis) hd hcd) fun σ H Q ⟨G, F, S, env, Q0, E0, rn, wd, h, hq, he⟩ => by
    unfold hV at h
    cases e : env[i]? with
    | none => rw [e] at h; exact h.elim
    | some o =>
      cases o with
      | none => rw [e] at h; exact h.elim
      | some d =>
        rw [e] at h
        obtain ⟨v, h1, h2⟩ := rn.get i d e
        exact ⟨v, h1, hq d v F S H Le.rfl' wd h2 h⟩⟩
theorem hconst {d : D} {v : V} (h : ∀ X, PE X e (tC v)) (r : ∀ K F, Rep K F d v) : HE B e (hC d) :=
  ⟨fun X W ok tk => PE.imp (h X) fun σ H Q ⟨G, F, S, env, Q0, E0, rn, wd, h, hq, he⟩ => hq d v F S H Le.rfl' wd (r _ _) h⟩
theorem hint {i : Int} {j : Nat} : HE B (.Constant (.int i) j pos) (hC (.int i)) := hconst (fun _ => pe_int) fun _ _ => rfl
theorem hbl {i : Bool} {j : Nat} : HE B (.Constant (.bool i) j pos) (hC (.bl i)) := hconst (fun _ => pe_bl) fun _ _ => rfl
theorem hnon {j : Nat} : HE B (.Constant .none j pos) (hC .non) := hconst (fun _ => pe_non) fun _ _ => rfl
theorem hstr {x : Str} {j : Nat} : HE B (.Constant (.str x) j pos) (hC (.str x)) := hconst (fun _ => pe_str) fun _ _ => rfl

/-! ### two operands by values -/
abbrev G1 := D → Sto → HK → Prop
abbrev G2 := D → D → Sto → HK → Prop
abbrev GL := List D → Sto → HK → Prop
abbrev GM := D → List D → Sto → HK → Prop
def R1ok (K : PySem.W.Frag) (g : G1) (r : V → Hp → VK → Prop) : Prop := ∀ G F S H d v Q0 Q, Wd K G F S H → Rep K F d v → g d S Q0 → OkQ K G F Q0 Q → r v H Q
def R2ok (K : PySem.W.Frag) (g : G2) (r : R2) : Prop := ∀ G F S H d1 v1 d2 v2 Q0 Q, Wd K G F S H → Rep K F d1 v1 → Rep K F d2 v2 → g d1 d2 S Q0 → OkQ K G F Q0 Q → r v1 v2 H Q
def RLok (K : PySem.W.Frag) (g : GL) (r : List V → Hp → VK → Prop) : Prop := ∀ G F S H ds vs Q0 Q, Wd K G F S H → Reps K F ds vs → g ds S Q0 → OkQ K G F Q0 Q → r vs H Q
def hop (g : G2) (ta tb : HTE) : HTE := fun env S Q E => ta env S (fun x S1 => tb env S1 (fun y S2 => g x y S2 Q) E) E
def hun (g : G1) (ta : HTE) : HTE := fun env S Q E => ta env S (fun x S1 => g x S1 Q) E
theorem lop {K : PySem.W.Frag} {W : WX} {g : G2} {r : R2} (hg : R2ok K g r) (ta tb : HTE) (σ : St) (H : Hp) (Q : VK) (h : lE K W (hop g ta tb) σ H Q) : tOp r (lE K W ta) (lE K W tb) σ H Q := by
  obtain ⟨G, F, S, env, Q0, E0, rn, wd, h, hq, he⟩ := h
  refine ⟨G, F, S, env, fun x S1 => tb env S1 (fun y S2 => g x y S2 Q0) E0, E0, rn, wd, h, fun d v F1 S1 H1 l1 w1 r1 h1 => ?_, he⟩
  refine ⟨G, F1, S1, env, fun y S2 => g d y S2 Q0, E0, rn.le l1, w1, h1, fun d2 v2 F2 S2 H2 l2 w2 r2 h2 => ?_, he.le l1⟩
  exact hg G F2 S2 H2 d v d2 v2 Q0 _ w2 (r1.le l2) r2 h2 (hq.le (l1.trans l2))
theorem lun {K : PySem.W.Frag} {W : WX} {g : G1} {r : V → Hp → VK → Prop} (hg : R1ok K g r) (ta : HTE) (σ : St) (H : Hp) (Q : VK) (h : lE K W (hun g ta) σ H Q) : tUn r (lE K W ta) σ H Q := by
  obtain ⟨G, F, S, env, Q0, E0, rn, wd, h, hq, he⟩ := h
  exact ⟨G, F, S, env, fun x S1 => g x S1 Q0, E0, rn, wd, h, fun d v F1 S1 H1 l1 w1 r1 h1 => hg G F1 S1 H1 d v Q0 _ w1 r1 h1 (hq.le l1), he⟩
theorem hbin {op : Operator} {g : G2} {r : PySem.W.Frag → R2} (ho : ∀ X, OkC B X → OpR X (binaryOp op) (r X.K)) (hg : R2ok B.K g (r B.K)) (ha : HE B a ta) (hb : HE B b tb) : HE B (.BinOp a op b pos) (hop g ta tb) :=
  ⟨fun X W ok tk => PE.imp (pe_op (by have := ho X ok; rw [ok.eK] at this; exact this) (ha.run X W ok tk) (hb.run X W ok tk)) fun σ H Q h => lop hg ta tb σ H Q h⟩
theorem hunr {op : UnaryOp} {g : G1} {r : V → Hp → VK → Prop} (ho : ∀ X, UnR X (unaryOp op) r) (hg : R1ok B.K g r) (ha : HE B a ta) : HE B (.UnaryOp op a pos) (hun g ta) :=
  ⟨fun X W ok tk => PE.imp (pe_un (ho X) (ha.run X W ok tk)) fun σ H Q h => lun hg ta σ H Q h⟩
/-- a comparison, as a value -/
theorem hcmp {op : CmpOp} {g : G2} {r : PySem.W.Frag → R2} (ho : ∀ X, OkC B X → OpR X (compareOp op) (r X.K)) (hg : R2ok B.K g (r B.K)) (ha : HE B a ta) (hb : HE B b tb) (hm : behindInMarks op b = false) : HE B (.Compare a [op] [b] pos) (hop g ta tb) :=
  ⟨fun X W ok tk => PE.imp (pe_cmpR (by have := ho X ok; rw [ok.eK] at this; exact this) (ha.run X W ok tk) (hb.run X W ok tk) hm) fun σ H Q h => lop hg ta tb σ H Q h⟩
/-- as a test -/
def hB (ta : HTE) : HTT := fun env S Q E => ta env S (fun x S1 => match x with
  | .bl b => Q b S1
  | _ => False) E
theorem lB {K : PySem.W.Frag} {W : WX} {t : TE} {ta : HTE} (i : ∀ σ H Q, lE K W ta σ H Q → t σ H Q) (σ : St) (H : Hp) (Q : Bool → Hp → Prop) (h : lT K W (hB ta) σ H Q) : tTest t σ H Q := by
  obtain ⟨G, F, S, env, Q0, E0, rn, wd, h, hq, he⟩ := h
  refine i _ _ _ ⟨G, F, S, env, _, E0, rn, wd, h, fun d v F1 S1 H1 l1 w1 r1 h1 => ?_, he⟩
  cases d <;> first | exact h1.elim | skip
  exact ⟨_, r1, hq _ F1 S1 H1 l1 w1 h1⟩
theorem hcmpT {op : CmpOp} {g : G2} {r : PySem.W.Frag → R2} (ho : ∀ X, OkC B X → OpR X (compareOp op) (r X.K)) (hg : R2ok B.K g (r B.K)) (ha : HE B a ta) (hb : HE B b tb) (hm : behindInMarks op b = false) : HT B (.Compare a [op] [b] pos) (hB (hop g ta tb)) :=
  ⟨fun X W ok tk => PT.imp (pt_cmpR (by have := ho X ok; rw [ok.eK] at this; exact this) (ha.run X W ok tk) (hb.run X W ok tk) hm) fun σ H Q h => lB (fun σ H Q h => lop hg ta tb σ H Q h) σ H Q h⟩
theorem htv (h : HE B a ta) (he : ∀ env whole, isTrue a env whole = (do let v ← whole; standAt a.pos; holding [v] (truthy v)) := by intro _ _; rfl) : HT B a (hB ta) :=
  ⟨fun X W ok tk => PT.imp (pt_val (h.run X W ok tk) (he _)) fun σ H Q h => lB (fun σ H Q h => h) σ H Q h⟩

/-! ### and, or, not, if-else -/
def hAnd (t u : HTT) : HTT := fun env S Q E => t env S (fun c S1 => match c with
  | true => u env S1 Q E
  | false => Q false S1) E
def hOr (t u : HTT) : HTT := fun env S Q E => t env S (fun c S1 => match c with
  | true => Q true S1
  | false => u env S1 Q E) E
def hNot (t : HTT) : HTT := fun env S Q E => t env S (fun c S1 => Q (!c) S1) E
theorem hand1 (ha : HT B a t) : HW B (.BoolOp .And [a] pos) t := ⟨fun X W ok tk => pw_and1 (ha.run X W ok tk)⟩
theorem hor1 (ha : HT B a t) : HW B (.BoolOp .Or [a] pos) t := ⟨fun X W ok tk => pw_or1 (ha.run X W ok tk)⟩
theorem hand (ha : HT B a t) (hb : HW B (.BoolOp .And (b :: rest) pos) u) : HW B (.BoolOp .And (a :: b :: rest) pos) (hAnd t u) :=
  ⟨fun X W ok tk => PW.imp (pw_and (ha.run X W ok tk) (hb.run X W ok tk)) fun σ H Q ⟨G, F, S, env, Q0, E0, rn, wd, h, hq, he⟩ =>
    ⟨G, F, S, env, _, E0, rn, wd, h, fun c F1 S1 H1 l1 w1 h1 => by
      cases c with
      | true => exact ⟨G, F1, S1, env, Q0, E0, rn.le l1, w1, h1, hq.le l1, he.le l1⟩
      | false => exact hq _ F1 S1 H1 l1 w1 h1, he⟩⟩
theorem hor (ha : HT B a t) (hb : HW B (.BoolOp .Or (b :: rest) pos) u) : HW B (.BoolOp .Or (a :: b :: rest) pos) (hOr t u) :=
  ⟨fun X W ok tk => PW.imp (pw_or (ha.run X W ok tk) (hb.run X W ok tk)) fun σ H Q ⟨G, F, S, env, Q0, E0, rn, wd, h, hq, he⟩ =>
    ⟨G, F, S, env, _, E0, rn, wd, h, fun c F1 S1 H1 l1 w1 h1 => by
      cases c with
      | false => exact ⟨G, F1, S1, env, Q0, E0, rn.le l1, w1, h1, hq.le l1, he.le l1⟩
      | true => exact hq _ F1 S1 H1 l1 w1 h1, he⟩⟩
theorem hw (h : HW B a t) : HT B a t := ⟨fun X W ok tk => (h.run X W ok tk).pt⟩
theorem hnot (ha : HT B a t) : HT B (.UnaryOp .Not a pos) (hNot t) :=
  ⟨fun X W ok tk => PT.imp (pt_not (ha.run X W ok tk)) fun σ H Q ⟨G, F, S, env, Q0, E0, rn, wd, h, hq, he⟩ =>
    ⟨G, F, S, env, _, E0, rn, wd, h, fun c F1 S1 H1 l1 w1 h1 => hq _ F1 S1 H1 l1 w1 h1, he⟩⟩
def hIf (t : HTT) (ta tb : HTE) : HTE := fun env S Q E => t env S (fun c S1 => match c with
  | true => ta env S1 Q E
  | false => tb env S1 Q E) E
theorem hife (hc : HT B c t) (ha : HE B a ta) (hb : HE B b tb) : HE B (.IfExp c a b pos) (hIf t ta tb) :=
  ⟨fun X W ok tk => PE.imp (pe_ifExp (hc.run X W ok tk) (ha.run X W ok tk) (hb.run X W ok tk)) fun σ H Q ⟨G, F, S, env, Q0, E0, rn, wd, h, hq, he⟩ =>
    ⟨G, F, S, env, _, E0, rn, wd, h, fun k F1 S1 H1 l1 w1 h1 => by
      cases k with
      | true => exact ⟨G, F1, S1, env, Q0, E0, rn.le l1, w1, h1, hq.le l1, he.le l1⟩
      | false => exact ⟨G, F1, S1, env, Q0, E0, rn.le l1, w1, h1, hq.le l1, he.le l1⟩, he⟩⟩
/-- not, and, or as values of bools -/
def hNotV (ta : HTE) : HTE := fun env S Q E => ta env S (fun x S1 => match x with
  | .bl b => Q (.bl (!b)) S1
  | _ => False) E
theorem hnotv (ha : HE B a ta) : HE B (.UnaryOp .Not a pos) (hNotV ta) :=
  ⟨fun X W ok tk => PE.imp (pe_not (ha.run X W ok tk)) fun σ H Q ⟨G, F, S, env, Q0, E0, rn, wd, h, hq, he⟩ =>
    ⟨G, F, S, env, _, E0, rn, wd, h, fun d v F1 S1 H1 l1 w1 r1 h1 => by
      cases d <;> first | exact h1.elim | skip
      exact ⟨_, r1, hq (.bl _) _ F1 S1 H1 l1 w1 (by show V.bl _ = _; rfl) h1⟩, he⟩⟩
def hAndV (ta tb : HTE) : HTE := fun env S Q E => ta env S (fun x S1 => match x with
  | .bl true => tb env S1 Q E
  | .bl false => Q (.bl false) S1
  | _ => False) E
def hOrV (ta tb : HTE) : HTE := fun env S Q E => ta env S (fun x S1 => match x with
  | .bl false => tb env S1 Q E
  | .bl true => Q (.bl true) S1
  | _ => False) E
theorem hone {op : PySem.BoolOp} (h : HE B a ta) : HE B (.BoolOp op [a] pos) ta := ⟨fun X W ok tk => pe_one (h.run X W ok tk)⟩
theorem handv (ha : HE B a ta) (hb : HE B (.BoolOp .And (b :: rest) pos) tb) : HE B (.BoolOp .And (a :: b :: rest) pos) (hAndV ta tb) :=
  ⟨fun X W ok tk => PE.imp (pe_and (ha.run X W ok tk) (hb.run X W ok tk)) fun σ H Q ⟨G, F, S, env, Q0, E0, rn, wd, h, hq, he⟩ =>
    ⟨G, F, S, env, _, E0, rn, wd, h, fun d v F1 S1 H1 l1 w1 r1 h1 => by
      cases d <;> first | exact h1.elim | skip
      rename_i k
      cases k with
      | true => exact ⟨true, r1, G, F1, S1, env, Q0, E0, rn.le l1, w1, h1, hq.le l1, he.le l1⟩
      | false => exact ⟨false, r1, hq (.bl false) _ F1 S1 H1 l1 w1 (by show V.bl _ = _; rfl) h1⟩, he⟩⟩
theorem horv (ha : HE B a ta) (hb : HE B (.BoolOp .Or (b :: rest) pos) tb) : HE B (.BoolOp .Or (a :: b :: rest) pos) (hOrV ta tb) :=
  ⟨fun X W ok tk => PE.imp (pe_or (ha.run X W ok tk) (hb.run X W ok tk)) fun σ H Q ⟨G, F, S, env, Q0, E0, rn, wd, h, hq, he⟩ =>
    ⟨G, F, S, env, _, E0, rn, wd, h, fun d v F1 S1 H1 l1 w1 r1 h1 => by
      cases d <;> first | exact h1.elim | skip
      rename_i k
      cases k with
      | false => exact ⟨false, r1, G, F1, S1, env, Q0, E0, rn.le l1, w1, h1, hq.le l1, he.le l1⟩
      | true => exact ⟨true, r1, hq (.bl true) _ F1 S1 H1 l1 w1 (by show V.bl _ = _; rfl) h1⟩, he⟩⟩

/-! ### argument lists, displays -/
def hNil : HTA := fun _ S Q _ => Q [] S
def hCons (ta : HTE) (tr : HTA) : HTA := fun env S Q E => ta env S (fun x S1 => tr env S1 (fun xs S2 => Q (x :: xs) S2) E) E
theorem hnil : HA B [] hNil := ⟨fun X W ok tk => PA.imp pa_nil fun σ H Q ⟨G, F, S, env, Q0, E0, rn, wd, h, hq, he⟩ => hq [] [] F S H Le.rfl' wd rfl h⟩
theorem hcons (ha : HE B e ta) (hr : HA B es tr) (hs : ∀ env, starEach (e :: es) env = (false, eval e env) :: starEach es env := by intro _; rfl) : HA B (e :: es) (hCons ta tr) :=
  ⟨fun X W ok tk => PA.imp (pa_cons (ha.run X W ok tk) (hr.run X W ok tk) (hs _)) fun σ H Q ⟨G, F, S, env, Q0, E0, rn, wd, h, hq, he⟩ =>
    ⟨G, F, S, env, _, E0, rn, wd, h, fun d v F1 S1 H1 l1 w1 r1 h1 =>
      ⟨G, F1, S1, env, _, E0, rn.le l1, w1, h1, fun ds vs F2 S2 H2 l2 w2 r2 h2 => hq (d :: ds) (v :: vs) F2 S2 H2 (l1.trans l2) w2 ⟨v, vs, rfl, r1.le l2, r2⟩ h2, he.le l1⟩, he⟩⟩
def hTup (t : HTA) : HTE := fun env S Q E => t env S (fun ds S1 => match Nat.ble ds.length 1000 with
  | true => Q (.tup ds) S1
  | false => False) E
def hLst (t : HTA) : HTE := fun env S Q E => t env S (fun ds S1 => match Nat.ble ds.length 1000 with
  | true => Q (.lst ds) S1
  | false => False) E
/-- a list that may change -/
def hLstM (t : HTA) : HTE := fun env S Q E => t env S (fun ds S1 => match Nat.ble ds.length 1000 with
  | true => ∀ p, S1 p = none → Q (.ref p) (up S1 p (.lst ds))
  | false => False) E
theorem le_line {n : Nat} (h : n ≤ 1000) : n ≤ sizeLine := Nat.le_trans h (by decide)
/-- new data is frozen -/
theorem newTup {K : PySem.W.Frag} {G F : Hp} {S : Sto} {H : Hp} {Q0 : HK} {Q : VK} {ds : List D} {vs : List V} (w : Wd K G F S H) (r : Reps K F ds vs) (z : ds.length ≤ sizeLine) (hq : OkQ K G F Q0 Q) (h : Q0 (.tup ds) S) :
    vs.length ≤ sizeLine ∧ ∀ p, H p = none → Q (.ref p) (upd H p (.tup vs)) :=
  ⟨by rw [r.len]; exact z, fun p hp => by
    obtain ⟨w', l'⟩ := w.newF (.tup vs) hp
    exact hq (.tup ds) _ _ S _ l' w' ⟨p, vs, rfl, SqT.of upd_same, r.le l', z⟩ h⟩
theorem newLst {K : PySem.W.Frag} {G F : Hp} {S : Sto} {H : Hp} {Q0 : HK} {Q : VK} {ds : List D} {vs : List V} (w : Wd K G F S H) (r : Reps K F ds vs) (z : ds.length ≤ sizeLine) (hq : OkQ K G F Q0 Q) (h : Q0 (.lst ds) S) :
    vs.length ≤ sizeLine ∧ ∀ p, H p = none → Q (.ref p) (upd H p (.lst vs)) :=
  ⟨by rw [r.len]; exact z, fun p hp => by
    obtain ⟨w', l'⟩ := w.newF (.lst vs) hp
    exact hq (.lst ds) _ _ S _ l' w' ⟨p, vs, rfl, upd_same, r.le l', z⟩ h⟩
theorem newLstM {K : PySem.W.Frag} {G F : Hp} {S : Sto} {H : Hp} {Q0 : HK} {Q : VK} {ds : List D} {vs : List V} (w : Wd K G F S H) (r : Reps K F ds vs) (z : ds.length ≤ sizeLine) (hq : OkQ K G F Q0 Q) (h : ∀ p, S p = none → Q0 (.ref p) (up S p (.lst ds))) :
    vs.length ≤ sizeLine ∧ ∀ p, H p = none → Q (.ref p) (upd H p (.lst vs)) :=
  ⟨by rw [r.len]; exact z, fun p hp => hq (.ref p) _ F (up S p (.lst ds)) _ Le.rfl' (w.newS (m := .lst ds) hp ⟨vs, rfl, r, z⟩) (by show V.ref _ = _; rfl) (h p (w.freshS hp))⟩
theorem ble_le {n : Nat} {A : Prop} (h : match Nat.ble n 1000 with | true => A | false => False) : n ≤ sizeLine ∧ A := by
  cases e : Nat.ble n 1000 with
  | false => rw [e] at h; exact h.elim
  | true => rw [e] at h; exact ⟨le_line (Nat.le_of_ble_eq_true e), h⟩
theorem htup {k : Nat} (h : HA B es tr) : HE B (.Tuple es k pos) (hTup tr) :=
  ⟨fun X W ok tk => PE.imp (pe_tup (h.run X W ok tk)) fun σ H Q ⟨G, F, S, env, Q0, E0, rn, wd, h, hq, he⟩ =>
    ⟨G, F, S, env, _, E0, rn, wd, h, fun ds vs F1 S1 H1 l1 w1 r1 h1 => newTup w1 r1 (ble_le h1).1 (hq.le l1) (ble_le h1).2, he⟩⟩
theorem hlst (h : HA B es tr) : HE B (.List es pos) (hLst tr) :=
  ⟨fun X W ok tk => PE.imp (pe_lst (h.run X W ok tk)) fun σ H Q ⟨G, F, S, env, Q0, E0, rn, wd, h, hq, he⟩ =>
    ⟨G, F, S, env, _, E0, rn, wd, h, fun ds vs F1 S1 H1 l1 w1 r1 h1 => newLst w1 r1 (ble_le h1).1 (hq.le l1) (ble_le h1).2, he⟩⟩
theorem hlstM (h : HA B es tr) : HE B (.List es pos) (hLstM tr) :=
  ⟨fun X W ok tk => PE.imp (pe_lst (h.run X W ok tk)) fun σ H Q ⟨G, F, S, env, Q0, E0, rn, wd, h, hq, he⟩ =>
    ⟨G, F, S, env, _, E0, rn, wd, h, fun ds vs F1 S1 H1 l1 w1 r1 h1 => newLstM w1 r1 (ble_le h1).1 (hq.le l1) (ble_le h1).2, he⟩⟩
end

/-! ### operators by values -/
/-- a list as it is now -/
def items (S : Sto) : D → Option (List D)
  | .tup ds => some ds
  | .lst ds => some ds
  | .rls ds => some ds
  | .ref p => match S p with
    | some (.lst ds) => some ds
    | _ => none
  | _ => none
def itemsL (S : Sto) : D → Option (List D)
  | .lst ds => some ds
  | .rls ds => some ds
  | .ref p => match S p with
    | some (.lst ds) => some ds
    | _ => none
  | _ => none
theorem itemsL_ok {K : PySem.W.Frag} {G F : Hp} {S : Sto} {H : Hp} {d : D} {v : V} {ds : List D} (w : Wd K G F S H) (r : Rep K F d v) (h : itemsL S d = some ds) : ∃ a vs, v = .ref a ∧ SqL K H a vs ∧ Reps K F ds vs ∧ ds.length ≤ sizeLine := by
  cases d <;> simp only [itemsL] at h <;> first | (cases h; done) | skip
  · rename_i p
    cases e : S p with
    | none => rw [e] at h; cases h
    | some m =>
      rw [e] at h
      cases m <;> first | (cases h; done) | skip
      cases h
      obtain ⟨o, h1, vs, rfl, h2, h3⟩ := w.st p _ e
      exact ⟨p, vs, r, SqL.of h1, h2, h3⟩
  · cases h
    obtain ⟨a, vs, h1, h2, h3, z⟩ := r
    exact ⟨a, vs, h1, SqL.of (w.fr _ _ h2), h3, z⟩
  · cases h
    obtain ⟨a, vs, h1, h2, h3, z⟩ := r
    exact ⟨a, vs, h1, SqL.le w.fr h2, h3, z⟩
theorem items_ok {K : PySem.W.Frag} {G F : Hp} {S : Sto} {H : Hp} {d : D} {v : V} {ds : List D} (w : Wd K G F S H) (r : Rep K F d v) (h : items S d = some ds) : ∃ a vs, v = .ref a ∧ (SqL K H a vs ∨ SqT K H a vs) ∧ Reps K F ds vs ∧ ds.length ≤ sizeLine := by
  cases d with
  | tup es =>
    cases h
    obtain ⟨a, vs, h1, h2, h3, z⟩ := r
    exact ⟨a, vs, h1, .inr (SqT.le w.fr h2), h3, z⟩
  | lst es => obtain ⟨a, vs, h1, h2, h3⟩ := itemsL_ok w r (show itemsL S (.lst es) = some ds from h); exact ⟨a, vs, h1, .inl h2, h3⟩
  | rls es => obtain ⟨a, vs, h1, h2, h3⟩ := itemsL_ok w r (show itemsL S (.rls es) = some ds from h); exact ⟨a, vs, h1, .inl h2, h3⟩
  | ref p => obtain ⟨a, vs, h1, h2, h3⟩ := itemsL_ok w r (show itemsL S (.ref p) = some ds from h); exact ⟨a, vs, h1, .inl h2, h3⟩
  | _ => cases h

section
variable {B : Bs}
theorem room_u {k : Nat} {A : Around} (h : Room k A) : A.units + 65 < cLine := by have := h.un; omega
/-! + -/
def gAdd : G2 := fun x y S Q => match x, y with
  | .int i, .int j => Q (.int (i + j)) S
  | .str s, .str t => s.length + t.length ≤ sizeLine ∧ Q (.str (s ++ t)) S
  | .tup xs, .tup ys => xs.length + ys.length ≤ sizeLine ∧ Q (.tup (xs ++ ys)) S
  | .lst xs, .lst ys => xs.length + ys.length ≤ sizeLine ∧ Q (.lst (xs ++ ys)) S
  | .ref p, .lst ys => match S p with
    | some (.lst xs) => xs.length + ys.length ≤ sizeLine ∧ Q (.lst (xs ++ ys)) S
    | _ => False
  | .lst xs, .ref p => match S p with
    | some (.lst ys) => xs.length + ys.length ≤ sizeLine ∧ Q (.lst (xs ++ ys)) S
    | _ => False
  | _, _ => False
def rAddA (K : PySem.W.Frag) : R2 := fun x y H Q => rI0 (fun i j => .int (i + j)) x y H Q ∨ (∃ i j, x = .str i ∧ y = .str j ∧ i.length + j.length ≤ sizeLine ∧ Q (.str (i ++ j)) H) ∨ rCatA K x y H Q ∨ rCat x y H Q
theorem op_addA (X : Cx) : OpR X (binaryOp .Add) (rAddA X.K) := op_add.or (op_add_str.or (op_catA.or op_cat))
theorem lstAt {K : PySem.W.Frag} {G F : Hp} {S : Sto} {H : Hp} {p : Addr} {ds : List D} (w : Wd K G F S H) (e : S p = some (.lst ds)) : ∃ vs, H p = some (.lst vs) ∧ Reps K F ds vs ∧ ds.length ≤ sizeLine := by
  obtain ⟨o, h1, vs, rfl, h2, h3⟩ := w.st p _ e
  exact ⟨vs, h1, h2, h3⟩
theorem catOk {K : PySem.W.Frag} {G F : Hp} {S : Sto} {H : Hp} {a b : Addr} {xs ys : List D} {vs ws : List V} {Q0 : HK} {Q : VK} (w : Wd K G F S H) (ha : H a = some (.lst vs)) (hb : H b = some (.lst ws)) (ra : Reps K F xs vs) (rb : Reps K F ys ws)
    (h : xs.length + ys.length ≤ sizeLine ∧ Q0 (.lst (xs ++ ys)) S) (hq : OkQ K G F Q0 Q) : rCat (.ref a) (.ref b) H Q := by
  have z : (xs ++ ys).length ≤ sizeLine := by rw [List.length_append]; exact h.1
  obtain ⟨z2, n⟩ := newLst w (ra.append rb) z hq h.2
  exact ⟨a, b, vs, ws, rfl, rfl, ha, hb, by rw [ra.len, rb.len]; exact h.1, n⟩
theorem gAdd_ok {K : PySem.W.Frag} : R2ok K gAdd (rAddA K) := by
  intro G F S H d1 v1 d2 v2 Q0 Q w r1 r2 h hq
  unfold gAdd at h
  split at h
  · exact .inl ⟨_, _, r1, r2, hq (.int _) _ F S H Le.rfl' w (by show V.int _ = _; rfl) h⟩
  · exact .inr (.inl ⟨_, _, r1, r2, h.1, hq (.str _) _ F S H Le.rfl' w (by show V.str _ = _; rfl) h.2⟩)
  · rename_i xs ys
    obtain ⟨a, vs, rfl, qa, ra, za⟩ := id r1
    obtain ⟨b, ws, rfl, qb, rb, zb⟩ := id r2
    refine .inr (.inr (.inl ⟨a, b, vs, ws, rfl, rfl, SqT.le w.fr qa, SqT.le w.fr qb, by rw [ra.len, rb.len]; exact h.1, fun e => ?_, fun _ e => ?_, fun _ _ => ?_⟩))
    · have e' := ra.isNil.mp e
      subst e'
      exact hq (.tup ys) _ F S H Le.rfl' w r2 (by simpa using h.2)
    · have e' := rb.isNil.mp e
      subst e'
      exact hq (.tup xs) _ F S H Le.rfl' w r1 (by simpa using h.2)
    · exact (newTup w (ra.append rb) (by rw [List.length_append]; exact h.1) hq h.2).2
  · obtain ⟨a, vs, rfl, qa, ra, za⟩ := id r1
    obtain ⟨b, ws, rfl, qb, rb, zb⟩ := id r2
    exact .inr (.inr (.inr (catOk w (w.fr _ _ qa) (w.fr _ _ qb) ra rb h hq)))
  · rename_i p ys
    obtain ⟨b, ws, rfl, qb, rb, zb⟩ := id r2
    obtain rfl : v1 = .ref p := r1
    split at h
    · rename_i xs e
      obtain ⟨vs, h1, h2, h3⟩ := lstAt w e
      exact .inr (.inr (.inr (catOk w h1 (w.fr _ _ qb) h2 rb h hq)))
    · exact h.elim
  · rename_i xs p
    obtain ⟨a, vs, rfl, qa, ra, za⟩ := id r1
    obtain rfl : v2 = .ref p := r2
    split at h
    · rename_i ys e
      obtain ⟨ws, h1, h2, h3⟩ := lstAt w e
      exact .inr (.inr (.inr (catOk w (w.fr _ _ qa) h1 ra h2 h hq)))
    · exact h.elim
  · exact h.elim
theorem hadd {a b : Expr} {ta tb : HTE} {pos : Pos} (ha : HE B a ta) (hb : HE B b tb) : HE B (.BinOp a .Add b pos) (hop gAdd ta tb) := hbin (fun X _ => op_addA X) gAdd_ok ha hb
/-! ints -/
def gI (C : Int → Int → Prop) (f : Int → Int → D) : G2 := fun x y S Q => match x, y with
  | .int i, .int j => C i j ∧ Q (f i j) S
  | _, _ => False
def gI0 (f : Int → Int → D) : G2 := fun x y S Q => match x, y with
  | .int i, .int j => Q (f i j) S
  | _, _ => False
theorem gI_ok {K : PySem.W.Frag} {C : Int → Int → Prop} {f : Int → Int → D} {g : Int → Int → V} (hf : ∀ F i j, Rep K F (f i j) (g i j)) : R2ok K (gI C f) (rI C g) := by
  intro G F S H d1 v1 d2 v2 Q0 Q w r1 r2 h hq
  unfold gI at h
  split at h
  · exact ⟨_, _, r1, r2, h.1, hq _ _ F S H Le.rfl' w (hf _ _ _) h.2⟩
  · exact h.elim
theorem gI0_ok {K : PySem.W.Frag} {f : Int → Int → D} {g : Int → Int → V} (hf : ∀ F i j, Rep K F (f i j) (g i j)) : R2ok K (gI0 f) (rI0 g) := by
  intro G F S H d1 v1 d2 v2 Q0 Q w r1 r2 h hq
  unfold gI0 at h
  split at h
  · exact ⟨_, _, r1, r2, hq _ _ F S H Le.rfl' w (hf _ _ _) h⟩
  · exact h.elim
abbrev gSub : G2 := gI0 fun i j => .int (i - j)
abbrev gMulI : G2 := gI CMulW fun i j => .int (i * j)
abbrev gDiv : G2 := gI CDiv fun i j => .int (i / j)
abbrev gMod : G2 := gI (fun _ j => 0 < j) fun i j => .int (i % j)
abbrev gPow : G2 := gI CPow fun i j => .int (i ^ j.toNat)
section
variable {a b : Expr} {ta tb : HTE} {pos : Pos}
theorem hsub (ha : HE B a ta) (hb : HE B b tb) : HE B (.BinOp a .Sub b pos) (hop gSub ta tb) := hbin (r := fun _ => _) (fun X _ => op_sub) (gI0_ok fun _ _ _ => rfl) ha hb
theorem hmulI (ha : HE B a ta) (hb : HE B b tb) : HE B (.BinOp a .Mult b pos) (hop gMulI ta tb) := hbin (r := fun _ => _) (fun X _ => op_mulW) (gI_ok fun _ _ _ => rfl) ha hb
theorem hdiv (ha : HE B a ta) (hb : HE B b tb) : HE B (.BinOp a .FloorDiv b pos) (hop gDiv ta tb) := hbin (r := fun _ => _) (fun X _ => op_fdiv) (gI_ok fun _ _ _ => rfl) ha hb
theorem hmod (ha : HE B a ta) (hb : HE B b tb) : HE B (.BinOp a .Mod b pos) (hop gMod ta tb) := hbin (r := fun _ => _) (fun X _ => op_mod) (gI_ok fun _ _ _ => rfl) ha hb
theorem hpow (ha : HE B a ta) (hb : HE B b tb) : HE B (.BinOp a .Pow b pos) (hop gPow ta tb) := hbin (r := fun _ => _) (fun X _ => op_pow) (gI_ok fun _ _ _ => rfl) ha hb
end
/-- a list times an int -/
def gMulL : G2 := fun x y S Q => match x, y with
  | .lst xs, .int k => -(2 ^ 63) ≤ k ∧ k < 2 ^ 63 ∧ xs.length * k.toNat ≤ sizeLine ∧ Q (.lst (List.replicate k.toNat xs).flatten) S
  | _, _ => False
theorem Reps.rep {K : PySem.W.Frag} {F : Hp} {ds : List D} {vs : List V} (r : Reps K F ds vs) : ∀ k : Nat, Reps K F (List.replicate k ds).flatten (List.replicate k vs).flatten
  | 0 => rfl
  | k + 1 => by
    rw [List.replicate_succ, List.replicate_succ, List.flatten_cons, List.flatten_cons]
    exact r.append (r.rep k)
theorem gMulL_ok {K : PySem.W.Frag} : R2ok K gMulL rRep := by
  intro G F S H d1 v1 d2 v2 Q0 Q w r1 r2 h hq
  unfold gMulL at h
  split at h
  · rename_i xs k
    obtain ⟨a, vs, rfl, qa, ra, za⟩ := id r1
    obtain ⟨h1, h2, h3, h4⟩ := h
    have z : (List.replicate k.toNat xs).flatten.length ≤ sizeLine := by
      rw [List.length_flatten, List.map_replicate, List.sum_replicate_nat]
      rw [Nat.mul_comm]; exact h3
    exact ⟨a, k, vs, rfl, r2, w.fr _ _ qa, h1, h2, by rw [ra.len]; exact h3, (newLst w (ra.rep _) z hq h4).2⟩
  · exact h.elim
theorem hmulL {a b : Expr} {ta tb : HTE} {pos : Pos} (ha : HE B a ta) (hb : HE B b tb) : HE B (.BinOp a .Mult b pos) (hop gMulL ta tb) := hbin (r := fun _ => _) (fun X _ => op_rep) gMulL_ok ha hb
theorem hneg {a : Expr} {ta : HTE} {pos : Pos} (ha : HE B a ta) : HE B (.UnaryOp .USub a pos) (hun (fun x S Q => match x with | .int i => Q (.int (-i)) S | _ => False) ta) :=
  hunr (fun X => un_neg) (by
    intro G F S H d v Q0 Q w r h hq
    split at h
    · exact ⟨_, r, hq (.int _) _ F S H Le.rfl' w (by show V.int _ = _; rfl) h⟩
    · exact h.elim) ha
end
end Hy

set_option Elab.async false
set_option linter.all false
set_option maxRecDepth 100000
set_option maxHeartbeats 4000000
set_option autoImplicit false
namespace Hy
open PySem PySem.Spec PyProof.Rows L2

/-! ### data as a whole: == -/
mutual
def toP : D → PyData
  | .non => .none
  | .bl b => .bool b
  | .int i => .int i
  | .str x => .str x
  | .tup ds => .tuple (toPs ds)
  | .lst ds => .list (toPs ds)
  | .rls ds => .list (toPs ds)
  | .ref _ => .none
  | .ty _ => .none
  | .obj _ _ => .none
  | .exc _ _ => .none
  | .tpx _ => .none
def toPs : List D → List PyData
  | [] => []
  | d :: ds => toP d :: toPs ds
end
mutual
/-- plain data, at most n deep -/
def dok : Nat → D → Bool
  | _, .non => true
  | _, .bl _ => true
  | _, .int _ => true
  | _, .str x => PyData.strOk x
  | n, .tup ds => match n with
    | 0 => false
    | n + 1 => doks n ds
  | n, .lst ds => match n with
    | 0 => false
    | n + 1 => doks n ds
  | n, .rls ds => match n with
    | 0 => false
    | n + 1 => doks n ds
  | _, .ref _ => false
  | _, .ty _ => false
  | _, .obj _ _ => false
  | _, .exc _ _ => false
  | _, .tpx _ => false
def doks : Nat → List D → Bool
  | _, [] => true
  | n, d :: ds => dok n d && doks n ds
end
def deq (x y : D) : Bool := PyData.eqv (toP x) (toP y)
mutual
theorem dok_ok : ∀ (d : D) (n : Nat), dok n d = true → (toP d).canLay0 = true ∧ (toP d).depth ≤ n
  | .non, _, _ => ⟨rfl, by simp [toP, PyData.depth]⟩
  | .bl _, _, _ => ⟨rfl, by simp [toP, PyData.depth]⟩
  | .int _, _, _ => ⟨rfl, by simp [toP, PyData.depth]⟩
  | .str x, _, h => ⟨by simpa [toP, PyData.canLay0, dok] using h, by simp [toP, PyData.depth]⟩
  | .tup ds, n, h => by
    cases n with
    | zero => simp [dok] at h
    | succ n =>
      obtain ⟨h1, h2⟩ := doks_ok ds n (by simpa [dok] using h)
      exact ⟨by simpa [toP, PyData.canLay0] using h1, by simp [toP, PyData.depth]; omega⟩
  | .lst ds, n, h => by
    cases n with
    | zero => simp [dok] at h
    | succ n =>
      obtain ⟨h1, h2⟩ := doks_ok ds n (by simpa [dok] using h)
      exact ⟨by simpa [toP, PyData.canLay0] using h1, by simp [toP, PyData.depth]; omega⟩
  | .rls ds, n, h => by
    cases n with
    | zero => simp [dok] at h
    | succ n =>
      obtain ⟨h1, h2⟩ := doks_ok ds n (by simpa [dok] using h)
      exact ⟨by simpa [toP, PyData.canLay0] using h1, by simp [toP, PyData.depth]; omega⟩
  | .ref _, _, h => by simp [dok] at h
  | .ty _, _, h => by simp [dok] at h
  | .obj _ _, _, h => by simp [dok] at h
  | .exc _ _, _, h => by simp [dok] at h
theorem doks_ok : ∀ (ds : List D) (n : Nat), doks n ds = true → PyData.canLayAll0 (toPs ds) = true ∧ PyData.depthAll (toPs ds) ≤ n
  | [], _, _ => ⟨rfl, by simp [toPs, PyData.depthAll]⟩
  | d :: ds, n, h => by
    have h' : (dok n d && doks n ds) = true := by simpa [doks] using h
    obtain ⟨a, b⟩ := Bool.and_eq_true_iff.mp h'
    obtain ⟨h1, h2⟩ := dok_ok d n a
    obtain ⟨h3, h4⟩ := doks_ok ds n b
    exact ⟨by simp [toPs, PyData.canLayAll0, h1, h3], by simp [toPs, PyData.depthAll]; omega⟩
end
theorem shaped_of {d : D} (h : dok 60 d = true) : SeqAt.shaped (toP d) = true := by
  obtain ⟨h1, h2⟩ := dok_ok d 60 h
  unfold SeqAt.shaped
  rw [h1, decide_eq_true (by omega)]
  rfl
mutual
theorem dp_of {K : PySem.W.Frag} {F H : Hp} (l : Le F H) : ∀ (d : D) (n : Nat) (v : V), dok n d = true → Rep K F d v → Dp K H v (toP d)
  | .non, _, _, _, r => by cases r; exact .non
  | .bl _, _, _, _, r => by cases r; exact .bl _
  | .int _, _, _, _, r => by cases r; exact .int _
  | .str x, _, _, h, r => by cases r; exact .str _
  | .tup ds, n, _, h, ⟨a, vs, e, q, r, _⟩ => by
    cases n with
    | zero => simp [dok] at h
    | succ n => subst e; exact .tup (SqT.le l q) (dps_of l ds n vs (by simpa [dok] using h) r)
  | .lst ds, n, _, h, ⟨a, vs, e, q, r, _⟩ => by
    cases n with
    | zero => simp [dok] at h
    | succ n => subst e; exact .lst (SqL.of (l _ _ q)) (dps_of l ds n vs (by simpa [dok] using h) r)
  | .rls ds, n, _, h, ⟨a, vs, e, q, r, _⟩ => by
    cases n with
    | zero => simp [dok] at h
    | succ n => subst e; exact .lst (SqL.le l q) (dps_of l ds n vs (by simpa [dok] using h) r)
  | .ref _, _, _, h, _ => by simp [dok] at h
  | .ty _, _, _, h, _ => by simp [dok] at h
  | .obj _ _, _, _, h, _ => by simp [dok] at h
  | .exc _ _, _, _, h, _ => by simp [dok] at h
theorem dps_of {K : PySem.W.Frag} {F H : Hp} (l : Le F H) : ∀ (ds : List D) (n : Nat) (vs : List V), doks n ds = true → Reps K F ds vs → DpAll K H vs (toPs ds)
  | [], _, _, _, r => by cases r; exact .nil
  | d :: ds, n, _, h, ⟨v, ws, e, r, q⟩ => by
    have h' : (dok n d && doks n ds) = true := by simpa [doks] using h
    obtain ⟨a, b⟩ := Bool.and_eq_true_iff.mp h'
    subst e
    exact .cons (dp_of l d n v a r) (dps_of l ds n ws b q)
end
/-- a list that may change, as it is now -/
def dr (S : Sto) : D → D
  | .ref p => match S p with
    | some (.lst ds) => .lst ds
    | _ => .ref p
  | d => d
theorem dp_dr {K : PySem.W.Frag} {G F : Hp} {S : Sto} {H : Hp} {d : D} {v : V} (w : Wd K G F S H) (r : Rep K F d v) (h : dok 60 (dr S d) = true) : Dp K H v (toP (dr S d)) := by
  cases d with
  | ref p =>
    cases e : S p with
    | none => simp [dr, e, dok] at h
    | some m =>
      cases m with
      | lst ds =>
        simp only [dr, e] at h ⊢
        obtain ⟨vs, h1, h2, h3⟩ := lstAt w e
        obtain rfl : v = .ref p := r
        exact .lst (SqL.of h1) (dps_of w.fr ds 59 vs (by simpa [dok] using h) h2)
      | _ => simp [dr, e, dok] at h
  | _ => exact dp_of w.fr _ 60 v h r

def ng : Bool → Bool → Bool
  | false, b => b
  | true, b => !b
section
variable {B : Bs} {a b : Expr} {ta tb : HTE} {pos : Pos}
def gEqG (neg : Bool) : G2 := fun x y S Q => match x, y with
  | .str s, .str t => Q (.bl (ng neg (s == t))) S
  | x, y => match dok 60 (dr S x) && dok 60 (dr S y) with
    | true => Q (.bl (ng neg (deq (dr S x) (dr S y)))) S
    | false => False
abbrev gEq : G2 := gEqG false
abbrev gNe : G2 := gEqG true
theorem gEqG_ok {K : PySem.W.Frag} (neg : Bool) : R2ok K (gEqG neg) (fun x y H Q => (∃ s t, x = .str s ∧ y = .str t ∧ Q (.bl (ng neg (s == t))) H) ∨ ∃ d e, Dp K H x d ∧ Dp K H y e ∧ SeqAt.shaped d = true ∧ SeqAt.shaped e = true ∧ Q (.bl (ng neg (PyData.eqv d e))) H) := by
  intro G F S H d1 v1 d2 v2 Q0 Q w r1 r2 h hq
  unfold gEqG at h
  split at h
  · exact .inl ⟨_, _, r1, r2, hq (.bl _) _ F S H Le.rfl' w (by show V.bl _ = _; rfl) h⟩
  · split at h
    · rename_i e
      obtain ⟨e1, e2⟩ := Bool.and_eq_true_iff.mp e
      exact .inr ⟨_, _, dp_dr w r1 e1, dp_dr w r2 e2, shaped_of e1, shaped_of e2, hq (.bl _) _ F S H Le.rfl' w (by show V.bl _ = _; rfl) h⟩
    · exact h.elim
theorem rEq_of {X : Cx} (hr : Room 0 X.A) : OpR X (compareOp .Eq) (fun x y H Q => (∃ s t, x = .str s ∧ y = .str t ∧ Q (.bl (ng false (s == t))) H) ∨ ∃ d e, Dp X.K H x d ∧ Dp X.K H y e ∧ SeqAt.shaped d = true ∧ SeqAt.shaped e = true ∧ Q (.bl (ng false (PyData.eqv d e))) H) := by
  have h := (op_eq (X := X)).or (op_eqD hr.units)
  intro pins s σ H x y v u Q I rx ry q
  refine h pins s σ H x y v u Q I rx ry ?_
  rcases q with ⟨s, t, rfl, rfl, q⟩ | ⟨d, e, h1, h2, h3, h4, q⟩
  · refine .inl ⟨rfl, ?_⟩
    rw [dec_str]; exact q
  · exact .inr ⟨d, e, h1, h2, h3, h4, q⟩
theorem rNe_of {X : Cx} (hr : Room 0 X.A) : OpR X (compareOp .NotEq) (fun x y H Q => (∃ s t, x = .str s ∧ y = .str t ∧ Q (.bl (ng true (s == t))) H) ∨ ∃ d e, Dp X.K H x d ∧ Dp X.K H y e ∧ SeqAt.shaped d = true ∧ SeqAt.shaped e = true ∧ Q (.bl (ng true (PyData.eqv d e))) H) := by
  have h := (op_ne (X := X)).or (op_neD hr.units)
  intro pins s σ H x y v u Q I rx ry q
  refine h pins s σ H x y v u Q I rx ry ?_
  rcases q with ⟨s, t, rfl, rfl, q⟩ | ⟨d, e, h1, h2, h3, h4, q⟩
  · refine .inl ⟨rfl, ?_⟩
    rw [dec_str]; exact q
  · exact .inr ⟨d, e, h1, h2, h3, h4, q⟩
theorem heq (ha : HE B a ta) (hb : HE B b tb) : HE B (.Compare a [.Eq] [b] pos) (hop gEq ta tb) := hcmp (r := fun K x y H Q => (∃ s t, x = .str s ∧ y = .str t ∧ Q (.bl (ng false (s == t))) H) ∨ ∃ d e, Dp K H x d ∧ Dp K H y e ∧ SeqAt.shaped d = true ∧ SeqAt.shaped e = true ∧ Q (.bl (ng false (PyData.eqv d e))) H) (fun X ok => rEq_of (ok.room.mono (Nat.zero_le _))) (gEqG_ok false) ha hb (nomark _)
theorem hne (ha : HE B a ta) (hb : HE B b tb) : HE B (.Compare a [.NotEq] [b] pos) (hop gNe ta tb) := hcmp (r := fun K x y H Q => (∃ s t, x = .str s ∧ y = .str t ∧ Q (.bl (ng true (s == t))) H) ∨ ∃ d e, Dp K H x d ∧ Dp K H y e ∧ SeqAt.shaped d = true ∧ SeqAt.shaped e = true ∧ Q (.bl (ng true (PyData.eqv d e))) H) (fun X ok => rNe_of (ok.room.mono (Nat.zero_le _))) (gEqG_ok true) ha hb (nomark _)
theorem heqT (ha : HE B a ta) (hb : HE B b tb) : HT B (.Compare a [.Eq] [b] pos) (hB (hop gEq ta tb)) := hcmpT (r := fun K x y H Q => (∃ s t, x = .str s ∧ y = .str t ∧ Q (.bl (ng false (s == t))) H) ∨ ∃ d e, Dp K H x d ∧ Dp K H y e ∧ SeqAt.shaped d = true ∧ SeqAt.shaped e = true ∧ Q (.bl (ng false (PyData.eqv d e))) H) (fun X ok => rEq_of (ok.room.mono (Nat.zero_le _))) (gEqG_ok false) ha hb (nomark _)
theorem hneT (ha : HE B a ta) (hb : HE B b tb) : HT B (.Compare a [.NotEq] [b] pos) (hB (hop gNe ta tb)) := hcmpT (r := fun K x y H Q => (∃ s t, x = .str s ∧ y = .str t ∧ Q (.bl (ng true (s == t))) H) ∨ ∃ d e, Dp K H x d ∧ Dp K H y e ∧ SeqAt.shaped d = true ∧ SeqAt.shaped e = true ∧ Q (.bl (ng true (PyData.eqv d e))) H) (fun X ok => rNe_of (ok.room.mono (Nat.zero_le _))) (gEqG_ok true) ha hb (nomark _)
/-! <, <=, >, >= -/
def gOrd (f : Int → Int → Bool) (g : List Nat → List Nat → Bool) : G2 := fun x y S Q => match x, y with
  | .int i, .int j => Q (.bl (f i j)) S
  | .str s, .str t => Q (.bl (g s.cps.toList t.cps.toList)) S
  | _, _ => False
abbrev rOrd (f : Int → Int → Bool) (g : List Nat → List Nat → Bool) : R2 := fun x y H Q => rI0 (fun i j => .bl (f i j)) x y H Q ∨ ∃ i j, x = .str i ∧ y = .str j ∧ Q (.bl (g i.cps.toList j.cps.toList)) H
theorem gOrd_ok {K : PySem.W.Frag} {f : Int → Int → Bool} {g : List Nat → List Nat → Bool} : R2ok K (gOrd f g) (rOrd f g) := by
  intro G F S H d1 v1 d2 v2 Q0 Q w r1 r2 h hq
  unfold gOrd at h
  split at h
  · exact .inl ⟨_, _, r1, r2, hq (.bl _) _ F S H Le.rfl' w (by show V.bl _ = _; rfl) h⟩
  · exact .inr ⟨_, _, r1, r2, hq (.bl _) _ F S H Le.rfl' w (by show V.bl _ = _; rfl) h⟩
  · exact h.elim
abbrev gLt : G2 := gOrd (fun i j => decide (i < j)) fun s t => decide (s < t)
abbrev gLe : G2 := gOrd (fun i j => decide (i ≤ j)) fun s t => !decide (t < s)
abbrev gGt : G2 := gOrd (fun i j => decide (j < i)) fun s t => decide (t < s)
abbrev gGe : G2 := gOrd (fun i j => decide (j ≤ i)) fun s t => !decide (s < t)
theorem hlt (ha : HE B a ta) (hb : HE B b tb) : HE B (.Compare a [.Lt] [b] pos) (hop gLt ta tb) := hcmp (r := fun _ => _) (fun X _ => op_lt.or op_lt_str) gOrd_ok ha hb (nomark _)
theorem hle (ha : HE B a ta) (hb : HE B b tb) : HE B (.Compare a [.LtE] [b] pos) (hop gLe ta tb) := hcmp (r := fun _ => _) (fun X _ => op_le.or op_le_str) gOrd_ok ha hb (nomark _)
theorem hgt (ha : HE B a ta) (hb : HE B b tb) : HE B (.Compare a [.Gt] [b] pos) (hop gGt ta tb) := hcmp (r := fun _ => _) (fun X _ => op_gt.or op_gt_str) gOrd_ok ha hb (nomark _)
theorem hge (ha : HE B a ta) (hb : HE B b tb) : HE B (.Compare a [.GtE] [b] pos) (hop gGe ta tb) := hcmp (r := fun _ => _) (fun X _ => op_ge.or op_ge_str) gOrd_ok ha hb (nomark _)
theorem hltT (ha : HE B a ta) (hb : HE B b tb) : HT B (.Compare a [.Lt] [b] pos) (hB (hop gLt ta tb)) := hcmpT (r := fun _ => _) (fun X _ => op_lt.or op_lt_str) gOrd_ok ha hb (nomark _)
theorem hleT (ha : HE B a ta) (hb : HE B b tb) : HT B (.Compare a [.LtE] [b] pos) (hB (hop gLe ta tb)) := hcmpT (r := fun _ => _) (fun X _ => op_le.or op_le_str) gOrd_ok ha hb (nomark _)
theorem hgtT (ha : HE B a ta) (hb : HE B b tb) : HT B (.Compare a [.Gt] [b] pos) (hB (hop gGt ta tb)) := hcmpT (r := fun _ => _) (fun X _ => op_gt.or op_gt_str) gOrd_ok ha hb (nomark _)
theorem hgeT (ha : HE B a ta) (hb : HE B b tb) : HT B (.Compare a [.GtE] [b] pos) (hB (hop gGe ta tb)) := hcmpT (r := fun _ => _) (fun X _ => op_ge.or op_ge_str) gOrd_ok ha hb (nomark _)
/-! is -/
def isN : D → Bool
  | .non => true
  | _ => false
def gIsN (neg : Bool) : G2 := fun x y S Q => match y with
  | .non => Q (.bl (ng neg (isN x))) S
  | .bl b => match x with
    | .bl a => Q (.bl (ng neg (a == b))) S
    | _ => False
  | _ => False
theorem isN_ok {K : PySem.W.Frag} {F : Hp} {d : D} {v : V} (r : Rep K F d v) : decide (v = .non) = isN d := by
  cases d with
  | non => cases r; rfl
  | bl _ => cases r; rfl
  | int _ => cases r; rfl
  | str _ => cases r; rfl
  | ref _ => cases r; rfl
  | ty _ => cases r; rfl
  | tup _ => obtain ⟨a, vs, rfl, _⟩ := r; rfl
  | lst _ => obtain ⟨a, vs, rfl, _⟩ := r; rfl
  | rls _ => obtain ⟨a, vs, rfl, _⟩ := r; rfl
  | obj _ _ => obtain ⟨a, dx, vs, rfl, _⟩ := r; rfl
  | exc _ _ => obtain ⟨a, d, vs, rfl, _⟩ := r; rfl
  | tpx _ => obtain ⟨a, vs, o, rfl, _⟩ := r; rfl
theorem gIs_ok {K : PySem.W.Frag} : R2ok K (gIsN false) (fun x y H Q => (y = .non ∧ Q (.bl (decide (x = .non))) H) ∨ rIsB x y H Q) := by
  intro G F S H d1 v1 d2 v2 Q0 Q w r1 r2 h hq
  unfold gIsN at h
  split at h
  · exact .inl ⟨r2, hq (.bl _) _ F S H Le.rfl' w (by show V.bl _ = _; rw [isN_ok r1]; rfl) h⟩
  · split at h
    · exact .inr ⟨_, _, r1, r2, hq (.bl _) _ F S H Le.rfl' w (by show V.bl _ = _; first | rfl | (simp [ng]; rfl) | (simp [ng])) h⟩
    · exact h.elim
  · exact h.elim
theorem gIsNot_ok {K : PySem.W.Frag} : R2ok K (gIsN true) (fun x y H Q => (y = .non ∧ Q (.bl (!decide (x = .non))) H) ∨ rNotB x y H Q) := by
  intro G F S H d1 v1 d2 v2 Q0 Q w r1 r2 h hq
  unfold gIsN at h
  split at h
  · exact .inl ⟨r2, hq (.bl _) _ F S H Le.rfl' w (by show V.bl _ = _; rw [isN_ok r1]; rfl) h⟩
  · split at h
    · exact .inr ⟨_, _, r1, r2, hq (.bl _) _ F S H Le.rfl' w (by show V.bl _ = _; first | rfl | (simp [ng]; rfl) | (simp [ng])) h⟩
    · exact h.elim
  · exact h.elim
theorem his (ha : HE B a ta) (hb : HE B b tb) : HE B (.Compare a [.Is] [b] pos) (hop (gIsN false) ta tb) := hcmp (r := fun _ => _) (fun X _ => op_isN.or op_isBl) gIs_ok ha hb (nomark _)
theorem hisnot (ha : HE B a ta) (hb : HE B b tb) : HE B (.Compare a [.IsNot] [b] pos) (hop (gIsN true) ta tb) := hcmp (r := fun _ => _) (fun X _ => op_notN.or op_notBl) gIsNot_ok ha hb (nomark _)
theorem hisT (ha : HE B a ta) (hb : HE B b tb) : HT B (.Compare a [.Is] [b] pos) (hB (hop (gIsN false) ta tb)) := hcmpT (r := fun _ => _) (fun X _ => op_isN.or op_isBl) gIs_ok ha hb (nomark _)
theorem hisnotT (ha : HE B a ta) (hb : HE B b tb) : HT B (.Compare a [.IsNot] [b] pos) (hB (hop (gIsN true) ta tb)) := hcmpT (r := fun _ => _) (fun X _ => op_notN.or op_notBl) gIsNot_ok ha hb (nomark _)
end
end Hy

set_option Elab.async false
set_option linter.all false
set_option maxRecDepth 100000
set_option maxHeartbeats 4000000
set_option autoImplicit false
namespace Hy
open PySem PySem.Spec PyProof.Rows L2
section
variable {B : Bs} {a b : Expr} {ta tb : HTE} {pos : Pos}
/-! ### in -/
def flatD : D → Bool
  | .non => true
  | .bl _ => true
  | .int _ => true
  | .str _ => true
  | _ => false
theorem flat_ok {K : PySem.W.Frag} {F : Hp} {d : D} {v : V} (r : Rep K F d v) (h : flatD d = true) : flatV v = true := by
  cases d <;> first | (simp [flatD] at h; done) | (cases r; rfl)
theorem flats_ok {K : PySem.W.Frag} {F : Hp} : ∀ {ds : List D} {vs : List V}, Reps K F ds vs → ds.all flatD = true → vs.all flatV = true
  | [], _, r, _ => by cases r; rfl
  | d :: ds, _, ⟨v, ws, e, r, q⟩, h => by
    subst e
    rw [List.all_cons, Bool.and_eq_true] at h ⊢
    exact ⟨flat_ok r h.1, flats_ok q h.2⟩
theorem eqV_deq {K : PySem.W.Frag} {F : Hp} {x y : D} {v w : V} (rx : Rep K F x v) (ry : Rep K F y w) (hx : flatD x = true) (hy : flatD y = true) : eqV v w = deq x y := by
  cases x <;> first | (simp [flatD] at hx; done) | skip
  all_goals (cases y <;> first | (simp [flatD] at hy; done) | skip)
  all_goals (cases rx; cases ry; simp [eqV, deq, toP, PyData.eqv])
theorem inV_any {K : PySem.W.Frag} {F : Hp} {x : D} {v : V} (rx : Rep K F x v) (hx : flatD x = true) : ∀ {ds : List D} {vs : List V}, Reps K F ds vs → ds.all flatD = true → inV v vs = ds.any fun z => deq z x
  | [], _, r, _ => by cases r; rfl
  | d :: ds, _, ⟨w, ws, e, r, q⟩, h => by
    subst e
    rw [List.all_cons, Bool.and_eq_true] at h
    have ih := inV_any rx hx q h.2
    unfold inV at ih ⊢
    rw [List.any_cons, List.any_cons, ih, eqV_deq r rx h.1 hx]
def gInG (neg : Bool) : G2 := fun x y S Q => match y with
  | .str z => match x with
    | .str w => match w.cps.toList with
      | [c] => Q (.bl (ng neg (decide (c ∈ z.cps.toList)))) S
      | _ => Q (.bl (ng neg (!(Builtin.Str.occurrences z w 0 z.length 1).isEmpty))) S
    | _ => False
  | y => match items S y with
    | some ds => match flatD x && ds.all flatD with
      | true => Q (.bl (ng neg (ds.any fun z => deq z x))) S
      | false => match itemsL S y with
        | some es => match dok 60 x && dok 60 (.lst es) with
          | true => Q (.bl (ng neg (es.any fun z => deq z x))) S
          | false => False
        | none => False
    | none => False
abbrev gIn : G2 := gInG false
abbrev gNotIn : G2 := gInG true
theorem str_of1 {w : Str} {c : Nat} (h : w.cps.toList = [c]) : w = ⟨#[c]⟩ := by
  cases w with
  | mk cps => simp at h; simp [← h]
theorem any_toPs (x : D) : ∀ ds : List D, ((toPs ds).any fun z => PyData.eqv z (toP x)) = ds.any fun z => deq z x
  | [] => rfl
  | d :: ds => by simp only [toPs, List.any_cons, any_toPs x ds]; rfl
abbrev rInG (neg : Bool) (K : PySem.W.Frag) : R2 := fun x y H Q => (∃ (c : Nat) (z : Str), x = .str ⟨#[c]⟩ ∧ y = .str z ∧ Q (.bl (ng neg (decide (c ∈ z.cps.toList)))) H) ∨
  (∃ i j, x = .str i ∧ y = .str j ∧ Q (.bl (ng neg (!(Builtin.Str.occurrences j i 0 j.length 1).isEmpty))) H) ∨
  (∃ p xs, y = .ref p ∧ (SqL K H p xs ∨ SqT K H p xs) ∧ flatV x = true ∧ xs.all flatV = true ∧ Q (.bl (ng neg (inV x xs))) H) ∨
  ∃ d ds, Dp K H x d ∧ Dp K H y (.list ds) ∧ SeqAt.shaped d = true ∧ SeqAt.shaped (.list ds) = true ∧ Q (.bl (ng neg (ds.any fun z => PyData.eqv z d))) H
theorem gInG_ok {K : PySem.W.Frag} (neg : Bool) : R2ok K (gInG neg) (rInG neg K) := by
  intro G F S H d1 v1 d2 v2 Q0 Q w r1 r2 h hq
  unfold gInG at h
  split at h
  · split at h
    · split at h
      · rename_i c e
        obtain rfl := str_of1 e
        exact .inl ⟨c, _, r1, r2, hq (.bl _) _ F S H Le.rfl' w (by show V.bl _ = _; rfl) h⟩
      · exact .inr (.inl ⟨_, _, r1, r2, hq (.bl _) _ F S H Le.rfl' w (by show V.bl _ = _; rfl) h⟩)
    · exact h.elim
  · rename_i y' hy
    split at h
    · rename_i ds e
      split at h
      · rename_i f
        obtain ⟨f1, f2⟩ := Bool.and_eq_true_iff.mp f
        obtain ⟨p, vs, rfl, hs, rs, _⟩ := items_ok w r2 e
        exact .inr (.inr (.inl ⟨p, vs, rfl, hs, flat_ok r1 f1, flats_ok rs f2, hq (.bl _) _ F S H Le.rfl' w (by show V.bl _ = _; rw [inV_any r1 f1 rs f2]) h⟩))
      · split at h
        · rename_i es e2
          split at h
          · rename_i f
            obtain ⟨f1, f2⟩ := Bool.and_eq_true_iff.mp f
            obtain ⟨p, vs, rfl, hs, rs, _⟩ := itemsL_ok w r2 e2
            refine .inr (.inr (.inr ⟨toP d1, toPs es, dp_of w.fr _ 60 _ f1 r1, .lst hs (dps_of w.fr es 59 vs (by simpa [dok] using f2) rs), shaped_of f1, shaped_of (d := .lst es) f2, hq (.bl _) _ F S H Le.rfl' w (by show V.bl _ = _; rw [any_toPs]) h⟩))
          · exact h.elim
        · exact h.elim
    · exact h.elim
theorem rIn_of {X : Cx} (hr : Room 0 X.A) : OpR X (compareOp .In) (rInG false X.K) := by
  have h := (op_in_sign (X := X)).or ((op_in_str (X := X)).or ((op_in_seq (X := X)).or (op_inD (room_u hr))))
  intro pins s σ H x y v u Q I rx ry q
  refine h pins s σ H x y v u Q I rx ry ?_
  rcases q with q | q | ⟨p, xs, h1, h2, h3, h4, q⟩ | q
  · exact .inl q
  · exact .inr (.inl q)
  · exact .inr (.inr (.inl ⟨p, xs, h1, h2, h3, h4, q⟩))
  · exact .inr (.inr (.inr q))
theorem rNotIn_of {X : Cx} (hr : Room 0 X.A) : OpR X (compareOp .NotIn) (rInG true X.K) := by
  have h := (op_notIn_sign (X := X)).or ((op_notIn_str (X := X)).or ((op_notIn_seq (X := X)).or (op_notInD (room_u hr))))
  intro pins s σ H x y v u Q I rx ry q
  refine h pins s σ H x y v u Q I rx ry ?_
  rcases q with q | q | ⟨p, xs, h1, h2, h3, h4, q⟩ | q
  · exact .inl q
  · exact .inr (.inl q)
  · exact .inr (.inr (.inl ⟨p, xs, h1, h2, h3, h4, q⟩))
  · exact .inr (.inr (.inr q))
section
variable (hm : behindInMarks .In b = false := by rfl)
theorem hin (ha : HE B a ta) (hb : HE B b tb) (hm : behindInMarks .In b = false := by rfl) : HE B (.Compare a [.In] [b] pos) (hop gIn ta tb) := hcmp (r := rInG false) (fun X ok => rIn_of (ok.room.mono (Nat.zero_le _))) (gInG_ok false) ha hb hm
theorem hinT (ha : HE B a ta) (hb : HE B b tb) (hm : behindInMarks .In b = false := by rfl) : HT B (.Compare a [.In] [b] pos) (hB (hop gIn ta tb)) := hcmpT (r := rInG false) (fun X ok => rIn_of (ok.room.mono (Nat.zero_le _))) (gInG_ok false) ha hb hm
theorem hnotin (ha : HE B a ta) (hb : HE B b tb) (hm : behindInMarks .NotIn b = false := by rfl) : HE B (.Compare a [.NotIn] [b] pos) (hop gNotIn ta tb) := hcmp (r := rInG true) (fun X ok => rNotIn_of (ok.room.mono (Nat.zero_le _))) (gInG_ok true) ha hb hm
theorem hnotinT (ha : HE B a ta) (hb : HE B b tb) (hm : behindInMarks .NotIn b = false := by rfl) : HT B (.Compare a [.NotIn] [b] pos) (hB (hop gNotIn ta tb)) := hcmpT (r := rInG true) (fun X ok => rNotIn_of (ok.room.mono (Nat.zero_le _))) (gInG_ok true) ha hb hm
end
/-! ### subscripts, slices -/
def gIx : G2 := fun x y S Q => match y with
  | .int i => match x with
    | .str z => z.length ≤ sizeLine ∧ (match atI z.cps.toList i with
      | some c => Q (.str ⟨#[c]⟩) S
      | none => False)
    | x => match items S x with
      | some ds => match atI ds i with
        | some d => Q d S
        | none => False
      | none => False
  | _ => False
theorem atI_reps {K : PySem.W.Frag} {F : Hp} {ds : List D} {vs : List V} {i : Int} {d : D} (r : Reps K F ds vs) (h : atI ds i = some d) : ∃ v, atI vs i = some v ∧ Rep K F d v := by
  unfold atI at h ⊢
  rw [r.len]
  cases e : ixN ds.length i with
  | none => rw [e] at h; cases h
  | some j =>
    rw [e] at h
    obtain ⟨v, h1, h2⟩ := r.at (i := j) (by simpa using h)
    exact ⟨v, by simpa using h1, h2⟩
theorem gIx_ok {K : PySem.W.Frag} : R2ok K gIx (rIx K) := by
  intro G F S H d1 v1 d2 v2 Q0 Q w r1 r2 h hq
  unfold gIx at h
  split at h
  · split at h
    · obtain ⟨z, h⟩ := h
      split at h
      · rename_i c e
        exact .inr (.inr ⟨_, _, c, r1, r2, z, e, hq (.str _) _ F S H Le.rfl' w (by show V.str _ = _; rfl) h⟩)
      · exact h.elim
    · split at h
      · rename_i ds e
        split at h
        · rename_i d e2
          obtain ⟨p, vs, rfl, hs, rs, _⟩ := items_ok w r1 e
          obtain ⟨v, h1, h2⟩ := atI_reps rs e2
          have q := hq d v F S H Le.rfl' w h2 h
          rcases hs with hs | hs
          · exact .inl ⟨p, vs, _, v, rfl, r2, hs, h1, q⟩
          · exact .inr (.inl ⟨p, vs, _, v, rfl, r2, hs, h1, q⟩)
        · exact h.elim
      · exact h.elim
  · exact h.elim
theorem hix (ha : HE B a ta) (hb : HE B b tb) (hs : PlainIx b := by exact fun _ _ => rfl) : HE B (.Subscript a b pos) (hop gIx ta tb) :=
  ⟨fun X W ok tk => PE.imp (pe_ix (by have := ix_seq (X := X); rw [ok.eK] at this; exact this) (ha.run X W ok tk) (hb.run X W ok tk) hs) fun σ H Q h => lop gIx_ok ta tb σ H Q h⟩
/-- a part of a slice -/
abbrev HTO := HEnv → Sto → (Option Int → Sto → Prop) → HK → Prop
def lO (K : PySem.W.Frag) (W : WX) (t : HTO) : TO := fun σ H Q => ∃ G F S env Q0 E0, RepN K F env σ ∧ Wd K G F S H ∧ t env S Q0 E0 ∧ (∀ o F' S' H', Le F F' → Wd K G F' S' H' → Q0 o S' → Q o H') ∧ OkE K G F E0 (WE W σ)
structure HO_ (B : Bs) (e : Option Expr) (t : HTO) : Prop where
  run : ∀ (X : Cx) (W : WX), OkC B X → Takes X W → PO X e (lO B.K W t)
theorem PO.imp {X : Cx} {e : Option Expr} {t t' : TO} (h : PO X e t) (i : ∀ σ H Q, t' σ H Q → t σ H Q) : PO X e t' := ⟨fun pins s σ H Q I q => h.run pins s σ H Q I (i σ H Q q)⟩
def hNoP : HTO := fun _ S Q _ => Q none S
def hPart (t : HTE) : HTO := fun env S Q E => t env S (fun x S1 => match x with
  | .int i => Q (some i) S1
  | _ => False) E
theorem hnop : HO_ B none hNoP := ⟨fun X W ok tk => PO.imp po_none fun σ H Q ⟨G, F, S, env, Q0, E0, rn, wd, h, hq, he⟩ => hq none F S H Le.rfl' wd h⟩
theorem hpart (h : HE B a ta) : HO_ B (some a) (hPart ta) := ⟨fun X W ok tk => PO.imp (po_some (h.run X W ok tk)) fun σ H Q ⟨G, F, S, env, Q0, E0, rn, wd, h, hq, he⟩ =>
  ⟨G, F, S, env, _, E0, rn, wd, h, fun d v F1 S1 H1 l1 w1 r1 h1 => by
    cases d <;> first | exact h1.elim | skip
    exact ⟨_, r1, hq _ F1 S1 H1 l1 w1 h1⟩, he⟩⟩
def cutD (xs : List D) (lo hi : Option Int) : List D := (xs.drop (HT.sIx xs.length 0 lo)).take (HT.sIx xs.length xs.length hi - HT.sIx xs.length 0 lo)
theorem cutD_reps {K : PySem.W.Frag} {F : Hp} {ds : List D} {vs : List V} (r : Reps K F ds vs) (lo hi : Option Int) : Reps K F (cutD ds lo hi) (cutV vs lo hi) := by
  unfold cutD cutV
  rw [r.len]
  exact (r.drop _).take _
theorem cutD_len (ds : List D) (lo hi : Option Int) : (cutD ds lo hi).length ≤ ds.length := by
  unfold cutD
  rw [List.length_take, List.length_drop]
  omega
def gSl : D → Option Int → Option Int → Sto → HK → Prop := fun x lo hi S Q => match x with
  | .str z => z.length ≤ sizeLine ∧ Q (.str (cutS z lo hi)) S
  | .tup ds => Q (.tup (cutD ds lo hi)) S
  | x => match itemsL S x with
    | some ds => Q (.lst (cutD ds lo hi)) S
    | none => False
def hSl (te : HTE) (tl th : HTO) : HTE := fun env S Q E => te env S (fun x S1 => tl env S1 (fun l S2 => th env S2 (fun u S3 => gSl x l u S3 Q) E) E) E
abbrev rSlG (K : PySem.W.Frag) : V → Option Int → Option Int → Hp → VK → Prop := fun x lo hi H Q => rSlS x lo hi H Q ∨ rSlA K x lo hi H Q ∨ rSlL K x lo hi H Q
theorem gSl_ok {K : PySem.W.Frag} {G F : Hp} {S : Sto} {H : Hp} {d : D} {v : V} {lo hi : Option Int} {Q0 : HK} {Q : VK} (w : Wd K G F S H) (r : Rep K F d v) (h : gSl d lo hi S Q0) (hq : OkQ K G F Q0 Q) : rSlG K v lo hi H Q := by
  unfold gSl at h
  split at h
  · exact .inl ⟨_, r, h.1, hq (.str _) _ F S H Le.rfl' w (by show V.str _ = _; rfl) h.2⟩
  · rename_i ds
    obtain ⟨a, vs, rfl, qa, ra, za⟩ := id r
    refine .inr (.inl ⟨a, vs, rfl, SqT.le w.fr qa, fun e => ?_, fun _ => ?_⟩)
    · have e2 : cutD ds lo hi = ds := by
        unfold cutD
        rw [ra.len] at e
        rw [e.1, e.2]
        simp
      rw [e2] at h
      exact hq (.tup ds) _ F S H Le.rfl' w r h
    · exact (newTup w (cutD_reps ra lo hi) (Nat.le_trans (cutD_len _ _ _) za) hq h).2
  · split at h
    · rename_i ds e
      obtain ⟨p, vs, rfl, hs, rs, z⟩ := itemsL_ok w r e
      exact .inr (.inr ⟨p, vs, rfl, hs, (newLst w (cutD_reps rs lo hi) (Nat.le_trans (cutD_len _ _ _) z) hq h).2⟩)
    · exact h.elim
theorem hsl {lo hi : Option Expr} {tl th : HTO} {p2 : Pos} (he : HE B a ta) (hl : HO_ B lo tl) (hu : HO_ B hi th) : HE B (.Subscript a (.Slice lo hi none p2) pos) (hSl ta tl th) :=
  ⟨fun X W ok tk => PE.imp (pe_slice (by have := (sl_str (X := X)).or ((sl_tupA (X := X)).or (sl_list (X := X))); rw [ok.eK] at this; exact this) (he.run X W ok tk) (hl.run X W ok tk) (hu.run X W ok tk)) fun σ H Q ⟨G, F, S, env, Q0, E0, rn, wd, h, hq, he⟩ =>
    ⟨G, F, S, env, _, E0, rn, wd, h, fun d v F1 S1 H1 l1 w1 r1 h1 =>
      ⟨G, F1, S1, env, _, E0, rn.le l1, w1, h1, fun l F2 S2 H2 l2 w2 h2 =>
        ⟨G, F2, S2, env, _, E0, rn.le (l1.trans l2), w2, h2, fun u F3 S3 H3 l3 w3 h3 => gSl_ok w3 (r1.le (l2.trans l3)) h3 (hq.le (l1.trans (l2.trans l3))), he.le (l1.trans l2)⟩, he.le l1⟩, he⟩⟩
/-- xs[::-1] of a list -/
def gRev : G1 := fun x S Q => match itemsL S x with
  | some ds => Q (.lst ds.reverse) S
  | none => False
theorem hrevL {k : Nat} {p1 p2 p3 : Pos} (he : HE B a ta) : HE B (.Subscript a (.Slice none none (some (.UnaryOp .USub (.Constant (.int 1) k p1) p2)) p3) pos) (hun gRev ta) :=
  ⟨fun X W ok tk => PE.imp (pe_revL (he.run X W ok tk)) fun σ H Q h => by
    refine lun (r := fun x H1 Q => ∃ a xs, x = .ref a ∧ SqL X.K H1 a xs ∧ ∀ p, H1 p = none → Q (.ref p) (upd H1 p (.lst xs.reverse))) ?_ ta σ H Q h
    intro G F S H d v Q0 Q w r h hq
    unfold gRev at h
    split at h
    · rename_i ds e
      obtain ⟨p, vs, rfl, hs, rs, z⟩ := itemsL_ok w r e
      exact ⟨p, vs, rfl, by rw [ok.eK]; exact hs, (newLst w rs.reverse (by rw [List.length_reverse]; exact z) hq h).2⟩
    · exact h.elim⟩
end
end Hy

set_option Elab.async false
set_option linter.all false
set_option maxRecDepth 100000
set_option maxHeartbeats 4000000
set_option autoImplicit false
namespace Hy
open PySem PySem.Spec PyProof.Rows L2
section
variable {B : Bs} {e a b o : Expr} {es : List Expr} {ta tb te to : HTE} {tr : HTA} {x m : Str} {p pos apos : Pos}
abbrev Gn (B : Bs) (x : Str) : Prop := B.sc.names.lookup x = some .globalImplicit
theorem OkC.gl {X : Cx} (ok : OkC B X) (h : Gn B x) : Gl X x := by
  show X.env.scope.names.lookup x = some .globalImplicit
  rw [ok.es]; exact h
/-! ### built-ins called by name -/
def hcb (g : GL) (t : HTA) : HTE := fun env S Q E => t env S (fun ds S1 => g ds S1 Q) E
theorem lcb {K : PySem.W.Frag} {W : WX} {g : GL} {r : List V → Hp → VK → Prop} (hg : RLok K g r) (t : HTA) (σ : St) (H : Hp) (Q : VK) (h : lE K W (hcb g t) σ H Q) : tCB r (lA K W t) σ H Q := by
  obtain ⟨G, F, S, env, Q0, E0, rn, wd, h, hq, he⟩ := h
  exact ⟨G, F, S, env, fun x S1 => g x S1 Q0, E0, rn, wd, h, fun d v F1 S1 H1 l1 w1 r1 h1 => hg G F1 S1 H1 d v Q0 _ w1 r1 h1 (hq.le l1), he⟩
theorem hcallB {id : String} {g : GL} {r : PySem.W.Frag → List V → Hp → VK → Prop} (ho : ∀ X, OkC B X → CallR X (.builtin id) (r X.K)) (hg : RLok B.K g (r B.K)) (gn : Gn B x) (hm : B.mg x = none) (hv : bootBuiltins x = some (.builtin id)) (ha : HA B (e :: es) tr)
    (hn : x ≠ "__name__" := by decide) (hdb : (x == ("__debug__" : Str)) = false := by decide) (he : ∀ env, starEach (e :: es) env = (false, eval e env) :: starEach es env := by intro _; rfl) (hpl : ∀ env, (backTo pos (starEach es env)).any (·.1) = false := by intro _; rfl) :
    HE B (.Call (.Name x p) (e :: es) [] pos) (hcb g tr) :=
  ⟨fun X W ok tk => PE.imp (pe_callB (by have := ho X ok; rw [ok.eK] at this; exact this) (ok.gl gn) (by rw [ok.em]; exact hm) hv (ha.run X W ok tk) hn hdb (he _) (hpl _)) fun σ H Q h => lcb hg tr σ H Q h⟩
theorem hcallTy {T : String} {g : GL} {r : PySem.W.Frag → List V → Hp → VK → Prop} (ho : ∀ X, OkC B X → CallR X (.type T) (r X.K)) (hg : RLok B.K g (r B.K)) (gn : Gn B x) (hm : B.mg x = none) (hv : bootBuiltins x = some (.type T)) (ha : HA B (e :: es) tr)
    (hn : x ≠ "__name__" := by decide) (hdb : (x == ("__debug__" : Str)) = false := by decide) (he : ∀ env, starEach (e :: es) env = (false, eval e env) :: starEach es env := by intro _; rfl) (hpl : ∀ env, (backTo pos (starEach es env)).any (·.1) = false := by intro _; rfl) :
    HE B (.Call (.Name x p) (e :: es) [] pos) (hcb g tr) :=
  ⟨fun X W ok tk => PE.imp (pe_callTy (by have := ho X ok; rw [ok.eK] at this; exact this) (ok.gl gn) (by rw [ok.em]; exact hm) hv (ha.run X W ok tk) hn hdb (he _) (hpl _)) fun σ H Q h => lcb hg tr σ H Q h⟩
theorem Reps.one_inv {K : PySem.W.Frag} {F : Hp} {d : D} {vs : List V} (r : Reps K F [d] vs) : ∃ v, vs = [v] ∧ Rep K F d v := by
  obtain ⟨v, ws, rfl, r, q⟩ := r
  cases q
  exact ⟨v, rfl, r⟩
theorem Reps.two_inv {K : PySem.W.Frag} {F : Hp} {d e : D} {vs : List V} (r : Reps K F [d, e] vs) : ∃ v w, vs = [v, w] ∧ Rep K F d v ∧ Rep K F e w := by
  obtain ⟨v, ws, rfl, r, q⟩ := r
  obtain ⟨w, e, q⟩ := q.one_inv
  exact ⟨v, w, by rw [e], r, q⟩
/-! len -/
def gLen : GL := fun ds S Q => match ds with
  | [.str z] => z.length ≤ sizeLine ∧ Q (.int z.length) S
  | [x] => match items S x with
    | some xs => Q (.int xs.length) S
    | none => match x with
      | .ref q => match S q with
        | some (.dct kvs) => Q (.int kvs.length) S
        | _ => False
      | _ => False
  | _ => False
abbrev rLenG (K : PySem.W.Frag) : List V → Hp → VK → Prop := fun xs H Q => (∃ z, xs = [.str z] ∧ z.length ≤ sizeLine ∧ Q (.int z.length) H) ∨ (∃ p ys, xs = [.ref p] ∧ (SqL K H p ys ∨ SqT K H p ys) ∧ Q (.int ys.length) H) ∨ ∃ a kvs, xs = [.ref a] ∧ H a = some (.dK kvs) ∧ Q (.int kvs.length) H
theorem dctAt {K : PySem.W.Frag} {G F : Hp} {S : Sto} {H : Hp} {q : Addr} {kvs : List (Key × D)} (w : Wd K G F S H) (e : S q = some (.dct kvs)) : ∃ vs, H q = some (.dK ((kvs.map (·.1)).zip vs)) ∧ Reps K F (kvs.map (·.2)) vs := by
  obtain ⟨o, h1, vs, rfl, h2⟩ := w.st q _ e
  exact ⟨vs, h1, h2⟩
theorem zip_len {κ : Type} {K : PySem.W.Frag} {F : Hp} {kvs : List (κ × D)} {vs : List V} (r : Reps K F (kvs.map (·.2)) vs) : ((kvs.map (·.1)).zip vs).length = kvs.length := by
  have := r.len
  rw [List.length_zip, this, List.length_map, List.length_map, Nat.min_self]
theorem gLen_ok {K : PySem.W.Frag} : RLok K gLen (rLenG K) := by
  intro G F S H ds vs Q0 Q w r h hq
  unfold gLen at h
  split at h
  · obtain ⟨v, rfl, r1⟩ := r.one_inv
    exact .inl ⟨_, by rw [show v = V.str _ from r1], h.1, hq (.int _) _ F S H Le.rfl' w (by show V.int _ = _; rfl) h.2⟩
  · rename_i x _
    obtain ⟨v, rfl, r1⟩ := r.one_inv
    split at h
    · rename_i xs e
      obtain ⟨p, vs, rfl, hs, rs, _⟩ := items_ok w r1 e
      exact .inr (.inl ⟨p, vs, rfl, hs, hq (.int _) _ F S H Le.rfl' w (by show V.int _ = _; rw [rs.len]) h⟩)
    · cases x <;> first | exact h.elim | skip
      rename_i q _ _
      dsimp only at h
      split at h
      · rename_i kvs e
        obtain ⟨vs, h1, h2⟩ := dctAt w e
        obtain rfl : v = .ref q := r1
        exact .inr (.inr ⟨q, _, rfl, h1, hq (.int _) _ F S H Le.rfl' w (by show V.int _ = _; rw [zip_len h2]) h⟩)
      · exact h.elim
  · exact h.elim
theorem CallR.or3 {X : Cx} {f : Value} {r r' r'' : List V → Hp → VK → Prop} (h : CallR X f r) (h' : CallR X f r') (h'' : CallR X f r'') : CallR X f (fun xs H Q => r xs H Q ∨ r' xs H Q ∨ r'' xs H Q) := h.or (h'.or h'')
theorem call_lenK {X : Cx} : CallR X (.builtin "len") (fun xs H Q => ∃ a kvs, xs = [.ref a] ∧ H a = some (.dK kvs) ∧ Q (.int kvs.length) H) := by
  intro pins s σ H xs us Q I r h
  obtain ⟨a, kvs, rfl, e, q⟩ := h
  exact call_lenD pins s σ H _ us Q I r ⟨a, kvs, rfl, e, q⟩
theorem hlen (gn : Gn B "len") (hm : B.mg "len" = none) (ha : HA B [a] tr) (he : ∀ env, starEach [a] env = (false, eval a env) :: starEach [] env := by intro _; rfl) : HE B (.Call (.Name "len" p) [a] [] pos) (hcb gLen tr) :=
  hcallB (r := rLenG) (fun X _ => CallR.or3 call_len_str call_len_seq call_lenK) gLen_ok gn hm boot_len ha (he := he) (hpl := fun _ => rfl)
/-! tuple(..), list(..) -/
def gTuple : GL := fun ds S Q => match ds with
  | [x] => match items S x with
    | some xs => Q (.tup xs) S
    | none => False
  | _ => False
theorem gTuple_ok {K : PySem.W.Frag} : RLok K gTuple (fun xs H Q => ∃ p ys, xs = [.ref p] ∧ ((SqL K H p ys ∧ ∀ l, H l = none → Q (.ref l) (upd H l (.tup ys))) ∨ (SqT K H p ys ∧ Q (.ref p) H))) := by
  intro G F S H ds vs Q0 Q w r h hq
  unfold gTuple at h
  split at h
  · obtain ⟨v, rfl, r1⟩ := r.one_inv
    rename_i x
    split at h
    · rename_i xs e
      cases x with
      | tup es =>
        cases e
        obtain ⟨a, us, rfl, qa, ra, z⟩ := id r1
        exact ⟨a, us, rfl, .inr ⟨SqT.le w.fr qa, hq (.tup xs) _ F S H Le.rfl' w r1 h⟩⟩
      | _ =>
        obtain ⟨p, us, rfl, hs, rs, z⟩ := itemsL_ok w r1 (by first | exact e | (cases e; done))
        exact ⟨p, us, rfl, .inl ⟨hs, (newTup w rs z hq h).2⟩⟩
    · exact h.elim
  · exact h.elim
theorem htuple (gn : Gn B "tuple") (hm : B.mg "tuple" = none) (ha : HA B [a] tr) (he : ∀ env, starEach [a] env = (false, eval a env) :: starEach [] env := by intro _; rfl) : HE B (.Call (.Name "tuple" p) [a] [] pos) (hcb gTuple tr) :=
  hcallTy (r := fun K xs H Q => ∃ p ys, xs = [.ref p] ∧ ((SqL K H p ys ∧ ∀ l, H l = none → Q (.ref l) (upd H l (.tup ys))) ∨ (SqT K H p ys ∧ Q (.ref p) H))) (fun X _ => call_tuple_of) gTuple_ok gn hm (by decide +kernel) ha (he := he) (hpl := fun _ => rfl)
def gList : GL := fun ds S Q => match ds with
  | [x] => match items S x with
    | some xs => Q (.lst xs) S
    | none => False
  | _ => False
def gListM : GL := fun ds S Q => match ds with
  | [x] => match items S x with
    | some xs => ∀ p, S p = none → Q (.ref p) (up S p (.lst xs))
    | none => False
  | _ => False
abbrev rListG (K : PySem.W.Frag) : List V → Hp → VK → Prop := fun xs H Q => ∃ p ys, xs = [.ref p] ∧ (SqL K H p ys ∨ SqT K H p ys) ∧ ∀ l, H l = none → Q (.ref l) (upd H l (.lst ys))
theorem gList_ok {K : PySem.W.Frag} : RLok K gList (rListG K) := by
  intro G F S H ds vs Q0 Q w r h hq
  unfold gList at h
  split at h
  · obtain ⟨v, rfl, r1⟩ := r.one_inv
    split at h
    · rename_i x xs e
      obtain ⟨p, us, rfl, hs, rs, z⟩ := items_ok w r1 e
      exact ⟨p, us, rfl, hs, (newLst w rs z hq h).2⟩
    · exact h.elim
  · exact h.elim
theorem gListM_ok {K : PySem.W.Frag} : RLok K gListM (rListG K) := by
  intro G F S H ds vs Q0 Q w r h hq
  unfold gListM at h
  split at h
  · obtain ⟨v, rfl, r1⟩ := r.one_inv
    split at h
    · rename_i x xs e
      obtain ⟨p, us, rfl, hs, rs, z⟩ := items_ok w r1 e
      exact ⟨p, us, rfl, hs, (newLstM w rs z hq h).2⟩
    · exact h.elim
  · exact h.elim
theorem hlist (gn : Gn B "list") (hm : B.mg "list" = none) (ha : HA B [a] tr) (he : ∀ env, starEach [a] env = (false, eval a env) :: starEach [] env := by intro _; rfl) : HE B (.Call (.Name "list" p) [a] [] pos) (hcb gList tr) :=
  hcallTy (r := rListG) (fun X _ => call_list_of) gList_ok gn hm (by decide +kernel) ha (he := he) (hpl := fun _ => rfl)
theorem hlistM (gn : Gn B "list") (hm : B.mg "list" = none) (ha : HA B [a] tr) (he : ∀ env, starEach [a] env = (false, eval a env) :: starEach [] env := by intro _; rfl) : HE B (.Call (.Name "list" p) [a] [] pos) (hcb gListM tr) :=
  hcallTy (r := rListG) (fun X _ => call_list_of) gListM_ok gn hm (by decide +kernel) ha (he := he) (hpl := fun _ => rfl)
/-! sum, max, all, any over a list; int(..), str(..), max(a, b), min(a, b) -/
def dInts : List D → Option (List Int)
  | [] => some []
  | .int i :: r => (dInts r).map (i :: ·)
  | _ :: _ => none
def dBls : List D → Option (List Bool)
  | [] => some []
  | .bl i :: r => (dBls r).map (i :: ·)
  | _ :: _ => none
def dStrs : List D → Option (List Str)
  | [] => some []
  | .str i :: r => (dStrs r).map (i :: ·)
  | _ :: _ => none
theorem ints_ok {K : PySem.W.Frag} {F : Hp} : ∀ {ds : List D} {vs : List V} {ns : List Int}, dInts ds = some ns → Reps K F ds vs → vs = ns.map V.int
  | [], _, _, h, r => by cases h; exact r
  | .int i :: ds, _, ns, h, ⟨v, ws, e, r, q⟩ => by
    simp only [dInts, Option.map_eq_some_iff] at h
    obtain ⟨ms, h1, rfl⟩ := h
    cases r
    rw [e, ints_ok h1 q]; rfl
theorem bls_ok {K : PySem.W.Frag} {F : Hp} : ∀ {ds : List D} {vs : List V} {ns : List Bool}, dBls ds = some ns → Reps K F ds vs → vs = ns.map V.bl
  | [], _, _, h, r => by cases h; exact r
  | .bl i :: ds, _, ns, h, ⟨v, ws, e, r, q⟩ => by
    simp only [dBls, Option.map_eq_some_iff] at h
    obtain ⟨ms, h1, rfl⟩ := h
    cases r
    rw [e, bls_ok h1 q]; rfl
theorem strs_ok {K : PySem.W.Frag} {F : Hp} : ∀ {ds : List D} {vs : List V} {ns : List Str}, dStrs ds = some ns → Reps K F ds vs → vs = ns.map V.str
  | [], _, _, h, r => by cases h; exact r
  | .str i :: ds, _, ns, h, ⟨v, ws, e, r, q⟩ => by
    simp only [dStrs, Option.map_eq_some_iff] at h
    obtain ⟨ms, h1, rfl⟩ := h
    cases r
    rw [e, strs_ok h1 q]; rfl
theorem ints_map : ∀ ns : List Int, dInts (ns.map D.int) = some ns
  | [] => rfl
  | n :: ns => by simp [dInts, ints_map ns]
theorem bls_map : ∀ ns : List Bool, dBls (ns.map D.bl) = some ns
  | [] => rfl
  | n :: ns => by simp [dBls, bls_map ns]
theorem strs_map : ∀ ns : List Str, dStrs (ns.map D.str) = some ns
  | [] => rfl
  | n :: ns => by simp [dStrs, strs_map ns]
def gOver {α : Type} (dec : List D → Option α) (f : α → Sto → HK → Prop) : GL := fun ds S Q => match ds with
  | [x] => match itemsL S x with
    | some xs => match dec xs with
      | some ns => f ns S Q
      | none => False
    | none => False
  | _ => False
abbrev gSum : GL := gOver dInts fun ns S Q => Q (.int ns.sum) S
abbrev gAll : GL := gOver dBls fun ns S Q => Q (.bl (ns.all id)) S
abbrev gAny : GL := gOver dBls fun ns S Q => Q (.bl (ns.any id)) S
/-- the greatest of a list that is not empty -/
def maxI : List Int → Int
  | [] => 0
  | [x] => x
  | x :: r => max x (maxI r)
theorem maxI_mem : ∀ {l : List Int}, l ≠ [] → maxI l ∈ l
  | [], h => (h rfl).elim
  | [x], _ => by simp [maxI]
  | x :: y :: r, _ => by
    have ih := maxI_mem (l := y :: r) (by simp)
    show max x (maxI (y :: r)) ∈ _
    rcases Int.le_total x (maxI (y :: r)) with z | z
    · rw [Int.max_eq_right z]; exact List.mem_cons_of_mem _ ih
    · rw [Int.max_eq_left z]; exact List.mem_cons_self
theorem le_maxI : ∀ {l : List Int} {y : Int}, y ∈ l → y ≤ maxI l
  | [x], y, h => by simp at h; subst h; exact Int.le_refl _
  | x :: z :: r, y, h => by
    show y ≤ max x (maxI (z :: r))
    rcases List.mem_cons.mp h with e | h
    · subst e; omega
    · have := le_maxI h; omega
def minI : List Int → Int
  | [] => 0
  | [x] => x
  | x :: r => min x (minI r)
theorem minI_mem : ∀ {l : List Int}, l ≠ [] → minI l ∈ l
  | [], h => (h rfl).elim
  | [x], _ => by simp [minI]
  | x :: y :: r, _ => by
    have ih := minI_mem (l := y :: r) (by simp)
    show min x (minI (y :: r)) ∈ _
    rcases Int.le_total x (minI (y :: r)) with z | z
    · rw [Int.min_eq_left z]; exact List.mem_cons_self
    · rw [Int.min_eq_right z]; exact List.mem_cons_of_mem _ ih
theorem minI_le : ∀ {l : List Int} {y : Int}, y ∈ l → minI l ≤ y
  | [x], y, h => by simp at h; subst h; exact Int.le_refl _
  | x :: z :: r, y, h => by
    show min x (minI (z :: r)) ≤ y
    rcases List.mem_cons.mp h with e | h
    · subst e; omega
    · have := minI_le h; omega
abbrev gMaxL : GL := gOver dInts fun ns S Q => match ns with
  | [] => False
  | ns => Q (.int (maxI ns)) S
abbrev gMinL : GL := gOver dInts fun ns S Q => match ns with
  | [] => False
  | ns => Q (.int (minI ns)) S
theorem gOver_ok {K : PySem.W.Frag} {α : Type} {β : Type} {dec : List D → Option (List α)} {j : α → V} {f : List α → Sto → HK → Prop} (hd : ∀ {F : Hp} {ds : List D} {vs : List V} {ns : List α}, dec ds = some ns → Reps K F ds vs → vs = ns.map j)
    {r : List V → Hp → VK → Prop} (hr : ∀ G F S H a ns Q0 Q, Wd K G F S H → SqL K H a (ns.map j) → f ns S Q0 → OkQ K G F Q0 Q → r [.ref a] H Q) : RLok K (gOver dec f) r := by
  intro G F S H ds vs Q0 Q w rs h hq
  unfold gOver at h
  split at h
  · obtain ⟨v, rfl, r1⟩ := rs.one_inv
    split at h
    · rename_i xs e
      split at h
      · rename_i ns e2
        obtain ⟨p, us, rfl, hs, rs, z⟩ := itemsL_ok w r1 e
        rw [hd e2 rs] at hs
        exact hr G F S H p ns Q0 Q w hs h hq
      · exact h.elim
    · exact h.elim
  · exact h.elim
theorem hsum (gn : Gn B "sum") (hm : B.mg "sum" = none) (ha : HA B [a] tr) (he : ∀ env, starEach [a] env = (false, eval a env) :: starEach [] env := by intro _; rfl) : HE B (.Call (.Name "sum" p) [a] [] pos) (hcb gSum tr) :=
  hcallB (r := rSum) (fun X ok => cr_sum ok.calm) (gOver_ok (β := Unit) (fun h r => ints_ok h r) fun G F S H a ns Q0 Q w hs h hq => ⟨a, ns, rfl, hs, hq (.int _) _ F S H Le.rfl' w (by show V.int _ = _; rfl) h⟩) gn hm (by decide +kernel) ha (he := he) (hpl := fun _ => rfl)
theorem hall (gn : Gn B "all") (hm : B.mg "all" = none) (ha : HA B [a] tr) (he : ∀ env, starEach [a] env = (false, eval a env) :: starEach [] env := by intro _; rfl) : HE B (.Call (.Name "all" p) [a] [] pos) (hcb gAll tr) :=
  hcallB (r := rAll) (fun X ok => cr_all ok.calm) (gOver_ok (β := Unit) (fun h r => bls_ok h r) fun G F S H a ns Q0 Q w hs h hq => ⟨a, ns, rfl, hs, hq (.bl _) _ F S H Le.rfl' w (by show V.bl _ = _; rfl) h⟩) gn hm (by decide +kernel) ha (he := he) (hpl := fun _ => rfl)
theorem hany (gn : Gn B "any") (hm : B.mg "any" = none) (ha : HA B [a] tr) (he : ∀ env, starEach [a] env = (false, eval a env) :: starEach [] env := by intro _; rfl) : HE B (.Call (.Name "any" p) [a] [] pos) (hcb gAny tr) :=
  hcallB (r := rAny) (fun X ok => cr_any ok.calm) (gOver_ok (β := Unit) (fun h r => bls_ok h r) fun G F S H a ns Q0 Q w hs h hq => ⟨a, ns, rfl, hs, hq (.bl _) _ F S H Le.rfl' w (by show V.bl _ = _; rfl) h⟩) gn hm (by decide +kernel) ha (he := he) (hpl := fun _ => rfl)
theorem hmaxL (gn : Gn B "max") (hm : B.mg "max" = none) (ha : HA B [a] tr) (he : ∀ env, starEach [a] env = (false, eval a env) :: starEach [] env := by intro _; rfl) : HE B (.Call (.Name "max" p) [a] [] pos) (hcb gMaxL tr) :=
  hcallB (r := rMax) (fun X ok => cr_max ok.calm) (gOver_ok (β := Unit) (fun h r => ints_ok h r) fun G F S H a ns Q0 Q w hs h hq => by
    have hne : ns ≠ [] := fun z => by subst z; exact h
    have h' : Q0 (.int (maxI ns)) S := by cases ns with
      | nil => exact (hne rfl).elim
      | cons n r => exact h
    refine ⟨a, ns, rfl, hs, List.length_pos_iff.mpr hne, fun m hm1 hm2 => ?_⟩
    have e : m = maxI ns := Int.le_antisymm (le_maxI hm1) (hm2 _ (maxI_mem hne))
    exact hq (.int _) _ F S H Le.rfl' w (by show V.int _ = _; rw [e]) h') gn hm (by decide +kernel) ha (he := he) (hpl := fun _ => rfl)
theorem hminL (gn : Gn B "min") (hm : B.mg "min" = none) (ha : HA B [a] tr) (he : ∀ env, starEach [a] env = (false, eval a env) :: starEach [] env := by intro _; rfl) : HE B (.Call (.Name "min" p) [a] [] pos) (hcb gMinL tr) :=
  hcallB (r := rMin) (fun X ok => cr_min ok.calm) (gOver_ok (β := Unit) (fun h r => ints_ok h r) fun G F S H a ns Q0 Q w hs h hq => by
    have hne : ns ≠ [] := fun z => by subst z; exact h
    have h' : Q0 (.int (minI ns)) S := by cases ns with
      | nil => exact (hne rfl).elim
      | cons n r => exact h
    refine ⟨a, ns, rfl, hs, List.length_pos_iff.mpr hne, fun m hm1 hm2 => ?_⟩
    have e : m = minI ns := Int.le_antisymm (hm2 _ (minI_mem hne)) (minI_le hm1)
    exact hq (.int _) _ F S H Le.rfl' w (by show V.int _ = _; rw [e]) h') gn hm (by decide +kernel) ha (he := he) (hpl := fun _ => rfl)
def gInt1 : GL := fun ds S Q => match ds with
  | [.int i] => Q (.int i) S
  | [.bl k] => Q (.int (if k then 1 else 0)) S
  | [.str z] => match PySem.intText? z with
    | some n => z.length ≤ 640 ∧ Q (.int n) S
    | none => False
  | _ => False
theorem hint1 (gn : Gn B "int") (hm : B.mg "int" = none) (ha : HA B [a] tr) (he : ∀ env, starEach [a] env = (false, eval a env) :: starEach [] env := by intro _; rfl) : HE B (.Call (.Name "int" p) [a] [] pos) (hcb gInt1 tr) :=
  hcallTy (r := fun _ xs H Q => ((∃ i, xs = [.int i] ∧ Q (.int i) H) ∨ ∃ k, xs = [.bl k] ∧ Q (.int (if k then 1 else 0)) H) ∨ ∃ a n, xs = [.str a] ∧ PySem.intText? a = some n ∧ a.length ≤ 640 ∧ Q (.int n) H) (fun X _ => call_int1.or call_int_str) (by
    intro G F S H ds vs Q0 Q w r h hq
    unfold gInt1 at h
    split at h
    · obtain ⟨v, rfl, r1⟩ := r.one_inv
      exact .inl (.inl ⟨_, by rw [show v = V.int _ from r1], hq (.int _) _ F S H Le.rfl' w (by show V.int _ = _; rfl) h⟩)
    · obtain ⟨v, rfl, r1⟩ := r.one_inv
      exact .inl (.inr ⟨_, by rw [show v = V.bl _ from r1], hq (.int _) _ F S H Le.rfl' w (by show V.int _ = _; rfl) h⟩)
    · obtain ⟨v, rfl, r1⟩ := r.one_inv
      split at h
      · rename_i n e
        exact .inr ⟨_, n, by rw [show v = V.str _ from r1], e, h.1, hq (.int _) _ F S H Le.rfl' w (by show V.int _ = _; rfl) h.2⟩
      · exact h.elim
    · exact h.elim) gn hm (by decide +kernel) ha (he := he) (hpl := fun _ => rfl)
def gStr1 : GL := fun ds S Q => match ds with
  | [.int i] => i.natAbs.log2 < 1920 ∧ Q (.str (toString i)) S
  | _ => False
theorem hstr1 (gn : Gn B "str") (hm : B.mg "str" = none) (ha : HA B [a] tr) (he : ∀ env, starEach [a] env = (false, eval a env) :: starEach [] env := by intro _; rfl) : HE B (.Call (.Name "str" p) [a] [] pos) (hcb gStr1 tr) :=
  hcallTy (r := fun _ xs H Q => ∃ i, xs = [.int i] ∧ i.natAbs.log2 < 1920 ∧ Q (.str (toString i)) H) (fun X _ => call_str_int) (by
    intro G F S H ds vs Q0 Q w r h hq
    unfold gStr1 at h
    split at h
    · obtain ⟨v, rfl, r1⟩ := r.one_inv
      exact ⟨_, by rw [show v = V.int _ from r1], h.1, hq (.str _) _ F S H Le.rfl' w (by show V.str _ = _; rfl) h.2⟩
    · exact h.elim) gn hm (by decide +kernel) ha (he := he) (hpl := fun _ => rfl)
def gMax2 : GL := fun ds S Q => match ds with
  | [.int i, .int j] => Q (.int (max i j)) S
  | _ => False
def gMin2 : GL := fun ds S Q => match ds with
  | [.int i, .int j] => Q (.int (min i j)) S
  | _ => False
theorem hmax2 (gn : Gn B "max") (hm : B.mg "max" = none) (ha : HA B [a, b] tr) (he : ∀ env, starEach [a, b] env = (false, eval a env) :: starEach [b] env := by intro _; rfl) (hpl : ∀ env, (backTo pos (starEach [b] env)).any (·.1) = false := by intro _; rfl) : HE B (.Call (.Name "max" p) [a, b] [] pos) (hcb gMax2 tr) :=
  hcallB (r := fun _ xs H Q => ∃ i j, xs = [.int i, .int j] ∧ Q (.int (if j > i then j else i)) H) (fun X ok => call_max2 ok.calm) (by
    intro G F S H ds vs Q0 Q w r h hq
    unfold gMax2 at h
    split at h
    · rename_i i j
      obtain ⟨v, u, rfl, r1, r2⟩ := r.two_inv
      exact ⟨_, _, by rw [show v = V.int _ from r1, show u = V.int _ from r2], hq (.int _) _ F S H Le.rfl' w (by show V.int _ = _; congr 1; split <;> omega) h⟩
    · exact h.elim) gn hm (by decide +kernel) ha (he := he) (hpl := hpl)
theorem hmin2 (gn : Gn B "min") (hm : B.mg "min" = none) (ha : HA B [a, b] tr) (he : ∀ env, starEach [a, b] env = (false, eval a env) :: starEach [b] env := by intro _; rfl) (hpl : ∀ env, (backTo pos (starEach [b] env)).any (·.1) = false := by intro _; rfl) : HE B (.Call (.Name "min" p) [a, b] [] pos) (hcb gMin2 tr) :=
  hcallB (r := fun _ xs H Q => ∃ i j, xs = [.int i, .int j] ∧ Q (.int (if j < i then j else i)) H) (fun X ok => call_min2 ok.calm) (by
    intro G F S H ds vs Q0 Q w r h hq
    unfold gMin2 at h
    split at h
    · rename_i i j
      obtain ⟨v, u, rfl, r1, r2⟩ := r.two_inv
      exact ⟨_, _, by rw [show v = V.int _ from r1, show u = V.int _ from r2], hq (.int _) _ F S H Le.rfl' w (by show V.int _ = _; congr 1; split <;> omega) h⟩
    · exact h.elim) gn hm (by decide +kernel) ha (he := he) (hpl := hpl)
end
end Hy

set_option Elab.async false
set_option linter.all false
set_option maxRecDepth 100000
set_option maxHeartbeats 4000000
set_option autoImplicit false
namespace Hy
open PySem PySem.Spec PyProof.Rows L2

/-! ### targets: names and tuples of names -/
inductive Pt where
  | nm (i : Nat)
  | tp (l : List Pt)
mutual
def bindD : Pt → D → HEnv → Option HEnv
  | .nm i, d, env => some (env.set i (some d))
  | .tp l, d, env => match d with
    | .tup ds => bindDs l ds env
    | _ => none
def bindDs : List Pt → List D → HEnv → Option HEnv
  | [], [], env => some env
  | p :: ps, d :: ds, env => match bindD p d env with
    | some env1 => bindDs ps ds env1
    | none => none
  | _, _, _ => none
end
mutual
def gV (K : PySem.W.Frag) : Pt → TG
  | .nm i => gName i
  | .tp l => gTup K l.length (gVs K l)
def gVs (K : PySem.W.Frag) : List Pt → TGs
  | [] => gNil
  | p :: ps => gCons (gV K p) (gVs K ps)
end
mutual
def slots : Pt → List Nat
  | .nm i => [i]
  | .tp l => slotss l
def slotss : List Pt → List Nat
  | [] => []
  | p :: ps => slots p ++ slotss ps
end
/-- all but these slots stand -/
def SameBut (vs : List Nat) (σ σ' : St) : Prop := σ.length = σ'.length ∧ ∀ j, j ∉ vs → σ'[j]? = σ[j]?
theorem SameBut.rfl' {vs : List Nat} {σ : St} : SameBut vs σ σ := ⟨rfl, fun _ _ => rfl⟩
theorem SameBut.trans {vs ws : List Nat} {a b c : St} (h : SameBut vs a b) (k : SameBut ws b c) : SameBut (vs ++ ws) a c :=
  ⟨h.1.trans k.1, fun j hj => (k.2 j fun z => hj (List.mem_append_right _ z)).trans (h.2 j fun z => hj (List.mem_append_left _ z))⟩
theorem bindDs_len : ∀ {l : List Pt} {ds : List D} {env env1 : HEnv}, bindDs l ds env = some env1 → ds.length = l.length
  | [], [], _, _, _ => rfl
  | [], _ :: _, _, _, h => by simp [bindDs] at h
  | _ :: _, [], _, _, h => by simp [bindDs] at h
  | p :: ps, d :: ds, env, env1, h => by
    unfold bindDs at h
    split at h
    · simp [bindDs_len h]
    · cases h
mutual
theorem bind_ok {K : PySem.W.Frag} {F H : Hp} (le : Le F H) : ∀ (p : Pt) {d : D} {v : V} {env env1 : HEnv} {σ : St} {Q : St → Hp → Prop}, Rep K F d v → RepN K F env σ → bindD p d env = some env1 →
    (∀ σ1, RepN K F env1 σ1 → SameBut (slots p) σ σ1 → Q σ1 H) → gV K p v σ H Q
  | .nm i, d, v, env, env1, σ, Q, r, rn, e, h => by
    cases e
    refine h _ (rn.set r i) ⟨by simp, fun j hj => ?_⟩
    have : i ≠ j := fun z => hj (by rw [z]; exact List.mem_singleton_self j)
    rw [List.getElem?_set_ne this]
  | .tp l, d, v, env, env1, σ, Q, r, rn, e, h => by
    unfold bindD at e
    split at e
    · obtain ⟨a, vs, rfl, q, rs, _⟩ := r
      exact ⟨a, vs, rfl, SqT.le le q, by rw [rs.len, bindDs_len e], binds_ok le l rs rn e h⟩
    · cases e
theorem binds_ok {K : PySem.W.Frag} {F H : Hp} (le : Le F H) : ∀ (l : List Pt) {ds : List D} {vs : List V} {env env1 : HEnv} {σ : St} {Q : St → Hp → Prop}, Reps K F ds vs → RepN K F env σ → bindDs l ds env = some env1 →
    (∀ σ1, RepN K F env1 σ1 → SameBut (slotss l) σ σ1 → Q σ1 H) → gVs K l vs σ H Q
  | [], ds, vs, env, env1, σ, Q, r, rn, e, h => by
    cases ds with
    | nil => cases e; cases r; exact ⟨rfl, h σ rn SameBut.rfl'⟩
    | cons _ _ => simp [bindDs] at e
  | p :: ps, ds, vs, env, env1, σ, Q, r, rn, e, h => by
    cases ds with
    | nil => simp [bindDs] at e
    | cons d ds =>
      obtain ⟨v, ws, rfl, r1, r2⟩ := r
      unfold bindDs at e
      split at e
      · rename_i e2 he
        exact ⟨v, ws, rfl, bind_ok le p r1 rn he fun σ1 rn1 sb1 => binds_ok le ps r2 rn1 e fun σ2 rn2 sb2 => h σ2 rn2 (sb1.trans sb2)⟩
      · cases e
end
structure HP (B : Bs) (tg : Expr) (p : Pt) : Prop where
  run : ∀ X, OkC B X → PG X tg (gV B.K p)
structure HPs (B : Bs) (tgs : List Expr) (p : List Pt) : Prop where
  run : ∀ X, OkC B X → PGs X tgs (gVs B.K p)
section
variable {B : Bs} {pos : Pos} {x : Str}
theorem OkC.loc {X : Cx} (ok : OkC B X) (h : Loc B.sc x) : Loc X.env.scope x := by rw [ok.es]; exact h
/-- a name that is stored here -/
def Own (B : Bs) (x : Str) : Prop := B.sc.names.lookup x = some .local ∨ (B.sc.names.lookup x = some .cell ∧ B.own x = true)
theorem Own.loc (h : Own B x) : Loc B.sc x := h.elim .inl fun z => .inr z.1
theorem OkC.fnl {X : Cx} (ok : OkC B X) (h : Own B x) : X.fn x = true ∨ X.env.scope.names.lookup x = some .local := by
  rcases h with h | ⟨h, h2⟩
  · exact .inr (by rw [ok.es]; exact h)
  · exact .inl (ok.fn x h2 (by rw [ok.es]; exact h))
theorem hnm (i : Nat) (hN : B.N[i]? = some x := by rfl) (hl : Own B x := by first | exact Or.inl rfl | exact Or.inr ⟨rfl, rfl⟩) : HP B (.Name x pos) (.nm i) :=
  ⟨fun X ok => pg_name ok.nd (by rw [ok.eN]; exact hN) (ok.loc hl.loc) (ok.fnl hl)⟩
theorem hps0 : HPs B [] [] := ⟨fun X ok => pgs_nil⟩
theorem hps {e : Expr} {es : List Expr} {p : Pt} {ps : List Pt} (h : HP B e p) (r : HPs B es ps) (hs : ∀ env, (assignEach (e :: es) env).map (·.2) = assign e env :: (assignEach es env).map (·.2) := by intro _; rfl) : HPs B (e :: es) (p :: ps) :=
  ⟨fun X ok => pgs_cons (h.run X ok) (r.run X ok) (hs _)⟩
theorem htp {es : List Expr} {k : Nat} {l : List Pt} (h : HPs B es l) (hn : ∀ env, (assignEach es env).length = l.length := by intro _; rfl) (hst : ∀ env, (assignEach es env).findIdx? (·.1) = none := by intro _; rfl) : HP B (.Tuple es k pos) (.tp l) :=
  ⟨fun X ok => pg_tup (by exact ok.calm) (by have := h.run X ok; rw [← ok.eK] at this ⊢; exact this) (hn _) (hst _) |> fun (q : PG X _ (gTup X.K l.length (gVs B.K l))) => by rw [ok.eK] at q; exact q⟩
end

/-! ### statements -/
section
variable {B : Bs} {st : Stmt} {rest body : List Stmt} {t u : HTS} {e : Expr} {te : HTE} {pos : Pos} {c : Expr} {tc : HTT}
def hNx : HTS := fun D env S => D.nx env S
def hSeq (t u : HTS) : HTS := fun D env S => t { D with nx := u D } env S
theorem OkS.exc {K : PySem.W.Frag} {G F : Hp} {E : HEnds} {D : Ends} {W : WX} (o : OkS K G F E D W) {env : HEnv} {σ : St} (rn : RepN K F env σ) : OkE K G F (fun x S => E.ex x env S) (WE W σ) :=
  fun x cls dd F' S' H' l w r h => o.ex x cls dd env σ F' S' H' l w (rn.le l) r h
theorem hss0 : HSs B [] hNx := ⟨fun X W ok tk => PSs.imp pss_nil fun D σ H ⟨G, F, S, env, E, rn, wd, h, o⟩ => o.nx env σ F S H Le.rfl' wd rn h⟩
theorem hss (h1 : HS B st t) (h2 : HSs B rest u) : HSs B (st :: rest) (hSeq t u) :=
  ⟨fun X W ok tk => PSs.imp (pss_cons (h1.run X W ok tk) (h2.run X W ok tk)) fun D σ H ⟨G, F, S, env, E, rn, wd, h, o⟩ =>
    ⟨G, F, S, env, { E with nx := u E }, rn, wd, h, ⟨fun env1 σ1 F1 S1 H1 l w1 rn1 q => ⟨G, F1, S1, env1, E, rn1, w1, q, o.le l⟩, o.rt, o.bk, o.ct, o.ex⟩⟩⟩
theorem hss1 (h1 : HS B st t) : HSs B [st] t := ⟨fun X W ok tk => pss_one (h1.run X W ok tk)⟩
theorem hpass : HS B (.Pass pos) hNx := ⟨fun X W ok tk => PS.imp ps_pass fun D σ H ⟨G, F, S, env, E, rn, wd, h, o⟩ => o.nx env σ F S H Le.rfl' wd rn h⟩
theorem hbreak : HS B (.Break pos) (fun D env S => D.bk env S) := ⟨fun X W ok tk => PS.imp ps_break fun D σ H ⟨G, F, S, env, E, rn, wd, h, o⟩ => o.bk env σ F S H Le.rfl' wd rn h⟩
theorem hcont : HS B (.Continue pos) (fun D env S => D.ct env S) := ⟨fun X W ok tk => PS.imp ps_continue fun D σ H ⟨G, F, S, env, E, rn, wd, h, o⟩ => o.ct env σ F S H Le.rfl' wd rn h⟩
def hNever : HTS := fun _ _ _ => False
theorem hnever : HS B st hNever := ⟨fun X W ok tk => PS.imp ps_never fun D σ H ⟨G, F, S, env, E, rn, wd, h, o⟩ => h⟩
def hExpr (te : HTE) : HTS := fun D env S => te env S (fun _ S1 => D.nx env S1) fun x S1 => D.ex x env S1
theorem hexpr (h : HE B e te) (hs : ∀ env, swapsWith e none pos.line env = pure false := by intro _; rfl) : HS B (.Expr e pos) (hExpr te) :=
  ⟨fun X W ok tk => PS.imp (ps_expr (h.run X W ok tk) (hs _)) fun D σ H ⟨G, F, S, env, E, rn, wd, h, o⟩ =>
    ⟨G, F, S, env, _, _, rn, wd, h, fun d v F1 S1 H1 l w r q => o.nx env σ F1 S1 H1 l w (rn.le l) q, o.exc rn⟩⟩
def hRet (te : HTE) : HTS := fun D env S => te env S D.rt fun x S1 => D.ex x env S1
theorem hret (h : HE B e te) : HS B (.Return (some e) pos) (hRet te) :=
  ⟨fun X W ok tk => PS.imp (ps_ret (h.run X W ok tk)) fun D σ H ⟨G, F, S, env, E, rn, wd, h, o⟩ => ⟨G, F, S, env, _, _, rn, wd, h, o.rt, o.exc rn⟩⟩
def hRetN : HTS := fun D _ S => D.rt .non S
theorem hretn : HS B (.Return none pos) hRetN := ⟨fun X W ok tk => PS.imp ps_retN fun D σ H ⟨G, F, S, env, E, rn, wd, h, o⟩ => o.rt .non .non F S H Le.rfl' wd rfl h⟩
def hIfS (c : HTT) (t u : HTS) : HTS := fun D env S => c env S (fun b S1 => match b with
  | true => t D env S1
  | false => u D env S1) fun x S1 => D.ex x env S1
theorem hif {b : List Stmt} (hc : HT B c tc) (h1 : HSs B body t) (h2 : HSs B b u) : HS B (.If c body b pos) (hIfS tc t u) :=
  ⟨fun X W ok tk => PS.imp (ps_if (hc.run X W ok tk) (h1.run X W ok tk) (h2.run X W ok tk)) fun D σ H ⟨G, F, S, env, E, rn, wd, h, o⟩ =>
    ⟨G, F, S, env, _, _, rn, wd, h, fun k F1 S1 H1 l w q => by
      cases k with
      | true => exact ⟨G, F1, S1, env, E, rn.le l, w, q, o.le l⟩
      | false => exact ⟨G, F1, S1, env, E, rn.le l, w, q, o.le l⟩, o.exc rn⟩⟩
/-- target = value -/
def hAsg (p : Pt) (te : HTE) : HTS := fun D env S => te env S (fun d S1 => match bindD p d env with
  | some env1 => D.nx env1 S1
  | none => False) fun x S1 => D.ex x env S1
theorem hasg {tg : Expr} {p : Pt} (h : HE B e te) (hg : HP B tg p) (hs : ∀ env, swapsWithSole [tg] e pos.line env = pure false := by intro _; rfl) (hw : ∀ env, swappedStores [tg] e env = pure none := by intro _; rfl)
    (h1 : ∀ env, (assignEach [tg] env).map (·.2) = [assign tg env] := by intro _; rfl) : HS B (.Assign [tg] e pos) (hAsg p te) :=
  ⟨fun X W ok tk => PS.imp (ps_asg (h.run X W ok tk) (hg.run X ok) (hs _) (hw _) (h1 _)) fun D σ H ⟨G, F, S, env, E, rn, wd, h, o⟩ =>
    ⟨G, F, S, env, _, _, rn, wd, h, fun d v F1 S1 H1 l w r q => by
      dsimp only at q
      split at q
      · rename_i env1 eb
        exact bind_ok w.fr p r (rn.le l) eb fun σ1 rn1 _ => o.nx env1 σ1 F1 S1 H1 l w rn1 q
      · exact q.elim, o.exc rn⟩⟩
def hSet (i : Nat) (te : HTE) : HTS := fun D env S => te env S (fun d S1 => D.nx (env.set i (some d)) S1) fun x S1 => D.ex x env S1
theorem hset (i : Nat) {x : Str} {pos' : Pos} (h : HE B e te) (hN : B.N[i]? = some x := by rfl) (hl : Own B x := by first | exact Or.inl rfl | exact Or.inr ⟨rfl, rfl⟩) (hs : ∀ env, swapsWith e (some (.Name x pos')) pos.line env = pure false := by intro _; rfl) :
    HS B (.Assign [.Name x pos'] e pos) (hSet i te) :=
  ⟨fun X W ok tk => PS.imp (ps_set (i := i) ok.nd (by rw [ok.eN]; exact hN) (ok.loc hl.loc) (h.run X W ok tk) (hs _) (ok.fnl hl)) fun D σ H ⟨G, F, S, env, E, rn, wd, h, o⟩ =>
    ⟨G, F, S, env, _, _, rn, wd, h, fun d v F1 S1 H1 l w r q => o.nx _ _ F1 S1 H1 l w ((rn.le l).set r i) q, o.exc rn⟩⟩
/-- a, b = e1, e2 -/
def hPar (i j : Nat) (ta : HTA) : HTS := fun D env S => ta env S (fun ds S1 => match ds with
  | [d1, d2] => D.nx ((env.set i (some d1)).set j (some d2)) S1
  | _ => False) fun x S1 => D.ex x env S1
/-- name op= e, whole numbers -/
def hAug (i : Nat) (g : G2) (te : HTE) : HTS := fun D env S => match env[i]? with
  | some (some x) => te env S (fun y S1 => g x y S1 fun z S2 => D.nx (env.set i (some z)) S2) fun x S1 => D.ex x env S1
  | _ => False
theorem haug (i : Nat) {x : Str} {pos' : Pos} {op : Operator} {g : G2} {r : PySem.W.Frag → R2} (ho : ∀ X, OkC B X → OpR X (inplaceOp op) (r X.K)) (hg : R2ok B.K g (r B.K)) (h : HE B e te) (hN : B.N[i]? = some x := by rfl) (hl : Own B x := by first | exact Or.inl rfl | exact Or.inr ⟨rfl, rfl⟩) :
    HS B (.AugAssign (.Name x pos') op e pos) (hAug i g te) :=
  ⟨fun X W ok tk => PS.imp (ps_aug (i := i) (ti := r B.K) ok.nd (by rw [ok.eN]; exact hN) (ok.loc hl.loc) (h.run X W ok tk) (by
      intro pins s σ H x y v u Q I r1 r2 q
      have := ho X ok
      rw [ok.eK] at this
      exact this pins s σ H x y v u Q I r1 r2 q) (ok.fnl hl)) fun D σ H ⟨G, F, S, env, E, rn, wd, h, o⟩ => by
    unfold hAug at h
    split at h
    · rename_i d ed
      obtain ⟨v, h1, h2⟩ := rn.get i d ed
      exact ⟨v, h1, G, F, S, env, _, _, rn, wd, h, fun d2 v2 F1 S1 H1 l w r q => hg G F1 S1 H1 d v d2 v2 _ _ w (h2.le l) r q fun d3 v3 F2 S2 H2 l2 w2 r3 q3 => o.nx _ _ F2 S2 H2 (l.trans l2) w2 ((rn.le (l.trans l2)).set r3 i) q3, o.exc rn⟩
    · exact h.elim⟩
theorem haugAdd (i : Nat) {x : Str} {pos' : Pos} (h : HE B e te) (hN : B.N[i]? = some x := by rfl) (hl : Own B x := by first | exact Or.inl rfl | exact Or.inr ⟨rfl, rfl⟩) : HS B (.AugAssign (.Name x pos') .Add e pos) (hAug i (gI0 fun i j => .int (i + j)) te) :=
  haug i (r := fun _ => _) (fun X _ => iop_add) (gI0_ok fun _ _ _ => rfl) h hN hl
theorem haugSub (i : Nat) {x : Str} {pos' : Pos} (h : HE B e te) (hN : B.N[i]? = some x := by rfl) (hl : Own B x := by first | exact Or.inl rfl | exact Or.inr ⟨rfl, rfl⟩) : HS B (.AugAssign (.Name x pos') .Sub e pos) (hAug i gSub te) :=
  haug i (r := fun _ => _) (fun X _ => iop_sub) (gI0_ok fun _ _ _ => rfl) h hN hl
theorem haugMul (i : Nat) {x : Str} {pos' : Pos} (h : HE B e te) (hN : B.N[i]? = some x := by rfl) (hl : Own B x := by first | exact Or.inl rfl | exact Or.inr ⟨rfl, rfl⟩) : HS B (.AugAssign (.Name x pos') .Mult e pos) (hAug i (gI CMul fun i j => .int (i * j)) te) :=
  haug i (r := fun _ => _) (fun X _ => iop_mul) (gI_ok fun _ _ _ => rfl) h hN hl
theorem haugDiv (i : Nat) {x : Str} {pos' : Pos} (h : HE B e te) (hN : B.N[i]? = some x := by rfl) (hl : Own B x := by first | exact Or.inl rfl | exact Or.inr ⟨rfl, rfl⟩) : HS B (.AugAssign (.Name x pos') .FloorDiv e pos) (hAug i gDiv te) :=
  haug i (r := fun _ => _) (fun X _ => iop_fdiv) (gI_ok fun _ _ _ => rfl) h hN hl
/-! while -/
def hWhile (c : HTT) (tb : HTS) : HTS := fun D env S => ∃ I : Nat → HEnv → Sto → Prop, (∃ m, I m env S) ∧ ∀ m env S, I m env S → c env S (fun b S1 => match b with
  | true => tb { D with nx := fun e S => ∃ m', m' < m ∧ I m' e S, ct := fun e S => ∃ m', m' < m ∧ I m' e S, bk := D.nx } env S1
  | false => D.nx env S1) fun x S1 => D.ex x env S1
theorem hwhile (hc : HT B c tc) (hb : HSs B body t) : HS B (.While c body [] pos) (hWhile tc t) :=
  ⟨fun X W ok tk => PS.imp (ps_while ok.own (hc.run X W ok tk) (hb.run X W ok tk)) fun D σ H ⟨G, F, S, env, E, rn, wd, ⟨I, ⟨m0, h0⟩, step⟩, o⟩ => by
    refine ⟨fun m σ H => ∃ F1 S1 env1, Le F F1 ∧ RepN B.K F1 env1 σ ∧ Wd B.K G F1 S1 H ∧ I m env1 S1, ⟨m0, F, S, env, Le.rfl', rn, wd, h0⟩, ?_⟩
    rintro m σ1 H1 ⟨F1, S1, env1, l1, rn1, w1, h1⟩
    have o1 := o.le l1
    refine ⟨G, F1, S1, env1, _, _, rn1, w1, step m env1 S1 h1, fun k F2 S2 H2 l2 w2 q => ?_, o1.exc rn1⟩
    cases k with
    | false => exact o1.nx env1 σ1 F2 S2 H2 l2 w2 (rn1.le l2) q
    | true =>
      rw [if_pos rfl]
      refine ⟨fun σ' H' => ∃ m', m' < m ∧ ∃ F1 S1 env1, Le F F1 ∧ RepN B.K F1 env1 σ' ∧ Wd B.K G F1 S1 H' ∧ I m' env1 S1, fun σ' H' h => h, ?_⟩
      have nx : OkN B.K G F2 (fun e S => ∃ m', m' < m ∧ I m' e S) (fun σ' H' => ∃ m', m' < m ∧ ∃ F1 S1 env1, Le F F1 ∧ RepN B.K F1 env1 σ' ∧ Wd B.K G F1 S1 H' ∧ I m' env1 S1) :=
        fun env3 σ3 F3 S3 H3 l3 w3 rn3 ⟨m', hm, hi⟩ => ⟨m', hm, F3, S3, env3, l1.trans (l2.trans l3), rn3, w3, hi⟩
      exact ⟨G, F2, S2, env1, _, rn1.le l2, w2, q, nx, (o1.le l2).rt, (o1.le l2).nx, nx, (o1.le l2).ex⟩⟩
end
end Hy

set_option Elab.async false
set_option linter.all false
set_option maxRecDepth 100000
set_option maxHeartbeats 4000000
set_option autoImplicit false
namespace Hy
open PySem PySem.Spec PyProof.Rows L2

/-! ### what is walked -/
/-- a list that may change stands while it is walked -/
abbrev Ck := Option (Addr × List D)
def chk (k : Ck) (S : Sto) (A : Prop) : Prop := match k with
  | none => A
  | some (p, ds) => S p = some (.lst ds) ∧ A
theorem chk_a {k : Ck} {S : Sto} {A : Prop} (h : chk k S A) : A := by
  cases k with
  | none => exact h
  | some q => exact h.2
theorem chk_t {k : Ck} {S : Sto} {A : Prop} (h : chk k S A) : chk k S True := by
  cases k with
  | none => trivial
  | some q => exact ⟨h.1, trivial⟩
structure IterOk (K : PySem.W.Frag) (G F : Hp) (ds : List D) (k : Ck) (J : It) : Prop where
  w : Walk J ds.length (fun H => ∃ F1 S1, Le F F1 ∧ Wd K G F1 S1 H ∧ chk k S1 True) (fun i H x H' => ∀ G1 F1 S1, Le G G1 → Le F F1 → Wd K G1 F1 S1 H → chk k S1 True → ∃ d F2, ds[i]? = some d ∧ Le F1 F2 ∧ Wd K G1 F2 S1 H' ∧ Rep K F2 d x)
  z : ds.length ≤ sizeLine
abbrev HTI := HEnv → Sto → (List D → Ck → Sto → Prop) → HK → Prop
def lI (K : PySem.W.Frag) (W : WX) (t : HTI) : TI := fun σ H R => ∃ G F S env R0 E0, RepN K F env σ ∧ Wd K G F S H ∧ t env S R0 E0 ∧
  (∀ ds k F' S' H' J, Le F F' → Wd K G F' S' H' → IterOk K G F' ds k J → R0 ds k S' → R J H') ∧ OkE K G F E0 (WE W σ)
structure HI (B : Bs) (tg iter : Expr) (t : HTI) : Prop where
  run : ∀ (X : Cx) (W : WX), OkC B X → Takes X W → PI X tg iter (lI B.K W t)
theorem PI.imp {X : Cx} {tg iter : Expr} {t t' : TI} (h : PI X tg iter t) (i : ∀ σ H Q, t' σ H Q → t σ H Q) : PI X tg iter t' := ⟨fun pins s σ H Q I q => h.run pins s σ H Q I (i σ H Q q)⟩
/-- a list, a tuple or a text by its value -/
def iSq (K : PySem.W.Frag) (tl : TE) : TI := fun σ H R => tl σ H fun x H1 => (∃ a, x = .ref a ∧ (∃ xs, SqL K H1 a xs) ∧ R (Itl K a) H1) ∨ (∃ a, x = .ref a ∧ (∃ xs, SqT K H1 a xs) ∧ R (Itt K a) H1) ∨ ∃ z, x = .str z ∧ R (Its z) H1
theorem one_it {X : Cx} {tg : Expr} {pins : List (Addr × Obj)} {σ : St} {H : Hp} {s : Shared} {R : It → Hp → Prop} {ob : Obj} {J : It} {tn : Nat → Heap → Prop} (I : Inv X pins σ H s)
    (T : Turn X.prog X.w X.K tg J [s.heap.objs.size] s.heap.objs.size tn) (t0 : tn 0 (s.heap.push ob)) (q : R J H) : PIE X pins σ tg R (.ref s.heap.objs.size) { s with heap := s.heap.push ob } := by
  have J2 : Inv X pins σ H { s with heap := s.heap.push ob, toks := s.toks } := I.kept fun _ _ e => Heap.get?_push_of_some _ e
  refine ⟨_, _, _, _, H, rfl, J2, T, t0, fun b hb => ?_, q⟩
  cases List.mem_singleton.mp hb
  exact I.fpOk (Nat.le_refl _) (I.hok.fresh (Nat.le_refl _))
theorem pi_sq {X : Cx} {tg l : Expr} {tl : TE} (hl : PE X l tl) : PI X tg l (iSq X.K tl) :=
  ⟨fun pins s σ H R I h => thn (hl.run pins s σ H _ I h) fun v s1 ⟨x, H1, I1, r1, q1⟩ => by
    rcases q1 with ⟨a, rfl, ⟨xs, hx⟩, q⟩ | ⟨a, rfl, ⟨xs, hx⟩, q⟩ | ⟨z, rfl, q⟩
    · cases r1
      obtain ⟨its, rv, pl, hz⟩ := I1.list hx
      exact wpAny_pyIter_list pl.isList (one_it I1 (turn_list a _) ⟨_, Heap.get?_push_size _ rfl, rfl, rfl⟩ q)
    · cases r1
      obtain ⟨its, rv, pl, hz⟩ := I1.tuple hx
      exact wpAny_pyIter_tuple pl (one_it I1 (turn_tuple a _) ⟨_, Heap.get?_push_size _ rfl, rfl, rfl⟩ q)
    · obtain ⟨t, rfl⟩ := r1
      cases hz : z.cps.all (· < 128) with
      | true => exact wpAny_pyIter_ascii hz (one_it I1 (turn_str _ z t "str_ascii_iterator" (.inl rfl)) ⟨_, Heap.get?_push_size _ rfl, rfl, rfl⟩ q)
      | false => exact wpAny_pyIter_wide hz (one_it I1 (turn_str _ z t "str_iterator" (.inr rfl)) ⟨_, Heap.get?_push_size _ rfl, rfl, rfl⟩ q)⟩
def ckOf : D → List D → Ck
  | .ref p, ds => some (p, ds)
  | _, _ => none
def hiSq (te : HTE) : HTI := fun env S R E => te env S (fun x S1 => match x with
  | .str z => z.length ≤ sizeLine ∧ R (z.cps.toList.map fun c => .str ⟨#[c]⟩) none S1
  | x => match items S1 x with
    | some ds => R ds (ckOf x ds) S1
    | none => False) E
theorem iter_l {K : PySem.W.Frag} {G F : Hp} {a : Addr} {ds : List D} {vs : List V} {k : Ck} (rs : Reps K F ds vs) (z : ds.length ≤ sizeLine)
    (st : ∀ G1 F1 S1 H, Le G G1 → Le F F1 → Wd K G1 F1 S1 H → chk k S1 True → ∃ us, SqL K H a us ∧ Reps K F1 ds us) : IterOk K G F ds k (Itl K a) := by
  refine ⟨⟨fun i H hi ⟨F1, S1, l, w, c⟩ => ?_, fun H ⟨F1, S1, l, w, c⟩ => ?_, fun i H x H' hi _ y G1 F1 S1 lg l w c => ?_⟩, z⟩
  · obtain ⟨us, h1, h2⟩ := st G F1 S1 H Le.rfl' l w c
    obtain ⟨v, h3, _⟩ := h2.at (i := i) (d := ds[i]) (by simp [hi])
    exact ⟨us, v, h1, h3⟩
  · obtain ⟨us, h1, h2⟩ := st G F1 S1 H Le.rfl' l w c
    exact ⟨us, h1, by rw [h2.len]; exact Nat.le_refl _⟩
  · obtain ⟨us, h1, h2⟩ := st G1 F1 S1 H lg l w c
    obtain ⟨rfl, y⟩ := y
    obtain ⟨d, h3, h4⟩ := h2.at' (y us h1)
    exact ⟨d, F1, h3, Le.rfl', w, h4⟩
theorem iter_t {K : PySem.W.Frag} {G F : Hp} {a : Addr} {ds : List D} {vs : List V} {k : Ck} (hs : SqT K F a vs) (rs : Reps K F ds vs) (z : ds.length ≤ sizeLine) : IterOk K G F ds k (Itt K a) := by
  refine ⟨⟨fun i H hi ⟨F1, S1, l, w, c⟩ => ?_, fun H ⟨F1, S1, l, w, c⟩ => ?_, fun i H x H' hi _ y G1 F1 S1 lg l w c => ?_⟩, z⟩
  · obtain ⟨v, h3, _⟩ := rs.at (i := i) (d := ds[i]) (by simp [hi])
    exact ⟨vs, v, SqT.le (l.trans w.fr) hs, h3⟩
  · exact ⟨vs, SqT.le (l.trans w.fr) hs, by rw [rs.len]; exact Nat.le_refl _⟩
  · obtain ⟨rfl, y⟩ := y
    obtain ⟨d, h3, h4⟩ := rs.at' (y vs (SqT.le (l.trans w.fr) hs))
    exact ⟨d, F1, h3, Le.rfl', w, h4.le l⟩
theorem iter_s {K : PySem.W.Frag} {G F : Hp} {z : Str} (hz : z.length ≤ sizeLine) : IterOk K G F (z.cps.toList.map fun c => D.str ⟨#[c]⟩) none (Its z) := by
  refine ⟨⟨fun i H hi _ => ?_, fun H _ => ?_, fun i H x H' hi _ y G1 F1 S1 lg l w c => ?_⟩, by rw [List.length_map, Array.length_toList]; exact hz⟩
  · rw [List.length_map, Array.length_toList] at hi; exact hi
  · rw [List.length_map, Array.length_toList]; exact Nat.le_refl _
  · obtain ⟨rfl, c, hc, rfl⟩ := y
    exact ⟨.str ⟨#[c]⟩, F1, by rw [List.getElem?_map, Array.getElem?_toList, hc]; rfl, Le.rfl', w, rfl⟩
section
variable {B : Bs} {tg e a b : Expr} {te : HTE} {tr : HTA} {p pos : Pos}
theorem hisq (h : HE B e te) : HI B tg e (hiSq te) :=
  ⟨fun X W ok tk => PI.imp (t := iSq B.K (lE B.K W te)) (by have q := pi_sq (tg := tg) (h.run X W ok tk); rw [ok.eK] at q; exact q) fun σ H R ⟨G, F, S, env, R0, E0, rn, wd, h, hr, he⟩ =>
    ⟨G, F, S, env, _, E0, rn, wd, h, fun d v F1 S1 H1 l1 w1 r1 h1 => by
      dsimp only at h1
      split at h1
      · exact .inr (.inr ⟨_, r1, hr _ _ F1 S1 H1 _ l1 w1 (iter_s h1.1) h1.2⟩)
      · split at h1
        · rename_i ds ed
          cases d with
          | tup es =>
            cases ed
            obtain ⟨a, vs, rfl, hs, rs, z⟩ := r1
            exact .inr (.inl ⟨a, rfl, ⟨vs, SqT.le w1.fr hs⟩, hr _ _ F1 S1 H1 _ l1 w1 (iter_t hs rs z) h1⟩)
          | lst es =>
            cases ed
            obtain ⟨a, vs, rfl, hs, rs, z⟩ := r1
            exact .inl ⟨a, rfl, ⟨vs, SqL.of (w1.fr _ _ hs)⟩, hr _ _ F1 S1 H1 _ l1 w1 (iter_l rs z fun G2 F2 S2 H2 lg l2 w2 _ => ⟨vs, SqL.of (w2.fr _ _ (l2 _ _ hs)), rs.le l2⟩) h1⟩
          | rls es =>
            cases ed
            obtain ⟨a, vs, rfl, hs, rs, z⟩ := r1
            exact .inl ⟨a, rfl, ⟨vs, SqL.le w1.fr hs⟩, hr _ _ F1 S1 H1 _ l1 w1 (iter_l rs z fun G2 F2 S2 H2 lg l2 w2 _ => ⟨vs, SqL.le (l2.trans w2.fr) hs, rs.le l2⟩) h1⟩
          | ref q =>
            obtain rfl : v = .ref q := r1
            simp only [items] at ed
            split at ed
            · rename_i es eq
              cases ed
              obtain ⟨vs, g1, g2, g3⟩ := lstAt w1 eq
              exact .inl ⟨q, rfl, ⟨vs, SqL.of g1⟩, hr _ _ F1 S1 H1 _ l1 w1 (iter_l g2 g3 fun G2 F2 S2 H2 lg l2 w2 c => by
                obtain ⟨us, k1, k2, _⟩ := lstAt w2 c.1
                exact ⟨us, SqL.of k1, k2⟩) h1⟩
            · cases ed
          | _ => cases ed
        · exact h1.elim, he⟩⟩
/-! range -/
def rngD (lo : Int) (n : Nat) : List D := (List.range n).map fun i => .int (lo + (i : Nat))
theorem rngD_len (lo : Int) (n : Nat) : (rngD lo n).length = n := by simp [rngD]
theorem iter_r {K : PySem.W.Frag} {G F : Hp} {lo : Int} {n : Nat} (hn : n ≤ sizeLine) : IterOk K G F (rngD lo n) none (Itr lo n) := by
  refine ⟨⟨fun i H hi _ => ?_, fun H _ => ?_, fun i H x H' hi _ y G1 F1 S1 lg l w c => ?_⟩, by rw [rngD_len]; exact hn⟩
  · rw [rngD_len] at hi; exact hi
  · rw [rngD_len]; exact Nat.le_refl _
  · obtain ⟨rfl, rfl⟩ := y
    rw [rngD_len] at hi
    exact ⟨.int (lo + (i : Nat)), F1, by simp [rngD, hi], Le.rfl', w, rfl⟩
def hiR1 (t : HTA) : HTI := fun env S R E => t env S (fun ds S1 => match ds with
  | [.int j] => j ≤ 16777216 ∧ -(2 ^ 62) ≤ j ∧ R (rngD 0 j.toNat) none S1
  | _ => False) E
def hiR2 (t : HTA) : HTI := fun env S R E => t env S (fun ds S1 => match ds with
  | [.int i, .int j] => (j - i ≤ 16777216 ∧ -(2 ^ 62) ≤ i ∧ i < 2 ^ 62 ∧ -(2 ^ 62) ≤ j ∧ j < 2 ^ 62) ∧ R (rngD i (j - i).toNat) none S1
  | _ => False) E
theorem line_int {j : Int} (h : j ≤ 16777216) : j.toNat ≤ sizeLine := by rw [sizeLine_eq]; omega
theorem hir1 (gn : Gn B "range") (hm : B.mg "range" = none) (ha : HA B [a] tr) (hs : ∀ env, starEach [a] env = [(false, eval a env)] := by intro _; rfl) : HI B tg (.Call (.Name "range" p) [a] [] pos) (hiR1 tr) :=
  ⟨fun X W ok tk => PI.imp (pi_range1 (ok.gl gn) (by rw [ok.em]; exact hm) (ha.run X W ok tk) (hs _)) fun σ H R ⟨G, F, S, env, R0, E0, rn, wd, h, hr, he⟩ =>
    ⟨G, F, S, env, _, E0, rn, wd, h, fun ds vs F1 S1 H1 l1 w1 r1 h1 => by
      dsimp only at h1
      split at h1
      · obtain ⟨v, rfl, r⟩ := r1.one_inv
        obtain ⟨z1, z2, h1⟩ := h1
        exact ⟨_, by rw [show v = V.int _ from r], z2, by omega, hr _ _ F1 S1 H1 _ l1 w1 (iter_r (line_int z1)) h1⟩
      · exact h1.elim, he⟩⟩
theorem hir2 (gn : Gn B "range") (hm : B.mg "range" = none) (ha : HA B [a, b] tr) (hs : ∀ env, starEach [a, b] env = [(false, eval a env), (false, eval b env)] := by intro _; rfl) (hs2 : ∀ env, starEach [b] env = [(false, eval b env)] := by intro _; rfl) :
    HI B tg (.Call (.Name "range" p) [a, b] [] pos) (hiR2 tr) :=
  ⟨fun X W ok tk => PI.imp (pi_range2 (ok.gl gn) (by rw [ok.em]; exact hm) (ha.run X W ok tk) (hs _) (hs2 _)) fun σ H R ⟨G, F, S, env, R0, E0, rn, wd, h, hr, he⟩ =>
    ⟨G, F, S, env, _, E0, rn, wd, h, fun ds vs F1 S1 H1 l1 w1 r1 h1 => by
      dsimp only at h1
      split at h1
      · obtain ⟨v, u, rfl, r, r2⟩ := r1.two_inv
        obtain ⟨⟨z1, z2, z3, z4, z5⟩, h1⟩ := h1
        exact ⟨_, _, by rw [show v = V.int _ from r, show u = V.int _ from r2], ⟨z2, z3, z4, z5⟩, hr _ _ F1 S1 H1 _ l1 w1 (iter_r (line_int z1)) h1⟩
      · exact h1.elim, he⟩⟩
/-! ### for -/
def floop (p : Pt) (tb : HTS) (k : Ck) : List D → HEnds → HEnv → Sto → Prop
  | [], D, env, S => chk k S (D.nx env S)
  | d :: ds, D, env, S => chk k S (match bindD p d env with
    | some env1 => tb { D with nx := floop p tb k ds D, ct := floop p tb k ds D, bk := D.nx } env1 S
    | none => False)
def hFor (ti : HTI) (p : Pt) (tb : HTS) : HTS := fun D env S => ti env S (fun ds k S1 => floop p tb k ds D env S1) fun x S1 => D.ex x env S1
theorem floop_chk {p : Pt} {tb : HTS} {k : Ck} {ds : List D} {D : HEnds} {env : HEnv} {S : Sto} (h : floop p tb k ds D env S) : chk k S True := by
  cases ds with
  | nil => exact chk_t h
  | cons d ds => exact chk_t h
theorem hfor {q : Pt} {body : List Stmt} {ti : HTI} {tb : HTS} (hi : HI B tg e ti) (hg : HP B tg q) (hb : HSs B body tb) (hs : ∀ env x, foldedSetIterable e env x = pure x := by intro _ _; rfl) : HS B (.For tg e body [] pos) (hFor ti q tb) :=
  ⟨fun X W ok tk => PS.imp (ps_for ok.own ok.calm (hi.run X W ok tk) (hg.run X ok) (hb.run X W ok tk) (hs _)) fun D σ H ⟨G, F, S, env, E, rn, wd, h, o⟩ =>
    ⟨G, F, S, env, _, _, rn, wd, h, fun ds k F1 S1 H1 J l1 w1 it h1 => by
      have o1 := o.le l1
      refine for_it it.w (fun i σ' H' => ∃ F2 S2 env2, Le F1 F2 ∧ RepN B.K F2 env2 σ' ∧ Wd B.K G F2 S2 H' ∧ floop q tb k (ds.drop i) E env2 S2) ⟨F1, S1, env, Le.rfl', rn.le l1, w1, by simpa using h1⟩
        (fun i σ' H' _ ⟨F2, S2, env2, l2, rn2, w2, q2⟩ => ⟨F2, S2, l2, w2, floop_chk q2⟩) (fun i x σ' H' H'' hi ⟨F2, S2, env2, l2, rn2, w2, q2⟩ y => ?_) (fun σ' H' ⟨F2, S2, env2, l2, rn2, w2, q2⟩ => ?_)
      · obtain ⟨d, F3, e1, l3, w3, r3⟩ := y G F2 S2 Le.rfl' l2 w2 (floop_chk q2)
        have e2 : ds.drop i = d :: ds.drop (i + 1) := by
          rw [List.drop_eq_getElem_cons hi]
          rw [List.getElem?_eq_getElem hi] at e1
          cases e1; rfl
        rw [e2] at q2
        have q3 := chk_a (show chk k S2 (match bindD q d env2 with | some env1 => tb { E with nx := floop q tb k (ds.drop (i + 1)) E, ct := floop q tb k (ds.drop (i + 1)) E, bk := E.nx } env1 S2 | none => False) from q2)
        split at q3
        · rename_i env3 eb
          refine bind_ok w3.fr q r3 (rn2.le l3) eb fun σ1 rn3 _ => ⟨G, F3, S2, env3, _, rn3, w3, q3, ?_⟩
          have l13 := l2.trans l3
          have nx : OkN B.K G F3 (floop q tb k (ds.drop (i + 1)) E) (fun σ' H' => ∃ F2 S2 env2, Le F1 F2 ∧ RepN B.K F2 env2 σ' ∧ Wd B.K G F2 S2 H' ∧ floop q tb k (ds.drop (i + 1)) E env2 S2) :=
            fun env4 σ4 F4 S4 H4 l4 w4 rn4 q4 => ⟨F4, S4, env4, l13.trans l4, rn4, w4, q4⟩
          exact ⟨nx, (o1.le l13).rt, (o1.le l13).nx, nx, (o1.le l13).ex⟩
        · exact q3.elim
      · rw [List.drop_length] at q2
        exact (o1.le l2).nx env2 σ' F2 S2 H' Le.rfl' w2 rn2 (chk_a q2), o.exc rn⟩⟩
end
end Hy

set_option Elab.async false
set_option linter.all false
set_option maxRecDepth 100000
set_option maxHeartbeats 4000000
set_option autoImplicit false
namespace Hy
open PySem PySem.Spec PyProof.Rows L2

/-! ### comprehensions -/
def wipeN (env : HEnv) : List Nat → HEnv
  | [] => env
  | v :: vs => (wipeN env vs).set v none
theorem wipe_rep {K : PySem.W.Frag} {F : Hp} {env : HEnv} {σ : St} (rn : RepN K F env σ) : ∀ vs : List Nat, RepN K F (wipeN env vs) (wipe σ vs)
  | [] => rn
  | v :: vs => (wipe_rep rn vs).unset v
theorem wipe_at (σ : St) (j : Nat) : ∀ vs : List Nat, (wipe σ vs)[j]? = if j ∈ vs then (if j < σ.length then some none else none) else σ[j]?
  | [] => by simp [wipe]
  | v :: vs => by
    unfold wipe
    by_cases e : v = j
    · subst e
      rw [if_pos List.mem_cons_self]
      by_cases l : v < σ.length
      · rw [if_pos l, List.getElem?_set_self (by rw [wipe_length]; exact l)]
      · rw [if_neg l, List.getElem?_eq_none (by rw [List.length_set, wipe_length]; omega)]
    · rw [List.getElem?_set_ne e, wipe_at σ j vs]
      have : j ∈ v :: vs ↔ j ∈ vs := by simp [Ne.symm e]
      simp only [this]
theorem wipe_same {σ σ2 : St} {vs ws : List Nat} (h : SameBut ws (wipe σ vs) σ2) (hs : ∀ j ∈ ws, j ∈ vs) : wipe σ2 vs = wipe σ vs := by
  have hl : σ2.length = σ.length := by have := h.1; rw [wipe_length] at this; exact this.symm
  refine List.ext_getElem? fun j => ?_
  rw [wipe_at, wipe_at, hl]
  by_cases e : j ∈ vs
  · rw [if_pos e, if_pos e]
  · rw [if_neg e, if_neg e]
    have := h.2 j fun z => e (hs j z)
    rw [this, wipe_at, if_neg e]

abbrev Bs.blk (B : Bs) (scope : Scope) : Bs := { B with sc := relS scope B.sc, top := false, own := fun x => scope.names.lookup x == some .cell }
theorem OkC.blk {B : Bs} {X : Cx} (ok : OkC B X) (s : Shared) (H : Hp) (scope : Scope) (C : Addr) (cl : List (Str × Addr)) (fp : List Addr) : OkC (B.blk scope) (X.blk s H scope (compEnvC scope cl C X.env) fp) where
  eP := ok.eP
  ew := ok.ew
  eK := ok.eK
  em := ok.em
  eb := ok.eb
  eN := ok.eN
  es := by show relS scope X.env.scope = relS scope B.sc; rw [ok.es]
  nd := ok.nd
  calm := ok.calm
  room := ok.room
  fn := fun _ h _ => h
  own := PassesOwn.never
  stk := fun h => nomatch h
structure HTs (B : Bs) (ifs : List Expr) (t : HTT) : Prop where
  run : ∀ (X : Cx) (W : WX), OkC B X → Takes X W → PTs X ifs (lT B.K W t)
section
variable {B : Bs} {e elt tg iter c : Expr} {ifs : List Expr} {te : HTE} {tc : HTT} {ti : HTI} {p : Pt} {pos : Pos} {scope : Scope}
def hYes : HTT := fun _ S Q _ => Q true S
theorem PTs.imp {X : Cx} {t t' : TT} (h : PTs X ifs t) (i : ∀ σ H Q, t' σ H Q → t σ H Q) : PTs X ifs t' := ⟨fun pins s σ H Q I q => h.run pins s σ H Q I (i σ H Q q)⟩
theorem hif0 : HTs B [] hYes := ⟨fun X W ok tk => PTs.imp pts_nil fun σ H Q ⟨G, F, S, env, Q0, E0, rn, wd, h, hq, he⟩ => hq true F S H Le.rfl' wd h⟩
theorem hif1 (h : HT B c tc) : HTs B [c] tc := ⟨fun X W ok tk => pts_one (h.run X W ok tk)⟩
def cloop (p : Pt) (tt : HTT) (te : HTE) (k : Ck) : List D → List D → HEnv → Sto → HK → Prop
  | [], acc, env, S, Q => chk k S (Q (.lst acc) S)
  | d :: ds, acc, env, S, Q => chk k S (match bindD p d env with
    | some env1 => tt env1 S (fun b S1 => match b with
      | true => te env1 S1 (fun y S2 => cloop p tt te k ds (acc ++ [y]) env S2 Q) fun _ _ => False
      | false => cloop p tt te k ds acc env S1 Q) fun _ _ => False
    | none => False)
theorem cloop_chk {p : Pt} {tt : HTT} {te : HTE} {k : Ck} {ds acc : List D} {env : HEnv} {S : Sto} {Q : HK} (h : cloop p tt te k ds acc env S Q) : chk k S True := by
  cases ds with
  | nil => exact chk_t h
  | cons d ds => exact chk_t h
def hLc (ti : HTI) (p : Pt) (tt : HTT) (te : HTE) (vs : List Nat) : HTE := fun env S Q E => ti env S (fun ds k S1 => cloop p tt te k ds [] (wipeN env vs) S1 Q) E
theorem no_ex {K : PySem.W.Frag} {G F : Hp} {E : XK} : OkE K G F (fun _ _ => False) E := fun _ _ _ _ _ _ _ _ _ h => h.elim
theorem lc_lift {K : PySem.W.Frag} {W : WX} {vs : List Nat} (hv : ∀ j ∈ slots p, j ∈ vs) (σ : St) (H : Hp) (Q : VK) (h : lE K W (hLc ti p tc te vs) σ H Q) :
    tLc (lI K W ti) (gV K p) (lT K (fun _ _ _ _ => False) tc) (lE K (fun _ _ _ _ => False) te) vs σ H Q := by
  obtain ⟨G, F, S, env, Q0, E0, rn, wd, h, hq, he⟩ := h
  refine ⟨G, F, S, env, _, E0, rn, wd, h, fun ds k F1 S1 H1 J l1 w1 it h1 => ?_, he⟩
  intro Dd hD
  have hGD : G Dd = none := by
    cases q : G Dd with
    | none => rfl
    | some o => rw [(w1.gr Dd o q).1] at hD; cases hD
  have leG : ∀ o, Le G (upd G Dd o) := fun o => Le.upd hGD
  refine lc_it it.w (fun i H' => ∃ F2 S2 acc us, Le F1 F2 ∧ Wd K (upd G Dd (.lst us)) F2 S2 H' ∧ Reps K F2 acc us ∧ acc.length ≤ i ∧ cloop p tc te k (ds.drop i) acc (wipeN env vs) S2 Q0)
    ⟨F1, S1, [], [], Le.rfl', w1.newG _ hD, rfl, Nat.le_refl _, by simpa using h1⟩ (fun i H' _ ⟨F2, S2, acc, us, l2, w2, _, _, q2⟩ => ⟨F2, S2, l2, w2.lessG (leG _), cloop_chk q2⟩)
    (fun i x H' H'' hi ⟨F2, S2, acc, us, l2, w2, ra, hz, q2⟩ y => ?_) (fun H' ⟨F2, S2, acc, us, l2, w2, ra, hz, q2⟩ => ?_)
  · obtain ⟨d, F3, e1, l3, w3, r3⟩ := y _ F2 S2 (leG _) l2 w2 (cloop_chk q2)
    have e2 : ds.drop i = d :: ds.drop (i + 1) := by
      rw [List.drop_eq_getElem_cons hi]
      rw [List.getElem?_eq_getElem hi] at e1
      cases e1; rfl
    rw [e2] at q2
    have q3 := chk_a (show chk k S2 (match bindD p d (wipeN env vs) with
      | some env1 => tc env1 S2 (fun b S1 => match b with
        | true => te env1 S1 (fun y S2 => cloop p tc te k (ds.drop (i + 1)) (acc ++ [y]) (wipeN env vs) S2 Q0) fun _ _ => False
        | false => cloop p tc te k (ds.drop (i + 1)) acc (wipeN env vs) S1 Q0) fun _ _ => False
      | none => False) from q2)
    split at q3
    · rename_i env3 eb
      refine bind_ok w3.fr p r3 (wipe_rep (rn.le (l1.trans (l2.trans l3))) vs) eb fun σ1 rn3 sb => ⟨wipe_same sb hv, ?_⟩
      refine ⟨_, F3, S2, env3, _, _, rn3, w3, q3, fun b F4 S4 H4 l4 w4 q4 => ?_, no_ex⟩
      cases b with
      | false =>
        rw [if_neg Bool.false_ne_true]
        exact ⟨F4, S4, acc, us, l2.trans (l3.trans l4), w4, (ra.le l3).le l4, by omega, q4⟩
      | true =>
        rw [if_pos rfl]
        refine ⟨_, F4, S4, env3, _, _, rn3.le l4, w4, q4, fun y v F5 S5 H5 l5 w5 r5 q5 => ?_, no_ex⟩
        obtain ⟨g1, _, _⟩ := w5.gr Dd _ upd_same
        have hi2 : i < sizeLine := Nat.lt_of_lt_of_le hi it.z
        refine ⟨us, g1, by rw [ra.len]; omega, F5, S5, acc ++ [y], us ++ [v], l2.trans (l3.trans (l4.trans l5)), w5.putG _, ((ra.le l3).le (l4.trans l5)).append (Reps.one r5), by rw [List.length_append]; simp; omega, q5⟩
    · exact q3.elim
  · rw [List.drop_length] at q2
    obtain ⟨w3, l3⟩ := w2.endG hGD
    exact hq (.lst acc) _ _ S2 H' (l1.trans (l2.trans l3)) w3 ⟨Dd, us, rfl, upd_same, ra.le l3, Nat.le_trans hz it.z⟩ (chk_a q2)
theorem hlc (own : List (Str × Nat)) (hi : HI B tg iter ti) (ok : blkC B.N B.sc scope own = true) (hv : ∀ j ∈ slots p, j ∈ own.map (·.2)) (hg : HP (B.blk scope) tg p) (ht : HTs (B.blk scope) ifs tc) (he : HE (B.blk scope) elt te)
    (hs : ∀ env x, foldedSetIterable iter env x = pure x := by intro _ _; rfl) : HE B (.ListComp elt [⟨tg, iter, ifs, 0⟩] scope pos) (hLc ti p tc te (own.map (·.2))) :=
  ⟨fun X W okc tk => PE.imp (pe_lc (own := own) okc.calm okc.nd (hi.run X W okc tk) (by rw [okc.eN, okc.es]; exact blkOk_by ok) (fun s H C cl fp => hg.run _ (okc.blk s H scope C cl fp)) (fun s H C cl fp => ht.run _ _ (okc.blk s H scope C cl fp) takes0)
    (fun s H C cl fp => he.run _ _ (okc.blk s H scope C cl fp) takes0) (hs _)) fun σ H Q h => lc_lift hv σ H Q h⟩
/-- y = [..] on one line -/
theorem hsetlc (i : Nat) {y : Str} {py spos : Pos} (own : List (Str × Nat)) (hi : HI B tg iter ti) (ok : blkC B.N B.sc scope own = true) (hv : ∀ j ∈ slots p, j ∈ own.map (·.2)) (hg : HP (B.blk scope) tg p) (ht : HTs (B.blk scope) ifs tc) (he : HE (B.blk scope) elt te)
    (hN : B.N[i]? = some y := by rfl) (hyl : B.sc.names.lookup y = some .local := by rfl) (hk : B.sc.kind = .function := by rfl) (hl : (py.line == pos.line) = true := by rfl) (ha : (scope.names.any fun (n, k) => n == y && (k == .local || k == .cell)) = false := by decide +kernel)
    (hs : ∀ env x, foldedSetIterable iter env x = pure x := by intro _ _; rfl) : HS B (.Assign [.Name y py] (.ListComp elt [⟨tg, iter, ifs, 0⟩] scope pos) spos) (hSet i (hLc ti p tc te (own.map (·.2)))) :=
  ⟨fun X W okc tk => PS.imp (ps_setLc (own := own) (i := i) okc.calm okc.nd (by rw [okc.eN]; exact hN) (by rw [okc.es]; exact hyl) (sw_true (by rw [okc.es]; exact hk) (by rw [okc.es]; exact hyl) hl ha) (hi.run X W okc tk) (by rw [okc.eN, okc.es]; exact blkOk_by ok) (fun s H C cl fp => hg.run _ (okc.blk s H scope C cl fp)) (fun s H C cl fp => ht.run _ _ (okc.blk s H scope C cl fp) takes0)
    (fun s H C cl fp => he.run _ _ (okc.blk s H scope C cl fp) takes0) (hs _)) fun D σ H ⟨G, F, S, env, E, rn, wd, h, o⟩ =>
    lc_lift (W := W) hv σ H _ ⟨G, F, S, env, _, _, rn, wd, h, fun d v F1 S1 H1 l w r q => o.nx _ _ F1 S1 H1 l w ((rn.le l).set r i) q, o.exc rn⟩⟩
end
end Hy

set_option Elab.async false
set_option linter.all false
set_option maxRecDepth 100000
set_option maxHeartbeats 4000000
set_option autoImplicit false
namespace Hy
open PySem PySem.Spec PyProof.Rows L2

/-! ### seen otherwise -/
/-- d in S may be seen as d' in S' -/
def Vw (d : D) (S : Sto) (d' : D) (S' : Sto) : Prop := ∀ K G F H v, Wd K G F S H → Rep K F d v → ∃ F', Le F F' ∧ Wd K G F' S' H ∧ Rep K F' d' v
theorem Vw.rfl' {d : D} {S : Sto} : Vw d S d S := fun K G F H v w r => ⟨F, Le.rfl', w, r⟩
theorem Vw.less {d : D} {S S' : Sto} (h : SLe S' S) : Vw d S d S' := fun K G F H v w r => ⟨F, Le.rfl', w.less h, r⟩
theorem Vw.trans {d d1 d2 : D} {S S1 S2 : Sto} (h : Vw d S d1 S1) (k : Vw d1 S1 d2 S2) : Vw d S d2 S2 := fun K G F H v w r => by
  obtain ⟨F1, l1, w1, r1⟩ := h K G F H v w r
  obtain ⟨F2, l2, w2, r2⟩ := k K G F1 H v w1 r1
  exact ⟨F2, l1.trans l2, w2, r2⟩
/-- an object frozen -/
theorem Wd.freeze {K : PySem.W.Frag} {G F : Hp} {S : Sto} {H : Hp} (W : Wd K G F S H) {p : Addr} {m : M} {o : HO} (h : S p = some m) (ho : H p = some o) : Wd K G (upd F p o) (dl S p) H ∧ Le F (upd F p o) := by
  have hF := W.dj p m h
  refine ⟨⟨fun a u e => ?_, fun a u e => ?_, fun a n e => ?_, fun a n e => ?_⟩, Le.upd hF⟩
  · obtain ⟨h1, h2, h3⟩ := W.gr a u e
    have ha : a ≠ p := fun z => by subst z; rw [h] at h3; cases h3
    exact ⟨h1, by rw [upd_ne ha]; exact h2, by rw [dl_ne ha]; exact h3⟩
  · by_cases ha : a = p
    · subst ha; rw [upd_same] at e; cases e; exact ho
    · rw [upd_ne ha] at e; exact W.fr a u e
  · by_cases ha : a = p
    · subst ha; rw [dl_same] at e; cases e
    · rw [dl_ne ha] at e
      obtain ⟨u, q, r⟩ := W.st a n e
      exact ⟨u, q, r.le (Le.upd hF)⟩
  · by_cases ha : a = p
    · subst ha; rw [dl_same] at e; cases e
    · rw [dl_ne ha] at e; rw [upd_ne ha]; exact W.dj a n e
theorem Vw.lst {S : Sto} {p : Addr} {ds : List D} (h : S p = some (.lst ds)) : Vw (.ref p) S (.lst ds) (dl S p) := fun K G F H v w r => by
  obtain ⟨vs, h1, h2, h3⟩ := lstAt w h
  obtain ⟨w', l'⟩ := w.freeze h h1
  exact ⟨_, l', w', p, vs, r, upd_same, h2.le l', h3⟩
theorem Vw.obj {S : Sto} {p : Addr} {c : Nat} {ds : List D} (h : S p = some (.ins c ds)) : Vw (.ref p) S (.obj c ds) (dl S p) := fun K G F H v w r => by
  obtain ⟨o, h1, dx, vs, rfl, h2⟩ := w.st p _ h
  obtain ⟨w', l'⟩ := w.freeze h h1
  exact ⟨_, l', w', p, dx, vs, r, upd_same, h2.le l'⟩
theorem Wd.grow {K : PySem.W.Frag} {G F : Hp} {S : Sto} {H : Hp} (W : Wd K G F S H) {p : Addr} (o : HO) (h : H p = none) : Wd K G F S (upd H p o) := (W.newG o h).lessG (Le.upd (by
  cases q : G p with
  | none => rfl
  | some u => rw [(W.gr p u q).1] at h; cases h))

/-! ### what a def promises -/
abbrev HSp := List D → Sto → HK → HK → Prop
/-- handed back: less is known, or it is seen otherwise -/
def Rt (Q : HK) (d : D) (S : Sto) : Prop := ∃ d' S', Vw d S d' S' ∧ Q d' S'
theorem Rt.mk {Q : HK} {d : D} {S : Sto} (h : Q d S) : Rt Q d S := ⟨d, S, Vw.rfl', h⟩
theorem Rt.less {Q : HK} {d : D} {S S' : Sto} (l : SLe S' S) (h : Q d S') : Rt Q d S := ⟨d, S', Vw.less l, h⟩
def Rx (E : HK) (x : D) (S : Sto) : Prop := ∃ S', SLe S' S ∧ E x S'
theorem Rx.mk {Q : HK} {d : D} {S : Sto} (h : Q d S) : Rx Q d S := ⟨S, SLe.rfl', h⟩
theorem Rx.less {Q : HK} {d : D} {S S' : Sto} (l : SLe S' S) (h : Q d S') : Rx Q d S := ⟨S', l, h⟩
theorem Rt.ok {K : PySem.W.Frag} {G F : Hp} {Q0 : HK} {Q : VK} (h : OkQ K G F Q0 Q) : OkQ K G F (Rt Q0) Q := fun d v F' S' H' l w r ⟨d', S2, vw, q⟩ => by
  obtain ⟨F2, l2, w2, r2⟩ := vw K G F' H' v w r
  exact h d' v F2 S2 H' (l.trans l2) w2 r2 q
theorem Rx.ok {K : PySem.W.Frag} {G F : Hp} {E0 : HK} {E : XK} (h : OkE K G F E0 E) : OkE K G F (Rx E0) E := fun x cls dd F' S' H' l w r ⟨S2, le, q⟩ => h x cls dd F' S2 H' l (w.less le) r q

def lSp (K : PySem.W.Frag) (n : Nat) (sp : HSp) : Sp := fun vs H Q E => vs.length = n ∧ ∃ G F S ds Q0 E0, Reps K F ds vs ∧ Wd K G F S H ∧ sp ds S Q0 E0 ∧ OkQ K G F Q0 Q ∧ OkE K G F E0 E
/-- the def at f keeps sp, n parameters, the last ones handed in as dds where they are defaults -/
structure FnAt (B : Bs) (k : Nat) (f : Addr) (n : Nat) (dds : List D) (sp : HSp) : Prop where
  ex : ∃ (fd : FuncData) (ps : List Str) (ds : List Value) (dvs : List V), ps.length = n ∧ Binds B.K fd ps ds ∧ Vals dvs ds ∧ (∀ F, Reps B.K F dds dvs) ∧ FnOk B.P B.w B.K B.mg B.base (CX B.P B.w) k f fd ps (lSp B.K n sp)
theorem FnAt.mono {B : Bs} {j k : Nat} {f : Addr} {n : Nat} {dds : List D} {sp : HSp} (h : FnAt B j f n dds sp) (l : j ≤ k) : FnAt B k f n dds sp := by
  obtain ⟨fd, ps, ds, dvs, h1, h2, h3, h4, h5⟩ := h.ex
  exact ⟨fd, ps, ds, dvs, h1, h2, h3, h4, h5.mono l⟩
theorem FnAt.imp {B : Bs} {k : Nat} {f : Addr} {n : Nat} {dds : List D} {sp sp' : HSp} (h : FnAt B k f n dds sp) (i : ∀ ds S Q E, sp' ds S Q E → sp ds S Q E) : FnAt B k f n dds sp' := by
  obtain ⟨fd, ps, ds, dvs, h1, h2, h3, h4, h5⟩ := h.ex
  exact ⟨fd, ps, ds, dvs, h1, h2, h3, h4, h5.imp fun vs H Q E ⟨hn, G, F, S, ds, Q0, E0, a, b, c, d, e⟩ => ⟨hn, G, F, S, ds, Q0, E0, a, b, i _ _ _ _ c, d, e⟩⟩
/-- the module's def of that name -/
structure HFn (B : Bs) (k : Nat) (x : Str) (n : Nat) (dds : List D) (sp : HSp) : Prop where
  mg : B.mg x = some (.ref (He.ga B.K x))
  kp : PySem.W.keepIn B.K (.ref (He.ga B.K x)) = true
  at_ : FnAt B k (He.ga B.K x) n dds sp
def startE (n : Nat) (ds : List D) : HEnv := ds.map some ++ List.replicate (n - ds.length) none
theorem start_rep {K : PySem.W.Frag} {F : Hp} {N : List Str} {ds : List D} {vs : List V} (r : Reps K F ds vs) : RepN K F (startE N.length ds) (L2.start N vs) := by
  have hl := r.len
  refine ⟨by unfold startE L2.start; simp [hl], fun i d e => ?_⟩
  unfold startE at e
  unfold L2.start
  by_cases hi : i < ds.length
  · rw [List.getElem?_append_left (by simpa using hi)] at e
    rw [List.getElem?_append_left (by simpa [hl] using hi)]
    rw [List.getElem?_map] at e ⊢
    obtain ⟨d', h1, h2⟩ := Option.map_eq_some_iff.mp e
    cases h2
    obtain ⟨v, h3, h4⟩ := r.at h1
    exact ⟨v, by rw [h3]; rfl, h4⟩
  · rw [List.getElem?_append_right (by simpa using hi)] at e
    obtain ⟨h1, h2⟩ := List.getElem?_eq_some_iff.mp e
    rw [List.getElem_replicate] at h2
    cases h2
/-- THE RULE for a def: its body's reading keeps the promise -/
theorem fnAt {B : Bs} {x qual : Str} {params : Arguments} {body : List Stmt} {scope : Scope} {dvs : List V} {f : Addr} {fd : FuncData} {N ps : List Str} {k : Nat} {sp : HSp} {t : HTS} {dds : List D} {ds : List Value}
    (F : FunD B.K x qual params body scope dvs [] f fd) (hb : Binds B.K fd ps ds) (hv : Vals dvs ds) (hd : ∀ F, Reps B.K F dds dvs) (S : FnScope N ps scope) (hbody : HSs { B with k := k, N := N, sc := scope, top := true, own := fun _ => true } body t)
    (hr : ∀ ds S Q E, ds.length = ps.length → sp ds S Q E → t { nx := fun _ S' => Rt Q .non S', rt := Rt Q, ex := fun x _ S' => Rx E x S' } (startE N.length ds) S) : FnAt B (k + 1) f ps.length dds sp := by
  refine ⟨fd, ps, ds, dvs, rfl, hb, hv, hd, F.ok S (fun vs H Q E h => h.1) fun cdv A outer s H vs Q E hroom h => ?_⟩
  obtain ⟨hn, G, F0, S0, ds, Q0, E0, rs, wd, hsp, hq, he⟩ := h
  refine ⟨_, hbody.run _ (fun cls d _ H => E cls d H) ⟨rfl, rfl, rfl, rfl, rfl, rfl, rfl, S.nd, rfl, hroom, fun _ _ _ => rfl, passes_of rfl, fun _ => ⟨rfl, rfl, rfl⟩⟩ (takes_of rfl rfl rfl rfl), ?_⟩
  refine ⟨G, F0, S0, startE N.length ds, _, start_rep rs, wd, hr ds S0 Q0 E0 (by rw [← rs.len]; exact hn) hsp, ⟨fun env σ F' S' H' l w rn ⟨d', S2, vw, q⟩ => ?_, Rt.ok hq, fun _ _ _ _ _ _ _ _ h => h.elim, fun _ _ _ _ _ _ _ _ h => h.elim, fun x cls dd env σ F' S' H' l w rn r h => Rx.ok he x cls dd F' S' H' l w r h⟩⟩
  obtain ⟨F2, l2, w2, r2⟩ := vw B.K G F' H' .non w rfl
  exact hq d' .non F2 S2 H' (l.trans l2) w2 r2 q

section
variable {B : Bs} {e a b o : Expr} {es : List Expr} {ta tb te to : HTE} {tr : HTA} {x m : Str} {p pos apos : Pos} {k n : Nat} {dds : List D} {sp : HSp}
/-! ### calls of defs -/
def hCall (n : Nat) (dds : List D) (sp : HSp) (t : HTA) : HTE := fun env S Q E => t env S (fun ds S1 => match Nat.beq (ds ++ dds).length n with
  | true => sp (ds ++ dds) S1 Q E
  | false => False) E
theorem beq_n {m n : Nat} {A : Prop} (h : match Nat.beq m n with | true => A | false => False) : m = n ∧ A := by
  cases e : Nat.beq m n with
  | false => rw [e] at h; exact h.elim
  | true => rw [e] at h; exact ⟨Nat.eq_of_beq_eq_true e, h⟩
theorem OkC.fnOk {X : Cx} (ok : OkC B X) {f : Addr} {fd : FuncData} {ps : List Str} {s : Sp} (h : FnOk B.P B.w B.K B.mg B.base (CX B.P B.w) k f fd ps s) : FnOk X.prog X.w X.K X.mg X.base (CX X.prog X.w) k f fd ps s := by
  rw [ok.eP, ok.ew, ok.eK, ok.em, ok.eb]; exact h
theorem hcall (h : HFn B k x n dds sp) (hk : k ≤ B.k) (gn : Gn B x) (ha : HA B (e :: es) tr) (hdb : (x == ("__debug__" : Str)) = false := by decide) (he : ∀ env, starEach (e :: es) env = (false, eval e env) :: starEach es env := by intro _; rfl)
    (hpl : ∀ env, (backTo pos (starEach es env)).any (·.1) = false := by intro _; rfl) : HE B (.Call (.Name x p) (e :: es) [] pos) (hCall n dds sp tr) :=
  ⟨fun X W ok tk => by
    obtain ⟨fd, ps, ds, dvs, hn, hb, hv, hd, hf⟩ := h.at_.ex
    refine PE.imp (pe_callSD (E := WE W) (ok.fnOk hf) (ok.room.mono hk) (ok.gl gn) (by rw [ok.em]; exact h.mg) (by rw [ok.eK]; exact h.kp) (by rw [ok.eK]; exact hb) hv (fun σ => passAt tk σ) (ha.run X W ok tk) hdb (he _) (hpl _)) fun σ H Q ⟨G, F, S, env, Q0, E0, rn, wd, h, hq, he⟩ => ?_
    refine ⟨G, F, S, env, _, E0, rn, wd, h, fun ds vs F1 S1 H1 l1 w1 r1 h1 => ?_, he⟩
    obtain ⟨z, h1⟩ := beq_n h1
    have rr := r1.append (hd F1)
    exact ⟨by rw [rr.len]; exact z, G, F1, S1, _, Q0, E0, rr, w1, h1, hq.le l1, he.le l1⟩⟩
/-! ### attributes -/
/-- where a class has the attribute -/
structure Attr (K : PySem.W.Frag) (f : Str) (ix : Nat → Option Nat) : Prop where
  ok : ∀ c i, ix c = some i → Cls K (cad K c) ∧ NoAttr K (cad K c) f ∧ (flds c)[i]? = some f ∧ (flds c).Nodup ∧ (flds c).length ≤ 900
def gFld (ix : Nat → Option Nat) : G1 := fun x S Q => match x with
  | .obj c ds => match ix c with
    | some i => match ds[i]? with
      | some d => Q d S
      | none => False
    | none => False
  | .ref q => match S q with
    | some (.ins c ds) => match ix c with
      | some i => match ds[i]? with
        | some d => Q d S
        | none => False
      | none => False
    | _ => False
  | _ => False
theorem lookup_zip {f : Str} {v : V} : ∀ {ns : List Str} {vs : List V} {i : Nat}, ns.Nodup → ns[i]? = some f → vs[i]? = some v → (ns.zip vs).lookup f = some v
  | [], _, _, _, h, _ => by simp at h
  | n :: ns, [], _, _, _, h => by simp at h
  | n :: ns, v' :: vs, 0, _, h1, h2 => by
    simp at h1 h2; subst h1 h2; simp
  | n :: ns, v' :: vs, i + 1, hd, h1, h2 => by
    have hn : f ≠ n := fun z => by
      subst z
      exact (List.nodup_cons.mp hd).1 (List.mem_of_getElem? (by simpa using h1))
    have : (f == n) = false := by simpa using hn
    rw [List.zip_cons_cons, List.lookup_cons, this]
    exact lookup_zip (List.nodup_cons.mp hd).2 (by simpa using h1) (by simpa using h2)
theorem insAt {K : PySem.W.Frag} {G F : Hp} {S : Sto} {H : Hp} {q : Addr} {c : Nat} {ds : List D} (w : Wd K G F S H) (e : S q = some (.ins c ds)) : ∃ dx vs, H q = some (.ins (cad K c) dx ((flds c).zip vs)) ∧ Reps K F ds vs := by
  obtain ⟨o, h1, dx, vs, rfl, h2⟩ := w.st q _ e
  exact ⟨dx, vs, h1, h2⟩
theorem hfld {f : Str} {ix : Nat → Option Nat} (A : Attr B.K f ix) (h : HE B e te) (hb : ∀ env, attributeBase e f env (eval e env) = eval e env := by intro _; rfl) : HE B (.Attribute e f pos) (hun (gFld ix) te) :=
  ⟨fun X W ok tk => PE.imp (pe_fld (h.run X W ok tk) (hb _)) fun σ H Q h => by
    refine lun (r := fun x H1 Q => ∃ a C dx fs v, x = .ref a ∧ H1 a = some (.ins C dx fs) ∧ Cls X.K C ∧ NoAttr X.K C f ∧ fs.lookup f = some v ∧ Q v H1) ?_ te σ H Q h
    intro G F S H d v Q0 Q w r h hq
    unfold gFld at h
    split at h
    · rename_i c ds
      obtain ⟨a, dx, vs, rfl, hF, rs⟩ := r
      split at h
      · rename_i i ei
        split at h
        · rename_i d ed
          obtain ⟨z1, z2, z3, z4, _⟩ := A.ok c i ei
          obtain ⟨u, h1, h2⟩ := rs.at ed
          exact ⟨a, _, dx, _, u, rfl, w.fr _ _ hF, by rw [ok.eK]; exact z1, by rw [ok.eK]; exact z2, lookup_zip z4 z3 h1, hq d u F S H Le.rfl' w h2 h⟩
        · exact h.elim
      · exact h.elim
    · rename_i q
      obtain rfl : v = .ref q := r
      split at h
      · rename_i c ds es
        obtain ⟨dx, vs, hH, rs⟩ := insAt w es
        split at h
        · rename_i i ei
          split at h
          · rename_i d ed
            obtain ⟨z1, z2, z3, z4, _⟩ := A.ok c i ei
            obtain ⟨u, h1, h2⟩ := rs.at ed
            exact ⟨q, _, dx, _, u, rfl, hH, by rw [ok.eK]; exact z1, by rw [ok.eK]; exact z2, lookup_zip z4 z3 h1, hq d u F S H Le.rfl' w h2 h⟩
          · exact h.elim
        · exact h.elim
      · exact h.elim
    · exact h.elim⟩
/-- where it is put: at its place, or as the next one -/
def putD (ds : List D) (i : Nat) (d : D) : Option (List D) := match Nat.blt i ds.length with
  | true => some (ds.set i d)
  | false => match Nat.beq i ds.length with
    | true => some (ds ++ [d])
    | false => none
def gFst (ix : Nat → Option Nat) (x d : D) (S : Sto) (Q : Sto → Prop) : Prop := match x with
  | .ref q => match S q with
    | some (.ins c ds) => match ix c with
      | some i => match putD ds i d with
        | some ds' => Q (up S q (.ins c ds'))
        | none => False
      | none => False
    | _ => False
  | _ => False
theorem putF_zip {f : Str} {v : V} : ∀ {ns : List Str} {vs : List V} {i : Nat}, ns.Nodup → ns[i]? = some f → i < vs.length → putF f v (ns.zip vs) = ns.zip (vs.set i v)
  | [], _, _, _, h, _ => by simp at h
  | n :: ns, [], _, _, _, h => by simp at h
  | n :: ns, w :: vs, 0, _, h, _ => by
    simp at h; subst h
    simp [putF]
  | n :: ns, w :: vs, i + 1, hd, h, hl => by
    have hn : n ≠ f := fun z => by
      subst z
      exact (List.nodup_cons.mp hd).1 (List.mem_of_getElem? (by simpa using h))
    have ih := putF_zip (v := v) (List.nodup_cons.mp hd).2 (i := i) (vs := vs) (by simpa using h) (by simpa using hl)
    simp only [List.zip_cons_cons, List.set_cons_succ]
    rw [← ih]
    simp [putF, hn]
theorem putF_zip_end {f : Str} {v : V} : ∀ {ns : List Str} {vs : List V}, ns.Nodup → ns[vs.length]? = some f → putF f v (ns.zip vs) = ns.zip (vs ++ [v])
  | [], _, _, h => by simp at h
  | n :: ns, [], _, h => by
    simp at h; subst h
    simp [putF]
  | n :: ns, w :: vs, hd, h => by
    have hn : n ≠ f := fun z => by
      subst z
      exact (List.nodup_cons.mp hd).1 (List.mem_of_getElem? (by simpa using h))
    have ih := putF_zip_end (v := v) (List.nodup_cons.mp hd).2 (vs := vs) (by simpa using h)
    simp only [List.zip_cons_cons, List.cons_append]
    rw [← ih]
    simp [putF, hn]
theorem blt_lt {i n : Nat} (h : Nat.blt i n = true) : i < n := Nat.le_of_ble_eq_true h
theorem putD_ok {K : PySem.W.Frag} {F : Hp} {ds ds' : List D} {vs : List V} {d : D} {v : V} {i : Nat} {f : Str} {ns : List Str} (hd : ns.Nodup) (hf : ns[i]? = some f) (rs : Reps K F ds vs) (r : Rep K F d v) (h : putD ds i d = some ds') :
    ∃ vs', putF f v (ns.zip vs) = ns.zip vs' ∧ Reps K F ds' vs' := by
  unfold putD at h
  split at h
  · rename_i e
    cases h
    exact ⟨vs.set i v, putF_zip hd hf (by rw [rs.len]; exact blt_lt e), rs.set i r⟩
  · split at h
    · rename_i e
      cases h
      have e2 := Nat.eq_of_beq_eq_true e
      exact ⟨vs ++ [v], putF_zip_end hd (by rw [rs.len, ← e2]; exact hf), rs.append (Reps.one r)⟩
    · cases h
theorem fst_ok {K : PySem.W.Frag} {G F : Hp} {S : Sto} {H : Hp} {f : Str} {ix : Nat → Option Nat} (A : Attr K f ix) {x d : D} {u v : V} {Q : Sto → Prop} (w : Wd K G F S H) (rx : Rep K F x u) (rd : Rep K F d v) (h : gFst ix x d S Q) :
    ∃ a C dx fs, u = .ref a ∧ H a = some (.ins C dx fs) ∧ Cls K C ∧ NoAttr K C f ∧ fs.length < 1000 ∧ ∃ S', Wd K G F S' (upd H a (.ins C dx (putF f v fs))) ∧ Q S' := by
  unfold gFst at h
  split at h
  · rename_i q
    obtain rfl : u = .ref q := rx
    split at h
    · rename_i c ds es
      split at h
      · rename_i i ei
        split at h
        · rename_i ds' ed
          obtain ⟨dx, vs, hH, rs⟩ := insAt w es
          obtain ⟨z1, z2, z3, z4, z5⟩ := A.ok c i ei
          obtain ⟨vs', e1, r1⟩ := putD_ok z4 z3 rs rd ed
          refine ⟨q, _, dx, _, rfl, hH, z1, z2, ?_, up S q (.ins c ds'), w.put (m := .ins c ds') es ⟨dx, vs', by rw [e1], r1⟩, h⟩
          rw [List.length_zip]; omega
        · exact h.elim
      · exact h.elim
    · exact h.elim
  · exact h.elim
/-- o.f = e -/
def hFst (ix : Nat → Option Nat) (to te : HTE) : HTS := fun D env S => te env S (fun d S1 => to env S1 (fun x S2 => gFst ix x d S2 fun S3 => D.nx env S3) fun x S2 => D.ex x env S2) fun x S1 => D.ex x env S1
theorem hfst {f : Str} {ix : Nat → Option Nat} {pos' : Pos} (A : Attr B.K f ix) (ho : HE B o to) (h : HE B e te) (hs : ∀ env, swapsWith e (some (.Attribute o f pos')) pos.line env = pure false := by intro _; rfl) : HS B (.Assign [.Attribute o f pos'] e pos) (hFst ix to te) :=
  ⟨fun X W ok tk => PS.imp (ps_fld (ho.run X W ok tk) (h.run X W ok tk) (hs _)) fun D σ H ⟨G, F, S, env, E, rn, wd, h, oo⟩ =>
    ⟨G, F, S, env, _, _, rn, wd, h, fun d v F1 S1 H1 l1 w1 r1 h1 =>
      ⟨G, F1, S1, env, _, _, rn.le l1, w1, h1, fun x u F2 S2 H2 l2 w2 r2 h2 => by
        obtain ⟨a, C, dx, fs, z1, z2, z3, z4, z5, S3, w3, q⟩ := fst_ok A w2 r2 (r1.le l2) h2
        exact ⟨a, C, dx, fs, z1, z2, by rw [ok.eK]; exact z3, by rw [ok.eK]; exact z4, z5, oo.nx env σ F2 S3 _ (l1.trans l2) w3 (rn.le (l1.trans l2)) q⟩, (oo.le l1).exc (rn.le l1)⟩, oo.exc rn⟩⟩
end
end Hy

set_option Elab.async false
set_option linter.all false
set_option maxRecDepth 100000
set_option maxHeartbeats 4000000
set_option autoImplicit false
namespace Hy
open PySem PySem.Spec PyProof.Rows L2
section
variable {X : Cx} {CX' : CXT} {k : Nat} {f C : Addr} {fd : FuncData} {ps : List Str} {sp : Sp} {E : L2.St → XK} {x m : Str} {p pos apos : Pos} {e o : Expr} {es : List Expr} {ta : TE} {t : TA} {ds : List Value} {dvs : List V}
/-- the tree of a method's call -/
abbrev MethTree (pl : Sem Bool) (o : Expr) (m : Str) (apos pos : Pos) (es : List Expr) (env : Env) : Prop :=
  eval (.Call (.Attribute o m apos) es [] pos) env = (do let ov ← eval o env; standAt apos.atName; let (f, first) ← holding [ov] (getMethod ov m pl); callWith pos f first (backTo pos (starEach es env)) (backToKw pos (keywordEach [] env)))
/-- o.m(e, ..), what it raises wished for at the slots -/
theorem pe_methE {pl : Sem Bool} (he : PE X o ta) (c : Cls X.K C) (hm : Meth X.K C m f) (F : FnOk X.prog X.w X.K X.mg X.base CX' k f fd ps sp) (hr : Room k X.A) (hb : Binds X.K fd ps ds) (hd : Vals dvs ds) (hx : ∀ σ, PassesAt CX' X σ (E σ))
    (ha : PA X (e :: es) t) (hst : starEach (e :: es) X.env = (false, eval e X.env) :: starEach es X.env) (hpl : (backTo pos (starEach es X.env)).any (·.1) = false) (ht : MethTree pl o m apos pos (e :: es) X.env) :
    PE X (.Call (.Attribute o m apos) (e :: es) [] pos) (fun σ H Q => ta σ H fun x H1 => ∃ a dx fs, x = .ref a ∧ H1 a = some (.ins C dx fs) ∧ fs.lookup m = none ∧ t σ H1 fun vs H2 => sp (.ref a :: (vs ++ dvs)) H2 Q (E σ)) :=
  ⟨fun pins s σ H Q I h => PySem.W.methodCall_KW (pl := pl) (thn (he.run pins s σ H _ I h) fun u s1 ⟨y, H1, I1, ry, a, dx, fs, ey, ea, hl, q⟩ => by
    subst ey
    cases (show u = Value.ref a from ry)
    exact getmeth_ok I1 ea c hm hl (PySem.W.callWith_K (first := [.ref a]) (h₀ := X.base) I.ok.mod.kin hm.kp
      (thn (ha.run pos pins s1 σ H1 _ I1 q) fun us s2 ⟨vs, H2, I2, r, q2⟩ => ⟨I2.kIn, run_fnSD (us := .ref a :: us) (vs := .ref a :: vs) F hr hb hd (hx σ) I2 (.cons rfl r) q2⟩) hst hpl)) ht⟩
theorem pe_methE0 {pl : Sem Bool} (he : PE X o ta) (c : Cls X.K C) (hm : Meth X.K C m f) (F : FnOk X.prog X.w X.K X.mg X.base CX' k f fd ps sp) (hr : Room k X.A) (hb : Binds X.K fd ps ds) (hd : Vals dvs ds) (hx : ∀ σ, PassesAt CX' X σ (E σ))
    (ht : MethTree pl o m apos pos [] X.env) :
    PE X (.Call (.Attribute o m apos) [] [] pos) (fun σ H Q => ta σ H fun x H1 => ∃ a dx fs, x = .ref a ∧ H1 a = some (.ins C dx fs) ∧ fs.lookup m = none ∧ sp (.ref a :: dvs) H1 Q (E σ)) :=
  ⟨fun pins s σ H Q I h => PySem.W.methodCall_KW (pl := pl) (thn (he.run pins s σ H _ I h) fun u s1 ⟨y, H1, I1, ry, a, dx, fs, ey, ea, hl, q⟩ => by
    subst ey
    cases (show u = Value.ref a from ry)
    exact getmeth_ok I1 ea c hm hl (PySem.W.callWith_K0 (first := [.ref a]) I1.kIn hm.kp (run_fnSD (us := [.ref a]) (vs := [.ref a]) F hr hb hd (hx σ) I1 (.cons rfl .nil) q))) ht⟩
/-- C(e, ..) -/
theorem run_makeE {pins : List (Addr × Obj)} {σ : L2.St} {H : Hp} {s : Shared} {Q : VK} {us : List Value} {vs : List V} (Mm : Mk X.K C f) (F : FnOk X.prog X.w X.K X.mg X.base CX' k f fd ps sp) (hr : Room (k + 1) X.A) (hb : Binds X.K fd ps ds) (hd : Vals dvs ds)
    (hx : PassesAt CX' X σ (E σ)) (I : L2.Inv X pins σ H s) (r : Vals vs us)
    (h : ∀ a dx, H a = none → H dx = none → dx ≠ a → sp (.ref a :: (vs ++ dvs)) (upd (upd H dx (.own a)) a (.ins C dx [])) (fun v H2 => v = .non ∧ Q (.ref a) H2) (E σ)) :
    wpAny (model X.prog X.w) X.A (call (.ref C) us) (EP X pins σ Q) X.xe s := by
  let a0 := s.heap.objs.size
  have go := h (a0 + 1) a0 (I.hok.fresh (Nat.le_succ _)) (I.hok.fresh (Nat.le_refl _)) (Nat.ne_of_lt (Nat.lt_succ_self _))
  have J := Inv.made (C := C) I
  have rr : Vals (V.ref (a0 + 1) :: (vs ++ dvs)) (Value.ref (a0 + 1) :: (us ++ ds)) := .cons rfl (r.append hd)
  have len : (Value.ref (a0 + 1) :: us ++ ds).length = ps.length := (rr.length.symm).trans (F.len _ _ _ _ go)
  refine wpAny_call (make_map (f := f) I.kIn Mm.makes Mm.init (beq_iff_eq.mp Mm.fn) (codeAny_mono (F.run _ X.stack _ _ ⟨Value.ref (a0 + 1) :: us, []⟩ (Value.ref (a0 + 1) :: (us ++ ds)) _ _ (E σ) (hr.make C us [])
    (J.env0.make C us []) (hb _ (Value.ref (a0 + 1) :: us) J.kIn len) rr go) fun res s' got => ?_))
  match res, got with
  | .error er, got => exact hx pins _ _ er s' J got
  | .ok (.ret u), got =>
    obtain ⟨v, H', I3, rv, ev, q3⟩ := J.after got
    cases ev
    exact ⟨rv, ⟨V.ref (a0 + 1), H', I3, rfl, q3⟩⟩
  | .ok .next, got => exact got.elim
  | .ok .brk, got => exact got.elim
  | .ok .cont, got => exact got.elim
theorem pe_makeE (Mm : Mk X.K C f) (F : FnOk X.prog X.w X.K X.mg X.base CX' k f fd ps sp) (hr : Room (k + 1) X.A) (hg : Gl X x) (hm : X.mg x = some (.ref C)) (hb : Binds X.K fd ps ds) (hd : Vals dvs ds) (hx : ∀ σ, PassesAt CX' X σ (E σ))
    (ha : PA X (e :: es) t) (hdb : (x == ("__debug__" : Str)) = false) (he : starEach (e :: es) X.env = (false, eval e X.env) :: starEach es X.env) (hpl : (backTo pos (starEach es X.env)).any (·.1) = false) :
    PE X (.Call (.Name x p) (e :: es) [] pos) (fun σ H Q => t σ H fun vs H1 => ∀ a dx, H1 a = none → H1 dx = none → dx ≠ a → sp (.ref a :: (vs ++ dvs)) (upd (upd H1 dx (.own a)) a (.ins C dx [])) (fun v H2 => v = .non ∧ Q (.ref a) H2) (E σ)) :=
  ⟨fun pins s σ H Q I h => wpAny_Call_Name_kw (ld_glob I hg hm (PySem.W.callWith_K (h₀ := X.base) I.ok.mod.kin Mm.kp
    (thn (ha.run pos pins s σ H _ I h) fun us s1 ⟨vs, H1, I1, r, q⟩ => ⟨I1.kIn, run_makeE Mm F hr hb hd (hx σ) I1 r q⟩) he hpl) hdb)⟩
theorem pe_makeE0 (Mm : Mk X.K C f) (F : FnOk X.prog X.w X.K X.mg X.base CX' k f fd ps sp) (hr : Room (k + 1) X.A) (hg : Gl X x) (hm : X.mg x = some (.ref C)) (hb : Binds X.K fd ps ds) (hd : Vals dvs ds) (hx : ∀ σ, PassesAt CX' X σ (E σ))
    (hdb : (x == ("__debug__" : Str)) = false) :
    PE X (.Call (.Name x p) [] [] pos) (fun σ H Q => ∀ a dx, H a = none → H dx = none → dx ≠ a → sp (.ref a :: dvs) (upd (upd H dx (.own a)) a (.ins C dx [])) (fun v H2 => v = .non ∧ Q (.ref a) H2) (E σ)) :=
  ⟨fun pins s σ H Q I h => wpAny_Call_Name_kw (ld_glob I hg hm (PySem.W.callWith_K0 (first := []) I.kIn Mm.kp (run_makeE (us := []) (vs := []) Mm F hr hb hd (hx σ) I .nil h)) hdb)⟩
end
section
variable {B : Bs} {e a b o : Expr} {es : List Expr} {ta tb te to : HTE} {tr : HTA} {x m : Str} {p pos apos : Pos} {k n : Nat} {dds : List D} {sp : HSp}
/-! ### methods of own classes -/
structure HMeth (B : Bs) (k : Nat) (c : Nat) (m : Str) (n : Nat) (dds : List D) (sp : HSp) : Prop where
  cl : Cls B.K (cad B.K c)
  me : ∃ f, Meth B.K (cad B.K c) m f ∧ FnAt B k f n dds sp
  no : m ∉ flds c
def isC (c : Nat) (S : Sto) : D → Bool
  | .obj c' _ => Nat.beq c' c
  | .ref q => match S q with
    | some (.ins c' _) => Nat.beq c' c
    | _ => false
  | _ => false
def hMeth (c n : Nat) (dds : List D) (sp : HSp) (to : HTE) (t : HTA) : HTE := fun env S Q E => to env S (fun x S1 => match isC c S1 x with
  | true => t env S1 (fun ds S2 => match Nat.beq (x :: (ds ++ dds)).length n with
    | true => sp (x :: (ds ++ dds)) S2 Q E
    | false => False) E
  | false => False) E
theorem lookup_no {m : Str} : ∀ {ns : List Str} {vs : List V}, m ∉ ns → (ns.zip vs).lookup m = none
  | [], _, _ => by simp
  | n :: ns, [], _ => by simp
  | n :: ns, v :: vs, h => by
    have h1 : m ≠ n := fun z => h (z ▸ List.mem_cons_self)
    have : (m == n) = false := by simpa using h1
    rw [List.zip_cons_cons, List.lookup_cons, this]
    exact lookup_no fun z => h (List.mem_cons_of_mem _ z)
theorem isC_ok {K : PySem.W.Frag} {G F : Hp} {S : Sto} {H : Hp} {c : Nat} {d : D} {v : V} (w : Wd K G F S H) (r : Rep K F d v) (h : isC c S d = true) : ∃ a dx vs, v = .ref a ∧ H a = some (.ins (cad K c) dx ((flds c).zip vs)) := by
  unfold isC at h
  split at h
  · obtain rfl := Nat.eq_of_beq_eq_true h
    obtain ⟨a, dx, vs, rfl, hF, rs⟩ := r
    exact ⟨a, dx, vs, rfl, w.fr _ _ hF⟩
  · rename_i q
    split at h
    · rename_i c' ds es
      obtain rfl := Nat.eq_of_beq_eq_true h
      obtain ⟨dx, vs, hH, rs⟩ := insAt w es
      exact ⟨q, dx, vs, r, hH⟩
    · cases h
  · cases h
theorem hmeth {c : Nat} {pl : Env → Sem Bool} (h : HMeth B k c m n dds sp) (hk : k ≤ B.k) (ho : HE B o to) (ha : HA B (e :: es) tr) (he : ∀ env, starEach (e :: es) env = (false, eval e env) :: starEach es env := by intro _; rfl)
    (hpl : ∀ env, (backTo pos (starEach es env)).any (·.1) = false := by intro _; rfl) (ht : ∀ env, MethTree (pl env) o m apos pos (e :: es) env := by intro _; rfl) : HE B (.Call (.Attribute o m apos) (e :: es) [] pos) (hMeth c n dds sp to tr) :=
  ⟨fun X W ok tk => by
    obtain ⟨f, hm, hf⟩ := h.me
    obtain ⟨fd, ps, ds, dvs, hn, hb, hv, hd, hf⟩ := hf.ex
    refine PE.imp (pe_methE (E := WE W) (pl := pl X.env) (ho.run X W ok tk) (by rw [ok.eK]; exact h.cl) (by rw [ok.eK]; exact hm) (ok.fnOk hf) (ok.room.mono hk) (by rw [ok.eK]; exact hb) hv (fun σ => passAt tk σ) (ha.run X W ok tk) (he _) (hpl _) (ht _)) fun σ H Q ⟨G, F, S, env, Q0, E0, rn, wd, hh, hq, hE⟩ => ?_
    refine ⟨G, F, S, env, _, E0, rn, wd, hh, fun d v F1 S1 H1 l1 w1 r1 h1 => ?_, hE⟩
    dsimp only at h1
    split at h1
    · rename_i ic
      obtain ⟨a, dx, vs, rfl, hH⟩ := isC_ok w1 r1 ic
      refine ⟨a, dx, _, rfl, hH, lookup_no h.no, G, F1, S1, env, _, E0, rn.le l1, w1, h1, fun ds us F2 S2 H2 l2 w2 r2 h2 => ?_, hE.le l1⟩
      obtain ⟨z, h2⟩ := beq_n h2
      have rr : Reps B.K F2 (d :: (ds ++ dds)) (V.ref a :: (us ++ dvs)) := ⟨_, _, rfl, r1.le l2, r2.append (hd F2)⟩
      exact ⟨by rw [rr.len]; exact z, G, F2, S2, _, Q0, E0, rr, w2, h2, hq.le (l1.trans l2), hE.le (l1.trans l2)⟩
    · exact h1.elim⟩
theorem hmeth0 {c : Nat} {pl : Env → Sem Bool} (h : HMeth B k c m n dds sp) (hk : k ≤ B.k) (ho : HE B o to) (ht : ∀ env, MethTree (pl env) o m apos pos [] env := by intro _; rfl) : HE B (.Call (.Attribute o m apos) [] [] pos) (hMeth c n dds sp to hNil) :=
  ⟨fun X W ok tk => by
    obtain ⟨f, hm, hf⟩ := h.me
    obtain ⟨fd, ps, ds, dvs, hn, hb, hv, hd, hf⟩ := hf.ex
    refine PE.imp (pe_methE0 (E := WE W) (pl := pl X.env) (ho.run X W ok tk) (by rw [ok.eK]; exact h.cl) (by rw [ok.eK]; exact hm) (ok.fnOk hf) (ok.room.mono hk) (by rw [ok.eK]; exact hb) hv (fun σ => passAt tk σ) (ht _)) fun σ H Q ⟨G, F, S, env, Q0, E0, rn, wd, hh, hq, hE⟩ => ?_
    refine ⟨G, F, S, env, _, E0, rn, wd, hh, fun d v F1 S1 H1 l1 w1 r1 h1 => ?_, hE⟩
    dsimp only at h1
    split at h1
    · rename_i ic
      obtain ⟨a, dx, vs, rfl, hH⟩ := isC_ok w1 r1 ic
      obtain ⟨z, h2⟩ := beq_n (show match Nat.beq (d :: ([] ++ dds)).length n with | true => sp (d :: ([] ++ dds)) S1 Q0 E0 | false => False from h1)
      have rr : Reps B.K F1 (d :: dds) (V.ref a :: dvs) := ⟨_, _, rfl, r1, hd F1⟩
      exact ⟨a, dx, _, rfl, hH, lookup_no h.no, by rw [rr.len]; exact z, G, F1, S1, _, Q0, E0, rr, w1, h2, hq.le l1, hE.le l1⟩
    · exact h1.elim⟩
/-! ### new instances -/
structure HMake (B : Bs) (k : Nat) (c : Nat) (n : Nat) (dds : List D) (sp : HSp) : Prop where
  mg : B.mg (cname c) = some (.ref (cad B.K c))
  mkr : ∃ f, Mk B.K (cad B.K c) f ∧ FnAt B k f n dds sp
def hMake (c n : Nat) (dds : List D) (sp : HSp) (t : HTA) : HTE := fun env S Q E => t env S (fun ds S1 => ∀ p, S1 p = none → match Nat.beq (D.ref p :: (ds ++ dds)).length n with
  | true => sp (.ref p :: (ds ++ dds)) (up S1 p (.ins c [])) (fun r S2 => isN r = true ∧ Rt Q (.ref p) S2) (Rx E)
  | false => False) E
theorem zip_nil {α β : Type} (l : List α) : l.zip ([] : List β) = [] := by cases l <;> rfl
theorem make_lift {G F : Hp} {S : Sto} {H : Hp} {ds : List D} {vs dvs : List V} {c : Nat} {Q0 E0 : HK} {Q : VK} {E : XK} (hd : ∀ F, Reps B.K F dds dvs) (w : Wd B.K G F S H) (rs : Reps B.K F ds vs) (hq : OkQ B.K G F Q0 Q) (he : OkE B.K G F E0 E)
    (h : ∀ p, S p = none → match Nat.beq (D.ref p :: (ds ++ dds)).length n with
      | true => sp (.ref p :: (ds ++ dds)) (up S p (.ins c [])) (fun r S2 => isN r = true ∧ Rt Q0 (.ref p) S2) (Rx E0)
      | false => False) (a dx : Addr) (ha : H a = none) (hdx : H dx = none) (ne : dx ≠ a) :
    lSp B.K n sp (.ref a :: (vs ++ dvs)) (upd (upd H dx (.own a)) a (.ins (cad B.K c) dx [])) (fun v H2 => v = .non ∧ Q (.ref a) H2) E := by
  obtain ⟨z, h1⟩ := beq_n (h a (w.freshS ha))
  have w1 := w.grow (.own a) hdx
  have w2 := w1.newS (m := .ins c []) (p := a) (o := .ins (cad B.K c) dx []) (by rw [upd_ne (Ne.symm ne)]; exact ha) ⟨dx, [], by rw [zip_nil], rfl⟩
  have rr : Reps B.K F (D.ref a :: (ds ++ dds)) (V.ref a :: (vs ++ dvs)) := ⟨_, _, rfl, rfl, rs.append (hd F)⟩
  refine ⟨by rw [rr.len]; exact z, G, F, _, _, _, _, rr, w2, h1, fun d v F' S' H' l w' r ⟨e, q⟩ => ?_, Rx.ok he⟩
  cases d <;> first | (cases e; done) | skip
  exact ⟨r, Rt.ok hq (.ref a) _ F' S' H' l w' rfl q⟩
theorem hmake {c : Nat} (h : HMake B k c n dds sp) (hk : k + 1 ≤ B.k) (gn : Gn B (cname c)) (ha : HA B (e :: es) tr) (hdb : (cname c == ("__debug__" : Str)) = false := by decide) (he : ∀ env, starEach (e :: es) env = (false, eval e env) :: starEach es env := by intro _; rfl)
    (hpl : ∀ env, (backTo pos (starEach es env)).any (·.1) = false := by intro _; rfl) : HE B (.Call (.Name (cname c) p) (e :: es) [] pos) (hMake c n dds sp tr) :=
  ⟨fun X W ok tk => by
    obtain ⟨f, hm, hf⟩ := h.mkr
    obtain ⟨fd, ps, ds, dvs, hn, hb, hv, hd, hf⟩ := hf.ex
    exact PE.imp (pe_makeE (E := WE W) (by rw [ok.eK]; exact hm) (ok.fnOk hf) (ok.room.mono hk) (ok.gl gn) (by rw [ok.em]; exact h.mg) (by rw [ok.eK]; exact hb) hv (fun σ => passAt tk σ) (ha.run X W ok tk) hdb (he _) (hpl _)) fun σ H Q ⟨G, F, S, env, Q0, E0, rn, wd, hh, hq, hE⟩ =>
      ⟨G, F, S, env, _, E0, rn, wd, hh, fun ds vs F1 S1 H1 l1 w1 r1 h1 => make_lift hd w1 r1 (hq.le l1) (hE.le l1) h1, hE⟩⟩
theorem hmake0 {c : Nat} (h : HMake B k c n dds sp) (hk : k + 1 ≤ B.k) (gn : Gn B (cname c)) (hdb : (cname c == ("__debug__" : Str)) = false := by decide) : HE B (.Call (.Name (cname c) p) [] [] pos) (hMake c n dds sp hNil) :=
  ⟨fun X W ok tk => by
    obtain ⟨f, hm, hf⟩ := h.mkr
    obtain ⟨fd, ps, ds, dvs, hn, hb, hv, hd, hf⟩ := hf.ex
    exact PE.imp (pe_makeE0 (E := WE W) (by rw [ok.eK]; exact hm) (ok.fnOk hf) (ok.room.mono hk) (ok.gl gn) (by rw [ok.em]; exact h.mg) (by rw [ok.eK]; exact hb) hv (fun σ => passAt tk σ) hdb) fun σ H Q ⟨G, F, S, env, Q0, E0, rn, wd, hh, hq, hE⟩ =>
      fun a dx h1 h2 h3 => make_lift (vs := []) (ds := []) hd wd rfl hq hE hh a dx h1 h2 h3⟩
/-! ### isinstance against an own class -/
structure InsFacts (K : PySem.W.Frag) (c : Nat) : Prop where
  cl : Cls K (cad K c)
  ha : PySem.W.findIn K (.ref (cad K c)) "__class__" = some (some (.builtin "object.__class__"))
  hn : PySem.W.specialIn K (.builtin "object.__class__") "__get__" = some (some (.builtin "getset_descriptor.__get__"))
  tk : PySem.W.takesIn K (.builtin "object.__class__") = some true
  hm : PySem.W.mroIn K (cad K c) (.type "object") = some true
end
end Hy

set_option Elab.async false
set_option linter.all false
set_option maxRecDepth 100000
set_option maxHeartbeats 4000000
set_option autoImplicit false
namespace Hy
open PySem PySem.Spec PyProof.Rows L2
section
variable {B : Bs} {e a b o : Expr} {es : List Expr} {ta tb te to : HTE} {tr : HTA} {x m : Str} {p pos apos : Pos} {k n : Nat} {dds : List D} {sp : HSp}
/-! ### methods of built-in types -/
def RMok (K : PySem.W.Frag) (g : GM) (r : V → List V → Hp → VK → Prop) : Prop := ∀ G F S H d v ds vs Q0 Q, Wd K G F S H → Rep K F d v → Reps K F ds vs → g d ds S Q0 → OkQ K G F Q0 Q → r v vs H Q
def isStr : Sto → D → Bool
  | _, .str _ => true
  | _, _ => false
def isLst (S : Sto) (x : D) : Bool := (itemsL S x).isSome
def isDct : Sto → D → Bool
  | S, .ref q => match S q with
    | some (.dct _) => true
    | _ => false
  | _, _ => false
def KdOk (K : PySem.W.Frag) (T : String) (kd : Sto → D → Bool) : Prop := ∀ G F S H d v, Wd K G F S H → Rep K F d v → kd S d = true → tyV K T v H
theorem kd_str {K : PySem.W.Frag} : KdOk K "str" isStr := fun G F S H d v w r h => by
  cases d <;> first | (cases h; done) | skip
  cases r; rfl
theorem kd_lst {K : PySem.W.Frag} : KdOk K "list" isLst := fun G F S H d v w r h => by
  obtain ⟨ds, e⟩ := Option.isSome_iff_exists.mp h
  obtain ⟨a, vs, rfl, hs, _⟩ := itemsL_ok w r e
  exact .inl ⟨rfl, vs, hs⟩
theorem kd_dct {K : PySem.W.Frag} : KdOk K "dict" isDct := fun G F S H d v w r h => by
  cases d <;> first | (cases h; done) | skip
  rename_i q
  obtain rfl : v = .ref q := r
  simp only [isDct] at h
  split at h
  · rename_i kvs e
    obtain ⟨vs, h1, _⟩ := dctAt w e
    exact .inr (.inr (.inl ⟨rfl, .inl ⟨_, h1⟩⟩))
  · cases h
def hMt (kd : Sto → D → Bool) (g : GM) (to : HTE) (t : HTA) : HTE := fun env S Q E => to env S (fun x S1 => match kd S1 x with
  | true => t env S1 (fun ds S2 => g x ds S2 Q) E
  | false => False) E
theorem hbm {T id : String} {name : Str} {kd : Sto → D → Bool} {g : GM} {r : PySem.W.Frag → V → List V → Hp → VK → Prop} (pa : PlainAttrs T) (slot : Slot T name id) (hty : typeOf (.builtin id) = pure (.type "method_descriptor")) (hm : ∀ X, OkC B X → MtR X id (r X.K)) (hg : RMok B.K g (r B.K)) (hk : KdOk B.K T kd)
    (ho : HE B o to) (ha : HA B (e :: es) tr) (hbase : ∀ env, attributeBase o name env (eval o env) = eval o env := by intro _; rfl)
    (hfew : ∀ env, ((backTo pos (starEach (e :: es) env)).all (fun x => !x.1) && (backToKw pos (keywordEach [] env)).all (fun x => x.1.isSome) && decide ((e :: es).length + ([] : List Keyword).length + (if ([] : List Keyword).isEmpty then 0 else 1) < 30)) = true := by intro _; rfl)
    (hline : (apos.endLine == pos.line) = true := by rfl) (hs : ∀ env, starEach (e :: es) env = (false, eval e env) :: starEach es env := by intro _; rfl) (hplain : ∀ env, (backTo pos (starEach es env)).any (·.1) = false := by intro _; rfl) :
    HE B (.Call (.Attribute o name apos) (e :: es) [] pos) (hMt kd g to tr) :=
  ⟨fun X W ok tk => PE.imp (pe_bm pa slot hty (by have := hm X ok; rw [ok.eK] at this; exact this) (ho.run X W ok tk) (ha.run X W ok tk) (hbase _) (hfew _) hline (hs _) (hplain _)) fun σ H Q ⟨G, F, S, env, Q0, E0, rn, wd, h, hq, he⟩ =>
    ⟨G, F, S, env, _, E0, rn, wd, h, fun d v F1 S1 H1 l1 w1 r1 h1 => by
      dsimp only at h1
      split at h1
      · rename_i ek
        exact ⟨by rw [ok.eK]; exact hk G F1 S1 H1 d v w1 r1 ek, G, F1, S1, env, _, E0, rn.le l1, w1, h1, fun ds vs F2 S2 H2 l2 w2 r2 h2 => hg G F2 S2 H2 d v ds vs Q0 Q w2 (r1.le l2) r2 h2 (hq.le (l1.trans l2)), he.le l1⟩
      · exact h1.elim, he⟩⟩
theorem hbm0 {T id : String} {name : Str} {kd : Sto → D → Bool} {g : GM} {r : PySem.W.Frag → V → List V → Hp → VK → Prop} (pa : PlainAttrs T) (slot : Slot T name id) (hty : typeOf (.builtin id) = pure (.type "method_descriptor")) (hm : ∀ X, OkC B X → MtR X id (r X.K)) (hg : RMok B.K g (r B.K)) (hk : KdOk B.K T kd)
    (ho : HE B o to) (hbase : ∀ env, attributeBase o name env (eval o env) = eval o env := by intro _; rfl) (hline : (apos.endLine == pos.line) = true := by rfl) : HE B (.Call (.Attribute o name apos) [] [] pos) (hMt kd g to hNil) :=
  ⟨fun X W ok tk => PE.imp (pe_bm0 pa slot hty (by have := hm X ok; rw [ok.eK] at this; exact this) (ho.run X W ok tk) (hbase _) hline) fun σ H Q ⟨G, F, S, env, Q0, E0, rn, wd, h, hq, he⟩ =>
    ⟨G, F, S, env, _, E0, rn, wd, h, fun d v F1 S1 H1 l1 w1 r1 h1 => by
      dsimp only at h1
      split at h1
      · rename_i ek
        exact ⟨by rw [ok.eK]; exact hk G F1 S1 H1 d v w1 r1 ek, hg G F1 S1 H1 d v [] [] Q0 Q w1 r1 rfl h1 (hq.le l1)⟩
      · exact h1.elim, he⟩⟩
theorem line_lt {n : Nat} (h : n < 16777216) : n < sizeLine := by rw [sizeLine_eq]; exact h
theorem line_le {n : Nat} (h : n ≤ 16777216) : n ≤ sizeLine := by rw [sizeLine_eq]; exact h
/-! append, extend, pop, insert -/
def gAppend : GM := fun x ds S Q => match x with
  | .ref q => match S q with
    | some (.lst xs) => match ds with
      | [d] => xs.length < 16777216 ∧ Q .non (up S q (.lst (xs ++ [d])))
      | _ => False
    | _ => False
  | _ => False
theorem gAppend_ok {K : PySem.W.Frag} : RMok K gAppend rAppend := by
  intro G F S H d v ds vs Q0 Q w r rs h hq
  unfold gAppend at h
  split at h
  · rename_i q
    obtain rfl : v = .ref q := r
    split at h
    · rename_i xs e
      split at h
      · obtain ⟨u, rfl, r1⟩ := rs.one_inv
        obtain ⟨us, h1, h2, h3⟩ := lstAt w e
        exact ⟨q, us, u, rfl, rfl, h1, by rw [h2.len]; exact line_lt h.1, hq .non _ F _ _ Le.rfl' (w.put (m := .lst (xs ++ [_])) e ⟨_, rfl, h2.append (Reps.one r1), by rw [List.length_append]; exact line_lt h.1⟩) rfl h.2⟩
      · exact h.elim
    · exact h.elim
  · exact h.elim
theorem happend (ho : HE B o to) (ha : HA B [e] tr) (hbase : ∀ env, attributeBase o "append" env (eval o env) = eval o env := by intro _; rfl)
    (hfew : ∀ env, ((backTo pos (starEach [e] env)).all (fun x => !x.1) && (backToKw pos (keywordEach [] env)).all (fun x => x.1.isSome) && decide ([e].length + ([] : List Keyword).length + (if ([] : List Keyword).isEmpty then 0 else 1) < 30)) = true := by intro _; rfl)
    (hline : (apos.endLine == pos.line) = true := by rfl) (hs : ∀ env, starEach [e] env = (false, eval e env) :: starEach [] env := by intro _; rfl) : HE B (.Call (.Attribute o "append" apos) [e] [] pos) (hMt isLst gAppend to tr) :=
  hbm (r := fun _ => rAppend) PySem.F.plainAttrs_list PySem.F.slot_list_append PySem.F.type_list_append (fun X _ => mt_append) gAppend_ok kd_lst ho ha hbase hfew hline hs (fun _ => rfl)
def gExtend : GM := fun x ds S Q => match x with
  | .ref q => match S q with
    | some (.lst xs) => match ds with
      | [.lst ys] => xs.length + ys.length ≤ 16777216 ∧ Q .non (up S q (.lst (xs ++ ys)))
      | [.ref q2] => match S q2 with
        | some (.lst ys) => xs.length + ys.length ≤ 16777216 ∧ Q .non (up S q (.lst (xs ++ ys)))
        | _ => False
      | _ => False
    | _ => False
  | _ => False
theorem ext_lem {K : PySem.W.Frag} {G F : Hp} {S : Sto} {H : Hp} {q b : Addr} {xs ys : List D} {ws : List V} {Q0 : HK} {Q : VK} (w : Wd K G F S H) (e : S q = some (.lst xs)) (hb : H b = some (.lst ws)) (rb : Reps K F ys ws)
    (h : xs.length + ys.length ≤ 16777216 ∧ Q0 .non (up S q (.lst (xs ++ ys)))) (hq : OkQ K G F Q0 Q) : rExtend (.ref q) [.ref b] H Q := by
  obtain ⟨us, h1, h2, h3⟩ := lstAt w e
  exact ⟨q, b, us, ws, rfl, rfl, h1, hb, by rw [h2.len, rb.len]; exact line_le h.1, hq .non _ F _ _ Le.rfl' (w.put (m := .lst (xs ++ ys)) e ⟨_, rfl, h2.append rb, by rw [List.length_append]; exact line_le h.1⟩) rfl h.2⟩
theorem gExtend_ok {K : PySem.W.Frag} : RMok K gExtend rExtend := by
  intro G F S H d v ds vs Q0 Q w r rs h hq
  unfold gExtend at h
  split at h
  · rename_i q
    obtain rfl : v = .ref q := r
    split at h
    · rename_i xs e
      split at h
      · obtain ⟨u, rfl, r1⟩ := rs.one_inv
        obtain ⟨b, ws, rfl, hb, rb, _⟩ := r1
        exact ext_lem w e (w.fr _ _ hb) rb h hq
      · rename_i q2
        obtain ⟨u, rfl, r1⟩ := rs.one_inv
        obtain rfl : u = .ref q2 := r1
        split at h
        · rename_i ys e2
          obtain ⟨ws, h1, h2, _⟩ := lstAt w e2
          exact ext_lem w e h1 h2 h hq
        · exact h.elim
      · exact h.elim
    · exact h.elim
  · exact h.elim
theorem hextend (ho : HE B o to) (ha : HA B [e] tr) (hbase : ∀ env, attributeBase o "extend" env (eval o env) = eval o env := by intro _; rfl)
    (hfew : ∀ env, ((backTo pos (starEach [e] env)).all (fun x => !x.1) && (backToKw pos (keywordEach [] env)).all (fun x => x.1.isSome) && decide ([e].length + ([] : List Keyword).length + (if ([] : List Keyword).isEmpty then 0 else 1) < 30)) = true := by intro _; rfl)
    (hline : (apos.endLine == pos.line) = true := by rfl) (hs : ∀ env, starEach [e] env = (false, eval e env) :: starEach [] env := by intro _; rfl) : HE B (.Call (.Attribute o "extend" apos) [e] [] pos) (hMt isLst gExtend to tr) :=
  hbm (r := fun _ => rExtend) PySem.F.plainAttrs_list PySem.F.slot_list_extend PySem.F.type_list_extend (fun X _ => mt_extend) gExtend_ok kd_lst ho ha hbase hfew hline hs (fun _ => rfl)
/-! join -/
def gJoin : GM := fun x ds S Q => match x with
  | .str z => match ds with
    | [y] => match items S y with
      | some ys => match dStrs ys with
        | some ts => (ts.map (·.length)).sum + ts.length * z.length ≤ 16777216 ∧ Q (.str (Txt.join z ts)) S
        | none => False
      | none => False
    | _ => False
  | _ => False
theorem gJoin_ok {K : PySem.W.Frag} : RMok K gJoin (fun x xs H Q => ∃ a p, ∃ ys : List Str, x = .str a ∧ xs = [.ref p] ∧ (SqL K H p (ys.map V.str) ∨ SqT K H p (ys.map V.str)) ∧ (ys.map (·.length)).sum + ys.length * a.length ≤ 16777216 ∧ Q (.str (Txt.join a ys)) H) := by
  intro G F S H d v ds vs Q0 Q w r rs h hq
  unfold gJoin at h
  split at h
  · split at h
    · obtain ⟨u, rfl, r1⟩ := rs.one_inv
      split at h
      · rename_i ys e
        split at h
        · rename_i ts e2
          obtain ⟨q, us, rfl, hs, rr, _⟩ := items_ok w r1 e
          rw [strs_ok e2 rr] at hs
          exact ⟨_, q, ts, r, rfl, hs, h.1, hq (.str _) _ F S H Le.rfl' w (by show V.str _ = _; rfl) h.2⟩
        · exact h.elim
      · exact h.elim
    · exact h.elim
  · exact h.elim
theorem hjoin (ho : HE B o to) (ha : HA B [e] tr) (hbase : ∀ env, attributeBase o "join" env (eval o env) = eval o env := by intro _; rfl)
    (hfew : ∀ env, ((backTo pos (starEach [e] env)).all (fun x => !x.1) && (backToKw pos (keywordEach [] env)).all (fun x => x.1.isSome) && decide ([e].length + ([] : List Keyword).length + (if ([] : List Keyword).isEmpty then 0 else 1) < 30)) = true := by intro _; rfl)
    (hline : (apos.endLine == pos.line) = true := by rfl) (hs : ∀ env, starEach [e] env = (false, eval e env) :: starEach [] env := by intro _; rfl) : HE B (.Call (.Attribute o "join" apos) [e] [] pos) (hMt isStr gJoin to tr) :=
  hbm (r := fun K x xs H Q => ∃ a p, ∃ ys : List Str, x = .str a ∧ xs = [.ref p] ∧ (SqL K H p (ys.map V.str) ∨ SqT K H p (ys.map V.str)) ∧ (ys.map (·.length)).sum + ys.length * a.length ≤ 16777216 ∧ Q (.str (Txt.join a ys)) H) PySem.F.plainAttrs_str PySem.F.slot_str_join PySem.F.type_str_join (fun X _ => mt_join) gJoin_ok kd_str ho ha hbase hfew hline hs (fun _ => rfl)
/-! ### f-strings -/
def gFmt : G1 := fun x S Q => match x with
  | .str y => y.length ≤ sizeLine ∧ Q (.str y) S
  | .int i => i.natAbs.log2 < 1920 ∧ Q (.str (toString i)) S
  | _ => False
theorem hfmt (h : HE B e te) : HE B (.FormattedValue e (-1) none pos) (hun gFmt te) :=
  ⟨fun X W ok tk => PE.imp (pe_fmt (h.run X W ok tk)) fun σ H Q h => by
    refine lun (r := fun x H1 Q => (∃ y : Str, x = .str y ∧ y.length ≤ sizeLine ∧ Q (.str y) H1) ∨ ∃ i : Int, x = .int i ∧ i.natAbs.log2 < 1920 ∧ Q (.str (toString i)) H1) ?_ te σ H Q h
    intro G F S H d v Q0 Q w r h hq
    unfold gFmt at h
    split at h
    · exact .inl ⟨_, r, h.1, hq (.str _) _ F S H Le.rfl' w (by show V.str _ = _; rfl) h.2⟩
    · exact .inr ⟨_, r, h.1, hq (.str _) _ F S H Le.rfl' w (by show V.str _ = _; rfl) h.2⟩
    · exact h.elim⟩
def hJs : List HTE → Str → HTE
  | [], acc, _, S, Q, _ => Q (.str acc) S
  | t :: ts, acc, env, S, Q, E => t env S (fun x S1 => match x with
    | .str y => (acc ++ y).length ≤ 16777216 ∧ hJs ts (acc ++ y) env S1 Q E
    | _ => False) E
inductive HJ (B : Bs) : List Expr → List HTE → Prop where
  | nil : HJ B [] []
  | cons {e : Expr} {t : HTE} {es : List Expr} {ts : List HTE} (h : HE B e t) (r : HJ B es ts) : HJ B (e :: es) (t :: ts)
theorem HJ.pj {es : List Expr} {ts : List HTE} (h : HJ B es ts) {X : Cx} {W : WX} (ok : OkC B X) (tk : Takes X W) : PJ X es (ts.map (lE B.K W)) := by
  induction h with
  | nil => exact .nil
  | cons h _ ih => exact .cons (h.run X W ok tk) ih
theorem js_lift {K : PySem.W.Frag} {W : WX} {Q : VK} {σ : St} : ∀ (ts : List HTE) (acc : Str) (G F : Hp) (S : Sto) (H : Hp) (env : HEnv) (Q0 E0 : HK), RepN K F env σ → Wd K G F S H → hJs ts acc env S Q0 E0 → OkQ K G F Q0 Q → OkE K G F E0 (WE W σ) →
    tJs (ts.map (lE K W)) acc σ H fun out H1 => Q (.str out) H1
  | [], acc, G, F, S, H, env, Q0, E0, rn, wd, h, hq, he => hq (.str acc) _ F S H Le.rfl' wd rfl h
  | t :: ts, acc, G, F, S, H, env, Q0, E0, rn, wd, h, hq, he => by
    refine ⟨G, F, S, env, _, E0, rn, wd, h, fun d v F1 S1 H1 l1 w1 r1 h1 => ?_, he⟩
    dsimp only at h1
    split at h1
    · exact ⟨_, r1, line_le h1.1, js_lift ts _ G F1 S1 H1 env Q0 E0 (rn.le l1) w1 h1.2 (hq.le l1) (he.le l1)⟩
    · exact h1.elim
theorem hjoined {v1 v2 : Expr} {rest : List Expr} {ts : List HTE} (h : HJ B (v1 :: v2 :: rest) ts) : HE B (.JoinedStr (v1 :: v2 :: rest) pos) (hJs ts Str.empty) :=
  ⟨fun X W ok tk => PE.imp (pe_joined (h.pj ok tk)) fun σ H Q ⟨G, F, S, env, Q0, E0, rn, wd, h, hq, he⟩ => js_lift ts _ G F S H env Q0 E0 rn wd h hq he⟩
theorem hjoined1 (h : HE B e te) : HE B (.JoinedStr [e] pos) te := ⟨fun X W ok tk => pe_joined1 (h.run X W ok tk)⟩
/-! ### < of tuples -/
def gLtD : G2 := fun x y S Q => match x, y with
  | .int i, .int j => Q (.bl (decide (i < j))) S
  | .str s, .str t => Q (.bl (decide (s.cps.toList < t.cps.toList))) S
  | .tup xs, .tup ys => match dok 60 (.tup xs) && dok 60 (.tup ys) && PySem.W.alike (toP (.tup xs)) (toP (.tup ys)) with
    | true => Q (.bl (PySem.W.dataLt (toP (.tup xs)) (toP (.tup ys)))) S
    | false => False
  | _, _ => False
theorem op_ltD {X : Cx} (hu : X.A.units + 64 < cLine) : OpR X (compareOp .Lt) (fun x y H Q => ∃ d e, Dp X.K H x d ∧ Dp X.K H y e ∧ SeqAt.shaped d = true ∧ PySem.W.alike d e = true ∧ d ≠ .none ∧ Q (.bl (PySem.W.dataLt d e)) H) := by
  intro pins s σ H x y v u Q I rx ry h
  obtain ⟨d, e, hd, he, sd, al, nn, q⟩ := h
  obtain ⟨as, r1⟩ := Dp.reads I d x v hd rx
  obtain ⟨bs, r2⟩ := Dp.reads I e y u he ry
  have hz := SeqAt.depth_of_shaped sd
  show wpAny (model X.prog X.w) X.A (richCompare .Lt v u) (EP X pins σ Q) X.xe s
  exact PySem.W.rcLt_alike d e X.A s v u as bs r1 r2 al nn (by have := Nat.min_le_left d.depth e.depth; omega) X.prog X.w _ _ ⟨.bl _, H, I, rfl, q⟩
theorem gLtD_ok {K : PySem.W.Frag} : R2ok K gLtD (fun x y H Q => rOrd (fun i j => decide (i < j)) (fun s t => decide (s < t)) x y H Q ∨ ∃ d e, Dp K H x d ∧ Dp K H y e ∧ SeqAt.shaped d = true ∧ PySem.W.alike d e = true ∧ d ≠ .none ∧ Q (.bl (PySem.W.dataLt d e)) H) := by
  intro G F S H d1 v1 d2 v2 Q0 Q w r1 r2 h hq
  unfold gLtD at h
  split at h
  · exact .inl (.inl ⟨_, _, r1, r2, hq (.bl _) _ F S H Le.rfl' w (by show V.bl _ = _; rfl) h⟩)
  · exact .inl (.inr ⟨_, _, r1, r2, hq (.bl _) _ F S H Le.rfl' w (by show V.bl _ = _; rfl) h⟩)
  · split at h
    · rename_i e
      obtain ⟨e, e3⟩ := Bool.and_eq_true_iff.mp e
      obtain ⟨e1, e2⟩ := Bool.and_eq_true_iff.mp e
      exact .inr ⟨_, _, dp_of w.fr _ 60 _ e1 r1, dp_of w.fr _ 60 _ e2 r2, shaped_of e1, e3, (fun z => by simp [toP] at z), hq (.bl _) _ F S H Le.rfl' w (by show V.bl _ = _; rfl) h⟩
    · exact h.elim
  · exact h.elim
theorem hltD (ha : HE B a ta) (hb : HE B b tb) : HE B (.Compare a [.Lt] [b] pos) (hop gLtD ta tb) := hcmp (r := fun K x y H Q => rOrd (fun i j => decide (i < j)) (fun s t => decide (s < t)) x y H Q ∨ ∃ d e, Dp K H x d ∧ Dp K H y e ∧ SeqAt.shaped d = true ∧ PySem.W.alike d e = true ∧ d ≠ .none ∧ Q (.bl (PySem.W.dataLt d e)) H) (fun X ok => (op_lt.or op_lt_str).or (op_ltD ok.room.units)) gLtD_ok ha hb (nomark _)
/-! ### == by an own __eq__ -/
structure HEqOwn (B : Bs) (k : Nat) (c : Nat) (sp : HSp) : Prop where
  ex : ∃ f, PySem.W.findIn B.K (.ref (cad B.K c)) "__eq__" = some (some (.ref f)) ∧ PySem.W.isFn B.K (.ref f) = true ∧ FnAt B k f 2 [] sp
  cl : Cls B.K (cad B.K c)
/-- what stands at the right may be compared by the left's own def -/
def rightOk : Sto → D → Bool
  | _, .non => true
  | _, .bl _ => true
  | _, .int _ => true
  | _, .str _ => true
  | _, .tup _ => true
  | _, .lst _ => true
  | _, _ => false
def hEqO (c : Nat) (sp : HSp) (to tb : HTE) : HTE := fun env S Q E => to env S (fun x S1 => tb env S1 (fun y S2 => match isC c S2 x && (isC c S2 y || rightOk S2 y) with
  | true => sp [x, y] S2 (fun r S3 => match r with
    | .bl _ => Q r S3
    | _ => False) (fun _ _ => False)
  | false => False) E) E
end
end Hy

set_option Elab.async false
set_option linter.all false
set_option maxRecDepth 100000
set_option maxHeartbeats 4000000
set_option autoImplicit false
namespace Hy
open PySem PySem.Spec PyProof.Rows L2
section
variable {B : Bs} {e a b o : Expr} {es : List Expr} {ta tb te to : HTE} {tr : HTA} {x m : Str} {p pos apos : Pos} {k n : Nat} {dds : List D} {sp : HSp}
/-- the type of what stands at the right -/
theorem right_type {X : Cx} {pins : List (Addr × Obj)} {σ : L2.St} {H : Hp} {s : Shared} {G F : Hp} {S : Sto} {c : Nat} {d : D} {v : V} {u : Value} (I : L2.Inv X pins σ H s) (w : Wd X.K G F S H) (r : Rep X.K F d v) (rv : RelV v u) (h : (isC c S d || rightOk S d) = true) :
    ∃ tb, PySem.W.Looks (model X.prog X.w) s.heap (typeOf u) tb ∧ PySem.W.notFirst X.K (cad X.K c) tb = true := by
  have own : isC c S d = true → ∃ tb, PySem.W.Looks (model X.prog X.w) s.heap (typeOf u) tb ∧ PySem.W.notFirst X.K (cad X.K c) tb = true := fun hc => by
    obtain ⟨a, dx, vs, rfl, hH⟩ := isC_ok w r hc
    cases rv
    obtain ⟨mA, O, _⟩ := ins_get I.hok hH
    obtain ⟨od, J, _⟩ := O.look
    exact ⟨_, J.type, by simp [PySem.W.notFirst]⟩
  cases hc : isC c S d with
  | true => exact own hc
  | false =>
    rw [hc] at h
    cases d <;> first | (simp [rightOk] at h; done) | skip
    · cases r; cases rv
      exact ⟨.type "NoneType", .of_pure rfl, by rfl⟩
    · cases r; cases rv
      exact ⟨.type "bool", .of_pure rfl, by rfl⟩
    · cases r
      obtain ⟨t, rfl⟩ := rv
      exact ⟨.type "int", .of_pure rfl, by rfl⟩
    · cases r
      obtain ⟨t, rfl⟩ := rv
      exact ⟨.type "str", .of_pure rfl, by rfl⟩
    · obtain ⟨a, vs, rfl, hs, _⟩ := r
      cases rv
      obtain ⟨its, _, ⟨oo, e1, e2, _⟩, _⟩ := I.tuple (SqT.le w.fr hs)
      exact ⟨.type "tuple", fun A Q E s2 kk q => wpAny_typeOf_ref (kk _ _ e1) (by rw [e2]; exact q), by rfl⟩
    · obtain ⟨a, vs, rfl, hs, _⟩ := r
      cases rv
      obtain ⟨its, _, ⟨oo, _, e1, e2, _⟩, _⟩ := I.list (SqL.of (w.fr _ _ hs))
      exact ⟨.type "list", fun A Q E s2 kk q => wpAny_typeOf_ref (kk _ _ e1) (by rw [e2]; exact q), by rfl⟩
/-- what == gives by an own def -/
def rEqO (K : PySem.W.Frag) (c : Nat) (sp : HSp) : R2 := fun x y H Q => ∃ G F S d1 d2 Q0, Wd K G F S H ∧ Rep K F d1 x ∧ Rep K F d2 y ∧ isC c S d1 = true ∧ (isC c S d2 || rightOk S d2) = true ∧
  sp [d1, d2] S Q0 (fun _ _ => False) ∧ ∀ d v F' S' H', Le F F' → Wd K G F' S' H' → Rep K F' d v → Q0 d S' → (∃ k, d = .bl k) ∧ Q v H'
theorem op_eqO {X : Cx} {c : Nat} (ok : OkC B X) (h : HEqOwn B k c sp) (hk : k ≤ B.k) : OpR X (compareOp .Eq) (rEqO X.K c sp) := by
  intro pins s σ H x y u v Q I rx ry hq
  obtain ⟨G, F, S, d1, d2, Q0, w, r1, r2, c1, c2, hsp, hh⟩ := hq
  obtain ⟨f, hs, hf, hat⟩ := h.ex
  obtain ⟨fd, ps, ds, dvs, hn, hb, hv, hd, hF⟩ := hat.ex
  rw [← ok.eK] at hs hf hb hd
  have hF := ok.fnOk hF
  rw [← ok.eK] at hF
  have e0 : dvs = [] := by have := (hd F).len; exact List.eq_nil_of_length_eq_zero (by simpa using this)
  subst e0
  have e1 : ds = [] := by cases hv; rfl
  subst e1
  obtain ⟨a, dx, vs, rfl, hH⟩ := isC_ok w r1 c1
  obtain ⟨tb, lk, nf⟩ := right_type I w r2 ry c2
  obtain rfl : u = Value.ref a := rx
  obtain ⟨mA, O, _⟩ := ins_get I.hok hH
  obtain ⟨od, J, _⟩ := O.look
  obtain ⟨mm, hfr⟩ := I.fr
  show wpAny (model X.prog X.w) X.A (richCompare .Eq (.ref a) v) (EP X pins σ Q) X.xe s
  refine PySem.W.cmp_K (op := .Eq) (tb := tb) ok.room.units0 hfr I.ok.mod.kin J lk nf hs hf ?_
  have rr : Reps X.K F [d1, d2] [V.ref a, y] := ⟨_, _, rfl, r1, Reps.one r2⟩
  refine wpAny_mono (run_fn (Q := fun z H' => (∃ k, z = V.bl k) ∧ Q z H') (E := E0) (dvs := []) hF (ok.room.mono hk) hb .nil passL I (.cons rfl (.cons ry .nil) : Vals [V.ref a, y] [Value.ref a, v])
    ⟨by simp, G, F, S, [d1, d2], Q0, _, rr, w, hsp, fun d z F' S' H' l w' r q => ?_, fun _ _ _ _ _ _ _ _ _ q => q.elim⟩) (fun r' s' hr => ?_) fun _ _ z => z
  · obtain ⟨⟨kk, e⟩, q2⟩ := hh d z F' S' H' l w' r q
    subst e
    exact ⟨⟨kk, r⟩, q2⟩
  · obtain ⟨z, H', I', rz, ⟨kk, e⟩, q⟩ := hr
    subst e
    cases rz
    exact ⟨.bl kk, H', I', rfl, q⟩
theorem lEqO {K : PySem.W.Frag} {W : WX} {c : Nat} (σ : L2.St) (H : Hp) (Q : VK) (h : lE K W (hEqO c sp ta tb) σ H Q) : tOp (rEqO K c sp) (lE K W ta) (lE K W tb) σ H Q := by
  obtain ⟨G, F, S, env, Q0, E0, rn, wd, h, hq, he⟩ := h
  refine ⟨G, F, S, env, _, E0, rn, wd, h, fun d v F1 S1 H1 l1 w1 r1 h1 => ?_, he⟩
  refine ⟨G, F1, S1, env, _, E0, rn.le l1, w1, h1, fun d2 v2 F2 S2 H2 l2 w2 r2 h2 => ?_, he.le l1⟩
  dsimp only at h2
  split at h2
  · rename_i e
    obtain ⟨e1, e2⟩ := Bool.and_eq_true_iff.mp e
    refine ⟨G, F2, S2, d, d2, _, w2, r1.le l2, r2, e1, e2, h2, fun d3 v3 F3 S3 H3 l3 w3 r3 q3 => ?_⟩
    try dsimp only at q3
    split at q3
    · exact ⟨⟨_, rfl⟩, hq _ _ F3 S3 H3 (l1.trans (l2.trans l3)) w3 r3 q3⟩
    · exact q3.elim
  · exact h2.elim
theorem heqO {c : Nat} (h : HEqOwn B k c sp) (hk : k ≤ B.k) (ha : HE B a ta) (hb : HE B b tb) : HE B (.Compare a [.Eq] [b] pos) (hEqO c sp ta tb) :=
  ⟨fun X W ok tk => PE.imp (pe_cmpR (op_eqO ok h hk) (ha.run X W ok tk) (hb.run X W ok tk) (nomark _)) fun σ H Q q => by rw [ok.eK]; exact lEqO σ H Q q⟩
theorem heqOT {c : Nat} (h : HEqOwn B k c sp) (hk : k ≤ B.k) (ha : HE B a ta) (hb : HE B b tb) : HT B (.Compare a [.Eq] [b] pos) (hB (hEqO c sp ta tb)) :=
  ⟨fun X W ok tk => PT.imp (pt_cmpR (op_eqO ok h hk) (ha.run X W ok tk) (hb.run X W ok tk) (nomark _)) fun σ H Q q => lB (fun σ H Q q => by rw [ok.eK]; exact lEqO σ H Q q) σ H Q q⟩
/-! ### isinstance(x, T) -/
/-- the answer for a built-in class -/
def isTy (T : String) (S : Sto) : D → Option Bool
  | .non => some false
  | .bl _ => some (T == "bool" || T == "int")
  | .int _ => some (T == "int")
  | .str _ => some (T == "str")
  | .tup _ => some (T == "tuple")
  | .lst _ => some (T == "list")
  | .ref q => match S q with
    | some (.lst _) => some (T == "list")
    | some (.dct _) => some (T == "dict")
    | _ => none
  | _ => none
/-- an own class, as isinstance sees it: against which classes of the text it is asked -/
structure IsiC (K : PySem.W.Frag) (c : Nat) (cs : List Nat) : Prop where
  ty : ∀ T ∈ ["NoneType", "bool", "int", "str", "list", "tuple"], PySem.W.kitOne K (.type T) (.ref (cad K c)) = some false
  cl : ∀ c' ∈ cs, InsFacts K c' ∧ PySem.W.kitOne K (.ref (cad K c')) (.ref (cad K c)) = some (Nat.beq c' c)
def memN (c : Nat) : List Nat → Bool
  | [] => false
  | d :: ds => match Nat.beq c d with
    | true => true
    | false => memN c ds
theorem memN_ok {c : Nat} : ∀ {l : List Nat}, memN c l = true → c ∈ l
  | [], h => by cases h
  | d :: ds, h => by
    unfold memN at h
    split at h
    · rename_i e
      rw [Nat.eq_of_beq_eq_true e]; exact List.mem_cons_self
    · exact List.mem_cons_of_mem _ (memN_ok h)
def isiO (c : Nat) (cs : List Nat) (S : Sto) : D → Option Bool
  | .non => some false
  | .bl _ => some false
  | .int _ => some false
  | .str _ => some false
  | .tup _ => some false
  | .lst _ => some false
  | .obj c' _ => match memN c' cs with
    | true => some (Nat.beq c' c)
    | false => none
  | .ref q => match S q with
    | some (.lst _) => some false
    | some (.ins c' _) => match memN c' cs with
      | true => some (Nat.beq c' c)
      | false => none
    | _ => none
  | _ => none
theorem ty_tup {K : PySem.W.Frag} {H : Hp} {a : Addr} {vs : List V} (h : SqT K H a vs) : TyX K H (.ref a) (.type "tuple") := by
  rcases h with (h | ⟨o, h⟩) | ⟨o, its, n, hk, hc, _⟩
  · exact .base (.tup h)
  · exact .fTuple h
  · exact .kTuple hk hc
theorem isiO_ok {K : PySem.W.Frag} {G F : Hp} {S : Sto} {H : Hp} {c : Nat} {cs : List Nat} {d : D} {v : V} {b : Bool} (I : IsiC K c cs) (w : Wd K G F S H) (r : Rep K F d v) (h : isiO c cs S d = some b) : ∃ t, TyX K H v t ∧ PySem.W.kitOne K t (.ref (cad K c)) = some b := by
  cases d with
  | non => cases h; cases r; exact ⟨_, .base .non, I.ty _ (by simp)⟩
  | bl _ => cases h; cases r; exact ⟨_, .base (.bl _), I.ty _ (by simp)⟩
  | int _ => cases h; cases r; exact ⟨_, .base (.int _), I.ty _ (by simp)⟩
  | str _ => cases h; cases r; exact ⟨_, .base (.str _), I.ty _ (by simp)⟩
  | tup _ =>
    cases h
    obtain ⟨a, vs, rfl, hs, _⟩ := r
    exact ⟨_, ty_tup (SqT.le w.fr hs), I.ty _ (by simp)⟩
  | lst _ =>
    cases h
    obtain ⟨a, vs, rfl, hs, _⟩ := r
    exact ⟨_, .base (.lst (w.fr _ _ hs)), I.ty _ (by simp)⟩
  | obj c' _ =>
    simp only [isiO] at h
    split at h
    · rename_i em
      cases h
      obtain ⟨f, e⟩ := I.cl c' (memN_ok em)
      obtain ⟨a, dx, vs, rfl, hs, _⟩ := r
      exact ⟨_, .base (.ins (w.fr _ _ hs) f.cl f.ha f.hn f.tk f.hm), e⟩
    · cases h
  | ref q =>
    obtain rfl : v = .ref q := r
    simp only [isiO] at h
    split at h
    · rename_i e
      cases h
      obtain ⟨vs, h1, _⟩ := lstAt w e
      exact ⟨_, .base (.lst h1), I.ty _ (by simp)⟩
    · rename_i c' ds es
      split at h
      · rename_i em
        cases h
        obtain ⟨f, e⟩ := I.cl c' (memN_ok em)
        obtain ⟨dx, vs, hH, _⟩ := insAt w es
        exact ⟨_, .base (.ins hH f.cl f.ha f.hn f.tk f.hm), e⟩
      · cases h
    · cases h
  | _ => cases h
/-- the name of a class of the text, as a value -/
theorem hcls (c : Nat) (gn : Gn B (cname c)) (hm : B.mg (cname c) = some (.ref (cad B.K c))) (hdb : (cname c == ("__debug__" : Str)) = false := by decide) : HE B (.Name (cname c) pos) (hC (.ref (cad B.K c))) :=
  ⟨fun X W ok tk => PE.imp (pe_glob (v := .ref (cad B.K c)) (ok.gl gn) (by rw [ok.em]; exact hm) rfl hdb) fun σ H Q ⟨G, F, S, env, Q0, E0, rn, wd, h, hq, he⟩ => hq (.ref _) _ F S H Le.rfl' wd rfl h⟩
/-- a built-in class, as a value -/
theorem hty {T : String} (gn : Gn B x) (hm : B.mg x = none) (hv : bootBuiltins x = some (.type T)) (hn : x ≠ "__name__" := by decide) (hdb : (x == ("__debug__" : Str)) = false := by decide) : HE B (.Name x pos) (hC (.ty T)) :=
  ⟨fun X W ok tk => PE.imp (pe_bltn (v := .ty T) (ok.gl gn) (by rw [ok.em]; exact hm) hv rfl hn hdb) fun σ H Q ⟨G, F, S, env, Q0, E0, rn, wd, h, hq, he⟩ => hq (.ty T) _ F S H Le.rfl' wd rfl h⟩
def gIsiO (c : Nat) (cs : List Nat) : GL := fun ds S Q => match ds with
  | [x, _] => match isiO c cs S x with
    | some b => Q (.bl b) S
    | none => False
  | _ => False
/-- isinstance(e, C) -/
theorem hisiO (c : Nat) (cs : List Nat) (I : IsiC B.K c cs) (gi : Gn B "isinstance") (mi : B.mg "isinstance" = none) (gn : Gn B (cname c)) (hm : B.mg (cname c) = some (.ref (cad B.K c))) {p2 : Pos} (h : HE B e te) (hdb : (cname c == ("__debug__" : Str)) = false := by decide)
    (he : ∀ env, starEach [e, .Name (cname c) p2] env = (false, eval e env) :: starEach [.Name (cname c) p2] env := by intro _; rfl) :
    HE B (.Call (.Name "isinstance" p) [e, .Name (cname c) p2] [] pos) (hun (fun x S Q => match isiO c cs S x with
      | some b => Q (.bl b) S
      | none => False) te) :=
  ⟨fun X W ok tk => PE.imp (pe_callB (call_isi (X := X)) (ok.gl gi) (by rw [ok.em]; exact mi) (by decide +kernel) (pa_cons (h.run X W ok tk) (pa_cons (pe_glob (v := .ref (cad B.K c)) (ok.gl gn) (by rw [ok.em]; exact hm) rfl hdb) pa_nil) (he _)) (by decide) (by decide) (he _) rfl)
    fun σ H Q ⟨G, F, S, env, Q0, E0, rn, wd, h, hq, hE⟩ => ⟨G, F, S, env, _, E0, rn, wd, h, fun d v F1 S1 H1 l1 w1 r1 h1 => by
      dsimp only at h1
      split at h1
      · rename_i b eb
        obtain ⟨t, ht, hk⟩ := isiO_ok I w1 r1 eb
        exact ⟨v, .ref (cad B.K c), t, .ref (cad B.K c), b, rfl, .own _, by rw [ok.eK]; exact ht, by rw [ok.eK]; exact hk, hq (.bl b) _ F1 S1 H1 l1 w1 rfl h1⟩
      · exact h1.elim, hE⟩⟩
/-! isinstance against a built-in class -/
def tagN : Nat → String
  | 0 => "NoneType"
  | 1 => "bool"
  | 2 => "int"
  | 3 => "str"
  | 4 => "tuple"
  | 5 => "list"
  | _ => "dict"
def tag (S : Sto) : D → Option Nat
  | .non => some 0
  | .bl _ => some 1
  | .int _ => some 2
  | .str _ => some 3
  | .tup _ => some 4
  | .lst _ => some 5
  | .ref q => match S q with
    | some (.lst _) => some 5
    | some (.dct _) => some 6
    | _ => none
  | _ => none
theorem tag_ok {K : PySem.W.Frag} {G F : Hp} {S : Sto} {H : Hp} {d : D} {v : V} {i : Nat} (w : Wd K G F S H) (r : Rep K F d v) (h : tag S d = some i) : TyX K H v (.type (tagN i)) := by
  cases d with
  | non => cases h; cases r; exact .base .non
  | bl _ => cases h; cases r; exact .base (.bl _)
  | int _ => cases h; cases r; exact .base (.int _)
  | str _ => cases h; cases r; exact .base (.str _)
  | tup _ =>
    cases h
    obtain ⟨a, vs, rfl, hs, _⟩ := r
    exact ty_tup (SqT.le w.fr hs)
  | lst _ =>
    cases h
    obtain ⟨a, vs, rfl, hs, _⟩ := r
    exact .base (.lst (w.fr _ _ hs))
  | ref q =>
    obtain rfl : v = .ref q := r
    simp only [tag] at h
    split at h
    · rename_i e
      cases h
      obtain ⟨vs, h1, _⟩ := lstAt w e
      exact .base (.lst h1)
    · rename_i e
      cases h
      obtain ⟨vs, h1, _⟩ := dctAt w e
      exact .base (.dK h1)
    · cases h
  | _ => cases h
structure IsT (T : String) (ans : Nat → Bool) : Prop where
  ok : ∀ (K : PySem.W.Frag) (i : Nat), PySem.W.kitOne K (.type (tagN i)) (.type T) = some (ans i)
theorem isT_of {T : String} {ans : Nat → Bool} (h0 : kitB "NoneType" T = some (ans 0)) (h1 : kitB "bool" T = some (ans 1)) (h2 : kitB "int" T = some (ans 2)) (h3 : kitB "str" T = some (ans 3)) (h4 : kitB "tuple" T = some (ans 4)) (h5 : kitB "list" T = some (ans 5))
    (h6 : kitB "dict" T = some (ans 6)) (hc : ∀ i, 6 ≤ i → ans i = ans 6) : IsT T ans := ⟨fun K i => match i with
  | 0 => kit_ty h0
  | 1 => kit_ty h1
  | 2 => kit_ty h2
  | 3 => kit_ty h3
  | 4 => kit_ty h4
  | 5 => kit_ty h5
  | i + 6 => by rw [hc (i + 6) (by omega)]; exact kit_ty h6⟩
def isTup : Nat → Bool
  | 4 => true
  | _ => false
def isLis : Nat → Bool
  | 5 => true
  | _ => false
def isTxt : Nat → Bool
  | 3 => true
  | _ => false
theorem isT_tuple : IsT "tuple" isTup := isT_of (by decide +kernel) (by decide +kernel) (by decide +kernel) (by decide +kernel) (by decide +kernel) (by decide +kernel) (by decide +kernel) (fun i h => by
  obtain ⟨j, rfl⟩ : ∃ j, i = j + 6 := ⟨i - 6, by omega⟩
  rfl)
theorem isT_list : IsT "list" isLis := isT_of (by decide +kernel) (by decide +kernel) (by decide +kernel) (by decide +kernel) (by decide +kernel) (by decide +kernel) (by decide +kernel) (fun i h => by
  obtain ⟨j, rfl⟩ : ∃ j, i = j + 6 := ⟨i - 6, by omega⟩
  rfl)
theorem isT_str : IsT "str" isTxt := isT_of (by decide +kernel) (by decide +kernel) (by decide +kernel) (by decide +kernel) (by decide +kernel) (by decide +kernel) (by decide +kernel) (fun i h => by
  obtain ⟨j, rfl⟩ : ∃ j, i = j + 6 := ⟨i - 6, by omega⟩
  rfl)
def gIsiT (ans : Nat → Bool) : G1 := fun x S Q => match tag S x with
  | some i => Q (.bl (ans i)) S
  | none => False
/-- isinstance(e, T), T built in -/
theorem hisiT {T : String} {ans : Nat → Bool} (I : IsT T ans) (gi : Gn B "isinstance") (mi : B.mg "isinstance" = none) {xt : Str} (gn : Gn B xt) (hm : B.mg xt = none) (hv : bootBuiltins xt = some (.type T)) {p2 : Pos} (h : HE B e te) (hn : xt ≠ "__name__" := by decide) (hdb : (xt == ("__debug__" : Str)) = false := by decide)
    (he : ∀ env, starEach [e, .Name xt p2] env = (false, eval e env) :: starEach [.Name xt p2] env := by intro _; rfl) :
    HE B (.Call (.Name "isinstance" p) [e, .Name xt p2] [] pos) (hun (gIsiT ans) te) :=
  ⟨fun X W ok tk => PE.imp (pe_callB (call_isi (X := X)) (ok.gl gi) (by rw [ok.em]; exact mi) (by decide +kernel) (pa_cons (h.run X W ok tk) (pa_cons (pe_bltn (v := .ty T) (ok.gl gn) (by rw [ok.em]; exact hm) hv rfl hn hdb) pa_nil) (he _)) (by decide) (by decide) (he _) rfl)
    fun σ H Q ⟨G, F, S, env, Q0, E0, rn, wd, h, hq, hE⟩ => ⟨G, F, S, env, _, E0, rn, wd, h, fun d v F1 S1 H1 l1 w1 r1 h1 => by
      dsimp only [gIsiT] at h1
      split at h1
      · rename_i i ei
        exact ⟨v, .ty T, _, .type T, ans i, rfl, .ty _, by rw [ok.eK]; exact tag_ok w1 r1 ei, I.ok _ _, hq (.bl _) _ F1 S1 H1 l1 w1 rfl h1⟩
      · exact h1.elim, hE⟩⟩
end
end Hy

set_option Elab.async false
set_option linter.all false
set_option maxRecDepth 100000
set_option maxHeartbeats 4000000
set_option autoImplicit false
namespace Hy
open PySem PySem.Spec PyProof.Rows L2
section
variable {B : Bs} {e a b o i : Expr} {es rest : List Expr} {ta tb te to ti : HTE} {tr : HTA} {x : Str} {p pos apos : Pos}
/-! ### truth -/
def gTru : D → Sto → (Bool → Sto → Prop) → Prop := fun x S Q => match x with
  | .non => Q false S
  | .bl b => Q b S
  | .int i => Q (i != 0) S
  | .str y => y.length ≤ 16777216 ∧ Q ((y.length : Int) != 0) S
  | .ref q => match S q with
    | some (.lst ds) => Q (!ds.isEmpty) S
    | some (.dct kvs) => Q (!kvs.isEmpty) S
    | _ => False
  | .tup ds => Q (!ds.isEmpty) S
  | .lst ds => Q (!ds.isEmpty) S
  | .rls ds => Q (!ds.isEmpty) S
  | _ => False
theorem emp_reps {K : PySem.W.Frag} {F : Hp} {ds : List D} {vs : List V} (r : Reps K F ds vs) : vs.isEmpty = ds.isEmpty := by
  cases ds with
  | nil => cases r; rfl
  | cons d ds => obtain ⟨v, ws, rfl, _⟩ := r; rfl
theorem gTru_ok {K : PySem.W.Frag} {G F : Hp} {S : Sto} {H : Hp} {d : D} {v : V} {Q0 : Bool → Sto → Prop} (w : Wd K G F S H) (r : Rep K F d v) (h : gTru d S Q0) : ∃ k, TruV K v H k ∧ Q0 k S := by
  cases d with
  | non => cases r; exact ⟨_, rfl, h⟩
  | bl b => cases r; exact ⟨_, rfl, h⟩
  | int i => cases r; exact ⟨_, rfl, h⟩
  | str y => cases r; exact ⟨_, ⟨line_le h.1, rfl⟩, h.2⟩
  | ref q =>
    obtain rfl : v = .ref q := r
    unfold gTru at h
    dsimp only at h
    split at h
    · rename_i ds e
      obtain ⟨vs, h1, h2, _⟩ := lstAt w e
      exact ⟨_, .inl ⟨vs, SqL.of h1, rfl⟩, by rw [emp_reps h2]; exact h⟩
    · rename_i kvs e
      obtain ⟨vs, h1, h2⟩ := dctAt w e
      refine ⟨_, .inr (.inr ⟨_, h1, rfl⟩), ?_⟩
      have hl := zip_len h2
      have : ((kvs.map (·.1)).zip vs).isEmpty = kvs.isEmpty := by
        cases kvs with
        | nil => rfl
        | cons kv kvs =>
          cases e3 : ((kv :: kvs).map (·.1)).zip vs with
          | nil => rw [e3] at hl; cases hl
          | cons _ _ => rfl
      rw [this]; exact h
    · exact h.elim
  | tup ds =>
    obtain ⟨a, vs, rfl, hs, rs, _⟩ := r
    exact ⟨_, .inr (.inl ⟨vs, SqT.le w.fr hs, rfl⟩), by rw [emp_reps rs]; exact h⟩
  | lst ds =>
    obtain ⟨a, vs, rfl, hs, rs, _⟩ := r
    exact ⟨_, .inl ⟨vs, SqL.of (w.fr _ _ hs), rfl⟩, by rw [emp_reps rs]; exact h⟩
  | rls ds =>
    obtain ⟨a, vs, rfl, hs, rs, _⟩ := r
    exact ⟨_, .inl ⟨vs, SqL.le w.fr hs, rfl⟩, by rw [emp_reps rs]; exact h⟩
  | _ => exact h.elim
def hTr (t : HTE) : HTT := fun env S Q E => t env S (fun x S1 => gTru x S1 Q) E
theorem htr (h : HE B a ta) (he : ∀ env whole, isTrue a env whole = (do let v ← whole; standAt a.pos; holding [v] (truthy v)) := by intro _ _; rfl) : HT B a (hTr ta) :=
  ⟨fun X W ok tk => PT.imp (pt_truth (h.run X W ok tk) (he _)) fun σ H Q ⟨G, F, S, env, Q0, E0, rn, wd, h, hq, hE⟩ =>
    ⟨G, F, S, env, _, E0, rn, wd, h, fun d v F1 S1 H1 l1 w1 r1 h1 => by
      obtain ⟨k, t, q⟩ := gTru_ok w1 r1 h1
      exact ⟨k, by rw [ok.eK]; exact t, hq k F1 S1 H1 l1 w1 q⟩, hE⟩⟩
def hOrT (ta tb : HTE) : HTE := fun env S Q E => ta env S (fun x S1 => gTru x S1 fun b S2 => match b with
  | true => Q x S2
  | false => tb env S2 Q E) E
theorem gTru_S {d : D} {S : Sto} {Q : Bool → Sto → Prop} (h : gTru d S Q) : gTru d S fun b S2 => S2 = S ∧ Q b S := by
  cases d with
  | ref q =>
    unfold gTru at h ⊢
    dsimp only at h ⊢
    split at h
    · exact ⟨rfl, h⟩
    · exact ⟨rfl, h⟩
    · exact h.elim
  | str y => exact ⟨h.1, rfl, h.2⟩
  | obj _ _ => exact h.elim
  | exc _ _ => exact h.elim
  | ty _ => exact h.elim
  | tpx _ => exact h.elim
  | _ => exact ⟨rfl, h⟩
theorem horT (ha : HE B a ta) (hb : HE B (.BoolOp .Or (b :: rest) pos) tb) : HE B (.BoolOp .Or (a :: b :: rest) pos) (hOrT ta tb) :=
  ⟨fun X W ok tk => PE.imp (pe_orT (ha.run X W ok tk) (hb.run X W ok tk)) fun σ H Q ⟨G, F, S, env, Q0, E0, rn, wd, h, hq, hE⟩ =>
    ⟨G, F, S, env, _, E0, rn, wd, h, fun d v F1 S1 H1 l1 w1 r1 h1 => by
      obtain ⟨k, t, q⟩ := gTru_ok w1 r1 (gTru_S h1)
      refine ⟨k, by rw [ok.eK]; exact t, ?_⟩
      obtain ⟨_, q⟩ := q
      cases k with
      | true => rw [if_pos rfl]; exact hq d v F1 S1 H1 l1 w1 r1 q
      | false => rw [if_neg Bool.false_ne_true]; exact ⟨G, F1, S1, env, Q0, E0, rn.le l1, w1, q, hq.le l1, hE.le l1⟩, hE⟩⟩
def hAndT (ta tb : HTE) : HTE := fun env S Q E => ta env S (fun x S1 => gTru x S1 fun b S2 => match b with
  | true => tb env S2 Q E
  | false => Q x S2) E
theorem handT (ha : HE B a ta) (hb : HE B (.BoolOp .And (b :: rest) pos) tb) : HE B (.BoolOp .And (a :: b :: rest) pos) (hAndT ta tb) :=
  ⟨fun X W ok tk => PE.imp (pe_andT (ha.run X W ok tk) (hb.run X W ok tk)) fun σ H Q ⟨G, F, S, env, Q0, E0, rn, wd, h, hq, hE⟩ =>
    ⟨G, F, S, env, _, E0, rn, wd, h, fun d v F1 S1 H1 l1 w1 r1 h1 => by
      obtain ⟨k, t, q⟩ := gTru_ok w1 r1 (gTru_S h1)
      refine ⟨k, by rw [ok.eK]; exact t, ?_⟩
      obtain ⟨_, q⟩ := q
      cases k with
      | false => rw [if_neg Bool.false_ne_true]; exact hq d v F1 S1 H1 l1 w1 r1 q
      | true => rw [if_pos rfl]; exact ⟨G, F1, S1, env, Q0, E0, rn.le l1, w1, q, hq.le l1, hE.le l1⟩, hE⟩⟩
def hNotT (ta : HTE) : HTE := fun env S Q E => ta env S (fun x S1 => gTru x S1 fun b S2 => Q (.bl (!b)) S2) E
theorem hnotT (ha : HE B a ta) : HE B (.UnaryOp .Not a pos) (hNotT ta) :=
  ⟨fun X W ok tk => PE.imp (pe_notT (ha.run X W ok tk)) fun σ H Q ⟨G, F, S, env, Q0, E0, rn, wd, h, hq, hE⟩ =>
    ⟨G, F, S, env, _, E0, rn, wd, h, fun d v F1 S1 H1 l1 w1 r1 h1 => by
      obtain ⟨k, t, q⟩ := gTru_ok w1 r1 h1
      exact ⟨k, by rw [ok.eK]; exact t, hq (.bl (!k)) _ F1 S1 H1 l1 w1 rfl q⟩, hE⟩⟩
/-! ### o[i] = e of a list -/
def gSetI (x y z : D) (S : Sto) (Q : Sto → Prop) : Prop := match x, y with
  | .ref q, .int k => match S q with
    | some (.lst ds) => match ixN ds.length k with
      | some j => Q (up S q (.lst (ds.set j z)))
      | none => False
    | _ => False
  | _, _ => False
theorem gSetI_ok {K : PySem.W.Frag} {G F : Hp} {S : Sto} {H : Hp} {x y z : D} {v u t : V} {Q0 : Sto → Prop} (w : Wd K G F S H) (rx : Rep K F x v) (ry : Rep K F y u) (rz : Rep K F z t) (h : gSetI x y z S Q0) {Q : Hp → Prop} (hq : ∀ S' H', Wd K G F S' H' → Q0 S' → Q H') : rSetL v u t H Q := by
  unfold gSetI at h
  split at h
  · rename_i q k
    obtain rfl : v = .ref q := rx
    obtain rfl : u = .int k := ry
    split at h
    · rename_i ds e
      split at h
      · rename_i j ej
        obtain ⟨vs, h1, h2, h3⟩ := lstAt w e
        exact ⟨q, vs, k, j, rfl, rfl, h1, by rw [h2.len]; exact ej, hq _ _ (w.put (m := .lst (ds.set j z)) e ⟨_, rfl, h2.set j rz, by rw [List.length_set]; exact h3⟩) h⟩
      · exact h.elim
    · exact h.elim
  · exact h.elim
def hSetI (to ti te : HTE) : HTS := fun D env S => te env S (fun z S1 => to env S1 (fun x S2 => ti env S2 (fun y S3 => gSetI x y z S3 fun S4 => D.nx env S4) fun x S3 => D.ex x env S3) fun x S2 => D.ex x env S2) fun x S1 => D.ex x env S1
theorem hseti {pos' : Pos} (ho : HE B o to) (hi : HE B i ti) (h : HE B e te) (hs : ∀ env, swapsWithSole [.Subscript o i pos'] e pos.line env = pure false := by intro _; rfl) (hw : ∀ env, swappedStores [.Subscript o i pos'] e env = pure none := by intro _; rfl)
    (h1 : ∀ env, (assignEach [.Subscript o i pos'] env).map (·.2) = [assign (.Subscript o i pos') env] := by intro _; rfl)
    (ha : ∀ env v, assign (.Subscript o i pos') env v = (do
      let ov ← holding [v] (eval o env)
      let iv ← holding [v, ov] (eval i env)
      standAt pos'
      holding [v, ov, iv] (setItem ov iv v)
      release [v, ov, iv] []) := by intro _ _; rfl) : HS B (.Assign [.Subscript o i pos'] e pos) (hSetI to ti te) :=
  ⟨fun X W ok tk => PS.imp (ps_asg (h.run X W ok tk) (pg_sub (ho.run X W ok tk) (hi.run X W ok tk) set_list (ha _)) (hs _) (hw _) (h1 _)) fun D σ H ⟨G, F, S, env, E, rn, wd, h, oo⟩ =>
    ⟨G, F, S, env, _, _, rn, wd, h, fun z t F1 S1 H1 l1 w1 r1 h1 =>
      ⟨G, F1, S1, env, _, _, rn.le l1, w1, h1, fun x v F2 S2 H2 l2 w2 r2 h2 =>
        ⟨G, F2, S2, env, _, _, rn.le (l1.trans l2), w2, h2, fun y u F3 S3 H3 l3 w3 r3 h3 =>
          gSetI_ok w3 (r2.le l3) r3 (r1.le (l2.trans l3)) h3 fun S' H' w' q => oo.nx env σ F3 S' H' (l1.trans (l2.trans l3)) w' (rn.le (l1.trans (l2.trans l3))) q, (oo.le (l1.trans l2)).exc (rn.le (l1.trans l2))⟩, (oo.le l1).exc (rn.le l1)⟩, oo.exc rn⟩⟩
/-! ### constants of the module -/
theorem hgi {n : Int} (gn : Gn B x) (hm : ∃ t, B.mg x = some (.int n t)) (hdb : (x == ("__debug__" : Str)) = false := by decide) : HE B (.Name x pos) (hC (.int n)) :=
  ⟨fun X W ok tk => by
    obtain ⟨t, hm⟩ := hm
    exact PE.imp (pe_glob (v := .int n) (ok.gl gn) (by rw [ok.em]; exact hm) ⟨t, rfl⟩ hdb) fun σ H Q ⟨G, F, S, env, Q0, E0, rn, wd, h, hq, he⟩ => hq (.int n) _ F S H Le.rfl' wd rfl h⟩
theorem hgs {z : Str} (gn : Gn B x) (hm : ∃ t, B.mg x = some (.str z t)) (hdb : (x == ("__debug__" : Str)) = false := by decide) : HE B (.Name x pos) (hC (.str z)) :=
  ⟨fun X W ok tk => by
    obtain ⟨t, hm⟩ := hm
    exact PE.imp (pe_glob (v := .str z) (ok.gl gn) (by rw [ok.em]; exact hm) ⟨t, rfl⟩ hdb) fun σ H Q ⟨G, F, S, env, Q0, E0, rn, wd, h, hq, he⟩ => hq (.str z) _ F S H Le.rfl' wd rfl h⟩
/-- a table of the module, a tuple -/
theorem hgtup {ds : List D} (gn : Gn B x) (hm : B.mg x = some (.ref (He.ga B.K x))) (hr : ∀ F, Rep B.K F (.tup ds) (.ref (He.ga B.K x))) (hdb : (x == ("__debug__" : Str)) = false := by decide) : HE B (.Name x pos) (hC (.tup ds)) :=
  ⟨fun X W ok tk => by
    exact PE.imp (pe_glob (v := .ref (He.ga B.K x)) (ok.gl gn) (by rw [ok.em]; exact hm) rfl hdb) fun σ H Q ⟨G, F, S, env, Q0, E0, rn, wd, h, hq, he⟩ => hq (.tup ds) _ F S H Le.rfl' wd (hr F) h⟩
end
end Hy

set_option Elab.async false
set_option linter.all false
set_option maxRecDepth 100000
set_option maxHeartbeats 4000000
set_option autoImplicit false
namespace Hy
open PySem PySem.Spec PyProof.Rows L2
/-! ### comprehensions whose list is changed later -/
theorem Wd.endS {K : PySem.W.Frag} {G F : Hp} {S : Sto} {H : Hp} {p : Addr} {o : HO} {m : M} (W : Wd K (upd G p o) F S H) (hG : G p = none) (r : RepM K F m o) : Wd K G F (up S p m) H ∧ S p = none := by
  obtain ⟨hH, hF, hS⟩ := W.gr p o upd_same
  refine ⟨⟨fun a u e => ?_, W.fr, fun a n e => ?_, fun a n e => ?_⟩, hS⟩
  · have ha := ne_of_none e hG
    obtain ⟨h1, h2, h3⟩ := W.gr a u (by rw [upd_ne ha]; exact e)
    exact ⟨h1, h2, by rw [up_ne ha]; exact h3⟩
  · by_cases ha : a = p
    · subst ha; rw [up_same] at e; cases e; exact ⟨o, hH, r⟩
    · rw [up_ne ha] at e; exact W.st a n e
  · by_cases ha : a = p
    · subst ha; exact hF
    · rw [up_ne ha] at e; exact W.dj a n e
/-- a frozen list that nobody else names: it may change again -/
def hThaw (t : HTE) : HTE := fun env S Q E => t env S (fun x S1 => match x with
  | .lst acc => ∀ p, S1 p = none → Q (.ref p) (up S1 p (.lst acc))
  | _ => False) E
section
variable {B : Bs} {e elt tg iter c : Expr} {ifs : List Expr} {te : HTE} {tc : HTT} {ti : HTI} {p : Pt} {pos : Pos} {scope : Scope}
def cloopM (p : Pt) (tt : HTT) (te : HTE) (k : Ck) : List D → List D → HEnv → Sto → HK → Prop
  | [], acc, env, S, Q => chk k S (∀ q, S q = none → Q (.ref q) (up S q (.lst acc)))
  | d :: ds, acc, env, S, Q => chk k S (match bindD p d env with
    | some env1 => tt env1 S (fun b S1 => match b with
      | true => te env1 S1 (fun y S2 => cloopM p tt te k ds (acc ++ [y]) env S2 Q) fun _ _ => False
      | false => cloopM p tt te k ds acc env S1 Q) fun _ _ => False
    | none => False)
theorem cloopM_chk {p : Pt} {tt : HTT} {te : HTE} {k : Ck} {ds acc : List D} {env : HEnv} {S : Sto} {Q : HK} (h : cloopM p tt te k ds acc env S Q) : chk k S True := by
  cases ds with
  | nil => exact chk_t h
  | cons d ds => exact chk_t h
def hLcM (ti : HTI) (p : Pt) (tt : HTT) (te : HTE) (vs : List Nat) : HTE := fun env S Q E => ti env S (fun ds k S1 => cloopM p tt te k ds [] (wipeN env vs) S1 Q) E
theorem lcM_lift {K : PySem.W.Frag} {W : WX} {vs : List Nat} (hv : ∀ j ∈ slots p, j ∈ vs) (σ : St) (H : Hp) (Q : VK) (h : lE K W (hLcM ti p tc te vs) σ H Q) :
    tLc (lI K W ti) (gV K p) (lT K (fun _ _ _ _ => False) tc) (lE K (fun _ _ _ _ => False) te) vs σ H Q := by
  obtain ⟨G, F, S, env, Q0, E0, rn, wd, h, hq, he⟩ := h
  refine ⟨G, F, S, env, _, E0, rn, wd, h, fun ds k F1 S1 H1 J l1 w1 it h1 => ?_, he⟩
  intro Dd hD
  have hGD : G Dd = none := by
    cases q : G Dd with
    | none => rfl
    | some o => rw [(w1.gr Dd o q).1] at hD; cases hD
  have leG : ∀ o, Le G (upd G Dd o) := fun o => Le.upd hGD
  refine lc_it it.w (fun i H' => ∃ F2 S2 acc us, Le F1 F2 ∧ Wd K (upd G Dd (.lst us)) F2 S2 H' ∧ Reps K F2 acc us ∧ acc.length ≤ i ∧ cloopM p tc te k (ds.drop i) acc (wipeN env vs) S2 Q0)
    ⟨F1, S1, [], [], Le.rfl', w1.newG _ hD, rfl, Nat.le_refl _, by simpa using h1⟩ (fun i H' _ ⟨F2, S2, acc, us, l2, w2, _, _, q2⟩ => ⟨F2, S2, l2, w2.lessG (leG _), cloopM_chk q2⟩)
    (fun i x H' H'' hi ⟨F2, S2, acc, us, l2, w2, ra, hz, q2⟩ y => ?_) (fun H' ⟨F2, S2, acc, us, l2, w2, ra, hz, q2⟩ => ?_)
  · obtain ⟨d, F3, e1, l3, w3, r3⟩ := y _ F2 S2 (leG _) l2 w2 (cloopM_chk q2)
    have e2 : ds.drop i = d :: ds.drop (i + 1) := by
      rw [List.drop_eq_getElem_cons hi]
      rw [List.getElem?_eq_getElem hi] at e1
      cases e1; rfl
    rw [e2] at q2
    have q3 := chk_a (show chk k S2 (match bindD p d (wipeN env vs) with
      | some env1 => tc env1 S2 (fun b S1 => match b with
        | true => te env1 S1 (fun y S2 => cloopM p tc te k (ds.drop (i + 1)) (acc ++ [y]) (wipeN env vs) S2 Q0) fun _ _ => False
        | false => cloopM p tc te k (ds.drop (i + 1)) acc (wipeN env vs) S1 Q0) fun _ _ => False
      | none => False) from q2)
    split at q3
    · rename_i env3 eb
      refine bind_ok w3.fr p r3 (wipe_rep (rn.le (l1.trans (l2.trans l3))) vs) eb fun σ1 rn3 sb => ⟨wipe_same sb hv, ?_⟩
      refine ⟨_, F3, S2, env3, _, _, rn3, w3, q3, fun b F4 S4 H4 l4 w4 q4 => ?_, no_ex⟩
      cases b with
      | false =>
        rw [if_neg Bool.false_ne_true]
        exact ⟨F4, S4, acc, us, l2.trans (l3.trans l4), w4, (ra.le l3).le l4, by omega, q4⟩
      | true =>
        rw [if_pos rfl]
        refine ⟨_, F4, S4, env3, _, _, rn3.le l4, w4, q4, fun y v F5 S5 H5 l5 w5 r5 q5 => ?_, no_ex⟩
        obtain ⟨g1, _, _⟩ := w5.gr Dd _ upd_same
        have hi2 : i < sizeLine := Nat.lt_of_lt_of_le hi it.z
        refine ⟨us, g1, by rw [ra.len]; omega, F5, S5, acc ++ [y], us ++ [v], l2.trans (l3.trans (l4.trans l5)), w5.putG _, ((ra.le l3).le (l4.trans l5)).append (Reps.one r5), by rw [List.length_append]; simp; omega, q5⟩
    · exact q3.elim
  · rw [List.drop_length] at q2
    obtain ⟨w3, hs⟩ := w2.endS (m := .lst acc) hGD ⟨us, rfl, ra, Nat.le_trans hz it.z⟩
    exact hq (.ref Dd) _ _ _ H' (l1.trans l2) w3 rfl (chk_a q2 Dd hs)
theorem hlcM (own : List (Str × Nat)) (hi : HI B tg iter ti) (ok : blkC B.N B.sc scope own = true) (hv : ∀ j ∈ slots p, j ∈ own.map (·.2)) (hg : HP (B.blk scope) tg p) (ht : HTs (B.blk scope) ifs tc) (he : HE (B.blk scope) elt te)
    (hs : ∀ env x, foldedSetIterable iter env x = pure x := by intro _ _; rfl) : HE B (.ListComp elt [⟨tg, iter, ifs, 0⟩] scope pos) (hLcM ti p tc te (own.map (·.2))) :=
  ⟨fun X W okc tk => PE.imp (pe_lc (own := own) okc.calm okc.nd (hi.run X W okc tk) (by rw [okc.eN, okc.es]; exact blkOk_by ok) (fun s H C cl fp => hg.run _ (okc.blk s H scope C cl fp)) (fun s H C cl fp => ht.run _ _ (okc.blk s H scope C cl fp) takes0)
    (fun s H C cl fp => he.run _ _ (okc.blk s H scope C cl fp) takes0) (hs _)) fun σ H Q h => lcM_lift hv σ H Q h⟩
theorem hsetlcM (i : Nat) {y : Str} {py spos : Pos} (own : List (Str × Nat)) (hi : HI B tg iter ti) (ok : blkC B.N B.sc scope own = true) (hv : ∀ j ∈ slots p, j ∈ own.map (·.2)) (hg : HP (B.blk scope) tg p) (ht : HTs (B.blk scope) ifs tc) (he : HE (B.blk scope) elt te)
    (hN : B.N[i]? = some y := by rfl) (hyl : B.sc.names.lookup y = some .local := by rfl) (hk : B.sc.kind = .function := by rfl) (hl : (py.line == pos.line) = true := by rfl) (ha : (scope.names.any fun (n, k) => n == y && (k == .local || k == .cell)) = false := by decide +kernel)
    (hs : ∀ env x, foldedSetIterable iter env x = pure x := by intro _ _; rfl) : HS B (.Assign [.Name y py] (.ListComp elt [⟨tg, iter, ifs, 0⟩] scope pos) spos) (hSet i (hLcM ti p tc te (own.map (·.2)))) :=
  ⟨fun X W okc tk => PS.imp (ps_setLc (own := own) (i := i) okc.calm okc.nd (by rw [okc.eN]; exact hN) (by rw [okc.es]; exact hyl) (sw_true (by rw [okc.es]; exact hk) (by rw [okc.es]; exact hyl) hl ha) (hi.run X W okc tk) (by rw [okc.eN, okc.es]; exact blkOk_by ok) (fun s H C cl fp => hg.run _ (okc.blk s H scope C cl fp)) (fun s H C cl fp => ht.run _ _ (okc.blk s H scope C cl fp) takes0)
    (fun s H C cl fp => he.run _ _ (okc.blk s H scope C cl fp) takes0) (hs _)) fun D σ H ⟨G, F, S, env, E, rn, wd, h, o⟩ =>
    lcM_lift (W := W) hv σ H _ ⟨G, F, S, env, _, _, rn, wd, h, fun d v F1 S1 H1 l w r q => o.nx _ _ F1 S1 H1 l w ((rn.le l).set r i) q, o.exc rn⟩⟩
end
/-! ### t[::-1] of a tuple -/
section
variable {prog : Program} {w : World} {A : Around} {E : Value → Shared → Prop} {s : Shared}
theorem places_back (n : Nat) : Builtin.Slice.slicePlaces ((n : Int) - 1) (-1) (-1) = n := by
  unfold Builtin.Slice.slicePlaces
  have h1 : ¬ ((-1 : Int) > 0) := by omega
  simp only [h1, if_false]
  by_cases h : (n : Int) - 1 > -1
  · simp only [h, if_true, show (-(-1 : Int)) = 1 by decide, Int.ediv_one]; omega
  · simp only [h, if_false]; omega
theorem fm_congr {α β : Type} {f g : α → Option β} : ∀ {l : List α}, (∀ x ∈ l, f x = g x) → l.filterMap f = l.filterMap g
  | [], _ => rfl
  | a :: l, h => by
    rw [List.filterMap_cons, List.filterMap_cons, h a List.mem_cons_self, fm_congr fun x hx => h x (List.mem_cons_of_mem _ hx)]
theorem back_pick (xs : Array Value) : ((List.range xs.size).filterMap fun (m : Nat) => xs[(((xs.size : Int) - 1) + (m : Int) * (-1)).toNat]?).toArray = xs.toList.reverse.toArray := by
  have e : (List.range xs.size).filterMap (fun (m : Nat) => xs[(((xs.size : Int) - 1) + (m : Int) * (-1)).toNat]?) = ((List.range xs.size).map fun k => xs.size - 1 - k).filterMap (xs[·]?) := by
    rw [List.filterMap_map]
    refine fm_congr fun m hm => ?_
    have := List.mem_range.mp hm
    show xs[(((xs.size : Int) - 1) + (m : Int) * (-1)).toNat]? = xs[xs.size - 1 - m]?
    rw [show (((xs.size : Int) - 1) + (m : Int) * (-1)).toNat = xs.size - 1 - m by omega]
  rw [e, PySem.W.krv_range, List.filterMap_reverse, PySem.W.krv_all]
theorem tuple_back {t sl : Addr} {items : Array Value} {vk : Value} {Q : Value → Shared → Prop} (ht : IsTup s.heap t items) (hs : s.heap.IsSliceOf sl .none .none vk) (pk : IsPart vk (some (-1))) (hsz : items.size ≤ sizeLine)
    (h : Q (.ref s.heap.objs.size) { s with heap := s.heap.push { cls := .type "tuple", data := .seq items.toList.reverse.toArray } }) : wpAny (model prog w) A (getItem (.ref t) (.ref sl)) Q E s := by
  have fits : sizeOk (.seq items.toList.reverse.toArray) := by
    show items.toList.reverse.toArray.size ≤ sizeLine
    rw [List.size_toArray, List.length_reverse, Array.length_toList]
    exact hsz
  obtain ⟨os, g1, g2, g3⟩ := id hs
  have tS : s.TypeIs (.ref sl) "slice" := ⟨os, g1, g2⟩
  unfold getItem
  try with_reducible refine wpAny_holding ?_
  first | refine wpAny_bind (wpAny_pure ?_) | skip
  refine wpAny_bind (wpAny_sequenceKey ht.typeIs (by decide) ?_)
  refine wpAny_bind (wpAny_callSpecial?_slot (name := Str.ofString "__getitem__") ht.typeIs PyProof.Rows.slot_tuple_getitem
    (wpAny_call_entry PyProof.Rows.slot_tuple_getitem ht.typeIs entry_tuple_getitem ?_ (args_tuple_getitem _ _)))
  show wpAny _ _ (Builtin.Tuple.tupleItemsOf (.ref t) >>= _) _ _ s
  refine wpAny_bind (tupleItemsOf_ ht ?_)
  refine wpAny_bind (wpAny_typeOf tS ?_)
  rw [if_pos (by decide)]
  have hap : ∀ {A' : Around} {Q' : Int × Int × Nat → Shared → Prop}, Q' ((items.size : Int) - 1, -1, items.size) s → wpAny (model prog w) A' (Builtin.Slice.sliceApplied (.ref sl) (pure (items.size : Int))) Q' E s := fun {A'} {Q'} hQ => by
    unfold Builtin.Slice.sliceApplied Builtin.Slice.sliceFields
    refine wpAny_bind (wpAny_bind (wpAny_field g1 g3 (x := .none) rfl (wpAny_bind (wpAny_field g1 g3 (x := .none) rfl (wpAny_bind (wpAny_field g1 g3 (x := vk) rfl (wpAny_pure ?_)))))))
    refine wpAny_bind (HT.slicePart_ pk ?_)
    show wpAny _ _ (if ((-1 : Int) == 0) = true then _ else _) _ _ s
    rw [if_neg (by decide)]
    refine wpAny_bind (HT.slicePart_ .none (wpAny_bind (HT.slicePart_ .none (wpAny_bind (wpAny_pure ?_)))))
    show wpAny _ _ (pure ((items.size : Int) - 1, (-1 : Int), Builtin.Slice.slicePlaces ((items.size : Int) - 1) (-1) (-1))) _ _ s
    rw [places_back]
    exact wpAny_pure hQ
  refine wpAny_bind (hap ?_)
  have no : ¬ (((items.size : Int) - 1 == 0 && (-1 : Int) == 1 && items.size == items.size) = true) := by
    intro q
    rw [Bool.and_eq_true, Bool.and_eq_true] at q
    exact absurd q.1.2 (by decide)
  show wpAny _ _ (if ((items.size : Int) - 1 == 0 && (-1 : Int) == 1 && items.size == items.size) = true then _ else _) _ _ s
  rw [if_neg no, back_pick]
  first
    | exact wpAny_bind (m := Builtin.Tuple.tupleExact _) (wpAny_newObj_type (wpAny_pure ⟨_, rfl, wpAny_pure h⟩) fits)
    | exact wpAny_bind (m := Builtin.Tuple.tupleExact _) (wpAny_newObj_type (wpAny_bind (wpAny_pure (wpAny_pure ⟨_, rfl, wpAny_pure h⟩))) fits)
    | exact wpAny_bind (wpAny_bind (m := Builtin.Tuple.tupleExact _) (wpAny_newObj_type (wpAny_pure (wpAny_pure ⟨_, rfl, wpAny_pure h⟩)) fits))
    | exact wpAny_bind (wpAny_bind (m := Builtin.Tuple.tupleExact _) (wpAny_newObj_type (wpAny_pure ⟨_, rfl, wpAny_pure h⟩) fits))
end
section
variable {X : Cx} {B : Bs} {a : Expr} {ta : HTE} {pos : Pos}
theorem pe_revT {e : Expr} {te : TE} {k : Nat} {p1 p2 p3 pos : Pos} (he : PE X e te) : PE X (.Subscript e (.Slice none none (some (.UnaryOp .USub (.Constant (.int 1) k p1) p2)) p3) pos)
    (fun σ H Q => te σ H fun x H1 => ∃ a xs, x = .ref a ∧ SqT X.K H1 a xs ∧ ∀ p, H1 p = none → Q (.ref p) (upd H1 p (.tup xs.reverse))) := by
  refine ⟨fun pins s σ H Q I h => Subscript_ (thn (he.run pins s σ H _ I h) fun v s1 ⟨x, H1, I1, r1, a, xs, ex, hx, q⟩ => ?_)⟩
  subst ex
  cases (show v = Value.ref a from r1)
  have stp : PO X (some (.UnaryOp .USub (.Constant (.int 1) k p1) p2)) (tPart (tUn (rU fun i => .int (-i)) (tC (.int 1)))) := po_some (pe_un un_neg pe_int)
  refine wpAny_Slice (thn (po_none.run pins s1 σ H1 (fun o H2 => o = none ∧ H2 = H1) I1 ⟨rfl, rfl⟩) fun vl s2 ⟨l, H2, I2, pl, el, e2⟩ => ?_)
  subst el e2
  refine thn (po_none.run pins s2 σ H2 (fun o H3 => o = none ∧ H3 = H2) I2 ⟨rfl, rfl⟩) fun vu s3 ⟨u, H3, I3, pu, eu, e3⟩ => ?_
  subst eu e3
  refine thn (stp.run pins s3 σ H3 (fun o H4 => o = some (-1) ∧ H4 = H3) I3 ⟨1, rfl, -1, rfl, rfl, rfl⟩) fun vs s4 ⟨o, H4, I4, ps, eo, e4⟩ => ?_
  subst eo e4
  cases pl
  cases pu
  have J : L2.Inv X pins σ H4 { s4 with heap := s4.heap.push { cls := .type "slice", data := .fields #[.none, .none, vs] } } := I4.kept (t' := s4.toks) fun b ob q => Heap.get?_push_of_some _ q
  obtain ⟨its, r, ht, hz⟩ := J.tuple hx
  show wpAny (model X.prog X.w) X.A (subscriptTail e (.Slice none none (some (.UnaryOp .USub (.Constant (.int 1) k p1) p2)) p3) (.ref a) (.ref s4.heap.objs.size)) (EP X pins σ Q) X.xe { s4 with heap := s4.heap.push { cls := .type "slice", data := .fields #[.none, .none, vs] } }
  refine tail_any (ops := [.ref a, .ref s4.heap.objs.size]) ht.typeIs PyProof.Rows.slot_tuple_getitem.lookup ?_ (by with_unfolding_all rfl)
  refine tuple_back ht (Heap.IsSliceOf.new _ .none .none vs) ps (by rw [List.size_toArray, ← r.length]; exact hz) ?_
  exact ⟨.ref _, _, J.laid (t' := s4.toks) (o := .tup xs.reverse) (fun b ob q => Heap.get?_push_of_some _ q) (Nat.le_refl _) ⟨by rw [List.length_reverse]; exact hz, _, r.reverse, IsTup.new _ _⟩, rfl, q _ (J.hok.fresh (Nat.le_refl _))⟩
def gRevT : G1 := fun x S Q => match x with
  | .tup ds => Q (.tup ds.reverse) S
  | _ => False
theorem hrevT {k : Nat} {p1 p2 p3 : Pos} (he : HE B a ta) : HE B (.Subscript a (.Slice none none (some (.UnaryOp .USub (.Constant (.int 1) k p1) p2)) p3) pos) (hun gRevT ta) :=
  ⟨fun X W ok tk => PE.imp (pe_revT (he.run X W ok tk)) fun σ H Q h => by
    refine lun (r := fun x H1 Q => ∃ a xs, x = .ref a ∧ SqT X.K H1 a xs ∧ ∀ p, H1 p = none → Q (.ref p) (upd H1 p (.tup xs.reverse))) ?_ ta σ H Q h
    intro G F S H d v Q0 Q w r h hq
    cases d <;> first | exact h.elim | skip
    obtain ⟨p, vs, rfl, hs, rs, z⟩ := r
    exact ⟨p, vs, rfl, by rw [ok.eK]; exact SqT.le w.fr hs, (newTup w rs.reverse (by rw [List.length_reverse]; exact z) hq h).2⟩⟩
end
end Hy

set_option Elab.async false
set_option linter.all false
set_option maxRecDepth 100000
set_option maxHeartbeats 4000000
set_option autoImplicit false
namespace Hy
open PySem PySem.Spec PyProof.Rows L2
/-! ### promises, seen from within a def -/
section
variable {B : Bs} {k k' n c : Nat} {N : List Str} {sc : Scope} {top : Bool} {own : Str → Bool} {x m : Str} {dds : List D} {sp : HSp}
theorem HFn.in_ (h : HFn B k x n dds sp) : HFn ⟨B.P, B.w, B.K, B.mg, B.base, k', N, sc, top, own⟩ k x n dds sp := ⟨h.mg, h.kp, ⟨h.at_.ex⟩⟩
theorem HFn.mono {j : Nat} (h : HFn B j x n dds sp) (l : j ≤ k) : HFn B k x n dds sp := ⟨h.mg, h.kp, h.at_.mono l⟩
theorem HMeth.in_ (h : HMeth B k c m n dds sp) : HMeth ⟨B.P, B.w, B.K, B.mg, B.base, k', N, sc, top, own⟩ k c m n dds sp := ⟨h.cl, let ⟨f, a, b⟩ := h.me; ⟨f, a, ⟨b.ex⟩⟩, h.no⟩
theorem HMeth.mono {j : Nat} (h : HMeth B j c m n dds sp) (l : j ≤ k) : HMeth B k c m n dds sp := ⟨h.cl, let ⟨f, a, b⟩ := h.me; ⟨f, a, b.mono l⟩, h.no⟩
theorem HMake.in_ (h : HMake B k c n dds sp) : HMake ⟨B.P, B.w, B.K, B.mg, B.base, k', N, sc, top, own⟩ k c n dds sp := ⟨h.mg, let ⟨f, a, b⟩ := h.mkr; ⟨f, a, ⟨b.ex⟩⟩⟩
theorem HMake.mono {j : Nat} (h : HMake B j c n dds sp) (l : j ≤ k) : HMake B k c n dds sp := ⟨h.mg, let ⟨f, a, b⟩ := h.mkr; ⟨f, a, b.mono l⟩⟩
theorem HEqOwn.in_ (h : HEqOwn B k c sp) : HEqOwn ⟨B.P, B.w, B.K, B.mg, B.base, k', N, sc, top, own⟩ k c sp := ⟨let ⟨f, a, b, d⟩ := h.ex; ⟨f, a, b, ⟨d.ex⟩⟩, h.cl⟩
theorem HEqOwn.mono {j : Nat} (h : HEqOwn B j c sp) (l : j ≤ k) : HEqOwn B k c sp := ⟨let ⟨f, a, b, d⟩ := h.ex; ⟨f, a, b, d.mono l⟩, h.cl⟩
end
/-- THE RULE for a def, its own defaults apart from those that a call leaves out -/
theorem fnAtD {B : Bs} {x qual : Str} {params : Arguments} {body : List Stmt} {scope : Scope} {dv0 dvs : List V} {f : Addr} {fd : FuncData} {N ps : List Str} {k : Nat} {sp : HSp} {t : HTS} {dds : List D}
    (F : FunD B.K x qual params body scope dv0 [] f fd) (hb : ∃ ds, Vals dvs ds ∧ Binds B.K fd ps ds) (hd : ∀ F, Reps B.K F dds dvs) (S : FnScope N ps scope) (hbody : HSs { B with k := k, N := N, sc := scope, top := true, own := fun _ => true } body t)
    (hr : ∀ ds S Q E, ds.length = ps.length → sp ds S Q E → t { nx := fun _ S' => Rt Q .non S', rt := Rt Q, ex := fun x _ S' => Rx E x S' } (startE N.length ds) S) : FnAt B (k + 1) f ps.length dds sp := by
  obtain ⟨ds, hv, hb⟩ := hb
  refine ⟨fd, ps, ds, dvs, rfl, hb, hv, hd, F.ok S (fun vs H Q E h => h.1) fun cdv A outer s H vs Q E hroom h => ?_⟩
  obtain ⟨hn, G, F0, S0, es, Q0, E0, rs, wd, hsp, hq, he⟩ := h
  refine ⟨_, hbody.run _ (fun cls d _ H => E cls d H) ⟨rfl, rfl, rfl, rfl, rfl, rfl, rfl, S.nd, rfl, hroom, fun _ _ _ => rfl, passes_of rfl, fun _ => ⟨rfl, rfl, rfl⟩⟩ (takes_of rfl rfl rfl rfl), ?_⟩
  refine ⟨G, F0, S0, startE N.length es, _, start_rep rs, wd, hr es S0 Q0 E0 (by rw [← rs.len]; exact hn) hsp, ⟨fun env σ F' S' H' l w rn ⟨d', S2, vw, q⟩ => ?_, Rt.ok hq, fun _ _ _ _ _ _ _ _ h => h.elim, fun _ _ _ _ _ _ _ _ h => h.elim, fun x cls dd env σ F' S' H' l w rn r h => Rx.ok he x cls dd F' S' H' l w r h⟩⟩
  obtain ⟨F2, l2, w2, r2⟩ := vw B.K G F' H' .non w rfl
  exact hq d' .non F2 S2 H' (l.trans l2) w2 r2 q
/-- all parameters are handed in -/
theorem bindAll {K : PySem.W.Frag} {fd : FuncData} {ps : List Str} (h : Binds K fd ps []) : ∃ ds, Vals ([] : List V) ds ∧ Binds K fd ps ds := ⟨[], .nil, h⟩
theorem noDds {K : PySem.W.Frag} : ∀ F, Reps K F [] ([] : List V) := fun _ => rfl
/-! ### what stands behind the top -/
abbrev Pr : Type := PySem.W.Frag → Bool
structure Book where
  fa : List He.Fa
  fn : List He.DefD
  ex : List Pr
  fp : List He5.DefA := []
def Book.fine (b : Book) (K : PySem.W.Frag) : Bool := (b.fa.all fun f => f.ok K) && ((b.fn.all fun d => d.ok K) && ((b.ex.all fun g => g K) && b.fp.all fun d => d.ok K))
def Book.seen (b : Book) (K : PySem.W.Frag) : He.AlD := (b.fine K, (b.fn.map fun d => He.fnW K d.at_) ++ b.fp.map fun d => He5.fnA K (d.at_ K))
def Book.due (b : Book) : He.AlD := (true, b.fn.map He.DefD.val ++ b.fp.map He5.DefA.val)
def Book.look (b : Book) (n : Nat) (g : Addr → Option Obj) : He.AlD := b.seen (He.frG g (cStatics :: He.asD g n))
def Book.hook (b : Book) (n : Nat) : PySem.W.Hook where
  α := He.AlD
  obs := fun s => b.look n s.heap.get?
  val := fun _ => b.due
  says := fun _ h => ∃ K : PySem.W.Frag, K.In h ∧ b.seen K = b.due
  of := fun _ _ e => ⟨_, He.frG_in, e⟩
  keeps := fun _ _ _ ⟨K, i, c⟩ k => ⟨K, PySem.W.Frag.In.keeps i k, c⟩
theorem Book.look_eq {b : Book} {n : Nat} {g : Addr → Option Obj} {s : Shared} (h : ∀ a, g a = s.heap.get? a) : b.look n g = (b.hook n).obs s := by
  obtain rfl : g = s.heap.get? := funext h
  rfl
section
variable {b : Book} {K : PySem.W.Frag}
theorem Book.parts (c : b.seen K = b.due) : (∀ f ∈ b.fa, f.ok K = true) ∧ (∀ d ∈ b.fn, d.ok K = true ∧ He.fnW K d.at_ = d.val) ∧ (∀ g ∈ b.ex, g K = true) ∧ ∀ d ∈ b.fp, d.ok K = true ∧ He5.fnA K (d.at_ K) = d.val := by
  have c1 : b.fine K = true := congrArg (fun z : He.AlD => z.1) c
  have c2 : (b.fn.map fun d => He.fnW K d.at_) ++ (b.fp.map fun d => He5.fnA K (d.at_ K)) = b.fn.map He.DefD.val ++ b.fp.map He5.DefA.val := congrArg (fun z : He.AlD => z.2) c
  obtain ⟨c3, c4⟩ := List.append_inj c2 (by rw [List.length_map, List.length_map])
  unfold Book.fine at c1
  rw [Bool.and_eq_true, Bool.and_eq_true, Bool.and_eq_true] at c1
  obtain ⟨p, q, r, t⟩ := c1
  refine ⟨List.all_eq_true.mp p, fun d hd => ⟨List.all_eq_true.mp q d hd, ?_⟩, List.all_eq_true.mp r, fun d hd => ⟨List.all_eq_true.mp t d hd, ?_⟩⟩
  · obtain ⟨i, hi⟩ := List.mem_iff_getElem?.mp hd
    have e : (b.fn.map fun d => He.fnW K d.at_)[i]? = (b.fn.map He.DefD.val)[i]? := by rw [c3]
    rw [List.getElem?_map, List.getElem?_map, hi] at e
    exact Option.some.inj e
  · obtain ⟨i, hi⟩ := List.mem_iff_getElem?.mp hd
    have e : (b.fp.map fun d => He5.fnA K (d.at_ K))[i]? = (b.fp.map He5.DefA.val)[i]? := by rw [c4]
    rw [List.getElem?_map, List.getElem?_map, hi] at e
    exact Option.some.inj e
theorem Book.fact (c : b.seen K = b.due) (i : Nat) {f : He.Fa} (h : b.fa[i]? = some f := by rfl) : f.ok K = true := (Book.parts c).1 f (List.mem_of_getElem? h)
theorem Book.more (c : b.seen K = b.due) (i : Nat) {g : Pr} (h : b.ex[i]? = some g := by rfl) : g K = true := (Book.parts c).2.2.1 g (List.mem_of_getElem? h)
theorem Book.def_ (c : b.seen K = b.due) (i : Nat) {d : He.DefD} (h : b.fn[i]? = some d := by rfl) : ∃ fd, FunD K d.name d.qual d.params d.body d.scope (d.dvs K) (d.kws K) (He.fAd K d.at_) fd := by
  obtain ⟨a, e⟩ := (Book.parts c).2.1 d (List.mem_of_getElem? h)
  exact He.DefD.funD e a
theorem Book.defP (c : b.seen K = b.due) (i : Nat) {d : He5.DefA} (h : b.fp[i]? = some d := by rfl) : ∃ fd, FunD K d.name d.qual d.params d.body d.scope (d.dvs K) (d.kws K) (d.at_ K) fd := by
  obtain ⟨a, e⟩ := (Book.parts c).2.2.2 d (List.mem_of_getElem? h)
  exact He5.DefA.funD e a
end
/-! ### facts of one's own -/
def prIns (x : Str) : Pr := fun K => He.eqO (PySem.W.findIn K (.ref (He.ga K x)) "__class__") (some (some (.builtin "object.__class__"))) && (He.eqO (PySem.W.specialIn K (.builtin "object.__class__") "__get__") (some (some (.builtin "getset_descriptor.__get__"))) &&
  (decide (PySem.W.takesIn K (.builtin "object.__class__") = some true) && decide (PySem.W.mroIn K (He.ga K x) (.type "object") = some true)))
theorem prIns_ok {K : PySem.W.Frag} {c : Nat} (h : prIns (cname c) K = true) (hc : Cls K (cad K c)) : InsFacts K c := by
  unfold prIns at h
  simp only [Bool.and_eq_true] at h
  obtain ⟨h1, h2, h3, h4⟩ := h
  exact ⟨hc, He.eqO_ok h1, He.eqO_ok h2, of_decide_eq_true h3, of_decide_eq_true h4⟩
def tyNames : List String := ["NoneType", "bool", "int", "str", "list", "tuple"]
def prIsi (c : Nat) (cs : List Nat) : Pr := fun K => (tyNames.all fun T => decide (PySem.W.kitOne K (.type T) (.ref (cad K c)) = some false)) && cs.all fun c' => decide (PySem.W.kitOne K (.ref (cad K c')) (.ref (cad K c)) = some (Nat.beq c' c))
theorem prIsi_ok {K : PySem.W.Frag} {c : Nat} {cs : List Nat} (h : prIsi c cs K = true) (hi : ∀ c' ∈ cs, InsFacts K c') : IsiC K c cs := by
  unfold prIsi at h
  rw [Bool.and_eq_true, List.all_eq_true, List.all_eq_true] at h
  exact ⟨fun T hT => of_decide_eq_true (h.1 T hT), fun c' hc => ⟨hi c' hc, of_decide_eq_true (h.2 c' hc)⟩⟩
theorem heqOwn_of {B : Bs} {k c : Nat} {f : Addr} {sp : HSp} (hc : Cls B.K (cad B.K c)) (hm : Meth B.K (cad B.K c) "__eq__" f) (h : FnAt B k f 2 [] sp) : HEqOwn B k c sp := ⟨⟨f, hm.at_, hm.fn, h⟩, hc⟩
end Hy

set_option Elab.async false
set_option linter.all false
set_option maxRecDepth 100000
set_option maxHeartbeats 4000000
set_option autoImplicit false
namespace Hy
open PySem PySem.Spec PyProof.Rows L2
/-! ### a law's end -/
/-- what an exception is, whatever flies -/
def CXe : CXT := fun _ _ _ E _ _ => ∃ cls d H', E cls d H'
def spScr (K : PySem.W.Frag) : Sp := fun vs H Q _ => ∃ (a : Addr) (ns : List Int), vs = [.ref a] ∧ ns.length ≤ 63 ∧ SqL K H a (ns.map V.int) ∧ ∀ H', Q (.bl true) H'
def S0 : Sto := fun _ => none
/-- what a law has to promise -/
def spLaw : HSp := fun ds S Q _ => ∃ ns : List Int, ns.length ≤ 63 ∧ ds = [.rls (ns.map D.int)] ∧ S = S0 ∧ ∀ S', Q (.bl true) S'
theorem ints_reps {K : PySem.W.Frag} {F : Hp} : ∀ ns : List Int, Reps K F (ns.map D.int) (ns.map V.int)
  | [] => rfl
  | n :: ns => ⟨_, _, rfl, rfl, ints_reps ns⟩
theorem scr_lift {K : PySem.W.Frag} {vs : List V} {H : Hp} {Q : VK} {E : XK} (h : spScr K vs H Q E) : lSp K 1 spLaw vs H (fun v _ => v = .bl true) (fun _ _ _ => False) ∧ ∀ v H', v = .bl true → Q v H' := by
  obtain ⟨a, ns, rfl, hl, hs, hq⟩ := h
  refine ⟨⟨rfl, fun _ => none, H, S0, [.rls (ns.map D.int)], fun d _ => d = .bl true, fun _ _ => False, ?_, ?_, ⟨ns, hl, rfl, rfl, fun _ => rfl⟩, ?_, ?_⟩, fun v H' e => by rw [e]; exact hq H'⟩
  · exact Reps.one ⟨a, _, rfl, hs, ints_reps ns, by rw [List.length_map]; exact Nat.le_trans hl (by decide)⟩
  · exact ⟨fun _ _ e => (nomatch e), Le.rfl', fun _ _ e => (nomatch e), fun _ _ e => (nomatch e)⟩
  · intro d v F' S' H' _ _ r e
    cases e
    exact r
  · intro _ _ _ _ _ _ _ _ _ h
    exact h.elim
/-- the law's def, as the end wants it -/
theorem law_ok {P : Program} {w : World} {K : PySem.W.Frag} {mg : Str → Option Value} {base : Heap} {k : Nat} {f : Addr} {fd : FuncData} {x : Str} (F : FnOk P w K mg base (CX P w) k f fd [x] (lSp K 1 spLaw)) : FnOk P w K mg base CXe k f fd [x] (spScr K) :=
  ⟨fun vs H Q E ⟨a, ns, e, _⟩ => by rw [e]; rfl, fun A outer s H args us vs Q E hr he hb hv hs => by
    obtain ⟨h1, h2⟩ := scr_lift hs
    refine codeAny_mono (F.run A outer s H args us vs _ _ hr he hb hv h1) fun r s' got => ?_
    cases r with
    | error e =>
      obtain ⟨_, _, _, _, _, _, _, _, _, _, _, _, z⟩ := got
      exact z.elim
    | ok fl =>
      cases fl with
      | ret u =>
        obtain ⟨v, H', a1, a2, a3, a4, a5, a6⟩ := got
        exact ⟨v, H', a1, a2, a3, a4, a5, h2 v H' a6⟩
      | _ => exact got.elim⟩
theorem fnOkD {B : Bs} {x qual : Str} {params : Arguments} {body : List Stmt} {scope : Scope} {dv0 : List V} {f : Addr} {fd : FuncData} {N ps : List Str} {k : Nat} {sp : HSp} {t : HTS}
    (F : FunD B.K x qual params body scope dv0 [] f fd) (S : FnScope N ps scope) (hbody : HSs { B with k := k, N := N, sc := scope, top := true, own := fun _ => true } body t)
    (hr : ∀ ds S Q E, ds.length = ps.length → sp ds S Q E → t { nx := fun _ S' => Rt Q .non S', rt := Rt Q, ex := fun x _ S' => Rx E x S' } (startE N.length ds) S) : FnOk B.P B.w B.K B.mg B.base (CX B.P B.w) (k + 1) f fd ps (lSp B.K ps.length sp) := by
  refine F.ok S (fun vs H Q E h => h.1) fun cdv A outer s H vs Q E hroom h => ?_
  obtain ⟨hn, G, F0, S0, es, Q0, E0, rs, wd, hsp, hq, he⟩ := h
  refine ⟨_, hbody.run _ (fun cls d _ H => E cls d H) ⟨rfl, rfl, rfl, rfl, rfl, rfl, rfl, S.nd, rfl, hroom, fun _ _ _ => rfl, passes_of rfl, fun _ => ⟨rfl, rfl, rfl⟩⟩ (takes_of rfl rfl rfl rfl), ?_⟩
  refine ⟨G, F0, S0, startE N.length es, _, start_rep rs, wd, hr es S0 Q0 E0 (by rw [← rs.len]; exact hn) hsp, ⟨fun env σ F' S' H' l w rn ⟨d', S2, vw, q⟩ => ?_, Rt.ok hq, fun _ _ _ _ _ _ _ _ h => h.elim, fun _ _ _ _ _ _ _ _ h => h.elim, fun x cls dd env σ F' S' H' l w rn r h => Rx.ok he x cls dd F' S' H' l w r h⟩⟩
  obtain ⟨F2, l2, w2, r2⟩ := vw B.K G F' H' .non w rfl
  exact hq d' .non F2 S2 H' (l.trans l2) w2 r2 q
end Hy

set_option Elab.async false
set_option linter.all false
set_option maxRecDepth 100000
set_option maxHeartbeats 4000000
set_option autoImplicit false
namespace Hy
open PySem PySem.Spec PyProof.Rows L2
/-- a promise that nobody can ask -/
theorem fnNone {B : Bs} {k n : Nat} {f : Addr} {fd : FuncData} {ps : List Str} {sp : HSp} (hn : ps.length = n) (hb : Binds B.K fd ps []) (h0 : ∀ ds S Q E, sp ds S Q E → False) : FnAt B k f n [] sp :=
  ⟨fd, ps, [], [], hn, hb, .nil, fun _ => rfl, ⟨fun _ _ _ _ ⟨_, _, _, _, ds, _, _, _, _, h, _⟩ => (h0 _ _ _ _ h).elim, fun _ _ _ _ _ _ _ _ _ _ _ _ _ ⟨_, _, _, _, ds, _, _, _, _, h, _⟩ => (h0 _ _ _ _ h).elim⟩⟩
abbrev gNeg : G1 := fun x S Q => match x with
  | .int i => Q (.int (-i)) S
  | _ => False
abbrev gIsi1 (c : Nat) (cs : List Nat) : G1 := fun x S Q => match isiO c cs S x with
  | some b => Q (.bl b) S
  | none => False
abbrev hBrk : HTS := fun D env S => D.bk env S
abbrev hCnt : HTS := fun D env S => D.ct env S
def sc00 : Scope := { kind := .function, names := [], isGenerator := false, isCoroutine := false, more := [] }
section
variable {B : Bs} {e a b o : Expr} {es rest : List Expr} {ta tb te to : HTE} {x : Str} {p pos apos : Pos}
theorem hisiX {c : Nat} {cs : List Nat} {xc : Str} {p2 : Pos} (I : IsiC B.K c cs) (gi : Gn B "isinstance") (mi : B.mg "isinstance" = none) (gn : Gn B xc) (hm : B.mg (cname c) = some (.ref (cad B.K c))) (h : HE B e te) (hx : cname c = xc := by rfl) (hdb : (cname c == ("__debug__" : Str)) = false := by decide)
    (he : ∀ env, starEach [e, .Name xc p2] env = (false, eval e env) :: starEach [.Name xc p2] env := by intro _; rfl) :
    HE B (.Call (.Name "isinstance" p) [e, .Name xc p2] [] pos) (hun (gIsi1 c cs) te) := by
  subst hx
  exact hisiO c cs I gi mi gn hm h hdb he
theorem hisiTX {T : String} {ans : Nat → Bool} {xt : Str} {p2 : Pos} (I : IsT T ans) (gi : Gn B "isinstance") (mi : B.mg "isinstance" = none) (gn : Gn B xt) (hm : B.mg xt = none) (hv : bootBuiltins xt = some (.type T)) (h : HE B e te) (hn : xt ≠ "__name__" := by decide) (hdb : (xt == ("__debug__" : Str)) = false := by decide)
    (he : ∀ env, starEach [e, .Name xt p2] env = (false, eval e env) :: starEach [.Name xt p2] env := by intro _; rfl) :
    HE B (.Call (.Name "isinstance" p) [e, .Name xt p2] [] pos) (hun (gIsiT ans) te) := hisiT I gi mi gn hm hv h hn hdb he
theorem hltDT (ha : HE B a ta) (hb : HE B b tb) : HT B (.Compare a [.Lt] [b] pos) (hB (hop gLtD ta tb)) := hcmpT (r := fun K x y H Q => rOrd (fun i j => decide (i < j)) (fun s t => decide (s < t)) x y H Q ∨ ∃ d e, Dp K H x d ∧ Dp K H y e ∧ SeqAt.shaped d = true ∧ PySem.W.alike d e = true ∧ d ≠ .none ∧ Q (.bl (PySem.W.dataLt d e)) H) (fun X ok => (op_lt.or op_lt_str).or (op_ltD ok.room.units)) gLtD_ok ha hb (nomark _)
/-! the same rules, all that the reading tells left out -/
variable {i : Nat} {y : Str} {py pos' spos : Pos} {g : G2} {scope : Scope} {tg iter elt : Expr} {ifs : List Expr} {ti : HTI} {tc : HTT} {q : Pt}
theorem hsetX (h : HE B e te) (hN : B.N[i]? = some x := by rfl) (hl : Own B x := by first | exact Or.inl rfl | exact Or.inr ⟨rfl, rfl⟩) (hs : ∀ env, swapsWith e (some (.Name x pos')) pos.line env = pure false := by intro _; rfl) : HS B (.Assign [.Name x pos'] e pos) (hSet i te) := hset i h hN hl hs
theorem haugAddX (h : HE B e te) (hN : B.N[i]? = some x := by rfl) (hl : Own B x := by first | exact Or.inl rfl | exact Or.inr ⟨rfl, rfl⟩) : HS B (.AugAssign (.Name x pos') .Add e pos) (hAug i (gI0 fun i j => .int (i + j)) te) := haugAdd i h hN hl
theorem haugSubX (h : HE B e te) (hN : B.N[i]? = some x := by rfl) (hl : Own B x := by first | exact Or.inl rfl | exact Or.inr ⟨rfl, rfl⟩) : HS B (.AugAssign (.Name x pos') .Sub e pos) (hAug i gSub te) := haugSub i h hN hl
theorem haugMulX (h : HE B e te) (hN : B.N[i]? = some x := by rfl) (hl : Own B x := by first | exact Or.inl rfl | exact Or.inr ⟨rfl, rfl⟩) : HS B (.AugAssign (.Name x pos') .Mult e pos) (hAug i (gI CMul fun i j => .int (i * j)) te) := haugMul i h hN hl
theorem haugDivX (h : HE B e te) (hN : B.N[i]? = some x := by rfl) (hl : Own B x := by first | exact Or.inl rfl | exact Or.inr ⟨rfl, rfl⟩) : HS B (.AugAssign (.Name x pos') .FloorDiv e pos) (hAug i gDiv te) := haugDiv i h hN hl
theorem hlcX {vs : List Nat} (own : List (Str × Nat)) (hi : HI B tg iter ti) (ok : blkC B.N B.sc scope own = true) (hv : ∀ j ∈ slots q, j ∈ own.map (·.2)) (hg : HP (B.blk scope) tg q) (ht : HTs (B.blk scope) ifs tc) (he : HE (B.blk scope) elt te) (hvs : own.map (·.2) = vs := by rfl)
    (hs : ∀ env x, foldedSetIterable iter env x = pure x := by intro _ _; rfl) : HE B (.ListComp elt [⟨tg, iter, ifs, 0⟩] scope pos) (hLc ti q tc te vs) := by
  subst hvs; exact hlc own hi ok hv hg ht he hs
theorem hlcMX {vs : List Nat} (own : List (Str × Nat)) (hi : HI B tg iter ti) (ok : blkC B.N B.sc scope own = true) (hv : ∀ j ∈ slots q, j ∈ own.map (·.2)) (hg : HP (B.blk scope) tg q) (ht : HTs (B.blk scope) ifs tc) (he : HE (B.blk scope) elt te) (hvs : own.map (·.2) = vs := by rfl)
    (hs : ∀ env x, foldedSetIterable iter env x = pure x := by intro _ _; rfl) : HE B (.ListComp elt [⟨tg, iter, ifs, 0⟩] scope pos) (hLcM ti q tc te vs) := by
  subst hvs; exact hlcM own hi ok hv hg ht he hs
theorem hsetlcX {vs : List Nat} (own : List (Str × Nat)) (hi : HI B tg iter ti) (ok : blkC B.N B.sc scope own = true) (hv : ∀ j ∈ slots q, j ∈ own.map (·.2)) (hg : HP (B.blk scope) tg q) (ht : HTs (B.blk scope) ifs tc) (he : HE (B.blk scope) elt te) (hvs : own.map (·.2) = vs := by rfl)
    (hN : B.N[i]? = some y := by rfl) (hyl : B.sc.names.lookup y = some .local := by rfl) (hk : B.sc.kind = .function := by rfl) (hl : (py.line == pos.line) = true := by rfl) (ha : (scope.names.any fun (n, k) => n == y && (k == .local || k == .cell)) = false := by decide +kernel)
    (hs : ∀ env x, foldedSetIterable iter env x = pure x := by intro _ _; rfl) : HS B (.Assign [.Name y py] (.ListComp elt [⟨tg, iter, ifs, 0⟩] scope pos) spos) (hSet i (hLc ti q tc te vs)) := by
  subst hvs; exact hsetlc i own hi ok hv hg ht he hN hyl hk hl ha hs
theorem hsetlcMX {vs : List Nat} (own : List (Str × Nat)) (hi : HI B tg iter ti) (ok : blkC B.N B.sc scope own = true) (hv : ∀ j ∈ slots q, j ∈ own.map (·.2)) (hg : HP (B.blk scope) tg q) (ht : HTs (B.blk scope) ifs tc) (he : HE (B.blk scope) elt te) (hvs : own.map (·.2) = vs := by rfl)
    (hN : B.N[i]? = some y := by rfl) (hyl : B.sc.names.lookup y = some .local := by rfl) (hk : B.sc.kind = .function := by rfl) (hl : (py.line == pos.line) = true := by rfl) (ha : (scope.names.any fun (n, k) => n == y && (k == .local || k == .cell)) = false := by decide +kernel)
    (hs : ∀ env x, foldedSetIterable iter env x = pure x := by intro _ _; rfl) : HS B (.Assign [.Name y py] (.ListComp elt [⟨tg, iter, ifs, 0⟩] scope pos) spos) (hSet i (hLcM ti q tc te vs)) := by
  subst hvs; exact hsetlcM i own hi ok hv hg ht he hN hyl hk hl ha hs
end
end Hy

set_option Elab.async false
set_option linter.all false
set_option maxRecDepth 100000
set_option maxHeartbeats 4000000
set_option autoImplicit false
namespace Hy
open PySem PySem.Spec PyProof.Rows L2
/-! ### xs + ys, xs * n whose list is changed later -/
def gAddM : G2 := fun x y S Q => match itemsL S x with
  | some xs => match itemsL S y with
    | some ys => xs.length + ys.length ≤ 16777216 ∧ ∀ p, S p = none → Q (.ref p) (up S p (.lst (xs ++ ys)))
    | none => False
  | none => False
/-- a list that is not the script's: it stands in the heap -/
def ownL : D → Bool
  | .rls _ => false
  | _ => true
theorem ownAt {K : PySem.W.Frag} {G F : Hp} {S : Sto} {H : Hp} {d : D} {v : V} {ds : List D} (w : Wd K G F S H) (r : Rep K F d v) (o : ownL d = true) (h : itemsL S d = some ds) : ∃ a vs, v = .ref a ∧ H a = some (.lst vs) ∧ Reps K F ds vs ∧ ds.length ≤ sizeLine := by
  cases d with
  | lst es =>
    cases h
    obtain ⟨a, vs, rfl, q, rs, z⟩ := r
    exact ⟨a, vs, rfl, w.fr _ _ q, rs, z⟩
  | ref p =>
    obtain rfl : v = .ref p := r
    unfold itemsL at h
    dsimp only at h
    split at h
    · rename_i es e
      cases h
      obtain ⟨vs, h1, h2, h3⟩ := lstAt w e
      exact ⟨p, vs, rfl, h1, h2, h3⟩
    · cases h
  | rls _ => cases o
  | _ => cases h
def gAddN : G2 := fun x y S Q => match ownL x && ownL y with
  | true => gAddM x y S Q
  | false => False
theorem gAddN_ok {K : PySem.W.Frag} : R2ok K gAddN rCat := by
  intro G F S H d1 v1 d2 v2 Q0 Q w r1 r2 h hq
  unfold gAddN at h
  split at h
  · rename_i o
    rw [Bool.and_eq_true] at o
    unfold gAddM at h
    split at h
    · rename_i xs e1
      split at h
      · rename_i ys e2
        obtain ⟨a, vs, rfl, ha, ra, za⟩ := ownAt w r1 o.1 e1
        obtain ⟨b, ws, rfl, hb, rb, zb⟩ := ownAt w r2 o.2 e2
        have z : (xs ++ ys).length ≤ sizeLine := by rw [List.length_append]; exact line_le h.1
        exact ⟨a, b, vs, ws, rfl, rfl, ha, hb, by rw [ra.len, rb.len]; exact line_le h.1, (newLstM w (ra.append rb) z hq h.2).2⟩
      · exact h.elim
    · exact h.elim
  · exact h.elim
section
variable {B : Bs} {a b : Expr} {ta tb : HTE} {pos : Pos}
theorem haddM (ha : HE B a ta) (hb : HE B b tb) : HE B (.BinOp a .Add b pos) (hop gAddN ta tb) := hbin (r := fun _ => rCat) (fun X _ => op_cat) gAddN_ok ha hb
end
/-! ### a default that is an empty tuple -/
def prTup0 (p : PySem.W.Frag → Addr) : Pr := fun K => match K.lookup (p K) with
  | some ⟨.type c, _, .seq its _, _⟩ => decide (c = "tuple") && its.toList.isEmpty
  | _ => false
theorem prTup0_ok {K : PySem.W.Frag} {p : PySem.W.Frag → Addr} (h : prTup0 p K = true) (F : Hp) : Rep K F (.tup []) (.ref (p K)) := by
  unfold prTup0 at h
  cases q : K.lookup (p K) with
  | none => rw [q] at h; cases h
  | some o =>
    obtain ⟨oc, od, dt, osl⟩ := o
    rw [q] at h
    cases oc with
    | type c =>
      cases dt with
      | seq its n =>
        obtain ⟨h1, h2⟩ := Bool.and_eq_true_iff.mp (show (decide (c = "tuple") && its.toList.isEmpty) = true from h)
        have e := List.isEmpty_iff.mp h2
        refine ⟨p K, [], rfl, .inr ⟨_, its, n, q, congrArg Value.type (of_decide_eq_true h1), rfl, ?_, by rw [e]; exact .nil⟩, rfl, Nat.zero_le _⟩
        have : its.size = 0 := by rw [← Array.length_toList, e] <;> rfl
        rw [this]; exact Nat.zero_le _
      | _ => cases h
    | _ => cases dt <;> cases h
end Hy

set_option Elab.async false
set_option linter.all false
set_option maxRecDepth 100000
set_option maxHeartbeats 4000000
set_option autoImplicit false
namespace Hy
open PySem PySem.Spec PyProof.Rows L2
/-! ### exceptions of the text: what the written part says of their classes -/
def oexB (K : PySem.W.Frag) (C : Addr) : Bool := match K.lookup C with
  | some ⟨.type ty, _, .cls cd, sl⟩ => (match cd.mro, sl.toList with
    | .ref C' :: bm, [_, _, _, _, some (.builtin n), _] => decide (ty = "type") && (decide (C' = C) && (decide (n = "ValueError.__new__") && (!cd.hasDel && (cd.hasDict && PySem.HandSPX.refsVE bm))))
    | _, _ => false)
  | _ => false
theorem oexB_ok {K : PySem.W.Frag} {C : Addr} (h : oexB K C = true) : ∃ nm q N bs bm sn sub ab col dd k0 k1 k2 k3 k5, K.lookup C = some (excClassObj nm q C N bs bm true sn sub ab col dd k0 k1 k2 k3 k5 "ValueError.__new__") ∧ PySem.HandSPX.refsVE bm = true := by
  unfold oexB at h
  split at h
  · rename_i ty dd cd sl ho
    split at h
    · rename_i C' bm k0 k1 k2 k3 n k5 hm hs
      simp only [Bool.and_eq_true, decide_eq_true_eq, Bool.not_eq_true'] at h
      obtain ⟨rfl, rfl, rfl, hdel, hd, hr⟩ := h
      obtain ⟨nm, bs, mro, ns, qn, hdd, sn, sub, ab, col, del⟩ := cd
      dsimp only at hm hdel hd
      subst hm hdel hd
      have e : sl = #[k0, k1, k2, k3, some (.builtin "ValueError.__new__"), k5] := by
        obtain ⟨l⟩ := sl
        dsimp only at hs
        rw [hs]
      subst e
      exact ⟨_, _, _, _, _, _, _, _, _, _, _, _, _, _, _, ho, hr⟩
    · cases h
  · cases h
structure ExcOk (K : PySem.W.Frag) (c : Nat) : Prop where
  ox : OexC K (cad K c)
  xf : XfC K (cad K c)
  cl : (PySem.W.clsIn K (cad K c)).isSome = true
  ha : PySem.W.findIn K (.ref (cad K c)) "__class__" = some (some (.builtin "object.__class__"))
  hn : PySem.W.specialIn K (.builtin "object.__class__") "__get__" = some (some (.builtin "getset_descriptor.__get__"))
  tk : PySem.W.takesIn K (.builtin "object.__class__") = some true
  hm : PySem.W.mroIn K (cad K c) (.type "object") = some true
  no : ∀ f ∈ flds c, PySem.W.findIn K (.ref (cad K c)) f = some none
  few : (flds c).length ≤ 900
  nd : (flds c).Nodup
def prExc (c : Nat) : Pr := fun K => oexB K (cad K c) && (He.eqO (PySem.W.findIn K (.ref (cad K c)) "__setattr__") (some (some (.builtin "object.__setattr__"))) && (decide (PySem.W.subIn K (.ref (cad K c)) (.type "BaseException") = some true) && (decide (PySem.W.typeIn K (.ref (cad K c)) = some (.type "type")) && (PySem.W.keepIn K (.ref (cad K c)) &&
  (xfB K (cad K c) && ((PySem.W.clsIn K (cad K c)).isSome && (He.eqO (PySem.W.findIn K (.ref (cad K c)) "__class__") (some (some (.builtin "object.__class__"))) && (He.eqO (PySem.W.specialIn K (.builtin "object.__class__") "__get__") (some (some (.builtin "getset_descriptor.__get__"))) &&
  (decide (PySem.W.takesIn K (.builtin "object.__class__") = some true) && (decide (PySem.W.mroIn K (cad K c) (.type "object") = some true) && (flds c).all fun f => He.eqO (PySem.W.findIn K (.ref (cad K c)) f) (some none)))))))))))
theorem prExc_ok {K : PySem.W.Frag} {c : Nat} (h : prExc c K = true) (few : (flds c).length ≤ 900) (nd : (flds c).Nodup) : ExcOk K c := by
  unfold prExc at h
  simp only [Bool.and_eq_true, decide_eq_true_eq, List.all_eq_true] at h
  obtain ⟨h1, h2, h3, h4, h5, h6, h7, h8, h9, h10, h11, h12⟩ := h
  exact ⟨⟨oexB_ok h1, He.eqO_ok h2, h3, h4, h5⟩, xfB_ok h6, h7, He.eqO_ok h8, He.eqO_ok h9, h10, h11, fun f hf => He.eqO_ok (h12 f hf), few, nd⟩
/-- the base class of the text's exceptions: its __init__ is ValueError's -/
structure BaseOk (K : PySem.W.Frag) (c : Nat) : Prop where
  sp : PySem.W.specialIn K (.ref (cad K c)) "__getattribute__" = some (some (.builtin "type.__getattribute__"))
  rd : PySem.W.readsIn K (cad K c) (.type "type") = true
  fc : PySem.W.findCls K (.ref (cad K c)) (.type "type") "__init__" = some (.val (.builtin "ValueError.__init__"))
def prBase (c : Nat) : Pr := fun K => He.eqO (PySem.W.specialIn K (.ref (cad K c)) "__getattribute__") (some (some (.builtin "type.__getattribute__"))) && (PySem.W.readsIn K (cad K c) (.type "type") && (match PySem.W.findCls K (.ref (cad K c)) (.type "type") "__init__" with
  | some (.val (.builtin n)) => decide (n = "ValueError.__init__")
  | _ => false))
theorem prBase_ok {K : PySem.W.Frag} {c : Nat} (h : prBase c K = true) : BaseOk K c := by
  unfold prBase at h
  obtain ⟨h1, h⟩ := Bool.and_eq_true_iff.mp h
  obtain ⟨h2, h3⟩ := Bool.and_eq_true_iff.mp h
  refine ⟨He.eqO_ok h1, h2, ?_⟩
  split at h3
  · rename_i n e
    rw [e, of_decide_eq_true h3]
  · cases h3
/-! ### __init__ of an exception: Base.__init__(self, ".."), then self.f = f -/
def tX0 (K : PySem.W.Frag) : TS := fun D σ H => ∃ (a C : Addr), σ[0]? = some (some (.ref a)) ∧ OexC K C ∧ H a = some (exo a C none) ∧ D.nx σ H
def tX1 (K : PySem.W.Frag) (j : Nat) (f : Str) : TS := fun D σ H => ∃ (a C : Addr) (v : V), σ[0]? = some (some (.ref a)) ∧ σ[j]? = some (some v) ∧ OexC K C ∧ PySem.W.findIn K (.ref C) f = some none ∧
  ((H a = some (exo a C none) ∧ ∀ dx, H dx = none → dx ≠ a → D.nx σ (upd (upd H dx (exd dx [(f, v)])) a (exo a C (some dx)))) ∨
    ∃ (dx : Addr) (fs : List (Str × V)), H a = some (exo a C (some dx)) ∧ H dx = some (exd dx fs) ∧ fs.length ≤ 900 ∧ D.nx σ (upd H dx (exd dx ((f, v) :: fs))))
def tXs (K : PySem.W.Frag) : List Str → Nat → TS
  | [], _ => fun D σ H => D.nx σ H
  | f :: r, j => fun D σ H => tX1 K j f { D with nx := tXs K r (j + 1) D } σ H
structure HX0 (B : Bs) (st : Stmt) : Prop where
  run : ∀ (X : Cx) (W : WX), OkC B X → Takes X W → PS X st (tX0 B.K)
structure HX1 (B : Bs) (st : Stmt) (j : Nat) (f : Str) : Prop where
  run : ∀ (X : Cx) (W : WX), OkC B X → Takes X W → PS X st (tX1 B.K j f)
structure HXs (B : Bs) (ss : List Stmt) (fs : List Str) (j : Nat) : Prop where
  run : ∀ (X : Cx) (W : WX), OkC B X → Takes X W → PSs X ss (tXs B.K fs j)
structure HXI (B : Bs) (ss : List Stmt) (fs : List Str) : Prop where
  run : ∀ (X : Cx) (W : WX), OkC B X → Takes X W → PSs X ss (fun D σ H => tX0 B.K { D with nx := tXs B.K fs 1 D } σ H)
section
variable {B : Bs} {st : Stmt} {rest : List Stmt} {fs : List Str} {f x xb : Str} {j : Nat}
theorem hxs0 : HXs B [] [] j := ⟨fun X W ok tk => pss_nil⟩
theorem hxs (h : HX1 B st j f) (r : HXs B rest fs (j + 1)) : HXs B (st :: rest) (f :: fs) j := ⟨fun X W ok tk => PSs.imp (pss_cons (h.run X W ok tk) (r.run X W ok tk)) fun D σ H h => h⟩
theorem hxi (h : HX0 B st) (r : HXs B rest fs 1) : HXI B (st :: rest) fs := ⟨fun X W ok tk => PSs.imp (pss_cons (h.run X W ok tk) (r.run X W ok tk)) fun D σ H h => h⟩
theorem hx1 {p1 p2 p3 p4 : Pos} (hN : B.N[j]? = some x := by rfl) (hvis : Vis B.sc x := by first | exact Or.inl rfl | exact Or.inr (Or.inl rfl) | exact Or.inr (Or.inr rfl)) (h0 : B.N[0]? = some ("self" : PySem.Str) := by rfl)
    (hv0 : Vis B.sc "self" := by first | exact Or.inl rfl | exact Or.inr (Or.inl rfl) | exact Or.inr (Or.inr rfl)) (hd : (x == ("__debug__" : Str)) = false := by decide) (hcd : (x == ("__classdict__" : Str)) = false := by decide)
    (hs : ∀ env, swapsWith (.Name x p3) (some (.Attribute (.Name "self" p1) f p2)) p4.line env = pure false := by intro _; rfl) : HX1 B (.Assign [.Attribute (.Name "self" p1) f p2] (.Name x p3) p4) j f :=
  ⟨fun X W ok tk => PS.imp (ps_ost (pe_var (i := 0) (by rw [ok.eN]; exact h0) (by rw [ok.es]; exact hv0) (by decide) (by decide)) (pe_var (i := j) (by rw [ok.eN]; exact hN) (by rw [ok.es]; exact hvis) hd hcd) (hs _)) fun D σ H ⟨a, C, v, e0, e1, T, no, q⟩ => by
    refine ⟨v, e1, .ref a, e0, a, C, rfl, by rw [ok.eK]; exact T, by rw [ok.eK]; exact no, q⟩⟩
/-- Base.__init__(self, "..") -/
theorem pe_base {X : Cx} {C0 : Addr} {ta : TA} {e : Expr} {es : List Expr} {p1 p2 pos : Pos} {pl : Sem Bool} (hg : Gl X xb) (hm : X.mg xb = some (.ref C0)) (h1 : PySem.W.specialIn X.K (.ref C0) "__getattribute__" = some (some (.builtin "type.__getattribute__"))) (h2 : PySem.W.readsIn X.K C0 (.type "type") = true)
    (h3 : PySem.W.findCls X.K (.ref C0) (.type "type") "__init__" = some (.val (.builtin "ValueError.__init__"))) (hdb : (xb == ("__debug__" : Str)) = false) (ha : PA X (e :: es) ta) (hc : MethTree pl (.Name xb p1) "__init__" p2 pos (e :: es) X.env)
    (he : starEach (e :: es) X.env = (false, eval e X.env) :: starEach es X.env) (hpl : (backTo pos (starEach es X.env)).any (·.1) = false) :
    PE X (.Call (.Attribute (.Name xb p1) "__init__" p2) (e :: es) [] pos) (tVeI X.K ta) := by
  refine ⟨fun pins s σ H Q I h => PySem.W.methodCall_KW (ld_glob I hg hm ?_ hdb) hc⟩
  refine PySem.W.method_cls I.kIn h1 (PySem.W.cls_value I.kIn h2 h3 (by decide +kernel) ?_)
  show wpAny _ _ (callWith pos (Value.builtin "ValueError.__init__") [] (backTo pos (starEach (e :: es) X.env)) []) _ _ _
  refine PyProof.Rows.callWith_method1 (thn (ha.run pos pins _ σ H _ (I.tok _) h) fun us s1 ⟨vs, H1, I1, r1, a, C, ws, ev, hl, T, ea, q⟩ => ?_) he hpl
  subst ev
  cases r1 with
  | @cons _ u0 _ ur ra rw' =>
    cases (show u0 = Value.ref a from ra)
    exact oinit_ok T I1 ea (by rw [← Paired.length rw', sizeLine_eq]; omega) fun s' J => ⟨.non, H1, J, rfl, q⟩
theorem hx0 {c : Nat} {z : Str} {m : Nat} {p1 p2 p3 p4 p5 p6 : Pos} {pl : Env → Sem Bool} (b : BaseOk B.K c) (gn : Gn B xb) (hm : B.mg (cname c) = some (.ref (cad B.K c))) (hx : cname c = xb := by rfl) (h0 : B.N[0]? = some ("self" : PySem.Str) := by rfl)
    (hv0 : Vis B.sc "self" := by first | exact Or.inl rfl | exact Or.inr (Or.inl rfl) | exact Or.inr (Or.inr rfl)) (hdb : (xb == ("__debug__" : Str)) = false := by decide)
    (hc : ∀ env, MethTree (pl env) (.Name xb p1) "__init__" p2 p5 [.Name "self" p3, .Constant (.str z) m p4] env := by intro _; rfl) (he : ∀ env, starEach [.Name "self" p3, .Constant (.str z) m p4] env = (false, eval (.Name "self" p3) env) :: starEach [.Constant (.str z) m p4] env := by intro _; rfl)
    (he2 : ∀ env, starEach [Expr.Constant (.str z) m p4] env = (false, eval (.Constant (.str z) m p4) env) :: starEach [] env := by intro _; rfl)
    (hpl : ∀ env, (backTo p5 (starEach [Expr.Constant (.str z) m p4] env)).any (·.1) = false := by intro _; rfl) (hs : ∀ env, swapsWith (.Call (.Attribute (.Name xb p1) "__init__" p2) [.Name "self" p3, .Constant (.str z) m p4] [] p5) none p6.line env = pure false := by intro _; rfl) :
    HX0 B (.Expr (.Call (.Attribute (.Name xb p1) "__init__" p2) [.Name "self" p3, .Constant (.str z) m p4] [] p5) p6) := by
  subst hx
  exact ⟨fun X W ok tk => PS.imp (ps_expr (pe_base (ok.gl gn) (by rw [ok.em]; exact hm) (by rw [ok.eK]; exact b.sp) (by rw [ok.eK]; exact b.rd) (by rw [ok.eK]; exact b.fc) hdb
    (pa_cons (pe_var (i := 0) (by rw [ok.eN]; exact h0) (by rw [ok.es]; exact hv0) (by decide) (by decide)) (pa_cons pe_str pa_nil (he2 _)) (he _)) (hc _) (he _) (hpl _)) (hs _)) fun D σ H ⟨a, C, e0, T, ea, q⟩ =>
      ⟨.ref a, e0, a, C, [.str z], rfl, (by show 1 ≤ 1000; omega), by rw [ok.eK]; exact T, ea, q⟩⟩
end
end Hy

set_option Elab.async false
set_option linter.all false
set_option maxRecDepth 100000
set_option maxHeartbeats 4000000
set_option autoImplicit false
namespace Hy
open PySem PySem.Spec PyProof.Rows L2
/-! ### what __init__ leaves -/
inductive ExEnd (H : Hp) (a C : Addr) : List Str → List V → Hp → Prop where
  | bare : ExEnd H a C [] [] H
  | full (f : Str) (fs : List Str) (v : V) (vs : List V) (dx : Addr) (l : List (Str × V)) (H' : Hp) (h0 : H dx = none) (ne : dx ≠ a) (ha : H' a = some (exo a C (some dx))) (hd : H' dx = some (exd dx l)) (hb : ∀ b, b ≠ a → b ≠ dx → H' b = H b)
      (hl : ∀ (i : Nat) (g : Str) (w : V), (f :: fs)[i]? = some g → (v :: vs)[i]? = some w → l.lookup g = some w) : ExEnd H a C (f :: fs) (v :: vs) H'
def spExI (K : PySem.W.Frag) (c : Nat) : Sp := fun vs H Q _ => ∃ (a : Addr) (ws : List V), vs = .ref a :: ws ∧ ws.length = (flds c).length ∧ H a = some (exo a (cad K c) none) ∧ ∀ H', ExEnd H a (cad K c) (flds c) ws H' → Q .non H'
theorem start_0 {N : List Str} {v : V} {ws : List V} : (L2.start N (v :: ws))[0]? = some (some v) := by unfold L2.start; simp
theorem start_at {N : List Str} {v : V} {ws : List V} {j : Nat} {w : V} (h : ws[j]? = some w) : (L2.start N (v :: ws))[j + 1]? = some (some w) := by
  unfold L2.start
  have hl : j < ws.length := (List.getElem?_eq_some_iff.mp h).1
  rw [List.getElem?_append_left (by simp; exact hl)]
  simp [h]
/-- the fields behind the first one -/
theorem xs_go {K : PySem.W.Frag} {D : Ends} {c : Nat} {a dx : Addr} {N : List Str} {ws : List V} {P : Hp → Prop} (T : OexC K (cad K c)) (hp : ∀ H', P H' → D.nx (L2.start N (.ref a :: ws)) H') (ne : dx ≠ a) :
    ∀ (fs : List Str) (j : Nat) (H : Hp) (l : List (Str × V)), (∀ f ∈ fs, PySem.W.findIn K (.ref (cad K c)) f = some none) → fs.length + l.length ≤ 900 → H a = some (exo a (cad K c) (some dx)) → H dx = some (exd dx l) → (∀ i, i < fs.length → ∃ w, ws[j + i]? = some w) →
    (∀ H' l', H' a = some (exo a (cad K c) (some dx)) → H' dx = some (exd dx l') → (∀ b, b ≠ a → b ≠ dx → H' b = H b) → (∀ g, g ∉ fs → l'.lookup g = l.lookup g) → (fs.Nodup → ∀ i g w, fs[i]? = some g → ws[j + i]? = some w → l'.lookup g = some w) → P H') →
    tXs K fs (j + 1) D (L2.start N (.ref a :: ws)) H
  | [], j, H, l, _, _, ha, hd, _, h => hp _ (h H l ha hd (fun _ _ _ => rfl) (fun _ _ => rfl) fun _ i g w e => by simp at e)
  | f :: fs, j, H, l, hno, hz, ha, hd, hw, h => by
    obtain ⟨w0, hw0⟩ := hw 0 (by simp)
    refine ⟨a, cad K c, w0, start_0, start_at hw0, T, hno f List.mem_cons_self, .inr ⟨dx, l, ha, hd, by simp at hz; omega, ?_⟩⟩
    refine xs_go T hp ne fs (j + 1) _ ((f, w0) :: l) (fun g hg => hno g (List.mem_cons_of_mem _ hg)) (by simp at hz ⊢; omega) ((upd_ne ne.symm).trans ha) upd_same (fun i hi => ?_) fun H' l' e1 e2 e3 e4 e5 => ?_
    · obtain ⟨w, e⟩ := hw (i + 1) (by simpa using hi)
      exact ⟨w, by rw [show j + 1 + i = j + (i + 1) by omega]; exact e⟩
    · refine h H' l' e1 e2 (fun b h1 h2 => (e3 b h1 h2).trans (upd_ne h2)) (fun g hg => ?_) fun nd i g w hi hw' => ?_
      · rw [e4 g fun z => hg (List.mem_cons_of_mem _ z), lookup_put, if_neg fun z => hg (by rw [z]; exact List.mem_cons_self)]
      · cases i with
        | zero =>
          simp at hi
          subst hi
          obtain rfl : w0 = w := Option.some.inj (hw0.symm.trans hw')
          rw [e4 f (List.nodup_cons.mp nd).1, lookup_put, if_pos rfl]
        | succ i => exact e5 (List.nodup_cons.mp nd).2 i g w (by simpa using hi) (by rw [show j + 1 + i = j + (i + 1) by omega]; exact hw')
theorem xi_go {K : PySem.W.Frag} {c : Nat} (ok : ExcOk K c) {D : Ends} {N : List Str} {vs : List V} {H : Hp} {Q : VK} {E : XK} (h : spExI K c vs H Q E) (hq : ∀ σ H', Q .non H' → D.nx σ H') : tX0 K { D with nx := tXs K (flds c) 1 D } (L2.start N vs) H := by
  obtain ⟨a, ws, rfl, hl, ha, g⟩ := h
  refine ⟨a, cad K c, start_0, ok.ox, ha, ?_⟩
  have no := ok.no
  have few := ok.few
  have nd := ok.nd
  revert no few nd g hl
  generalize flds c = fs
  intro hl g no few nd
  cases fs with
  | nil =>
    cases ws with
    | nil => exact hq _ _ (g H .bare)
    | cons _ _ => cases hl
  | cons f fs =>
    cases ws with
    | nil => cases hl
    | cons v vs =>
      refine ⟨a, cad K c, v, start_0, start_at (j := 0) rfl, ok.ox, no f List.mem_cons_self, .inl ⟨ha, fun dx hdx ne => ?_⟩⟩
      refine xs_go (P := fun H' => Q .non H') ok.ox (fun H' q => hq _ _ q) ne fs 1 _ [(f, v)] (fun g hg => no g (List.mem_cons_of_mem _ hg)) (by simp at few ⊢; omega) upd_same ((upd_ne ne).trans upd_same) (fun i hi => ?_) fun H' l' e1 e2 e3 e4 e5 => g H' (.full f fs v vs dx l' H' hdx ne e1 e2 (fun b h1 h2 => ?_) fun i g' w hi hw => ?_)
      · have : i < vs.length := by simp at hl; omega
        exact ⟨vs[i], by rw [show 1 + i = i + 1 by omega]; simp [this]⟩
      · rw [e3 b h1 h2, upd_ne h1, upd_ne h2]
      · cases i with
        | zero =>
          simp at hi hw
          subst hi hw
          rw [e4 f (List.nodup_cons.mp nd).1, lookup_put, if_pos rfl]
        | succ i => exact e5 (List.nodup_cons.mp nd).2 i g' w (by simpa using hi) (by rw [show 1 + i = i + 1 by omega]; simpa using hw)
/-- the def __init__ of an exception -/
theorem fnExc {B : Bs} {c k : Nat} {x qual : Str} {params : Arguments} {body : List Stmt} {scope : Scope} {f : Addr} {fd : FuncData} {N ps : List Str} (ok : ExcOk B.K c) (F : FunD B.K x qual params body scope [] [] f fd) (S : FnScope N ps scope) (hp : ps.length = (flds c).length + 1)
    (hbody : HXI { B with k := k, N := N, sc := scope, top := true, own := fun _ => true } body (flds c)) : FnOk B.P B.w B.K B.mg B.base (CX B.P B.w) (k + 1) f fd ps (spExI B.K c) := by
  refine F.ok S (fun vs H Q E ⟨a, ws, e, hl, _⟩ => by rw [e, hp, List.length_cons, hl]) fun cdv A outer s H vs Q E hroom h => ?_
  exact ⟨_, hbody.run _ (fun cls d _ H => E cls d H) ⟨rfl, rfl, rfl, rfl, rfl, rfl, rfl, S.nd, rfl, hroom, fun _ _ _ => rfl, passes_of rfl, fun _ => ⟨rfl, rfl, rfl⟩⟩ (takes_of rfl rfl rfl rfl), xi_go ok h fun _ _ q => q⟩
/-! ### raise C(..) -/
structure HExc (B : Bs) (k c : Nat) : Prop where
  mg : B.mg (cname c) = some (.ref (cad B.K c))
  ok : ExcOk B.K c
  ini : ∃ fI fd ps, PySem.W.findIn B.K (.ref (cad B.K c)) "__init__" = some (some (.ref fI)) ∧ PySem.W.typeIn B.K (.ref fI) = some (.type "function") ∧ Binds B.K fd ps [] ∧ FnOk B.P B.w B.K B.mg B.base (CX B.P B.w) k fI fd ps (spExI B.K c)
theorem HExc.in_ {B : Bs} {k k' c : Nat} {N : List Str} {sc : Scope} {top : Bool} {own : Str → Bool} (h : HExc B k c) : HExc ⟨B.P, B.w, B.K, B.mg, B.base, k', N, sc, top, own⟩ k c := ⟨h.mg, h.ok, h.ini⟩
theorem HExc.mono {B : Bs} {j k c : Nat} (h : HExc B j c) (l : j ≤ k) : HExc B k c := ⟨h.mg, h.ok, let ⟨fI, fd, ps, a, b, d, e⟩ := h.ini; ⟨fI, fd, ps, a, b, d, e.mono l⟩⟩
def hRaise (c : Nat) (t : HTA) : HTS := fun D env S => t env S (fun ds S1 => match Nat.beq ds.length (flds c).length with
  | true => D.ex (.exc c ds) env S1
  | false => False) fun x S1 => D.ex x env S1
/-- a made exception that has no fields, let go -/
theorem bare_end {X : Cx} {pins : List (Addr × Obj)} {σ : L2.St} {H1 : Hp} {Q : XK} {hp hp2 h2 : Heap} {g1 g2 : Array GenState} {d1 d2 : Drawn} {t1 t2 : Nat} {os1 os2 : OsState} {a C : Addr} (T : Raises X (.ref C)) (I1 : L2.Inv X pins σ H1 ⟨hp, g1, d1, t1, os1⟩)
    (ha : hp.objs.size ≤ a) (k : ∀ b o, hp.get? b = some o → hp2.get? b = some o) (un : Un (frs X.stack) [] (upd H1 a (exo a C none)) (upd H1 a (exo a C none)) hp2 h2) (hok : HOk X.prog X.w (upd H1 a (exo a C none)) h2) (ho : os2 = os1) (hb : AllBare g2)
    (q : Q (.ref C) none H1) : MkP X pins σ Q (.ref a) ⟨h2, g2, d2, t2, os2⟩ := by
  obtain ⟨t0, hoe⟩ := exo_at hok (show upd H1 a (exo a C none) a = some (exo a C none) from upd_same)
  have hn : H1 a = none := I1.hok.fresh ha
  obtain ⟨G, y1, y2⟩ := restrict h2 fun b => decide (b ≠ a)
  have gk : ∀ b, b ≠ a → G.get? b = h2.get? b := fun b hb => y1 b (decide_eq_true hb)
  have ge : G.get? a = none := y2 a (by simp)
  have nha : ∀ {b : Addr} {o : Obj}, hp.get? b = some o → b ≠ a := fun {b o} z e => by
    subst e
    exact absurd (Nat.lt_of_lt_of_le (Heap.lt_size z) ha) (Nat.lt_irrefl _)
  have upn : ∀ {b : Addr}, b ≠ a → H1 b = none → upd H1 a (exo a C none) b = none := fun {b} hb n => (upd_ne hb).trans n
  have U : Un (frs X.stack) [] H1 H1 hp G := {
    keep := fun b o z n hf hx => (gk b (nha z)).trans (un.keep b o (k b o z) (upn (nha z) n) hf hx)
    slot := fun b o z n hf hx => by rw [gk b (nha z)]; exact un.slot b o (k b o z) (upn (nha z) n) hf hx
    free := fun _ _ _ n _ => n
    there := fun b o z hx => by rw [gk b (nha z)]; exact un.there b o (k b o z) hx
    tups := fun _ _ z => z
    frzs := fun _ _ _ z => z
    tbls := fun b ps z => ⟨#[], by rw [z]; simp⟩ }
  have hok3 : HOk X.prog X.w H1 G := fun b o z => by
    have hba : b ≠ a := fun e => by rw [e, hn] at z; cases z
    have noa : ∀ {c : Addr}, upd H1 a (exo a C none) c = some (.own b) → c ≠ a := fun {c} hc => at_ne (show upd H1 a (exo a C none) a = some (exo a C none) from upd_same) hc exo_own
    refine (hok b o ((upd_ne hba).trans z)).stay (fun c v hc y => ?_) (fun c hc => ?_) fun c xs hc => ?_
    · have hca : c ≠ a := by
        rcases hc with hc | hc
        · rw [hc]; exact hba
        · exact noa hc
      exact (gk c hca).trans y
    · rw [upd_ne (noa hc)] at hc; exact hc
    · rw [upd_ne (at_ne (show upd H1 a (exo a C none) a = some (exo a C none) from upd_same) hc exo_tup)] at hc; exact hc
  have J : L2.Inv X pins σ H1 ⟨G, g2, d2, t2, os2⟩ := I1.call' (ch := []) ho U hok3 hb (fun b z => absurd z (by simp))
  refine ⟨a, _, _, ⟨G, g2, d2, t2, os2⟩, _, .ref C, none, rfl, J, fun b o z => ?_, ge, hoe, ⟨rfl, rfl⟩, rfl, rfl, hn, rfl, hb, T, q⟩
  by_cases hba : b = a
  · rw [hba, ge] at z; cases z
  · exact (gk b hba).symm.trans z
end Hy

set_option Elab.async false
set_option linter.all false
set_option maxRecDepth 100000
set_option maxHeartbeats 4000000
set_option autoImplicit false
namespace Hy
open PySem PySem.Spec PyProof.Rows L2
section
variable {X : Cx} {x : Str} {c k : Nat} {p pos : Pos} {C fI : Addr} {fd : FuncData} {ps : List Str}
/-- C() of an exception without fields -/
theorem pmk_bare {CX' : CXT} (T : OexC X.K (cad X.K c)) (hf : flds c = []) (iC : PySem.W.findIn X.K (.ref (cad X.K c)) "__init__" = some (some (.ref fI))) (tI : PySem.W.typeIn X.K (.ref fI) = some (.type "function")) (F1 : FnOk X.prog X.w X.K X.mg X.base CX' k fI fd ps (spExI X.K c)) (hr : Room (k + 1) X.A)
    (hb : Binds X.K fd ps []) (hx : Passes CX' X (fun _ _ _ => False)) (hg : Gl X x) (hm : X.mg x = some (.ref (cad X.K c))) (hdb : (x == ("__debug__" : Str)) = false) : PMk X (.Call (.Name x p) [] [] pos) (fun _ H Q => Q (.ref (cad X.K c)) none H) := by
  intro pins s σ H Q I h
  obtain ⟨nm, q, N, bs, bm, sn, sub, ab, col, dd, k0, k1, k2, k3, k5, hC, hbm⟩ := T.cls
  refine wpAny_Call_Name_kw (ld_glob I hg hm (PySem.W.callWith_K0 (first := []) I.kIn T.kC ?_) hdb)
  show wpAny _ _ (call (.ref (cad X.K c)) []) _ _ _
  generalize eI : ({ s with toks := s.toks } : Shared) = sI
  obtain ⟨hp, g, dr, tk, os⟩ := s
  have hsz : hp.objs.size ≤ hp.objs.size + 1 := Nat.le_succ _
  have hn : H (hp.objs.size + 1) = none := I.hok.fresh hsz
  have kk : ∀ b o, hp.get? b = some o → ((hp.push (PySem.W.kdv_tup [])).push (PySem.HandSPX.excO (cad X.K c) hp.objs.size)).get? b = some o := fun b o e => Heap.get?_push_of_some _ (Heap.get?_push_of_some _ e)
  have hget : ((hp.push (PySem.W.kdv_tup [])).push (PySem.HandSPX.excO (cad X.K c) hp.objs.size)).get? (hp.objs.size + 1) = some (PySem.HandSPX.excO (cad X.K c) hp.objs.size) := by heap_get
  have I2 : L2.Inv X pins σ (upd H (hp.objs.size + 1) (exo (hp.objs.size + 1) (cad X.K c) none)) ⟨(hp.push (PySem.W.kdv_tup [])).push (PySem.HandSPX.excO (cad X.K c) hp.objs.size), g, dr, tk, os⟩ :=
    I.laid (t' := tk) (a := hp.objs.size + 1) (o := exo (hp.objs.size + 1) (cad X.K c) none) (h' := (hp.push (PySem.W.kdv_tup [])).push (PySem.HandSPX.excO (cad X.K c) hp.objs.size)) kk hsz (exo_ok hget)
  have go : spExI X.K c [V.ref (hp.objs.size + 1)] (upd H (hp.objs.size + 1) (exo (hp.objs.size + 1) (cad X.K c) none)) (fun v H2 => v = .non ∧ H2 = upd H (hp.objs.size + 1) (exo (hp.objs.size + 1) (cad X.K c) none)) (fun _ _ _ => False) :=
    ⟨_, [], rfl, by rw [hf] <;> rfl, upd_same, fun H' e => by rw [hf] at e; cases e; exact ⟨rfl, rfl⟩⟩
  have r2 : Vals [V.ref (hp.objs.size + 1)] [Value.ref (hp.objs.size + 1)] := .cons rfl .nil
  have hl : ([Value.ref (hp.objs.size + 1)] ++ ([] : List Value)).length = ps.length := by
    have e := r2.length
    rw [F1.len _ _ _ _ go] at e
    simpa using e.symm
  subst eI
  refine wpAny_call (PySem.HandSPX.call_own F.excBase_ValueError (fun Y => PySem.HandSPX.refsVE_contains Y bm hbm) (I.kIn _ _ hC) (PySem.W.looks_findIn I.kIn iC) (fun self => PySem.W.bind_fn I.kIn self tI) (Nat.zero_le _)
    (codeAny_mono (F1.run _ X.stack _ _ ⟨[Value.ref (hp.objs.size + 1)], []⟩ [Value.ref (hp.objs.size + 1)] _ _ (fun _ _ _ => False) (hr.make (cad X.K c) [] []) (I2.env0.make (cad X.K c) [] []) (by have := hb _ [Value.ref (hp.objs.size + 1)] I2.kIn hl; simpa using this) r2 go) fun r s' hq' => ?_))
  cases r with
  | error er => exact hx pins σ _ _ er s' I2 hq'
  | ok fl =>
    cases fl with
    | ret u =>
      obtain ⟨v, H2, os2, bare2, un2, hok2, rv, ev, eH⟩ := hq'
      subst ev eH
      obtain ⟨h2, g2, d2, t2, os'⟩ := s'
      exact ⟨rv, bare_end (raises_own T.exC T.tyC) I hsz kk un2 hok2 os2 bare2 h⟩
    | next => exact False.elim hq'
    | brk => exact False.elim hq'
    | cont => exact False.elim hq'
end
theorem repx_full {K : PySem.W.Frag} {F : Hp} {c : Nat} {ds : List D} {vs : List V} {d : Addr} {l : List (Str × V)} (hd : F d = some (.xd l)) (rs : Reps K F ds vs) (hl : ∀ (i : Nat) (g : Str) (w : V), (flds c)[i]? = some g → vs[i]? = some w → l.lookup g = some w) : RepX K F (.exc c ds) (.ref (cad K c)) (some d) :=
  ⟨rfl, .inr ⟨d, l, rfl, hd, fun i f x e1 e2 => by
    obtain ⟨v, h1, h2⟩ := rs.at e2
    exact ⟨v, hl i f v e1 h1, h2⟩⟩⟩
theorem ExEnd.inv {H H' : Hp} {a C : Addr} {fs : List Str} {ws : List V} (h : ExEnd H a C fs ws H') (hf : fs.length ≠ 0) : ∃ (dx : Addr) (l : List (Str × V)), H dx = none ∧ dx ≠ a ∧ H' a = some (exo a C (some dx)) ∧ H' dx = some (exd dx l) ∧ (∀ b, b ≠ a → b ≠ dx → H' b = H b) ∧
    ∀ (i : Nat) (g : Str) (w : V), fs[i]? = some g → ws[i]? = some w → l.lookup g = some w := by
  cases h with
  | bare => exact absurd rfl hf
  | full f fs v vs dx l _ h0 ne ha hd hb hl => exact ⟨dx, l, h0, ne, ha, hd, hb, hl⟩
section
variable {B : Bs} {e : Expr} {es : List Expr} {tr : HTA} {c k : Nat} {xc : Str} {p pos pos2 : Pos}
theorem hraise (h : HExc B k c) (hk : k + 1 ≤ B.k) (gn : Gn B xc) (ha : HA B (e :: es) tr) (hx : cname c = xc := by rfl) (hdb : (xc == ("__debug__" : Str)) = false := by decide) (he : ∀ env, starEach (e :: es) env = (false, eval e env) :: starEach es env := by intro _; rfl)
    (hpl : ∀ env, (backTo pos (starEach es env)).any (·.1) = false := by intro _; rfl) (hf : (flds c).length ≠ 0 := by decide) : HS B (.Raise (some (.Call (.Name xc p) (e :: es) [] pos)) none pos2) (hRaise c tr) := by
  subst hx
  obtain ⟨fI, fd, ps, i1, i2, i3, i4⟩ := h.ini
  exact ⟨fun X W ok tk => PS.imp (ps_raise ok.calm tk (pmk_oex (sp := spExI X.K c) (ds := []) (dvs := []) (by rw [ok.eK]; exact h.ok.ox) (by rw [ok.eK]; exact i1) (by rw [ok.eK]; exact i2) (by have := ok.fnOk i4; rw [ok.eK] at this ⊢; exact this) (ok.room.mono hk) (by rw [ok.eK]; exact i3) .nil passL (ok.gl gn)
    (by rw [ok.em]; exact h.mg) (ha.run X W ok tk) hdb (he _) (hpl _))) fun D σ H ⟨G, F, S, env, E, rn, wd, hh, o⟩ => by
      refine ⟨G, F, S, env, _, _, rn, wd, hh, fun ds vs F1 S1 H1 l1 w1 r1 h1 => ?_, o.exc rn⟩
      obtain ⟨z, h1⟩ := beq_n h1
      have few := h.ok.few
      rw [ok.eK]
      refine ⟨by rw [r1.len, z]; omega, fun a ha => ⟨a, vs, by rw [List.append_nil], by rw [r1.len, z], upd_same, fun H' e => ?_⟩⟩
      obtain ⟨d, l, h0, ne, e1, e2, e3, hl⟩ := e.inv hf
      have hd1 : H1 d = none := by rw [upd_ne ne] at h0; exact h0
      have eH : upd (L2.del H' a) d (.xd l) = upd H1 d (.xd l) := by
        funext b
        by_cases hb : b = d
        · rw [hb, upd_same, upd_same]
        · rw [upd_ne hb, upd_ne hb]
          by_cases hba : b = a
          · rw [hba, L2.del_same, ha]
          · rw [L2.del_ne hba, e3 b hba hb, upd_ne hba]
      refine ⟨rfl, d, l, e1, e2, hd1, ?_⟩
      rw [eH]
      obtain ⟨w2, l2⟩ := w1.newF (.xd l) hd1
      exact o.ex _ _ _ env σ _ _ _ (l1.trans l2) w2 (rn.le (l1.trans l2)) (repx_full upd_same (r1.le l2) hl) h1⟩
theorem hraise0 (h : HExc B k c) (hk : k + 1 ≤ B.k) (gn : Gn B xc) (hx : cname c = xc := by rfl) (hdb : (xc == ("__debug__" : Str)) = false := by decide) (hf : flds c = [] := by rfl) : HS B (.Raise (some (.Call (.Name xc p) [] [] pos)) none pos2) (hRaise c hNil) := by
  subst hx
  obtain ⟨fI, fd, ps, i1, i2, i3, i4⟩ := h.ini
  exact ⟨fun X W ok tk => PS.imp (ps_raise ok.calm tk (pmk_bare (c := c) (by rw [ok.eK]; exact h.ok.ox) hf (by rw [ok.eK]; exact i1) (by rw [ok.eK]; exact i2) (by have := ok.fnOk i4; rw [ok.eK] at this ⊢; exact this) (ok.room.mono hk) (by rw [ok.eK]; exact i3) passL (ok.gl gn)
    (by rw [ok.em, ok.eK]; exact h.mg) hdb)) fun D σ H ⟨G, F, S, env, E, rn, wd, hh, o⟩ => by
      obtain ⟨_, h1⟩ := beq_n (show match Nat.beq ([] : List Hy.D).length (flds c).length with | true => E.ex (.exc c []) env S | false => False from hh)
      rw [ok.eK]
      exact o.ex _ _ _ env σ F S H Le.rfl' wd rn (show RepX B.K F (.exc c []) _ _ from ⟨rfl, .inl ⟨rfl, rfl⟩⟩) h1⟩
end
end Hy

set_option Elab.async false
set_option linter.all false
set_option maxRecDepth 100000
set_option maxHeartbeats 4000000
set_option autoImplicit false
namespace Hy
open PySem PySem.Spec PyProof.Rows L2
/-! ### try: body, then clauses with and without a name -/
abbrev ClX := Value × Option Nat × (Addr → Value → Option Addr → TS)
/-- the ends of a suite whose name goes at its end -/
abbrev goneD (D : Ends) (i : Nat) : Ends := { nx := fun σ H => D.nx (σ.set i none) H, rt := D.rt, bk := fun σ H => D.bk (σ.set i none) H, ct := fun σ H => D.ct (σ.set i none) H }
def wMix (K : PySem.W.Frag) (Wo : WX) (D : Ends) : List ClX → WX
  | [] => Wo
  | (c, o, ts) :: r => fun cls d σ H => ∃ b, PySem.W.exmOne K cls c = some b ∧ (b = true → ∀ a, H a = none → match o with
    | none => ts a cls d D σ H
    | some i => ts a cls d (goneD D i) (σ.set i (some (.ref a))) H) ∧ (b = false → wMix K Wo D r cls d σ H)
abbrev SuOk (X : Cx) (su : List Stmt) (ts : Addr → Value → Option Addr → TS) : Prop := ∀ (a : Addr) (oe : Obj) (cls : Value) (d : Option Addr) (pn : List (Addr × Obj)), Zc cls d oe → (∃ vs, oe.data = .fields vs) → PSs (X.suite a ((a, oe) :: pn)) su (ts a cls d)
inductive HdsX (X : Cx) : List ExceptHandler → List ClX → Prop
  | nil : HdsX X [] []
  | bare {x : Str} {c : Value} {ts : Addr → Value → Option Addr → TS} {b0 : Stmt} {su : List Stmt} {np p : Pos} {hs : List ExceptHandler} {l : List ClX} (hc : Names X x c) (ok : SuOk X (b0 :: su) ts) (r : HdsX X hs l) :
      HdsX X (.ExceptHandler (some (.Name x np)) none (b0 :: su) p :: hs) ((c, none, ts) :: l)
  | as_ {x n : Str} {i : Nat} {c : Value} {ts : Addr → Value → Option Addr → TS} {b0 : Stmt} {su : List Stmt} {np p : Pos} {hs : List ExceptHandler} {l : List ClX} (hc : Names X x c) (hi : X.N[i]? = some n) (hl : X.env.kindOf n = some .local) (ok : SuOk X (b0 :: su) ts) (r : HdsX X hs l) :
      HdsX X (.ExceptHandler (some (.Name x np)) (some n) (b0 :: su) p :: hs) ((c, some i, ts) :: l)
section
variable {X : Cx} {pins : List (Addr × Obj)} {σ : L2.St} {H : Hp} {s : Shared} {D : Ends}
/-- out of a suite without a name -/
theorem su_bare {a : Addr} {q : Addr × Obj} (ok : X.Ok) {f : Flow} (h : SP (X.suite a (q :: (X.pn ++ pins))) [] D f s) : SP X pins D f s := by
  cases f with
  | next => obtain ⟨σ1, H1, S1, q1⟩ := h; exact ⟨_, _, S1.unsuite ok, q1⟩
  | brk => obtain ⟨σ1, H1, S1, q1⟩ := h; exact ⟨_, _, S1.unsuite ok, q1⟩
  | cont => obtain ⟨σ1, H1, S1, q1⟩ := h; exact ⟨_, _, S1.unsuite ok, q1⟩
  | ret u => obtain ⟨v1, σ1, H1, S1, r1, q1⟩ := h; exact ⟨_, _, _, S1.unsuite ok, r1, q1⟩
/-- an exception that no clause takes -/
theorem pass_on {W : WX} {B : Heap} {sI : Shared} {a : Addr} {cls : Value} {d : Option Addr} {env : Env} {outer : List Env} (hs : X.stack = X.env :: X.outer) (hf : X.env.frame = some X.env.locals) (tk : Takes X W) (J : L2.Inv X pins σ H sI)
    (nb : ∀ b o, sI.heap.get? b = some o → b ∉ frs X.stack → B.get? b = some o) (fl : PySem.HandSPX.FlyingZ B (X.env :: X.outer) a (Zc cls d) s.heap) (up : sI.heap.UpToSlots s.heap) (na : H a = none) (os : s.os = sI.os) (ag : AllBare s.gens) (w : W cls d σ H) {Q : Flow → Shared → Prop} :
    wpAny (model X.prog X.w) X.A (handleBy (.ref a) X.env []) Q X.xe s := by
  refine wpAny_handleBy_nil ?_
  obtain ⟨_, _, _, oe, vs, T, _, _, he, _, hd, h1, _⟩ := id fl
  unfold PySem.passOn
  refine wpAny_bind (wpAny_field he hd h1 ?_)
  rw [if_neg (show ¬ ((Value.ref T == Value.none) = true) from by simp)]
  have fin : wpAny (model X.prog X.w) X.A (setFlight (.ref a) X.env.frame) (fun _ s4 => wpAny (model X.prog X.w) X.A (throw (.ref a) : Sem Flow) Q X.xe s4) X.xe s := by
    rw [hf]
    exact PySem.HandSPX.setFlight_upZ fl fun h4 hh4 up4 => wpAny_throw (tk _ _ ⟨a, B, sI, pins, σ, H, cls, d, rfl, J, nb, up.trans up4, .inr (.inr (by rw [hs]; exact hh4)), na, os, ag, w⟩)
  first
    | exact wpAny_bind (wpAny_pure (wpAny_bind fin))
    | exact wpAny_bind fin
end
section
variable {X : Cx} {body : List Stmt} {h0 : ExceptHandler} {hds : List ExceptHandler} {l : List ClX} {pos : Pos} {tb : WX → TS} {Wo : WX}
theorem ps_try_mix (hs : X.stack = X.env :: X.outer) (hf : X.env.frame = some X.env.locals) (hN : X.N.Nodup) (tk : Takes X Wo)
    (hb : ∀ (W : WX) (pn : List (Addr × Obj)) (xe : Value → Shared → Prop), Takes (X.tr pn xe) W → PassesOwn (model X.prog X.w) X.A X.env xe → PSs (X.tr pn xe) body (tb W))
    (hh : HdsX X (h0 :: hds) l) : PS X (.Try body (h0 :: hds) [] [] pos) (fun D σ H => tb (wMix X.K Wo D l) D σ H) := by
  refine ⟨fun pins s σ H D I h => wpAny_Try_except ?_⟩
  have ok := I.ok
  have hfr : X.A.frames = some (X.env :: X.outer) := by rw [ok.frames, hs]
  let xe' : Value → Shared → Prop := fun e s1 => wpAny (model X.prog X.w) X.A (noteFrame e X.env) (fun _ s2 => wpAny (model X.prog X.w) X.A (setFlight e none) (fun _ s3 => wpAny (model X.prog X.w) X.A (handleBy e X.env (h0 :: hds)) (SP X pins D) X.xe s3) X.xe s2) X.xe s1
  have takes : Takes (X.tr (X.pn ++ pins) xe') (wMix X.K Wo D l) := by
    intro u s' xx
    obtain ⟨a, B, sI, pins', σ', H', cls, d, rfl, J', nb, up, sky, na, os, ag, w⟩ := xx
    have J : L2.Inv X pins σ' H' sI := J'.ofTry ok
    have sky' : Sky B (X.env :: X.outer) a (Zc cls d) X.env.locals s'.heap := by rw [← hs]; exact sky
    show wpAny (model X.prog X.w) X.A (noteFrame (.ref a) X.env) _ _ _
    refine Sky.land Zc.steady hfr hf sky' fun h3 fl3 up3 => ?_
    have J3 : L2.Inv X pins σ' H' { s' with heap := h3 } := J.landed nb fl3.1 (up.trans up3) os ag
    obtain ⟨oe3, vs3, he3, hz3, hd3⟩ := fl3.there
    have nfr : a ∉ frs (X.env :: X.outer) := fun hm => by
      obtain ⟨_, o', e', hnf⟩ := fl3.2.2.1.mem hm
      rw [he3] at e'; cases e'
      exact hnf _ hd3
    have nL : a ≠ X.env.locals := fun z => nfr (List.mem_filterMap.mpr ⟨X.env, List.mem_cons_self, by rw [hf, z]⟩)
    have nF : a ∉ X.fs := fun hm => by
      obtain ⟨e, he, q⟩ := List.mem_filterMap.mp hm
      exact nfr (List.mem_filterMap.mpr ⟨e, List.mem_cons_of_mem _ he, q⟩)
    have S3 := J3.suite he3 hd3 na nL nF
    have looks : ∀ {c : Value} {b : Bool}, PySem.W.exmOne X.K cls c = some b → _ := fun {c b} e => PySem.W.exm_one (M := model X.prog X.w) (J3.kIn) (fun A Q E s k q => wpAny_typeOf_ref (k _ _ he3) (by rw [hz3.1]; exact q) : PySem.W.Looks (model X.prog X.w) h3 (typeOf (.ref a)) cls) e
    have test : ∀ {x : Str} {c : Value} {np : Pos} {Q : Value → Shared → Prop} {E : Value → Shared → Prop}, Names X x c → Q c { s' with heap := h3 } → wpAny (model X.prog X.w) (X.A.mark (some (.ref a))) (eval (.Name x np) X.env) Q E { s' with heap := h3 } := fun {x c np Q E} hc q => by
      obtain ⟨hg, hdbg, hm | ⟨hm, hv, hnn⟩⟩ := hc
      · exact ld_glob (X := X.suite a ((a, oe3) :: (X.pn ++ pins))) S3 hg hm q hdbg
      · exact ld_blt (X := X.suite a ((a, oe3) :: (X.pn ++ pins))) S3 hg hm hv q hnn hdbg
    suffices go : ∀ {hds' : List ExceptHandler} {l' : List ClX}, HdsX X hds' l' → wMix X.K Wo D l' cls d σ' H' → wpAny (model X.prog X.w) X.A (handleBy (.ref a) X.env hds') (SP X pins D) X.xe { s' with heap := h3 } from go hh w
    intro hds' l' hk
    induction hk with
    | nil => exact fun w => pass_on (s := { s' with heap := h3 }) (env := X.env) (outer := X.outer) hs hf tk J nb fl3 (up.trans up3) na os ag w
    | @bare x c ts b0 su np p hs2 l2 hc hsu r ih =>
      rintro ⟨b, hb1, hyes, hno⟩
      refine wpAny_handleBy_cons (codeAny_handlers_test (test hc ((looks hb1).here ?_))) (by intro q; cases q)
      cases b with
      | false => exact ih (hno rfl)
      | true =>
        refine codeAny_handlers_suite (PySem.HandSPX.lands_againZ fl3 fun h4 fl4 up4 => ?_)
        have J4 : L2.Inv X pins σ' H' { s' with heap := h4 } := J.landed nb fl4.1 ((up.trans up3).trans up4) os ag
        obtain ⟨oe4, vs4, he4, hz4, hd4⟩ := fl4.there
        exact wpAny_mono ((hsu a oe4 cls d (X.pn ++ pins) hz4 ⟨_, hd4⟩).run [] _ _ H' D (J4.suite he4 hd4 na nL nF) (hyes rfl a na)) (fun f s6 hsp => su_bare ok hsp) fun _ _ z => z.elim
    | @as_ x n i c ts b0 su np p hs2 l2 hc hi hln hsu r ih =>
      rintro ⟨b, hb1, hyes, hno⟩
      refine wpAny_handleBy_cons (codeAny_handlers_test (test hc ((looks hb1).here ?_))) (by intro q; cases q)
      cases b with
      | false => exact ih (hno rfl)
      | true =>
        refine codeAny_handlers_suite_as (PySem.HandSPX.lands_againZ fl3 fun h4 fl4 up4 => ?_)
        have J4 : L2.Inv X pins σ' H' { s' with heap := h4 } := J.landed nb fl4.1 ((up.trans up3).trans up4) os ag
        obtain ⟨oe4, vs4, he4, hz4, hd4⟩ := fl4.there
        refine store_ok (X := X.suite a ((a, oe4) :: (X.pn ++ pins))) (v := .ref a) (J4.suite he4 hd4 na nL nF) hN hi (.inl hln) rfl (fun s5 S5 => ?_) (.inr hln)
        refine wpAny_mono ((hsu a oe4 cls d (X.pn ++ pins) hz4 ⟨_, hd4⟩).run [] s5 _ H' _ S5 (hyes rfl a na)) (fun f s6 hsp => ?_) fun _ _ z => z.elim
        have gone : ∀ {σ6 : L2.St} {H6 : Hp} {Q : Shared → Prop}, L2.Inv (X.suite a ((a, oe4) :: (X.pn ++ pins))) [] σ6 H6 s6 → (∀ s7, L2.Inv X pins (σ6.set i none) H6 s7 → Q s7) →
            wpAny (model X.prog X.w) X.A (do bindName X.env n .none; unbindBehindTheSuite X.env n p) (fun _ s7 => Q s7) X.xe s6 := fun {σ6 H6 Q} S6 hq => gone_ok (S6.unsuite ok) hN hi hln hq
        cases f with
        | next => obtain ⟨σ6, H6, S6, q6⟩ := hsp; exact gone S6 fun s7 J7 => ⟨_, _, J7, q6⟩
        | brk => obtain ⟨σ6, H6, S6, q6⟩ := hsp; exact gone S6 fun s7 J7 => ⟨_, _, J7, q6⟩
        | cont => obtain ⟨σ6, H6, S6, q6⟩ := hsp; exact gone S6 fun s7 J7 => ⟨_, _, J7, q6⟩
        | ret u => obtain ⟨v6, σ6, H6, S6, r6, q6⟩ := hsp; exact gone S6 fun s7 J7 => ⟨_, _, _, J7, r6, q6⟩
  refine wpAny_mono ((hb _ (X.pn ++ pins) xe' takes PassesOwn.looking).run [] s σ H D (I.toTry _) h) (fun f s1 hsp => ?_) fun e s1 he => he
  cases f with
  | next => obtain ⟨σ1, H1, J1, q⟩ := hsp; exact wpAny_execs_nil ⟨σ1, H1, J1.ofTry ok, q⟩
  | brk => obtain ⟨σ1, H1, J1, q⟩ := hsp; exact ⟨σ1, H1, J1.ofTry ok, q⟩
  | cont => obtain ⟨σ1, H1, J1, q⟩ := hsp; exact ⟨σ1, H1, J1.ofTry ok, q⟩
  | ret u => obtain ⟨v1, σ1, H1, J1, r, q⟩ := hsp; exact ⟨v1, σ1, H1, J1.ofTry ok, r, q⟩
end
end Hy

set_option Elab.async false
set_option linter.all false
set_option maxRecDepth 100000
set_option maxHeartbeats 4000000
set_option autoImplicit false
namespace Hy
open PySem PySem.Spec PyProof.Rows L2
/-! ### what an except suite reckons: no store is changed -/
abbrev SX := D → HEnv → Option D
abbrev SXs := D → HEnv → Option (List D)
structure SuAt (K : PySem.W.Frag) (G F : Hp) (S : Sto) (env : HEnv) (x : D) (a : Addr) (cls : Value) (dd : Option Addr) (o : Option Nat) (σ : L2.St) (H : Hp) : Prop where
  rn : RepN K F env σ
  wd : Wd K G F S H
  rx : RepX K F x cls dd
  sl : ∀ i, o = some i → σ[i]? = some (some (.ref a))
theorem SuAt.le {K : PySem.W.Frag} {G F F' : Hp} {S : Sto} {env : HEnv} {x : D} {a : Addr} {cls : Value} {dd : Option Addr} {o : Option Nat} {σ : L2.St} {H H' : Hp} (h : SuAt K G F S env x a cls dd o σ H) (l : Le F F') (w : Wd K G F' S H') : SuAt K G F' S env x a cls dd o σ H' := ⟨h.rn.le l, w, h.rx.le l, h.sl⟩
def lX (K : PySem.W.Frag) (a : Addr) (cls : Value) (dd : Option Addr) (o : Option Nat) (t : SX) : TE := fun σ H Q => ∃ G F S env x d, SuAt K G F S env x a cls dd o σ H ∧ t x env = some d ∧ ∀ v F' H', Le F F' → Wd K G F' S H' → Rep K F' d v → Q v H'
def lXs (K : PySem.W.Frag) (a : Addr) (cls : Value) (dd : Option Addr) (o : Option Nat) (t : SXs) : TA := fun σ H Q => ∃ G F S env x ds, SuAt K G F S env x a cls dd o σ H ∧ t x env = some ds ∧ ∀ vs F' H', Le F F' → Wd K G F' S H' → Reps K F' ds vs → Q vs H'
/-- an expression of the suite of a clause for the class c, whose name is at slot o -/
structure HXE (B : Bs) (c : Nat) (o : Option Nat) (e : Expr) (t : SX) : Prop where
  run : ∀ (X : Cx) (a : Addr) (oe : Obj) (dd : Option Addr) (pn : List (Addr × Obj)), OkC B X → Zc (.ref (cad B.K c)) dd oe → (∃ vs, oe.data = .fields vs) → PE (X.suite a ((a, oe) :: pn)) e (lX B.K a (.ref (cad B.K c)) dd o t)
structure HXA (B : Bs) (c : Nat) (o : Option Nat) (es : List Expr) (t : SXs) : Prop where
  run : ∀ (X : Cx) (a : Addr) (oe : Obj) (dd : Option Addr) (pn : List (Addr × Obj)), OkC B X → Zc (.ref (cad B.K c)) dd oe → (∃ vs, oe.data = .fields vs) → PA (X.suite a ((a, oe) :: pn)) es (lXs B.K a (.ref (cad B.K c)) dd o t)
section
variable {B : Bs} {c : Nat} {o : Option Nat} {e b : Expr} {es : List Expr} {t u : SX} {r : SXs} {pos p p2 : Pos}
def xC (d : D) : SX := fun _ _ => some d
def xV (j : Nat) : SX := fun _ env => match env[j]? with
  | some (some d) => some d
  | _ => none
def xF (c j : Nat) : SX := fun x _ => match x with
  | .exc c' ds => match Nat.beq c' c with
    | true => ds[j]?
    | false => none
  | _ => none
def xGt (t u : SX) : SX := fun x env => match t x env, u x env with
  | some (.int i), some (.int j) => some (.bl (decide (j < i)))
  | _, _ => none
def xNil : SXs := fun _ _ => some []
def xCons (t : SX) (r : SXs) : SXs := fun x env => match t x env with
  | some d => match r x env with
    | some ds => some (d :: ds)
    | none => none
  | none => none
theorem hxconst {d : D} {v : V} (h : ∀ X, PE X e (tC v)) (r : ∀ K F, Rep K F d v) : HXE B c o e (xC d) :=
  ⟨fun X a oe dd pn ok hz hf => PE.imp (h _) fun σ H Q ⟨G, F, S, env, x, d', su, ed, hq⟩ => by cases ed; exact hq v F H Le.rfl' su.wd (r _ _)⟩
theorem hxint {i : Int} {j : Nat} : HXE B c o (.Constant (.int i) j pos) (xC (.int i)) := hxconst (fun _ => pe_int) fun _ _ => rfl
theorem hxbl {i : Bool} {j : Nat} : HXE B c o (.Constant (.bool i) j pos) (xC (.bl i)) := hxconst (fun _ => pe_bl) fun _ _ => rfl
theorem hxnon {j : Nat} : HXE B c o (.Constant .none j pos) (xC .non) := hxconst (fun _ => pe_non) fun _ _ => rfl
theorem hxstr {z : Str} {j : Nat} : HXE B c o (.Constant (.str z) j pos) (xC (.str z)) := hxconst (fun _ => pe_str) fun _ _ => rfl
theorem hxv (j : Nat) {n : Str} (hN : B.N[j]? = some n := by rfl) (hvis : Vis B.sc n := by first | exact Or.inl rfl | exact Or.inr (Or.inl rfl) | exact Or.inr (Or.inr rfl)) (hd : (n == ("__debug__" : Str)) = false := by decide) (hcd : (n == ("__classdict__" : Str)) = false := by decide) :
    HXE B c o (.Name n pos) (xV j) :=
  ⟨fun X a oe dd pn ok hz hf => PE.imp (pe_var (X := X.suite a ((a, oe) :: pn)) (i := j) (by show X.N[j]? = _; rw [ok.eN]; exact hN) (by show Vis X.env.scope n; rw [ok.es]; exact hvis) hd hcd) fun σ H Q ⟨G, F, S, env, x, d, su, ed, hq⟩ => by
    unfold xV at ed
    split at ed
    · rename_i d' e1
      cases ed
      obtain ⟨v, h1, h2⟩ := su.rn.get j _ e1
      exact ⟨v, h1, hq v F H Le.rfl' su.wd h2⟩
    · cases ed⟩
/-- e.f -/
theorem hxf (i j : Nat) {n f : Str} (T : ExcOk B.K c) (hj : (flds c)[j]? = some f) (hN : B.N[i]? = some n := by rfl) (hvis : Vis B.sc n := by first | exact Or.inl rfl | exact Or.inr (Or.inl rfl) | exact Or.inr (Or.inr rfl)) (hd : (n == ("__debug__" : Str)) = false := by decide)
    (hcd : (n == ("__classdict__" : Str)) = false := by decide) (hb : ∀ env, attributeBase (.Name n p) f env (eval (.Name n p) env) = eval (.Name n p) env := by intro _; rfl) : HXE B c (some i) (.Attribute (.Name n p) f pos) (xF c j) :=
  ⟨fun X a oe dd pn ok hz hf => PE.imp (pe_xf (X := X) (a := a) (cls := .ref (cad B.K c)) (d := dd) (C := cad B.K c) (by rw [ok.eK]; exact T.xf) (by rw [ok.eK]; exact T.no f (List.mem_of_getElem? hj)) hz hf
      (pe_var (X := X.suite a ((a, oe) :: pn)) (i := i) (by show X.N[i]? = _; rw [ok.eN]; exact hN) (by show Vis X.env.scope n; rw [ok.es]; exact hvis) hd hcd) (hb _)) fun σ H Q ⟨G, F, S, env, x, d, su, ed, hq⟩ => by
    refine ⟨.ref a, su.sl i rfl, rfl, rfl, ?_⟩
    unfold xF at ed
    split at ed
    · rename_i c' ds
      split at ed
      · rename_i ec
        obtain rfl := Nat.eq_of_beq_eq_true ec
        obtain ⟨_, q⟩ := (show _ = _ ∧ _ from su.rx)
        rcases q with ⟨rfl, _⟩ | ⟨q, l, rfl, hF, hl⟩
        · simp at ed
        · obtain ⟨v, h1, h2⟩ := hl j f d hj ed
          exact ⟨q, l, v, rfl, su.wd.fr _ _ hF, h1, hq v F H Le.rfl' su.wd h2⟩
      · cases ed
    · cases ed⟩
theorem hxnil : HXA B c o [] xNil := ⟨fun X a oe dd pn ok hz hf => PA.imp pa_nil fun σ H Q ⟨G, F, S, env, x, ds, su, ed, hq⟩ => by cases ed; exact hq [] F H Le.rfl' su.wd rfl⟩
theorem hxcons (h : HXE B c o e t) (q : HXA B c o es r) (hs : ∀ env, starEach (e :: es) env = (false, eval e env) :: starEach es env := by intro _; rfl) : HXA B c o (e :: es) (xCons t r) :=
  ⟨fun X a oe dd pn ok hz hf => PA.imp (pa_cons (h.run X a oe dd pn ok hz hf) (q.run X a oe dd pn ok hz hf) (hs _)) fun σ H Q ⟨G, F, S, env, x, ds, su, ed, hq⟩ => by
    unfold xCons at ed
    split at ed
    · rename_i d e1
      split at ed
      · rename_i ds' e2
        cases ed
        refine ⟨G, F, S, env, x, d, su, e1, fun v F1 H1 l1 w1 r1 => ⟨G, F1, S, env, x, ds', su.le l1 w1, e2, fun vs F2 H2 l2 w2 r2 => hq (v :: vs) F2 H2 (l1.trans l2) w2 ⟨v, vs, rfl, r1.le l2, r2⟩⟩⟩
      · cases ed
    · cases ed⟩
def xTup (r : SXs) : SX := fun x env => match r x env with
  | some ds => match Nat.ble ds.length 1000 with
    | true => some (.tup ds)
    | false => none
  | none => none
theorem hxtup {k : Nat} (h : HXA B c o es r) : HXE B c o (.Tuple es k pos) (xTup r) :=
  ⟨fun X a oe dd pn ok hz hf => PE.imp (pe_tup (h.run X a oe dd pn ok hz hf)) fun σ H Q ⟨G, F, S, env, x, d, su, ed, hq⟩ => by
    unfold xTup at ed
    split at ed
    · rename_i ds e1
      split at ed
      · rename_i e2
        cases ed
        refine ⟨G, F, S, env, x, ds, su, e1, fun vs F1 H1 l1 w1 r1 => ?_⟩
        have z := le_line (Nat.le_of_ble_eq_true e2)
        refine ⟨by rw [r1.len]; exact z, fun q hq' => ?_⟩
        obtain ⟨w', l'⟩ := w1.newF (.tup vs) hq'
        exact hq _ _ _ (l1.trans l') w' ⟨q, vs, rfl, SqT.of upd_same, r1.le l', z⟩
      · cases ed
    · cases ed⟩
theorem hxgt (ha : HXE B c o e t) (hb : HXE B c o b u) : HXE B c o (.Compare e [.Gt] [b] pos) (xGt t u) :=
  ⟨fun X a oe dd pn ok hz hf => PE.imp (pe_cmpR op_gt (ha.run X a oe dd pn ok hz hf) (hb.run X a oe dd pn ok hz hf) (nomark _)) fun σ H Q ⟨G, F, S, env, x, d, su, ed, hq⟩ => by
    unfold xGt at ed
    split at ed
    · rename_i i j e1 e2
      cases ed
      exact ⟨G, F, S, env, x, _, su, e1, fun v F1 H1 l1 w1 r1 => ⟨G, F1, S, env, x, _, su.le l1 w1, e2, fun v2 F2 H2 l2 w2 r2 => ⟨i, j, r1, r2, hq _ F2 H2 (l1.trans l2) w2 rfl⟩⟩⟩
    · cases ed⟩
/-! isinstance(e, T) -/
/-- a class as isinstance is asked for it of an exception of the class c -/
structure KitA (K : PySem.W.Frag) (c : Nat) (cv : Value) (ans : Bool) : Prop where
  ok : PySem.W.kitOne K (.ref (cad K c)) cv = some ans
theorem call_isX {X : Cx} {c : Nat} {a : Addr} {oe : Obj} {d : Option Addr} {pn : List (Addr × Obj)} (C : ExcOk X.K c) (hz : Zc (.ref (cad X.K c)) d oe) (hf : ∃ vs, oe.data = .fields vs) : CallR (X.suite a ((a, oe) :: pn)) (.builtin "isinstance")
    (fun xs H Q => ∃ (y : V) (cv : Value) (b : Bool), xs = [.ref a, y] ∧ (∀ u, RelV y u → u = cv) ∧ PySem.W.kitOne X.K (.ref (cad X.K c)) cv = some b ∧ (∀ dx, d = some dx → ∃ fs, H dx = some (.xd fs)) ∧ Q (.bl b) H) := by
  intro pins s σ H xs us Q I r h
  obtain ⟨y, cv, b, rfl, hcv, e, hd, q⟩ := h
  cases r with
  | cons rx rr =>
    cases rr with
    | cons rt rr =>
      cases rr
      cases rx
      obtain rfl := hcv _ rt
      obtain ⟨hget, _⟩ := I.pin (a, oe) (List.mem_append_left _ List.mem_cons_self)
      obtain ⟨vs, hv⟩ := hf
      have J : ∃ od, PySem.W.InstAt s.heap a oe (cad X.K c) od := by
        have nc : PySem.W.notCls oe = true := by unfold PySem.W.notCls; rw [hv] <;> rfl
        cases d with
        | none => exact ⟨none, hget, hz.1, nc, by rw [hz.2]; trivial⟩
        | some dx =>
          obtain ⟨fs, hx⟩ := hd dx rfl
          have hx2 : ObjOk X.prog X.w H s.heap dx (.xd fs) := I.hok dx _ hx
          obtain ⟨mA, hns, hr⟩ := hx2
          obtain ⟨od, ho, _⟩ := lookIn_ns hns
          exact ⟨some od, hget, hz.1, nc, by rw [hz.2]; exact ho⟩
      obtain ⟨od, J⟩ := J
      exact PySem.W.kia_one (PySem.W.kitx_exc (od := od) C.cl C.xf.ga C.xf.gg C.xf.exC C.ha C.hn C.tk C.hm) I.kIn J e (fun z => nomatch z) fun tk => ⟨.bl b, H, I.kept (t' := tk) fun _ _ z => z, rfl, q⟩
theorem su_dict {K : PySem.W.Frag} {F H : Hp} {x : D} {cls : Value} {dd : Option Addr} (l : Le F H) (r : RepX K F x cls dd) : ∀ dx, dd = some dx → ∃ fs, H dx = some (.xd fs) := by
  intro dx e
  cases x <;> first | exact r.elim | skip
  obtain ⟨_, q⟩ := (show _ = _ ∧ _ from r)
  rcases q with ⟨_, h⟩ | ⟨q, fs, h, hF, _⟩
  · rw [h] at e; cases e
  · rw [h] at e; cases e
    exact ⟨fs, l _ _ hF⟩
theorem hxisi {i : Nat} {n xc : Str} {c2 : Nat} {ans : Bool} {p3 : Pos} (T : ExcOk B.K c) (kit : KitA B.K c (.ref (cad B.K c2)) ans) (gi : Gn B "isinstance") (mi : B.mg "isinstance" = none) (gn : Gn B xc) (hm : B.mg (cname c2) = some (.ref (cad B.K c2))) (hx : cname c2 = xc := by rfl) (hN : B.N[i]? = some n := by rfl)
    (hvis : Vis B.sc n := by first | exact Or.inl rfl | exact Or.inr (Or.inl rfl) | exact Or.inr (Or.inr rfl)) (hd : (n == ("__debug__" : Str)) = false := by decide) (hcd : (n == ("__classdict__" : Str)) = false := by decide) (hdb : (xc == ("__debug__" : Str)) = false := by decide)
    (he : ∀ env, starEach [.Name n p2, .Name xc p] env = (false, eval (.Name n p2) env) :: starEach [.Name xc p] env := by intro _; rfl) (hs : ∀ env, starEach [Expr.Name xc p] env = (false, eval (.Name xc p) env) :: starEach [] env := by intro _; rfl) (hpl : ∀ env, (backTo pos (starEach [Expr.Name xc p] env)).any (·.1) = false := by intro _; rfl) :
    HXE B c (some i) (.Call (.Name "isinstance" p3) [.Name n p2, .Name xc p] [] pos) (xC (.bl ans)) := by
  subst hx
  exact ⟨fun X a oe dd pn ok hz hf => PE.imp (pe_callB (X := X.suite a ((a, oe) :: pn)) (call_isX (X := X) (c := c) (d := dd) (by rw [ok.eK]; exact T) (by rw [ok.eK]; exact hz) hf) (ok.gl gi) (by show X.mg _ = _; rw [ok.em]; exact mi) (by decide +kernel)
    (pa_cons (pe_var (X := X.suite a ((a, oe) :: pn)) (i := i) (by show X.N[i]? = _; rw [ok.eN]; exact hN) (by show Vis X.env.scope n; rw [ok.es]; exact hvis) hd hcd)
      (pa_cons (pe_glob (X := X.suite a ((a, oe) :: pn)) (v := .ref (cad B.K c2)) (ok.gl gn) (by show X.mg _ = _; rw [ok.em]; exact hm) rfl hdb) pa_nil (hs _)) (he _)) (by decide) (by decide) (he _) (hpl _)) fun σ H Q ⟨G, F, S, env, x, d, su, ed, hq⟩ => by
      cases ed
      exact ⟨.ref a, su.sl i rfl, .ref (cad B.K c2), .ref (cad B.K c2), ans, rfl, fun u r => r, by rw [ok.eK]; exact kit.ok, su_dict su.wd.fr su.rx, hq _ F H Le.rfl' su.wd rfl⟩⟩
end
end Hy

set_option Elab.async false
set_option linter.all false
set_option maxRecDepth 100000
set_option maxHeartbeats 4000000
set_option autoImplicit false
namespace Hy
open PySem PySem.Spec PyProof.Rows L2
/-! ### the suite of a clause: one store -/
def lU (K : PySem.W.Frag) (a : Addr) (cls : Value) (dd : Option Addr) (o : Option Nat) (t : D → HTS) : TS := fun D σ H => ∃ G F S env E x, SuAt K G F S env x a cls dd o σ H ∧ t x E env S ∧ OkN K G F E.nx D.nx
structure HSU (B : Bs) (c : Nat) (o : Option Nat) (su : List Stmt) (t : D → HTS) : Prop where
  run : ∀ (X : Cx) (a : Addr) (oe : Obj) (dd : Option Addr) (pn : List (Addr × Obj)), OkC B X → Zc (.ref (cad B.K c)) dd oe → (∃ vs, oe.data = .fields vs) → PSs (X.suite a ((a, oe) :: pn)) su (lU B.K a (.ref (cad B.K c)) dd o t)
def uSet (j : Nat) (t : SX) : D → HTS := fun x D env S => match t x env with
  | some d => D.nx (env.set j (some d)) S
  | none => False
section
variable {B : Bs} {c : Nat} {o : Option Nat} {e : Expr} {t : SX} {n : Str} {pos p : Pos}
theorem huset (j : Nat) (h : HXE B c o e t) (hN : B.N[j]? = some n := by rfl) (hl : B.sc.names.lookup n = some .local := by rfl) (hs : ∀ env, swapsWith e (some (.Name n p)) pos.line env = pure false := by intro _; rfl) : HSU B c o [.Assign [.Name n p] e pos] (uSet j t) :=
  ⟨fun X a oe dd pn ok hz hf => PSs.imp (pss_one (ps_set (X := X.suite a ((a, oe) :: pn)) (i := j) ok.nd (by show X.N[j]? = _; rw [ok.eN]; exact hN) (by show Loc X.env.scope n; rw [ok.es]; exact .inl hl) (h.run X a oe dd pn ok hz hf) (hs _) (by show _ ∨ X.env.scope.names.lookup n = _; rw [ok.es]; exact .inr hl)))
    fun D σ H ⟨G, F, S, env, E, x, su, q, o⟩ => by
      unfold uSet at q
      split at q
      · rename_i d ed
        exact ⟨G, F, S, env, x, d, su, ed, fun v F1 H1 l1 w1 r1 => o _ _ F1 S H1 l1 w1 ((su.rn.le l1).set r1 j) q⟩
      · exact q.elim⟩
end
/-! ### try -/
abbrev ClH := Nat × Option Nat × (D → HTS)
abbrev goneE (E : HEnds) (i : Nat) : HEnds := { E with nx := fun env S => E.nx (env.set i none) S }
def hClauses (cs : List Nat) : List ClH → D → HEnds → HEnv → Sto → Prop
  | [], x, E, env, S => E.ex x env S
  | (c, o, t) :: r, x, E, env, S => match x with
    | .exc c' _ => match memN c' cs with
      | true => match Nat.beq c' c with
        | true => match o with
          | none => t x E env S
          | some i => match Nat.blt i env.length with
            | true => t x (goneE E i) (env.set i none) S
            | false => False
        | false => hClauses cs r x E env S
      | false => False
    | _ => False
def hTry (cs : List Nat) (tb : HTS) (l : List ClH) : HTS := fun E env S => tb { E with ex := fun x env1 S1 => hClauses cs l x E env1 S1 } env S
/-- which of the text's exceptions a clause for c takes -/
structure ExmC (K : PySem.W.Frag) (c : Nat) (cs : List Nat) : Prop where
  ok : ∀ c' ∈ cs, PySem.W.exmOne K (.ref (cad K c')) (.ref (cad K c)) = some (Nat.beq c' c)
inductive HCls (B : Bs) (cs : List Nat) : List ExceptHandler → List ClH → Prop
  | nil : HCls B cs [] []
  | bare {x : Str} {c : Nat} {t : D → HTS} {b0 : Stmt} {su : List Stmt} {np p : Pos} {hs : List ExceptHandler} {l : List ClH} (gn : Gn B x) (hm : B.mg (cname c) = some (.ref (cad B.K c))) (hx : cname c = x) (hdb : (x == ("__debug__" : Str)) = false) (ex : ExmC B.K c cs) (ok : HSU B c none (b0 :: su) t) (r : HCls B cs hs l) :
      HCls B cs (.ExceptHandler (some (.Name x np)) none (b0 :: su) p :: hs) ((c, none, t) :: l)
  | as_ {x n : Str} {i : Nat} {c : Nat} {t : D → HTS} {b0 : Stmt} {su : List Stmt} {np p : Pos} {hs : List ExceptHandler} {l : List ClH} (gn : Gn B x) (hm : B.mg (cname c) = some (.ref (cad B.K c))) (hx : cname c = x) (hdb : (x == ("__debug__" : Str)) = false) (ex : ExmC B.K c cs) (hi : B.N[i]? = some n) (hl : B.sc.names.lookup n = some .local) (ok : HSU B c (some i) (b0 :: su) t) (r : HCls B cs hs l) :
      HCls B cs (.ExceptHandler (some (.Name x np)) (some n) (b0 :: su) p :: hs) ((c, some i, t) :: l)
theorem OkC.tr {B : Bs} {X : Cx} (ok : OkC B X) (pn : List (Addr × Obj)) (xe : Value → Shared → Prop) (own : PassesOwn (model X.prog X.w) X.A X.env xe) : OkC B (X.tr pn xe) := ⟨ok.eP, ok.ew, ok.eK, ok.em, ok.eb, ok.eN, ok.es, ok.nd, ok.calm, ok.room, ok.fn, own, ok.stk⟩
/-- the clauses, as the rule for try wants them -/
def clX (B : Bs) : List ClH → List ClX
  | [] => []
  | (c, o, t) :: r => (.ref (cad B.K c), o, fun a cls dd D σ H => cls = .ref (cad B.K c) ∧ lU B.K a (.ref (cad B.K c)) dd o t D σ H) :: clX B r
theorem HCls.hds {B : Bs} {X : Cx} {cs : List Nat} (ok : OkC B X) {hs : List ExceptHandler} {l : List ClH} (h : HCls B cs hs l) : HdsX X hs (clX B l) := by
  induction h with
  | nil => exact .nil
  | @bare x c t b0 su np p hs l gn hm hx hdb ex hsu r ih =>
    refine .bare ⟨ok.gl gn, hdb, .inl (by rw [ok.em, ← hx]; exact hm)⟩ (fun a oe cls d pn hz hf => ⟨fun pins s σ H D I ⟨e, q⟩ => ?_⟩) ih
    subst e
    exact (hsu.run X a oe d pn ok hz hf).run pins s σ H D I q
  | @as_ x n i c t b0 su np p hs l gn hm hx hdb ex hi hl hsu r ih =>
    refine .as_ ⟨ok.gl gn, hdb, .inl (by rw [ok.em, ← hx]; exact hm)⟩ (by rw [ok.eN]; exact hi) (by show X.env.scope.names.lookup n = _; rw [ok.es]; exact hl) (fun a oe cls d pn hz hf => ⟨fun pins s σ H D I ⟨e, q⟩ => ?_⟩) ih
    subst e
    exact (hsu.run X a oe d pn ok hz hf).run pins s σ H D I q
theorem RepN.hide {K : PySem.W.Frag} {F : Hp} {env : HEnv} {σ : L2.St} (r : RepN K F env σ) (i : Nat) (v : Option V) : RepN K F (env.set i none) (σ.set i v) :=
  ⟨by simp [r.len], fun j d e => by
    by_cases hj : j = i
    · subst hj
      have hl : j < env.length := by
        rcases Nat.lt_or_ge j env.length with z | z
        · exact z
        · rw [List.getElem?_eq_none (by simpa using z)] at e; cases e
      rw [List.getElem?_set_self hl] at e
      cases e
    · rw [List.getElem?_set_ne (Ne.symm hj)] at e ⊢
      exact r.get j d e⟩
theorem clauses_ok {B : Bs} {cs : List Nat} {Wo : WX} {G F : Hp} {E : HEnds} {De : Ends} (o : OkS B.K G F E De Wo) {hs : List ExceptHandler} {l : List ClH} (hh : HCls B cs hs l) : ∀ {x : D} {cls : Value} {dd : Option Addr} {env : HEnv} {σ : L2.St} {F' : Hp} {S' : Sto} {H' : Hp}, Le F F' → Wd B.K G F' S' H' → RepN B.K F' env σ → RepX B.K F' x cls dd → hClauses cs l x E env S' → wMix B.K Wo De (clX B l) cls dd σ H' := by
  induction hh with
  | nil => exact fun l w rn rx q => o.ex _ _ _ _ _ _ _ _ l w rn rx q
  | @bare xn c t b0 su np p hs l gn hm hx hdb ex hsu r ih =>
    intro x cls dd env σ F' S' H' le w rn rx q
    cases x <;> first | exact rx.elim | skip
    rename_i c' ds
    obtain ⟨ec, rx2⟩ := (show _ = _ ∧ _ from rx)
    subst ec
    unfold hClauses at q
    dsimp only at q
    split at q
    · rename_i em
      refine ⟨_, ex.ok c' (memN_ok em), fun eb a ha => ?_, fun eb => ?_⟩
      · obtain rfl := Nat.eq_of_beq_eq_true eb
        rw [eb] at q
        exact ⟨rfl, G, F', S', env, E, _, ⟨rn, w, rx, fun i e => by cases e⟩, q, fun env1 σ1 F1 S1 H1 l1 w1 rn1 q1 => o.nx env1 σ1 F1 S1 H1 (le.trans l1) w1 rn1 q1⟩
      · rw [eb] at q
        exact ih le w rn rx q
    · exact q.elim
  | @as_ xn n i c t b0 su np p hs l gn hm hx hdb ex hi hl hsu r ih =>
    intro x cls dd env σ F' S' H' le w rn rx q
    cases x <;> first | exact rx.elim | skip
    rename_i c' ds
    obtain ⟨ec, rx2⟩ := (show _ = _ ∧ _ from rx)
    subst ec
    unfold hClauses at q
    dsimp only at q
    split at q
    · rename_i em
      refine ⟨_, ex.ok c' (memN_ok em), fun eb a ha => ?_, fun eb => ?_⟩
      · obtain rfl := Nat.eq_of_beq_eq_true eb
        rw [eb] at q
        dsimp only at q
        split at q <;> first | exact q.elim | skip
        rename_i el
        refine ⟨rfl, G, F', S', env.set i none, goneE E i, _, ⟨rn.hide i _, w, rx, fun j e => ?_⟩, q, fun env1 σ1 F1 S1 H1 l1 w1 rn1 q1 => o.nx _ _ F1 S1 H1 (le.trans l1) w1 (rn1.unset i) q1⟩
        cases e
        exact List.getElem?_set_self (by rw [← rn.len]; exact blt_lt el)
      · rw [eb] at q
        exact ih le w rn rx q
    · exact q.elim
section
variable {B : Bs} {body : List Stmt} {h0 : ExceptHandler} {hds : List ExceptHandler} {pos : Pos} {tb : HTS} {l : List ClH} {cs : List Nat}
theorem htry (ht : B.top = true) (hb : HSs B body tb) (hh : HCls B cs (h0 :: hds) l) : HS B (.Try body (h0 :: hds) [] [] pos) (hTry cs tb l) :=
  ⟨fun X W ok tk => by
    obtain ⟨s1, s2, s3⟩ := ok.stk ht
    refine PS.imp (ps_try_mix (Wo := W) (tb := fun W => lS B.K W tb) s1 s2 ok.nd tk (fun W pn xe tk' own => hb.run _ W (ok.tr pn xe own) tk') (hh.hds ok)) fun D σ H ⟨G, F, S, env, E, rn, wd, h, o⟩ => ?_
    rw [ok.eK]
    exact ⟨G, F, S, env, _, rn, wd, h, ⟨o.nx, o.rt, o.bk, o.ct, fun x cls dd env1 σ1 F1 S1 H1 l1 w1 rn1 rx q => clauses_ok o hh l1 w1 rn1 rx q⟩⟩⟩
end
end Hy

set_option Elab.async false
set_option linter.all false
set_option maxRecDepth 100000
set_option maxHeartbeats 4000000
set_option autoImplicit false
/-! ### enumerate of a tuple -/
namespace PySem
set_option maxHeartbeats 1000000 in
theorem hyEnum1 {v : Value} {o : Obj} {H : Heap → Prop} (B : Begins v o H) :
    Meets (Builtin.«enumerate.__new__» ⟨[.type "enumerate", v], []⟩) (fun _ R s => H s.heap ∧
      R (.ok (.ret (.ref (s.heap.push o).objs.size))) { s with heap := (s.heap.push o).push { cls := .type "enumerate", data := .fields #[.none, .bool false, .ref s.heap.objs.size, rawInt 0, .none, .none] } }) :=
  .of_wp fun prog w A R s h => by
    obtain ⟨hp, g, d, tk, os⟩ := s; obtain ⟨h1, h⟩ := h
    have hs := sub_enumerate
    have it : ∀ {A' : Around} {E : Value → Shared → Prop} {Q : Value → Shared → Prop}, Q (.ref hp.objs.size) ⟨hp.push o, g, d, tk, os⟩ → wpAny (model prog w) A' (pyIter v) Q E ⟨hp, g, d, tk, os⟩ := fun q => B.iter prog w _ _ ⟨hp, g, d, tk, os⟩ _ h1 q
    wp_walk using it
    refine wpAny_stack_any fun st => wpAny_pure ?_
    split
    · rename_i c _ _ _ _ _
      cases (c == Value.type "enumerate")
      · wp_walk using it
        exact ⟨_, rfl, h⟩
      · wp_walk using it
        exact ⟨_, rfl, h⟩
    · wp_walk using it
      exact ⟨_, rfl, h⟩
theorem hyEnum {prog : Program} {w : World} {A : Around} {E : Value → Shared → Prop} {s : Shared} {v : Value} {o : Obj} {H : Heap → Prop} {Q : Value → Shared → Prop} (B : Begins v o H) (h1 : H s.heap)
    (h : ∀ h', IsEnum h' (s.heap.objs.size + 1) s.heap.objs.size 0 .none → h'.get? s.heap.objs.size = some o → (∀ b o, s.heap.get? b = some o → h'.get? b = some o) → Q (.ref (s.heap.objs.size + 1)) { s with heap := h' }) :
    wpAny (model prog w) A (call (.type "enumerate") [v]) Q E s := by
  refine callType_new F.called_enumerate (by decide) (F.typeCall_enumerate_1 _) (F.newCall_enumerate_1 _) (fun obj => F.args_object_init_2 obj _) F.entry_enumerate_new (hyEnum1 B) ⟨h1, ?_⟩
  have hz : (s.heap.push o).objs.size = s.heap.objs.size + 1 := Heap.size_push ..
  show _ ∧ _
  rw [hz]
  have he : IsEnum ((s.heap.push o).push { cls := .type "enumerate", data := .fields #[.none, .bool false, .ref s.heap.objs.size, rawInt 0, .none, .none] }) (s.heap.objs.size + 1) s.heap.objs.size 0 .none := by
    have := Heap.get?_push_size (s.heap.push o) (o := { cls := .type "enumerate", data := .fields #[.none, .bool false, .ref s.heap.objs.size, rawInt 0, .none, .none] }) rfl
    rw [hz] at this
    exact this
  exact ⟨⟨_, he, rfl⟩, h _ he (Heap.get?_push_of_some _ (Heap.get?_push_size _ B.free)) fun b o x => Heap.get?_push_of_some _ (Heap.get?_push_of_some _ x)⟩
end PySem
namespace Hy
open PySem PySem.Spec PyProof.Rows L2
def Itu (K : PySem.W.Frag) (a : Addr) : It :=
  ⟨fun i H => ∃ (xs : List V) (x : V), SqT K H a xs ∧ xs[i]? = some x, fun i H v H' => ∃ T x, v = .ref T ∧ H T = none ∧ H' = upd H T (.tup [.int (i : Nat), x]) ∧ ∀ xs, SqT K H a xs → xs[i]? = some x, fun i H => ∃ xs : List V, SqT K H a xs ∧ xs.length ≤ i⟩
theorem turn_enumT {P : Program} {w : World} {K : PySem.W.Frag} {elts : List Expr} {kk : Nat} {tpos : Pos} (a e it : Addr) :
    Turn P w K (.Tuple elts kk tpos) (Itu K a) [e, it] e (fun i h => (∃ old, IsEnum h e it ((i : Nat) : Int) old) ∧ h.IsTupleIter it a i ∧ e ≠ it) where
  mem := by simp
  obj := fun i h st b hb => by
    obtain ⟨⟨old, he⟩, ⟨o, ho, hc, hd⟩, _⟩ := st
    have hb2 : b = e ∨ b = it := by simpa using hb
    rcases hb2 with rfl | rfl
    · exact ⟨_, he, fun v q => nomatch q⟩
    · exact ⟨o, ho, fun v q => by rw [hd] at q; cases q⟩
  keep := fun i h h' st k => let ⟨⟨old, he⟩, hi, hne⟩ := st; ⟨⟨old, k e (by simp) _ he⟩, hi.at fun o q => k it (by simp) o q, hne⟩
  item := by
    intro X hP hw hK hc i pins s σ H E I hf st hg
    subst hP hw hK
    obtain ⟨⟨old, he⟩, hit, hne⟩ := st
    obtain ⟨xs, x, hq, hx⟩ := hg
    obtain ⟨its, rv, p, hz⟩ := I.tuple hq
    obtain ⟨u, hu, ru⟩ := rv.get hx
    have hel : e < s.heap.objs.size := Heap.lt_size he
    have hil : it < s.heap.objs.size := by obtain ⟨_, q, _⟩ := hit; exact Heap.lt_size q
    have pt : s.heap.IsTuple a its.toArray := p
    have nea : a ≠ e := fun z => by
      subst z
      obtain ⟨o1, q1, q2, _⟩ := pt
      rw [he] at q1
      cases q1
      exact absurd (Value.type.inj q2) (by decide)
    have net : a ≠ it := fun z => by
      subst z
      obtain ⟨o1, q1, q2, _⟩ := pt
      obtain ⟨o2, q3, q4, _⟩ := hit
      rw [q1] at q3
      cases q3
      rw [q2] at q4
      exact absurd (Value.type.inj q4) (by decide)
    have hlt : i < its.toArray.size := by
      have := (List.getElem?_eq_some_iff.mp hu).1
      simpa using this
    refine wpAny_pyNext_enum_itemC (Draws.tuple (prog := X.prog) (w := X.w) (A := X.A.in1) (I.ok.hd hc) it a net its.toArray) he ⟨hit, pt⟩ hlt hne (by simp [hne, Ne.symm nea]) fun y h' tk hy ho hst' hT hsz hk => ?_
    have hyu : y = u := by
      have e1 : its.toArray[i]? = some u := by simpa using hu
      rw [e1] at hy
      exact (Option.some.inj hy).symm
    subst hyu
    refine ⟨_, rfl, wpAny_letOwnedTupleGo_enum (s := { s with heap := h', toks := tk + 1 }) ho fun h'' he' sb => ?_⟩
    have hT2 : h''.get? s.heap.objs.size = some { cls := .type "tuple", data := .seq #[.int i tk, y] } := (sb.2 _ (Nat.ne_of_gt hel)).trans hT
    have new : ObjOk X.prog X.w (upd H s.heap.objs.size (.tup [.int (i : Nat), x])) h'' s.heap.objs.size (.tup [.int (i : Nat), x]) :=
      ⟨by show 2 ≤ sizeLine; decide, [.int i tk, y], .cons ⟨_, rfl⟩ (.cons ru .nil), ⟨_, hT2, rfl, _, rfl⟩⟩
    have I1 : L2.Inv X pins σ (upd H s.heap.objs.size (.tup [.int (i : Nat), x])) { s with heap := h'', toks := tk + 1 } :=
      I.turnedNew (ch := [e, it]) (fun b ob hb q => (sb.2 b (fun z => hb (by simp [z]))).trans (hk b ob (fun z => hb (by simp [z])) (fun z => hb (by simp [z])) q)) hf (Nat.le_refl _) new
    refine ⟨.ref s.heap.objs.size, _, I1, rfl, ⟨_, x, rfl, I.hok.fresh (Nat.le_refl _), rfl, fun ys hy => by rw [I.tuple_inj hy hq]; exact hx⟩, ⟨⟨y, ?_⟩, hst'.1.at fun o q => (sb.2 it (Ne.symm hne)).trans q, hne⟩, fun b hb => ?_⟩
    · rw [show ((i + 1 : Nat) : Int) = (i : Int) + 1 by omega]
      exact he'
    · have hb' : b < s.heap.objs.size := by
        have hb2 : b = e ∨ b = it := by simpa using hb
        rcases hb2 with rfl | rfl
        · exact hel
        · exact hil
      rw [upd_ne (Nat.ne_of_lt hb')]
      exact (hf b hb).1
  done := by
    intro X hP hw hK hc i pins s σ H E I hf st hg
    subst hP hw hK
    obtain ⟨⟨old, he⟩, hit, hne⟩ := st
    obtain ⟨xs, hq, hx⟩ := hg
    obtain ⟨its, rv, p, hz⟩ := I.tuple hq
    obtain ⟨f0, f1, f2, f3, f4, f5⟩ := hf it (by simp)
    have pt : s.heap.IsTuple a its.toArray := p
    have hT : s.TypeIs (.ref e) "enumerate" := ⟨_, he, rfl⟩
    have hl := rv.length
    unfold pyNext
    refine wpAny_bind (wpAny_attempt (wpAny_callSpecial?_slot (name := Str.ofString "__next__") hT F.slot_enumerate_next (wpAny_call_entry F.slot_enumerate_next hT F.entry_enumerate_next ?_ (F.args_enumerate_next_1 _))))
    show wpAny _ _ (field (.ref e) 2 >>= _) _ _ _
    refine wpAny_bind (wpAny_field he rfl (x := .ref it) rfl ?_)
    refine wpAny_bind (wpAny_nextOf_tuple_end (I.ok.hd hc) hit pt (by simp; omega) fun h' x he' hx' => ?_)
    obtain ⟨o, ho, hc'⟩ := hx'
    refine wpAny_bind (wpAny_isInstance (T := "StopIteration") (b := true) ⟨o, ho, hc'⟩ isSubtype_stop ?_)
    exact wpAny_pure ⟨rfl, I.turned (t' := s.toks) (fun b o hb q => he' b o hb q) f0 f1 f3 f4 f5⟩
  self := fun A i s Q E st h => let ⟨⟨_, he⟩, _⟩ := st; wpAny_pyIter_enum he h
end Hy

set_option Elab.async false
set_option linter.all false
set_option maxRecDepth 100000
set_option maxHeartbeats 4000000
set_option autoImplicit false
namespace Hy
open PySem PySem.Spec PyProof.Rows L2
/-! ### enumerate -/
abbrev iEnumG (K : PySem.W.Frag) (ta : TA) : TI := fun σ H R => ta σ H fun vs H1 => ∃ a xs, vs = [.ref a] ∧ ((SqL K H1 a xs ∧ R (Ite K a) H1) ∨ (SqT K H1 a xs ∧ R (Itu K a) H1))
theorem pi_enumG {X : Cx} {e : Expr} {ta : TA} {p pos tpos : Pos} {elts : List Expr} {kk : Nat} (hg : Gl X "enumerate") (hm : X.mg "enumerate" = none) (ha : PA X [e] ta) (hs : starEach [e] X.env = [(false, eval e X.env)]) :
    PI X (.Tuple elts kk tpos) (.Call (.Name "enumerate" p) [e] [] pos) (iEnumG X.K ta) := by
  refine ⟨fun pins s σ H R I h => Call_ (ld_blt I hg hm boot_enumerate (PyProof.Rows.callWith_type1 (thn (ha.run pos pins s σ H _ I h) fun us s1 ⟨vs, H1, I1, r1, a, xs, ex, q⟩ => ?_) hs rfl))⟩
  subst ex
  cases r1 with
  | cons r rr =>
    cases rr
    cases r
    have big : ∀ b, b = s1.heap.objs.size + 1 ∨ b = s1.heap.objs.size → s1.heap.objs.size ≤ b := fun b z => by
      rcases z with z | z
      · rw [z]; exact Nat.le_add_right _ _
      · rw [z]; exact Nat.le_refl _
    rcases q with ⟨hq, q⟩ | ⟨hq, q⟩
    · obtain ⟨its, rv, p', hz⟩ := I1.list hq
      refine call_enumerate_list p'.isList fun h' he hit hsz hk => wpAny_pyIter_enum he ?_
      refine ⟨s1.heap.objs.size + 1, [s1.heap.objs.size + 1, s1.heap.objs.size], _, _, H1, rfl, I1.kept (t' := s1.toks) hk, turn_enum a (s1.heap.objs.size + 1) s1.heap.objs.size, ⟨⟨.none, he⟩, hit, Nat.succ_ne_self _⟩, fun b hb => ?_, q⟩
      have hle := big b (by simpa using hb)
      exact I1.fpOk hle (I1.hok.fresh hle)
    · obtain ⟨its, rv, p', hz⟩ := I1.tuple hq
      have pt : s1.heap.IsTuple a its.toArray := p'
      refine hyEnum (begins_tuple a its.toArray) pt fun h' he hit hk => wpAny_pyIter_enum he ?_
      refine ⟨s1.heap.objs.size + 1, [s1.heap.objs.size + 1, s1.heap.objs.size], _, _, H1, rfl, I1.kept (t' := s1.toks) hk, turn_enumT a (s1.heap.objs.size + 1) s1.heap.objs.size, ⟨⟨.none, he⟩, ⟨_, hit, rfl, rfl⟩, Nat.succ_ne_self _⟩, fun b hb => ?_, q⟩
      have hle := big b (by simpa using hb)
      exact I1.fpOk hle (I1.hok.fresh hle)
/-- the pairs of a row's numbers and items -/
def enumD : Nat → List D → List D
  | _, [] => []
  | i, d :: ds => .tup [.int (i : Nat), d] :: enumD (i + 1) ds
theorem enumD_len : ∀ (i : Nat) (ds : List D), (enumD i ds).length = ds.length
  | _, [] => rfl
  | i, d :: ds => by show (enumD (i + 1) ds).length + 1 = _; rw [enumD_len (i + 1) ds] <;> rfl
theorem enumD_at : ∀ (k : Nat) (ds : List D) (i : Nat) (d : D), ds[i]? = some d → (enumD k ds)[i]? = some (.tup [.int ((k + i : Nat)), d])
  | _, [], _, _, h => by simp at h
  | k, d' :: ds, 0, d, h => by simp at h; subst h; rfl
  | k, d' :: ds, i + 1, d, h => by
    have := enumD_at (k + 1) ds i d (by simpa using h)
    rw [show k + 1 + i = k + (i + 1) by omega] at this
    simpa [enumD] using this
theorem new_pair {K : PySem.W.Frag} {G F : Hp} {S : Sto} {H : Hp} {T : Addr} {i : Nat} {d : D} {v : V} (w : Wd K G F S H) (hT : H T = none) (r : Rep K F d v) : ∃ F2, Le F F2 ∧ Wd K G F2 S (upd H T (.tup [.int (i : Nat), v])) ∧ Rep K F2 (.tup [.int (i : Nat), d]) (.ref T) := by
  obtain ⟨w', l'⟩ := w.newF (.tup [.int (i : Nat), v]) hT
  exact ⟨_, l', w', T, _, rfl, SqT.of upd_same, ⟨_, _, rfl, rfl, Reps.one (r.le l')⟩, by show 2 ≤ sizeLine; decide⟩
theorem iter_eL {K : PySem.W.Frag} {G F : Hp} {a : Addr} {ds : List D} {k : Ck} (z : ds.length ≤ sizeLine)
    (st : ∀ G1 F1 S1 H, Le G G1 → Le F F1 → Wd K G1 F1 S1 H → chk k S1 True → ∃ us, SqL K H a us ∧ Reps K F1 ds us) : IterOk K G F (enumD 0 ds) k (Ite K a) := by
  refine ⟨⟨fun i H hi ⟨F1, S1, l, w, c⟩ => ?_, fun H ⟨F1, S1, l, w, c⟩ => ?_, fun i H x H' hi _ y G1 F1 S1 lg l w c => ?_⟩, by rw [enumD_len]; exact z⟩
  · rw [enumD_len] at hi
    obtain ⟨us, h1, h2⟩ := st G F1 S1 H Le.rfl' l w c
    obtain ⟨v, h3, _⟩ := h2.at (i := i) (d := ds[i]) (by simp [hi])
    exact ⟨us, v, h1, h3⟩
  · obtain ⟨us, h1, h2⟩ := st G F1 S1 H Le.rfl' l w c
    exact ⟨us, h1, by rw [h2.len, enumD_len]; exact Nat.le_refl _⟩
  · obtain ⟨us, h1, h2⟩ := st G1 F1 S1 H lg l w c
    obtain ⟨T, v, rfl, hT, rfl, y⟩ := y
    obtain ⟨d, h3, h4⟩ := h2.at' (y us h1)
    obtain ⟨F2, l2, w2, r2⟩ := new_pair (i := i) w hT h4
    exact ⟨_, F2, by rw [enumD_at 0 ds i d h3, Nat.zero_add], l2, w2, r2⟩
theorem iter_eT {K : PySem.W.Frag} {G F : Hp} {a : Addr} {ds : List D} {vs : List V} {k : Ck} (hs : SqT K F a vs) (rs : Reps K F ds vs) (z : ds.length ≤ sizeLine) : IterOk K G F (enumD 0 ds) k (Itu K a) := by
  refine ⟨⟨fun i H hi ⟨F1, S1, l, w, c⟩ => ?_, fun H ⟨F1, S1, l, w, c⟩ => ?_, fun i H x H' hi _ y G1 F1 S1 lg l w c => ?_⟩, by rw [enumD_len]; exact z⟩
  · rw [enumD_len] at hi
    obtain ⟨v, h3, _⟩ := rs.at (i := i) (d := ds[i]) (by simp [hi])
    exact ⟨vs, v, SqT.le (l.trans w.fr) hs, h3⟩
  · exact ⟨vs, SqT.le (l.trans w.fr) hs, by rw [rs.len, enumD_len]; exact Nat.le_refl _⟩
  · obtain ⟨T, v, rfl, hT, rfl, y⟩ := y
    obtain ⟨d, h3, h4⟩ := rs.at' (y vs (SqT.le (l.trans w.fr) hs))
    obtain ⟨F2, l2, w2, r2⟩ := new_pair (i := i) w hT (h4.le l)
    exact ⟨_, F2, by rw [enumD_at 0 ds i d h3, Nat.zero_add], l2, w2, r2⟩
def hiEnum (t : HTA) : HTI := fun env S R E => t env S (fun ds S1 => match ds with
  | [x] => match items S1 x with
    | some xs => R (enumD 0 xs) (ckOf x xs) S1
    | none => False
  | _ => False) E
section
variable {B : Bs} {e : Expr} {tr : HTA} {p pos tpos : Pos} {elts : List Expr} {kk : Nat}
theorem hienum (gn : Gn B "enumerate") (hm : B.mg "enumerate" = none) (ha : HA B [e] tr) (hs : ∀ env, starEach [e] env = [(false, eval e env)] := by intro _; rfl) : HI B (.Tuple elts kk tpos) (.Call (.Name "enumerate" p) [e] [] pos) (hiEnum tr) :=
  ⟨fun X W ok tk => PI.imp (pi_enumG (ok.gl gn) (by rw [ok.em]; exact hm) (ha.run X W ok tk) (hs _)) fun σ H R ⟨G, F, S, env, R0, E0, rn, wd, h, hr, he⟩ =>
    ⟨G, F, S, env, _, E0, rn, wd, h, fun ds vs F1 S1 H1 l1 w1 r1 h1 => by
      dsimp only at h1
      split at h1
      · rename_i x
        obtain ⟨v, rfl, r⟩ := r1.one_inv
        split at h1
        · rename_i xs ed
          rw [ok.eK]
          cases x with
          | tup es =>
            cases ed
            obtain ⟨a, us, rfl, hs, rs, z⟩ := r
            exact ⟨a, us, rfl, .inr ⟨SqT.le w1.fr hs, hr _ _ F1 S1 H1 _ l1 w1 (iter_eT hs rs z) h1⟩⟩
          | lst es =>
            cases ed
            obtain ⟨a, us, rfl, hs, rs, z⟩ := r
            exact ⟨a, us, rfl, .inl ⟨SqL.of (w1.fr _ _ hs), hr _ _ F1 S1 H1 _ l1 w1 (iter_eL z fun G2 F2 S2 H2 lg l2 w2 _ => ⟨us, SqL.of (w2.fr _ _ (l2 _ _ hs)), rs.le l2⟩) h1⟩⟩
          | rls es =>
            cases ed
            obtain ⟨a, us, rfl, hs, rs, z⟩ := r
            exact ⟨a, us, rfl, .inl ⟨SqL.le w1.fr hs, hr _ _ F1 S1 H1 _ l1 w1 (iter_eL z fun G2 F2 S2 H2 lg l2 w2 _ => ⟨us, SqL.le (l2.trans w2.fr) hs, rs.le l2⟩) h1⟩⟩
          | ref q =>
            obtain rfl : v = .ref q := r
            simp only [items] at ed
            split at ed
            · rename_i es eq
              cases ed
              obtain ⟨us, g1, g2, g3⟩ := lstAt w1 eq
              exact ⟨q, us, rfl, .inl ⟨SqL.of g1, hr _ _ F1 S1 H1 _ l1 w1 (iter_eL g3 fun G2 F2 S2 H2 lg l2 w2 c => by
                obtain ⟨us, k1, k2, _⟩ := lstAt w2 c.1
                exact ⟨us, SqL.of k1, k2⟩) h1⟩⟩
            · cases ed
          | _ => cases ed
        · exact h1.elim
      · exact h1.elim, he⟩⟩
end
/-! ### own in, own [] -/
structure HInOwn (B : Bs) (k c : Nat) (sp : HSp) : Prop where
  ex : ∃ f, PySem.W.findIn B.K (.ref (cad B.K c)) "__contains__" = some (some (.ref f)) ∧ PySem.W.isFn B.K (.ref f) = true ∧ FnAt B k f 2 [] sp
  cl : Cls B.K (cad B.K c)
theorem HInOwn.in_ {B : Bs} {k k' c : Nat} {N : List Str} {sc : Scope} {top : Bool} {own : Str → Bool} {sp : HSp} (h : HInOwn B k c sp) : HInOwn ⟨B.P, B.w, B.K, B.mg, B.base, k', N, sc, top, own⟩ k c sp := ⟨let ⟨f, a, b, d⟩ := h.ex; ⟨f, a, b, ⟨d.ex⟩⟩, h.cl⟩
theorem HInOwn.mono {B : Bs} {j k c : Nat} {sp : HSp} (h : HInOwn B j c sp) (l : j ≤ k) : HInOwn B k c sp := ⟨let ⟨f, a, b, d⟩ := h.ex; ⟨f, a, b, d.mono l⟩, h.cl⟩
def hInO (c : Nat) (sp : HSp) (neg : Bool) (ta to : HTE) : HTE := fun env S Q E => ta env S (fun y S1 => to env S1 (fun x S2 => match isC c S2 x with
  | true => sp [x, y] S2 (fun r S3 => match r with
    | .bl b => Q (.bl (ng neg b)) S3
    | _ => False) (fun _ _ => False)
  | false => False) E) E
def rInO (K : PySem.W.Frag) (c : Nat) (neg : Bool) (sp : HSp) : R2 := fun y x H Q => ∃ G F S d1 d2 Q0, Wd K G F S H ∧ Rep K F d1 x ∧ Rep K F d2 y ∧ isC c S d1 = true ∧ sp [d1, d2] S Q0 (fun _ _ => False) ∧
  ∀ d v F' S' H', Le F F' → Wd K G F' S' H' → Rep K F' d v → Q0 d S' → ∃ k, d = .bl k ∧ Q (.bl (ng neg k)) H'
section
variable {B : Bs} {k c : Nat} {sp : HSp} {a b o : Expr} {ta tb to : HTE} {pos : Pos}
theorem in_call {X : Cx} {neg : Bool} {pins : List (Addr × Obj)} {s : Shared} {σ : L2.St} {H : Hp} {x y : V} {u v : Value} {Q : VK} (ok : OkC B X) (h : HInOwn B k c sp) (hk : k ≤ B.k) (I : L2.Inv X pins σ H s) (rx : RelV x u) (ry : RelV y v) (hq : rInO X.K c neg sp x y H Q) :
    ∃ (aa : Addr) (f : Addr) (ox od : _), v = .ref aa ∧ PySem.W.InstAt s.heap aa ox (cad X.K c) od ∧ PySem.W.findIn X.K (.ref (cad X.K c)) "__contains__" = some (some (.ref f)) ∧ PySem.W.isFn X.K (.ref f) = true ∧
      wpAny (model X.prog X.w) X.A (call (.ref f) [.ref aa, u]) (fun r s' => ∃ kk H', r = .bool kk ∧ L2.Inv X pins σ H' s' ∧ Q (.bl (ng neg kk)) H') X.xe s := by
  obtain ⟨G, F, S, d1, d2, Q0, w, r1, r2, c1, hsp, hh⟩ := hq
  obtain ⟨f, hs, hf, hat⟩ := h.ex
  obtain ⟨fd, ps, ds, dvs, hn, hb, hv, hd, hF⟩ := hat.ex
  rw [← ok.eK] at hs hf hb hd
  have hF := ok.fnOk hF
  rw [← ok.eK] at hF
  have e0 : dvs = [] := by have := (hd F).len; exact List.eq_nil_of_length_eq_zero (by simpa using this)
  subst e0
  have e1 : ds = [] := by cases hv; rfl
  subst e1
  obtain ⟨aa, dx, vs, rfl, hH⟩ := isC_ok w r1 c1
  obtain rfl : v = Value.ref aa := ry
  obtain ⟨mA, O, _⟩ := ins_get I.hok hH
  obtain ⟨od, J, _⟩ := O.look
  have rr : Reps X.K F [d1, d2] [V.ref aa, x] := ⟨_, _, rfl, r1, Reps.one r2⟩
  refine ⟨aa, f, _, _, rfl, J, hs, hf, ?_⟩
  refine wpAny_mono (run_fn (Q := fun z H' => ∃ kk, z = V.bl kk ∧ Q (.bl (ng neg kk)) H') (E := E0) (dvs := []) hF (ok.room.mono hk) hb .nil passL I (.cons rfl (.cons rx .nil) : Vals [V.ref aa, x] [Value.ref aa, u])
    ⟨by simp, G, F, S, [d1, d2], Q0, _, rr, w, hsp, fun d z F' S' H' l w' r q => ?_, fun _ _ _ _ _ _ _ _ _ q => q.elim⟩) (fun r' s' hr => ?_) fun _ _ z => z
  · obtain ⟨kk, e, q2⟩ := hh d z F' S' H' l w' r q
    subst e
    exact ⟨kk, r, q2⟩
  · obtain ⟨z, H', I', rz, kk, e, q⟩ := hr
    subst e
    cases rz
    exact ⟨kk, H', rfl, I', q⟩
theorem op_inO {X : Cx} (ok : OkC B X) (h : HInOwn B k c sp) (hk : k ≤ B.k) : OpR X (compareOp .In) (rInO X.K c false sp) := by
  intro pins s σ H x y u v Q I rx ry hq
  obtain ⟨aa, f, ox, od, rfl, J, hs, hf, hc⟩ := in_call ok h hk I rx ry hq
  obtain ⟨mm, hfr⟩ := I.fr
  refine PySem.W.in_K hfr I.ok.mod.kin J hs hf (wpAny_mono hc (fun r s' ⟨kk, H', e, I', q⟩ => ?_) fun _ _ z => z)
  subst e
  exact wpAny_pure ⟨.bl kk, H', I', rfl, q⟩
theorem op_notinO {X : Cx} (ok : OkC B X) (h : HInOwn B k c sp) (hk : k ≤ B.k) : OpR X (compareOp .NotIn) (rInO X.K c true sp) := by
  intro pins s σ H x y u v Q I rx ry hq
  obtain ⟨aa, f, ox, od, rfl, J, hs, hf, hc⟩ := in_call ok h hk I rx ry hq
  obtain ⟨mm, hfr⟩ := I.fr
  refine PySem.W.notIn_K hfr I.ok.mod.kin J hs hf (wpAny_mono hc (fun r s' ⟨kk, H', e, I', q⟩ => ?_) fun _ _ z => z)
  subst e
  exact wpAny_pure ⟨.bl (!kk), H', I', rfl, q⟩
theorem lInO {K : PySem.W.Frag} {W : WX} {neg : Bool} (σ : L2.St) (H : Hp) (Q : VK) (h : lE K W (hInO c sp neg ta to) σ H Q) : tOp (rInO K c neg sp) (lE K W ta) (lE K W to) σ H Q := by
  obtain ⟨G, F, S, env, Q0, E0, rn, wd, h, hq, he⟩ := h
  refine ⟨G, F, S, env, _, E0, rn, wd, h, fun d v F1 S1 H1 l1 w1 r1 h1 => ?_, he⟩
  refine ⟨G, F1, S1, env, _, E0, rn.le l1, w1, h1, fun d2 v2 F2 S2 H2 l2 w2 r2 h2 => ?_, he.le l1⟩
  dsimp only at h2
  split at h2
  · rename_i e
    refine ⟨G, F2, S2, d2, d, _, w2, r2, r1.le l2, e, h2, fun d3 v3 F3 S3 H3 l3 w3 r3 q3 => ?_⟩
    try dsimp only at q3
    split at q3
    · exact ⟨_, rfl, hq (.bl _) _ F3 S3 H3 (l1.trans (l2.trans l3)) w3 rfl q3⟩
    · exact q3.elim
  · exact h2.elim
theorem hinO (h : HInOwn B k c sp) (hk : k ≤ B.k) (ha : HE B a ta) (ho : HE B o to) (hm : behindInMarks .In o = false := by rfl) : HE B (.Compare a [.In] [o] pos) (hInO c sp false ta to) :=
  ⟨fun X W ok tk => PE.imp (pe_cmpR (op_inO ok h hk) (ha.run X W ok tk) (ho.run X W ok tk) hm) fun σ H Q q => by rw [ok.eK]; exact lInO σ H Q q⟩
theorem hinOT (h : HInOwn B k c sp) (hk : k ≤ B.k) (ha : HE B a ta) (ho : HE B o to) (hm : behindInMarks .In o = false := by rfl) : HT B (.Compare a [.In] [o] pos) (hB (hInO c sp false ta to)) :=
  ⟨fun X W ok tk => PT.imp (pt_cmpR (op_inO ok h hk) (ha.run X W ok tk) (ho.run X W ok tk) hm) fun σ H Q q => lB (fun σ H Q q => by rw [ok.eK]; exact lInO σ H Q q) σ H Q q⟩
theorem hnotinO (h : HInOwn B k c sp) (hk : k ≤ B.k) (ha : HE B a ta) (ho : HE B o to) (hm : behindInMarks .NotIn o = false := by rfl) : HE B (.Compare a [.NotIn] [o] pos) (hInO c sp true ta to) :=
  ⟨fun X W ok tk => PE.imp (pe_cmpR (op_notinO ok h hk) (ha.run X W ok tk) (ho.run X W ok tk) hm) fun σ H Q q => by rw [ok.eK]; exact lInO σ H Q q⟩
theorem hnotinOT (h : HInOwn B k c sp) (hk : k ≤ B.k) (ha : HE B a ta) (ho : HE B o to) (hm : behindInMarks .NotIn o = false := by rfl) : HT B (.Compare a [.NotIn] [o] pos) (hB (hInO c sp true ta to)) :=
  ⟨fun X W ok tk => PT.imp (pt_cmpR (op_notinO ok h hk) (ha.run X W ok tk) (ho.run X W ok tk) hm) fun σ H Q q => lB (fun σ H Q q => by rw [ok.eK]; exact lInO σ H Q q) σ H Q q⟩
end
theorem hinOwn_of {B : Bs} {k c : Nat} {f : Addr} {sp : HSp} (hc : Cls B.K (cad B.K c)) (hm : Meth B.K (cad B.K c) "__contains__" f) (h : FnAt B k f 2 [] sp) : HInOwn B k c sp := ⟨⟨f, hm.at_, hm.fn, h⟩, hc⟩
end Hy

set_option Elab.async false
set_option linter.all false
set_option maxRecDepth 100000
set_option maxHeartbeats 4000000
set_option autoImplicit false
namespace Hy
open PySem PySem.Spec PyProof.Rows L2
/-! ### o[i] by an own __getitem__ -/
structure HGetOwn (B : Bs) (k c : Nat) (sp : HSp) : Prop where
  ex : ∃ f, PySem.W.findIn B.K (.ref (cad B.K c)) "__getitem__" = some (some (.ref f)) ∧ PySem.W.isFn B.K (.ref f) = true ∧ PySem.W.fnIn B.K f = true ∧ FnAt B k f 2 [] sp
  cl : Cls B.K (cad B.K c)
theorem HGetOwn.in_ {B : Bs} {k k' c : Nat} {N : List Str} {sc : Scope} {top : Bool} {own : Str → Bool} {sp : HSp} (h : HGetOwn B k c sp) : HGetOwn ⟨B.P, B.w, B.K, B.mg, B.base, k', N, sc, top, own⟩ k c sp := ⟨let ⟨f, a, b, d, e⟩ := h.ex; ⟨f, a, b, d, ⟨e.ex⟩⟩, h.cl⟩
theorem HGetOwn.mono {B : Bs} {j k c : Nat} {sp : HSp} (h : HGetOwn B j c sp) (l : j ≤ k) : HGetOwn B k c sp := ⟨let ⟨f, a, b, d, e⟩ := h.ex; ⟨f, a, b, d, e.mono l⟩, h.cl⟩
def hGetO (c : Nat) (sp : HSp) (to ti : HTE) : HTE := fun env S Q E => to env S (fun x S1 => ti env S1 (fun y S2 => match isC c S2 x with
  | true => sp [x, y] S2 Q E
  | false => False) E) E
section
variable {X : Cx} {CX' : CXT} {k : Nat} {f : Addr} {fd : FuncData} {ps : List Str} {sp : Sp} {E : L2.St → XK}
theorem run_fn1 {pins : List (Addr × Obj)} {σ : L2.St} {H : Hp} {s : Shared} {Q : VK} {us : List Value} {vs : List V} (F : FnOk X.prog X.w X.K X.mg X.base CX' k f fd ps sp) (hr : Room (k + 1) X.A) (hb : Binds X.K fd ps []) (hx : PassesAt CX' X σ (E σ))
    (I : L2.Inv X pins σ H s) (r : Vals vs us) (h : sp vs H Q (E σ)) : wpAny (model X.prog X.w) X.A.in1 (call (.ref f) us) (EP X pins σ Q) X.xe s := by
  have hl : (us ++ ([] : List Value)).length = ps.length := by rw [List.append_nil, ← r.length]; exact F.len _ _ _ _ h
  refine wpAny_call (codeAny_mono (F.run X.A.in1 X.stack s H ⟨us, []⟩ us vs Q (E σ) hr.in1 I.env0.in1 (by have := hb s us I.kIn hl; rwa [List.append_nil] at this) r h) fun r s' hq => ?_)
  cases r with
  | error e => exact hx pins H s e s' I hq
  | ok fl =>
    cases fl with
    | ret u => exact I.after hq
    | next => exact False.elim hq
    | brk => exact False.elim hq
    | cont => exact False.elim hq
end
section
variable {B : Bs} {k c : Nat} {sp : HSp} {o i : Expr} {to ti : HTE} {pos : Pos}
theorem hgeto (h : HGetOwn B k c sp) (hk : k + 1 ≤ B.k) (ho : HE B o to) (hi : HE B i ti) (hsl : ∀ (x : Addr) (v : Value), subscripted i true (.ref x) v = runValue (.builtin "lifetime.subscript" ⟨[.ref x, v], []⟩) := by with_unfolding_all exact fun _ _ => rfl) : HE B (.Subscript o i pos) (hGetO c sp to ti) :=
  ⟨fun X W ok tk => ⟨fun pins s σ H Q I ⟨G, F, S, env, Q0, E0, rn, wd, hh, hq, he⟩ => by
    refine Subscript_ (binT (R := fun x y H2 => ∃ F2 S2 d1 d2, Le F F2 ∧ Wd B.K G F2 S2 H2 ∧ Rep B.K F2 d1 x ∧ Rep B.K F2 d2 y ∧ isC c S2 d1 = true ∧ sp [d1, d2] S2 Q0 E0) (ho.run X W ok tk) (hi.run X W ok tk) I
      ⟨G, F, S, env, _, E0, rn, wd, hh, fun d1 v1 F1 S1 H1 l1 w1 r1 h1 => ⟨G, F1, S1, env, _, E0, rn.le l1, w1, h1, fun d2 v2 F2 S2 H2 l2 w2 r2 h2 => ?_, he.le l1⟩, he⟩
      fun v u s2 x y H2 I2 rx ry ⟨F2, S2, d1, d2, l, w, r1, r2, ic, q⟩ => ?_)
    · dsimp only at h2
      split at h2
      · rename_i ic
        exact ⟨F2, S2, d1, d2, l1.trans l2, w2, r1.le l2, r2, ic, h2⟩
      · exact h2.elim
    · obtain ⟨f, hs, hf, hfn, hat⟩ := h.ex
      obtain ⟨fd, ps, ds, dvs, hn, hb, hv, hd, hF⟩ := hat.ex
      have hF := ok.fnOk hF
      rw [← ok.eK] at hs hf hfn hb hd
      have e0 : dvs = [] := by have := (hd F).len; exact List.eq_nil_of_length_eq_zero (by simpa using this)
      subst e0
      have e1 : ds = [] := by cases hv; rfl
      subst e1
      obtain ⟨aa, dx, vs, rfl, hH⟩ := isC_ok w r1 ic
      obtain rfl : v = Value.ref aa := rx
      obtain ⟨mA, O, _⟩ := ins_get I2.hok hH
      obtain ⟨od, J, _⟩ := O.look
      obtain ⟨mm, hfr⟩ := I2.fr
      have rr : Reps B.K F2 [d1, d2] [V.ref aa, y] := ⟨_, _, rfl, r1, Reps.one r2⟩
      rw [← ok.eK] at J
      refine PySem.W.sub_K hfr I2.ok.mod.kin J hs hfn hf (run_fn1 (E := WE W) hF (ok.room.mono hk) hb (passAt tk σ) I2 (.cons rfl (.cons ry .nil) : Vals [V.ref aa, y] [Value.ref aa, u]) ?_) (hsl _ _)
      exact ⟨by simp, G, F2, S2, [d1, d2], Q0, E0, rr, w, q, hq.le l, he.le l⟩⟩⟩
end
/-! ### facts about exceptions' classes -/
def prKit (c c2 : Nat) (ans : Bool) : Pr := fun K => decide (PySem.W.kitOne K (.ref (cad K c)) (.ref (cad K c2)) = some ans)
theorem prKit_ok {K : PySem.W.Frag} {c c2 : Nat} {ans : Bool} (h : prKit c c2 ans K = true) : KitA K c (.ref (cad K c2)) ans := ⟨of_decide_eq_true h⟩
def prExm (c : Nat) (cs : List Nat) : Pr := fun K => cs.all fun c' => decide (PySem.W.exmOne K (.ref (cad K c')) (.ref (cad K c)) = some (Nat.beq c' c))
theorem prExm_ok {K : PySem.W.Frag} {c : Nat} {cs : List Nat} (h : prExm c cs K = true) : ExmC K c cs := ⟨fun c' hc => of_decide_eq_true (List.all_eq_true.mp h c' hc)⟩
def prFn (x m : Str) : Pr := fun K => PySem.W.fnIn K (He.fAd K (x, some m))
/-- an exception's class, all together -/
theorem hexc_of {B : Bs} {c k : Nat} {f : Addr} {fd : FuncData} {ps : List Str} (ok : ExcOk B.K c) (mg : B.mg (cname c) = some (.ref (cad B.K c))) (hm : Meth B.K (cad B.K c) "__init__" f) (hb : Binds B.K fd ps []) (h : FnOk B.P B.w B.K B.mg B.base (CX B.P B.w) k f fd ps (spExI B.K c)) : HExc B k c :=
  ⟨mg, ok, f, fd, ps, hm.at_, beq_iff_eq.mp hm.fn, hb, h⟩
theorem hgetOwn_of {B : Bs} {k c : Nat} {f : Addr} {sp : HSp} (hc : Cls B.K (cad B.K c)) (hm : Meth B.K (cad B.K c) "__getitem__" f) (hf : PySem.W.fnIn B.K f = true) (h : FnAt B k f 2 [] sp) : HGetOwn B k c sp := ⟨⟨f, hm.at_, hm.fn, hf, h⟩, hc⟩
/-! ### rules that the generated terms want -/
section
variable {B : Bs} {pos' spos : Pos} {x y : Str} {i j : Nat} {e1 e2 : Expr} {ta tb : HTE}
end
end Hy

set_option Elab.async false
set_option linter.all false
set_option maxRecDepth 100000
set_option maxHeartbeats 4000000
set_option autoImplicit false
namespace Hy
open PySem PySem.Spec PyProof.Rows L2
section
variable {B : Bs} {a b c e o : Expr} {ta tb tc to : HTE} {tr : HTA} {x y z : Str} {px py pz pt pos apos : Pos} {kt k2 : Nat} {pt2 : Pos} {i j l : Nat}
/-- a, b = e1, e2 with plain local names -/
theorem hpar (ha : HA B [a, b] tr) (hi : B.N[i]? = some x := by rfl) (hj : B.N[j]? = some y := by rfl) (hij : i ≠ j := by decide) (hx : B.sc.names.lookup x = some .local := by rfl) (hy : B.sc.names.lookup y = some .local := by rfl)
    (hw : ∀ env : Env, env.scope = B.sc → swappedStores [.Tuple [.Name x px, .Name y py] kt pt] (.Tuple [a, b] k2 pt2) env = pure (some [x, y]) := by intro env h; cases env; dsimp only at h; subst h; rfl)
    (hs : ∀ env, swapsWithSole [.Tuple [.Name x px, .Name y py] kt pt] (.Tuple [a, b] k2 pt2) pos.line env = pure false := by intro _; rfl) :
    HS B (.Assign [.Tuple [.Name x px, .Name y py] kt pt] (.Tuple [a, b] k2 pt2) pos) (hPar i j tr) :=
  ⟨fun X W ok tk => PS.imp (ps_par (i := i) (j := j) ok.calm ok.nd (by rw [ok.eN]; exact hi) (by rw [ok.eN]; exact hj) hij (by rw [ok.es]; exact hx) (by rw [ok.es]; exact hy) (ha.run X W ok tk) (hw _ ok.es) (hs _)) fun D σ H ⟨G, F, S, env, E, rn, wd, h, oo⟩ =>
    ⟨G, F, S, env, _, _, rn, wd, h, fun ds vs F1 S1 H1 l1 w1 r1 h1 => by
      dsimp only at h1
      split at h1
      · obtain ⟨v, u, rfl, r2, r3⟩ := r1.two_inv
        exact ⟨v, u, rfl, oo.nx _ _ F1 S1 H1 l1 w1 (((rn.le l1).set r2 i).set r3 j) h1⟩
      · exact h1.elim, oo.exc rn⟩⟩
def hPar3 (i j l : Nat) (ta : HTA) : HTS := fun D env S => ta env S (fun ds S1 => match ds with
  | [d1, d2, d3] => D.nx (((env.set i (some d1)).set j (some d2)).set l (some d3)) S1
  | _ => False) fun x S1 => D.ex x env S1
theorem hpar3 (ha : HA B [a, b, c] tr) (hi : B.N[i]? = some x := by rfl) (hj : B.N[j]? = some y := by rfl) (hl : B.N[l]? = some z := by rfl) (hij : i ≠ j := by decide) (hil : i ≠ l := by decide) (hjl : j ≠ l := by decide) (hx : B.sc.names.lookup x = some .local := by rfl) (hy : B.sc.names.lookup y = some .local := by rfl)
    (hz : B.sc.names.lookup z = some .local := by rfl) (hw : ∀ env : Env, env.scope = B.sc → swappedStores [.Tuple [.Name x px, .Name y py, .Name z pz] kt pt] (.Tuple [a, b, c] k2 pt2) env = pure (some [x, y, z]) := by intro env h; cases env; dsimp only at h; subst h; rfl)
    (hs : ∀ env, swapsWithSole [.Tuple [.Name x px, .Name y py, .Name z pz] kt pt] (.Tuple [a, b, c] k2 pt2) pos.line env = pure false := by intro _; rfl) :
    HS B (.Assign [.Tuple [.Name x px, .Name y py, .Name z pz] kt pt] (.Tuple [a, b, c] k2 pt2) pos) (hPar3 i j l tr) :=
  ⟨fun X W ok tk => PS.imp (ps_par3 (i := i) (j := j) (l := l) ok.calm ok.nd (by rw [ok.eN]; exact hi) (by rw [ok.eN]; exact hj) (by rw [ok.eN]; exact hl) hij hil hjl (by rw [ok.es]; exact hx) (by rw [ok.es]; exact hy) (by rw [ok.es]; exact hz) (ha.run X W ok tk) (hw _ ok.es) (hs _)) fun D σ H ⟨G, F, S, env, E, rn, wd, h, oo⟩ =>
    ⟨G, F, S, env, _, _, rn, wd, h, fun ds vs F1 S1 H1 l1 w1 r1 h1 => by
      dsimp only at h1
      split at h1
      · obtain ⟨v, us, rfl, r2, r3⟩ := r1
        obtain ⟨u, t, rfl, r4, r5⟩ := r3.two_inv
        exact ⟨v, u, t, rfl, oo.nx _ _ F1 S1 H1 l1 w1 ((((rn.le l1).set r2 i).set r4 j).set r5 l) h1⟩
      · exact h1.elim, oo.exc rn⟩⟩
/-! xs.insert(i, y), xs.pop() -/
def gInsert : GM := fun x ds S Q => match x with
  | .ref q => match S q with
    | some (.lst xs) => match ds with
      | [.int i, d] => (xs.length < 16777216 ∧ 0 ≤ i ∧ i < 2 ^ 63) ∧ Q .non (up S q (.lst (xs.take i.toNat ++ [d] ++ xs.drop i.toNat)))
      | _ => False
    | _ => False
  | _ => False
abbrev rInsert : V → List V → Hp → VK → Prop := fun x vs H Q => ∃ (l : Addr) (xs : List V) (i : Int) (y : V), x = .ref l ∧ vs = [.int i, y] ∧ H l = some (.lst xs) ∧ xs.length < sizeLine ∧ 0 ≤ i ∧ i < 2 ^ 63 ∧
    Q .non (upd H l (.lst (xs.take i.toNat ++ [y] ++ xs.drop i.toNat)))
theorem gInsert_ok {K : PySem.W.Frag} : RMok K gInsert rInsert := by
  intro G F S H d v ds vs Q0 Q w r rs h hq
  unfold gInsert at h
  split at h
  · rename_i q
    obtain rfl : v = .ref q := r
    split at h
    · rename_i xs e
      split at h
      · rename_i i d
        obtain ⟨u1, u2, rfl, r1, r2⟩ := rs.two_inv
        obtain rfl : u1 = .int i := r1
        obtain ⟨us, h1, h2, h3⟩ := lstAt w e
        obtain ⟨⟨z1, z2, z3⟩, h⟩ := h
        have rr := ((h2.take i.toNat).append (Reps.one r2)).append (h2.drop i.toNat)
        refine ⟨q, us, i, u2, rfl, rfl, h1, by rw [h2.len]; exact line_lt z1, z2, z3, hq .non _ F _ _ Le.rfl' (w.put (m := .lst (xs.take i.toNat ++ [d] ++ xs.drop i.toNat)) e ⟨_, rfl, rr, ?_⟩) rfl h⟩
        have : (xs.take i.toNat ++ [d] ++ xs.drop i.toNat).length = xs.length + 1 := by
          rw [List.length_append, List.length_append, List.length_take, List.length_drop, List.length_singleton]; omega
        rw [this]
        exact line_lt z1
      · exact h.elim
    · exact h.elim
  · exact h.elim
theorem hinsert (ho : HE B o to) (ha : HA B [a, b] tr) (hbase : ∀ env, attributeBase o "insert" env (eval o env) = eval o env := by intro _; rfl)
    (hfew : ∀ env, ((backTo pos (starEach [a, b] env)).all (fun x => !x.1) && (backToKw pos (keywordEach [] env)).all (fun x => x.1.isSome) && decide ([a, b].length + ([] : List Keyword).length + (if ([] : List Keyword).isEmpty then 0 else 1) < 30)) = true := by intro _; rfl)
    (hline : (apos.endLine == pos.line) = true := by rfl) (hs : ∀ env, starEach [a, b] env = (false, eval a env) :: starEach [b] env := by intro _; rfl) (hpl : ∀ env, (backTo pos (starEach [b] env)).any (·.1) = false := by intro _; rfl) : HE B (.Call (.Attribute o "insert" apos) [a, b] [] pos) (hMt isLst gInsert to tr) :=
  hbm (r := fun _ => rInsert) PySem.F.plainAttrs_list PySem.F.slot_list_insert PySem.F.type_list_insert (fun X _ => mt_insert) gInsert_ok kd_lst ho ha hbase hfew hline hs hpl
def gPop0 : GM := fun x ds S Q => match x with
  | .ref q => match S q with
    | some (.lst xs) => match ds with
      | [] => match xs[xs.length - 1]? with
        | some d => Q d (up S q (.lst xs.dropLast))
        | none => False
      | _ => False
    | _ => False
  | _ => False
theorem Reps.dropLast {K : PySem.W.Frag} {F : Hp} {ds : List D} {vs : List V} (r : Reps K F ds vs) : Reps K F ds.dropLast vs.dropLast := by
  rw [List.dropLast_eq_take, List.dropLast_eq_take, r.len]
  exact r.take _
theorem gPop0_ok {K : PySem.W.Frag} : RMok K gPop0 rPop := by
  intro G F S H d v ds vs Q0 Q w r rs h hq
  unfold gPop0 at h
  split at h
  · rename_i q
    obtain rfl : v = .ref q := r
    split at h
    · rename_i xs e
      split at h
      · split at h
        · rename_i d ed
          obtain rfl := rs.nil_inv
          obtain ⟨us, h1, h2, h3⟩ := lstAt w e
          obtain ⟨u, e2, r2⟩ := h2.at ed
          exact ⟨q, us, u, rfl, rfl, h1, by rw [h2.len]; exact e2, hq d u F _ _ Le.rfl' (w.put (m := .lst xs.dropLast) e ⟨_, rfl, h2.dropLast, by rw [List.length_dropLast]; omega⟩) r2 h⟩
        · exact h.elim
      · exact h.elim
    · exact h.elim
  · exact h.elim
theorem hpop0 (ho : HE B o to) (hbase : ∀ env, attributeBase o "pop" env (eval o env) = eval o env := by intro _; rfl) (hline : (apos.endLine == pos.line) = true := by rfl) : HE B (.Call (.Attribute o "pop" apos) [] [] pos) (hMt isLst gPop0 to hNil) :=
  hbm0 (r := fun _ => rPop) PySem.F.plainAttrs_list PySem.F.slot_list_pop PySem.F.type_list_pop (fun X _ => mt_pop) gPop0_ok kd_lst ho hbase hline
end
end Hy

set_option Elab.async false
set_option linter.all false
set_option maxRecDepth 100000
set_option maxHeartbeats 4000000
set_option autoImplicit false
namespace Hy
open PySem PySem.Spec PyProof.Rows L2
/-! o.f op= e -/
def hFaug (ix : Nat → Option Nat) (g : G2) (to te : HTE) : HTS := fun D env S => to env S (fun x S1 => match x with
  | .ref q => match S1 q with
    | some (.ins c ds) => match ix c with
      | some i => match ds[i]? with
        | some d => te env S1 (fun y S2 => g d y S2 fun z S3 => match S3 q with
          | some (.ins c' ds') => match Nat.beq c' c with
            | true => match putD ds' i z with
              | some es => D.nx env (up S3 q (.ins c' es))
              | none => False
            | false => False
          | _ => False) fun x S2 => D.ex x env S2
        | none => False
      | none => False
    | _ => False
  | _ => False) fun x S1 => D.ex x env S1
section
variable {B : Bs} {a b e o : Expr} {ta tb te to : HTE} {f : Str} {ix : Nat → Option Nat} {pos pos' : Pos}
theorem hfaug {op : Operator} {g : G2} {r : PySem.W.Frag → R2} (A : Attr B.K f ix) (hop : ∀ X, OkC B X → OpR X (inplaceOp op) (r X.K)) (hg : R2ok B.K g (r B.K)) (ho : HE B o to) (h : HE B e te) : HS B (.AugAssign (.Attribute o f pos') op e pos) (hFaug ix g to te) :=
  ⟨fun X W ok tk => PS.imp (ps_fldaug (rd := r B.K) (ho.run X W ok tk) (h.run X W ok tk) (by
      intro pins s σ H x y u v Q I r1 r2 q
      have := hop X ok
      rw [ok.eK] at this
      exact this pins s σ H x y u v Q I r1 r2 q)) fun D σ H ⟨G, F, S, env, E, rn, wd, h, oo⟩ =>
    ⟨G, F, S, env, _, _, rn, wd, h, fun x v F1 S1 H1 l1 w1 r1 h1 => by
      dsimp only at h1
      split at h1
      · rename_i q
        obtain rfl : v = .ref q := r1
        split at h1
        · rename_i c ds es
          obtain ⟨dx, vs, hH, rs⟩ := insAt w1 es
          split at h1
          · rename_i i ei
            split at h1
            · rename_i d ed
              obtain ⟨z1, z2, z3, z4, z5⟩ := A.ok c i ei
              obtain ⟨u, u1, u2⟩ := rs.at ed
              refine ⟨q, _, dx, _, u, rfl, hH, by rw [ok.eK]; exact z1, by rw [ok.eK]; exact z2, lookup_zip z4 z3 u1, G, F1, S1, env, _, _, rn.le l1, w1, h1, fun y w F2 S2 H2 l2 w2 r2 h2 => ?_, (oo.le l1).exc (rn.le l1)⟩
              refine hg G F2 S2 H2 d u y w _ _ w2 (u2.le l2) r2 h2 fun z zv F3 S3 H3 l3 w3 r3 h3 => ?_
              split at h3
              · rename_i c' ds' es'
                split at h3
                · rename_i ec
                  obtain rfl := Nat.eq_of_beq_eq_true ec
                  split at h3
                  · rename_i es2 ed2
                    obtain ⟨dx', vs', hH3, rs3⟩ := insAt w3 es'
                    obtain ⟨vs2, e1, r4⟩ := putD_ok z4 z3 rs3 r3 ed2
                    exact ⟨dx', _, hH3, by rw [List.length_zip]; omega, oo.nx env σ F3 _ _ (l1.trans (l2.trans l3)) (w3.put (m := .ins _ es2) es' ⟨dx', vs2, by rw [e1], r4⟩) (rn.le (l1.trans (l2.trans l3))) h3⟩
                  · exact h3.elim
                · exact h3.elim
              · exact h3.elim
            · exact h1.elim
          · exact h1.elim
        · exact h1.elim
      · exact h1.elim, oo.exc rn⟩⟩
theorem hfaugAdd (A : Attr B.K f ix) (ho : HE B o to) (h : HE B e te) : HS B (.AugAssign (.Attribute o f pos') .Add e pos) (hFaug ix (gI0 fun i j => .int (i + j)) to te) :=
  hfaug (r := fun _ => _) A (fun X _ => iop_add) (gI0_ok fun _ _ _ => rfl) ho h
theorem hfaugSub (A : Attr B.K f ix) (ho : HE B o to) (h : HE B e te) : HS B (.AugAssign (.Attribute o f pos') .Sub e pos) (hFaug ix gSub to te) :=
  hfaug (r := fun _ => _) A (fun X _ => iop_sub) (gI0_ok fun _ _ _ => rfl) ho h
/-! "s" * n -/
abbrev rMulS : R2 := fun x y H Q => ∃ (z : Str) (n : Int), x = .str z ∧ y = .int n ∧ MulOk z n ∧ Q (.str (Txt.mul z n)) H
theorem op_mulS {X : Cx} : OpR X (binaryOp .Mult) rMulS := by
  intro pins s σ H x y v u Q I rx ry h
  obtain ⟨z, n, rfl, rfl, ok, q⟩ := h
  obtain ⟨t, rfl⟩ := rx
  obtain ⟨t', rfl⟩ := ry
  exact PySem.SB.mul ok fun t2 k => ⟨.str (Txt.mul z n), H, I.tok _, ⟨_, rfl⟩, q⟩
def gMulS : G2 := fun x y S Q => match x, y with
  | .str z, .int n => (z.length ≤ 1000 ∧ -1000 ≤ n ∧ n ≤ 1000) ∧ Q (.str (Txt.mul z n)) S
  | _, _ => False
theorem gMulS_ok {K : PySem.W.Frag} : R2ok K gMulS rMulS := by
  intro G F S H d1 v1 d2 v2 Q0 Q w r1 r2 h hq
  unfold gMulS at h
  split at h
  · rename_i z n
    obtain ⟨⟨h1, h2, h3⟩, h4⟩ := h
    cases r1
    cases r2
    exact ⟨z, n, rfl, rfl, mulOk_of 1000 1000 h1 (by omega) (by omega) (by decide) (by decide), hq (.str _) _ F S H Le.rfl' w rfl h4⟩
  · exact h.elim
theorem hmulS (ha : HE B a ta) (hb : HE B b tb) : HE B (.BinOp a .Mult b pos) (hop gMulS ta tb) := hbin (r := fun _ => _) (fun X _ => op_mulS) gMulS_ok ha hb
end
end Hy

set_option Elab.async false
set_option linter.all false
set_option maxRecDepth 100000
set_option maxHeartbeats 4000000
set_option autoImplicit false
namespace Hy
open PySem PySem.Spec PyProof.Rows L2
/-! a op1 b op2 c -/
def hChain (g g' : G2) (ta tb tc : HTE) : HTE := fun env S Q E => ta env S (fun x S1 => tb env S1 (fun y S2 => g x y S2 fun z S3 => match z with
  | .bl true => tc env S3 (fun w S4 => g' y w S4 Q) E
  | .bl false => Q (.bl false) S3
  | _ => False) E) E
theorem lchain {K : PySem.W.Frag} {W : WX} {g g' : G2} {r r' : R2} (hg : R2ok K g r) (hg' : R2ok K g' r') (ta tb tc : HTE) (σ : St) (H : Hp) (Q : VK) (h : lE K W (hChain g g' ta tb tc) σ H Q) : tChain r r' (lE K W ta) (lE K W tb) (lE K W tc) σ H Q := by
  obtain ⟨G, F, S, env, Q0, E0, rn, wd, h, hq, he⟩ := h
  refine ⟨G, F, S, env, _, E0, rn, wd, h, fun d v F1 S1 H1 l1 w1 r1 h1 => ?_, he⟩
  refine ⟨G, F1, S1, env, _, E0, rn.le l1, w1, h1, fun d2 v2 F2 S2 H2 l2 w2 r2 h2 => ?_, he.le l1⟩
  refine hg G F2 S2 H2 d v d2 v2 _ _ w2 (r1.le l2) r2 h2 fun z zv F3 S3 H3 l3 w3 r3 h3 => ?_
  split at h3
  · cases r3
    refine ⟨true, rfl, ?_⟩
    rw [if_pos rfl]
    have l := l1.trans (l2.trans l3)
    exact ⟨G, F3, S3, env, _, E0, rn.le l, w3, h3, fun d4 v4 F4 S4 H4 l4 w4 r4 h4 => hg' G F4 S4 H4 d2 v2 d4 v4 Q0 _ w4 (r2.le (l3.trans l4)) r4 h4 (hq.le (l.trans l4)), he.le l⟩
  · cases r3
    refine ⟨false, rfl, ?_⟩
    rw [if_neg (by decide)]
    exact hq (.bl false) _ F3 S3 H3 (l1.trans (l2.trans l3)) w3 rfl h3
  · exact h3.elim
section
variable {B : Bs} {a b c : Expr} {ta tb tc : HTE} {pos : Pos}
theorem hchain {op op' : CmpOp} {g g' : G2} {r r' : PySem.W.Frag → R2} (ho : ∀ X, OkC B X → OpR X (compareOp op) (r X.K)) (ho' : ∀ X, OkC B X → OpR X (compareOp op') (r' X.K)) (hg : R2ok B.K g (r B.K)) (hg' : R2ok B.K g' (r' B.K)) (ha : HE B a ta) (hb : HE B b tb) (hc : HE B c tc)
    (hm : lastMarks [op, op'] [b, c] = false) : HE B (.Compare a [op, op'] [b, c] pos) (hChain g g' ta tb tc) :=
  ⟨fun X W ok tk => PE.imp (pe_chain (by have := ho X ok; rw [ok.eK] at this; exact this) (by have := ho' X ok; rw [ok.eK] at this; exact this) (ha.run X W ok tk) (hb.run X W ok tk) (hc.run X W ok tk) hm) fun σ H Q h => lchain hg hg' ta tb tc σ H Q h⟩
theorem hchainT {op op' : CmpOp} {g g' : G2} {r r' : PySem.W.Frag → R2} (ho : ∀ X, OkC B X → OpR X (compareOp op) (r X.K)) (ho' : ∀ X, OkC B X → OpR X (compareOp op') (r' X.K)) (hg : R2ok B.K g (r B.K)) (hg' : R2ok B.K g' (r' B.K)) (ha : HE B a ta) (hb : HE B b tb) (hc : HE B c tc)
    (hm : lastMarks [op, op'] [b, c] = false) : HT B (.Compare a [op, op'] [b, c] pos) (hB (hChain g g' ta tb tc)) :=
  ⟨fun X W ok tk => PT.imp (pt_chain (by have := ho X ok; rw [ok.eK] at this; exact this) (by have := ho' X ok; rw [ok.eK] at this; exact this) (ha.run X W ok tk) (hb.run X W ok tk) (hc.run X W ok tk) hm) fun σ H Q h => lB (fun σ H Q h => lchain hg hg' ta tb tc σ H Q h) σ H Q h⟩
theorem hchLL (ha : HE B a ta) (hb : HE B b tb) (hc : HE B c tc) : HE B (.Compare a [.LtE, .LtE] [b, c] pos) (hChain gLe gLe ta tb tc) := hchain (r := fun _ => _) (r' := fun _ => _) (fun X _ => op_le.or op_le_str) (fun X _ => op_le.or op_le_str) gOrd_ok gOrd_ok ha hb hc (nomark _)
theorem hchLLT (ha : HE B a ta) (hb : HE B b tb) (hc : HE B c tc) : HT B (.Compare a [.LtE, .LtE] [b, c] pos) (hB (hChain gLe gLe ta tb tc)) := hchainT (r := fun _ => _) (r' := fun _ => _) (fun X _ => op_le.or op_le_str) (fun X _ => op_le.or op_le_str) gOrd_ok gOrd_ok ha hb hc (nomark _)
theorem hchLt (ha : HE B a ta) (hb : HE B b tb) (hc : HE B c tc) : HE B (.Compare a [.LtE, .Lt] [b, c] pos) (hChain gLe gLt ta tb tc) := hchain (r := fun _ => _) (r' := fun _ => _) (fun X _ => op_le.or op_le_str) (fun X _ => op_lt.or op_lt_str) gOrd_ok gOrd_ok ha hb hc (nomark _)
theorem hchLtT (ha : HE B a ta) (hb : HE B b tb) (hc : HE B c tc) : HT B (.Compare a [.LtE, .Lt] [b, c] pos) (hB (hChain gLe gLt ta tb tc)) := hchainT (r := fun _ => _) (r' := fun _ => _) (fun X _ => op_le.or op_le_str) (fun X _ => op_lt.or op_lt_str) gOrd_ok gOrd_ok ha hb hc (nomark _)
end
/-! isinstance(e, T) of a caught exception, T built in -/
def prKitB (c : Nat) (T : String) (ans : Bool) : Pr := fun K => decide (PySem.W.kitOne K (.ref (cad K c)) (.type T) = some ans)
theorem prKitB_ok {K : PySem.W.Frag} {c : Nat} {T : String} {ans : Bool} (h : prKitB c T ans K = true) : KitA K c (.type T) ans := ⟨of_decide_eq_true h⟩
section
variable {B : Bs} {p p2 pos : Pos} {c : Nat}
theorem hxisiB {i : Nat} {n xc : Str} {T : String} {ans : Bool} {p3 : Pos} (E : ExcOk B.K c) (kit : KitA B.K c (.type T) ans) (gi : Gn B "isinstance") (mi : B.mg "isinstance" = none) (gn : Gn B xc) (hm : B.mg xc = none) (hv : bootBuiltins xc = some (.type T)) (hN : B.N[i]? = some n := by rfl)
    (hvis : Vis B.sc n := by first | exact Or.inl rfl | exact Or.inr (Or.inl rfl) | exact Or.inr (Or.inr rfl)) (hd : (n == ("__debug__" : Str)) = false := by decide) (hcd : (n == ("__classdict__" : Str)) = false := by decide) (hn : xc ≠ "__name__" := by decide) (hdb : (xc == ("__debug__" : Str)) = false := by decide)
    (he : ∀ env, starEach [.Name n p2, .Name xc p] env = (false, eval (.Name n p2) env) :: starEach [.Name xc p] env := by intro _; rfl) (hs : ∀ env, starEach [Expr.Name xc p] env = (false, eval (.Name xc p) env) :: starEach [] env := by intro _; rfl) (hpl : ∀ env, (backTo pos (starEach [Expr.Name xc p] env)).any (·.1) = false := by intro _; rfl) :
    HXE B c (some i) (.Call (.Name "isinstance" p3) [.Name n p2, .Name xc p] [] pos) (xC (.bl ans)) :=
  ⟨fun X a oe dd pn ok hz hf => PE.imp (pe_callB (X := X.suite a ((a, oe) :: pn)) (call_isX (X := X) (c := c) (d := dd) (by rw [ok.eK]; exact E) (by rw [ok.eK]; exact hz) hf) (ok.gl gi) (by show X.mg _ = _; rw [ok.em]; exact mi) (by decide +kernel)
    (pa_cons (pe_var (X := X.suite a ((a, oe) :: pn)) (i := i) (by show X.N[i]? = _; rw [ok.eN]; exact hN) (by show Vis X.env.scope n; rw [ok.es]; exact hvis) hd hcd)
      (pa_cons (pe_bltn (X := X.suite a ((a, oe) :: pn)) (v := .ty T) (ok.gl gn) (by show X.mg _ = _; rw [ok.em]; exact hm) hv rfl hn hdb) pa_nil (hs _)) (he _)) (by decide) (by decide) (he _) (hpl _)) fun σ H Q ⟨G, F, S, env, x, d, su, ed, hq⟩ => by
      cases ed
      exact ⟨.ref a, su.sl i rfl, .ty T, .type T, ans, rfl, fun u r => r, by rw [ok.eK]; exact kit.ok, su_dict su.wd.fr su.rx, hq _ F H Le.rfl' su.wd rfl⟩⟩
end
/-! a table of the module: a tuple of strings -/
def prTupS (x : Str) (ss : List Str) : Pr := fun K => He.tupB K x (ss.map He.Dv.str)
theorem strs_reps {K : PySem.W.Frag} (F : Hp) : ∀ ss : List Str, Reps K F (ss.map D.str) (ss.map V.str)
  | [] => rfl
  | s :: ss => ⟨_, _, rfl, rfl, strs_reps F ss⟩
theorem prTupS_ok {K : PySem.W.Frag} {x : Str} {ss : List Str} (hl : ss.length ≤ 1000) (h : prTupS x ss K = true) (F : Hp) : Rep K F (.tup (ss.map D.str)) (.ref (He.ga K x)) := by
  have q := He.tupB_ok h F
  have e : (ss.map He.Dv.str).map (He.Dv.v K) = ss.map V.str := by rw [List.map_map] <;> rfl
  rw [e] at q
  exact ⟨He.ga K x, ss.map V.str, rfl, q, strs_reps F ss, by rw [List.length_map]; exact le_line hl⟩
end Hy

set_option Elab.async false
set_option linter.all false
set_option maxRecDepth 100000
set_option maxHeartbeats 4000000
set_option autoImplicit false
namespace Hy
open PySem PySem.Spec PyProof.Rows L2
/-! ### dicts -/
def keyD : D → Option Key
  | .int i => some (.inl i)
  | .str s => some (.inr s)
  | _ => none
theorem keyD_ok {K : PySem.W.Frag} {F : Hp} {d : D} {v : V} {k : Key} (r : Rep K F d v) (e : keyD d = some k) : v = kV k := by
  cases d <;> first | (simp [keyD] at e; done) | (simp [keyD] at e; subst e; cases r; rfl)
def valD (kvs : List (Key × D)) (k : Key) : Option D := (kvs.find? fun kv => decide (kv.1 = k)).map (·.2)
theorem valD_ok {K : PySem.W.Frag} {F : Hp} {k : Key} : ∀ {kvs : List (Key × D)} {vs : List V}, Reps K F (kvs.map (·.2)) vs → (∀ d, valD kvs k = some d → ∃ v, valV ((kvs.map (·.1)).zip vs) k = some v ∧ Rep K F d v) ∧ (valD kvs k = none → valV ((kvs.map (·.1)).zip vs) k = none)
  | [], _, r => by cases r; exact ⟨fun d h => (by cases h), fun _ => rfl⟩
  | (k0, d0) :: kvs, _, r => by
    obtain ⟨v, ws, rfl, r1, r2⟩ := r
    have ih := valD_ok (k := k) r2
    by_cases e : k0 = k
    · have e1 : valD ((k0, d0) :: kvs) k = some d0 := by simp [valD, List.find?_cons, e]
      rw [e1]
      refine ⟨fun d h => ?_, fun h => (by cases h)⟩
      cases h
      exact ⟨v, valV_pos e, r1⟩
    · have e1 : valD ((k0, d0) :: kvs) k = valD kvs k := by simp [valD, List.find?_cons, e]
      rw [e1]
      have e2 : valV ((((k0, d0) :: kvs).map (·.1)).zip (v :: ws)) k = valV ((kvs.map (·.1)).zip ws) k := valV_neg e
      rw [e2]
      exact ih
def gDget : G2 := fun x y S Q => match x with
  | .ref q => match S q with
    | some (.dct kvs) => match keyD y with
      | some k => match valD kvs k with
        | some d => Q d S
        | none => False
      | none => False
    | _ => False
  | _ => False
abbrev rDget : R2 := fun x y H Q => ∃ a v, x = .ref a ∧ DGet H a y (some v) ∧ Q v H
theorem gDget_ok {K : PySem.W.Frag} : R2ok K gDget rDget := by
  intro G F S H d1 v1 d2 v2 Q0 Q w r1 r2 h hq
  unfold gDget at h
  split at h
  · rename_i q
    obtain rfl : v1 = .ref q := r1
    split at h
    · rename_i kvs e
      split at h
      · rename_i k ek
        split at h
        · rename_i d ed
          obtain ⟨vs, h1, h2⟩ := dctAt w e
          obtain ⟨v, h3, h4⟩ := (valD_ok h2).1 d ed
          obtain rfl := keyD_ok r2 ek
          have g := DGet.k (k := k) h1
          rw [h3] at g
          exact ⟨q, v, rfl, g, hq d v F S H Le.rfl' w h4 h⟩
        · exact h.elim
      · exact h.elim
    · exact h.elim
  · exact h.elim
section
variable {B : Bs} {a b : Expr} {ta tb : HTE} {pos : Pos}
theorem hdget (ha : HE B a ta) (hb : HE B b tb) (hs : NoSl b := by intro _ _; rfl) : HE B (.Subscript a b pos) (hop gDget ta tb) :=
  ⟨fun X W ok tk => PE.imp (pe_dget (by have := ok.room.units; omega) (ha.run X W ok tk) (hb.run X W ok tk) hs) fun σ H Q h => lop (r := rDget) gDget_ok ta tb σ H Q h⟩
end
def gInDG (neg : Bool) : G2 := fun y x S Q => match x with
  | .ref q => match S q with
    | some (.dct kvs) => match keyD y with
      | some k => Q (.bl (ng neg (valD kvs k).isSome)) S
      | none => False
    | _ => False
  | _ => False
abbrev gInD : G2 := gInDG false
abbrev gNotInD : G2 := gInDG true
abbrev rInDG (neg : Bool) : R2 := fun y x H Q => ∃ a o, x = .ref a ∧ DGet H a y o ∧ Q (.bl (ng neg o.isSome)) H
theorem gInDG_ok {K : PySem.W.Frag} {neg : Bool} : R2ok K (gInDG neg) (rInDG neg) := by
  intro G F S H d1 v1 d2 v2 Q0 Q w r1 r2 h hq
  unfold gInDG at h
  split at h
  · rename_i q
    obtain rfl : v2 = .ref q := r2
    split at h
    · rename_i kvs e
      split at h
      · rename_i k ek
        obtain ⟨vs, h1, h2⟩ := dctAt w e
        obtain rfl := keyD_ok r1 ek
        have g := DGet.k (k := k) h1
        have es : (valV ((kvs.map (·.1)).zip vs) k).isSome = (valD kvs k).isSome := by
          obtain ⟨p1, p2⟩ := valD_ok (k := k) h2
          cases ed : valD kvs k with
          | none => rw [p2 ed] <;> rfl
          | some d => obtain ⟨v, h3, _⟩ := p1 d ed; rw [h3] <;> rfl
        refine ⟨q, _, rfl, g, ?_⟩
        rw [es]
        exact hq (.bl _) _ F S H Le.rfl' w rfl h
      · exact h.elim
    · exact h.elim
  · exact h.elim
section
variable {B : Bs} {a b : Expr} {ta tb : HTE} {pos : Pos}
theorem hinD (ha : HE B a ta) (hb : HE B b tb) (hm : behindInMarks .In b = false := by with_unfolding_all rfl) : HE B (.Compare a [.In] [b] pos) (hop gInD ta tb) :=
  ⟨fun X W ok tk => PE.imp (pe_cmp (pc_din (by have := ok.room.units; omega) (ha.run X W ok tk) (hb.run X W ok tk)) hm) fun σ H Q h => lop (r := rInDG false) gInDG_ok ta tb σ H Q h⟩
theorem hnotinD (ha : HE B a ta) (hb : HE B b tb) (hm : behindInMarks .NotIn b = false := by with_unfolding_all rfl) : HE B (.Compare a [.NotIn] [b] pos) (hop gNotInD ta tb) :=
  ⟨fun X W ok tk => PE.imp (pe_cmp (pc_dnotin (by have := ok.room.units; omega) (ha.run X W ok tk) (hb.run X W ok tk)) hm) fun σ H Q h => lop (r := rInDG true) gInDG_ok ta tb σ H Q h⟩
theorem hinDT (ha : HE B a ta) (hb : HE B b tb) (hm : behindInMarks .In b = false := by with_unfolding_all rfl) : HT B (.Compare a [.In] [b] pos) (hB (hop gInD ta tb)) :=
  ⟨fun X W ok tk => PT.imp (pt_cmp (pc_din (by have := ok.room.units; omega) (ha.run X W ok tk) (hb.run X W ok tk)) hm) fun σ H Q h => lB (fun σ H Q h => lop (r := rInDG false) gInDG_ok ta tb σ H Q h) σ H Q h⟩
theorem hnotinDT (ha : HE B a ta) (hb : HE B b tb) (hm : behindInMarks .NotIn b = false := by with_unfolding_all rfl) : HT B (.Compare a [.NotIn] [b] pos) (hB (hop gNotInD ta tb)) :=
  ⟨fun X W ok tk => PT.imp (pt_cmp (pc_dnotin (by have := ok.room.units; omega) (ha.run X W ok tk) (hb.run X W ok tk)) hm) fun σ H Q h => lB (fun σ H Q h => lop (r := rInDG true) gInDG_ok ta tb σ H Q h) σ H Q h⟩
end
def putKD (kvs : List (Key × D)) (k : Key) (d : D) : List (Key × D) :=
  if (kvs.any fun kv => decide (kv.1 = k)) = true then kvs.map (fun kv => if kv.1 = k then (kv.1, d) else kv) else kvs ++ [(k, d)]
theorem put_map {K : PySem.W.Frag} {F : Hp} {k : Key} {d : D} {v : V} (r : Rep K F d v) : ∀ {kvs : List (Key × D)} {vs : List V}, Reps K F (kvs.map (·.2)) vs → ((kvs.map (·.1)).zip vs).any (fun kv => decide (kv.1 = k)) = kvs.any (fun kv => decide (kv.1 = k)) ∧
    ∃ vs', ((kvs.map (·.1)).zip vs).map (fun kv => if kv.1 = k then (kv.1, v) else kv) = ((kvs.map fun kv => if kv.1 = k then (kv.1, d) else kv).map (·.1)).zip vs' ∧ Reps K F ((kvs.map fun kv => if kv.1 = k then (kv.1, d) else kv).map (·.2)) vs'
  | [], _, h => by cases h; exact ⟨rfl, [], rfl, rfl⟩
  | (k0, d0) :: kvs, _, h => by
    obtain ⟨w, ws, rfl, r1, r2⟩ := h
    obtain ⟨e1, vs', e2, e3⟩ := put_map (k := k) r r2
    refine ⟨by simp only [List.map_cons, List.zip_cons_cons, List.any_cons, e1], ?_⟩
    by_cases e : k0 = k
    · subst e
      refine ⟨v :: vs', ?_, ?_⟩
      · simp only [List.map_cons, List.zip_cons_cons, ↓reduceIte, e2]
      · simp only [List.map_cons, ↓reduceIte]
        exact ⟨v, vs', rfl, r, e3⟩
    · refine ⟨w :: vs', ?_, ?_⟩
      · simp only [List.map_cons, List.zip_cons_cons, e, ↓reduceIte, e2]
      · simp only [List.map_cons, e, ↓reduceIte]
        exact ⟨w, vs', rfl, r1, e3⟩
end Hy

set_option Elab.async false
set_option linter.all false
set_option maxRecDepth 100000
set_option maxHeartbeats 4000000
set_option autoImplicit false
namespace Hy
open PySem PySem.Spec PyProof.Rows L2
/-! ### d[k] = v -/
theorem putK_ok {K : PySem.W.Frag} {F : Hp} {k : Key} {d : D} {v : V} (r : Rep K F d v) {kvs : List (Key × D)} {vs : List V} (h : Reps K F (kvs.map (·.2)) vs) :
    ∃ vs', putK ((kvs.map (·.1)).zip vs) k v = ((putKD kvs k d).map (·.1)).zip vs' ∧ Reps K F ((putKD kvs k d).map (·.2)) vs' := by
  obtain ⟨e1, vs', e2, e3⟩ := put_map (k := k) r h
  unfold putK putKD
  rw [e1]
  by_cases a : (kvs.any fun kv => decide (kv.1 = k)) = true
  · rw [if_pos a, if_pos a]
    exact ⟨vs', e2, e3⟩
  · rw [if_neg a, if_neg a]
    refine ⟨vs ++ [v], ?_, ?_⟩
    · rw [List.map_append, List.zip_append (by rw [h.len, List.length_map, List.length_map])]
      rfl
    · rw [List.map_append]
      exact h.append (Reps.one r)
def gDput (x y z : D) (S : Sto) (Q : Sto → Prop) : Prop := match x with
  | .ref q => match S q with
    | some (.dct kvs) => match keyD y with
      | some k => match Nat.ble kvs.length 1000 with
        | true => Q (up S q (.dct (putKD kvs k z)))
        | false => False
      | none => False
    | _ => False
  | _ => False
theorem gDput_ok {K : PySem.W.Frag} {G F : Hp} {S : Sto} {H : Hp} {x y z : D} {v u t : V} {Q0 : Sto → Prop} (w : Wd K G F S H) (rx : Rep K F x v) (ry : Rep K F y u) (rz : Rep K F z t) (h : gDput x y z S Q0) {Q : Hp → Prop} (hq : ∀ S' H', Wd K G F S' H' → Q0 S' → Q H') :
    ∃ a H4, v = .ref a ∧ DPut H a u t H4 ∧ Q H4 := by
  unfold gDput at h
  split at h
  · rename_i q
    obtain rfl : v = .ref q := rx
    split at h
    · rename_i kvs e
      split at h
      · rename_i k ek
        split at h
        · rename_i hl
          obtain ⟨vs, h1, h2⟩ := dctAt w e
          obtain rfl := keyD_ok ry ek
          obtain ⟨vs', e2, e3⟩ := putK_ok (k := k) rz h2
          have hlt : ((kvs.map (·.1)).zip vs).length < sizeLine := by
            rw [zip_len h2]
            have := Nat.le_of_ble_eq_true hl
            rw [sizeLine_eq]; omega
          refine ⟨q, _, rfl, DPut.k h1 hlt, hq _ _ (w.put (m := .dct (putKD kvs k z)) e ⟨vs', by rw [e2], e3⟩) h⟩
        · exact h.elim
      · exact h.elim
    · exact h.elim
  · exact h.elim
def hDput (to ti te : HTE) : HTS := fun D env S => te env S (fun z S1 => to env S1 (fun x S2 => ti env S2 (fun y S3 => gDput x y z S3 fun S4 => D.nx env S4) fun x S3 => D.ex x env S3) fun x S2 => D.ex x env S2) fun x S1 => D.ex x env S1
section
variable {B : Bs} {a b o i e : Expr} {ta tb to ti te : HTE} {tr : HTA} {p pos pos' : Pos}
theorem hdput (ho : HE B o to) (hi : HE B i ti) (h : HE B e te) (hs : ∀ env, swapsWith e (some (.Subscript o i pos')) pos.line env = pure false := by intro _; rfl) : HS B (.Assign [.Subscript o i pos'] e pos) (hDput to ti te) :=
  ⟨fun X W ok tk => PS.imp (ps_dput (by have := ok.room.units; omega) (ho.run X W ok tk) (hi.run X W ok tk) (h.run X W ok tk) (hs _)) fun D σ H ⟨G, F, S, env, E, rn, wd, h, oo⟩ =>
    ⟨G, F, S, env, _, _, rn, wd, h, fun z t F1 S1 H1 l1 w1 r1 h1 =>
      ⟨G, F1, S1, env, _, _, rn.le l1, w1, h1, fun x v F2 S2 H2 l2 w2 r2 h2 =>
        ⟨G, F2, S2, env, _, _, rn.le (l1.trans l2), w2, h2, fun y u F3 S3 H3 l3 w3 r3 h3 =>
          gDput_ok w3 (r2.le l3) r3 (r1.le (l2.trans l3)) h3 fun S' H' w' q => oo.nx env σ F3 S' H' (l1.trans (l2.trans l3)) w' (rn.le (l1.trans (l2.trans l3))) q, (oo.le (l1.trans l2)).exc (rn.le (l1.trans l2))⟩, (oo.le l1).exc (rn.le l1)⟩, oo.exc rn⟩⟩
/-! ### {}, {k: v, ..} -/
def hDnew : HTE := fun _ S Q _ => ∀ p, S p = none → Q (.ref p) (up S p (.dct []))
theorem hdnew : HE B (.Dict [] [] pos) hDnew :=
  ⟨fun X W ok tk => PE.imp pe_dnewK fun σ H Q ⟨G, F, S, env, Q0, E0, rn, wd, h, hq, he⟩ p hp =>
    hq (.ref p) _ F _ _ Le.rfl' (wd.newS (m := .dct []) hp ⟨[], rfl, rfl⟩) rfl (h p (wd.freshS hp))⟩
def hPrs : List (HTE × HTE) → HEnv → Sto → (List (D × D) → Sto → Prop) → HK → Prop
  | [], _, S, Q, _ => Q [] S
  | (tk, tv) :: r, env, S, Q, E => tk env S (fun x S1 => tv env S1 (fun y S2 => hPrs r env S2 (fun ps S3 => Q ((x, y) :: ps) S3) E) E) E
def keysD : List (D × D) → Option (List (Key × D))
  | [] => some []
  | (x, y) :: r => match keyD x with
    | some k => match keysD r with
      | some l => some ((k, y) :: l)
      | none => none
    | none => none
def mergeKD (kvs more : List (Key × D)) : List (Key × D) := more.foldl (fun acc kv => putKD acc kv.1 kv.2) kvs
def hDisp (ts : List (HTE × HTE)) : HTE := fun env S Q E => hPrs ts env S (fun ps S1 => match keysD ps with
  | some kvs => match Nat.ble kvs.length 15 with
    | true => ∀ p, S1 p = none → Q (.ref p) (up S1 p (.dct (mergeKD [] kvs)))
    | false => False
  | none => False) E
inductive HPPs (B : Bs) : List (Option Expr) → List Expr → List (HTE × HTE) → Prop where
  | nil : HPPs B [] [] []
  | cons {k v : Expr} {ks : List (Option Expr)} {vs : List Expr} {tk tv : HTE} {ts : List (HTE × HTE)} (hk : HE B k tk) (hv : HE B v tv) (hr : HPPs B ks vs ts) : HPPs B (some k :: ks) (v :: vs) ((tk, tv) :: ts)
abbrev lPs (K : PySem.W.Frag) (W : WX) (ts : List (HTE × HTE)) : List (TE × TE) := ts.map fun t => (lE K W t.1, lE K W t.2)
theorem HPPs.pps {ks : List (Option Expr)} {vs : List Expr} {ts : List (HTE × HTE)} (h : HPPs B ks vs ts) {X : Cx} {W : WX} (ok : OkC B X) (tk : Takes X W) : PPs X pos ks vs (lPs B.K W ts) := by
  induction h with
  | nil => exact pps_nil
  | cons hk hv _ ih => exact pps_cons (hk.run X W ok tk) (hv.run X W ok tk) ih
theorem HPPs.len {ks : List (Option Expr)} {vs : List Expr} {ts : List (HTE × HTE)} (h : HPPs B ks vs ts) : ks.length = ts.length := by
  induction h with
  | nil => rfl
  | cons _ _ _ ih => simp [ih]
def RepP (K : PySem.W.Frag) (F : Hp) : List (D × D) → List (V × V) → Prop
  | [], vs => vs = []
  | (d, e) :: ds, vs => ∃ v u ws, vs = (v, u) :: ws ∧ Rep K F d v ∧ Rep K F e u ∧ RepP K F ds ws
theorem prs_lift {K : PySem.W.Frag} {W : WX} {σ : L2.St} {G : Hp} {env : HEnv} {E0 : HK} : ∀ (ts : List (HTE × HTE)) (F : Hp) (S : Sto) (H : Hp) (Q0 : List (D × D) → Sto → Prop) (Q : List (V × V) → Hp → Prop), RepN K F env σ → Wd K G F S H → hPrs ts env S Q0 E0 →
    (∀ ps vs F' S' H', Le F F' → Wd K G F' S' H' → RepP K F' ps vs → Q0 ps S' → Q vs H') → OkE K G F E0 (WE W σ) → tPairs (lPs K W ts) σ H Q
  | [], F, S, H, Q0, Q, rn, wd, h, hq, he => hq [] [] F S H Le.rfl' wd rfl h
  | (tk, tv) :: ts, F, S, H, Q0, Q, rn, wd, h, hq, he =>
    ⟨G, F, S, env, _, E0, rn, wd, h, fun d v F1 S1 H1 l1 w1 r1 h1 =>
      ⟨G, F1, S1, env, _, E0, rn.le l1, w1, h1, fun e u F2 S2 H2 l2 w2 r2 h2 =>
        prs_lift ts F2 S2 H2 _ _ (rn.le (l1.trans l2)) w2 h2 (fun ps vs F3 S3 H3 l3 w3 r3 h3 => hq ((d, e) :: ps) ((v, u) :: vs) F3 S3 H3 (l1.trans (l2.trans l3)) w3 ⟨v, u, vs, rfl, r1.le (l2.trans l3), r2.le l3, r3⟩ h3) (he.le (l1.trans l2)), he.le l1⟩, he⟩
theorem keys_ok {K : PySem.W.Frag} {F : Hp} : ∀ {ps : List (D × D)} {vs : List (V × V)} {kvs : List (Key × D)}, RepP K F ps vs → keysD ps = some kvs → ∃ ws, vs = ((kvs.map (·.1)).zip ws).map (fun kv => (kV kv.1, kv.2)) ∧ Reps K F (kvs.map (·.2)) ws ∧ kvs.length = ps.length
  | [], _, _, r, e => by
    cases r
    simp only [keysD, Option.some.injEq] at e
    subst e
    exact ⟨[], rfl, rfl, rfl⟩
  | (x, y) :: ps, _, kvs, r, e => by
    obtain ⟨v, u, ws, rfl, r1, r2, r3⟩ := r
    simp only [keysD] at e
    split at e
    · rename_i k ek
      split at e
      · rename_i l el
        cases e
        obtain ⟨us, e1, e2, e3⟩ := keys_ok r3 el
        obtain rfl := keyD_ok r1 ek
        refine ⟨u :: us, ?_, ⟨u, us, rfl, r2, e2⟩, by simp [e3]⟩
        rw [e1] <;> rfl
      · cases e
    · cases e
theorem mergeK_ok {K : PySem.W.Frag} {F : Hp} : ∀ {more : List (Key × D)} {ws : List V} {kvs : List (Key × D)} {vs : List V}, Reps K F (more.map (·.2)) ws → Reps K F (kvs.map (·.2)) vs →
    ∃ vs', mergeK ((kvs.map (·.1)).zip vs) ((more.map (·.1)).zip ws) = ((mergeKD kvs more).map (·.1)).zip vs' ∧ Reps K F ((mergeKD kvs more).map (·.2)) vs'
  | [], _, kvs, vs, r, h => ⟨vs, rfl, h⟩
  | (k, d) :: more, _, kvs, vs, r, h => by
    obtain ⟨w, ws, rfl, r1, r2⟩ := r
    obtain ⟨vs1, e1, h1⟩ := putK_ok (k := k) r1 h
    obtain ⟨vs2, e2, h2⟩ := mergeK_ok (kvs := putKD kvs k d) r2 h1
    refine ⟨vs2, ?_, h2⟩
    show mergeK (putK ((kvs.map (·.1)).zip vs) k w) ((more.map (·.1)).zip ws) = _
    rw [e1]
    exact e2
theorem hdisp {ks : List (Option Expr)} {vs : List Expr} {ts : List (HTE × HTE)} (h : HPPs B ks vs ts) (hall : ks.all (·.isSome) = true := by rfl) (hl : ks.length = vs.length := by rfl) (h0 : ks ≠ [] := by simp) (h15 : ks.length ≤ 15 := by decide) : HE B (.Dict ks vs pos) (hDisp ts) :=
  ⟨fun X W ok tk => PE.imp (pe_disp (h.pps ok tk) hall hl h0 h15) fun σ H Q ⟨G, F, S, env, Q0, E0, rn, wd, q, hq, he⟩ => by
    intro p hp
    have hG : G p = none := by
      cases e : G p with
      | none => rfl
      | some o => rw [(wd.gr p o e).1] at hp; cases hp
    have leG : Le G (upd G p (.dK [])) := Le.upd hG
    refine prs_lift (G := upd G p (.dK [])) ts F S _ _ _ rn (wd.newG _ hp) q (fun ps us F1 S1 H1 l1 w1 r1 q1 => ?_) (fun x cls dd F' S' H' l w r e => he x cls dd F' S' H' l (w.lessG leG) r e)
    obtain ⟨g1, _, _⟩ := w1.gr p _ upd_same
    refine ⟨g1, ?_⟩
    split at q1
    · rename_i kvs ek
      obtain ⟨ws, e1, e2, e3⟩ := keys_ok r1 ek
      obtain ⟨ws', e4, e5⟩ := mergeK_ok (kvs := []) (vs := []) e2 rfl
      split at q1
      · rename_i h15'
        refine ⟨(kvs.map (·.1)).zip ws, e1, by rw [zip_len e2]; exact Nat.le_of_ble_eq_true h15', ?_⟩
        obtain ⟨w2, hS⟩ := (w1.putG (.dK (mergeK [] ((kvs.map (·.1)).zip ws)))).endS (m := .dct (mergeKD [] kvs)) hG ⟨ws', by rw [← e4] <;> rfl, e5⟩
        exact hq (.ref p) _ F1 _ _ l1 w2 rfl (q1 p hS)
      · exact q1.elim
    · exact q1.elim⟩
end
end Hy

set_option Elab.async false
set_option linter.all false
set_option maxRecDepth 100000
set_option maxHeartbeats 4000000
set_option autoImplicit false
namespace Hy
open PySem PySem.Spec PyProof.Rows L2
/-! ### dict(d): a copy -/
def gDcopy : GL := fun ds S Q => match ds with
  | [.ref q] => match S q with
    | some (.dct kvs) => ∀ p, S p = none → Q (.ref p) (up S p (.dct kvs))
    | _ => False
  | _ => False
abbrev rDcopy : List V → Hp → VK → Prop := fun xs H Q => ∃ (a : Addr) (kvs : List (Key × V)), xs = [.ref a] ∧ Rd H a (.dK kvs) ∧ ∀ p, H p = none → Q (.ref p) (upd H p (.dK kvs))
theorem gDcopy_ok {K : PySem.W.Frag} : RLok K gDcopy rDcopy := by
  intro G F S H ds vs Q0 Q w r h hq
  unfold gDcopy at h
  split at h
  · rename_i q
    obtain ⟨v, rfl, r1⟩ := r.one_inv
    obtain rfl : v = .ref q := r1
    split at h
    · rename_i kvs e
      obtain ⟨vs, h1, h2⟩ := dctAt w e
      exact ⟨q, _, rfl, .inl h1, fun p hp => hq (.ref p) _ F _ _ Le.rfl' (w.newS (m := .dct kvs) hp ⟨vs, rfl, h2⟩) rfl (h p (w.freshS hp))⟩
    · exact h.elim
  · exact h.elim
section
variable {B : Bs} {a b o i e : Expr} {ta tb to ti te : HTE} {tr : HTA} {p pos pos' apos mpos : Pos}
theorem hdcopy (gn : Gn B "dict") (hm : B.mg "dict" = none) (ha : HA B [a] tr) (he : ∀ env, starEach [a] env = (false, eval a env) :: starEach [] env := by intro _; rfl) : HE B (.Call (.Name "dict" p) [a] [] pos) (hcb gDcopy tr) :=
  hcallTy (r := fun _ => rDcopy) (fun X _ => call_dictD) gDcopy_ok gn hm (by decide +kernel) ha (he := he) (hpl := fun _ => rfl)
end
/-! ### == of dicts with flat values -/
def vOf : D → Option V
  | .non => some .non
  | .bl b => some (.bl b)
  | .int i => some (.int i)
  | .str x => some (.str x)
  | _ => none
theorem vOf_ok {K : PySem.W.Frag} {F : Hp} {d : D} {v u : V} (r : Rep K F d v) (e : vOf d = some u) : v = u ∧ flatV u = true := by
  cases d <;> first | (simp [vOf] at e; done) | (simp only [vOf, Option.some.injEq] at e; subst e; cases r; exact ⟨rfl, rfl⟩)
/-- do all of ks stand in ls? -/
def hitsD (ls : List (Key × D)) : List (Key × D) → Option Bool
  | [] => some true
  | (k, d) :: r => match valD ls k with
    | none => some false
    | some e => match vOf d, vOf e with
      | some v, some u => match eqV v u with
        | true => hitsD ls r
        | false => match hitsD ls r with
          | some _ => some false
          | none => none
      | _, _ => none
theorem hits_ok {A : Around} {s : Shared} {K : PySem.W.Frag} {F : Hp} {ls : List (Key × D)} {ws : List V} {vb : List (Key × Value)} (rb : KV ((ls.map (·.1)).zip ws) vb) (rl : Reps K F (ls.map (·.2)) ws) :
    ∀ {ks : List (Key × D)} {us : List V} {va : List (Key × Value)} {b : Bool}, KV ((ks.map (·.1)).zip us) va → Reps K F (ks.map (·.2)) us → hitsD ls ks = some b → PySem.W.KeqHits A s vb va b
  | [], _, va, b, ra, rk, h => by
    cases rk
    cases ra
    simp only [hitsD, Option.some.injEq] at h
    subst h
    exact .nil
  | (k, d) :: ks, _, va, b, ra, rk, h => by
    obtain ⟨v, us, rfl, r1, r2⟩ := rk
    have ra' : KV ((k, v) :: (ks.map (·.1)).zip us) va := ra
    cases ra' with
    | @cons p q ps qs hh t =>
      obtain ⟨k', v'⟩ := q
      obtain ⟨h1, h2⟩ := hh
      obtain rfl : k = k' := h1
      have rr := rb.val k
      obtain ⟨p1, p2⟩ := valD_ok (k := k) rl
      simp only [hitsD] at h
      cases ev : valD ls k with
      | none =>
        rw [ev] at h
        simp only [Option.some.injEq] at h
        subst h
        rw [p2 ev] at rr
        refine .miss ?_
        cases ex : valueAt vb k with
        | none => rfl
        | some y => rw [ex] at rr; cases rr
      | some e =>
        rw [ev] at h
        obtain ⟨u, h3, h4⟩ := p1 e ev
        rw [h3] at rr
        obtain ⟨y, hy, ry⟩ := rr.some_of
        dsimp only at h
        split at h
        · rename_i v0 u0 e1 e2
          obtain ⟨rfl, f1⟩ := vOf_ok r1 e1
          obtain ⟨rfl, f2⟩ := vOf_ok h4 e2
          have q := eqAt_V (A := A) (s := s) h2 ry f1 f2
          split at h
          · rename_i e3
            rw [e3] at q
            have := PySem.W.KeqHits.hit (k := k) hy q (hits_ok rb rl t r2 h)
            rwa [Bool.true_and] at this
          · rename_i e3
            rw [e3] at q
            split at h
            · rename_i b' e4
              cases h
              have := PySem.W.KeqHits.hit (k := k) hy q (hits_ok rb rl t r2 e4)
              rwa [Bool.false_and] at this
            · cases h
        · cases h
def deqD (ks ls : List (Key × D)) : Option Bool := match Nat.beq ks.length ls.length with
  | true => hitsD ls ks
  | false => some false
def gDeq (neg : Bool) : G2 := fun x y S Q => match x, y with
  | .ref p, .ref q => match S p, S q with
    | some (.dct ks), some (.dct ls) => match deqD ks ls with
      | some b => Q (.bl (ng neg b)) S
      | none => False
    | _, _ => False
  | _, _ => False
def rDeq (K : PySem.W.Frag) (neg : Bool) : R2 := fun x y H Q => ∃ a b ks ls us ws F r, x = .ref a ∧ y = .ref b ∧ H a = some (.dK ((ks.map (·.1)).zip us)) ∧ H b = some (.dK ((ls.map (·.1)).zip ws)) ∧ Reps K F (ks.map (·.2)) us ∧ Reps K F (ls.map (·.2)) ws ∧ deqD ks ls = some r ∧ Q (.bl (ng neg r)) H
theorem gDeq_ok {K : PySem.W.Frag} (neg : Bool) : R2ok K (gDeq neg) (rDeq K neg) := by
  intro G F S H d1 v1 d2 v2 Q0 Q w r1 r2 h hq
  unfold gDeq at h
  split at h
  · rename_i p q
    obtain rfl : v1 = .ref p := r1
    obtain rfl : v2 = .ref q := r2
    split at h
    · rename_i ks ls e1 e2
      split at h
      · rename_i b eb
        obtain ⟨us, h1, h2⟩ := dctAt w e1
        obtain ⟨ws, h3, h4⟩ := dctAt w e2
        exact ⟨p, q, ks, ls, us, ws, F, b, rfl, rfl, h1, h3, h2, h4, eb, hq (.bl _) _ F S H Le.rfl' w rfl h⟩
      · exact h.elim
    · exact h.elim
  · exact h.elim
theorem deq_hits {A : Around} {s : Shared} {K : PySem.W.Frag} {F : Hp} {ks ls : List (Key × D)} {us ws : List V} {va vb : List (Key × Value)} {r : Bool} (ra : KV ((ks.map (·.1)).zip us) va) (rb : KV ((ls.map (·.1)).zip ws) vb) (h2 : Reps K F (ks.map (·.2)) us) (h4 : Reps K F (ls.map (·.2)) ws) (h : deqD ks ls = some r) :
    ∃ r', (va.length = vb.length → PySem.W.KeqHits A s vb va r') ∧ (va.length == vb.length && r') = r := by
  have l1 : va.length = ks.length := by rw [← ra.length, zip_len h2]
  have l2 : vb.length = ls.length := by rw [← rb.length, zip_len h4]
  unfold deqD at h
  split at h
  · rename_i e
    refine ⟨r, fun _ => hits_ok rb h4 ra h2 h, ?_⟩
    have := Nat.eq_of_beq_eq_true e
    simp [l1, l2, this]
  · rename_i e
    cases h
    refine ⟨false, fun z => ?_, by simp⟩
    have : Nat.beq ks.length ls.length = true := by rw [← l1, ← l2, z]; exact Nat.beq_refl _
    rw [this] at e; cases e
theorem op_deq {X : Cx} (hu : X.A.units < cLine) : OpR X (compareOp .Eq) (rDeq X.K false) := by
  intro pins s σ H x y v u Q I rx ry h
  obtain ⟨a, b, ks, ls, us, ws, F, r, rfl, rfl, ea, eb, h2, h4, hd, q⟩ := h
  obtain rfl : v = Value.ref a := rx
  obtain rfl : u = Value.ref b := ry
  obtain ⟨_, ya, va, ra, da⟩ := (show ObjOk X.prog X.w H s.heap a (.dK _) from I.hok a _ ea)
  obtain ⟨_, yb, vb, rb, db⟩ := (show ObjOk X.prog X.w H s.heap b (.dK _) from I.hok b _ eb)
  obtain ⟨r', g1, g2⟩ := deq_hits (A := X.A.in1) (s := s) ra rb h2 h4 hd
  exact PySem.W.keq_eq (knd := mixKind X.prog X.w) (r := r') ya yb da db hu g1 (fin_bl I q (by simp [g2, ng]))
theorem op_dne {X : Cx} (hu : X.A.units < cLine) : OpR X (compareOp .NotEq) (rDeq X.K true) := by
  intro pins s σ H x y v u Q I rx ry h
  obtain ⟨a, b, ks, ls, us, ws, F, r, rfl, rfl, ea, eb, h2, h4, hd, q⟩ := h
  obtain rfl : v = Value.ref a := rx
  obtain rfl : u = Value.ref b := ry
  obtain ⟨_, ya, va, ra, da⟩ := (show ObjOk X.prog X.w H s.heap a (.dK _) from I.hok a _ ea)
  obtain ⟨_, yb, vb, rb, db⟩ := (show ObjOk X.prog X.w H s.heap b (.dK _) from I.hok b _ eb)
  obtain ⟨r', g1, g2⟩ := deq_hits (A := X.A.in1) (s := s) ra rb h2 h4 hd
  exact PySem.W.keq_ne (knd := mixKind X.prog X.w) (r := r') ya yb da db hu g1 (fin_bl I q (by simp [g2, ng]))
section
variable {B : Bs} {a b : Expr} {ta tb : HTE} {pos : Pos}
theorem hdeq (ha : HE B a ta) (hb : HE B b tb) : HE B (.Compare a [.Eq] [b] pos) (hop (gDeq false) ta tb) := hcmp (r := fun K => rDeq K false) (fun X ok => op_deq (by have := ok.room.units; omega)) (gDeq_ok false) ha hb (nomark _)
theorem hdne (ha : HE B a ta) (hb : HE B b tb) : HE B (.Compare a [.NotEq] [b] pos) (hop (gDeq true) ta tb) := hcmp (r := fun K => rDeq K true) (fun X ok => op_dne (by have := ok.room.units; omega)) (gDeq_ok true) ha hb (nomark _)
theorem hdeqT (ha : HE B a ta) (hb : HE B b tb) : HT B (.Compare a [.Eq] [b] pos) (hB (hop (gDeq false) ta tb)) := hcmpT (r := fun K => rDeq K false) (fun X ok => op_deq (by have := ok.room.units; omega)) (gDeq_ok false) ha hb (nomark _)
theorem hdneT (ha : HE B a ta) (hb : HE B b tb) : HT B (.Compare a [.NotEq] [b] pos) (hB (hop (gDeq true) ta tb)) := hcmpT (r := fun K => rDeq K true) (fun X ok => op_dne (by have := ok.room.units; omega)) (gDeq_ok true) ha hb (nomark _)
end
end Hy

set_option Elab.async false
set_option linter.all false
set_option maxRecDepth 100000
set_option maxHeartbeats 4000000
set_option autoImplicit false
/-! sorted(d.values()), ints; isinstance(x, int) -/
namespace Hy
open PySem PySem.Spec PyProof.Rows L2
section
variable {X : Cx} {o : Expr} {p pos apos mpos : Pos} {td : TE}
def tSortVals (td : TE) : TE := fun σ H Q => td σ H fun x H1 => ∃ a kvs is, x = V.ref a ∧ H1 a = some (.dK kvs) ∧ kvs.map (·.2) = is.map V.int ∧ is.length < 64 ∧ ∀ (ys : List Int) (p : Addr), ys.Perm is → ys.Pairwise (· ≤ ·) → H1 p = none → Q (.ref p) (upd H1 p (.lst (ys.map V.int)))
theorem pe_sortVals (hc : X.calm = true) (hg : Gl X "sorted") (hm : X.mg "sorted" = none) (hd : PE X o td) (hbase : attributeBase o "values" X.env (eval o X.env) = eval o X.env := by rfl) (hline : (apos.endLine == mpos.line) = true := by rfl)
    (hse : starEach [Expr.Call (.Attribute o "values" apos) [] [] mpos] X.env = [(false, eval (Expr.Call (.Attribute o "values" apos) [] [] mpos) X.env)] := by rfl) :
    PE X (.Call (.Name "sorted" p) [.Call (.Attribute o "values" apos) [] [] mpos] [] pos) (tSortVals td) := by
  refine ⟨fun pins s σ H Q I h => ?_⟩
  refine wpAny_Call_Name_kw (ld_blt I hg hm (u := .builtin "sorted") (by first | rfl | decide +kernel) ?_ (by first | decide +kernel | decide) (by first | decide +kernel | decide))
  rw [hse]
  refine PySem.callWith_builtin1 (wpAny_Call_method0_late hbase hline (thn (hd.run pins s σ H _ I h) fun v s1 ⟨x, H1, I1, r1, a, kvs, is, ex, ha, hv, h64, q⟩ => ?_))
  subst ex
  obtain rfl : v = Value.ref a := r1
  obtain ⟨_, hsys, vs, rel, dof⟩ := dk_of I1.hok ha
  obtain ⟨ep, dat⟩ := dof.dictAt
  have dat' := dat
  obtain ⟨ob, es, ho, ex, hdat, hko, hpr, hnd⟩ := dat'
  refine ⟨"dict", "dict.values", F.plainAttrs_dict, F.slot_dict_values, F.type_dict_values, ⟨ob, ho, ex.1⟩, fun b e => ?_, Calls.callWith_builtin rfl (PySem.evalArgs_none ?_)⟩
  · cases e
    exact ⟨ob, ho, ex.2.1⟩
  refine call_meetsIn F.slot_dict_values ⟨ob, ho, ex.1⟩ F.entry_dict_values (F.args_dict_values_1 _) (meets_dict_values (mixKind X.prog X.w) a hsys) ⟨⟨vs, dof⟩, ?_⟩
  have k1 : ∀ b u, s1.heap.get? b = some u → (s1.heap.push { cls := .type "dict_values", data := .fields #[.ref a] }).get? b = some u := fun b u e => Heap.get?_push_of_some _ e
  have dat1 : (s1.heap.push { cls := .type "dict_values", data := .fields #[.ref a] }).DictAt (mixKind X.prog X.w) a vs ep := dat.keep k1
  have hlv : vs.length = is.length := by
    have e1 := congrArg List.length hv
    rw [List.length_map, List.length_map] at e1
    rw [← e1]
    exact (KV.length rel).symm
  have h16 : vs.length ≤ sizeLine := by rw [hlv, sizeLine_eq]; omega
  have I2 : Inv X pins σ H1 { s1 with heap := s1.heap.push { cls := .type "dict_values", data := .fields #[.ref a] } } := I1.kept (t' := s1.toks) k1
  refine Calls.call_function_entry PyProof.Rows.kind_sorted PyProof.Rows.plain_sorted PyProof.Rows.entry_sorted (PyProof.Rows.args_sorted1 _) ?_
  unfold Builtin.«sorted»
  refine wpAny_bind (m := checkCount "sorted" 1 1 _) (wpAny_pure ?_)
  refine wpAny_bind (PySem.W.kdu_collect (A := X.A.in1) (s := { s1 with heap := s1.heap.push { cls := .type "dict_values", data := .fields #[.ref a] } }) (PySem.W.kdl_values (knd := mixKind X.prog X.w) (r := s1.heap.objs.size) (d := a) (kvs := vs) (ep := ep)) (I1.ok.hd hc) ⟨⟨_, Heap.get?_push_size _ rfl, rfl, rfl⟩, dat1⟩ h16 fun h' tk acc hk hacc => ?_)
  have hal : acc.toList.length = is.length := by rw [Array.length_toList, hacc.1, hlv]
  have hS : IntsAre acc.toList is := ints_each hal fun j v e => by
    obtain ⟨k, e1⟩ := hacc.2 j v (by rw [← Array.getElem?_toList]; exact e)
    obtain ⟨x, h1, h2⟩ := KV.at' rel e1
    have e3 : (kvs.map (·.2))[j]? = some x := by rw [List.getElem?_map, h1] <;> rfl
    rw [hv, List.getElem?_map] at e3
    obtain ⟨i, hi, e4⟩ := Option.map_eq_some_iff.mp e3
    subst e4
    obtain ⟨t, e5⟩ := h2
    exact ⟨i, t, hi, e5⟩
  have I3 : Inv X pins σ H1 { s1 with heap := h', toks := tk } := I2.kept hk
  refine wpAny_bind (wpAny_newList ?_ (by rw [hal, sizeLine_eq]; omega))
  have hoL : (h'.push (seqObj "list" acc.toList.toArray 0)).get? h'.objs.size = some (seqObj "list" acc.toList.toArray 0) := Heap.get?_push_size _ rfl
  show wpAny _ _ _ _ _ { s1 with heap := h'.push (seqObj "list" acc.toList.toArray 0), toks := tk }
  refine wpAny_bind (wpAny_holding (wpAny_call_entry PyProof.Rows.slot_list_sort ⟨_, hoL, rfl⟩ PyProof.Rows.entry_list_sort
    (PyProof.Rows.list_sort_tree (s := { s1 with heap := h'.push (seqObj "list" acc.toList.toArray 0), toks := tk }) hoL hS (by rw [hal]; exact h64) fun out ys g1 g2 g3 => ⟨_, rfl, ?_⟩) (PyProof.Rows.args_list_sort _)))
  obtain ⟨e', he'⟩ := PyProof.Rows.sortedHeap_at (vs := acc.toList) (out := out) hoL
  have hlen : (ys.map V.int).length ≤ sizeLine := by
    rw [List.length_map, g2.length_eq]
    exact Nat.le_trans (Nat.le_of_lt h64) (by decide)
  refine wpAny_pure ⟨_, rfl, .ref h'.objs.size, upd H1 h'.objs.size (.lst (ys.map V.int)), I3.laid (t' := tk) (fun b u e => ?_) (Nat.le_refl _)
    (show ObjOk X.prog X.w _ _ _ (.lst (ys.map V.int)) from ⟨hlen, out.toList, e', vals_of_ints g1, by rw [Array.toArray_toList]; exact he'⟩), rfl, q ys _ g2 g3 (I3.hok.fresh (Nat.le_refl _))⟩
  have hb : b < h'.objs.size := Heap.lt_size e
  rw [PyProof.Rows.sortedHeap_old (Nat.ne_of_lt hb) (by rw [size_push']; exact Nat.lt_succ_of_lt hb)]
  exact Heap.get?_push_of_some _ e
end
def intsD : List D → Option (List Int)
  | [] => some []
  | .int i :: r => match intsD r with
    | some l => some (i :: l)
    | none => none
  | _ :: _ => none
theorem intsD_ok {K : PySem.W.Frag} {F : Hp} : ∀ {ds : List D} {vs : List V} {is : List Int}, Reps K F ds vs → intsD ds = some is → vs = is.map V.int
  | [], _, _, r, e => by cases r; simp only [intsD, Option.some.injEq] at e; subst e; rfl
  | d :: ds, _, is, r, e => by
    obtain ⟨v, ws, rfl, r1, r2⟩ := r
    cases d <;> simp only [intsD] at e <;> try (exact absurd e (by simp))
    split at e
    · rename_i l el
      cases e
      cases r1
      rw [intsD_ok r2 el] <;> rfl
    · cases e
theorem ints_reps2 {K : PySem.W.Frag} {F : Hp} : ∀ {is : List Int}, Reps K F (is.map D.int) (is.map V.int)
  | [] => rfl
  | i :: is => ⟨_, _, rfl, rfl, ints_reps2⟩
def gSortVals : G1 := fun x S Q => match x with
  | .ref q => match S q with
    | some (.dct kvs) => match intsD (kvs.map (·.2)) with
      | some is => match Nat.ble is.length 63 with
        | true => ∀ ys : List Int, ys.Perm is → ys.Pairwise (· ≤ ·) → Q (.lst (ys.map D.int)) S
        | false => False
      | none => False
    | _ => False
  | _ => False
section
variable {B : Bs} {o e : Expr} {to te : HTE} {x : Str} {p pos apos mpos : Pos}
theorem hsortVals (gn : Gn B "sorted") (hm : B.mg "sorted" = none) (ho : HE B o to) (hbase : ∀ env, attributeBase o "values" env (eval o env) = eval o env := by intro _; rfl) (hline : (apos.endLine == mpos.line) = true := by rfl)
    (hse : ∀ env, starEach [Expr.Call (.Attribute o "values" apos) [] [] mpos] env = [(false, eval (Expr.Call (.Attribute o "values" apos) [] [] mpos) env)] := by intro _; rfl) :
    HE B (.Call (.Name "sorted" p) [.Call (.Attribute o "values" apos) [] [] mpos] [] pos) (hun gSortVals to) :=
  ⟨fun X W ok tk => PE.imp (pe_sortVals ok.calm (ok.gl gn) (by rw [ok.em]; exact hm) (ho.run X W ok tk) (hbase _) hline (hse _)) fun σ H Q ⟨G, F, S, env, Q0, E0, rn, wd, h, hq, hE⟩ => ⟨G, F, S, env, _, E0, rn, wd, h, fun d v F1 S1 H1 l1 w1 r1 h1 => by
      dsimp only [gSortVals] at h1
      split at h1
      · rename_i q
        obtain rfl : v = .ref q := r1
        split at h1
        · rename_i kvs e
          split at h1
          · rename_i is ei
            split at h1
            · rename_i h63
              have hle := Nat.le_of_ble_eq_true h63
              obtain ⟨vs, g1, g2⟩ := dctAt w1 e
              refine ⟨q, _, is, rfl, g1, ?_, by omega, fun ys p1 pm pw hp => ?_⟩
              · rw [← intsD_ok g2 ei, List.map_snd_zip]
                rw [List.length_map, g2.len, List.length_map]
                exact Nat.le_refl _
              · obtain ⟨hn, q1⟩ := newLst (Q0 := Q0) (Q := Q) w1 (ints_reps2 (is := ys)) (by rw [List.length_map, pm.length_eq, sizeLine_eq]; omega) (hq.le l1) (h1 ys pm pw)
                exact q1 p1 hp
            · exact h1.elim
          · exact h1.elim
        · exact h1.elim
      · exact h1.elim, hE⟩⟩
end
def isInt : Nat → Bool
  | 1 => true
  | 2 => true
  | _ => false
theorem isT_int : IsT "int" isInt := isT_of (by decide +kernel) (by decide +kernel) (by decide +kernel) (by decide +kernel) (by decide +kernel) (by decide +kernel) (by decide +kernel) (fun i h => by
  obtain ⟨j, rfl⟩ : ∃ j, i = j + 6 := ⟨i - 6, by omega⟩
  rfl)
theorem boot_int : bootBuiltins "int" = some (.type "int") := by decide +kernel
/-! xs.count(y), flat -/
theorem countP_eqU {y : V} : ∀ {ys : List V} {us : List Value}, Vals ys us → ys.all flatV = true → us.countP (eqU y) = ys.countP fun z => eqV z y
  | _, _, .nil, _ => rfl
  | z :: ys, u :: us, .cons r t, f => by
    rw [List.all_cons, Bool.and_eq_true] at f
    rw [List.countP_cons, List.countP_cons, eqU_of r f.1, countP_eqU t f.2]
def rCnt (K : PySem.W.Frag) : V → List V → Hp → VK → Prop := fun x xs H Q => ∃ (a : Addr) (ys : List V) (y : V), x = V.ref a ∧ xs = [y] ∧ SqL K H a ys ∧ flatV y = true ∧ ys.all flatV = true ∧ Q (.int ((ys.countP fun z => eqV z y : Nat) : Int)) H
theorem mt_cnt {X : Cx} : MtR X "list.count" (rCnt X.K) := by
  intro pins s σ H x xs v us Q I rx rxs h
  obtain ⟨a, ys, y, rfl, rfl, hs, fy, fys, q⟩ := h
  cases rx
  cases rxs with
  | cons ry rt =>
    rename_i uy ut
    cases rt
    obtain ⟨its, rv, ⟨⟨cls, dd, data, sl⟩, n, ho, hc, hdn, hd⟩, hlen⟩ := I.list hs
    simp only at hc hd
    subst hc hd
    refine call_meets PySem.F.slot_list_count ⟨_, ho, rfl⟩ PySem.F.entry_list_count (PySem.F.args_list_count_2 _ _)
      (SeqAt.list_countAt a its.toArray n dd sl uy (eqU y)) ⟨ho, fun u' hu' => mem_eqAt ry fy rv fys u' (by simpa using hu'), ?_⟩
    refine ⟨.int ((ys.countP fun z => eqV z y : Nat) : Int), H, I.tok _, ⟨s.toks, ?_⟩, q⟩
    rw [← countP_eqU rv fys]
def vsOf : List D → Option (List V)
  | [] => some []
  | d :: r => match vOf d with
    | some v => match vsOf r with
      | some l => some (v :: l)
      | none => none
    | none => none
theorem vsOf_ok {K : PySem.W.Frag} {F : Hp} : ∀ {ds : List D} {vs us : List V}, Reps K F ds vs → vsOf ds = some us → vs = us ∧ us.all flatV = true
  | [], _, _, r, e => by cases r; simp only [vsOf, Option.some.injEq] at e; subst e; exact ⟨rfl, rfl⟩
  | d :: ds, _, us, r, e => by
    obtain ⟨v, ws, rfl, r1, r2⟩ := r
    simp only [vsOf] at e
    split at e
    · rename_i v0 e0
      split at e
      · rename_i l el
        cases e
        obtain ⟨rfl, f⟩ := vOf_ok r1 e0
        obtain ⟨rfl, g⟩ := vsOf_ok r2 el
        exact ⟨rfl, by rw [List.all_cons, f, g]; rfl⟩
      · cases e
    · cases e
def gCnt : GM := fun x ds S Q => match itemsL S x with
  | some xs => match ds with
    | [d] => match vsOf xs, vOf d with
      | some ys, some y => Q (.int ((ys.countP fun z => eqV z y : Nat) : Int)) S
      | _, _ => False
    | _ => False
  | none => False
theorem gCnt_ok {K : PySem.W.Frag} : RMok K gCnt (rCnt K) := by
  intro G F S H d v ds vs Q0 Q w r rs h hq
  unfold gCnt at h
  split at h
  · rename_i xs e
    obtain ⟨a, us, rfl, h1, h2, _⟩ := itemsL_ok w r e
    split at h
    · rename_i d1
      split at h
      · rename_i ys y e1 e2
        obtain ⟨v1, rfl, r1⟩ := rs.one_inv
        obtain ⟨rfl, f1⟩ := vOf_ok r1 e2
        obtain ⟨rfl, f2⟩ := vsOf_ok h2 e1
        exact ⟨a, _, _, rfl, rfl, h1, f1, f2, hq (.int _) _ F S H Le.rfl' w rfl h⟩
      · exact h.elim
    · exact h.elim
  · exact h.elim
section
variable {B : Bs} {o e : Expr} {to : HTE} {tr : HTA} {apos pos : Pos}
theorem hcount (ho : HE B o to) (ha : HA B [e] tr) (hbase : ∀ env, attributeBase o "count" env (eval o env) = eval o env := by intro _; rfl)
    (hfew : ∀ env, ((backTo pos (starEach [e] env)).all (fun x => !x.1) && (backToKw pos (keywordEach [] env)).all (fun x => x.1.isSome) && decide ([e].length + ([] : List Keyword).length + (if ([] : List Keyword).isEmpty then 0 else 1) < 30)) = true := by intro _; rfl)
    (hline : (apos.endLine == pos.line) = true := by rfl) (hs : ∀ env, starEach [e] env = (false, eval e env) :: starEach [] env := by intro _; rfl) : HE B (.Call (.Attribute o "count" apos) [e] [] pos) (hMt isLst gCnt to tr) :=
  hbm (r := rCnt) PySem.F.plainAttrs_list PySem.F.slot_list_count PySem.F.type_list_count (fun X _ => mt_cnt) gCnt_ok kd_lst ho ha hbase hfew hline hs (fun _ => rfl)
end
end Hy

set_option Elab.async false
set_option linter.all false
set_option maxRecDepth 100000
set_option maxHeartbeats 4000000
set_option autoImplicit false
namespace Hy
open PySem PySem.Spec PyProof.Rows L2
/-! y = [..] where y is a cell (an inner block reads it) -/
theorem sw_cell {elt : Expr} {gs : List Comprehension} {scope : Scope} {pos py : Pos} {y : Str} {l : Nat} {env : Env} (hy : env.scope.names.lookup y = some .cell) : swapsWith (.ListComp elt gs scope pos) (some (.Name y py)) l env = pure false := by
  have ky : env.kindOf y = some .cell := hy
  unfold swapsWith
  simp only [ky]
  cases env.blockKind <;> rfl
section
variable {B : Bs} {elt : Expr} {gs : List Comprehension} {scope : Scope} {te : HTE} {i : Nat} {y : Str} {py pos spos : Pos}
theorem hsetCX (h : HE B (.ListComp elt gs scope pos) te) (hN : B.N[i]? = some y := by rfl) (hl : Own B y := by first | exact Or.inl rfl | exact Or.inr ⟨rfl, rfl⟩) (hc : B.sc.names.lookup y = some .cell := by rfl) : HS B (.Assign [.Name y py] (.ListComp elt gs scope pos) spos) (hSet i te) :=
  ⟨fun X W ok tk => PS.imp (ps_set (i := i) ok.nd (by rw [ok.eN]; exact hN) (ok.loc hl.loc) (h.run X W ok tk) (sw_cell (by rw [ok.es]; exact hc)) (ok.fnl hl)) fun D σ H ⟨G, F, S, env, E, rn, wd, h, o⟩ =>
    ⟨G, F, S, env, _, _, rn, wd, h, fun d v F1 S1 H1 l w r q => o.nx _ _ F1 S1 H1 l w ((rn.le l).set r i) q, o.exc rn⟩⟩
end
end Hy

set_option Elab.async false
set_option linter.all false
set_option maxRecDepth 100000
set_option maxHeartbeats 4000000
set_option autoImplicit false
namespace Hy
open PySem PySem.Spec PyProof.Rows L2
/-! ### a dict of the module, text to text -/
abbrev Tbl := List (Str × Str)
def Tbl.at_ (t : Tbl) (z : Str) : Option Str := (t.find? fun kv => kv.1 == z).map (·.2)
def prTab (x : Str) (t : Tbl) : Pr := fun K => t.all fun kv => match PySem.W.nsIn K (He.ga K x) kv.1 with
  | some (some (.str v _)) => decide (t.at_ kv.1 = some v)
  | _ => false
structure TabOk (K : PySem.W.Frag) (w : World) (a : Addr) (t : Tbl) : Prop where
  kd : ∃ es n, KDict K w a es n
  some_ : ∀ z v, t.at_ z = some v → ∃ k, PySem.W.nsIn K a z = some (some (.str v k))
  none_ : ∀ z, t.at_ z = none → PySem.W.nsIn K a z = some none
theorem keyOf_lit {P : Params} : ∀ {l : List DictEntry} {ks : List Str}, l.map He.keyOf = He.keysIn P ks → (∀ e ∈ l, ∃ k t, k ∈ ks ∧ e.key = .str k t)
  | [], _, _ => fun e he => by cases he
  | e :: r, [], h => by cases h
  | e :: r, k :: ks, h => by
    have h1 : He.keyOf e :: r.map He.keyOf = some (k, PyData.keyHash P k) :: He.keysIn P ks := h
    injection h1 with h2 h3
    intro e' he
    rcases List.mem_cons.mp he with rfl | he
    · unfold He.keyOf at h2
      split at h2
      · rename_i x t q
        obtain ⟨h5, h6⟩ := Prod.mk.inj (Option.some.inj h2)
        exact ⟨x, t, by rw [h5]; exact List.mem_cons_self, q⟩
      · cases h2
    · obtain ⟨k', t, h4, h5⟩ := keyOf_lit h3 e' he
      exact ⟨k', t, List.mem_cons_of_mem _ h4, h5⟩
theorem tab_ok {K : PySem.W.Frag} {w : World} {x : Str} {t : Tbl} (h1 : prTab x t K = true) (h2 : He.dicW K (He.ga K x) = some (He.keysIn w.params (t.map (·.1)))) : TabOk K w (He.ga K x) t := by
  refine ⟨He.dicW_ok h2, fun z v hz => ?_, fun z hz => ?_⟩
  · unfold Tbl.at_ at hz
    obtain ⟨kv, h3, h4⟩ := Option.map_eq_some_iff.mp hz
    have hm := List.mem_of_find?_eq_some h3
    have hk0 : (kv.1 == z) = true := List.find?_some (p := fun kv : Str × Str => kv.1 == z) h3
    have hk : kv.1 = z := LawfulBEq.eq_of_beq hk0
    have := List.all_eq_true.mp h1 kv hm
    rw [hk] at this
    split at this
    · rename_i v' k e
      have := of_decide_eq_true this
      unfold Tbl.at_ at this
      rw [h3] at this
      have h6 : kv.2 = v' := Option.some.inj this
      rw [h4] at h6
      subst h6
      exact ⟨k, e⟩
    · cases this
  · obtain ⟨es, n, kd⟩ := He.dicW_ok h2
    have hd : He.dicW K (He.ga K x) = (match decide (("dict" : String) = "dict") && ((#[] : Array (Option Value)).isEmpty && !((He.ga K x) == sysModules)) with
      | true => some (es.toList.map He.keyOf)
      | false => none) := by
      unfold He.dicW
      rw [kd.at_]
      rfl
    rw [hd, kd.low] at h2
    have h3 : es.toList.map He.keyOf = He.keysIn w.params (t.map (·.1)) := Option.some.inj h2
    have h4 := keyOf_lit h3
    unfold PySem.W.nsIn
    rw [kd.at_]
    dsimp only
    have h5 : es.toList.find? (·.key.isStr z) = none := by
      rw [List.find?_eq_none]
      intro e he hs
      obtain ⟨k, tk, h6, h7⟩ := h4 e he
      rw [h7] at hs
      have hkz : k = z := LawfulBEq.eq_of_beq hs
      obtain ⟨kv, h8, h9⟩ := List.mem_map.mp h6
      unfold Tbl.at_ at hz
      have h10 := List.find?_eq_none.mp (Option.map_eq_none_iff.mp hz) kv h8
      rw [h9, hkz] at h10
      exact h10 (beq_self_eq_true z)
    rw [h5]
    dsimp only
    have h6 : es.toList.any (·.refKey) = false := by
      rw [List.any_eq_false]
      intro e he
      obtain ⟨k, tk, _, h7⟩ := h4 e he
      unfold DictEntry.refKey
      rw [h7]
      exact Bool.false_ne_true
    rw [h6]
    rfl
/-! what the text does with it -/
def gTabIn (t : Tbl) (te : HTE) : HTE := fun env S Q E => te env S (fun x S1 => match x with
  | .str z => Q (.bl (t.at_ z).isSome) S1
  | _ => False) E
def gTabAt (t : Tbl) (te : HTE) : HTE := fun env S Q E => te env S (fun x S1 => match x with
  | .str z => match t.at_ z with
    | some v => Q (.str v) S1
    | none => False
  | _ => False) E
section
variable {B : Bs} {e : Expr} {te : HTE} {x : Str} {t : Tbl} {p pos : Pos}
theorem pe_tabname {X : Cx} {W : WX} (ok : OkC B X) (gn : Gn B x) (hm : B.mg x = some (.ref (He.ga B.K x))) (hdb : (x == ("__debug__" : Str)) = false) : PE X (.Name x p) (fun σ H Q => Q (.ref (He.ga B.K x)) H) :=
  PE.imp (pe_glob (v := .ref (He.ga B.K x)) (ok.gl gn) (by rw [ok.em]; exact hm) rfl hdb) fun σ H Q h => h
theorem tabin_lift {K : PySem.W.Frag} {w : World} {W : WX} {a : Addr} (T : TabOk K w a t) (σ : L2.St) (H : Hp) (Q : VK) (h : lE K W (gTabIn t te) σ H Q) :
    tOp (fun x y H Q => ∃ (z : Str) (r : Option Value), x = .str z ∧ y = .ref a ∧ PySem.W.nsIn K a z = some r ∧ Q (.bl r.isSome) H) (lE K W te) (fun σ H Q => Q (.ref a) H) σ H Q := by
  obtain ⟨G, F, S, env, Q0, E0, rn, wd, hh, hq, he⟩ := h
  refine ⟨G, F, S, env, _, E0, rn, wd, hh, fun d v F1 S1 H1 l1 w1 r1 h1 => ?_, he⟩
  cases d <;> first | exact h1.elim | skip
  rename_i z
  obtain rfl : v = .str z := r1
  dsimp only at h1
  cases hz : t.at_ z with
  | none =>
    rw [hz] at h1
    exact ⟨z, none, rfl, rfl, T.none_ z hz, hq (.bl _) _ F1 S1 H1 l1 w1 rfl h1⟩
  | some u =>
    rw [hz] at h1
    obtain ⟨k, hk⟩ := T.some_ z u hz
    exact ⟨z, _, rfl, rfl, hk, hq (.bl _) _ F1 S1 H1 l1 w1 rfl h1⟩
theorem htabin (T : TabOk B.K B.w (He.ga B.K x) t) (gn : Gn B x) (hm : B.mg x = some (.ref (He.ga B.K x))) (h : HE B e te) (hdb : (x == ("__debug__" : Str)) = false := by decide) (hb : behindInMarks .In (.Name x p) = false := by rfl) :
    HE B (.Compare e [.In] [.Name x p] pos) (gTabIn t te) :=
  ⟨fun X W ok tk => by
    obtain ⟨es, n, kd⟩ := T.kd
    have kd' : KDict X.K X.w (He.ga B.K x) es n := by rw [ok.eK, ok.ew]; exact kd
    refine PE.imp (pe_cmpR (op_in_kd kd') (h.run X W ok tk) (pe_tabname ok gn hm hdb (W := W)) hb) fun σ H Q hh => ?_
    rw [ok.eK]
    exact tabin_lift T σ H Q hh⟩
theorem htabinT (T : TabOk B.K B.w (He.ga B.K x) t) (gn : Gn B x) (hm : B.mg x = some (.ref (He.ga B.K x))) (h : HE B e te) (hdb : (x == ("__debug__" : Str)) = false := by decide) (hb : behindInMarks .In (.Name x p) = false := by rfl) :
    HT B (.Compare e [.In] [.Name x p] pos) (hB (gTabIn t te)) :=
  ⟨fun X W ok tk => by
    obtain ⟨es, n, kd⟩ := T.kd
    have kd' : KDict X.K X.w (He.ga B.K x) es n := by rw [ok.eK, ok.ew]; exact kd
    refine PT.imp (pt_cmpR (op_in_kd kd') (h.run X W ok tk) (pe_tabname ok gn hm hdb (W := W)) hb) fun σ H Q hh => ?_
    rw [ok.eK]
    exact lB (fun σ H Q h => tabin_lift T σ H Q h) σ H Q hh⟩
theorem htabat (T : TabOk B.K B.w (He.ga B.K x) t) (gn : Gn B x) (hm : B.mg x = some (.ref (He.ga B.K x))) (h : HE B e te) (hs : NoSl e := by intro _ _; rfl) (hdb : (x == ("__debug__" : Str)) = false := by decide) :
    HE B (.Subscript (.Name x p) e pos) (gTabAt t te) :=
  ⟨fun X W ok tk => by
    obtain ⟨es, n, kd⟩ := T.kd
    have kd' : KDict X.K X.w (He.ga B.K x) es n := by rw [ok.eK, ok.ew]; exact kd
    have hp := pe_tabname (p := p) ok gn hm hdb (W := W)
    refine ⟨fun pins s σ H Q I ⟨G, F, S, env, Q0, E0, rn, wd, hh, hq, he⟩ => ?_⟩
    refine subD_of PySem.F.slot_dict_getitem.lookup hs (thn (hp.run pins s σ H (fun x1 H1 => x1 = .ref (He.ga B.K x) ∧ H1 = H) I ⟨rfl, rfl⟩) fun u s1 ⟨x1, H1, I1, rx, ex, eH⟩ => ?_)
    subst ex eH
    obtain rfl : u = Value.ref (He.ga B.K x) := rx
    have hr := (h.run X W ok tk).run pins s1 σ H1 (fun v H2 => ∃ z u, v = .str z ∧ t.at_ z = some u ∧ Q (.str u) H2) I1 ⟨G, F, S, env, _, E0, rn, wd, hh, fun d v F1 S1 H2 l1 w1 r1 h1 => by
      cases d <;> first | exact h1.elim | skip
      rename_i z
      obtain rfl : v = .str z := r1
      dsimp only at h1
      split at h1
      · rename_i u hz
        exact ⟨z, u, rfl, hz, hq (.str u) _ F1 S1 H2 l1 w1 rfl h1⟩
      · exact h1.elim, he⟩
    refine thn hr fun iv s2 ⟨y, H2, I2, ry, z, u, ez, hz, q2⟩ => ?_
    subst ez
    obtain ⟨k, hk⟩ := T.some_ z u hz
    exact ⟨kd_type kd' I2, op_item_kd kd' pins s2 σ H2 (.ref (He.ga B.K x)) (.str z) _ iv Q I2 rfl ry ⟨z, .str u k, .str u, rfl, rfl, by rw [ok.eK]; exact hk, ⟨k, rfl⟩, q2⟩⟩⟩
end
/-! ### a book with tables -/
structure BookT where
  bk : Book
  ts : List (Str × Tbl)
def BookT.seen (b : BookT) (K : PySem.W.Frag) : He.AlT := (b.bk.seen K, b.ts.map fun t => He.dicW K (He.ga K t.1))
def BookT.due (b : BookT) (w : World) : He.AlT := (b.bk.due, b.ts.map fun t => some (He.keysIn w.params (t.2.map (·.1))))
def BookT.look (b : BookT) (n : Nat) (g : Addr → Option Obj) : He.AlT := b.seen (He.frG g (cStatics :: He.asD g n))
def BookT.hook (b : BookT) (n : Nat) : PySem.W.Hook where
  α := He.AlT
  obs := fun s => b.look n s.heap.get?
  val := fun w => b.due w
  says := fun w h => ∃ K : PySem.W.Frag, K.In h ∧ b.seen K = b.due w
  of := fun _ _ e => ⟨_, He.frG_in, e⟩
  keeps := fun _ _ _ ⟨K, i, c⟩ k => ⟨K, PySem.W.Frag.In.keeps i k, c⟩
theorem BookT.look_eq {b : BookT} {n : Nat} {g : Addr → Option Obj} {s : Shared} (h : ∀ a, g a = s.heap.get? a) : b.look n g = (b.hook n).obs s := by
  obtain rfl : g = s.heap.get? := funext h
  rfl
theorem BookT.b {b : BookT} {K : PySem.W.Frag} {w : World} (c : b.seen K = b.due w) : b.bk.seen K = b.bk.due := congrArg (fun z : He.AlT => z.1) c
theorem BookT.tab {b : BookT} {K : PySem.W.Frag} {w : World} (c : b.seen K = b.due w) (i j : Nat) {x : Str} {t : Tbl} (h : b.ts[i]? = some (x, t) := by rfl) (h2 : b.bk.ex[j]? = some (prTab x t) := by rfl) : TabOk K w (He.ga K x) t := by
  refine tab_ok (Book.more (BookT.b c) j h2) ?_
  have e : (b.ts.map fun t => He.dicW K (He.ga K t.1)) = b.ts.map fun t => some (He.keysIn w.params (t.2.map (·.1))) := congrArg (fun z : He.AlT => z.2) c
  have e2 : (b.ts.map fun t => He.dicW K (He.ga K t.1))[i]? = (b.ts.map fun t => some (He.keysIn w.params (t.2.map (·.1))))[i]? := by rw [e]
  rw [List.getElem?_map, List.getElem?_map, h] at e2
  exact Option.some.inj e2
end Hy

set_option Elab.async false
set_option linter.all false
set_option maxRecDepth 100000
set_option maxHeartbeats 4000000
set_option autoImplicit false
namespace Hy
open PySem PySem.Spec PyProof.Rows L2
/-! ### list(d): the keys -/
def kyD : Key → D
  | .inl i => .int i
  | .inr s => .str s
theorem ky_reps {K : PySem.W.Frag} {F : Hp} : ∀ {kvs : List (Key × D)} {vs : List V}, Reps K F (kvs.map (·.2)) vs → Reps K F ((kvs.map (·.1)).map kyD) ((((kvs.map (·.1)).zip vs)).map fun kv => kV kv.1)
  | [], _, h => by cases h; rfl
  | (k, d) :: kvs, _, h => by
    obtain ⟨v, ws, rfl, r1, r2⟩ := h
    refine ⟨kV k, _, rfl, ?_, ky_reps r2⟩
    cases k <;> rfl
def gListDk : GL := fun ds S Q => match ds with
  | [.ref q] => match S q with
    | some (.dct kvs) => match Nat.ble kvs.length 1000 with
      | true => Q (.lst ((kvs.map (·.1)).map kyD)) S
      | false => False
    | _ => False
  | _ => False
theorem gListDk_ok {K : PySem.W.Frag} : RLok K gListDk rListD := by
  intro G F S H ds vs Q0 Q w r h hq
  unfold gListDk at h
  split at h
  · rename_i q
    obtain ⟨v, rfl, r1⟩ := r.one_inv
    obtain rfl : v = .ref q := r1
    split at h
    · rename_i kvs e
      split at h
      · rename_i hl
        have hl := Nat.le_of_ble_eq_true hl
        obtain ⟨vs, h1, h2⟩ := dctAt w e
        exact ⟨q, _, rfl, h1, (newLst (Q0 := Q0) (Q := Q) w (ky_reps h2) (by rw [List.length_map, List.length_map, sizeLine_eq]; omega) hq h).2⟩
      · exact h.elim
    · exact h.elim
  · exact h.elim
section
variable {B : Bs} {a : Expr} {tr : HTA} {p pos : Pos}
theorem hlistDk (gn : Gn B "list") (hm : B.mg "list" = none) (ha : HA B [a] tr) (he : ∀ env, starEach [a] env = (false, eval a env) :: starEach [] env := by intro _; rfl) : HE B (.Call (.Name "list" p) [a] [] pos) (hcb gListDk tr) :=
  hcallTy (r := fun _ => rListD) (fun X ok => call_list_dK ok.calm) gListDk_ok gn hm (by decide +kernel) ha (he := he) (hpl := fun _ => rfl)
end
end Hy

set_option Elab.async false
set_option linter.all false
set_option maxRecDepth 100000
set_option maxHeartbeats 4000000
set_option autoImplicit false
namespace Hy
open PySem PySem.Spec PyProof.Rows L2
/-! ### == of two tuples of objects with an own __eq__ -/
namespace OT
open PySem.SeqAt
open AutoSeq1 (wpAny_loadPart')
open MeetsSeq MeetsSeq2 MeetsSeq3 SeqRoads2
section
variable {prog : Program} {w : World} {A : Around} {R : Result → Shared → Prop}
theorem tupEq (l b : Addr) (items items2 : Array Value) (n n2 : Nat) (dd dd2 : Option Addr) (sl sl2 : Array (Option Value)) (hsz : items.size = items2.size) (e : Nat → Bool) (I : Nat → Shared → Prop)
    (turn : ∀ i (h1 : i < items.size) (h2 : i < items2.size) s, I i s → wpAny (model prog w) A.in1 (eqBool items[i] items2[i]) (fun r s' => r = e i ∧ I (i + 1) s') (fun x s' => R (.error x) s') s)
    (fin : ∀ i r s, I i s → ((r = true ∧ i = items.size ∧ ∀ j, j < items.size → e j = true) ∨ (r = false ∧ ∃ j, j < items.size ∧ e j = false)) → R (.ok (.ret (.bool r))) s)
    {s : Shared} (hl1 : s.heap.get? l = some { cls := .type "tuple", dict := dd, data := .seq items n, slots := sl }) (hb1 : s.heap.get? b = some { cls := .type "tuple", dict := dd2, data := .seq items2 n2, slots := sl2 }) (h : I 0 s) :
    wpAny (model prog w) A.in1 (Builtin.«tuple.__eq__» ⟨[.ref l, .ref b], []⟩) (GQ.FinOf prog w A R) (fun x s' => R (.error x) s') s := by
  have f2 := AutoSeq1.sub_tuple_tuple
  have hZ : (items.toList.zip items2.toList).length = items.size := by simp [hsz]
  have h0 := h
  obtain ⟨hp, g, d, tk, os⟩ := s
  wp_walk using wpAny_loadPart' hl1, wpAny_loadPart' hb1, wpAny_forIn_list _ (fun rest b s' => b.1 = none ∧ ∃ i, rest = (items.toList.zip items2.toList).drop i ∧ i ≤ items.size ∧ (∀ j, j < i → e j = true) ∧ I i s') _
  case turn =>
    rintro ⟨y, x⟩ rest b s' ⟨hb', i, hz, hi, ha, hI⟩
    have hlt : i < (items.toList.zip items2.toList).length := by
      rcases Nat.lt_or_ge i (items.toList.zip items2.toList).length with h' | h'
      · exact h'
      · rw [List.drop_of_length_le h'] at hz; cases hz
    have h1 : i < items.size := hZ ▸ hlt
    have h2 : i < items2.size := hsz ▸ h1
    rw [List.drop_eq_getElem_cons hlt] at hz
    injection hz with hyx hrest
    have hy : y = items[i] := by have := congrArg Prod.fst hyx; simpa using this
    have hx : x = items2[i] := by have := congrArg Prod.snd hyx; simpa using this
    subst hy hx
    refine wpAny_bind (wpAny_mono (turn i h1 h2 s' hI) (fun r s2 q2 => ?_) fun _ _ x => x)
    obtain ⟨hr, q2⟩ := q2
    subst hr
    cases he : e i with
    | true =>
      wp_walk
      refine ⟨rfl, i + 1, hrest, h1, fun j hj => ?_, q2⟩
      rcases Nat.lt_succ_iff_lt_or_eq.mp hj with hj | rfl
      · exact ha j hj
      · exact he
    | false =>
      have hR := fin (i + 1) false s2 q2 (.inr ⟨rfl, i, h1, he⟩)
      wp_walk
      simpa using hR
  case fin =>
    rintro ⟨b1, b2⟩ s' ⟨hb', i, hz, hi, ha, hI⟩
    simp only at hb'
    subst hb'
    have hge : items.size ≤ i := by
      rcases Nat.lt_or_ge i (items.toList.zip items2.toList).length with h' | h'
      · rw [List.drop_eq_getElem_cons h'] at hz; cases hz
      · exact hZ ▸ h'
    have hi' : i = items.size := by omega
    have hR : R (.ok (.ret (.bool true))) s' := fin i true s' hI (.inl ⟨rfl, hi', fun j hj => ha j (by omega)⟩)
    wp_walk
    simpa [Builtin.Tuple.tupleCompareSizes, hsz] using hR
  case h =>
    exact ⟨rfl, 0, rfl, Nat.zero_le _, (fun j hj => by omega), h0⟩
end
end OT
end Hy

set_option Elab.async false
set_option linter.all false
set_option maxRecDepth 100000
set_option maxHeartbeats 4000000
set_option autoImplicit false
namespace Hy
open PySem PySem.Spec PyProof.Rows L2
/-! plain trees: what they stand for tells them apart -/
mutual
def dtree : D → Bool
  | .non => true
  | .bl _ => true
  | .int _ => true
  | .str _ => true
  | .tup xs => dtrees xs
  | _ => false
def dtrees : List D → Bool
  | [] => true
  | x :: xs => dtree x && dtrees xs
end
section
variable {X : Cx} {pins : List (Addr × Obj)} {σ : L2.St} {H : Hp} {s : Shared}
mutual
theorem rep_inj {F : Hp} (I : L2.Inv X pins σ H s) (l : Le F H) : ∀ (d d' : D) (v : V), dtree d = true → dtree d' = true → Rep X.K F d v → Rep X.K F d' v → d = d'
  | .non, d', v, h, h', r, r' => by cases d' <;> first | rfl | (cases r; cases r'; done) | (simp [dtree] at h'; done) | (cases r; obtain ⟨a, vs, e, _⟩ := r'; cases e)
  | .bl b, d', v, h, h', r, r' => by cases d' <;> first | rfl | (cases r; cases r'; first | rfl | done) | (simp [dtree] at h'; done) | (cases r; obtain ⟨a, vs, e, _⟩ := r'; cases e)
  | .int b, d', v, h, h', r, r' => by cases d' <;> first | rfl | (cases r; cases r'; first | rfl | done) | (simp [dtree] at h'; done) | (cases r; obtain ⟨a, vs, e, _⟩ := r'; cases e)
  | .str b, d', v, h, h', r, r' => by cases d' <;> first | rfl | (cases r; cases r'; first | rfl | done) | (simp [dtree] at h'; done) | (cases r; obtain ⟨a, vs, e, _⟩ := r'; cases e)
  | .tup xs, d', v, h, h', r, r' => by
    obtain ⟨a, vs, rfl, hs, rr, _⟩ := r
    cases d' with
    | tup ys =>
      obtain ⟨a', vs', e, hs', rr', _⟩ := r'
      cases e
      obtain rfl := I.tuple_inj (SqT.le l hs) (SqT.le l hs')
      rw [reps_inj I l xs ys vs h h' rr rr']
    | _ => first | (cases r'; done) | (simp [dtree] at h'; done)
  | .lst _, _, _, h, _, _, _ => by simp [dtree] at h
  | .rls _, _, _, h, _, _, _ => by simp [dtree] at h
  | .ref _, _, _, h, _, _, _ => by simp [dtree] at h
  | .ty _, _, _, h, _, _, _ => by simp [dtree] at h
  | .obj _ _, _, _, h, _, _, _ => by simp [dtree] at h
  | .exc _ _, _, _, h, _, _, _ => by simp [dtree] at h
theorem reps_inj {F : Hp} (I : L2.Inv X pins σ H s) (l : Le F H) : ∀ (ds ds' : List D) (vs : List V), dtrees ds = true → dtrees ds' = true → Reps X.K F ds vs → Reps X.K F ds' vs → ds = ds'
  | [], ds', vs, h, h', r, r' => by
    cases r
    cases ds' with
    | nil => rfl
    | cons d ds => obtain ⟨_, _, e, _⟩ := r'; cases e
  | d :: ds, ds', vs, h, h', r, r' => by
    obtain ⟨v, ws, rfl, r1, r2⟩ := r
    cases ds' with
    | nil => cases r'
    | cons d' ds' =>
      obtain ⟨v', ws', e, q1, q2⟩ := r'
      cases e
      obtain ⟨h1, h2⟩ := Bool.and_eq_true_iff.mp (show (dtree d && dtrees ds) = true from h)
      obtain ⟨h3, h4⟩ := Bool.and_eq_true_iff.mp (show (dtree d' && dtrees ds') = true from h')
      rw [rep_inj I l d d' v h1 h3 r1 q1, reps_inj I l ds ds' ws h2 h4 r2 q2]
end
end
/-- an object of plain trees -/
def objT (c : Nat) (d : D) : Prop := ∃ ds, d = .obj c ds ∧ ds.length = (flds c).length ∧ dtrees ds = true
theorem obj_inj {X : Cx} {pins : List (Addr × Obj)} {σ : L2.St} {H F : Hp} {s : Shared} (I : L2.Inv X pins σ H s) (l : Le F H) {c : Nat} {d d' : D} {v : V} (h : objT c d) (h' : objT c d') (r : Rep X.K F d v) (r' : Rep X.K F d' v) : d = d' := by
  obtain ⟨ds, rfl, h1, h2⟩ := h
  obtain ⟨ds', rfl, h3, h4⟩ := h'
  obtain ⟨a, dx, vs, rfl, e1, rr⟩ := r
  obtain ⟨a', dx', vs', e, e2, rr'⟩ := r'
  cases e
  rw [e1] at e2
  have e3 : (flds c).zip vs = (flds c).zip vs' := by
    injection e2 with e2
    injection e2
  have lz : ∀ ws : List V, ws.length = (flds c).length → ((flds c).zip ws).map Prod.snd = ws := fun ws h => by
    rw [List.map_snd_zip (by omega)]
  have e4 : vs = vs' := by
    rw [← lz vs (by rw [rr.len]; exact h1), ← lz vs' (by rw [rr'.len]; exact h3), e3]
  subst e4
  rw [reps_inj I l ds ds' vs h2 h4 rr rr']
/-- == of two tuples of objects: what the own def says of each pair -/
def gEqT (c : Nat) (sp : HSp) : G2 := fun x y S Q => ∃ (xs ys : List D) (e : Nat → Bool), x = .tup xs ∧ y = .tup ys ∧ xs.length = ys.length ∧
  (∀ i a b, xs[i]? = some a → ys[i]? = some b → objT c a ∧ objT c b ∧ (a = b → e i = true) ∧ ∀ Q : HK, Q (.bl (e i)) S → sp [a, b] S Q (fun _ _ => False)) ∧ Q (.bl ((List.range xs.length).all e)) S
def rEqT (K : PySem.W.Frag) (c : Nat) (sp : HSp) : R2 := fun x y H Q => ∃ G F S d1 d2 Q0, Wd K G F S H ∧ Rep K F d1 x ∧ Rep K F d2 y ∧ gEqT c sp d1 d2 S Q0 ∧ ∀ d v F' H', Le F F' → Wd K G F' S H' → Rep K F' d v → Q0 d S → Q v H'
section
variable {B : Bs} {a b : Expr} {ta tb : HTE} {pos : Pos} {k c : Nat} {sp : HSp}
theorem own_call {X : Cx} {c : Nat} (ok : OkC B X) (h : HEqOwn B k c sp) (hk : k + 1 ≤ B.k) {pins : List (Addr × Obj)} {σ : L2.St} {H : Hp} {s : Shared} {G F : Hp} {S : Sto} {d1 d2 : D} {x y : V} {u v : Value} {r : Bool}
    (I : L2.Inv X pins σ H s) (w : Wd X.K G F S H) (r1 : Rep X.K F d1 x) (r2 : Rep X.K F d2 y) (rx : RelV x u) (ry : RelV y v) (o1 : objT c d1) (o2 : objT c d2) (he : d1 = d2 → r = true)
    (hsp : ∀ Q : HK, Q (.bl r) S → sp [d1, d2] S Q (fun _ _ => False)) :
    wpAny (model X.prog X.w) X.A.in1 (eqBool u v) (fun r' s' => r' = r ∧ ∃ F' H', Le F F' ∧ Wd X.K G F' S H' ∧ L2.Inv X pins σ H' s') X.xe s := by
  have c1 : isC c S d1 = true := by obtain ⟨ds, rfl, _⟩ := o1; show Nat.beq c c = true; simp
  have c2 : (isC c S d2 || rightOk S d2) = true := by obtain ⟨ds, rfl, _⟩ := o2; show (Nat.beq c c || _) = true; simp
  have i1 := o1
  have i2 := o2
  obtain ⟨f, hs, hf, hat⟩ := h.ex
  obtain ⟨fd, ps, ds, dvs, hn, hb, hv, hd, hF⟩ := hat.ex
  rw [← ok.eK] at hs hf hb hd
  have hF := ok.fnOk hF
  rw [← ok.eK] at hF
  have e0 : dvs = [] := by have := (hd F).len; exact List.eq_nil_of_length_eq_zero (by simpa using this)
  subst e0
  have e1 : ds = [] := by cases hv; rfl
  subst e1
  obtain ⟨a, dx, vs, rfl, hH⟩ := isC_ok w r1 c1
  obtain ⟨a2, dx2, vs2, rfl, hH2⟩ := isC_ok (c := c) w r2 (by obtain ⟨ds, rfl, _⟩ := o2; show Nat.beq c c = true; simp)
  obtain ⟨tb, lk, nf⟩ := right_type I w r2 ry c2
  obtain rfl : u = Value.ref a := rx
  obtain rfl : v = Value.ref a2 := ry
  by_cases hab : a = a2
  · subst hab
    have := obj_inj I w.fr i1 i2 r1 r2
    exact SeqAt.EqAt.same (A := X.A.in1) (s := s) (.ref a) X.prog X.w X.xe _ ⟨(he this).symm, F, H, Le.rfl', w, I⟩
  · refine GQ.eqBool_refG hab ?_
    obtain ⟨mA, O, _⟩ := ins_get I.hok hH
    obtain ⟨od, J, _⟩ := O.look
    obtain ⟨mm, hfr⟩ := I.fr
    have rm := (ok.room.mono hk).in1
    refine PySem.W.cmp_K (op := .Eq) (tb := tb) rm.units0 hfr I.ok.mod.kin J lk nf hs hf ?_
    have rr : Reps X.K F [d1, d2] [V.ref a, V.ref a2] := ⟨_, _, rfl, r1, Reps.one r2⟩
    refine wpAny_mono (run_fn1 (Q := fun z H' => z = V.bl r ∧ ∃ F', Le F F' ∧ Wd X.K G F' S H') (E := fun _ => E0) hF (ok.room.mono hk) hb (fun pins H s e s' I q => passL pins σ H s e s' I q) I (.cons rfl (.cons rfl .nil) : Vals [V.ref a, V.ref a2] [Value.ref a, Value.ref a2])
      ⟨by simp, G, F, S, [d1, d2], fun d S' => d = .bl r ∧ S' = S, _, rr, w, hsp _ ⟨rfl, rfl⟩, fun d z F' S' H' l w' r' q => ?_, fun _ _ _ _ _ _ _ _ _ q => q.elim⟩) (fun r' s' hr => ?_) fun _ _ z => z
    · obtain ⟨rfl, rfl⟩ := q
      exact ⟨r', F', l, w'⟩
    · obtain ⟨z, H', I', rz, rfl, F', l, w'⟩ := hr
      cases rz
      exact ⟨r, rfl, rfl, F', H', l, w', I'⟩
theorem op_eqT {X : Cx} {c : Nat} (ok : OkC B X) (h : HEqOwn B k c sp) (hk : k + 1 ≤ B.k) : OpR X (compareOp .Eq) (rEqT X.K c sp) := by
  intro pins s σ H x y u v Q I rx ry hq
  obtain ⟨G, F, S, d1, d2, Q0, w, r1, r2, ⟨xs, ys, e, rfl, rfl, hlen, hp, q0⟩, hh⟩ := hq
  obtain ⟨a, vs, rfl, hs1, rr1, z1⟩ := r1
  obtain ⟨b, ws, rfl, hs2, rr2, z2⟩ := r2
  cases rx
  cases ry
  obtain ⟨its, p1, ⟨⟨cls, dd, data, sl⟩, ho, hc, n, hd⟩, _⟩ := I.tuple (SqT.le w.fr hs1)
  obtain ⟨its2, p2, ⟨⟨cls2, dd2, data2, sl2⟩, ho2, hc2, n2, hd2⟩, _⟩ := I.tuple (SqT.le w.fr hs2)
  simp only at hc hd hc2 hd2
  subst hc hd hc2 hd2
  have hl1 : its.length = xs.length := by rw [← p1.length, rr1.len]
  have hl2 : its2.length = ys.length := by rw [← p2.length, rr2.len]
  have hsz : its.toArray.size = its2.toArray.size := by rw [List.size_toArray, List.size_toArray]; omega
  show wpAny (model X.prog X.w) X.A (richCompare .Eq (.ref a) (.ref b)) (EP X pins σ Q) X.xe s
  refine wpAny_richCompare_same_room (op := .Eq) ⟨_, ho, rfl⟩ ⟨_, ho2, rfl⟩ PySem.F.slot_tuple_eq (GQ.call_here PySem.F.slot_tuple_eq ⟨_, ho, rfl⟩ PySem.F.entry_tuple_eq (PySem.F.args_tuple_eq_2 _ _) ?_) ok.room.units0
  refine OT.tupEq (R := wants (fun v s' => v ≠ .notImplemented ∧ EP X pins σ Q v s') X.xe) a b its.toArray its2.toArray n n2 dd dd2 sl sl2 hsz e (fun _ s' => ∃ F' H', Le F F' ∧ Wd X.K G F' S H' ∧ L2.Inv X pins σ H' s') (fun i h1 h2 s' ⟨F', H', l, w', I'⟩ => ?_) (fun i r s' ⟨F', H', l, w', I'⟩ hr => ?_) ho ho2 ⟨F, H, Le.rfl', w, I⟩
  · have k1 : i < its.length := by simpa using h1
    have k2 : i < its2.length := by simpa using h2
    have j1 : i < xs.length := by omega
    have j2 : i < ys.length := by omega
    obtain ⟨v1, g1, q1⟩ := rr1.at (List.getElem?_eq_getElem j1)
    obtain ⟨v2, g2, q2⟩ := rr2.at (List.getElem?_eq_getElem j2)
    obtain ⟨u1, t1, y1⟩ := p1.get g1
    obtain ⟨u2, t2, y2⟩ := p2.get g2
    have e1 : its.toArray[i] = u1 := by
      have := List.getElem?_eq_getElem k1
      rw [t1] at this
      simpa using (Option.some.inj this).symm
    have e2 : its2.toArray[i] = u2 := by
      have := List.getElem?_eq_getElem k2
      rw [t2] at this
      simpa using (Option.some.inj this).symm
    obtain ⟨o1, o2, he, hsp⟩ := hp i _ _ (List.getElem?_eq_getElem j1) (List.getElem?_eq_getElem j2)
    rw [e1, e2]
    refine wpAny_mono (own_call ok h hk I' w' (q1.le l) (q2.le l) y1 y2 o1 o2 he hsp) (fun r s2 hq => ?_) fun _ _ z => z
    obtain ⟨rfl, F2, H2, l2, w2, I2⟩ := hq
    exact ⟨rfl, F2, H2, l.trans l2, w2, I2⟩
  · have er : r = (List.range xs.length).all e := by
      have hs : its.toArray.size = xs.length := by rw [List.size_toArray]; exact hl1
      rcases hr with ⟨rfl, _, ha⟩ | ⟨rfl, j, hj, hf⟩
      · symm
        rw [List.all_eq_true]
        intro j hj
        exact ha j (by rw [hs]; exact List.mem_range.mp hj)
      · symm
        rw [List.all_eq_false]
        exact ⟨j, List.mem_range.mpr (by rw [← hs]; exact hj), by rw [hf]; decide⟩
    rw [← er] at q0
    exact ⟨(fun x => nomatch x), .bl r, H', I', rfl, hh (.bl r) (.bl r) F' H' l w' rfl q0⟩
theorem lEqT {K : PySem.W.Frag} {W : WX} {c : Nat} (σ : L2.St) (H : Hp) (Q : VK) (h : lE K W (hop (gEqT c sp) ta tb) σ H Q) : tOp (rEqT K c sp) (lE K W ta) (lE K W tb) σ H Q := by
  obtain ⟨G, F, S, env, Q0, E0, rn, wd, h, hq, he⟩ := h
  refine ⟨G, F, S, env, _, E0, rn, wd, h, fun d v F1 S1 H1 l1 w1 r1 h1 => ?_, he⟩
  refine ⟨G, F1, S1, env, _, E0, rn.le l1, w1, h1, fun d2 v2 F2 S2 H2 l2 w2 r2 h2 => ?_, he.le l1⟩
  exact ⟨G, F2, S2, d, d2, Q0, w2, r1.le l2, r2, h2, fun d3 v3 F3 H3 l3 w3 r3 q3 => hq _ _ F3 S2 H3 (l1.trans (l2.trans l3)) w3 r3 q3⟩
theorem heqTu {c : Nat} (h : HEqOwn B k c sp) (hk : k + 1 ≤ B.k) (ha : HE B a ta) (hb : HE B b tb) : HE B (.Compare a [.Eq] [b] pos) (hop (gEqT c sp) ta tb) :=
  ⟨fun X W ok tk => PE.imp (pe_cmpR (op_eqT ok h hk) (ha.run X W ok tk) (hb.run X W ok tk) (nomark _)) fun σ H Q q => by rw [ok.eK]; exact lEqT σ H Q q⟩
theorem heqTuT {c : Nat} (h : HEqOwn B k c sp) (hk : k + 1 ≤ B.k) (ha : HE B a ta) (hb : HE B b tb) : HT B (.Compare a [.Eq] [b] pos) (hB (hop (gEqT c sp) ta tb)) :=
  ⟨fun X W ok tk => PT.imp (pt_cmpR (op_eqT ok h hk) (ha.run X W ok tk) (hb.run X W ok tk) (nomark _)) fun σ H Q q => lB (fun σ H Q q => by rw [ok.eK]; exact lEqT σ H Q q) σ H Q q⟩
end
end Hy

set_option Elab.async false
set_option linter.all false
set_option maxRecDepth 100000
set_option maxHeartbeats 4000000
set_option autoImplicit false
namespace Hy
open PySem PySem.Spec PyProof.Rows L2
/-! ### tuple(list): a tuple of which the object is known -/
theorem call_tupleX {X : Cx} : CallR X (.type "tuple") (fun xs H Q => ∃ p ys, xs = [.ref p] ∧ SqL X.K H p ys ∧ ∀ l its, H l = none → Q (.ref l) (upd H l (.frz { cls := .type "tuple", data := .seq its } (.tup ys)))) := by
  intro pins s σ H xs us Q I r h
  obtain ⟨p, ys, rfl, hq, q⟩ := h
  obtain ⟨u, rfl, rx⟩ := vals1 r
  cases rx
  obtain ⟨its, r', pl, hz⟩ := I.list hq
  have hlen := r'.length
  refine call_tuple_list pl.isList (fun h' kp => ?_) (by simp only [List.size_toArray] <;> omega)
  have I1 : L2.Inv X pins σ H { s with heap := h' } := I.kept (t' := s.toks) kp
  have I2 : L2.Inv X pins σ (upd H h'.objs.size (.frz { cls := .type "tuple", data := .seq its.toArray } (.tup ys))) { s with heap := h'.push { cls := .type "tuple", data := .seq its.toArray } } :=
    I1.laid (t' := s.toks) (fun b o e => Heap.get?_push_of_some _ e) (Nat.le_refl _) (show ObjOk X.prog X.w _ _ _ (.frz { cls := .type "tuple", data := .seq its.toArray } (.tup ys)) from ⟨Heap.get?_push_size _ rfl, hz, its, r', IsTup.new _ _⟩)
  exact ⟨.ref h'.objs.size, _, I2, rfl, q _ _ (I1.hok.fresh (Nat.le_refl _))⟩
def gTupX : GL := fun ds S Q => match ds with
  | [x] => match itemsL S x with
    | some xs => Q (.tpx xs) S
    | none => False
  | _ => False
abbrev rTupX (K : PySem.W.Frag) : List V → Hp → VK → Prop := fun xs H Q => ∃ p ys, xs = [.ref p] ∧ SqL K H p ys ∧ ∀ l its, H l = none → Q (.ref l) (upd H l (.frz { cls := .type "tuple", data := .seq its } (.tup ys)))
theorem gTupX_ok {K : PySem.W.Frag} : RLok K gTupX (rTupX K) := by
  intro G F S H ds vs Q0 Q w r h hq
  unfold gTupX at h
  split at h
  · rename_i x
    obtain ⟨v, rfl, r1⟩ := r.one_inv
    split at h
    · rename_i xs e
      obtain ⟨a, us, rfl, h1, h2, h3⟩ := itemsL_ok w r1 e
      refine ⟨a, us, rfl, h1, fun l its hl => ?_⟩
      obtain ⟨w2, l2⟩ := w.newF (.frz { cls := .type "tuple", data := .seq its } (.tup us)) hl
      exact hq (.tpx xs) _ _ S _ l2 w2 ⟨l, us, _, rfl, upd_same, rfl, rfl, h2.le l2, h3⟩ h
    · exact h.elim
  · exact h.elim
section
variable {B : Bs} {a : Expr} {tr : HTA} {p pos : Pos}
theorem htupleX (gn : Gn B "tuple") (hm : B.mg "tuple" = none) (ha : HA B [a] tr) (he : ∀ env, starEach [a] env = (false, eval a env) :: starEach [] env := by intro _; rfl) : HE B (.Call (.Name "tuple" p) [a] [] pos) (hcb gTupX tr) :=
  hcallTy (r := rTupX) (fun X _ => call_tupleX) gTupX_ok gn hm (by decide +kernel) ha (he := he) (hpl := fun _ => rfl)
end
/-! ### an attribute's value, as a plain tuple -/
def wk : D → D
  | .tpx xs => .tup xs
  | d => d
theorem rep_wk {K : PySem.W.Frag} {F : Hp} {d : D} {v : V} (r : Rep K F d v) : Rep K F (wk d) v := by
  cases d <;> first | exact r | skip
  obtain ⟨a, vs, o, rfl, h1, h2, h3, h4, h5⟩ := r
  exact ⟨a, vs, rfl, .inl (.inr ⟨o, h1⟩), h4, h5⟩
def hWk (t : HTE) : HTE := fun env S Q E => t env S (fun d S1 => Q (wk d) S1) E
section
variable {B : Bs} {e : Expr} {t : HTE}
theorem hwk (h : HE B e t) : HE B e (hWk t) :=
  ⟨fun X W ok tk => PE.imp (h.run X W ok tk) fun σ H Q ⟨G, F, S, env, Q0, E0, rn, wd, h, hq, he⟩ =>
    ⟨G, F, S, env, _, E0, rn, wd, h, fun d v F1 S1 H1 l1 w1 r1 h1 => hq (wk d) v F1 S1 H1 l1 w1 (rep_wk r1) h1, he⟩⟩
end
/-! ### t.index(x) -/
theorem strs_V {K : PySem.W.Frag} {F : Hp} : ∀ {ys : List Str} {vs : List V}, Reps K F (ys.map D.str) vs → vs = ys.map V.str
  | [], _, h => by cases h; rfl
  | y :: ys, _, ⟨v, ws, e, r, q⟩ => by
    cases e
    cases r
    rw [strs_V q] <;> rfl
def gTidx : GM := fun x ds S Q => match x with
  | .tpx xs => match ds with
    | [.str z] => ∃ (ys : List Str) (j : Nat), xs = ys.map D.str ∧ ys[j]? = some z ∧ (∀ m, m < j → ys[m]? ≠ some z) ∧ Q (.int (j : Nat)) S
    | _ => False
  | _ => False
abbrev isTpx : Sto → D → Bool := fun _ x => match x with
  | .tpx _ => true
  | _ => false
abbrev rTidx (K : PySem.W.Frag) : V → List V → Hp → VK → Prop := fun x xs H Q => ∃ p, ∃ ys : List Str, ∃ z j, x = .ref p ∧ xs = [.str z] ∧ SqT K H p (ys.map V.str) ∧ ys[j]? = some z ∧ (∀ m, m < j → ys[m]? ≠ some z) ∧ Q (.int (j : Nat)) H
theorem gTidx_ok {K : PySem.W.Frag} : RMok K gTidx (rTidx K) := by
  intro G F S H d v ds vs Q0 Q w r rs h hq
  unfold gTidx at h
  split at h
  · rename_i xs
    obtain ⟨a, us, o, rfl, h1, h2, h3, h4, h5⟩ := r
    split at h
    · rename_i z
      obtain ⟨u, rfl, r1⟩ := rs.one_inv
      cases r1
      obtain ⟨ys, j, rfl, g1, g2, g3⟩ := h
      have := strs_V h4
      subst this
      exact ⟨a, ys, z, j, rfl, rfl, .inl (.inr ⟨o, w.fr _ _ h1⟩), g1, g2, hq (.int (j : Nat)) _ F S H Le.rfl' w rfl g3⟩
    · exact h.elim
  · exact h.elim
/-- a method of a tuple of which the object is known -/
def tBMx (r : V → List V → Hp → VK → Prop) (to : TE) (t : TA) : TE := fun σ H Q => to σ H fun x H1 => (∃ a o vs, x = .ref a ∧ H1 a = some (.frz o (.tup vs)) ∧ o.cls = .type "tuple" ∧ o.dict = none) ∧ t σ H1 fun xs H2 => r x xs H2 Q
theorem pe_bmx {X : Cx} {id : String} {name : Str} {r : V → List V → Hp → VK → Prop} {o e : Expr} {es : List Expr} {to : TE} {t : TA} {apos cpos : Pos} (pa : PlainAttrs "tuple") (slot : Slot "tuple" name id) (hty : typeOf (.builtin id) = pure (.type "method_descriptor")) (hm : MtR X id r) (ho : PE X o to) (ha : PA X (e :: es) t)
    (hbase : attributeBase o name X.env (eval o X.env) = eval o X.env)
    (hfew : ((backTo cpos (starEach (e :: es) X.env)).all (fun x => !x.1) && (backToKw cpos (keywordEach [] X.env)).all (fun x => x.1.isSome)
      && decide ((e :: es).length + ([] : List Keyword).length + (if ([] : List Keyword).isEmpty then 0 else 1) < 30)) = true)
    (hline : (apos.endLine == cpos.line) = true) (hs : starEach (e :: es) X.env = (false, eval e X.env) :: starEach es X.env) (hplain : (backTo cpos (starEach es X.env)).any (·.1) = false) :
    PE X (.Call (.Attribute o name apos) (e :: es) [] cpos) (tBMx r to t) := by
  refine ⟨fun pins s σ H Q I h => ?_⟩
  refine wpAny_Call_method_late hbase hfew hline rfl (thn (ho.run pins s σ H _ I h) fun v s1 ⟨x, H1, I1, r1, ⟨a, ob, vs, ex, h1, h2, h3⟩, q1⟩ => ?_)
  subst ex
  obtain rfl : v = Value.ref a := r1
  obtain ⟨e1, _⟩ := (show ObjOk X.prog X.w H1 s1.heap a (.frz ob (.tup vs)) from I1.hok a _ h1)
  refine ⟨"tuple", id, pa, slot, hty, ⟨ob, e1, h2⟩, fun b hb => ?_, ?_⟩
  · cases hb
    exact ⟨ob, e1, h3⟩
  have hA := ha.run cpos pins s1 σ H1 _ I1 q1
  rw [hs] at hA ⊢
  refine Calls.callWith_builtin (by show (false || (backTo cpos (starEach es X.env)).any (·.1)) = false; rw [hplain] <;> rfl) (Calls.evalArgs_plain ?_)
  exact thn hA fun us s2 ⟨xs, H2, I2, r2, q2⟩ => hm pins s2 σ H2 (V.ref a) xs (Value.ref a) us Q I2 rfl r2 q2
section
variable {B : Bs} {o e : Expr} {to : HTE} {tr : HTA} {apos pos : Pos}
theorem htidx (ho : HE B o to) (ha : HA B [e] tr) (hbase : ∀ env, attributeBase o "index" env (eval o env) = eval o env := by intro _; rfl)
    (hfew : ∀ env, ((backTo pos (starEach [e] env)).all (fun x => !x.1) && (backToKw pos (keywordEach [] env)).all (fun x => x.1.isSome) && decide ([e].length + ([] : List Keyword).length + (if ([] : List Keyword).isEmpty then 0 else 1) < 30)) = true := by intro _; rfl)
    (hline : (apos.endLine == pos.line) = true := by rfl) (hs : ∀ env, starEach [e] env = (false, eval e env) :: starEach [] env := by intro _; rfl) : HE B (.Call (.Attribute o "index" apos) [e] [] pos) (hMt isTpx gTidx to tr) :=
  ⟨fun X W ok tk => PE.imp (pe_bmx (r := rTidx X.K) PySem.F.plainAttrs_tuple PySem.F.slot_tuple_index PySem.F.type_tuple_index mt_tup_index (ho.run X W ok tk) (ha.run X W ok tk) (hbase _) (hfew _) hline (hs _) rfl) fun σ H Q ⟨G, F, S, env, Q0, E0, rn, wd, h, hq, he⟩ =>
    ⟨G, F, S, env, _, E0, rn, wd, h, fun d v F1 S1 H1 l1 w1 r1 h1 => by
      dsimp only at h1
      split at h1
      · rename_i hk
        have hd : ∃ xs, d = .tpx xs := by
          cases d <;> first | exact ⟨_, rfl⟩ | (cases hk; done)
        obtain ⟨xs, rfl⟩ := hd
        obtain ⟨a, us, ob, rfl, g1, g2, g3, _⟩ := id r1
        refine ⟨⟨a, ob, us, rfl, w1.fr _ _ g1, g2, g3⟩, G, F1, S1, env, _, E0, rn.le l1, w1, h1, fun ds vs F2 S2 H2 l2 w2 r2 h2 => ?_, he.le l1⟩
        rw [ok.eK]
        exact gTidx_ok G F2 S2 H2 _ _ ds vs Q0 Q w2 (r1.le l2) r2 h2 (hq.le (l1.trans l2))
      · exact h1.elim, he⟩⟩
end
/-! ### xs[a:b] of a list: a list that may change -/
def gSlM : D → Option Int → Option Int → Sto → HK → Prop := fun x lo hi S Q => match itemsL S x with
  | some ds => ∀ q, S q = none → Q (.ref q) (up S q (.lst (cutD ds lo hi)))
  | none => False
def hSlM (te : HTE) (tl th : HTO) : HTE := fun env S Q E => te env S (fun x S1 => tl env S1 (fun l S2 => th env S2 (fun u S3 => gSlM x l u S3 Q) E) E) E
theorem gSlM_ok {K : PySem.W.Frag} {G F : Hp} {S : Sto} {H : Hp} {d : D} {v : V} {lo hi : Option Int} {Q0 : HK} {Q : VK} (w : Wd K G F S H) (r : Rep K F d v) (h : gSlM d lo hi S Q0) (hq : OkQ K G F Q0 Q) : rSlG K v lo hi H Q := by
  unfold gSlM at h
  split at h
  · rename_i ds e
    obtain ⟨p, vs, rfl, hs, rs, z⟩ := itemsL_ok w r e
    exact .inr (.inr ⟨p, vs, rfl, hs, (newLstM (Q0 := Q0) (Q := Q) w (cutD_reps rs lo hi) (Nat.le_trans (cutD_len _ _ _) z) hq h).2⟩)
  · exact h.elim
section
variable {B : Bs} {a : Expr} {ta : HTE} {pos : Pos}
theorem hslM {lo hi : Option Expr} {tl th : HTO} {p2 : Pos} (he : HE B a ta) (hl : HO_ B lo tl) (hu : HO_ B hi th) : HE B (.Subscript a (.Slice lo hi none p2) pos) (hSlM ta tl th) :=
  ⟨fun X W ok tk => PE.imp (pe_slice (by have := (sl_str (X := X)).or ((sl_tupA (X := X)).or (sl_list (X := X))); rw [ok.eK] at this; exact this) (he.run X W ok tk) (hl.run X W ok tk) (hu.run X W ok tk)) fun σ H Q ⟨G, F, S, env, Q0, E0, rn, wd, h, hq, he⟩ =>
    ⟨G, F, S, env, _, E0, rn, wd, h, fun d v F1 S1 H1 l1 w1 r1 h1 =>
      ⟨G, F1, S1, env, _, E0, rn.le l1, w1, h1, fun l F2 S2 H2 l2 w2 h2 =>
        ⟨G, F2, S2, env, _, E0, rn.le (l1.trans l2), w2, h2, fun u F3 S3 H3 l3 w3 h3 => gSlM_ok w3 (r1.le (l2.trans l3)) h3 (hq.le (l1.trans (l2.trans l3))), he.le (l1.trans l2)⟩, he.le l1⟩, he⟩⟩
end
/-! ### o.f, p.g = e -/
def gAttrT (K : PySem.W.Frag) (to : TE) (f : Str) : TG := fun v σ H Q => to σ H fun x H1 => ∃ a C dx fs, x = .ref a ∧ H1 a = some (.ins C dx fs) ∧ Cls K C ∧ NoAttr K C f ∧ fs.length < 1000 ∧ Q σ (upd H1 a (.ins C dx (putF f v fs)))
theorem pg_attr {X : Cx} {o : Expr} {to : TE} {f : Str} {pos : Pos} (ho : PE X o to) : PG X (.Attribute o f pos) (gAttrT X.K to f) := by
  refine ⟨fun pins s σ H v u Q I r h => ?_⟩
  rw [assign_Attribute]
  refine wpAny_bind (wpAny_holding (thn (ho.run pins s σ H _ I h) fun ov s1 ⟨x, H1, I1, r1, a, C, dx, fs, ex, ea, c, n, l, q1⟩ => ?_))
  subst ex
  obtain rfl : ov = Value.ref a := r1
  refine wpAny_bind (wpAny_standAt (wpAny_bind (wpAny_holding (setattr_ok I1 ea c n l r fun s2 I2 => ?_))))
  exact wpAny_release ⟨σ, _, I2, q1⟩
def hAsg2F (ix1 : Nat → Option Nat) (t1 : HTE) (ix2 : Nat → Option Nat) (t2 : HTE) (te : HTE) : HTS := fun D env S => te env S (fun d S1 => match d with
  | .tup [x, y] => t1 env S1 (fun o1 S2 => gFst ix1 o1 x S2 fun S3 => t2 env S3 (fun o2 S4 => gFst ix2 o2 y S4 fun S5 => D.nx env S5) fun _ _ => False) fun _ _ => False
  | _ => False) fun x S1 => D.ex x env S1
section
variable {B : Bs} {o1 o2 e : Expr} {t1 t2 te : HTE} {pos p1 p2 pt : Pos} {kt : Nat}
theorem okE_false {K : PySem.W.Frag} {G F : Hp} {E : XK} : OkE K G F (fun _ _ => False) E := fun _ _ _ _ _ _ _ _ _ h => h.elim
theorem hasg2F {f1 f2 : Str} {ix1 ix2 : Nat → Option Nat} (A1 : Attr B.K f1 ix1) (A2 : Attr B.K f2 ix2) (h1 : HE B o1 t1) (h2 : HE B o2 t2) (h : HE B e te)
    (hs : ∀ env, swapsWithSole [.Tuple [.Attribute o1 f1 p1, .Attribute o2 f2 p2] kt pt] e pos.line env = pure false := by intro _; rfl)
    (hw : ∀ env, swappedStores [.Tuple [.Attribute o1 f1 p1, .Attribute o2 f2 p2] kt pt] e env = pure none := by intro _; rfl)
    (hx : ∀ env, (assignEach [.Tuple [.Attribute o1 f1 p1, .Attribute o2 f2 p2] kt pt] env).map (·.2) = [assign (.Tuple [.Attribute o1 f1 p1, .Attribute o2 f2 p2] kt pt) env] := by intro _; rfl) :
    HS B (.Assign [.Tuple [.Attribute o1 f1 p1, .Attribute o2 f2 p2] kt pt] e pos) (hAsg2F ix1 t1 ix2 t2 te) :=
  ⟨fun X W ok tk => PS.imp (ps_asg (h.run X W ok tk) (pg_tup (n := 2) ok.calm (pgs_cons (pg_attr (f := f1) (h1.run X W ok tk)) (pgs_cons (pg_attr (f := f2) (h2.run X W ok tk)) pgs_nil))) (hs _) (hw _) (hx _)) fun D σ H ⟨G, F, S, env, E, rn, wd, h, oo⟩ =>
    ⟨G, F, S, env, _, _, rn, wd, h, fun d v F1 S1 H1 l1 w1 r1 q1 => by
      dsimp only at q1
      split at q1
      · rename_i x y
        obtain ⟨a, vs, rfl, hq, rr, _⟩ := r1
        obtain ⟨vx, vy, rfl, rx, ry⟩ := rr.two_inv
        refine ⟨a, [vx, vy], rfl, by rw [ok.eK]; exact SqT.le w1.fr hq, rfl, ?_⟩
        refine ⟨vx, [vy], rfl, ?_⟩
        refine ⟨G, F1, S1, env, _, _, rn.le l1, w1, q1, fun d2 v2 F2 S2 H2 l2 w2 r2 q2 => ?_, okE_false⟩
        obtain ⟨a1, C1, dx1, fs1, z1, z2, z3, z4, z5, S3, w3, q3⟩ := fst_ok A1 w2 r2 (rx.le l2) q2
        refine ⟨a1, C1, dx1, fs1, z1, z2, by rw [ok.eK]; exact z3, by rw [ok.eK]; exact z4, z5, ?_⟩
        refine ⟨vy, [], rfl, ?_⟩
        refine ⟨G, F2, S3, env, _, _, rn.le (l1.trans l2), w3, q3, fun d4 v4 F4 S4 H4 l4 w4 r4 q4 => ?_, okE_false⟩
        obtain ⟨a2, C2, dx2, fs2, y1, y2, y3, y4, y5, S5, w5, q5⟩ := fst_ok A2 w4 r4 (ry.le (l2.trans l4)) q4
        refine ⟨a2, C2, dx2, fs2, y1, y2, by rw [ok.eK]; exact y3, by rw [ok.eK]; exact y4, y5, rfl, ?_⟩
        exact oo.nx env σ F4 S5 _ (l1.trans (l2.trans l4)) w5 (rn.le (l1.trans (l2.trans l4))) q5
      · exact q1.elim, oo.exc rn⟩⟩
end
/-! ### C() of a class without an __init__ -/
structure New0 (K : PySem.W.Frag) (c : Nat) : Prop where
  makes : PySem.W.makesIn K (cad K c) = true
  init : PySem.W.findIn K (.ref (cad K c)) "__init__" = some (some (.builtin "object.__init__"))
  kp : PySem.W.keepIn K (.ref (cad K c)) = true
def prNew0 (c : Nat) : Pr := fun K => PySem.W.makesIn K (cad K c) && (He.eqO (PySem.W.findIn K (.ref (cad K c)) "__init__") (some (some (.builtin "object.__init__"))) && PySem.W.keepIn K (.ref (cad K c)))
theorem prNew0_ok {K : PySem.W.Frag} {c : Nat} (h : prNew0 c K = true) : New0 K c := by
  unfold prNew0 at h
  simp only [Bool.and_eq_true] at h
  exact ⟨h.1, He.eqO_ok h.2.1, h.2.2⟩
theorem run_new0 {X : Cx} {C : Addr} {pins : List (Addr × Obj)} {σ : L2.St} {H : Hp} {s : Shared} {Q : VK} (hm : PySem.W.makesIn X.K C = true) (hi : PySem.W.findIn X.K (.ref C) "__init__" = some (some (.builtin "object.__init__"))) (I : L2.Inv X pins σ H s)
    (h : ∀ x dx, H x = none → H dx = none → dx ≠ x → Q (.ref x) (upd (upd H dx (.own x)) x (.ins C dx []))) : wpAny (model X.prog X.w) X.A (call (.ref C) []) (EP X pins σ Q) X.xe s := by
  have hq := h (s.heap.objs.size + 1) s.heap.objs.size (I.hok.fresh (Nat.le_succ _)) (I.hok.fresh (Nat.le_refl _)) (Nat.ne_of_lt (Nat.lt_succ_self _))
  have I2 := Inv.made (C := C) I
  have Y := PySem.W.makes_of (M := model X.prog X.w) I.kIn hm
  refine wpAny_call (make_map0 I.kIn hm hi (fun self => PySem.W.Looks.of_pure (PySem.W.oi_bind self)) ?_)
  have hx : ((s.heap.push PySem.W.emptyDict).push (PySem.W.instObj C s.heap.objs.size)).get? (s.heap.objs.size + 1) = some (PySem.W.instObj C s.heap.objs.size) := by
    have := Heap.get?_push_size (s.heap.push PySem.W.emptyDict) (o := PySem.W.instObj C s.heap.objs.size) rfl
    rwa [Heap.size_push] at this
  have t1 : PySem.W.Looks (model X.prog X.w) ((s.heap.push PySem.W.emptyDict).push (PySem.W.instObj C s.heap.objs.size)) (typeOf (.ref (s.heap.objs.size + 1))) (.ref C) := (PySem.W.Looks.ld hx).andThen .now
  have t2 : PySem.W.Looks (model X.prog X.w) ((s.heap.push PySem.W.emptyDict).push (PySem.W.instObj C s.heap.objs.size)) (isInstance (.ref (s.heap.objs.size + 1)) (.type "object")) true := t1.andThen (Y.top.keeps fun b o e => Heap.get?_push_of_some _ (Heap.get?_push_of_some _ e))
  refine codeAny_call_builtin PySem.W.oi_plain PySem.W.entry_oi (@PySem.W.check_slot (model X.prog X.w) _ _ _ "object.__init__" "object" "__init__" (.ref (s.heap.objs.size + 1)) [] [] _ PySem.W.oi_kind PySem.W.oi_split t2 (PySem.W.oi_args (.ref (s.heap.objs.size + 1))) ?_)
  rw [PySem.W.oi_run]
  exact wpAny_pure (And.intro rfl ⟨V.ref (s.heap.objs.size + 1), _, I2, rfl, hq⟩)
def hNew0 (c : Nat) : HTE := fun _ S Q _ => Q (.obj c []) S
section
variable {B : Bs} {p pos : Pos}
theorem hnew0 (c : Nat) {x : Str} (gn : Gn B x) (N : New0 B.K c) (hmg : B.mg (cname c) = some (.ref (cad B.K c))) (hx : cname c = x := by rfl) (hdb : (x == ("__debug__" : Str)) = false := by decide) : HE B (.Call (.Name x p) [] [] pos) (hNew0 c) :=
  ⟨fun X W ok tk => ⟨fun pins s σ H Q I ⟨G, F, S, env, Q0, E0, rn, wd, h, hq, he⟩ => by
    subst hx
    refine wpAny_Call_Name_kw (ld_glob I (ok.gl gn) (by rw [ok.em]; exact hmg) ?_ hdb)
    have k := ok.eK
    refine PySem.W.callWith_K0 I.kIn (by rw [k]; exact N.kp) (run_new0 (by rw [k]; exact N.makes) (by rw [k]; exact N.init) I fun x dx h1 h2 h3 => ?_)
    obtain ⟨w1, l1⟩ := wd.newF (.own x) h2
    obtain ⟨w2, l2⟩ := w1.newF (p := x) (.ins (cad B.K c) dx []) (by rw [upd_ne (Ne.symm h3)]; exact h1)
    exact hq (.obj c []) _ _ S _ (l1.trans l2) w2 ⟨x, dx, [], rfl, by rw [upd_same, zip_nil], rfl⟩ h⟩⟩
end
end Hy

set_option Elab.async false
set_option linter.all false
set_option maxRecDepth 100000
set_option maxHeartbeats 4000000
set_option autoImplicit false
namespace Hy
open PySem PySem.Spec PyProof.Rows L2
/-! ### properties -/
def pa (K : PySem.W.Frag) (c : Nat) (f : Str) : Addr := match PySem.W.findIn K (.ref (cad K c)) f with
  | some (some (.ref p)) => p
  | _ => 0
def pg (K : PySem.W.Frag) (c : Nat) (f : Str) : Addr := match PySem.W.recIn K (pa K c f) "property" with
  | some (.ref g :: _) => g
  | _ => 0
def prProp (c : Nat) (f : Str) : Pr := fun K => He.eqO (PySem.W.findIn K (.ref (cad K c)) f) (some (some (.ref (pa K c f)))) && (He.eqO (PySem.W.specialIn K (.ref (pa K c f)) "__get__") (some (some (.builtin "property.__get__"))) && (decide (PySem.W.takesIn K (.ref (pa K c f)) = some true) && (match PySem.W.recIn K (pa K c f) "property" with
  | some (.ref _ :: _) => true
  | _ => false)))
theorem prProp_ok {K : PySem.W.Frag} {c : Nat} {f : Str} (h : prProp c f K = true) : PropOf K (cad K c) f (pa K c f) (pg K c f) := by
  unfold prProp at h
  rw [Bool.and_eq_true, Bool.and_eq_true, Bool.and_eq_true] at h
  obtain ⟨h1, h2, h3, h4⟩ := h
  refine ⟨He.eqO_ok h1, He.eqO_ok h2, of_decide_eq_true h3, ?_⟩
  unfold pg
  split at h4
  · rename_i g rest e
    exact ⟨rest, by rw [e]⟩
  · cases h4
structure HProp (B : Bs) (k : Nat) (c : Nat) (f : Str) (sp : HSp) : Prop where
  cl : Cls B.K (cad B.K c)
  pr : ∃ p g, PropOf B.K (cad B.K c) f p g ∧ FnAt B k g 1 [] sp
section
variable {B : Bs} {k k' c : Nat} {N : List Str} {sc : Scope} {top : Bool} {own : Str → Bool} {f : Str} {sp sp' : HSp}
theorem HProp.in_ (h : HProp B k c f sp) : HProp ⟨B.P, B.w, B.K, B.mg, B.base, k', N, sc, top, own⟩ k c f sp := ⟨h.cl, let ⟨p, g, a, b⟩ := h.pr; ⟨p, g, a, ⟨b.ex⟩⟩⟩
theorem HProp.mono {j : Nat} (h : HProp B j c f sp) (l : j ≤ k) : HProp B k c f sp := ⟨h.cl, let ⟨p, g, a, b⟩ := h.pr; ⟨p, g, a, b.mono l⟩⟩
end
def hProp (c : Nat) (sp : HSp) (to : HTE) : HTE := fun env S Q E => to env S (fun x S1 => match isC c S1 x with
  | true => sp [x] S1 Q (fun _ _ => False)
  | false => False) E
section
variable {B : Bs} {k c : Nat} {f : Str} {sp : HSp} {o : Expr} {to : HTE} {pos : Pos}
theorem hprop (h : HProp B k c f sp) (hk : k + 1 ≤ B.k) (ho : HE B o to) (hab : ∀ env, attributeBase o f env (eval o env) = eval o env := by intro _; rfl) : HE B (.Attribute o f pos) (hProp c sp to) :=
  ⟨fun X W ok tk => by
    obtain ⟨p, g, hp, hf⟩ := h.pr
    obtain ⟨fd, ps, ds, dvs, hn, hb, hv, hd, hf⟩ := hf.ex
    refine PE.imp (pe_prop (E := fun _ _ _ => False) (dvs := dvs) (ho.run X W ok tk) (by rw [ok.eK]; exact h.cl) (by rw [ok.eK]; exact hp) (ok.fnOk hf) (ok.room.mono hk) (by rw [ok.eK]; exact hb) hv (fun pins σ H s e s' I c => ?_) (hab _)) fun σ H Q ⟨G, F, S, env, Q0, E0, rn, wd, hh, hq, hE⟩ => ?_
    · obtain ⟨a, B, sI, pins, σ, H, cls, d, e, I, nb, up, sky, na, os, ag, w⟩ := (XE.of_call (W := fun _ _ _ _ => False) I (fun _ _ _ h => h) c)
      exact w
    · refine ⟨G, F, S, env, _, E0, rn, wd, hh, fun d v F1 S1 H1 l1 w1 r1 h1 => ?_, hE⟩
      dsimp only at h1
      split at h1
      · rename_i ic
        obtain ⟨a, dx, vs, rfl, hH⟩ := isC_ok w1 r1 ic
        have rr : Reps B.K F1 [d] (V.ref a :: dvs) := ⟨_, _, rfl, r1, hd F1⟩
        exact ⟨a, dx, _, rfl, hH, by rw [rr.len]; rfl, G, F1, S1, _, Q0, _, rr, w1, h1, hq.le l1, okE_false⟩
      · exact h1.elim⟩
end
end Hy

set_option Elab.async false
set_option linter.all false
set_option maxRecDepth 100000
set_option maxHeartbeats 4000000
set_option autoImplicit false
namespace Hy
open PySem PySem.Spec PyProof.Rows L2
/-! ### the head's look in parts (less memory at once) -/
def Book.add (a b : Book) : Book := ⟨a.fa ++ b.fa, a.fn ++ b.fn, a.ex ++ b.ex, a.fp ++ b.fp⟩
theorem Book.seen_of {b : Book} {K : PySem.W.Frag} (h1 : ∀ f ∈ b.fa, f.ok K = true) (h2 : ∀ d ∈ b.fn, d.ok K = true ∧ He.fnW K d.at_ = d.val) (h3 : ∀ g ∈ b.ex, g K = true) (h4 : ∀ d ∈ b.fp, d.ok K = true ∧ He5.fnA K (d.at_ K) = d.val) : b.seen K = b.due := by
  have e1 : b.fine K = true := by
    unfold Book.fine
    rw [Bool.and_eq_true, Bool.and_eq_true, Bool.and_eq_true]
    exact ⟨List.all_eq_true.mpr h1, List.all_eq_true.mpr fun d hd => (h2 d hd).1, List.all_eq_true.mpr h3, List.all_eq_true.mpr fun d hd => (h4 d hd).1⟩
  unfold Book.seen Book.due
  rw [e1, List.map_congr_left fun d hd => (h2 d hd).2, List.map_congr_left fun d hd => (h4 d hd).2]
theorem Book.seen_add {a b : Book} {K : PySem.W.Frag} (ha : a.seen K = a.due) (hb : b.seen K = b.due) : (a.add b).seen K = (a.add b).due := by
  obtain ⟨a1, a2, a3, a4⟩ := Book.parts ha
  obtain ⟨b1, b2, b3, b4⟩ := Book.parts hb
  exact Book.seen_of (fun f hf => (List.mem_append.mp hf).elim (a1 f) (b1 f)) (fun f hf => (List.mem_append.mp hf).elim (a2 f) (b2 f)) (fun f hf => (List.mem_append.mp hf).elim (a3 f) (b3 f)) fun f hf => (List.mem_append.mp hf).elim (a4 f) (b4 f)
def Book.low (b : Book) (n m : Nat) : Book := ⟨b.fa.take n, b.fn.take m, [], []⟩
def Book.high (b : Book) (n m : Nat) : Book := ⟨b.fa.drop n, b.fn.drop m, b.ex, b.fp⟩
theorem Book.cut (b : Book) (n m : Nat) : (b.low n m).add (b.high n m) = b := by
  obtain ⟨fa, fn, ex, fp⟩ := b
  unfold Book.add Book.low Book.high
  dsimp only
  rw [List.take_append_drop, List.take_append_drop, List.nil_append, List.nil_append]
/-- the frag: the module's names, what the top has made (from lo on, n objects) -/
def Book.lookR (b : Book) (lo n : Nat) (g : Addr → Option Obj) : He.AlD := b.seen (He.frG g (cStatics :: mainGlobals :: List.range' lo n))
def Book.hookR (b : Book) (lo n : Nat) : PySem.W.Hook where
  α := He.AlD
  obs := fun s => b.lookR lo n s.heap.get?
  val := fun _ => b.due
  says := fun _ h => ∃ K : PySem.W.Frag, K.In h ∧ b.seen K = b.due
  of := fun _ _ e => ⟨_, He.frG_in, e⟩
  keeps := fun _ _ _ ⟨K, i, c⟩ k => ⟨K, PySem.W.Frag.In.keeps i k, c⟩
theorem Book.lookR_eq {b : Book} {lo n : Nat} {g : Addr → Option Obj} {s : Shared} (h : ∀ a, g a = s.heap.get? a) : b.lookR lo n g = (b.hookR lo n).obs s := by
  obtain rfl : g = s.heap.get? := funext h
  rfl
noncomputable abbrev endH (r : PySem.W.OpenRow) (M : Nat) (w : World) (os : OsState) : Option PySem.W.SharedT := HandSHeadRun.endF (HandSHeadRun.stepQ (HandSHeadRun.denQ HandSHeadRun.tabQ) r.prog w) M r.prog w os
def LookEq (r : PySem.W.OpenRow) (M : Nat) (b : Book) (lo n : Nat) (w : World) : Prop := ∀ os : OsState, (endH r M w os).map (fun s => b.lookR lo n (HandSHeadRun.getT s)) = some b.due
theorem LookEq.add {r : PySem.W.OpenRow} {M lo n : Nat} {a b : Book} {w : World} (ha : LookEq r M a lo n w) (hb : LookEq r M b lo n w) : LookEq r M (a.add b) lo n w := fun os => by
  have h1 := ha os
  have h2 := hb os
  cases e : endH r M w os with
  | none => rw [e] at h1; cases h1
  | some s =>
    rw [e] at h1 h2
    exact congrArg some (Book.seen_add (Option.some.inj h1) (Option.some.inj h2))
theorem LookEq.of_cut {r : PySem.W.OpenRow} {M lo n : Nat} {b : Book} {w : World} (i j : Nat) (ha : LookEq r M (b.low i j) lo n w) (hb : LookEq r M (b.high i j) lo n w) : LookEq r M b lo n w := by
  have := ha.add hb
  rwa [Book.cut] at this
def TopEq (r : PySem.W.OpenRow) (q : Program) (M : Nat) (loose : List PySem.Str) (w : World) : Prop := ∀ os : OsState, (endH r M w os).map (fun s => (HandSHeadRun.looksF r.prog (PySem.W.boot_heap w.params) s.abs, HandSHeadRun.seenQ q loose (PySem.importedModules r.prog.main.body) (fun s => PySem.W.xlAt q [] s && PySem.W.recOk r.toRowW.records s) s.abs)) = some (true, PySem.W.openGood q loose)
theorem run_of {r : PySem.W.OpenRow} {q : Program} {M lo n : Nat} {b : Book} {loose : List PySem.Str} {w : World} (h1 : TopEq r q M loose w) (h2 : LookEq r M b lo n w) : HandSHeadRun.RunEq r q (b.hookR lo n) (fun s => b.lookR lo n (HandSHeadRun.getT s)) M loose w := fun os => by
  have g1 := h1 os
  have g2 := h2 os
  show (endH r M w os).map _ = _
  cases e : endH r M w os with
  | none => rw [e] at g1; cases g1
  | some s =>
    rw [e] at g1 g2
    have e1 := Option.some.inj g1
    have e2 := Option.some.inj g2
    simp only [Prod.mk.injEq] at e1
    show some (_, _, _) = some (_, _, _)
    rw [e1.1, e1.2, e2]
    rfl
end Hy

set_option Elab.async false
set_option linter.all false
set_option maxRecDepth 100000
set_option maxHeartbeats 4000000
set_option autoImplicit false
namespace Hy
open PySem PySem.Spec PyProof.Rows L2
/-! ### the head's look for tops with tables -/
def BookT.lookR (b : BookT) (lo n : Nat) (g : Addr → Option Obj) : He.AlT := b.seen (He.frG g (cStatics :: mainGlobals :: List.range' lo n))
def BookT.hookR (b : BookT) (lo n : Nat) : PySem.W.Hook where
  α := He.AlT
  obs := fun s => b.lookR lo n s.heap.get?
  val := fun w => b.due w
  says := fun w h => ∃ K : PySem.W.Frag, K.In h ∧ b.seen K = b.due w
  of := fun _ _ e => ⟨_, He.frG_in, e⟩
  keeps := fun _ _ _ ⟨K, i, c⟩ k => ⟨K, PySem.W.Frag.In.keeps i k, c⟩
theorem BookT.lookR_eq {b : BookT} {lo n : Nat} {g : Addr → Option Obj} {s : Shared} (h : ∀ a, g a = s.heap.get? a) : b.lookR lo n g = (b.hookR lo n).obs s := by
  obtain rfl : g = s.heap.get? := funext h
  rfl
end Hy

set_option Elab.async false
set_option linter.all false
set_option maxRecDepth 100000
set_option maxHeartbeats 4000000
set_option autoImplicit false
namespace Hy
open PySem PySem.Spec PyProof.Rows L2
/-! ### == of lists of unlike lengths -/
def rEqLen (K : PySem.W.Frag) : R2 := fun x y H Q => ∃ a b xs ys, x = .ref a ∧ y = .ref b ∧ SqL K H a xs ∧ SqL K H b ys ∧ xs.length ≠ ys.length ∧ Q (.bl false) H
theorem op_eqLen {X : Cx} (hr : Room 0 X.A) : OpR X (compareOp .Eq) (rEqLen X.K) := by
  intro pins s σ H x y v u Q I rx ry h
  obtain ⟨a, b, xs, ys, rfl, rfl, h1, h2, hl, q⟩ := h
  obtain rfl : v = Value.ref a := rx
  obtain rfl : u = Value.ref b := ry
  obtain ⟨its, p1, l1, _⟩ := I.list h1
  obtain ⟨its2, p2, l2, _⟩ := I.list h2
  refine SeqAt.RcAt.lists_lengths l1.isList l2.isList ?_ hr.units0 X.prog X.w X.xe _ ⟨.bl false, H, I, rfl, q⟩
  rw [List.size_toArray, List.size_toArray, ← p1.length, ← p2.length]
  simpa using hl
def gEqE : G2 := fun x y S Q => y = .lst [] ∧ match itemsL S x with
  | some [] => Q (.bl true) S
  | some (_ :: _) => Q (.bl false) S
  | none => False
theorem gEqE_ok {K : PySem.W.Frag} : R2ok K gEqE (fun x y H Q => (∃ d e, Dp K H x d ∧ Dp K H y e ∧ SeqAt.shaped d = true ∧ SeqAt.shaped e = true ∧ Q (.bl (PyData.eqv d e)) H) ∨ rEqLen K x y H Q) := by
  intro G F S H d1 v1 d2 v2 Q0 Q w r1 r2 h hq
  unfold gEqE at h
  obtain ⟨rfl, h⟩ := h
  have it2 : itemsL S (.lst []) = some [] := rfl
  obtain ⟨b, vs2, rfl, s2, q2, _⟩ := itemsL_ok w r2 it2
  split at h
  · rename_i e
    obtain ⟨a, vs, rfl, s1, q1, _⟩ := itemsL_ok w r1 e
    cases q1
    cases q2
    exact .inl ⟨.list [], .list [], .lst s1 .nil, .lst s2 .nil, rfl, rfl, hq (.bl true) _ F S H Le.rfl' w (by show V.bl _ = _; rfl) h⟩
  · rename_i x xs e
    obtain ⟨a, vs, rfl, s1, q1, _⟩ := itemsL_ok w r1 e
    cases q2
    obtain ⟨v0, ws, rfl, _⟩ := q1
    exact .inr ⟨a, b, _, _, rfl, rfl, s1, s2, by simp, hq (.bl false) _ F S H Le.rfl' w (by show V.bl _ = _; rfl) h⟩
  · exact h.elim
section
variable {B : Bs} {a b : Expr} {ta tb : HTE} {pos : Pos}
theorem heqE (ha : HE B a ta) (hb : HE B b tb) : HE B (.Compare a [.Eq] [b] pos) (hop gEqE ta tb) := hcmp (r := fun K x y H Q => (∃ d e, Dp K H x d ∧ Dp K H y e ∧ SeqAt.shaped d = true ∧ SeqAt.shaped e = true ∧ Q (.bl (PyData.eqv d e)) H) ∨ rEqLen K x y H Q) (fun X ok => (op_eqD (ok.room.mono (Nat.zero_le _)).units).or (op_eqLen (ok.room.mono (Nat.zero_le _)))) gEqE_ok ha hb (nomark _)
theorem heqET (ha : HE B a ta) (hb : HE B b tb) : HT B (.Compare a [.Eq] [b] pos) (hB (hop gEqE ta tb)) := hcmpT (r := fun K x y H Q => (∃ d e, Dp K H x d ∧ Dp K H y e ∧ SeqAt.shaped d = true ∧ SeqAt.shaped e = true ∧ Q (.bl (PyData.eqv d e)) H) ∨ rEqLen K x y H Q) (fun X ok => (op_eqD (ok.room.mono (Nat.zero_le _)).units).or (op_eqLen (ok.room.mono (Nat.zero_le _)))) gEqE_ok ha hb (nomark _)
end
end Hy

set_option Elab.async false
set_option linter.all false
set_option maxRecDepth 100000
set_option maxHeartbeats 4000000
set_option autoImplicit false
namespace Hy
open PySem PySem.Spec PyProof.Rows L2
/-! ### s.split(sep), s.lstrip(signs), s.endswith(t) -/
section
variable {B : Bs} {e o : Expr} {to : HTE} {tr : HTA} {pos apos : Pos}
def gSplit : GM := fun x ds S Q => match x with
  | .str a => match ds with
    | [.str b] => (b.length == 0) = false ∧ a.length + 2 ≤ sizeLine ∧ Q (.lst ((Txt.split a b).map D.str)) S
    | _ => False
  | _ => False
def gLstrip : GM := fun x ds S Q => match x with
  | .str a => match ds with
    | [.str b] => a.length ≤ sizeLine ∧ Q (.str (Txt.lstripChars a b)) S
    | _ => False
  | _ => False
def gEnds : GM := fun x ds S Q => match x with
  | .str a => match ds with
    | [.str b] => Q (.bl (Txt.endswith a b)) S
    | _ => False
  | _ => False
theorem gSplit_ok {K : PySem.W.Frag} : RMok K gSplit (fun x xs H Q => ∃ a b, x = .str a ∧ xs = [.str b] ∧ (b.length == 0) = false ∧ a.length + 2 ≤ sizeLine ∧ rNewStrs (Txt.split a b) H Q) := by
  intro G F S H d v ds vs Q0 Q w r rs h hq
  unfold gSplit at h
  split at h
  · split at h
    · obtain ⟨u, rfl, r1⟩ := rs.one_inv
      obtain rfl : u = V.str _ := r1
      exact ⟨_, _, r, rfl, h.1, h.2.1, (newLst w (strs_reps F _) (by rw [List.length_map]; exact Nat.le_trans (PyProof.Rows.split_le _ _) h.2.1) hq h.2.2).2⟩
    · exact h.elim
  · exact h.elim
theorem gLstrip_ok {K : PySem.W.Frag} : RMok K gLstrip (fun x xs H Q => ∃ a b, x = .str a ∧ xs = [.str b] ∧ a.length ≤ sizeLine ∧ Q (.str (Txt.lstripChars a b)) H) := by
  intro G F S H d v ds vs Q0 Q w r rs h hq
  unfold gLstrip at h
  split at h
  · split at h
    · obtain ⟨u, rfl, r1⟩ := rs.one_inv
      obtain rfl : u = V.str _ := r1
      exact ⟨_, _, r, rfl, h.1, hq (.str _) _ F S H Le.rfl' w (by show V.str _ = _; rfl) h.2⟩
    · exact h.elim
  · exact h.elim
theorem gEnds_ok {K : PySem.W.Frag} : RMok K gEnds (fun x xs H Q => ∃ a b, x = .str a ∧ xs = [.str b] ∧ Q (.bl (Txt.endswith a b)) H) := by
  intro G F S H d v ds vs Q0 Q w r rs h hq
  unfold gEnds at h
  split at h
  · split at h
    · obtain ⟨u, rfl, r1⟩ := rs.one_inv
      obtain rfl : u = V.str _ := r1
      exact ⟨_, _, r, rfl, hq (.bl _) _ F S H Le.rfl' w (by show V.bl _ = _; rfl) h⟩
    · exact h.elim
  · exact h.elim
theorem hsplit (ho : HE B o to) (ha : HA B [e] tr) (hbase : ∀ env, attributeBase o "split" env (eval o env) = eval o env := by intro _; rfl)
    (hfew : ∀ env, ((backTo pos (starEach [e] env)).all (fun x => !x.1) && (backToKw pos (keywordEach [] env)).all (fun x => x.1.isSome) && decide ([e].length + ([] : List Keyword).length + (if ([] : List Keyword).isEmpty then 0 else 1) < 30)) = true := by intro _; rfl)
    (hline : (apos.endLine == pos.line) = true := by rfl) (hs : ∀ env, starEach [e] env = (false, eval e env) :: starEach [] env := by intro _; rfl) : HE B (.Call (.Attribute o "split" apos) [e] [] pos) (hMt isStr gSplit to tr) :=
  hbm (r := fun K x xs H Q => ∃ a b, x = .str a ∧ xs = [.str b] ∧ (b.length == 0) = false ∧ a.length + 2 ≤ sizeLine ∧ rNewStrs (Txt.split a b) H Q) PySem.F.plainAttrs_str PySem.F.slot_str_split PySem.F.type_str_split (fun X _ => mt_split) gSplit_ok kd_str ho ha hbase hfew hline hs (fun _ => rfl)
theorem hlstrip (ho : HE B o to) (ha : HA B [e] tr) (hbase : ∀ env, attributeBase o "lstrip" env (eval o env) = eval o env := by intro _; rfl)
    (hfew : ∀ env, ((backTo pos (starEach [e] env)).all (fun x => !x.1) && (backToKw pos (keywordEach [] env)).all (fun x => x.1.isSome) && decide ([e].length + ([] : List Keyword).length + (if ([] : List Keyword).isEmpty then 0 else 1) < 30)) = true := by intro _; rfl)
    (hline : (apos.endLine == pos.line) = true := by rfl) (hs : ∀ env, starEach [e] env = (false, eval e env) :: starEach [] env := by intro _; rfl) : HE B (.Call (.Attribute o "lstrip" apos) [e] [] pos) (hMt isStr gLstrip to tr) :=
  hbm (r := fun K x xs H Q => ∃ a b, x = .str a ∧ xs = [.str b] ∧ a.length ≤ sizeLine ∧ Q (.str (Txt.lstripChars a b)) H) PySem.F.plainAttrs_str PySem.F.slot_str_lstrip PySem.F.type_str_lstrip (fun X _ => mt_lstripChars) gLstrip_ok kd_str ho ha hbase hfew hline hs (fun _ => rfl)
theorem hends (ho : HE B o to) (ha : HA B [e] tr) (hbase : ∀ env, attributeBase o "endswith" env (eval o env) = eval o env := by intro _; rfl)
    (hfew : ∀ env, ((backTo pos (starEach [e] env)).all (fun x => !x.1) && (backToKw pos (keywordEach [] env)).all (fun x => x.1.isSome) && decide ([e].length + ([] : List Keyword).length + (if ([] : List Keyword).isEmpty then 0 else 1) < 30)) = true := by intro _; rfl)
    (hline : (apos.endLine == pos.line) = true := by rfl) (hs : ∀ env, starEach [e] env = (false, eval e env) :: starEach [] env := by intro _; rfl) : HE B (.Call (.Attribute o "endswith" apos) [e] [] pos) (hMt isStr gEnds to tr) :=
  hbm (r := fun K x xs H Q => ∃ a b, x = .str a ∧ xs = [.str b] ∧ Q (.bl (Txt.endswith a b)) H) PySem.F.plainAttrs_str PySem.F.slot_str_endswith PySem.F.type_str_endswith (fun X _ => mt_endswith) gEnds_ok kd_str ho ha hbase hfew hline hs (fun _ => rfl)
end
end Hy

set_option Elab.async false
set_option linter.all false
set_option maxRecDepth 100000
set_option maxHeartbeats 4000000
set_option autoImplicit false
namespace Hy
open PySem PySem.Spec PyProof.Rows L2
/-! ### s.upper(); `if a == k: return x.replace(y, z) if c else ..` -/
section
variable {B : Bs} {e o : Expr} {to : HTE} {tr : HTA} {pos apos : Pos}
def gUpper : GM := fun x ds S Q => match x with
  | .str a => match ds with
    | [] => a.length ≤ 5592405 ∧ Q (.str (Txt.upper a)) S
    | _ => False
  | _ => False
theorem mt_upperH {X : Cx} : MtR X "str.upper" (fun x xs H Q => ∃ a, x = .str a ∧ xs = [] ∧ a.length ≤ 5592405 ∧ Q (.str (Txt.upper a)) H) :=
  mt0 (C := fun a => a.length ≤ 5592405) (g := fun a => .str (Txt.upper a)) fun a _ s _ hc h =>
    PySem.SC.upper (PyProof.Rows.short24 (by have h1 : a.length ≤ 5592405 := hc; have := PyProof.Rows.len_upper a; omega)) (h _ (s.toks + 1) ⟨_, rfl⟩)
theorem gUpper_ok {K : PySem.W.Frag} : RMok K gUpper (fun x xs H Q => ∃ a, x = .str a ∧ xs = [] ∧ a.length ≤ 5592405 ∧ Q (.str (Txt.upper a)) H) := by
  intro G F S H d v ds vs Q0 Q w r rs h hq
  unfold gUpper at h
  split at h
  · split at h
    · obtain rfl := rs.nil_inv
      exact ⟨_, r, rfl, h.1, hq (.str _) _ F S H Le.rfl' w (by show V.str _ = _; rfl) h.2⟩
    · exact h.elim
  · exact h.elim
theorem hupper (ho : HE B o to) (hbase : ∀ env, attributeBase o "upper" env (eval o env) = eval o env := by intro _; rfl) (hline : (apos.endLine == pos.line) = true := by rfl) : HE B (.Call (.Attribute o "upper" apos) [] [] pos) (hMt isStr gUpper to hNil) :=
  hbm0 (r := fun _ x xs H Q => ∃ a, x = .str a ∧ xs = [] ∧ a.length ≤ 5592405 ∧ Q (.str (Txt.upper a)) H) PySem.F.plainAttrs_str PySem.F.slot_str_upper PySem.F.type_str_upper (fun X _ => mt_upperH) gUpper_ok kd_str ho hbase hline
end
/-! a value where a token is out -/
structure HET (B : Bs) (e : Expr) (t : HTE) : Prop where
  run : ∀ (X : Cx) (W : WX), OkC B X → Takes X W → PET X e (lE B.K W t)
section
variable {B : Bs} {e a b c : Expr} {ta tb te : HTE} {tc : HTT} {pos : Pos}
def gRep (y z : Str) : G1 := fun x S Q => match x with
  | .str a => a.length + (a.length + 1) * z.length ≤ 16777216 ∧ Q (.str (Txt.replace a y z)) S
  | _ => False
theorem hetrep {o : Expr} {y z : Str} {j0 j1 : Nat} {c0 c1 apos : Pos} (ho : HE B o te) (hyz : (y == z) = false := by decide)
    (hst : ∀ env, starEach [.Constant (.str y) j0 c0, .Constant (.str z) j1 c1] env = [(false, eval (.Constant (.str y) j0 c0) env), (false, eval (.Constant (.str z) j1 c1) env)] := by intro _; rfl)
    (hbase : ∀ env, attributeBase o "replace" env (eval o env) = eval o env := by intro _; rfl) (hline : (apos.endLine == pos.line) = true := by rfl) :
    HET B (.Call (.Attribute o "replace" apos) [.Constant (.str y) j0 c0, .Constant (.str z) j1 c1] [] pos) (hun (gRep y z) te) :=
  ⟨fun X W ok tk pins s σ H Q h0 I hh => by
    obtain ⟨G, F, S, env, Q0, E0, rn, wd, h, hq, he⟩ := hh
    have hr := (ho.run X W ok tk).run pins s σ H (fun v H1 => ∃ a, v = .str a ∧ a.length + (a.length + 1) * z.length ≤ 16777216 ∧ Q (.str (Txt.replace a y z)) H1) I ⟨G, F, S, env, _, E0, rn, wd, h, fun d v F1 S1 H1 l1 w1 r1 h1 => by
      cases d <;> first | exact h1.elim | skip
      rename_i a
      obtain rfl : v = .str a := r1
      exact ⟨a, rfl, h1.1, hq (.str _) _ F1 S1 H1 l1 w1 rfl h1.2⟩, he⟩
    refine PySem.Call_method2 (hbase _) (hst _) hline (wpAny_mono (PySem.wpAny_toks hr) (fun v s1 q => ?_) fun _ _ x => x.2)
    obtain ⟨hk, x, H1, I1, r1, a, rfl, hb, q⟩ := q
    obtain ⟨tx, rfl⟩ := r1
    refine ⟨"str", _, PySem.F.plainAttrs_str, PySem.F.slot_str_replace, PySem.F.type_str_replace, typeIs_str _ _ _, (fun _ e => nomatch e), Calls.callWith_builtin rfl (Calls.evalArgs_plain (Calls.spliced_cons ?_))⟩
    refine Calls.Constant_str ?_
    refine Calls.spliced_cons (Calls.Constant_str (Calls.spliced_nil ?_))
    refine PySem.SC.replace (show s1.toks ≠ 0 by omega) (show s1.toks + 1 ≠ 0 by omega) (show s1.toks ≠ s1.toks + 1 by omega) hyz hb fun t' k => ⟨.str (Txt.replace a y z), H1, I1.tok k, ⟨t', rfl⟩, q⟩⟩
theorem hetif (hc : HT B c tc) (ha : HET B a ta) (hb : HET B b tb) : HET B (.IfExp c a b pos) (hIf tc ta tb) :=
  ⟨fun X W ok tk pins s σ H Q h0 I hh => by
    obtain ⟨G, F, S, env, Q0, E0, rn, wd, h, hq, he⟩ := hh
    have hr := (hc.run X W ok tk).run pins s σ H (fun k H1 => match k with
      | true => lE B.K W ta σ H1 Q
      | false => lE B.K W tb σ H1 Q) I ⟨G, F, S, env, _, E0, rn, wd, h, fun k F1 S1 H1 l w q => by
        cases k with
        | true => exact ⟨G, F1, S1, env, Q0, E0, rn.le l, w, q, hq.le l, he.le l⟩
        | false => exact ⟨G, F1, S1, env, Q0, E0, rn.le l, w, q, hq.le l, he.le l⟩, he⟩
    refine wpAny_IfExp (wpAny_mono (PySem.wpAny_toks hr) (fun d s1 q => ?_) fun _ _ x => x.2)
    obtain ⟨hk, H1, I1, q1⟩ := q
    cases d with
    | true => exact ha.run X W ok tk pins s1 σ H1 Q (Nat.le_trans h0 hk) I1 q1
    | false => exact hb.run X W ok tk pins s1 σ H1 Q (Nat.le_trans h0 hk) I1 q1⟩
/-- `if a op k: return e`, e where a token is out -/
theorem hifK {op : CmpOp} {g : G2} {r : PySem.W.Frag → R2} {k : Int} {j : Nat} {cp p1 p2 : Pos} (ho : ∀ X, OkC B X → OpR X (compareOp op) (r X.K)) (hg : R2ok B.K g (r B.K)) (ha : HE B a ta) (he : HET B e te) (hm : behindInMarks op (.Constant (.int k) j cp) = false := by rfl) :
    HS B (.If (.Compare a [op] [.Constant (.int k) j cp] p1) [.Return (some e) p2] [] pos) (hIfS (hB (hop g ta (hC (.int k)))) (hRet te) hNx) :=
  ⟨fun X W ok tk => ⟨fun pins s σ H D I hh => by
    obtain ⟨G, F, S, env, E, rn, wd, h, o⟩ := hh
    have ho' : OpR X (compareOp op) (r B.K) := by have := ho X ok; rw [ok.eK] at this; exact this
    have hr := (ha.run X W ok tk).run pins s σ H _ I ⟨G, F, S, env, _, _, rn, wd, h, fun d v F1 S1 H1 l1 w1 r1 h1 => (show (fun (v : V) (H1 : Hp) => ∃ F1 S1 d, Le F F1 ∧ Wd B.K G F1 S1 H1 ∧ Rep B.K F1 d v ∧ g d (.int k) S1 (fun x S2 => match x with
      | .bl b => (match b with
        | true => hRet te E env S2
        | false => hNx E env S2)
      | _ => False)) v H1 from ⟨F1, S1, d, l1, w1, r1, h1⟩), o.exc rn⟩
    refine wpAny_If (wpAny_isTrue_Compare1 (wpAny_mono hr (fun v s1 q => ?_) fun _ _ x => x) hm)
    obtain ⟨x, H1, I1, r1, F1, S1, d, l1, w1, rd, q1⟩ := q
    refine wpAny_Constant_int ?_
    have I2 := I1.tok (s1.toks + 1)
    have q2 : r B.K x (.int k) H1 (fun y H2 => ∃ F2 S2 b, Le F1 F2 ∧ Wd B.K G F2 S2 H2 ∧ y = .bl b ∧ (match b with
        | true => hRet te E env S2
        | false => hNx E env S2)) := hg G F1 S1 H1 d x (.int k) (.int k) _ _ w1 rd rfl q1 fun d2 v2 F2 S2 H2 l2 w2 r2 h2 => by
      cases d2 <;> first | exact h2.elim | skip
      exact ⟨F2, S2, _, l2, w2, r2, h2⟩
    refine wpAny_mono (PySem.wpAny_toks (ho' pins _ σ H1 x (.int k) v (.int k s1.toks) _ I2 r1 ⟨_, rfl⟩ q2)) (fun c s3 q => ?_) fun _ _ x => x.2
    obtain ⟨hk, z, H3, I3, r3, F2, S2, b, l2, w2, rfl, q3⟩ := q
    cases r3
    refine wpAny_truthy_bool ?_
    have ll := l1.trans l2
    cases b with
    | false =>
      show wpAny _ _ (execs [] X.env) _ _ _
      exact wpAny_execs_nil ⟨σ, H3, I3, o.nx env σ F2 S2 H3 ll w2 (rn.le ll) q3⟩
    | true =>
      show wpAny _ _ (execs [.Return (some e) p2] X.env) _ _ _
      have q4 : lE B.K W te σ H3 D.rt := ⟨G, F2, S2, env, _, _, rn.le ll, w2, q3, o.rt.le ll, (o.exc rn).le ll⟩
      refine wpAny_execs_cons (wpAny_Return_some (thn (he.run X W ok tk pins s3 σ H3 _ (by have hk : s1.toks + 1 ≤ s3.toks := hk; omega) I3 q4) fun v s4 ⟨x, H4, I4, r4, q5⟩ => ⟨x, σ, H4, I4, r4, q5⟩))⟩⟩
theorem hifKEq {k : Int} {j : Nat} {cp p1 p2 : Pos} (ha : HE B a ta) (he : HET B e te) : HS B (.If (.Compare a [.Eq] [.Constant (.int k) j cp] p1) [.Return (some e) p2] [] pos) (hIfS (hB (hop gEq ta (hC (.int k)))) (hRet te) hNx) :=
  hifK (r := fun K x y H Q => (∃ s t, x = .str s ∧ y = .str t ∧ Q (.bl (ng false (s == t))) H) ∨ ∃ d e, Dp K H x d ∧ Dp K H y e ∧ SeqAt.shaped d = true ∧ SeqAt.shaped e = true ∧ Q (.bl (ng false (PyData.eqv d e))) H) (fun X ok => rEq_of (ok.room.mono (Nat.zero_le _))) (gEqG_ok false) ha he
end
/-! ### != of a list of anything and [] -/
def rNeLen (K : PySem.W.Frag) : R2 := fun x y H Q => ∃ a b xs ys, x = .ref a ∧ y = .ref b ∧ SqL K H a xs ∧ SqL K H b ys ∧ xs.length ≠ ys.length ∧ Q (.bl true) H
theorem op_neLen {X : Cx} (hr : Room 0 X.A) : OpR X (compareOp .NotEq) (rNeLen X.K) := by
  intro pins s σ H x y v u Q I rx ry h
  obtain ⟨a, b, xs, ys, rfl, rfl, h1, h2, hl, q⟩ := h
  obtain rfl : v = Value.ref a := rx
  obtain rfl : u = Value.ref b := ry
  obtain ⟨its, p1, l1, _⟩ := I.list h1
  obtain ⟨its2, p2, l2, _⟩ := I.list h2
  refine SeqAt.RcNeAt.lists_lengths l1.isList l2.isList ?_ hr.units0 X.prog X.w X.xe _ ⟨.bl true, H, I, rfl, q⟩
  rw [List.size_toArray, List.size_toArray, ← p1.length, ← p2.length]
  simpa using hl
def gNeE : G2 := fun x y S Q => y = .lst [] ∧ match itemsL S x with
  | some [] => Q (.bl false) S
  | some (_ :: _) => Q (.bl true) S
  | none => False
theorem gNeE_ok {K : PySem.W.Frag} : R2ok K gNeE (fun x y H Q => (∃ d e, Dp K H x d ∧ Dp K H y e ∧ SeqAt.shaped d = true ∧ SeqAt.shaped e = true ∧ Q (.bl (!PyData.eqv d e)) H) ∨ rNeLen K x y H Q) := by
  intro G F S H d1 v1 d2 v2 Q0 Q w r1 r2 h hq
  unfold gNeE at h
  obtain ⟨rfl, h⟩ := h
  have it2 : itemsL S (.lst []) = some [] := rfl
  obtain ⟨b, vs2, rfl, s2, q2, _⟩ := itemsL_ok w r2 it2
  split at h
  · rename_i e
    obtain ⟨a, vs, rfl, s1, q1, _⟩ := itemsL_ok w r1 e
    cases q1
    cases q2
    exact .inl ⟨.list [], .list [], .lst s1 .nil, .lst s2 .nil, rfl, rfl, hq (.bl false) _ F S H Le.rfl' w (by show V.bl _ = _; rfl) h⟩
  · rename_i x xs e
    obtain ⟨a, vs, rfl, s1, q1, _⟩ := itemsL_ok w r1 e
    cases q2
    obtain ⟨v0, ws, rfl, _⟩ := q1
    exact .inr ⟨a, b, _, _, rfl, rfl, s1, s2, by simp, hq (.bl true) _ F S H Le.rfl' w (by show V.bl _ = _; rfl) h⟩
  · exact h.elim
section
variable {B : Bs} {a b : Expr} {ta tb : HTE} {pos : Pos}
theorem hneE (ha : HE B a ta) (hb : HE B b tb) : HE B (.Compare a [.NotEq] [b] pos) (hop gNeE ta tb) := hcmp (r := fun K x y H Q => (∃ d e, Dp K H x d ∧ Dp K H y e ∧ SeqAt.shaped d = true ∧ SeqAt.shaped e = true ∧ Q (.bl (!PyData.eqv d e)) H) ∨ rNeLen K x y H Q) (fun X ok => (op_neD (ok.room.mono (Nat.zero_le _)).units).or (op_neLen (ok.room.mono (Nat.zero_le _)))) gNeE_ok ha hb (nomark _)
theorem hneET (ha : HE B a ta) (hb : HE B b tb) : HT B (.Compare a [.NotEq] [b] pos) (hB (hop gNeE ta tb)) := hcmpT (r := fun K x y H Q => (∃ d e, Dp K H x d ∧ Dp K H y e ∧ SeqAt.shaped d = true ∧ SeqAt.shaped e = true ∧ Q (.bl (!PyData.eqv d e)) H) ∨ rNeLen K x y H Q) (fun X ok => (op_neD (ok.room.mono (Nat.zero_le _)).units).or (op_neLen (ok.room.mono (Nat.zero_le _)))) gNeE_ok ha hb (nomark _)
end
/-! ### x not in (y, z): tuples of data -/
def rNotInTu (K : PySem.W.Frag) : R2 := fun x y H Q => ∃ d ds, Dp K H x d ∧ Dp K H y (.tuple ds) ∧ SeqAt.shaped d = true ∧ SeqAt.shaped (.tuple ds) = true ∧ Q (.bl (!ds.any fun z => PyData.eqv z d)) H
theorem op_notInTu {X : Cx} (hu : X.A.units + 65 < cLine) : OpR X (compareOp .NotIn) (rNotInTu X.K) := by
  intro pins s σ H x y v u Q I rx ry h
  obtain ⟨d, ds, hd, he, sd, se, q⟩ := h
  obtain ⟨as, r1⟩ := Dp.reads I d x v hd rx
  obtain ⟨bs, r2⟩ := Dp.reads I (.tuple ds) y u he ry
  exact SeqAt.notIn_tuple_reads r2 r1 (SeqAt.canLay_of_shaped se) (SeqAt.canLay_of_shaped sd) (room_in_shaped sd hu) ⟨.bl _, H, I, rfl, q⟩
def gNotInTu : G2 := fun x y S Q => match y with
  | .tup es => match dok 60 x && dok 60 (.tup es) with
    | true => Q (.bl (!es.any fun z => deq z x)) S
    | false => False
  | _ => False
theorem gNotInTu_ok {K : PySem.W.Frag} : R2ok K gNotInTu (rNotInTu K) := by
  intro G F S H d1 v1 d2 v2 Q0 Q w r1 r2 h hq
  unfold gNotInTu at h
  split at h
  · rename_i es
    split at h
    · rename_i f
      obtain ⟨f1, f2⟩ := Bool.and_eq_true_iff.mp f
      exact ⟨toP d1, toPs es, dp_of w.fr _ 60 _ f1 r1, dp_of w.fr (.tup es) 60 _ f2 r2, shaped_of f1, shaped_of (d := .tup es) f2, hq (.bl _) _ F S H Le.rfl' w (by show V.bl _ = _; rw [any_toPs]) h⟩
    · exact h.elim
  · exact h.elim
section
variable {B : Bs} {a b : Expr} {ta tb : HTE} {pos : Pos}
theorem hnotinTuT (ha : HE B a ta) (hb : HE B b tb) (hm : behindInMarks .NotIn b = false := by rfl) : HT B (.Compare a [.NotIn] [b] pos) (hB (hop gNotInTu ta tb)) := hcmpT (r := rNotInTu) (fun X ok => op_notInTu (room_u (ok.room.mono (Nat.zero_le _)))) gNotInTu_ok ha hb hm
end
end Hy

set_option Elab.async false
set_option linter.all false
set_option maxRecDepth 100000
set_option maxHeartbeats 4000000
set_option autoImplicit false
namespace Hy
open PySem PySem.Spec PyProof.Rows L2
/-! ### exceptions as values: C(..), e.f, isinstance(e, C) -/
/-- C(e, ..), the exception kept -/
def tMkV (C : Addr) (sp : Sp) (ta : TA) : TE := fun σ H Q => ta σ H fun vs H1 => vs.length ≤ 1000 ∧ ∀ a, H1 a = none → sp (.ref a :: vs) (upd H1 a (exo a C none)) (fun v H2 => v = .non ∧ Q (.ref a) H2) (fun _ _ _ => False)
section
variable {X : Cx} {e : Expr} {es : List Expr} {ta : TA} {p pos : Pos}
theorem pe_oexV {CX : CXT} {x : Str} {C fI : Addr} {k : Nat} {fd : FuncData} {ps : List Str} {sp : Sp} (T : OexC X.K C) (iC : PySem.W.findIn X.K (.ref C) "__init__" = some (some (.ref fI))) (tI : PySem.W.typeIn X.K (.ref fI) = some (.type "function"))
    (F1 : FnOk X.prog X.w X.K X.mg X.base CX k fI fd ps sp) (hr : Room (k + 1) X.A) (hb : Binds X.K fd ps []) (hx : Passes CX X (fun _ _ _ => False)) (hg : Gl X x) (hm : X.mg x = some (.ref C)) (ha : PA X (e :: es) ta)
    (hdb : (x == ("__debug__" : Str)) = false := by decide) (he : starEach (e :: es) X.env = (false, eval e X.env) :: starEach es X.env := by rfl) (hpl : (backTo pos (starEach es X.env)).any (·.1) = false := by rfl) :
    PE X (.Call (.Name x p) (e :: es) [] pos) (tMkV C sp ta) := by
  refine ⟨fun pins s σ H Q I h => ?_⟩
  obtain ⟨nm, q, N, bs, bm, sn, sub, ab, col, dd, k0, k1, k2, k3, k5, hC, hbm⟩ := T.cls
  refine wpAny_Call_Name_kw (ld_glob I hg hm ?_ hdb)
  refine PySem.W.callWith_K (h₀ := X.base) I.ok.mod.kin T.kC (thn (ha.run pos pins s σ H _ I h) fun us s1 ⟨vs, H1, I1, r1, hz, q1⟩ => ⟨I1.kIn, ?_⟩) he hpl
  show wpAny _ _ (call (.ref C) us) _ _ _
  obtain ⟨hp, g, dr, tk, os⟩ := s1
  have hsz : hp.objs.size ≤ hp.objs.size + 1 := Nat.le_succ _
  have hn : H1 (hp.objs.size + 1) = none := I1.hok.fresh hsz
  have hq := q1 (hp.objs.size + 1) hn
  have kk : ∀ b o, hp.get? b = some o → ((hp.push (PySem.W.kdv_tup us)).push (PySem.HandSPX.excO C hp.objs.size)).get? b = some o := fun b o e => Heap.get?_push_of_some _ (Heap.get?_push_of_some _ e)
  have hget : ((hp.push (PySem.W.kdv_tup us)).push (PySem.HandSPX.excO C hp.objs.size)).get? (hp.objs.size + 1) = some (PySem.HandSPX.excO C hp.objs.size) := by heap_get
  have I2 : L2.Inv X pins σ (upd H1 (hp.objs.size + 1) (exo (hp.objs.size + 1) C none)) ⟨(hp.push (PySem.W.kdv_tup us)).push (PySem.HandSPX.excO C hp.objs.size), g, dr, tk, os⟩ :=
    I1.laid (t' := tk) (a := hp.objs.size + 1) (o := exo (hp.objs.size + 1) C none) (h' := (hp.push (PySem.W.kdv_tup us)).push (PySem.HandSPX.excO C hp.objs.size)) kk hsz (exo_ok hget)
  have r2 : Vals (V.ref (hp.objs.size + 1) :: vs) (Value.ref (hp.objs.size + 1) :: us) := .cons rfl r1
  have hl : ((Value.ref (hp.objs.size + 1) :: us) ++ ([] : List Value)).length = ps.length := by
    have e := r2.length
    rw [F1.len _ _ _ _ hq] at e
    rw [List.append_nil]
    exact e.symm
  have hus : us.length ≤ sizeLine := by
    rw [← Paired.length r1, sizeLine_eq]
    omega
  refine wpAny_call (PySem.HandSPX.call_own F.excBase_ValueError (fun Y => PySem.HandSPX.refsVE_contains Y bm hbm) (I1.kIn _ _ hC) (PySem.W.looks_findIn I1.kIn iC) (fun self => PySem.W.bind_fn I1.kIn self tI) hus
    (codeAny_mono (F1.run _ X.stack _ _ ⟨Value.ref (hp.objs.size + 1) :: us, []⟩ (Value.ref (hp.objs.size + 1) :: us) _ _ (fun _ _ _ => False) (hr.make C us []) (I2.env0.make C us []) (by have := hb _ (Value.ref (hp.objs.size + 1) :: us) I2.kIn hl; rwa [List.append_nil] at this) r2 hq) fun r s' hq' => ?_))
  cases r with
  | error er => exact hx pins σ _ _ er s' I2 hq'
  | ok fl =>
    cases fl with
    | ret u =>
      obtain ⟨v, H2, os2, bare2, un2, hok2, rv, ev, q2⟩ := hq'
      subst ev
      obtain ⟨h2, g2, d2, t2, os'⟩ := s'
      exact ⟨rv, ⟨V.ref (hp.objs.size + 1), H2, I2.call' (ch := []) os2 un2 hok2 bare2 (fun b z => absurd z (by simp)), rfl, q2⟩⟩
    | next => exact False.elim hq'
    | brk => exact False.elim hq'
    | cont => exact False.elim hq'
theorem pe_bareV {CX : CXT} {x : Str} {c fI : Addr} {k : Nat} {fd : FuncData} {ps : List Str} {sp : Sp} (T : OexC X.K c) (iC : PySem.W.findIn X.K (.ref c) "__init__" = some (some (.ref fI))) (tI : PySem.W.typeIn X.K (.ref fI) = some (.type "function")) (F1 : FnOk X.prog X.w X.K X.mg X.base CX k fI fd ps sp) (hr : Room (k + 1) X.A)
    (hb : Binds X.K fd ps []) (hx : Passes CX X (fun _ _ _ => False)) (hg : Gl X x) (hm : X.mg x = some (.ref c)) (hdb : (x == ("__debug__" : Str)) = false) : PE X (.Call (.Name x p) [] [] pos) (tMkV c sp (fun _ H Q => Q [] H)) := by
  refine ⟨fun pins s σ H Q I h => ?_⟩
  obtain ⟨nm, q, N, bs, bm, sn, sub, ab, col, dd, k0, k1, k2, k3, k5, hC, hbm⟩ := T.cls
  refine wpAny_Call_Name_kw (ld_glob I hg hm (PySem.W.callWith_K0 (first := []) I.kIn T.kC ?_) hdb)
  show wpAny _ _ (call (.ref c) []) _ _ _
  generalize eI : ({ s with toks := s.toks } : Shared) = sI
  obtain ⟨hp, g, dr, tk, os⟩ := s
  have hsz : hp.objs.size ≤ hp.objs.size + 1 := Nat.le_succ _
  have hn : H (hp.objs.size + 1) = none := I.hok.fresh hsz
  have kk : ∀ b o, hp.get? b = some o → ((hp.push (PySem.W.kdv_tup [])).push (PySem.HandSPX.excO c hp.objs.size)).get? b = some o := fun b o e => Heap.get?_push_of_some _ (Heap.get?_push_of_some _ e)
  have hget : ((hp.push (PySem.W.kdv_tup [])).push (PySem.HandSPX.excO c hp.objs.size)).get? (hp.objs.size + 1) = some (PySem.HandSPX.excO c hp.objs.size) := by heap_get
  have I2 : L2.Inv X pins σ (upd H (hp.objs.size + 1) (exo (hp.objs.size + 1) c none)) ⟨(hp.push (PySem.W.kdv_tup [])).push (PySem.HandSPX.excO c hp.objs.size), g, dr, tk, os⟩ :=
    I.laid (t' := tk) (a := hp.objs.size + 1) (o := exo (hp.objs.size + 1) c none) (h' := (hp.push (PySem.W.kdv_tup [])).push (PySem.HandSPX.excO c hp.objs.size)) kk hsz (exo_ok hget)
  have go := h.2 (hp.objs.size + 1) hn
  have r2 : Vals [V.ref (hp.objs.size + 1)] [Value.ref (hp.objs.size + 1)] := .cons rfl .nil
  have hl : ([Value.ref (hp.objs.size + 1)] ++ ([] : List Value)).length = ps.length := by
    have e := r2.length
    rw [F1.len _ _ _ _ go] at e
    simpa using e.symm
  subst eI
  refine wpAny_call (PySem.HandSPX.call_own F.excBase_ValueError (fun Y => PySem.HandSPX.refsVE_contains Y bm hbm) (I.kIn _ _ hC) (PySem.W.looks_findIn I.kIn iC) (fun self => PySem.W.bind_fn I.kIn self tI) (Nat.zero_le _)
    (codeAny_mono (F1.run _ X.stack _ _ ⟨[Value.ref (hp.objs.size + 1)], []⟩ [Value.ref (hp.objs.size + 1)] _ _ (fun _ _ _ => False) (hr.make c [] []) (I2.env0.make c [] []) (by have := hb _ [Value.ref (hp.objs.size + 1)] I2.kIn hl; simpa using this) r2 go) fun r s' hq' => ?_))
  cases r with
  | error er => exact hx pins σ _ _ er s' I2 hq'
  | ok fl =>
    cases fl with
    | ret u =>
      obtain ⟨v, H2, os2, bare2, un2, hok2, rv, ev, q2⟩ := hq'
      subst ev
      obtain ⟨h2, g2, d2, t2, os'⟩ := s'
      exact ⟨rv, ⟨V.ref (hp.objs.size + 1), H2, I2.call' (ch := []) os2 un2 hok2 bare2 (fun b z => absurd z (by simp)), rfl, q2⟩⟩
    | next => exact False.elim hq'
    | brk => exact False.elim hq'
    | cont => exact False.elim hq'
end
def hMkX (c : Nat) (t : HTA) : HTE := fun env S Q E => t env S (fun ds S1 => match Nat.beq ds.length (flds c).length with
  | true => Q (.exc c ds) S1
  | false => False) E
section
variable {B : Bs} {e : Expr} {es : List Expr} {te : HTE} {tr : HTA} {c k : Nat} {xc : Str} {p p2 pos : Pos}
theorem hmkx (h : HExc B k c) (hk : k + 1 ≤ B.k) (gn : Gn B xc) (ha : HA B (e :: es) tr) (hx : cname c = xc := by rfl) (hdb : (xc == ("__debug__" : Str)) = false := by decide) (he : ∀ env, starEach (e :: es) env = (false, eval e env) :: starEach es env := by intro _; rfl)
    (hpl : ∀ env, (backTo pos (starEach es env)).any (·.1) = false := by intro _; rfl) (hf : (flds c).length ≠ 0 := by decide) : HE B (.Call (.Name xc p) (e :: es) [] pos) (hMkX c tr) := by
  subst hx
  obtain ⟨fI, fd, ps, i1, i2, i3, i4⟩ := h.ini
  exact ⟨fun X W ok tk => PE.imp (pe_oexV (sp := spExI X.K c) (by rw [ok.eK]; exact h.ok.ox) (by rw [ok.eK]; exact i1) (by rw [ok.eK]; exact i2) (by have := ok.fnOk i4; rw [ok.eK] at this ⊢; exact this) (ok.room.mono hk) (by rw [ok.eK]; exact i3) passL (ok.gl gn)
    (by rw [ok.em]; exact h.mg) (ha.run X W ok tk) hdb (he _) (hpl _)) fun σ H Q ⟨G, F, S, env, Q0, E0, rn, wd, hh, hq, hE⟩ => by
      refine ⟨G, F, S, env, _, E0, rn, wd, hh, fun ds vs F1 S1 H1 l1 w1 r1 h1 => ?_, hE⟩
      obtain ⟨z, h1⟩ := beq_n h1
      have few := h.ok.few
      rw [ok.eK]
      refine ⟨by rw [r1.len, z]; omega, fun a ha => ⟨a, vs, rfl, by rw [r1.len, z], upd_same, fun H' e => ?_⟩⟩
      obtain ⟨d, l, h0, ne, e1, e2, e3, hl⟩ := e.inv hf
      have hd1 : H1 d = none := by rw [upd_ne ne] at h0; exact h0
      have eH : H' = upd (upd H1 a (exo a (cad B.K c) (some d))) d (exd d l) := by
        funext b
        by_cases hb : b = d
        · rw [hb, upd_same, e2]
        · rw [upd_ne hb]
          by_cases hba : b = a
          · rw [hba, upd_same, e1]
          · rw [upd_ne hba, e3 b hba hb, upd_ne hba]
      refine ⟨rfl, ?_⟩
      rw [eH]
      obtain ⟨w2, l2⟩ := w1.newF (exo a (cad B.K c) (some d)) ha
      obtain ⟨w3, l3⟩ := w2.newF (exd d l) (show upd H1 a (exo a (cad B.K c) (some d)) d = none from (upd_ne ne).trans hd1)
      exact hq (.exc c ds) (.ref a) _ _ _ (l1.trans (l2.trans l3)) w3 ⟨a, some d, vs, rfl, (upd_ne ne.symm).trans upd_same, r1.le (l2.trans l3), .inr ⟨d, l, rfl, upd_same, hl⟩⟩ h1⟩
theorem hmkx0 (h : HExc B k c) (hk : k + 1 ≤ B.k) (gn : Gn B xc) (hx : cname c = xc := by rfl) (hdb : (xc == ("__debug__" : Str)) = false := by decide) (hf : flds c = [] := by rfl) : HE B (.Call (.Name xc p) [] [] pos) (hMkX c hNil) := by
  subst hx
  obtain ⟨fI, fd, ps, i1, i2, i3, i4⟩ := h.ini
  exact ⟨fun X W ok tk => PE.imp (pe_bareV (sp := spExI X.K c) (by rw [ok.eK]; exact h.ok.ox) (by rw [ok.eK]; exact i1) (by rw [ok.eK]; exact i2) (by have := ok.fnOk i4; rw [ok.eK] at this ⊢; exact this) (ok.room.mono hk) (by rw [ok.eK]; exact i3) passL (ok.gl gn)
    (by rw [ok.em]; exact h.mg) hdb) fun σ H Q ⟨G, F, S, env, Q0, E0, rn, wd, hh, hq, hE⟩ => by
      obtain ⟨_, h1⟩ := beq_n (show match Nat.beq ([] : List Hy.D).length (flds c).length with | true => Q0 (.exc c []) S | false => False from hh)
      rw [ok.eK]
      refine ⟨Nat.zero_le _, fun a ha => ⟨a, [], rfl, by rw [hf] <;> rfl, upd_same, fun H' e => ?_⟩⟩
      rw [hf] at e
      cases e
      obtain ⟨w2, l2⟩ := wd.newF (exo a (cad B.K c) none) ha
      exact ⟨rfl, hq (.exc c []) (.ref a) _ _ _ l2 w2 ⟨a, none, [], rfl, upd_same, rfl, .inl ⟨hf, rfl⟩⟩ h1⟩⟩
end
/-! isinstance(e, T) -/
theorem call_isV {X : Cx} : CallR X (.builtin "isinstance") (fun xs H Q => ∃ (y : V) (cv : Value) (b : Bool) (a : Addr) (c : Nat) (d : Option Addr), xs = [.ref a, y] ∧ (∀ u, RelV y u → u = cv) ∧ ExcOk X.K c ∧ H a = some (exo a (cad X.K c) d) ∧ (∀ dx, d = some dx → ∃ fs, H dx = some (exd dx fs)) ∧ PySem.W.kitOne X.K (.ref (cad X.K c)) cv = some b ∧ Q (.bl b) H) := by
  intro pins s σ H xs us Q I r h
  obtain ⟨y, cv, b, a, c, d, rfl, hcv, C, hH, hd, e, q⟩ := h
  cases r with
  | cons rx rr =>
    cases rr with
    | cons rt rr =>
      cases rr
      cases rx
      obtain rfl := hcv _ rt
      obtain ⟨t1, hget⟩ := exo_at I.hok hH
      have J : ∃ od, PySem.W.InstAt s.heap a ({ cls := .ref (cad X.K c), dict := d, data := .fields #[.ref t1, .none, .none, .none, .bool false, .none] } : Obj) (cad X.K c) od := by
        cases d with
        | none => exact ⟨none, hget, rfl, rfl, trivial⟩
        | some dx =>
          obtain ⟨fs, hx⟩ := hd dx rfl
          obtain ⟨mA, hns, hr⟩ := exd_at I.hok hx
          obtain ⟨od, ho, _⟩ := lookIn_ns hns
          exact ⟨some od, hget, rfl, rfl, ho⟩
      obtain ⟨od, J⟩ := J
      exact PySem.W.kia_one (PySem.W.kitx_exc (od := od) C.cl C.xf.ga C.xf.gg C.xf.exC C.ha C.hn C.tk C.hm) I.kIn J e (fun z => nomatch z) fun tk => ⟨.bl b, H, I.kept (t' := tk) fun _ _ z => z, rfl, q⟩
/-- what isinstance answers for the classes cs -/
structure KitF (K : PySem.W.Frag) (cv : Value) (cs : List Nat) (f : Nat → Bool) : Prop where
  ok : ∀ c ∈ cs, ExcOk K c
  an : ∀ c ∈ cs, PySem.W.kitOne K (.ref (cad K c)) cv = some (f c)
def prKitX (c2 : Nat) (cs : List Nat) (f : Nat → Bool) : Pr := fun K => cs.all fun c => decide (PySem.W.kitOne K (.ref (cad K c)) (.ref (cad K c2)) = some (f c))
theorem prKitX_ok {K : PySem.W.Frag} {c2 : Nat} {cs : List Nat} {f : Nat → Bool} (h : prKitX c2 cs f K = true) (ex : ∀ c ∈ cs, ExcOk K c) : KitF K (.ref (cad K c2)) cs f := ⟨ex, fun c hc => of_decide_eq_true (List.all_eq_true.mp h c hc)⟩
def prKitXB (T : String) (cs : List Nat) (f : Nat → Bool) : Pr := fun K => cs.all fun c => decide (PySem.W.kitOne K (.ref (cad K c)) (.type T) = some (f c))
theorem prKitXB_ok {K : PySem.W.Frag} {T : String} {cs : List Nat} {f : Nat → Bool} (h : prKitXB T cs f K = true) (ex : ∀ c ∈ cs, ExcOk K c) : KitF K (.type T) cs f := ⟨ex, fun c hc => of_decide_eq_true (List.all_eq_true.mp h c hc)⟩
def gIsX (cs : List Nat) (f : Nat → Bool) : G1 := fun x S Q => match x with
  | .exc c _ => match memN c cs with
    | true => Q (.bl (f c)) S
    | false => False
  | _ => False
theorem exc_dict {K : PySem.W.Frag} {F H : Hp} {c : Nat} {ds : List D} {v : V} (l : Le F H) (r : Rep K F (.exc c ds) v) : ∃ a d, v = .ref a ∧ H a = some (exo a (cad K c) d) ∧ ∀ dx, d = some dx → ∃ fs, H dx = some (exd dx fs) := by
  obtain ⟨a, d, vs, rfl, h1, _, h2⟩ := r
  refine ⟨a, d, rfl, l _ _ h1, fun dx e => ?_⟩
  rcases h2 with ⟨_, h⟩ | ⟨q, fs, h, hF, _⟩
  · rw [h] at e; cases e
  · rw [h] at e; cases e
    exact ⟨fs, l _ _ hF⟩
section
variable {B : Bs} {e : Expr} {te : HTE} {xc : Str} {p p2 pos : Pos} {cs : List Nat} {f : Nat → Bool}
theorem hisxv {c2 : Nat} (T : KitF B.K (.ref (cad B.K c2)) cs f) (gi : Gn B "isinstance") (mi : B.mg "isinstance" = none) (gn : Gn B xc) (hm : B.mg (cname c2) = some (.ref (cad B.K c2))) (h : HE B e te) (hx : cname c2 = xc := by rfl) (hdb : (xc == ("__debug__" : Str)) = false := by decide)
    (he : ∀ env, starEach [e, .Name xc p2] env = (false, eval e env) :: starEach [.Name xc p2] env := by intro _; rfl) : HE B (.Call (.Name "isinstance" p) [e, .Name xc p2] [] pos) (hun (gIsX cs f) te) := by
  subst hx
  exact ⟨fun X W ok tk => PE.imp (pe_callB (call_isV (X := X)) (ok.gl gi) (by rw [ok.em]; exact mi) (by decide +kernel) (pa_cons (h.run X W ok tk) (pa_cons (pe_glob (v := .ref (cad B.K c2)) (ok.gl gn) (by rw [ok.em]; exact hm) rfl hdb) pa_nil) (he _)) (by decide) (by decide) (he _) rfl)
    fun σ H Q ⟨G, F, S, env, Q0, E0, rn, wd, h, hq, hE⟩ => ⟨G, F, S, env, _, E0, rn, wd, h, fun d v F1 S1 H1 l1 w1 r1 h1 => by
      unfold gIsX at h1
      dsimp only at h1
      split at h1
      · rename_i c ds
        split at h1
        · rename_i em
          obtain ⟨a, dd, rfl, k1, k2⟩ := exc_dict w1.fr r1
          exact ⟨.ref (cad B.K c2), .ref (cad B.K c2), f c, a, c, dd, rfl, fun u r => r, by rw [ok.eK]; exact T.ok c (memN_ok em), by rw [ok.eK]; exact k1, k2, by rw [ok.eK]; exact T.an c (memN_ok em), hq (.bl (f c)) (.bl (f c)) F1 S1 H1 l1 w1 rfl h1⟩
        · exact h1.elim
      · exact h1.elim, hE⟩⟩
theorem hisxvB {T : String} (K : KitF B.K (.type T) cs f) (gi : Gn B "isinstance") (mi : B.mg "isinstance" = none) (gn : Gn B xc) (hm : B.mg xc = none) (hv : bootBuiltins xc = some (.type T)) (h : HE B e te) (hn : xc ≠ "__name__" := by decide) (hdb : (xc == ("__debug__" : Str)) = false := by decide)
    (he : ∀ env, starEach [e, .Name xc p2] env = (false, eval e env) :: starEach [.Name xc p2] env := by intro _; rfl) : HE B (.Call (.Name "isinstance" p) [e, .Name xc p2] [] pos) (hun (gIsX cs f) te) :=
  ⟨fun X W ok tk => PE.imp (pe_callB (call_isV (X := X)) (ok.gl gi) (by rw [ok.em]; exact mi) (by decide +kernel) (pa_cons (h.run X W ok tk) (pa_cons (pe_bltn (v := .ty T) (ok.gl gn) (by rw [ok.em]; exact hm) hv rfl hn hdb) pa_nil) (he _)) (by decide) (by decide) (he _) rfl)
    fun σ H Q ⟨G, F, S, env, Q0, E0, rn, wd, h, hq, hE⟩ => ⟨G, F, S, env, _, E0, rn, wd, h, fun d v F1 S1 H1 l1 w1 r1 h1 => by
      unfold gIsX at h1
      dsimp only at h1
      split at h1
      · rename_i c ds
        split at h1
        · rename_i em
          obtain ⟨a, dd, rfl, k1, k2⟩ := exc_dict w1.fr r1
          exact ⟨.ty T, .type T, f c, a, c, dd, rfl, fun u r => r, by rw [ok.eK]; exact K.ok c (memN_ok em), by rw [ok.eK]; exact k1, k2, by rw [ok.eK]; exact K.an c (memN_ok em), hq (.bl (f c)) (.bl (f c)) F1 S1 H1 l1 w1 rfl h1⟩
        · exact h1.elim
      · exact h1.elim, hE⟩⟩
end
/-! e.f -/
def gXf (c i : Nat) : G1 := fun x S Q => match x with
  | .exc c' ds => match Nat.beq c' c with
    | true => match ds[i]? with
      | some d => Q d S
      | none => False
    | false => False
  | _ => False
def tXfV (K : PySem.W.Frag) (c : Nat) (f : Str) (te : TE) : TE := fun σ H Q => te σ H fun x H1 => ∃ (a dd : Addr) (fs : List (Str × V)) (v : V), x = .ref a ∧ H1 a = some (exo a (cad K c) (some dd)) ∧ H1 dd = some (exd dd fs) ∧ fs.lookup f = some v ∧ Q v H1
theorem pe_xfV {X : Cx} {c : Nat} {e : Expr} {te : TE} {pos : Pos} {n : Str} (T : XfC X.K (cad X.K c)) (hno : PySem.W.findIn X.K (.ref (cad X.K c)) n = some none) (he : PE X e te) (hb : attributeBase e n X.env (eval e X.env) = eval e X.env := by rfl) :
    PE X (.Attribute e n pos) (tXfV X.K c n te) := by
  refine ⟨fun pins s σ H Q I h => ?_⟩
  refine attr_of hb (thn (he.run pins s σ H _ I h) fun u s1 hh => ?_)
  obtain ⟨x, H1, I1, rx, a, dd, fs, v, ex, ea, ed, l, q⟩ := hh
  subst ex
  obtain rfl : u = Value.ref a := rx
  obtain ⟨t1, ha⟩ := exo_at I1.hok ea
  obtain ⟨mA, hns, hr⟩ := exd_at I1.hok ed
  obtain ⟨od, ho, hl⟩ := lookIn_ns hns
  obtain ⟨u, hu, ru⟩ := RelO.some_of (v := v) (o := mA n) (by rw [← l]; exact hr n)
  have J : PySem.W.InstAt s1.heap a ({ cls := .ref (cad X.K c), dict := some dd, data := .fields #[.ref t1, .none, .none, .none, .bool false, .none] } : Obj) (cad X.K c) (some od) := ⟨ha, rfl, rfl, ho⟩
  exact HandSPX.exc_get I1.kIn J T.ga T.gg T.exC (PySem.W.findObj_own T.hdC hno rfl (by rw [hl, hu])) (handed_of ru) ⟨v, H1, I1.tok _, ru, q⟩
section
variable {B : Bs} {e : Expr} {te : HTE} {f : Str} {pos : Pos}
theorem hxfV {c : Nat} (i : Nat) (T : ExcOk B.K c) (h : HE B e te) (hf : (flds c)[i]? = some f := by rfl) (hb : ∀ env, attributeBase e f env (eval e env) = eval e env := by intro _; rfl) : HE B (.Attribute e f pos) (hun (gXf c i) te) :=
  ⟨fun X W ok tk => PE.imp (pe_xfV (c := c) (by rw [ok.eK]; exact T.xf) (by rw [ok.eK]; exact T.no f (List.mem_of_getElem? hf)) (h.run X W ok tk) (hb _)) fun σ H Q ⟨G, F, S, env, Q0, E0, rn, wd, hh, hq, hE⟩ => ⟨G, F, S, env, _, E0, rn, wd, hh, fun d v F1 S1 H1 l1 w1 r1 h1 => by
      unfold gXf at h1
      dsimp only at h1
      split at h1
      · rename_i c' ds
        split at h1
        · rename_i eb
          obtain rfl := Nat.eq_of_beq_eq_true eb
          split at h1
          · rename_i x ex
            obtain ⟨a, d, vs, rfl, k1, k2, k3⟩ := r1
            obtain ⟨w, ew, rw'⟩ := Reps.at k2 ex
            rcases k3 with ⟨z, _⟩ | ⟨q, fs, z1, z2, z3⟩
            · rw [z] at hf; cases hf
            · subst z1
              rw [ok.eK]
              exact ⟨a, q, fs, w, rfl, w1.fr _ _ k1, w1.fr _ _ z2, z3 i f w hf ew, hq x w F1 S1 H1 l1 w1 rw' h1⟩
          · exact h1.elim
        · exact h1.elim
      · exact h1.elim, hE⟩⟩
end
end Hy

set_option Elab.async false
set_option linter.all false
set_option maxRecDepth 100000
set_option maxHeartbeats 4000000
set_option autoImplicit false
namespace Hy
open PySem PySem.Spec PyProof.Rows L2
def top (i : Nat) : Stmt := PySem.Challenge.pw_tryback_k46_errors_stand_apart.main.body.getD i (.Pass ⟨0, 0, 0, 0⟩)
/-- what stands behind the top -/
structure Fc (K : PySem.W.Frag) (mg : Str → Option Value) : Prop where
  f_ValueError : mg "ValueError" = none
  f_int : mg "int" = none
  f_isinstance : mg "isinstance" = none
  f_len : mg "len" = none
  f_max : mg "max" = none
  f_min : mg "min" = none
  f_range : mg "range" = none
  n_BadCode : mg (cname 35) = some (.ref (cad K 35))
  n_BadPuzzle : mg (cname 39) = some (.ref (cad K 39))
  n_BadText : mg (cname 38) = some (.ref (cad K 38))
  n_Ended : mg (cname 40) = some (.ref (cad K 40))
  n_NoCell : mg (cname 45) = some (.ref (cad K 45))
  n_NoContext : mg (cname 43) = some (.ref (cad K 43))
  n_NoEntry : mg (cname 50) = some (.ref (cad K 50))
  n_NoRow : mg (cname 51) = some (.ref (cad K 51))
  n_NoSpot : mg (cname 48) = some (.ref (cad K 48))
  n_NoSuch : mg (cname 37) = some (.ref (cad K 37))
  n_NoWay : mg (cname 44) = some (.ref (cad K 44))
  n_NothingToUndo : mg (cname 42) = some (.ref (cad K 42))
  n_OtherShape : mg (cname 47) = some (.ref (cad K 47))
  n_TooGreat : mg (cname 36) = some (.ref (cad K 36))
  n_TooMany : mg (cname 49) = some (.ref (cad K 49))
  n_TryError : mg (cname 34) = some (.ref (cad K 34))
  n_Unclean : mg (cname 46) = some (.ref (cad K 46))
  x_BadCode : ExcOk K 35
  x_BadPuzzle : ExcOk K 39
  x_BadText : ExcOk K 38
  x_Ended : ExcOk K 40
  x_NoCell : ExcOk K 45
  x_NoContext : ExcOk K 43
  x_NoEntry : ExcOk K 50
  x_NoRow : ExcOk K 51
  x_NoSpot : ExcOk K 48
  x_NoSuch : ExcOk K 37
  x_NoWay : ExcOk K 44
  x_NothingToUndo : ExcOk K 42
  x_OtherShape : ExcOk K 47
  x_TooGreat : ExcOk K 36
  x_TooMany : ExcOk K 49
  x_Unclean : ExcOk K 46
  b_TryError : BaseOk K 34
  kx_BadCode : KitF K (.ref (cad K 35)) [45, 48, 49, 50, 51, 38, 37, 43, 44, 46, 35, 47, 39, 36, 40, 42] (fun c => Nat.beq c 35)
  kx_BadPuzzle : KitF K (.ref (cad K 39)) [45, 48, 49, 50, 51, 38, 37, 43, 44, 46, 35, 47, 39, 36, 40, 42] (fun c => Nat.beq c 39)
  kx_BadText : KitF K (.ref (cad K 38)) [45, 48, 49, 50, 51, 38, 37, 43, 44, 46, 35, 47, 39, 36, 40, 42] (fun c => Nat.beq c 38)
  kx_Ended : KitF K (.ref (cad K 40)) [45, 48, 49, 50, 51, 38, 37, 43, 44, 46, 35, 47, 39, 36, 40, 42] (fun c => Nat.beq c 40)
  kx_NoCell : KitF K (.ref (cad K 45)) [45, 48, 49, 50, 51, 38, 37, 43, 44, 46, 35, 47, 39, 36, 40, 42] (fun c => Nat.beq c 45)
  kx_NoContext : KitF K (.ref (cad K 43)) [45, 48, 49, 50, 51, 38, 37, 43, 44, 46, 35, 47, 39, 36, 40, 42] (fun c => Nat.beq c 43)
  kx_NoEntry : KitF K (.ref (cad K 50)) [45, 48, 49, 50, 51, 38, 37, 43, 44, 46, 35, 47, 39, 36, 40, 42] (fun c => Nat.beq c 50)
  kx_NoRow : KitF K (.ref (cad K 51)) [45, 48, 49, 50, 51, 38, 37, 43, 44, 46, 35, 47, 39, 36, 40, 42] (fun c => Nat.beq c 51)
  kx_NoSpot : KitF K (.ref (cad K 48)) [45, 48, 49, 50, 51, 38, 37, 43, 44, 46, 35, 47, 39, 36, 40, 42] (fun c => Nat.beq c 48)
  kx_NoSuch : KitF K (.ref (cad K 37)) [45, 48, 49, 50, 51, 38, 37, 43, 44, 46, 35, 47, 39, 36, 40, 42] (fun c => Nat.beq c 37)
  kx_NoWay : KitF K (.ref (cad K 44)) [45, 48, 49, 50, 51, 38, 37, 43, 44, 46, 35, 47, 39, 36, 40, 42] (fun c => Nat.beq c 44)
  kx_NothingToUndo : KitF K (.ref (cad K 42)) [45, 48, 49, 50, 51, 38, 37, 43, 44, 46, 35, 47, 39, 36, 40, 42] (fun c => Nat.beq c 42)
  kx_OtherShape : KitF K (.ref (cad K 47)) [45, 48, 49, 50, 51, 38, 37, 43, 44, 46, 35, 47, 39, 36, 40, 42] (fun c => Nat.beq c 47)
  kx_TooGreat : KitF K (.ref (cad K 36)) [45, 48, 49, 50, 51, 38, 37, 43, 44, 46, 35, 47, 39, 36, 40, 42] (fun c => Nat.beq c 36)
  kx_TooMany : KitF K (.ref (cad K 49)) [45, 48, 49, 50, 51, 38, 37, 43, 44, 46, 35, 47, 39, 36, 40, 42] (fun c => Nat.beq c 49)
  kx_TryError : KitF K (.ref (cad K 34)) [45, 48, 49, 50, 51, 38, 37, 43, 44, 46, 35, 47, 39, 36, 40, 42] (fun _ => true)
  kx_Unclean : KitF K (.ref (cad K 46)) [45, 48, 49, 50, 51, 38, 37, 43, 44, 46, 35, 47, 39, 36, 40, 42] (fun c => Nat.beq c 46)
  kx_ValueError : KitF K (.type "ValueError") [45, 48, 49, 50, 51, 38, 37, 43, 44, 46, 35, 47, 39, 36, 40, 42] (fun _ => true)
abbrev s_BadCode_init : Stmt := inClass (top 11) 0
def N_BadCode_init : List Str := [("self" : PySem.Str), ("function" : PySem.Str), ("number" : PySem.Str)]
theorem sc_BadCode_init : FnScope N_BadCode_init [("self" : PySem.Str), ("function" : PySem.Str), ("number" : PySem.Str)] (defScope s_BadCode_init) := ⟨rfl, rfl, rfl, by decide +kernel, rfl, by decide +kernel, by decide +kernel⟩
theorem xi_BadCode_init {B : Bs} {k : Nat} (c : Fc B.K B.mg) : HXI ⟨B.P, B.w, B.K, B.mg, B.base, k, N_BadCode_init, defScope s_BadCode_init, true, fun _ => true⟩ (defBody s_BadCode_init) (flds 35) := hxi (hx0 c.b_TryError rfl c.n_TryError) (hxs hx1 (hxs hx1 hxs0))
theorem xk_BadCode_init {B : Bs} {k : Nat} {f : Addr} {fd : FuncData} (c : Fc B.K B.mg) (F : FunD B.K "__init__" "BadCode.__init__" (defArgs s_BadCode_init) (defBody s_BadCode_init) (defScope s_BadCode_init) [] [] f fd) : FnOk B.P B.w B.K B.mg B.base (CX B.P B.w) (k + 1) f fd [("self" : PySem.Str), ("function" : PySem.Str), ("number" : PySem.Str)] (spExI B.K 35) := fnExc c.x_BadCode F sc_BadCode_init rfl (xi_BadCode_init c)
theorem xb_BadCode_init {K : PySem.W.Frag} {f : Addr} {fd : FuncData} (F : FunD K "__init__" "BadCode.__init__" (defArgs s_BadCode_init) (defBody s_BadCode_init) (defScope s_BadCode_init) [] [] f fd) : Binds K fd [("self" : PySem.Str), ("function" : PySem.Str), ("number" : PySem.Str)] [] := F.bindsN (ps := [("self" : PySem.Str), ("function" : PySem.Str), ("number" : PySem.Str)]) fun _ _ _ _ _ _ us hl => match us, hl with | [_, _, _], _ => rfl
def d_BadCode_init : He.DefD := ⟨("BadCode", some "__init__"), "__init__", "BadCode.__init__", defArgs s_BadCode_init, defBody s_BadCode_init, defScope s_BadCode_init, [], []⟩

abbrev s_BadPuzzle_init : Stmt := inClass (top 13) 0
def N_BadPuzzle_init : List Str := [("self" : PySem.Str)]
theorem sc_BadPuzzle_init : FnScope N_BadPuzzle_init [("self" : PySem.Str)] (defScope s_BadPuzzle_init) := ⟨rfl, rfl, rfl, by decide +kernel, rfl, by decide +kernel, by decide +kernel⟩
theorem xi_BadPuzzle_init {B : Bs} {k : Nat} (c : Fc B.K B.mg) : HXI ⟨B.P, B.w, B.K, B.mg, B.base, k, N_BadPuzzle_init, defScope s_BadPuzzle_init, true, fun _ => true⟩ (defBody s_BadPuzzle_init) (flds 39) := hxi (hx0 c.b_TryError rfl c.n_TryError) hxs0
theorem xk_BadPuzzle_init {B : Bs} {k : Nat} {f : Addr} {fd : FuncData} (c : Fc B.K B.mg) (F : FunD B.K "__init__" "BadPuzzle.__init__" (defArgs s_BadPuzzle_init) (defBody s_BadPuzzle_init) (defScope s_BadPuzzle_init) [] [] f fd) : FnOk B.P B.w B.K B.mg B.base (CX B.P B.w) (k + 1) f fd [("self" : PySem.Str)] (spExI B.K 39) := fnExc c.x_BadPuzzle F sc_BadPuzzle_init rfl (xi_BadPuzzle_init c)
theorem xb_BadPuzzle_init {K : PySem.W.Frag} {f : Addr} {fd : FuncData} (F : FunD K "__init__" "BadPuzzle.__init__" (defArgs s_BadPuzzle_init) (defBody s_BadPuzzle_init) (defScope s_BadPuzzle_init) [] [] f fd) : Binds K fd [("self" : PySem.Str)] [] := F.bindsN (ps := [("self" : PySem.Str)]) fun _ _ _ _ _ _ us hl => match us, hl with | [_], _ => rfl
def d_BadPuzzle_init : He.DefD := ⟨("BadPuzzle", some "__init__"), "__init__", "BadPuzzle.__init__", defArgs s_BadPuzzle_init, defBody s_BadPuzzle_init, defScope s_BadPuzzle_init, [], []⟩

abbrev s_BadText_init : Stmt := inClass (top 12) 0
def N_BadText_init : List Str := [("self" : PySem.Str), ("line" : PySem.Str)]
theorem sc_BadText_init : FnScope N_BadText_init [("self" : PySem.Str), ("line" : PySem.Str)] (defScope s_BadText_init) := ⟨rfl, rfl, rfl, by decide +kernel, rfl, by decide +kernel, by decide +kernel⟩
theorem xi_BadText_init {B : Bs} {k : Nat} (c : Fc B.K B.mg) : HXI ⟨B.P, B.w, B.K, B.mg, B.base, k, N_BadText_init, defScope s_BadText_init, true, fun _ => true⟩ (defBody s_BadText_init) (flds 38) := hxi (hx0 c.b_TryError rfl c.n_TryError) (hxs hx1 hxs0)
theorem xk_BadText_init {B : Bs} {k : Nat} {f : Addr} {fd : FuncData} (c : Fc B.K B.mg) (F : FunD B.K "__init__" "BadText.__init__" (defArgs s_BadText_init) (defBody s_BadText_init) (defScope s_BadText_init) [] [] f fd) : FnOk B.P B.w B.K B.mg B.base (CX B.P B.w) (k + 1) f fd [("self" : PySem.Str), ("line" : PySem.Str)] (spExI B.K 38) := fnExc c.x_BadText F sc_BadText_init rfl (xi_BadText_init c)
theorem xb_BadText_init {K : PySem.W.Frag} {f : Addr} {fd : FuncData} (F : FunD K "__init__" "BadText.__init__" (defArgs s_BadText_init) (defBody s_BadText_init) (defScope s_BadText_init) [] [] f fd) : Binds K fd [("self" : PySem.Str), ("line" : PySem.Str)] [] := F.bindsN (ps := [("self" : PySem.Str), ("line" : PySem.Str)]) fun _ _ _ _ _ _ us hl => match us, hl with | [_, _], _ => rfl
def d_BadText_init : He.DefD := ⟨("BadText", some "__init__"), "__init__", "BadText.__init__", defArgs s_BadText_init, defBody s_BadText_init, defScope s_BadText_init, [], []⟩

abbrev s_Ended_init : Stmt := inClass (top 16) 0
def N_Ended_init : List Str := [("self" : PySem.Str)]
theorem sc_Ended_init : FnScope N_Ended_init [("self" : PySem.Str)] (defScope s_Ended_init) := ⟨rfl, rfl, rfl, by decide +kernel, rfl, by decide +kernel, by decide +kernel⟩
theorem xi_Ended_init {B : Bs} {k : Nat} (c : Fc B.K B.mg) : HXI ⟨B.P, B.w, B.K, B.mg, B.base, k, N_Ended_init, defScope s_Ended_init, true, fun _ => true⟩ (defBody s_Ended_init) (flds 40) := hxi (hx0 c.b_TryError rfl c.n_TryError) hxs0
theorem xk_Ended_init {B : Bs} {k : Nat} {f : Addr} {fd : FuncData} (c : Fc B.K B.mg) (F : FunD B.K "__init__" "Ended.__init__" (defArgs s_Ended_init) (defBody s_Ended_init) (defScope s_Ended_init) [] [] f fd) : FnOk B.P B.w B.K B.mg B.base (CX B.P B.w) (k + 1) f fd [("self" : PySem.Str)] (spExI B.K 40) := fnExc c.x_Ended F sc_Ended_init rfl (xi_Ended_init c)
theorem xb_Ended_init {K : PySem.W.Frag} {f : Addr} {fd : FuncData} (F : FunD K "__init__" "Ended.__init__" (defArgs s_Ended_init) (defBody s_Ended_init) (defScope s_Ended_init) [] [] f fd) : Binds K fd [("self" : PySem.Str)] [] := F.bindsN (ps := [("self" : PySem.Str)]) fun _ _ _ _ _ _ us hl => match us, hl with | [_], _ => rfl
def d_Ended_init : He.DefD := ⟨("Ended", some "__init__"), "__init__", "Ended.__init__", defArgs s_Ended_init, defBody s_Ended_init, defScope s_Ended_init, [], []⟩

abbrev s_NoCell_init : Stmt := inClass (top 4) 0
def N_NoCell_init : List Str := [("self" : PySem.Str), ("name" : PySem.Str)]
theorem sc_NoCell_init : FnScope N_NoCell_init [("self" : PySem.Str), ("name" : PySem.Str)] (defScope s_NoCell_init) := ⟨rfl, rfl, rfl, by decide +kernel, rfl, by decide +kernel, by decide +kernel⟩
theorem xi_NoCell_init {B : Bs} {k : Nat} (c : Fc B.K B.mg) : HXI ⟨B.P, B.w, B.K, B.mg, B.base, k, N_NoCell_init, defScope s_NoCell_init, true, fun _ => true⟩ (defBody s_NoCell_init) (flds 45) := hxi (hx0 c.b_TryError rfl c.n_TryError) (hxs hx1 hxs0)
theorem xk_NoCell_init {B : Bs} {k : Nat} {f : Addr} {fd : FuncData} (c : Fc B.K B.mg) (F : FunD B.K "__init__" "NoCell.__init__" (defArgs s_NoCell_init) (defBody s_NoCell_init) (defScope s_NoCell_init) [] [] f fd) : FnOk B.P B.w B.K B.mg B.base (CX B.P B.w) (k + 1) f fd [("self" : PySem.Str), ("name" : PySem.Str)] (spExI B.K 45) := fnExc c.x_NoCell F sc_NoCell_init rfl (xi_NoCell_init c)
theorem xb_NoCell_init {K : PySem.W.Frag} {f : Addr} {fd : FuncData} (F : FunD K "__init__" "NoCell.__init__" (defArgs s_NoCell_init) (defBody s_NoCell_init) (defScope s_NoCell_init) [] [] f fd) : Binds K fd [("self" : PySem.Str), ("name" : PySem.Str)] [] := F.bindsN (ps := [("self" : PySem.Str), ("name" : PySem.Str)]) fun _ _ _ _ _ _ us hl => match us, hl with | [_, _], _ => rfl
def d_NoCell_init : He.DefD := ⟨("NoCell", some "__init__"), "__init__", "NoCell.__init__", defArgs s_NoCell_init, defBody s_NoCell_init, defScope s_NoCell_init, [], []⟩

abbrev s_NoContext_init : Stmt := inClass (top 2) 0
def N_NoContext_init : List Str := [("self" : PySem.Str), ("function" : PySem.Str), ("flags" : PySem.Str)]
theorem sc_NoContext_init : FnScope N_NoContext_init [("self" : PySem.Str), ("function" : PySem.Str), ("flags" : PySem.Str)] (defScope s_NoContext_init) := ⟨rfl, rfl, rfl, by decide +kernel, rfl, by decide +kernel, by decide +kernel⟩
theorem xi_NoContext_init {B : Bs} {k : Nat} (c : Fc B.K B.mg) : HXI ⟨B.P, B.w, B.K, B.mg, B.base, k, N_NoContext_init, defScope s_NoContext_init, true, fun _ => true⟩ (defBody s_NoContext_init) (flds 43) := hxi (hx0 c.b_TryError rfl c.n_TryError) (hxs hx1 (hxs hx1 hxs0))
theorem xk_NoContext_init {B : Bs} {k : Nat} {f : Addr} {fd : FuncData} (c : Fc B.K B.mg) (F : FunD B.K "__init__" "NoContext.__init__" (defArgs s_NoContext_init) (defBody s_NoContext_init) (defScope s_NoContext_init) [] [] f fd) : FnOk B.P B.w B.K B.mg B.base (CX B.P B.w) (k + 1) f fd [("self" : PySem.Str), ("function" : PySem.Str), ("flags" : PySem.Str)] (spExI B.K 43) := fnExc c.x_NoContext F sc_NoContext_init rfl (xi_NoContext_init c)
theorem xb_NoContext_init {K : PySem.W.Frag} {f : Addr} {fd : FuncData} (F : FunD K "__init__" "NoContext.__init__" (defArgs s_NoContext_init) (defBody s_NoContext_init) (defScope s_NoContext_init) [] [] f fd) : Binds K fd [("self" : PySem.Str), ("function" : PySem.Str), ("flags" : PySem.Str)] [] := F.bindsN (ps := [("self" : PySem.Str), ("function" : PySem.Str), ("flags" : PySem.Str)]) fun _ _ _ _ _ _ us hl => match us, hl with | [_, _, _], _ => rfl
def d_NoContext_init : He.DefD := ⟨("NoContext", some "__init__"), "__init__", "NoContext.__init__", defArgs s_NoContext_init, defBody s_NoContext_init, defScope s_NoContext_init, [], []⟩

abbrev s_NoEntry_init : Stmt := inClass (top 9) 0
def N_NoEntry_init : List Str := [("self" : PySem.Str), ("number" : PySem.Str)]
theorem sc_NoEntry_init : FnScope N_NoEntry_init [("self" : PySem.Str), ("number" : PySem.Str)] (defScope s_NoEntry_init) := ⟨rfl, rfl, rfl, by decide +kernel, rfl, by decide +kernel, by decide +kernel⟩
theorem xi_NoEntry_init {B : Bs} {k : Nat} (c : Fc B.K B.mg) : HXI ⟨B.P, B.w, B.K, B.mg, B.base, k, N_NoEntry_init, defScope s_NoEntry_init, true, fun _ => true⟩ (defBody s_NoEntry_init) (flds 50) := hxi (hx0 c.b_TryError rfl c.n_TryError) (hxs hx1 hxs0)
theorem xk_NoEntry_init {B : Bs} {k : Nat} {f : Addr} {fd : FuncData} (c : Fc B.K B.mg) (F : FunD B.K "__init__" "NoEntry.__init__" (defArgs s_NoEntry_init) (defBody s_NoEntry_init) (defScope s_NoEntry_init) [] [] f fd) : FnOk B.P B.w B.K B.mg B.base (CX B.P B.w) (k + 1) f fd [("self" : PySem.Str), ("number" : PySem.Str)] (spExI B.K 50) := fnExc c.x_NoEntry F sc_NoEntry_init rfl (xi_NoEntry_init c)
theorem xb_NoEntry_init {K : PySem.W.Frag} {f : Addr} {fd : FuncData} (F : FunD K "__init__" "NoEntry.__init__" (defArgs s_NoEntry_init) (defBody s_NoEntry_init) (defScope s_NoEntry_init) [] [] f fd) : Binds K fd [("self" : PySem.Str), ("number" : PySem.Str)] [] := F.bindsN (ps := [("self" : PySem.Str), ("number" : PySem.Str)]) fun _ _ _ _ _ _ us hl => match us, hl with | [_, _], _ => rfl
def d_NoEntry_init : He.DefD := ⟨("NoEntry", some "__init__"), "__init__", "NoEntry.__init__", defArgs s_NoEntry_init, defBody s_NoEntry_init, defScope s_NoEntry_init, [], []⟩

abbrev s_NoRow_init : Stmt := inClass (top 10) 0
def N_NoRow_init : List Str := [("self" : PySem.Str), ("name" : PySem.Str)]
theorem sc_NoRow_init : FnScope N_NoRow_init [("self" : PySem.Str), ("name" : PySem.Str)] (defScope s_NoRow_init) := ⟨rfl, rfl, rfl, by decide +kernel, rfl, by decide +kernel, by decide +kernel⟩
theorem xi_NoRow_init {B : Bs} {k : Nat} (c : Fc B.K B.mg) : HXI ⟨B.P, B.w, B.K, B.mg, B.base, k, N_NoRow_init, defScope s_NoRow_init, true, fun _ => true⟩ (defBody s_NoRow_init) (flds 51) := hxi (hx0 c.b_TryError rfl c.n_TryError) (hxs hx1 hxs0)
theorem xk_NoRow_init {B : Bs} {k : Nat} {f : Addr} {fd : FuncData} (c : Fc B.K B.mg) (F : FunD B.K "__init__" "NoRow.__init__" (defArgs s_NoRow_init) (defBody s_NoRow_init) (defScope s_NoRow_init) [] [] f fd) : FnOk B.P B.w B.K B.mg B.base (CX B.P B.w) (k + 1) f fd [("self" : PySem.Str), ("name" : PySem.Str)] (spExI B.K 51) := fnExc c.x_NoRow F sc_NoRow_init rfl (xi_NoRow_init c)
theorem xb_NoRow_init {K : PySem.W.Frag} {f : Addr} {fd : FuncData} (F : FunD K "__init__" "NoRow.__init__" (defArgs s_NoRow_init) (defBody s_NoRow_init) (defScope s_NoRow_init) [] [] f fd) : Binds K fd [("self" : PySem.Str), ("name" : PySem.Str)] [] := F.bindsN (ps := [("self" : PySem.Str), ("name" : PySem.Str)]) fun _ _ _ _ _ _ us hl => match us, hl with | [_, _], _ => rfl
def d_NoRow_init : He.DefD := ⟨("NoRow", some "__init__"), "__init__", "NoRow.__init__", defArgs s_NoRow_init, defBody s_NoRow_init, defScope s_NoRow_init, [], []⟩

abbrev s_NoSpot_init : Stmt := inClass (top 7) 0
def N_NoSpot_init : List Str := [("self" : PySem.Str), ("spot" : PySem.Str)]
theorem sc_NoSpot_init : FnScope N_NoSpot_init [("self" : PySem.Str), ("spot" : PySem.Str)] (defScope s_NoSpot_init) := ⟨rfl, rfl, rfl, by decide +kernel, rfl, by decide +kernel, by decide +kernel⟩
theorem xi_NoSpot_init {B : Bs} {k : Nat} (c : Fc B.K B.mg) : HXI ⟨B.P, B.w, B.K, B.mg, B.base, k, N_NoSpot_init, defScope s_NoSpot_init, true, fun _ => true⟩ (defBody s_NoSpot_init) (flds 48) := hxi (hx0 c.b_TryError rfl c.n_TryError) (hxs hx1 hxs0)
theorem xk_NoSpot_init {B : Bs} {k : Nat} {f : Addr} {fd : FuncData} (c : Fc B.K B.mg) (F : FunD B.K "__init__" "NoSpot.__init__" (defArgs s_NoSpot_init) (defBody s_NoSpot_init) (defScope s_NoSpot_init) [] [] f fd) : FnOk B.P B.w B.K B.mg B.base (CX B.P B.w) (k + 1) f fd [("self" : PySem.Str), ("spot" : PySem.Str)] (spExI B.K 48) := fnExc c.x_NoSpot F sc_NoSpot_init rfl (xi_NoSpot_init c)
theorem xb_NoSpot_init {K : PySem.W.Frag} {f : Addr} {fd : FuncData} (F : FunD K "__init__" "NoSpot.__init__" (defArgs s_NoSpot_init) (defBody s_NoSpot_init) (defScope s_NoSpot_init) [] [] f fd) : Binds K fd [("self" : PySem.Str), ("spot" : PySem.Str)] [] := F.bindsN (ps := [("self" : PySem.Str), ("spot" : PySem.Str)]) fun _ _ _ _ _ _ us hl => match us, hl with | [_, _], _ => rfl
def d_NoSpot_init : He.DefD := ⟨("NoSpot", some "__init__"), "__init__", "NoSpot.__init__", defArgs s_NoSpot_init, defBody s_NoSpot_init, defScope s_NoSpot_init, [], []⟩

abbrev s_NoSuch_init : Stmt := inClass (top 15) 0
def N_NoSuch_init : List Str := [("self" : PySem.Str), ("name" : PySem.Str)]
theorem sc_NoSuch_init : FnScope N_NoSuch_init [("self" : PySem.Str), ("name" : PySem.Str)] (defScope s_NoSuch_init) := ⟨rfl, rfl, rfl, by decide +kernel, rfl, by decide +kernel, by decide +kernel⟩
theorem xi_NoSuch_init {B : Bs} {k : Nat} (c : Fc B.K B.mg) : HXI ⟨B.P, B.w, B.K, B.mg, B.base, k, N_NoSuch_init, defScope s_NoSuch_init, true, fun _ => true⟩ (defBody s_NoSuch_init) (flds 37) := hxi (hx0 c.b_TryError rfl c.n_TryError) (hxs hx1 hxs0)
theorem xk_NoSuch_init {B : Bs} {k : Nat} {f : Addr} {fd : FuncData} (c : Fc B.K B.mg) (F : FunD B.K "__init__" "NoSuch.__init__" (defArgs s_NoSuch_init) (defBody s_NoSuch_init) (defScope s_NoSuch_init) [] [] f fd) : FnOk B.P B.w B.K B.mg B.base (CX B.P B.w) (k + 1) f fd [("self" : PySem.Str), ("name" : PySem.Str)] (spExI B.K 37) := fnExc c.x_NoSuch F sc_NoSuch_init rfl (xi_NoSuch_init c)
theorem xb_NoSuch_init {K : PySem.W.Frag} {f : Addr} {fd : FuncData} (F : FunD K "__init__" "NoSuch.__init__" (defArgs s_NoSuch_init) (defBody s_NoSuch_init) (defScope s_NoSuch_init) [] [] f fd) : Binds K fd [("self" : PySem.Str), ("name" : PySem.Str)] [] := F.bindsN (ps := [("self" : PySem.Str), ("name" : PySem.Str)]) fun _ _ _ _ _ _ us hl => match us, hl with | [_, _], _ => rfl
def d_NoSuch_init : He.DefD := ⟨("NoSuch", some "__init__"), "__init__", "NoSuch.__init__", defArgs s_NoSuch_init, defBody s_NoSuch_init, defScope s_NoSuch_init, [], []⟩

abbrev s_NoWay_init : Stmt := inClass (top 3) 0
def N_NoWay_init : List Str := [("self" : PySem.Str), ("way" : PySem.Str), ("how" : PySem.Str)]
theorem sc_NoWay_init : FnScope N_NoWay_init [("self" : PySem.Str), ("way" : PySem.Str), ("how" : PySem.Str)] (defScope s_NoWay_init) := ⟨rfl, rfl, rfl, by decide +kernel, rfl, by decide +kernel, by decide +kernel⟩
theorem xi_NoWay_init {B : Bs} {k : Nat} (c : Fc B.K B.mg) : HXI ⟨B.P, B.w, B.K, B.mg, B.base, k, N_NoWay_init, defScope s_NoWay_init, true, fun _ => true⟩ (defBody s_NoWay_init) (flds 44) := hxi (hx0 c.b_TryError rfl c.n_TryError) (hxs hx1 (hxs hx1 hxs0))
theorem xk_NoWay_init {B : Bs} {k : Nat} {f : Addr} {fd : FuncData} (c : Fc B.K B.mg) (F : FunD B.K "__init__" "NoWay.__init__" (defArgs s_NoWay_init) (defBody s_NoWay_init) (defScope s_NoWay_init) [] [] f fd) : FnOk B.P B.w B.K B.mg B.base (CX B.P B.w) (k + 1) f fd [("self" : PySem.Str), ("way" : PySem.Str), ("how" : PySem.Str)] (spExI B.K 44) := fnExc c.x_NoWay F sc_NoWay_init rfl (xi_NoWay_init c)
theorem xb_NoWay_init {K : PySem.W.Frag} {f : Addr} {fd : FuncData} (F : FunD K "__init__" "NoWay.__init__" (defArgs s_NoWay_init) (defBody s_NoWay_init) (defScope s_NoWay_init) [] [] f fd) : Binds K fd [("self" : PySem.Str), ("way" : PySem.Str), ("how" : PySem.Str)] [] := F.bindsN (ps := [("self" : PySem.Str), ("way" : PySem.Str), ("how" : PySem.Str)]) fun _ _ _ _ _ _ us hl => match us, hl with | [_, _, _], _ => rfl
def d_NoWay_init : He.DefD := ⟨("NoWay", some "__init__"), "__init__", "NoWay.__init__", defArgs s_NoWay_init, defBody s_NoWay_init, defScope s_NoWay_init, [], []⟩

abbrev s_NothingToUndo_init : Stmt := inClass (top 17) 0
def N_NothingToUndo_init : List Str := [("self" : PySem.Str)]
theorem sc_NothingToUndo_init : FnScope N_NothingToUndo_init [("self" : PySem.Str)] (defScope s_NothingToUndo_init) := ⟨rfl, rfl, rfl, by decide +kernel, rfl, by decide +kernel, by decide +kernel⟩
theorem xi_NothingToUndo_init {B : Bs} {k : Nat} (c : Fc B.K B.mg) : HXI ⟨B.P, B.w, B.K, B.mg, B.base, k, N_NothingToUndo_init, defScope s_NothingToUndo_init, true, fun _ => true⟩ (defBody s_NothingToUndo_init) (flds 42) := hxi (hx0 c.b_TryError rfl c.n_TryError) hxs0
theorem xk_NothingToUndo_init {B : Bs} {k : Nat} {f : Addr} {fd : FuncData} (c : Fc B.K B.mg) (F : FunD B.K "__init__" "NothingToUndo.__init__" (defArgs s_NothingToUndo_init) (defBody s_NothingToUndo_init) (defScope s_NothingToUndo_init) [] [] f fd) : FnOk B.P B.w B.K B.mg B.base (CX B.P B.w) (k + 1) f fd [("self" : PySem.Str)] (spExI B.K 42) := fnExc c.x_NothingToUndo F sc_NothingToUndo_init rfl (xi_NothingToUndo_init c)
theorem xb_NothingToUndo_init {K : PySem.W.Frag} {f : Addr} {fd : FuncData} (F : FunD K "__init__" "NothingToUndo.__init__" (defArgs s_NothingToUndo_init) (defBody s_NothingToUndo_init) (defScope s_NothingToUndo_init) [] [] f fd) : Binds K fd [("self" : PySem.Str)] [] := F.bindsN (ps := [("self" : PySem.Str)]) fun _ _ _ _ _ _ us hl => match us, hl with | [_], _ => rfl
def d_NothingToUndo_init : He.DefD := ⟨("NothingToUndo", some "__init__"), "__init__", "NothingToUndo.__init__", defArgs s_NothingToUndo_init, defBody s_NothingToUndo_init, defScope s_NothingToUndo_init, [], []⟩

abbrev s_OtherShape_init : Stmt := inClass (top 6) 0
def N_OtherShape_init : List Str := [("self" : PySem.Str)]
theorem sc_OtherShape_init : FnScope N_OtherShape_init [("self" : PySem.Str)] (defScope s_OtherShape_init) := ⟨rfl, rfl, rfl, by decide +kernel, rfl, by decide +kernel, by decide +kernel⟩
theorem xi_OtherShape_init {B : Bs} {k : Nat} (c : Fc B.K B.mg) : HXI ⟨B.P, B.w, B.K, B.mg, B.base, k, N_OtherShape_init, defScope s_OtherShape_init, true, fun _ => true⟩ (defBody s_OtherShape_init) (flds 47) := hxi (hx0 c.b_TryError rfl c.n_TryError) hxs0
theorem xk_OtherShape_init {B : Bs} {k : Nat} {f : Addr} {fd : FuncData} (c : Fc B.K B.mg) (F : FunD B.K "__init__" "OtherShape.__init__" (defArgs s_OtherShape_init) (defBody s_OtherShape_init) (defScope s_OtherShape_init) [] [] f fd) : FnOk B.P B.w B.K B.mg B.base (CX B.P B.w) (k + 1) f fd [("self" : PySem.Str)] (spExI B.K 47) := fnExc c.x_OtherShape F sc_OtherShape_init rfl (xi_OtherShape_init c)
theorem xb_OtherShape_init {K : PySem.W.Frag} {f : Addr} {fd : FuncData} (F : FunD K "__init__" "OtherShape.__init__" (defArgs s_OtherShape_init) (defBody s_OtherShape_init) (defScope s_OtherShape_init) [] [] f fd) : Binds K fd [("self" : PySem.Str)] [] := F.bindsN (ps := [("self" : PySem.Str)]) fun _ _ _ _ _ _ us hl => match us, hl with | [_], _ => rfl
def d_OtherShape_init : He.DefD := ⟨("OtherShape", some "__init__"), "__init__", "OtherShape.__init__", defArgs s_OtherShape_init, defBody s_OtherShape_init, defScope s_OtherShape_init, [], []⟩

abbrev s_TooGreat_init : Stmt := inClass (top 14) 0
def N_TooGreat_init : List Str := [("self" : PySem.Str)]
theorem sc_TooGreat_init : FnScope N_TooGreat_init [("self" : PySem.Str)] (defScope s_TooGreat_init) := ⟨rfl, rfl, rfl, by decide +kernel, rfl, by decide +kernel, by decide +kernel⟩
theorem xi_TooGreat_init {B : Bs} {k : Nat} (c : Fc B.K B.mg) : HXI ⟨B.P, B.w, B.K, B.mg, B.base, k, N_TooGreat_init, defScope s_TooGreat_init, true, fun _ => true⟩ (defBody s_TooGreat_init) (flds 36) := hxi (hx0 c.b_TryError rfl c.n_TryError) hxs0
theorem xk_TooGreat_init {B : Bs} {k : Nat} {f : Addr} {fd : FuncData} (c : Fc B.K B.mg) (F : FunD B.K "__init__" "TooGreat.__init__" (defArgs s_TooGreat_init) (defBody s_TooGreat_init) (defScope s_TooGreat_init) [] [] f fd) : FnOk B.P B.w B.K B.mg B.base (CX B.P B.w) (k + 1) f fd [("self" : PySem.Str)] (spExI B.K 36) := fnExc c.x_TooGreat F sc_TooGreat_init rfl (xi_TooGreat_init c)
theorem xb_TooGreat_init {K : PySem.W.Frag} {f : Addr} {fd : FuncData} (F : FunD K "__init__" "TooGreat.__init__" (defArgs s_TooGreat_init) (defBody s_TooGreat_init) (defScope s_TooGreat_init) [] [] f fd) : Binds K fd [("self" : PySem.Str)] [] := F.bindsN (ps := [("self" : PySem.Str)]) fun _ _ _ _ _ _ us hl => match us, hl with | [_], _ => rfl
def d_TooGreat_init : He.DefD := ⟨("TooGreat", some "__init__"), "__init__", "TooGreat.__init__", defArgs s_TooGreat_init, defBody s_TooGreat_init, defScope s_TooGreat_init, [], []⟩

abbrev s_TooMany_init : Stmt := inClass (top 8) 0
def N_TooMany_init : List Str := [("self" : PySem.Str), ("count" : PySem.Str)]
theorem sc_TooMany_init : FnScope N_TooMany_init [("self" : PySem.Str), ("count" : PySem.Str)] (defScope s_TooMany_init) := ⟨rfl, rfl, rfl, by decide +kernel, rfl, by decide +kernel, by decide +kernel⟩
theorem xi_TooMany_init {B : Bs} {k : Nat} (c : Fc B.K B.mg) : HXI ⟨B.P, B.w, B.K, B.mg, B.base, k, N_TooMany_init, defScope s_TooMany_init, true, fun _ => true⟩ (defBody s_TooMany_init) (flds 49) := hxi (hx0 c.b_TryError rfl c.n_TryError) (hxs hx1 hxs0)
theorem xk_TooMany_init {B : Bs} {k : Nat} {f : Addr} {fd : FuncData} (c : Fc B.K B.mg) (F : FunD B.K "__init__" "TooMany.__init__" (defArgs s_TooMany_init) (defBody s_TooMany_init) (defScope s_TooMany_init) [] [] f fd) : FnOk B.P B.w B.K B.mg B.base (CX B.P B.w) (k + 1) f fd [("self" : PySem.Str), ("count" : PySem.Str)] (spExI B.K 49) := fnExc c.x_TooMany F sc_TooMany_init rfl (xi_TooMany_init c)
theorem xb_TooMany_init {K : PySem.W.Frag} {f : Addr} {fd : FuncData} (F : FunD K "__init__" "TooMany.__init__" (defArgs s_TooMany_init) (defBody s_TooMany_init) (defScope s_TooMany_init) [] [] f fd) : Binds K fd [("self" : PySem.Str), ("count" : PySem.Str)] [] := F.bindsN (ps := [("self" : PySem.Str), ("count" : PySem.Str)]) fun _ _ _ _ _ _ us hl => match us, hl with | [_, _], _ => rfl
def d_TooMany_init : He.DefD := ⟨("TooMany", some "__init__"), "__init__", "TooMany.__init__", defArgs s_TooMany_init, defBody s_TooMany_init, defScope s_TooMany_init, [], []⟩

abbrev s_Unclean_init : Stmt := inClass (top 5) 0
def N_Unclean_init : List Str := [("self" : PySem.Str), ("function" : PySem.Str), ("thing" : PySem.Str)]
theorem sc_Unclean_init : FnScope N_Unclean_init [("self" : PySem.Str), ("function" : PySem.Str), ("thing" : PySem.Str)] (defScope s_Unclean_init) := ⟨rfl, rfl, rfl, by decide +kernel, rfl, by decide +kernel, by decide +kernel⟩
theorem xi_Unclean_init {B : Bs} {k : Nat} (c : Fc B.K B.mg) : HXI ⟨B.P, B.w, B.K, B.mg, B.base, k, N_Unclean_init, defScope s_Unclean_init, true, fun _ => true⟩ (defBody s_Unclean_init) (flds 46) := hxi (hx0 c.b_TryError rfl c.n_TryError) (hxs hx1 (hxs hx1 hxs0))
theorem xk_Unclean_init {B : Bs} {k : Nat} {f : Addr} {fd : FuncData} (c : Fc B.K B.mg) (F : FunD B.K "__init__" "Unclean.__init__" (defArgs s_Unclean_init) (defBody s_Unclean_init) (defScope s_Unclean_init) [] [] f fd) : FnOk B.P B.w B.K B.mg B.base (CX B.P B.w) (k + 1) f fd [("self" : PySem.Str), ("function" : PySem.Str), ("thing" : PySem.Str)] (spExI B.K 46) := fnExc c.x_Unclean F sc_Unclean_init rfl (xi_Unclean_init c)
theorem xb_Unclean_init {K : PySem.W.Frag} {f : Addr} {fd : FuncData} (F : FunD K "__init__" "Unclean.__init__" (defArgs s_Unclean_init) (defBody s_Unclean_init) (defScope s_Unclean_init) [] [] f fd) : Binds K fd [("self" : PySem.Str), ("function" : PySem.Str), ("thing" : PySem.Str)] [] := F.bindsN (ps := [("self" : PySem.Str), ("function" : PySem.Str), ("thing" : PySem.Str)]) fun _ _ _ _ _ _ us hl => match us, hl with | [_, _, _], _ => rfl
def d_Unclean_init : He.DefD := ⟨("Unclean", some "__init__"), "__init__", "Unclean.__init__", defArgs s_Unclean_init, defBody s_Unclean_init, defScope s_Unclean_init, [], []⟩

abbrev CS : List Nat := [35, 36, 37, 38, 39, 40, 42, 43, 44, 45, 46, 47, 48, 49, 50, 51]
abbrev s_law_state : Stmt := top 19
def N_law_state : List Str := [("_law_cell_here" : PySem.Str)]
theorem sc_law_state : FnScope N_law_state [("_law_cell_here" : PySem.Str)] (defScope s_law_state) := ⟨rfl, rfl, rfl, by decide +kernel, rfl, by decide +kernel, by decide +kernel⟩
def rd_law_state : HTS := (hRet (hLstM (hCons (hcb gInt1 (hCons (hV 0) hNil)) (hCons (hcb gInt1 (hCons (hop gGe (hV 0) (hop gPow (hC (.int 10)) (hC (.int 18)))) hNil)) (hCons (hC (.int 0)) hNil)))))
set_option maxHeartbeats 4000000 in
theorem ok_law_state {B : Bs} {k : Nat} (c : Fc B.K B.mg)  : HSs ⟨B.P, B.w, B.K, B.mg, B.base, k + 1, N_law_state, defScope s_law_state, true, fun _ => true⟩ (defBody s_law_state) (rd_law_state) :=
  (hss1 (hret (hlstM (hcons (hint1 rfl c.f_int (hcons (hv 0) hnil)) (hcons (hint1 rfl c.f_int (hcons (hge (hv 0) (hpow hint hint)) hnil)) (hcons hint hnil))))))
theorem at_law_state {B : Bs} {k : Nat} {f : Addr} {fd : FuncData} {sp : HSp} (c : Fc B.K B.mg) (F : FunD B.K "_law_state" "_law_state" (defArgs s_law_state) (defBody s_law_state) (defScope s_law_state) [] [] f fd) 
    (hr : ∀ ds S Q E, ds.length = 1 → sp ds S Q E → rd_law_state { nx := fun _ S' => Rt Q .non S', rt := Rt Q, ex := fun x _ S' => Rx E x S' } (startE N_law_state.length ds) S) : FnAt B (k + 2) f 1 [] sp :=
  fnAtD F (bindAll (F.bindsN fun _ _ _ _ _ _ us hl => match us, hl with | [_], _ => rfl)) noDds sc_law_state (ok_law_state c ) hr
theorem no_law_state {B : Bs} {k : Nat} {f : Addr} {fd : FuncData} {sp : HSp} (F : FunD B.K "_law_state" "_law_state" (defArgs s_law_state) (defBody s_law_state) (defScope s_law_state) [] [] f fd) (h0 : ∀ ds S Q E, sp ds S Q E → False) : FnAt B k f 1 [] sp :=
  fnNone rfl (F.bindsN (ps := [("_law_cell_here" : PySem.Str)]) fun _ _ _ _ _ _ us hl => match us, hl with | [_], _ => rfl) h0
def d_law_state : He.DefD := ⟨("_law_state", none), "_law_state", "_law_state", defArgs s_law_state, defBody s_law_state, defScope s_law_state, [], []⟩

abbrev s_law_draw : Stmt := top 20
def N_law_draw : List Str := [("_law_state_here" : PySem.Str), ("_law_many" : PySem.Str), ("_law_drawn" : PySem.Str), ("_law_mixed" : PySem.Str)]
theorem sc_law_draw : FnScope N_law_draw [("_law_state_here" : PySem.Str), ("_law_many" : PySem.Str)] (defScope s_law_draw) := ⟨rfl, rfl, rfl, by decide +kernel, rfl, by decide +kernel, by decide +kernel⟩
def rd_law_draw : HTS := (hSeq (hSetI (hV 0) (hC (.int 2)) (hop gAdd (hop gIx (hV 0) (hC (.int 2))) (hC (.int 1))))
  (hSeq (hIfS (hB (hop gEq (hop gIx (hV 0) (hC (.int 1))) (hC (.int 1)))) (hSeq (hSet 2 (hop gMod (hcb gInt1 (hCons (hop gIx (hV 0) (hC (.int 0))) hNil)) (hV 1)))
  (hSeq (hSetI (hV 0) (hC (.int 0)) (hop gDiv (hop gIx (hV 0) (hC (.int 0))) (hV 1)))
  (hRet (hV 2)))) hNx)
  (hSeq (hSet 3 (hop gPow (hcb gInt1 (hCons (hop gAdd (hop gAdd (hop gMod (hcb gInt1 (hCons (hop gIx (hV 0) (hC (.int 0))) hNil)) (hC (.int 2147483647))) (hop gMulI (hop gIx (hV 0) (hC (.int 2))) (hC (.int 69623)))) (hC (.int 48271))) hNil)) (hC (.int 5))))
  (hRet (hop gMod (hcb gInt1 (hCons (hop gDiv (hop gMod (hcb gInt1 (hCons (hV 3) hNil)) (hC (.int 2305843009213693951))) (hC (.int 4096))) hNil)) (hV 1))))))
set_option maxHeartbeats 4000000 in
theorem ok_law_draw {B : Bs} {k : Nat} (c : Fc B.K B.mg)  : HSs ⟨B.P, B.w, B.K, B.mg, B.base, k + 1, N_law_draw, defScope s_law_draw, true, fun _ => true⟩ (defBody s_law_draw) (rd_law_draw) :=
  (hss (hseti (hv 0) hint (hadd (hix (hv 0) hint) hint))
  (hss (hif (heqT (hix (hv 0) hint) hint) (hss (hsetX (hmod (hint1 rfl c.f_int (hcons (hix (hv 0) hint) hnil)) (hv 1)))
  (hss (hseti (hv 0) hint (hdiv (hix (hv 0) hint) (hv 1)))
  (hss1 (hret (hv 2))))) hss0)
  (hss (hsetX (hpow (hint1 rfl c.f_int (hcons (hadd (hadd (hmod (hint1 rfl c.f_int (hcons (hix (hv 0) hint) hnil)) hint) (hmulI (hix (hv 0) hint) hint)) hint) hnil)) hint))
  (hss1 (hret (hmod (hint1 rfl c.f_int (hcons (hdiv (hmod (hint1 rfl c.f_int (hcons (hv 3) hnil)) hint) hint) hnil)) (hv 1)))))))
theorem at_law_draw {B : Bs} {k : Nat} {f : Addr} {fd : FuncData} {sp : HSp} (c : Fc B.K B.mg) (F : FunD B.K "_law_draw" "_law_draw" (defArgs s_law_draw) (defBody s_law_draw) (defScope s_law_draw) [] [] f fd) 
    (hr : ∀ ds S Q E, ds.length = 2 → sp ds S Q E → rd_law_draw { nx := fun _ S' => Rt Q .non S', rt := Rt Q, ex := fun x _ S' => Rx E x S' } (startE N_law_draw.length ds) S) : FnAt B (k + 2) f 2 [] sp :=
  fnAtD F (bindAll (F.bindsN fun _ _ _ _ _ _ us hl => match us, hl with | [_, _], _ => rfl)) noDds sc_law_draw (ok_law_draw c ) hr
theorem no_law_draw {B : Bs} {k : Nat} {f : Addr} {fd : FuncData} {sp : HSp} (F : FunD B.K "_law_draw" "_law_draw" (defArgs s_law_draw) (defBody s_law_draw) (defScope s_law_draw) [] [] f fd) (h0 : ∀ ds S Q E, sp ds S Q E → False) : FnAt B k f 2 [] sp :=
  fnNone rfl (F.bindsN (ps := [("_law_state_here" : PySem.Str), ("_law_many" : PySem.Str)]) fun _ _ _ _ _ _ us hl => match us, hl with | [_, _], _ => rfl) h0
def d_law_draw : He.DefD := ⟨("_law_draw", none), "_law_draw", "_law_draw", defArgs s_law_draw, defBody s_law_draw, defScope s_law_draw, [], []⟩

abbrev s_law_cell : Stmt := top 22
def N_law_cell : List Str := [("_law_script" : PySem.Str), ("_law_at" : PySem.Str)]
theorem sc_law_cell : FnScope N_law_cell [("_law_script" : PySem.Str), ("_law_at" : PySem.Str)] (defScope s_law_cell) := ⟨rfl, rfl, rfl, by decide +kernel, rfl, by decide +kernel, by decide +kernel⟩
def rd_law_cell : HTS := (hSeq (hIfS (hB (hop gLt (hV 1) (hcb gLen (hCons (hV 0) hNil)))) (hRet (hop gIx (hV 0) (hV 1))) hNx)
  (hRet (hop gAdd (hC (.int 7)) (hV 1))))
set_option maxHeartbeats 4000000 in
theorem ok_law_cell {B : Bs} {k : Nat} (c : Fc B.K B.mg)  : HSs ⟨B.P, B.w, B.K, B.mg, B.base, k + 1, N_law_cell, defScope s_law_cell, true, fun _ => true⟩ (defBody s_law_cell) (rd_law_cell) :=
  (hss (hif (hltT (hv 1) (hlen rfl c.f_len (hcons (hv 0) hnil))) (hss1 (hret (hix (hv 0) (hv 1)))) hss0)
  (hss1 (hret (hadd hint (hv 1)))))
theorem at_law_cell {B : Bs} {k : Nat} {f : Addr} {fd : FuncData} {sp : HSp} (c : Fc B.K B.mg) (F : FunD B.K "_law_cell" "_law_cell" (defArgs s_law_cell) (defBody s_law_cell) (defScope s_law_cell) [] [] f fd) 
    (hr : ∀ ds S Q E, ds.length = 2 → sp ds S Q E → rd_law_cell { nx := fun _ S' => Rt Q .non S', rt := Rt Q, ex := fun x _ S' => Rx E x S' } (startE N_law_cell.length ds) S) : FnAt B (k + 2) f 2 [] sp :=
  fnAtD F (bindAll (F.bindsN fun _ _ _ _ _ _ us hl => match us, hl with | [_, _], _ => rfl)) noDds sc_law_cell (ok_law_cell c ) hr
theorem no_law_cell {B : Bs} {k : Nat} {f : Addr} {fd : FuncData} {sp : HSp} (F : FunD B.K "_law_cell" "_law_cell" (defArgs s_law_cell) (defBody s_law_cell) (defScope s_law_cell) [] [] f fd) (h0 : ∀ ds S Q E, sp ds S Q E → False) : FnAt B k f 2 [] sp :=
  fnNone rfl (F.bindsN (ps := [("_law_script" : PySem.Str), ("_law_at" : PySem.Str)]) fun _ _ _ _ _ _ us hl => match us, hl with | [_, _], _ => rfl) h0
def d_law_cell : He.DefD := ⟨("_law_cell", none), "_law_cell", "_law_cell", defArgs s_law_cell, defBody s_law_cell, defScope s_law_cell, [], []⟩

abbrev s_law_single : Stmt := top 23
def N_law_single : List Str := [("_law_thing" : PySem.Str), ("_law_cell_here" : PySem.Str), ("_law_spot" : PySem.Str), ("_law_many" : PySem.Str), ("_law_entry" : PySem.Str), ("_law_row" : PySem.Str), ("_law_text" : PySem.Str), ("_law_such" : PySem.Str), ("_law_told" : PySem.Str), ("_law_k" : PySem.Str)]
theorem sc_law_single : FnScope N_law_single [("_law_thing" : PySem.Str)] (defScope s_law_single) := ⟨rfl, rfl, rfl, by decide +kernel, rfl, by decide +kernel, by decide +kernel⟩
def rd_law_single : HTS := (hSeq (hSet 1 (hMkX 45 (hCons (hV 0) hNil)))
  (hSeq (hSet 2 (hMkX 48 (hCons (hV 0) hNil)))
  (hSeq (hSet 3 (hMkX 49 (hCons (hV 0) hNil)))
  (hSeq (hSet 4 (hMkX 50 (hCons (hV 0) hNil)))
  (hSeq (hSet 5 (hMkX 51 (hCons (hV 0) hNil)))
  (hSeq (hSet 6 (hMkX 38 (hCons (hV 0) hNil)))
  (hSeq (hSet 7 (hMkX 37 (hCons (hV 0) hNil)))
  (hSeq (hSet 8 (hLst (hCons (hun (gXf 45 0) (hV 1)) (hCons (hun (gXf 48 0) (hV 2)) (hCons (hun (gXf 49 0) (hV 3)) (hCons (hun (gXf 50 0) (hV 4)) (hCons (hun (gXf 51 0) (hV 5)) (hCons (hun (gXf 38 0) (hV 6)) (hCons (hun (gXf 37 0) (hV 7)) hNil)))))))))
  (hRet (hTup (hCons (hLst (hCons (hV 1) (hCons (hV 2) (hCons (hV 3) (hCons (hV 4) (hCons (hV 5) (hCons (hV 6) (hCons (hV 7) hNil)))))))) (hCons (hop gEq (hV 8) (hLc (hiR1 (hCons (hC (.int 7)) hNil)) (.nm 9) hYes (hV 0) [9])) hNil))))))))))))
set_option maxHeartbeats 4000000 in
theorem ok_law_single {B : Bs} {k : Nat} (c : Fc B.K B.mg) (hx_NoCell : HExc B k 45) (hx_NoSpot : HExc B k 48) (hx_TooMany : HExc B k 49) (hx_NoEntry : HExc B k 50) (hx_NoRow : HExc B k 51) (hx_BadText : HExc B k 38) (hx_NoSuch : HExc B k 37) : HSs ⟨B.P, B.w, B.K, B.mg, B.base, k + 1, N_law_single, defScope s_law_single, true, fun _ => true⟩ (defBody s_law_single) (rd_law_single) :=
  (hss (hsetX (hmkx (hx_NoCell.in_) (Nat.le_refl _) rfl (hcons (hv 0) hnil)))
  (hss (hsetX (hmkx (hx_NoSpot.in_) (Nat.le_refl _) rfl (hcons (hv 0) hnil)))
  (hss (hsetX (hmkx (hx_TooMany.in_) (Nat.le_refl _) rfl (hcons (hv 0) hnil)))
  (hss (hsetX (hmkx (hx_NoEntry.in_) (Nat.le_refl _) rfl (hcons (hv 0) hnil)))
  (hss (hsetX (hmkx (hx_NoRow.in_) (Nat.le_refl _) rfl (hcons (hv 0) hnil)))
  (hss (hsetX (hmkx (hx_BadText.in_) (Nat.le_refl _) rfl (hcons (hv 0) hnil)))
  (hss (hsetX (hmkx (hx_NoSuch.in_) (Nat.le_refl _) rfl (hcons (hv 0) hnil)))
  (hss (hsetX (hlst (hcons (hxfV 0 c.x_NoCell (hv 1)) (hcons (hxfV 0 c.x_NoSpot (hv 2)) (hcons (hxfV 0 c.x_TooMany (hv 3)) (hcons (hxfV 0 c.x_NoEntry (hv 4)) (hcons (hxfV 0 c.x_NoRow (hv 5)) (hcons (hxfV 0 c.x_BadText (hv 6)) (hcons (hxfV 0 c.x_NoSuch (hv 7)) hnil)))))))))
  (hss1 (hret (htup (hcons (hlst (hcons (hv 1) (hcons (hv 2) (hcons (hv 3) (hcons (hv 4) (hcons (hv 5) (hcons (hv 6) (hcons (hv 7) hnil)))))))) (hcons (heq (hv 8) (hlcX [("_law_k", 9)] (hir1 rfl c.f_range (hcons hint hnil)) (by dsimp only [Bs.blk]; decide +kernel) (by decide) (hnm 9) hif0 (hv 0))) hnil)))))))))))))
theorem at_law_single {B : Bs} {k : Nat} {f : Addr} {fd : FuncData} {sp : HSp} (c : Fc B.K B.mg) (F : FunD B.K "_law_single" "_law_single" (defArgs s_law_single) (defBody s_law_single) (defScope s_law_single) [] [] f fd) (hx_NoCell : HExc B k 45) (hx_NoSpot : HExc B k 48) (hx_TooMany : HExc B k 49) (hx_NoEntry : HExc B k 50) (hx_NoRow : HExc B k 51) (hx_BadText : HExc B k 38) (hx_NoSuch : HExc B k 37)
    (hr : ∀ ds S Q E, ds.length = 1 → sp ds S Q E → rd_law_single { nx := fun _ S' => Rt Q .non S', rt := Rt Q, ex := fun x _ S' => Rx E x S' } (startE N_law_single.length ds) S) : FnAt B (k + 2) f 1 [] sp :=
  fnAtD F (bindAll (F.bindsN fun _ _ _ _ _ _ us hl => match us, hl with | [_], _ => rfl)) noDds sc_law_single (ok_law_single c hx_NoCell hx_NoSpot hx_TooMany hx_NoEntry hx_NoRow hx_BadText hx_NoSuch) hr
theorem no_law_single {B : Bs} {k : Nat} {f : Addr} {fd : FuncData} {sp : HSp} (F : FunD B.K "_law_single" "_law_single" (defArgs s_law_single) (defBody s_law_single) (defScope s_law_single) [] [] f fd) (h0 : ∀ ds S Q E, sp ds S Q E → False) : FnAt B k f 1 [] sp :=
  fnNone rfl (F.bindsN (ps := [("_law_thing" : PySem.Str)]) fun _ _ _ _ _ _ us hl => match us, hl with | [_], _ => rfl) h0
def d_law_single : He.DefD := ⟨("_law_single", none), "_law_single", "_law_single", defArgs s_law_single, defBody s_law_single, defScope s_law_single, [], []⟩

abbrev s_law_double : Stmt := top 24
def N_law_double : List Str := [("_law_thing" : PySem.Str), ("_law_other" : PySem.Str), ("_law_context" : PySem.Str), ("_law_way" : PySem.Str), ("_law_dirty" : PySem.Str), ("_law_bad" : PySem.Str), ("_law_told" : PySem.Str)]
theorem sc_law_double : FnScope N_law_double [("_law_thing" : PySem.Str), ("_law_other" : PySem.Str)] (defScope s_law_double) := ⟨rfl, rfl, rfl, by decide +kernel, rfl, by decide +kernel, by decide +kernel⟩
def rd_law_double : HTS := (hSeq (hSet 2 (hMkX 43 (hCons (hV 0) (hCons (hV 1) hNil))))
  (hSeq (hSet 3 (hMkX 44 (hCons (hV 1) (hCons (hV 0) hNil))))
  (hSeq (hSet 4 (hMkX 46 (hCons (hV 0) (hCons (hV 1) hNil))))
  (hSeq (hSet 5 (hMkX 35 (hCons (hV 1) (hCons (hV 0) hNil))))
  (hSeq (hSet 6 (hLst (hCons (hun (gXf 43 0) (hV 2)) (hCons (hun (gXf 43 1) (hV 2)) (hCons (hun (gXf 44 0) (hV 3)) (hCons (hun (gXf 44 1) (hV 3)) (hCons (hun (gXf 46 0) (hV 4)) (hCons (hun (gXf 46 1) (hV 4)) (hCons (hun (gXf 35 0) (hV 5)) (hCons (hun (gXf 35 1) (hV 5)) hNil))))))))))
  (hRet (hTup (hCons (hLst (hCons (hV 2) (hCons (hV 3) (hCons (hV 4) (hCons (hV 5) hNil))))) (hCons (hop gEq (hV 6) (hLst (hCons (hV 0) (hCons (hV 1) (hCons (hV 1) (hCons (hV 0) (hCons (hV 0) (hCons (hV 1) (hCons (hV 1) (hCons (hV 0) hNil)))))))))) hNil)))))))))
set_option maxHeartbeats 4000000 in
theorem ok_law_double {B : Bs} {k : Nat} (c : Fc B.K B.mg) (hx_NoContext : HExc B k 43) (hx_NoWay : HExc B k 44) (hx_Unclean : HExc B k 46) (hx_BadCode : HExc B k 35) : HSs ⟨B.P, B.w, B.K, B.mg, B.base, k + 1, N_law_double, defScope s_law_double, true, fun _ => true⟩ (defBody s_law_double) (rd_law_double) :=
  (hss (hsetX (hmkx (hx_NoContext.in_) (Nat.le_refl _) rfl (hcons (hv 0) (hcons (hv 1) hnil))))
  (hss (hsetX (hmkx (hx_NoWay.in_) (Nat.le_refl _) rfl (hcons (hv 1) (hcons (hv 0) hnil))))
  (hss (hsetX (hmkx (hx_Unclean.in_) (Nat.le_refl _) rfl (hcons (hv 0) (hcons (hv 1) hnil))))
  (hss (hsetX (hmkx (hx_BadCode.in_) (Nat.le_refl _) rfl (hcons (hv 1) (hcons (hv 0) hnil))))
  (hss (hsetX (hlst (hcons (hxfV 0 c.x_NoContext (hv 2)) (hcons (hxfV 1 c.x_NoContext (hv 2)) (hcons (hxfV 0 c.x_NoWay (hv 3)) (hcons (hxfV 1 c.x_NoWay (hv 3)) (hcons (hxfV 0 c.x_Unclean (hv 4)) (hcons (hxfV 1 c.x_Unclean (hv 4)) (hcons (hxfV 0 c.x_BadCode (hv 5)) (hcons (hxfV 1 c.x_BadCode (hv 5)) hnil))))))))))
  (hss1 (hret (htup (hcons (hlst (hcons (hv 2) (hcons (hv 3) (hcons (hv 4) (hcons (hv 5) hnil))))) (hcons (heq (hv 6) (hlst (hcons (hv 0) (hcons (hv 1) (hcons (hv 1) (hcons (hv 0) (hcons (hv 0) (hcons (hv 1) (hcons (hv 1) (hcons (hv 0) hnil)))))))))) hnil))))))))))
theorem at_law_double {B : Bs} {k : Nat} {f : Addr} {fd : FuncData} {sp : HSp} (c : Fc B.K B.mg) (F : FunD B.K "_law_double" "_law_double" (defArgs s_law_double) (defBody s_law_double) (defScope s_law_double) [] [] f fd) (hx_NoContext : HExc B k 43) (hx_NoWay : HExc B k 44) (hx_Unclean : HExc B k 46) (hx_BadCode : HExc B k 35)
    (hr : ∀ ds S Q E, ds.length = 2 → sp ds S Q E → rd_law_double { nx := fun _ S' => Rt Q .non S', rt := Rt Q, ex := fun x _ S' => Rx E x S' } (startE N_law_double.length ds) S) : FnAt B (k + 2) f 2 [] sp :=
  fnAtD F (bindAll (F.bindsN fun _ _ _ _ _ _ us hl => match us, hl with | [_, _], _ => rfl)) noDds sc_law_double (ok_law_double c hx_NoContext hx_NoWay hx_Unclean hx_BadCode) hr
theorem no_law_double {B : Bs} {k : Nat} {f : Addr} {fd : FuncData} {sp : HSp} (F : FunD B.K "_law_double" "_law_double" (defArgs s_law_double) (defBody s_law_double) (defScope s_law_double) [] [] f fd) (h0 : ∀ ds S Q E, sp ds S Q E → False) : FnAt B k f 2 [] sp :=
  fnNone rfl (F.bindsN (ps := [("_law_thing" : PySem.Str), ("_law_other" : PySem.Str)]) fun _ _ _ _ _ _ us hl => match us, hl with | [_, _], _ => rfl) h0
def d_law_double : He.DefD := ⟨("_law_double", none), "_law_double", "_law_double", defArgs s_law_double, defBody s_law_double, defScope s_law_double, [], []⟩

abbrev s_law_kinds : Stmt := top 25
def N_law_kinds : List Str := [("_law_e" : PySem.Str), ("_law_found" : PySem.Str)]
theorem sc_law_kinds : FnScope N_law_kinds [("_law_e" : PySem.Str)] (defScope s_law_kinds) := ⟨rfl, rfl, rfl, by decide +kernel, rfl, by decide +kernel, by decide +kernel⟩
def rd_law_kinds : HTS := (hSeq (hSet 1 (hLst (hCons (hun (gIsX [45, 48, 49, 50, 51, 38, 37, 43, 44, 46, 35, 47, 39, 36, 40, 42] (fun c => Nat.beq c 45)) (hV 0)) (hCons (hun (gIsX [45, 48, 49, 50, 51, 38, 37, 43, 44, 46, 35, 47, 39, 36, 40, 42] (fun c => Nat.beq c 48)) (hV 0)) (hCons (hun (gIsX [45, 48, 49, 50, 51, 38, 37, 43, 44, 46, 35, 47, 39, 36, 40, 42] (fun c => Nat.beq c 49)) (hV 0)) (hCons (hun (gIsX [45, 48, 49, 50, 51, 38, 37, 43, 44, 46, 35, 47, 39, 36, 40, 42] (fun c => Nat.beq c 50)) (hV 0)) hNil))))))
  (hSeq (hSet 1 (hop gAdd (hV 1) (hLst (hCons (hun (gIsX [45, 48, 49, 50, 51, 38, 37, 43, 44, 46, 35, 47, 39, 36, 40, 42] (fun c => Nat.beq c 51)) (hV 0)) (hCons (hun (gIsX [45, 48, 49, 50, 51, 38, 37, 43, 44, 46, 35, 47, 39, 36, 40, 42] (fun c => Nat.beq c 38)) (hV 0)) (hCons (hun (gIsX [45, 48, 49, 50, 51, 38, 37, 43, 44, 46, 35, 47, 39, 36, 40, 42] (fun c => Nat.beq c 37)) (hV 0)) (hCons (hun (gIsX [45, 48, 49, 50, 51, 38, 37, 43, 44, 46, 35, 47, 39, 36, 40, 42] (fun c => Nat.beq c 43)) (hV 0)) hNil)))))))
  (hSeq (hSet 1 (hop gAdd (hV 1) (hLst (hCons (hun (gIsX [45, 48, 49, 50, 51, 38, 37, 43, 44, 46, 35, 47, 39, 36, 40, 42] (fun c => Nat.beq c 44)) (hV 0)) (hCons (hun (gIsX [45, 48, 49, 50, 51, 38, 37, 43, 44, 46, 35, 47, 39, 36, 40, 42] (fun c => Nat.beq c 46)) (hV 0)) (hCons (hun (gIsX [45, 48, 49, 50, 51, 38, 37, 43, 44, 46, 35, 47, 39, 36, 40, 42] (fun c => Nat.beq c 35)) (hV 0)) (hCons (hun (gIsX [45, 48, 49, 50, 51, 38, 37, 43, 44, 46, 35, 47, 39, 36, 40, 42] (fun c => Nat.beq c 47)) (hV 0)) hNil)))))))
  (hSeq (hSet 1 (hop gAdd (hV 1) (hLst (hCons (hun (gIsX [45, 48, 49, 50, 51, 38, 37, 43, 44, 46, 35, 47, 39, 36, 40, 42] (fun c => Nat.beq c 39)) (hV 0)) (hCons (hun (gIsX [45, 48, 49, 50, 51, 38, 37, 43, 44, 46, 35, 47, 39, 36, 40, 42] (fun c => Nat.beq c 36)) (hV 0)) (hCons (hun (gIsX [45, 48, 49, 50, 51, 38, 37, 43, 44, 46, 35, 47, 39, 36, 40, 42] (fun c => Nat.beq c 40)) (hV 0)) hNil))))))
  (hRet (hop gAdd (hV 1) (hLst (hCons (hun (gIsX [45, 48, 49, 50, 51, 38, 37, 43, 44, 46, 35, 47, 39, 36, 40, 42] (fun c => Nat.beq c 42)) (hV 0)) hNil))))))))
set_option maxHeartbeats 4000000 in
theorem ok_law_kinds {B : Bs} {k : Nat} (c : Fc B.K B.mg)  : HSs ⟨B.P, B.w, B.K, B.mg, B.base, k + 1, N_law_kinds, defScope s_law_kinds, true, fun _ => true⟩ (defBody s_law_kinds) (rd_law_kinds) :=
  (hss (hsetX (hlst (hcons (hisxv c.kx_NoCell rfl c.f_isinstance rfl c.n_NoCell (hv 0)) (hcons (hisxv c.kx_NoSpot rfl c.f_isinstance rfl c.n_NoSpot (hv 0)) (hcons (hisxv c.kx_TooMany rfl c.f_isinstance rfl c.n_TooMany (hv 0)) (hcons (hisxv c.kx_NoEntry rfl c.f_isinstance rfl c.n_NoEntry (hv 0)) hnil))))))
  (hss (hsetX (hadd (hv 1) (hlst (hcons (hisxv c.kx_NoRow rfl c.f_isinstance rfl c.n_NoRow (hv 0)) (hcons (hisxv c.kx_BadText rfl c.f_isinstance rfl c.n_BadText (hv 0)) (hcons (hisxv c.kx_NoSuch rfl c.f_isinstance rfl c.n_NoSuch (hv 0)) (hcons (hisxv c.kx_NoContext rfl c.f_isinstance rfl c.n_NoContext (hv 0)) hnil)))))))
  (hss (hsetX (hadd (hv 1) (hlst (hcons (hisxv c.kx_NoWay rfl c.f_isinstance rfl c.n_NoWay (hv 0)) (hcons (hisxv c.kx_Unclean rfl c.f_isinstance rfl c.n_Unclean (hv 0)) (hcons (hisxv c.kx_BadCode rfl c.f_isinstance rfl c.n_BadCode (hv 0)) (hcons (hisxv c.kx_OtherShape rfl c.f_isinstance rfl c.n_OtherShape (hv 0)) hnil)))))))
  (hss (hsetX (hadd (hv 1) (hlst (hcons (hisxv c.kx_BadPuzzle rfl c.f_isinstance rfl c.n_BadPuzzle (hv 0)) (hcons (hisxv c.kx_TooGreat rfl c.f_isinstance rfl c.n_TooGreat (hv 0)) (hcons (hisxv c.kx_Ended rfl c.f_isinstance rfl c.n_Ended (hv 0)) hnil))))))
  (hss1 (hret (hadd (hv 1) (hlst (hcons (hisxv c.kx_NothingToUndo rfl c.f_isinstance rfl c.n_NothingToUndo (hv 0)) hnil)))))))))
theorem at_law_kinds {B : Bs} {k : Nat} {f : Addr} {fd : FuncData} {sp : HSp} (c : Fc B.K B.mg) (F : FunD B.K "_law_kinds" "_law_kinds" (defArgs s_law_kinds) (defBody s_law_kinds) (defScope s_law_kinds) [] [] f fd) 
    (hr : ∀ ds S Q E, ds.length = 1 → sp ds S Q E → rd_law_kinds { nx := fun _ S' => Rt Q .non S', rt := Rt Q, ex := fun x _ S' => Rx E x S' } (startE N_law_kinds.length ds) S) : FnAt B (k + 2) f 1 [] sp :=
  fnAtD F (bindAll (F.bindsN fun _ _ _ _ _ _ us hl => match us, hl with | [_], _ => rfl)) noDds sc_law_kinds (ok_law_kinds c ) hr
theorem no_law_kinds {B : Bs} {k : Nat} {f : Addr} {fd : FuncData} {sp : HSp} (F : FunD B.K "_law_kinds" "_law_kinds" (defArgs s_law_kinds) (defBody s_law_kinds) (defScope s_law_kinds) [] [] f fd) (h0 : ∀ ds S Q E, sp ds S Q E → False) : FnAt B k f 1 [] sp :=
  fnNone rfl (F.bindsN (ps := [("_law_e" : PySem.Str)]) fun _ _ _ _ _ _ us hl => match us, hl with | [_], _ => rfl) h0
def d_law_kinds : He.DefD := ⟨("_law_kinds", none), "_law_kinds", "_law_kinds", defArgs s_law_kinds, defBody s_law_kinds, defScope s_law_kinds, [], []⟩

abbrev s_law : Stmt := top 26
def N_law : List Str := [("_law_script" : PySem.Str), ("_law_at" : PySem.Str), ("_law_state_here" : PySem.Str), ("_law_number" : PySem.Str), ("_law_things" : PySem.Str), ("_law_thing" : PySem.Str), ("_law_other" : PySem.Str), ("_law_bare" : PySem.Str), ("_law_errors" : PySem.Str), ("_law_some" : PySem.Str), ("_law_right" : PySem.Str), ("_law_k" : PySem.Str), ("_law_j" : PySem.Str)]
theorem sc_law : FnScope N_law [("_law_script" : PySem.Str)] (defScope s_law) := ⟨rfl, rfl, rfl, by decide +kernel, rfl, by decide +kernel, by decide +kernel⟩
def rd_law (sp_law_state : HSp) (sp_law_cell : HSp) (sp_law_draw : HSp) (sp_law_single : HSp) (sp_law_double : HSp) (sp_law_kinds : HSp) : HTS := (hSeq (hFor (hiR1 (hCons (hcb gMax2 (hCons (hC (.int 1)) (hCons (hcb gMin2 (hCons (hC (.int 3)) (hCons (hcb gLen (hCons (hV 0) hNil)) hNil))) hNil))) hNil)) (.nm 1) (hSeq (hSet 2 (hCall 1 [] sp_law_state (hCons (hCall 2 [] sp_law_cell (hCons (hV 0) (hCons (hV 1) hNil))) hNil)))
  (hSeq (hSet 3 (hop gMulI (hop gSub (hCall 2 [] sp_law_draw (hCons (hV 2) (hCons (hC (.int 2001)) hNil))) (hC (.int 1000))) (hop gIx (hLst (hCons (hC (.int 1)) (hCons (hop gPow (hC (.int 10)) (hC (.int 20))) hNil))) (hCall 2 [] sp_law_draw (hCons (hV 2) (hCons (hC (.int 2)) hNil))))))
  (hSeq (hSet 4 (hLst (hCons (hC (.str ("f" : PySem.Str))) (hCons (hV 3) (hCons (hC .non) (hCons (hTup (hCons (hTup (hCons (hC (.int 0)) (hCons (hC (.int 1)) hNil))) (hCons (hC (.int 2)) hNil))) (hCons (hTup hNil) (hCons (hC (.str ("" : PySem.Str))) hNil))))))))
  (hSeq (hSet 5 (hop gIx (hV 4) (hCall 2 [] sp_law_draw (hCons (hV 2) (hCons (hC (.int 6)) hNil)))))
  (hSeq (hSet 6 (hop gIx (hV 4) (hCall 2 [] sp_law_draw (hCons (hV 2) (hCons (hC (.int 6)) hNil)))))
  (hSeq (hSet 7 (hLst (hCons (hMkX 47 hNil) (hCons (hMkX 39 hNil) (hCons (hMkX 36 hNil) (hCons (hMkX 40 hNil) (hCons (hMkX 42 hNil) hNil)))))))
  (hSeq (hSet 8 (hLst hNil))
  (hSeq (hFor (hiSq (hLst (hCons (hCall 1 [] sp_law_single (hCons (hV 5) hNil)) (hCons (hCall 2 [] sp_law_double (hCons (hV 5) (hCons (hV 6) hNil))) (hCons (hTup (hCons (hV 7) (hCons (hC (.bl true)) hNil))) hNil))))) (.tp [(.nm 9), (.nm 10)]) (hSeq (hSet 8 (hop gAdd (hV 8) (hV 9)))
  (hIfS (hNot (hTr (hV 10))) (hRet (hC (.bl false))) hNx)))
  (hFor (hiR1 (hCons (hcb gLen (hCons (hV 8) hNil)) hNil)) (.nm 11) (hSeq (hIfS (hB (hop gNe (hCall 1 [] sp_law_kinds (hCons (hop gIx (hV 8) (hV 11)) hNil)) (hLc (hiR1 (hCons (hC (.int 16)) hNil)) (.nm 12) hYes (hop gEq (hV 12) (hV 11)) [12]))) (hRet (hC (.bl false))) hNx)
  (hIfS (hOr (hNot (hTr (hun (gIsX [45, 48, 49, 50, 51, 38, 37, 43, 44, 46, 35, 47, 39, 36, 40, 42] (fun _ => true)) (hop gIx (hV 8) (hV 11))))) (hNot (hTr (hun (gIsX [45, 48, 49, 50, 51, 38, 37, 43, 44, 46, 35, 47, 39, 36, 40, 42] (fun _ => true)) (hop gIx (hV 8) (hV 11)))))) (hRet (hC (.bl false))) hNx))))))))))))
  (hRet (hC (.bl true))))
set_option maxHeartbeats 4000000 in
theorem ok_law {B : Bs} {k : Nat} {sp_law_state : HSp} {sp_law_cell : HSp} {sp_law_draw : HSp} {sp_law_single : HSp} {sp_law_double : HSp} {sp_law_kinds : HSp} (c : Fc B.K B.mg) (h_law_state : HFn B (k + 1) "_law_state" 1 [] sp_law_state) (h_law_cell : HFn B (k + 1) "_law_cell" 2 [] sp_law_cell) (h_law_draw : HFn B (k + 1) "_law_draw" 2 [] sp_law_draw) (hx_OtherShape : HExc B k 47) (hx_BadPuzzle : HExc B k 39) (hx_TooGreat : HExc B k 36) (hx_Ended : HExc B k 40) (hx_NothingToUndo : HExc B k 42) (h_law_single : HFn B (k + 1) "_law_single" 1 [] sp_law_single) (h_law_double : HFn B (k + 1) "_law_double" 2 [] sp_law_double) (h_law_kinds : HFn B (k + 1) "_law_kinds" 1 [] sp_law_kinds) : HSs ⟨B.P, B.w, B.K, B.mg, B.base, k + 1, N_law, defScope s_law, true, fun _ => true⟩ (defBody s_law) (rd_law sp_law_state sp_law_cell sp_law_draw sp_law_single sp_law_double sp_law_kinds) :=
  (hss (hfor (hir1 rfl c.f_range (hcons (hmax2 rfl c.f_max (hcons hint (hcons (hmin2 rfl c.f_min (hcons hint (hcons (hlen rfl c.f_len (hcons (hv 0) hnil)) hnil))) hnil))) hnil)) (hnm 1) (hss (hsetX (hcall (h_law_state.in_) (Nat.le_refl _) rfl (hcons (hcall (h_law_cell.in_) (Nat.le_refl _) rfl (hcons (hv 0) (hcons (hv 1) hnil))) hnil)))
  (hss (hsetX (hmulI (hsub (hcall (h_law_draw.in_) (Nat.le_refl _) rfl (hcons (hv 2) (hcons hint hnil))) hint) (hix (hlst (hcons hint (hcons (hpow hint hint) hnil))) (hcall (h_law_draw.in_) (Nat.le_refl _) rfl (hcons (hv 2) (hcons hint hnil))))))
  (hss (hsetX (hlst (hcons hstr (hcons (hv 3) (hcons hnon (hcons (htup (hcons (htup (hcons hint (hcons hint hnil))) (hcons hint hnil))) (hcons (htup hnil) (hcons hstr hnil))))))))
  (hss (hsetX (hix (hv 4) (hcall (h_law_draw.in_) (Nat.le_refl _) rfl (hcons (hv 2) (hcons hint hnil)))))
  (hss (hsetX (hix (hv 4) (hcall (h_law_draw.in_) (Nat.le_refl _) rfl (hcons (hv 2) (hcons hint hnil)))))
  (hss (hsetX (hlst (hcons (hmkx0 (hx_OtherShape.in_) (Nat.le_refl _) rfl) (hcons (hmkx0 (hx_BadPuzzle.in_) (Nat.le_refl _) rfl) (hcons (hmkx0 (hx_TooGreat.in_) (Nat.le_refl _) rfl) (hcons (hmkx0 (hx_Ended.in_) (Nat.le_refl _) rfl) (hcons (hmkx0 (hx_NothingToUndo.in_) (Nat.le_refl _) rfl) hnil)))))))
  (hss (hsetX (hlst hnil))
  (hss (hfor (hisq (hlst (hcons (hcall (h_law_single.in_) (Nat.le_refl _) rfl (hcons (hv 5) hnil)) (hcons (hcall (h_law_double.in_) (Nat.le_refl _) rfl (hcons (hv 5) (hcons (hv 6) hnil))) (hcons (htup (hcons (hv 7) (hcons hbl hnil))) hnil))))) (htp (hps (hnm 9) (hps (hnm 10) hps0))) (hss (hsetX (hadd (hv 8) (hv 9)))
  (hss1 (hif (hnot (htr (hv 10))) (hss1 (hret hbl)) hss0))))
  (hss1 (hfor (hir1 rfl c.f_range (hcons (hlen rfl c.f_len (hcons (hv 8) hnil)) hnil)) (hnm 11) (hss (hif (hneT (hcall (h_law_kinds.in_) (Nat.le_refl _) rfl (hcons (hix (hv 8) (hv 11)) hnil)) (hlcX [("_law_j", 12)] (hir1 rfl c.f_range (hcons hint hnil)) (by dsimp only [Bs.blk]; decide +kernel) (by decide) (hnm 12) hif0 (heq (hv 12) (hv 11)))) (hss1 (hret hbl)) hss0)
  (hss1 (hif (hw (hor (hnot (htr (hisxv c.kx_TryError rfl c.f_isinstance rfl c.n_TryError (hix (hv 8) (hv 11))))) (hor1 (hnot (htr (hisxvB c.kx_ValueError rfl c.f_isinstance rfl c.f_ValueError (by rfl) (hix (hv 8) (hv 11)))))))) (hss1 (hret hbl)) hss0))))))))))))))
  (hss1 (hret hbl)))
theorem at_law {B : Bs} {k : Nat} {f : Addr} {fd : FuncData} {sp_law_state : HSp} {sp_law_cell : HSp} {sp_law_draw : HSp} {sp_law_single : HSp} {sp_law_double : HSp} {sp_law_kinds : HSp} (c : Fc B.K B.mg) (F : FunD B.K "law" "law" (defArgs s_law) (defBody s_law) (defScope s_law) [] [] f fd) (h_law_state : HFn B (k + 1) "_law_state" 1 [] sp_law_state) (h_law_cell : HFn B (k + 1) "_law_cell" 2 [] sp_law_cell) (h_law_draw : HFn B (k + 1) "_law_draw" 2 [] sp_law_draw) (hx_OtherShape : HExc B k 47) (hx_BadPuzzle : HExc B k 39) (hx_TooGreat : HExc B k 36) (hx_Ended : HExc B k 40) (hx_NothingToUndo : HExc B k 42) (h_law_single : HFn B (k + 1) "_law_single" 1 [] sp_law_single) (h_law_double : HFn B (k + 1) "_law_double" 2 [] sp_law_double) (h_law_kinds : HFn B (k + 1) "_law_kinds" 1 [] sp_law_kinds)
    (hr : ∀ ds S Q E, ds.length = 1 → spLaw ds S Q E → rd_law sp_law_state sp_law_cell sp_law_draw sp_law_single sp_law_double sp_law_kinds { nx := fun _ S' => Rt Q .non S', rt := Rt Q, ex := fun x _ S' => Rx E x S' } (startE N_law.length ds) S) : FnOk B.P B.w B.K B.mg B.base (CX B.P B.w) (k + 2) f fd [("_law_script" : PySem.Str)] (lSp B.K 1 spLaw) :=
  fnOkD F sc_law (ok_law c h_law_state h_law_cell h_law_draw hx_OtherShape hx_BadPuzzle hx_TooGreat hx_Ended hx_NothingToUndo h_law_single h_law_double h_law_kinds) hr
def d_law : He.DefD := ⟨("law", none), "law", "law", defArgs s_law, defBody s_law, defScope s_law, [], []⟩

def book : Book := ⟨[.free "ValueError", .free "int", .free "isinstance", .free "len", .free "max", .free "min", .free "range", .glo "BadCode", .glo "BadPuzzle", .glo "BadText", .glo "Ended", .glo "NoCell", .glo "NoContext", .glo "NoEntry", .glo "NoRow", .glo "NoSpot", .glo "NoSuch", .glo "NoWay", .glo "NothingToUndo", .glo "OtherShape", .glo "TooGreat", .glo "TooMany", .glo "TryError", .glo "Unclean", .meth "BadCode" "__init__", .meth "BadPuzzle" "__init__", .meth "BadText" "__init__", .meth "Ended" "__init__", .meth "NoCell" "__init__", .meth "NoContext" "__init__", .meth "NoEntry" "__init__", .meth "NoRow" "__init__", .meth "NoSpot" "__init__", .meth "NoSuch" "__init__", .meth "NoWay" "__init__", .meth "NothingToUndo" "__init__", .meth "OtherShape" "__init__", .meth "TooGreat" "__init__", .meth "TooMany" "__init__", .meth "Unclean" "__init__", .glo "_law_state", .glo "_law_draw", .glo "_law_cell", .glo "_law_single", .glo "_law_double", .glo "_law_kinds", .glo "law"], [d_law_state, d_law_draw, d_law_cell, d_law_single, d_law_double, d_law_kinds, d_law, d_BadCode_init, d_BadPuzzle_init, d_BadText_init, d_Ended_init, d_NoCell_init, d_NoContext_init, d_NoEntry_init, d_NoRow_init, d_NoSpot_init, d_NoSuch_init, d_NoWay_init, d_NothingToUndo_init, d_OtherShape_init, d_TooGreat_init, d_TooMany_init, d_Unclean_init], [prExc 35, prExc 39, prExc 38, prExc 40, prExc 45, prExc 43, prExc 50, prExc 51, prExc 48, prExc 37, prExc 44, prExc 42, prExc 47, prExc 36, prExc 49, prExc 46, prBase 34, prKitX 35 [45, 48, 49, 50, 51, 38, 37, 43, 44, 46, 35, 47, 39, 36, 40, 42] (fun c => Nat.beq c 35), prKitX 39 [45, 48, 49, 50, 51, 38, 37, 43, 44, 46, 35, 47, 39, 36, 40, 42] (fun c => Nat.beq c 39), prKitX 38 [45, 48, 49, 50, 51, 38, 37, 43, 44, 46, 35, 47, 39, 36, 40, 42] (fun c => Nat.beq c 38), prKitX 40 [45, 48, 49, 50, 51, 38, 37, 43, 44, 46, 35, 47, 39, 36, 40, 42] (fun c => Nat.beq c 40), prKitX 45 [45, 48, 49, 50, 51, 38, 37, 43, 44, 46, 35, 47, 39, 36, 40, 42] (fun c => Nat.beq c 45), prKitX 43 [45, 48, 49, 50, 51, 38, 37, 43, 44, 46, 35, 47, 39, 36, 40, 42] (fun c => Nat.beq c 43), prKitX 50 [45, 48, 49, 50, 51, 38, 37, 43, 44, 46, 35, 47, 39, 36, 40, 42] (fun c => Nat.beq c 50), prKitX 51 [45, 48, 49, 50, 51, 38, 37, 43, 44, 46, 35, 47, 39, 36, 40, 42] (fun c => Nat.beq c 51), prKitX 48 [45, 48, 49, 50, 51, 38, 37, 43, 44, 46, 35, 47, 39, 36, 40, 42] (fun c => Nat.beq c 48), prKitX 37 [45, 48, 49, 50, 51, 38, 37, 43, 44, 46, 35, 47, 39, 36, 40, 42] (fun c => Nat.beq c 37), prKitX 44 [45, 48, 49, 50, 51, 38, 37, 43, 44, 46, 35, 47, 39, 36, 40, 42] (fun c => Nat.beq c 44), prKitX 42 [45, 48, 49, 50, 51, 38, 37, 43, 44, 46, 35, 47, 39, 36, 40, 42] (fun c => Nat.beq c 42), prKitX 47 [45, 48, 49, 50, 51, 38, 37, 43, 44, 46, 35, 47, 39, 36, 40, 42] (fun c => Nat.beq c 47), prKitX 36 [45, 48, 49, 50, 51, 38, 37, 43, 44, 46, 35, 47, 39, 36, 40, 42] (fun c => Nat.beq c 36), prKitX 49 [45, 48, 49, 50, 51, 38, 37, 43, 44, 46, 35, 47, 39, 36, 40, 42] (fun c => Nat.beq c 49), prKitX 34 [45, 48, 49, 50, 51, 38, 37, 43, 44, 46, 35, 47, 39, 36, 40, 42] (fun _ => true), prKitX 46 [45, 48, 49, 50, 51, 38, 37, 43, 44, 46, 35, 47, 39, 36, 40, 42] (fun c => Nat.beq c 46), prKitXB "ValueError" [45, 48, 49, 50, 51, 38, 37, 43, 44, 46, 35, 47, 39, 36, 40, 42] (fun _ => true)], []⟩
theorem exs_of {K : PySem.W.Frag} (s : book.seen K = book.due) : ∀ c ∈ ([45, 48, 49, 50, 51, 38, 37, 43, 44, 46, 35, 47, 39, 36, 40, 42] : List Nat), ExcOk K c := fun c hc => by
  simp only [List.mem_cons, List.not_mem_nil, or_false] at hc
  rcases hc with rfl | rfl | rfl | rfl | rfl | rfl | rfl | rfl | rfl | rfl | rfl | rfl | rfl | rfl | rfl | rfl
  · exact prExc_ok (Book.more s 4 rfl) (by decide) (by decide)
  · exact prExc_ok (Book.more s 8 rfl) (by decide) (by decide)
  · exact prExc_ok (Book.more s 14 rfl) (by decide) (by decide)
  · exact prExc_ok (Book.more s 6 rfl) (by decide) (by decide)
  · exact prExc_ok (Book.more s 7 rfl) (by decide) (by decide)
  · exact prExc_ok (Book.more s 2 rfl) (by decide) (by decide)
  · exact prExc_ok (Book.more s 9 rfl) (by decide) (by decide)
  · exact prExc_ok (Book.more s 5 rfl) (by decide) (by decide)
  · exact prExc_ok (Book.more s 10 rfl) (by decide) (by decide)
  · exact prExc_ok (Book.more s 15 rfl) (by decide) (by decide)
  · exact prExc_ok (Book.more s 0 rfl) (by decide) (by decide)
  · exact prExc_ok (Book.more s 12 rfl) (by decide) (by decide)
  · exact prExc_ok (Book.more s 1 rfl) (by decide) (by decide)
  · exact prExc_ok (Book.more s 13 rfl) (by decide) (by decide)
  · exact prExc_ok (Book.more s 3 rfl) (by decide) (by decide)
  · exact prExc_ok (Book.more s 11 rfl) (by decide) (by decide)

theorem fc_of {K : PySem.W.Frag} {h : Heap} {mg : Str → Option Value} (X : K.In h) (G : h.Ns mainGlobals mg) (s : book.seen K = book.due) : Fc K mg where
  f_ValueError := He.free_ok X G (Book.fact s 0)
  f_int := He.free_ok X G (Book.fact s 1)
  f_isinstance := He.free_ok X G (Book.fact s 2)
  f_len := He.free_ok X G (Book.fact s 3)
  f_max := He.free_ok X G (Book.fact s 4)
  f_min := He.free_ok X G (Book.fact s 5)
  f_range := He.free_ok X G (Book.fact s 6)
  n_BadCode := He.glo_ok X G (Book.fact s 7)
  n_BadPuzzle := He.glo_ok X G (Book.fact s 8)
  n_BadText := He.glo_ok X G (Book.fact s 9)
  n_Ended := He.glo_ok X G (Book.fact s 10)
  n_NoCell := He.glo_ok X G (Book.fact s 11)
  n_NoContext := He.glo_ok X G (Book.fact s 12)
  n_NoEntry := He.glo_ok X G (Book.fact s 13)
  n_NoRow := He.glo_ok X G (Book.fact s 14)
  n_NoSpot := He.glo_ok X G (Book.fact s 15)
  n_NoSuch := He.glo_ok X G (Book.fact s 16)
  n_NoWay := He.glo_ok X G (Book.fact s 17)
  n_NothingToUndo := He.glo_ok X G (Book.fact s 18)
  n_OtherShape := He.glo_ok X G (Book.fact s 19)
  n_TooGreat := He.glo_ok X G (Book.fact s 20)
  n_TooMany := He.glo_ok X G (Book.fact s 21)
  n_TryError := He.glo_ok X G (Book.fact s 22)
  n_Unclean := He.glo_ok X G (Book.fact s 23)
  x_BadCode := prExc_ok (Book.more s 0) (by decide) (by decide)
  x_BadPuzzle := prExc_ok (Book.more s 1) (by decide) (by decide)
  x_BadText := prExc_ok (Book.more s 2) (by decide) (by decide)
  x_Ended := prExc_ok (Book.more s 3) (by decide) (by decide)
  x_NoCell := prExc_ok (Book.more s 4) (by decide) (by decide)
  x_NoContext := prExc_ok (Book.more s 5) (by decide) (by decide)
  x_NoEntry := prExc_ok (Book.more s 6) (by decide) (by decide)
  x_NoRow := prExc_ok (Book.more s 7) (by decide) (by decide)
  x_NoSpot := prExc_ok (Book.more s 8) (by decide) (by decide)
  x_NoSuch := prExc_ok (Book.more s 9) (by decide) (by decide)
  x_NoWay := prExc_ok (Book.more s 10) (by decide) (by decide)
  x_NothingToUndo := prExc_ok (Book.more s 11) (by decide) (by decide)
  x_OtherShape := prExc_ok (Book.more s 12) (by decide) (by decide)
  x_TooGreat := prExc_ok (Book.more s 13) (by decide) (by decide)
  x_TooMany := prExc_ok (Book.more s 14) (by decide) (by decide)
  x_Unclean := prExc_ok (Book.more s 15) (by decide) (by decide)
  b_TryError := prBase_ok (Book.more s 16)
  kx_BadCode := prKitX_ok (Book.more s 17) (exs_of s)
  kx_BadPuzzle := prKitX_ok (Book.more s 18) (exs_of s)
  kx_BadText := prKitX_ok (Book.more s 19) (exs_of s)
  kx_Ended := prKitX_ok (Book.more s 20) (exs_of s)
  kx_NoCell := prKitX_ok (Book.more s 21) (exs_of s)
  kx_NoContext := prKitX_ok (Book.more s 22) (exs_of s)
  kx_NoEntry := prKitX_ok (Book.more s 23) (exs_of s)
  kx_NoRow := prKitX_ok (Book.more s 24) (exs_of s)
  kx_NoSpot := prKitX_ok (Book.more s 25) (exs_of s)
  kx_NoSuch := prKitX_ok (Book.more s 26) (exs_of s)
  kx_NoWay := prKitX_ok (Book.more s 27) (exs_of s)
  kx_NothingToUndo := prKitX_ok (Book.more s 28) (exs_of s)
  kx_OtherShape := prKitX_ok (Book.more s 29) (exs_of s)
  kx_TooGreat := prKitX_ok (Book.more s 30) (exs_of s)
  kx_TooMany := prKitX_ok (Book.more s 31) (exs_of s)
  kx_TryError := prKitX_ok (Book.more s 32) (exs_of s)
  kx_Unclean := prKitX_ok (Book.more s 33) (exs_of s)
  kx_ValueError := prKitXB_ok (Book.more s 34) (exs_of s)
theorem fd_law_state {K : PySem.W.Frag} (s : book.seen K = book.due) : ∃ fd, FunD K "_law_state" "_law_state" (defArgs s_law_state) (defBody s_law_state) (defScope s_law_state) (d_law_state.dvs K) [] (He.fAd K ("_law_state", none)) fd := Book.def_ s 0 (d := d_law_state) rfl
theorem fd_law_draw {K : PySem.W.Frag} (s : book.seen K = book.due) : ∃ fd, FunD K "_law_draw" "_law_draw" (defArgs s_law_draw) (defBody s_law_draw) (defScope s_law_draw) (d_law_draw.dvs K) [] (He.fAd K ("_law_draw", none)) fd := Book.def_ s 1 (d := d_law_draw) rfl
theorem fd_law_cell {K : PySem.W.Frag} (s : book.seen K = book.due) : ∃ fd, FunD K "_law_cell" "_law_cell" (defArgs s_law_cell) (defBody s_law_cell) (defScope s_law_cell) (d_law_cell.dvs K) [] (He.fAd K ("_law_cell", none)) fd := Book.def_ s 2 (d := d_law_cell) rfl
theorem fd_law_single {K : PySem.W.Frag} (s : book.seen K = book.due) : ∃ fd, FunD K "_law_single" "_law_single" (defArgs s_law_single) (defBody s_law_single) (defScope s_law_single) (d_law_single.dvs K) [] (He.fAd K ("_law_single", none)) fd := Book.def_ s 3 (d := d_law_single) rfl
theorem fd_law_double {K : PySem.W.Frag} (s : book.seen K = book.due) : ∃ fd, FunD K "_law_double" "_law_double" (defArgs s_law_double) (defBody s_law_double) (defScope s_law_double) (d_law_double.dvs K) [] (He.fAd K ("_law_double", none)) fd := Book.def_ s 4 (d := d_law_double) rfl
theorem fd_law_kinds {K : PySem.W.Frag} (s : book.seen K = book.due) : ∃ fd, FunD K "_law_kinds" "_law_kinds" (defArgs s_law_kinds) (defBody s_law_kinds) (defScope s_law_kinds) (d_law_kinds.dvs K) [] (He.fAd K ("_law_kinds", none)) fd := Book.def_ s 5 (d := d_law_kinds) rfl
theorem fd_law {K : PySem.W.Frag} (s : book.seen K = book.due) : ∃ fd, FunD K "law" "law" (defArgs s_law) (defBody s_law) (defScope s_law) (d_law.dvs K) [] (He.fAd K ("law", none)) fd := Book.def_ s 6 (d := d_law) rfl
theorem px_BadCode {B : Bs} {h : Heap} (X : B.K.In h) (G : h.Ns mainGlobals B.mg) (s : book.seen B.K = book.due) : HExc B 1 35 := by
  obtain ⟨fd, F⟩ : ∃ fd, FunD B.K "__init__" "BadCode.__init__" (defArgs s_BadCode_init) (defBody s_BadCode_init) (defScope s_BadCode_init) (d_BadCode_init.dvs B.K) [] (He.fAd B.K ("BadCode", some "__init__")) fd := Book.def_ s 7 (d := d_BadCode_init) rfl
  exact hexc_of (fc_of X G s).x_BadCode (fc_of X G s).n_BadCode (He.meth_ok (x := "BadCode") (m := "__init__") (Book.fact s 24 rfl)) (xb_BadCode_init F) (xk_BadCode_init (k := 0) (fc_of X G s) F)
theorem px_BadPuzzle {B : Bs} {h : Heap} (X : B.K.In h) (G : h.Ns mainGlobals B.mg) (s : book.seen B.K = book.due) : HExc B 1 39 := by
  obtain ⟨fd, F⟩ : ∃ fd, FunD B.K "__init__" "BadPuzzle.__init__" (defArgs s_BadPuzzle_init) (defBody s_BadPuzzle_init) (defScope s_BadPuzzle_init) (d_BadPuzzle_init.dvs B.K) [] (He.fAd B.K ("BadPuzzle", some "__init__")) fd := Book.def_ s 8 (d := d_BadPuzzle_init) rfl
  exact hexc_of (fc_of X G s).x_BadPuzzle (fc_of X G s).n_BadPuzzle (He.meth_ok (x := "BadPuzzle") (m := "__init__") (Book.fact s 25 rfl)) (xb_BadPuzzle_init F) (xk_BadPuzzle_init (k := 0) (fc_of X G s) F)
theorem px_BadText {B : Bs} {h : Heap} (X : B.K.In h) (G : h.Ns mainGlobals B.mg) (s : book.seen B.K = book.due) : HExc B 1 38 := by
  obtain ⟨fd, F⟩ : ∃ fd, FunD B.K "__init__" "BadText.__init__" (defArgs s_BadText_init) (defBody s_BadText_init) (defScope s_BadText_init) (d_BadText_init.dvs B.K) [] (He.fAd B.K ("BadText", some "__init__")) fd := Book.def_ s 9 (d := d_BadText_init) rfl
  exact hexc_of (fc_of X G s).x_BadText (fc_of X G s).n_BadText (He.meth_ok (x := "BadText") (m := "__init__") (Book.fact s 26 rfl)) (xb_BadText_init F) (xk_BadText_init (k := 0) (fc_of X G s) F)
theorem px_Ended {B : Bs} {h : Heap} (X : B.K.In h) (G : h.Ns mainGlobals B.mg) (s : book.seen B.K = book.due) : HExc B 1 40 := by
  obtain ⟨fd, F⟩ : ∃ fd, FunD B.K "__init__" "Ended.__init__" (defArgs s_Ended_init) (defBody s_Ended_init) (defScope s_Ended_init) (d_Ended_init.dvs B.K) [] (He.fAd B.K ("Ended", some "__init__")) fd := Book.def_ s 10 (d := d_Ended_init) rfl
  exact hexc_of (fc_of X G s).x_Ended (fc_of X G s).n_Ended (He.meth_ok (x := "Ended") (m := "__init__") (Book.fact s 27 rfl)) (xb_Ended_init F) (xk_Ended_init (k := 0) (fc_of X G s) F)
theorem px_NoCell {B : Bs} {h : Heap} (X : B.K.In h) (G : h.Ns mainGlobals B.mg) (s : book.seen B.K = book.due) : HExc B 1 45 := by
  obtain ⟨fd, F⟩ : ∃ fd, FunD B.K "__init__" "NoCell.__init__" (defArgs s_NoCell_init) (defBody s_NoCell_init) (defScope s_NoCell_init) (d_NoCell_init.dvs B.K) [] (He.fAd B.K ("NoCell", some "__init__")) fd := Book.def_ s 11 (d := d_NoCell_init) rfl
  exact hexc_of (fc_of X G s).x_NoCell (fc_of X G s).n_NoCell (He.meth_ok (x := "NoCell") (m := "__init__") (Book.fact s 28 rfl)) (xb_NoCell_init F) (xk_NoCell_init (k := 0) (fc_of X G s) F)
theorem px_NoContext {B : Bs} {h : Heap} (X : B.K.In h) (G : h.Ns mainGlobals B.mg) (s : book.seen B.K = book.due) : HExc B 1 43 := by
  obtain ⟨fd, F⟩ : ∃ fd, FunD B.K "__init__" "NoContext.__init__" (defArgs s_NoContext_init) (defBody s_NoContext_init) (defScope s_NoContext_init) (d_NoContext_init.dvs B.K) [] (He.fAd B.K ("NoContext", some "__init__")) fd := Book.def_ s 12 (d := d_NoContext_init) rfl
  exact hexc_of (fc_of X G s).x_NoContext (fc_of X G s).n_NoContext (He.meth_ok (x := "NoContext") (m := "__init__") (Book.fact s 29 rfl)) (xb_NoContext_init F) (xk_NoContext_init (k := 0) (fc_of X G s) F)
theorem px_NoEntry {B : Bs} {h : Heap} (X : B.K.In h) (G : h.Ns mainGlobals B.mg) (s : book.seen B.K = book.due) : HExc B 1 50 := by
  obtain ⟨fd, F⟩ : ∃ fd, FunD B.K "__init__" "NoEntry.__init__" (defArgs s_NoEntry_init) (defBody s_NoEntry_init) (defScope s_NoEntry_init) (d_NoEntry_init.dvs B.K) [] (He.fAd B.K ("NoEntry", some "__init__")) fd := Book.def_ s 13 (d := d_NoEntry_init) rfl
  exact hexc_of (fc_of X G s).x_NoEntry (fc_of X G s).n_NoEntry (He.meth_ok (x := "NoEntry") (m := "__init__") (Book.fact s 30 rfl)) (xb_NoEntry_init F) (xk_NoEntry_init (k := 0) (fc_of X G s) F)
theorem px_NoRow {B : Bs} {h : Heap} (X : B.K.In h) (G : h.Ns mainGlobals B.mg) (s : book.seen B.K = book.due) : HExc B 1 51 := by
  obtain ⟨fd, F⟩ : ∃ fd, FunD B.K "__init__" "NoRow.__init__" (defArgs s_NoRow_init) (defBody s_NoRow_init) (defScope s_NoRow_init) (d_NoRow_init.dvs B.K) [] (He.fAd B.K ("NoRow", some "__init__")) fd := Book.def_ s 14 (d := d_NoRow_init) rfl
  exact hexc_of (fc_of X G s).x_NoRow (fc_of X G s).n_NoRow (He.meth_ok (x := "NoRow") (m := "__init__") (Book.fact s 31 rfl)) (xb_NoRow_init F) (xk_NoRow_init (k := 0) (fc_of X G s) F)
theorem px_NoSpot {B : Bs} {h : Heap} (X : B.K.In h) (G : h.Ns mainGlobals B.mg) (s : book.seen B.K = book.due) : HExc B 1 48 := by
  obtain ⟨fd, F⟩ : ∃ fd, FunD B.K "__init__" "NoSpot.__init__" (defArgs s_NoSpot_init) (defBody s_NoSpot_init) (defScope s_NoSpot_init) (d_NoSpot_init.dvs B.K) [] (He.fAd B.K ("NoSpot", some "__init__")) fd := Book.def_ s 15 (d := d_NoSpot_init) rfl
  exact hexc_of (fc_of X G s).x_NoSpot (fc_of X G s).n_NoSpot (He.meth_ok (x := "NoSpot") (m := "__init__") (Book.fact s 32 rfl)) (xb_NoSpot_init F) (xk_NoSpot_init (k := 0) (fc_of X G s) F)
theorem px_NoSuch {B : Bs} {h : Heap} (X : B.K.In h) (G : h.Ns mainGlobals B.mg) (s : book.seen B.K = book.due) : HExc B 1 37 := by
  obtain ⟨fd, F⟩ : ∃ fd, FunD B.K "__init__" "NoSuch.__init__" (defArgs s_NoSuch_init) (defBody s_NoSuch_init) (defScope s_NoSuch_init) (d_NoSuch_init.dvs B.K) [] (He.fAd B.K ("NoSuch", some "__init__")) fd := Book.def_ s 16 (d := d_NoSuch_init) rfl
  exact hexc_of (fc_of X G s).x_NoSuch (fc_of X G s).n_NoSuch (He.meth_ok (x := "NoSuch") (m := "__init__") (Book.fact s 33 rfl)) (xb_NoSuch_init F) (xk_NoSuch_init (k := 0) (fc_of X G s) F)
theorem px_NoWay {B : Bs} {h : Heap} (X : B.K.In h) (G : h.Ns mainGlobals B.mg) (s : book.seen B.K = book.due) : HExc B 1 44 := by
  obtain ⟨fd, F⟩ : ∃ fd, FunD B.K "__init__" "NoWay.__init__" (defArgs s_NoWay_init) (defBody s_NoWay_init) (defScope s_NoWay_init) (d_NoWay_init.dvs B.K) [] (He.fAd B.K ("NoWay", some "__init__")) fd := Book.def_ s 17 (d := d_NoWay_init) rfl
  exact hexc_of (fc_of X G s).x_NoWay (fc_of X G s).n_NoWay (He.meth_ok (x := "NoWay") (m := "__init__") (Book.fact s 34 rfl)) (xb_NoWay_init F) (xk_NoWay_init (k := 0) (fc_of X G s) F)
theorem px_NothingToUndo {B : Bs} {h : Heap} (X : B.K.In h) (G : h.Ns mainGlobals B.mg) (s : book.seen B.K = book.due) : HExc B 1 42 := by
  obtain ⟨fd, F⟩ : ∃ fd, FunD B.K "__init__" "NothingToUndo.__init__" (defArgs s_NothingToUndo_init) (defBody s_NothingToUndo_init) (defScope s_NothingToUndo_init) (d_NothingToUndo_init.dvs B.K) [] (He.fAd B.K ("NothingToUndo", some "__init__")) fd := Book.def_ s 18 (d := d_NothingToUndo_init) rfl
  exact hexc_of (fc_of X G s).x_NothingToUndo (fc_of X G s).n_NothingToUndo (He.meth_ok (x := "NothingToUndo") (m := "__init__") (Book.fact s 35 rfl)) (xb_NothingToUndo_init F) (xk_NothingToUndo_init (k := 0) (fc_of X G s) F)
theorem px_OtherShape {B : Bs} {h : Heap} (X : B.K.In h) (G : h.Ns mainGlobals B.mg) (s : book.seen B.K = book.due) : HExc B 1 47 := by
  obtain ⟨fd, F⟩ : ∃ fd, FunD B.K "__init__" "OtherShape.__init__" (defArgs s_OtherShape_init) (defBody s_OtherShape_init) (defScope s_OtherShape_init) (d_OtherShape_init.dvs B.K) [] (He.fAd B.K ("OtherShape", some "__init__")) fd := Book.def_ s 19 (d := d_OtherShape_init) rfl
  exact hexc_of (fc_of X G s).x_OtherShape (fc_of X G s).n_OtherShape (He.meth_ok (x := "OtherShape") (m := "__init__") (Book.fact s 36 rfl)) (xb_OtherShape_init F) (xk_OtherShape_init (k := 0) (fc_of X G s) F)
theorem px_TooGreat {B : Bs} {h : Heap} (X : B.K.In h) (G : h.Ns mainGlobals B.mg) (s : book.seen B.K = book.due) : HExc B 1 36 := by
  obtain ⟨fd, F⟩ : ∃ fd, FunD B.K "__init__" "TooGreat.__init__" (defArgs s_TooGreat_init) (defBody s_TooGreat_init) (defScope s_TooGreat_init) (d_TooGreat_init.dvs B.K) [] (He.fAd B.K ("TooGreat", some "__init__")) fd := Book.def_ s 20 (d := d_TooGreat_init) rfl
  exact hexc_of (fc_of X G s).x_TooGreat (fc_of X G s).n_TooGreat (He.meth_ok (x := "TooGreat") (m := "__init__") (Book.fact s 37 rfl)) (xb_TooGreat_init F) (xk_TooGreat_init (k := 0) (fc_of X G s) F)
theorem px_TooMany {B : Bs} {h : Heap} (X : B.K.In h) (G : h.Ns mainGlobals B.mg) (s : book.seen B.K = book.due) : HExc B 1 49 := by
  obtain ⟨fd, F⟩ : ∃ fd, FunD B.K "__init__" "TooMany.__init__" (defArgs s_TooMany_init) (defBody s_TooMany_init) (defScope s_TooMany_init) (d_TooMany_init.dvs B.K) [] (He.fAd B.K ("TooMany", some "__init__")) fd := Book.def_ s 21 (d := d_TooMany_init) rfl
  exact hexc_of (fc_of X G s).x_TooMany (fc_of X G s).n_TooMany (He.meth_ok (x := "TooMany") (m := "__init__") (Book.fact s 38 rfl)) (xb_TooMany_init F) (xk_TooMany_init (k := 0) (fc_of X G s) F)
theorem px_Unclean {B : Bs} {h : Heap} (X : B.K.In h) (G : h.Ns mainGlobals B.mg) (s : book.seen B.K = book.due) : HExc B 1 46 := by
  obtain ⟨fd, F⟩ : ∃ fd, FunD B.K "__init__" "Unclean.__init__" (defArgs s_Unclean_init) (defBody s_Unclean_init) (defScope s_Unclean_init) (d_Unclean_init.dvs B.K) [] (He.fAd B.K ("Unclean", some "__init__")) fd := Book.def_ s 22 (d := d_Unclean_init) rfl
  exact hexc_of (fc_of X G s).x_Unclean (fc_of X G s).n_Unclean (He.meth_ok (x := "Unclean") (m := "__init__") (Book.fact s 39 rfl)) (xb_Unclean_init F) (xk_Unclean_init (k := 0) (fc_of X G s) F)
theorem gl_law_state {K : PySem.W.Frag} {h : Heap} {mg : Str → Option Value} (X : K.In h) (G : h.Ns mainGlobals mg) (s : book.seen K = book.due) : mg "_law_state" = some (.ref (He.ga K "_law_state")) := He.glo_ok X G (x := "_law_state") (Book.fact s 40 rfl)
theorem gl_law_draw {K : PySem.W.Frag} {h : Heap} {mg : Str → Option Value} (X : K.In h) (G : h.Ns mainGlobals mg) (s : book.seen K = book.due) : mg "_law_draw" = some (.ref (He.ga K "_law_draw")) := He.glo_ok X G (x := "_law_draw") (Book.fact s 41 rfl)
theorem gl_law_cell {K : PySem.W.Frag} {h : Heap} {mg : Str → Option Value} (X : K.In h) (G : h.Ns mainGlobals mg) (s : book.seen K = book.due) : mg "_law_cell" = some (.ref (He.ga K "_law_cell")) := He.glo_ok X G (x := "_law_cell") (Book.fact s 42 rfl)
theorem gl_law_single {K : PySem.W.Frag} {h : Heap} {mg : Str → Option Value} (X : K.In h) (G : h.Ns mainGlobals mg) (s : book.seen K = book.due) : mg "_law_single" = some (.ref (He.ga K "_law_single")) := He.glo_ok X G (x := "_law_single") (Book.fact s 43 rfl)
theorem gl_law_double {K : PySem.W.Frag} {h : Heap} {mg : Str → Option Value} (X : K.In h) (G : h.Ns mainGlobals mg) (s : book.seen K = book.due) : mg "_law_double" = some (.ref (He.ga K "_law_double")) := He.glo_ok X G (x := "_law_double") (Book.fact s 44 rfl)
theorem gl_law_kinds {K : PySem.W.Frag} {h : Heap} {mg : Str → Option Value} (X : K.In h) (G : h.Ns mainGlobals mg) (s : book.seen K = book.due) : mg "_law_kinds" = some (.ref (He.ga K "_law_kinds")) := He.glo_ok X G (x := "_law_kinds") (Book.fact s 45 rfl)
theorem gl_law {K : PySem.W.Frag} {h : Heap} {mg : Str → Option Value} (X : K.In h) (G : h.Ns mainGlobals mg) (s : book.seen K = book.due) : mg "law" = some (.ref (He.ga K "law")) := He.glo_ok X G (x := "law") (Book.fact s 46 rfl)
end Hy

set_option Elab.async false
set_option linter.all false
set_option maxRecDepth 100000
set_option maxHeartbeats 0
set_option autoImplicit false
namespace Hy
open PySem PySem.Spec PyProof.Rows L2
def nms0 : List PySem.Str := [("TryError" : PySem.Str), ("NoContext" : PySem.Str), ("NoWay" : PySem.Str), ("NoCell" : PySem.Str), ("Unclean" : PySem.Str), ("OtherShape" : PySem.Str), ("NoSpot" : PySem.Str), ("TooMany" : PySem.Str), ("NoEntry" : PySem.Str), ("NoRow" : PySem.Str), ("BadCode" : PySem.Str), ("BadText" : PySem.Str), ("BadPuzzle" : PySem.Str), ("TooGreat" : PySem.Str), ("NoSuch" : PySem.Str), ("Ended" : PySem.Str), ("NothingToUndo" : PySem.Str), ("_law_state" : PySem.Str), ("_law_draw" : PySem.Str), ("_law_pick" : PySem.Str)]
def nms1 : List PySem.Str := [("_law_cell" : PySem.Str), ("_law_single" : PySem.Str), ("_law_double" : PySem.Str), ("_law_kinds" : PySem.Str)]
def nms : List PySem.Str := nms0 ++ (nms1)
abbrev LRow : PySem.W.OpenRow := PySem.W.OpenLaw.row PySem.Challenge.rw_tryback_k46_errors_stand_apart
abbrev hk : PySem.W.Hook := book.hookR 0 1500
def ob (s : PySem.W.SharedT) : He.AlD := book.lookR 0 1500 (HandSHeadRun.getT s)
theorem ob_eq (s : PySem.W.SharedT) : ob s = hk.obs s.abs := Book.lookR_eq (HandSHeadRun.getT_eq s)
theorem runT (w : World) : TopEq LRow (PySem.W.view LRow.prog [26]) 20000 nms w := by
  intro os
  kernel_rfl
theorem run1 (w : World) : LookEq LRow 20000 (book.low 1000 0) 0 1500 w := by
  intro os
  kernel_rfl
theorem run2 (w : World) : LookEq LRow 20000 (book.high 1000 0) 0 1500 w := by
  intro os
  kernel_rfl
theorem run (w : World) : HandSHeadRun.RunEq LRow (PySem.W.view LRow.prog [26]) hk ob 20000 nms w := run_of (runT w) (LookEq.of_cut 1000 0 (run1 w) (run2 w))
end Hy

set_option Elab.async false
set_option linter.all false
set_option maxRecDepth 100000
set_option maxHeartbeats 4000000
set_option autoImplicit false
namespace Hy
open PySem PySem.Spec PyProof.Rows L2
abbrev EN (Q E : HK) : HEnds := { nx := fun _ S' => Rt Q .non S', rt := Rt Q, ex := fun x _ S' => Rx E x S' }
theorem seq_ {t u : HTS} {D : HEnds} {env : HEnv} {S : Sto} (h : t { D with nx := u D } env S) : hSeq t u D env S := h
theorem bnot_t : (!true) = false := rfl
theorem bnot_f : (!false) = true := rfl
def gSq (x : D) (S : Sto) (R : List D → Ck → Sto → Prop) : Prop := match x with
  | .str z => z.length ≤ sizeLine ∧ R (z.cps.toList.map fun c => .str ⟨#[c]⟩) none S
  | x => match items S x with
    | some ds => R ds (ckOf x ds) S
    | none => False
theorem hiSq_eq (te : HTE) : hiSq te = fun env S R E => te env S (fun x S1 => gSq x S1 R) E := rfl
local macro_rules | `(tactic| walk_at "p") => `(tactic| try simp only [hSet, hAsg, hRet, hRetN, hExpr, hIfS, hNx, hop, hun, hcb, hV, hC, hB, hTr, hNot, hAnd, hOr, hIf, hTup, hLst, hLstM, hCons, hNil, hCall, hMeth, hMake, hMt, hSl, hNoP, hPart, hSetI, hFst, hOrT, hAndT, hNotT, hAug, bindD, bindDs, hEqO, hInO, hGetO, hiEnum, hRaise, hPar3, hYes, hFor, hLc, hLcM, hiR1, hiR2, hiSq_eq, wipeN, startE, List.map_cons, List.map_nil, List.length_cons, List.length_nil, List.replicate, List.cons_append, List.nil_append, List.append_nil, List.getElem?_cons_zero, List.getElem?_cons_succ, List.set_cons_zero, List.set_cons_succ, Nat.reduceAdd, Nat.reduceSub, Nat.zero_add, gI0, gI, gTru, gFmt, gNeg, gOrd, gIsN, isN, ng, Nat.beq, Nat.ble, isStr, bnot_t, bnot_f])
local macro_rules | `(tactic| walk_at "q") => `(tactic| ((try dsimp only); refine seq_ ?_; walk_at "p"))
local macro_rules | `(tactic| walk_at "g") => `(tactic| try simp only [gLt, gLe, gGt, gGe, gSub, gOrd, gI0, gI, gAdd, gNeg])
/-! ### steps at addresses -/
section
variable {S : Sto} {q : Addr} {ds ys : List D} {d z : D} {i k : Int} {j : Nat} {Q : HK} {K : Sto → Prop}
theorem ix_ref (h : S q = some (.lst ds)) (e : atI ds i = some d) (g : Q d S) : gIx (.ref q) (.int i) S Q := by
  show (match items S (.ref q) with
    | some ds => match atI ds i with
      | some d => Q d S
      | none => False
    | none => False)
  have : items S (.ref q) = some ds := by show (match S q with | some (.lst ds) => some ds | _ => none) = some ds; rw [h]
  rw [this]
  dsimp only
  rw [e]
  exact g
theorem set_ref (h : S q = some (.lst ds)) (e : ixN ds.length k = some j) (g : K (up S q (.lst (ds.set j z)))) : gSetI (.ref q) (.int k) z S K := by
  unfold gSetI
  dsimp only
  rw [h]
  dsimp only
  rw [e]
  exact g
theorem len_ref (h : S q = some (.lst ds)) (g : Q (.int ds.length) S) : gLen [.ref q] S Q := by
  show (match items S (.ref q) with
    | some xs => Q (.int xs.length) S
    | none => _)
  have : items S (.ref q) = some ds := by show (match S q with | some (.lst ds) => some ds | _ => none) = some ds; rw [h]
  rw [this]
  exact g
theorem app_ref (h : S q = some (.lst ds)) (l : ds.length < 16777216) (g : Q .non (up S q (.lst (ds ++ [d])))) : gAppend (.ref q) [d] S Q := by
  unfold gAppend
  dsimp only
  rw [h]
  exact ⟨l, g⟩
theorem is_lst_ref (h : S q = some (.lst ds)) : isLst S (.ref q) = true := by
  unfold isLst itemsL
  dsimp only
  rw [h] <;> rfl
theorem mt_ref {g : GM} {t : List D} (h : S q = some (.lst ds)) (r : g (.ref q) t S Q) : (match isLst S (.ref q) with | true => g (.ref q) t S Q | false => False) := by
  rw [is_lst_ref h]; exact r
theorem tup_ref (h : S q = some (.lst ds)) (g : Q (.tup ds) S) : gTuple [.ref q] S Q := by
  unfold gTuple
  dsimp only
  have : items S (.ref q) = some ds := by unfold items; dsimp only; rw [h]
  rw [this]
  exact g
theorem atI_nat {α : Type} {l : List α} {n : Nat} (h : n < l.length) : atI l (n : Int) = some l[n] := by
  unfold atI ixN
  rw [if_pos (by omega), if_pos (by omega)]
  simp [h]
theorem ixN_nat {l n : Nat} (h : n < l) : ixN l (n : Int) = some n := by
  unfold ixN
  rw [if_pos (by omega), if_pos (by omega)]
  simp
theorem atI_int {α : Type} {l : List α} {i : Int} (h0 : 0 ≤ i) (h : i < l.length) : ∃ x, atI l i = some x ∧ x ∈ l := by
  obtain ⟨n, rfl⟩ : ∃ n : Nat, i = n := ⟨i.toNat, by omega⟩
  exact ⟨_, atI_nat (by omega), List.getElem_mem _⟩
end
/-! ### the pen -/
/-- the pen at p: its row of cells at q, its spot at most n -/
def Pen (S : Sto) (p q : Addr) (n : Nat) : Prop := ∃ (cs : List Int) (s : Nat), S p = some (.lst [.ref q, .int s]) ∧ S q = some (.lst (cs.map D.int)) ∧ cs ≠ [] ∧ s ≤ n
/-- all but the pen stands -/
def Fr2 (p q : Addr) (S S' : Sto) : Prop := ∀ a, a ≠ p → a ≠ q → S' a = S a
theorem Fr2.rfl' {p q : Addr} {S : Sto} : Fr2 p q S S := fun _ _ _ => rfl
theorem Fr2.trans {p q : Addr} {S T U : Sto} (h : Fr2 p q S T) (k : Fr2 p q T U) : Fr2 p q S U := fun a h1 h2 => (k a h1 h2).trans (h a h1 h2)
theorem Pen.ne {S : Sto} {p q : Addr} {n : Nat} (h : Pen S p q n) : p ≠ q := by
  obtain ⟨cs, s, h1, h2, _⟩ := h
  intro e
  subst e
  rw [h1] at h2
  cases cs with
  | nil => cases h2
  | cons c cs => cases h2
theorem Pen.mono {S : Sto} {p q : Addr} {n m : Nat} (h : Pen S p q n) (l : n ≤ m) : Pen S p q m := by
  obtain ⟨cs, s, h1, h2, h3, h4⟩ := h
  exact ⟨cs, s, h1, h2, h3, Nat.le_trans h4 l⟩
theorem Pen.frame {S S' : Sto} {p q : Addr} {n : Nat} (h : Pen S p q n) (h1 : S' p = S p) (h2 : S' q = S q) : Pen S' p q n := by
  obtain ⟨cs, s, a, b, c, d⟩ := h
  exact ⟨cs, s, h1.trans a, h2.trans b, c, d⟩
theorem Pen.up {S : Sto} {p q a : Addr} {n : Nat} {m : M} (h : Pen S p q n) (ha : S a = none) : Pen (Hy.up S a m) p q n := by
  obtain ⟨cs, s, h1, h2, _⟩ := id h
  exact h.frame (up_ne (sne h1 ha)) (up_ne (sne h2 ha))
/-- at most so many draws -/
abbrev most : Nat := 1000000
def spDraw : HSp := fun ds S Q _ => ∃ (p q : Addr) (n : Nat) (m : Int), ds = [.ref p, .int m] ∧ 0 < m ∧ m ≤ 1000000 ∧ Pen S p q n ∧ n < most ∧ ∀ (v : Int) (S' : Sto), 0 ≤ v → v < m → Pen S' p q (n + 1) → Fr2 p q S S' → Q (.int v) S'
def rdDraw : HTS := (hSeq (hSet 2 (hop gIx (hV 0) (hC (.int 1))))
  (hSeq (hSetI (hV 0) (hC (.int 1)) (hop gAdd (hV 2) (hC (.int 1))))
  (hSeq (hSet 3 (hop gMod (hcb gInt1 (hCons (hV 2) hNil)) (hcb gLen (hCons (hop gIx (hV 0) (hC (.int 0))) hNil))))
  (hSeq (hSet 4 (hcb gInt1 (hCons (hop gIx (hop gIx (hV 0) (hC (.int 0))) (hV 3)) hNil)))
  (hSeq (hIfS (hB (hop gGe (hV 4) (hop gPow (hC (.int 10)) (hC (.int 18))))) (hSeq (hSetI (hop gIx (hV 0) (hC (.int 0))) (hV 3) (hop gDiv (hV 4) (hV 1)))
  (hRet (hop gMod (hcb gInt1 (hCons (hV 4) hNil)) (hV 1)))) hNx)
  (hSeq (hSet 5 (hop gPow (hcb gInt1 (hCons (hop gAdd (hop gAdd (hop gMulI (hop gMod (hcb gInt1 (hCons (hV 4) hNil)) (hC (.int 1000000007))) (hC (.int 48271))) (hop gMulI (hV 2) (hC (.int 7919)))) (hC (.int 104729))) hNil)) (hC (.int 5))))
  (hRet (hop gMod (hop gDiv (hcb gInt1 (hCons (hop gMod (hcb gInt1 (hCons (hV 5) hNil)) (hC (.int 2147483647))) hNil)) (hC (.int 8))) (hV 1)))))))))
theorem log_lt {i : Int} {n : Nat} (h : i.natAbs < 2 ^ n) (hn : 0 < n) : i.natAbs.log2 < n := by
  by_cases e : i.natAbs = 0
  · rw [e]; simpa using hn
  · exact (Nat.log2_lt e).mpr h
theorem mod_small {i m : Int} (h : 0 < m) : (i % m).natAbs < m.natAbs := by
  have h1 := Int.emod_nonneg i (Int.ne_of_gt h)
  have h2 := Int.emod_lt_of_pos i h
  omega
theorem draw_keeps {ds : List D} {S : Sto} {Q E : HK} (h : spDraw ds S Q E) : rdDraw (EN Q E) (startE 6 ds) S := by
  obtain ⟨p, q, n, m, rfl, hm, hm2, pen, hn, g⟩ := h
  obtain ⟨cs, s, hp, hq, hc, hs⟩ := id pen
  have ne := pen.ne
  have hcl : 0 < cs.length := List.length_pos_iff.mpr hc
  unfold rdDraw
  walk_at "q"
  refine ix_ref hp rfl ?_
  walk_at "q"
  refine set_ref (j := 1) hp rfl ?_
  have hp1 : up S p (.lst ([D.ref q, .int s].set 1 (.int (s + 1)))) p = some (.lst [.ref q, .int ((s + 1 : Nat) : Int)]) := up_same
  have hq1 : up S p (.lst ([D.ref q, .int s].set 1 (.int (s + 1)))) q = some (.lst (cs.map D.int)) := (up_ne (Ne.symm ne)).trans hq
  have fr1 : Fr2 p q S (up S p (.lst ([D.ref q, .int s].set 1 (.int (s + 1))))) := fun a h1 _ => up_ne h1
  generalize up S p (.lst ([D.ref q, .int s].set 1 (.int (s + 1)))) = S1 at hp1 hq1 fr1 ⊢
  walk_at "q"
  simp only [gInt1]
  refine ix_ref hp1 rfl ?_
  refine len_ref hq1 ?_
  have hl : ((cs.map D.int).length : Int) = cs.length := by simp
  have r0 := Int.emod_nonneg (s : Int) (show ((cs.map D.int).length : Int) ≠ 0 by omega)
  have r1 := Int.emod_lt_of_pos (s : Int) (show 0 < ((cs.map D.int).length : Int) by omega)
  refine ⟨by rw [hl]; omega, ?_⟩
  obtain ⟨at_, hat⟩ : ∃ at_ : Nat, (s : Int) % ((cs.map D.int).length : Int) = at_ := ⟨((s : Int) % ((cs.map D.int).length : Int)).toNat, by omega⟩
  have hlt : at_ < (cs.map D.int).length := by omega
  dsimp only
  rw [hat]
  have hlt2 : at_ < cs.length := by simpa using hlt
  have hx : atI (cs.map D.int) (at_ : Int) = some (.int cs[at_]) := by rw [atI_nat hlt]; simp
  generalize cs[at_] = c at hx
  walk_at "q"
  refine ix_ref hp1 rfl ?_
  refine ix_ref hq1 hx ?_
  simp only [gInt1]
  walk_at "q"
  refine ⟨⟨by decide, by decide, by decide⟩, ?_⟩
  cases decide ((10 : Int) ^ (18 : Int).toNat ≤ c) with
  | true =>
    walk_at "q"
    refine ⟨⟨hm, by omega⟩, ?_⟩
    refine ix_ref hp1 rfl ?_
    refine set_ref hq1 (ixN_nat hlt) ?_
    have ep : up S1 q (.lst ((cs.map D.int).set at_ (.int (c / m)))) p = some (.lst [.ref q, .int ((s + 1 : Nat) : Int)]) := (up_ne ne).trans hp1
    have eq : up S1 q (.lst ((cs.map D.int).set at_ (.int (c / m)))) q = some (.lst ((cs.set at_ (c / m)).map D.int)) := by rw [up_same, List.map_set]
    have fr2 : Fr2 p q S (up S1 q (.lst ((cs.map D.int).set at_ (.int (c / m))))) := fun a h1 h2 => (up_ne h2).trans (fr1 a h1 h2)
    simp only [gInt1]
    refine ⟨hm, ?_⟩
    exact Rt.mk (g _ _ (Int.emod_nonneg _ (by omega)) (Int.emod_lt_of_pos _ hm) ⟨_, s + 1, ep, eq, by simpa using hc, by omega⟩ fr2)
  | false =>
    have b1 := mod_small (i := c) (m := 1000000007) (by decide)
    walk_at "q"
    simp only [gInt1, gAdd]
    have hs6 : s ≤ 1000000 := Nat.le_trans hs (Nat.le_of_lt hn)
    refine ⟨by show (0 : Int) < 1000000007; decide, ?_⟩
    refine ⟨Nat.lt_of_lt_of_le (Nat.add_lt_add (log_lt (n := 64) (by omega) (by decide)) (log_lt (n := 64) (by decide) (by decide))) (by decide), ?_⟩
    refine ⟨Nat.lt_of_lt_of_le (Nat.add_lt_add (log_lt (n := 64) (by omega) (by decide)) (log_lt (n := 64) (by decide) (by decide))) (by decide), ?_⟩
    refine ⟨⟨by decide, by decide, by omega⟩, ?_⟩
    simp only [gInt1]
    walk_at "p"
    refine ⟨by decide, ?_⟩
    refine ⟨⟨by decide, by decide⟩, ?_⟩
    refine ⟨hm, ?_⟩
    exact Rt.mk (g _ _ (Int.emod_nonneg _ (by omega)) (Int.emod_lt_of_pos _ hm) ⟨_, s + 1, hp1, hq1, hc, by omega⟩ fr1)
theorem sq_items {S : Sto} {x : D} {xs : List D} {R : List D → Ck → Sto → Prop} (h : items S x = some xs) (g : R xs (ckOf x xs) S) : gSq x S R := by
  cases x with
  | str z => cases h
  | _ => unfold gSq; dsimp only; rw [h]; exact g
/-! ### picks -/
def spPick : HSp := fun ds S Q _ => ∃ (p q : Addr) (n : Nat) (x : D) (xs : List D), ds = [.ref p, x] ∧ items S x = some xs ∧ xs ≠ [] ∧ xs.length ≤ 1000000 ∧ Pen S p q n ∧ n < most ∧ (∀ S', Fr2 p q S S' → items S' x = some xs) ∧ ∀ (v : D) (S' : Sto), v ∈ xs → Pen S' p q (n + 1) → Fr2 p q S S' → Q v S'
def rdPick (sp : HSp) : HTS := (hRet (hop gIx (hV 1) (hCall 2 [] sp (hCons (hV 0) (hCons (hcb gLen (hCons (hV 1) hNil)) hNil)))))
theorem len_items {S : Sto} {x : D} {xs : List D} {Q : HK} (h : items S x = some xs) (g : Q (.int xs.length) S) : gLen [x] S Q := by
  cases x with
  | str z => cases h
  | ref p => unfold gLen; dsimp only; rw [h]; exact g
  | tup ys => cases h; exact g
  | lst ys => cases h; exact g
  | rls ys => cases h; exact g
  | _ => cases h
theorem ix_items {S : Sto} {x : D} {xs : List D} {i : Int} {d : D} {Q : HK} (h : items S x = some xs) (e : atI xs i = some d) (g : Q d S) : gIx x (.int i) S Q := by
  cases x with
  | str z => cases h
  | ref p => unfold gIx; dsimp only; rw [h]; dsimp only; rw [e]; exact g
  | tup ys => cases h; unfold gIx; dsimp only [items]; rw [e]; exact g
  | lst ys => cases h; unfold gIx; dsimp only [items]; rw [e]; exact g
  | rls ys => cases h; unfold gIx; dsimp only [items]; rw [e]; exact g
  | _ => cases h
theorem pick_keeps {ds : List D} {S : Sto} {Q E : HK} (h : spPick ds S Q E) : rdPick spDraw (EN Q E) (startE 2 ds) S := by
  obtain ⟨p, q, n, x, xs, rfl, hx, hne, hl, pen, hn, keep, g⟩ := h
  unfold rdPick
  walk_at "p"
  refine len_items hx ?_
  have := List.length_pos_iff.mpr hne
  refine ⟨p, q, n, _, rfl, by omega, by omega, pen, hn, fun v S' h0 h1 pen' fr => ?_⟩
  obtain ⟨d, e, hd⟩ := atI_int h0 h1
  exact ix_items (keep S' fr) e (Rt.mk (g d S' hd pen' fr))
end Hy

set_option Elab.async false
set_option linter.all false
set_option maxRecDepth 100000
set_option maxHeartbeats 4000000
set_option autoImplicit false
namespace Hy
open PySem PySem.Spec PyProof.Rows L2
local macro_rules | `(tactic| walk_at "p") => `(tactic| try simp only [hSet, hAsg, hRet, hRetN, hExpr, hIfS, hNx, hop, hun, hcb, hV, hC, hB, hTr, hNot, hAnd, hOr, hIf, hTup, hLst, hLstM, hCons, hNil, hCall, hMeth, hMake, hMt, hSl, hNoP, hPart, hSetI, hFst, hOrT, hAndT, hNotT, hAug, bindD, bindDs, hEqO, hInO, hGetO, hiEnum, hRaise, hPar3, hYes, hFor, hLc, hLcM, hiR1, hiR2, hiSq_eq, wipeN, startE, List.map_cons, List.map_nil, List.length_cons, List.length_nil, List.replicate, List.cons_append, List.nil_append, List.append_nil, List.getElem?_cons_zero, List.getElem?_cons_succ, List.set_cons_zero, List.set_cons_succ, Nat.reduceAdd, Nat.reduceSub, Nat.zero_add, gI0, gI, gTru, gFmt, gNeg, gOrd, gIsN, isN, ng, Nat.beq, Nat.ble, isStr, bnot_t, bnot_f])
local macro_rules | `(tactic| walk_at "q") => `(tactic| ((try dsimp only); refine seq_ ?_; walk_at "p"))
local macro_rules | `(tactic| walk_at "g") => `(tactic| try simp only [gLt, gLe, gGt, gGe, gSub, gOrd, gI0, gI, gAdd, gNeg])
/-! ### loops by an invariant over the turn's number -/
theorem floop_ix' {p : Pt} {tb : HTS} {k : Ck} {D0 : HEnds} (I : Nat → HEnv → Sto → Prop) : ∀ (l : List D) (j : Nat), (∀ i env S, i ≤ l.length → I (j + i) env S → ∀ A : Prop, A → chk k S A) →
    (∀ i d env S, l[i]? = some d → I (j + i) env S → ∃ env1, bindD p d env = some env1 ∧ ∀ K : HEnv → Sto → Prop, (∀ e S', I (j + i + 1) e S' → K e S') → tb { D0 with nx := K, ct := K, bk := D0.nx } env1 S) →
    (∀ env S, I (j + l.length) env S → D0.nx env S) → ∀ env S, I j env S → floop p tb k l D0 env S
  | [], j, hc, _, hf, env, S, h => hc 0 env S (Nat.le_refl _) h _ (hf env S h)
  | d :: l, j, hc, hs, hf, env, S, h => by
    refine hc 0 env S (Nat.zero_le _) h _ ?_
    obtain ⟨env1, e, hb⟩ := hs 0 d env S rfl h
    show (match bindD p d env with
      | some env1 => tb { D0 with nx := floop p tb k l D0, ct := floop p tb k l D0, bk := D0.nx } env1 S
      | none => False)
    rw [e]
    refine hb _ fun e' S' h' => floop_ix' I l (j + 1) (fun i env S hi => ?_) (fun i d' env S hd => ?_) (fun env S => ?_) e' S' h'
    · have := hc (i + 1) env S (by simpa using hi)
      rwa [show j + (i + 1) = j + 1 + i by omega] at this
    · have := hs (i + 1) d' env S (by simpa using hd)
      rwa [show j + (i + 1) = j + 1 + i by omega] at this
    · have := hf env S
      rwa [show j + (d :: l).length = j + 1 + l.length by simp; omega] at this
theorem floop_ix {p : Pt} {tb : HTS} {D0 : HEnds} (I : Nat → HEnv → Sto → Prop) (l : List D)
    (hs : ∀ i d env S, l[i]? = some d → I i env S → ∃ env1, bindD p d env = some env1 ∧ ∀ K : HEnv → Sto → Prop, (∀ e S', I (i + 1) e S' → K e S') → tb { D0 with nx := K, ct := K, bk := D0.nx } env1 S)
    (hf : ∀ env S, I l.length env S → D0.nx env S) {env : HEnv} {S : Sto} (h : I 0 env S) : floop p tb none l D0 env S :=
  floop_ix' I l 0 (fun i env S h1 h2 A a => (show chk none S A from a)) (fun i d env S hd hi => by rw [Nat.zero_add] at hi ⊢; exact hs i d env S hd hi) (fun env S hi => hf env S (by rwa [Nat.zero_add] at hi)) env S h
/-- a list that may change is walked: it stands -/
theorem floop_rf {p : Pt} {tb : HTS} {D0 : HEnds} {q : Addr} (I : Nat → HEnv → Sto → Prop) (l : List D) (hq : ∀ i env S, I i env S → S q = some (.lst l))
    (hs : ∀ i d env S, l[i]? = some d → I i env S → ∃ env1, bindD p d env = some env1 ∧ ∀ K : HEnv → Sto → Prop, (∀ e S', I (i + 1) e S' → K e S') → tb { D0 with nx := K, ct := K, bk := D0.nx } env1 S)
    (hf : ∀ env S, I l.length env S → D0.nx env S) {env : HEnv} {S : Sto} (h : I 0 env S) : floop p tb (some (q, l)) l D0 env S :=
  floop_ix' I l 0 (fun i env S _ hi A a => (show chk (some (q, l)) S A from ⟨hq _ env S hi, a⟩)) (fun i d env S hd hi => by rw [Nat.zero_add] at hi ⊢; exact hs i d env S hd hi) (fun env S hi => hf env S (by rwa [Nat.zero_add] at hi)) env S h
theorem floop_nm {j : Nat} {tb : HTS} {d : D} {l : List D} {D0 : HEnds} {env : HEnv} {S : Sto} (h : tb { D0 with nx := floop (.nm j) tb none l D0, ct := floop (.nm j) tb none l D0, bk := D0.nx } (env.set j (some d)) S) : floop (.nm j) tb none (d :: l) D0 env S := h
theorem rngD_at {lo : Int} {n i : Nat} {d : D} (h : (rngD lo n)[i]? = some d) : i < n ∧ d = .int (lo + (i : Nat)) := by
  unfold rngD at h
  rw [List.getElem?_map] at h
  obtain ⟨j, h1, h2⟩ := Option.map_eq_some_iff.mp h
  obtain ⟨hl, h3⟩ := List.getElem?_eq_some_iff.mp h1
  rw [List.getElem_range] at h3
  subst h3
  exact ⟨by simpa using hl, h2.symm⟩
/-- a comprehension that changes nothing: f of each item, or nothing -/
theorem cloop_fm {p : Pt} {tt : HTT} {te : HTE} {k : Ck} {env : HEnv} {S : Sto} {Q : HK} (f : D → Option D) (hc : ∀ A : Prop, A → chk k S A) : ∀ (l acc : List D),
    (∀ d ∈ l, ∃ env1, bindD p d env = some env1 ∧ ((f d = none ∧ ∀ (R : Bool → Sto → Prop) (E : HK), R false S → tt env1 S R E) ∨ ∃ y, f d = some y ∧ (∀ (R : Bool → Sto → Prop) (E : HK), R true S → tt env1 S R E) ∧ ∀ (R E : HK), R y S → te env1 S R E)) →
    Q (.lst (acc ++ l.filterMap f)) S → cloop p tt te k l acc env S Q
  | [], acc, _, h => hc _ (by rw [List.filterMap_nil, List.append_nil] at h; exact h)
  | d :: l, acc, hs, h => by
    refine hc _ ?_
    obtain ⟨env1, e, hb⟩ := hs d List.mem_cons_self
    rw [e]
    have hs' := fun d' hd => hs d' (List.mem_cons_of_mem _ hd)
    rcases hb with ⟨e1, ht⟩ | ⟨y, e1, ht, hy⟩
    · refine ht _ _ (cloop_fm f hc l acc hs' ?_)
      rwa [List.filterMap_cons_none e1] at h
    · refine ht _ _ (hy _ _ (cloop_fm f hc l (acc ++ [y]) hs' ?_))
      rw [List.filterMap_cons_some e1] at h
      rwa [List.append_assoc]
theorem cloop_map {p : Pt} {te : HTE} {k : Ck} {env : HEnv} {S : Sto} {Q : HK} (f : D → D) (hc : ∀ A : Prop, A → chk k S A) : ∀ (l acc : List D),
    (∀ d ∈ l, ∃ env1, bindD p d env = some env1 ∧ ∀ (R E : HK), R (f d) S → te env1 S R E) → Q (.lst (acc ++ l.map f)) S → cloop p hYes te k l acc env S Q
  | [], acc, _, h => hc _ (by rw [List.map_nil, List.append_nil] at h; exact h)
  | d :: l, acc, hs, h => by
    refine hc _ ?_
    obtain ⟨env1, e, hy⟩ := hs d List.mem_cons_self
    rw [e]
    refine hy _ _ (cloop_map f hc l (acc ++ [f d]) (fun d' hd => hs d' (List.mem_cons_of_mem _ hd)) ?_)
    rw [List.map_cons] at h
    rwa [List.append_assoc]
theorem no_ck (S : Sto) (A : Prop) (a : A) : chk none S A := a
theorem rf_ck {q : Addr} {l : List D} {S : Sto} (h : S q = some (.lst l)) (A : Prop) (a : A) : chk (some (q, l)) S A := ⟨h, a⟩
/-- a comprehension that may change things, by an invariant over the turn, what is made, and the store -/
theorem cloop_ix {p : Pt} {tt : HTT} {te : HTE} {env : HEnv} {Q : HK} (I : Nat → List D → Sto → Prop) : ∀ (l : List D) (j : Nat) (acc : List D) (S : Sto),
    (∀ i d acc S, l[i]? = some d → I (j + i) acc S → ∃ env1, bindD p d env = some env1 ∧ ∀ R : List D → Sto → Prop, (∀ acc' S', I (j + i + 1) acc' S' → R acc' S') → tt env1 S (fun b S1 => match b with
      | true => te env1 S1 (fun y S2 => R (acc ++ [y]) S2) fun _ _ => False
      | false => R acc S1) fun _ _ => False) →
    (∀ acc S, I (j + l.length) acc S → Q (.lst acc) S) → I j acc S → cloop p tt te none l acc env S Q
  | [], j, acc, S, _, hf, h => hf acc S h
  | d :: l, j, acc, S, hs, hf, h => by
    obtain ⟨env1, e, hb⟩ := hs 0 d acc S rfl h
    show (match bindD p d env with
      | some env1 => tt env1 S (fun b S1 => match b with
        | true => te env1 S1 (fun y S2 => cloop p tt te none l (acc ++ [y]) env S2 Q) fun _ _ => False
        | false => cloop p tt te none l acc env S1 Q) fun _ _ => False
      | none => False)
    rw [e]
    refine hb (fun acc' S' => cloop p tt te none l acc' env S' Q) fun acc' S' h' => cloop_ix I l (j + 1) acc' S' (fun i d' acc S hd hi => ?_) (fun acc S hi => ?_) h'
    · have := hs (i + 1) d' acc S (by simpa using hd)
      rw [show j + (i + 1) = j + 1 + i by omega] at this
      exact this hi
    · have := hf acc S
      rw [show j + (d :: l).length = j + 1 + l.length by simp; omega] at this
      exact this hi
/-! ### helps, moved here from elder texts -/
theorem over_lst {α : Type} {dec : List D → Option α} {f : α → Sto → HK → Prop} {xs : List D} {ns : α} {S : Sto} {Q : HK} (e : dec xs = some ns) (h : f ns S Q) : gOver dec f [.lst xs] S Q := by
  unfold gOver
  dsimp only [itemsL]
  rw [e]
  exact h
theorem cut_take (xs : List D) (n : Nat) : cutD xs none (some (n : Int)) = xs.take n := by
  unfold cutD
  rw [HT.sIx_none, HT.sIx_nat, List.drop_zero, Nat.sub_zero]
  by_cases h : n ≤ xs.length
  · rw [Nat.min_eq_left h]
  · rw [Nat.min_eq_right (by omega), List.take_of_length_le (Nat.le_refl _), List.take_of_length_le (by omega)]
theorem rng_eq (n : Nat) : rngD 0 n = (List.range' 0 n).map fun (j : Nat) => D.int (0 + (j : Int)) := by
  unfold rngD
  rw [List.range_eq_range']
theorem sl_seq {c : List D → D} {xs : List D} {n : Nat} {S : Sto} {Q : HK} (hc : c = .tup ∨ c = .lst) (h : Q (c (xs.take n)) S) : gSl (c xs) none (some (n : Int)) S Q := by
  rcases hc with rfl | rfl
  · show Q (.tup (cutD xs none (some (n : Int)))) S
    rw [cut_take]; exact h
  · show Q (.lst (cutD xs none (some (n : Int)))) S
    rw [cut_take]; exact h
theorem tup_lst {xs : List D} {S : Sto} {Q : HK} (h : Q (.tup xs) S) : gTuple [.lst xs] S Q := h
theorem tup_tup {xs : List D} {S : Sto} {Q : HK} (h : Q (.tup xs) S) : gTuple [.tup xs] S Q := h
theorem fst_ref {ix : Nat → Option Nat} {c i : Nat} {q : Addr} {ds ds' : List D} {d : D} {S : Sto} {K : Sto → Prop} (h : S q = some (.ins c ds)) (e : ix c = some i) (e2 : putD ds i d = some ds') (g : K (up S q (.ins c ds'))) : gFst ix (.ref q) d S K := by
  unfold gFst
  dsimp only
  rw [h]
  dsimp only
  rw [e]
  dsimp only
  rw [e2]
  exact g
theorem fld_ref {ix : Nat → Option Nat} {c i : Nat} {q : Addr} {ds : List D} {d : D} {S : Sto} {Q : HK} (h : S q = some (.ins c ds)) (e : ix c = some i) (e2 : ds[i]? = some d) (g : Q d S) : gFld ix (.ref q) S Q := by
  unfold gFld
  dsimp only
  rw [h]
  dsimp only
  rw [e]
  dsimp only
  rw [e2]
  exact g
theorem eqv_ints : ∀ a b : List Int, PyData.eqvAll (toPs (a.map D.int)) (toPs (b.map D.int)) = true ↔ a = b
  | [], [] => by simp [toPs, PyData.eqvAll]
  | [], _ :: _ => by simp [toPs, PyData.eqvAll]
  | _ :: _, [] => by simp [toPs, PyData.eqvAll]
  | x :: a, y :: b => by
    have ih := eqv_ints a b
    simp only [List.map_cons, toPs, toP, PyData.eqvAll, PyData.eqv, Bool.and_eq_true, ih, beq_iff_eq, List.cons.injEq]
theorem deq_str (a b : Str) : deq (.str a) (.str b) = (a == b) := by simp [deq, toP, PyData.eqv]
theorem eq_lits {a b : Str} {r : Bool} {S : Sto} {Q : HK} (e : (a == b) = r) (h : Q (.bl r) S) : gEq (.str a) (.str b) S Q := by
  show Q (.bl (ng false (deq (.str a) (.str b)))) S
  rw [deq_str, e]
  exact h
theorem in_lits {neg : Bool} {a : Str} {ss : List Str} {r : Bool} {S : Sto} {Q : HK} (e : (ss.any fun z => z == a) = r) (h : Q (.bl (ng neg r)) S) : gInG neg (.str a) (.tup (ss.map D.str)) S Q := by
  have e1 : ((ss.map D.str).any fun z => deq z (.str a)) = r := by
    rw [List.any_map, ← e]
    congr 1 <;> (funext z; exact deq_str z a)
  have e2 : (flatD (.str a) && (ss.map D.str).all flatD) = true := by
    rw [List.all_map]
    show (true && ss.all fun _ => true) = true
    simp
  show (match flatD (.str a) && (ss.map D.str).all flatD with
      | true => Q (.bl (ng neg ((ss.map D.str).any fun z => deq z (.str a)))) S
      | false => _)
  rw [e2, e1]
  exact h
theorem fst_ref' {ix : Nat → Option Nat} {c i : Nat} {q : Addr} {ds ds' : List D} {d : D} {S : Sto} {K : Sto → Prop} (h : S q = some (.ins c ds)) (e : ix c = some i) (e2 : putD ds i d = some ds') (g : K (up S q (.ins c ds'))) : gFst ix (.ref q) d S K := fst_ref h e e2 g
theorem doks_intsA : ∀ (b : List Int) (m : Nat), doks m (b.map D.int) = true
  | [], m => by simp [doks]
  | x :: b, m => by
    have := doks_intsA b m
    simp [doks, dok, this]
theorem deq_intsL (a b : List Int) : deq (.lst (a.map D.int)) (.lst (b.map D.int)) = decide (a = b) := by
  rw [Bool.eq_iff_iff, decide_eq_true_iff]
  show PyData.eqv (.list _) (.list _) = true ↔ _
  simp only [PyData.eqv]
  exact eqv_ints a b
theorem deq_intsT (a b : List Int) : deq (.tup (a.map D.int)) (.tup (b.map D.int)) = decide (a = b) := by
  rw [Bool.eq_iff_iff, decide_eq_true_iff]
  show PyData.eqv (.tuple _) (.tuple _) = true ↔ _
  simp only [PyData.eqv]
  exact eqv_ints a b
theorem eq_intsL {neg : Bool} {a b : List Int} {S : Sto} {Q : HK} (h : Q (.bl (ng neg (decide (a = b)))) S) : gEqG neg (.lst (a.map D.int)) (.lst (b.map D.int)) S Q := by
  show (match dok 60 (.lst (a.map D.int)) && dok 60 (.lst (b.map D.int)) with
    | true => Q (.bl (ng neg (deq (.lst (a.map D.int)) (.lst (b.map D.int))))) S
    | false => False)
  rw [show dok 60 (.lst (a.map D.int)) = true from doks_intsA a 59, show dok 60 (.lst (b.map D.int)) = true from doks_intsA b 59, deq_intsL]
  exact h
theorem eq_intsT {neg : Bool} {a b : List Int} {S : Sto} {Q : HK} (h : Q (.bl (ng neg (decide (a = b)))) S) : gEqG neg (.tup (a.map D.int)) (.tup (b.map D.int)) S Q := by
  show (match dok 60 (.tup (a.map D.int)) && dok 60 (.tup (b.map D.int)) with
    | true => Q (.bl (ng neg (deq (.tup (a.map D.int)) (.tup (b.map D.int))))) S
    | false => False)
  rw [show dok 60 (.tup (a.map D.int)) = true from doks_intsA a 59, show dok 60 (.tup (b.map D.int)) = true from doks_intsA b 59, deq_intsT]
  exact h
theorem eq_ints {neg : Bool} {i j : Int} {S : Sto} {Q : HK} (h : Q (.bl (ng neg (decide (i = j)))) S) : gEqG neg (.int i) (.int j) S Q := by
  show Q (.bl (ng neg (deq (.int i) (.int j)))) S
  rw [show deq (.int i) (.int j) = decide (i = j) by
    rw [Bool.eq_iff_iff, decide_eq_true_iff]
    simp [deq, toP, PyData.eqv]]
  exact h
/-- equality of any data that can be told -/
theorem eq_data {neg : Bool} {x y : D} {r : Bool} {S : Sto} {Q : HK} (d1 : dok 60 (dr S x) = true) (d2 : dok 60 (dr S y) = true) (e : deq (dr S x) (dr S y) = r) (h : Q (.bl (ng neg r)) S) : gEqG neg x y S Q := by
  unfold gEqG
  split
  · rename_i s t
    rw [← e, show deq (dr S (.str s)) (dr S (.str t)) = (s == t) from deq_str s t] at h
    exact h
  · rw [d1, d2, e]
    exact h
end Hy

set_option Elab.async false
set_option linter.all false
set_option maxRecDepth 100000
set_option maxHeartbeats 4000000
set_option autoImplicit false
namespace Hy
open PySem PySem.Spec PyProof.Rows L2
local macro_rules | `(tactic| walk_at "p") => `(tactic| try simp only [hSet, hAsg, hRet, hRetN, hExpr, hIfS, hNx, hop, hun, hcb, hV, hC, hB, hTr, hNot, hAnd, hOr, hIf, hTup, hLst, hLstM, hCons, hNil, hCall, hMeth, hMake, hMt, hSl, hNoP, hPart, hSetI, hFst, hOrT, hAndT, hNotT, hAug, bindD, bindDs, hEqO, hInO, hGetO, hiEnum, hRaise, hPar3, hPar, hFaug, hChain, hDput, hDnew, hDisp, hPrs, keyD, keysD, hYes, hFor, hLc, hLcM, hiR1, hiR2, hiSq_eq, wipeN, startE, List.map_cons, List.map_nil, List.length_cons, List.length_nil, List.replicate, List.cons_append, List.nil_append, List.append_nil, List.getElem?_cons_zero, List.getElem?_cons_succ, List.set_cons_zero, List.set_cons_succ, Nat.reduceAdd, Nat.reduceSub, Nat.zero_add, gI0, gI, gTru, gFmt, gNeg, gOrd, gIsN, isN, ng, Nat.beq, Nat.ble, isStr, bnot_t, bnot_f])
local macro_rules | `(tactic| walk_at "q") => `(tactic| ((try dsimp only); refine seq_ ?_; walk_at "p"))
local macro_rules | `(tactic| walk_at "g") => `(tactic| try simp only [gLt, gLe, gGt, gGe, gSub, gOrd, gI0, gI, gAdd, gNeg])
/-! ### steps -/
theorem ifs {c : HTT} {t u : HTS} {D0 : HEnds} {env : HEnv} {S : Sto} (b : Bool) (h : ∀ (R : Bool → Sto → Prop) (E : HK), R b S → c env S R E) (ht : b = true → t D0 env S) (hf : b = false → u D0 env S) : hIfS c t u D0 env S :=
  h _ _ (by cases b with
    | true => exact ht rfl
    | false => exact hf rfl)
theorem seqif {c : HTT} {t u : HTS} {D0 : HEnds} {env : HEnv} {S : Sto} (b : Bool) (h : ∀ (R : Bool → Sto → Prop) (E : HK), R b S → c env S R E) (ht : b = true → t { D0 with nx := u D0 } env S) (hf : b = false → u D0 env S) : hSeq (hIfS c t hNx) u D0 env S := ifs b h ht hf
theorem set_ {i : Nat} {te : HTE} {u : HTS} {D0 : HEnds} {env : HEnv} {S : Sto} (d : D) (S' : Sto) (h : ∀ (R E : HK), R d S' → te env S R E) (hn : u D0 (env.set i (some d)) S') : hSeq (hSet i te) u D0 env S := h _ _ hn
theorem setN {i : Nat} {te : HTE} {u : HTS} {D0 : HEnds} {env : HEnv} {S : Sto} (P : D → Sto → Prop) (h : ∀ (R E : HK), (∀ d S', P d S' → R d S') → te env S R E) (hn : ∀ d S', P d S' → u D0 (env.set i (some d)) S') : hSeq (hSet i te) u D0 env S := h _ _ hn
theorem stepN {t u : HTS} {D0 : HEnds} {env : HEnv} {S : Sto} (P : HEnv → Sto → Prop) (h : ∀ D1 : HEnds, (∀ e S', P e S' → D1.nx e S') → t D1 env S) (hn : ∀ e S', P e S' → u D0 e S') : hSeq t u D0 env S :=
  h { D0 with nx := u D0 } fun e S' hp => hn e S' hp
theorem addI {i j : Int} {S : Sto} {Q : HK} (h : Q (.int (i + j)) S) : gAdd (.int i) (.int j) S Q := h
theorem sqL {xs : List D} {S : Sto} {R : List D → Ck → Sto → Prop} (h : R xs none S) : gSq (.lst xs) S R := h
theorem addLL {xs ys : List D} {S : Sto} {Q : HK} (hl : xs.length + ys.length ≤ 16777216) (h : Q (.lst (xs ++ ys)) S) : gAdd (.lst xs) (.lst ys) S Q := ⟨line_le hl, h⟩
theorem floop_one {p : Pt} {tb : HTS} {d : D} {l : List D} {D0 : HEnds} {env env1 : HEnv} {S : Sto} (e : bindD p d env = some env1) (h : tb { D0 with nx := floop p tb none l D0, ct := floop p tb none l D0, bk := D0.nx } env1 S) : floop p tb none (d :: l) D0 env S := by
  show (match bindD p d env with
    | some env1 => tb { D0 with nx := floop p tb none l D0, ct := floop p tb none l D0, bk := D0.nx } env1 S
    | none => False)
  rw [e]
  exact h
theorem cloop_gen {α : Type} {j : Nat} {tt : HTT} {te : HTE} {env : HEnv} {S : Sto} {R : HK} (f g : α → D) (p : α → Bool) : ∀ (l : List α) (acc : List D), (∀ x ∈ l, ∀ (R : Bool → Sto → Prop) (E : HK), R (p x) S → tt (env.set j (some (f x))) S R E) → (∀ x ∈ l, ∀ (R E : HK), R (g x) S → te (env.set j (some (f x))) S R E) → R (.lst (acc ++ (l.filter p).map g)) S →
    cloop (.nm j) tt te none (l.map f) acc env S R
  | [], acc, _, _, h => by
    rw [List.filter_nil, List.map_nil, List.append_nil] at h
    exact h
  | x :: l, acc, ht, he, h => by
    have ih := fun acc h => cloop_gen (j := j) (tt := tt) (te := te) (env := env) (S := S) (R := R) f g p l acc (fun y hy => ht y (List.mem_cons_of_mem _ hy)) (fun y hy => he y (List.mem_cons_of_mem _ hy)) h
    generalize hL : l.map f = L at ih
    simp only [List.map_cons, hL, cloop, chk, bindD]
    refine ht x List.mem_cons_self _ _ ?_
    cases hp : p x with
    | true =>
      refine he x List.mem_cons_self _ _ ?_
      refine ih _ ?_
      rw [List.filter_cons_of_pos hp, List.map_cons] at h
      rw [List.append_assoc]
      exact h
    | false =>
      refine ih _ ?_
      rw [List.filter_cons_of_neg (by rw [hp]; decide)] at h
      exact h
theorem yes_ {env : HEnv} {S : Sto} {R : Bool → Sto → Prop} {E : HK} (h : R true S) : hYes env S R E := h
mutual
theorem toP_reflX : ∀ d : D, PyData.eqv (toP d) (toP d) = true
  | .non => by simp [toP, PyData.eqv]
  | .bl _ => by simp [toP, PyData.eqv]
  | .int _ => by simp [toP, PyData.eqv]
  | .str _ => by simp [toP, PyData.eqv]
  | .ref _ => by simp [toP, PyData.eqv]
  | .ty _ => by simp [toP, PyData.eqv]
  | .tup ds => by
    have := toPs_reflX ds
    simpa [toP, PyData.eqv] using this
  | .lst ds => by
    have := toPs_reflX ds
    simpa [toP, PyData.eqv] using this
  | .rls ds => by
    have := toPs_reflX ds
    simpa [toP, PyData.eqv] using this
  | .obj _ _ => by simp [toP, PyData.eqv]
  | .exc _ _ => by simp [toP, PyData.eqv]
  | .tpx _ => by simp [toP, PyData.eqv]
theorem toPs_reflX : ∀ ds : List D, PyData.eqvAll (toPs ds) (toPs ds) = true
  | [] => rfl
  | d :: ds => by rw [toPs, PyData.eqvAll, toP_reflX d, toPs_reflX ds]; rfl
end
theorem doks_allX {m : Nat} : ∀ (l : List D), (∀ d ∈ l, dok m d = true) → doks m l = true
  | [], _ => by simp [doks]
  | d :: l, h => by rw [doks, h d List.mem_cons_self, doks_allX l fun x hx => h x (List.mem_cons_of_mem _ hx)]; rfl
theorem eq_selfLX {neg : Bool} {l : List D} {S : Sto} {Q : HK} (h : ∀ d ∈ l, dok 59 d = true) (q : Q (.bl (ng neg true)) S) : gEqG neg (.lst l) (.lst l) S Q :=
  eq_data (r := true) (show dok 60 (.lst l) = true from doks_allX l h) (show dok 60 (.lst l) = true from doks_allX l h) (toP_reflX (.lst l)) q
/-! ### the pen of these laws: a cell, a flag, the draws so far -/
def SPen (S : Sto) (p : Addr) (n : Nat) : Prop := ∃ (x f : Int) (c : Nat), S p = some (.lst [.int x, .int f, .int (c : Nat)]) ∧ c ≤ n
def rdState : HTS := (hRet (hLstM (hCons (hcb gInt1 (hCons (hV 0) hNil)) (hCons (hcb gInt1 (hCons (hop gGe (hV 0) (hop gPow (hC (.int 10)) (hC (.int 18)))) hNil)) (hCons (hC (.int 0)) hNil)))))
def spState : HSp := fun ds S Q _ => ∃ x : Int, ds = [.int x] ∧ ∀ p S', S p = none → SPen S' p 0 → (∀ a, a ≠ p → S' a = S a) → Q (.ref p) S'
theorem state_keeps {ds : List D} {S : Sto} {Q E : HK} (h : spState ds S Q E) : rdState (EN Q E) (startE 1 ds) S := by
  obtain ⟨x, rfl, g⟩ := h
  show rdState (EN Q E) [some (.int x)] S
  unfold rdState
  walk_at "p"
  try simp only [gInt1]
  try walk_at "g"
  refine ⟨⟨by decide, by decide, by decide⟩, ?_⟩
  try simp only [gInt1]
  intro p hp
  exact Rt.mk (g p _ hp ⟨x, _, 0, up_same, Nat.le_refl _⟩ fun a ha => up_ne ha)
def rdDrawS : HTS := (hSeq (hSetI (hV 0) (hC (.int 2)) (hop gAdd (hop gIx (hV 0) (hC (.int 2))) (hC (.int 1))))
  (hSeq (hIfS (hB (hop gEq (hop gIx (hV 0) (hC (.int 1))) (hC (.int 1)))) (hSeq (hSet 2 (hop gMod (hcb gInt1 (hCons (hop gIx (hV 0) (hC (.int 0))) hNil)) (hV 1)))
  (hSeq (hSetI (hV 0) (hC (.int 0)) (hop gDiv (hop gIx (hV 0) (hC (.int 0))) (hV 1)))
  (hRet (hV 2)))) hNx)
  (hSeq (hSet 3 (hop gPow (hcb gInt1 (hCons (hop gAdd (hop gAdd (hop gMod (hcb gInt1 (hCons (hop gIx (hV 0) (hC (.int 0))) hNil)) (hC (.int 2147483647))) (hop gMulI (hop gIx (hV 0) (hC (.int 2))) (hC (.int 69623)))) (hC (.int 48271))) hNil)) (hC (.int 5))))
  (hRet (hop gMod (hcb gInt1 (hCons (hop gDiv (hop gMod (hcb gInt1 (hCons (hV 3) hNil)) (hC (.int 2305843009213693951))) (hC (.int 4096))) hNil)) (hV 1))))))
def spDrawS : HSp := fun ds S Q _ => ∃ (p : Addr) (n : Nat) (m : Int), ds = [.ref p, .int m] ∧ 0 < m ∧ m ≤ 1000000 ∧ SPen S p n ∧ n < 1000000 ∧ ∀ (v : Int) (S' : Sto), 0 ≤ v → v < m → SPen S' p (n + 1) → (∀ a, a ≠ p → S' a = S a) → Q (.int v) S'
theorem drawS_keeps {ds : List D} {S : Sto} {Q E : HK} (h : spDrawS ds S Q E) : rdDrawS (EN Q E) (startE 4 ds) S := by
  obtain ⟨p, n, m, rfl, hm, hm2, ⟨x, f, c, hp, hc⟩, hn, g⟩ := h
  show rdDrawS (EN Q E) [some (.ref p), some (.int m), none, none] S
  unfold rdDrawS
  refine seq_ ?_
  simp only [hSetI, hop, hV, hC, List.getElem?_cons_zero, List.getElem?_cons_succ]
  refine ix_ref hp rfl ?_
  refine addI ?_
  refine set_ref (j := 2) hp rfl ?_
  have hp1 : up S p (.lst ([D.int x, .int f, .int (c : Nat)].set 2 (.int ((c : Nat) + 1)))) p = some (.lst [.int x, .int f, .int ((c + 1 : Nat) : Int)]) := up_same
  have fr1 : ∀ a, a ≠ p → up S p (.lst ([D.int x, .int f, .int (c : Nat)].set 2 (.int ((c : Nat) + 1)))) a = S a := fun a h1 => up_ne h1
  generalize up S p (.lst ([D.int x, .int f, .int (c : Nat)].set 2 (.int ((c : Nat) + 1)))) = S1 at hp1 fr1 ⊢
  refine seqif (decide (f = 1)) (fun R E hR => ?_) (fun _ => ?_) (fun _ => ?_)
  · simp only [hB, hop, hV, hC, List.getElem?_cons_zero, List.getElem?_cons_succ]
    refine ix_ref hp1 rfl ?_
    exact eq_ints (neg := false) hR
  · refine set_ (.int (x % m)) S1 (fun R E hR => ?_) ?_
    · simp only [hop, hcb, hCons, hNil, hV, hC, List.getElem?_cons_zero, List.getElem?_cons_succ]
      refine ix_ref hp1 rfl ?_
      exact ⟨hm, hR⟩
    dsimp only [List.set_cons_succ, List.set_cons_zero]
    refine seq_ ?_
    simp only [hSetI, hop, hV, hC, List.getElem?_cons_zero, List.getElem?_cons_succ]
    refine ix_ref hp1 rfl ?_
    refine ⟨⟨hm, by omega⟩, ?_⟩
    refine set_ref (j := 0) hp1 rfl ?_
    simp only [hRet, hV, List.getElem?_cons_zero, List.getElem?_cons_succ]
    exact Rt.mk (g _ _ (Int.emod_nonneg _ (by omega)) (Int.emod_lt_of_pos _ hm) ⟨x / m, f, c + 1, up_same, by omega⟩ fun a ha => (up_ne ha).trans (fr1 a ha))
  · have b1 := mod_small (i := x) (m := 2147483647) (by decide)
    have hc6 : c ≤ 1000000 := by omega
    refine setN (fun d S2 => S2 = S1 ∧ ∃ z : Int, d = .int z) (fun R E hR => ?_) fun d S2 ⟨eS, z, ed⟩ => ?_
    · simp only [hop, hcb, hCons, hNil, hV, hC, List.getElem?_cons_zero, List.getElem?_cons_succ]
      refine ix_ref hp1 rfl ?_
      refine ⟨show (0 : Int) < 2147483647 by decide, ?_⟩
      refine ix_ref hp1 rfl ?_
      refine ⟨Nat.lt_of_lt_of_le (Nat.add_lt_add (log_lt (n := 64) (by omega) (by decide)) (log_lt (n := 64) (by decide) (by decide))) (by decide), ?_⟩
      refine addI ?_
      refine addI ?_
      refine ⟨⟨by decide, by decide, by omega⟩, ?_⟩
      exact hR _ _ ⟨rfl, _, rfl⟩
    subst ed
    rw [eS]
    dsimp only [List.set_cons_succ, List.set_cons_zero]
    simp only [hRet, hop, hcb, hCons, hNil, hV, hC, List.getElem?_cons_zero, List.getElem?_cons_succ]
    refine ⟨show (0 : Int) < 2305843009213693951 by decide, ?_⟩
    refine ⟨⟨by decide, by decide⟩, ?_⟩
    refine ⟨hm, ?_⟩
    exact Rt.mk (g _ _ (Int.emod_nonneg _ (by omega)) (Int.emod_lt_of_pos _ hm) ⟨x, f, c + 1, hp1, by omega⟩ fr1)
def rdCell : HTS := (hSeq (hIfS (hB (hop gLt (hV 1) (hcb gLen (hCons (hV 0) hNil)))) (hRet (hop gIx (hV 0) (hV 1))) hNx)
  (hRet (hop gAdd (hC (.int 7)) (hV 1))))
def spCell : HSp := fun ds S Q _ => ∃ (ns : List Int) (i : Nat), ds = [.rls (ns.map D.int), .int (i : Nat)] ∧ ∀ v : Int, Q (.int v) S
theorem cell_keeps {ds : List D} {S : Sto} {Q E : HK} (h : spCell ds S Q E) : rdCell (EN Q E) (startE 2 ds) S := by
  obtain ⟨ns, i, rfl, g⟩ := h
  show rdCell (EN Q E) [some (.rls (ns.map D.int)), some (.int (i : Nat))] S
  unfold rdCell
  refine seqif (decide (i < ns.length)) (fun R E hR => ?_) (fun hi => ?_) (fun _ => ?_)
  · simp only [hB, hop, hcb, hCons, hNil, hV, hC, List.getElem?_cons_zero, List.getElem?_cons_succ]
    refine len_items (xs := ns.map D.int) rfl ?_
    rw [List.length_map]
    walk_at "g"
    rw [show decide ((i : Int) < (ns.length : Int)) = decide (i < ns.length) by rw [decide_eq_decide]; omega]
    exact hR
  · have hi' : i < ns.length := of_decide_eq_true hi
    simp only [hRet, hop, hV, List.getElem?_cons_zero, List.getElem?_cons_succ]
    refine ix_items (xs := ns.map D.int) rfl (d := .int ns[i]) ?_ (Rt.mk (g _))
    rw [atI_nat (by rw [List.length_map]; exact hi')]
    simp
  · simp only [hRet, hop, hV, hC, List.getElem?_cons_zero, List.getElem?_cons_succ]
    exact addI (Rt.mk (g _))
end Hy

set_option Elab.async false
set_option linter.all false
set_option maxRecDepth 100000
set_option maxHeartbeats 4000000
set_option autoImplicit false
namespace Hy
open PySem PySem.Spec PyProof.Rows L2
local macro_rules | `(tactic| walk_at "p") => `(tactic| try simp only [hSet, hAsg, hRet, hRetN, hExpr, hIfS, hNx, hop, hun, hcb, hV, hC, hB, hTr, hNot, hAnd, hOr, hIf, hTup, hLst, hLstM, hCons, hNil, hCall, hMeth, hMake, hMt, hSl, hNoP, hPart, hSetI, hFst, hOrT, hAndT, hNotT, hAug, bindD, bindDs, hEqO, hInO, hGetO, hiEnum, hRaise, hPar3, hPar, hFaug, hChain, hDput, hDnew, hDisp, hPrs, keyD, keysD, hYes, hFor, hLc, hLcM, hiR1, hiR2, hiSq_eq, wipeN, startE, List.map_cons, List.map_nil, List.length_cons, List.length_nil, List.replicate, List.cons_append, List.nil_append, List.append_nil, List.getElem?_cons_zero, List.getElem?_cons_succ, List.set_cons_zero, List.set_cons_succ, Nat.reduceAdd, Nat.reduceSub, Nat.zero_add, gI0, gI, gTru, gFmt, gNeg, gOrd, gIsN, isN, ng, Nat.beq, Nat.ble, isStr, bnot_t, bnot_f])
local macro_rules | `(tactic| walk_at "q") => `(tactic| ((try dsimp only); refine seq_ ?_; walk_at "p"))
local macro_rules | `(tactic| walk_at "g") => `(tactic| try simp only [gLt, gLe, gGt, gGe, gSub, gOrd, gI0, gI, gAdd, gNeg])
/-! ### the errors (k46) -/
theorem mk_x {c : Nat} {ds : List D} {Q : HK} {S : Sto} (e : Nat.beq ds.length (flds c).length = true) (h : Q (.exc c ds) S) : (match Nat.beq ds.length (flds c).length with
  | true => Q (.exc c ds) S
  | false => False) := by rw [e]; exact h
theorem mk1_ {i j c : Nat} {u : HTS} {D0 : HEnds} {env : HEnv} {S : Sto} {d : D} (he : env[j]? = some (some d)) (hl : Nat.beq 1 (flds c).length = true) (hn : u D0 (env.set i (some (.exc c [d]))) S) : hSeq (hSet i (hMkX c (hCons (hV j) hNil))) u D0 env S := by
  refine set_ (.exc c [d]) S (fun R E hR => ?_) hn
  simp only [hMkX, hCons, hNil, hV, he]
  exact mk_x hl hR
theorem mk2_ {i j k c : Nat} {u : HTS} {D0 : HEnds} {env : HEnv} {S : Sto} {d e : D} (he : env[j]? = some (some d)) (he2 : env[k]? = some (some e)) (hl : Nat.beq 2 (flds c).length = true) (hn : u D0 (env.set i (some (.exc c [d, e]))) S) : hSeq (hSet i (hMkX c (hCons (hV j) (hCons (hV k) hNil)))) u D0 env S := by
  refine set_ (.exc c [d, e]) S (fun R E hR => ?_) hn
  simp only [hMkX, hCons, hNil, hV, he, he2]
  exact mk_x hl hR
theorem xf_ {c i : Nat} {ds : List D} {d : D} {S : Sto} {Q : HK} (e : ds[i]? = some d) (h : Q d S) : gXf c i (.exc c ds) S Q := by
  unfold gXf
  dsimp only
  rw [show Nat.beq c c = true from Nat.beq_refl c]
  dsimp only
  rw [e]
  exact h
abbrev oneL (d : D) : List D := [.exc 45 [d], .exc 48 [d], .exc 49 [d], .exc 50 [d], .exc 51 [d], .exc 38 [d], .exc 37 [d]]
abbrev twoL (d e : D) : List D := [.exc 43 [d, e], .exc 44 [e, d], .exc 46 [d, e], .exc 35 [e, d]]
abbrev bareL : List D := [.exc 47 [], .exc 39 [], .exc 36 [], .exc 40 [], .exc 42 []]
def rdSingle : HTS := (hSeq (hSet 1 (hMkX 45 (hCons (hV 0) hNil)))
  (hSeq (hSet 2 (hMkX 48 (hCons (hV 0) hNil)))
  (hSeq (hSet 3 (hMkX 49 (hCons (hV 0) hNil)))
  (hSeq (hSet 4 (hMkX 50 (hCons (hV 0) hNil)))
  (hSeq (hSet 5 (hMkX 51 (hCons (hV 0) hNil)))
  (hSeq (hSet 6 (hMkX 38 (hCons (hV 0) hNil)))
  (hSeq (hSet 7 (hMkX 37 (hCons (hV 0) hNil)))
  (hSeq (hSet 8 (hLst (hCons (hun (gXf 45 0) (hV 1)) (hCons (hun (gXf 48 0) (hV 2)) (hCons (hun (gXf 49 0) (hV 3)) (hCons (hun (gXf 50 0) (hV 4)) (hCons (hun (gXf 51 0) (hV 5)) (hCons (hun (gXf 38 0) (hV 6)) (hCons (hun (gXf 37 0) (hV 7)) hNil)))))))))
  (hRet (hTup (hCons (hLst (hCons (hV 1) (hCons (hV 2) (hCons (hV 3) (hCons (hV 4) (hCons (hV 5) (hCons (hV 6) (hCons (hV 7) hNil)))))))) (hCons (hop gEq (hV 8) (hLc (hiR1 (hCons (hC (.int 7)) hNil)) (.nm 9) hYes (hV 0) [9])) hNil))))))))))))
def spSingle : HSp := fun ds S Q _ => ∃ d : D, ds = [d] ∧ dok 59 d = true ∧ Q (.tup [.lst (oneL d), .bl true]) S
theorem single_keeps {ds : List D} {S : Sto} {Q E : HK} (h : spSingle ds S Q E) : rdSingle (EN Q E) (startE 10 ds) S := by
  obtain ⟨d, rfl, hd, g⟩ := h
  show rdSingle (EN Q E) [some d, none, none, none, none, none, none, none, none, none] S
  unfold rdSingle
  refine mk1_ rfl rfl ?_
  dsimp only [List.set_cons_succ, List.set_cons_zero]
  refine mk1_ rfl rfl ?_
  dsimp only [List.set_cons_succ, List.set_cons_zero]
  refine mk1_ rfl rfl ?_
  dsimp only [List.set_cons_succ, List.set_cons_zero]
  refine mk1_ rfl rfl ?_
  dsimp only [List.set_cons_succ, List.set_cons_zero]
  refine mk1_ rfl rfl ?_
  dsimp only [List.set_cons_succ, List.set_cons_zero]
  refine mk1_ rfl rfl ?_
  dsimp only [List.set_cons_succ, List.set_cons_zero]
  refine mk1_ rfl rfl ?_
  dsimp only [List.set_cons_succ, List.set_cons_zero]
  refine set_ (.lst (List.replicate 7 d)) S (fun R E hR => ?_) ?_
  · simp only [hLst, hCons, hNil, hun, hV, List.getElem?_cons_zero, List.getElem?_cons_succ]
    refine xf_ rfl ?_
    refine xf_ rfl ?_
    refine xf_ rfl ?_
    refine xf_ rfl ?_
    refine xf_ rfl ?_
    refine xf_ rfl ?_
    refine xf_ rfl ?_
    exact hR
  dsimp only [List.set_cons_succ, List.set_cons_zero]
  simp only [hRet, hTup, hLst, hLc, hiR1, hCons, hNil, hop, hV, hC, wipeN, List.set_cons_succ, List.set_cons_zero, List.getElem?_cons_zero, List.getElem?_cons_succ]
  have e7 : rngD 0 (7 : Int).toNat = (List.range 7).map fun i => D.int (0 + (i : Nat)) := rfl
  refine ⟨by decide, by decide, ?_⟩
  rw [e7]
  refine cloop_gen (f := fun i : Nat => D.int (0 + (i : Nat))) (g := fun _ => d) (p := fun _ => true) (List.range 7) [] (fun x hx R E h => yes_ h) (fun x hx R E h => ?_) ?_
  · simp only [hV, List.set_cons_succ, List.set_cons_zero, List.getElem?_cons_zero, List.getElem?_cons_succ]
    exact h
  · show gEq (.lst (List.replicate 7 d)) (.lst (List.replicate 7 d)) S _
    refine eq_selfLX (neg := false) (fun x hx => by rw [(List.mem_replicate.mp hx).2]; exact hd) ?_
    exact Rt.mk g
def rdDouble : HTS := (hSeq (hSet 2 (hMkX 43 (hCons (hV 0) (hCons (hV 1) hNil))))
  (hSeq (hSet 3 (hMkX 44 (hCons (hV 1) (hCons (hV 0) hNil))))
  (hSeq (hSet 4 (hMkX 46 (hCons (hV 0) (hCons (hV 1) hNil))))
  (hSeq (hSet 5 (hMkX 35 (hCons (hV 1) (hCons (hV 0) hNil))))
  (hSeq (hSet 6 (hLst (hCons (hun (gXf 43 0) (hV 2)) (hCons (hun (gXf 43 1) (hV 2)) (hCons (hun (gXf 44 0) (hV 3)) (hCons (hun (gXf 44 1) (hV 3)) (hCons (hun (gXf 46 0) (hV 4)) (hCons (hun (gXf 46 1) (hV 4)) (hCons (hun (gXf 35 0) (hV 5)) (hCons (hun (gXf 35 1) (hV 5)) hNil))))))))))
  (hRet (hTup (hCons (hLst (hCons (hV 2) (hCons (hV 3) (hCons (hV 4) (hCons (hV 5) hNil))))) (hCons (hop gEq (hV 6) (hLst (hCons (hV 0) (hCons (hV 1) (hCons (hV 1) (hCons (hV 0) (hCons (hV 0) (hCons (hV 1) (hCons (hV 1) (hCons (hV 0) hNil)))))))))) hNil)))))))))
def spDouble : HSp := fun ds S Q _ => ∃ d e : D, ds = [d, e] ∧ dok 59 d = true ∧ dok 59 e = true ∧ Q (.tup [.lst (twoL d e), .bl true]) S
theorem double_keeps {ds : List D} {S : Sto} {Q E : HK} (h : spDouble ds S Q E) : rdDouble (EN Q E) (startE 7 ds) S := by
  obtain ⟨d, e, rfl, hd, he, g⟩ := h
  show rdDouble (EN Q E) [some d, some e, none, none, none, none, none] S
  unfold rdDouble
  refine mk2_ rfl rfl rfl ?_
  dsimp only [List.set_cons_succ, List.set_cons_zero]
  refine mk2_ rfl rfl rfl ?_
  dsimp only [List.set_cons_succ, List.set_cons_zero]
  refine mk2_ rfl rfl rfl ?_
  dsimp only [List.set_cons_succ, List.set_cons_zero]
  refine mk2_ rfl rfl rfl ?_
  dsimp only [List.set_cons_succ, List.set_cons_zero]
  refine set_ (.lst [d, e, e, d, d, e, e, d]) S (fun R E hR => ?_) ?_
  · simp only [hLst, hCons, hNil, hun, hV, List.getElem?_cons_zero, List.getElem?_cons_succ]
    refine xf_ rfl ?_
    refine xf_ rfl ?_
    refine xf_ rfl ?_
    refine xf_ rfl ?_
    refine xf_ rfl ?_
    refine xf_ rfl ?_
    refine xf_ rfl ?_
    refine xf_ rfl ?_
    exact hR
  dsimp only [List.set_cons_succ, List.set_cons_zero]
  simp only [hRet, hTup, hLst, hCons, hNil, hop, hV, List.getElem?_cons_zero, List.getElem?_cons_succ]
  show gEq (.lst [d, e, e, d, d, e, e, d]) (.lst [d, e, e, d, d, e, e, d]) S _
  refine eq_selfLX (neg := false) (fun x hx => ?_) ?_
  · simp only [List.mem_cons, List.not_mem_nil, or_false] at hx
    rcases hx with rfl | rfl | rfl | rfl | rfl | rfl | rfl | rfl <;> assumption
  · exact Rt.mk g
abbrev cls16 : List Nat := [45, 48, 49, 50, 51, 38, 37, 43, 44, 46, 35, 47, 39, 36, 40, 42]
theorem isx_ {cs : List Nat} {f : Nat → Bool} {c : Nat} {ds : List D} {S : Sto} {Q : HK} (hc : memN c cs = true) (h : Q (.bl (f c)) S) : gIsX cs f (.exc c ds) S Q := by
  unfold gIsX
  dsimp only
  rw [hc]
  exact h
def rdKinds : HTS := (hSeq (hSet 1 (hLst (hCons (hun (gIsX [45, 48, 49, 50, 51, 38, 37, 43, 44, 46, 35, 47, 39, 36, 40, 42] (fun c => Nat.beq c 45)) (hV 0)) (hCons (hun (gIsX [45, 48, 49, 50, 51, 38, 37, 43, 44, 46, 35, 47, 39, 36, 40, 42] (fun c => Nat.beq c 48)) (hV 0)) (hCons (hun (gIsX [45, 48, 49, 50, 51, 38, 37, 43, 44, 46, 35, 47, 39, 36, 40, 42] (fun c => Nat.beq c 49)) (hV 0)) (hCons (hun (gIsX [45, 48, 49, 50, 51, 38, 37, 43, 44, 46, 35, 47, 39, 36, 40, 42] (fun c => Nat.beq c 50)) (hV 0)) hNil))))))
  (hSeq (hSet 1 (hop gAdd (hV 1) (hLst (hCons (hun (gIsX [45, 48, 49, 50, 51, 38, 37, 43, 44, 46, 35, 47, 39, 36, 40, 42] (fun c => Nat.beq c 51)) (hV 0)) (hCons (hun (gIsX [45, 48, 49, 50, 51, 38, 37, 43, 44, 46, 35, 47, 39, 36, 40, 42] (fun c => Nat.beq c 38)) (hV 0)) (hCons (hun (gIsX [45, 48, 49, 50, 51, 38, 37, 43, 44, 46, 35, 47, 39, 36, 40, 42] (fun c => Nat.beq c 37)) (hV 0)) (hCons (hun (gIsX [45, 48, 49, 50, 51, 38, 37, 43, 44, 46, 35, 47, 39, 36, 40, 42] (fun c => Nat.beq c 43)) (hV 0)) hNil)))))))
  (hSeq (hSet 1 (hop gAdd (hV 1) (hLst (hCons (hun (gIsX [45, 48, 49, 50, 51, 38, 37, 43, 44, 46, 35, 47, 39, 36, 40, 42] (fun c => Nat.beq c 44)) (hV 0)) (hCons (hun (gIsX [45, 48, 49, 50, 51, 38, 37, 43, 44, 46, 35, 47, 39, 36, 40, 42] (fun c => Nat.beq c 46)) (hV 0)) (hCons (hun (gIsX [45, 48, 49, 50, 51, 38, 37, 43, 44, 46, 35, 47, 39, 36, 40, 42] (fun c => Nat.beq c 35)) (hV 0)) (hCons (hun (gIsX [45, 48, 49, 50, 51, 38, 37, 43, 44, 46, 35, 47, 39, 36, 40, 42] (fun c => Nat.beq c 47)) (hV 0)) hNil)))))))
  (hSeq (hSet 1 (hop gAdd (hV 1) (hLst (hCons (hun (gIsX [45, 48, 49, 50, 51, 38, 37, 43, 44, 46, 35, 47, 39, 36, 40, 42] (fun c => Nat.beq c 39)) (hV 0)) (hCons (hun (gIsX [45, 48, 49, 50, 51, 38, 37, 43, 44, 46, 35, 47, 39, 36, 40, 42] (fun c => Nat.beq c 36)) (hV 0)) (hCons (hun (gIsX [45, 48, 49, 50, 51, 38, 37, 43, 44, 46, 35, 47, 39, 36, 40, 42] (fun c => Nat.beq c 40)) (hV 0)) hNil))))))
  (hRet (hop gAdd (hV 1) (hLst (hCons (hun (gIsX [45, 48, 49, 50, 51, 38, 37, 43, 44, 46, 35, 47, 39, 36, 40, 42] (fun c => Nat.beq c 42)) (hV 0)) hNil))))))))
def spKinds : HSp := fun ds S Q _ => ∃ (c : Nat) (xs : List D), ds = [.exc c xs] ∧ memN c cls16 = true ∧ Q (.lst (cls16.map fun j => .bl (Nat.beq c j))) S
theorem kinds_keeps {ds : List D} {S : Sto} {Q E : HK} (h : spKinds ds S Q E) : rdKinds (EN Q E) (startE 2 ds) S := by
  obtain ⟨c, xs, rfl, hc, g⟩ := h
  show rdKinds (EN Q E) [some (.exc c xs), none] S
  unfold rdKinds
  refine set_ (.lst [.bl (Nat.beq c 45), .bl (Nat.beq c 48), .bl (Nat.beq c 49), .bl (Nat.beq c 50)]) S (fun R E hR => ?_) ?_
  · simp only [hLst, hCons, hNil, hun, hV, List.getElem?_cons_zero, List.getElem?_cons_succ]
    refine isx_ hc ?_
    refine isx_ hc ?_
    refine isx_ hc ?_
    refine isx_ hc ?_
    exact hR
  dsimp only [List.set_cons_succ, List.set_cons_zero]
  refine set_ (.lst [.bl (Nat.beq c 45), .bl (Nat.beq c 48), .bl (Nat.beq c 49), .bl (Nat.beq c 50), .bl (Nat.beq c 51), .bl (Nat.beq c 38), .bl (Nat.beq c 37), .bl (Nat.beq c 43)]) S (fun R E hR => ?_) ?_
  · simp only [hLst, hop, hCons, hNil, hun, hV, List.getElem?_cons_zero, List.getElem?_cons_succ]
    refine isx_ hc ?_
    refine isx_ hc ?_
    refine isx_ hc ?_
    refine isx_ hc ?_
    exact addLL (by simp) hR
  dsimp only [List.set_cons_succ, List.set_cons_zero]
  refine set_ (.lst [.bl (Nat.beq c 45), .bl (Nat.beq c 48), .bl (Nat.beq c 49), .bl (Nat.beq c 50), .bl (Nat.beq c 51), .bl (Nat.beq c 38), .bl (Nat.beq c 37), .bl (Nat.beq c 43), .bl (Nat.beq c 44), .bl (Nat.beq c 46), .bl (Nat.beq c 35), .bl (Nat.beq c 47)]) S (fun R E hR => ?_) ?_
  · simp only [hLst, hop, hCons, hNil, hun, hV, List.getElem?_cons_zero, List.getElem?_cons_succ]
    refine isx_ hc ?_
    refine isx_ hc ?_
    refine isx_ hc ?_
    refine isx_ hc ?_
    exact addLL (by simp) hR
  dsimp only [List.set_cons_succ, List.set_cons_zero]
  refine set_ (.lst [.bl (Nat.beq c 45), .bl (Nat.beq c 48), .bl (Nat.beq c 49), .bl (Nat.beq c 50), .bl (Nat.beq c 51), .bl (Nat.beq c 38), .bl (Nat.beq c 37), .bl (Nat.beq c 43), .bl (Nat.beq c 44), .bl (Nat.beq c 46), .bl (Nat.beq c 35), .bl (Nat.beq c 47), .bl (Nat.beq c 39), .bl (Nat.beq c 36), .bl (Nat.beq c 40)]) S (fun R E hR => ?_) ?_
  · simp only [hLst, hop, hCons, hNil, hun, hV, List.getElem?_cons_zero, List.getElem?_cons_succ]
    refine isx_ hc ?_
    refine isx_ hc ?_
    refine isx_ hc ?_
    exact addLL (by simp) hR
  dsimp only [List.set_cons_succ, List.set_cons_zero]
  simp only [hRet, hLst, hop, hCons, hNil, hun, hV, List.getElem?_cons_zero, List.getElem?_cons_succ]
  refine isx_ hc ?_
  exact addLL (by simp) (Rt.mk g)
/-! the law -/
def all16 (d e : D) : List D := oneL d ++ twoL d e ++ bareL
theorem all16_at (d e : D) : ∀ k, k < 16 → ∃ c xs, (all16 d e)[k]? = some (.exc c xs) ∧ memN c cls16 = true ∧ (cls16.map fun j => D.bl (Nat.beq c j)) = (List.range 16).map fun j => D.bl (decide (j = k)) := by
  intro k hk
  match k, hk with
  | 0, _ => exact ⟨_, _, rfl, rfl, rfl⟩
  | 1, _ => exact ⟨_, _, rfl, rfl, rfl⟩
  | 2, _ => exact ⟨_, _, rfl, rfl, rfl⟩
  | 3, _ => exact ⟨_, _, rfl, rfl, rfl⟩
  | 4, _ => exact ⟨_, _, rfl, rfl, rfl⟩
  | 5, _ => exact ⟨_, _, rfl, rfl, rfl⟩
  | 6, _ => exact ⟨_, _, rfl, rfl, rfl⟩
  | 7, _ => exact ⟨_, _, rfl, rfl, rfl⟩
  | 8, _ => exact ⟨_, _, rfl, rfl, rfl⟩
  | 9, _ => exact ⟨_, _, rfl, rfl, rfl⟩
  | 10, _ => exact ⟨_, _, rfl, rfl, rfl⟩
  | 11, _ => exact ⟨_, _, rfl, rfl, rfl⟩
  | 12, _ => exact ⟨_, _, rfl, rfl, rfl⟩
  | 13, _ => exact ⟨_, _, rfl, rfl, rfl⟩
  | 14, _ => exact ⟨_, _, rfl, rfl, rfl⟩
  | 15, _ => exact ⟨_, _, rfl, rfl, rfl⟩
  | n + 16, h => exact absurd h (by omega)
def rdLaw46 (sp_law_state : HSp) (sp_law_cell : HSp) (sp_law_draw : HSp) (sp_law_single : HSp) (sp_law_double : HSp) (sp_law_kinds : HSp) : HTS := (hSeq (hFor (hiR1 (hCons (hcb gMax2 (hCons (hC (.int 1)) (hCons (hcb gMin2 (hCons (hC (.int 3)) (hCons (hcb gLen (hCons (hV 0) hNil)) hNil))) hNil))) hNil)) (.nm 1) (hSeq (hSet 2 (hCall 1 [] sp_law_state (hCons (hCall 2 [] sp_law_cell (hCons (hV 0) (hCons (hV 1) hNil))) hNil)))
  (hSeq (hSet 3 (hop gMulI (hop gSub (hCall 2 [] sp_law_draw (hCons (hV 2) (hCons (hC (.int 2001)) hNil))) (hC (.int 1000))) (hop gIx (hLst (hCons (hC (.int 1)) (hCons (hop gPow (hC (.int 10)) (hC (.int 20))) hNil))) (hCall 2 [] sp_law_draw (hCons (hV 2) (hCons (hC (.int 2)) hNil))))))
  (hSeq (hSet 4 (hLst (hCons (hC (.str ("f" : PySem.Str))) (hCons (hV 3) (hCons (hC .non) (hCons (hTup (hCons (hTup (hCons (hC (.int 0)) (hCons (hC (.int 1)) hNil))) (hCons (hC (.int 2)) hNil))) (hCons (hTup hNil) (hCons (hC (.str ("" : PySem.Str))) hNil))))))))
  (hSeq (hSet 5 (hop gIx (hV 4) (hCall 2 [] sp_law_draw (hCons (hV 2) (hCons (hC (.int 6)) hNil)))))
  (hSeq (hSet 6 (hop gIx (hV 4) (hCall 2 [] sp_law_draw (hCons (hV 2) (hCons (hC (.int 6)) hNil)))))
  (hSeq (hSet 7 (hLst (hCons (hMkX 47 hNil) (hCons (hMkX 39 hNil) (hCons (hMkX 36 hNil) (hCons (hMkX 40 hNil) (hCons (hMkX 42 hNil) hNil)))))))
  (hSeq (hSet 8 (hLst hNil))
  (hSeq (hFor (hiSq (hLst (hCons (hCall 1 [] sp_law_single (hCons (hV 5) hNil)) (hCons (hCall 2 [] sp_law_double (hCons (hV 5) (hCons (hV 6) hNil))) (hCons (hTup (hCons (hV 7) (hCons (hC (.bl true)) hNil))) hNil))))) (.tp [(.nm 9), (.nm 10)]) (hSeq (hSet 8 (hop gAdd (hV 8) (hV 9)))
  (hIfS (hNot (hTr (hV 10))) (hRet (hC (.bl false))) hNx)))
  (hFor (hiR1 (hCons (hcb gLen (hCons (hV 8) hNil)) hNil)) (.nm 11) (hSeq (hIfS (hB (hop gNe (hCall 1 [] sp_law_kinds (hCons (hop gIx (hV 8) (hV 11)) hNil)) (hLc (hiR1 (hCons (hC (.int 16)) hNil)) (.nm 12) hYes (hop gEq (hV 12) (hV 11)) [12]))) (hRet (hC (.bl false))) hNx)
  (hIfS (hOr (hNot (hTr (hun (gIsX [45, 48, 49, 50, 51, 38, 37, 43, 44, 46, 35, 47, 39, 36, 40, 42] (fun _ => true)) (hop gIx (hV 8) (hV 11))))) (hNot (hTr (hun (gIsX [45, 48, 49, 50, 51, 38, 37, 43, 44, 46, 35, 47, 39, 36, 40, 42] (fun _ => true)) (hop gIx (hV 8) (hV 11)))))) (hRet (hC (.bl false))) hNx))))))))))))
  (hRet (hC (.bl true))))
theorem tru_b {b : Bool} {S : Sto} {R : Bool → Sto → Prop} (h : R b S) : gTru (.bl b) S R := h
theorem ix_l {xs : List D} {k : Nat} {d : D} {S : Sto} {Q : HK} (e : xs[k]? = some d) (g : Q d S) : gIx (.lst xs) (.int (k : Nat)) S Q := by
  obtain ⟨h1, h2⟩ := List.getElem?_eq_some_iff.mp e
  exact ix_items rfl (by rw [atI_nat h1, h2]) g
theorem rng_at {lo : Int} {n i : Nat} {d : D} (h : (rngD lo n)[i]? = some d) : i < n ∧ d = .int (lo + (i : Nat)) := rngD_at h
theorem ok_things {z : Int} {v : Int} (h0 : 0 ≤ v) (h1 : v < 6) : ∃ d, atI [D.str ("f" : PySem.Str), .int z, .non, .tup [.tup [.int 0, .int 1], .int 2], .tup [], .str ("" : PySem.Str)] v = some d ∧ dok 59 d = true := by
  obtain ⟨n, rfl⟩ := Int.eq_ofNat_of_zero_le h0
  have hn : n < 6 := by omega
  match n, hn with
  | 0, _ => exact ⟨_, rfl, by decide +kernel⟩
  | 1, _ => exact ⟨_, rfl, rfl⟩
  | 2, _ => exact ⟨_, rfl, rfl⟩
  | 3, _ => exact ⟨_, rfl, rfl⟩
  | 4, _ => exact ⟨_, rfl, rfl⟩
  | 5, _ => exact ⟨_, rfl, by decide +kernel⟩
  | n + 6, h => exact absurd h (by omega)
theorem law46_keeps {ds : List D} {S : Sto} {Q E : HK} (h : spLaw ds S Q E) : rdLaw46 spState spCell spDrawS spSingle spDouble spKinds (EN Q E) (startE 13 ds) S := by
  obtain ⟨ns, hns, rfl, rfl, g⟩ := h
  unfold rdLaw46
  refine stepN (fun _ _ => True) (fun D1 hD => ?_) fun env S' _ => ?_
  · simp only [hFor, hiR1, hCons, hNil, hcb, hC, hV, startE, List.getElem?_cons_zero]
    refine len_items rfl ?_
    show (max 1 (min 3 (((ns.map D.int).length : Nat) : Int)) ≤ 16777216 ∧ -(2 ^ 62) ≤ max 1 (min 3 (((ns.map D.int).length : Nat) : Int)) ∧ _)
    rw [List.length_map]
    refine ⟨by omega, by omega, ?_⟩
    refine floop_ix (I := fun i e S' => ∃ x1 x2 x3 x4 x5 x6 x7 x8 x9 x10 x11 x12, e = [some (.rls (ns.map D.int)), x1, x2, x3, x4, x5, x6, x7, x8, x9, x10, x11, x12]) _ (fun i d e S' hd ⟨x1, x2, x3, x4, x5, x6, x7, x8, x9, x10, x11, x12, ee⟩ => ?_) (fun e S' _ => hD _ _ trivial) ⟨_, _, _, _, _, _, _, _, _, _, _, _, rfl⟩
    subst ee
    obtain ⟨_, rfl⟩ := rngD_at hd
    rw [Int.zero_add]
    refine ⟨_, rfl, fun K hK => ?_⟩
    dsimp only [List.set_cons_succ, List.set_cons_zero]
    refine setN (fun d S1 => ∃ p, d = .ref p ∧ SPen S1 p 0) (fun R E hR => ?_) fun d S1 ⟨p, ed, pen1⟩ => ?_
    · simp only [hCall, hCons, hNil, hV, List.getElem?_cons_zero, List.getElem?_cons_succ]
      refine ⟨ns, i, rfl, fun v => ?_⟩
      exact ⟨v, rfl, fun p S1 _ h1 _ => hR _ _ ⟨p, rfl, h1⟩⟩
    subst ed
    dsimp only [List.set_cons_succ, List.set_cons_zero]
    refine setN (fun d S2 => ∃ z : Int, d = .int z ∧ SPen S2 p 2) (fun R E hR => ?_) fun d S2 ⟨z, ed, pen2⟩ => ?_
    · simp only [hop, hCall, hLst, hCons, hNil, hV, hC, List.getElem?_cons_zero, List.getElem?_cons_succ]
      refine ⟨p, 0, 2001, rfl, by decide, by decide, pen1, by decide, fun v S2 h0 h1 pen2 _ => ?_⟩
      refine ⟨⟨by decide, by decide, by decide⟩, ?_⟩
      refine ⟨p, 1, 2, rfl, by decide, by decide, pen2, by decide, fun w S3 k0 k1 pen3 _ => ?_⟩
      have hw : ∃ y : Int, atI [D.int 1, .int (10 ^ (20 : Int).toNat)] w = some (.int y) ∧ y.natAbs < 2 ^ 80 := by
        obtain ⟨n, rfl⟩ := Int.eq_ofNat_of_zero_le k0
        have hn : n < 2 := by omega
        match n, hn with
        | 0, _ => exact ⟨_, rfl, by decide⟩
        | 1, _ => exact ⟨_, rfl, by decide⟩
        | n + 2, h => exact absurd h (by omega)
      obtain ⟨y, ey, hy⟩ := hw
      refine ix_items (xs := [D.int 1, .int (10 ^ (20 : Int).toNat)]) rfl ey ?_
      refine ⟨Nat.lt_of_lt_of_le (Nat.add_lt_add (log_lt (n := 64) (by omega) (by decide)) (log_lt (n := 80) hy (by decide))) (by decide), ?_⟩
      exact hR _ _ ⟨_, rfl, pen3⟩
    subst ed
    dsimp only [List.set_cons_succ, List.set_cons_zero]
    refine set_ (.lst [D.str ("f" : PySem.Str), .int z, .non, .tup [.tup [.int 0, .int 1], .int 2], .tup [], .str ("" : PySem.Str)]) S2 (fun R E hR => ?_) ?_
    · simp only [hLst, hTup, hCons, hNil, hV, hC, List.getElem?_cons_zero, List.getElem?_cons_succ]
      exact hR
    dsimp only [List.set_cons_succ, List.set_cons_zero]
    refine setN (fun d S3 => dok 59 d = true ∧ SPen S3 p 3) (fun R E hR => ?_) fun d S3 ⟨hd1, pen3⟩ => ?_
    · simp only [hop, hCall, hCons, hNil, hV, hC, List.getElem?_cons_zero, List.getElem?_cons_succ]
      refine ⟨p, 2, 6, rfl, by decide, by decide, pen2, by decide, fun v S3 h0 h1 pen3 _ => ?_⟩
      obtain ⟨d, e1, e2⟩ := ok_things (z := z) h0 h1
      exact ix_items rfl e1 (hR _ _ ⟨e2, pen3⟩)
    dsimp only [List.set_cons_succ, List.set_cons_zero]
    refine setN (fun e S4 => dok 59 e = true) (fun R E hR => ?_) fun e S4 he1 => ?_
    · simp only [hop, hCall, hCons, hNil, hV, hC, List.getElem?_cons_zero, List.getElem?_cons_succ]
      refine ⟨p, 3, 6, rfl, by decide, by decide, pen3, by decide, fun v S3 h0 h1 pen3 _ => ?_⟩
      obtain ⟨d, e1, e2⟩ := ok_things (z := z) h0 h1
      exact ix_items rfl e1 (hR _ _ e2)
    dsimp only [List.set_cons_succ, List.set_cons_zero]
    refine set_ (.lst bareL) S4 (fun R E hR => ?_) ?_
    · simp only [hLst, hMkX, hCons, hNil]
      exact hR
    dsimp only [List.set_cons_succ, List.set_cons_zero]
    refine set_ (.lst []) S4 (fun R E hR => ?_) ?_
    · simp only [hLst, hNil]
      exact hR
    dsimp only [List.set_cons_succ, List.set_cons_zero]
    refine stepN (fun env S5 => ∃ x9 x10, env = [some (.rls (ns.map D.int)), some (.int (i : Nat)), some (.ref p), some (.int z), some (.lst [D.str ("f" : PySem.Str), .int z, .non, .tup [.tup [.int 0, .int 1], .int 2], .tup [], .str ("" : PySem.Str)]), some d, some e, some (.lst bareL), some (.lst (all16 d e)), x9, x10, x11, x12]) (fun D1 hD => ?_) fun env S5 ⟨x9', x10', ee⟩ => ?_
    · simp only [hFor, hiSq_eq, hLst, hTup, hCall, hCons, hNil, hV, hC, List.getElem?_cons_zero, List.getElem?_cons_succ]
      refine ⟨d, rfl, hd1, ?_⟩
      refine ⟨d, e, rfl, hd1, he1, ?_⟩
      refine sqL ?_
      have body : ∀ (acc l : List D) (y9 y10 : Option D) (D2 : HEnds) (S5 : Sto), acc.length + l.length ≤ 100 → (∀ y, D2.nx [some (.rls (ns.map D.int)), some (.int (i : Nat)), some (.ref p), some (.int z), some (.lst [D.str ("f" : PySem.Str), .int z, .non, .tup [.tup [.int 0, .int 1], .int 2], .tup [], .str ("" : PySem.Str)]), some d, some e, some (.lst bareL), some (.lst (acc ++ l)), some (.lst l), y, x11, x12] S5) →
          (hSeq (hSet 8 (hop gAdd (hV 8) (hV 9))) (hIfS (hNot (hTr (hV 10))) (hRet (hC (.bl false))) hNx)) D2 [some (.rls (ns.map D.int)), some (.int (i : Nat)), some (.ref p), some (.int z), some (.lst [D.str ("f" : PySem.Str), .int z, .non, .tup [.tup [.int 0, .int 1], .int 2], .tup [], .str ("" : PySem.Str)]), some d, some e, some (.lst bareL), some (.lst acc), some (.lst l), some (.bl true), x11, x12] S5 := fun acc l y9 y10 D2 S5 hl hn => by
        refine set_ (.lst (acc ++ l)) S5 (fun R E hR => ?_) ?_
        · simp only [hop, hV, List.getElem?_cons_zero, List.getElem?_cons_succ]
          exact addLL (by omega) hR
        dsimp only [List.set_cons_succ, List.set_cons_zero]
        refine ifs false (fun R E hR => ?_) (fun h => by cases h) (fun _ => hn _)
        simp only [hNot, hTr, hV, List.getElem?_cons_zero, List.getElem?_cons_succ]
        exact hR
      refine floop_one (env1 := [some (.rls (ns.map D.int)), some (.int (i : Nat)), some (.ref p), some (.int z), some (.lst [D.str ("f" : PySem.Str), .int z, .non, .tup [.tup [.int 0, .int 1], .int 2], .tup [], .str ("" : PySem.Str)]), some d, some e, some (.lst bareL), some (.lst []), some (.lst (oneL d)), some (.bl true), x11, x12]) rfl ?_
      refine body [] (oneL d) none none _ _ (by simp) fun y => ?_
      dsimp only
      refine floop_one (env1 := [some (.rls (ns.map D.int)), some (.int (i : Nat)), some (.ref p), some (.int z), some (.lst [D.str ("f" : PySem.Str), .int z, .non, .tup [.tup [.int 0, .int 1], .int 2], .tup [], .str ("" : PySem.Str)]), some d, some e, some (.lst bareL), some (.lst (oneL d)), some (.lst (twoL d e)), some (.bl true), x11, x12]) rfl ?_
      refine body (oneL d) (twoL d e) none none _ _ (by simp) fun y => ?_
      dsimp only
      refine floop_one (env1 := [some (.rls (ns.map D.int)), some (.int (i : Nat)), some (.ref p), some (.int z), some (.lst [D.str ("f" : PySem.Str), .int z, .non, .tup [.tup [.int 0, .int 1], .int 2], .tup [], .str ("" : PySem.Str)]), some d, some e, some (.lst bareL), some (.lst (oneL d ++ twoL d e)), some (.lst bareL), some (.bl true), x11, x12]) rfl ?_
      refine body (oneL d ++ twoL d e) bareL none none _ _ (by simp) fun y => ?_
      exact hD _ _ ⟨_, _, rfl⟩
    subst ee
    simp only [hFor, hiR1, hcb, hCons, hNil, hV, List.getElem?_cons_zero, List.getElem?_cons_succ]
    refine len_items rfl ?_
    have l16 : (all16 d e).length = 16 := rfl
    rw [l16]
    refine ⟨by decide, by decide, ?_⟩
    refine floop_ix (I := fun k env S6 => ∃ y11 y12, env = [some (.rls (ns.map D.int)), some (.int (i : Nat)), some (.ref p), some (.int z), some (.lst [D.str ("f" : PySem.Str), .int z, .non, .tup [.tup [.int 0, .int 1], .int 2], .tup [], .str ("" : PySem.Str)]), some d, some e, some (.lst bareL), some (.lst (all16 d e)), x9', x10', y11, y12]) _ (fun k dd env S6 hdd ⟨y11, y12, ee⟩ => ?_) (fun env S6 ⟨y11, y12, ee⟩ => ?_) ⟨_, _, rfl⟩
    · subst ee
      obtain ⟨hk, rfl⟩ := rngD_at hdd
      have hk16 : k < 16 := by simpa using hk
      rw [Int.zero_add]
      obtain ⟨c, xs, e1, e2, e3⟩ := all16_at d e k hk16
      refine ⟨_, rfl, fun K2 hK2 => ?_⟩
      dsimp only [List.set_cons_succ, List.set_cons_zero]
      refine seqif false (fun R E hR => ?_) (fun h => by cases h) (fun _ => ?_)
      · simp only [hB, hop, hCall, hLc, hiR1, hCons, hNil, hV, hC, wipeN, List.set_cons_succ, List.set_cons_zero, List.getElem?_cons_zero, List.getElem?_cons_succ]
        refine ix_l e1 ?_
        refine ⟨c, xs, rfl, e2, ?_⟩
        refine ⟨by decide, by decide, ?_⟩
        have e16 : rngD 0 (16 : Int).toNat = (List.range 16).map fun j => D.int (0 + (j : Nat)) := rfl
        rw [e16]
        refine cloop_gen (f := fun j : Nat => D.int (0 + (j : Nat))) (g := fun j => .bl (decide (j = k))) (p := fun _ => true) (List.range 16) [] (fun x hx R E h => yes_ h) (fun x hx R E h => ?_) ?_
        · simp only [hop, hV, List.set_cons_succ, List.set_cons_zero, List.getElem?_cons_zero, List.getElem?_cons_succ]
          refine eq_ints (neg := false) ?_
          rw [show decide ((0 : Int) + (x : Nat) = (k : Nat)) = decide (x = k) by rw [decide_eq_decide]; omega]
          exact h
        · rw [List.nil_append, List.filter_eq_self.mpr (fun _ _ => rfl), e3]
          refine eq_selfLX (neg := true) (fun x hx => ?_) hR
          obtain ⟨j, _, rfl⟩ := List.mem_map.mp hx
          rfl
      refine ifs false (fun R E hR => ?_) (fun h => by cases h) (fun _ => hK2 _ _ ⟨_, _, rfl⟩)
      simp only [hOr, hNot, hTr, hun, hop, hV, List.getElem?_cons_zero, List.getElem?_cons_succ]
      refine ix_l e1 ?_
      refine isx_ e2 ?_
      refine tru_b ?_
      refine ix_l e1 ?_
      refine isx_ e2 ?_
      refine tru_b ?_
      exact hR
    · subst ee
      exact hK _ _ ⟨_, _, _, _, _, _, _, _, _, _, _, _, rfl⟩
  · exact Rt.mk (g S')
end Hy

set_option Elab.async false
set_option linter.all false
set_option maxRecDepth 100000
set_option maxHeartbeats 4000000
set_option autoImplicit false
namespace Hy
open PySem PySem.Spec PyProof.Rows L2
section
variable {B : Bs} {h : Heap} (X : B.K.In h) (G : h.Ns mainGlobals B.mg) (s : book.seen B.K = book.due)
include X G s
theorem p_state : HFn B 2 "_law_state" 1 [] spState := by
  obtain ⟨fd, F⟩ := fd_law_state s
  exact ⟨gl_law_state X G s, F.kp, at_law_state (k := 0) (fc_of X G s) F  fun ds S Q E _ h => state_keeps h⟩
theorem p_draw : HFn B 2 "_law_draw" 2 [] spDrawS := by
  obtain ⟨fd, F⟩ := fd_law_draw s
  exact ⟨gl_law_draw X G s, F.kp, at_law_draw (k := 0) (fc_of X G s) F  fun ds S Q E _ h => drawS_keeps h⟩
theorem p_cell : HFn B 2 "_law_cell" 2 [] spCell := by
  obtain ⟨fd, F⟩ := fd_law_cell s
  exact ⟨gl_law_cell X G s, F.kp, at_law_cell (k := 0) (fc_of X G s) F  fun ds S Q E _ h => cell_keeps h⟩
theorem p_single : HFn B 4 "_law_single" 1 [] spSingle := by
  obtain ⟨fd, F⟩ := fd_law_single s
  exact ⟨gl_law_single X G s, F.kp, at_law_single (k := 2) (fc_of X G s) F (hx_NoCell := (px_NoCell X G s).mono (by omega)) (hx_NoSpot := (px_NoSpot X G s).mono (by omega)) (hx_TooMany := (px_TooMany X G s).mono (by omega)) (hx_NoEntry := (px_NoEntry X G s).mono (by omega)) (hx_NoRow := (px_NoRow X G s).mono (by omega)) (hx_BadText := (px_BadText X G s).mono (by omega)) (hx_NoSuch := (px_NoSuch X G s).mono (by omega)) fun ds S Q E _ h => single_keeps h⟩
theorem p_double : HFn B 4 "_law_double" 2 [] spDouble := by
  obtain ⟨fd, F⟩ := fd_law_double s
  exact ⟨gl_law_double X G s, F.kp, at_law_double (k := 2) (fc_of X G s) F (hx_NoContext := (px_NoContext X G s).mono (by omega)) (hx_NoWay := (px_NoWay X G s).mono (by omega)) (hx_Unclean := (px_Unclean X G s).mono (by omega)) (hx_BadCode := (px_BadCode X G s).mono (by omega)) fun ds S Q E _ h => double_keeps h⟩
theorem p_kinds : HFn B 2 "_law_kinds" 1 [] spKinds := by
  obtain ⟨fd, F⟩ := fd_law_kinds s
  exact ⟨gl_law_kinds X G s, F.kp, at_law_kinds (k := 0) (fc_of X G s) F  fun ds S Q E _ h => kinds_keeps h⟩
end
abbrev lawK : Nat := 8
theorem law_at {B : Bs} {h : Heap} {fd : FuncData} (X : B.K.In h) (G : h.Ns mainGlobals B.mg) (s : book.seen B.K = book.due) (F : FunD B.K "law" "law" (defArgs s_law) (defBody s_law) (defScope s_law) [] [] (He.fAd B.K ("law", none)) fd) :
    FnOk B.P B.w B.K B.mg B.base (CX B.P B.w) lawK (He.fAd B.K ("law", none)) fd ["_law_script"] (lSp B.K 1 spLaw) :=
  at_law (k := 6) (fc_of X G s) F (h_law_state := (p_state X G s).mono (by omega)) (h_law_cell := (p_cell X G s).mono (by omega)) (h_law_draw := (p_draw X G s).mono (by omega)) (h_law_single := (p_single X G s).mono (by omega)) (h_law_double := (p_double X G s).mono (by omega)) (h_law_kinds := (p_kinds X G s).mono (by omega)) (hx_OtherShape := (px_OtherShape X G s).mono (by omega)) (hx_BadPuzzle := (px_BadPuzzle X G s).mono (by omega)) (hx_TooGreat := (px_TooGreat X G s).mono (by omega)) (hx_Ended := (px_Ended X G s).mono (by omega)) (hx_NothingToUndo := (px_NothingToUndo X G s).mono (by omega)) fun ds S Q E _ h => law46_keeps h
end Hy

set_option Elab.async false
set_option linter.all false
set_option maxRecDepth 100000
set_option maxHeartbeats 0
set_option autoImplicit false
open PySem PySem.W PySem.Calls PyProof.Rows
theorem PySem.Challenge.cw_tryback_k46_errors_stand_apart_holds : PySem.Challenge.rw_tryback_k46_errors_stand_apart.Holds := by
  w_on; o_law
  refine HandSHeadRun.head_any (r := OpenLaw.row PySem.Challenge.rw_tryback_k46_errors_stand_apart) (q := view (OpenLaw.row PySem.Challenge.rw_tryback_k46_errors_stand_apart).prog [26]) (H := Hy.hk) (ob := Hy.ob) (M := 20000) (loose := Hy.nms) (d := HandSHeadRun.topDef (OpenLaw.row PySem.Challenge.rw_tryback_k46_errors_stand_apart).prog 26) (kwd := []) Hy.ob_eq
    (by kernel_rfl) (fun s => by kernel_rfl) Hy.run (by kernel_rfl) (by kernel_rfl) (by kernel_rfl) (by rfl) (by first | assumption | decide +kernel) (by decide +kernel) ⟨rfl, rfl, rfl, rfl, rfl, by decide +kernel⟩ ?hw ?hc
  case hw => w_witness2
  case hc =>
    refine L2.walk_ofE (l := PySem.Challenge.rw_tryback_k46_errors_stand_apart) (n := 63) (k := Hy.lawK) (x := "_law_script") (CX := Hy.CXe) rfl (by decide) (by kernel_rfl) ⟨rfl, by decide, by decide⟩ ?F (fun _ _ _ _ ⟨_, _, _, z⟩ => z)
    intro w mg fa h Y G hmg0
    obtain ⟨K, KX, c⟩ := Y
    have hmg : mg ("law" : PySem.Str) = some (.ref fa) := by
      have e : (HandSHeadRun.topDef (OpenLaw.row PySem.Challenge.rw_tryback_k46_errors_stand_apart).prog 26).name = ("law" : PySem.Str) := by kernel_rfl
      rw [← e]
      exact hmg0
    cases hmg.symm.trans (Hy.gl_law KX G c)
    obtain ⟨fd, F⟩ := Hy.fd_law c
    exact ⟨K, fd, Hy.spScr K, KX, L2.FunD.bindsA (ps := ["_law_script"]) F (fun _ _ _ _ _ _ us hl => match us, hl with | [_], _ => rfl) |> fun b s v => b s [v] rfl, fun H a ns hl _ hS => ⟨a, ns, rfl, hl, hS, fun _ => rfl⟩, fun base B0 _ => Hy.law_ok (Hy.law_at (B := ⟨(PySem.Challenge.rw_tryback_k46_errors_stand_apart).prog, w, K, mg, base, 0, [], Hy.sc00, true, fun _ => true⟩) KX G c F)⟩

