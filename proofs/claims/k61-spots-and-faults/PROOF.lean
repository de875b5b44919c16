import PyProof.Rows.All
import Wide.All
import OpenK.AllK
import Wide.FinOn
import HandS.ForMost
import HandS.ForExc
import HandS.Defaults
import HandS.Walk
import HandS.TupAny
import HandS.HeadHook1
import HandS.ExcInit
import HandS.Lambda
import HandS.Dict
import KE.KeyNested
import HandS.Wide
import HandS.Deep
import HandS.Style
import HandS.Flow
import HandS.IsInst
import HandS.FStr
import HandS.CallSlots
import HandS.WordsExc
import HandS.Property
import KE.LtData
import HandS.More
import HandS.HeadHook2
import HandS.HeadNt
import HandS.Head0
import HandS.Head1
import HandS.Head2
import HandS.HeadEnd
import HandS.ExcField
import HandS.TryMany
import KE.KExcIs
import KE.GoesEnum
import KE.GoesMore
import HandS.Iter
import OpenK.KMeth
import PyProof.StrBlock2
import PyProof.Rows.StrMul
import HandS.DictComp
import HandS.Sort
import KE.KDictSum
import HandS.SetFor
import HandS.HeadHook3
import HandS.Conv
import HandS.OwnEq
import HandS.Strs
import PyProof.EqAt
import HandS.StrMore
import HandS.Replace
import PyProof.NeKinds
import HandS.DictTup
import HandS.ListItems
import HandS.SortInts
import KE.KDictCopyH
import KE.SortKeyHeap
import KE.SortUse
import KE.KSortKey
import HandS.Nested
import HandS.HeadHook4
import HandS.HeadWalk
import KE.DataCmp
import HandS.WideBits
import KE.KDictPairs
import PyProof.DictFindH
import PyProof.DictRoadsH
import HandS.TupSets
import KE.SortData
import KE.KStateDown
import Lean
import PyProof.FitsReplace
import PySem.Challenge.RW_tryback_k61_spots_and_faults
theorem zNr {n:Nat}:n≤n:=Nat.le_refl n
theorem zG0 {α:Type _} {a:α} {l:List α}:(a :: l)[0]? = some a:=rfl
theorem zG1 {α:Type _} {a:α} {l:List α} {i:Nat}:(a :: l)[i + 1]? = l[i]?:=rfl
theorem zS0 {α:Type _} {a b:α} {l:List α}:(a :: l).set 0 b=b :: l:=rfl
theorem zS1 {α:Type _} {a b:α} {l:List α} {i:Nat}:(a :: l).set (i + 1) b=a :: l.set i b:=rfl
theorem zMt {α:Type _} {y a:α} {l:List α} (h:a ∈ l):a ∈ y :: l:=List.mem_cons_of_mem _ h
theorem zMs {α:Type _} {a:α} {l:List α}:a ∈ a :: l:=List.mem_cons_self
namespace Hy
open PySem
@[irreducible] def tabs:List (Nat × Str):=[]
def eX:Nat→Str
 | 0 => "Log"
 | 1 => "Puzzle"
 | 2 => "Spelled"
 | 3 => "Function"
 | 4 => "Code"
 | 5 => "Checker"
 | 6 => "Reader"
 | 7 => "Answer"
 | 8 => "Visit"
 | 9 => "Run"
 | 10 => "Frame"
 | 11 => "Given"
 | 12 => "Walker"
 | 13 => "Seen"
 | 14 => "Matcher"
 | 15 => "Answers"
 | 16 => "Desk"
 | 17 => "Node"
 | 18 => "Layout"
 | 19 => "Context"
 | 20 => "Table"
 | 21 => "Maps"
 | 22 => "Search"
 | 23 => "Break"
 | 24 => "Spoiled"
 | 25 => "Unlike"
 | 26 => "Pair"
 | 27 => "Spot"
 | 28 => "Ways"
 | 29 => "Heights"
 | 30 => "RowWays"
 | 31 => "CellWays"
 | 32 => "Flow"
 | 33 => "Mending"
 | 34 => "TryError"
 | 35 => "BadCode"
 | 36 => "TooGreat"
 | 37 => "NoSuch"
 | 38 => "BadText"
 | 39 => "BadPuzzle"
 | 40 => "Ended"
 | 41 => "Waiting"
 | 42 => "NothingToUndo"
 | 43 => "NoContext"
 | 44 => "NoWay"
 | 45 => "NoCell"
 | 46 => "Unclean"
 | 47 => "OtherShape"
 | 48 => "NoSpot"
 | 49 => "TooMany"
 | 50 => "NoEntry"
 | 51 => "NoRow"
 | _ => "?"
def fw:Nat→List Str
 | 3=>["name", "body", "many"]
 | 4=>["cells", "rows", "functions", "start"]
 | 5=>["code", "function", "number"]
 | 27=>["path", "mood", "statement", "nexts"]
 | 28=>["faulting", "spots", "first"]
 | 34=>[]
 | 35=>["function", "number"]
 | 36=>[]
 | 1=>["bits", "children", "size", "depth", "spelling"]
 | 2=>["text", "at"]
 | _=>[]
def bV:Nat→Option Nat
 | 3=>some 1
 | _=>none
def i5:Nat→Option Nat
 | 4=>some 0
 | _=>none
def jt:Nat→Option Nat
 | 5=>some 0
 | _=>none
def fQ:Nat→Option Nat
 | 28=>some 0
 | _=>none
def i6:Nat→Option Nat
 | 28=>some 2
 | _=>none
def gP:Nat→Option Nat
 | 5=>some 1
 | _=>none
def aO:Nat→Option Nat
 | 4=>some 2
 | _=>none
def sV:Nat→Option Nat
 | 3=>some 2
 | _=>none
def po:Nat→Option Nat
 | 27=>some 1
 | _=>none
def cy:Nat→Option Nat
 | 3=>some 0
 | _=>none
def fZ:Nat→Option Nat
 | 27=>some 3
 | _=>none
def gF:Nat→Option Nat
 | 5=>some 2
 | _=>none
def pq:Nat→Option Nat
 | 27=>some 0
 | _=>none
def mq:Nat→Option Nat
 | 4=>some 1
 | _=>none
def dt:Nat→Option Nat
 | 28=>some 1
 | _=>none
def pS:Nat→Option Nat
 | 4=>some 3
 | _=>none
def ju:Nat→Option Nat
 | 27=>some 2
 | _=>none
end Hy
set_option Elab.async false
set_option linter.all false
set_option maxRecDepth 100000
set_option maxHeartbeats 4000000
set_option autoImplicit false
namespace NK
open PySem
abbrev Row:=NestedKey × Value × Value
def ent (w:World) (x:Row):DictEntry:=⟨x.1.hash w,x.2.1,x.2.2⟩
def Obj (w:World) (a:Addr) (xs:List (NestedKey × L2.V × L2.V)) (h:Heap):Prop :=
 (a == sysModules)=false∧xs.length≤sizeLine∧(xs.map (·.1)).Nodup∧(∀ x ∈ xs,x.1.depth≤8)∧∃ ys:List Row,PySem.Paired (fun p q=>p.1=q.1∧L2.RelV p.2.1 q.2.1∧L2.RelV p.2.2 q.2.2) xs ys ∧
  ∃ o es ep,h.get? a=some o∧o.ExactDict∧o.data = .dict es ep∧es.toList=ys.map (ent w)
mutual
def Is (F:L2.Hp):NestedKey→L2.V→Prop
 | .none,v=>v = .non
 | .num i,v=>v = .int i
 | .text x,v=>v = .str x
 | .tup ks,v=>∃ b vs,v = .ref b∧F b=some (.tup vs)∧Iss F ks vs
def Iss (F:L2.Hp):List NestedKey→List L2.V→Prop
 | [],vs=>vs=[]
 | k :: ks,vs=>∃ v ws,vs=v :: ws∧Is F k v∧Iss F ks ws
end
section
variable {F F':L2.Hp}
mutual
theorem Is.le (h:∀ a o,F a=some o→F' a=some o):∀ {k:NestedKey} {v:L2.V},Is F k v→Is F' k v
 | .none,_,r=>r
 | .num _,_,r=>r
 | .text _,_,r=>r
 | .tup _,_,⟨b,vs,e,q,r⟩=>⟨b,vs,e,h _ _ q,Iss.le h r⟩
theorem Iss.le (h:∀ a o,F a=some o→F' a=some o):∀ {ks:List NestedKey} {vs:List L2.V},Iss F ks vs→Iss F' ks vs
 | [],_,r=>r
 | _ :: _,_,⟨v,ws,e,r,q⟩=>⟨v,ws,e,Is.le h r,Iss.le h q⟩
end
end
end NK
namespace Hy
abbrev St:=L2.St
open PySem PySem.Spec PyProof.Rows L2

inductive D where
 | non | bl (b:Bool) | int (i:Int) | str (x:Str) | ref (a:Addr) | ty (n:String)
 | tup (xs:List D) | lst (xs:List D) | rls (xs:List D) | obj (c:Nat) (xs:List D)
 | exc (c:Nat) (xs:List D)
 | tpx (xs:List D)
 | tps (xs:List D)
 | dtz (ks:List (List Key)) (xs:List D)
 | dkz (ks:List Key) (xs:List D)

inductive M where
 | lst (xs:List D)
 | dct (kvs:List (Key × D))
 | dcu (kvs:List (List Key × D))
 | ins (c:Nat) (xs:List D)
 | dcn (w:World) (a:Addr) (kvs:List (NestedKey × D))
abbrev Sto:=Addr→Option M
def up (S:Sto) (a:Addr) (m:M):Sto:=fun b=>if b=a then some m else S b
def dl (S:Sto) (a:Addr):Sto:=fun b=>if b=a then none else S b
theorem ai {S:Sto} {a:Addr} {m:M}:up S a m a=some m:=if_pos rfl
theorem ar {S:Sto} {a b:Addr} {m:M} (h:b ≠ a):up S a m b=S b:=if_neg h
theorem iI {S:Sto} {a:Addr}:dl S a a=none:=if_pos rfl
theorem fR {S:Sto} {a b:Addr} (h:b ≠ a):dl S a b=S b:=if_neg h
theorem dI {S:Sto} {a:Addr} {m n:M}:up (up S a m) a n=up S a n:=by
 funext b; unfold up; split <;> rfl
theorem lk {S:Sto} {a:Addr} {m:M} (h:S a=none):dl (up S a m) a=S:=by
 funext b
 by_cases e:b=a
 ·subst e; rw [iI,h]
 ·rw [fR e,ar e]
theorem sne {S:Sto} {a b:Addr} {m:M} (h:S a=some m) (h':S b=none):a ≠ b:=by
 intro e; subst e; rw [h] at h'; cases h'

abbrev Le (F F':Hp):Prop:=∀ a o,F a=some o→F' a=some o
theorem Le.rfl' {F:Hp}:Le F F:=fun _ _ h=>h
theorem Le.trans {F G J:Hp} (h:Le F G) (k:Le G J):Le F J:=fun a o e=>k a o (h a o e)
theorem Le.upd {F:Hp} {p:Addr} {o:HO} (h:F p=none):Le F (upd F p o):=fun a u e=>by rw [upd_ne (ne_of_none e h)]; exact e
theorem SqT.le {K:PySem.W.Frag} {F F':Hp} {a:Addr} {xs:List V} (e:Le F F') (h:SqT K F a xs):SqT K F' a xs:=by
 rcases h with (h | ⟨o,h⟩) | h
 ·exact .inl (.inl (e _ _ h))
 ·exact .inl (.inr ⟨o,e _ _ h⟩)
 ·exact .inr h
theorem SqL.le {K:PySem.W.Frag} {F F':Hp} {a:Addr} {xs:List V} (e:Le F F') (h:SqL K F a xs):SqL K F' a xs:=by
 rcases h with (h | ⟨o,h⟩) | h
 ·exact .inl (.inl (e _ _ h))
 ·exact .inl (.inr ⟨o,e _ _ h⟩)
 ·exact .inr h

abbrev cad (K:PySem.W.Frag) (c:Nat):Addr:=He.ga K (eX c)
mutual
def Rep (K:PySem.W.Frag) (F:Hp):D→V→Prop
 | .non,v=>v = .non
 | .bl b,v=>v = .bl b
 | .int i,v=>v = .int i
 | .str x,v=>v = .str x
 | .ref a,v=>v = .ref a
 | .ty n,v=>v = .ty n
 | .tup ds,v=>∃ a vs,v = .ref a∧SqT K F a vs∧Reps K F ds vs∧ds.length≤sizeLine
 | .lst ds,v=>∃ a vs,v = .ref a∧F a=some (.lst vs)∧Reps K F ds vs∧ds.length≤sizeLine
 | .rls ds,v=>∃ a vs,v = .ref a∧SqL K F a vs∧Reps K F ds vs∧ds.length≤sizeLine
 | .obj c ds,v=>∃ a dx vs,v = .ref a∧F a=some (.ins (cad K c) dx ((fw c).zip vs))∧Reps K F ds vs
 | .exc c ds,v=>∃ a d vs,v = .ref a∧F a=some (exo a (cad K c) d)∧Reps K F ds vs∧((fw c=[]∧d=none)∨∃ q fs,d=some q∧F q=some (exd q fs)∧∀ (i:Nat) (f:Str) (x:V),(fw c)[i]? = some f→vs[i]? = some x→fs.lookup f=some x)
 | .tpx ds,v=>∃ a vs o,v = .ref a∧F a=some (.frz o (.tup vs))∧o.cls = .type "tuple" ∧ o.dict=none∧Reps K F ds vs∧ds.length≤sizeLine
 | .tps ds,v=>∃ a vs,v = .ref a∧F a=some (.tup vs)∧Reps K F ds vs∧ds.length≤sizeLine
 | .dtz ks ds,v=>∃ a vs o,v = .ref a∧F a=some (.frz o (.dT (ks.zip vs)))∧Reps K F ds vs∧ds.length=ks.length
 | .dkz ks ds,v=>∃ a vs o,v = .ref a∧F a=some (.frz o (.dK (ks.zip vs)))∧Reps K F ds vs∧ds.length=ks.length
def Reps (K:PySem.W.Frag) (F:Hp):List D→List V→Prop
 | [],vs=>vs=[]
 | d :: ds,vs=>∃ v ws,vs=v :: ws∧Rep K F d v∧Reps K F ds ws
end
def RepX (K:PySem.W.Frag) (F:Hp) (x:D) (cls:Value) (dd:Option Addr):Prop:=match x with
 | .exc c ds=>cls = .ref (cad K c)∧((ds=[]∧dd=none)∨∃ q fs,dd=some q∧F q=some (.xd fs)∧∀ (i:Nat) (f:Str) (d:D),(fw c)[i]? = some f→ds[i]? = some d→∃ v,fs.lookup f=some v∧Rep K F d v)
 | _=>False

section
variable {K:PySem.W.Frag} {F F':Hp}
mutual
theorem Rep.le (h:Le F F'):∀ {d:D} {v:V},Rep K F d v→Rep K F' d v
 | .non,_,r=>r
 | .bl _,_,r=>r
 | .int _,_,r=>r
 | .str _,_,r=>r
 | .ref _,_,r=>r
 | .ty _,_,r=>r
 | .tup _,_,⟨a,vs,e,q,r,z⟩=>⟨a,vs,e,SqT.le h q,Reps.le h r,z⟩
 | .lst _,_,⟨a,vs,e,q,r,z⟩=>⟨a,vs,e,h _ _ q,Reps.le h r,z⟩
 | .rls _,_,⟨a,vs,e,q,r,z⟩=>⟨a,vs,e,SqL.le h q,Reps.le h r,z⟩
 | .obj _ _,_,⟨a,dx,vs,e,q,r⟩=>⟨a,dx,vs,e,h _ _ q,Reps.le h r⟩
 | .exc _ _,_,⟨a,d,vs,e,q,r,z⟩=>⟨a,d,vs,e,h _ _ q,Reps.le h r,match z with
   | .inl y=>.inl y
   | .inr ⟨q,fs,z1,z2,z3⟩=>.inr ⟨q,fs,z1,h _ _ z2,z3⟩⟩
 | .tpx _,_,⟨a,vs,o,e,q,h1,h2,r,z⟩=>⟨a,vs,o,e,h _ _ q,h1,h2,Reps.le h r,z⟩
 | .tps _,_,⟨a,vs,e,q,r,z⟩=>⟨a,vs,e,h _ _ q,Reps.le h r,z⟩
 | .dtz _ _,_,⟨a,vs,o,e,q,r,z⟩=>⟨a,vs,o,e,h _ _ q,Reps.le h r,z⟩
 | .dkz _ _,_,⟨a,vs,o,e,q,r,z⟩=>⟨a,vs,o,e,h _ _ q,Reps.le h r,z⟩
theorem Reps.le (h:Le F F'):∀ {ds:List D} {vs:List V},Reps K F ds vs→Reps K F' ds vs
 | [],_,r=>r
 | _ :: _,_,⟨v,ws,e,r,q⟩=>⟨v,ws,e,Rep.le h r,Reps.le h q⟩
end
theorem RepX.le (h:Le F F') {x:D} {cls:Value} {dd:Option Addr} (r:RepX K F x cls dd):RepX K F' x cls dd:=by
 cases x <;> first | exact r.elim | skip
 obtain ⟨e,r⟩:=r
 refine ⟨e,?_⟩
 rcases r with r | ⟨q,vs,e1,e2,e3⟩
 ·exact .inl r
 ·exact .inr ⟨q,vs,e1,h _ _ e2,fun i f d h1 h2=>let ⟨v,h3,h4⟩:=e3 i f d h1 h2; ⟨v,h3,h4.le h⟩⟩
theorem Reps.len:∀ {ds:List D} {vs:List V},Reps K F ds vs→vs.length=ds.length
 | [],_,r=>by cases r; rfl
 | _ :: _,_,⟨v,ws,e,r,q⟩=>by cases e; simp [Reps.len q]
theorem Reps.at:∀ {ds:List D} {vs:List V} {i:Nat} {d:D},Reps K F ds vs→ds[i]? = some d→∃ v,vs[i]? = some v∧Rep K F d v
 | [],_,_,_,_,e=>by simp at e
 | _ :: _,_,0,_,⟨v,ws,e1,r,q⟩,e=>by cases e1; simp at e; subst e; exact ⟨v,by simp,r⟩
 | _ :: _,_,i + 1,_,⟨v,ws,e1,r,q⟩,e=>by
   cases e1
   obtain ⟨v',h1,h2⟩:=Reps.at (i:=i) q (by simpa using e)
   exact ⟨v',by simpa using h1,h2⟩
theorem Reps.at':∀ {ds:List D} {vs:List V} {i:Nat} {v:V},Reps K F ds vs→vs[i]? = some v→∃ d,ds[i]? = some d∧Rep K F d v
 | [],_,_,_,r,e=>by cases r; simp at e
 | _ :: _,_,0,_,⟨v,ws,e1,r,q⟩,e=>by cases e1; simp at e; subst e; exact ⟨_,by simp,r⟩
 | _ :: _,_,i + 1,_,⟨v,ws,e1,r,q⟩,e=>by
   cases e1
   obtain ⟨v',h1,h2⟩:=Reps.at' (i:=i) q (by simpa using e)
   exact ⟨v',by simpa using h1,h2⟩
theorem Reps.append:∀ {ds es:List D} {vs ws:List V},Reps K F ds vs→Reps K F es ws→Reps K F (ds ++ es) (vs ++ ws)
 | [],_,_,_,r,q=>by cases r; exact q
 | _ :: _,_,_,_,⟨v,us,e1,r,q⟩,q'=>by cases e1; exact ⟨v,us ++ _,rfl,r,Reps.append q q'⟩
theorem Reps.take:∀ {ds:List D} {vs:List V} (n:Nat),Reps K F ds vs→Reps K F (ds.take n) (vs.take n)
 | _,_,0,r=>by simp [Reps]
 | [],_,_ + 1,r=>by cases r; simp [Reps]
 | _ :: _,_,n + 1,⟨v,us,e1,r,q⟩=>by cases e1; exact ⟨v,us.take n,rfl,r,Reps.take n q⟩
theorem Reps.drop:∀ {ds:List D} {vs:List V} (n:Nat),Reps K F ds vs→Reps K F (ds.drop n) (vs.drop n)
 | _,_,0,r=>r
 | [],_,_ + 1,r=>by cases r; simp [Reps]
 | _ :: _,_,n + 1,⟨v,us,e1,r,q⟩=>by cases e1; exact Reps.drop n q
theorem Reps.set:∀ {ds:List D} {vs:List V} {d:D} {v:V} (n:Nat),Rep K F d v→Reps K F ds vs→Reps K F (ds.set n d) (vs.set n v)
 | [],_,_,_,_,_,r=>by cases r; simp [Reps]
 | _ :: _,_,_,_,0,h,⟨v,us,e1,r,q⟩=>by cases e1; exact ⟨_,us,rfl,h,q⟩
 | _ :: _,_,_,_,n + 1,h,⟨v,us,e1,r,q⟩=>by cases e1; exact ⟨v,us.set n _,rfl,r,Reps.set n h q⟩
theorem Reps.one {d:D} {v:V} (r:Rep K F d v):Reps K F [d] [v]:=⟨v,[],rfl,r,rfl⟩
theorem Reps.isNil {ds:List D} {vs:List V} (r:Reps K F ds vs):vs=[]↔ds=[]:=by
 have:=r.len
 constructor
 ·intro e; subst e; exact List.eq_nil_of_length_eq_zero (by simpa using this.symm)
 ·intro e; subst e; exact r
end

def RepM (K:PySem.W.Frag) (F:Hp):M→HO→Prop
 | .lst ds,o=>∃ vs,o = .lst vs∧Reps K F ds vs∧ds.length≤sizeLine
 | .dct kvs,o=>∃ vs,o = .dK ((kvs.map (·.1)).zip vs)∧Reps K F (kvs.map (·.2)) vs
 | .dcu kvs,o=>∃ vs,o = .dT ((kvs.map (·.1)).zip vs)∧Reps K F (kvs.map (·.2)) vs
 | .ins c ds,o=>∃ dx vs,o = .ins (cad K c) dx ((fw c).zip vs)∧Reps K F ds vs
 | .dcn w a kvs,o=>∃ xs,o = .ext (NK.Obj w a xs)∧Paired (fun p q=>p.1=q.1∧NK.Is F p.1 q.2.1∧Rep K F p.2 q.2.2) kvs xs
theorem RepM.le {K:PySem.W.Frag} {F F':Hp} (h:Le F F') {m:M} {o:HO} (r:RepM K F m o):RepM K F' m o:=by
 cases m with
 | lst ds=>obtain ⟨vs,e,q,z⟩:=r; exact ⟨vs,e,q.le h,z⟩
 | dct kvs=>obtain ⟨vs,e,q⟩:=r; exact ⟨vs,e,q.le h⟩
 | dcu kvs=>obtain ⟨vs,e,q⟩:=r; exact ⟨vs,e,q.le h⟩
 | ins C fs=>obtain ⟨dx,vs,e,q⟩:=r; exact ⟨dx,vs,e,q.le h⟩
 | dcn w a kvs=>obtain ⟨xs,e,q⟩:=r; exact ⟨xs,e,Paired.mapP q fun _ _ z=>⟨z.1,z.2.1.le h,z.2.2.le h⟩⟩

def TabW (G F:Hp) (S:Sto) (H:Hp):Prop:=∀ p ∈ tabs,G p.1=none∧F p.1=none∧S p.1=none∧∃ ps:Array Value,H p.1=some (.tbl ps)∧TriplesOk ps.toList∧∀ (pos:Pos) (cv:Value),codeAmong pos ps.toList=some cv→∃ c,cv = .ref c∧F c=some (LamX.CodeO c p.2)
theorem TabW.to {G F G' F':Hp} {S S':Sto} {H H':Hp} (t:TabW G F S H) (le:Le F F') (h:∀ a ps,H a=some (.tbl ps)→G a=none→F a=none→S a=none→G' a=none∧F' a=none∧S' a=none∧H' a=H a):TabW G' F' S' H':=fun p hp=>by
 obtain ⟨h1,h2,h3,ps,h4,h5,h6⟩:=t p hp
 obtain ⟨g1,g2,g3,g4⟩:=h p.1 ps h4 h1 h2 h3
 refine ⟨g1,g2,g3,ps,by rw [g4]; exact h4,h5,fun pos cv e=>?_⟩
 obtain ⟨c,e1,e2⟩:=h6 pos cv e
 exact ⟨c,e1,le _ _ e2⟩
structure Wd (K:PySem.W.Frag) (G F:Hp) (S:Sto) (H:Hp):Prop where
 gr:∀ a o,G a=some o→H a=some o∧F a=none∧S a=none
 fr:Le F H
 st:∀ a m,S a=some m→∃ o,H a=some o∧RepM K F m o
 dj:∀ a m,S a=some m→F a=none
 gt:∀ a xs,G a ≠ some (.tup xs)
 tb:TabW G F S H
theorem Wd.freshF {K:PySem.W.Frag} {G F:Hp} {S:Sto} {H:Hp} (W:Wd K G F S H) {p:Addr} (h:H p=none):F p=none:=by
 cases e:F p with
 | none=>rfl
 | some o=>rw [W.fr p o e] at h; cases h
theorem Wd.freshS {K:PySem.W.Frag} {G F:Hp} {S:Sto} {H:Hp} (W:Wd K G F S H) {p:Addr} (h:H p=none):S p=none:=by
 cases e:S p with
 | none=>rfl
 | some m=>obtain ⟨o,q,_⟩:=W.st p m e; rw [q] at h; cases h
theorem Wd.newF {K:PySem.W.Frag} {G F:Hp} {S:Sto} {H:Hp} (W:Wd K G F S H) {p:Addr} (o:HO) (h:H p=none):Wd K G (upd F p o) S (upd H p o)∧Le F (upd F p o):=by
 have hF:=W.freshF h
 have hS:=W.freshS h
 refine ⟨⟨fun a u e=>?_,fun a u e=>?_,fun a m e=>?_,fun a m e=>?_,W.gt,W.tb.to (Le.upd hF) fun a ps e1 e2 e3 e4=>by
  have ha:a ≠ p:=fun z=>by subst z; rw [h] at e1; cases e1
  simp only [upd_ne ha,ar ha,fR ha,e2,e3,e4,and_self]⟩,Le.upd hF⟩
 ·obtain ⟨h1,h2,h3⟩:=W.gr a u e
  have ha:a ≠ p:=fun z=>by subst z; rw [h] at h1; cases h1
  exact ⟨by rw [upd_ne ha]; exact h1,by rw [upd_ne ha]; exact h2,h3⟩
 ·by_cases ha:a=p
  ·subst ha; rw [upd_same] at e ⊢; exact e
  ·rw [upd_ne ha] at e ⊢; exact W.fr a u e
 ·have ha:a ≠ p:=fun z=>by subst z; rw [hS] at e; cases e
  obtain ⟨u,q,r⟩:=W.st a m e
  exact ⟨u,by rw [upd_ne ha]; exact q,r.le (Le.upd hF)⟩
 ·have ha:a ≠ p:=fun z=>by subst z; rw [hS] at e; cases e
  rw [upd_ne ha]; exact W.dj a m e
theorem Wd.newS {K:PySem.W.Frag} {G F:Hp} {S:Sto} {H:Hp} (W:Wd K G F S H) {p:Addr} {o:HO} {m:M} (h:H p=none) (r:RepM K F m o):Wd K G F (up S p m) (upd H p o):=by
 have hF:=W.freshF h
 refine ⟨fun a u e=>?_,fun a u e=>?_,fun a n e=>?_,fun a n e=>?_,W.gt,W.tb.to Le.rfl' fun a ps e1 e2 e3 e4=>by
  have ha:a ≠ p:=fun z=>by subst z; rw [h] at e1; cases e1
  simp only [upd_ne ha,ar ha,fR ha,e2,e3,e4,and_self]⟩
 ·obtain ⟨h1,h2,h3⟩:=W.gr a u e
  have ha:a ≠ p:=fun z=>by subst z; rw [h] at h1; cases h1
  exact ⟨by rw [upd_ne ha]; exact h1,h2,by rw [ar ha]; exact h3⟩
 ·rw [upd_ne (ne_of_none e hF)]; exact W.fr a u e
 ·by_cases ha:a=p
  ·subst ha; rw [ai] at e; cases e; exact ⟨o,upd_same,r⟩
  ·rw [ar ha] at e; obtain ⟨u,q,r⟩:=W.st a n e; exact ⟨u,by rw [upd_ne ha]; exact q,r⟩
 ·by_cases ha:a=p
  ·subst ha; exact hF
  ·rw [ar ha] at e; exact W.dj a n e
theorem Wd.put {K:PySem.W.Frag} {G F:Hp} {S:Sto} {H:Hp} (W:Wd K G F S H) {p:Addr} {o:HO} {m n:M} (h:S p=some n) (r:RepM K F m o):Wd K G F (up S p m) (upd H p o):=by
 have hF:=W.dj p n h
 refine ⟨fun a u e=>?_,fun a u e=>?_,fun a n e=>?_,fun a n e=>?_,W.gt,W.tb.to Le.rfl' fun a ps e1 e2 e3 e4=>by
  have ha:a ≠ p:=fun z=>by subst z; rw [h] at e4; cases e4
  simp only [upd_ne ha,ar ha,fR ha,e2,e3,e4,and_self]⟩
 ·obtain ⟨h1,h2,h3⟩:=W.gr a u e
  have ha:a ≠ p:=fun z=>by subst z; rw [h3] at h; cases h
  exact ⟨by rw [upd_ne ha]; exact h1,h2,by rw [ar ha]; exact h3⟩
 ·rw [upd_ne (ne_of_none e hF)]; exact W.fr a u e
 ·by_cases ha:a=p
  ·subst ha; rw [ai] at e; cases e; exact ⟨o,upd_same,r⟩
  ·rw [ar ha] at e; obtain ⟨u,q,r⟩:=W.st a n e; exact ⟨u,by rw [upd_ne ha]; exact q,r⟩
 ·by_cases ha:a=p
  ·subst ha; exact hF
  ·rw [ar ha] at e; exact W.dj a n e
abbrev SLe (S S':Sto):Prop:=∀ a m,S a=some m→S' a=some m
theorem SLe.rfl' {S:Sto}:SLe S S:=fun _ _ h=>h
theorem SLe.trans {S T U:Sto} (h:SLe S T) (k:SLe T U):SLe S U:=fun a m e=>k a m (h a m e)
theorem SLe.up {S T:Sto} {p:Addr} {m:M} (h:SLe S T) (n:S p=none):SLe S (Hy.up T p m):=fun a u e=>by
 rw [ar (sne e n)]; exact h a u e
theorem SLe.dl {S:Sto} {p:Addr}:SLe (Hy.dl S p) S:=fun a u e=>by
 by_cases h:a=p
 ·subst h; rw [iI] at e; cases e
 ·rw [fR h] at e; exact e
theorem sno {S T:Sto} {a:Addr} (h:SLe S T) (e:T a=none):S a=none:=by
 cases q:S a with
 | none=>rfl
 | some m=>rw [h a m q] at e; cases e
theorem gno {G T:Hp} {a:Addr} (h:Le G T) (e:T a=none):G a=none:=by
 cases q:G a with
 | none=>rfl
 | some m=>rw [h a m q] at e; cases e
theorem Wd.less {K:PySem.W.Frag} {G F:Hp} {S S':Sto} {H:Hp} (W:Wd K G F S' H) (h:SLe S S'):Wd K G F S H :=
 ⟨fun a o e=>let ⟨h1,h2,h3⟩:=W.gr a o e; ⟨h1,h2,by
  cases q:S a with
  | none=>rfl
  | some m=>rw [h a m q] at h3; cases h3⟩,W.fr,fun a m e=>W.st a m (h a m e),fun a m e=>W.dj a m (h a m e),W.gt,W.tb.to Le.rfl' fun a ps e1 e2 e3 e4=>⟨e2,e3,sno h e4,rfl⟩⟩

theorem Wd.lessG {K:PySem.W.Frag} {G G' F:Hp} {S:Sto} {H:Hp} (W:Wd K G' F S H) (h:Le G G'):Wd K G F S H:=⟨fun a o e=>W.gr a o (h a o e),W.fr,W.st,W.dj,fun a xs e=>W.gt a xs (h a _ e),W.tb.to Le.rfl' fun a ps e1 e2 e3 e4=>⟨gno h e2,e3,e4,rfl⟩⟩
theorem Wd.newG {K:PySem.W.Frag} {G F:Hp} {S:Sto} {H:Hp} (W:Wd K G F S H) {p:Addr} (o:HO) (h:H p=none) (ht:∀ xs,o ≠ .tup xs:=by intro xs h; cases h):Wd K (upd G p o) F S (upd H p o):=by
 have hF:=W.freshF h
 have hS:=W.freshS h
 refine ⟨fun a u e=>?_,fun a u e=>?_,fun a m e=>?_,W.dj,fun a xs e=>?_,W.tb.to Le.rfl' fun a ps e1 e2 e3 e4=>by
  have ha:a ≠ p:=fun z=>by subst z; rw [h] at e1; cases e1
  simp only [upd_ne ha,ar ha,fR ha,e2,e3,e4,and_self]⟩
 ·by_cases ha:a=p
  ·subst ha; rw [upd_same] at e; cases e; exact ⟨upd_same,hF,hS⟩
  ·rw [upd_ne ha] at e
   obtain ⟨h1,h2,h3⟩:=W.gr a u e
   exact ⟨by rw [upd_ne ha]; exact h1,h2,h3⟩
 ·rw [upd_ne (ne_of_none e hF)]; exact W.fr a u e
 ·obtain ⟨u,q,r⟩:=W.st a m e
  exact ⟨u,by rw [upd_ne (sne e hS)]; exact q,r⟩
 ·by_cases ha:a=p
  ·subst ha; rw [upd_same] at e; exact ht xs (Option.some.inj e)
  ·rw [upd_ne ha] at e; exact W.gt a xs e
theorem Wd.putG {K:PySem.W.Frag} {G F:Hp} {S:Sto} {H:Hp} {p:Addr} {o:HO} (W:Wd K (upd G p o) F S H) (o':HO) (ht:∀ xs,o' ≠ .tup xs:=by intro xs h; cases h):Wd K (upd G p o') F S (upd H p o'):=by
 obtain ⟨_,hF,hS⟩:=W.gr p o upd_same
 refine ⟨fun a u e=>?_,fun a u e=>?_,fun a m e=>?_,W.dj,fun a xs e=>?_,W.tb.to Le.rfl' fun a ps e1 e2 e3 e4=>by
  have ha:a ≠ p:=fun z=>by subst z; rw [upd_same] at e2; cases e2
  rw [upd_ne ha] at e2
  simp only [upd_ne ha,e2,e3,e4,and_self]⟩
 ·by_cases ha:a=p
  ·subst ha; rw [upd_same] at e; cases e; exact ⟨upd_same,hF,hS⟩
  ·rw [upd_ne ha] at e
   obtain ⟨h1,h2,h3⟩:=W.gr a u (by rw [upd_ne ha]; exact e)
   exact ⟨by rw [upd_ne ha]; exact h1,h2,h3⟩
 ·rw [upd_ne (ne_of_none e hF)]; exact W.fr a u e
 ·obtain ⟨u,q,r⟩:=W.st a m e
  exact ⟨u,by rw [upd_ne (sne e hS)]; exact q,r⟩
 ·by_cases ha:a=p
  ·subst ha; rw [upd_same] at e; exact ht xs (Option.some.inj e)
  ·rw [upd_ne ha] at e; exact W.gt a xs (by rw [upd_ne ha]; exact e)
theorem Wd.endG {K:PySem.W.Frag} {G F:Hp} {S:Sto} {H:Hp} {p:Addr} {o:HO} (W:Wd K (upd G p o) F S H) (hG:G p=none):Wd K G (upd F p o) S H∧Le F (upd F p o):=by
 obtain ⟨hH,hF,hS⟩:=W.gr p o upd_same
 refine ⟨⟨fun a u e=>?_,fun a u e=>?_,fun a m e=>?_,fun a m e=>?_,fun a xs e=>W.gt a xs (by rw [upd_ne (ne_of_none e hG)]; exact e),W.tb.to (Le.upd hF) fun a ps e1 e2 e3 e4=>by
  have ha:a ≠ p:=fun z=>by subst z; rw [upd_same] at e2; cases e2
  rw [upd_ne ha] at e2
  simp only [upd_ne ha,ar ha,e2,e3,e4,and_self]⟩,Le.upd hF⟩
 ·have ha:=ne_of_none e hG
  obtain ⟨h1,h2,h3⟩:=W.gr a u (by rw [upd_ne ha]; exact e)
  exact ⟨h1,by rw [upd_ne ha]; exact h2,h3⟩
 ·by_cases ha:a=p
  ·subst ha; rw [upd_same] at e; cases e; exact hH
  ·rw [upd_ne ha] at e; exact W.fr a u e
 ·obtain ⟨u,q,r⟩:=W.st a m e
  exact ⟨u,q,r.le (Le.upd hF)⟩
 ·rw [upd_ne (sne e hS)]; exact W.dj a m e
abbrev aW:=List (Option D)
structure RepN (K:PySem.W.Frag) (F:Hp) (env:aW) (σ:St):Prop where
 len:env.length=σ.length
 get:∀ (i:Nat) (d:D),env[i]? = some (some d)→∃ v,σ[i]? = some (some v)∧Rep K F d v
theorem RepN.le {K:PySem.W.Frag} {F F':Hp} {env:aW} {σ:St} (h:Le F F') (r:RepN K F env σ):RepN K F' env σ :=
 ⟨r.len,fun i d e=>let ⟨v,h1,h2⟩:=r.get i d e; ⟨v,h1,h2.le h⟩⟩
theorem RepN.set {K:PySem.W.Frag} {F:Hp} {env:aW} {σ:St} (r:RepN K F env σ) {d:D} {v:V} (h:Rep K F d v) (i:Nat):RepN K F (env.set i (some d)) (σ.set i (some v)) :=
 ⟨by simp [r.len],fun j e q=>by
  by_cases hj:j=i
  ·subst hj
   have hl:j < env.length:=by
    rcases Nat.lt_or_ge j env.length with z | z
    ·exact z
    ·rw [List.getElem?_eq_none (by simpa using z)] at q; cases q
   rw [List.getElem?_set_self hl] at q
   cases q
   exact ⟨v,by rw [List.getElem?_set_self (by rw [← r.len]; exact hl)],h⟩
  ·rw [List.getElem?_set_ne (Ne.symm hj)] at q ⊢
   exact r.get j e q⟩
theorem RepN.unset {K:PySem.W.Frag} {F:Hp} {env:aW} {σ:St} (r:RepN K F env σ) (i:Nat):RepN K F (env.set i none) (σ.set i none) :=
 ⟨by simp [r.len],fun j e q=>by
  by_cases hj:j=i
  ·subst hj
   have hl:j < env.length:=by
    rcases Nat.lt_or_ge j env.length with z | z
    ·exact z
    ·rw [List.getElem?_eq_none (by simpa using z)] at q; cases q
   rw [List.getElem?_set_self hl] at q
   cases q
  ·rw [List.getElem?_set_ne (Ne.symm hj)] at q ⊢
   exact r.get j e q⟩
abbrev HK:=D→Sto→Prop
abbrev HTE:=aW→Sto→HK→HK→Prop
abbrev HTT:=aW→Sto→(Bool→Sto→Prop)→HK→Prop
abbrev HTA:=aW→Sto→(List D→Sto→Prop)→HK→Prop
structure HEnds where
 nx:aW→Sto→Prop
 rt:HK
 bk:aW→Sto→Prop:=fun _ _=>False
 ct:aW→Sto→Prop:=fun _ _=>False
 ex:D→aW→Sto→Prop
abbrev HTS:=HEnds→aW→Sto→Prop

def OkQ (K:PySem.W.Frag) (G F:Hp) (Q0:HK) (Q:VK):Prop:=∀ d v F' S' H',Le F F'→Wd K G F' S' H'→Rep K F' d v→Q0 d S'→Q v H'
def OkB (K:PySem.W.Frag) (G F:Hp) (Q0:Bool→Sto→Prop) (Q:Bool→Hp→Prop):Prop:=∀ b F' S' H',Le F F'→Wd K G F' S' H'→Q0 b S'→Q b H'
def OkA (K:PySem.W.Frag) (G F:Hp) (Q0:List D→Sto→Prop) (Q:List V→Hp→Prop):Prop:=∀ ds vs F' S' H',Le F F'→Wd K G F' S' H'→Reps K F' ds vs→Q0 ds S'→Q vs H'
def OkE (K:PySem.W.Frag) (G F:Hp) (E0:HK) (E:XK):Prop:=∀ x cls dd F' S' H',Le F F'→Wd K G F' S' H'→RepX K F' x cls dd→E0 x S'→E cls dd H'
def OkN (K:PySem.W.Frag) (G F:Hp) (Q0:aW→Sto→Prop) (Q:St→Hp→Prop):Prop:=∀ env σ F' S' H',Le F F'→Wd K G F' S' H'→RepN K F' env σ→Q0 env S'→Q σ H'
def OkW (K:PySem.W.Frag) (G F:Hp) (E0:D→aW→Sto→Prop) (W:WX):Prop:=∀ x cls dd env σ F' S' H',Le F F'→Wd K G F' S' H'→RepN K F' env σ→RepX K F' x cls dd→E0 x env S'→W cls dd σ H'
theorem OkQ.le {K G F F'} {Q0:HK} {Q:VK} (h:Le F F') (q:OkQ K G F Q0 Q):OkQ K G F' Q0 Q:=fun d v F1 S H l=>q d v F1 S H (h.trans l)
theorem OkB.le {K G F F'} {Q0} {Q} (h:Le F F') (q:OkB K G F Q0 Q):OkB K G F' Q0 Q:=fun b F1 S H l=>q b F1 S H (h.trans l)
theorem OkA.le {K G F F'} {Q0} {Q} (h:Le F F') (q:OkA K G F Q0 Q):OkA K G F' Q0 Q:=fun d v F1 S H l=>q d v F1 S H (h.trans l)
theorem OkE.le {K G F F'} {Q0} {Q} (h:Le F F') (q:OkE K G F Q0 Q):OkE K G F' Q0 Q:=fun x c dd F1 S H l=>q x c dd F1 S H (h.trans l)
theorem OkN.le {K G F F'} {Q0} {Q} (h:Le F F') (q:OkN K G F Q0 Q):OkN K G F' Q0 Q:=fun e σ F1 S H l=>q e σ F1 S H (h.trans l)
theorem OkW.le {K G F F'} {Q0} {Q} (h:Le F F') (q:OkW K G F Q0 Q):OkW K G F' Q0 Q:=fun x c dd e σ F1 S H l=>q x c dd e σ F1 S H (h.trans l)

structure OkS (K:PySem.W.Frag) (G F:Hp) (E:HEnds) (D:Ends) (W:WX):Prop where
 nx:OkN K G F E.nx D.nx
 rt:OkQ K G F E.rt D.rt
 bk:OkN K G F E.bk D.bk
 ct:OkN K G F E.ct D.ct
 ex:OkW K G F E.ex W
theorem OkS.le {K G F F'} {E:HEnds} {D:Ends} {W:WX} (h:Le F F') (q:OkS K G F E D W):OkS K G F' E D W:=⟨q.nx.le h,q.rt.le h,q.bk.le h,q.ct.le h,q.ex.le h⟩

def lE (K:PySem.W.Frag) (W:WX) (t:HTE):TE:=fun σ H Q=>∃ G F S env Q0 E0,RepN K F env σ∧Wd K G F S H∧t env S Q0 E0∧OkQ K G F Q0 Q∧OkE K G F E0 (WE W σ)
def lT (K:PySem.W.Frag) (W:WX) (t:HTT):TT:=fun σ H Q=>∃ G F S env Q0 E0,RepN K F env σ∧Wd K G F S H∧t env S Q0 E0∧OkB K G F Q0 Q∧OkE K G F E0 (WE W σ)
def lA (K:PySem.W.Frag) (W:WX) (t:HTA):TA:=fun σ H Q=>∃ G F S env Q0 E0,RepN K F env σ∧Wd K G F S H∧t env S Q0 E0∧OkA K G F Q0 Q∧OkE K G F E0 (WE W σ)
def lS (K:PySem.W.Frag) (W:WX) (t:HTS):TS:=fun D σ H=>∃ G F S env E,RepN K F env σ∧Wd K G F S H∧t E env S∧OkS K G F E D W

structure Bs where
 P:Program
 w:World
 K:PySem.W.Frag
 mg:Str→Option Value
 base:Heap
 k:Nat
 N:List Str
 sc:Scope
 top:Bool
 own:Str→Bool
structure OkC (B:Bs) (X:Cx):Prop where
 eP:X.prog=B.P
 ew:X.w=B.w
 eK:X.K=B.K
 em:X.mg=B.mg
 eb:X.base=B.base
 eN:X.N=B.N
 es:X.env.scope=B.sc
 nd:X.N.Nodup
 calm:X.calm=true
 room:Room B.k X.A
 fn:∀ x,B.own x=true→X.env.scope.names.lookup x=some .cell→X.fn x=true
 own:PassesOwn (model X.prog X.w) X.A X.env X.xe
 stk:B.top=true→X.stack=X.env :: X.outer∧X.env.frame=some X.env.locals∧X.ex=[]

structure HE (B:Bs) (e:Expr) (t:HTE):Prop where
 run:∀ (X:Cx) (W:WX),OkC B X→Takes X W→PE X e (lE B.K W t)
structure HT (B:Bs) (e:Expr) (t:HTT):Prop where
 run:∀ (X:Cx) (W:WX),OkC B X→Takes X W→PT X e (lT B.K W t)
structure HW (B:Bs) (e:Expr) (t:HTT):Prop where
 run:∀ (X:Cx) (W:WX),OkC B X→Takes X W→PW X e (lT B.K W t)
structure HA (B:Bs) (es:List Expr) (t:HTA):Prop where
 run:∀ (X:Cx) (W:WX),OkC B X→Takes X W→PA X es (lA B.K W t)
structure HS (B:Bs) (st:Stmt) (t:HTS):Prop where
 run:∀ (X:Cx) (W:WX),OkC B X→Takes X W→PS X st (lS B.K W t)
structure HSs (B:Bs) (st:List Stmt) (t:HTS):Prop where
 run:∀ (X:Cx) (W:WX),OkC B X→Takes X W→PSs X st (lS B.K W t)

theorem PE.imp {X:Cx} {e:Expr} {t t':TE} (h:PE X e t) (i:∀ σ H Q,t' σ H Q→t σ H Q):PE X e t':=⟨fun pins s σ H Q I q=>h.run pins s σ H Q I (i σ H Q q)⟩
theorem PT.imp {X:Cx} {e:Expr} {t t':TT} (h:PT X e t) (i:∀ σ H Q,t' σ H Q→t σ H Q):PT X e t':=⟨fun pins s σ H Q I q=>h.run pins s σ H Q I (i σ H Q q)⟩
theorem PW.imp {X:Cx} {e:Expr} {t t':TT} (h:PW X e t) (i:∀ σ H Q,t' σ H Q→t σ H Q):PW X e t':=⟨fun wh pins s σ H Q I q=>h.run wh pins s σ H Q I (i σ H Q q)⟩
theorem PA.imp {X:Cx} {e:List Expr} {t t':TA} (h:PA X e t) (i:∀ σ H Q,t' σ H Q→t σ H Q):PA X e t':=⟨fun pos pins s σ H Q I q=>h.run pos pins s σ H Q I (i σ H Q q)⟩
theorem PS.imp {X:Cx} {e:Stmt} {t t':TS} (h:PS X e t) (i:∀ D σ H,t' D σ H→t D σ H):PS X e t':=⟨fun pins s σ H D I q=>h.run pins s σ H D I (i D σ H q)⟩
theorem PSs.imp {X:Cx} {e:List Stmt} {t t':TS} (h:PSs X e t) (i:∀ D σ H,t' D σ H→t D σ H):PSs X e t':=⟨fun pins s σ H D I q=>h.run pins s σ H D I (i D σ H q)⟩
end Hy
namespace Hy
open PySem PySem.Spec PyProof.Rows L2

section
variable {B:Bs} {e a b c o:Expr} {es rest:List Expr} {pos:Pos} {ta tb tc to:HTE} {t u:HTT} {tr:HTA}
def hV (i:Nat):HTE:=fun env S Q _=>match env[i]? with
 | some (some d)=>Q d S
 | _=>False
def hC (d:D):HTE:=fun _ S Q _=>Q d S
theorem hv {B:Bs} (i:Nat) {x:Str} {pos:Pos} (hN:B.N[i]? = some x:=by rfl) (hvis:Vis B.sc x:=by first | exact Or.inl rfl | exact Or.inr (Or.inl rfl) | exact Or.inr (Or.inr rfl))
 (hd:(x == ("__debug__" : Str))=false:=by decide) (hcd:(x == ("__classdict__" : Str))=false:=by decide):HE B (.Name x pos) (hV i) :=
 ⟨fun X W ok tk=>PE.imp (pe_var (i:=i) (by rw [ok.eN]; exact hN) (by rw [ok.es]; exact hvis) hd hcd) fun σ H Q ⟨G,F,S,env,Q0,E0,rn,wd,h,hq,he⟩=>by
  unfold hV at h
  cases e:env[i]? with
  | none=>rw [e] at h; exact h.elim
  | some o =>
    cases o with
    | none=>rw [e] at h; exact h.elim
    | some d =>
      rw [e] at h
      obtain ⟨v,h1,h2⟩:=rn.get i d e
      exact ⟨v,h1,hq d v F S H Le.rfl' wd h2 h⟩⟩
theorem sW {d:D} {v:V} (h:∀ X,PE X e (tC v)) (r:∀ K F,Rep K F d v):HE B e (hC d) :=
 ⟨fun X W ok tk=>PE.imp (h X) fun σ H Q ⟨G,F,S,env,Q0,E0,rn,wd,h,hq,he⟩=>hq d v F S H Le.rfl' wd (r _ _) h⟩
theorem ay {i:Int} {j:Nat}:HE B (.Constant (.int i) j pos) (hC (.int i)):=sW (fun _=>pe_int) fun _ _=>rfl
theorem hbl {i:Bool} {j:Nat}:HE B (.Constant (.bool i) j pos) (hC (.bl i)):=sW (fun _=>pe_bl) fun _ _=>rfl
theorem sX {j:Nat}:HE B (.Constant .none j pos) (hC .non):=sW (fun _=>pe_non) fun _ _=>rfl
theorem az {x:Str} {j:Nat}:HE B (.Constant (.str x) j pos) (hC (.str x)):=sW (fun _=>pe_str) fun _ _=>rfl

abbrev G1:=D→Sto→HK→Prop
abbrev G2:=D→D→Sto→HK→Prop
abbrev GL:=List D→Sto→HK→Prop
abbrev GM:=D→List D→Sto→HK→Prop
def Gi (K:PySem.W.Frag) (g:G1) (r:V→Hp→VK→Prop):Prop:=∀ G F S H d v Q0 Q,Wd K G F S H→Rep K F d v→g d S Q0→OkQ K G F Q0 Q→r v H Q
def im (K:PySem.W.Frag) (g:G2) (r:R2):Prop:=∀ G F S H d1 v1 d2 v2 Q0 Q,Wd K G F S H→Rep K F d1 v1→Rep K F d2 v2→g d1 d2 S Q0→OkQ K G F Q0 Q→r v1 v2 H Q
def ro (K:PySem.W.Frag) (g:GL) (r:List V→Hp→VK→Prop):Prop:=∀ G F S H ds vs Q0 Q,Wd K G F S H→Reps K F ds vs→g ds S Q0→OkQ K G F Q0 Q→r vs H Q
def hop (g:G2) (ta tb:HTE):HTE:=fun env S Q E=>ta env S (fun x S1=>tb env S1 (fun y S2=>g x y S2 Q) E) E
def hun (g:G1) (ta:HTE):HTE:=fun env S Q E=>ta env S (fun x S1=>g x S1 Q) E
theorem lop {K:PySem.W.Frag} {W:WX} {g:G2} {r:R2} (hg:im K g r) (ta tb:HTE) (σ:St) (H:Hp) (Q:VK) (h:lE K W (hop g ta tb) σ H Q):tOp r (lE K W ta) (lE K W tb) σ H Q:=by
 obtain ⟨G,F,S,env,Q0,E0,rn,wd,h,hq,he⟩:=h
 refine ⟨G,F,S,env,fun x S1=>tb env S1 (fun y S2=>g x y S2 Q0) E0,E0,rn,wd,h,fun d v F1 S1 H1 l1 w1 r1 h1=>?_,he⟩
 refine ⟨G,F1,S1,env,fun y S2=>g d y S2 Q0,E0,rn.le l1,w1,h1,fun d2 v2 F2 S2 H2 l2 w2 r2 h2=>?_,he.le l1⟩
 exact hg G F2 S2 H2 d v d2 v2 Q0 _ w2 (r1.le l2) r2 h2 (hq.le (l1.trans l2))
theorem lun {K:PySem.W.Frag} {W:WX} {g:G1} {r:V→Hp→VK→Prop} (hg:Gi K g r) (ta:HTE) (σ:St) (H:Hp) (Q:VK) (h:lE K W (hun g ta) σ H Q):tUn r (lE K W ta) σ H Q:=by
 obtain ⟨G,F,S,env,Q0,E0,rn,wd,h,hq,he⟩:=h
 exact ⟨G,F,S,env,fun x S1=>g x S1 Q0,E0,rn,wd,h,fun d v F1 S1 H1 l1 w1 r1 h1=>hg G F1 S1 H1 d v Q0 _ w1 r1 h1 (hq.le l1),he⟩
theorem uY {op:Operator} {g:G2} {r:PySem.W.Frag→R2} (ho:∀ X,OkC B X→OpR X (binaryOp op) (r X.K)) (hg:im B.K g (r B.K)) (ha:HE B a ta) (hb:HE B b tb):HE B (.BinOp a op b pos) (hop g ta tb) :=
 ⟨fun X W ok tk=>PE.imp (pe_op (by have:=ho X ok; rw [ok.eK] at this; exact this) (ha.run X W ok tk) (hb.run X W ok tk)) fun σ H Q h=>lop hg ta tb σ H Q h⟩
theorem G9 {op:UnaryOp} {g:G1} {r:V→Hp→VK→Prop} (ho:∀ X,UnR X (unaryOp op) r) (hg:Gi B.K g r) (ha:HE B a ta):HE B (.UnaryOp op a pos) (hun g ta) :=
 ⟨fun X W ok tk=>PE.imp (pe_un (ho X) (ha.run X W ok tk)) fun σ H Q h=>lun hg ta σ H Q h⟩
theorem xu {op:CmpOp} {g:G2} {r:PySem.W.Frag→R2} (ho:∀ X,OkC B X→OpR X (compareOp op) (r X.K)) (hg:im B.K g (r B.K)) (ha:HE B a ta) (hb:HE B b tb) (hm:behindInMarks op b=false):HE B (.Compare a [op] [b] pos) (hop g ta tb) :=
 ⟨fun X W ok tk=>PE.imp (pe_cmpR (by have:=ho X ok; rw [ok.eK] at this; exact this) (ha.run X W ok tk) (hb.run X W ok tk) hm) fun σ H Q h=>lop hg ta tb σ H Q h⟩
def hB (ta:HTE):HTT:=fun env S Q E=>ta env S (fun x S1=>match x with
 | .bl b=>Q b S1
 | _=>False) E
theorem lB {K:PySem.W.Frag} {W:WX} {t:TE} {ta:HTE} (i:∀ σ H Q,lE K W ta σ H Q→t σ H Q) (σ:St) (H:Hp) (Q:Bool→Hp→Prop) (h:lT K W (hB ta) σ H Q):tTest t σ H Q:=by
 obtain ⟨G,F,S,env,Q0,E0,rn,wd,h,hq,he⟩:=h
 refine i _ _ _ ⟨G,F,S,env,_,E0,rn,wd,h,fun d v F1 S1 H1 l1 w1 r1 h1=>?_,he⟩
 cases d <;> first | exact h1.elim | skip
 exact ⟨_,r1,hq _ F1 S1 H1 l1 w1 h1⟩
theorem pT {op:CmpOp} {g:G2} {r:PySem.W.Frag→R2} (ho:∀ X,OkC B X→OpR X (compareOp op) (r X.K)) (hg:im B.K g (r B.K)) (ha:HE B a ta) (hb:HE B b tb) (hm:behindInMarks op b=false):HT B (.Compare a [op] [b] pos) (hB (hop g ta tb)) :=
 ⟨fun X W ok tk=>PT.imp (pt_cmpR (by have:=ho X ok; rw [ok.eK] at this; exact this) (ha.run X W ok tk) (hb.run X W ok tk) hm) fun σ H Q h=>lB (fun σ H Q h=>lop hg ta tb σ H Q h) σ H Q h⟩
def dU (t u:HTT):HTT:=fun env S Q E=>t env S (fun c S1=>match c with
 | true=>u env S1 Q E
 | false=>Q false S1) E
def hOr (t u:HTT):HTT:=fun env S Q E=>t env S (fun c S1=>match c with
 | true=>Q true S1
 | false=>u env S1 Q E) E
def fK (t:HTT):HTT:=fun env S Q E=>t env S (fun c S1=>Q (!c) S1) E
theorem i7 (ha:HT B a t):HW B (.BoolOp .And [a] pos) t:=⟨fun X W ok tk=>pw_and1 (ha.run X W ok tk)⟩
theorem Aa (ha:HT B a t):HW B (.BoolOp .Or [a] pos) t:=⟨fun X W ok tk=>pw_or1 (ha.run X W ok tk)⟩
theorem mr (ha:HT B a t) (hb:HW B (.BoolOp .And (b :: rest) pos) u):HW B (.BoolOp .And (a :: b :: rest) pos) (dU t u) :=
 ⟨fun X W ok tk=>PW.imp (pw_and (ha.run X W ok tk) (hb.run X W ok tk)) fun σ H Q ⟨G,F,S,env,Q0,E0,rn,wd,h,hq,he⟩ =>
  ⟨G,F,S,env,_,E0,rn,wd,h,fun c F1 S1 H1 l1 w1 h1=>by
   cases c with
   | true=>exact ⟨G,F1,S1,env,Q0,E0,rn.le l1,w1,h1,hq.le l1,he.le l1⟩
   | false=>exact hq _ F1 S1 H1 l1 w1 h1,he⟩⟩
theorem hor (ha:HT B a t) (hb:HW B (.BoolOp .Or (b :: rest) pos) u):HW B (.BoolOp .Or (a :: b :: rest) pos) (hOr t u) :=
 ⟨fun X W ok tk=>PW.imp (pw_or (ha.run X W ok tk) (hb.run X W ok tk)) fun σ H Q ⟨G,F,S,env,Q0,E0,rn,wd,h,hq,he⟩ =>
  ⟨G,F,S,env,_,E0,rn,wd,h,fun c F1 S1 H1 l1 w1 h1=>by
   cases c with
   | false=>exact ⟨G,F1,S1,env,Q0,E0,rn.le l1,w1,h1,hq.le l1,he.le l1⟩
   | true=>exact hq _ F1 S1 H1 l1 w1 h1,he⟩⟩
theorem hw (h:HW B a t):HT B a t:=⟨fun X W ok tk=>(h.run X W ok tk).pt⟩
theorem oP (ha:HT B a t):HT B (.UnaryOp .Not a pos) (fK t) :=
 ⟨fun X W ok tk=>PT.imp (pt_not (ha.run X W ok tk)) fun σ H Q ⟨G,F,S,env,Q0,E0,rn,wd,h,hq,he⟩ =>
  ⟨G,F,S,env,_,E0,rn,wd,h,fun c F1 S1 H1 l1 w1 h1=>hq _ F1 S1 H1 l1 w1 h1,he⟩⟩
def hIf (t:HTT) (ta tb:HTE):HTE:=fun env S Q E=>t env S (fun c S1=>match c with
 | true=>ta env S1 Q E
 | false=>tb env S1 Q E) E
theorem EK (hc:HT B c t) (ha:HE B a ta) (hb:HE B b tb):HE B (.IfExp c a b pos) (hIf t ta tb) :=
 ⟨fun X W ok tk=>PE.imp (pe_ifExp (hc.run X W ok tk) (ha.run X W ok tk) (hb.run X W ok tk)) fun σ H Q ⟨G,F,S,env,Q0,E0,rn,wd,h,hq,he⟩ =>
  ⟨G,F,S,env,_,E0,rn,wd,h,fun k F1 S1 H1 l1 w1 h1=>by
   cases k with
   | true=>exact ⟨G,F1,S1,env,Q0,E0,rn.le l1,w1,h1,hq.le l1,he.le l1⟩
   | false=>exact ⟨G,F1,S1,env,Q0,E0,rn.le l1,w1,h1,hq.le l1,he.le l1⟩,he⟩⟩
theorem iF {op:PySem.BoolOp} (h:HE B a ta):HE B (.BoolOp op [a] pos) ta:=⟨fun X W ok tk=>pe_one (h.run X W ok tk)⟩
def ae:HTA:=fun _ S Q _=>Q [] S
def aa (ta:HTE) (tr:HTA):HTA:=fun env S Q E=>ta env S (fun x S1=>tr env S1 (fun xs S2=>Q (x :: xs) S2) E) E
theorem ag:HA B [] ae:=⟨fun X W ok tk=>PA.imp pa_nil fun σ H Q ⟨G,F,S,env,Q0,E0,rn,wd,h,hq,he⟩=>hq [] [] F S H Le.rfl' wd rfl h⟩
theorem ad (ha:HE B e ta) (hr:HA B es tr) (hs:∀ env,starEach (e :: es) env=(false,eval e env) :: starEach es env:=by intro _; rfl):HA B (e :: es) (aa ta tr) :=
 ⟨fun X W ok tk=>PA.imp (pa_cons (ha.run X W ok tk) (hr.run X W ok tk) (hs _)) fun σ H Q ⟨G,F,S,env,Q0,E0,rn,wd,h,hq,he⟩ =>
  ⟨G,F,S,env,_,E0,rn,wd,h,fun d v F1 S1 H1 l1 w1 r1 h1 =>
   ⟨G,F1,S1,env,_,E0,rn.le l1,w1,h1,fun ds vs F2 S2 H2 l2 w2 r2 h2=>hq (d :: ds) (v :: vs) F2 S2 H2 (l1.trans l2) w2 ⟨v,vs,rfl,r1.le l2,r2⟩ h2,he.le l1⟩,he⟩⟩
def aE (t:HTA):HTE:=fun env S Q E=>t env S (fun ds S1=>match Nat.ble ds.length 1000 with
 | true=>Q (.tup ds) S1
 | false=>False) E
def bD (t:HTA):HTE:=fun env S Q E=>t env S (fun ds S1=>match Nat.ble ds.length 1000 with
 | true=>Q (.lst ds) S1
 | false=>False) E
def cM (t:HTA):HTE:=fun env S Q E=>t env S (fun ds S1=>match Nat.ble ds.length 1000 with
 | true=>∀ p,S1 p=none→Q (.ref p) (up S1 p (.lst ds))
 | false=>False) E
theorem yO {n:Nat} (h:n≤1000):n≤sizeLine:=Nat.le_trans h (by decide)
theorem sY {K:PySem.W.Frag} {G F:Hp} {S:Sto} {H:Hp} {Q0:HK} {Q:VK} {ds:List D} {vs:List V} (w:Wd K G F S H) (r:Reps K F ds vs) (z:ds.length≤sizeLine) (hq:OkQ K G F Q0 Q) (h:Q0 (.tup ds) S) :
 vs.length≤sizeLine∧∀ p,H p=none→Q (.ref p) (upd H p (.tup vs)) :=
 ⟨by rw [r.len]; exact z,fun p hp=>by
  obtain ⟨w',l'⟩:=w.newF (.tup vs) hp
  exact hq (.tup ds) _ _ S _ l' w' ⟨p,vs,rfl,SqT.of upd_same,r.le l',z⟩ h⟩
theorem j6 {K:PySem.W.Frag} {G F:Hp} {S:Sto} {H:Hp} {Q0:HK} {Q:VK} {ds:List D} {vs:List V} (w:Wd K G F S H) (r:Reps K F ds vs) (z:ds.length≤sizeLine) (hq:OkQ K G F Q0 Q) (h:Q0 (.lst ds) S) :
 vs.length≤sizeLine∧∀ p,H p=none→Q (.ref p) (upd H p (.lst vs)) :=
 ⟨by rw [r.len]; exact z,fun p hp=>by
  obtain ⟨w',l'⟩:=w.newF (.lst vs) hp
  exact hq (.lst ds) _ _ S _ l' w' ⟨p,vs,rfl,upd_same,r.le l',z⟩ h⟩
theorem yP {K:PySem.W.Frag} {G F:Hp} {S:Sto} {H:Hp} {Q0:HK} {Q:VK} {ds:List D} {vs:List V} (w:Wd K G F S H) (r:Reps K F ds vs) (z:ds.length≤sizeLine) (hq:OkQ K G F Q0 Q) (h:∀ p,S p=none→Q0 (.ref p) (up S p (.lst ds))) :
 vs.length≤sizeLine∧∀ p,H p=none→Q (.ref p) (upd H p (.lst vs)) :=
 ⟨by rw [r.len]; exact z,fun p hp=>hq (.ref p) _ F (up S p (.lst ds)) _ Le.rfl' (w.newS (m:=.lst ds) hp ⟨vs,rfl,r,z⟩) (by show V.ref _=_; rfl) (h p (w.freshS hp))⟩
theorem j7 {n:Nat} {A:Prop} (h:match Nat.ble n 1000 with | true=>A | false=>False):n≤sizeLine∧A:=by
 cases e:Nat.ble n 1000 with
 | false=>rw [e] at h; exact h.elim
 | true=>rw [e] at h; exact ⟨yO (Nat.le_of_ble_eq_true e),h⟩
theorem bM {k:Nat} (h:HA B es tr):HE B (.Tuple es k pos) (aE tr) :=
 ⟨fun X W ok tk=>PE.imp (pe_tup (h.run X W ok tk)) fun σ H Q ⟨G,F,S,env,Q0,E0,rn,wd,h,hq,he⟩ =>
  ⟨G,F,S,env,_,E0,rn,wd,h,fun ds vs F1 S1 H1 l1 w1 r1 h1=>sY w1 r1 (j7 h1).1 (hq.le l1) (j7 h1).2,he⟩⟩
theorem f6 (h:HA B es tr):HE B (.List es pos) (bD tr) :=
 ⟨fun X W ok tk=>PE.imp (pe_lst (h.run X W ok tk)) fun σ H Q ⟨G,F,S,env,Q0,E0,rn,wd,h,hq,he⟩ =>
  ⟨G,F,S,env,_,E0,rn,wd,h,fun ds vs F1 S1 H1 l1 w1 r1 h1=>j6 w1 r1 (j7 h1).1 (hq.le l1) (j7 h1).2,he⟩⟩
theorem iJ (h:HA B es tr):HE B (.List es pos) (cM tr) :=
 ⟨fun X W ok tk=>PE.imp (pe_lst (h.run X W ok tk)) fun σ H Q ⟨G,F,S,env,Q0,E0,rn,wd,h,hq,he⟩ =>
  ⟨G,F,S,env,_,E0,rn,wd,h,fun ds vs F1 S1 H1 l1 w1 r1 h1=>yP w1 r1 (j7 h1).1 (hq.le l1) (j7 h1).2,he⟩⟩
end

def items (S:Sto):D→Option (List D)
 | .tup ds=>some ds
 | .lst ds=>some ds
 | .rls ds=>some ds
 | .ref p=>match S p with
   | some (.lst ds)=>some ds
   | _=>none
 | _=>none
def bF (S:Sto):D→Option (List D)
 | .lst ds=>some ds
 | .rls ds=>some ds
 | .ref p=>match S p with
   | some (.lst ds)=>some ds
   | _=>none
 | _=>none
theorem dF {K:PySem.W.Frag} {G F:Hp} {S:Sto} {H:Hp} {d:D} {v:V} {ds:List D} (w:Wd K G F S H) (r:Rep K F d v) (h:bF S d=some ds):∃ a vs,v = .ref a∧SqL K H a vs∧Reps K F ds vs∧ds.length≤sizeLine:=by
 cases d <;> simp only [bF] at h <;> first | (cases h; done) | skip
 ·rename_i p
  cases e:S p with
  | none=>rw [e] at h; cases h
  | some m =>
    rw [e] at h
    cases m <;> first | (cases h; done) | skip
    cases h
    obtain ⟨o,h1,vs,rfl,h2,h3⟩:=w.st p _ e
    exact ⟨p,vs,r,SqL.of h1,h2,h3⟩
 ·cases h
  obtain ⟨a,vs,h1,h2,h3,z⟩:=r
  exact ⟨a,vs,h1,SqL.of (w.fr _ _ h2),h3,z⟩
 ·cases h
  obtain ⟨a,vs,h1,h2,h3,z⟩:=r
  exact ⟨a,vs,h1,SqL.le w.fr h2,h3,z⟩
theorem mt {K:PySem.W.Frag} {G F:Hp} {S:Sto} {H:Hp} {d:D} {v:V} {ds:List D} (w:Wd K G F S H) (r:Rep K F d v) (h:items S d=some ds):∃ a vs,v = .ref a∧(SqL K H a vs∨SqT K H a vs)∧Reps K F ds vs∧ds.length≤sizeLine:=by
 cases d with
 | tup es =>
   cases h
   obtain ⟨a,vs,h1,h2,h3,z⟩:=r
   exact ⟨a,vs,h1,.inr (SqT.le w.fr h2),h3,z⟩
 | lst es=>obtain ⟨a,vs,h1,h2,h3⟩:=dF w r (show bF S (.lst es)=some ds from h); exact ⟨a,vs,h1,.inl h2,h3⟩
 | rls es=>obtain ⟨a,vs,h1,h2,h3⟩:=dF w r (show bF S (.rls es)=some ds from h); exact ⟨a,vs,h1,.inl h2,h3⟩
 | ref p=>obtain ⟨a,vs,h1,h2,h3⟩:=dF w r (show bF S (.ref p)=some ds from h); exact ⟨a,vs,h1,.inl h2,h3⟩
 | _=>cases h

section
variable {B:Bs}
theorem A4 {k:Nat} {A:Around} (h:Room k A):A.units + 65 < cLine:=by have:=h.un; omega
def cr:G2:=fun x y S Q=>match x,y with
 | .int i,.int j=>Q (.int (i + j)) S
 | .str s,.str t=>s.length + t.length≤sizeLine∧Q (.str (s ++ t)) S
 | .tup xs,.tup ys=>xs.length + ys.length≤sizeLine∧Q (.tup (xs ++ ys)) S
 | .lst xs,.lst ys=>xs.length + ys.length≤sizeLine∧Q (.lst (xs ++ ys)) S
 | .ref p,.lst ys=>match S p with
   | some (.lst xs)=>xs.length + ys.length≤sizeLine∧Q (.lst (xs ++ ys)) S
   | _=>False
 | .lst xs,.ref p=>match S p with
   | some (.lst ys)=>xs.length + ys.length≤sizeLine∧Q (.lst (xs ++ ys)) S
   | _=>False
 | _,_=>False
def A5 (K:PySem.W.Frag):R2:=fun x y H Q=>rI0 (fun i j=>.int (i + j)) x y H Q∨(∃ i j,x = .str i∧y = .str j∧i.length + j.length≤sizeLine∧Q (.str (i ++ j)) H)∨rCatA K x y H Q∨rCat x y H Q
theorem yQ (X:Cx):OpR X (binaryOp .Add) (A5 X.K):=op_add.or (op_add_str.or (op_catA.or op_cat))
theorem io {K:PySem.W.Frag} {G F:Hp} {S:Sto} {H:Hp} {p:Addr} {ds:List D} (w:Wd K G F S H) (e:S p=some (.lst ds)):∃ vs,H p=some (.lst vs)∧Reps K F ds vs∧ds.length≤sizeLine:=by
 obtain ⟨o,h1,vs,rfl,h2,h3⟩:=w.st p _ e
 exact ⟨vs,h1,h2,h3⟩
theorem A6 {K:PySem.W.Frag} {G F:Hp} {S:Sto} {H:Hp} {a b:Addr} {xs ys:List D} {vs ws:List V} {Q0:HK} {Q:VK} (w:Wd K G F S H) (ha:H a=some (.lst vs)) (hb:H b=some (.lst ws)) (ra:Reps K F xs vs) (rb:Reps K F ys ws)
 (h:xs.length + ys.length≤sizeLine∧Q0 (.lst (xs ++ ys)) S) (hq:OkQ K G F Q0 Q):rCat (.ref a) (.ref b) H Q:=by
 have z:(xs ++ ys).length≤sizeLine:=by rw [List.length_append]; exact h.1
 obtain ⟨z2,n⟩:=j6 w (ra.append rb) z hq h.2
 exact ⟨a,b,vs,ws,rfl,rfl,ha,hb,by rw [ra.len,rb.len]; exact h.1,n⟩
theorem CT {K:PySem.W.Frag}:im K cr (A5 K):=by
 intro G F S H d1 v1 d2 v2 Q0 Q w r1 r2 h hq
 unfold cr at h
 split at h
 ·exact .inl ⟨_,_,r1,r2,hq (.int _) _ F S H Le.rfl' w (by show V.int _=_; rfl) h⟩
 ·exact .inr (.inl ⟨_,_,r1,r2,h.1,hq (.str _) _ F S H Le.rfl' w (by show V.str _=_; rfl) h.2⟩)
 ·rename_i xs ys
  obtain ⟨a,vs,rfl,qa,ra,za⟩:=id r1
  obtain ⟨b,ws,rfl,qb,rb,zb⟩:=id r2
  refine .inr (.inr (.inl ⟨a,b,vs,ws,rfl,rfl,SqT.le w.fr qa,SqT.le w.fr qb,by rw [ra.len,rb.len]; exact h.1,fun e=>?_,fun _ e=>?_,fun _ _=>?_⟩))
  ·have e':=ra.isNil.mp e
   subst e'
   exact hq (.tup ys) _ F S H Le.rfl' w r2 (by simpa using h.2)
  ·have e':=rb.isNil.mp e
   subst e'
   exact hq (.tup xs) _ F S H Le.rfl' w r1 (by simpa using h.2)
  ·exact (sY w (ra.append rb) (by rw [List.length_append]; exact h.1) hq h.2).2
 ·obtain ⟨a,vs,rfl,qa,ra,za⟩:=id r1
  obtain ⟨b,ws,rfl,qb,rb,zb⟩:=id r2
  exact .inr (.inr (.inr (A6 w (w.fr _ _ qa) (w.fr _ _ qb) ra rb h hq)))
 ·rename_i p ys
  obtain ⟨b,ws,rfl,qb,rb,zb⟩:=id r2
  obtain rfl:v1 = .ref p:=r1
  split at h
  ·rename_i xs e
   obtain ⟨vs,h1,h2,h3⟩:=io w e
   exact .inr (.inr (.inr (A6 w h1 (w.fr _ _ qb) h2 rb h hq)))
  ·exact h.elim
 ·rename_i xs p
  obtain ⟨a,vs,rfl,qa,ra,za⟩:=id r1
  obtain rfl:v2 = .ref p:=r2
  split at h
  ·rename_i ys e
   obtain ⟨ws,h1,h2,h3⟩:=io w e
   exact .inr (.inr (.inr (A6 w (w.fr _ _ qa) h1 ra h2 h hq)))
  ·exact h.elim
 ·exact h.elim
theorem fL {a b:Expr} {ta tb:HTE} {pos:Pos} (ha:HE B a ta) (hb:HE B b tb):HE B (.BinOp a .Add b pos) (hop cr ta tb):=uY (fun X _=>yQ X) CT ha hb
def gI (C:Int→Int→Prop) (f:Int→Int→D):G2:=fun x y S Q=>match x,y with
 | .int i,.int j=>C i j∧Q (f i j) S
 | _,_=>False
def gI0 (f:Int→Int→D):G2:=fun x y S Q=>match x,y with
 | .int i,.int j=>Q (f i j) S
 | _,_=>False
theorem yR {K:PySem.W.Frag} {C:Int→Int→Prop} {f:Int→Int→D} {g:Int→Int→V} (hf:∀ F i j,Rep K F (f i j) (g i j)):im K (gI C f) (rI C g):=by
 intro G F S H d1 v1 d2 v2 Q0 Q w r1 r2 h hq
 unfold gI at h
 split at h
 ·exact ⟨_,_,r1,r2,h.1,hq _ _ F S H Le.rfl' w (hf _ _ _) h.2⟩
 ·exact h.elim
theorem A7 {K:PySem.W.Frag} {f:Int→Int→D} {g:Int→Int→V} (hf:∀ F i j,Rep K F (f i j) (g i j)):im K (gI0 f) (rI0 g):=by
 intro G F S H d1 v1 d2 v2 Q0 Q w r1 r2 h hq
 unfold gI0 at h
 split at h
 ·exact ⟨_,_,r1,r2,hq _ _ F S H Le.rfl' w (hf _ _ _) h⟩
 ·exact h.elim
abbrev pU:G2:=gI0 fun i j=>.int (i - j)
abbrev Ej:G2:=gI CMulW fun i j=>.int (i * j)
abbrev EL:G2:=gI CDiv fun i j=>.int (i / j)
abbrev A8:G2:=gI (fun _ j=>0 < j) fun i j=>.int (i % j)
abbrev EM:G2:=gI CPow fun i j=>.int (i ^ j.toNat)
section
variable {a b:Expr} {ta tb:HTE} {pos:Pos}
theorem A9 (ha:HE B a ta) (hb:HE B b tb):HE B (.BinOp a .Sub b pos) (hop pU ta tb):=uY (r:=fun _=>_) (fun X _=>op_sub) (A7 fun _ _ _=>rfl) ha hb
theorem Gj (ha:HE B a ta) (hb:HE B b tb):HE B (.BinOp a .Mult b pos) (hop Ej ta tb):=uY (r:=fun _=>_) (fun X _=>op_mulW) (yR fun _ _ _=>rfl) ha hb
theorem Gk (ha:HE B a ta) (hb:HE B b tb):HE B (.BinOp a .FloorDiv b pos) (hop EL ta tb):=uY (r:=fun _=>_) (fun X _=>op_fdiv) (yR fun _ _ _=>rfl) ha hb
theorem CU (ha:HE B a ta) (hb:HE B b tb):HE B (.BinOp a .Mod b pos) (hop A8 ta tb):=uY (r:=fun _=>_) (fun X _=>op_mod) (yR fun _ _ _=>rfl) ha hb
theorem Gm (ha:HE B a ta) (hb:HE B b tb):HE B (.BinOp a .Pow b pos) (hop EM ta tb):=uY (r:=fun _=>_) (fun X _=>op_pow) (yR fun _ _ _=>rfl) ha hb
end
theorem Ba {a:Expr} {ta:HTE} {pos:Pos} (ha:HE B a ta):HE B (.UnaryOp .USub a pos) (hun (fun x S Q=>match x with | .int i=>Q (.int (-i)) S | _=>False) ta) :=
 G9 (fun X=>un_neg) (by
  intro G F S H d v Q0 Q w r h hq
  split at h
  ·exact ⟨_,r,hq (.int _) _ F S H Le.rfl' w (by show V.int _=_; rfl) h⟩
  ·exact h.elim) ha
end

mutual
def toP:D→PyData
 | .non=>.none
 | .bl b=>.bool b
 | .int i=>.int i
 | .str x=>.str x
 | .tup ds=>.tuple (toPs ds)
 | .lst ds=>.list (toPs ds)
 | .rls ds=>.list (toPs ds)
 | .ref _=>.none
 | .ty _=>.none
 | .obj _ _=>.none
 | .exc _ _=>.none
 | .dtz _ _=>.none
 | .dkz _ _=>.none
 | .tpx _=>.none
 | .tps ds=>.tuple (toPs ds)
def toPs:List D→List PyData
 | []=>[]
 | d :: ds=>toP d :: toPs ds
end
mutual
/-- plain data, at most n deep -/
def dok:Nat→D→Bool
 | _,.non=>true
 | _,.bl _=>true
 | _,.int _=>true
 | _,.str x=>PyData.strOk x
 | n,.tup ds=>match n with
   | 0=>false
   | n + 1=>doks n ds
 | n,.lst ds=>match n with
   | 0=>false
   | n + 1=>doks n ds
 | n,.rls ds=>match n with
   | 0=>false
   | n + 1=>doks n ds
 | _,.ref _=>false
 | _,.ty _=>false
 | _,.obj _ _=>false
 | _,.exc _ _=>false
 | _,.dtz _ _=>false
 | _,.dkz _ _=>false
 | _,.tpx _=>false
 | n,.tps ds=>match n with
   | 0=>false
   | n + 1=>doks n ds
def doks:Nat→List D→Bool
 | _,[]=>true
 | n,d :: ds=>dok n d && doks n ds
end
def deq (x y:D):Bool:=PyData.eqv (toP x) (toP y)
mutual
theorem Bb:∀ (d:D) (n:Nat),dok n d=true→(toP d).canLay0=true∧(toP d).depth≤n
 | .non,_,_=>⟨rfl,by simp [toP,PyData.depth]⟩
 | .bl _,_,_=>⟨rfl,by simp [toP,PyData.depth]⟩
 | .int _,_,_=>⟨rfl,by simp [toP,PyData.depth]⟩
 | .str x,_,h=>⟨by simpa [toP,PyData.canLay0,dok] using h,by simp [toP,PyData.depth]⟩
 | .tup ds,n,h=>by
   cases n with
   | zero=>simp [dok] at h
   | succ n =>
     obtain ⟨h1,h2⟩:=doks_ok ds n (by simpa [dok] using h)
     exact ⟨by simpa [toP,PyData.canLay0] using h1,by simp [toP,PyData.depth]; omega⟩
 | .tps ds,n,h=>by
   cases n with
   | zero=>simp [dok] at h
   | succ n =>
     obtain ⟨h1,h2⟩:=doks_ok ds n (by simpa [dok] using h)
     exact ⟨by simpa [toP,PyData.canLay0] using h1,by simp [toP,PyData.depth]; omega⟩
 | .lst ds,n,h=>by
   cases n with
   | zero=>simp [dok] at h
   | succ n =>
     obtain ⟨h1,h2⟩:=doks_ok ds n (by simpa [dok] using h)
     exact ⟨by simpa [toP,PyData.canLay0] using h1,by simp [toP,PyData.depth]; omega⟩
 | .rls ds,n,h=>by
   cases n with
   | zero=>simp [dok] at h
   | succ n =>
     obtain ⟨h1,h2⟩:=doks_ok ds n (by simpa [dok] using h)
     exact ⟨by simpa [toP,PyData.canLay0] using h1,by simp [toP,PyData.depth]; omega⟩
 | .ref _,_,h=>by simp [dok] at h
 | .ty _,_,h=>by simp [dok] at h
 | .obj _ _,_,h=>by simp [dok] at h
 | .exc _ _,_,h=>by simp [dok] at h
 | .dtz _ _,_,h=>by simp [dok] at h
 | .dkz _ _,_,h=>by simp [dok] at h
theorem doks_ok:∀ (ds:List D) (n:Nat),doks n ds=true→PyData.canLayAll0 (toPs ds)=true∧PyData.depthAll (toPs ds)≤n
 | [],_,_=>⟨rfl,by simp [toPs,PyData.depthAll]⟩
 | d :: ds,n,h=>by
   have h':(dok n d && doks n ds)=true:=by simpa [doks] using h
   obtain ⟨a,b⟩:=Bool.and_eq_true_iff.mp h'
   obtain ⟨h1,h2⟩:=Bb d n a
   obtain ⟨h3,h4⟩:=doks_ok ds n b
   exact ⟨by simp [toPs,PyData.canLayAll0,h1,h3],by simp [toPs,PyData.depthAll]; omega⟩
end
theorem kN {d:D} (h:dok 60 d=true):SeqAt.shaped (toP d)=true:=by
 obtain ⟨h1,h2⟩:=Bb d 60 h
 unfold SeqAt.shaped
 rw [h1,decide_eq_true (by omega)]
 rfl
mutual
theorem Bc {K:PySem.W.Frag} {F H:Hp} (l:Le F H):∀ (d:D) (n:Nat) (v:V),dok n d=true→Rep K F d v→Dp K H v (toP d)
 | .non,_,_,_,r=>by cases r; exact .non
 | .bl _,_,_,_,r=>by cases r; exact .bl _
 | .int _,_,_,_,r=>by cases r; exact .int _
 | .str x,_,_,h,r=>by cases r; exact .str _
 | .tup ds,n,_,h,⟨a,vs,e,q,r,_⟩=>by
   cases n with
   | zero=>simp [dok] at h
   | succ n=>subst e; exact .tup (SqT.le l q) (dps_of l ds n vs (by simpa [dok] using h) r)
 | .tps ds,n,_,h,⟨a,vs,e,q,r,_⟩=>by
   cases n with
   | zero=>simp [dok] at h
   | succ n=>subst e; exact .tup (SqT.of (l _ _ q)) (dps_of l ds n vs (by simpa [dok] using h) r)
 | .lst ds,n,_,h,⟨a,vs,e,q,r,_⟩=>by
   cases n with
   | zero=>simp [dok] at h
   | succ n=>subst e; exact .lst (SqL.of (l _ _ q)) (dps_of l ds n vs (by simpa [dok] using h) r)
 | .rls ds,n,_,h,⟨a,vs,e,q,r,_⟩=>by
   cases n with
   | zero=>simp [dok] at h
   | succ n=>subst e; exact .lst (SqL.le l q) (dps_of l ds n vs (by simpa [dok] using h) r)
 | .ref _,_,_,h,_=>by simp [dok] at h
 | .ty _,_,_,h,_=>by simp [dok] at h
 | .obj _ _,_,_,h,_=>by simp [dok] at h
 | .exc _ _,_,_,h,_=>by simp [dok] at h
 | .dtz _ _,_,_,h,_=>by simp [dok] at h
 | .dkz _ _,_,_,h,_=>by simp [dok] at h
theorem dps_of {K:PySem.W.Frag} {F H:Hp} (l:Le F H):∀ (ds:List D) (n:Nat) (vs:List V),doks n ds=true→Reps K F ds vs→DpAll K H vs (toPs ds)
 | [],_,_,_,r=>by cases r; exact .nil
 | d :: ds,n,_,h,⟨v,ws,e,r,q⟩=>by
   have h':(dok n d && doks n ds)=true:=by simpa [doks] using h
   obtain ⟨a,b⟩:=Bool.and_eq_true_iff.mp h'
   subst e
   exact .cons (Bc l d n v a r) (dps_of l ds n ws b q)
end
def dr (S:Sto):D→D
 | .ref p=>match S p with
   | some (.lst ds)=>.lst ds
   | _=>.ref p
 | d=>d
theorem Ek {K:PySem.W.Frag} {G F:Hp} {S:Sto} {H:Hp} {d:D} {v:V} (w:Wd K G F S H) (r:Rep K F d v) (h:dok 60 (dr S d)=true):Dp K H v (toP (dr S d)):=by
 cases d with
 | ref p =>
   cases e:S p with
   | none=>simp [dr,e,dok] at h
   | some m =>
     cases m with
     | lst ds =>
       simp only [dr,e] at h ⊢
       obtain ⟨vs,h1,h2,h3⟩:=io w e
       obtain rfl:v = .ref p:=r
       exact .lst (SqL.of h1) (dps_of w.fr ds 59 vs (by simpa [dok] using h) h2)
     | _=>simp [dr,e,dok] at h
 | _=>exact Bc w.fr _ 60 v h r

def ng:Bool→Bool→Bool
 | false,b=>b
 | true,b=>!b
section
variable {B:Bs} {a b:Expr} {ta tb:HTE} {pos:Pos}
def uZ (neg:Bool):G2:=fun x y S Q=>match x,y with
 | .str s,.str t=>Q (.bl (ng neg (s == t))) S
 | x,y=>match dok 60 (dr S x) && dok 60 (dr S y) with
   | true=>Q (.bl (ng neg (deq (dr S x) (dr S y)))) S
   | false=>False
abbrev gEq:G2:=uZ false
abbrev gNe:G2:=uZ true
theorem pu {K:PySem.W.Frag} (neg:Bool):im K (uZ neg) (fun x y H Q=>(∃ s t,x = .str s∧y = .str t∧Q (.bl (ng neg (s == t))) H)∨∃ d e,Dp K H x d∧Dp K H y e∧SeqAt.shaped d=true∧SeqAt.shaped e=true∧Q (.bl (ng neg (PyData.eqv d e))) H):=by
 intro G F S H d1 v1 d2 v2 Q0 Q w r1 r2 h hq
 unfold uZ at h
 split at h
 ·exact .inl ⟨_,_,r1,r2,hq (.bl _) _ F S H Le.rfl' w (by show V.bl _=_; rfl) h⟩
 ·split at h
  ·rename_i e
   obtain ⟨e1,e2⟩:=Bool.and_eq_true_iff.mp e
   exact .inr ⟨_,_,Ek w r1 e1,Ek w r2 e2,kN e1,kN e2,hq (.bl _) _ F S H Le.rfl' w (by show V.bl _=_; rfl) h⟩
  ·exact h.elim
theorem Bd {X:Cx} (hr:Room 0 X.A):OpR X (compareOp .Eq) (fun x y H Q=>(∃ s t,x = .str s∧y = .str t∧Q (.bl (ng false (s == t))) H)∨∃ d e,Dp X.K H x d∧Dp X.K H y e∧SeqAt.shaped d=true∧SeqAt.shaped e=true∧Q (.bl (ng false (PyData.eqv d e))) H):=by
 have h:=(op_eq (X:=X)).or (op_eqD hr.units)
 intro pins s σ H x y v u Q I rx ry q
 refine h pins s σ H x y v u Q I rx ry ?_
 rcases q with ⟨s,t,rfl,rfl,q⟩ | ⟨d,e,h1,h2,h3,h4,q⟩
 ·refine .inl ⟨rfl,?_⟩
  rw [dec_str]; exact q
 ·exact .inr ⟨d,e,h1,h2,h3,h4,q⟩
theorem Be {X:Cx} (hr:Room 0 X.A):OpR X (compareOp .NotEq) (fun x y H Q=>(∃ s t,x = .str s∧y = .str t∧Q (.bl (ng true (s == t))) H)∨∃ d e,Dp X.K H x d∧Dp X.K H y e∧SeqAt.shaped d=true∧SeqAt.shaped e=true∧Q (.bl (ng true (PyData.eqv d e))) H):=by
 have h:=(op_ne (X:=X)).or (op_neD hr.units)
 intro pins s σ H x y v u Q I rx ry q
 refine h pins s σ H x y v u Q I rx ry ?_
 rcases q with ⟨s,t,rfl,rfl,q⟩ | ⟨d,e,h1,h2,h3,h4,q⟩
 ·refine .inl ⟨rfl,?_⟩
  rw [dec_str]; exact q
 ·exact .inr ⟨d,e,h1,h2,h3,h4,q⟩
theorem heq (ha:HE B a ta) (hb:HE B b tb):HE B (.Compare a [.Eq] [b] pos) (hop gEq ta tb):=xu (r:=fun K x y H Q=>(∃ s t,x = .str s∧y = .str t∧Q (.bl (ng false (s == t))) H)∨∃ d e,Dp K H x d∧Dp K H y e∧SeqAt.shaped d=true∧SeqAt.shaped e=true∧Q (.bl (ng false (PyData.eqv d e))) H) (fun X ok=>Bd (ok.room.mono (Nat.zero_le _))) (pu false) ha hb (nomark _)
theorem hne (ha:HE B a ta) (hb:HE B b tb):HE B (.Compare a [.NotEq] [b] pos) (hop gNe ta tb):=xu (r:=fun K x y H Q=>(∃ s t,x = .str s∧y = .str t∧Q (.bl (ng true (s == t))) H)∨∃ d e,Dp K H x d∧Dp K H y e∧SeqAt.shaped d=true∧SeqAt.shaped e=true∧Q (.bl (ng true (PyData.eqv d e))) H) (fun X ok=>Be (ok.room.mono (Nat.zero_le _))) (pu true) ha hb (nomark _)
theorem f7 (ha:HE B a ta) (hb:HE B b tb):HT B (.Compare a [.Eq] [b] pos) (hB (hop gEq ta tb)):=pT (r:=fun K x y H Q=>(∃ s t,x = .str s∧y = .str t∧Q (.bl (ng false (s == t))) H)∨∃ d e,Dp K H x d∧Dp K H y e∧SeqAt.shaped d=true∧SeqAt.shaped e=true∧Q (.bl (ng false (PyData.eqv d e))) H) (fun X ok=>Bd (ok.room.mono (Nat.zero_le _))) (pu false) ha hb (nomark _)
theorem Bf (ha:HE B a ta) (hb:HE B b tb):HT B (.Compare a [.NotEq] [b] pos) (hB (hop gNe ta tb)):=pT (r:=fun K x y H Q=>(∃ s t,x = .str s∧y = .str t∧Q (.bl (ng true (s == t))) H)∨∃ d e,Dp K H x d∧Dp K H y e∧SeqAt.shaped d=true∧SeqAt.shaped e=true∧Q (.bl (ng true (PyData.eqv d e))) H) (fun X ok=>Be (ok.room.mono (Nat.zero_le _))) (pu true) ha hb (nomark _)
def jv (f:Int→Int→Bool) (g:List Nat→List Nat→Bool):G2:=fun x y S Q=>match x,y with
 | .int i,.int j=>Q (.bl (f i j)) S
 | .str s,.str t=>Q (.bl (g s.cps.toList t.cps.toList)) S
 | _,_=>False
abbrev Ha (f:Int→Int→Bool) (g:List Nat→List Nat→Bool):R2:=fun x y H Q=>rI0 (fun i j=>.bl (f i j)) x y H Q∨∃ i j,x = .str i∧y = .str j∧Q (.bl (g i.cps.toList j.cps.toList)) H
theorem iK {K:PySem.W.Frag} {f:Int→Int→Bool} {g:List Nat→List Nat→Bool}:im K (jv f g) (Ha f g):=by
 intro G F S H d1 v1 d2 v2 Q0 Q w r1 r2 h hq
 unfold jv at h
 split at h
 ·exact .inl ⟨_,_,r1,r2,hq (.bl _) _ F S H Le.rfl' w (by show V.bl _=_; rfl) h⟩
 ·exact .inr ⟨_,_,r1,r2,hq (.bl _) _ F S H Le.rfl' w (by show V.bl _=_; rfl) h⟩
 ·exact h.elim
abbrev gLt:G2:=jv (fun i j=>decide (i < j)) fun s t=>decide (s < t)
abbrev gLe:G2:=jv (fun i j=>decide (i≤j)) fun s t=>!decide (t < s)
abbrev gGt:G2:=jv (fun i j=>decide (j < i)) fun s t=>decide (t < s)
abbrev gGe:G2:=jv (fun i j=>decide (j≤i)) fun s t=>!decide (s < t)
theorem hlt (ha:HE B a ta) (hb:HE B b tb):HE B (.Compare a [.Lt] [b] pos) (hop gLt ta tb):=xu (r:=fun _=>_) (fun X _=>op_lt.or op_lt_str) iK ha hb (nomark _)
theorem hle (ha:HE B a ta) (hb:HE B b tb):HE B (.Compare a [.LtE] [b] pos) (hop gLe ta tb):=xu (r:=fun _=>_) (fun X _=>op_le.or op_le_str) iK ha hb (nomark _)
theorem hgt (ha:HE B a ta) (hb:HE B b tb):HE B (.Compare a [.Gt] [b] pos) (hop gGt ta tb):=xu (r:=fun _=>_) (fun X _=>op_gt.or op_gt_str) iK ha hb (nomark _)
theorem Ab (ha:HE B a ta) (hb:HE B b tb):HT B (.Compare a [.Lt] [b] pos) (hB (hop gLt ta tb)):=pT (r:=fun _=>_) (fun X _=>op_lt.or op_lt_str) iK ha hb (nomark _)
theorem Ac (ha:HE B a ta) (hb:HE B b tb):HT B (.Compare a [.Gt] [b] pos) (hB (hop gGt ta tb)):=pT (r:=fun _=>_) (fun X _=>op_gt.or op_gt_str) iK ha hb (nomark _)
theorem EO (ha:HE B a ta) (hb:HE B b tb):HT B (.Compare a [.GtE] [b] pos) (hB (hop gGe ta tb)):=pT (r:=fun _=>_) (fun X _=>op_ge.or op_ge_str) iK ha hb (nomark _)
def isN:D→Bool
 | .non=>true
 | _=>false
def pV (neg:Bool):G2:=fun x y S Q=>match y with
 | .non=>Q (.bl (ng neg (isN x))) S
 | .bl b=>match x with
   | .bl a=>Q (.bl (ng neg (a == b))) S
   | _=>False
 | _=>False
theorem EQ {K:PySem.W.Frag} {F:Hp} {d:D} {v:V} (r:Rep K F d v):decide (v = .non)=isN d:=by
 cases d with
 | non=>cases r; rfl
 | bl _=>cases r; rfl
 | int _=>cases r; rfl
 | str _=>cases r; rfl
 | ref _=>cases r; rfl
 | ty _=>cases r; rfl
 | tup _=>obtain ⟨a,vs,rfl,_⟩:=r; rfl
 | lst _=>obtain ⟨a,vs,rfl,_⟩:=r; rfl
 | rls _=>obtain ⟨a,vs,rfl,_⟩:=r; rfl
 | obj _ _=>obtain ⟨a,dx,vs,rfl,_⟩:=r; rfl
 | exc _ _=>obtain ⟨a,d,vs,rfl,_⟩:=r; rfl
 | tpx _=>obtain ⟨a,vs,o,rfl,_⟩:=r; rfl
 | tps _=>obtain ⟨a,vs,rfl,_⟩:=r; rfl
 | dtz _ _=>obtain ⟨a,vs,o,rfl,_⟩:=r; rfl
 | dkz _ _=>obtain ⟨a,vs,o,rfl,_⟩:=r; rfl
theorem ER {K:PySem.W.Frag}:im K (pV false) (fun x y H Q=>(y = .non∧Q (.bl (decide (x = .non))) H)∨rIsB x y H Q):=by
 intro G F S H d1 v1 d2 v2 Q0 Q w r1 r2 h hq
 unfold pV at h
 split at h
 ·exact .inl ⟨r2,hq (.bl _) _ F S H Le.rfl' w (by show V.bl _=_; rw [EQ r1]; rfl) h⟩
 ·split at h
  ·exact .inr ⟨_,_,r1,r2,hq (.bl _) _ F S H Le.rfl' w (by show V.bl _=_; first | rfl | (simp [ng]; rfl) | (simp [ng])) h⟩
  ·exact h.elim
 ·exact h.elim
theorem his (ha:HE B a ta) (hb:HE B b tb):HE B (.Compare a [.Is] [b] pos) (hop (pV false) ta tb):=xu (r:=fun _=>_) (fun X _=>op_isN.or op_isBl) ER ha hb (nomark _)
end
section
variable {B:Bs} {a b:Expr} {ta tb:HTE} {pos:Pos}
def cV:D→Bool
 | .non=>true
 | .bl _=>true
 | .int _=>true
 | .str _=>true
 | _=>false
theorem yS {K:PySem.W.Frag} {F:Hp} {d:D} {v:V} (r:Rep K F d v) (h:cV d=true):flatV v=true:=by
 cases d <;> first | (simp [cV] at h; done) | (cases r; rfl)
theorem u1 {K:PySem.W.Frag} {F:Hp}:∀ {ds:List D} {vs:List V},Reps K F ds vs→ds.all cV=true→vs.all flatV=true
 | [],_,r,_=>by cases r; rfl
 | d :: ds,_,⟨v,ws,e,r,q⟩,h=>by
   subst e
   rw [List.all_cons,Bool.and_eq_true] at h ⊢
   exact ⟨yS r h.1,u1 q h.2⟩
theorem CV {K:PySem.W.Frag} {F:Hp} {x y:D} {v w:V} (rx:Rep K F x v) (ry:Rep K F y w) (hx:cV x=true) (hy:cV y=true):eqV v w=deq x y:=by
 cases x <;> first | (simp [cV] at hx; done) | skip
 all_goals (cases y <;> first | (simp [cV] at hy; done) | skip)
 all_goals (cases rx; cases ry; simp [eqV,deq,toP,PyData.eqv])
theorem yT {K:PySem.W.Frag} {F:Hp} {x:D} {v:V} (rx:Rep K F x v) (hx:cV x=true):∀ {ds:List D} {vs:List V},Reps K F ds vs→ds.all cV=true→inV v vs=ds.any fun z=>deq z x
 | [],_,r,_=>by cases r; rfl
 | d :: ds,_,⟨w,ws,e,r,q⟩,h=>by
   subst e
   rw [List.all_cons,Bool.and_eq_true] at h
   have ih:=yT rx hx q h.2
   unfold inV at ih ⊢
   rw [List.any_cons,List.any_cons,ih,CV r rx h.1 hx]
def iG (neg:Bool):G2:=fun x y S Q=>match y with
 | .str z=>match x with
   | .str w=>match w.cps.toList with
     | [c]=>Q (.bl (ng neg (decide (c ∈ z.cps.toList)))) S
     | _=>Q (.bl (ng neg (!(Builtin.Str.occurrences z w 0 z.length 1).isEmpty))) S
   | _=>False
 | y=>match items S y with
   | some ds=>match cV x && ds.all cV with
     | true=>Q (.bl (ng neg (ds.any fun z=>deq z x))) S
     | false=>match bF S y with
       | some es=>match dok 60 x && dok 60 (.lst es) with
         | true=>Q (.bl (ng neg (es.any fun z=>deq z x))) S
         | false=>False
       | none=>False
   | none=>False
abbrev gIn:G2:=iG false
abbrev f8:G2:=iG true
theorem CW {w:Str} {c:Nat} (h:w.cps.toList=[c]):w=⟨#[c]⟩:=by
 cases w with
 | mk cps=>simp at h; simp [← h]
theorem u2 (x:D):∀ ds:List D,((toPs ds).any fun z=>PyData.eqv z (toP x))=ds.any fun z=>deq z x
 | []=>rfl
 | d :: ds=>by simp only [toPs,List.any_cons,u2 x ds]; rfl
abbrev Ad (neg:Bool) (K:PySem.W.Frag):R2:=fun x y H Q=>(∃ (c:Nat) (z:Str),x = .str ⟨#[c]⟩∧y = .str z∧Q (.bl (ng neg (decide (c ∈ z.cps.toList)))) H) ∨
 (∃ i j,x = .str i∧y = .str j∧Q (.bl (ng neg (!(Builtin.Str.occurrences j i 0 j.length 1).isEmpty))) H) ∨
 (∃ p xs,y = .ref p∧(SqL K H p xs∨SqT K H p xs)∧flatV x=true∧xs.all flatV=true∧Q (.bl (ng neg (inV x xs))) H) ∨
 ∃ d ds,Dp K H x d∧Dp K H y (.list ds)∧SeqAt.shaped d=true∧SeqAt.shaped (.list ds)=true∧Q (.bl (ng neg (ds.any fun z=>PyData.eqv z d))) H
theorem sZ {K:PySem.W.Frag} (neg:Bool):im K (iG neg) (Ad neg K):=by
 intro G F S H d1 v1 d2 v2 Q0 Q w r1 r2 h hq
 unfold iG at h
 split at h
 ·split at h
  ·split at h
   ·rename_i c e
    obtain rfl:=CW e
    exact .inl ⟨c,_,r1,r2,hq (.bl _) _ F S H Le.rfl' w (by show V.bl _=_; rfl) h⟩
   ·exact .inr (.inl ⟨_,_,r1,r2,hq (.bl _) _ F S H Le.rfl' w (by show V.bl _=_; rfl) h⟩)
  ·exact h.elim
 ·rename_i y' hy
  split at h
  ·rename_i ds e
   split at h
   ·rename_i f
    obtain ⟨f1,f2⟩:=Bool.and_eq_true_iff.mp f
    obtain ⟨p,vs,rfl,hs,rs,_⟩:=mt w r2 e
    exact .inr (.inr (.inl ⟨p,vs,rfl,hs,yS r1 f1,u1 rs f2,hq (.bl _) _ F S H Le.rfl' w (by show V.bl _=_; rw [yT r1 f1 rs f2]) h⟩))
   ·split at h
    ·rename_i es e2
     split at h
     ·rename_i f
      obtain ⟨f1,f2⟩:=Bool.and_eq_true_iff.mp f
      obtain ⟨p,vs,rfl,hs,rs,_⟩:=dF w r2 e2
      refine .inr (.inr (.inr ⟨toP d1,toPs es,Bc w.fr _ 60 _ f1 r1,.lst hs (dps_of w.fr es 59 vs (by simpa [dok] using f2) rs),kN f1,kN (d:=.lst es) f2,hq (.bl _) _ F S H Le.rfl' w (by show V.bl _=_; rw [u2]) h⟩))
     ·exact h.elim
    ·exact h.elim
  ·exact h.elim
theorem Bg {X:Cx} (hr:Room 0 X.A):OpR X (compareOp .In) (Ad false X.K):=by
 have h:=(op_in_sign (X:=X)).or ((op_in_str (X:=X)).or ((op_in_seq (X:=X)).or (op_inD (A4 hr))))
 intro pins s σ H x y v u Q I rx ry q
 refine h pins s σ H x y v u Q I rx ry ?_
 rcases q with q | q | ⟨p,xs,h1,h2,h3,h4,q⟩ | q
 ·exact .inl q
 ·exact .inr (.inl q)
 ·exact .inr (.inr (.inl ⟨p,xs,h1,h2,h3,h4,q⟩))
 ·exact .inr (.inr (.inr q))
theorem Ae {X:Cx} (hr:Room 0 X.A):OpR X (compareOp .NotIn) (Ad true X.K):=by
 have h:=(op_notIn_sign (X:=X)).or ((op_notIn_str (X:=X)).or ((op_notIn_seq (X:=X)).or (op_notInD (A4 hr))))
 intro pins s σ H x y v u Q I rx ry q
 refine h pins s σ H x y v u Q I rx ry ?_
 rcases q with q | q | ⟨p,xs,h1,h2,h3,h4,q⟩ | q
 ·exact .inl q
 ·exact .inr (.inl q)
 ·exact .inr (.inr (.inl ⟨p,xs,h1,h2,h3,h4,q⟩))
 ·exact .inr (.inr (.inr q))
section
variable (hm:behindInMarks .In b=false:=by rfl)
theorem hin (ha:HE B a ta) (hb:HE B b tb) (hm:behindInMarks .In b=false:=by rfl):HE B (.Compare a [.In] [b] pos) (hop gIn ta tb):=xu (r:=Ad false) (fun X ok=>Bg (ok.room.mono (Nat.zero_le _))) (sZ false) ha hb hm
theorem mv (ha:HE B a ta) (hb:HE B b tb) (hm:behindInMarks .In b=false:=by rfl):HT B (.Compare a [.In] [b] pos) (hB (hop gIn ta tb)):=pT (r:=Ad false) (fun X ok=>Bg (ok.room.mono (Nat.zero_le _))) (sZ false) ha hb hm
theorem hZ (ha:HE B a ta) (hb:HE B b tb) (hm:behindInMarks .NotIn b=false:=by rfl):HT B (.Compare a [.NotIn] [b] pos) (hB (hop f8 ta tb)):=pT (r:=Ad true) (fun X ok=>Ae (ok.room.mono (Nat.zero_le _))) (sZ true) ha hb hm
end
def gIx:G2:=fun x y S Q=>match y with
 | .int i=>match x with
   | .str z=>z.length≤sizeLine∧(match atI z.cps.toList i with
     | some c=>Q (.str ⟨#[c]⟩) S
     | none=>False)
   | x=>match items S x with
     | some ds=>match atI ds i with
       | some d=>Q d S
       | none=>False
     | none=>False
 | _=>False
theorem Bh {K:PySem.W.Frag} {F:Hp} {ds:List D} {vs:List V} {i:Int} {d:D} (r:Reps K F ds vs) (h:atI ds i=some d):∃ v,atI vs i=some v∧Rep K F d v:=by
 unfold atI at h ⊢
 rw [r.len]
 cases e:ixN ds.length i with
 | none=>rw [e] at h; cases h
 | some j =>
   rw [e] at h
   obtain ⟨v,h1,h2⟩:=r.at (i:=j) (by simpa using h)
   exact ⟨v,by simpa using h1,h2⟩
theorem ES {K:PySem.W.Frag}:im K gIx (rIx K):=by
 intro G F S H d1 v1 d2 v2 Q0 Q w r1 r2 h hq
 unfold gIx at h
 split at h
 ·split at h
  ·obtain ⟨z,h⟩:=h
   split at h
   ·rename_i c e
    exact .inr (.inr ⟨_,_,c,r1,r2,z,e,hq (.str _) _ F S H Le.rfl' w (by show V.str _=_; rfl) h⟩)
   ·exact h.elim
  ·split at h
   ·rename_i ds e
    split at h
    ·rename_i d e2
     obtain ⟨p,vs,rfl,hs,rs,_⟩:=mt w r1 e
     obtain ⟨v,h1,h2⟩:=Bh rs e2
     have q:=hq d v F S H Le.rfl' w h2 h
     rcases hs with hs | hs
     ·exact .inl ⟨p,vs,_,v,rfl,r2,hs,h1,q⟩
     ·exact .inr (.inl ⟨p,vs,_,v,rfl,r2,hs,h1,q⟩)
    ·exact h.elim
   ·exact h.elim
 ·exact h.elim
theorem hix (ha:HE B a ta) (hb:HE B b tb) (hs:PlainIx b:=by exact fun _ _=>rfl):HE B (.Subscript a b pos) (hop gIx ta tb) :=
 ⟨fun X W ok tk=>PE.imp (pe_ix (by have:=ix_seq (X:=X); rw [ok.eK] at this; exact this) (ha.run X W ok tk) (hb.run X W ok tk) hs) fun σ H Q h=>lop ES ta tb σ H Q h⟩
abbrev HTO:=aW→Sto→(Option Int→Sto→Prop)→HK→Prop
def lO (K:PySem.W.Frag) (W:WX) (t:HTO):TO:=fun σ H Q=>∃ G F S env Q0 E0,RepN K F env σ∧Wd K G F S H∧t env S Q0 E0∧(∀ o F' S' H',Le F F'→Wd K G F' S' H'→Q0 o S'→Q o H')∧OkE K G F E0 (WE W σ)
structure HO_ (B:Bs) (e:Option Expr) (t:HTO):Prop where
 run:∀ (X:Cx) (W:WX),OkC B X→Takes X W→PO X e (lO B.K W t)
theorem PO.imp {X:Cx} {e:Option Expr} {t t':TO} (h:PO X e t) (i:∀ σ H Q,t' σ H Q→t σ H Q):PO X e t':=⟨fun pins s σ H Q I q=>h.run pins s σ H Q I (i σ H Q q)⟩
def mw:HTO:=fun _ S Q _=>Q none S
def iL (t:HTE):HTO:=fun env S Q E=>t env S (fun x S1=>match x with
 | .int i=>Q (some i) S1
 | _=>False) E
theorem ET:HO_ B none mw:=⟨fun X W ok tk=>PO.imp po_none fun σ H Q ⟨G,F,S,env,Q0,E0,rn,wd,h,hq,he⟩=>hq none F S H Le.rfl' wd h⟩
theorem Bi (h:HE B a ta):HO_ B (some a) (iL ta):=⟨fun X W ok tk=>PO.imp (po_some (h.run X W ok tk)) fun σ H Q ⟨G,F,S,env,Q0,E0,rn,wd,h,hq,he⟩ =>
 ⟨G,F,S,env,_,E0,rn,wd,h,fun d v F1 S1 H1 l1 w1 r1 h1=>by
  cases d <;> first | exact h1.elim | skip
  exact ⟨_,r1,hq _ F1 S1 H1 l1 w1 h1⟩,he⟩⟩
def lG (xs:List D) (lo hi:Option Int):List D:=(xs.drop (HT.sIx xs.length 0 lo)).take (HT.sIx xs.length xs.length hi - HT.sIx xs.length 0 lo)
theorem rV {K:PySem.W.Frag} {F:Hp} {ds:List D} {vs:List V} (r:Reps K F ds vs) (lo hi:Option Int):Reps K F (lG ds lo hi) (cutV vs lo hi):=by
 unfold lG cutV
 rw [r.len]
 exact (r.drop _).take _
theorem u3 (ds:List D) (lo hi:Option Int):(lG ds lo hi).length≤ds.length:=by
 unfold lG
 rw [List.length_take,List.length_drop]
 omega
def gSl:D→Option Int→Option Int→Sto→HK→Prop:=fun x lo hi S Q=>match x with
 | .str z=>z.length≤sizeLine∧Q (.str (cutS z lo hi)) S
 | .tup ds=>Q (.tup (lG ds lo hi)) S
 | x=>match bF S x with
   | some ds=>Q (.lst (lG ds lo hi)) S
   | none=>False
def hSl (te:HTE) (tl th:HTO):HTE:=fun env S Q E=>te env S (fun x S1=>tl env S1 (fun l S2=>th env S2 (fun u S3=>gSl x l u S3 Q) E) E) E
abbrev Hb (K:PySem.W.Frag):V→Option Int→Option Int→Hp→VK→Prop:=fun x lo hi H Q=>rSlS x lo hi H Q∨rSlA K x lo hi H Q∨rSlL K x lo hi H Q
theorem EU {K:PySem.W.Frag} {G F:Hp} {S:Sto} {H:Hp} {d:D} {v:V} {lo hi:Option Int} {Q0:HK} {Q:VK} (w:Wd K G F S H) (r:Rep K F d v) (h:gSl d lo hi S Q0) (hq:OkQ K G F Q0 Q):Hb K v lo hi H Q:=by
 unfold gSl at h
 split at h
 ·exact .inl ⟨_,r,h.1,hq (.str _) _ F S H Le.rfl' w (by show V.str _=_; rfl) h.2⟩
 ·rename_i ds
  obtain ⟨a,vs,rfl,qa,ra,za⟩:=id r
  refine .inr (.inl ⟨a,vs,rfl,SqT.le w.fr qa,fun e=>?_,fun _=>?_⟩)
  ·have e2:lG ds lo hi=ds:=by
    unfold lG
    rw [ra.len] at e
    rw [e.1,e.2]
    simp
   rw [e2] at h
   exact hq (.tup ds) _ F S H Le.rfl' w r h
  ·exact (sY w (rV ra lo hi) (Nat.le_trans (u3 _ _ _) za) hq h).2
 ·split at h
  ·rename_i ds e
   obtain ⟨p,vs,rfl,hs,rs,z⟩:=dF w r e
   exact .inr (.inr ⟨p,vs,rfl,hs,(j6 w (rV rs lo hi) (Nat.le_trans (u3 _ _ _) z) hq h).2⟩)
  ·exact h.elim
theorem hsl {lo hi:Option Expr} {tl th:HTO} {p2:Pos} (he:HE B a ta) (hl:HO_ B lo tl) (hu:HO_ B hi th):HE B (.Subscript a (.Slice lo hi none p2) pos) (hSl ta tl th) :=
 ⟨fun X W ok tk=>PE.imp (pe_slice (by have:=(sl_str (X:=X)).or ((sl_tupA (X:=X)).or (sl_list (X:=X))); rw [ok.eK] at this; exact this) (he.run X W ok tk) (hl.run X W ok tk) (hu.run X W ok tk)) fun σ H Q ⟨G,F,S,env,Q0,E0,rn,wd,h,hq,he⟩ =>
  ⟨G,F,S,env,_,E0,rn,wd,h,fun d v F1 S1 H1 l1 w1 r1 h1 =>
   ⟨G,F1,S1,env,_,E0,rn.le l1,w1,h1,fun l F2 S2 H2 l2 w2 h2 =>
    ⟨G,F2,S2,env,_,E0,rn.le (l1.trans l2),w2,h2,fun u F3 S3 H3 l3 w3 h3=>EU w3 (r1.le (l2.trans l3)) h3 (hq.le (l1.trans (l2.trans l3))),he.le (l1.trans l2)⟩,he.le l1⟩,he⟩⟩
end
section
variable {B:Bs} {e a b o:Expr} {es:List Expr} {ta tb te to:HTE} {tr:HTA} {x m:Str} {p pos apos:Pos}
abbrev Gn (B:Bs) (x:Str):Prop:=B.sc.names.lookup x=some .globalImplicit
theorem OkC.gl {X:Cx} (ok:OkC B X) (h:Gn B x):Gl X x:=by
 show X.env.scope.names.lookup x=some .globalImplicit
 rw [ok.es]; exact h
def hcb (g:GL) (t:HTA):HTE:=fun env S Q E=>t env S (fun ds S1=>g ds S1 Q) E
theorem lcb {K:PySem.W.Frag} {W:WX} {g:GL} {r:List V→Hp→VK→Prop} (hg:ro K g r) (t:HTA) (σ:St) (H:Hp) (Q:VK) (h:lE K W (hcb g t) σ H Q):tCB r (lA K W t) σ H Q:=by
 obtain ⟨G,F,S,env,Q0,E0,rn,wd,h,hq,he⟩:=h
 exact ⟨G,F,S,env,fun x S1=>g x S1 Q0,E0,rn,wd,h,fun d v F1 S1 H1 l1 w1 r1 h1=>hg G F1 S1 H1 d v Q0 _ w1 r1 h1 (hq.le l1),he⟩
theorem lH {id:String} {g:GL} {r:PySem.W.Frag→List V→Hp→VK→Prop} (ho:∀ X,OkC B X→CallR X (.builtin id) (r X.K)) (hg:ro B.K g (r B.K)) (gn:Gn B x) (hm:B.mg x=none) (hv:bootBuiltins x=some (.builtin id)) (ha:HA B (e :: es) tr)
 (hn:x ≠ "__name__" := by decide) (hdb:(x == ("__debug__" : Str))=false:=by decide) (he:∀ env,starEach (e :: es) env=(false,eval e env) :: starEach es env:=by intro _; rfl) (hpl:∀ env,(backTo pos (starEach es env)).any (·.1)=false:=by intro _; rfl) :
 HE B (.Call (.Name x p) (e :: es) [] pos) (hcb g tr) :=
 ⟨fun X W ok tk=>PE.imp (pe_callB (by have:=ho X ok; rw [ok.eK] at this; exact this) (ok.gl gn) (by rw [ok.em]; exact hm) hv (ha.run X W ok tk) hn hdb (he _) (hpl _)) fun σ H Q h=>lcb hg tr σ H Q h⟩
theorem mx {T:String} {g:GL} {r:PySem.W.Frag→List V→Hp→VK→Prop} (ho:∀ X,OkC B X→CallR X (.type T) (r X.K)) (hg:ro B.K g (r B.K)) (gn:Gn B x) (hm:B.mg x=none) (hv:bootBuiltins x=some (.type T)) (ha:HA B (e :: es) tr)
 (hn:x ≠ "__name__" := by decide) (hdb:(x == ("__debug__" : Str))=false:=by decide) (he:∀ env,starEach (e :: es) env=(false,eval e env) :: starEach es env:=by intro _; rfl) (hpl:∀ env,(backTo pos (starEach es env)).any (·.1)=false:=by intro _; rfl) :
 HE B (.Call (.Name x p) (e :: es) [] pos) (hcb g tr) :=
 ⟨fun X W ok tk=>PE.imp (pe_callTy (by have:=ho X ok; rw [ok.eK] at this; exact this) (ok.gl gn) (by rw [ok.em]; exact hm) hv (ha.run X W ok tk) hn hdb (he _) (hpl _)) fun σ H Q h=>lcb hg tr σ H Q h⟩
theorem Reps.one_inv {K:PySem.W.Frag} {F:Hp} {d:D} {vs:List V} (r:Reps K F [d] vs):∃ v,vs=[v]∧Rep K F d v:=by
 obtain ⟨v,ws,rfl,r,q⟩:=r
 cases q
 exact ⟨v,rfl,r⟩
theorem Reps.two_inv {K:PySem.W.Frag} {F:Hp} {d e:D} {vs:List V} (r:Reps K F [d,e] vs):∃ v w,vs=[v,w]∧Rep K F d v∧Rep K F e w:=by
 obtain ⟨v,ws,rfl,r,q⟩:=r
 obtain ⟨w,e,q⟩:=q.one_inv
 exact ⟨v,w,by rw [e],r,q⟩
def dJ:GL:=fun ds S Q=>match ds with
 | [.str z]=>z.length≤sizeLine∧Q (.int z.length) S
 | [x]=>match items S x with
   | some xs=>Q (.int xs.length) S
   | none=>match x with
     | .ref q=>match S q with
       | some (.dct kvs)=>Q (.int kvs.length) S
       | _=>False
     | _=>False
 | _=>False
abbrev El (K:PySem.W.Frag):List V→Hp→VK→Prop:=fun xs H Q=>(∃ z,xs=[.str z]∧z.length≤sizeLine∧Q (.int z.length) H)∨(∃ p ys,xs=[.ref p]∧(SqL K H p ys∨SqT K H p ys)∧Q (.int ys.length) H)∨∃ a kvs,xs=[.ref a]∧H a=some (.dK kvs)∧Q (.int kvs.length) H
theorem pW {K:PySem.W.Frag} {G F:Hp} {S:Sto} {H:Hp} {q:Addr} {kvs:List (Key × D)} (w:Wd K G F S H) (e:S q=some (.dct kvs)):∃ vs,H q=some (.dK ((kvs.map (·.1)).zip vs))∧Reps K F (kvs.map (·.2)) vs:=by
 obtain ⟨o,h1,vs,rfl,h2⟩:=w.st q _ e
 exact ⟨vs,h1,h2⟩
theorem my {κ:Type} {K:PySem.W.Frag} {F:Hp} {kvs:List (κ × D)} {vs:List V} (r:Reps K F (kvs.map (·.2)) vs):((kvs.map (·.1)).zip vs).length=kvs.length:=by
 have:=r.len
 rw [List.length_zip,this,List.length_map,List.length_map,Nat.min_self]
theorem CY {K:PySem.W.Frag}:ro K dJ (El K):=by
 intro G F S H ds vs Q0 Q w r h hq
 unfold dJ at h
 split at h
 ·obtain ⟨v,rfl,r1⟩:=r.one_inv
  exact .inl ⟨_,by rw [show v=V.str _ from r1],h.1,hq (.int _) _ F S H Le.rfl' w (by show V.int _=_; rfl) h.2⟩
 ·rename_i x _
  obtain ⟨v,rfl,r1⟩:=r.one_inv
  split at h
  ·rename_i xs e
   obtain ⟨p,vs,rfl,hs,rs,_⟩:=mt w r1 e
   exact .inr (.inl ⟨p,vs,rfl,hs,hq (.int _) _ F S H Le.rfl' w (by show V.int _=_; rw [rs.len]) h⟩)
  ·cases x <;> first | exact h.elim | skip
   rename_i q _ _
   dsimp only at h
   split at h
   ·rename_i kvs e
    obtain ⟨vs,h1,h2⟩:=pW w e
    obtain rfl:v = .ref q:=r1
    exact .inr (.inr ⟨q,_,rfl,h1,hq (.int _) _ F S H Le.rfl' w (by show V.int _=_; rw [my h2]) h⟩)
   ·exact h.elim
 ·exact h.elim
theorem CallR.or3 {X:Cx} {f:Value} {r r' r'':List V→Hp→VK→Prop} (h:CallR X f r) (h':CallR X f r') (h'':CallR X f r''):CallR X f (fun xs H Q=>r xs H Q∨r' xs H Q∨r'' xs H Q):=h.or (h'.or h'')
theorem Af {X:Cx}:CallR X (.builtin "len") (fun xs H Q=>∃ a kvs,xs=[.ref a]∧H a=some (.dK kvs)∧Q (.int kvs.length) H):=by
 intro pins s σ H xs us Q I r h
 obtain ⟨a,kvs,rfl,e,q⟩:=h
 exact call_lenD pins s σ H _ us Q I r ⟨a,kvs,rfl,e,q⟩
theorem hlen (gn:Gn B "len") (hm:B.mg "len" = none) (ha:HA B [a] tr) (he:∀ env,starEach [a] env=(false,eval a env) :: starEach [] env:=by intro _; rfl):HE B (.Call (.Name "len" p) [a] [] pos) (hcb dJ tr) :=
 lH (r:=El) (fun X _=>CallR.or3 call_len_str call_len_seq Af) CY gn hm boot_len ha (he:=he) (hpl:=fun _=>rfl)
def dD:GL:=fun ds S Q=>match ds with
 | [x]=>match items S x with
   | some xs=>Q (.tup xs) S
   | none=>False
 | _=>False
theorem Ag {K:PySem.W.Frag}:ro K dD (fun xs H Q=>∃ p ys,xs=[.ref p]∧((SqL K H p ys∧∀ l,H l=none→Q (.ref l) (upd H l (.tup ys)))∨(SqT K H p ys∧Q (.ref p) H))):=by
 intro G F S H ds vs Q0 Q w r h hq
 unfold dD at h
 split at h
 ·obtain ⟨v,rfl,r1⟩:=r.one_inv
  rename_i x
  split at h
  ·rename_i xs e
   cases x with
   | tup es =>
     cases e
     obtain ⟨a,us,rfl,qa,ra,z⟩:=id r1
     exact ⟨a,us,rfl,.inr ⟨SqT.le w.fr qa,hq (.tup xs) _ F S H Le.rfl' w r1 h⟩⟩
   | _ =>
     obtain ⟨p,us,rfl,hs,rs,z⟩:=dF w r1 (by first | exact e | (cases e; done))
     exact ⟨p,us,rfl,.inl ⟨hs,(sY w rs z hq h).2⟩⟩
  ·exact h.elim
 ·exact h.elim
theorem jw (gn:Gn B "tuple") (hm:B.mg "tuple" = none) (ha:HA B [a] tr) (he:∀ env,starEach [a] env=(false,eval a env) :: starEach [] env:=by intro _; rfl):HE B (.Call (.Name "tuple" p) [a] [] pos) (hcb dD tr) :=
 mx (r:=fun K xs H Q=>∃ p ys,xs=[.ref p]∧((SqL K H p ys∧∀ l,H l=none→Q (.ref l) (upd H l (.tup ys)))∨(SqT K H p ys∧Q (.ref p) H))) (fun X _=>call_tuple_of) Ag gn hm (by decide +kernel) ha (he:=he) (hpl:=fun _=>rfl)
def fu:GL:=fun ds S Q=>match ds with
 | [x]=>match items S x with
   | some xs=>Q (.lst xs) S
   | none=>False
 | _=>False
abbrev Bj (K:PySem.W.Frag):List V→Hp→VK→Prop:=fun xs H Q=>∃ p ys,xs=[.ref p]∧(SqL K H p ys∨SqT K H p ys)∧∀ l,H l=none→Q (.ref l) (upd H l (.lst ys))
theorem Bk {K:PySem.W.Frag}:ro K fu (Bj K):=by
 intro G F S H ds vs Q0 Q w r h hq
 unfold fu at h
 split at h
 ·obtain ⟨v,rfl,r1⟩:=r.one_inv
  split at h
  ·rename_i x xs e
   obtain ⟨p,us,rfl,hs,rs,z⟩:=mt w r1 e
   exact ⟨p,us,rfl,hs,(j6 w rs z hq h).2⟩
  ·exact h.elim
 ·exact h.elim
theorem oj (gn:Gn B "list") (hm:B.mg "list" = none) (ha:HA B [a] tr) (he:∀ env,starEach [a] env=(false,eval a env) :: starEach [] env:=by intro _; rfl):HE B (.Call (.Name "list" p) [a] [] pos) (hcb fu tr) :=
 mx (r:=Bj) (fun X _=>call_list_of) Bk gn hm (by decide +kernel) ha (he:=he) (hpl:=fun _=>rfl)
def iM:List D→Option (List Int)
 | []=>some []
 | .int i :: r=>(iM r).map (i :: ·)
 | _ :: _=>none
def xw:List D→Option (List Bool)
 | []=>some []
 | .bl i :: r=>(xw r).map (i :: ·)
 | _ :: _=>none
theorem pA {K:PySem.W.Frag} {F:Hp}:∀ {ds:List D} {vs:List V} {ns:List Int},iM ds=some ns→Reps K F ds vs→vs=ns.map V.int
 | [],_,_,h,r=>by cases h; exact r
 | .int i :: ds,_,ns,h,⟨v,ws,e,r,q⟩=>by
   simp only [iM,Option.map_eq_some_iff] at h
   obtain ⟨ms,h1,rfl⟩:=h
   cases r
   rw [e,pA h1 q]; rfl
theorem xx {K:PySem.W.Frag} {F:Hp}:∀ {ds:List D} {vs:List V} {ns:List Bool},xw ds=some ns→Reps K F ds vs→vs=ns.map V.bl
 | [],_,_,h,r=>by cases h; exact r
 | .bl i :: ds,_,ns,h,⟨v,ws,e,r,q⟩=>by
   simp only [xw,Option.map_eq_some_iff] at h
   obtain ⟨ms,h1,rfl⟩:=h
   cases r
   rw [e,xx h1 q]; rfl
theorem u4:∀ ns:List Int,iM (ns.map D.int)=some ns
 | []=>rfl
 | n :: ns=>by simp [iM,u4 ns]
theorem yU:∀ ns:List Bool,xw (ns.map D.bl)=some ns
 | []=>rfl
 | n :: ns=>by simp [xw,yU ns]
def mz {α:Type} (dec:List D→Option α) (f:α→Sto→HK→Prop):GL:=fun ds S Q=>match ds with
 | [x]=>match bF S x with
   | some xs=>match dec xs with
     | some ns=>f ns S Q
     | none=>False
   | none=>False
 | _=>False
abbrev Go:GL:=mz iM fun ns S Q=>Q (.int ns.sum) S
abbrev Gp:GL:=mz xw fun ns S Q=>Q (.bl (ns.all id)) S
abbrev Hc:GL:=mz xw fun ns S Q=>Q (.bl (ns.any id)) S
def Gq:List Int→Int
 | []=>0
 | [x]=>x
 | x :: r=>max x (Gq r)
theorem mA {K:PySem.W.Frag} {α:Type} {β:Type} {dec:List D→Option (List α)} {j:α→V} {f:List α→Sto→HK→Prop} (hd:∀ {F:Hp} {ds:List D} {vs:List V} {ns:List α},dec ds=some ns→Reps K F ds vs→vs=ns.map j)
 {r:List V→Hp→VK→Prop} (hr:∀ G F S H a ns Q0 Q,Wd K G F S H→SqL K H a (ns.map j)→f ns S Q0→OkQ K G F Q0 Q→r [.ref a] H Q):ro K (mz dec f) r:=by
 intro G F S H ds vs Q0 Q w rs h hq
 unfold mz at h
 split at h
 ·obtain ⟨v,rfl,r1⟩:=rs.one_inv
  split at h
  ·rename_i xs e
   split at h
   ·rename_i ns e2
    obtain ⟨p,us,rfl,hs,rs,z⟩:=dF w r1 e
    rw [hd e2 rs] at hs
    exact hr G F S H p ns Q0 Q w hs h hq
   ·exact h.elim
  ·exact h.elim
 ·exact h.elim
theorem CZ (gn:Gn B "sum") (hm:B.mg "sum" = none) (ha:HA B [a] tr) (he:∀ env,starEach [a] env=(false,eval a env) :: starEach [] env:=by intro _; rfl):HE B (.Call (.Name "sum" p) [a] [] pos) (hcb Go tr) :=
 lH (r:=rSum) (fun X ok=>cr_sum ok.calm) (mA (β:=Unit) (fun h r=>pA h r) fun G F S H a ns Q0 Q w hs h hq=>⟨a,ns,rfl,hs,hq (.int _) _ F S H Le.rfl' w (by show V.int _=_; rfl) h⟩) gn hm (by decide +kernel) ha (he:=he) (hpl:=fun _=>rfl)
theorem hall (gn:Gn B "all") (hm:B.mg "all" = none) (ha:HA B [a] tr) (he:∀ env,starEach [a] env=(false,eval a env) :: starEach [] env:=by intro _; rfl):HE B (.Call (.Name "all" p) [a] [] pos) (hcb Gp tr) :=
 lH (r:=rAll) (fun X ok=>cr_all ok.calm) (mA (β:=Unit) (fun h r=>xx h r) fun G F S H a ns Q0 Q w hs h hq=>⟨a,ns,rfl,hs,hq (.bl _) _ F S H Le.rfl' w (by show V.bl _=_; rfl) h⟩) gn hm (by decide +kernel) ha (he:=he) (hpl:=fun _=>rfl)
theorem xy (gn:Gn B "any") (hm:B.mg "any" = none) (ha:HA B [a] tr) (he:∀ env,starEach [a] env=(false,eval a env) :: starEach [] env:=by intro _; rfl):HE B (.Call (.Name "any" p) [a] [] pos) (hcb Hc tr) :=
 lH (r:=rAny) (fun X ok=>cr_any ok.calm) (mA (β:=Unit) (fun h r=>xx h r) fun G F S H a ns Q0 Q w hs h hq=>⟨a,ns,rfl,hs,hq (.bl _) _ F S H Le.rfl' w (by show V.bl _=_; rfl) h⟩) gn hm (by decide +kernel) ha (he:=he) (hpl:=fun _=>rfl)
def ol:GL:=fun ds S Q=>match ds with
 | [.int i]=>Q (.int i) S
 | [.bl k]=>Q (.int (if k then 1 else 0)) S
 | [.str z]=>match PySem.intText? z with
   | some n=>z.length≤640∧Q (.int n) S
   | none=>False
 | _=>False
theorem Bl (gn:Gn B "int") (hm:B.mg "int" = none) (ha:HA B [a] tr) (he:∀ env,starEach [a] env=(false,eval a env) :: starEach [] env:=by intro _; rfl):HE B (.Call (.Name "int" p) [a] [] pos) (hcb ol tr) :=
 mx (r:=fun _ xs H Q=>((∃ i,xs=[.int i]∧Q (.int i) H)∨∃ k,xs=[.bl k]∧Q (.int (if k then 1 else 0)) H)∨∃ a n,xs=[.str a]∧PySem.intText? a=some n∧a.length≤640∧Q (.int n) H) (fun X _=>call_int1.or call_int_str) (by
  intro G F S H ds vs Q0 Q w r h hq
  unfold ol at h
  split at h
  ·obtain ⟨v,rfl,r1⟩:=r.one_inv
   exact .inl (.inl ⟨_,by rw [show v=V.int _ from r1],hq (.int _) _ F S H Le.rfl' w (by show V.int _=_; rfl) h⟩)
  ·obtain ⟨v,rfl,r1⟩:=r.one_inv
   exact .inl (.inr ⟨_,by rw [show v=V.bl _ from r1],hq (.int _) _ F S H Le.rfl' w (by show V.int _=_; rfl) h⟩)
  ·obtain ⟨v,rfl,r1⟩:=r.one_inv
   split at h
   ·rename_i n e
    exact .inr ⟨_,n,by rw [show v=V.str _ from r1],e,h.1,hq (.int _) _ F S H Le.rfl' w (by show V.int _=_; rfl) h.2⟩
   ·exact h.elim
  ·exact h.elim) gn hm (by decide +kernel) ha (he:=he) (hpl:=fun _=>rfl)
def Bm:GL:=fun ds S Q=>match ds with
 | [.int i,.int j]=>Q (.int (min i j)) S
 | _=>False
theorem Gs (gn:Gn B "min") (hm:B.mg "min" = none) (ha:HA B [a,b] tr) (he:∀ env,starEach [a,b] env=(false,eval a env) :: starEach [b] env:=by intro _; rfl) (hpl:∀ env,(backTo pos (starEach [b] env)).any (·.1)=false:=by intro _; rfl):HE B (.Call (.Name "min" p) [a,b] [] pos) (hcb Bm tr) :=
 lH (r:=fun _ xs H Q=>∃ i j,xs=[.int i,.int j]∧Q (.int (if j < i then j else i)) H) (fun X ok=>call_min2 ok.calm) (by
  intro G F S H ds vs Q0 Q w r h hq
  unfold Bm at h
  split at h
  ·rename_i i j
   obtain ⟨v,u,rfl,r1,r2⟩:=r.two_inv
   exact ⟨_,_,by rw [show v=V.int _ from r1,show u=V.int _ from r2],hq (.int _) _ F S H Le.rfl' w (by show V.int _=_; congr 1; split <;> omega) h⟩
  ·exact h.elim) gn hm (by decide +kernel) ha (he:=he) (hpl:=hpl)
end

inductive Pt where
 | nm (i:Nat)
 | tp (l:List Pt)
mutual
def bu:Pt→D→aW→Option aW
 | .nm i,d,env=>some (env.set i (some d))
 | .tp l,d,env=>match d with
   | .tup ds=>bindDs l ds env
   | _=>none
def bindDs:List Pt→List D→aW→Option aW
 | [],[],env=>some env
 | p :: ps,d :: ds,env=>match bu p d env with
   | some env1=>bindDs ps ds env1
   | none=>none
 | _,_,_=>none
end
mutual
def gV (K:PySem.W.Frag):Pt→TG
 | .nm i=>gName i
 | .tp l=>gTup K l.length (gVs K l)
def gVs (K:PySem.W.Frag):List Pt→TGs
 | []=>gNil
 | p :: ps=>gCons (gV K p) (gVs K ps)
end
mutual
def iN:Pt→List Nat
 | .nm i=>[i]
 | .tp l=>slotss l
def slotss:List Pt→List Nat
 | []=>[]
 | p :: ps=>iN p ++ slotss ps
end
def SameBut (vs:List Nat) (σ σ':St):Prop:=σ.length=σ'.length∧∀ j,j ∉ vs→σ'[j]? = σ[j]?
theorem SameBut.rfl' {vs:List Nat} {σ:St}:SameBut vs σ σ:=⟨rfl,fun _ _=>rfl⟩
theorem SameBut.trans {vs ws:List Nat} {a b c:St} (h:SameBut vs a b) (k:SameBut ws b c):SameBut (vs ++ ws) a c :=
 ⟨h.1.trans k.1,fun j hj=>(k.2 j fun z=>hj (List.mem_append_right _ z)).trans (h.2 j fun z=>hj (List.mem_append_left _ z))⟩
theorem pX:∀ {l:List Pt} {ds:List D} {env env1:aW},bindDs l ds env=some env1→ds.length=l.length
 | [],[],_,_,_=>rfl
 | [],_ :: _,_,_,h=>by simp [bindDs] at h
 | _ :: _,[],_,_,h=>by simp [bindDs] at h
 | p :: ps,d :: ds,env,env1,h=>by
   unfold bindDs at h
   split at h
   ·simp [pX h]
   ·cases h
mutual
theorem jx {K:PySem.W.Frag} {F H:Hp} (le:Le F H):∀ (p:Pt) {d:D} {v:V} {env env1:aW} {σ:St} {Q:St→Hp→Prop},Rep K F d v→RepN K F env σ→bu p d env=some env1 →
 (∀ σ1,RepN K F env1 σ1→SameBut (iN p) σ σ1→Q σ1 H)→gV K p v σ H Q
 | .nm i,d,v,env,env1,σ,Q,r,rn,e,h=>by
   cases e
   refine h _ (rn.set r i) ⟨by simp,fun j hj=>?_⟩
   have:i ≠ j:=fun z=>hj (by rw [z]; exact List.mem_singleton_self j)
   rw [List.getElem?_set_ne this]
 | .tp l,d,v,env,env1,σ,Q,r,rn,e,h=>by
   unfold bu at e
   split at e
   ·obtain ⟨a,vs,rfl,q,rs,_⟩:=r
    exact ⟨a,vs,rfl,SqT.le le q,by rw [rs.len,pX e],binds_ok le l rs rn e h⟩
   ·cases e
theorem binds_ok {K:PySem.W.Frag} {F H:Hp} (le:Le F H):∀ (l:List Pt) {ds:List D} {vs:List V} {env env1:aW} {σ:St} {Q:St→Hp→Prop},Reps K F ds vs→RepN K F env σ→bindDs l ds env=some env1 →
 (∀ σ1,RepN K F env1 σ1→SameBut (slotss l) σ σ1→Q σ1 H)→gVs K l vs σ H Q
 | [],ds,vs,env,env1,σ,Q,r,rn,e,h=>by
   cases ds with
   | nil=>cases e; cases r; exact ⟨rfl,h σ rn SameBut.rfl'⟩
   | cons _ _=>simp [bindDs] at e
 | p :: ps,ds,vs,env,env1,σ,Q,r,rn,e,h=>by
   cases ds with
   | nil=>simp [bindDs] at e
   | cons d ds =>
     obtain ⟨v,ws,rfl,r1,r2⟩:=r
     unfold bindDs at e
     split at e
     ·rename_i e2 he
      exact ⟨v,ws,rfl,jx le p r1 rn he fun σ1 rn1 sb1=>binds_ok le ps r2 rn1 e fun σ2 rn2 sb2=>h σ2 rn2 (sb1.trans sb2)⟩
     ·cases e
end
structure HP (B:Bs) (tg:Expr) (p:Pt):Prop where
 run:∀ X,OkC B X→PG X tg (gV B.K p)
structure HPs (B:Bs) (tgs:List Expr) (p:List Pt):Prop where
 run:∀ X,OkC B X→PGs X tgs (gVs B.K p)
section
variable {B:Bs} {pos:Pos} {x:Str}
theorem OkC.loc {X:Cx} (ok:OkC B X) (h:Loc B.sc x):Loc X.env.scope x:=by rw [ok.es]; exact h
def Own (B:Bs) (x:Str):Prop:=B.sc.names.lookup x=some .local∨(B.sc.names.lookup x=some .cell∧B.own x=true)
theorem Own.loc (h:Own B x):Loc B.sc x:=h.elim .inl fun z=>.inr z.1
theorem OkC.fnl {X:Cx} (ok:OkC B X) (h:Own B x):X.fn x=true∨X.env.scope.names.lookup x=some .local:=by
 rcases h with h | ⟨h,h2⟩
 ·exact .inr (by rw [ok.es]; exact h)
 ·exact .inl (ok.fn x h2 (by rw [ok.es]; exact h))
theorem hnm (i:Nat) (hN:B.N[i]? = some x:=by rfl) (hl:Own B x:=by first | exact Or.inl rfl | exact Or.inr ⟨rfl,rfl⟩):HP B (.Name x pos) (.nm i) :=
 ⟨fun X ok=>pg_name ok.nd (by rw [ok.eN]; exact hN) (ok.loc hl.loc) (ok.fnl hl)⟩
theorem nf:HPs B [] []:=⟨fun X ok=>pgs_nil⟩
theorem hps {e:Expr} {es:List Expr} {p:Pt} {ps:List Pt} (h:HP B e p) (r:HPs B es ps) (hs:∀ env,(assignEach (e :: es) env).map (·.2)=assign e env :: (assignEach es env).map (·.2):=by intro _; rfl):HPs B (e :: es) (p :: ps) :=
 ⟨fun X ok=>pgs_cons (h.run X ok) (r.run X ok) (hs _)⟩
theorem htp {es:List Expr} {k:Nat} {l:List Pt} (h:HPs B es l) (hn:∀ env,(assignEach es env).length=l.length:=by intro _; rfl) (hst:∀ env,(assignEach es env).findIdx? (·.1)=none:=by intro _; rfl):HP B (.Tuple es k pos) (.tp l) :=
 ⟨fun X ok=>pg_tup (by exact ok.calm) (by have:=h.run X ok; rw [← ok.eK] at this ⊢; exact this) (hn _) (hst _) |> fun (q:PG X _ (gTup X.K l.length (gVs B.K l)))=>by rw [ok.eK] at q; exact q⟩
end

section
variable {B:Bs} {st:Stmt} {rest body:List Stmt} {t u:HTS} {e:Expr} {te:HTE} {pos:Pos} {c:Expr} {tc:HTT}
def hNx:HTS:=fun D env S=>D.nx env S
def aj (t u:HTS):HTS:=fun D env S=>t { D with nx:=u D } env S
theorem OkS.exc {K:PySem.W.Frag} {G F:Hp} {E:HEnds} {D:Ends} {W:WX} (o:OkS K G F E D W) {env:aW} {σ:St} (rn:RepN K F env σ):OkE K G F (fun x S=>E.ex x env S) (WE W σ) :=
 fun x cls dd F' S' H' l w r h=>o.ex x cls dd env σ F' S' H' l w (rn.le l) r h
theorem c8:HSs B [] hNx:=⟨fun X W ok tk=>PSs.imp pss_nil fun D σ H ⟨G,F,S,env,E,rn,wd,h,o⟩=>o.nx env σ F S H Le.rfl' wd rn h⟩
theorem hss (h1:HS B st t) (h2:HSs B rest u):HSs B (st :: rest) (aj t u) :=
 ⟨fun X W ok tk=>PSs.imp (pss_cons (h1.run X W ok tk) (h2.run X W ok tk)) fun D σ H ⟨G,F,S,env,E,rn,wd,h,o⟩ =>
  ⟨G,F,S,env,{ E with nx:=u E },rn,wd,h,⟨fun env1 σ1 F1 S1 H1 l w1 rn1 q=>⟨G,F1,S1,env1,E,rn1,w1,q,o.le l⟩,o.rt,o.bk,o.ct,o.ex⟩⟩⟩
theorem aI (h1:HS B st t):HSs B [st] t:=⟨fun X W ok tk=>pss_one (h1.run X W ok tk)⟩
def aL (te:HTE):HTS:=fun D env S=>te env S (fun _ S1=>D.nx env S1) fun x S1=>D.ex x env S1
theorem eO (h:HE B e te) (hs:∀ env,swapsWith e none pos.line env=pure false:=by intro _; rfl):HS B (.Expr e pos) (aL te) :=
 ⟨fun X W ok tk=>PS.imp (ps_expr (h.run X W ok tk) (hs _)) fun D σ H ⟨G,F,S,env,E,rn,wd,h,o⟩ =>
  ⟨G,F,S,env,_,_,rn,wd,h,fun d v F1 S1 H1 l w r q=>o.nx env σ F1 S1 H1 l w (rn.le l) q,o.exc rn⟩⟩
def aA (te:HTE):HTS:=fun D env S=>te env S D.rt fun x S1=>D.ex x env S1
theorem bW (h:HE B e te):HS B (.Return (some e) pos) (aA te) :=
 ⟨fun X W ok tk=>PS.imp (ps_ret (h.run X W ok tk)) fun D σ H ⟨G,F,S,env,E,rn,wd,h,o⟩=>⟨G,F,S,env,_,_,rn,wd,h,o.rt,o.exc rn⟩⟩
def om:HTS:=fun D _ S=>D.rt .non S
def bj (c:HTT) (t u:HTS):HTS:=fun D env S=>c env S (fun b S1=>match b with
 | true=>t D env S1
 | false=>u D env S1) fun x S1=>D.ex x env S1
theorem hif {b:List Stmt} (hc:HT B c tc) (h1:HSs B body t) (h2:HSs B b u):HS B (.If c body b pos) (bj tc t u) :=
 ⟨fun X W ok tk=>PS.imp (ps_if (hc.run X W ok tk) (h1.run X W ok tk) (h2.run X W ok tk)) fun D σ H ⟨G,F,S,env,E,rn,wd,h,o⟩ =>
  ⟨G,F,S,env,_,_,rn,wd,h,fun k F1 S1 H1 l w q=>by
   cases k with
   | true=>exact ⟨G,F1,S1,env,E,rn.le l,w,q,o.le l⟩
   | false=>exact ⟨G,F1,S1,env,E,rn.le l,w,q,o.le l⟩,o.exc rn⟩⟩
def f9 (p:Pt) (te:HTE):HTS:=fun D env S=>te env S (fun d S1=>match bu p d env with
 | some env1=>D.nx env1 S1
 | none=>False) fun x S1=>D.ex x env S1
theorem u5 {tg:Expr} {p:Pt} (h:HE B e te) (hg:HP B tg p) (hs:∀ env,swapsWithSole [tg] e pos.line env=pure false:=by intro _; rfl) (hw:∀ env,swappedStores [tg] e env=pure none:=by intro _; rfl)
 (h1:∀ env,(assignEach [tg] env).map (·.2)=[assign tg env]:=by intro _; rfl):HS B (.Assign [tg] e pos) (f9 p te) :=
 ⟨fun X W ok tk=>PS.imp (ps_asg (h.run X W ok tk) (hg.run X ok) (hs _) (hw _) (h1 _)) fun D σ H ⟨G,F,S,env,E,rn,wd,h,o⟩ =>
  ⟨G,F,S,env,_,_,rn,wd,h,fun d v F1 S1 H1 l w r q=>by
   dsimp only at q
   split at q
   ·rename_i env1 eb
    exact jx w.fr p r (rn.le l) eb fun σ1 rn1 _=>o.nx env1 σ1 F1 S1 H1 l w rn1 q
   ·exact q.elim,o.exc rn⟩⟩
def aK (i:Nat) (te:HTE):HTS:=fun D env S=>te env S (fun d S1=>D.nx (env.set i (some d)) S1) fun x S1=>D.ex x env S1
theorem Hd (i:Nat) {x:Str} {pos':Pos} (h:HE B e te) (hN:B.N[i]? = some x:=by rfl) (hl:Own B x:=by first | exact Or.inl rfl | exact Or.inr ⟨rfl,rfl⟩) (hs:∀ env,swapsWith e (some (.Name x pos')) pos.line env=pure false:=by intro _; rfl) :
 HS B (.Assign [.Name x pos'] e pos) (aK i te) :=
 ⟨fun X W ok tk=>PS.imp (ps_set (i:=i) ok.nd (by rw [ok.eN]; exact hN) (ok.loc hl.loc) (h.run X W ok tk) (hs _) (ok.fnl hl)) fun D σ H ⟨G,F,S,env,E,rn,wd,h,o⟩ =>
  ⟨G,F,S,env,_,_,rn,wd,h,fun d v F1 S1 H1 l w r q=>o.nx _ _ F1 S1 H1 l w ((rn.le l).set r i) q,o.exc rn⟩⟩
def Ah (i j:Nat) (ta:HTA):HTS:=fun D env S=>ta env S (fun ds S1=>match ds with
 | [d1,d2]=>D.nx ((env.set i (some d1)).set j (some d2)) S1
 | _=>False) fun x S1=>D.ex x env S1
def nh (i:Nat) (g:G2) (te:HTE):HTS:=fun D env S=>match env[i]? with
 | some (some x)=>te env S (fun y S1=>g x y S1 fun z S2=>D.nx (env.set i (some z)) S2) fun x S1=>D.ex x env S1
 | _=>False
theorem Hf (i:Nat) {x:Str} {pos':Pos} {op:Operator} {g:G2} {r:PySem.W.Frag→R2} (ho:∀ X,OkC B X→OpR X (inplaceOp op) (r X.K)) (hg:im B.K g (r B.K)) (h:HE B e te) (hN:B.N[i]? = some x:=by rfl) (hl:Own B x:=by first | exact Or.inl rfl | exact Or.inr ⟨rfl,rfl⟩) :
 HS B (.AugAssign (.Name x pos') op e pos) (nh i g te) :=
 ⟨fun X W ok tk=>PS.imp (ps_aug (i:=i) (ti:=r B.K) ok.nd (by rw [ok.eN]; exact hN) (ok.loc hl.loc) (h.run X W ok tk) (by
  intro pins s σ H x y v u Q I r1 r2 q
  have:=ho X ok
  rw [ok.eK] at this
  exact this pins s σ H x y v u Q I r1 r2 q) (ok.fnl hl)) fun D σ H ⟨G,F,S,env,E,rn,wd,h,o⟩=>by
  unfold nh at h
  split at h
  ·rename_i d ed
   obtain ⟨v,h1,h2⟩:=rn.get i d ed
   exact ⟨v,h1,G,F,S,env,_,_,rn,wd,h,fun d2 v2 F1 S1 H1 l w r q=>hg G F1 S1 H1 d v d2 v2 _ _ w (h2.le l) r q fun d3 v3 F2 S2 H2 l2 w2 r3 q3=>o.nx _ _ F2 S2 H2 (l.trans l2) w2 ((rn.le (l.trans l2)).set r3 i) q3,o.exc rn⟩
  ·exact h.elim⟩
theorem C1 (i:Nat) {x:Str} {pos':Pos} (h:HE B e te) (hN:B.N[i]? = some x:=by rfl) (hl:Own B x:=by first | exact Or.inl rfl | exact Or.inr ⟨rfl,rfl⟩):HS B (.AugAssign (.Name x pos') .Add e pos) (nh i (gI0 fun i j=>.int (i + j)) te) :=
 Hf i (r:=fun _=>_) (fun X _=>iop_add) (A7 fun _ _ _=>rfl) h hN hl
def pY (c:HTT) (tb:HTS):HTS:=fun D env S=>∃ I:Nat→aW→Sto→Prop,(∃ m,I m env S)∧∀ m env S,I m env S→c env S (fun b S1=>match b with
 | true=>tb { D with nx:=fun e S=>∃ m',m' < m∧I m' e S,ct:=fun e S=>∃ m',m' < m∧I m' e S,bk:=D.nx } env S1
 | false=>D.nx env S1) fun x S1=>D.ex x env S1
theorem xz (hc:HT B c tc) (hb:HSs B body t):HS B (.While c body [] pos) (pY tc t) :=
 ⟨fun X W ok tk=>PS.imp (ps_while ok.own (hc.run X W ok tk) (hb.run X W ok tk)) fun D σ H ⟨G,F,S,env,E,rn,wd,⟨I,⟨m0,h0⟩,step⟩,o⟩=>by
  refine ⟨fun m σ H=>∃ F1 S1 env1,Le F F1∧RepN B.K F1 env1 σ∧Wd B.K G F1 S1 H∧I m env1 S1,⟨m0,F,S,env,Le.rfl',rn,wd,h0⟩,?_⟩
  rintro m σ1 H1 ⟨F1,S1,env1,l1,rn1,w1,h1⟩
  have o1:=o.le l1
  refine ⟨G,F1,S1,env1,_,_,rn1,w1,step m env1 S1 h1,fun k F2 S2 H2 l2 w2 q=>?_,o1.exc rn1⟩
  cases k with
  | false=>exact o1.nx env1 σ1 F2 S2 H2 l2 w2 (rn1.le l2) q
  | true =>
    rw [if_pos rfl]
    refine ⟨fun σ' H'=>∃ m',m' < m∧∃ F1 S1 env1,Le F F1∧RepN B.K F1 env1 σ'∧Wd B.K G F1 S1 H'∧I m' env1 S1,fun σ' H' h=>h,?_⟩
    have nx:OkN B.K G F2 (fun e S=>∃ m',m' < m∧I m' e S) (fun σ' H'=>∃ m',m' < m∧∃ F1 S1 env1,Le F F1∧RepN B.K F1 env1 σ'∧Wd B.K G F1 S1 H'∧I m' env1 S1) :=
     fun env3 σ3 F3 S3 H3 l3 w3 rn3 ⟨m',hm,hi⟩=>⟨m',hm,F3,S3,env3,l1.trans (l2.trans l3),rn3,w3,hi⟩
    exact ⟨G,F2,S2,env1,_,rn1.le l2,w2,q,nx,(o1.le l2).rt,(o1.le l2).nx,nx,(o1.le l2).ex⟩⟩
end

abbrev Ck:=Option (Addr × List D)
def chk (k:Ck) (S:Sto) (A:Prop):Prop:=match k with
 | none=>A
 | some (p,ds)=>S p=some (.lst ds)∧A
theorem lq {k:Ck} {S:Sto} {A:Prop} (h:chk k S A):A:=by
 cases k with
 | none=>exact h
 | some q=>exact h.2
theorem lr {k:Ck} {S:Sto} {A:Prop} (h:chk k S A):chk k S True:=by
 cases k with
 | none=>trivial
 | some q=>exact ⟨h.1,trivial⟩
structure IterOk (K:PySem.W.Frag) (G F:Hp) (ds:List D) (k:Ck) (J:It):Prop where
 w:Walk J ds.length (fun H=>∃ F1 S1,Le F F1∧Wd K G F1 S1 H∧chk k S1 True) (fun i H x H'=>∀ G1 F1 S1,Le G G1→Le F F1→Wd K G1 F1 S1 H→chk k S1 True→∃ d F2,ds[i]? = some d∧Le F1 F2∧Wd K G1 F2 S1 H'∧Rep K F2 d x)
 z:ds.length≤sizeLine
abbrev HTI:=aW→Sto→(List D→Ck→Sto→Prop)→HK→Prop
def lI (K:PySem.W.Frag) (W:WX) (t:HTI):TI:=fun σ H R=>∃ G F S env R0 E0,RepN K F env σ∧Wd K G F S H∧t env S R0 E0 ∧
 (∀ ds k F' S' H' J,Le F F'→Wd K G F' S' H'→(∀ G',IterOk K G' F' ds k J)→R0 ds k S'→R J H')∧OkE K G F E0 (WE W σ)
structure HI (B:Bs) (tg iter:Expr) (t:HTI):Prop where
 run:∀ (X:Cx) (W:WX),OkC B X→Takes X W→PI X tg iter (lI B.K W t)
theorem PI.imp {X:Cx} {tg iter:Expr} {t t':TI} (h:PI X tg iter t) (i:∀ σ H Q,t' σ H Q→t σ H Q):PI X tg iter t':=⟨fun pins s σ H Q I q=>h.run pins s σ H Q I (i σ H Q q)⟩
def iSq (K:PySem.W.Frag) (tl:TE):TI:=fun σ H R=>tl σ H fun x H1=>(∃ a,x = .ref a∧(∃ xs,SqL K H1 a xs)∧R (Itl K a) H1)∨(∃ a,x = .ref a∧(∃ xs,SqT K H1 a xs)∧R (Itt K a) H1)∨∃ z,x = .str z∧R (Its z) H1
theorem s0 {X:Cx} {tg:Expr} {pins:List (Addr × Obj)} {σ:St} {H:Hp} {s:Shared} {R:It→Hp→Prop} {ob:Obj} {J:It} {tn:Nat→Heap→Prop} (I:Inv X pins σ H s)
 (T:Turn X.prog X.w X.K tg J [s.heap.objs.size] s.heap.objs.size tn) (t0:tn 0 (s.heap.push ob)) (q:R J H):PIE X pins σ tg R (.ref s.heap.objs.size) { s with heap:=s.heap.push ob }:=by
 have J2:Inv X pins σ H { s with heap:=s.heap.push ob,toks:=s.toks }:=I.kept fun _ _ e=>Heap.get?_push_of_some _ e
 refine ⟨_,_,_,_,H,rfl,J2,T,t0,fun b hb=>?_,q⟩
 cases List.mem_singleton.mp hb
 exact I.fpOk zNr (I.hok.fresh zNr)
theorem Gu {X:Cx} {tg l:Expr} {tl:TE} (hl:PE X l tl):PI X tg l (iSq X.K tl) :=
 ⟨fun pins s σ H R I h=>thn (hl.run pins s σ H _ I h) fun v s1 ⟨x,H1,I1,r1,q1⟩=>by
  rcases q1 with ⟨a,rfl,⟨xs,hx⟩,q⟩ | ⟨a,rfl,⟨xs,hx⟩,q⟩ | ⟨z,rfl,q⟩
  ·cases r1
   obtain ⟨its,rv,pl,hz⟩:=I1.list hx
   exact wpAny_pyIter_list pl.isList (s0 I1 (turn_list a _) ⟨_,Heap.get?_push_size _ rfl,rfl,rfl⟩ q)
  ·cases r1
   obtain ⟨its,rv,pl,hz⟩:=I1.tuple hx
   exact wpAny_pyIter_tuple pl (s0 I1 (turn_tuple a _) ⟨_,Heap.get?_push_size _ rfl,rfl,rfl⟩ q)
  ·obtain ⟨t,rfl⟩:=r1
   cases hz:z.cps.all (· < 128) with
   | true=>exact wpAny_pyIter_ascii hz (s0 I1 (turn_str _ z t "str_ascii_iterator" (.inl rfl)) ⟨_,Heap.get?_push_size _ rfl,rfl,rfl⟩ q)
   | false=>exact wpAny_pyIter_wide hz (s0 I1 (turn_str _ z t "str_iterator" (.inr rfl)) ⟨_,Heap.get?_push_size _ rfl,rfl,rfl⟩ q)⟩
def Ai:D→List D→Ck
 | .ref p,ds=>some (p,ds)
 | _,_=>none
def eT (te:HTE):HTI:=fun env S R E=>te env S (fun x S1=>match x with
 | .str z=>z.length≤sizeLine∧R (z.cps.toList.map fun c=>.str ⟨#[c]⟩) none S1
 | x=>match items S1 x with
   | some ds=>R ds (Ai x ds) S1
   | none=>False) E
theorem xA {K:PySem.W.Frag} {G F:Hp} {a:Addr} {ds:List D} {vs:List V} {k:Ck} (rs:Reps K F ds vs) (z:ds.length≤sizeLine)
 (st:∀ G1 F1 S1 H,Le G G1→Le F F1→Wd K G1 F1 S1 H→chk k S1 True→∃ us,SqL K H a us∧Reps K F1 ds us):IterOk K G F ds k (Itl K a):=by
 refine ⟨⟨fun i H hi ⟨F1,S1,l,w,c⟩=>?_,fun H ⟨F1,S1,l,w,c⟩=>?_,fun i H x H' hi _ y G1 F1 S1 lg l w c=>?_⟩,z⟩
 ·obtain ⟨us,h1,h2⟩:=st G F1 S1 H Le.rfl' l w c
  obtain ⟨v,h3,_⟩:=h2.at (i:=i) (d:=ds[i]) (by simp [hi])
  exact ⟨us,v,h1,h3⟩
 ·obtain ⟨us,h1,h2⟩:=st G F1 S1 H Le.rfl' l w c
  exact ⟨us,h1,by rw [h2.len]; exact Nat.le_refl _⟩
 ·obtain ⟨us,h1,h2⟩:=st G1 F1 S1 H lg l w c
  obtain ⟨rfl,y⟩:=y
  obtain ⟨d,h3,h4⟩:=h2.at' (y us h1)
  exact ⟨d,F1,h3,Le.rfl',w,h4⟩
theorem EV {K:PySem.W.Frag} {G F:Hp} {a:Addr} {ds:List D} {vs:List V} {k:Ck} (hs:SqT K F a vs) (rs:Reps K F ds vs) (z:ds.length≤sizeLine):IterOk K G F ds k (Itt K a):=by
 refine ⟨⟨fun i H hi ⟨F1,S1,l,w,c⟩=>?_,fun H ⟨F1,S1,l,w,c⟩=>?_,fun i H x H' hi _ y G1 F1 S1 lg l w c=>?_⟩,z⟩
 ·obtain ⟨v,h3,_⟩:=rs.at (i:=i) (d:=ds[i]) (by simp [hi])
  exact ⟨vs,v,SqT.le (l.trans w.fr) hs,h3⟩
 ·exact ⟨vs,SqT.le (l.trans w.fr) hs,by rw [rs.len]; exact Nat.le_refl _⟩
 ·obtain ⟨rfl,y⟩:=y
  obtain ⟨d,h3,h4⟩:=rs.at' (y vs (SqT.le (l.trans w.fr) hs))
  exact ⟨d,F1,h3,Le.rfl',w,h4.le l⟩
theorem EW {K:PySem.W.Frag} {G F:Hp} {z:Str} (hz:z.length≤sizeLine):IterOk K G F (z.cps.toList.map fun c=>D.str ⟨#[c]⟩) none (Its z):=by
 refine ⟨⟨fun i H hi _=>?_,fun H _=>?_,fun i H x H' hi _ y G1 F1 S1 lg l w c=>?_⟩,by rw [List.length_map,Array.length_toList]; exact hz⟩
 ·rw [List.length_map,Array.length_toList] at hi; exact hi
 ·rw [List.length_map,Array.length_toList]; exact Nat.le_refl _
 ·obtain ⟨rfl,c,hc,rfl⟩:=y
  exact ⟨.str ⟨#[c]⟩,F1,by rw [List.getElem?_map,Array.getElem?_toList,hc]; rfl,Le.rfl',w,rfl⟩
section
variable {B:Bs} {tg e a b:Expr} {te:HTE} {tr:HTA} {p pos:Pos}
theorem gQ (h:HE B e te):HI B tg e (eT te) :=
 ⟨fun X W ok tk=>PI.imp (t:=iSq B.K (lE B.K W te)) (by have q:=Gu (tg:=tg) (h.run X W ok tk); rw [ok.eK] at q; exact q) fun σ H R ⟨G,F,S,env,R0,E0,rn,wd,h,hr,he⟩ =>
  ⟨G,F,S,env,_,E0,rn,wd,h,fun d v F1 S1 H1 l1 w1 r1 h1=>by
   dsimp only at h1
   split at h1
   ·exact .inr (.inr ⟨_,r1,hr _ _ F1 S1 H1 _ l1 w1 (fun _=>EW h1.1) h1.2⟩)
   ·split at h1
    ·rename_i ds ed
     cases d with
     | tup es =>
       cases ed
       obtain ⟨a,vs,rfl,hs,rs,z⟩:=r1
       exact .inr (.inl ⟨a,rfl,⟨vs,SqT.le w1.fr hs⟩,hr _ _ F1 S1 H1 _ l1 w1 (fun _=>EV hs rs z) h1⟩)
     | lst es =>
       cases ed
       obtain ⟨a,vs,rfl,hs,rs,z⟩:=r1
       exact .inl ⟨a,rfl,⟨vs,SqL.of (w1.fr _ _ hs)⟩,hr _ _ F1 S1 H1 _ l1 w1 (fun _=>xA rs z fun G2 F2 S2 H2 lg l2 w2 _=>⟨vs,SqL.of (w2.fr _ _ (l2 _ _ hs)),rs.le l2⟩) h1⟩
     | rls es =>
       cases ed
       obtain ⟨a,vs,rfl,hs,rs,z⟩:=r1
       exact .inl ⟨a,rfl,⟨vs,SqL.le w1.fr hs⟩,hr _ _ F1 S1 H1 _ l1 w1 (fun _=>xA rs z fun G2 F2 S2 H2 lg l2 w2 _=>⟨vs,SqL.le (l2.trans w2.fr) hs,rs.le l2⟩) h1⟩
     | ref q =>
       obtain rfl:v = .ref q:=r1
       simp only [items] at ed
       split at ed
       ·rename_i es eq
        cases ed
        obtain ⟨vs,g1,g2,g3⟩:=io w1 eq
        exact .inl ⟨q,rfl,⟨vs,SqL.of g1⟩,hr _ _ F1 S1 H1 _ l1 w1 (fun _=>xA g2 g3 fun G2 F2 S2 H2 lg l2 w2 c=>by
         obtain ⟨us,k1,k2,_⟩:=io w2 c.1
         exact ⟨us,SqL.of k1,k2⟩) h1⟩
       ·cases ed
     | _=>cases ed
    ·exact h1.elim,he⟩⟩
def g9 (lo:Int) (n:Nat):List D:=(List.range n).map fun i=>.int (lo + (i:Nat))
theorem dV (lo:Int) (n:Nat):(g9 lo n).length=n:=by simp [g9]
theorem EX {K:PySem.W.Frag} {G F:Hp} {lo:Int} {n:Nat} (hn:n≤sizeLine):IterOk K G F (g9 lo n) none (Itr lo n):=by
 refine ⟨⟨fun i H hi _=>?_,fun H _=>?_,fun i H x H' hi _ y G1 F1 S1 lg l w c=>?_⟩,by rw [dV]; exact hn⟩
 ·rw [dV] at hi; exact hi
 ·rw [dV]; exact Nat.le_refl _
 ·obtain ⟨rfl,rfl⟩:=y
  rw [dV] at hi
  exact ⟨.int (lo + (i:Nat)),F1,by simp [g9,hi],Le.rfl',w,rfl⟩
def hJ (t:HTA):HTI:=fun env S R E=>t env S (fun ds S1=>match ds with
 | [.int j]=>j≤16777216 ∧ -(2 ^ 62)≤j∧R (g9 0 j.toNat) none S1
 | _=>False) E
def u6 (t:HTA):HTI:=fun env S R E=>t env S (fun ds S1=>match ds with
 | [.int i,.int j]=>(j - i≤16777216 ∧ -(2 ^ 62)≤i∧i < 2 ^ 62 ∧ -(2 ^ 62)≤j∧j < 2 ^ 62)∧R (g9 i (j - i).toNat) none S1
 | _=>False) E
theorem Bn {j:Int} (h:j≤16777216):j.toNat≤sizeLine:=by rw [sizeLine_eq]; omega
theorem xB (gn:Gn B "range") (hm:B.mg "range" = none) (ha:HA B [a] tr) (hs:∀ env,starEach [a] env=[(false,eval a env)]:=by intro _; rfl):HI B tg (.Call (.Name "range" p) [a] [] pos) (hJ tr) :=
 ⟨fun X W ok tk=>PI.imp (pi_range1 (ok.gl gn) (by rw [ok.em]; exact hm) (ha.run X W ok tk) (hs _)) fun σ H R ⟨G,F,S,env,R0,E0,rn,wd,h,hr,he⟩ =>
  ⟨G,F,S,env,_,E0,rn,wd,h,fun ds vs F1 S1 H1 l1 w1 r1 h1=>by
   dsimp only at h1
   split at h1
   ·obtain ⟨v,rfl,r⟩:=r1.one_inv
    obtain ⟨z1,z2,h1⟩:=h1
    exact ⟨_,by rw [show v=V.int _ from r],z2,by omega,hr _ _ F1 S1 H1 _ l1 w1 (fun _=>EX (Bn z1)) h1⟩
   ·exact h1.elim,he⟩⟩
def cZ (p:Pt) (tb:HTS) (k:Ck):List D→HEnds→aW→Sto→Prop
 | [],D,env,S=>chk k S (D.nx env S)
 | d :: ds,D,env,S=>chk k S (match bu p d env with
   | some env1=>tb { D with nx:=cZ p tb k ds D,ct:=cZ p tb k ds D,bk:=D.nx } env1 S
   | none=>False)
def cC (ti:HTI) (p:Pt) (tb:HTS):HTS:=fun D env S=>ti env S (fun ds k S1=>cZ p tb k ds D env S1) fun x S1=>D.ex x env S1
theorem rW {p:Pt} {tb:HTS} {k:Ck} {ds:List D} {D:HEnds} {env:aW} {S:Sto} (h:cZ p tb k ds D env S):chk k S True:=by
 cases ds with
 | nil=>exact lr h
 | cons d ds=>exact lr h
theorem ip {q:Pt} {body:List Stmt} {ti:HTI} {tb:HTS} (hi:HI B tg e ti) (hg:HP B tg q) (hb:HSs B body tb) (hs:∀ env x,foldedSetIterable e env x=pure x:=by intro _ _; rfl):HS B (.For tg e body [] pos) (cC ti q tb) :=
 ⟨fun X W ok tk=>PS.imp (ps_for ok.own ok.calm (hi.run X W ok tk) (hg.run X ok) (hb.run X W ok tk) (hs _)) fun D σ H ⟨G,F,S,env,E,rn,wd,h,o⟩ =>
  ⟨G,F,S,env,_,_,rn,wd,h,fun ds k F1 S1 H1 J l1 w1 it h1=>by
   have o1:=o.le l1
   refine for_it (it G).w (fun i σ' H'=>∃ F2 S2 env2,Le F1 F2∧RepN B.K F2 env2 σ'∧Wd B.K G F2 S2 H'∧cZ q tb k (ds.drop i) E env2 S2) ⟨F1,S1,env,Le.rfl',rn.le l1,w1,by simpa using h1⟩
    (fun i σ' H' _ ⟨F2,S2,env2,l2,rn2,w2,q2⟩=>⟨F2,S2,l2,w2,rW q2⟩) (fun i x σ' H' H'' hi ⟨F2,S2,env2,l2,rn2,w2,q2⟩ y=>?_) (fun σ' H' ⟨F2,S2,env2,l2,rn2,w2,q2⟩=>?_)
   ·obtain ⟨d,F3,e1,l3,w3,r3⟩:=y G F2 S2 Le.rfl' l2 w2 (rW q2)
    have e2:ds.drop i=d :: ds.drop (i + 1):=by
     rw [List.drop_eq_getElem_cons hi]
     rw [List.getElem?_eq_getElem hi] at e1
     cases e1; rfl
    rw [e2] at q2
    have q3:=lq (show chk k S2 (match bu q d env2 with | some env1=>tb { E with nx:=cZ q tb k (ds.drop (i + 1)) E,ct:=cZ q tb k (ds.drop (i + 1)) E,bk:=E.nx } env1 S2 | none=>False) from q2)
    split at q3
    ·rename_i env3 eb
     refine jx w3.fr q r3 (rn2.le l3) eb fun σ1 rn3 _=>⟨G,F3,S2,env3,_,rn3,w3,q3,?_⟩
     have l13:=l2.trans l3
     have nx:OkN B.K G F3 (cZ q tb k (ds.drop (i + 1)) E) (fun σ' H'=>∃ F2 S2 env2,Le F1 F2∧RepN B.K F2 env2 σ'∧Wd B.K G F2 S2 H'∧cZ q tb k (ds.drop (i + 1)) E env2 S2) :=
      fun env4 σ4 F4 S4 H4 l4 w4 rn4 q4=>⟨F4,S4,env4,l13.trans l4,rn4,w4,q4⟩
     exact ⟨nx,(o1.le l13).rt,(o1.le l13).nx,nx,(o1.le l13).ex⟩
    ·exact q3.elim
   ·rw [List.drop_length] at q2
    exact (o1.le l2).nx env2 σ' F2 S2 H' Le.rfl' w2 rn2 (lq q2),o.exc rn⟩⟩
end

def cN (env:aW):List Nat→aW
 | []=>env
 | v :: vs=>(cN env vs).set v none
theorem j8 {K:PySem.W.Frag} {F:Hp} {env:aW} {σ:St} (rn:RepN K F env σ):∀ vs:List Nat,RepN K F (cN env vs) (wipe σ vs)
 | []=>rn
 | v :: vs=>(j8 rn vs).unset v
theorem pB (σ:St) (j:Nat):∀ vs:List Nat,(wipe σ vs)[j]? = if j ∈ vs then (if j < σ.length then some none else none) else σ[j]?
 | []=>by simp [wipe]
 | v :: vs=>by
   unfold wipe
   by_cases e:v=j
   ·subst e
    rw [if_pos zMs]
    by_cases l:v < σ.length
    ·rw [if_pos l,List.getElem?_set_self (by rw [wipe_length]; exact l)]
    ·rw [if_neg l,List.getElem?_eq_none (by rw [List.length_set,wipe_length]; omega)]
   ·rw [List.getElem?_set_ne e,pB σ j vs]
    have:j ∈ v :: vs↔j ∈ vs:=by simp [Ne.symm e]
    simp only [this]
theorem kO {σ σ2:St} {vs ws:List Nat} (h:SameBut ws (wipe σ vs) σ2) (hs:∀ j ∈ ws,j ∈ vs):wipe σ2 vs=wipe σ vs:=by
 have hl:σ2.length=σ.length:=by have:=h.1; rw [wipe_length] at this; exact this.symm
 refine List.ext_getElem? fun j=>?_
 rw [pB,pB,hl]
 by_cases e:j ∈ vs
 ·rw [if_pos e,if_pos e]
 ·rw [if_neg e,if_neg e]
  have:=h.2 j fun z=>e (hs j z)
  rw [this,pB,if_neg e]

abbrev Bs.blk (B:Bs) (scope:Scope):Bs:={ B with sc:=relS scope B.sc,top:=false,own:=fun x=>scope.names.lookup x == some .cell }
theorem OkC.blk {B:Bs} {X:Cx} (ok:OkC B X) (s:Shared) (H:Hp) (scope:Scope) (C:Addr) (cl:List (Str × Addr)) (fp:List Addr):OkC (B.blk scope) (X.blk s H scope (compEnvC scope cl C X.env) fp) where
 eP:=ok.eP
 ew:=ok.ew
 eK:=ok.eK
 em:=ok.em
 eb:=ok.eb
 eN:=ok.eN
 es:=by show relS scope X.env.scope=relS scope B.sc; rw [ok.es]
 nd:=ok.nd
 calm:=ok.calm
 room:=ok.room
 fn:=fun _ h _=>h
 own:=PassesOwn.never
 stk:=fun h=>nomatch h
structure HTs (B:Bs) (ifs:List Expr) (t:HTT):Prop where
 run:∀ (X:Cx) (W:WX),OkC B X→Takes X W→PTs X ifs (lT B.K W t)
section
variable {B:Bs} {e elt tg iter c:Expr} {ifs:List Expr} {te:HTE} {tc:HTT} {ti:HTI} {p:Pt} {pos:Pos} {scope:Scope}
def fM:HTT:=fun _ S Q _=>Q true S
theorem PTs.imp {X:Cx} {t t':TT} (h:PTs X ifs t) (i:∀ σ H Q,t' σ H Q→t σ H Q):PTs X ifs t':=⟨fun pins s σ H Q I q=>h.run pins s σ H Q I (i σ H Q q)⟩
theorem hif0:HTs B [] fM:=⟨fun X W ok tk=>PTs.imp pts_nil fun σ H Q ⟨G,F,S,env,Q0,E0,rn,wd,h,hq,he⟩=>hq true F S H Le.rfl' wd h⟩
theorem Aj (h:HT B c tc):HTs B [c] tc:=⟨fun X W ok tk=>pts_one (h.run X W ok tk)⟩
def cW (p:Pt) (tt:HTT) (te:HTE) (k:Ck):List D→List D→aW→Sto→HK→Prop
 | [],acc,env,S,Q=>chk k S (Q (.lst acc) S)
 | d :: ds,acc,env,S,Q=>chk k S (match bu p d env with
   | some env1=>tt env1 S (fun b S1=>match b with
     | true=>te env1 S1 (fun y S2=>cW p tt te k ds (acc ++ [y]) env S2 Q) fun _ _=>False
     | false=>cW p tt te k ds acc env S1 Q) fun _ _=>False
   | none=>False)
theorem rX {p:Pt} {tt:HTT} {te:HTE} {k:Ck} {ds acc:List D} {env:aW} {S:Sto} {Q:HK} (h:cW p tt te k ds acc env S Q):chk k S True:=by
 cases ds with
 | nil=>exact lr h
 | cons d ds=>exact lr h
def hLc (ti:HTI) (p:Pt) (tt:HTT) (te:HTE) (vs:List Nat):HTE:=fun env S Q E=>ti env S (fun ds k S1=>cW p tt te k ds [] (cN env vs) S1 Q) E
theorem oq {K:PySem.W.Frag} {G F:Hp} {E:XK}:OkE K G F (fun _ _=>False) E:=fun _ _ _ _ _ _ _ _ _ h=>h.elim
theorem yV {K:PySem.W.Frag} {W:WX} {vs:List Nat} (hv:∀ j ∈ iN p,j ∈ vs) (σ:St) (H:Hp) (Q:VK) (h:lE K W (hLc ti p tc te vs) σ H Q) :
 tLc (lI K W ti) (gV K p) (lT K (fun _ _ _ _=>False) tc) (lE K (fun _ _ _ _=>False) te) vs σ H Q:=by
 obtain ⟨G,F,S,env,Q0,E0,rn,wd,h,hq,he⟩:=h
 refine ⟨G,F,S,env,_,E0,rn,wd,h,fun ds k F1 S1 H1 J l1 w1 it h1=>?_,he⟩
 intro Dd hD
 have hGD:G Dd=none:=by
  cases q:G Dd with
  | none=>rfl
  | some o=>rw [(w1.gr Dd o q).1] at hD; cases hD
 have leG:∀ o,Le G (upd G Dd o):=fun o=>Le.upd hGD
 refine lc_it (it G).w (fun i H'=>∃ F2 S2 acc us,Le F1 F2∧Wd K (upd G Dd (.lst us)) F2 S2 H'∧Reps K F2 acc us∧acc.length≤i∧cW p tc te k (ds.drop i) acc (cN env vs) S2 Q0)
  ⟨F1,S1,[],[],Le.rfl',w1.newG _ hD,rfl,Nat.le_refl _,by simpa using h1⟩ (fun i H' _ ⟨F2,S2,acc,us,l2,w2,_,_,q2⟩=>⟨F2,S2,l2,w2.lessG (leG _),rX q2⟩)
  (fun i x H' H'' hi ⟨F2,S2,acc,us,l2,w2,ra,hz,q2⟩ y=>?_) (fun H' ⟨F2,S2,acc,us,l2,w2,ra,hz,q2⟩=>?_)
 ·obtain ⟨d,F3,e1,l3,w3,r3⟩:=y _ F2 S2 (leG _) l2 w2 (rX q2)
  have e2:ds.drop i=d :: ds.drop (i + 1):=by
   rw [List.drop_eq_getElem_cons hi]
   rw [List.getElem?_eq_getElem hi] at e1
   cases e1; rfl
  rw [e2] at q2
  have q3:=lq (show chk k S2 (match bu p d (cN env vs) with
   | some env1=>tc env1 S2 (fun b S1=>match b with
     | true=>te env1 S1 (fun y S2=>cW p tc te k (ds.drop (i + 1)) (acc ++ [y]) (cN env vs) S2 Q0) fun _ _=>False
     | false=>cW p tc te k (ds.drop (i + 1)) acc (cN env vs) S1 Q0) fun _ _=>False
   | none=>False) from q2)
  split at q3
  ·rename_i env3 eb
   refine jx w3.fr p r3 (j8 (rn.le (l1.trans (l2.trans l3))) vs) eb fun σ1 rn3 sb=>⟨kO sb hv,?_⟩
   refine ⟨_,F3,S2,env3,_,_,rn3,w3,q3,fun b F4 S4 H4 l4 w4 q4=>?_,oq⟩
   cases b with
   | false =>
     rw [if_neg Bool.false_ne_true]
     exact ⟨F4,S4,acc,us,l2.trans (l3.trans l4),w4,(ra.le l3).le l4,by omega,q4⟩
   | true =>
     rw [if_pos rfl]
     refine ⟨_,F4,S4,env3,_,_,rn3.le l4,w4,q4,fun y v F5 S5 H5 l5 w5 r5 q5=>?_,oq⟩
     obtain ⟨g1,_,_⟩:=w5.gr Dd _ upd_same
     have hi2:i < sizeLine:=Nat.lt_of_lt_of_le hi (it G).z
     refine ⟨us,g1,by rw [ra.len]; omega,F5,S5,acc ++ [y],us ++ [v],l2.trans (l3.trans (l4.trans l5)),w5.putG _,((ra.le l3).le (l4.trans l5)).append (Reps.one r5),by rw [List.length_append]; simp; omega,q5⟩
  ·exact q3.elim
 ·rw [List.drop_length] at q2
  obtain ⟨w3,l3⟩:=w2.endG hGD
  exact hq (.lst acc) _ _ S2 H' (l1.trans (l2.trans l3)) w3 ⟨Dd,us,rfl,upd_same,ra.le l3,Nat.le_trans hz (it G).z⟩ (lq q2)
theorem hlc (own:List (Str × Nat)) (hi:HI B tg iter ti) (ok:blkC B.N B.sc scope own=true) (hv:∀ j ∈ iN p,j ∈ own.map (·.2)) (hg:HP (B.blk scope) tg p) (ht:HTs (B.blk scope) ifs tc) (he:HE (B.blk scope) elt te)
 (hs:∀ env x,foldedSetIterable iter env x=pure x:=by intro _ _; rfl):HE B (.ListComp elt [⟨tg,iter,ifs,0⟩] scope pos) (hLc ti p tc te (own.map (·.2))) :=
 ⟨fun X W okc tk=>PE.imp (pe_lc (own:=own) okc.calm okc.nd (hi.run X W okc tk) (by rw [okc.eN,okc.es]; exact blkOk_by ok) (fun s H C cl fp=>hg.run _ (okc.blk s H scope C cl fp)) (fun s H C cl fp=>ht.run _ _ (okc.blk s H scope C cl fp) takes0)
  (fun s H C cl fp=>he.run _ _ (okc.blk s H scope C cl fp) takes0) (hs _)) fun σ H Q h=>yV hv σ H Q h⟩
theorem EY (i:Nat) {y:Str} {py spos:Pos} (own:List (Str × Nat)) (hi:HI B tg iter ti) (ok:blkC B.N B.sc scope own=true) (hv:∀ j ∈ iN p,j ∈ own.map (·.2)) (hg:HP (B.blk scope) tg p) (ht:HTs (B.blk scope) ifs tc) (he:HE (B.blk scope) elt te)
 (hN:B.N[i]? = some y:=by rfl) (hyl:B.sc.names.lookup y=some .local:=by rfl) (hk:B.sc.kind = .function:=by rfl) (hl:(py.line == pos.line)=true:=by rfl) (ha:(scope.names.any fun (n,k)=>n == y && (k == .local || k == .cell))=false:=by decide +kernel)
 (hs:∀ env x,foldedSetIterable iter env x=pure x:=by intro _ _; rfl):HS B (.Assign [.Name y py] (.ListComp elt [⟨tg,iter,ifs,0⟩] scope pos) spos) (aK i (hLc ti p tc te (own.map (·.2)))) :=
 ⟨fun X W okc tk=>PS.imp (ps_setLc (own:=own) (i:=i) okc.calm okc.nd (by rw [okc.eN]; exact hN) (by rw [okc.es]; exact hyl) (sw_true (by rw [okc.es]; exact hk) (by rw [okc.es]; exact hyl) hl ha) (hi.run X W okc tk) (by rw [okc.eN,okc.es]; exact blkOk_by ok) (fun s H C cl fp=>hg.run _ (okc.blk s H scope C cl fp)) (fun s H C cl fp=>ht.run _ _ (okc.blk s H scope C cl fp) takes0)
  (fun s H C cl fp=>he.run _ _ (okc.blk s H scope C cl fp) takes0) (hs _)) fun D σ H ⟨G,F,S,env,E,rn,wd,h,o⟩ =>
  yV (W:=W) hv σ H _ ⟨G,F,S,env,_,_,rn,wd,h,fun d v F1 S1 H1 l w r q=>o.nx _ _ F1 S1 H1 l w ((rn.le l).set r i) q,o.exc rn⟩⟩
end

def Vw (d:D) (S:Sto) (d':D) (S':Sto):Prop:=∀ K G F H v,Wd K G F S H→Rep K F d v→∃ F',Le F F'∧Wd K G F' S' H∧Rep K F' d' v
theorem Vw.rfl' {d:D} {S:Sto}:Vw d S d S:=fun K G F H v w r=>⟨F,Le.rfl',w,r⟩
theorem Vw.less {d:D} {S S':Sto} (h:SLe S' S):Vw d S d S':=fun K G F H v w r=>⟨F,Le.rfl',w.less h,r⟩
theorem Vw.trans {d d1 d2:D} {S S1 S2:Sto} (h:Vw d S d1 S1) (k:Vw d1 S1 d2 S2):Vw d S d2 S2:=fun K G F H v w r=>by
 obtain ⟨F1,l1,w1,r1⟩:=h K G F H v w r
 obtain ⟨F2,l2,w2,r2⟩:=k K G F1 H v w1 r1
 exact ⟨F2,l1.trans l2,w2,r2⟩
theorem Wd.freeze {K:PySem.W.Frag} {G F:Hp} {S:Sto} {H:Hp} (W:Wd K G F S H) {p:Addr} {m:M} {o:HO} (h:S p=some m) (ho:H p=some o):Wd K G (upd F p o) (dl S p) H∧Le F (upd F p o):=by
 have hF:=W.dj p m h
 refine ⟨⟨fun a u e=>?_,fun a u e=>?_,fun a n e=>?_,fun a n e=>?_,W.gt,W.tb.to (Le.upd hF) fun a ps e1 e2 e3 e4=>by
  have ha:a ≠ p:=fun z=>by subst z; rw [h] at e4; cases e4
  simp only [upd_ne ha,ar ha,fR ha,e2,e3,e4,and_self]⟩,Le.upd hF⟩
 ·obtain ⟨h1,h2,h3⟩:=W.gr a u e
  have ha:a ≠ p:=fun z=>by subst z; rw [h] at h3; cases h3
  exact ⟨h1,by rw [upd_ne ha]; exact h2,by rw [fR ha]; exact h3⟩
 ·by_cases ha:a=p
  ·subst ha; rw [upd_same] at e; cases e; exact ho
  ·rw [upd_ne ha] at e; exact W.fr a u e
 ·by_cases ha:a=p
  ·subst ha; rw [iI] at e; cases e
  ·rw [fR ha] at e
   obtain ⟨u,q,r⟩:=W.st a n e
   exact ⟨u,q,r.le (Le.upd hF)⟩
 ·by_cases ha:a=p
  ·subst ha; rw [iI] at e; cases e
  ·rw [fR ha] at e; rw [upd_ne ha]; exact W.dj a n e
theorem Vw.lst {S:Sto} {p:Addr} {ds:List D} (h:S p=some (.lst ds)):Vw (.ref p) S (.lst ds) (dl S p):=fun K G F H v w r=>by
 obtain ⟨vs,h1,h2,h3⟩:=io w h
 obtain ⟨w',l'⟩:=w.freeze h h1
 exact ⟨_,l',w',p,vs,r,upd_same,h2.le l',h3⟩
theorem Vw.obj {S:Sto} {p:Addr} {c:Nat} {ds:List D} (h:S p=some (.ins c ds)):Vw (.ref p) S (.obj c ds) (dl S p):=fun K G F H v w r=>by
 obtain ⟨o,h1,dx,vs,rfl,h2⟩:=w.st p _ h
 obtain ⟨w',l'⟩:=w.freeze h h1
 exact ⟨_,l',w',p,dx,vs,r,upd_same,h2.le l'⟩
theorem Wd.grow {K:PySem.W.Frag} {G F:Hp} {S:Sto} {H:Hp} (W:Wd K G F S H) {p:Addr} (o:HO) (h:H p=none):Wd K G F S (upd H p o):=by
 refine ⟨fun a u e=>?_,fun a u e=>?_,fun a m e=>?_,W.dj,W.gt,W.tb.to Le.rfl' fun a ps e1 e2 e3 e4=>by
  have ha:a ≠ p:=fun z=>by subst z; rw [h] at e1; cases e1
  simp only [upd_ne ha,ar ha,fR ha,e2,e3,e4,and_self]⟩
 ·obtain ⟨h1,h2,h3⟩:=W.gr a u e
  have ha:a ≠ p:=fun z=>by subst z; rw [h] at h1; cases h1
  exact ⟨by rw [upd_ne ha]; exact h1,h2,h3⟩
 ·rw [upd_ne (ne_of_none e (W.freshF h))]; exact W.fr a u e
 ·obtain ⟨u,q,r⟩:=W.st a m e
  exact ⟨u,by rw [upd_ne (sne e (W.freshS h))]; exact q,r⟩

abbrev HSp:=List D→Sto→HK→HK→Prop
def Rt (Q:HK) (d:D) (S:Sto):Prop:=∃ d' S',Vw d S d' S'∧Q d' S'
theorem Rt.mk {Q:HK} {d:D} {S:Sto} (h:Q d S):Rt Q d S:=⟨d,S,Vw.rfl',h⟩
theorem Rt.less {Q:HK} {d:D} {S S':Sto} (l:SLe S' S) (h:Q d S'):Rt Q d S:=⟨d,S',Vw.less l,h⟩
def Rx (E:HK) (x:D) (S:Sto):Prop:=∃ S',SLe S' S∧E x S'
theorem Rx.mk {Q:HK} {d:D} {S:Sto} (h:Q d S):Rx Q d S:=⟨S,SLe.rfl',h⟩
theorem Rx.less {Q:HK} {d:D} {S S':Sto} (l:SLe S' S) (h:Q d S'):Rx Q d S:=⟨S',l,h⟩
theorem Rt.ok {K:PySem.W.Frag} {G F:Hp} {Q0:HK} {Q:VK} (h:OkQ K G F Q0 Q):OkQ K G F (Rt Q0) Q:=fun d v F' S' H' l w r ⟨d',S2,vw,q⟩=>by
 obtain ⟨F2,l2,w2,r2⟩:=vw K G F' H' v w r
 exact h d' v F2 S2 H' (l.trans l2) w2 r2 q
theorem Rx.ok {K:PySem.W.Frag} {G F:Hp} {E0:HK} {E:XK} (h:OkE K G F E0 E):OkE K G F (Rx E0) E:=fun x cls dd F' S' H' l w r ⟨S2,le,q⟩=>h x cls dd F' S2 H' l (w.less le) r q

def lSp (K:PySem.W.Frag) (n:Nat) (sp:HSp):Sp:=fun vs H Q E=>vs.length=n∧∃ G F S ds Q0 E0,Reps K F ds vs∧Wd K G F S H∧sp ds S Q0 E0∧OkQ K G F Q0 Q∧OkE K G F E0 E
structure FnAt (B:Bs) (k:Nat) (f:Addr) (n:Nat) (dds:List D) (sp:HSp):Prop where
 ex:∃ (fd:FuncData) (ps:List Str) (ds:List Value) (dvs:List V),ps.length=n∧Binds B.K fd ps ds∧Vals dvs ds∧(∀ F,Reps B.K F dds dvs)∧FnOk B.P B.w B.K B.mg B.base (CX B.P B.w) k f fd ps (lSp B.K n sp)
theorem FnAt.mono {B:Bs} {j k:Nat} {f:Addr} {n:Nat} {dds:List D} {sp:HSp} (h:FnAt B j f n dds sp) (l:j≤k):FnAt B k f n dds sp:=by
 obtain ⟨fd,ps,ds,dvs,h1,h2,h3,h4,h5⟩:=h.ex
 exact ⟨fd,ps,ds,dvs,h1,h2,h3,h4,h5.mono l⟩
theorem FnAt.imp {B:Bs} {k:Nat} {f:Addr} {n:Nat} {dds:List D} {sp sp':HSp} (h:FnAt B k f n dds sp) (i:∀ ds S Q E,sp' ds S Q E→sp ds S Q E):FnAt B k f n dds sp':=by
 obtain ⟨fd,ps,ds,dvs,h1,h2,h3,h4,h5⟩:=h.ex
 exact ⟨fd,ps,ds,dvs,h1,h2,h3,h4,h5.imp fun vs H Q E ⟨hn,G,F,S,ds,Q0,E0,a,b,c,d,e⟩=>⟨hn,G,F,S,ds,Q0,E0,a,b,i _ _ _ _ c,d,e⟩⟩
structure HFn (B:Bs) (k:Nat) (x:Str) (n:Nat) (dds:List D) (sp:HSp):Prop where
 mg:B.mg x=some (.ref (He.ga B.K x))
 kp:PySem.W.keepIn B.K (.ref (He.ga B.K x))=true
 at_:FnAt B k (He.ga B.K x) n dds sp
def ao (n:Nat) (ds:List D):aW:=ds.map some ++ List.replicate (n - ds.length) none
theorem ni {K:PySem.W.Frag} {F:Hp} {N:List Str} {ds:List D} {vs:List V} (r:Reps K F ds vs):RepN K F (ao N.length ds) (L2.start N vs):=by
 have hl:=r.len
 refine ⟨by unfold ao L2.start; simp [hl],fun i d e=>?_⟩
 unfold ao at e
 unfold L2.start
 by_cases hi:i < ds.length
 ·rw [List.getElem?_append_left (by simpa using hi)] at e
  rw [List.getElem?_append_left (by simpa [hl] using hi)]
  rw [List.getElem?_map] at e ⊢
  obtain ⟨d',h1,h2⟩:=Option.map_eq_some_iff.mp e
  cases h2
  obtain ⟨v,h3,h4⟩:=r.at h1
  exact ⟨v,by rw [h3]; rfl,h4⟩
 ·rw [List.getElem?_append_right (by simpa using hi)] at e
  obtain ⟨h1,h2⟩:=List.getElem?_eq_some_iff.mp e
  rw [List.getElem_replicate] at h2
  cases h2
section
variable {B:Bs} {e a b o:Expr} {es:List Expr} {ta tb te to:HTE} {tr:HTA} {x m:Str} {p pos apos:Pos} {k n:Nat} {dds:List D} {sp:HSp}
def an (n:Nat) (dds:List D) (sp:HSp) (t:HTA):HTE:=fun env S Q E=>t env S (fun ds S1=>match Nat.beq (ds ++ dds).length n with
 | true=>sp (ds ++ dds) S1 Q E
 | false=>False) E
theorem rY {m n:Nat} {A:Prop} (h:match Nat.beq m n with | true=>A | false=>False):m=n∧A:=by
 cases e:Nat.beq m n with
 | false=>rw [e] at h; exact h.elim
 | true=>rw [e] at h; exact ⟨Nat.eq_of_beq_eq_true e,h⟩
theorem OkC.fnOk {X:Cx} (ok:OkC B X) {f:Addr} {fd:FuncData} {ps:List Str} {s:Sp} (h:FnOk B.P B.w B.K B.mg B.base (CX B.P B.w) k f fd ps s):FnOk X.prog X.w X.K X.mg X.base (CX X.prog X.w) k f fd ps s:=by
 rw [ok.eP,ok.ew,ok.eK,ok.em,ok.eb]; exact h
theorem bn (h:HFn B k x n dds sp) (hk:k≤B.k) (gn:Gn B x) (ha:HA B (e :: es) tr) (hdb:(x == ("__debug__" : Str))=false:=by decide) (he:∀ env,starEach (e :: es) env=(false,eval e env) :: starEach es env:=by intro _; rfl)
 (hpl:∀ env,(backTo pos (starEach es env)).any (·.1)=false:=by intro _; rfl):HE B (.Call (.Name x p) (e :: es) [] pos) (an n dds sp tr) :=
 ⟨fun X W ok tk=>by
  obtain ⟨fd,ps,ds,dvs,hn,hb,hv,hd,hf⟩:=h.at_.ex
  refine PE.imp (pe_callSD (E:=WE W) (ok.fnOk hf) (ok.room.mono hk) (ok.gl gn) (by rw [ok.em]; exact h.mg) (by rw [ok.eK]; exact h.kp) (by rw [ok.eK]; exact hb) hv (fun σ=>passAt tk σ) (ha.run X W ok tk) hdb (he _) (hpl _)) fun σ H Q ⟨G,F,S,env,Q0,E0,rn,wd,h,hq,he⟩=>?_
  refine ⟨G,F,S,env,_,E0,rn,wd,h,fun ds vs F1 S1 H1 l1 w1 r1 h1=>?_,he⟩
  obtain ⟨z,h1⟩:=rY h1
  have rr:=r1.append (hd F1)
  exact ⟨by rw [rr.len]; exact z,G,F1,S1,_,Q0,E0,rr,w1,h1,hq.le l1,he.le l1⟩⟩
structure Attr (K:PySem.W.Frag) (f:Str) (ix:Nat→Option Nat):Prop where
 ok:∀ c i,ix c=some i→Cls K (cad K c)∧NoAttr K (cad K c) f∧(fw c)[i]? = some f∧(fw c).Nodup∧(fw c).length≤900
def ba (ix:Nat→Option Nat):G1:=fun x S Q=>match x with
 | .obj c ds=>match ix c with
   | some i=>match ds[i]? with
     | some d=>Q d S
     | none=>False
   | none=>False
 | .ref q=>match S q with
   | some (.ins c ds)=>match ix c with
     | some i=>match ds[i]? with
       | some d=>Q d S
       | none=>False
     | none=>False
   | _=>False
 | _=>False
theorem lJ {f:Str} {v:V}:∀ {ns:List Str} {vs:List V} {i:Nat},ns.Nodup→ns[i]? = some f→vs[i]? = some v→(ns.zip vs).lookup f=some v
 | [],_,_,_,h,_=>by simp at h
 | n :: ns,[],_,_,_,h=>by simp at h
 | n :: ns,v' :: vs,0,_,h1,h2=>by
   simp at h1 h2; subst h1 h2; simp
 | n :: ns,v' :: vs,i + 1,hd,h1,h2=>by
   have hn:f ≠ n:=fun z=>by
    subst z
    exact (List.nodup_cons.mp hd).1 (List.mem_of_getElem? (by simpa using h1))
   have:(f == n)=false:=by simpa using hn
   rw [List.zip_cons_cons,List.lookup_cons,this]
   exact lJ (List.nodup_cons.mp hd).2 (by simpa using h1) (by simpa using h2)
theorem Bo {K:PySem.W.Frag} {G F:Hp} {S:Sto} {H:Hp} {q:Addr} {c:Nat} {ds:List D} (w:Wd K G F S H) (e:S q=some (.ins c ds)):∃ dx vs,H q=some (.ins (cad K c) dx ((fw c).zip vs))∧Reps K F ds vs:=by
 obtain ⟨o,h1,dx,vs,rfl,h2⟩:=w.st q _ e
 exact ⟨dx,vs,h1,h2⟩
theorem dL {f:Str} {ix:Nat→Option Nat} (A:Attr B.K f ix) (h:HE B e te) (hb:∀ env,attributeBase e f env (eval e env)=eval e env:=by intro _; rfl):HE B (.Attribute e f pos) (hun (ba ix) te) :=
 ⟨fun X W ok tk=>PE.imp (pe_fld (h.run X W ok tk) (hb _)) fun σ H Q h=>by
  refine lun (r:=fun x H1 Q=>∃ a C dx fs v,x = .ref a∧H1 a=some (.ins C dx fs)∧Cls X.K C∧NoAttr X.K C f∧fs.lookup f=some v∧Q v H1) ?_ te σ H Q h
  intro G F S H d v Q0 Q w r h hq
  unfold ba at h
  split at h
  ·rename_i c ds
   obtain ⟨a,dx,vs,rfl,hF,rs⟩:=r
   split at h
   ·rename_i i ei
    split at h
    ·rename_i d ed
     obtain ⟨z1,z2,z3,z4,_⟩:=A.ok c i ei
     obtain ⟨u,h1,h2⟩:=rs.at ed
     exact ⟨a,_,dx,_,u,rfl,w.fr _ _ hF,by rw [ok.eK]; exact z1,by rw [ok.eK]; exact z2,lJ z4 z3 h1,hq d u F S H Le.rfl' w h2 h⟩
    ·exact h.elim
   ·exact h.elim
  ·rename_i q
   obtain rfl:v = .ref q:=r
   split at h
   ·rename_i c ds es
    obtain ⟨dx,vs,hH,rs⟩:=Bo w es
    split at h
    ·rename_i i ei
     split at h
     ·rename_i d ed
      obtain ⟨z1,z2,z3,z4,_⟩:=A.ok c i ei
      obtain ⟨u,h1,h2⟩:=rs.at ed
      exact ⟨q,_,dx,_,u,rfl,hH,by rw [ok.eK]; exact z1,by rw [ok.eK]; exact z2,lJ z4 z3 h1,hq d u F S H Le.rfl' w h2 h⟩
     ·exact h.elim
    ·exact h.elim
   ·exact h.elim
  ·exact h.elim⟩
def Bp (ds:List D) (i:Nat) (d:D):Option (List D):=match Nat.blt i ds.length with
 | true=>some (ds.set i d)
 | false=>match Nat.beq i ds.length with
   | true=>some (ds ++ [d])
   | false=>none
def Ak (ix:Nat→Option Nat) (x d:D) (S:Sto) (Q:Sto→Prop):Prop:=match x with
 | .ref q=>match S q with
   | some (.ins c ds)=>match ix c with
     | some i=>match Bp ds i d with
       | some ds'=>Q (up S q (.ins c ds'))
       | none=>False
     | none=>False
   | _=>False
 | _=>False
theorem u7 {f:Str} {v:V}:∀ {ns:List Str} {vs:List V} {i:Nat},ns.Nodup→ns[i]? = some f→i < vs.length→putF f v (ns.zip vs)=ns.zip (vs.set i v)
 | [],_,_,_,h,_=>by simp at h
 | n :: ns,[],_,_,_,h=>by simp at h
 | n :: ns,w :: vs,0,_,h,_=>by
   simp at h; subst h
   simp [putF]
 | n :: ns,w :: vs,i + 1,hd,h,hl=>by
   have hn:n ≠ f:=fun z=>by
    subst z
    exact (List.nodup_cons.mp hd).1 (List.mem_of_getElem? (by simpa using h))
   have ih:=u7 (v:=v) (List.nodup_cons.mp hd).2 (i:=i) (vs:=vs) (by simpa using h) (by simpa using hl)
   simp only [List.zip_cons_cons,zS1]
   rw [← ih]
   simp [putF,hn]
theorem mB {f:Str} {v:V}:∀ {ns:List Str} {vs:List V},ns.Nodup→ns[vs.length]? = some f→putF f v (ns.zip vs)=ns.zip (vs ++ [v])
 | [],_,_,h=>by simp at h
 | n :: ns,[],_,h=>by
   simp at h; subst h
   simp [putF]
 | n :: ns,w :: vs,hd,h=>by
   have hn:n ≠ f:=fun z=>by
    subst z
    exact (List.nodup_cons.mp hd).1 (List.mem_of_getElem? (by simpa using h))
   have ih:=mB (v:=v) (List.nodup_cons.mp hd).2 (vs:=vs) (by simpa using h)
   simp only [List.zip_cons_cons,List.cons_append]
   rw [← ih]
   simp [putF,hn]
theorem EZ {i n:Nat} (h:Nat.blt i n=true):i < n:=Nat.le_of_ble_eq_true h
theorem C2 {K:PySem.W.Frag} {F:Hp} {ds ds':List D} {vs:List V} {d:D} {v:V} {i:Nat} {f:Str} {ns:List Str} (hd:ns.Nodup) (hf:ns[i]? = some f) (rs:Reps K F ds vs) (r:Rep K F d v) (h:Bp ds i d=some ds') :
 ∃ vs',putF f v (ns.zip vs)=ns.zip vs'∧Reps K F ds' vs':=by
 unfold Bp at h
 split at h
 ·rename_i e
  cases h
  exact ⟨vs.set i v,u7 hd hf (by rw [rs.len]; exact EZ e),rs.set i r⟩
 ·split at h
  ·rename_i e
   cases h
   have e2:=Nat.eq_of_beq_eq_true e
   exact ⟨vs ++ [v],mB hd (by rw [rs.len,← e2]; exact hf),rs.append (Reps.one r)⟩
  ·cases h
theorem E1 {K:PySem.W.Frag} {G F:Hp} {S:Sto} {H:Hp} {f:Str} {ix:Nat→Option Nat} (A:Attr K f ix) {x d:D} {u v:V} {Q:Sto→Prop} (w:Wd K G F S H) (rx:Rep K F x u) (rd:Rep K F d v) (h:Ak ix x d S Q) :
 ∃ a C dx fs,u = .ref a∧H a=some (.ins C dx fs)∧Cls K C∧NoAttr K C f∧fs.length < 1000∧∃ S',Wd K G F S' (upd H a (.ins C dx (putF f v fs)))∧Q S':=by
 unfold Ak at h
 split at h
 ·rename_i q
  obtain rfl:u = .ref q:=rx
  split at h
  ·rename_i c ds es
   split at h
   ·rename_i i ei
    split at h
    ·rename_i ds' ed
     obtain ⟨dx,vs,hH,rs⟩:=Bo w es
     obtain ⟨z1,z2,z3,z4,z5⟩:=A.ok c i ei
     obtain ⟨vs',e1,r1⟩:=C2 z4 z3 rs rd ed
     refine ⟨q,_,dx,_,rfl,hH,z1,z2,?_,up S q (.ins c ds'),w.put (m:=.ins c ds') es ⟨dx,vs',by rw [e1],r1⟩,h⟩
     rw [List.length_zip]; omega
    ·exact h.elim
   ·exact h.elim
  ·exact h.elim
 ·exact h.elim
def d8 (ix:Nat→Option Nat) (to te:HTE):HTS:=fun D env S=>te env S (fun d S1=>to env S1 (fun x S2=>Ak ix x d S2 fun S3=>D.nx env S3) fun x S2=>D.ex x env S2) fun x S1=>D.ex x env S1
theorem i8 {f:Str} {ix:Nat→Option Nat} {pos':Pos} (A:Attr B.K f ix) (ho:HE B o to) (h:HE B e te) (hs:∀ env,swapsWith e (some (.Attribute o f pos')) pos.line env=pure false:=by intro _; rfl):HS B (.Assign [.Attribute o f pos'] e pos) (d8 ix to te) :=
 ⟨fun X W ok tk=>PS.imp (ps_fld (ho.run X W ok tk) (h.run X W ok tk) (hs _)) fun D σ H ⟨G,F,S,env,E,rn,wd,h,oo⟩ =>
  ⟨G,F,S,env,_,_,rn,wd,h,fun d v F1 S1 H1 l1 w1 r1 h1 =>
   ⟨G,F1,S1,env,_,_,rn.le l1,w1,h1,fun x u F2 S2 H2 l2 w2 r2 h2=>by
    obtain ⟨a,C,dx,fs,z1,z2,z3,z4,z5,S3,w3,q⟩:=E1 A w2 r2 (r1.le l2) h2
    exact ⟨a,C,dx,fs,z1,z2,by rw [ok.eK]; exact z3,by rw [ok.eK]; exact z4,z5,oo.nx env σ F2 S3 _ (l1.trans l2) w3 (rn.le (l1.trans l2)) q⟩,(oo.le l1).exc (rn.le l1)⟩,oo.exc rn⟩⟩
end
section
variable {X:Cx} {CX':CXT} {k:Nat} {f C:Addr} {fd:FuncData} {ps:List Str} {sp:Sp} {E:L2.St→XK} {x m:Str} {p pos apos:Pos} {e o:Expr} {es:List Expr} {ta:TE} {t:TA} {ds:List Value} {dvs:List V}
abbrev i9 (pl:Sem Bool) (o:Expr) (m:Str) (apos pos:Pos) (es:List Expr) (env:Env):Prop :=
 eval (.Call (.Attribute o m apos) es [] pos) env=(do let ov ← eval o env; standAt apos.atName; let (f,first) ← holding [ov] (getMethod ov m pl); callWith pos f first (backTo pos (starEach es env)) (backToKw pos (keywordEach [] env)))
theorem Bq {pl:Sem Bool} (he:PE X o ta) (c:Cls X.K C) (hm:Meth X.K C m f) (F:FnOk X.prog X.w X.K X.mg X.base CX' k f fd ps sp) (hr:Room k X.A) (hb:Binds X.K fd ps ds) (hd:Vals dvs ds) (hx:∀ σ,PassesAt CX' X σ (E σ))
 (ha:PA X (e :: es) t) (hst:starEach (e :: es) X.env=(false,eval e X.env) :: starEach es X.env) (hpl:(backTo pos (starEach es X.env)).any (·.1)=false) (ht:i9 pl o m apos pos (e :: es) X.env) :
 PE X (.Call (.Attribute o m apos) (e :: es) [] pos) (fun σ H Q=>ta σ H fun x H1=>∃ a dx fs,x = .ref a∧H1 a=some (.ins C dx fs)∧fs.lookup m=none∧t σ H1 fun vs H2=>sp (.ref a :: (vs ++ dvs)) H2 Q (E σ)) :=
 ⟨fun pins s σ H Q I h=>PySem.W.methodCall_KW (pl:=pl) (thn (he.run pins s σ H _ I h) fun u s1 ⟨y,H1,I1,ry,a,dx,fs,ey,ea,hl,q⟩=>by
  subst ey
  cases (show u=Value.ref a from ry)
  exact getmeth_ok I1 ea c hm hl (PySem.W.callWith_K (first:=[.ref a]) (h₀:=X.base) I.ok.mod.kin hm.kp
   (thn (ha.run pos pins s1 σ H1 _ I1 q) fun us s2 ⟨vs,H2,I2,r,q2⟩=>⟨I2.kIn,run_fnSD (us:=.ref a :: us) (vs:=.ref a :: vs) F hr hb hd (hx σ) I2 (.cons rfl r) q2⟩) hst hpl)) ht⟩
theorem Al {pl:Sem Bool} (he:PE X o ta) (c:Cls X.K C) (hm:Meth X.K C m f) (F:FnOk X.prog X.w X.K X.mg X.base CX' k f fd ps sp) (hr:Room k X.A) (hb:Binds X.K fd ps ds) (hd:Vals dvs ds) (hx:∀ σ,PassesAt CX' X σ (E σ))
 (ht:i9 pl o m apos pos [] X.env) :
 PE X (.Call (.Attribute o m apos) [] [] pos) (fun σ H Q=>ta σ H fun x H1=>∃ a dx fs,x = .ref a∧H1 a=some (.ins C dx fs)∧fs.lookup m=none∧sp (.ref a :: dvs) H1 Q (E σ)) :=
 ⟨fun pins s σ H Q I h=>PySem.W.methodCall_KW (pl:=pl) (thn (he.run pins s σ H _ I h) fun u s1 ⟨y,H1,I1,ry,a,dx,fs,ey,ea,hl,q⟩=>by
  subst ey
  cases (show u=Value.ref a from ry)
  exact getmeth_ok I1 ea c hm hl (PySem.W.callWith_K0 (first:=[.ref a]) I1.kIn hm.kp (run_fnSD (us:=[.ref a]) (vs:=[.ref a]) F hr hb hd (hx σ) I1 (.cons rfl .nil) q))) ht⟩
theorem Am {pins:List (Addr × Obj)} {σ:L2.St} {H:Hp} {s:Shared} {Q:VK} {us:List Value} {vs:List V} (Mm:Mk X.K C f) (F:FnOk X.prog X.w X.K X.mg X.base CX' k f fd ps sp) (hr:Room (k + 1) X.A) (hb:Binds X.K fd ps ds) (hd:Vals dvs ds)
 (hx:PassesAt CX' X σ (E σ)) (I:L2.Inv X pins σ H s) (r:Vals vs us)
 (h:∀ a dx,H a=none→H dx=none→dx ≠ a→sp (.ref a :: (vs ++ dvs)) (upd (upd H dx (.own a)) a (.ins C dx [])) (fun v H2=>v = .non∧Q (.ref a) H2) (E σ)) :
 wpAny (model X.prog X.w) X.A (call (.ref C) us) (EP X pins σ Q) X.xe s:=by
 let a0:=s.heap.objs.size
 have go:=h (a0 + 1) a0 (I.hok.fresh (Nat.le_succ _)) (I.hok.fresh zNr) (Nat.ne_of_lt (Nat.lt_succ_self _))
 have J:=Inv.made (C:=C) I
 have rr:Vals (V.ref (a0 + 1) :: (vs ++ dvs)) (Value.ref (a0 + 1) :: (us ++ ds)):=.cons rfl (r.append hd)
 have len:(Value.ref (a0 + 1) :: us ++ ds).length=ps.length:=(rr.length.symm).trans (F.len _ _ _ _ go)
 refine wpAny_call (make_map (f:=f) I.kIn Mm.makes Mm.init (beq_iff_eq.mp Mm.fn) (codeAny_mono (F.run _ X.stack _ _ ⟨Value.ref (a0 + 1) :: us,[]⟩ (Value.ref (a0 + 1) :: (us ++ ds)) _ _ (E σ) (hr.make C us [])
  (J.env0.make C us []) (hb _ (Value.ref (a0 + 1) :: us) J.kIn len) rr go) fun res s' got=>?_))
 match res,got with
 | .error er,got=>exact hx pins _ _ er s' J got
 | .ok (.ret u),got =>
   obtain ⟨v,H',I3,rv,ev,q3⟩:=J.after got
   cases ev
   exact ⟨rv,⟨V.ref (a0 + 1),H',I3,rfl,q3⟩⟩
 | .ok .next,got=>exact got.elim
 | .ok .brk,got=>exact got.elim
 | .ok .cont,got=>exact got.elim
theorem Br (Mm:Mk X.K C f) (F:FnOk X.prog X.w X.K X.mg X.base CX' k f fd ps sp) (hr:Room (k + 1) X.A) (hg:Gl X x) (hm:X.mg x=some (.ref C)) (hb:Binds X.K fd ps ds) (hd:Vals dvs ds) (hx:∀ σ,PassesAt CX' X σ (E σ))
 (ha:PA X (e :: es) t) (hdb:(x == ("__debug__" : Str))=false) (he:starEach (e :: es) X.env=(false,eval e X.env) :: starEach es X.env) (hpl:(backTo pos (starEach es X.env)).any (·.1)=false) :
 PE X (.Call (.Name x p) (e :: es) [] pos) (fun σ H Q=>t σ H fun vs H1=>∀ a dx,H1 a=none→H1 dx=none→dx ≠ a→sp (.ref a :: (vs ++ dvs)) (upd (upd H1 dx (.own a)) a (.ins C dx [])) (fun v H2=>v = .non∧Q (.ref a) H2) (E σ)) :=
 ⟨fun pins s σ H Q I h=>wpAny_Call_Name_kw (ld_glob I hg hm (PySem.W.callWith_K (h₀:=X.base) I.ok.mod.kin Mm.kp
  (thn (ha.run pos pins s σ H _ I h) fun us s1 ⟨vs,H1,I1,r,q⟩=>⟨I1.kIn,Am Mm F hr hb hd (hx σ) I1 r q⟩) he hpl) hdb)⟩
end
section
variable {B:Bs} {e a b o:Expr} {es:List Expr} {ta tb te to:HTE} {tr:HTA} {x m:Str} {p pos apos:Pos} {k n:Nat} {dds:List D} {sp:HSp}
structure HMeth (B:Bs) (k c:Nat) (m:Str) (n:Nat) (dds:List D) (sp:HSp):Prop where
 cl:Cls B.K (cad B.K c)
 me:∃ f,Meth B.K (cad B.K c) m f∧FnAt B k f n dds sp
 no:m ∉ fw c
def isC (c:Nat) (S:Sto):D→Bool
 | .obj c' _=>Nat.beq c' c
 | .ref q=>match S q with
   | some (.ins c' _)=>Nat.beq c' c
   | _=>false
 | _=>false
def bG (c n:Nat) (dds:List D) (sp:HSp) (to:HTE) (t:HTA):HTE:=fun env S Q E=>to env S (fun x S1=>match isC c S1 x with
 | true=>t env S1 (fun ds S2=>match Nat.beq (x :: (ds ++ dds)).length n with
   | true=>sp (x :: (ds ++ dds)) S2 Q E
   | false=>False) E
 | false=>False) E
theorem nj {m:Str}:∀ {ns:List Str} {vs:List V},m ∉ ns→(ns.zip vs).lookup m=none
 | [],_,_=>by simp
 | n :: ns,[],_=>by simp
 | n :: ns,v :: vs,h=>by
   have h1:m ≠ n:=fun z=>h (z ▸ zMs)
   have:(m == n)=false:=by simpa using h1
   rw [List.zip_cons_cons,List.lookup_cons,this]
   exact nj fun z=>h (zMt z)
theorem Bt {K:PySem.W.Frag} {G F:Hp} {S:Sto} {H:Hp} {c:Nat} {d:D} {v:V} (w:Wd K G F S H) (r:Rep K F d v) (h:isC c S d=true):∃ a dx vs,v = .ref a∧H a=some (.ins (cad K c) dx ((fw c).zip vs)):=by
 unfold isC at h
 split at h
 ·obtain rfl:=Nat.eq_of_beq_eq_true h
  obtain ⟨a,dx,vs,rfl,hF,rs⟩:=r
  exact ⟨a,dx,vs,rfl,w.fr _ _ hF⟩
 ·rename_i q
  split at h
  ·rename_i c' ds es
   obtain rfl:=Nat.eq_of_beq_eq_true h
   obtain ⟨dx,vs,hH,rs⟩:=Bo w es
   exact ⟨q,dx,vs,r,hH⟩
  ·cases h
 ·cases h
theorem iq {c:Nat} {pl:Env→Sem Bool} (h:HMeth B k c m n dds sp) (hk:k≤B.k) (ho:HE B o to) (ha:HA B (e :: es) tr) (he:∀ env,starEach (e :: es) env=(false,eval e env) :: starEach es env:=by intro _; rfl)
 (hpl:∀ env,(backTo pos (starEach es env)).any (·.1)=false:=by intro _; rfl) (ht:∀ env,i9 (pl env) o m apos pos (e :: es) env:=by intro _; rfl):HE B (.Call (.Attribute o m apos) (e :: es) [] pos) (bG c n dds sp to tr) :=
 ⟨fun X W ok tk=>by
  obtain ⟨f,hm,hf⟩:=h.me
  obtain ⟨fd,ps,ds,dvs,hn,hb,hv,hd,hf⟩:=hf.ex
  refine PE.imp (Bq (E:=WE W) (pl:=pl X.env) (ho.run X W ok tk) (by rw [ok.eK]; exact h.cl) (by rw [ok.eK]; exact hm) (ok.fnOk hf) (ok.room.mono hk) (by rw [ok.eK]; exact hb) hv (fun σ=>passAt tk σ) (ha.run X W ok tk) (he _) (hpl _) (ht _)) fun σ H Q ⟨G,F,S,env,Q0,E0,rn,wd,hh,hq,hE⟩=>?_
  refine ⟨G,F,S,env,_,E0,rn,wd,hh,fun d v F1 S1 H1 l1 w1 r1 h1=>?_,hE⟩
  dsimp only at h1
  split at h1
  ·rename_i ic
   obtain ⟨a,dx,vs,rfl,hH⟩:=Bt w1 r1 ic
   refine ⟨a,dx,_,rfl,hH,nj h.no,G,F1,S1,env,_,E0,rn.le l1,w1,h1,fun ds us F2 S2 H2 l2 w2 r2 h2=>?_,hE.le l1⟩
   obtain ⟨z,h2⟩:=rY h2
   have rr:Reps B.K F2 (d :: (ds ++ dds)) (V.ref a :: (us ++ dvs)):=⟨_,_,rfl,r1.le l2,r2.append (hd F2)⟩
   exact ⟨by rw [rr.len]; exact z,G,F2,S2,_,Q0,E0,rr,w2,h2,hq.le (l1.trans l2),hE.le (l1.trans l2)⟩
  ·exact h1.elim⟩
theorem E2 {c:Nat} {pl:Env→Sem Bool} (h:HMeth B k c m n dds sp) (hk:k≤B.k) (ho:HE B o to) (ht:∀ env,i9 (pl env) o m apos pos [] env:=by intro _; rfl):HE B (.Call (.Attribute o m apos) [] [] pos) (bG c n dds sp to ae) :=
 ⟨fun X W ok tk=>by
  obtain ⟨f,hm,hf⟩:=h.me
  obtain ⟨fd,ps,ds,dvs,hn,hb,hv,hd,hf⟩:=hf.ex
  refine PE.imp (Al (E:=WE W) (pl:=pl X.env) (ho.run X W ok tk) (by rw [ok.eK]; exact h.cl) (by rw [ok.eK]; exact hm) (ok.fnOk hf) (ok.room.mono hk) (by rw [ok.eK]; exact hb) hv (fun σ=>passAt tk σ) (ht _)) fun σ H Q ⟨G,F,S,env,Q0,E0,rn,wd,hh,hq,hE⟩=>?_
  refine ⟨G,F,S,env,_,E0,rn,wd,hh,fun d v F1 S1 H1 l1 w1 r1 h1=>?_,hE⟩
  dsimp only at h1
  split at h1
  ·rename_i ic
   obtain ⟨a,dx,vs,rfl,hH⟩:=Bt w1 r1 ic
   obtain ⟨z,h2⟩:=rY (show match Nat.beq (d :: ([] ++ dds)).length n with | true=>sp (d :: ([] ++ dds)) S1 Q0 E0 | false=>False from h1)
   have rr:Reps B.K F1 (d :: dds) (V.ref a :: dvs):=⟨_,_,rfl,r1,hd F1⟩
   exact ⟨a,dx,_,rfl,hH,nj h.no,by rw [rr.len]; exact z,G,F1,S1,_,Q0,E0,rr,w1,h2,hq.le l1,hE.le l1⟩
  ·exact h1.elim⟩
structure HMake (B:Bs) (k c n:Nat) (dds:List D) (sp:HSp):Prop where
 mg:B.mg (eX c)=some (.ref (cad B.K c))
 mkr:∃ f,Mk B.K (cad B.K c) f∧FnAt B k f n dds sp
def fS (c n:Nat) (dds:List D) (sp:HSp) (t:HTA):HTE:=fun env S Q E=>t env S (fun ds S1=>∀ p,S1 p=none→match Nat.beq (D.ref p :: (ds ++ dds)).length n with
 | true=>sp (.ref p :: (ds ++ dds)) (up S1 p (.ins c [])) (fun r S2=>isN r=true∧Rt Q (.ref p) S2) (Rx E)
 | false=>False) E
theorem C3 {α β:Type} (l:List α):l.zip ([]:List β)=[]:=by cases l <;> rfl
theorem An {G F:Hp} {S:Sto} {H:Hp} {ds:List D} {vs dvs:List V} {c:Nat} {Q0 E0:HK} {Q:VK} {E:XK} (hd:∀ F,Reps B.K F dds dvs) (w:Wd B.K G F S H) (rs:Reps B.K F ds vs) (hq:OkQ B.K G F Q0 Q) (he:OkE B.K G F E0 E)
 (h:∀ p,S p=none→match Nat.beq (D.ref p :: (ds ++ dds)).length n with
  | true=>sp (.ref p :: (ds ++ dds)) (up S p (.ins c [])) (fun r S2=>isN r=true∧Rt Q0 (.ref p) S2) (Rx E0)
  | false=>False) (a dx:Addr) (ha:H a=none) (hdx:H dx=none) (ne:dx ≠ a) :
 lSp B.K n sp (.ref a :: (vs ++ dvs)) (upd (upd H dx (.own a)) a (.ins (cad B.K c) dx [])) (fun v H2=>v = .non∧Q (.ref a) H2) E:=by
 obtain ⟨z,h1⟩:=rY (h a (w.freshS ha))
 have w1:=w.grow (.own a) hdx
 have w2:=w1.newS (m:=.ins c []) (p:=a) (o:=.ins (cad B.K c) dx []) (by rw [upd_ne (Ne.symm ne)]; exact ha) ⟨dx,[],by rw [C3],rfl⟩
 have rr:Reps B.K F (D.ref a :: (ds ++ dds)) (V.ref a :: (vs ++ dvs)):=⟨_,_,rfl,rfl,rs.append (hd F)⟩
 refine ⟨by rw [rr.len]; exact z,G,F,_,_,_,_,rr,w2,h1,fun d v F' S' H' l w' r ⟨e,q⟩=>?_,Rx.ok he⟩
 cases d <;> first | (cases e; done) | skip
 exact ⟨r,Rt.ok hq (.ref a) _ F' S' H' l w' rfl q⟩
theorem rZ {c:Nat} (h:HMake B k c n dds sp) (hk:k + 1≤B.k) (gn:Gn B (eX c)) (ha:HA B (e :: es) tr) (hdb:(eX c == ("__debug__" : Str))=false:=by decide) (he:∀ env,starEach (e :: es) env=(false,eval e env) :: starEach es env:=by intro _; rfl)
 (hpl:∀ env,(backTo pos (starEach es env)).any (·.1)=false:=by intro _; rfl):HE B (.Call (.Name (eX c) p) (e :: es) [] pos) (fS c n dds sp tr) :=
 ⟨fun X W ok tk=>by
  obtain ⟨f,hm,hf⟩:=h.mkr
  obtain ⟨fd,ps,ds,dvs,hn,hb,hv,hd,hf⟩:=hf.ex
  exact PE.imp (Br (E:=WE W) (by rw [ok.eK]; exact hm) (ok.fnOk hf) (ok.room.mono hk) (ok.gl gn) (by rw [ok.em]; exact h.mg) (by rw [ok.eK]; exact hb) hv (fun σ=>passAt tk σ) (ha.run X W ok tk) hdb (he _) (hpl _)) fun σ H Q ⟨G,F,S,env,Q0,E0,rn,wd,hh,hq,hE⟩ =>
   ⟨G,F,S,env,_,E0,rn,wd,hh,fun ds vs F1 S1 H1 l1 w1 r1 h1=>An hd w1 r1 (hq.le l1) (hE.le l1) h1,hE⟩⟩
end
section
variable {B:Bs} {e a b o:Expr} {es:List Expr} {ta tb te to:HTE} {tr:HTA} {x m:Str} {p pos apos:Pos} {k n:Nat} {dds:List D} {sp:HSp}
def E3 (K:PySem.W.Frag) (g:GM) (r:V→List V→Hp→VK→Prop):Prop:=∀ G F S H d v ds vs Q0 Q,Wd K G F S H→Rep K F d v→Reps K F ds vs→g d ds S Q0→OkQ K G F Q0 Q→r v vs H Q
def isStr:Sto→D→Bool
 | _,.str _=>true
 | _,_=>false
def eU (S:Sto) (x:D):Bool:=(bF S x).isSome
def Gv (K:PySem.W.Frag) (T:String) (kd:Sto→D→Bool):Prop:=∀ G F S H d v,Wd K G F S H→Rep K F d v→kd S d=true→tyV K T v H
theorem Bu {K:PySem.W.Frag}:Gv K "list" eU:=fun G F S H d v w r h=>by
 obtain ⟨ds,e⟩:=Option.isSome_iff_exists.mp h
 obtain ⟨a,vs,rfl,hs,_⟩:=dF w r e
 exact .inl ⟨rfl,vs,hs⟩
def hMt (kd:Sto→D→Bool) (g:GM) (to:HTE) (t:HTA):HTE:=fun env S Q E=>to env S (fun x S1=>match kd S1 x with
 | true=>t env S1 (fun ds S2=>g x ds S2 Q) E
 | false=>False) E
theorem hbm {T id:String} {name:Str} {kd:Sto→D→Bool} {g:GM} {r:PySem.W.Frag→V→List V→Hp→VK→Prop} (pa:PlainAttrs T) (slot:Slot T name id) (hty:typeOf (.builtin id)=pure (.type "method_descriptor")) (hm:∀ X,OkC B X→MtR X id (r X.K)) (hg:E3 B.K g (r B.K)) (hk:Gv B.K T kd)
 (ho:HE B o to) (ha:HA B (e :: es) tr) (hbase:∀ env,attributeBase o name env (eval o env)=eval o env:=by intro _; rfl)
 (hfew:∀ env,((backTo pos (starEach (e :: es) env)).all (fun x=>!x.1) && (backToKw pos (keywordEach [] env)).all (fun x=>x.1.isSome) && decide ((e :: es).length + ([]:List Keyword).length + (if ([]:List Keyword).isEmpty then 0 else 1) < 30))=true:=by intro _; rfl)
 (hline:(apos.endLine == pos.line)=true:=by rfl) (hs:∀ env,starEach (e :: es) env=(false,eval e env) :: starEach es env:=by intro _; rfl) (hplain:∀ env,(backTo pos (starEach es env)).any (·.1)=false:=by intro _; rfl) :
 HE B (.Call (.Attribute o name apos) (e :: es) [] pos) (hMt kd g to tr) :=
 ⟨fun X W ok tk=>PE.imp (pe_bm pa slot hty (by have:=hm X ok; rw [ok.eK] at this; exact this) (ho.run X W ok tk) (ha.run X W ok tk) (hbase _) (hfew _) hline (hs _) (hplain _)) fun σ H Q ⟨G,F,S,env,Q0,E0,rn,wd,h,hq,he⟩ =>
  ⟨G,F,S,env,_,E0,rn,wd,h,fun d v F1 S1 H1 l1 w1 r1 h1=>by
   dsimp only at h1
   split at h1
   ·rename_i ek
    exact ⟨by rw [ok.eK]; exact hk G F1 S1 H1 d v w1 r1 ek,G,F1,S1,env,_,E0,rn.le l1,w1,h1,fun ds vs F2 S2 H2 l2 w2 r2 h2=>hg G F2 S2 H2 d v ds vs Q0 Q w2 (r1.le l2) r2 h2 (hq.le (l1.trans l2)),he.le l1⟩
   ·exact h1.elim,he⟩⟩
theorem s5 {n:Nat} (h:n < 16777216):n < sizeLine:=by rw [sizeLine_eq]; exact h
theorem fi {n:Nat} (h:n≤16777216):n≤sizeLine:=by rw [sizeLine_eq]; exact h
def cz:GM:=fun x ds S Q=>match x with
 | .ref q=>match S q with
   | some (.lst xs)=>match ds with
     | [d]=>xs.length < 16777216∧Q .non (up S q (.lst (xs ++ [d])))
     | _=>False
   | _=>False
 | _=>False
theorem xC {K:PySem.W.Frag}:E3 K cz rAppend:=by
 intro G F S H d v ds vs Q0 Q w r rs h hq
 unfold cz at h
 split at h
 ·rename_i q
  obtain rfl:v = .ref q:=r
  split at h
  ·rename_i xs e
   split at h
   ·obtain ⟨u,rfl,r1⟩:=rs.one_inv
    obtain ⟨us,h1,h2,h3⟩:=io w e
    exact ⟨q,us,u,rfl,rfl,h1,by rw [h2.len]; exact s5 h.1,hq .non _ F _ _ Le.rfl' (w.put (m:=.lst (xs ++ [_])) e ⟨_,rfl,h2.append (Reps.one r1),by rw [List.length_append]; exact s5 h.1⟩) rfl h.2⟩
   ·exact h.elim
  ·exact h.elim
 ·exact h.elim
theorem fj (ho:HE B o to) (ha:HA B [e] tr) (hbase:∀ env,attributeBase o "append" env (eval o env)=eval o env:=by intro _; rfl)
 (hfew:∀ env,((backTo pos (starEach [e] env)).all (fun x=>!x.1) && (backToKw pos (keywordEach [] env)).all (fun x=>x.1.isSome) && decide ([e].length + ([]:List Keyword).length + (if ([]:List Keyword).isEmpty then 0 else 1) < 30))=true:=by intro _; rfl)
 (hline:(apos.endLine == pos.line)=true:=by rfl) (hs:∀ env,starEach [e] env=(false,eval e env) :: starEach [] env:=by intro _; rfl):HE B (.Call (.Attribute o "append" apos) [e] [] pos) (hMt eU cz to tr) :=
 hbm (r:=fun _=>rAppend) PySem.F.plainAttrs_list PySem.F.slot_list_append PySem.F.type_list_append (fun X _=>mt_append) xC Bu ho ha hbase hfew hline hs (fun _=>rfl)
def jy:GM:=fun x ds S Q=>match x with
 | .ref q=>match S q with
   | some (.lst xs)=>match ds with
     | [.lst ys]=>xs.length + ys.length≤16777216∧Q .non (up S q (.lst (xs ++ ys)))
     | [.ref q2]=>match S q2 with
       | some (.lst ys)=>xs.length + ys.length≤16777216∧Q .non (up S q (.lst (xs ++ ys)))
       | _=>False
     | _=>False
   | _=>False
 | _=>False
theorem yW {K:PySem.W.Frag} {G F:Hp} {S:Sto} {H:Hp} {q b:Addr} {xs ys:List D} {ws:List V} {Q0:HK} {Q:VK} (w:Wd K G F S H) (e:S q=some (.lst xs)) (hb:H b=some (.lst ws)) (rb:Reps K F ys ws)
 (h:xs.length + ys.length≤16777216∧Q0 .non (up S q (.lst (xs ++ ys)))) (hq:OkQ K G F Q0 Q):rExtend (.ref q) [.ref b] H Q:=by
 obtain ⟨us,h1,h2,h3⟩:=io w e
 exact ⟨q,b,us,ws,rfl,rfl,h1,hb,by rw [h2.len,rb.len]; exact fi h.1,hq .non _ F _ _ Le.rfl' (w.put (m:=.lst (xs ++ ys)) e ⟨_,rfl,h2.append rb,by rw [List.length_append]; exact fi h.1⟩) rfl h.2⟩
theorem xD {K:PySem.W.Frag}:E3 K jy rExtend:=by
 intro G F S H d v ds vs Q0 Q w r rs h hq
 unfold jy at h
 split at h
 ·rename_i q
  obtain rfl:v = .ref q:=r
  split at h
  ·rename_i xs e
   split at h
   ·obtain ⟨u,rfl,r1⟩:=rs.one_inv
    obtain ⟨b,ws,rfl,hb,rb,_⟩:=r1
    exact yW w e (w.fr _ _ hb) rb h hq
   ·rename_i q2
    obtain ⟨u,rfl,r1⟩:=rs.one_inv
    obtain rfl:u = .ref q2:=r1
    split at h
    ·rename_i ys e2
     obtain ⟨ws,h1,h2,_⟩:=io w e2
     exact yW w e h1 h2 h hq
    ·exact h.elim
   ·exact h.elim
  ·exact h.elim
 ·exact h.elim
theorem C4 (ho:HE B o to) (ha:HA B [e] tr) (hbase:∀ env,attributeBase o "extend" env (eval o env)=eval o env:=by intro _; rfl)
 (hfew:∀ env,((backTo pos (starEach [e] env)).all (fun x=>!x.1) && (backToKw pos (keywordEach [] env)).all (fun x=>x.1.isSome) && decide ([e].length + ([]:List Keyword).length + (if ([]:List Keyword).isEmpty then 0 else 1) < 30))=true:=by intro _; rfl)
 (hline:(apos.endLine == pos.line)=true:=by rfl) (hs:∀ env,starEach [e] env=(false,eval e env) :: starEach [] env:=by intro _; rfl):HE B (.Call (.Attribute o "extend" apos) [e] [] pos) (hMt eU jy to tr) :=
 hbm (r:=fun _=>rExtend) PySem.F.plainAttrs_list PySem.F.slot_list_extend PySem.F.type_list_extend (fun X _=>mt_extend) xD Bu ho ha hbase hfew hline hs (fun _=>rfl)
def u8:G1:=fun x S Q=>match x with
 | .str y=>y.length≤sizeLine∧Q (.str y) S
 | .int i=>i.natAbs.log2 < 1920∧Q (.str (toString i)) S
 | _=>False
structure HEqOwn (B:Bs) (k c:Nat) (sp:HSp):Prop where
 ex:∃ f,PySem.W.findIn B.K (.ref (cad B.K c)) "__eq__" = some (some (.ref f))∧PySem.W.isFn B.K (.ref f)=true∧FnAt B k f 2 [] sp
 cl:Cls B.K (cad B.K c)
def C5:Sto→D→Bool
 | _,.non=>true
 | _,.bl _=>true
 | _,.int _=>true
 | _,.str _=>true
 | _,.tup _=>true
 | _,.lst _=>true
 | _,_=>false
def u9 (c:Nat) (sp:HSp) (to tb:HTE):HTE:=fun env S Q E=>to env S (fun x S1=>tb env S1 (fun y S2=>match isC c S2 x && (isC c S2 y || C5 S2 y) with
 | true=>sp [x,y] S2 (fun r S3=>match r with
   | .bl _=>Q r S3
   | _=>False) (fun _ _=>False)
 | false=>False) E) E
end
section
variable {B:Bs} {e a b o:Expr} {es:List Expr} {ta tb te to:HTE} {tr:HTA} {x m:Str} {p pos apos:Pos} {k n:Nat} {dds:List D} {sp:HSp}
theorem E4 {K:PySem.W.Frag} {H:Hp} {a:Addr} {vs:List V} (h:SqT K H a vs):TyX K H (.ref a) (.type "tuple"):=by
 rcases h with (h | ⟨o,h⟩) | ⟨o,its,n,hk,hc,_⟩
 ·exact .base (.tup h)
 ·exact .fTuple h
 ·exact .kTuple hk hc
theorem hty {T:String} (gn:Gn B x) (hm:B.mg x=none) (hv:bootBuiltins x=some (.type T)) (hn:x ≠ "__name__" := by decide) (hdb:(x == ("__debug__" : Str))=false:=by decide):HE B (.Name x pos) (hC (.ty T)) :=
 ⟨fun X W ok tk=>PE.imp (pe_bltn (v:=.ty T) (ok.gl gn) (by rw [ok.em]; exact hm) hv rfl hn hdb) fun σ H Q ⟨G,F,S,env,Q0,E0,rn,wd,h,hq,he⟩=>hq (.ty T) _ F S H Le.rfl' wd rfl h⟩
def Gw:Nat→String
 | 0 => "NoneType"
 | 1 => "bool"
 | 2 => "int"
 | 3 => "str"
 | 4 => "tuple"
 | 5 => "list"
 | _ => "dict"
def tag (S:Sto):D→Option Nat
 | .non=>some 0
 | .bl _=>some 1
 | .int _=>some 2
 | .str _=>some 3
 | .tup _=>some 4
 | .lst _=>some 5
 | .ref q=>match S q with
   | some (.lst _)=>some 5
   | some (.dct _)=>some 6
   | _=>none
 | _=>none
theorem E5 {K:PySem.W.Frag} {G F:Hp} {S:Sto} {H:Hp} {d:D} {v:V} {i:Nat} (w:Wd K G F S H) (r:Rep K F d v) (h:tag S d=some i):TyX K H v (.type (Gw i)):=by
 cases d with
 | non=>cases h; cases r; exact .base .non
 | bl _=>cases h; cases r; exact .base (.bl _)
 | int _=>cases h; cases r; exact .base (.int _)
 | str _=>cases h; cases r; exact .base (.str _)
 | tup _ =>
   cases h
   obtain ⟨a,vs,rfl,hs,_⟩:=r
   exact E4 (SqT.le w.fr hs)
 | lst _ =>
   cases h
   obtain ⟨a,vs,rfl,hs,_⟩:=r
   exact .base (.lst (w.fr _ _ hs))
 | ref q =>
   obtain rfl:v = .ref q:=r
   simp only [tag] at h
   split at h
   ·rename_i e
    cases h
    obtain ⟨vs,h1,_⟩:=io w e
    exact .base (.lst h1)
   ·rename_i e
    cases h
    obtain ⟨vs,h1,_⟩:=pW w e
    exact .base (.dK h1)
   ·cases h
 | _=>cases h
structure IsT (T:String) (ans:Nat→Bool):Prop where
 ok:∀ (K:PySem.W.Frag) (i:Nat),PySem.W.kitOne K (.type (Gw i)) (.type T)=some (ans i)
theorem Bv {T:String} {ans:Nat→Bool} (h0:kitB "NoneType" T=some (ans 0)) (h1:kitB "bool" T=some (ans 1)) (h2:kitB "int" T=some (ans 2)) (h3:kitB "str" T=some (ans 3)) (h4:kitB "tuple" T=some (ans 4)) (h5:kitB "list" T=some (ans 5))
 (h6:kitB "dict" T=some (ans 6)) (hc:∀ i,6≤i→ans i=ans 6):IsT T ans:=⟨fun K i=>match i with
 | 0=>kit_ty h0
 | 1=>kit_ty h1
 | 2=>kit_ty h2
 | 3=>kit_ty h3
 | 4=>kit_ty h4
 | 5=>kit_ty h5
 | i + 6=>by rw [hc (i + 6) (by omega)]; exact kit_ty h6⟩
def yX:Nat→Bool
 | 5=>true
 | _=>false
def j9:Nat→Bool
 | 3=>true
 | _=>false
theorem Bw:IsT "list" yX:=Bv (by decide +kernel) (by decide +kernel) (by decide +kernel) (by decide +kernel) (by decide +kernel) (by decide +kernel) (by decide +kernel) (fun i h=>by
 obtain ⟨j,rfl⟩:∃ j,i=j + 6:=⟨i - 6,by omega⟩
 rfl)
theorem s7:IsT "str" j9:=Bv (by decide +kernel) (by decide +kernel) (by decide +kernel) (by decide +kernel) (by decide +kernel) (by decide +kernel) (by decide +kernel) (fun i h=>by
 obtain ⟨j,rfl⟩:∃ j,i=j + 6:=⟨i - 6,by omega⟩
 rfl)
def gR (ans:Nat→Bool):G1:=fun x S Q=>match tag S x with
 | some i=>Q (.bl (ans i)) S
 | none=>False
theorem Gx {T:String} {ans:Nat→Bool} (I:IsT T ans) (gi:Gn B "isinstance") (mi:B.mg "isinstance" = none) {xt:Str} (gn:Gn B xt) (hm:B.mg xt=none) (hv:bootBuiltins xt=some (.type T)) {p2:Pos} (h:HE B e te) (hn:xt ≠ "__name__" := by decide) (hdb:(xt == ("__debug__" : Str))=false:=by decide)
 (he:∀ env,starEach [e,.Name xt p2] env=(false,eval e env) :: starEach [.Name xt p2] env:=by intro _; rfl) :
 HE B (.Call (.Name "isinstance" p) [e,.Name xt p2] [] pos) (hun (gR ans) te) :=
 ⟨fun X W ok tk=>PE.imp (pe_callB (call_isi (X:=X)) (ok.gl gi) (by rw [ok.em]; exact mi) (by decide +kernel) (pa_cons (h.run X W ok tk) (pa_cons (pe_bltn (v:=.ty T) (ok.gl gn) (by rw [ok.em]; exact hm) hv rfl hn hdb) pa_nil) (he _)) (by decide) (by decide) (he _) rfl)
  fun σ H Q ⟨G,F,S,env,Q0,E0,rn,wd,h,hq,hE⟩=>⟨G,F,S,env,_,E0,rn,wd,h,fun d v F1 S1 H1 l1 w1 r1 h1=>by
   dsimp only [gR] at h1
   split at h1
   ·rename_i i ei
    exact ⟨v,.ty T,_,.type T,ans i,rfl,.ty _,by rw [ok.eK]; exact E5 w1 r1 ei,I.ok _ _,hq (.bl _) _ F1 S1 H1 l1 w1 rfl h1⟩
   ·exact h1.elim,hE⟩⟩
end
section
variable {B:Bs} {e a b o i:Expr} {es rest:List Expr} {ta tb te to ti:HTE} {tr:HTA} {x:Str} {p pos apos:Pos}
def iH:D→Sto→(Bool→Sto→Prop)→Prop:=fun x S Q=>match x with
 | .non=>Q false S
 | .bl b=>Q b S
 | .int i=>Q (i != 0) S
 | .str y=>y.length≤16777216∧Q ((y.length:Int) != 0) S
 | .ref q=>match S q with
   | some (.lst ds)=>Q (!ds.isEmpty) S
   | some (.dct kvs)=>Q (!kvs.isEmpty) S
   | _=>False
 | .tup ds=>Q (!ds.isEmpty) S
 | .lst ds=>Q (!ds.isEmpty) S
 | .rls ds=>Q (!ds.isEmpty) S
 | _=>False
theorem mC {K:PySem.W.Frag} {F:Hp} {ds:List D} {vs:List V} (r:Reps K F ds vs):vs.isEmpty=ds.isEmpty:=by
 cases ds with
 | nil=>cases r; rfl
 | cons d ds=>obtain ⟨v,ws,rfl,_⟩:=r; rfl
theorem s8 {K:PySem.W.Frag} {G F:Hp} {S:Sto} {H:Hp} {d:D} {v:V} {Q0:Bool→Sto→Prop} (w:Wd K G F S H) (r:Rep K F d v) (h:iH d S Q0):∃ k,TruV K v H k∧Q0 k S:=by
 cases d with
 | non=>cases r; exact ⟨_,rfl,h⟩
 | bl b=>cases r; exact ⟨_,rfl,h⟩
 | int i=>cases r; exact ⟨_,rfl,h⟩
 | str y=>cases r; exact ⟨_,⟨fi h.1,rfl⟩,h.2⟩
 | ref q =>
   obtain rfl:v = .ref q:=r
   unfold iH at h
   dsimp only at h
   split at h
   ·rename_i ds e
    obtain ⟨vs,h1,h2,_⟩:=io w e
    exact ⟨_,.inl ⟨vs,SqL.of h1,rfl⟩,by rw [mC h2]; exact h⟩
   ·rename_i kvs e
    obtain ⟨vs,h1,h2⟩:=pW w e
    refine ⟨_,.inr (.inr ⟨_,h1,rfl⟩),?_⟩
    have hl:=my h2
    have:((kvs.map (·.1)).zip vs).isEmpty=kvs.isEmpty:=by
     cases kvs with
     | nil=>rfl
     | cons kv kvs =>
       cases e3:((kv :: kvs).map (·.1)).zip vs with
       | nil=>rw [e3] at hl; cases hl
       | cons _ _=>rfl
    rw [this]; exact h
   ·exact h.elim
 | tup ds =>
   obtain ⟨a,vs,rfl,hs,rs,_⟩:=r
   exact ⟨_,.inr (.inl ⟨vs,SqT.le w.fr hs,rfl⟩),by rw [mC rs]; exact h⟩
 | lst ds =>
   obtain ⟨a,vs,rfl,hs,rs,_⟩:=r
   exact ⟨_,.inl ⟨vs,SqL.of (w.fr _ _ hs),rfl⟩,by rw [mC rs]; exact h⟩
 | rls ds =>
   obtain ⟨a,vs,rfl,hs,rs,_⟩:=r
   exact ⟨_,.inl ⟨vs,SqL.le w.fr hs,rfl⟩,by rw [mC rs]; exact h⟩
 | _=>exact h.elim
def hTr (t:HTE):HTT:=fun env S Q E=>t env S (fun x S1=>iH x S1 Q) E
theorem htr (h:HE B a ta) (he:∀ env whole,isTrue a env whole=(do let v ← whole; standAt a.pos; holding [v] (truthy v)):=by intro _ _; rfl):HT B a (hTr ta) :=
 ⟨fun X W ok tk=>PT.imp (pt_truth (h.run X W ok tk) (he _)) fun σ H Q ⟨G,F,S,env,Q0,E0,rn,wd,h,hq,hE⟩ =>
  ⟨G,F,S,env,_,E0,rn,wd,h,fun d v F1 S1 H1 l1 w1 r1 h1=>by
   obtain ⟨k,t,q⟩:=s8 w1 r1 h1
   exact ⟨k,by rw [ok.eK]; exact t,hq k F1 S1 H1 l1 w1 q⟩,hE⟩⟩
def k7 (ta tb:HTE):HTE:=fun env S Q E=>ta env S (fun x S1=>iH x S1 fun b S2=>match b with
 | true=>Q x S2
 | false=>tb env S2 Q E) E
theorem Bx {d:D} {S:Sto} {Q:Bool→Sto→Prop} (h:iH d S Q):iH d S fun b S2=>S2=S∧Q b S:=by
 cases d with
 | ref q =>
   unfold iH at h ⊢
   dsimp only at h ⊢
   split at h
   ·exact ⟨rfl,h⟩
   ·exact ⟨rfl,h⟩
   ·exact h.elim
 | str y=>exact ⟨h.1,rfl,h.2⟩
 | obj _ _=>exact h.elim
 | exc _ _=>exact h.elim
 | ty _=>exact h.elim
 | tpx _=>exact h.elim
 | tps _=>exact h.elim
 | dtz _ _=>exact h.elim
 | dkz _ _=>exact h.elim
 | _=>exact ⟨rfl,h⟩
theorem Gy (ha:HE B a ta) (hb:HE B (.BoolOp .Or (b :: rest) pos) tb):HE B (.BoolOp .Or (a :: b :: rest) pos) (k7 ta tb) :=
 ⟨fun X W ok tk=>PE.imp (pe_orT (ha.run X W ok tk) (hb.run X W ok tk)) fun σ H Q ⟨G,F,S,env,Q0,E0,rn,wd,h,hq,hE⟩ =>
  ⟨G,F,S,env,_,E0,rn,wd,h,fun d v F1 S1 H1 l1 w1 r1 h1=>by
   obtain ⟨k,t,q⟩:=s8 w1 r1 (Bx h1)
   refine ⟨k,by rw [ok.eK]; exact t,?_⟩
   obtain ⟨_,q⟩:=q
   cases k with
   | true=>rw [if_pos rfl]; exact hq d v F1 S1 H1 l1 w1 r1 q
   | false=>rw [if_neg Bool.false_ne_true]; exact ⟨G,F1,S1,env,Q0,E0,rn.le l1,w1,q,hq.le l1,hE.le l1⟩,hE⟩⟩
def gc (ta tb:HTE):HTE:=fun env S Q E=>ta env S (fun x S1=>iH x S1 fun b S2=>match b with
 | true=>tb env S2 Q E
 | false=>Q x S2) E
theorem vb (ha:HE B a ta) (hb:HE B (.BoolOp .And (b :: rest) pos) tb):HE B (.BoolOp .And (a :: b :: rest) pos) (gc ta tb) :=
 ⟨fun X W ok tk=>PE.imp (pe_andT (ha.run X W ok tk) (hb.run X W ok tk)) fun σ H Q ⟨G,F,S,env,Q0,E0,rn,wd,h,hq,hE⟩ =>
  ⟨G,F,S,env,_,E0,rn,wd,h,fun d v F1 S1 H1 l1 w1 r1 h1=>by
   obtain ⟨k,t,q⟩:=s8 w1 r1 (Bx h1)
   refine ⟨k,by rw [ok.eK]; exact t,?_⟩
   obtain ⟨_,q⟩:=q
   cases k with
   | false=>rw [if_neg Bool.false_ne_true]; exact hq d v F1 S1 H1 l1 w1 r1 q
   | true=>rw [if_pos rfl]; exact ⟨G,F1,S1,env,Q0,E0,rn.le l1,w1,q,hq.le l1,hE.le l1⟩,hE⟩⟩
def ot (ta:HTE):HTE:=fun env S Q E=>ta env S (fun x S1=>iH x S1 fun b S2=>Q (.bl (!b)) S2) E
def vc (x y z:D) (S:Sto) (Q:Sto→Prop):Prop:=match x,y with
 | .ref q,.int k=>match S q with
   | some (.lst ds)=>match ixN ds.length k with
     | some j=>Q (up S q (.lst (ds.set j z)))
     | none=>False
   | _=>False
 | _,_=>False
theorem By {K:PySem.W.Frag} {G F:Hp} {S:Sto} {H:Hp} {x y z:D} {v u t:V} {Q0:Sto→Prop} (w:Wd K G F S H) (rx:Rep K F x v) (ry:Rep K F y u) (rz:Rep K F z t) (h:vc x y z S Q0) {Q:Hp→Prop} (hq:∀ S' H',Wd K G F S' H'→Q0 S'→Q H'):rSetL v u t H Q:=by
 unfold vc at h
 split at h
 ·rename_i q k
  obtain rfl:v = .ref q:=rx
  obtain rfl:u = .int k:=ry
  split at h
  ·rename_i ds e
   split at h
   ·rename_i j ej
    obtain ⟨vs,h1,h2,h3⟩:=io w e
    exact ⟨q,vs,k,j,rfl,rfl,h1,by rw [h2.len]; exact ej,hq _ _ (w.put (m:=.lst (ds.set j z)) e ⟨_,rfl,h2.set j rz,by rw [List.length_set]; exact h3⟩) h⟩
   ·exact h.elim
  ·exact h.elim
 ·exact h.elim
def fT (to ti te:HTE):HTS:=fun D env S=>te env S (fun z S1=>to env S1 (fun x S2=>ti env S2 (fun y S3=>vc x y z S3 fun S4=>D.nx env S4) fun x S3=>D.ex x env S3) fun x S2=>D.ex x env S2) fun x S1=>D.ex x env S1
theorem r0 {pos':Pos} (ho:HE B o to) (hi:HE B i ti) (h:HE B e te) (hs:∀ env,swapsWithSole [.Subscript o i pos'] e pos.line env=pure false:=by intro _; rfl) (hw:∀ env,swappedStores [.Subscript o i pos'] e env=pure none:=by intro _; rfl)
 (h1:∀ env,(assignEach [.Subscript o i pos'] env).map (·.2)=[assign (.Subscript o i pos') env]:=by intro _; rfl)
 (ha:∀ env v,assign (.Subscript o i pos') env v=(do
  let ov ← holding [v] (eval o env)
  let iv ← holding [v,ov] (eval i env)
  standAt pos'
  holding [v,ov,iv] (setItem ov iv v)
  release [v,ov,iv] []):=by intro _ _; rfl):HS B (.Assign [.Subscript o i pos'] e pos) (fT to ti te) :=
 ⟨fun X W ok tk=>PS.imp (ps_asg (h.run X W ok tk) (pg_sub (ho.run X W ok tk) (hi.run X W ok tk) set_list (ha _)) (hs _) (hw _) (h1 _)) fun D σ H ⟨G,F,S,env,E,rn,wd,h,oo⟩ =>
  ⟨G,F,S,env,_,_,rn,wd,h,fun z t F1 S1 H1 l1 w1 r1 h1 =>
   ⟨G,F1,S1,env,_,_,rn.le l1,w1,h1,fun x v F2 S2 H2 l2 w2 r2 h2 =>
    ⟨G,F2,S2,env,_,_,rn.le (l1.trans l2),w2,h2,fun y u F3 S3 H3 l3 w3 r3 h3 =>
     By w3 (r2.le l3) r3 (r1.le (l2.trans l3)) h3 fun S' H' w' q=>oo.nx env σ F3 S' H' (l1.trans (l2.trans l3)) w' (rn.le (l1.trans (l2.trans l3))) q,(oo.le (l1.trans l2)).exc (rn.le (l1.trans l2))⟩,(oo.le l1).exc (rn.le l1)⟩,oo.exc rn⟩⟩
theorem hgi {n:Int} (gn:Gn B x) (hm:∃ t,B.mg x=some (.int n t)) (hdb:(x == ("__debug__" : Str))=false:=by decide):HE B (.Name x pos) (hC (.int n)) :=
 ⟨fun X W ok tk=>by
  obtain ⟨t,hm⟩:=hm
  exact PE.imp (pe_glob (v:=.int n) (ok.gl gn) (by rw [ok.em]; exact hm) ⟨t,rfl⟩ hdb) fun σ H Q ⟨G,F,S,env,Q0,E0,rn,wd,h,hq,he⟩=>hq (.int n) _ F S H Le.rfl' wd rfl h⟩
theorem hgs {z:Str} (gn:Gn B x) (hm:∃ t,B.mg x=some (.str z t)) (hdb:(x == ("__debug__" : Str))=false:=by decide):HE B (.Name x pos) (hC (.str z)) :=
 ⟨fun X W ok tk=>by
  obtain ⟨t,hm⟩:=hm
  exact PE.imp (pe_glob (v:=.str z) (ok.gl gn) (by rw [ok.em]; exact hm) ⟨t,rfl⟩ hdb) fun σ H Q ⟨G,F,S,env,Q0,E0,rn,wd,h,hq,he⟩=>hq (.str z) _ F S H Le.rfl' wd rfl h⟩
theorem mD {ds:List D} (gn:Gn B x) (hm:B.mg x=some (.ref (He.ga B.K x))) (hr:∀ F,Rep B.K F (.tup ds) (.ref (He.ga B.K x))) (hdb:(x == ("__debug__" : Str))=false:=by decide):HE B (.Name x pos) (hC (.tup ds)) :=
 ⟨fun X W ok tk=>by
  exact PE.imp (pe_glob (v:=.ref (He.ga B.K x)) (ok.gl gn) (by rw [ok.em]; exact hm) rfl hdb) fun σ H Q ⟨G,F,S,env,Q0,E0,rn,wd,h,hq,he⟩=>hq (.tup ds) _ F S H Le.rfl' wd (hr F) h⟩
end
theorem Wd.endS {K:PySem.W.Frag} {G F:Hp} {S:Sto} {H:Hp} {p:Addr} {o:HO} {m:M} (W:Wd K (upd G p o) F S H) (hG:G p=none) (r:RepM K F m o):Wd K G F (up S p m) H∧S p=none:=by
 obtain ⟨hH,hF,hS⟩:=W.gr p o upd_same
 refine ⟨⟨fun a u e=>?_,W.fr,fun a n e=>?_,fun a n e=>?_,fun a xs e=>W.gt a xs (by rw [upd_ne (ne_of_none e hG)]; exact e),W.tb.to Le.rfl' fun a ps e1 e2 e3 e4=>by
  have ha:a ≠ p:=fun z=>by subst z; rw [upd_same] at e2; cases e2
  rw [upd_ne ha] at e2
  simp only [upd_ne ha,ar ha,e2,e3,e4,and_self]⟩,hS⟩
 ·have ha:=ne_of_none e hG
  obtain ⟨h1,h2,h3⟩:=W.gr a u (by rw [upd_ne ha]; exact e)
  exact ⟨h1,h2,by rw [ar ha]; exact h3⟩
 ·by_cases ha:a=p
  ·subst ha; rw [ai] at e; cases e; exact ⟨o,hH,r⟩
  ·rw [ar ha] at e; exact W.st a n e
 ·by_cases ha:a=p
  ·subst ha; exact hF
  ·rw [ar ha] at e; exact W.dj a n e
section
variable {B:Bs} {e elt tg iter c:Expr} {ifs:List Expr} {te:HTE} {tc:HTT} {ti:HTI} {p:Pt} {pos:Pos} {scope:Scope}
def xE (p:Pt) (tt:HTT) (te:HTE) (k:Ck):List D→List D→aW→Sto→HK→Prop
 | [],acc,env,S,Q=>chk k S (∀ q,S q=none→Q (.ref q) (up S q (.lst acc)))
 | d :: ds,acc,env,S,Q=>chk k S (match bu p d env with
   | some env1=>tt env1 S (fun b S1=>match b with
     | true=>te env1 S1 (fun y S2=>xE p tt te k ds (acc ++ [y]) env S2 Q) fun _ _=>False
     | false=>xE p tt te k ds acc env S1 Q) fun _ _=>False
   | none=>False)
def vd (ti:HTI) (p:Pt) (tt:HTT) (te:HTE) (vs:List Nat):HTE:=fun env S Q E=>ti env S (fun ds k S1=>xE p tt te k ds [] (cN env vs) S1 Q) E
end
section
variable {prog:Program} {w:World} {A:Around} {E:Value→Shared→Prop} {s:Shared}
end
section
variable {X:Cx} {B:Bs} {a:Expr} {ta:HTE} {pos:Pos}
end
section
variable {B:Bs} {k k' n c:Nat} {N:List Str} {sc:Scope} {top:Bool} {own:Str→Bool} {x m:Str} {dds:List D} {sp:HSp}
theorem HFn.in_ (h:HFn B k x n dds sp):HFn ⟨B.P,B.w,B.K,B.mg,B.base,k',N,sc,top,own⟩ k x n dds sp:=⟨h.mg,h.kp,⟨h.at_.ex⟩⟩
theorem HFn.mono {j:Nat} (h:HFn B j x n dds sp) (l:j≤k):HFn B k x n dds sp:=⟨h.mg,h.kp,h.at_.mono l⟩
theorem HMeth.in_ (h:HMeth B k c m n dds sp):HMeth ⟨B.P,B.w,B.K,B.mg,B.base,k',N,sc,top,own⟩ k c m n dds sp:=⟨h.cl,let ⟨f,a,b⟩:=h.me; ⟨f,a,⟨b.ex⟩⟩,h.no⟩
theorem HMeth.mono {j:Nat} (h:HMeth B j c m n dds sp) (l:j≤k):HMeth B k c m n dds sp:=⟨h.cl,let ⟨f,a,b⟩:=h.me; ⟨f,a,b.mono l⟩,h.no⟩
theorem HMake.in_ (h:HMake B k c n dds sp):HMake ⟨B.P,B.w,B.K,B.mg,B.base,k',N,sc,top,own⟩ k c n dds sp:=⟨h.mg,let ⟨f,a,b⟩:=h.mkr; ⟨f,a,⟨b.ex⟩⟩⟩
theorem HMake.mono {j:Nat} (h:HMake B j c n dds sp) (l:j≤k):HMake B k c n dds sp:=⟨h.mg,let ⟨f,a,b⟩:=h.mkr; ⟨f,a,b.mono l⟩⟩
theorem HEqOwn.in_ (h:HEqOwn B k c sp):HEqOwn ⟨B.P,B.w,B.K,B.mg,B.base,k',N,sc,top,own⟩ k c sp:=⟨let ⟨f,a,b,d⟩:=h.ex; ⟨f,a,b,⟨d.ex⟩⟩,h.cl⟩
theorem HEqOwn.mono {j:Nat} (h:HEqOwn B j c sp) (l:j≤k):HEqOwn B k c sp:=⟨let ⟨f,a,b,d⟩:=h.ex; ⟨f,a,b,d.mono l⟩,h.cl⟩
end
theorem cO {B:Bs} {x qual:Str} {params:Arguments} {body:List Stmt} {scope:Scope} {dv0 dvs:List V} {f:Addr} {fd:FuncData} {N ps:List Str} {k:Nat} {sp:HSp} {t:HTS} {dds:List D}
 (F:FunD B.K x qual params body scope dv0 [] f fd) (hb:∃ ds,Vals dvs ds∧Binds B.K fd ps ds) (hd:∀ F,Reps B.K F dds dvs) (S:FnScope N ps scope) (hbody:HSs { B with k:=k,N:=N,sc:=scope,top:=true,own:=fun _=>true } body t)
 (hr:∀ ds S Q E,ds.length=ps.length→sp ds S Q E→t { nx:=fun _ S'=>Rt Q .non S',rt:=Rt Q,ex:=fun x _ S'=>Rx E x S' } (ao N.length ds) S):FnAt B (k + 1) f ps.length dds sp:=by
 obtain ⟨ds,hv,hb⟩:=hb
 refine ⟨fd,ps,ds,dvs,rfl,hb,hv,hd,F.ok S (fun vs H Q E h=>h.1) fun cdv A outer s H vs Q E hroom h=>?_⟩
 obtain ⟨hn,G,F0,S0,es,Q0,E0,rs,wd,hsp,hq,he⟩:=h
 refine ⟨_,hbody.run _ (fun cls d _ H=>E cls d H) ⟨rfl,rfl,rfl,rfl,rfl,rfl,rfl,S.nd,rfl,hroom,fun _ _ _=>rfl,passes_of rfl,fun _=>⟨rfl,rfl,rfl⟩⟩ (takes_of rfl rfl rfl rfl),?_⟩
 refine ⟨G,F0,S0,ao N.length es,_,ni rs,wd,hr es S0 Q0 E0 (by rw [← rs.len]; exact hn) hsp,⟨fun env σ F' S' H' l w rn ⟨d',S2,vw,q⟩=>?_,Rt.ok hq,fun _ _ _ _ _ _ _ _ h=>h.elim,fun _ _ _ _ _ _ _ _ h=>h.elim,fun x cls dd env σ F' S' H' l w rn r h=>Rx.ok he x cls dd F' S' H' l w r h⟩⟩
 obtain ⟨F2,l2,w2,r2⟩:=vw B.K G F' H' .non w rfl
 exact hq d' .non F2 S2 H' (l.trans l2) w2 r2 q
theorem bc {K:PySem.W.Frag} {fd:FuncData} {ps:List Str} (h:Binds K fd ps []):∃ ds,Vals ([]:List V) ds∧Binds K fd ps ds:=⟨[],.nil,h⟩
theorem cP {K:PySem.W.Frag}:∀ F,Reps K F [] ([]:List V):=fun _=>rfl
abbrev Pr:Type:=PySem.W.Frag→Bool
structure Book where
 fa:List He.Fa
 fn:List He.DefD
 ex:List Pr
 fp:List He5.DefA:=[]
def Book.fine (b:Book) (K:PySem.W.Frag):Bool:=(b.fa.all fun f=>f.ok K) && ((b.fn.all fun d=>d.ok K) && ((b.ex.all fun g=>g K) && b.fp.all fun d=>d.ok K))
def Book.seen (b:Book) (K:PySem.W.Frag):He.AlD:=(b.fine K,(b.fn.map fun d=>He.fnW K d.at_) ++ b.fp.map fun d=>He5.fnA K (d.at_ K))
def Book.due (b:Book):He.AlD:=(true,b.fn.map He.DefD.val ++ b.fp.map He5.DefA.val)
def Book.look (b:Book) (n:Nat) (g:Addr→Option Obj):He.AlD:=b.seen (He.frG g (cStatics :: He.asD g n))
section
variable {b:Book} {K:PySem.W.Frag}
theorem Book.parts (c:b.seen K=b.due):(∀ f ∈ b.fa,f.ok K=true)∧(∀ d ∈ b.fn,d.ok K=true∧He.fnW K d.at_=d.val)∧(∀ g ∈ b.ex,g K=true)∧∀ d ∈ b.fp,d.ok K=true∧He5.fnA K (d.at_ K)=d.val:=by
 have c1:b.fine K=true:=congrArg (fun z:He.AlD=>z.1) c
 have c2:(b.fn.map fun d=>He.fnW K d.at_) ++ (b.fp.map fun d=>He5.fnA K (d.at_ K))=b.fn.map He.DefD.val ++ b.fp.map He5.DefA.val:=congrArg (fun z:He.AlD=>z.2) c
 obtain ⟨c3,c4⟩:=List.append_inj c2 (by rw [List.length_map,List.length_map])
 unfold Book.fine at c1
 rw [Bool.and_eq_true,Bool.and_eq_true,Bool.and_eq_true] at c1
 obtain ⟨p,q,r,t⟩:=c1
 refine ⟨List.all_eq_true.mp p,fun d hd=>⟨List.all_eq_true.mp q d hd,?_⟩,List.all_eq_true.mp r,fun d hd=>⟨List.all_eq_true.mp t d hd,?_⟩⟩
 ·obtain ⟨i,hi⟩:=List.mem_iff_getElem?.mp hd
  have e:(b.fn.map fun d=>He.fnW K d.at_)[i]? = (b.fn.map He.DefD.val)[i]?:=by rw [c3]
  rw [List.getElem?_map,List.getElem?_map,hi] at e
  exact Option.some.inj e
 ·obtain ⟨i,hi⟩:=List.mem_iff_getElem?.mp hd
  have e:(b.fp.map fun d=>He5.fnA K (d.at_ K))[i]? = (b.fp.map He5.DefA.val)[i]?:=by rw [c4]
  rw [List.getElem?_map,List.getElem?_map,hi] at e
  exact Option.some.inj e
theorem Book.fact (c:b.seen K=b.due) (i:Nat) {f:He.Fa} (h:b.fa[i]? = some f:=by rfl):f.ok K=true:=(Book.parts c).1 f (List.mem_of_getElem? h)
theorem Book.more (c:b.seen K=b.due) (i:Nat) {g:Pr} (h:b.ex[i]? = some g:=by rfl):g K=true:=(Book.parts c).2.2.1 g (List.mem_of_getElem? h)
theorem Book.def_ (c:b.seen K=b.due) (i:Nat) {d:He.DefD} (h:b.fn[i]? = some d:=by rfl):∃ fd,FunD K d.name d.qual d.params d.body d.scope (d.dvs K) (d.kws K) (He.fAd K d.at_) fd:=by
 obtain ⟨a,e⟩:=(Book.parts c).2.1 d (List.mem_of_getElem? h)
 exact He.DefD.funD e a
end
def CXe:CXT:=fun _ _ _ E _ _=>∃ cls d H',E cls d H'
def spScr (K:PySem.W.Frag):Sp:=fun vs H Q _=>∃ (a:Addr) (ns:List Int),vs=[.ref a]∧ns.length≤63∧SqL K H a (ns.map V.int)∧(∀ p ∈ tabs,H p.1=some (.tbl #[]))∧∀ H',Q (.bl true) H'
def S0:Sto:=fun _=>none
def r8:HSp:=fun ds S Q _=>∃ ns:List Int,ns.length≤63∧ds=[.rls (ns.map D.int)]∧S=S0∧∀ S',Q (.bl true) S'
theorem kP {K:PySem.W.Frag} {F:Hp}:∀ ns:List Int,Reps K F (ns.map D.int) (ns.map V.int)
 | []=>rfl
 | n :: ns=>⟨_,_,rfl,rfl,kP ns⟩
def F0t (H:Hp):Hp:=fun b=>if b ∈ tabs.map (·.1) then none else H b
theorem E6 (H:Hp):Le (F0t H) H:=fun b o e=>by
 unfold F0t at e
 by_cases h:b ∈ tabs.map (·.1)
 ·rw [if_pos h] at e; cases e
 ·rw [if_neg h] at e; exact e
theorem s9 {H:Hp} {b:Addr} {o:HO} (ht:∀ p ∈ tabs,H p.1=some (.tbl #[])) (hn:o ≠ .tbl #[]) (e:H b=some o):F0t H b=some o:=by
 unfold F0t
 by_cases h:b ∈ tabs.map (·.1)
 ·obtain ⟨p,hp,rfl⟩:=List.mem_map.mp h
  rw [ht p hp] at e
  exact absurd (Option.some.inj e).symm hn
 ·rw [if_neg h]; exact e
theorem E7 {K:PySem.W.Frag} {H:Hp} {a:Addr} {vs:List V} (ht:∀ p ∈ tabs,H p.1=some (.tbl #[])) (h:SqL K H a vs):SqL K (F0t H) a vs:=by
 rcases h with h | h
 ·first
   | exact .inl (s9 ht (fun z=>nomatch z) h)
   | (obtain ⟨o,h⟩:=h; exact .inl ⟨o,s9 ht (fun z=>nomatch z) h⟩)
   | (rcases h with h | ⟨o,h⟩
      ·exact .inl (.inl (s9 ht (fun z=>nomatch z) h))
      ·exact .inl (.inr ⟨o,s9 ht (fun z=>nomatch z) h⟩))
 ·exact .inr h
theorem E8 {H:Hp} (ht:∀ p ∈ tabs,H p.1=some (.tbl #[])):TabW (fun _=>none) (F0t H) S0 H:=fun p hp=>by
 refine ⟨rfl,?_,rfl,#[],ht p hp,True.intro,fun pos cv e=>?_⟩
 ·unfold F0t; exact if_pos (List.mem_map.mpr ⟨p,hp,rfl⟩)
 ·have z:codeAmong pos []=some cv:=e
  simp [codeAmong] at z
theorem Bz {K:PySem.W.Frag} {vs:List V} {H:Hp} {Q:VK} {E:XK} (h:spScr K vs H Q E):lSp K 1 r8 vs H (fun v _=>v = .bl true) (fun _ _ _=>False)∧∀ v H',v = .bl true→Q v H':=by
 obtain ⟨a,ns,rfl,hl,hs,ht,hq⟩:=h
 refine ⟨⟨rfl,fun _=>none,F0t H,S0,[.rls (ns.map D.int)],fun d _=>d = .bl true,fun _ _=>False,?_,?_,⟨ns,hl,rfl,rfl,fun _=>rfl⟩,?_,?_⟩,fun v H' e=>by rw [e]; exact hq H'⟩
 ·exact Reps.one ⟨a,_,rfl,E7 ht hs,kP ns,by rw [List.length_map]; exact Nat.le_trans hl (by decide)⟩
 ·exact ⟨fun _ _ e=>(nomatch e),E6 H,fun _ _ e=>(nomatch e),fun _ _ e=>(nomatch e),fun _ _ e=>(nomatch e),E8 ht⟩
 ·intro d v F' S' H' _ _ r e
  cases e
  exact r
 ·intro _ _ _ _ _ _ _ _ _ h
  exact h.elim
theorem law_ok {P:Program} {w:World} {K:PySem.W.Frag} {mg:Str→Option Value} {base:Heap} {k:Nat} {f:Addr} {fd:FuncData} {x:Str} (F:FnOk P w K mg base (CX P w) k f fd [x] (lSp K 1 r8)):FnOk P w K mg base CXe k f fd [x] (spScr K) :=
 ⟨fun vs H Q E ⟨a,ns,e,_⟩=>by rw [e]; rfl,fun A outer s H args us vs Q E hr he hb hv hs=>by
  obtain ⟨h1,h2⟩:=Bz hs
  refine codeAny_mono (F.run A outer s H args us vs _ _ hr he hb hv h1) fun r s' got=>?_
  cases r with
  | error e =>
    obtain ⟨_,_,_,_,_,_,_,_,_,_,_,_,z⟩:=got
    exact z.elim
  | ok fl =>
    cases fl with
    | ret u =>
      obtain ⟨v,H',a1,a2,a3,a4,a5,a6⟩:=got
      exact ⟨v,H',a1,a2,a3,a4,a5,h2 v H' a6⟩
    | _=>exact got.elim⟩
theorem Gz {B:Bs} {x qual:Str} {params:Arguments} {body:List Stmt} {scope:Scope} {dv0:List V} {f:Addr} {fd:FuncData} {N ps:List Str} {k:Nat} {sp:HSp} {t:HTS}
 (F:FunD B.K x qual params body scope dv0 [] f fd) (S:FnScope N ps scope) (hbody:HSs { B with k:=k,N:=N,sc:=scope,top:=true,own:=fun _=>true } body t)
 (hr:∀ ds S Q E,ds.length=ps.length→sp ds S Q E→t { nx:=fun _ S'=>Rt Q .non S',rt:=Rt Q,ex:=fun x _ S'=>Rx E x S' } (ao N.length ds) S):FnOk B.P B.w B.K B.mg B.base (CX B.P B.w) (k + 1) f fd ps (lSp B.K ps.length sp):=by
 refine F.ok S (fun vs H Q E h=>h.1) fun cdv A outer s H vs Q E hroom h=>?_
 obtain ⟨hn,G,F0,S0,es,Q0,E0,rs,wd,hsp,hq,he⟩:=h
 refine ⟨_,hbody.run _ (fun cls d _ H=>E cls d H) ⟨rfl,rfl,rfl,rfl,rfl,rfl,rfl,S.nd,rfl,hroom,fun _ _ _=>rfl,passes_of rfl,fun _=>⟨rfl,rfl,rfl⟩⟩ (takes_of rfl rfl rfl rfl),?_⟩
 refine ⟨G,F0,S0,ao N.length es,_,ni rs,wd,hr es S0 Q0 E0 (by rw [← rs.len]; exact hn) hsp,⟨fun env σ F' S' H' l w rn ⟨d',S2,vw,q⟩=>?_,Rt.ok hq,fun _ _ _ _ _ _ _ _ h=>h.elim,fun _ _ _ _ _ _ _ _ h=>h.elim,fun x cls dd env σ F' S' H' l w rn r h=>Rx.ok he x cls dd F' S' H' l w r h⟩⟩
 obtain ⟨F2,l2,w2,r2⟩:=vw B.K G F' H' .non w rfl
 exact hq d' .non F2 S2 H' (l.trans l2) w2 r2 q
theorem ka {B:Bs} {k n:Nat} {f:Addr} {fd:FuncData} {ps:List Str} {sp:HSp} (hn:ps.length=n) (hb:Binds B.K fd ps []) (h0:∀ ds S Q E,sp ds S Q E→False):FnAt B k f n [] sp :=
 ⟨fd,ps,[],[],hn,hb,.nil,fun _=>rfl,⟨fun _ _ _ _ ⟨_,_,_,_,ds,_,_,_,_,h,_⟩=>(h0 _ _ _ _ h).elim,fun _ _ _ _ _ _ _ _ _ _ _ _ _ ⟨_,_,_,_,ds,_,_,_,_,h,_⟩=>(h0 _ _ _ _ h).elim⟩⟩
abbrev hM:G1:=fun x S Q=>match x with
 | .int i=>Q (.int (-i)) S
 | _=>False
def sc00:Scope:={ kind:=.function,names:=[],isGenerator:=false,isCoroutine:=false,more:=[] }
section
variable {B:Bs} {e a b o:Expr} {es rest:List Expr} {ta tb te to:HTE} {x:Str} {p pos apos:Pos}
theorem tf {T:String} {ans:Nat→Bool} {xt:Str} {p2:Pos} (I:IsT T ans) (gi:Gn B "isinstance") (mi:B.mg "isinstance" = none) (gn:Gn B xt) (hm:B.mg xt=none) (hv:bootBuiltins xt=some (.type T)) (h:HE B e te) (hn:xt ≠ "__name__" := by decide) (hdb:(xt == ("__debug__" : Str))=false:=by decide)
 (he:∀ env,starEach [e,.Name xt p2] env=(false,eval e env) :: starEach [.Name xt p2] env:=by intro _; rfl) :
 HE B (.Call (.Name "isinstance" p) [e,.Name xt p2] [] pos) (hun (gR ans) te):=Gx I gi mi gn hm hv h hn hdb he
variable {i:Nat} {y:Str} {py pos' spos:Pos} {g:G2} {scope:Scope} {tg iter elt:Expr} {ifs:List Expr} {ti:HTI} {tc:HTT} {q:Pt}
theorem aP (h:HE B e te) (hN:B.N[i]? = some x:=by rfl) (hl:Own B x:=by first | exact Or.inl rfl | exact Or.inr ⟨rfl,rfl⟩) (hs:∀ env,swapsWith e (some (.Name x pos')) pos.line env=pure false:=by intro _; rfl):HS B (.Assign [.Name x pos'] e pos) (aK i te):=Hd i h hN hl hs
theorem BA (h:HE B e te) (hN:B.N[i]? = some x:=by rfl) (hl:Own B x:=by first | exact Or.inl rfl | exact Or.inr ⟨rfl,rfl⟩):HS B (.AugAssign (.Name x pos') .Add e pos) (nh i (gI0 fun i j=>.int (i + j)) te):=C1 i h hN hl
theorem oQ {vs:List Nat} (own:List (Str × Nat)) (hi:HI B tg iter ti) (ok:blkC B.N B.sc scope own=true) (hv:∀ j ∈ iN q,j ∈ own.map (·.2)) (hg:HP (B.blk scope) tg q) (ht:HTs (B.blk scope) ifs tc) (he:HE (B.blk scope) elt te) (hvs:own.map (·.2)=vs:=by rfl)
 (hs:∀ env x,foldedSetIterable iter env x=pure x:=by intro _ _; rfl):HE B (.ListComp elt [⟨tg,iter,ifs,0⟩] scope pos) (hLc ti q tc te vs):=by
 subst hvs; exact hlc own hi ok hv hg ht he hs
theorem yY {vs:List Nat} (own:List (Str × Nat)) (hi:HI B tg iter ti) (ok:blkC B.N B.sc scope own=true) (hv:∀ j ∈ iN q,j ∈ own.map (·.2)) (hg:HP (B.blk scope) tg q) (ht:HTs (B.blk scope) ifs tc) (he:HE (B.blk scope) elt te) (hvs:own.map (·.2)=vs:=by rfl)
 (hN:B.N[i]? = some y:=by rfl) (hyl:B.sc.names.lookup y=some .local:=by rfl) (hk:B.sc.kind = .function:=by rfl) (hl:(py.line == pos.line)=true:=by rfl) (ha:(scope.names.any fun (n,k)=>n == y && (k == .local || k == .cell))=false:=by decide +kernel)
 (hs:∀ env x,foldedSetIterable iter env x=pure x:=by intro _ _; rfl):HS B (.Assign [.Name y py] (.ListComp elt [⟨tg,iter,ifs,0⟩] scope pos) spos) (aK i (hLc ti q tc te vs)):=by
 subst hvs; exact EY i own hi ok hv hg ht he hN hyl hk hl ha hs
end
def sd:G2:=fun x y S Q=>match bF S x with
 | some xs=>match bF S y with
   | some ys=>xs.length + ys.length≤16777216∧∀ p,S p=none→Q (.ref p) (up S p (.lst (xs ++ ys)))
   | none=>False
 | none=>False
def E9:D→Bool
 | .rls _=>false
 | _=>true
theorem Em {K:PySem.W.Frag} {G F:Hp} {S:Sto} {H:Hp} {d:D} {v:V} {ds:List D} (w:Wd K G F S H) (r:Rep K F d v) (o:E9 d=true) (h:bF S d=some ds):∃ a vs,v = .ref a∧H a=some (.lst vs)∧Reps K F ds vs∧ds.length≤sizeLine:=by
 cases d with
 | lst es =>
   cases h
   obtain ⟨a,vs,rfl,q,rs,z⟩:=r
   exact ⟨a,vs,rfl,w.fr _ _ q,rs,z⟩
 | ref p =>
   obtain rfl:v = .ref p:=r
   unfold bF at h
   dsimp only at h
   split at h
   ·rename_i es e
    cases h
    obtain ⟨vs,h1,h2,h3⟩:=io w e
    exact ⟨p,vs,rfl,h1,h2,h3⟩
   ·cases h
 | rls _=>cases o
 | _=>cases h
def ou:G2:=fun x y S Q=>match E9 x && E9 y with
 | true=>sd x y S Q
 | false=>False
theorem BB {K:PySem.W.Frag}:im K ou rCat:=by
 intro G F S H d1 v1 d2 v2 Q0 Q w r1 r2 h hq
 unfold ou at h
 split at h
 ·rename_i o
  rw [Bool.and_eq_true] at o
  unfold sd at h
  split at h
  ·rename_i xs e1
   split at h
   ·rename_i ys e2
    obtain ⟨a,vs,rfl,ha,ra,za⟩:=Em w r1 o.1 e1
    obtain ⟨b,ws,rfl,hb,rb,zb⟩:=Em w r2 o.2 e2
    have z:(xs ++ ys).length≤sizeLine:=by rw [List.length_append]; exact fi h.1
    exact ⟨a,b,vs,ws,rfl,rfl,ha,hb,by rw [ra.len,rb.len]; exact fi h.1,(yP w (ra.append rb) z hq h.2).2⟩
   ·exact h.elim
  ·exact h.elim
 ·exact h.elim
section
variable {B:Bs} {a b:Expr} {ta tb:HTE} {pos:Pos}
theorem En (ha:HE B a ta) (hb:HE B b tb):HE B (.BinOp a .Add b pos) (hop ou ta tb):=uY (r:=fun _=>rCat) (fun X _=>op_cat) BB ha hb
end
def Fb (K:PySem.W.Frag) (C:Addr):Bool:=match K.lookup C with
 | some ⟨.type ty,_,.cls cd,sl⟩=>(match cd.mro,sl.toList with
   | .ref C' :: bm,[_,_,_,_,some (.builtin n),_]=>decide (ty = "type") && (decide (C'=C) && (decide (n = "ValueError.__new__") && (!cd.hasDel && (cd.hasDict && PySem.HandSPX.refsVE bm))))
   | _,_=>false)
 | _=>false
theorem C6 {K:PySem.W.Frag} {C:Addr} (h:Fb K C=true):∃ nm q N bs bm sn sub ab col dd k0 k1 k2 k3 k5,K.lookup C=some (excClassObj nm q C N bs bm true sn sub ab col dd k0 k1 k2 k3 k5 "ValueError.__new__")∧PySem.HandSPX.refsVE bm=true:=by
 unfold Fb at h
 split at h
 ·rename_i ty dd cd sl ho
  split at h
  ·rename_i C' bm k0 k1 k2 k3 n k5 hm hs
   simp only [Bool.and_eq_true,decide_eq_true_eq,Bool.not_eq_true'] at h
   obtain ⟨rfl,rfl,rfl,hdel,hd,hr⟩:=h
   obtain ⟨nm,bs,mro,ns,qn,hdd,sn,sub,ab,col,del⟩:=cd
   dsimp only at hm hdel hd
   subst hm hdel hd
   have e:sl = #[k0,k1,k2,k3,some (.builtin "ValueError.__new__"),k5]:=by
    obtain ⟨l⟩:=sl
    dsimp only at hs
    rw [hs]
   subst e
   exact ⟨_,_,_,_,_,_,_,_,_,_,_,_,_,_,_,ho,hr⟩
  ·cases h
 ·cases h
structure ExcOk (K:PySem.W.Frag) (c:Nat):Prop where
 ox:OexC K (cad K c)
 xf:XfC K (cad K c)
 cl:(PySem.W.clsIn K (cad K c)).isSome=true
 ha:PySem.W.findIn K (.ref (cad K c)) "__class__" = some (some (.builtin "object.__class__"))
 hn:PySem.W.specialIn K (.builtin "object.__class__") "__get__" = some (some (.builtin "getset_descriptor.__get__"))
 tk:PySem.W.takesIn K (.builtin "object.__class__")=some true
 hm:PySem.W.mroIn K (cad K c) (.type "object")=some true
 no:∀ f ∈ fw c,PySem.W.findIn K (.ref (cad K c)) f=some none
 few:(fw c).length≤900
 nd:(fw c).Nodup
def yZ (c:Nat):Pr:=fun K=>Fb K (cad K c) && (He.eqO (PySem.W.findIn K (.ref (cad K c)) "__setattr__") (some (some (.builtin "object.__setattr__"))) && (decide (PySem.W.subIn K (.ref (cad K c)) (.type "BaseException")=some true) && (decide (PySem.W.typeIn K (.ref (cad K c))=some (.type "type")) && (PySem.W.keepIn K (.ref (cad K c)) &&
 (xfB K (cad K c) && ((PySem.W.clsIn K (cad K c)).isSome && (He.eqO (PySem.W.findIn K (.ref (cad K c)) "__class__") (some (some (.builtin "object.__class__"))) && (He.eqO (PySem.W.specialIn K (.builtin "object.__class__") "__get__") (some (some (.builtin "getset_descriptor.__get__"))) &&
 (decide (PySem.W.takesIn K (.builtin "object.__class__")=some true) && (decide (PySem.W.mroIn K (cad K c) (.type "object")=some true) && (fw c).all fun f=>He.eqO (PySem.W.findIn K (.ref (cad K c)) f) (some none)))))))))))
theorem ve {K:PySem.W.Frag} {c:Nat} (h:yZ c K=true) (few:(fw c).length≤900) (nd:(fw c).Nodup):ExcOk K c:=by
 unfold yZ at h
 simp only [Bool.and_eq_true,decide_eq_true_eq,List.all_eq_true] at h
 obtain ⟨h1,h2,h3,h4,h5,h6,h7,h8,h9,h10,h11,h12⟩:=h
 exact ⟨⟨C6 h1,He.eqO_ok h2,h3,h4,h5⟩,xfB_ok h6,h7,He.eqO_ok h8,He.eqO_ok h9,h10,h11,fun f hf=>He.eqO_ok (h12 f hf),few,nd⟩
structure BaseOk (K:PySem.W.Frag) (c:Nat):Prop where
 sp:PySem.W.specialIn K (.ref (cad K c)) "__getattribute__" = some (some (.builtin "type.__getattribute__"))
 rd:PySem.W.readsIn K (cad K c) (.type "type")=true
 fc:PySem.W.findCls K (.ref (cad K c)) (.type "type") "__init__" = some (.val (.builtin "ValueError.__init__"))
def xF (c:Nat):Pr:=fun K=>He.eqO (PySem.W.specialIn K (.ref (cad K c)) "__getattribute__") (some (some (.builtin "type.__getattribute__"))) && (PySem.W.readsIn K (cad K c) (.type "type") && (match PySem.W.findCls K (.ref (cad K c)) (.type "type") "__init__" with
 | some (.val (.builtin n))=>decide (n = "ValueError.__init__")
 | _=>false))
theorem Ao {K:PySem.W.Frag} {c:Nat} (h:xF c K=true):BaseOk K c:=by
 unfold xF at h
 obtain ⟨h1,h⟩:=Bool.and_eq_true_iff.mp h
 obtain ⟨h2,h3⟩:=Bool.and_eq_true_iff.mp h
 refine ⟨He.eqO_ok h1,h2,?_⟩
 split at h3
 ·rename_i n e
  rw [e,of_decide_eq_true h3]
 ·cases h3
def tX0 (K:PySem.W.Frag):TS:=fun D σ H=>∃ (a C:Addr),σ[0]? = some (some (.ref a))∧OexC K C∧H a=some (exo a C none)∧D.nx σ H
def tX1 (K:PySem.W.Frag) (j:Nat) (f:Str):TS:=fun D σ H=>∃ (a C:Addr) (v:V),σ[0]? = some (some (.ref a))∧σ[j]? = some (some v)∧OexC K C∧PySem.W.findIn K (.ref C) f=some none ∧
 ((H a=some (exo a C none)∧∀ dx,H dx=none→dx ≠ a→D.nx σ (upd (upd H dx (exd dx [(f,v)])) a (exo a C (some dx)))) ∨
  ∃ (dx:Addr) (fs:List (Str × V)),H a=some (exo a C (some dx))∧H dx=some (exd dx fs)∧fs.length≤900∧D.nx σ (upd H dx (exd dx ((f,v) :: fs))))
def tXs (K:PySem.W.Frag):List Str→Nat→TS
 | [],_=>fun D σ H=>D.nx σ H
 | f :: r,j=>fun D σ H=>tX1 K j f { D with nx:=tXs K r (j + 1) D } σ H
structure HX0 (B:Bs) (st:Stmt):Prop where
 run:∀ (X:Cx) (W:WX),OkC B X→Takes X W→PS X st (tX0 B.K)
structure HX1 (B:Bs) (st:Stmt) (j:Nat) (f:Str):Prop where
 run:∀ (X:Cx) (W:WX),OkC B X→Takes X W→PS X st (tX1 B.K j f)
structure HXs (B:Bs) (ss:List Stmt) (fs:List Str) (j:Nat):Prop where
 run:∀ (X:Cx) (W:WX),OkC B X→Takes X W→PSs X ss (tXs B.K fs j)
structure HXI (B:Bs) (ss:List Stmt) (fs:List Str):Prop where
 run:∀ (X:Cx) (W:WX),OkC B X→Takes X W→PSs X ss (fun D σ H=>tX0 B.K { D with nx:=tXs B.K fs 1 D } σ H)
section
variable {B:Bs} {st:Stmt} {rest:List Stmt} {fs:List Str} {f x xb:Str} {j:Nat}
theorem GA:HXs B [] [] j:=⟨fun X W ok tk=>pss_nil⟩
theorem hxs (h:HX1 B st j f) (r:HXs B rest fs (j + 1)):HXs B (st :: rest) (f :: fs) j:=⟨fun X W ok tk=>PSs.imp (pss_cons (h.run X W ok tk) (r.run X W ok tk)) fun D σ H h=>h⟩
theorem hxi (h:HX0 B st) (r:HXs B rest fs 1):HXI B (st :: rest) fs:=⟨fun X W ok tk=>PSs.imp (pss_cons (h.run X W ok tk) (r.run X W ok tk)) fun D σ H h=>h⟩
theorem hx1 {p1 p2 p3 p4:Pos} (hN:B.N[j]? = some x:=by rfl) (hvis:Vis B.sc x:=by first | exact Or.inl rfl | exact Or.inr (Or.inl rfl) | exact Or.inr (Or.inr rfl)) (h0:B.N[0]? = some ("self" : Str):=by rfl)
 (hv0:Vis B.sc "self" := by first | exact Or.inl rfl | exact Or.inr (Or.inl rfl) | exact Or.inr (Or.inr rfl)) (hd:(x == ("__debug__" : Str))=false:=by decide) (hcd:(x == ("__classdict__" : Str))=false:=by decide)
 (hs:∀ env,swapsWith (.Name x p3) (some (.Attribute (.Name "self" p1) f p2)) p4.line env=pure false:=by intro _; rfl):HX1 B (.Assign [.Attribute (.Name "self" p1) f p2] (.Name x p3) p4) j f :=
 ⟨fun X W ok tk=>PS.imp (ps_ost (pe_var (i:=0) (by rw [ok.eN]; exact h0) (by rw [ok.es]; exact hv0) (by decide) (by decide)) (pe_var (i:=j) (by rw [ok.eN]; exact hN) (by rw [ok.es]; exact hvis) hd hcd) (hs _)) fun D σ H ⟨a,C,v,e0,e1,T,no,q⟩=>by
  refine ⟨v,e1,.ref a,e0,a,C,rfl,by rw [ok.eK]; exact T,by rw [ok.eK]; exact no,q⟩⟩
theorem C7 {X:Cx} {C0:Addr} {ta:TA} {e:Expr} {es:List Expr} {p1 p2 pos:Pos} {pl:Sem Bool} (hg:Gl X xb) (hm:X.mg xb=some (.ref C0)) (h1:PySem.W.specialIn X.K (.ref C0) "__getattribute__" = some (some (.builtin "type.__getattribute__"))) (h2:PySem.W.readsIn X.K C0 (.type "type")=true)
 (h3:PySem.W.findCls X.K (.ref C0) (.type "type") "__init__" = some (.val (.builtin "ValueError.__init__"))) (hdb:(xb == ("__debug__" : Str))=false) (ha:PA X (e :: es) ta) (hc:i9 pl (.Name xb p1) "__init__" p2 pos (e :: es) X.env)
 (he:starEach (e :: es) X.env=(false,eval e X.env) :: starEach es X.env) (hpl:(backTo pos (starEach es X.env)).any (·.1)=false) :
 PE X (.Call (.Attribute (.Name xb p1) "__init__" p2) (e :: es) [] pos) (tVeI X.K ta):=by
 refine ⟨fun pins s σ H Q I h=>PySem.W.methodCall_KW (ld_glob I hg hm ?_ hdb) hc⟩
 refine PySem.W.method_cls I.kIn h1 (PySem.W.cls_value I.kIn h2 h3 (by decide +kernel) ?_)
 show wpAny _ _ (callWith pos (Value.builtin "ValueError.__init__") [] (backTo pos (starEach (e :: es) X.env)) []) _ _ _
 refine PyProof.Rows.callWith_method1 (thn (ha.run pos pins _ σ H _ (I.tok _) h) fun us s1 ⟨vs,H1,I1,r1,a,C,ws,ev,hl,T,ea,q⟩=>?_) he hpl
 subst ev
 cases r1 with
 | @cons _ u0 _ ur ra rw' =>
   cases (show u0=Value.ref a from ra)
   exact oinit_ok T I1 ea (by rw [← Paired.length rw',sizeLine_eq]; omega) fun s' J=>⟨.non,H1,J,rfl,q⟩
theorem hx0 {c:Nat} {z:Str} {m:Nat} {p1 p2 p3 p4 p5 p6:Pos} {pl:Env→Sem Bool} (b:BaseOk B.K c) (gn:Gn B xb) (hm:B.mg (eX c)=some (.ref (cad B.K c))) (hx:eX c=xb:=by rfl) (h0:B.N[0]? = some ("self" : Str):=by rfl)
 (hv0:Vis B.sc "self" := by first | exact Or.inl rfl | exact Or.inr (Or.inl rfl) | exact Or.inr (Or.inr rfl)) (hdb:(xb == ("__debug__" : Str))=false:=by decide)
 (hc:∀ env,i9 (pl env) (.Name xb p1) "__init__" p2 p5 [.Name "self" p3,.Constant (.str z) m p4] env:=by intro _; rfl) (he:∀ env,starEach [.Name "self" p3,.Constant (.str z) m p4] env=(false,eval (.Name "self" p3) env) :: starEach [.Constant (.str z) m p4] env:=by intro _; rfl)
 (he2:∀ env,starEach [Expr.Constant (.str z) m p4] env=(false,eval (.Constant (.str z) m p4) env) :: starEach [] env:=by intro _; rfl)
 (hpl:∀ env,(backTo p5 (starEach [Expr.Constant (.str z) m p4] env)).any (·.1)=false:=by intro _; rfl) (hs:∀ env,swapsWith (.Call (.Attribute (.Name xb p1) "__init__" p2) [.Name "self" p3,.Constant (.str z) m p4] [] p5) none p6.line env=pure false:=by intro _; rfl) :
 HX0 B (.Expr (.Call (.Attribute (.Name xb p1) "__init__" p2) [.Name "self" p3,.Constant (.str z) m p4] [] p5) p6):=by
 subst hx
 exact ⟨fun X W ok tk=>PS.imp (ps_expr (C7 (ok.gl gn) (by rw [ok.em]; exact hm) (by rw [ok.eK]; exact b.sp) (by rw [ok.eK]; exact b.rd) (by rw [ok.eK]; exact b.fc) hdb
  (pa_cons (pe_var (i:=0) (by rw [ok.eN]; exact h0) (by rw [ok.es]; exact hv0) (by decide) (by decide)) (pa_cons pe_str pa_nil (he2 _)) (he _)) (hc _) (he _) (hpl _)) (hs _)) fun D σ H ⟨a,C,e0,T,ea,q⟩ =>
   ⟨.ref a,e0,a,C,[.str z],rfl,(by show 1≤1000; omega),by rw [ok.eK]; exact T,ea,q⟩⟩
end
inductive ExEnd (H:Hp) (a C:Addr):List Str→List V→Hp→Prop where
 | bare:ExEnd H a C [] [] H
 | full (f:Str) (fs:List Str) (v:V) (vs:List V) (dx:Addr) (l:List (Str × V)) (H':Hp) (h0:H dx=none) (ne:dx ≠ a) (ha:H' a=some (exo a C (some dx))) (hd:H' dx=some (exd dx l)) (hb:∀ b,b ≠ a→b ≠ dx→H' b=H b)
  (hl:∀ (i:Nat) (g:Str) (w:V),(f :: fs)[i]? = some g→(v :: vs)[i]? = some w→l.lookup g=some w):ExEnd H a C (f :: fs) (v :: vs) H'
def mE (K:PySem.W.Frag) (c:Nat):Sp:=fun vs H Q _=>∃ (a:Addr) (ws:List V),vs = .ref a :: ws∧ws.length=(fw c).length∧H a=some (exo a (cad K c) none)∧∀ H',ExEnd H a (cad K c) (fw c) ws H'→Q .non H'
theorem tj {N:List Str} {v:V} {ws:List V}:(L2.start N (v :: ws))[0]? = some (some v):=by unfold L2.start; simp
theorem vf {N:List Str} {v:V} {ws:List V} {j:Nat} {w:V} (h:ws[j]? = some w):(L2.start N (v :: ws))[j + 1]? = some (some w):=by
 unfold L2.start
 have hl:j < ws.length:=(List.getElem?_eq_some_iff.mp h).1
 rw [List.getElem?_append_left (by simp; exact hl)]
 simp [h]
theorem Eo {K:PySem.W.Frag} {D:Ends} {c:Nat} {a dx:Addr} {N:List Str} {ws:List V} {P:Hp→Prop} (T:OexC K (cad K c)) (hp:∀ H',P H'→D.nx (L2.start N (.ref a :: ws)) H') (ne:dx ≠ a) :
 ∀ (fs:List Str) (j:Nat) (H:Hp) (l:List (Str × V)),(∀ f ∈ fs,PySem.W.findIn K (.ref (cad K c)) f=some none)→fs.length + l.length≤900→H a=some (exo a (cad K c) (some dx))→H dx=some (exd dx l)→(∀ i,i < fs.length→∃ w,ws[j + i]? = some w) →
 (∀ H' l',H' a=some (exo a (cad K c) (some dx))→H' dx=some (exd dx l')→(∀ b,b ≠ a→b ≠ dx→H' b=H b)→(∀ g,g ∉ fs→l'.lookup g=l.lookup g)→(fs.Nodup→∀ i g w,fs[i]? = some g→ws[j + i]? = some w→l'.lookup g=some w)→P H') →
 tXs K fs (j + 1) D (L2.start N (.ref a :: ws)) H
 | [],j,H,l,_,_,ha,hd,_,h=>hp _ (h H l ha hd (fun _ _ _=>rfl) (fun _ _=>rfl) fun _ i g w e=>by simp at e)
 | f :: fs,j,H,l,hno,hz,ha,hd,hw,h=>by
   obtain ⟨w0,hw0⟩:=hw 0 (by simp)
   refine ⟨a,cad K c,w0,tj,vf hw0,T,hno f zMs,.inr ⟨dx,l,ha,hd,by simp at hz; omega,?_⟩⟩
   refine Eo T hp ne fs (j + 1) _ ((f,w0) :: l) (fun g hg=>hno g (zMt hg)) (by simp at hz ⊢; omega) ((upd_ne ne.symm).trans ha) upd_same (fun i hi=>?_) fun H' l' e1 e2 e3 e4 e5=>?_
   ·obtain ⟨w,e⟩:=hw (i + 1) (by simpa using hi)
    exact ⟨w,by rw [show j + 1 + i=j + (i + 1) by omega]; exact e⟩
   ·refine h H' l' e1 e2 (fun b h1 h2=>(e3 b h1 h2).trans (upd_ne h2)) (fun g hg=>?_) fun nd i g w hi hw'=>?_
    ·rw [e4 g fun z=>hg (zMt z),lookup_put,if_neg fun z=>hg (by rw [z]; exact zMs)]
    ·cases i with
     | zero =>
       simp at hi
       subst hi
       obtain rfl:w0=w:=Option.some.inj (hw0.symm.trans hw')
       rw [e4 f (List.nodup_cons.mp nd).1,lookup_put,if_pos rfl]
     | succ i=>exact e5 (List.nodup_cons.mp nd).2 i g w (by simpa using hi) (by rw [show j + 1 + i=j + (i + 1) by omega]; exact hw')
theorem GB {K:PySem.W.Frag} {c:Nat} (ok:ExcOk K c) {D:Ends} {N:List Str} {vs:List V} {H:Hp} {Q:VK} {E:XK} (h:mE K c vs H Q E) (hq:∀ σ H',Q .non H'→D.nx σ H'):tX0 K { D with nx:=tXs K (fw c) 1 D } (L2.start N vs) H:=by
 obtain ⟨a,ws,rfl,hl,ha,g⟩:=h
 refine ⟨a,cad K c,tj,ok.ox,ha,?_⟩
 have no:=ok.no
 have few:=ok.few
 have nd:=ok.nd
 revert no few nd g hl
 generalize fw c=fs
 intro hl g no few nd
 cases fs with
 | nil =>
   cases ws with
   | nil=>exact hq _ _ (g H .bare)
   | cons _ _=>cases hl
 | cons f fs =>
   cases ws with
   | nil=>cases hl
   | cons v vs =>
     refine ⟨a,cad K c,v,tj,vf (j:=0) rfl,ok.ox,no f zMs,.inl ⟨ha,fun dx hdx ne=>?_⟩⟩
     refine Eo (P:=fun H'=>Q .non H') ok.ox (fun H' q=>hq _ _ q) ne fs 1 _ [(f,v)] (fun g hg=>no g (zMt hg)) (by simp at few ⊢; omega) upd_same ((upd_ne ne).trans upd_same) (fun i hi=>?_) fun H' l' e1 e2 e3 e4 e5=>g H' (.full f fs v vs dx l' H' hdx ne e1 e2 (fun b h1 h2=>?_) fun i g' w hi hw=>?_)
     ·have:i < vs.length:=by simp at hl; omega
      exact ⟨vs[i],by rw [show 1 + i=i + 1 by omega]; simp [this]⟩
     ·rw [e3 b h1 h2,upd_ne h1,upd_ne h2]
     ·cases i with
      | zero =>
        simp at hi hw
        subst hi hw
        rw [e4 f (List.nodup_cons.mp nd).1,lookup_put,if_pos rfl]
      | succ i=>exact e5 (List.nodup_cons.mp nd).2 i g' w (by simpa using hi) (by rw [show 1 + i=i + 1 by omega]; simpa using hw)
theorem Ep {B:Bs} {c k:Nat} {x qual:Str} {params:Arguments} {body:List Stmt} {scope:Scope} {f:Addr} {fd:FuncData} {N ps:List Str} (ok:ExcOk B.K c) (F:FunD B.K x qual params body scope [] [] f fd) (S:FnScope N ps scope) (hp:ps.length=(fw c).length + 1)
 (hbody:HXI { B with k:=k,N:=N,sc:=scope,top:=true,own:=fun _=>true } body (fw c)):FnOk B.P B.w B.K B.mg B.base (CX B.P B.w) (k + 1) f fd ps (mE B.K c):=by
 refine F.ok S (fun vs H Q E ⟨a,ws,e,hl,_⟩=>by rw [e,hp,List.length_cons,hl]) fun cdv A outer s H vs Q E hroom h=>?_
 exact ⟨_,hbody.run _ (fun cls d _ H=>E cls d H) ⟨rfl,rfl,rfl,rfl,rfl,rfl,rfl,S.nd,rfl,hroom,fun _ _ _=>rfl,passes_of rfl,fun _=>⟨rfl,rfl,rfl⟩⟩ (takes_of rfl rfl rfl rfl),GB ok h fun _ _ q=>q⟩
structure HExc (B:Bs) (k c:Nat):Prop where
 mg:B.mg (eX c)=some (.ref (cad B.K c))
 ok:ExcOk B.K c
 ini:∃ fI fd ps,PySem.W.findIn B.K (.ref (cad B.K c)) "__init__" = some (some (.ref fI))∧PySem.W.typeIn B.K (.ref fI)=some (.type "function")∧Binds B.K fd ps []∧FnOk B.P B.w B.K B.mg B.base (CX B.P B.w) k fI fd ps (mE B.K c)
theorem HExc.in_ {B:Bs} {k k' c:Nat} {N:List Str} {sc:Scope} {top:Bool} {own:Str→Bool} (h:HExc B k c):HExc ⟨B.P,B.w,B.K,B.mg,B.base,k',N,sc,top,own⟩ k c:=⟨h.mg,h.ok,h.ini⟩
theorem HExc.mono {B:Bs} {j k c:Nat} (h:HExc B j c) (l:j≤k):HExc B k c:=⟨h.mg,h.ok,let ⟨fI,fd,ps,a,b,d,e⟩:=h.ini; ⟨fI,fd,ps,a,b,d,e.mono l⟩⟩
def dE (c:Nat) (t:HTA):HTS:=fun D env S=>t env S (fun ds S1=>match Nat.beq ds.length (fw c).length with
 | true=>D.ex (.exc c ds) env S1
 | false=>False) fun x S1=>D.ex x env S1
theorem BC {X:Cx} {pins:List (Addr × Obj)} {σ:L2.St} {H1:Hp} {Q:XK} {hp hp2 h2:Heap} {g1 g2:Array GenState} {d1 d2:Drawn} {t1 t2:Nat} {os1 os2:OsState} {a C:Addr} (T:Raises X (.ref C)) (I1:L2.Inv X pins σ H1 ⟨hp,g1,d1,t1,os1⟩)
 (ha:hp.objs.size≤a) (k:∀ b o,hp.get? b=some o→hp2.get? b=some o) (un:Un (frs X.stack) [] (upd H1 a (exo a C none)) (upd H1 a (exo a C none)) hp2 h2) (hok:HOk X.prog X.w (upd H1 a (exo a C none)) h2) (ho:os2=os1) (hb:AllBare g2)
 (q:Q (.ref C) none H1):MkP X pins σ Q (.ref a) ⟨h2,g2,d2,t2,os2⟩:=by
 obtain ⟨t0,hoe⟩:=exo_at hok (show upd H1 a (exo a C none) a=some (exo a C none) from upd_same)
 have hn:H1 a=none:=I1.hok.fresh ha
 obtain ⟨G,y1,y2⟩:=restrict h2 fun b=>decide (b ≠ a)
 have gk:∀ b,b ≠ a→G.get? b=h2.get? b:=fun b hb=>y1 b (decide_eq_true hb)
 have ge:G.get? a=none:=y2 a (by simp)
 have nha:∀ {b:Addr} {o:Obj},hp.get? b=some o→b ≠ a:=fun {b o} z e=>by
  subst e
  exact absurd (Nat.lt_of_lt_of_le (Heap.lt_size z) ha) (Nat.lt_irrefl _)
 have upn:∀ {b:Addr},b ≠ a→H1 b=none→upd H1 a (exo a C none) b=none:=fun {b} hb n=>(upd_ne hb).trans n
 have U:Un (frs X.stack) [] H1 H1 hp G:={
  keep:=fun b o z n hf hx=>(gk b (nha z)).trans (un.keep b o (k b o z) (upn (nha z) n) hf hx)
  slot:=fun b o z n hf hx=>by rw [gk b (nha z)]; exact un.slot b o (k b o z) (upn (nha z) n) hf hx
  free:=fun _ _ _ n _=>n
  there:=fun b o z hx=>by rw [gk b (nha z)]; exact un.there b o (k b o z) hx
  tups:=fun _ _ z=>z
  frzs:=fun _ _ _ z=>z
  tbls:=fun b ps z=>⟨#[],by rw [z]; simp⟩ }
 have hok3:HOk X.prog X.w H1 G:=fun b o z=>by
  have hba:b ≠ a:=fun e=>by rw [e,hn] at z; cases z
  have noa:∀ {c:Addr},upd H1 a (exo a C none) c=some (.own b)→c ≠ a:=fun {c} hc=>at_ne (show upd H1 a (exo a C none) a=some (exo a C none) from upd_same) hc exo_own
  refine (hok b o ((upd_ne hba).trans z)).stay (fun c v hc y=>?_) (fun c hc=>?_) fun c xs hc=>?_
  ·have hca:c ≠ a:=by
    rcases hc with hc | hc
    ·rw [hc]; exact hba
    ·exact noa hc
   exact (gk c hca).trans y
  ·rw [upd_ne (noa hc)] at hc; exact hc
  ·rw [upd_ne (at_ne (show upd H1 a (exo a C none) a=some (exo a C none) from upd_same) hc exo_tup)] at hc; exact hc
 have J:L2.Inv X pins σ H1 ⟨G,g2,d2,t2,os2⟩:=I1.call' (ch:=[]) ho U hok3 hb (fun b z=>absurd z (by simp))
 refine ⟨a,_,_,⟨G,g2,d2,t2,os2⟩,_,.ref C,none,rfl,J,fun b o z=>?_,ge,hoe,⟨rfl,rfl⟩,rfl,rfl,hn,rfl,hb,T,q⟩
 by_cases hba:b=a
 ·rw [hba,ge] at z; cases z
 ·exact (gk b hba).symm.trans z
section
variable {X:Cx} {x:Str} {c k:Nat} {p pos:Pos} {C fI:Addr} {fd:FuncData} {ps:List Str}
theorem BD {CX':CXT} (T:OexC X.K (cad X.K c)) (hf:fw c=[]) (iC:PySem.W.findIn X.K (.ref (cad X.K c)) "__init__" = some (some (.ref fI))) (tI:PySem.W.typeIn X.K (.ref fI)=some (.type "function")) (F1:FnOk X.prog X.w X.K X.mg X.base CX' k fI fd ps (mE X.K c)) (hr:Room (k + 1) X.A)
 (hb:Binds X.K fd ps []) (hx:Passes CX' X (fun _ _ _=>False)) (hg:Gl X x) (hm:X.mg x=some (.ref (cad X.K c))) (hdb:(x == ("__debug__" : Str))=false):PMk X (.Call (.Name x p) [] [] pos) (fun _ H Q=>Q (.ref (cad X.K c)) none H):=by
 intro pins s σ H Q I h
 obtain ⟨nm,q,N,bs,bm,sn,sub,ab,col,dd,k0,k1,k2,k3,k5,hC,hbm⟩:=T.cls
 refine wpAny_Call_Name_kw (ld_glob I hg hm (PySem.W.callWith_K0 (first:=[]) I.kIn T.kC ?_) hdb)
 show wpAny _ _ (call (.ref (cad X.K c)) []) _ _ _
 generalize eI:({ s with toks:=s.toks }:Shared)=sI
 obtain ⟨hp,g,dr,tk,os⟩:=s
 have hsz:hp.objs.size≤hp.objs.size + 1:=Nat.le_succ _
 have hn:H (hp.objs.size + 1)=none:=I.hok.fresh hsz
 have kk:∀ b o,hp.get? b=some o→((hp.push (PySem.W.kdv_tup [])).push (PySem.HandSPX.excO (cad X.K c) hp.objs.size)).get? b=some o:=fun b o e=>Heap.get?_push_of_some _ (Heap.get?_push_of_some _ e)
 have hget:((hp.push (PySem.W.kdv_tup [])).push (PySem.HandSPX.excO (cad X.K c) hp.objs.size)).get? (hp.objs.size + 1)=some (PySem.HandSPX.excO (cad X.K c) hp.objs.size):=by heap_get
 have I2:L2.Inv X pins σ (upd H (hp.objs.size + 1) (exo (hp.objs.size + 1) (cad X.K c) none)) ⟨(hp.push (PySem.W.kdv_tup [])).push (PySem.HandSPX.excO (cad X.K c) hp.objs.size),g,dr,tk,os⟩ :=
  I.laid (t':=tk) (a:=hp.objs.size + 1) (o:=exo (hp.objs.size + 1) (cad X.K c) none) (h':=(hp.push (PySem.W.kdv_tup [])).push (PySem.HandSPX.excO (cad X.K c) hp.objs.size)) kk hsz (exo_ok hget)
 have go:mE X.K c [V.ref (hp.objs.size + 1)] (upd H (hp.objs.size + 1) (exo (hp.objs.size + 1) (cad X.K c) none)) (fun v H2=>v = .non∧H2=upd H (hp.objs.size + 1) (exo (hp.objs.size + 1) (cad X.K c) none)) (fun _ _ _=>False) :=
  ⟨_,[],rfl,by rw [hf] <;> rfl,upd_same,fun H' e=>by rw [hf] at e; cases e; exact ⟨rfl,rfl⟩⟩
 have r2:Vals [V.ref (hp.objs.size + 1)] [Value.ref (hp.objs.size + 1)]:=.cons rfl .nil
 have hl:([Value.ref (hp.objs.size + 1)] ++ ([]:List Value)).length=ps.length:=by
  have e:=r2.length
  rw [F1.len _ _ _ _ go] at e
  simpa using e.symm
 subst eI
 refine wpAny_call (PySem.HandSPX.call_own F.excBase_ValueError (fun Y=>PySem.HandSPX.refsVE_contains Y bm hbm) (I.kIn _ _ hC) (PySem.W.looks_findIn I.kIn iC) (fun self=>PySem.W.bind_fn I.kIn self tI) (Nat.zero_le _)
  (codeAny_mono (F1.run _ X.stack _ _ ⟨[Value.ref (hp.objs.size + 1)],[]⟩ [Value.ref (hp.objs.size + 1)] _ _ (fun _ _ _=>False) (hr.make (cad X.K c) [] []) (I2.env0.make (cad X.K c) [] []) (by have:=hb _ [Value.ref (hp.objs.size + 1)] I2.kIn hl; simpa using this) r2 go) fun r s' hq'=>?_))
 cases r with
 | error er=>exact hx pins σ _ _ er s' I2 hq'
 | ok fl =>
   cases fl with
   | ret u =>
     obtain ⟨v,H2,os2,bare2,un2,hok2,rv,ev,eH⟩:=hq'
     subst ev eH
     obtain ⟨h2,g2,d2,t2,os'⟩:=s'
     exact ⟨rv,BC (raises_own T.exC T.tyC) I hsz kk un2 hok2 os2 bare2 h⟩
   | next=>exact False.elim hq'
   | brk=>exact False.elim hq'
   | cont=>exact False.elim hq'
end
theorem Ap {K:PySem.W.Frag} {F:Hp} {c:Nat} {ds:List D} {vs:List V} {d:Addr} {l:List (Str × V)} (hd:F d=some (.xd l)) (rs:Reps K F ds vs) (hl:∀ (i:Nat) (g:Str) (w:V),(fw c)[i]? = some g→vs[i]? = some w→l.lookup g=some w):RepX K F (.exc c ds) (.ref (cad K c)) (some d) :=
 ⟨rfl,.inr ⟨d,l,rfl,hd,fun i f x e1 e2=>by
  obtain ⟨v,h1,h2⟩:=rs.at e2
  exact ⟨v,hl i f v e1 h1,h2⟩⟩⟩
theorem ExEnd.inv {H H':Hp} {a C:Addr} {fs:List Str} {ws:List V} (h:ExEnd H a C fs ws H') (hf:fs.length ≠ 0):∃ (dx:Addr) (l:List (Str × V)),H dx=none∧dx ≠ a∧H' a=some (exo a C (some dx))∧H' dx=some (exd dx l)∧(∀ b,b ≠ a→b ≠ dx→H' b=H b) ∧
 ∀ (i:Nat) (g:Str) (w:V),fs[i]? = some g→ws[i]? = some w→l.lookup g=some w:=by
 cases h with
 | bare=>exact absurd rfl hf
 | full f fs v vs dx l _ h0 ne ha hd hb hl=>exact ⟨dx,l,h0,ne,ha,hd,hb,hl⟩
section
variable {B:Bs} {e:Expr} {es:List Expr} {tr:HTA} {c k:Nat} {xc:Str} {p pos pos2:Pos}
theorem tm (h:HExc B k c) (hk:k + 1≤B.k) (gn:Gn B xc) (ha:HA B (e :: es) tr) (hx:eX c=xc:=by rfl) (hdb:(xc == ("__debug__" : Str))=false:=by decide) (he:∀ env,starEach (e :: es) env=(false,eval e env) :: starEach es env:=by intro _; rfl)
 (hpl:∀ env,(backTo pos (starEach es env)).any (·.1)=false:=by intro _; rfl) (hf:(fw c).length ≠ 0:=by decide):HS B (.Raise (some (.Call (.Name xc p) (e :: es) [] pos)) none pos2) (dE c tr):=by
 subst hx
 obtain ⟨fI,fd,ps,i1,i2,i3,i4⟩:=h.ini
 exact ⟨fun X W ok tk=>PS.imp (ps_raise ok.calm tk (pmk_oex (sp:=mE X.K c) (ds:=[]) (dvs:=[]) (by rw [ok.eK]; exact h.ok.ox) (by rw [ok.eK]; exact i1) (by rw [ok.eK]; exact i2) (by have:=ok.fnOk i4; rw [ok.eK] at this ⊢; exact this) (ok.room.mono hk) (by rw [ok.eK]; exact i3) .nil passL (ok.gl gn)
  (by rw [ok.em]; exact h.mg) (ha.run X W ok tk) hdb (he _) (hpl _))) fun D σ H ⟨G,F,S,env,E,rn,wd,hh,o⟩=>by
   refine ⟨G,F,S,env,_,_,rn,wd,hh,fun ds vs F1 S1 H1 l1 w1 r1 h1=>?_,o.exc rn⟩
   obtain ⟨z,h1⟩:=rY h1
   have few:=h.ok.few
   rw [ok.eK]
   refine ⟨by rw [r1.len,z]; omega,fun a ha=>⟨a,vs,by rw [List.append_nil],by rw [r1.len,z],upd_same,fun H' e=>?_⟩⟩
   obtain ⟨d,l,h0,ne,e1,e2,e3,hl⟩:=e.inv hf
   have hd1:H1 d=none:=by rw [upd_ne ne] at h0; exact h0
   have eH:upd (L2.del H' a) d (.xd l)=upd H1 d (.xd l):=by
    funext b
    by_cases hb:b=d
    ·rw [hb,upd_same,upd_same]
    ·rw [upd_ne hb,upd_ne hb]
     by_cases hba:b=a
     ·rw [hba,L2.del_same,ha]
     ·rw [L2.del_ne hba,e3 b hba hb,upd_ne hba]
   refine ⟨rfl,d,l,e1,e2,hd1,?_⟩
   rw [eH]
   obtain ⟨w2,l2⟩:=w1.newF (.xd l) hd1
   exact o.ex _ _ _ env σ _ _ _ (l1.trans l2) w2 (rn.le (l1.trans l2)) (Ap upd_same (r1.le l2) hl) h1⟩
theorem tq (h:HExc B k c) (hk:k + 1≤B.k) (gn:Gn B xc) (hx:eX c=xc:=by rfl) (hdb:(xc == ("__debug__" : Str))=false:=by decide) (hf:fw c=[]:=by rfl):HS B (.Raise (some (.Call (.Name xc p) [] [] pos)) none pos2) (dE c ae):=by
 subst hx
 obtain ⟨fI,fd,ps,i1,i2,i3,i4⟩:=h.ini
 exact ⟨fun X W ok tk=>PS.imp (ps_raise ok.calm tk (BD (c:=c) (by rw [ok.eK]; exact h.ok.ox) hf (by rw [ok.eK]; exact i1) (by rw [ok.eK]; exact i2) (by have:=ok.fnOk i4; rw [ok.eK] at this ⊢; exact this) (ok.room.mono hk) (by rw [ok.eK]; exact i3) passL (ok.gl gn)
  (by rw [ok.em,ok.eK]; exact h.mg) hdb)) fun D σ H ⟨G,F,S,env,E,rn,wd,hh,o⟩=>by
   obtain ⟨_,h1⟩:=rY (show match Nat.beq ([]:List Hy.D).length (fw c).length with | true=>E.ex (.exc c []) env S | false=>False from hh)
   rw [ok.eK]
   exact o.ex _ _ _ env σ F S H Le.rfl' wd rn (show RepX B.K F (.exc c []) _ _ from ⟨rfl,.inl ⟨rfl,rfl⟩⟩) h1⟩
end
abbrev ClX:=Value × Option Nat × (Addr→Value→Option Addr→TS)
abbrev GC (X:Cx) (su:List Stmt) (ts:Addr→Value→Option Addr→TS):Prop:=∀ (a:Addr) (oe:Obj) (cls:Value) (d:Option Addr) (pn:List (Addr × Obj)),Zc cls d oe→(∃ vs,oe.data = .fields vs)→PSs (X.suite a ((a,oe) :: pn)) su (ts a cls d)
inductive HdsX (X:Cx):List ExceptHandler→List ClX→Prop
 | nil:HdsX X [] []
 | bare {x:Str} {c:Value} {ts:Addr→Value→Option Addr→TS} {b0:Stmt} {su:List Stmt} {np p:Pos} {hs:List ExceptHandler} {l:List ClX} (hc:Names X x c) (ok:GC X (b0 :: su) ts) (r:HdsX X hs l) :
  HdsX X (.ExceptHandler (some (.Name x np)) none (b0 :: su) p :: hs) ((c,none,ts) :: l)
 | as_ {x n:Str} {i:Nat} {c:Value} {ts:Addr→Value→Option Addr→TS} {b0:Stmt} {su:List Stmt} {np p:Pos} {hs:List ExceptHandler} {l:List ClX} (hc:Names X x c) (hi:X.N[i]? = some n) (hl:X.env.kindOf n=some .local) (ok:GC X (b0 :: su) ts) (r:HdsX X hs l) :
  HdsX X (.ExceptHandler (some (.Name x np)) (some n) (b0 :: su) p :: hs) ((c,some i,ts) :: l)
section
variable {X:Cx} {pins:List (Addr × Obj)} {σ:L2.St} {H:Hp} {s:Shared} {D:Ends}
end
section
variable {X:Cx} {body:List Stmt} {h0:ExceptHandler} {hds:List ExceptHandler} {l:List ClX} {pos:Pos} {tb:WX→TS} {Wo:WX}
end
abbrev SX:=D→aW→Option D
abbrev SXs:=D→aW→Option (List D)
structure SuAt (K:PySem.W.Frag) (G F:Hp) (S:Sto) (env:aW) (x:D) (a:Addr) (cls:Value) (dd:Option Addr) (o:Option Nat) (σ:L2.St) (H:Hp):Prop where
 rn:RepN K F env σ
 wd:Wd K G F S H
 rx:RepX K F x cls dd
 sl:∀ i,o=some i→σ[i]? = some (some (.ref a))
theorem SuAt.le {K:PySem.W.Frag} {G F F':Hp} {S:Sto} {env:aW} {x:D} {a:Addr} {cls:Value} {dd:Option Addr} {o:Option Nat} {σ:L2.St} {H H':Hp} (h:SuAt K G F S env x a cls dd o σ H) (l:Le F F') (w:Wd K G F' S H'):SuAt K G F' S env x a cls dd o σ H':=⟨h.rn.le l,w,h.rx.le l,h.sl⟩
section
variable {B:Bs} {c:Nat} {o:Option Nat} {e b:Expr} {es:List Expr} {t u:SX} {r:SXs} {pos p p2:Pos}
end
def lU (K:PySem.W.Frag) (a:Addr) (cls:Value) (dd:Option Addr) (o:Option Nat) (t:D→HTS):TS:=fun D σ H=>∃ G F S env E x,SuAt K G F S env x a cls dd o σ H∧t x E env S∧OkN K G F E.nx D.nx∧OkQ K G F E.rt D.rt
structure HSU (B:Bs) (c:Nat) (o:Option Nat) (su:List Stmt) (t:D→HTS):Prop where
 run:∀ (X:Cx) (a:Addr) (oe:Obj) (dd:Option Addr) (pn:List (Addr × Obj)),OkC B X→Zc (.ref (cad B.K c)) dd oe→(∃ vs,oe.data = .fields vs)→PSs (X.suite a ((a,oe) :: pn)) su (lU B.K a (.ref (cad B.K c)) dd o t)
section
variable {B:Bs} {c:Nat} {o:Option Nat} {e:Expr} {t:SX} {n:Str} {pos p:Pos}
end
abbrev ClH:=Nat × Option Nat × (D→HTS)
structure ExmC (K:PySem.W.Frag) (c:Nat) (cs:List Nat):Prop where
 ok:∀ c' ∈ cs,PySem.W.exmOne K (.ref (cad K c')) (.ref (cad K c))=some (Nat.beq c' c)
inductive HCls (B:Bs) (cs:List Nat):List ExceptHandler→List ClH→Prop
 | nil:HCls B cs [] []
 | bare {x:Str} {c:Nat} {t:D→HTS} {b0:Stmt} {su:List Stmt} {np p:Pos} {hs:List ExceptHandler} {l:List ClH} (gn:Gn B x) (hm:B.mg (eX c)=some (.ref (cad B.K c))) (hx:eX c=x) (hdb:(x == ("__debug__" : Str))=false) (ex:ExmC B.K c cs) (ok:HSU B c none (b0 :: su) t) (r:HCls B cs hs l) :
  HCls B cs (.ExceptHandler (some (.Name x np)) none (b0 :: su) p :: hs) ((c,none,t) :: l)
 | as_ {x n:Str} {i c:Nat} {t:D→HTS} {b0:Stmt} {su:List Stmt} {np p:Pos} {hs:List ExceptHandler} {l:List ClH} (gn:Gn B x) (hm:B.mg (eX c)=some (.ref (cad B.K c))) (hx:eX c=x) (hdb:(x == ("__debug__" : Str))=false) (ex:ExmC B.K c cs) (hi:B.N[i]? = some n) (hl:B.sc.names.lookup n=some .local) (ok:HSU B c (some i) (b0 :: su) t) (r:HCls B cs hs l) :
  HCls B cs (.ExceptHandler (some (.Name x np)) (some n) (b0 :: su) p :: hs) ((c,some i,t) :: l)
theorem OkC.tr {B:Bs} {X:Cx} (ok:OkC B X) (pn:List (Addr × Obj)) (xe:Value→Shared→Prop) (own:PassesOwn (model X.prog X.w) X.A X.env xe):OkC B (X.tr pn xe):=⟨ok.eP,ok.ew,ok.eK,ok.em,ok.eb,ok.eN,ok.es,ok.nd,ok.calm,ok.room,ok.fn,own,ok.stk⟩
def clX (B:Bs):List ClH→List ClX
 | []=>[]
 | (c,o,t) :: r=>(.ref (cad B.K c),o,fun a cls dd D σ H=>cls = .ref (cad B.K c)∧lU B.K a (.ref (cad B.K c)) dd o t D σ H) :: clX B r
theorem HCls.hds {B:Bs} {X:Cx} {cs:List Nat} (ok:OkC B X) {hs:List ExceptHandler} {l:List ClH} (h:HCls B cs hs l):HdsX X hs (clX B l):=by
 induction h with
 | nil=>exact .nil
 | @bare x c t b0 su np p hs l gn hm hx hdb ex hsu r ih =>
   refine .bare ⟨ok.gl gn,hdb,.inl (by rw [ok.em,← hx]; exact hm)⟩ (fun a oe cls d pn hz hf=>⟨fun pins s σ H D I ⟨e,q⟩=>?_⟩) ih
   subst e
   exact (hsu.run X a oe d pn ok hz hf).run pins s σ H D I q
 | @as_ x n i c t b0 su np p hs l gn hm hx hdb ex hi hl hsu r ih =>
   refine .as_ ⟨ok.gl gn,hdb,.inl (by rw [ok.em,← hx]; exact hm)⟩ (by rw [ok.eN]; exact hi) (by show X.env.scope.names.lookup n=_; rw [ok.es]; exact hl) (fun a oe cls d pn hz hf=>⟨fun pins s σ H D I ⟨e,q⟩=>?_⟩) ih
   subst e
   exact (hsu.run X a oe d pn ok hz hf).run pins s σ H D I q
section
variable {B:Bs} {body:List Stmt} {h0:ExceptHandler} {hds:List ExceptHandler} {pos:Pos} {tb:HTS} {l:List ClH} {cs:List Nat}
end
end Hy
namespace PySem
set_option maxHeartbeats 1000000 in
theorem C8 {v:Value} {o:Obj} {H:Heap→Prop} (B:Begins v o H) :
 Meets (Builtin.«enumerate.__new__» ⟨[.type "enumerate",v],[]⟩) (fun _ R s=>H s.heap ∧
  R (.ok (.ret (.ref (s.heap.push o).objs.size))) { s with heap:=(s.heap.push o).push { cls:=.type "enumerate",data:=.fields #[.none,.bool false,.ref s.heap.objs.size,rawInt 0,.none,.none] } }) :=
 .of_wp fun prog w A R s h=>by
  obtain ⟨hp,g,d,tk,os⟩:=s; obtain ⟨h1,h⟩:=h
  have hs:=sub_enumerate
  have it:∀ {A':Around} {E:Value→Shared→Prop} {Q:Value→Shared→Prop},Q (.ref hp.objs.size) ⟨hp.push o,g,d,tk,os⟩→wpAny (model prog w) A' (pyIter v) Q E ⟨hp,g,d,tk,os⟩:=fun q=>B.iter prog w _ _ ⟨hp,g,d,tk,os⟩ _ h1 q
  wp_walk using it
  refine wpAny_stack_any fun st=>wpAny_pure ?_
  split
  ·rename_i c _ _ _ _ _
   cases (c == Value.type "enumerate")
   ·wp_walk using it
    exact ⟨_,rfl,h⟩
   ·wp_walk using it
    exact ⟨_,rfl,h⟩
  ·wp_walk using it
   exact ⟨_,rfl,h⟩
theorem Fd {prog:Program} {w:World} {A:Around} {E:Value→Shared→Prop} {s:Shared} {v:Value} {o:Obj} {H:Heap→Prop} {Q:Value→Shared→Prop} (B:Begins v o H) (h1:H s.heap)
 (h:∀ h',IsEnum h' (s.heap.objs.size + 1) s.heap.objs.size 0 .none→h'.get? s.heap.objs.size=some o→(∀ b o,s.heap.get? b=some o→h'.get? b=some o)→Q (.ref (s.heap.objs.size + 1)) { s with heap:=h' }) :
 wpAny (model prog w) A (call (.type "enumerate") [v]) Q E s:=by
 refine callType_new F.called_enumerate (by decide) (F.typeCall_enumerate_1 _) (F.newCall_enumerate_1 _) (fun obj=>F.args_object_init_2 obj _) F.entry_enumerate_new (C8 B) ⟨h1,?_⟩
 have hz:(s.heap.push o).objs.size=s.heap.objs.size + 1:=Heap.size_push ..
 show _∧_
 rw [hz]
 have he:IsEnum ((s.heap.push o).push { cls:=.type "enumerate",data:=.fields #[.none,.bool false,.ref s.heap.objs.size,rawInt 0,.none,.none] }) (s.heap.objs.size + 1) s.heap.objs.size 0 .none:=by
  have:=Heap.get?_push_size (s.heap.push o) (o:={ cls:=.type "enumerate",data:=.fields #[.none,.bool false,.ref s.heap.objs.size,rawInt 0,.none,.none] }) rfl
  rw [hz] at this
  exact this
 exact ⟨⟨_,he,rfl⟩,h _ he (Heap.get?_push_of_some _ (Heap.get?_push_size _ B.free)) fun b o x=>Heap.get?_push_of_some _ (Heap.get?_push_of_some _ x)⟩
end PySem
namespace Hy
open PySem PySem.Spec PyProof.Rows L2
def Itu (K:PySem.W.Frag) (a:Addr):It :=
 ⟨fun i H=>∃ (xs:List V) (x:V),SqT K H a xs∧xs[i]? = some x,fun i H v H'=>∃ T x,v = .ref T∧H T=none∧H'=upd H T (.tup [.int (i:Nat),x])∧∀ xs,SqT K H a xs→xs[i]? = some x,fun i H=>∃ xs:List V,SqT K H a xs∧xs.length≤i⟩
theorem xG {P:Program} {w:World} {K:PySem.W.Frag} {elts:List Expr} {kk:Nat} {tpos:Pos} (a e it:Addr) :
 Turn P w K (.Tuple elts kk tpos) (Itu K a) [e,it] e (fun i h=>(∃ old,IsEnum h e it ((i:Nat):Int) old)∧h.IsTupleIter it a i∧e ≠ it) where
 mem:=by simp
 obj:=fun i h st b hb=>by
  obtain ⟨⟨old,he⟩,⟨o,ho,hc,hd⟩,_⟩:=st
  have hb2:b=e∨b=it:=by simpa using hb
  rcases hb2 with rfl | rfl
  ·exact ⟨_,he,fun v q=>nomatch q⟩
  ·exact ⟨o,ho,fun v q=>by rw [hd] at q; cases q⟩
 keep:=fun i h h' st k=>let ⟨⟨old,he⟩,hi,hne⟩:=st; ⟨⟨old,k e (by simp) _ he⟩,hi.at fun o q=>k it (by simp) o q,hne⟩
 item:=by
  intro X hP hw hK hc i pins s σ H E I hf st hg
  subst hP hw hK
  obtain ⟨⟨old,he⟩,hit,hne⟩:=st
  obtain ⟨xs,x,hq,hx⟩:=hg
  obtain ⟨its,rv,p,hz⟩:=I.tuple hq
  obtain ⟨u,hu,ru⟩:=rv.get hx
  have hel:e < s.heap.objs.size:=Heap.lt_size he
  have hil:it < s.heap.objs.size:=by obtain ⟨_,q,_⟩:=hit; exact Heap.lt_size q
  have pt:s.heap.IsTuple a its.toArray:=p
  have nea:a ≠ e:=fun z=>by
   subst z
   obtain ⟨o1,q1,q2,_⟩:=pt
   rw [he] at q1
   cases q1
   exact absurd (Value.type.inj q2) (by decide)
  have net:a ≠ it:=fun z=>by
   subst z
   obtain ⟨o1,q1,q2,_⟩:=pt
   obtain ⟨o2,q3,q4,_⟩:=hit
   rw [q1] at q3
   cases q3
   rw [q2] at q4
   exact absurd (Value.type.inj q4) (by decide)
  have hlt:i < its.toArray.size:=by
   have:=(List.getElem?_eq_some_iff.mp hu).1
   simpa using this
  refine wpAny_pyNext_enum_itemC (Draws.tuple (prog:=X.prog) (w:=X.w) (A:=X.A.in1) (I.ok.hd hc) it a net its.toArray) he ⟨hit,pt⟩ hlt hne (by simp [hne,Ne.symm nea]) fun y h' tk hy ho hst' hT hsz hk=>?_
  have hyu:y=u:=by
   have e1:its.toArray[i]? = some u:=by simpa using hu
   rw [e1] at hy
   exact (Option.some.inj hy).symm
  subst hyu
  refine ⟨_,rfl,wpAny_letOwnedTupleGo_enum (s:={ s with heap:=h',toks:=tk + 1 }) ho fun h'' he' sb=>?_⟩
  have hT2:h''.get? s.heap.objs.size=some { cls:=.type "tuple",data:=.seq #[.int i tk,y] }:=(sb.2 _ (Nat.ne_of_gt hel)).trans hT
  have new:ObjOk X.prog X.w (upd H s.heap.objs.size (.tup [.int (i:Nat),x])) h'' s.heap.objs.size (.tup [.int (i:Nat),x]) :=
   ⟨by show 2≤sizeLine; decide,[.int i tk,y],.cons ⟨_,rfl⟩ (.cons ru .nil),⟨_,hT2,rfl,_,rfl⟩⟩
  have I1:L2.Inv X pins σ (upd H s.heap.objs.size (.tup [.int (i:Nat),x])) { s with heap:=h'',toks:=tk + 1 } :=
   I.turnedNew (ch:=[e,it]) (fun b ob hb q=>(sb.2 b (fun z=>hb (by simp [z]))).trans (hk b ob (fun z=>hb (by simp [z])) (fun z=>hb (by simp [z])) q)) hf zNr new
  refine ⟨.ref s.heap.objs.size,_,I1,rfl,⟨_,x,rfl,I.hok.fresh zNr,rfl,fun ys hy=>by rw [I.tuple_inj hy hq]; exact hx⟩,⟨⟨y,?_⟩,hst'.1.at fun o q=>(sb.2 it (Ne.symm hne)).trans q,hne⟩,fun b hb=>?_⟩
  ·rw [show ((i + 1:Nat):Int)=(i:Int) + 1 by omega]
   exact he'
  ·have hb':b < s.heap.objs.size:=by
    have hb2:b=e∨b=it:=by simpa using hb
    rcases hb2 with rfl | rfl
    ·exact hel
    ·exact hil
   rw [upd_ne (Nat.ne_of_lt hb')]
   exact (hf b hb).1
 done:=by
  intro X hP hw hK hc i pins s σ H E I hf st hg
  subst hP hw hK
  obtain ⟨⟨old,he⟩,hit,hne⟩:=st
  obtain ⟨xs,hq,hx⟩:=hg
  obtain ⟨its,rv,p,hz⟩:=I.tuple hq
  obtain ⟨f0,f1,f2,f3,f4,f5⟩:=hf it (by simp)
  have pt:s.heap.IsTuple a its.toArray:=p
  have hT:s.TypeIs (.ref e) "enumerate" := ⟨_,he,rfl⟩
  have hl:=rv.length
  unfold pyNext
  refine wpAny_bind (wpAny_attempt (wpAny_callSpecial?_slot (name:=Str.ofString "__next__") hT F.slot_enumerate_next (wpAny_call_entry F.slot_enumerate_next hT F.entry_enumerate_next ?_ (F.args_enumerate_next_1 _))))
  show wpAny _ _ (field (.ref e) 2 >>= _) _ _ _
  refine wpAny_bind (wpAny_field he rfl (x:=.ref it) rfl ?_)
  refine wpAny_bind (wpAny_nextOf_tuple_end (I.ok.hd hc) hit pt (by simp; omega) fun h' x he' hx'=>?_)
  obtain ⟨o,ho,hc'⟩:=hx'
  refine wpAny_bind (wpAny_isInstance (T := "StopIteration") (b:=true) ⟨o,ho,hc'⟩ isSubtype_stop ?_)
  exact wpAny_pure ⟨rfl,I.turned (t':=s.toks) (fun b o hb q=>he' b o hb q) f0 f1 f3 f4 f5⟩
 self:=fun A i s Q E st h=>let ⟨⟨_,he⟩,_⟩:=st; wpAny_pyIter_enum he h
abbrev Fe (K:PySem.W.Frag) (ta:TA):TI:=fun σ H R=>ta σ H fun vs H1=>∃ a xs,vs=[.ref a]∧((SqL K H1 a xs∧R (Ite K a) H1)∨(SqT K H1 a xs∧R (Itu K a) H1))
theorem BE {X:Cx} {e:Expr} {ta:TA} {p pos tpos:Pos} {elts:List Expr} {kk:Nat} (hg:Gl X "enumerate") (hm:X.mg "enumerate" = none) (ha:PA X [e] ta) (hs:starEach [e] X.env=[(false,eval e X.env)]) :
 PI X (.Tuple elts kk tpos) (.Call (.Name "enumerate" p) [e] [] pos) (Fe X.K ta):=by
 refine ⟨fun pins s σ H R I h=>Call_ (ld_blt I hg hm boot_enumerate (PyProof.Rows.callWith_type1 (thn (ha.run pos pins s σ H _ I h) fun us s1 ⟨vs,H1,I1,r1,a,xs,ex,q⟩=>?_) hs rfl))⟩
 subst ex
 cases r1 with
 | cons r rr =>
   cases rr
   cases r
   have big:∀ b,b=s1.heap.objs.size + 1∨b=s1.heap.objs.size→s1.heap.objs.size≤b:=fun b z=>by
    rcases z with z | z
    ·rw [z]; exact Nat.le_add_right _ _
    ·rw [z]; exact Nat.le_refl _
   rcases q with ⟨hq,q⟩ | ⟨hq,q⟩
   ·obtain ⟨its,rv,p',hz⟩:=I1.list hq
    refine call_enumerate_list p'.isList fun h' he hit hsz hk=>wpAny_pyIter_enum he ?_
    refine ⟨s1.heap.objs.size + 1,[s1.heap.objs.size + 1,s1.heap.objs.size],_,_,H1,rfl,I1.kept (t':=s1.toks) hk,turn_enum a (s1.heap.objs.size + 1) s1.heap.objs.size,⟨⟨.none,he⟩,hit,Nat.succ_ne_self _⟩,fun b hb=>?_,q⟩
    have hle:=big b (by simpa using hb)
    exact I1.fpOk hle (I1.hok.fresh hle)
   ·obtain ⟨its,rv,p',hz⟩:=I1.tuple hq
    have pt:s1.heap.IsTuple a its.toArray:=p'
    refine Fd (begins_tuple a its.toArray) pt fun h' he hit hk=>wpAny_pyIter_enum he ?_
    refine ⟨s1.heap.objs.size + 1,[s1.heap.objs.size + 1,s1.heap.objs.size],_,_,H1,rfl,I1.kept (t':=s1.toks) hk,xG a (s1.heap.objs.size + 1) s1.heap.objs.size,⟨⟨.none,he⟩,⟨_,hit,rfl,rfl⟩,Nat.succ_ne_self _⟩,fun b hb=>?_,q⟩
    have hle:=big b (by simpa using hb)
    exact I1.fpOk hle (I1.hok.fresh hle)
def ja:Nat→List D→List D
 | _,[]=>[]
 | i,d :: ds=>.tup [.int (i:Nat),d] :: ja (i + 1) ds
theorem fk:∀ (i:Nat) (ds:List D),(ja i ds).length=ds.length
 | _,[]=>rfl
 | i,d :: ds=>by show (ja (i + 1) ds).length + 1=_; rw [fk (i + 1) ds] <;> rfl
theorem mF:∀ (k:Nat) (ds:List D) (i:Nat) (d:D),ds[i]? = some d→(ja k ds)[i]? = some (.tup [.int ((k + i:Nat)),d])
 | _,[],_,_,h=>by simp at h
 | k,d' :: ds,0,d,h=>by simp at h; subst h; rfl
 | k,d' :: ds,i + 1,d,h=>by
   have:=mF (k + 1) ds i d (by simpa using h)
   rw [show k + 1 + i=k + (i + 1) by omega] at this
   simpa [ja] using this
theorem vg {K:PySem.W.Frag} {G F:Hp} {S:Sto} {H:Hp} {T:Addr} {i:Nat} {d:D} {v:V} (w:Wd K G F S H) (hT:H T=none) (r:Rep K F d v):∃ F2,Le F F2∧Wd K G F2 S (upd H T (.tup [.int (i:Nat),v]))∧Rep K F2 (.tup [.int (i:Nat),d]) (.ref T):=by
 obtain ⟨w',l'⟩:=w.newF (.tup [.int (i:Nat),v]) hT
 exact ⟨_,l',w',T,_,rfl,SqT.of upd_same,⟨_,_,rfl,rfl,Reps.one (r.le l')⟩,by show 2≤sizeLine; decide⟩
theorem tu {K:PySem.W.Frag} {G F:Hp} {a:Addr} {ds:List D} {k:Ck} (z:ds.length≤sizeLine)
 (st:∀ G1 F1 S1 H,Le G G1→Le F F1→Wd K G1 F1 S1 H→chk k S1 True→∃ us,SqL K H a us∧Reps K F1 ds us):IterOk K G F (ja 0 ds) k (Ite K a):=by
 refine ⟨⟨fun i H hi ⟨F1,S1,l,w,c⟩=>?_,fun H ⟨F1,S1,l,w,c⟩=>?_,fun i H x H' hi _ y G1 F1 S1 lg l w c=>?_⟩,by rw [fk]; exact z⟩
 ·rw [fk] at hi
  obtain ⟨us,h1,h2⟩:=st G F1 S1 H Le.rfl' l w c
  obtain ⟨v,h3,_⟩:=h2.at (i:=i) (d:=ds[i]) (by simp [hi])
  exact ⟨us,v,h1,h3⟩
 ·obtain ⟨us,h1,h2⟩:=st G F1 S1 H Le.rfl' l w c
  exact ⟨us,h1,by rw [h2.len,fk]; exact Nat.le_refl _⟩
 ·obtain ⟨us,h1,h2⟩:=st G1 F1 S1 H lg l w c
  obtain ⟨T,v,rfl,hT,rfl,y⟩:=y
  obtain ⟨d,h3,h4⟩:=h2.at' (y us h1)
  obtain ⟨F2,l2,w2,r2⟩:=vg (i:=i) w hT h4
  exact ⟨_,F2,by rw [mF 0 ds i d h3,Nat.zero_add],l2,w2,r2⟩
theorem C9 {K:PySem.W.Frag} {G F:Hp} {a:Addr} {ds:List D} {vs:List V} {k:Ck} (hs:SqT K F a vs) (rs:Reps K F ds vs) (z:ds.length≤sizeLine):IterOk K G F (ja 0 ds) k (Itu K a):=by
 refine ⟨⟨fun i H hi ⟨F1,S1,l,w,c⟩=>?_,fun H ⟨F1,S1,l,w,c⟩=>?_,fun i H x H' hi _ y G1 F1 S1 lg l w c=>?_⟩,by rw [fk]; exact z⟩
 ·rw [fk] at hi
  obtain ⟨v,h3,_⟩:=rs.at (i:=i) (d:=ds[i]) (by simp [hi])
  exact ⟨vs,v,SqT.le (l.trans w.fr) hs,h3⟩
 ·exact ⟨vs,SqT.le (l.trans w.fr) hs,by rw [rs.len,fk]; exact Nat.le_refl _⟩
 ·obtain ⟨T,v,rfl,hT,rfl,y⟩:=y
  obtain ⟨d,h3,h4⟩:=rs.at' (y vs (SqT.le (l.trans w.fr) hs))
  obtain ⟨F2,l2,w2,r2⟩:=vg (i:=i) w hT (h4.le l)
  exact ⟨_,F2,by rw [mF 0 ds i d h3,Nat.zero_add],l2,w2,r2⟩
def dO (t:HTA):HTI:=fun env S R E=>t env S (fun ds S1=>match ds with
 | [x]=>match items S1 x with
   | some xs=>R (ja 0 xs) (Ai x xs) S1
   | none=>False
 | _=>False) E
section
variable {B:Bs} {e:Expr} {tr:HTA} {p pos tpos:Pos} {elts:List Expr} {kk:Nat}
theorem pZ (gn:Gn B "enumerate") (hm:B.mg "enumerate" = none) (ha:HA B [e] tr) (hs:∀ env,starEach [e] env=[(false,eval e env)]:=by intro _; rfl):HI B (.Tuple elts kk tpos) (.Call (.Name "enumerate" p) [e] [] pos) (dO tr) :=
 ⟨fun X W ok tk=>PI.imp (BE (ok.gl gn) (by rw [ok.em]; exact hm) (ha.run X W ok tk) (hs _)) fun σ H R ⟨G,F,S,env,R0,E0,rn,wd,h,hr,he⟩ =>
  ⟨G,F,S,env,_,E0,rn,wd,h,fun ds vs F1 S1 H1 l1 w1 r1 h1=>by
   dsimp only at h1
   split at h1
   ·rename_i x
    obtain ⟨v,rfl,r⟩:=r1.one_inv
    split at h1
    ·rename_i xs ed
     rw [ok.eK]
     cases x with
     | tup es =>
       cases ed
       obtain ⟨a,us,rfl,hs,rs,z⟩:=r
       exact ⟨a,us,rfl,.inr ⟨SqT.le w1.fr hs,hr _ _ F1 S1 H1 _ l1 w1 (fun _=>C9 hs rs z) h1⟩⟩
     | lst es =>
       cases ed
       obtain ⟨a,us,rfl,hs,rs,z⟩:=r
       exact ⟨a,us,rfl,.inl ⟨SqL.of (w1.fr _ _ hs),hr _ _ F1 S1 H1 _ l1 w1 (fun _=>tu z fun G2 F2 S2 H2 lg l2 w2 _=>⟨us,SqL.of (w2.fr _ _ (l2 _ _ hs)),rs.le l2⟩) h1⟩⟩
     | rls es =>
       cases ed
       obtain ⟨a,us,rfl,hs,rs,z⟩:=r
       exact ⟨a,us,rfl,.inl ⟨SqL.le w1.fr hs,hr _ _ F1 S1 H1 _ l1 w1 (fun _=>tu z fun G2 F2 S2 H2 lg l2 w2 _=>⟨us,SqL.le (l2.trans w2.fr) hs,rs.le l2⟩) h1⟩⟩
     | ref q =>
       obtain rfl:v = .ref q:=r
       simp only [items] at ed
       split at ed
       ·rename_i es eq
        cases ed
        obtain ⟨us,g1,g2,g3⟩:=io w1 eq
        exact ⟨q,us,rfl,.inl ⟨SqL.of g1,hr _ _ F1 S1 H1 _ l1 w1 (fun _=>tu g3 fun G2 F2 S2 H2 lg l2 w2 c=>by
         obtain ⟨us,k1,k2,_⟩:=io w2 c.1
         exact ⟨us,SqL.of k1,k2⟩) h1⟩⟩
       ·cases ed
     | _=>cases ed
    ·exact h1.elim
   ·exact h1.elim,he⟩⟩
end
structure HInOwn (B:Bs) (k c:Nat) (sp:HSp):Prop where
 ex:∃ f,PySem.W.findIn B.K (.ref (cad B.K c)) "__contains__" = some (some (.ref f))∧PySem.W.isFn B.K (.ref f)=true∧FnAt B k f 2 [] sp
 cl:Cls B.K (cad B.K c)
theorem HInOwn.in_ {B:Bs} {k k' c:Nat} {N:List Str} {sc:Scope} {top:Bool} {own:Str→Bool} {sp:HSp} (h:HInOwn B k c sp):HInOwn ⟨B.P,B.w,B.K,B.mg,B.base,k',N,sc,top,own⟩ k c sp:=⟨let ⟨f,a,b,d⟩:=h.ex; ⟨f,a,b,⟨d.ex⟩⟩,h.cl⟩
theorem HInOwn.mono {B:Bs} {j k c:Nat} {sp:HSp} (h:HInOwn B j c sp) (l:j≤k):HInOwn B k c sp:=⟨let ⟨f,a,b,d⟩:=h.ex; ⟨f,a,b,d.mono l⟩,h.cl⟩
def vh (c:Nat) (sp:HSp) (neg:Bool) (ta to:HTE):HTE:=fun env S Q E=>ta env S (fun y S1=>to env S1 (fun x S2=>match isC c S2 x with
 | true=>sp [x,y] S2 (fun r S3=>match r with
   | .bl b=>Q (.bl (ng neg b)) S3
   | _=>False) (fun _ _=>False)
 | false=>False) E) E
section
variable {B:Bs} {k c:Nat} {sp:HSp} {a b o:Expr} {ta tb to:HTE} {pos:Pos}
end
structure HGetOwn (B:Bs) (k c:Nat) (sp:HSp):Prop where
 ex:∃ f,PySem.W.findIn B.K (.ref (cad B.K c)) "__getitem__" = some (some (.ref f))∧PySem.W.isFn B.K (.ref f)=true∧PySem.W.fnIn B.K f=true∧FnAt B k f 2 [] sp
 cl:Cls B.K (cad B.K c)
theorem HGetOwn.in_ {B:Bs} {k k' c:Nat} {N:List Str} {sc:Scope} {top:Bool} {own:Str→Bool} {sp:HSp} (h:HGetOwn B k c sp):HGetOwn ⟨B.P,B.w,B.K,B.mg,B.base,k',N,sc,top,own⟩ k c sp:=⟨let ⟨f,a,b,d,e⟩:=h.ex; ⟨f,a,b,d,⟨e.ex⟩⟩,h.cl⟩
theorem HGetOwn.mono {B:Bs} {j k c:Nat} {sp:HSp} (h:HGetOwn B j c sp) (l:j≤k):HGetOwn B k c sp:=⟨let ⟨f,a,b,d,e⟩:=h.ex; ⟨f,a,b,d,e.mono l⟩,h.cl⟩
def ow (c:Nat) (sp:HSp) (to ti:HTE):HTE:=fun env S Q E=>to env S (fun x S1=>ti env S1 (fun y S2=>match isC c S2 x with
 | true=>sp [x,y] S2 Q E
 | false=>False) E) E
section
variable {X:Cx} {CX':CXT} {k:Nat} {f:Addr} {fd:FuncData} {ps:List Str} {sp:Sp} {E:L2.St→XK}
end
section
variable {B:Bs} {k c:Nat} {sp:HSp} {o i:Expr} {to ti:HTE} {pos:Pos}
end
theorem y0 {B:Bs} {c k:Nat} {f:Addr} {fd:FuncData} {ps:List Str} (ok:ExcOk B.K c) (mg:B.mg (eX c)=some (.ref (cad B.K c))) (hm:Meth B.K (cad B.K c) "__init__" f) (hb:Binds B.K fd ps []) (h:FnOk B.P B.w B.K B.mg B.base (CX B.P B.w) k f fd ps (mE B.K c)):HExc B k c :=
 ⟨mg,ok,f,fd,ps,hm.at_,beq_iff_eq.mp hm.fn,hb,h⟩
section
variable {B:Bs} {pos' spos:Pos} {x y:Str} {i j:Nat} {e1 e2:Expr} {ta tb:HTE}
end
section
variable {B:Bs} {a b c e o:Expr} {ta tb tc to:HTE} {tr:HTA} {x y z:Str} {px py pz pt pos apos:Pos} {kt k2:Nat} {pt2:Pos} {i j l:Nat}
def oy (i j l:Nat) (ta:HTA):HTS:=fun D env S=>ta env S (fun ds S1=>match ds with
 | [d1,d2,d3]=>D.nx (((env.set i (some d1)).set j (some d2)).set l (some d3)) S1
 | _=>False) fun x S1=>D.ex x env S1
end
def se (ix:Nat→Option Nat) (g:G2) (to te:HTE):HTS:=fun D env S=>to env S (fun x S1=>match x with
 | .ref q=>match S1 q with
   | some (.ins c ds)=>match ix c with
     | some i=>match ds[i]? with
       | some d=>te env S1 (fun y S2=>g d y S2 fun z S3=>match S3 q with
         | some (.ins c' ds')=>match Nat.beq c' c with
           | true=>match Bp ds' i z with
             | some es=>D.nx env (up S3 q (.ins c' es))
             | none=>False
           | false=>False
         | _=>False) fun x S2=>D.ex x env S2
       | none=>False
     | none=>False
   | _=>False
 | _=>False) fun x S1=>D.ex x env S1
section
variable {B:Bs} {a b e o:Expr} {ta tb te to:HTE} {f:Str} {ix:Nat→Option Nat} {pos pos':Pos}
end
def iU (g g':G2) (ta tb tc:HTE):HTE:=fun env S Q E=>ta env S (fun x S1=>tb env S1 (fun y S2=>g x y S2 fun z S3=>match z with
 | .bl true=>tc env S3 (fun w S4=>g' y w S4 Q) E
 | .bl false=>Q (.bl false) S3
 | _=>False) E) E
theorem Ff {K:PySem.W.Frag} {W:WX} {g g':G2} {r r':R2} (hg:im K g r) (hg':im K g' r') (ta tb tc:HTE) (σ:St) (H:Hp) (Q:VK) (h:lE K W (iU g g' ta tb tc) σ H Q):tChain r r' (lE K W ta) (lE K W tb) (lE K W tc) σ H Q:=by
 obtain ⟨G,F,S,env,Q0,E0,rn,wd,h,hq,he⟩:=h
 refine ⟨G,F,S,env,_,E0,rn,wd,h,fun d v F1 S1 H1 l1 w1 r1 h1=>?_,he⟩
 refine ⟨G,F1,S1,env,_,E0,rn.le l1,w1,h1,fun d2 v2 F2 S2 H2 l2 w2 r2 h2=>?_,he.le l1⟩
 refine hg G F2 S2 H2 d v d2 v2 _ _ w2 (r1.le l2) r2 h2 fun z zv F3 S3 H3 l3 w3 r3 h3=>?_
 split at h3
 ·cases r3
  refine ⟨true,rfl,?_⟩
  rw [if_pos rfl]
  have l:=l1.trans (l2.trans l3)
  exact ⟨G,F3,S3,env,_,E0,rn.le l,w3,h3,fun d4 v4 F4 S4 H4 l4 w4 r4 h4=>hg' G F4 S4 H4 d2 v2 d4 v4 Q0 _ w4 (r2.le (l3.trans l4)) r4 h4 (hq.le (l.trans l4)),he.le l⟩
 ·cases r3
  refine ⟨false,rfl,?_⟩
  rw [if_neg (by decide)]
  exact hq (.bl false) _ F3 S3 H3 (l1.trans (l2.trans l3)) w3 rfl h3
 ·exact h3.elim
section
variable {B:Bs} {a b c:Expr} {ta tb tc:HTE} {pos:Pos}
theorem Fg {op op':CmpOp} {g g':G2} {r r':PySem.W.Frag→R2} (ho:∀ X,OkC B X→OpR X (compareOp op) (r X.K)) (ho':∀ X,OkC B X→OpR X (compareOp op') (r' X.K)) (hg:im B.K g (r B.K)) (hg':im B.K g' (r' B.K)) (ha:HE B a ta) (hb:HE B b tb) (hc:HE B c tc)
 (hm:lastMarks [op,op'] [b,c]=false):HE B (.Compare a [op,op'] [b,c] pos) (iU g g' ta tb tc) :=
 ⟨fun X W ok tk=>PE.imp (pe_chain (by have:=ho X ok; rw [ok.eK] at this; exact this) (by have:=ho' X ok; rw [ok.eK] at this; exact this) (ha.run X W ok tk) (hb.run X W ok tk) (hc.run X W ok tk) hm) fun σ H Q h=>Ff hg hg' ta tb tc σ H Q h⟩
theorem GD (ha:HE B a ta) (hb:HE B b tb) (hc:HE B c tc):HE B (.Compare a [.LtE,.LtE] [b,c] pos) (iU gLe gLe ta tb tc):=Fg (r:=fun _=>_) (r':=fun _=>_) (fun X _=>op_le.or op_le_str) (fun X _=>op_le.or op_le_str) iK iK ha hb hc (nomark _)
end
section
variable {B:Bs} {p p2 pos:Pos} {c:Nat}
end
def nk (x:Str) (ss:List Str):Pr:=fun K=>He.tupB K x (ss.map He.Dv.str)
theorem sf {K:PySem.W.Frag} (F:Hp):∀ ss:List Str,Reps K F (ss.map D.str) (ss.map V.str)
 | []=>rfl
 | s :: ss=>⟨_,_,rfl,rfl,sf F ss⟩
theorem jb {K:PySem.W.Frag} {x:Str} {ss:List Str} (hl:ss.length≤1000) (h:nk x ss K=true) (F:Hp):Rep K F (.tup (ss.map D.str)) (.ref (He.ga K x)):=by
 have q:=He.tupB_ok h F
 have e:(ss.map He.Dv.str).map (He.Dv.v K)=ss.map V.str:=by rw [List.map_map] <;> rfl
 rw [e] at q
 exact ⟨He.ga K x,ss.map V.str,rfl,q,sf F ss,by rw [List.length_map]; exact yO hl⟩
def hO:D→Option Key
 | .int i=>some (.inl i)
 | .str s=>some (.inr s)
 | _=>none
theorem mG {K:PySem.W.Frag} {F:Hp} {d:D} {v:V} {k:Key} (r:Rep K F d v) (e:hO d=some k):v=kV k:=by
 cases d <;> first | (simp [hO] at e; done) | (simp [hO] at e; subst e; cases r; rfl)
def gh (kvs:List (Key × D)) (k:Key):Option D:=(kvs.find? fun kv=>decide (kv.1=k)).map (·.2)
theorem tw {K:PySem.W.Frag} {F:Hp} {k:Key}:∀ {kvs:List (Key × D)} {vs:List V},Reps K F (kvs.map (·.2)) vs→(∀ d,gh kvs k=some d→∃ v,valV ((kvs.map (·.1)).zip vs) k=some v∧Rep K F d v)∧(gh kvs k=none→valV ((kvs.map (·.1)).zip vs) k=none)
 | [],_,r=>by cases r; exact ⟨fun d h=>(by cases h),fun _=>rfl⟩
 | (k0,d0) :: kvs,_,r=>by
   obtain ⟨v,ws,rfl,r1,r2⟩:=r
   have ih:=tw (k:=k) r2
   by_cases e:k0=k
   ·have e1:gh ((k0,d0) :: kvs) k=some d0:=by simp [gh,List.find?_cons,e]
    rw [e1]
    refine ⟨fun d h=>?_,fun h=>(by cases h)⟩
    cases h
    exact ⟨v,valV_pos e,r1⟩
   ·have e1:gh ((k0,d0) :: kvs) k=gh kvs k:=by simp [gh,List.find?_cons,e]
    rw [e1]
    have e2:valV ((((k0,d0) :: kvs).map (·.1)).zip (v :: ws)) k=valV ((kvs.map (·.1)).zip ws) k:=valV_neg e
    rw [e2]
    exact ih
def fB:G2:=fun x y S Q=>match x with
 | .ref q=>match S q with
   | some (.dct kvs)=>match hO y with
     | some k=>match gh kvs k with
       | some d=>Q d S
       | none=>False
     | none=>False
   | _=>False
 | _=>False
abbrev zc:R2:=fun x y H Q=>∃ a v,x = .ref a∧DGet H a y (some v)∧Q v H
theorem BF {K:PySem.W.Frag}:im K fB zc:=by
 intro G F S H d1 v1 d2 v2 Q0 Q w r1 r2 h hq
 unfold fB at h
 split at h
 ·rename_i q
  obtain rfl:v1 = .ref q:=r1
  split at h
  ·rename_i kvs e
   split at h
   ·rename_i k ek
    split at h
    ·rename_i d ed
     obtain ⟨vs,h1,h2⟩:=pW w e
     obtain ⟨v,h3,h4⟩:=(tw h2).1 d ed
     obtain rfl:=mG r2 ek
     have g:=DGet.k (k:=k) h1
     rw [h3] at g
     exact ⟨q,v,rfl,g,hq d v F S H Le.rfl' w h4 h⟩
    ·exact h.elim
   ·exact h.elim
  ·exact h.elim
 ·exact h.elim
section
variable {B:Bs} {a b:Expr} {ta tb:HTE} {pos:Pos}
theorem BG (ha:HE B a ta) (hb:HE B b tb) (hs:NoSl b:=by intro _ _; rfl):HE B (.Subscript a b pos) (hop fB ta tb) :=
 ⟨fun X W ok tk=>PE.imp (pe_dget (by have:=ok.room.units; omega) (ha.run X W ok tk) (hb.run X W ok tk) hs) fun σ H Q h=>lop (r:=zc) BF ta tb σ H Q h⟩
end
section
variable {B:Bs} {a b:Expr} {ta tb:HTE} {pos:Pos}
end
def cX (kvs:List (Key × D)) (k:Key) (d:D):List (Key × D) :=
 if (kvs.any fun kv=>decide (kv.1=k))=true then kvs.map (fun kv=>if kv.1=k then (kv.1,d) else kv) else kvs ++ [(k,d)]
theorem ze {K:PySem.W.Frag} {F:Hp} {k:Key} {d:D} {v:V} (r:Rep K F d v):∀ {kvs:List (Key × D)} {vs:List V},Reps K F (kvs.map (·.2)) vs→((kvs.map (·.1)).zip vs).any (fun kv=>decide (kv.1=k))=kvs.any (fun kv=>decide (kv.1=k)) ∧
 ∃ vs',((kvs.map (·.1)).zip vs).map (fun kv=>if kv.1=k then (kv.1,v) else kv)=((kvs.map fun kv=>if kv.1=k then (kv.1,d) else kv).map (·.1)).zip vs'∧Reps K F ((kvs.map fun kv=>if kv.1=k then (kv.1,d) else kv).map (·.2)) vs'
 | [],_,h=>by cases h; exact ⟨rfl,[],rfl,rfl⟩
 | (k0,d0) :: kvs,_,h=>by
   obtain ⟨w,ws,rfl,r1,r2⟩:=h
   obtain ⟨e1,vs',e2,e3⟩:=ze (k:=k) r r2
   refine ⟨by simp only [List.map_cons,List.zip_cons_cons,List.any_cons,e1],?_⟩
   by_cases e:k0=k
   ·subst e
    refine ⟨v :: vs',?_,?_⟩
    ·simp only [List.map_cons,List.zip_cons_cons,↓reduceIte,e2]
    ·simp only [List.map_cons,↓reduceIte]
     exact ⟨v,vs',rfl,r,e3⟩
   ·refine ⟨w :: vs',?_,?_⟩
    ·simp only [List.map_cons,List.zip_cons_cons,e,↓reduceIte,e2]
    ·simp only [List.map_cons,e,↓reduceIte]
     exact ⟨w,vs',rfl,r1,e3⟩
theorem tA {K:PySem.W.Frag} {F:Hp} {k:Key} {d:D} {v:V} (r:Rep K F d v) {kvs:List (Key × D)} {vs:List V} (h:Reps K F (kvs.map (·.2)) vs) :
 ∃ vs',putK ((kvs.map (·.1)).zip vs) k v=((cX kvs k d).map (·.1)).zip vs'∧Reps K F ((cX kvs k d).map (·.2)) vs':=by
 obtain ⟨e1,vs',e2,e3⟩:=ze (k:=k) r h
 unfold putK cX
 rw [e1]
 by_cases a:(kvs.any fun kv=>decide (kv.1=k))=true
 ·rw [if_pos a,if_pos a]
  exact ⟨vs',e2,e3⟩
 ·rw [if_neg a,if_neg a]
  refine ⟨vs ++ [v],?_,?_⟩
  ·rw [List.map_append,List.zip_append (by rw [h.len,List.length_map,List.length_map])]
   rfl
  ·rw [List.map_append]
   exact h.append (Reps.one r)
def gD (x y z:D) (S:Sto) (Q:Sto→Prop):Prop:=match x with
 | .ref q=>match S q with
   | some (.dct kvs)=>match hO y with
     | some k=>match Nat.ble kvs.length 1000 with
       | true=>Q (up S q (.dct (cX kvs k z)))
       | false=>False
     | none=>False
   | _=>False
 | _=>False
theorem BH {K:PySem.W.Frag} {G F:Hp} {S:Sto} {H:Hp} {x y z:D} {v u t:V} {Q0:Sto→Prop} (w:Wd K G F S H) (rx:Rep K F x v) (ry:Rep K F y u) (rz:Rep K F z t) (h:gD x y z S Q0) {Q:Hp→Prop} (hq:∀ S' H',Wd K G F S' H'→Q0 S'→Q H') :
 ∃ a H4,v = .ref a∧DPut H a u t H4∧Q H4:=by
 unfold gD at h
 split at h
 ·rename_i q
  obtain rfl:v = .ref q:=rx
  split at h
  ·rename_i kvs e
   split at h
   ·rename_i k ek
    split at h
    ·rename_i hl
     obtain ⟨vs,h1,h2⟩:=pW w e
     obtain rfl:=mG ry ek
     obtain ⟨vs',e2,e3⟩:=tA (k:=k) rz h2
     have hlt:((kvs.map (·.1)).zip vs).length < sizeLine:=by
      rw [my h2]
      have:=Nat.le_of_ble_eq_true hl
      rw [sizeLine_eq]; omega
     refine ⟨q,_,rfl,DPut.k h1 hlt,hq _ _ (w.put (m:=.dct (cX kvs k z)) e ⟨vs',by rw [e2],e3⟩) h⟩
    ·exact h.elim
   ·exact h.elim
  ·exact h.elim
 ·exact h.elim
def cE (to ti te:HTE):HTS:=fun D env S=>te env S (fun z S1=>to env S1 (fun x S2=>ti env S2 (fun y S3=>gD x y z S3 fun S4=>D.nx env S4) fun x S3=>D.ex x env S3) fun x S2=>D.ex x env S2) fun x S1=>D.ex x env S1
section
variable {B:Bs} {a b o i e:Expr} {ta tb to ti te:HTE} {tr:HTA} {p pos pos':Pos}
theorem jW (ho:HE B o to) (hi:HE B i ti) (h:HE B e te) (hs:∀ env,swapsWith e (some (.Subscript o i pos')) pos.line env=pure false:=by intro _; rfl):HS B (.Assign [.Subscript o i pos'] e pos) (cE to ti te) :=
 ⟨fun X W ok tk=>PS.imp (ps_dput (by have:=ok.room.units; omega) (ho.run X W ok tk) (hi.run X W ok tk) (h.run X W ok tk) (hs _)) fun D σ H ⟨G,F,S,env,E,rn,wd,h,oo⟩ =>
  ⟨G,F,S,env,_,_,rn,wd,h,fun z t F1 S1 H1 l1 w1 r1 h1 =>
   ⟨G,F1,S1,env,_,_,rn.le l1,w1,h1,fun x v F2 S2 H2 l2 w2 r2 h2 =>
    ⟨G,F2,S2,env,_,_,rn.le (l1.trans l2),w2,h2,fun y u F3 S3 H3 l3 w3 r3 h3 =>
     BH w3 (r2.le l3) r3 (r1.le (l2.trans l3)) h3 fun S' H' w' q=>oo.nx env σ F3 S' H' (l1.trans (l2.trans l3)) w' (rn.le (l1.trans (l2.trans l3))) q,(oo.le (l1.trans l2)).exc (rn.le (l1.trans l2))⟩,(oo.le l1).exc (rn.le l1)⟩,oo.exc rn⟩⟩
def jX:HTE:=fun _ S Q _=>∀ p,S p=none→Q (.ref p) (up S p (.dct []))
theorem Er:HE B (.Dict [] [] pos) jX :=
 ⟨fun X W ok tk=>PE.imp pe_dnewK fun σ H Q ⟨G,F,S,env,Q0,E0,rn,wd,h,hq,he⟩ p hp =>
  hq (.ref p) _ F _ _ Le.rfl' (wd.newS (m:=.dct []) hp ⟨[],rfl,rfl⟩) rfl (h p (wd.freshS hp))⟩
def qc:List (HTE × HTE)→aW→Sto→(List (D × D)→Sto→Prop)→HK→Prop
 | [],_,S,Q,_=>Q [] S
 | (tk,tv) :: r,env,S,Q,E=>tk env S (fun x S1=>tv env S1 (fun y S2=>qc r env S2 (fun ps S3=>Q ((x,y) :: ps) S3) E) E) E
def kb:List (D × D)→Option (List (Key × D))
 | []=>some []
 | (x,y) :: r=>match hO x with
   | some k=>match kb r with
     | some l=>some ((k,y) :: l)
     | none=>none
   | none=>none
def pC (kvs more:List (Key × D)):List (Key × D):=more.foldl (fun acc kv=>cX acc kv.1 kv.2) kvs
def jc (ts:List (HTE × HTE)):HTE:=fun env S Q E=>qc ts env S (fun ps S1=>match kb ps with
 | some kvs=>match Nat.ble kvs.length 15 with
   | true=>∀ p,S1 p=none→Q (.ref p) (up S1 p (.dct (pC [] kvs)))
   | false=>False
 | none=>False) E
inductive HPPs (B:Bs):List (Option Expr)→List Expr→List (HTE × HTE)→Prop where
 | nil:HPPs B [] [] []
 | cons {k v:Expr} {ks:List (Option Expr)} {vs:List Expr} {tk tv:HTE} {ts:List (HTE × HTE)} (hk:HE B k tk) (hv:HE B v tv) (hr:HPPs B ks vs ts):HPPs B (some k :: ks) (v :: vs) ((tk,tv) :: ts)
abbrev lPs (K:PySem.W.Frag) (W:WX) (ts:List (HTE × HTE)):List (TE × TE):=ts.map fun t=>(lE K W t.1,lE K W t.2)
theorem HPPs.pps {ks:List (Option Expr)} {vs:List Expr} {ts:List (HTE × HTE)} (h:HPPs B ks vs ts) {X:Cx} {W:WX} (ok:OkC B X) (tk:Takes X W):PPs X pos ks vs (lPs B.K W ts):=by
 induction h with
 | nil=>exact pps_nil
 | cons hk hv _ ih=>exact pps_cons (hk.run X W ok tk) (hv.run X W ok tk) ih
theorem HPPs.len {ks:List (Option Expr)} {vs:List Expr} {ts:List (HTE × HTE)} (h:HPPs B ks vs ts):ks.length=ts.length:=by
 induction h with
 | nil=>rfl
 | cons _ _ _ ih=>simp [ih]
def Fh (K:PySem.W.Frag) (F:Hp):List (D × D)→List (V × V)→Prop
 | [],vs=>vs=[]
 | (d,e) :: ds,vs=>∃ v u ws,vs=(v,u) :: ws∧Rep K F d v∧Rep K F e u∧Fh K F ds ws
theorem vi {K:PySem.W.Frag} {W:WX} {σ:L2.St} {G:Hp} {env:aW} {E0:HK}:∀ (ts:List (HTE × HTE)) (F:Hp) (S:Sto) (H:Hp) (Q0:List (D × D)→Sto→Prop) (Q:List (V × V)→Hp→Prop),RepN K F env σ→Wd K G F S H→qc ts env S Q0 E0 →
 (∀ ps vs F' S' H',Le F F'→Wd K G F' S' H'→Fh K F' ps vs→Q0 ps S'→Q vs H')→OkE K G F E0 (WE W σ)→tPairs (lPs K W ts) σ H Q
 | [],F,S,H,Q0,Q,rn,wd,h,hq,he=>hq [] [] F S H Le.rfl' wd rfl h
 | (tk,tv) :: ts,F,S,H,Q0,Q,rn,wd,h,hq,he =>
   ⟨G,F,S,env,_,E0,rn,wd,h,fun d v F1 S1 H1 l1 w1 r1 h1 =>
    ⟨G,F1,S1,env,_,E0,rn.le l1,w1,h1,fun e u F2 S2 H2 l2 w2 r2 h2 =>
     vi ts F2 S2 H2 _ _ (rn.le (l1.trans l2)) w2 h2 (fun ps vs F3 S3 H3 l3 w3 r3 h3=>hq ((d,e) :: ps) ((v,u) :: vs) F3 S3 H3 (l1.trans (l2.trans l3)) w3 ⟨v,u,vs,rfl,r1.le (l2.trans l3),r2.le l3,r3⟩ h3) (he.le (l1.trans l2)),he.le l1⟩,he⟩
theorem zf {K:PySem.W.Frag} {F:Hp}:∀ {ps:List (D × D)} {vs:List (V × V)} {kvs:List (Key × D)},Fh K F ps vs→kb ps=some kvs→∃ ws,vs=((kvs.map (·.1)).zip ws).map (fun kv=>(kV kv.1,kv.2))∧Reps K F (kvs.map (·.2)) ws∧kvs.length=ps.length
 | [],_,_,r,e=>by
   cases r
   simp only [kb,Option.some.injEq] at e
   subst e
   exact ⟨[],rfl,rfl,rfl⟩
 | (x,y) :: ps,_,kvs,r,e=>by
   obtain ⟨v,u,ws,rfl,r1,r2,r3⟩:=r
   simp only [kb] at e
   split at e
   ·rename_i k ek
    split at e
    ·rename_i l el
     cases e
     obtain ⟨us,e1,e2,e3⟩:=zf r3 el
     obtain rfl:=mG r1 ek
     refine ⟨u :: us,?_,⟨u,us,rfl,r2,e2⟩,by simp [e3]⟩
     rw [e1] <;> rfl
    ·cases e
   ·cases e
theorem si {K:PySem.W.Frag} {F:Hp}:∀ {more:List (Key × D)} {ws:List V} {kvs:List (Key × D)} {vs:List V},Reps K F (more.map (·.2)) ws→Reps K F (kvs.map (·.2)) vs →
 ∃ vs',mergeK ((kvs.map (·.1)).zip vs) ((more.map (·.1)).zip ws)=((pC kvs more).map (·.1)).zip vs'∧Reps K F ((pC kvs more).map (·.2)) vs'
 | [],_,kvs,vs,r,h=>⟨vs,rfl,h⟩
 | (k,d) :: more,_,kvs,vs,r,h=>by
   obtain ⟨w,ws,rfl,r1,r2⟩:=r
   obtain ⟨vs1,e1,h1⟩:=tA (k:=k) r1 h
   obtain ⟨vs2,e2,h2⟩:=si (kvs:=cX kvs k d) r2 h1
   refine ⟨vs2,?_,h2⟩
   show mergeK (putK ((kvs.map (·.1)).zip vs) k w) ((more.map (·.1)).zip ws)=_
   rw [e1]
   exact e2
theorem Es {ks:List (Option Expr)} {vs:List Expr} {ts:List (HTE × HTE)} (h:HPPs B ks vs ts) (hall:ks.all (·.isSome)=true:=by rfl) (hl:ks.length=vs.length:=by rfl) (h0:ks ≠ []:=by simp) (h15:ks.length≤15:=by decide):HE B (.Dict ks vs pos) (jc ts) :=
 ⟨fun X W ok tk=>PE.imp (pe_disp (h.pps ok tk) hall hl h0 h15) fun σ H Q ⟨G,F,S,env,Q0,E0,rn,wd,q,hq,he⟩=>by
  intro p hp
  have hG:G p=none:=by
   cases e:G p with
   | none=>rfl
   | some o=>rw [(wd.gr p o e).1] at hp; cases hp
  have leG:Le G (upd G p (.dK [])):=Le.upd hG
  refine vi (G:=upd G p (.dK [])) ts F S _ _ _ rn (wd.newG _ hp) q (fun ps us F1 S1 H1 l1 w1 r1 q1=>?_) (fun x cls dd F' S' H' l w r e=>he x cls dd F' S' H' l (w.lessG leG) r e)
  obtain ⟨g1,_,_⟩:=w1.gr p _ upd_same
  refine ⟨g1,?_⟩
  split at q1
  ·rename_i kvs ek
   obtain ⟨ws,e1,e2,e3⟩:=zf r1 ek
   obtain ⟨ws',e4,e5⟩:=si (kvs:=[]) (vs:=[]) e2 rfl
   split at q1
   ·rename_i h15'
    refine ⟨(kvs.map (·.1)).zip ws,e1,by rw [my e2]; exact Nat.le_of_ble_eq_true h15',?_⟩
    obtain ⟨w2,hS⟩:=(w1.putG (.dK (mergeK [] ((kvs.map (·.1)).zip ws)))).endS (m:=.dct (pC [] kvs)) hG ⟨ws',by rw [← e4] <;> rfl,e5⟩
    exact hq (.ref p) _ F1 _ _ l1 w2 rfl (q1 p hS)
   ·exact q1.elim
  ·exact q1.elim⟩
end
abbrev BI:List V→Hp→VK→Prop:=fun xs H Q=>∃ (a:Addr) (kvs:List (Key × V)),xs=[.ref a]∧Rd H a (.dK kvs)∧∀ p,H p=none→Q (.ref p) (upd H p (.dK kvs))
section
variable {B:Bs} {a b o i e:Expr} {ta tb to ti te:HTE} {tr:HTA} {p pos pos' apos mpos:Pos}
end
section
variable {B:Bs} {a b:Expr} {ta tb:HTE} {pos:Pos}
end
section
variable {X:Cx} {o:Expr} {p pos apos mpos:Pos} {td:TE}
end
section
variable {B:Bs} {o e:Expr} {to te:HTE} {x:Str} {p pos apos mpos:Pos}
end
section
variable {B:Bs} {o e:Expr} {to:HTE} {tr:HTA} {apos pos:Pos}
end
section
variable {B:Bs} {elt:Expr} {gs:List Comprehension} {scope:Scope} {te:HTE} {i:Nat} {y:Str} {py pos spos:Pos}
end
abbrev Tbl:=List (Str × Str)
def Tbl.at_ (t:Tbl) (z:Str):Option Str:=(t.find? fun kv=>kv.1 == z).map (·.2)
def Et (x:Str) (t:Tbl):Pr:=fun K=>t.all fun kv=>match PySem.W.nsIn K (He.ga K x) kv.1 with
 | some (some (.str v _))=>decide (t.at_ kv.1=some v)
 | _=>false
structure TabOk (K:PySem.W.Frag) (w:World) (a:Addr) (t:Tbl):Prop where
 kd:∃ es n,KDict K w a es n
 some_:∀ z v,t.at_ z=some v→∃ k,PySem.W.nsIn K a z=some (some (.str v k))
 none_:∀ z,t.at_ z=none→PySem.W.nsIn K a z=some none
theorem sj {P:Params}:∀ {l:List DictEntry} {ks:List Str},l.map He.keyOf=He.keysIn P ks→(∀ e ∈ l,∃ k t,k ∈ ks∧e.key = .str k t)
 | [],_,_=>fun e he=>by cases he
 | e :: r,[],h=>by cases h
 | e :: r,k :: ks,h=>by
   have h1:He.keyOf e :: r.map He.keyOf=some (k,PyData.keyHash P k) :: He.keysIn P ks:=h
   injection h1 with h2 h3
   intro e' he
   rcases List.mem_cons.mp he with rfl | he
   ·unfold He.keyOf at h2
    split at h2
    ·rename_i x t q
     obtain ⟨h5,h6⟩:=Prod.mk.inj (Option.some.inj h2)
     exact ⟨x,t,by rw [h5]; exact zMs,q⟩
    ·cases h2
   ·obtain ⟨k',t,h4,h5⟩:=sj h3 e' he
    exact ⟨k',t,zMt h4,h5⟩
theorem Fi {K:PySem.W.Frag} {w:World} {x:Str} {t:Tbl} (h1:Et x t K=true) (h2:He.dicW K (He.ga K x)=some (He.keysIn w.params (t.map (·.1)))):TabOk K w (He.ga K x) t:=by
 refine ⟨He.dicW_ok h2,fun z v hz=>?_,fun z hz=>?_⟩
 ·unfold Tbl.at_ at hz
  obtain ⟨kv,h3,h4⟩:=Option.map_eq_some_iff.mp hz
  have hm:=List.mem_of_find?_eq_some h3
  have hk0:(kv.1 == z)=true:=List.find?_some (p:=fun kv:Str × Str=>kv.1 == z) h3
  have hk:kv.1=z:=LawfulBEq.eq_of_beq hk0
  have:=List.all_eq_true.mp h1 kv hm
  rw [hk] at this
  split at this
  ·rename_i v' k e
   have:=of_decide_eq_true this
   unfold Tbl.at_ at this
   rw [h3] at this
   have h6:kv.2=v':=Option.some.inj this
   rw [h4] at h6
   subst h6
   exact ⟨k,e⟩
  ·cases this
 ·obtain ⟨es,n,kd⟩:=He.dicW_ok h2
  have hd:He.dicW K (He.ga K x)=(match decide (("dict" : String) = "dict") && ((#[]:Array (Option Value)).isEmpty && !((He.ga K x) == sysModules)) with
   | true=>some (es.toList.map He.keyOf)
   | false=>none):=by
   unfold He.dicW
   rw [kd.at_]
   rfl
  rw [hd,kd.low] at h2
  have h3:es.toList.map He.keyOf=He.keysIn w.params (t.map (·.1)):=Option.some.inj h2
  have h4:=sj h3
  unfold PySem.W.nsIn
  rw [kd.at_]
  dsimp only
  have h5:es.toList.find? (·.key.isStr z)=none:=by
   rw [List.find?_eq_none]
   intro e he hs
   obtain ⟨k,tk,h6,h7⟩:=h4 e he
   rw [h7] at hs
   have hkz:k=z:=LawfulBEq.eq_of_beq hs
   obtain ⟨kv,h8,h9⟩:=List.mem_map.mp h6
   unfold Tbl.at_ at hz
   have h10:=List.find?_eq_none.mp (Option.map_eq_none_iff.mp hz) kv h8
   rw [h9,hkz] at h10
   exact h10 (beq_self_eq_true z)
  rw [h5]
  dsimp only
  have h6:es.toList.any (·.refKey)=false:=by
   rw [List.any_eq_false]
   intro e he
   obtain ⟨k,tk,_,h7⟩:=h4 e he
   unfold DictEntry.refKey
   rw [h7]
   exact Bool.false_ne_true
  rw [h6]
  rfl
section
variable {B:Bs} {e:Expr} {te:HTE} {x:Str} {t:Tbl} {p pos:Pos}
end
structure BookT where
 bk:Book
 ts:List (Str × Tbl)
def BookT.seen (b:BookT) (K:PySem.W.Frag):He.AlT:=(b.bk.seen K,b.ts.map fun t=>He.dicW K (He.ga K t.1))
def BookT.due (b:BookT) (w:World):He.AlT:=(b.bk.due,b.ts.map fun t=>some (He.keysIn w.params (t.2.map (·.1))))
def BookT.look (b:BookT) (n:Nat) (g:Addr→Option Obj):He.AlT:=b.seen (He.frG g (cStatics :: He.asD g n))
theorem BookT.b {b:BookT} {K:PySem.W.Frag} {w:World} (c:b.seen K=b.due w):b.bk.seen K=b.bk.due:=congrArg (fun z:He.AlT=>z.1) c
theorem BookT.tab {b:BookT} {K:PySem.W.Frag} {w:World} (c:b.seen K=b.due w) (i j:Nat) {x:Str} {t:Tbl} (h:b.ts[i]? = some (x,t):=by rfl) (h2:b.bk.ex[j]? = some (Et x t):=by rfl):TabOk K w (He.ga K x) t:=by
 refine Fi (Book.more (BookT.b c) j h2) ?_
 have e:(b.ts.map fun t=>He.dicW K (He.ga K t.1))=b.ts.map fun t=>some (He.keysIn w.params (t.2.map (·.1))):=congrArg (fun z:He.AlT=>z.2) c
 have e2:(b.ts.map fun t=>He.dicW K (He.ga K t.1))[i]? = (b.ts.map fun t=>some (He.keysIn w.params (t.2.map (·.1))))[i]?:=by rw [e]
 rw [List.getElem?_map,List.getElem?_map,h] at e2
 exact Option.some.inj e2
section
variable {B:Bs} {a:Expr} {tr:HTA} {p pos:Pos}
end
end Hy
namespace Hy
open PySem PySem.Spec PyProof.Rows L2
namespace OT
open PySem.SeqAt
open AutoSeq1 (wpAny_loadPart')
open MeetsSeq MeetsSeq2 MeetsSeq3 SeqRoads2
section
variable {prog:Program} {w:World} {A:Around} {R:Result→Shared→Prop}
end
end OT
end Hy
namespace Hy
open PySem PySem.Spec PyProof.Rows L2
section
variable {X:Cx} {pins:List (Addr × Obj)} {σ:L2.St} {H:Hp} {s:Shared}
end
section
variable {B:Bs} {a b:Expr} {ta tb:HTE} {pos:Pos} {k c:Nat} {sp:HSp}
end
theorem vj {X:Cx}:CallR X (.type "tuple") (fun xs H Q=>∃ p ys,xs=[.ref p]∧SqL X.K H p ys∧∀ l its,H l=none→Q (.ref l) (upd H l (.frz { cls:=.type "tuple",data:=.seq its } (.tup ys)))):=by
 intro pins s σ H xs us Q I r h
 obtain ⟨p,ys,rfl,hq,q⟩:=h
 obtain ⟨u,rfl,rx⟩:=vals1 r
 cases rx
 obtain ⟨its,r',pl,hz⟩:=I.list hq
 have hlen:=r'.length
 refine call_tuple_list pl.isList (fun h' kp=>?_) (by simp only [List.size_toArray] <;> omega)
 have I1:L2.Inv X pins σ H { s with heap:=h' }:=I.kept (t':=s.toks) kp
 have I2:L2.Inv X pins σ (upd H h'.objs.size (.frz { cls:=.type "tuple",data:=.seq its.toArray } (.tup ys))) { s with heap:=h'.push { cls:=.type "tuple",data:=.seq its.toArray } } :=
  I1.laid (t':=s.toks) (fun b o e=>Heap.get?_push_of_some _ e) zNr (show ObjOk X.prog X.w _ _ _ (.frz { cls:=.type "tuple",data:=.seq its.toArray } (.tup ys)) from ⟨Heap.get?_push_size _ rfl,hz,its,r',IsTup.new _ _⟩)
 exact ⟨.ref h'.objs.size,_,I2,rfl,q _ _ (I1.hok.fresh zNr)⟩
def so:GL:=fun ds S Q=>match ds with
 | [x]=>match bF S x with
   | some xs=>Q (.tpx xs) S
   | none=>False
 | _=>False
abbrev Eu (K:PySem.W.Frag):List V→Hp→VK→Prop:=fun xs H Q=>∃ p ys,xs=[.ref p]∧SqL K H p ys∧∀ l its,H l=none→Q (.ref l) (upd H l (.frz { cls:=.type "tuple",data:=.seq its } (.tup ys)))
theorem BJ {K:PySem.W.Frag}:ro K so (Eu K):=by
 intro G F S H ds vs Q0 Q w r h hq
 unfold so at h
 split at h
 ·rename_i x
  obtain ⟨v,rfl,r1⟩:=r.one_inv
  split at h
  ·rename_i xs e
   obtain ⟨a,us,rfl,h1,h2,h3⟩:=dF w r1 e
   refine ⟨a,us,rfl,h1,fun l its hl=>?_⟩
   obtain ⟨w2,l2⟩:=w.newF (.frz { cls:=.type "tuple",data:=.seq its } (.tup us)) hl
   exact hq (.tpx xs) _ _ S _ l2 w2 ⟨l,us,_,rfl,upd_same,rfl,rfl,h2.le l2,h3⟩ h
  ·exact h.elim
 ·exact h.elim
section
variable {B:Bs} {a:Expr} {tr:HTA} {p pos:Pos}
theorem zg (gn:Gn B "tuple") (hm:B.mg "tuple" = none) (ha:HA B [a] tr) (he:∀ env,starEach [a] env=(false,eval a env) :: starEach [] env:=by intro _; rfl):HE B (.Call (.Name "tuple" p) [a] [] pos) (hcb so tr) :=
 mx (r:=Eu) (fun X _=>vj) BJ gn hm (by decide +kernel) ha (he:=he) (hpl:=fun _=>rfl)
end
def wk:D→D
 | .tpx xs=>.tup xs
 | d=>d
theorem Fj {K:PySem.W.Frag} {F:Hp} {d:D} {v:V} (r:Rep K F d v):Rep K F (wk d) v:=by
 cases d <;> first | exact r | skip
 obtain ⟨a,vs,o,rfl,h1,h2,h3,h4,h5⟩:=r
 exact ⟨a,vs,rfl,.inl (.inr ⟨o,h1⟩),h4,h5⟩
def hWk (t:HTE):HTE:=fun env S Q E=>t env S (fun d S1=>Q (wk d) S1) E
section
variable {B:Bs} {e:Expr} {t:HTE}
theorem hwk (h:HE B e t):HE B e (hWk t) :=
 ⟨fun X W ok tk=>PE.imp (h.run X W ok tk) fun σ H Q ⟨G,F,S,env,Q0,E0,rn,wd,h,hq,he⟩ =>
  ⟨G,F,S,env,_,E0,rn,wd,h,fun d v F1 S1 H1 l1 w1 r1 h1=>hq (wk d) v F1 S1 H1 l1 w1 (Fj r1) h1,he⟩⟩
end
section
variable {B:Bs} {o e:Expr} {to:HTE} {tr:HTA} {apos pos:Pos}
end
section
variable {B:Bs} {a:Expr} {ta:HTE} {pos:Pos}
end
section
variable {B:Bs} {o1 o2 e:Expr} {t1 t2 te:HTE} {pos p1 p2 pt:Pos} {kt:Nat}
end
section
variable {B:Bs} {p pos:Pos}
end
def pa (K:PySem.W.Frag) (c:Nat) (f:Str):Addr:=match PySem.W.findIn K (.ref (cad K c)) f with
 | some (some (.ref p))=>p
 | _=>0
structure HProp (B:Bs) (k c:Nat) (f:Str) (sp:HSp):Prop where
 cl:Cls B.K (cad B.K c)
 pr:∃ p g,PropOf B.K (cad B.K c) f p g∧FnAt B k g 1 [] sp
section
variable {B:Bs} {k k' c:Nat} {N:List Str} {sc:Scope} {top:Bool} {own:Str→Bool} {f:Str} {sp sp':HSp}
theorem HProp.in_ (h:HProp B k c f sp):HProp ⟨B.P,B.w,B.K,B.mg,B.base,k',N,sc,top,own⟩ k c f sp:=⟨h.cl,let ⟨p,g,a,b⟩:=h.pr; ⟨p,g,a,⟨b.ex⟩⟩⟩
theorem HProp.mono {j:Nat} (h:HProp B j c f sp) (l:j≤k):HProp B k c f sp:=⟨h.cl,let ⟨p,g,a,b⟩:=h.pr; ⟨p,g,a,b.mono l⟩⟩
end
section
variable {B:Bs} {k c:Nat} {f:Str} {sp:HSp} {o:Expr} {to:HTE} {pos:Pos}
end
def Book.add (a b:Book):Book:=⟨a.fa ++ b.fa,a.fn ++ b.fn,a.ex ++ b.ex,a.fp ++ b.fp⟩
theorem Book.seen_of {b:Book} {K:PySem.W.Frag} (h1:∀ f ∈ b.fa,f.ok K=true) (h2:∀ d ∈ b.fn,d.ok K=true∧He.fnW K d.at_=d.val) (h3:∀ g ∈ b.ex,g K=true) (h4:∀ d ∈ b.fp,d.ok K=true∧He5.fnA K (d.at_ K)=d.val):b.seen K=b.due:=by
 have e1:b.fine K=true:=by
  unfold Book.fine
  rw [Bool.and_eq_true,Bool.and_eq_true,Bool.and_eq_true]
  exact ⟨List.all_eq_true.mpr h1,List.all_eq_true.mpr fun d hd=>(h2 d hd).1,List.all_eq_true.mpr h3,List.all_eq_true.mpr fun d hd=>(h4 d hd).1⟩
 unfold Book.seen Book.due
 rw [e1,List.map_congr_left fun d hd=>(h2 d hd).2,List.map_congr_left fun d hd=>(h4 d hd).2]
theorem Book.seen_add {a b:Book} {K:PySem.W.Frag} (ha:a.seen K=a.due) (hb:b.seen K=b.due):(a.add b).seen K=(a.add b).due:=by
 obtain ⟨a1,a2,a3,a4⟩:=Book.parts ha
 obtain ⟨b1,b2,b3,b4⟩:=Book.parts hb
 exact Book.seen_of (fun f hf=>(List.mem_append.mp hf).elim (a1 f) (b1 f)) (fun f hf=>(List.mem_append.mp hf).elim (a2 f) (b2 f)) (fun f hf=>(List.mem_append.mp hf).elim (a3 f) (b3 f)) fun f hf=>(List.mem_append.mp hf).elim (a4 f) (b4 f)
def Book.low (b:Book) (n m:Nat):Book:=⟨b.fa.take n,b.fn.take m,[],[]⟩
def Book.high (b:Book) (n m:Nat):Book:=⟨b.fa.drop n,b.fn.drop m,b.ex,b.fp⟩
theorem Book.cut (b:Book) (n m:Nat):(b.low n m).add (b.high n m)=b:=by
 obtain ⟨fa,fn,ex,fp⟩:=b
 unfold Book.add Book.low Book.high
 dsimp only
 rw [List.take_append_drop,List.take_append_drop,List.nil_append,List.nil_append]
def Book.lookR (b:Book) (lo n:Nat) (g:Addr→Option Obj):He.AlD:=b.seen (He.frG g (cStatics :: mainGlobals :: List.range' lo n))
def Book.hookR (b:Book) (lo n:Nat):PySem.W.Hook where
 α:=He.AlD
 obs:=fun s=>b.lookR lo n s.heap.get?
 val:=fun _=>b.due
 says:=fun _ h=>∃ K:PySem.W.Frag,K.In h∧b.seen K=b.due
 of:=fun _ _ e=>⟨_,He.frG_in,e⟩
 keeps:=fun _ _ _ ⟨K,i,c⟩ k=>⟨K,PySem.W.Frag.In.keeps i k,c⟩
theorem Book.lookR_eq {b:Book} {lo n:Nat} {g:Addr→Option Obj} {s:Shared} (h:∀ a,g a=s.heap.get? a):b.lookR lo n g=(b.hookR lo n).obs s:=by
 obtain rfl:g=s.heap.get?:=funext h
 rfl
noncomputable abbrev xH (r:PySem.W.OpenRow) (M:Nat) (w:World) (os:OsState):Option PySem.W.SharedT:=HandSHeadRun.endF (HandSHeadRun.stepQ (HandSHeadRun.denQ HandSHeadRun.tabQ) r.prog w) M r.prog w os
def LookEq (r:PySem.W.OpenRow) (M:Nat) (b:Book) (lo n:Nat) (w:World):Prop:=∀ os:OsState,(xH r M w os).map (fun s=>b.lookR lo n (HandSHeadRun.getT s))=some b.due
theorem LookEq.add {r:PySem.W.OpenRow} {M lo n:Nat} {a b:Book} {w:World} (ha:LookEq r M a lo n w) (hb:LookEq r M b lo n w):LookEq r M (a.add b) lo n w:=fun os=>by
 have h1:=ha os
 have h2:=hb os
 cases e:xH r M w os with
 | none=>rw [e] at h1; cases h1
 | some s =>
   rw [e] at h1 h2
   exact congrArg some (Book.seen_add (Option.some.inj h1) (Option.some.inj h2))
theorem LookEq.of_cut {r:PySem.W.OpenRow} {M lo n:Nat} {b:Book} {w:World} (i j:Nat) (ha:LookEq r M (b.low i j) lo n w) (hb:LookEq r M (b.high i j) lo n w):LookEq r M b lo n w:=by
 have:=ha.add hb
 rwa [Book.cut] at this
def Ev (r:PySem.W.OpenRow) (q:Program) (M:Nat) (loose:List Str) (w:World):Prop:=∀ os:OsState,(xH r M w os).map (fun s=>(HandSHeadRun.looksF r.prog (PySem.W.boot_heap w.params) s.abs,HandSHeadRun.seenQ q loose (PySem.importedModules r.prog.main.body) (fun s=>PySem.W.xlAt q [] s && PySem.W.recOk r.toRowW.records s) s.abs))=some (true,PySem.W.openGood q loose)
theorem Fk {r:PySem.W.OpenRow} {q:Program} {M lo n:Nat} {b:Book} {loose:List Str} {w:World} (h1:Ev r q M loose w) (h2:LookEq r M b lo n w):HandSHeadRun.RunEq r q (b.hookR lo n) (fun s=>b.lookR lo n (HandSHeadRun.getT s)) M loose w:=fun os=>by
 have g1:=h1 os
 have g2:=h2 os
 show (xH r M w os).map _=_
 cases e:xH r M w os with
 | none=>rw [e] at g1; cases g1
 | some s =>
   rw [e] at g1 g2
   have e1:=Option.some.inj g1
   have e2:=Option.some.inj g2
   simp only [Prod.mk.injEq] at e1
   show some (_,_,_)=some (_,_,_)
   rw [e1.1,e1.2,e2]
   rfl
def BookT.lookR (b:BookT) (lo n:Nat) (g:Addr→Option Obj):He.AlT:=b.seen (He.frG g (cStatics :: mainGlobals :: List.range' lo n))
def BookT.hookR (b:BookT) (lo n:Nat):PySem.W.Hook where
 α:=He.AlT
 obs:=fun s=>b.lookR lo n s.heap.get?
 val:=fun w=>b.due w
 says:=fun w h=>∃ K:PySem.W.Frag,K.In h∧b.seen K=b.due w
 of:=fun _ _ e=>⟨_,He.frG_in,e⟩
 keeps:=fun _ _ _ ⟨K,i,c⟩ k=>⟨K,PySem.W.Frag.In.keeps i k,c⟩
theorem BookT.lookR_eq {b:BookT} {lo n:Nat} {g:Addr→Option Obj} {s:Shared} (h:∀ a,g a=s.heap.get? a):b.lookR lo n g=(b.hookR lo n).obs s:=by
 obtain rfl:g=s.heap.get?:=funext h
 rfl
section
variable {B:Bs} {a b:Expr} {ta tb:HTE} {pos:Pos}
end
section
variable {B:Bs} {e o:Expr} {to:HTE} {tr:HTA} {pos apos:Pos}
end
section
variable {B:Bs} {e o:Expr} {to:HTE} {tr:HTA} {pos apos:Pos}
end
section
variable {B:Bs} {e a b c:Expr} {ta tb te:HTE} {tc:HTT} {pos:Pos}
end
section
variable {B:Bs} {a b:Expr} {ta tb:HTE} {pos:Pos}
end
section
variable {B:Bs} {a b:Expr} {ta tb:HTE} {pos:Pos}
end
section
variable {X:Cx} {e:Expr} {es:List Expr} {ta:TA} {p pos:Pos}
end
section
variable {B:Bs} {e:Expr} {es:List Expr} {te:HTE} {tr:HTA} {c k:Nat} {xc:Str} {p p2 pos:Pos}
end
section
variable {B:Bs} {e:Expr} {te:HTE} {xc:Str} {p p2 pos:Pos} {cs:List Nat} {f:Nat→Bool}
end
section
variable {B:Bs} {e:Expr} {te:HTE} {f:Str} {pos:Pos}
end
theorem BK {K:PySem.W.Frag} {G F:Hp} {S:Sto} {H:Hp} {Q0:HK} {Q:VK} {ds:List D} {vs:List V} (w:Wd K G F S H) (r:Reps K F ds vs) (z:ds.length≤sizeLine) (hq:OkQ K G F Q0 Q) (h:Q0 (.tps ds) S) :
 vs.length≤sizeLine∧∀ p,H p=none→Q (.ref p) (upd H p (.tup vs)) :=
 ⟨by rw [r.len]; exact z,fun p hp=>by
  obtain ⟨w',l'⟩:=w.newF (.tup vs) hp
  exact hq (.tps ds) _ _ S _ l' w' ⟨p,vs,rfl,upd_same,r.le l',z⟩ h⟩
theorem Da {K:PySem.W.Frag} {F:Hp} {ds:List D} {v:V} (r:Rep K F (.tps ds) v):Rep K F (.tup ds) v:=by
 obtain ⟨a,vs,rfl,h,rs,z⟩:=r
 exact ⟨a,vs,rfl,SqT.of h,rs,z⟩
def wkt:D→D
 | .tps xs=>.tup xs
 | d=>d
theorem Db {K:PySem.W.Frag} {F:Hp} {d:D} {v:V} (r:Rep K F d v):Rep K F (wkt d) v:=by
 cases d <;> first | exact r | skip
 exact Da r
def mH (t:HTE):HTE:=fun env S Q E=>t env S (fun d S1=>Q (wkt d) S1) E
def av (t:HTA):HTE:=fun env S Q E=>t env S (fun ds S1=>match Nat.ble ds.length 1000 with
 | true=>Q (.tps ds) S1
 | false=>False) E
section
variable {B:Bs} {es:List Expr} {e:Expr} {te:HTE} {tr:HTA} {pos:Pos}
theorem Dc (h:HE B e te):HE B e (mH te):=⟨fun X W ok tk=>PE.imp (h.run X W ok tk) fun σ H Q ⟨G,F,S,env,Q0,E0,rn,wd,h,hq,he⟩ =>
 ⟨G,F,S,env,_,E0,rn,wd,h,fun d v F1 S1 H1 l1 w1 r1 h1=>hq (wkt d) v F1 S1 H1 l1 w1 (Db r1) h1,he⟩⟩
theorem cc {k:Nat} (h:HA B es tr):HE B (.Tuple es k pos) (av tr) :=
 ⟨fun X W ok tk=>PE.imp (pe_tup (h.run X W ok tk)) fun σ H Q ⟨G,F,S,env,Q0,E0,rn,wd,h,hq,he⟩ =>
  ⟨G,F,S,env,_,E0,rn,wd,h,fun ds vs F1 S1 H1 l1 w1 r1 h1=>BK w1 r1 (j7 h1).1 (hq.le l1) (j7 h1).2,he⟩⟩
end
def bb:G2:=fun x y S Q=>match x,y with
 | .tps xs,.tps ys=>xs.length + ys.length≤16777216∧Q (.tps (xs ++ ys)) S
 | _,_=>False
theorem BL {K:PySem.W.Frag}:im K bb (A5 K):=by
 intro G F S H d1 v1 d2 v2 Q0 Q w r1 r2 h hq
 unfold bb at h
 split at h
 ·rename_i xs ys
  obtain ⟨a,vs,rfl,qa,ra,za⟩:=id r1
  obtain ⟨b,ws,rfl,qb,rb,zb⟩:=id r2
  refine .inr (.inr (.inl ⟨a,b,vs,ws,rfl,rfl,SqT.of (w.fr _ _ qa),SqT.of (w.fr _ _ qb),by rw [ra.len,rb.len]; exact fi h.1,fun e=>?_,fun _ e=>?_,fun _ _=>?_⟩))
  ·have e':=ra.isNil.mp e
   subst e'
   exact hq (.tps ys) _ F S H Le.rfl' w r2 (by simpa using h.2)
  ·have e':=rb.isNil.mp e
   subst e'
   exact hq (.tps xs) _ F S H Le.rfl' w r1 (by simpa using h.2)
  ·exact (BK w (ra.append rb) (by rw [List.length_append]; exact fi h.1) hq h.2).2
 ·exact h.elim
theorem eV {B:Bs} {a b:Expr} {ta tb:HTE} {pos:Pos} (ha:HE B a ta) (hb:HE B b tb):HE B (.BinOp a .Add b pos) (hop bb ta tb):=uY (fun X _=>yQ X) BL ha hb
theorem gj {xs ys:List D} {S:Sto} {Q:HK} (hl:xs.length + ys.length≤16777216) (h:Q (.tps (xs ++ ys)) S):bb (.tps xs) (.tps ys) S Q:=⟨hl,h⟩
def ktD:List D→Option (List Key)
 | []=>some []
 | d :: ds=>match hO d with
   | some k=>match ktD ds with
     | some ks=>some (k :: ks)
     | none=>none
   | none=>none
def tkD:D→Option (List Key)
 | .tps ds=>ktD ds
 | _=>none
def Hg (kvs:List (List Key × D)) (k:List Key):Option D:=(kvs.find? fun kv=>decide (kv.1=k)).map (·.2)
def Ew (kvs:List (List Key × D)) (k:List Key) (d:D):List (List Key × D) :=
 if (kvs.any fun kv=>decide (kv.1=k))=true then kvs.map (fun kv=>if kv.1=k then (kv.1,d) else kv) else kvs ++ [(k,d)]
def GE (x y z:D) (S:Sto) (Q:Sto→Prop):Prop:=match x with
 | .ref q=>match S q with
   | some (.dcu kvs)=>match tkD y with
     | some k=>kvs.length < 16777216∧Q (up S q (.dcu (Ew kvs k z)))
     | none=>False
   | _=>False
 | _=>False
def zh (to ti te:HTE):HTS:=fun D env S=>te env S (fun z S1=>to env S1 (fun x S2=>ti env S2 (fun y S3=>GE x y z S3 fun S4=>D.nx env S4) fun x S3=>D.ex x env S3) fun x S2=>D.ex x env S2) fun x S1=>D.ex x env S1
def zi:HTE:=fun _ S Q _=>∀ p,S p=none→Q (.ref p) (up S p (.dcu []))
section
variable {B:Bs} {a b o i e:Expr} {ta tb to ti te:HTE} {pos pos':Pos}
end
section
variable {B:Bs} {a b:Expr} {ta tb:HTE} {pos:Pos}
end
section
variable {B:Bs} {c:Nat} {o:Option Nat} {e:Expr} {t:SX} {pos:Pos}
end
def tB (tk tv:HTE):HTE:=fun env S Q E=>tk env S (fun x S1=>tv env S1 (fun y S2=>match tkD x with
 | some k=>∀ p,S2 p=none→Q (.ref p) (up S2 p (.dcu [(k,y)]))
 | none=>False) E) E
end Hy
namespace LiT
open PySem PySem.Spec PyProof.Rows L2 L2.DX
section
variable {prog:Program} {w:World} {A:Around} {E:Value→Shared→Prop} {s:Shared} {r d:Addr} {es:Array DictEntry} {ep:Nat}
end
section
variable {X:Cx} {e:Expr} {te:TE} {p apos cpos pos:Pos}
end
end LiT
namespace Hy
open PySem PySem.Spec PyProof.Rows L2
def kdD:Key→D
 | .inl i=>.int i
 | .inr s=>.str s
theorem De {K:PySem.W.Frag} {F:Hp}:∀ k:Key,Rep K F (kdD k) (kV k)
 | .inl _=>rfl
 | .inr _=>rfl
abbrev Fl (kv:List Key × D):D:=.tup [.tup (kv.1.map kdD),kv.2]
def Df (x:D) (S:Sto) (Q:HK):Prop:=match x with
 | .ref q=>match S q with
   | some (.dcu kvs)=>(∀ kv ∈ kvs,kv.1.length≤1000)∧kvs.length≤1000000∧Q (.lst (kvs.map Fl)) S
   | _=>False
 | _=>False
def pD (t:HTE):HTE:=fun env S Q E=>t env S (fun x S1=>Df x S1 Q) E
section
variable {B:Bs} {e:Expr} {te:HTE} {p apos cpos pos:Pos}
end
abbrev Fm (kv:Key × D):D:=.tup [kdD kv.1,kv.2]
def Dg (x:D) (S:Sto) (Q:HK):Prop:=match x with
 | .ref q=>match S q with
   | some (.dct kvs)=>kvs.length≤1000000∧Q (.lst (kvs.map Fm)) S
   | _=>False
 | _=>False
def pE (t:HTE):HTE:=fun env S Q E=>t env S (fun x S1=>Dg x S1 Q) E
def GF (x y z:D) (S:Sto) (Q:HK):Prop:=match x with
 | .ref q=>match S q with
   | some (.dct kvs)=>match hO y with
     | some k=>Q ((gh kvs k).getD z) S
     | none=>False
   | some (.dcu kvs)=>match tkD y with
     | some k=>Q ((Hg kvs k).getD z) S
     | none=>False
   | _=>False
 | _=>False
def Hh (x:D) (S:Sto):Prop:=match x with
 | .ref q=>match S q with
   | some (.dct _)=>True
   | some (.dcu _)=>True
   | _=>False
 | _=>False
def zj (tx ty tz:HTE):HTE:=fun env S Q E=>tx env S (fun x S1=>Hh x S1∧ty env S1 (fun y S2=>tz env S2 (fun z S3=>GF x y z S3 Q) E) E) E
section
variable {B:Bs} {e a f o:Expr} {te ty tz:HTE} {tr:HTA} {p apos cpos pos:Pos}
end
theorem xI {J:It} {n:Nat} {G:Hp→Prop} {Y:Nat→Hp→V→Hp→Prop} (w:Walk J n G Y) {H0:Hp} {Qd:Hp→Prop} {St:V→Hp→(Hp→Prop)→Prop} (Pv:Nat→Hp→Prop) (h0:Pv 0 H0) (hG:∀ i H,i≤n→Pv i H→G H)
 (hs:∀ i x H H',i < n→Pv i H→Y i H x H'→St x H' (Pv (i + 1))) (hd:∀ H,Pv n H→Qd H) :
 ∃ W:Nat→Nat→Hp→Prop,(∃ m,W 0 m H0)∧∀ i m H,W i m H→(J.stop i H∧Qd H)∨(J.go i H∧∃ Nx:Hp→Prop,(∀ H',Nx H'→∃ m',m' < m∧W (i + 1) m' H')∧∀ x H',J.yld i H x H'→St x H' Nx):=by
 refine ⟨fun i m H=>m=n - i∧i≤n∧Pv i H,⟨n,by simp,Nat.zero_le _,h0⟩,?_⟩
 rintro i m H ⟨rfl,hi,p⟩
 have q:=hG i H hi p
 by_cases hlt:i < n
 ·exact .inr ⟨w.goes i H hlt q,Pv (i + 1),fun H' p'=>⟨n - (i + 1),by omega,rfl,hlt,p'⟩,fun x H' y=>hs i x H H' hlt p (w.yields i H x H' hlt q y)⟩
 ·have e:i=n:=by omega
  subst e
  exact .inl ⟨w.stops H q,hd H p⟩
def cin (p1:Pt) (te:HTE) (k1:Ck):List D→List D→aW→Sto→(List D→Sto→Prop)→Prop
 | [],acc,_,S,R=>chk k1 S (R acc S)
 | d :: ds,acc,env,S,R=>chk k1 S (match bu p1 d env with
   | some env1=>te env1 S (fun y S2=>acc.length≤1000000∧cin p1 te k1 ds (acc ++ [y]) env S2 R) fun _ _=>False
   | none=>False)
theorem zk {p1:Pt} {te:HTE} {k1:Ck} {ds acc:List D} {env:aW} {S:Sto} {R:List D→Sto→Prop} (h:cin p1 te k1 ds acc env S R):chk k1 S True:=by
 cases ds with
 | nil=>exact lr h
 | cons d ds=>exact lr h
def iV (p:Pt) (ti1:HTI) (p1:Pt) (te:HTE) (vs1:List Nat) (k:Ck):List D→List D→aW→Sto→HK→Prop
 | [],acc,_,S,Q=>chk k S (acc.length≤1000000∧Q (.lst acc) S)
 | d :: ds,acc,env,S,Q=>chk k S (match bu p d env with
   | some env1=>ti1 env1 S (fun ds1 k1 S1=>cin p1 te k1 ds1 acc (cN env1 vs1) S1 fun acc' S2=>iV p ti1 p1 te vs1 k ds acc' env S2 Q) fun _ _=>False
   | none=>False)
theorem qd {p:Pt} {ti1:HTI} {p1:Pt} {te:HTE} {vs1:List Nat} {k:Ck} {ds acc:List D} {env:aW} {S:Sto} {Q:HK} (h:iV p ti1 p1 te vs1 k ds acc env S Q):chk k S True:=by
 cases ds with
 | nil=>exact lr h
 | cons d ds=>exact lr h
def Dh (ti:HTI) (p:Pt) (ti1:HTI) (p1:Pt) (te:HTE) (vs vs1:List Nat):HTE:=fun env S Q E=>ti env S (fun ds k S1=>iV p ti1 p1 te vs1 k ds [] (cN env vs) S1 Q) E
section
variable {B:Bs} {elt tg iter tg1 iter1:Expr} {te:HTE} {ti ti1:HTI} {p p1:Pt} {pos:Pos} {scope:Scope}
theorem zl {ds:List D} {i:Nat} {d:D} (hi:i < ds.length) (e1:ds[i]? = some d):ds.drop i=d :: ds.drop (i + 1):=by
 rw [List.drop_eq_getElem_cons hi]
 rw [List.getElem?_eq_getElem hi] at e1
 cases e1; rfl
theorem BM {K:PySem.W.Frag} {W:WX} {vs vs1:List Nat} (hv:∀ j ∈ iN p,j ∈ vs) (hv1:∀ j ∈ iN p1,j ∈ vs1) (σ:St) (H:Hp) (Q:VK) (h:lE K W (Dh ti p ti1 p1 te vs vs1) σ H Q) :
 tLc2 (lI K W ti) (gV K p) (lT K (fun _ _ _ _=>False) fM) (lI K (fun _ _ _ _=>False) ti1) (gV K p1) (lT K (fun _ _ _ _=>False) fM) (lE K (fun _ _ _ _=>False) te) vs vs1 σ H Q:=by
 obtain ⟨G,F,S,env,Q0,E0,rn,wd,h,hq,he⟩:=h
 refine ⟨G,F,S,env,_,E0,rn,wd,h,fun ds k F1 S1 H1 J l1 w1 it h1=>?_,he⟩
 intro Dd hD
 have hGD:G Dd=none:=by
  cases q:G Dd with
  | none=>rfl
  | some o=>rw [(w1.gr Dd o q).1] at hD; cases hD
 have leG:∀ o,Le G (upd G Dd o):=fun o=>Le.upd hGD
 refine xI (it G).w (fun i H'=>∃ F2 S2 acc us,Le F1 F2∧Wd K (upd G Dd (.lst us)) F2 S2 H'∧Reps K F2 acc us∧iV p ti1 p1 te vs1 k (ds.drop i) acc (cN env vs) S2 Q0)
  ⟨F1,S1,[],[],Le.rfl',w1.newG _ hD,rfl,by simpa using h1⟩ (fun i H' _ ⟨F2,S2,acc,us,l2,w2,_,q2⟩=>⟨F2,S2,l2,w2.lessG (leG _),qd q2⟩)
  (fun i x H' H'' hi ⟨F2,S2,acc,us,l2,w2,ra,q2⟩ y=>?_) (fun H' ⟨F2,S2,acc,us,l2,w2,ra,q2⟩=>?_)
 ·obtain ⟨d,F3,e1,l3,w3,r3⟩:=y _ F2 S2 (leG _) l2 w2 (qd q2)
  rw [zl hi e1] at q2
  have q3:=lq (show chk k S2 (match bu p d (cN env vs) with
   | some env1=>ti1 env1 S2 (fun ds1 k1 S1=>cin p1 te k1 ds1 acc (cN env1 vs1) S1 fun acc' S2=>iV p ti1 p1 te vs1 k (ds.drop (i + 1)) acc' (cN env vs) S2 Q0) fun _ _=>False
   | none=>False) from q2)
  split at q3
  ·rename_i env3 eb
   refine jx w3.fr p r3 (j8 (rn.le (l1.trans (l2.trans l3))) vs) eb fun σ1 rn3 sb=>⟨kO sb hv,?_⟩
   refine ⟨_,F3,S2,env3,(fun b S'=>b=true∧S'=S2),fun _ _=>False,rn3,w3,⟨rfl,rfl⟩,fun b F4 S4 H4 l4 w4 q4=>?_,oq⟩
   obtain ⟨rfl,rfl⟩:=q4
   rw [if_pos rfl]
   refine ⟨_,F4,S4,env3,_,_,rn3.le l4,w4,q3,fun ds1 k1 F5 S5 H5 J1 l5 w5 it1 q5=>?_,oq⟩
   refine xI (it1 G).w (fun j H'=>∃ F6 S6 acc6 us6,Le F5 F6∧Wd K (upd G Dd (.lst us6)) F6 S6 H'∧Reps K F6 acc6 us6∧cin p1 te k1 (ds1.drop j) acc6 (cN env3 vs1) S6 fun acc' S2=>iV p ti1 p1 te vs1 k (ds.drop (i + 1)) acc' (cN env vs) S2 Q0)
    ⟨F5,S5,acc,us,Le.rfl',w5,ra.le (l3.trans (l4.trans l5)),by simpa using q5⟩ (fun j H' _ ⟨F6,S6,acc6,us6,l6,w6,_,q6⟩=>⟨F6,S6,l6,w6.lessG (leG _),zk q6⟩)
    (fun j x1 H6 H7 hj ⟨F6,S6,acc6,us6,l6,w6,ra6,q6⟩ y1=>?_) (fun H6 ⟨F6,S6,acc6,us6,l6,w6,ra6,q6⟩=>?_)
   ·obtain ⟨d1,F7,e2,l7,w7,r7⟩:=y1 _ F6 S6 (leG _) l6 w6 (zk q6)
    rw [zl hj e2] at q6
    have q7:=lq (show chk k1 S6 (match bu p1 d1 (cN env3 vs1) with
     | some env1=>te env1 S6 (fun y S2=>acc6.length≤1000000∧cin p1 te k1 (ds1.drop (j + 1)) (acc6 ++ [y]) (cN env3 vs1) S2 fun acc' S2=>iV p ti1 p1 te vs1 k (ds.drop (i + 1)) acc' (cN env vs) S2 Q0) fun _ _=>False
     | none=>False) from q6)
    split at q7
    ·rename_i env7 eb1
     refine jx w7.fr p1 r7 (j8 (rn3.le (l4.trans (l5.trans (l6.trans l7)))) vs1) eb1 fun σ3 rn7 sb1=>⟨kO sb1 hv1,?_⟩
     refine ⟨_,F7,S6,env7,(fun b S'=>b=true∧S'=S6),fun _ _=>False,rn7,w7,⟨rfl,rfl⟩,fun b F8 S8 H8 l8 w8 q8=>?_,oq⟩
     obtain ⟨rfl,rfl⟩:=q8
     rw [if_pos rfl]
     refine ⟨_,F8,S8,env7,_,_,rn7.le l8,w8,q7,fun y v F9 S9 H9 l9 w9 r9 q9=>?_,oq⟩
     obtain ⟨g1,_,_⟩:=w9.gr Dd _ upd_same
     refine ⟨us6,g1,by rw [ra6.len]; exact Nat.lt_of_le_of_lt q9.1 (by decide),F9,S9,acc6 ++ [y],us6 ++ [v],l6.trans (l7.trans (l8.trans l9)),w9.putG _,((ra6.le l7).le (l8.trans l9)).append (Reps.one r9),q9.2⟩
    ·exact q7.elim
   ·rw [List.drop_length] at q6
    exact ⟨F6,S6,acc6,us6,(l2.trans (l3.trans (l4.trans (l5.trans l6)))),w6,ra6,lq q6⟩
  ·exact q3.elim
 ·rw [List.drop_length] at q2
  obtain ⟨w3,l3⟩:=w2.endG hGD
  have q2:=lq q2
  exact hq (.lst acc) _ _ S2 H' (l1.trans (l2.trans l3)) w3 ⟨Dd,us,rfl,upd_same,ra.le l3,Nat.le_trans q2.1 (by decide)⟩ q2.2
theorem Hi (own:List (Str × Nat)) (vs1:List Nat) (hi:HI B tg iter ti) (ok:blkC B.N B.sc scope own=true) (hv:∀ j ∈ iN p,j ∈ own.map (·.2)) (hv1:∀ j ∈ iN p1,j ∈ vs1) (hvs:∀ j ∈ vs1,j ∈ own.map (·.2)) (hg:HP (B.blk scope) tg p) (hi1:HI (B.blk scope) tg1 iter1 ti1) (hg1:HP (B.blk scope) tg1 p1) (he:HE (B.blk scope) elt te)
 (hs:∀ env x,foldedSetIterable iter env x=pure x:=by intro _ _; rfl) (hs1:∀ env x,foldedSetIterable iter1 env x=pure x:=by intro _ _; rfl):HE B (.ListComp elt [⟨tg,iter,[],0⟩,⟨tg1,iter1,[],0⟩] scope pos) (Dh ti p ti1 p1 te (own.map (·.2)) vs1) :=
 ⟨fun X W okc tk=>PE.imp (pe_lc2 (own:=own) (vs1:=vs1) okc.calm okc.nd (hi.run X W okc tk) (by rw [okc.eN,okc.es]; exact blkOk_by ok) hvs (fun s H C cl fp=>hg.run _ (okc.blk s H scope C cl fp)) (fun s H C cl fp=>hif0.run _ _ (okc.blk s H scope C cl fp) takes0)
  (fun s H C cl fp=>hi1.run _ _ (okc.blk s H scope C cl fp) takes0) (fun s H C cl fp=>hg1.run _ (okc.blk s H scope C cl fp)) (fun s H C cl fp=>hif0.run _ _ (okc.blk s H scope C cl fp) takes0)
  (fun s H C cl fp=>he.run _ _ (okc.blk s H scope C cl fp) takes0) (hs _) hs1) fun σ H Q h=>BM hv hv1 σ H Q h⟩
end
def tD (tk tv tk2 tv2:HTE):HTE:=fun env S Q E=>tk env S (fun x S1=>tv env S1 (fun y S2=>tk2 env S2 (fun x2 S3=>tv2 env S3 (fun y2 S4=>match tkD x with
 | some k=>match tkD x2 with
   | some k2=>∀ p,S4 p=none→Q (.ref p) (up S4 p (.dcu (Ew [(k,y)] k2 y2)))
   | none=>False
 | none=>False) E) E) E) E
def tE:GL:=mz iM fun ns S Q=>ns.length≤1000000∧∀ ns':List Int,ns'.Perm ns→ns'.Pairwise (· ≤ ·)→Q (.lst (ns'.map D.int)) S
section
variable {B:Bs} {a:Expr} {tr:HTA} {p pos:Pos}
theorem Fo (gn:Gn B "sorted") (hm:B.mg "sorted" = none) (ha:HA B [a] tr) (he:∀ env,starEach [a] env=(false,eval a env) :: starEach [] env:=by intro _; rfl):HE B (.Call (.Name "sorted" p) [a] [] pos) (hcb tE tr) :=
 lH (r:=rSortedI) (fun X ok=>cr_sortedI) (mA (β:=Unit) (fun h r=>pA h r) fun G F S H a ns Q0 Q w hs h hq=>⟨a,ns,rfl,hs,fun ns' p h1 h2 hp=>by
  refine (j6 w (kP ns') ?_ hq (h.2 ns' h1 h2)).2 p hp
  rw [List.length_map,h1.length_eq]
  exact Nat.le_trans h.1 (by decide)⟩) gn hm (by decide +kernel) ha (he:=he) (hpl:=fun _=>rfl)
end
end Hy
namespace LiT
open PySem PySem.Spec PyProof.Rows L2 L2.DX
section
variable {prog:Program} {w:World} {A:Around} {E:Value→Shared→Prop} {s:Shared}
end
section
variable {X:Cx} {e:Expr} {te:TE} {p apos cpos pos:Pos}
end
end LiT
namespace Hy
open PySem PySem.Spec PyProof.Rows L2
def BN (x:D) (S:Sto) (Q:HK):Prop:=match x with
 | .ref q=>match S q with
   | some (.dcu kvs)=>kvs.length≤1000000∧Q (.lst (kvs.map (·.2))) S
   | _=>False
 | _=>False
def mI (t:HTE):HTE:=fun env S Q E=>t env S (fun x S1=>BN x S1 Q) E
section
variable {B:Bs} {e:Expr} {te:HTE} {p apos cpos pos:Pos}
end
end Hy
namespace LiT
open PySem PySem.Spec PyProof.Rows L2 L2.DX
end LiT
namespace Hy
open PySem PySem.Spec PyProof.Rows L2
theorem Aq {K:PySem.W.Frag} {F:Hp} {env:aW} {σ:St} (r:RepN K F env σ) {j:Nat} {d d':D} (e:env[j]? = some (some d)) (h:∀ v,Rep K F d v→Rep K F d' v):RepN K F (env.set j (some d')) σ :=
 ⟨by rw [List.length_set]; exact r.len,fun i x hx=>by
  by_cases hi:j=i
  ·subst hi
   have hj:=(List.getElem?_eq_some_iff.mp e).1
   rw [List.getElem?_set_self hj] at hx
   cases hx
   obtain ⟨v,h1,h2⟩:=r.get j d e
   exact ⟨v,h1,h v h2⟩
  ·rw [List.getElem?_set_ne hi] at hx
   exact r.get i x hx⟩
section
variable {B:Bs} {kx vx tg iter:Expr} {tk tv:HTE} {p:Pt} {pos:Pos} {scope:Scope}
end
end Hy
namespace LamK
open PySem PySem.Spec PyProof.Rows L2
section
variable {prog:Program} {w:World} {A:Around} {E:Value→Shared→Prop} {s:Shared}
theorem qe:∀ x y:List Int,PySem.W.alikeAll (x.map .int) (y.map .int)=true
 | [],[]=>rfl
 | [],_ :: _=>rfl
 | _ :: _,[]=>rfl
 | a :: x,b :: y=>by
   show (PySem.W.alike (.int a) (.int b) && PySem.W.alikeAll (x.map .int) (y.map .int))=true
   rw [qe x y] <;> rfl
theorem qf:∀ x:List Int,PyData.depthAll (x.map .int)=0
 | []=>rfl
 | a :: x=>by
   have ih:=qf x
   simp [PyData.depthAll,PyData.depth,ih]
end
end LamK
namespace LamK
open PySem PySem.Spec PyProof.Rows L2
section
variable {prog:Program} {w:World} {A:Around} {E:Value→Shared→Prop} {s:Shared}
end
end LamK
namespace LamK
open PySem PySem.Spec PyProof.Rows L2 LamX
def TupI (K:PySem.W.Frag) (F:Hp) (v:V) (x:List Int):Prop:=∃ t,v = .ref t∧SqT K F t (x.map V.int)
inductive TupIs (K:PySem.W.Frag) (F:Hp):List V→List (List Int)→Prop
 | nil:TupIs K F [] []
 | cons {v:V} {x:List Int} {vs:List V} {xs:List (List Int)}:TupI K F v x→TupIs K F vs xs→TupIs K F (v :: vs) (x :: xs)
end LamK
namespace LamK
open PySem PySem.Spec PyProof.Rows L2 LamX
def Made (P:Addr) (q:Str) (ps:Array Value) (H:Hp) (c:Addr) (H':Hp):Prop :=
 (H'=H∧H c=some (CodeO c q))∨∃ ps':Array Value,H c=none∧H'=upd (upd H P (.tbl ps')) c (CodeO c q)∧TriplesOk ps'.toList∧∀ (pos:Pos) (cv:Value),codeAmong pos ps'.toList=some cv→codeAmong pos ps.toList=some cv∨cv = .ref c
theorem Made.code {P c:Addr} {q:Str} {ps:Array Value} {H H':Hp} (m:Made P q ps H c H'):H' c=some (CodeO c q):=by
 rcases m with ⟨e,h⟩ | ⟨ps',_,e,_⟩
 ·rw [e]; exact h
 ·rw [e,upd_same]
theorem Made.keep {P c:Addr} {q:Str} {ps:Array Value} {H H':Hp} (m:Made P q ps H c H') {b:Addr} {o:HO} (hb:b ≠ P) (e:H b=some o):H' b=some o:=by
 rcases m with ⟨e',_⟩ | ⟨ps',hc,e',_⟩
 ·rw [e']; exact e
 ·have hbc:b ≠ c:=fun z=>by rw [z,hc] at e; cases e
  rw [e',upd_ne hbc,upd_ne hb]; exact e
section
variable {X:Cx} {pins:List (Addr × Obj)} {σ:L2.St} {H:Hp} {s:Shared}
end
theorem SqL.made {K:PySem.W.Frag} {P c:Addr} {q:Str} {ps:Array Value} {H H':Hp} {a:Addr} {ys:List V} (m:Made P q ps H c H') (hP:H P=some (.tbl ps)) (h:SqL K H a ys):SqL K H' a ys:=by
 have ne:∀ {o:HO},H a=some o→(∀ z,o ≠ .tbl z)→a ≠ P:=fun {o} e hn z=>by
  rw [z,hP] at e
  exact hn ps (Option.some.inj e).symm
 rcases h with (h | ⟨o,h⟩) | h
 ·exact .inl (.inl (m.keep (ne h fun z w=>nomatch w) h))
 ·exact .inl (.inr ⟨o,m.keep (ne h fun z w=>nomatch w) h⟩)
 ·exact .inr h
end LamK
namespace Hy
open PySem PySem.Spec PyProof.Rows L2 LamX
def vm:D→Option (List Int)
 | .tup xs=>iM xs
 | .tps xs=>iM xs
 | _=>none
def qg:List D→Option (List (List Int))
 | []=>some []
 | d :: r=>match vm d with
   | some x=>(qg r).map (x :: ·)
   | none=>none
def tpI (x:List Int):D:=.tup (x.map .int)
theorem Di {K:PySem.W.Frag} {F:Hp} {d:D} {v:V} {x:List Int} (h:vm d=some x) (r:Rep K F d v):LamK.TupI K F v x∧x.length≤sizeLine:=by
 have key:∀ {xs:List D} {a:Addr} {vs:List V},iM xs=some x→SqT K F a vs→Reps K F xs vs→xs.length≤sizeLine→LamK.TupI K F (.ref a) x∧x.length≤sizeLine:=fun {xs a vs} h hF rs z=>by
  have e:=pA h rs
  subst e
  refine ⟨⟨a,rfl,hF⟩,?_⟩
  have:=rs.len
  rw [List.length_map] at this
  rw [this]; exact z
 cases d <;> first | (simp [vm] at h; done) | skip
 ·obtain ⟨a,vs,rfl,hF,rs,z⟩:=r
  exact key h hF rs z
 ·obtain ⟨a,vs,rfl,hF,rs,z⟩:=r
  exact key h (SqT.of hF) rs z
theorem zm {K:PySem.W.Frag} {F:Hp}:∀ {ds:List D} {vs:List V} {bs:List (List Int)},qg ds=some bs→Reps K F ds vs→LamK.TupIs K F vs bs∧(∀ y ∈ bs,y.length≤sizeLine)∧bs.length=ds.length
 | [],_,_,h,r=>by cases h; cases r; exact ⟨.nil,fun y hy=>absurd hy (by simp),rfl⟩
 | d :: ds,_,bs,h,⟨v,ws,e,r,q⟩=>by
   unfold qg at h
   split at h
   ·rename_i x ex
    simp only [Option.map_eq_some_iff] at h
    obtain ⟨cs,h1,rfl⟩:=h
    subst e
    obtain ⟨a1,a2⟩:=Di ex r
    obtain ⟨b1,b2,b3⟩:=zm h1 q
    refine ⟨.cons a1 b1,fun y hy=>?_,by simp [b3]⟩
    rcases List.mem_cons.mp hy with rfl | hy
    ·exact a2
    ·exact b2 y hy
   ·cases h
theorem vo {K:PySem.W.Frag} {F:Hp}:∀ {zs:List V} {bs:List (List Int)},LamK.TupIs K F zs bs→(∀ y ∈ bs,y.length≤sizeLine)→Reps K F (bs.map tpI) zs
 | _,_,.nil,_=>rfl
 | _,_,.cons (x:=x) a b,h=>by
   obtain ⟨t,rfl,ht⟩:=a
   exact ⟨_,_,rfl,⟨t,_,rfl,ht,kP x,by rw [List.length_map]; exact h x (by simp)⟩,vo b fun y hy=>h y (by simp [hy])⟩
theorem Wd.putTab {K:PySem.W.Frag} {G F:Hp} {S:Sto} {H:Hp} (W:Wd K G F S H) {P:Addr} {q:Str} (hm:(P,q) ∈ tabs) (hu:∀ p ∈ tabs,p.1=P→p.2=q) (ps':Array Value) (tr:TriplesOk ps'.toList)
 (ha:∀ (pos:Pos) (cv:Value),codeAmong pos ps'.toList=some cv→∃ c,cv = .ref c∧F c=some (LamX.CodeO c q)):Wd K G F S (upd H P (.tbl ps')):=by
 obtain ⟨nG,nF,nS,_⟩:=W.tb _ hm
 have ne:∀ {a:Addr} {α:Type} {f:Addr→Option α} {o:α},f P=none→f a=some o→a ≠ P:=fun e1 e2 z=>by rw [z,e1] at e2; cases e2
 refine ⟨fun a o e=>?_,fun a o e=>?_,fun a m e=>?_,W.dj,W.gt,fun p hp=>?_⟩
 ·obtain ⟨h1,h2,h3⟩:=W.gr a o e
  exact ⟨by rw [upd_ne (ne nG e)]; exact h1,h2,h3⟩
 ·rw [upd_ne (ne nF e)]; exact W.fr a o e
 ·obtain ⟨o,h1,h2⟩:=W.st a m e
  exact ⟨o,by rw [upd_ne (ne nS e)]; exact h1,h2⟩
 ·obtain ⟨h1,h2,h3,ps,h4,h5,h6⟩:=W.tb p hp
  refine ⟨h1,h2,h3,?_⟩
  by_cases e:p.1=P
  ·exact ⟨ps',by rw [e,upd_same],tr,by rw [hu p hp e]; exact ha⟩
  ·exact ⟨ps,by rw [upd_ne e]; exact h4,h5,h6⟩
theorem BO {H:Hp} {a b:Addr} {x y:HO} (h:a ≠ b):upd (upd H a x) b y=upd (upd H b y) a x:=by
 funext z
 by_cases e1:z=a
 ·subst e1; rw [upd_same,upd_ne h,upd_same]
 ·by_cases e2:z=b
  ·subst e2; rw [upd_same,upd_ne e1,upd_same]
  ·rw [upd_ne e2,upd_ne e1,upd_ne e1,upd_ne e2]
theorem Wd.made {K:PySem.W.Frag} {G F:Hp} {S:Sto} {H H2:Hp} (W:Wd K G F S H) {P c:Addr} {q:Str} {ps:Array Value} (hm:(P,q) ∈ tabs) (hu:∀ p ∈ tabs,p.1=P→p.2=q) (hP:H P=some (.tbl ps))
 (old:∀ (pos:Pos) (cv:Value),codeAmong pos ps.toList=some cv→∃ c,cv = .ref c∧F c=some (LamX.CodeO c q)) (md:LamK.Made P q ps H c H2):∃ F2,Le F F2∧Wd K G F2 S H2:=by
 rcases md with ⟨e,_⟩ | ⟨ps',nC,e,tr,ha⟩
 ·exact ⟨F,Le.rfl',by rw [e]; exact W⟩
 ·obtain ⟨w1,l1⟩:=W.newF (LamX.CodeO c q) nC
  have hPc:P ≠ c:=fun z=>by rw [z,nC] at hP; cases hP
  refine ⟨_,l1,?_⟩
  rw [e,BO hPc]
  refine w1.putTab hm hu ps' tr fun pos cv h=>?_
  rcases ha pos cv h with h | h
  ·obtain ⟨c0,h1,h2⟩:=old pos cv h
   exact ⟨c0,h1,l1 _ _ h2⟩
  ·exact ⟨c,h,upd_same⟩
section
variable {B:Bs} {c P:Addr} {q:Str} {prm:Arguments} {lsc:Scope} {x y:Str} {i:Nat} {p1 p2 p3 p4 p5 p6 p7 p8 p9 lp kp p yp pos:Pos} {j:Nat}
end
end Hy
namespace Hy
open PySem PySem.Spec PyProof.Rows L2
abbrev frL (lo n:Nat) (g:Addr→Option Obj):PySem.W.Frag:=He.frT g (cStatics :: mainGlobals :: List.range' lo n)
def Book.lookT (b:Book) (lo n:Nat) (g:Addr→Option Obj):He.AlD:=b.seen (frL lo n g)
def LookEqT (r:PySem.W.OpenRow) (M:Nat) (b:Book) (lo n:Nat) (w:World):Prop:=∀ os:OsState,(xH r M w os).map (fun s=>b.lookT lo n (HandSHeadRun.getT s))=some b.due
theorem LookEqT.of_cut {r:PySem.W.OpenRow} {M lo n:Nat} {b:Book} {w:World} (i j:Nat) (ha:LookEqT r M (b.low i j) lo n w) (hb:LookEqT r M (b.high i j) lo n w):LookEqT r M b lo n w:=fun os=>by
 have h1:=ha os
 have h2:=hb os
 cases e:xH r M w os with
 | none=>rw [e] at h1; cases h1
 | some s =>
   rw [e] at h1 h2
   have z:=congrArg some (Book.seen_add (Option.some.inj h1) (Option.some.inj h2))
   rw [Book.cut] at z
   exact z
end Hy
open PySem PySem.Spec PyProof.Rows L2
namespace LiT
open L2.DX
theorem swD_true {kx vx:Expr} {gs:List Comprehension} {scope:Scope} {pos py:Pos} {y:Str} {l:Nat} {env:Env} (hk:env.scope.kind = .function) (hy:env.scope.names.lookup y=some .local) (hl:(py.line == pos.line)=true)
 (ha:(scope.names.any fun (n,k)=>n == y && (k == .local || k == .cell))=false):swapsWith (.DictComp kx vx gs scope pos) (some (.Name y py)) l env=pure true:=by
 have ky:env.kindOf y=some .local:=hy
 have hb:env.blockKind = .function:=by unfold Env.blockKind; rw [hk]; rfl
 unfold swapsWith
 simp only [hb,ky,ha,Expr.pos,hl]
 rfl
end LiT
namespace Hy
def Fp (t:TS):TS:=fun D σ H=>∃ d u,H d=some u∧Mut (some u)∧∀ od,t D σ (upd H d (.frz od u))
theorem Dj {X:Cx} {st:Stmt} {t:TS} (h:PS X st t):PS X st (Fp t):=⟨fun pins s σ H D I ⟨d,u,hd,mu,g⟩=>by
 obtain ⟨od,I'⟩:=I.lock hd mu
 exact h.run pins s σ _ D I' (g od)⟩
section
variable {B:Bs} {st:Stmt} {t:HTS}
end
section
variable {B:Bs} {kx vx tg iter:Expr} {tk tv:HTE} {p:Pt} {pos:Pos} {scope:Scope}
end
section
variable {B:Bs} {a b:Expr} {ta tb:HTE} {pos:Pos}
end
end Hy
namespace Hy
open PySem PySem.Spec PyProof.Rows L2
section
variable {B:Bs} {a b:Expr} {ta tb:HTE} {pos:Pos}
end
end Hy
open PySem PySem.Spec PyProof.Rows L2
namespace LiT
open L2.DX
end LiT
namespace Hy
section
variable {B:Bs} {a:Expr} {tr:HTA} {p pos:Pos}
end
end Hy
namespace Hy
open PySem PySem.Spec PyProof.Rows L2
def Dk:G2:=fun x y S Q=>match x,y with
 | .int i,.int j=>RgOk i j∧Q (.lst (g9 i (j - i).toNat)) S
 | _,_=>False
abbrev Hj:R2:=fun x y H Q=>∃ i j,x = .int i∧y = .int j∧RgOk i j∧∀ q,H q=none→Q (.ref q) (upd H q (.lst (rgV i j)))
theorem BP {K:PySem.W.Frag} {F:Hp} (i j:Int):Reps K F (g9 i (j - i).toNat) (rgV i j):=by
 unfold g9 rgV
 generalize List.range (j - i).toNat=l
 induction l with
 | nil=>rfl
 | cons a l ih=>exact ⟨_,_,rfl,rfl,ih⟩
theorem Dl {K:PySem.W.Frag}:im K Dk Hj:=by
 intro G F S H d1 v1 d2 v2 Q0 Q w r1 r2 h hq
 unfold Dk at h
 split at h
 ·rename_i i j
  obtain ⟨h1,h2⟩:=h
  refine ⟨i,j,r1,r2,h1,?_⟩
  exact (j6 w (BP i j) (by rw [dV]; obtain ⟨_,_,_,_,h5⟩:=h1; rw [sizeLine_eq]; omega) hq h2).2
 ·exact h.elim
section
variable {B:Bs} {a b:Expr} {ta tb:HTE} {p p2 pos pos2:Pos}
theorem Dm (gl:Gn B "list") (hl:B.mg "list" = none) (gr:Gn B "range") (hr:B.mg "range" = none) (ha:HE B a ta) (hb:HE B b tb) (na:∀ env,starEach [.Call (.Name "range" p2) [a,b] [] pos2] env=(false,eval (.Call (.Name "range" p2) [a,b] [] pos2) env) :: starEach [] env:=by intro _; rfl) (nb:∀ env,starEach [a,b] env=(false,eval a env) :: starEach [b] env:=by intro _; rfl) (nc:∀ env,starEach [b] env=(false,eval b env) :: starEach [] env:=by intro _; rfl) (nd:∀ env,(backTo pos2 (starEach [b] env)).any (·.1)=false:=by intro _; rfl) :
 HE B (.Call (.Name "list" p) [.Call (.Name "range" p2) [a,b] [] pos2] [] pos) (hop Dk ta tb) :=
 ⟨fun X W ok tk=>PE.imp (pe_listRg ok.calm (ok.gl gl) (by rw [ok.em]; exact hl) (prg_2 (ok.gl gr) (by rw [ok.em]; exact hr) (ha.run X W ok tk) (hb.run X W ok tk) (nb _) (nc _) (nd _)) (na _)) fun σ H Q h=>lop Dl ta tb σ H Q h⟩
end
end Hy
open PySem PySem.Spec PyProof.Rows L2
namespace LiT
open L2.DX
theorem ps_setDc {X:Cx} {i:Nat} {y:Str} {py:Pos} {kx vx tg iter:Expr} {scope:Scope} {own:List (Str × Nat)} {pos spos:Pos} {wi:TI} {g:TG} {tk tv:TE} (hc:X.calm=true) (hN:X.N.Nodup) (hy:X.N[i]? = some y) (hyl:X.env.scope.names.lookup y=some .local)
 (hsw:swapsWith (.DictComp kx vx [⟨tg,iter,[],0⟩] scope pos) (some (.Name y py)) spos.line X.env=pure true) (hi:PI X tg iter wi) (ok:BlkOk X.N X.env.scope scope own)
 (hg:∀ (s:Shared) (H:Hp) (C:Addr) (cl:List (Str × Addr)) (fp:List Addr),PG (X.blk s H scope (compEnvC scope cl C X.env) fp) tg g)
 (hk:∀ (s:Shared) (H:Hp) (C:Addr) (cl:List (Str × Addr)) (fp:List Addr),PE (X.blk s H scope (compEnvC scope cl C X.env) fp) kx tk)
 (he:∀ (s:Shared) (H:Hp) (C:Addr) (cl:List (Str × Addr)) (fp:List Addr),PE (X.blk s H scope (compEnvC scope cl C X.env) fp) vx tv) (hs:∀ x,foldedSetIterable iter X.env x=pure x:=by intro _; rfl) :
 PS X (.Assign [.Name y py] (.DictComp kx vx [⟨tg,iter,[],0⟩] scope pos) spos) (tAsg (tDc wi g tYes tk tv (own.map (·.2))) (gName i)):=by
 refine ⟨fun pins s σ H D I h=>?_⟩
 rw [exec_Assign_Name_used _ _ _ _ hsw]
 refine wpAny_bind (wpAny_standAt (wpAny_bind ?_))
 show wpAny _ X.A (do let _ ← comprehension (.DictComp kx vx [⟨tg,iter,[],0⟩] scope pos) scope X.env (firstIterPos [⟨tg,iter,[],0⟩] pos) newDict false (eval iter X.env) (some (assign (.Name y py) X.env))) _ _ s
 have h:tDc wi g tYes tk tv (own.map (·.2)) σ H (fun x H1=>gName i x σ H1 D.nx):=h
 refine wpAny_bind (thn (dc_core (Qf:=fun _ s'=>SP X pins D .next s') hc hN I hi ok hg (fun s H C cl fp=>pts_nil) hk he hs h fun L C s' m H' I' q hn f=>?_) fun _ s' hq=>wpAny_pure (wpAny_pure hq))
 show wpAny _ _ (assign (.Name y py) X.env (.ref L)) _ _ _
 refine wpAny_assign_Name (store_ok2 (v:=V.ref L) I' hN hy (.inl hyl) rfl (fun s2 I2 ⟨a,sb,ha⟩=>?_) (.inr hyl))
 obtain ⟨f0,f1,f2,f3,f4,f5⟩:=f
 have haC:C ≠ a:=by
  rcases ha with z | z
  ·rw [z]; exact f1
  ·exact fun e=>f4 y a z e.symm
 refine ⟨m,hn.sameBut sb haC,fun h3 sb3=>?_⟩
 exact ⟨_,H',I2.turned (t':=s2.toks) (fun b o hb e=>(sb3.2 b hb).trans e) f0 f1 f3 f4 f5,q⟩
end LiT
namespace Hy
def iW (p:Pt) (tk tv:HTE) (k:Ck):List D→List (Key × D)→aW→Sto→HK→Prop
 | [],acc,_,S,Q=>chk k S (∀ r,S r=none→Q (.ref r) (up S r (.dct acc)))
 | d :: ds,acc,env,S,Q=>chk k S (match bu p d env with
   | some env1=>tk env1 S (fun y S1=>tv env1 S1 (fun z S2=>acc.length≤1000000∧match hO y with
     | some kk=>iW p tk tv k ds (cX acc kk z) env S2 Q
     | none=>False) fun _ _=>False) fun _ _=>False
   | none=>False)
theorem qh {p:Pt} {tk tv:HTE} {k:Ck} {ds:List D} {acc:List (Key × D)} {env:aW} {S:Sto} {Q:HK} (h:iW p tk tv k ds acc env S Q):chk k S True:=by
 cases ds with
 | nil=>exact lr h
 | cons d ds=>exact lr h
def xJ (ti:HTI) (p:Pt) (tk tv:HTE) (vs:List Nat):HTE:=fun env S Q E=>ti env S (fun ds k S1=>iW p tk tv k ds [] (cN env vs) S1 Q) E
section
variable {B:Bs} {kx vx tg iter:Expr} {ti:HTI} {tk tv:HTE} {p:Pt} {pos:Pos} {scope:Scope}
theorem vp {K:PySem.W.Frag} {W:WX} {vs:List Nat} (hv:∀ i ∈ iN p,i ∈ vs) (σ:St) (H:Hp) (Q:VK) (h:lE K W (xJ ti p tk tv vs) σ H Q) :
 tDc (lI K W ti) (gV K p) tYes (lE K (fun _ _ _ _=>False) tk) (lE K (fun _ _ _ _=>False) tv) vs σ H Q:=by
 obtain ⟨G,F,S,env,Q0,E0,rn,wd,h,hq,he⟩:=h
 refine ⟨G,F,S,env,_,E0,rn,wd,h,fun ds k F1 S1 H1 J l1 w1 it h1=>?_,he⟩
 intro Dd hD
 have hGD:G Dd=none:=by
  cases q:G Dd with
  | none=>rfl
  | some o=>rw [(w1.gr Dd o q).1] at hD; cases hD
 have leG:∀ o,Le G (upd G Dd o):=fun o=>Le.upd hGD
 refine xI (it G).w (fun i H'=>∃ F2 S2 acc us,Le F1 F2∧Wd K (upd G Dd (.dK ((acc.map (·.1)).zip us))) F2 S2 H'∧Reps K F2 (acc.map (·.2)) us∧iW p tk tv k (ds.drop i) acc (cN env vs) S2 Q0)
  ⟨F1,S1,([]:List (Key × D)),([]:List V),Le.rfl',w1.newG (.dK []) hD,(show Reps K F1 (([]:List (Key × D)).map (·.2)) [] from rfl),by simpa using h1⟩ (fun i H' _ ⟨F2,S2,acc,us,l2,w2,_,q2⟩=>⟨F2,S2,l2,w2.lessG (leG _),qh q2⟩)
  (fun i x H' H'' hi ⟨F2,S2,acc,us,l2,w2,ra,q2⟩ y=>?_) (fun H' ⟨F2,S2,acc,us,l2,w2,ra,q2⟩=>?_)
 ·obtain ⟨d,F3,e1,l3,w3,r3⟩:=y _ F2 S2 (leG _) l2 w2 (qh q2)
  have e2:ds.drop i=d :: ds.drop (i + 1):=by
   rw [List.drop_eq_getElem_cons hi]
   rw [List.getElem?_eq_getElem hi] at e1
   cases e1; rfl
  rw [e2] at q2
  have q3:=lq (show chk k S2 (match bu p d (cN env vs) with
   | some env1=>tk env1 S2 (fun y S1=>tv env1 S1 (fun z S2=>acc.length≤1000000∧match hO y with
     | some kk=>iW p tk tv k (ds.drop (i + 1)) (cX acc kk z) (cN env vs) S2 Q0
     | none=>False) fun _ _=>False) fun _ _=>False
   | none=>False) from q2)
  split at q3
  ·rename_i env3 eb
   refine jx w3.fr p r3 (j8 (rn.le (l1.trans (l2.trans l3))) vs) eb fun σ1 rn3 sb=>⟨kO sb hv,?_⟩
   unfold tYes
   dsimp only
   rw [if_pos rfl]
   refine ⟨_,F3,S2,env3,_,_,rn3,w3,q3,fun y v F5 S5 H5 l5 w5 r5 q5=>?_,oq⟩
   refine ⟨_,F5,S5,env3,_,_,rn3.le l5,w5,q5,fun z t F6 S6 H6 l6 w6 r6 q6=>?_,oq⟩
   obtain ⟨hz,q6⟩:=q6
   split at q6
   ·rename_i kk ek
    obtain ⟨g1,_,_⟩:=w6.gr Dd _ upd_same
    have ra6:=ra.le (l3.trans (l5.trans l6))
    obtain ⟨us',e2,e3⟩:=tA (k:=kk) r6 ra6
    refine ⟨_,kk,mG (r5.le l6) ek,g1,by rw [my ra6]; exact Nat.lt_of_le_of_lt hz (by decide),F6,S6,cX acc kk z,us',l2.trans (l3.trans (l5.trans l6)),?_,e3,q6⟩
    rw [e2]
    exact w6.putG _
   ·exact q6.elim
  ·exact q3.elim
 ·rw [List.drop_eq_nil_of_le zNr] at q2
  obtain ⟨w4,hS⟩:=w2.endS (m:=.dct acc) hGD ⟨us,rfl,ra⟩
  exact hq (.ref Dd) (.ref Dd) F2 _ _ (l1.trans l2) w4 rfl (lq q2 Dd hS)
theorem Hk (own:List (Str × Nat)) (hi:HI B tg iter ti) (ok:blkC B.N B.sc scope own=true) (hv:∀ i ∈ iN p,i ∈ own.map (·.2)) (hg:HP (B.blk scope) tg p) (hk:HE (B.blk scope) kx tk) (he:HE (B.blk scope) vx tv)
 (hs:∀ env x,foldedSetIterable iter env x=pure x:=by intro _ _; rfl):HE B (.DictComp kx vx [⟨tg,iter,[],0⟩] scope pos) (xJ ti p tk tv (own.map (·.2))) :=
 ⟨fun X W okc tk'=>PE.imp (pe_dc (own:=own) okc.calm okc.nd (hi.run X W okc tk') (by rw [okc.eN,okc.es]; exact blkOk_by ok) (fun s H C cl fp=>hg.run _ (okc.blk s H scope C cl fp)) (fun s H C cl fp=>pts_nil)
  (fun s H C cl fp=>hk.run _ _ (okc.blk s H scope C cl fp) takes0) (fun s H C cl fp=>he.run _ _ (okc.blk s H scope C cl fp) takes0) (hs _)) fun σ H Q h=>vp hv σ H Q h⟩
theorem Dn (i:Nat) {y:Str} {py spos:Pos} (own:List (Str × Nat)) (hi:HI B tg iter ti) (ok:blkC B.N B.sc scope own=true) (hv:∀ i ∈ iN p,i ∈ own.map (·.2)) (hg:HP (B.blk scope) tg p) (hk:HE (B.blk scope) kx tk) (he:HE (B.blk scope) vx tv)
 (hN:B.N[i]? = some y:=by rfl) (hyl:B.sc.names.lookup y=some .local:=by rfl) (hkd:B.sc.kind = .function:=by rfl) (hl:(py.line == pos.line)=true:=by rfl) (ha:(scope.names.any fun (n,k)=>n == y && (k == .local || k == .cell))=false:=by decide +kernel)
 (hs:∀ env x,foldedSetIterable iter env x=pure x:=by intro _ _; rfl):HS B (.Assign [.Name y py] (.DictComp kx vx [⟨tg,iter,[],0⟩] scope pos) spos) (aK i (xJ ti p tk tv (own.map (·.2)))) :=
 ⟨fun X W okc tk'=>PS.imp (LiT.ps_setDc (own:=own) (i:=i) okc.calm okc.nd (by rw [okc.eN]; exact hN) (by rw [okc.es]; exact hyl) (LiT.swD_true (by rw [okc.es]; exact hkd) (by rw [okc.es]; exact hyl) hl ha) (hi.run X W okc tk') (by rw [okc.eN,okc.es]; exact blkOk_by ok) (fun s H C cl fp=>hg.run _ (okc.blk s H scope C cl fp))
  (fun s H C cl fp=>hk.run _ _ (okc.blk s H scope C cl fp) takes0) (fun s H C cl fp=>he.run _ _ (okc.blk s H scope C cl fp) takes0) (hs _)) fun D σ H ⟨G,F,S,env,E,rn,wd,h,o⟩ =>
  vp (W:=W) hv σ H _ ⟨G,F,S,env,_,_,rn,wd,h,fun d v F1 S1 H1 l w r q=>o.nx _ _ F1 S1 H1 l w ((rn.le l).set r i) q,o.exc rn⟩⟩
end
end Hy
namespace Hy
open PySem PySem.Spec PyProof.Rows L2
section
variable {B:Bs} {a:Expr} {tr:HTA} {p pos:Pos}
end
def c5 (j:Nat) (t:HTS):HTS:=fun D env S=>match env[j]? with
 | some (some (.ref q))=>match S q with
   | some (.dct kvs)=>t D (env.set j (some (.dkz (kvs.map (·.1)) (kvs.map (·.2))))) (dl S q)
   | _=>False
 | _=>False
theorem vq {K:PySem.W.Frag} {G F H:Hp} {S:Sto} {q:Addr} {kvs:List (Key × D)} (wd:Wd K G F S H) (es:S q=some (.dct kvs)) :
 ∃ u,H q=some u∧Mut (some u)∧∀ od,Le F (upd F q (.frz od u))∧Wd K G (upd F q (.frz od u)) (dl S q) (upd H q (.frz od u))∧Rep K (upd F q (.frz od u)) (.dkz (kvs.map (·.1)) (kvs.map (·.2))) (.ref q):=by
 obtain ⟨vs0,h1,h2⟩:=pW wd es
 refine ⟨_,h1,True.intro,fun od=>?_⟩
 have hF:F q=none:=wd.dj q _ es
 have hG:G q=none:=by
  cases e:G q with
  | none=>rfl
  | some o=>obtain ⟨_,_,g3⟩:=wd.gr q o e; rw [es] at g3; cases g3
 generalize hu:HO.frz od (.dK ((kvs.map (·.1)).zip vs0))=u
 have le1:Le F (upd F q u):=Le.upd hF
 have w1:Wd K G (upd F q u) (dl S q) (upd H q u):=by
  refine ⟨fun a o e=>?_,fun a o e=>?_,fun a m e=>?_,fun a m e=>?_,wd.gt,wd.tb.to le1 fun a ps e1 e2 e3 e4=>by
   have ha:a ≠ q:=fun z=>by subst z; rw [es] at e4; cases e4
   simp only [upd_ne ha,fR ha,e2,e3,e4,and_self]⟩
  ·have ha:=ne_of_none e hG
   obtain ⟨g1,g2,g3⟩:=wd.gr a o e
   exact ⟨by rw [upd_ne ha]; exact g1,by rw [upd_ne ha]; exact g2,by rw [fR ha]; exact g3⟩
  ·by_cases ha:a=q
   ·subst ha; rw [upd_same] at e ⊢; exact e
   ·rw [upd_ne ha] at e ⊢; exact wd.fr a o e
  ·by_cases ha:a=q
   ·subst ha; rw [iI] at e; cases e
   ·rw [fR ha] at e
    obtain ⟨o,g1,g2⟩:=wd.st a m e
    exact ⟨o,by rw [upd_ne ha]; exact g1,g2.le le1⟩
  ·by_cases ha:a=q
   ·subst ha; rw [iI] at e; cases e
   ·rw [fR ha] at e; rw [upd_ne ha]; exact wd.dj a m e
 exact ⟨le1,w1,q,vs0,od,rfl,by rw [upd_same,← hu],h2.le le1,by rw [List.length_map,List.length_map]⟩
def Hl (t:TE):TE:=fun σ H Q=>t σ H fun v H'=>∃ d u,v = .ref d∧H' d=some u∧Mut (some u)∧∀ od,Q v (upd H' d (.frz od u))
theorem Fq {X:Cx} {e:Expr} {t:TE} (h:PE X e t):PE X e (Hl t):=⟨fun pins s σ H Q I q=>thn (h.run pins s σ H _ I q) fun v s1 ⟨x,H1,I1,rx,d,u,ex,hd,mu,g⟩=>by
 obtain ⟨od,I2⟩:=I1.lock hd mu
 exact ⟨x,_,I2,rx,g od⟩⟩
def Fr (t:HTE):HTE:=fun env S Q E=>t env S (fun x S1=>match x with
 | .ref q=>match S1 q with
   | some (.dct kvs)=>Q (.dkz (kvs.map (·.1)) (kvs.map (·.2))) (dl S1 q)
   | _=>False
 | _=>False) E
section
variable {B:Bs} {st:Stmt} {t:HTS} {e:Expr} {te:HTE}
theorem jz (j:Nat) (h:HS B st t):HS B st (c5 j t) :=
 ⟨fun X W okc tk=>PS.imp (Dj (h.run X W okc tk)) fun D σ H h=>by
  obtain ⟨G,F,S,env,E,rn,wd,h,hq⟩:=h
  unfold c5 at h
  split at h
  ·rename_i q ej
   split at h
   ·rename_i kvs es
    obtain ⟨u,h1,h2,h3⟩:=vq wd es
    refine ⟨q,u,h1,h2,fun od=>?_⟩
    obtain ⟨le1,w1,r1⟩:=h3 od
    refine ⟨G,_,_,_,E,Aq (rn.le le1) ej fun v hv=>?_,w1,h,hq.le le1⟩
    obtain rfl:v = .ref q:=hv
    exact r1
   ·exact h.elim
  ·exact h.elim⟩
theorem Hm (h:HE B e te):HE B e (Fr te) :=
 ⟨fun X W okc tk=>PE.imp (Fq (h.run X W okc tk)) fun σ H Q h=>by
  obtain ⟨G,F,S,env,Q0,E0,rn,wd,h,hq,he⟩:=h
  refine ⟨G,F,S,env,_,E0,rn,wd,h,fun d v F1 S1 H1 l1 w1 r1 q1=>?_,he⟩
  dsimp only at q1
  split at q1
  ·rename_i q
   obtain rfl:v = .ref q:=r1
   split at q1
   ·rename_i kvs es
    obtain ⟨u,h1,h2,h3⟩:=vq w1 es
    refine ⟨q,u,rfl,h1,h2,fun od=>?_⟩
    obtain ⟨le1,w2,r2⟩:=h3 od
    exact hq _ _ _ _ _ (l1.trans le1) w2 r2 q1
   ·exact q1.elim
  ·exact q1.elim⟩
end
def vr (te:HTE):HTI:=fun env S R E=>te env S (fun x S1=>match x with
 | .dkz ks _=>ks.length≤1000000∧R (ks.map kdD) none S1
 | _=>False) E
theorem Fs {K:PySem.W.Frag} {G F:Hp} {a:Addr} {o:Obj} {ks:List Key} {vs:List V} (h:F a=some (.frz o (.dK (ks.zip vs)))) (hl:vs.length=ks.length) (z:ks.length≤1000000):IterOk K G F (ks.map kdD) none (Itk a o (ks.zip vs)):=by
 have lz:(ks.zip vs).length=ks.length:=by rw [List.length_zip,hl,Nat.min_self]
 refine ⟨⟨fun i H hi ⟨F1,S1,l,w,c⟩=>?_,fun H ⟨F1,S1,l,w,c⟩=>?_,fun i H x H' hi _ y G1 F1 S1 lg l w c=>?_⟩,by rw [List.length_map]; exact Nat.le_trans z (by decide)⟩
 ·rw [List.length_map] at hi
  exact ⟨w.fr _ _ (l _ _ h),by rw [lz]; exact hi⟩
 ·exact ⟨w.fr _ _ (l _ _ h),by rw [lz,List.length_map]; exact Nat.le_refl _⟩
 ·obtain ⟨rfl,k,v,e1,rfl⟩:=y
  have ek:ks[i]? = some k:=(List.getElem?_zip_eq_some.mp e1).1
  exact ⟨kdD k,F1,by rw [List.getElem?_map,ek]; rfl,Le.rfl',w,De k⟩
section
variable {B:Bs} {tg e a b:Expr} {te ta tb:HTE} {tr:HTA} {p pos:Pos}
theorem Ft (h:HE B e te):HI B tg e (vr te) :=
 ⟨fun X W ok tk=>PI.imp (pi_keys (h.run X W ok tk)) fun σ H R ⟨G,F,S,env,R0,E0,rn,wd,h,hr,he⟩ =>
  ⟨G,F,S,env,_,E0,rn,wd,h,fun d v F1 S1 H1 l1 w1 r1 h1=>by
   dsimp only at h1
   split at h1
   ·rename_i ks ds
    obtain ⟨a,vs,o,rfl,e1,r3,l3⟩:=r1
    exact ⟨a,o,rfl,.inl ⟨_,w1.fr _ _ e1,hr _ _ F1 S1 H1 _ l1 w1 (fun _=>Fs e1 (by rw [r3.len,l3]) h1.1) h1.2⟩⟩
   ·exact h1.elim,he⟩⟩
def cQ:G2:=fun x y S Q=>match x with
 | .dkz ks ds=>match hO y with
   | some k=>match gh (ks.zip ds) k with
     | some d=>Q d S
     | none=>False
   | none=>False
 | _=>False
theorem Ar {K:PySem.W.Frag}:im K cQ zc:=by
 intro G F S H d1 v1 d2 v2 Q0 Q w r1 r2 h hq
 unfold cQ at h
 split at h
 ·rename_i ks ds
  obtain ⟨a,vs,o,rfl,e,r3,l⟩:=r1
  split at h
  ·rename_i k ek
   split at h
   ·rename_i d ed
    have em1:(ks.zip ds).map (·.1)=ks:=List.map_fst_zip (Nat.le_of_eq l.symm)
    have em2:(ks.zip ds).map (·.2)=ds:=List.map_snd_zip (Nat.le_of_eq l)
    obtain ⟨v,h3,h4⟩:=(tw (k:=k) (kvs:=ks.zip ds) (vs:=vs) (by rw [em2]; exact r3)).1 d ed
    obtain rfl:=mG r2 ek
    rw [em1] at h3
    have g:DGet H a (kV k) (valV (ks.zip vs) k):=.inl ⟨_,k,.inr ⟨o,w.fr _ _ e⟩,rfl,rfl⟩
    rw [h3] at g
    exact ⟨a,v,rfl,g,hq d v F S H Le.rfl' w h4 h⟩
   ·exact h.elim
  ·exact h.elim
 ·exact h.elim
theorem iu (ha:HE B a ta) (hb:HE B b tb) (hs:NoSl b:=by intro _ _; rfl):HE B (.Subscript a b pos) (hop cQ ta tb) :=
 ⟨fun X W ok tk=>PE.imp (pe_dget (by have:=ok.room.units; omega) (ha.run X W ok tk) (hb.run X W ok tk) hs) fun σ H Q h=>lop (r:=zc) Ar ta tb σ H Q h⟩
def d9:GL:=fun ds S Q=>match ds with
 | [.dkz ks xs]=>∀ p,S p=none→Q (.ref p) (up S p (.dct (ks.zip xs)))
 | _=>False
theorem xK {K:PySem.W.Frag}:ro K d9 BI:=by
 intro G F S H ds vs Q0 Q w r h hq
 unfold d9 at h
 split at h
 ·rename_i ks xs
  obtain ⟨v,rfl,r1⟩:=r.one_inv
  obtain ⟨a,vs,o,rfl,e,r3,l⟩:=r1
  have em1:(ks.zip xs).map (·.1)=ks:=List.map_fst_zip (Nat.le_of_eq l.symm)
  have em2:(ks.zip xs).map (·.2)=xs:=List.map_snd_zip (Nat.le_of_eq l)
  refine ⟨a,_,rfl,.inr ⟨o,w.fr _ _ e⟩,fun p hp=>hq (.ref p) _ F _ _ Le.rfl' (w.newS (m:=.dct (ks.zip xs)) hp ⟨vs,by rw [em1],by rw [em2]; exact r3⟩) rfl (h p (w.freshS hp))⟩
 ·exact h.elim
theorem kQ (gn:Gn B "dict") (hm:B.mg "dict" = none) (ha:HA B [a] tr) (he:∀ env,starEach [a] env=(false,eval a env) :: starEach [] env:=by intro _; rfl):HE B (.Call (.Name "dict" p) [a] [] pos) (hcb d9 tr) :=
 mx (r:=fun _=>BI) (fun X _=>call_dictD) xK gn hm (by decide +kernel) ha (he:=he) (hpl:=fun _=>rfl)
end
end Hy
namespace LiT
open PySem PySem.Spec PyProof.Rows L2
section
variable {prog:Program} {w:World} {A:Around} {E:Value→Shared→Prop} {s:Shared} {Q:Bool→Shared→Prop}
end
theorem perm_inv {α β:Type} (f:α→β) {l:List α}:∀ {m m':List β},m.Perm m'→m'=l.map f→∃ l':List α,l'.Perm l∧m=l'.map f:=fun {m m'} p=>by
 induction p generalizing l with
 | nil=>intro e; exact ⟨l,.refl _,e⟩
 | cons x p ih =>
   intro e
   cases l with
   | nil=>cases e
   | cons y l =>
     injection e with e1 e2
     obtain ⟨l',h1,h2⟩:=ih e2
     exact ⟨y :: l',h1.cons y,by rw [h2,e1]; rfl⟩
 | swap x y r =>
   intro e
   cases l with
   | nil=>cases e
   | cons a l =>
     cases l with
     | nil=>cases e
     | cons b l =>
       injection e with e1 e2
       injection e2 with e2 e3
       exact ⟨b :: a :: l,.swap _ _ _,by rw [e1,e2,e3]; rfl⟩
 | trans p q ih1 ih2 =>
   intro e
   obtain ⟨l1,h1,h2⟩:=ih2 e
   obtain ⟨l2,h3,h4⟩:=ih1 h2
   exact ⟨l2,h3.trans h1,h4⟩
end LiT
namespace Hy
open PySem PySem.Spec PyProof.Rows L2
section
variable {B:Bs} {a:Expr} {tr:HTA} {p pos:Pos}
end
end Hy
namespace NK
open PySem PySem.Spec PyProof.Rows
variable {prog:Program} {w:World} {A:Around} {E:Value→Shared→Prop} {s:Shared}
theorem iX {w:World} {es:Array DictEntry} {xs:List Row} (he:es.toList=xs.map (ent w)) (j:Nat):es[j]? = (xs[j]?).map (ent w):=by
 rw [← Array.getElem?_toList,he,List.getElem?_map]
theorem jA {w:World} {es:Array DictEntry} {xs:List Row} (he:es.toList=xs.map (ent w)):es.size=xs.length:=by
 rw [← Array.length_toList,he,List.length_map]
theorem zo {xs:List Row} (hn:(xs.map (·.1)).Nodup) {i j:Nat} {k:NestedKey} {p q:Value × Value} (hi:xs[i]? = some (k,p)) (hj:xs[j]? = some (k,q)):i=j:=by
 have hi':(xs.map (·.1))[i]? = some k:=by rw [List.getElem?_map,hi]; rfl
 have hj':(xs.map (·.1))[j]? = some k:=by rw [List.getElem?_map,hj]; rfl
 exact (List.getElem?_inj (List.getElem?_eq_some_iff.mp hi').1 hn).mp (hi'.trans hj'.symm)
abbrev plc (es:Array DictEntry) (h:Int):List Nat:=placesWithHash es.size (fun i=>es[i]?.map (·.hash)) h
theorem plc_mem {es:Array DictEntry} {h:Int} {i:Nat}:i ∈ plc es h↔i < es.size∧es[i]?.map (·.hash)=some h:=by
 unfold plc placesWithHash
 rw [List.mem_filter,List.mem_range,beq_iff_eq]
theorem As {es:Array DictEntry} {h:Int}:(plc es h).Nodup:=by
 unfold plc placesWithHash
 exact List.nodup_range.filter _
def Going (xs:List Row) (k:NestedKey) (rest:List Nat) (hit:Option Nat):Prop :=
 rest.Nodup∧((hit=none∧∀ j p,xs[j]? = some (k,p)→j ∈ rest)∨∃ j p,hit=some j∧xs[j]? = some (k,p)∧j ∉ rest)
theorem Going.skip {xs:List Row} {k:NestedKey} {i:Nat} {rest:List Nat} {hit:Option Nat} (g:Going xs k (i :: rest) hit) (h:∀ p,xs[i]? ≠ some (k,p)):Going xs k rest hit:=by
 obtain ⟨n,g⟩:=g
 refine ⟨(List.nodup_cons.mp n).2,?_⟩
 rcases g with ⟨e,g⟩ | ⟨j,p,e,g1,g2⟩
 ·refine .inl ⟨e,fun j p q=>?_⟩
  rcases List.mem_cons.mp (g j p q) with z | z
  ·subst z; exact absurd q (h p)
  ·exact z
 ·exact .inr ⟨j,p,e,g1,fun z=>g2 (zMt z)⟩
theorem Going.hit {xs:List Row} (hn:(xs.map (·.1)).Nodup) {k:NestedKey} {i:Nat} {p:Value × Value} {rest:List Nat} {hit:Option Nat} (g:Going xs k (i :: rest) hit) (h:xs[i]? = some (k,p)):hit=none∧Going xs k rest (some i):=by
 obtain ⟨n,g⟩:=g
 have hi:i ∉ rest:=(List.nodup_cons.mp n).1
 rcases g with ⟨e,g⟩ | ⟨j,q,e,g1,g2⟩
 ·exact ⟨e,(List.nodup_cons.mp n).2,.inr ⟨i,p,rfl,h,hi⟩⟩
 ·exact absurd (zo hn g1 h ▸ zMs) g2
theorem jd {key:Value} {k:NestedKey} {st:List Value} {Q:Bool→Shared→Prop} (hk:NestedIs s.heap k key) (hd:k.depth≤8) (hst:∀ v ∈ st,∃ k',NestedIs s.heap k' v∧k'.depth≤8) (h:Q false s) :
 wpAny (model prog w) A (tableMayTell key st) Q E s:=by
 unfold tableMayTell
 split
 ·exact wpAny_pure h
 ·refine wpAny_bind (quiet_key k _ 8 s hk hd A E _ ?_)
  simp only [Bool.not_true,Bool.false_eq_true,if_false]
  refine wpAny_bind ?_
  refine wpAny_forIn_list _ (fun rest r s'=>s'=s∧r=(none,())∧∀ v ∈ rest,∃ k',NestedIs s.heap k' v∧k'.depth≤8) _ ?_ ?_ _ _ ⟨rfl,rfl,hst⟩
  ·rintro x rest r s' ⟨rfl,rfl,hr⟩
   obtain ⟨k',h1,h2⟩:=hr x zMs
   refine wpAny_bind (quiet_key k' _ 8 s' h1 h2 A E _ ?_)
   simp only [Bool.not_true,Bool.false_eq_true,if_false]
   exact wpAny_pure ⟨rfl,rfl,fun v hv=>hr v (zMt hv)⟩
  ·rintro r s' ⟨rfl,rfl,_⟩
   exact wpAny_pure h
section
variable {d:Addr} {o:PySem.Obj} {es:Array DictEntry} {ep:Nat} {xs:List Row} {k:NestedKey} {key:Value} {Q:Option Nat→Shared→Prop}
theorem xL (hu:A.units + 8 < cLine) (hk:NestedIs s.heap k key) (hd:k.depth≤8) {x:Row} (hx:NestedIs s.heap x.1 x.2.1) {Q:Bool→Shared→Prop} (h:Q (decide (x.1=k)) s):wpAny (model prog w) A (eqBool x.2.1 key) Q E s:=by
 refine eqAt_key x.1 k A s _ _ hx hk (by omega) _ _ _ _ ?_
 rw [← NestedKey.decide_eq]
 exact h
theorem Do (hu:A.units + 8 < cLine) (hk:NestedIs s.heap k key) (hdk:k.depth≤8) (ho:s.heap.get? d=some o) (hd:o.data = .dict es ep) (he:es.toList=xs.map (ent w))
 (his:∀ x ∈ xs,NestedIs s.heap x.1 x.2.1∧x.1.depth≤8) (hn:(xs.map (·.1)).Nodup)
 (hQ:∀ r:Option Nat,(∀ (j:Nat),r=some j→∃ p:Value × Value,xs[j]? = some (k,p))→(r=none→∀ (j:Nat) (p:Value × Value),xs[j]? ≠ some (k,p))→Q r s) :
 ∀ pl:List Nat,Going xs k pl none→(∀ i ∈ pl,i < es.size∧es[i]?.map (·.hash)=some (k.hash w))→wpAny (model prog w) A (dictWalkPlain d key (k.hash w) es pl) Q E s:=by
 intro pl g hpl
 unfold dictWalkPlain
 refine wpAny_bind ?_
 refine wpAny_forIn_list _ (fun rest b s'=>s'=s∧b=(none,())∧Going xs k rest none∧∀ i ∈ rest,i < es.size∧es[i]?.map (·.hash)=some (k.hash w)) _ ?_ ?_ _ _ ⟨rfl,rfl,g,hpl⟩
 ·rintro i rest b s' ⟨rfl,rfl,g,hr⟩
  obtain ⟨hi,hh⟩:=hr i zMs
  have hr':∀ i ∈ rest,i < es.size∧es[i]?.map (·.hash)=some (k.hash w):=fun j hj=>hr j (zMt hj)
  obtain ⟨⟨k',v',u'⟩,hx⟩:∃ y,xs[i]? = some y:=⟨xs[i]'(by rw [← jA he]; exact hi),List.getElem?_eq_getElem _⟩
  have hex:es[i]? = some ⟨k'.hash w,v',u'⟩:=by rw [iX he i,hx]; rfl
  rw [hex] at hh
  have hh':(k'.hash w == k.hash w)=true:=by simpa using hh
  rw [hex]
  dsimp only
  rw [if_pos hh']
  refine wpAny_bind (wpAny_dictEpoch ho hd (wpAny_bind (xL (x:=(k',v',u')) hu hk hdk (his _ (List.mem_of_getElem? hx)).1 (wpAny_bind (wpAny_dictEpoch ho hd ?_)))))
  show wpAny _ _ (if (ep != ep)=true then _ else _) _ E _
  rw [if_neg (by simp)]
  by_cases hkk:k'=k
  ·subst hkk
   rw [decide_eq_true rfl]
   exact wpAny_bind (wpAny_rule (wpAny_pure (wpAny_pure (hQ (some i) (fun j e=>by cases e; exact ⟨_,hx⟩) (fun e=>nomatch e)))))
  ·rw [decide_eq_false hkk]
   refine wpAny_bind (wpAny_rule (wpAny_pure ⟨rfl,rfl,g.skip fun p e=>?_,hr'⟩))
   rw [hx] at e
   exact hkk (by injection e with e; injection e)
 ·rintro b s' ⟨rfl,rfl,g,_⟩
  refine wpAny_pure (hQ none (fun j e=>nomatch e) fun _ j p e=>?_)
  obtain ⟨_,g⟩:=g
  rcases g with ⟨_,g⟩ | ⟨_,_,e,_⟩
  ·exact nomatch g j p e
  ·cases e
theorem Dq {x:Str} {t:Tok} (hu:A.units + 8 < cLine) (hk:NestedIs s.heap k (.str x t)) (hdk:k.depth≤8) (ho:s.heap.get? d=some o) (hd:o.data = .dict es ep) (he:es.toList=xs.map (ent w))
 (his:∀ x ∈ xs,NestedIs s.heap x.1 x.2.1∧x.1.depth≤8) (hall:(es.all fun e=>isExactStrKey e.key)=true)
 (hQ:∀ r:Option Nat,(∀ (j:Nat),r=some j→∃ p:Value × Value,xs[j]? = some (k,p))→(r=none→∀ (j:Nat) (p:Value × Value),xs[j]? ≠ some (k,p))→Q r s) :
 wpAny (model prog w) A (foundByValue d (.str x t) es x) Q E s:=by
 cases hk
 unfold foundByValue
 cases hf:es.findIdx? (fun e=>e.key.isStr x) with
 | none =>
   dsimp only
   refine wpAny_pure (hQ none (fun j e=>nomatch e) fun _ j p e=>?_)
   have hej:es[j]? = some ⟨NestedKey.hash w (.text x),p.1,p.2⟩:=by rw [iX he j,e]; rfl
   have h1:=(his _ (List.mem_of_getElem? e)).1
   have h2:=Array.findIdx?_eq_none_iff.mp hf _ (Array.mem_of_getElem? hej)
   have h3:isExactStrKey p.1=true:=by
    have:=Array.all_eq_true_iff_forall_mem.mp hall _ (Array.mem_of_getElem? hej)
    exact this
   obtain ⟨q,u⟩:=p
   cases h1
   simp [Value.isStr] at h2
 | some i =>
   dsimp only
   obtain ⟨hlt,hi,_⟩:=Array.findIdx?_eq_some_iff_getElem.mp hf
   have hlx:i < xs.length:=by rw [← jA he]; exact hlt
   obtain ⟨⟨k',v',u'⟩,hx⟩:∃ y,xs[i]? = some y:=⟨xs[i]'hlx,List.getElem?_eq_getElem _⟩
   have hex:es[i]? = some ⟨k'.hash w,v',u'⟩:=by rw [iX he i,hx]; rfl
   have hexx:es[i]=⟨k'.hash w,v',u'⟩:=by rw [Array.getElem?_eq_getElem hlt] at hex; exact Option.some.inj hex
   rw [hexx] at hi
   have h1:=(his _ (List.mem_of_getElem? hx)).1
   have hkk:k' = .text x:=by
    dsimp only at h1 hi
    cases h1 <;> simp [Value.isStr] at hi
    rw [hi]
   rw [hex]
   dsimp only
   refine wpAny_bind (wpAny_dictEpoch ho hd (wpAny_bind (xL (x:=(k',v',u')) hu (.text x t) hdk h1 (wpAny_bind (wpAny_dictEpoch ho hd ?_)))))
   show wpAny _ _ (if (ep != ep)=true then _ else _) _ E _
   rw [if_neg (by simp),decide_eq_true hkk]
   exact wpAny_bind (wpAny_rule (wpAny_pure (hQ (some i) (fun j e=>by cases e; exact ⟨_,by rw [hx,hkk]⟩) (fun e=>nomatch e))))
theorem BQ (hu:A.units + 8 < cLine) (hk:NestedIs s.heap k key) (hdk:k.depth≤8) (ho:s.heap.get? d=some o) (hd:o.data = .dict es ep) (he:es.toList=xs.map (ent w))
 (his:∀ x ∈ xs,NestedIs s.heap x.1 x.2.1∧x.1.depth≤8) (hn:(xs.map (·.1)).Nodup)
 (hQ:∀ r:Option Nat,(∀ (j:Nat),r=some j→∃ p:Value × Value,xs[j]? = some (k,p))→(r=none→∀ (j:Nat) (p:Value × Value),xs[j]? ≠ some (k,p))→Q r s) :
 wpAny (model prog w) A (dictFind d key (k.hash w)) Q E s:=by
 have hmem:∀ e ∈ es,∃ x ∈ xs,e=ent w x:=fun e hin=>by
  have:e ∈ xs.map (ent w):=he ▸ Array.mem_toList_iff.mpr hin
  obtain ⟨x,hx,rfl⟩:=List.mem_map.mp this
  exact ⟨x,hx,rfl⟩
 have g0:Going xs k (plc es (k.hash w)) none:=⟨As,.inl ⟨rfl,fun j p e=>by
  rw [plc_mem,jA he,iX he j,e]
  refine ⟨?_,rfl⟩
  rcases Nat.lt_or_ge j xs.length with h | h
  ·exact h
  ·rw [List.getElem?_eq_none h] at e; cases e⟩⟩
 have p0:∀ i ∈ plc es (k.hash w),i < es.size∧es[i]?.map (·.hash)=some (k.hash w):=fun i hi=>plc_mem.mp hi
 have hst:∀ v ∈ (plc es (k.hash w)).filterMap (fun i=>es[i]?.map (·.key)),∃ k',NestedIs s.heap k' v∧k'.depth≤8:=by
  intro v hv
  obtain ⟨i,_,hi⟩:=List.mem_filterMap.mp hv
  cases hei:es[i]? with
  | none=>rw [hei] at hi; cases hi
  | some e =>
    rw [hei] at hi
    obtain rfl:e.key=v:=by simpa using hi
    obtain ⟨x,hx,rfl⟩:=hmem e (Array.mem_of_getElem? hei)
    exact ⟨x.1,his x hx⟩
 have xy:¬ (es.any fun e=>e.key == key && e.hash != k.hash w)=true:=by
  rw [← Array.any_toList,List.any_eq_true]
  rintro ⟨e,hin,hc⟩
  obtain ⟨x,hx,rfl⟩:=hmem e (Array.mem_toList_iff.mp hin)
  simp only [ent,Bool.and_eq_true,beq_iff_eq,bne_iff_ne,ne_eq] at hc
  obtain ⟨hxa,hne⟩:=hc
  have:=(his x hx).1
  rw [hxa] at this
  exact hne (by rw [NestedIs.inj _ _ _ this hk])
 have old:=Do (prog:=prog) (A:=A) (E:=E) hu hk hdk ho hd he his hn hQ _ g0 p0
 unfold dictFind
 try with_reducible refine wpAny_holding ?_
 refine wpAny_bind (wpAny_dictEntries ho hd ?_)
 dsimp only
 have byv:∀ x t,key = .str x t→(es.all fun e=>isExactStrKey e.key)=true→wpAny (model prog w) A (foundByValue d key es x) Q E s:=fun x t e h=>by
  subst e
  exact Dq hu hk hdk ho hd he his h hQ
 by_cases hall:((key :: (plc es (k.hash w)).filterMap (fun i=>es[i]?.map (·.key))).all carriedByValue)=true
 ·rw [if_pos hall]
  split
  ·split
   ·rename_i x t h
    exact byv _ _ rfl h
   ·exact old
  ·exact old
 ·rw [if_neg hall]
  have hkey:=hk
  cases hk with
  | @tup a ob vs n ks h1 h2 h3 h4 =>
    dsimp only
    rw [if_neg xy]
    by_cases iF:(((plc es (NestedKey.hash w (.tup ks))).filterMap (fun i=>es[i]?.map (·.key))) == [Value.ref a])=true <;>
    (first | rw [if_pos iF] | rw [if_neg iF]) <;> (first | refine wpAny_bind (wpAny_pure ?_) | refine wpAny_bind (jd hkey hdk hst ?_)) <;> (
     rw [if_neg (by simp)]
     refine wpAny_bind ?_
     refine wpAny_forIn_list _ (fun rest b s'=>s'=s∧b.1=none∧Going xs (.tup ks) rest b.2∧∀ i ∈ rest,i < es.size∧es[i]?.map (·.hash)=some (NestedKey.hash w (.tup ks))) _ ?_ ?_ _ _ ⟨rfl,rfl,g0,p0⟩
     ·rintro i rest ⟨b,hit⟩ s' ⟨rfl,hb,g,hr⟩
      dsimp only at hb
      subst hb
      obtain ⟨hi,hh⟩:=hr i zMs
      have hr':∀ i ∈ rest,i < es.size∧es[i]?.map (·.hash)=some (NestedKey.hash w (.tup ks)):=fun j hj=>hr j (zMt hj)
      obtain ⟨⟨k',v',u'⟩,hx⟩:∃ y,xs[i]? = some y:=⟨xs[i]'(by rw [← jA he]; exact hi),List.getElem?_eq_getElem _⟩
      have hex:es[i]? = some ⟨k'.hash w,v',u'⟩:=by rw [iX he i,hx]; rfl
      rw [hex] at hh
      have hh':(k'.hash w == NestedKey.hash w (.tup ks))=true:=by simpa using hh
      rw [hex]
      dsimp only
      rw [if_pos hh']
      refine wpAny_bind (wpAny_dictEpoch ho hd (wpAny_bind (xL (x:=(k',v',u')) hu hkey hdk (his _ (List.mem_of_getElem? hx)).1 (wpAny_bind (wpAny_dictEpoch ho hd ?_)))))
      show wpAny _ _ (if (ep != ep)=true then _ else _) _ E _
      rw [if_neg (by simp)]
      by_cases hkk:k'=(.tup ks)
      ·rw [decide_eq_true hkk]
       rw [hkk] at hx
       obtain ⟨h0,g'⟩:=g.hit hn hx
       subst h0
       first | rw [if_pos rfl] | skip
       simp only [Option.isSome_none,Bool.false_eq_true,if_false]
       first | refine wpAny_bind (wpAny_pure ?_) | skip
       refine wpAny_bind (wpAny_rule ?_)
       split
       ·exact wpAny_pure (wpAny_pure (hQ (some i) (fun j e=>by cases e; exact ⟨_,hx⟩) (fun e=>nomatch e)))
       ·exact wpAny_pure ⟨rfl,rfl,g',hr'⟩
      ·have g':Going xs (.tup ks) rest hit:=g.skip fun p e=>by
        rw [hx] at e
        exact hkk (by injection e with e; injection e)
       rw [decide_eq_false hkk]
       simp only [Bool.false_eq_true,if_false]
       refine wpAny_bind (wpAny_rule ?_)
       first | rw [if_neg (by simp)] | skip
       first
        | exact wpAny_pure ⟨rfl,rfl,g',hr'⟩
        | exact wpAny_bind (wpAny_pure (wpAny_pure ⟨rfl,rfl,g',hr'⟩))
     ·rintro ⟨b,hit⟩ s' ⟨rfl,hb,g,_⟩
      dsimp only at hb
      subst hb
      obtain ⟨_,g⟩:=g
      rcases g with ⟨e0,g⟩ | ⟨j0,p0,e0,g1,_⟩
      ·dsimp only at e0
       subst e0
       exact wpAny_pure (hQ none (fun j e=>nomatch e) fun _ j p e=>nomatch g j p e)
      ·dsimp only at e0
       subst e0
       exact wpAny_pure (hQ (some j0) (fun j e=>by cases e; exact ⟨_,g1⟩) (fun e=>nomatch e)))
  | text x t =>
    dsimp only
    by_cases h:(es.all fun e=>isExactStrKey e.key)=true
    ·rw [if_pos h]
     exact byv _ _ rfl h
    ·rw [if_neg h]
     by_cases iF:(((plc es (NestedKey.hash w (.text x))).filterMap (fun i=>es[i]?.map (·.key))) == [(.str x t)])=true <;>
     (first | rw [if_pos iF] | rw [if_neg iF]) <;> (first | refine wpAny_bind (wpAny_pure ?_) | refine wpAny_bind (jd hkey hdk hst ?_)) <;> (
      rw [if_neg (by simp)]
      refine wpAny_bind ?_
      refine wpAny_forIn_list _ (fun rest b s'=>s'=s∧b.1=none∧Going xs (.text x) rest b.2∧∀ i ∈ rest,i < es.size∧es[i]?.map (·.hash)=some (NestedKey.hash w (.text x))) _ ?_ ?_ _ _ ⟨rfl,rfl,g0,p0⟩
      ·rintro i rest ⟨b,hit⟩ s' ⟨rfl,hb,g,hr⟩
       dsimp only at hb
       subst hb
       obtain ⟨hi,hh⟩:=hr i zMs
       have hr':∀ i ∈ rest,i < es.size∧es[i]?.map (·.hash)=some (NestedKey.hash w (.text x)):=fun j hj=>hr j (zMt hj)
       obtain ⟨⟨k',v',u'⟩,hx⟩:∃ y,xs[i]? = some y:=⟨xs[i]'(by rw [← jA he]; exact hi),List.getElem?_eq_getElem _⟩
       have hex:es[i]? = some ⟨k'.hash w,v',u'⟩:=by rw [iX he i,hx]; rfl
       rw [hex] at hh
       have hh':(k'.hash w == NestedKey.hash w (.text x))=true:=by simpa using hh
       rw [hex]
       dsimp only
       rw [if_pos hh']
       refine wpAny_bind (wpAny_dictEpoch ho hd (wpAny_bind (xL (x:=(k',v',u')) hu hkey hdk (his _ (List.mem_of_getElem? hx)).1 (wpAny_bind (wpAny_dictEpoch ho hd ?_)))))
       show wpAny _ _ (if (ep != ep)=true then _ else _) _ E _
       rw [if_neg (by simp)]
       by_cases hkk:k'=(.text x)
       ·rw [decide_eq_true hkk]
        rw [hkk] at hx
        obtain ⟨h0,g'⟩:=g.hit hn hx
        subst h0
        first | rw [if_pos rfl] | skip
        simp only [Option.isSome_none,Bool.false_eq_true,if_false]
        first | refine wpAny_bind (wpAny_pure ?_) | skip
        refine wpAny_bind (wpAny_rule ?_)
        split
        ·exact wpAny_pure (wpAny_pure (hQ (some i) (fun j e=>by cases e; exact ⟨_,hx⟩) (fun e=>nomatch e)))
        ·exact wpAny_pure ⟨rfl,rfl,g',hr'⟩
       ·have g':Going xs (.text x) rest hit:=g.skip fun p e=>by
         rw [hx] at e
         exact hkk (by injection e with e; injection e)
        rw [decide_eq_false hkk]
        simp only [Bool.false_eq_true,if_false]
        refine wpAny_bind (wpAny_rule ?_)
        first | rw [if_neg (by simp)] | skip
        first
         | exact wpAny_pure ⟨rfl,rfl,g',hr'⟩
         | exact wpAny_bind (wpAny_pure (wpAny_pure ⟨rfl,rfl,g',hr'⟩))
      ·rintro ⟨b,hit⟩ s' ⟨rfl,hb,g,_⟩
       dsimp only at hb
       subst hb
       obtain ⟨_,g⟩:=g
       rcases g with ⟨e0,g⟩ | ⟨j0,p0,e0,g1,_⟩
       ·dsimp only at e0
        subst e0
        exact wpAny_pure (hQ none (fun j e=>nomatch e) fun _ j p e=>nomatch g j p e)
       ·dsimp only at e0
        subst e0
        exact wpAny_pure (hQ (some j0) (fun j e=>by cases e; exact ⟨_,g1⟩) (fun e=>nomatch e)))
  | none =>
    dsimp only
    by_cases iF:(((plc es (NestedKey.hash w .none)).filterMap (fun i=>es[i]?.map (·.key))) == [.none])=true <;>
    (first | rw [if_pos iF] | rw [if_neg iF]) <;> (first | refine wpAny_bind (wpAny_pure ?_) | refine wpAny_bind (jd hkey hdk hst ?_)) <;> (
     rw [if_neg (by simp)]
     refine wpAny_bind ?_
     refine wpAny_forIn_list _ (fun rest b s'=>s'=s∧b.1=none∧Going xs .none rest b.2∧∀ i ∈ rest,i < es.size∧es[i]?.map (·.hash)=some (NestedKey.hash w .none)) _ ?_ ?_ _ _ ⟨rfl,rfl,g0,p0⟩
     ·rintro i rest ⟨b,hit⟩ s' ⟨rfl,hb,g,hr⟩
      dsimp only at hb
      subst hb
      obtain ⟨hi,hh⟩:=hr i zMs
      have hr':∀ i ∈ rest,i < es.size∧es[i]?.map (·.hash)=some (NestedKey.hash w .none):=fun j hj=>hr j (zMt hj)
      obtain ⟨⟨k',v',u'⟩,hx⟩:∃ y,xs[i]? = some y:=⟨xs[i]'(by rw [← jA he]; exact hi),List.getElem?_eq_getElem _⟩
      have hex:es[i]? = some ⟨k'.hash w,v',u'⟩:=by rw [iX he i,hx]; rfl
      rw [hex] at hh
      have hh':(k'.hash w == NestedKey.hash w .none)=true:=by simpa using hh
      rw [hex]
      dsimp only
      rw [if_pos hh']
      refine wpAny_bind (wpAny_dictEpoch ho hd (wpAny_bind (xL (x:=(k',v',u')) hu hkey hdk (his _ (List.mem_of_getElem? hx)).1 (wpAny_bind (wpAny_dictEpoch ho hd ?_)))))
      show wpAny _ _ (if (ep != ep)=true then _ else _) _ E _
      rw [if_neg (by simp)]
      by_cases hkk:k' = .none
      ·rw [decide_eq_true hkk]
       rw [hkk] at hx
       obtain ⟨h0,g'⟩:=g.hit hn hx
       subst h0
       first | rw [if_pos rfl] | skip
       simp only [Option.isSome_none,Bool.false_eq_true,if_false]
       first | refine wpAny_bind (wpAny_pure ?_) | skip
       refine wpAny_bind (wpAny_rule ?_)
       split
       ·exact wpAny_pure (wpAny_pure (hQ (some i) (fun j e=>by cases e; exact ⟨_,hx⟩) (fun e=>nomatch e)))
       ·exact wpAny_pure ⟨rfl,rfl,g',hr'⟩
      ·have g':Going xs .none rest hit:=g.skip fun p e=>by
        rw [hx] at e
        exact hkk (by injection e with e; injection e)
       rw [decide_eq_false hkk]
       simp only [Bool.false_eq_true,if_false]
       refine wpAny_bind (wpAny_rule ?_)
       first | rw [if_neg (by simp)] | skip
       first
        | exact wpAny_pure ⟨rfl,rfl,g',hr'⟩
        | exact wpAny_bind (wpAny_pure (wpAny_pure ⟨rfl,rfl,g',hr'⟩))
     ·rintro ⟨b,hit⟩ s' ⟨rfl,hb,g,_⟩
      dsimp only at hb
      subst hb
      obtain ⟨_,g⟩:=g
      rcases g with ⟨e0,g⟩ | ⟨j0,p0,e0,g1,_⟩
      ·dsimp only at e0
       subst e0
       exact wpAny_pure (hQ none (fun j e=>nomatch e) fun _ j p e=>nomatch g j p e)
      ·dsimp only at e0
       subst e0
       exact wpAny_pure (hQ (some j0) (fun j e=>by cases e; exact ⟨_,g1⟩) (fun e=>nomatch e)))
  | @bool b i0 e =>
    dsimp only
    by_cases iF:(((plc es (NestedKey.hash w (.num i0))).filterMap (fun i=>es[i]?.map (·.key))) == [Value.bool b])=true <;>
    (first | rw [if_pos iF] | rw [if_neg iF]) <;> (first | refine wpAny_bind (wpAny_pure ?_) | refine wpAny_bind (jd hkey hdk hst ?_)) <;> (
     rw [if_neg (by simp)]
     refine wpAny_bind ?_
     refine wpAny_forIn_list _ (fun rest b s'=>s'=s∧b.1=none∧Going xs (.num i0) rest b.2∧∀ i ∈ rest,i < es.size∧es[i]?.map (·.hash)=some (NestedKey.hash w (.num i0))) _ ?_ ?_ _ _ ⟨rfl,rfl,g0,p0⟩
     ·rintro i rest ⟨b,hit⟩ s' ⟨rfl,hb,g,hr⟩
      dsimp only at hb
      subst hb
      obtain ⟨hi,hh⟩:=hr i zMs
      have hr':∀ i ∈ rest,i < es.size∧es[i]?.map (·.hash)=some (NestedKey.hash w (.num i0)):=fun j hj=>hr j (zMt hj)
      obtain ⟨⟨k',v',u'⟩,hx⟩:∃ y,xs[i]? = some y:=⟨xs[i]'(by rw [← jA he]; exact hi),List.getElem?_eq_getElem _⟩
      have hex:es[i]? = some ⟨k'.hash w,v',u'⟩:=by rw [iX he i,hx]; rfl
      rw [hex] at hh
      have hh':(k'.hash w == NestedKey.hash w (.num i0))=true:=by simpa using hh
      rw [hex]
      dsimp only
      rw [if_pos hh']
      refine wpAny_bind (wpAny_dictEpoch ho hd (wpAny_bind (xL (x:=(k',v',u')) hu hkey hdk (his _ (List.mem_of_getElem? hx)).1 (wpAny_bind (wpAny_dictEpoch ho hd ?_)))))
      show wpAny _ _ (if (ep != ep)=true then _ else _) _ E _
      rw [if_neg (by simp)]
      by_cases hkk:k'=(.num i0)
      ·rw [decide_eq_true hkk]
       rw [hkk] at hx
       obtain ⟨h0,g'⟩:=g.hit hn hx
       subst h0
       first | rw [if_pos rfl] | skip
       simp only [Option.isSome_none,Bool.false_eq_true,if_false]
       first | refine wpAny_bind (wpAny_pure ?_) | skip
       refine wpAny_bind (wpAny_rule ?_)
       split
       ·exact wpAny_pure (wpAny_pure (hQ (some i) (fun j e=>by cases e; exact ⟨_,hx⟩) (fun e=>nomatch e)))
       ·exact wpAny_pure ⟨rfl,rfl,g',hr'⟩
      ·have g':Going xs (.num i0) rest hit:=g.skip fun p e=>by
        rw [hx] at e
        exact hkk (by injection e with e; injection e)
       rw [decide_eq_false hkk]
       simp only [Bool.false_eq_true,if_false]
       refine wpAny_bind (wpAny_rule ?_)
       first | rw [if_neg (by simp)] | skip
       first
        | exact wpAny_pure ⟨rfl,rfl,g',hr'⟩
        | exact wpAny_bind (wpAny_pure (wpAny_pure ⟨rfl,rfl,g',hr'⟩))
     ·rintro ⟨b,hit⟩ s' ⟨rfl,hb,g,_⟩
      dsimp only at hb
      subst hb
      obtain ⟨_,g⟩:=g
      rcases g with ⟨e0,g⟩ | ⟨j0,p0,e0,g1,_⟩
      ·dsimp only at e0
       subst e0
       exact wpAny_pure (hQ none (fun j e=>nomatch e) fun _ j p e=>nomatch g j p e)
      ·dsimp only at e0
       subst e0
       exact wpAny_pure (hQ (some j0) (fun j e=>by cases e; exact ⟨_,g1⟩) (fun e=>nomatch e)))
  | int z t =>
    dsimp only
    by_cases iF:(((plc es (NestedKey.hash w (.num z))).filterMap (fun i=>es[i]?.map (·.key))) == [(Value.int z t)])=true <;>
    (first | rw [if_pos iF] | rw [if_neg iF]) <;> (first | refine wpAny_bind (wpAny_pure ?_) | refine wpAny_bind (jd hkey hdk hst ?_)) <;> (
     rw [if_neg (by simp)]
     refine wpAny_bind ?_
     refine wpAny_forIn_list _ (fun rest b s'=>s'=s∧b.1=none∧Going xs (.num z) rest b.2∧∀ i ∈ rest,i < es.size∧es[i]?.map (·.hash)=some (NestedKey.hash w (.num z))) _ ?_ ?_ _ _ ⟨rfl,rfl,g0,p0⟩
     ·rintro i rest ⟨b,hit⟩ s' ⟨rfl,hb,g,hr⟩
      dsimp only at hb
      subst hb
      obtain ⟨hi,hh⟩:=hr i zMs
      have hr':∀ i ∈ rest,i < es.size∧es[i]?.map (·.hash)=some (NestedKey.hash w (.num z)):=fun j hj=>hr j (zMt hj)
      obtain ⟨⟨k',v',u'⟩,hx⟩:∃ y,xs[i]? = some y:=⟨xs[i]'(by rw [← jA he]; exact hi),List.getElem?_eq_getElem _⟩
      have hex:es[i]? = some ⟨k'.hash w,v',u'⟩:=by rw [iX he i,hx]; rfl
      rw [hex] at hh
      have hh':(k'.hash w == NestedKey.hash w (.num z))=true:=by simpa using hh
      rw [hex]
      dsimp only
      rw [if_pos hh']
      refine wpAny_bind (wpAny_dictEpoch ho hd (wpAny_bind (xL (x:=(k',v',u')) hu hkey hdk (his _ (List.mem_of_getElem? hx)).1 (wpAny_bind (wpAny_dictEpoch ho hd ?_)))))
      show wpAny _ _ (if (ep != ep)=true then _ else _) _ E _
      rw [if_neg (by simp)]
      by_cases hkk:k'=(.num z)
      ·rw [decide_eq_true hkk]
       rw [hkk] at hx
       obtain ⟨h0,g'⟩:=g.hit hn hx
       subst h0
       first | rw [if_pos rfl] | skip
       simp only [Option.isSome_none,Bool.false_eq_true,if_false]
       first | refine wpAny_bind (wpAny_pure ?_) | skip
       refine wpAny_bind (wpAny_rule ?_)
       split
       ·exact wpAny_pure (wpAny_pure (hQ (some i) (fun j e=>by cases e; exact ⟨_,hx⟩) (fun e=>nomatch e)))
       ·exact wpAny_pure ⟨rfl,rfl,g',hr'⟩
      ·have g':Going xs (.num z) rest hit:=g.skip fun p e=>by
        rw [hx] at e
        exact hkk (by injection e with e; injection e)
       rw [decide_eq_false hkk]
       simp only [Bool.false_eq_true,if_false]
       refine wpAny_bind (wpAny_rule ?_)
       first | rw [if_neg (by simp)] | skip
       first
        | exact wpAny_pure ⟨rfl,rfl,g',hr'⟩
        | exact wpAny_bind (wpAny_pure (wpAny_pure ⟨rfl,rfl,g',hr'⟩))
     ·rintro ⟨b,hit⟩ s' ⟨rfl,hb,g,_⟩
      dsimp only at hb
      subst hb
      obtain ⟨_,g⟩:=g
      rcases g with ⟨e0,g⟩ | ⟨j0,p0,e0,g1,_⟩
      ·dsimp only at e0
       subst e0
       exact wpAny_pure (hQ none (fun j e=>nomatch e) fun _ j p e=>nomatch g j p e)
      ·dsimp only at e0
       subst e0
       exact wpAny_pure (hQ (some j0) (fun j e=>by cases e; exact ⟨_,g1⟩) (fun e=>nomatch e)))
end
def DN (w:World) (h:Heap) (d:Addr) (xs:List Row):Prop :=
 ∃ o es ep,h.get? d=some o∧o.ExactDict∧o.data = .dict es ep∧es.toList=xs.map (ent w)∧(∀ x ∈ xs,NestedIs h x.1 x.2.1∧x.1.depth≤8)∧(xs.map (·.1)).Nodup
def atN (xs:List Row) (k:NestedKey):Option Value:=(xs.find? fun x=>decide (x.1=k)).map (·.2.2)
def vt (xs:List Row) (k:NestedKey) (key v:Value):List Row :=
 if (xs.any fun x=>decide (x.1=k))=true then xs.map (fun x=>if x.1=k then (x.1,x.2.1,v) else x) else xs ++ [(k,key,v)]
theorem Dr {xs:List Row} (hn:(xs.map (·.1)).Nodup) {k:NestedKey} {j:Nat} {p:Value × Value} (h:xs[j]? = some (k,p)):atN xs k=some p.2:=by
 unfold atN
 cases hf:xs.find? fun x=>decide (x.1=k) with
 | none =>
   have:=List.find?_eq_none.mp hf _ (List.mem_of_getElem? h)
   simp at this
 | some y =>
   have h1:y.1=k:=by simpa using List.find?_some hf
   obtain ⟨i,hi⟩:=List.mem_iff_getElem?.mp (List.mem_of_find?_eq_some hf)
   obtain ⟨y1,y2⟩:=y
   cases h1
   have:=zo hn hi h
   subst this
   rw [h] at hi
   cases hi
   rfl
theorem BR {xs:List Row} {k:NestedKey} (h:∀ (j:Nat) (p:Value × Value),xs[j]? ≠ some (k,p)):atN xs k=none:=by
 unfold atN
 rw [List.find?_eq_none.mpr fun x hx e=>?_] <;> try rfl
 obtain ⟨j,hj⟩:=List.mem_iff_getElem?.mp hx
 have:x.1=k:=of_decide_eq_true e
 exact h j x.2 (by rw [hj,← this])
theorem DN.typeIs {d:Addr} {xs:List Row} (h:DN w s.heap d xs):s.TypeIs (.ref d) "dict" := let ⟨o,_,_,ho,hc,_⟩:=h; ⟨o,ho,hc.1⟩
theorem GG {d:Addr} {xs:List Row} {k:NestedKey} {key:Value} {Q:Option Value→Shared→Prop} (hu:A.units + 8 < cLine) (hk:NestedIs s.heap k key) (hdk:k.depth≤8) (hm:DN w s.heap d xs)
 (h:Q (atN xs k) { s with toks:=s.toks + k.draws }):wpAny (model prog w) A (dictGet d key) Q E s:=by
 obtain ⟨o,es,ep,ho,_,hd,he,his,hn⟩:=hm
 unfold dictGet
 try with_reducible refine wpAny_holding ?_
 refine wpAny_bind (pyHash_key k key A s _ hk (by omega) (wpAny_bind (BQ (s:={ s with toks:=s.toks + k.draws }) hu hk hdk ho hd he his hn fun r r1 r2=>?_)))
 cases r with
 | none =>
   rw [BR (r2 rfl)] at h
   exact wpAny_pure h
 | some j =>
   obtain ⟨p,hj⟩:=r1 j rfl
   rw [Dr hn hj] at h
   refine wpAny_bind (wpAny_dictEntries (s:={ s with toks:=s.toks + k.draws }) ho hd ?_)
   rw [iX he j,hj]
   exact wpAny_pure h
theorem tF {h h':Heap} {d:Addr} {o:PySem.Obj} {es ep} (ho:h.get? d=some o) (hd:o.data = .dict es ep) (hs:Heap.SameBut d h h') {k:NestedKey} {v:Value} (x:NestedIs h k v):NestedIs h' k v :=
 NestedIs.at (fun b ob vs n hb hc=>by
  refine (hs.2 b fun e=>?_).trans hb
  subst e
  rw [ho] at hb
  cases hb
  rw [hd] at hc
  cases hc) k _ x
theorem zp {w:World} {k:NestedKey} {v:Value}:∀ {xs:List Row} {j:Nat} {p:Value × Value},(xs.map (·.1)).Nodup→xs[j]? = some (k,p) →
 (xs.map (ent w)).modify j (fun e=>{ e with val:=v })=(xs.map (fun x=>if x.1=k then (x.1,x.2.1,v) else x)).map (ent w)
 | [],_,_,_,h=>by simp at h
 | x :: xs,0,p,hn,h=>by
   simp only [zG0,Option.some.injEq] at h
   subst h
   rw [List.map_cons,List.nodup_cons] at hn
   have e:xs.map (fun x=>if x.1=k then (x.1,x.2.1,v) else x)=xs:=by
    refine (List.map_congr_left fun y hy=>?_).trans (List.map_id xs)
    rw [if_neg]
    ·rfl
    ·intro z
     exact hn.1 (List.mem_map.mpr ⟨y,hy,z⟩)
   rw [List.map_cons,List.map_cons,List.map_cons,e,if_pos rfl]
   rfl
 | x :: xs,j + 1,p,hn,h=>by
   simp only [zG1] at h
   rw [List.map_cons,List.nodup_cons] at hn
   have hne:¬ x.1=k:=fun e=>hn.1 (List.mem_map.mpr ⟨(k,p),List.mem_of_getElem? h,e.symm⟩)
   rw [List.map_cons,List.map_cons,List.map_cons,if_neg hne,← zp hn.2 h]
   rfl
theorem GH {d:Addr} {xs:List Row} {k:NestedKey} {key v:Value} {Q:Unit→Shared→Prop} (hu:A.units + 8 < cLine) (hk:NestedIs s.heap k key) (hdk:k.depth≤8) (hm:DN w s.heap d xs) (hz:xs.length≤sizeLine)
 (hQ:∀ h',DN w h' d (vt xs k key v)→Heap.SameBut d s.heap h'→Q () { s with heap:=h',toks:=s.toks + k.draws }):wpAny (model prog w) A (dictSet d key v) Q E s:=by
 obtain ⟨o,es,ep,ho,hc,hd,he,his,hn⟩:=hm
 unfold dictSet
 try with_reducible refine wpAny_holding ?_
 refine wpAny_bind (pyHash_key k key A s _ hk (by omega) ?_)
 unfold dictSetHashed
 try with_reducible refine wpAny_holding ?_
 refine wpAny_bind (BQ (s:={ s with toks:=s.toks + k.draws }) hu hk hdk ho hd he his hn fun r r1 r2=>?_)
 cases r with
 | none =>
   have hno:=r2 rfl
   have xy:¬ (xs.any fun x=>decide (x.1=k))=true:=fun z=>by
    obtain ⟨x,hx,e⟩:=List.any_eq_true.mp z
    obtain ⟨j,hj⟩:=List.mem_iff_getElem?.mp hx
    have:x.1=k:=of_decide_eq_true e
    exact hno j x.2 (by rw [hj,← this])
   have hput:vt xs k key v=xs ++ [(k,key,v)]:=by unfold vt; rw [if_neg xy]
   refine wpAny_bind (wpAny_rule (wpAny_updateDictKeys (hz:=by have e:=jA he; omega) (s:={ s with toks:=s.toks + k.draws }) ho hd (hQ _ ⟨_,_,ep + 1,Heap.get?_update_self _ ho (Obj.isFreed_of_dict (Obj.data_mapDictKeys hd _)),
    hc.mapDictKeys _,Obj.data_mapDictKeys hd _,?_,?_,?_⟩ (Heap.SameBut.update ..))))
   ·rw [hput]
    simp [he,ent]
   ·rw [hput]
    intro x hx
    rcases List.mem_append.mp hx with hx | hx
    ·exact ⟨tF ho hd (Heap.SameBut.update ..) (his x hx).1,(his x hx).2⟩
    ·simp only [List.mem_singleton] at hx
     subst hx
     exact ⟨tF ho hd (Heap.SameBut.update ..) hk,hdk⟩
   ·rw [hput,List.map_append,List.nodup_append]
    refine ⟨hn,by simp,fun x hx y hy e=>?_⟩
    simp only [List.map_cons,List.map_nil,List.mem_singleton] at hy
    subst hy e
    obtain ⟨z,hz,ez⟩:=List.mem_map.mp hx
    exact xy (List.any_eq_true.mpr ⟨z,hz,decide_eq_true ez⟩)
 | some j =>
   obtain ⟨p,hj⟩:=r1 j rfl
   have xy:(xs.any fun x=>decide (x.1=k))=true:=List.any_eq_true.mpr ⟨_,List.mem_of_getElem? hj,decide_eq_true rfl⟩
   have hput:vt xs k key v=xs.map (fun x=>if x.1=k then (x.1,x.2.1,v) else x):=by unfold vt; rw [if_pos xy]
   refine wpAny_bind (wpAny_rule (wpAny_bind (wpAny_updateDict (s:={ s with toks:=s.toks + k.draws }) ho hd (wpAny_point (hQ _ ⟨_,_,ep,Heap.get?_update_self _ ho (Obj.isFreed_of_dict (Obj.data_mapDict hd _)),
    hc.mapDict _,Obj.data_mapDict hd _,?_,?_,?_⟩ (Heap.SameBut.update ..))))))
   ·rw [hput]
    have:=zp (w:=w) (v:=v) hn hj
    rw [← he] at this
    obtain ⟨l⟩:=es
    simpa using this
   ·rw [hput]
    intro x hx
    obtain ⟨y,hy,rfl⟩:=List.mem_map.mp hx
    split <;> exact ⟨tF ho hd (Heap.SameBut.update ..) (his y hy).1,(his y hy).2⟩
   ·rw [hput,List.map_map]
    have e:((fun x:Row=>x.1) ∘ fun x:Row=>if x.1=k then (x.1,x.2.1,v) else x)=fun x=>x.1:=by
     funext x
     simp only [Function.comp_apply]
     split <;> rfl
    rw [e]
    exact hn
section
variable {d:Addr} {xs:List Row} {k:NestedKey} {key v:Value}
theorem Fu {Q:Value→Shared→Prop} (hu:A.units + 9 < cLine) (hk:NestedIs s.heap k key) (hdk:k.depth≤8) (hm:DN w s.heap d xs) (hv:atN xs k=some v) (h:Q v { s with toks:=s.toks + k.draws }) :
 wpAny (model prog w) A (getItem (.ref d) key) Q E s:=by
 unfold getItem
 try with_reducible refine wpAny_holding ?_
 refine wpAny_bind (wpAny_sequenceKey hm.typeIs (by decide) ?_)
 refine wpAny_bind (wpAny_callSpecial?_slot (name:=Str.ofString "__getitem__") hm.typeIs slot_dict_getitem
  (wpAny_call_entry slot_dict_getitem hm.typeIs entry_dict_getitem ?_ (args_dict_getitem _ _)))
 show wpAny _ _ (dictGet d key >>= _) _ _ s
 refine wpAny_bind (GG (by simp only [Around.in1_units]; omega) hk hdk hm ?_)
 rw [hv]
 exact wpAny_pure ⟨v,rfl,wpAny_pure h⟩
theorem GI {Q:Unit→Shared→Prop} (hu:A.units + 9 < cLine) (hk:NestedIs s.heap k key) (hdk:k.depth≤8) (hm:DN w s.heap d xs) (hz:xs.length≤sizeLine)
 (hQ:∀ h',DN w h' d (vt xs k key v)→Heap.SameBut d s.heap h'→Q () { s with heap:=h',toks:=s.toks + k.draws }) :
 wpAny (model prog w) A (setItem (.ref d) key v) Q E s:=by
 unfold setItem
 try with_reducible refine wpAny_holding ?_
 refine wpAny_bind (wpAny_sequenceKey hm.typeIs (by decide) ?_)
 refine wpAny_bind (wpAny_callSpecial?_slot (name:=Str.ofString "__setitem__") hm.typeIs slot_dict_setitem
  (wpAny_call_entry slot_dict_setitem hm.typeIs entry_dict_setitem ?_ (args_dict_setitem _ _ _)))
 show wpAny _ _ (Builtin.Dict.notOrdered "__setitem__" ⟨[.ref d,key,v],[]⟩ >>= _) _ _ s
 refine wpAny_bind (wpAny_notOrdered_dict hm.typeIs ?_)
 show wpAny _ _ (dictSet d key v >>= _) _ _ s
 exact wpAny_bind (GH (by simp only [Around.in1_units]; omega) hk hdk hm hz fun h' hm' hs'=>wpAny_pure ⟨.none,rfl,wpAny_pure (hQ h' hm' hs')⟩)
end
end NK
namespace NK
open PySem PySem.Spec PyProof.Rows L2
abbrev RowV:=NestedKey × V × V
def valN (xs:List RowV) (k:NestedKey):Option V:=(xs.find? fun x=>decide (x.1=k)).map (·.2.2)
def putV (xs:List RowV) (k:NestedKey) (key v:V):List RowV :=
 if (xs.any fun x=>decide (x.1=k))=true then xs.map (fun x=>if x.1=k then (x.1,x.2.1,v) else x) else xs ++ [(k,key,v)]
abbrev RR:List RowV→List Row→Prop:=Paired fun p q=>p.1=q.1∧RelV p.2.1 q.2.1∧RelV p.2.2 q.2.2
section
variable {P:Program} {w:World} {F H:Hp} {h:Heap}
mutual
theorem Is.nested (ok:HOk P w H h) (l:∀ a o,F a=some o→H a=some o):∀ {k:NestedKey} {v:V} {u:Value},Is F k v→RelV v u→NestedIs h k u
 | .none,_,u,r,q=>by cases r; cases (show u=Value.none from q); exact .none
 | .num i,_,u,r,q=>by cases r; obtain ⟨t,rfl⟩:=(show ∃ t,u=Value.int i t from q); exact .int i t
 | .text x,_,u,r,q=>by cases r; obtain ⟨t,rfl⟩:=(show ∃ t,u=Value.str x t from q); exact .text x t
 | .tup ks,_,u,⟨b,vs,e,g,r⟩,q=>by
   subst e
   cases (show u=Value.ref b from q)
   obtain ⟨_,its,rel,o,h1,h2,n,h3⟩:=(show ObjOk P w H h b (.tup vs) from ok b _ (l _ _ g))
   exact .tup h1 h2 h3 (by simpa using Iss.nested ok l r rel)
theorem Iss.nested (ok:HOk P w H h) (l:∀ a o,F a=some o→H a=some o):∀ {ks:List NestedKey} {vs:List V} {us:List Value},Iss F ks vs→Vals vs us→NestedAll h ks us
 | [],_,_,r,q=>by cases r; cases q; exact .nil
 | k :: ks,_,_,⟨v,ws,e,r,t⟩,q=>by
   subst e
   cases q with
   | cons q1 q2=>exact .cons (Is.nested ok l r q1) (Iss.nested ok l t q2)
end
theorem RR.val {xs:List RowV} {ys:List Row} (r:RR xs ys) (k:NestedKey):RelO (valN xs k) (atN ys k):=by
 unfold RR at r
 induction r with
 | nil=>exact True.intro
 | @cons p q ps qs h t ih =>
   obtain ⟨h1,_,h2⟩:=h
   by_cases e:p.1=k
   ·have e':q.1=k:=h1.symm.trans e
    have a:valN (p :: ps) k=some p.2.2:=by simp [valN,List.find?_cons,e]
    have b:atN (q :: qs) k=some q.2.2:=by simp [atN,List.find?_cons,e']
    rw [a,b]; exact h2
   ·have e':¬ q.1=k:=fun z=>e (h1.trans z)
    have a:valN (p :: ps) k=valN ps k:=by simp [valN,List.find?_cons,e]
    have b:atN (q :: qs) k=atN qs k:=by simp [atN,List.find?_cons,e']
    rw [a,b]; exact ih
theorem RR.any {xs:List RowV} {ys:List Row} (r:RR xs ys) (k:NestedKey):(xs.any fun x=>decide (x.1=k))=ys.any fun x=>decide (x.1=k):=by
 unfold RR at r
 induction r with
 | nil=>rfl
 | cons h t ih=>rw [List.any_cons,List.any_cons,ih,h.1]
theorem RR.put {xs:List RowV} {ys:List Row} (r:RR xs ys) (k:NestedKey) {y v:V} {u t:Value} (ry:RelV y u) (rv:RelV v t):RR (putV xs k y v) (vt ys k u t):=by
 unfold putV vt
 rw [r.any k]
 by_cases e:(ys.any fun x=>decide (x.1=k))=true
 ·rw [if_pos e,if_pos e]
  unfold RR at r ⊢
  clear e
  induction r with
  | nil=>exact .nil
  | @cons p q ps qs h t ih =>
    rw [List.map_cons,List.map_cons]
    refine .cons ?_ ih
    obtain ⟨h1,h2,h3⟩:=h
    by_cases e:p.1=k
    ·rw [if_pos e,if_pos (h1.symm.trans e)]; exact ⟨h1,h2,rv⟩
    ·rw [if_neg e,if_neg (fun z=>e (h1.trans z))]; exact ⟨h1,h2,h3⟩
 ·rw [if_neg e,if_neg e]
  exact Paired.snoc r ⟨rfl,ry,rv⟩
theorem RR.keys {xs:List RowV} {ys:List Row} (r:RR xs ys):xs.map (·.1)=ys.map (·.1):=by
 unfold RR at r
 induction r with
 | nil=>rfl
 | cons h t ih=>rw [List.map_cons,List.map_cons,ih,h.1]
def At (H:Hp) (w:World) (a:Addr) (xs:List RowV):Prop:=H a=some (.ext (Obj w a xs))∧Iss H (xs.map (·.1)) (xs.map (·.2.1))
theorem vu (ok:HOk P w H h) {xs:List RowV} {ys:List Row} (r:RR xs ys) (q:Iss H (xs.map (·.1)) (xs.map (·.2.1))):∀ y ∈ ys,NestedIs h y.1 y.2.1:=by
 unfold RR at r
 induction r with
 | nil=>intro y hy; cases hy
 | @cons p z ps zs e t ih =>
   rw [List.map_cons,List.map_cons] at q
   obtain ⟨v,ws,e1,q1,q2⟩:=q
   cases e1
   obtain ⟨e1,e2,e3⟩:=e
   intro y hy
   rcases List.mem_cons.mp hy with e | hy
   ·subst e
    rw [← e1]
    exact Is.nested ok (fun _ _ h=>h) q1 e2
   ·exact ih q2 y hy
theorem At.dn (ok:HOk P w H h) {a:Addr} {xs:List RowV} (r:At H w a xs):(a == sysModules)=false∧xs.length≤sizeLine∧∃ ys,RR xs ys∧DN w h a ys:=by
 obtain ⟨e,q⟩:=r
 obtain ⟨⟨h1,h2,h3,h4,ys,h5,o,es,ep,h6,h7,h8,h9⟩,_⟩:=(show ObjOk P w H h a (.ext (Obj w a xs)) from ok a _ e)
 refine ⟨h1,h2,ys,h5,o,es,ep,h6,h7,h8,h9,fun y hy=>⟨vu ok h5 q y hy,?_⟩,by rw [← RR.keys h5]; exact h3⟩
 have:y.1 ∈ xs.map (·.1):=by rw [RR.keys h5]; exact List.mem_map.mpr ⟨y,hy,rfl⟩
 obtain ⟨x,hx,e⟩:=List.mem_map.mp this
 rw [← e]
 exact h4 x hx
theorem BS {H':Hp} {a:Addr} {xs:List RowV} {ys:List Row} (h1:(a == sysModules)=false) (h2:xs.length≤sizeLine) (r:RR xs ys) (d:DN w h a ys):ObjOk P w H' h a (.ext (Obj w a xs)):=by
 obtain ⟨o,es,ep,d1,d2,d3,d4,d5,d6⟩:=d
 refine ⟨⟨h1,h2,by rw [RR.keys r]; exact d6,fun x hx=>?_,ys,r,o,es,ep,d1,d2,d3,d4⟩,⟨o,d1⟩,fun g1 g2 ⟨z1,z2,z3,z4,zs,z5,u,fs,fp,z6,z⟩ k=>⟨z1,z2,z3,z4,zs,z5,u,fs,fp,k _ z6,z⟩⟩
 have:x.1 ∈ ys.map (·.1):=by rw [← RR.keys r]; exact List.mem_map.mpr ⟨x,hx,rfl⟩
 obtain ⟨y,hy,e⟩:=List.mem_map.mp this
 rw [← e]
 exact (d5 y hy).2
theorem vy (xs:List RowV) (k:NestedKey) (y v:V):(putV xs k y v).length≤xs.length + 1:=by
 unfold putV
 split
 ·rw [List.length_map]; omega
 ·rw [List.length_append]; simp
end
section
variable {X:Cx} {pins:List (Addr × PySem.Obj)} {σ:L2.St} {H:Hp} {s:Shared} {a:Addr} {y v:V} {u r:Value} {A:Around} {E:Value→Shared→Prop} {xs:List RowV} {k:NestedKey}
theorem n_item {Q:Value→Shared→Prop} (hu:A.units + 9 < cLine) (I:Inv X pins σ H s) (g:At H X.w a xs) (hk:Is H k y) (hd:k.depth≤8) (ry:RelV y u) (hv:valN xs k=some v) (h:∀ w' s',Inv X pins σ H s'→RelV v w'→Q w' s') :
 wpAny (model X.prog X.w) A (getItem (.ref a) u) Q E s:=by
 obtain ⟨_,_,ys,rel,dd⟩:=g.dn I.hok
 obtain ⟨w',hw,rw'⟩:=RelO.some_of (v:=v) (o:=atN ys k) (by rw [← hv]; exact rel.val k)
 exact Fu hu (Is.nested I.hok (fun _ _ h=>h) hk ry) hd dd hw (h w' _ (I.tok _) rw')
theorem n_put {Q:Unit→Shared→Prop} (hu:A.units + 9 < cLine) (I:Inv X pins σ H s) (g:At H X.w a xs) (hz:xs.length < sizeLine) (hk:Is H k y) (hd:k.depth≤8) (ry:RelV y u) (rv:RelV v r)
 (h:∀ s',Inv X pins σ (upd H a (.ext (Obj X.w a (putV xs k y v)))) s'→Q () s'):wpAny (model X.prog X.w) A (setItem (.ref a) u r) Q E s:=by
 obtain ⟨z,l,ys,rel,dd⟩:=g.dn I.hok
 refine GI hu (Is.nested I.hok (fun _ _ h=>h) hk ry) hd dd (by rw [← Paired.length rel]; exact l) fun h' dd' hs=>h _ ?_
 have he:∃ q,h'.get? a=some q:=let ⟨q,_,_,hq,_⟩:=dd'; ⟨q,hq⟩
 exact d_write I (by rw [g.1]; exact True.intro) hs he (BS z (by have:=vy xs k y v; omega) (rel.put k ry rv) dd')
theorem at_type (I:Inv X pins σ H s) (g:At H X.w a xs):s.TypeIs (.ref a) "dict" := by
 obtain ⟨_,_,ys,rel,dd⟩:=g.dn I.hok
 exact dd.typeIs
def keyN:Key→NestedKey
 | .inl i=>.num i
 | .inr x=>.text x
theorem BT:∀ {a b:Key},keyN a=keyN b→a=b
 | .inl _,.inl _,e=>by injection e with e; rw [e]
 | .inr _,.inr _,e=>by injection e with e; rw [e]
 | .inl _,.inr _,e=>nomatch e
 | .inr _,.inl _,e=>nomatch e
def rowsK (kvs:List (Key × V)):List RowV:=kvs.map fun p=>(keyN p.1,kV p.1,p.2)
theorem BU {P:Program} {w:World}:∀ {kvs:List (Key × V)} {vs:List (Key × Value)} {es:List DictEntry},KV kvs vs→(∀ e ∈ es,∃ k,(mixKind P w).is k e.key=true∧e.hash=(mixKind P w).hash k)→Pairs (mixKind P w) es vs →
 ∃ ys:List Row,RR (rowsK kvs) ys∧es=ys.map (ent w):=by
 intro kvs vs es r
 unfold KV at r
 induction r generalizing es with
 | nil=>intro _ p; cases p; exact ⟨[],.nil,rfl⟩
 | @cons p q ps qs h t ih =>
   intro hk pp
   cases pp with
   | @cons e _ es' _ g1 g2 g3 =>
     obtain ⟨ys,r1,r2⟩:=ih (fun e he=>hk e (zMt he)) g3
     obtain ⟨k,k1,k2⟩:=hk e zMs
     have ek:k=q.1:=(mixKind P w).inj _ _ _ k1 g1
     subst ek
     refine ⟨(keyN q.1,e.key,e.val) :: ys,.cons ⟨by show keyN p.1=keyN q.1; rw [h.1],?_,by rw [g2]; exact h.2⟩ r1,?_⟩
     ·show RelV (kV p.1) e.key
      rw [h.1]
      rcases keyIs_shape (k:=q.1) (v:=e.key) g1 with ⟨i,t,e1,e2⟩ | ⟨x,t,e1,e2⟩
      ·rw [e1,e2]; exact ⟨t,rfl⟩
      ·rw [e1,e2]; exact ⟨t,rfl⟩
     ·rw [List.map_cons,r2]
      congr 1
      obtain ⟨eh,ek,ev⟩:=e
      dsimp only at k2
      rw [k2]
      unfold ent
      congr 1
      cases q.1 <;> rfl
theorem vz:∀ {kvs:List (Key × V)} {F:Hp},Iss F ((rowsK kvs).map (·.1)) ((rowsK kvs).map (·.2.1))
 | [],_=>rfl
 | (k,v) :: kvs,F=>⟨kV k,_,rfl,by cases k <;> rfl,vz (kvs:=kvs)⟩
theorem toN {kvs:List (Key × V)} (I:Inv X pins σ H s) (e:H a=some (.dK kvs)):Inv X pins σ (upd H a (.ext (Obj X.w a (rowsK kvs)))) s:=by
 obtain ⟨z,hd,vs,rel,o,es,ep,d1,d2,d3,d4,d5,d6⟩:=dk_of I.hok e
 obtain ⟨ys,r1,r2⟩:=BU rel (fun e he=>d4 e (by simpa using he)) d5
 have key:ObjOk X.prog X.w (upd H a (.ext (Obj X.w a (rowsK kvs)))) s.heap a (.ext (Obj X.w a (rowsK kvs))):=by
  refine BS (ys:=ys) hd (by unfold rowsK; rw [List.length_map]; exact z) r1 ⟨o,es,ep,d1,d2,d3,r2,fun y hy=>?_,?_⟩
  ·have hk:=vu (xs:=rowsK kvs) I.hok r1 vz y hy
   refine ⟨hk,?_⟩
   have:y.1 ∈ (rowsK kvs).map (·.1):=by rw [RR.keys r1]; exact List.mem_map.mpr ⟨y,hy,rfl⟩
   obtain ⟨x,hx,ex⟩:=List.mem_map.mp this
   obtain ⟨p,_,ep⟩:=List.mem_map.mp hx
   rw [← ex,← ep]
   cases p.1 <;> exact Nat.zero_le _
  ·rw [← RR.keys r1]
   have:(rowsK kvs).map (·.1)=(vs.map (·.1)).map keyN:=by
    rw [← KV.keys rel]
    unfold rowsK
    rw [List.map_map,List.map_map]
    rfl
   rw [this]
   exact List.Pairwise.map _ (fun a b h z=>h (BT z)) d6
 have J:Inv X pins σ (upd H a (.ext (Obj X.w a (rowsK kvs)))) { s with heap:=s.heap,toks:=s.toks }:=d_write I (by rw [e]; exact True.intro) ⟨rfl,fun _ _=>rfl⟩ ⟨o,d1⟩ key
 exact J
end
end NK
namespace Hy
open PySem PySem.Spec PyProof.Rows L2
mutual
def nkD:D→Option NestedKey
 | .non=>some .none
 | .int i=>some (.num i)
 | .str x=>some (.text x)
 | .tps ds=>match nkDs ds with
   | some ks=>some (.tup ks)
   | none=>none
 | _=>none
def nkDs:List D→Option (List NestedKey)
 | []=>some []
 | d :: ds=>match nkD d with
   | some k=>match nkDs ds with
     | some ks=>some (k :: ks)
     | none=>none
   | none=>none
end
section
variable {K:PySem.W.Frag} {F:Hp}
mutual
theorem xM:∀ {d:D} {v:V} {k:NestedKey},Rep K F d v→nkD d=some k→NK.Is F k v
 | .non,_,_,r,e=>by unfold nkD at e; cases e; exact r
 | .int i,_,_,r,e=>by unfold nkD at e; cases e; exact r
 | .str x,_,_,r,e=>by unfold nkD at e; cases e; exact r
 | .tps ds,_,_,r,e=>by
   unfold nkD at e
   split at e
   ·rename_i ks eks
    cases e
    obtain ⟨b,vs,rfl,h,rs,_⟩:=r
    exact ⟨b,vs,rfl,h,nkDs_ok rs eks⟩
   ·cases e
 | .bl _,_,_,_,e=>by unfold nkD at e; cases e
 | .ref _,_,_,_,e=>by unfold nkD at e; cases e
 | .ty _,_,_,_,e=>by unfold nkD at e; cases e
 | .tup _,_,_,_,e=>by unfold nkD at e; cases e
 | .lst _,_,_,_,e=>by unfold nkD at e; cases e
 | .rls _,_,_,_,e=>by unfold nkD at e; cases e
 | .obj _ _,_,_,_,e=>by unfold nkD at e; cases e
 | .exc _ _,_,_,_,e=>by unfold nkD at e; cases e
 | .tpx _,_,_,_,e=>by unfold nkD at e; cases e
 | .dtz _ _,_,_,_,e=>by unfold nkD at e; cases e
 | .dkz _ _,_,_,_,e=>by unfold nkD at e; cases e
theorem nkDs_ok:∀ {ds:List D} {vs:List V} {ks:List NestedKey},Reps K F ds vs→nkDs ds=some ks→NK.Iss F ks vs
 | [],_,_,r,e=>by unfold nkDs at e; cases e; exact r
 | d :: ds,_,_,r,e=>by
   obtain ⟨v,ws,e1,r1,r2⟩:=r
   unfold nkDs at e
   split at e
   ·rename_i k ek
    split at e
    ·rename_i ks eks
     cases e
     exact ⟨v,ws,e1,xM r1 ek,nkDs_ok r2 eks⟩
    ·cases e
   ·cases e
end
end
def fv (kvs:List (NestedKey × D)) (k:NestedKey):Option D:=(kvs.find? fun kv=>decide (kv.1=k)).map (·.2)
def iO (kvs:List (NestedKey × D)) (k:NestedKey) (d:D):List (NestedKey × D) :=
 if (kvs.any fun kv=>decide (kv.1=k))=true then kvs.map (fun kv=>if kv.1=k then (kv.1,d) else kv) else kvs ++ [(k,d)]
abbrev Fits (K:PySem.W.Frag) (F:Hp):List (NestedKey × D)→List NK.RowV→Prop:=Paired fun p q=>p.1=q.1∧NK.Is F p.1 q.2.1∧Rep K F p.2 q.2.2
section
variable {K:PySem.W.Frag} {F H:Hp} {k:NestedKey}
theorem Fits.val {kvs:List (NestedKey × D)} {xs:List NK.RowV} (r:Fits K F kvs xs):(∀ d,fv kvs k=some d→∃ v,NK.valN xs k=some v∧Rep K F d v)∧(fv kvs k).isSome=(NK.valN xs k).isSome:=by
 unfold Fits at r
 induction r with
 | nil=>exact ⟨fun d h=>(by cases h),rfl⟩
 | @cons p q ps qs h t ih =>
   obtain ⟨h1,_,h2⟩:=h
   by_cases e:p.1=k
   ·have e':q.1=k:=h1.symm.trans e
    have a:fv (p :: ps) k=some p.2:=by simp [fv,List.find?_cons,e]
    have b:NK.valN (q :: qs) k=some q.2.2:=by simp [NK.valN,List.find?_cons,e']
    rw [a,b]
    exact ⟨fun d h=>by cases h; exact ⟨_,rfl,h2⟩,rfl⟩
   ·have e':¬ q.1=k:=fun z=>e (h1.trans z)
    have a:fv (p :: ps) k=fv ps k:=by simp [fv,List.find?_cons,e]
    have b:NK.valN (q :: qs) k=NK.valN qs k:=by simp [NK.valN,List.find?_cons,e']
    rw [a,b]; exact ih
theorem Fits.any {kvs:List (NestedKey × D)} {xs:List NK.RowV} (r:Fits K F kvs xs):(kvs.any fun kv=>decide (kv.1=k))=xs.any fun kv=>decide (kv.1=k):=by
 unfold Fits at r
 induction r with
 | nil=>rfl
 | cons h t ih=>rw [List.any_cons,List.any_cons,ih,h.1]
theorem Fits.put {kvs:List (NestedKey × D)} {xs:List NK.RowV} (r:Fits K F kvs xs) {y v:V} {d:D} (ry:NK.Is F k y) (rv:Rep K F d v):Fits K F (iO kvs k d) (NK.putV xs k y v):=by
 unfold iO NK.putV
 rw [r.any]
 by_cases e:(xs.any fun x=>decide (x.1=k))=true
 ·rw [if_pos e,if_pos e]
  unfold Fits at r ⊢
  clear e
  induction r with
  | nil=>exact .nil
  | @cons p q ps qs h t ih =>
    rw [List.map_cons,List.map_cons]
    refine .cons ?_ ih
    obtain ⟨h1,h2,h3⟩:=h
    by_cases e:p.1=k
    ·rw [if_pos e,if_pos (h1.symm.trans e)]; exact ⟨h1,h2,rv⟩
    ·rw [if_neg e,if_neg (fun z=>e (h1.trans z))]; exact ⟨h1,h2,h3⟩
 ·rw [if_neg e,if_neg e]
  exact Paired.snoc r ⟨rfl,ry,rv⟩
theorem Fits.len {kvs:List (NestedKey × D)} {xs:List NK.RowV} (r:Fits K F kvs xs):kvs.length=xs.length:=Paired.length r
theorem Fits.iss (l:Le F H) {kvs:List (NestedKey × D)} {xs:List NK.RowV} (r:Fits K F kvs xs):NK.Iss H (xs.map (·.1)) (xs.map (·.2.1)):=by
 unfold Fits at r
 induction r with
 | nil=>rfl
 | @cons p q ps qs h t ih=>exact ⟨_,_,rfl,by show NK.Is H q.1 q.2.1; rw [← h.1]; exact h.2.1.le l,ih⟩
theorem Ex {G:Hp} {S:Sto} {w:World} {q a:Addr} {kvs:List (NestedKey × D)} (wd:Wd K G F S H) (e:S q=some (.dcn w a kvs)):∃ xs,H q=some (.ext (NK.Obj w a xs))∧Fits K F kvs xs:=by
 obtain ⟨o,h1,xs,rfl,h2⟩:=wd.st q _ e
 exact ⟨xs,h1,h2⟩
end
abbrev BV (w:World):R2:=fun x y H Q=>∃ a xs k v,x = .ref a∧NK.At H w a xs∧NK.Is H k y∧k.depth≤8∧NK.valN xs k=some v∧Q v H
def iP (w:World):G2:=fun x y S Q=>match x with
 | .ref q=>match S q with
   | some (.dcn w' a kvs)=>match nkD y with
     | some k=>match fv kvs k with
       | some d=>w'=w∧a=q∧k.depth≤8∧Q d S
       | none=>False
     | none=>False
   | _=>False
 | _=>False
theorem BW {K:PySem.W.Frag} {w0:World}:im K (iP w0) (BV w0):=by
 intro G F S H d1 v1 d2 v2 Q0 Q w r1 r2 h hq
 unfold iP at h
 split at h
 ·rename_i q
  obtain rfl:v1 = .ref q:=r1
  split at h
  ·rename_i w' a kvs e
   split at h
   ·rename_i k ek
    split at h
    ·rename_i d ed
     obtain ⟨rfl,rfl,hd,h⟩:=h
     obtain ⟨xs,h1,h2⟩:=Ex w e
     obtain ⟨v,h3,h4⟩:=(h2.val (k:=k)).1 d ed
     exact ⟨a,xs,k,v,rfl,⟨h1,h2.iss w.fr⟩,(xM r2 ek).le w.fr,hd,h3,hq d v F S H Le.rfl' w h4 h⟩
    ·exact h.elim
   ·exact h.elim
  ·exact h.elim
 ·exact h.elim
def vA (w:World) (x y z:D) (S:Sto) (Q:Sto→Prop):Prop:=match x with
 | .ref q=>match S q with
   | some (.dcn w' a kvs)=>match nkD y with
     | some k=>w'=w∧a=q∧k.depth≤8∧kvs.length < 16777216∧Q (up S q (.dcn w q (iO kvs k z)))
     | none=>False
   | _=>False
 | _=>False
theorem BX {K:PySem.W.Frag} {w0:World} {G F:Hp} {S:Sto} {H:Hp} {x y z:D} {v u t:V} {Q0:Sto→Prop} (w:Wd K G F S H) (rx:Rep K F x v) (ry:Rep K F y u) (rz:Rep K F z t) (h:vA w0 x y z S Q0) {Q:Hp→Prop} (hq:∀ S' H',Wd K G F S' H'→Q0 S'→Q H') :
 ∃ a xs k,v = .ref a∧NK.At H w0 a xs∧xs.length < sizeLine∧NK.Is H k u∧k.depth≤8∧Q (upd H a (.ext (NK.Obj w0 a (NK.putV xs k u t)))):=by
 unfold vA at h
 split at h
 ·rename_i q
  obtain rfl:v = .ref q:=rx
  split at h
  ·rename_i w' a kvs e
   split at h
   ·rename_i k ek
    obtain ⟨rfl,rfl,hd,hl,h⟩:=h
    obtain ⟨xs,h1,h2⟩:=Ex w e
    have hk:=xM ry ek
    refine ⟨a,xs,k,rfl,⟨h1,h2.iss w.fr⟩,by rw [← h2.len]; exact s5 hl,hk.le w.fr,hd,hq _ _ (w.put (m:=.dcn w' a (iO kvs k z)) e ⟨_,rfl,h2.put hk rz⟩) h⟩
   ·exact h.elim
  ·exact h.elim
 ·exact h.elim
def qi (w:World) (to ti te:HTE):HTS:=fun D env S=>te env S (fun z S1=>to env S1 (fun x S2=>ti env S2 (fun y S3=>vA w x y z S3 fun S4=>D.nx env S4) fun x S3=>D.ex x env S3) fun x S2=>D.ex x env S2) fun x S1=>D.ex x env S1
def Au (w:World):G1:=fun x S Q=>match x with
 | .ref q=>match S q with
   | some (.dct kvs)=>Q (.ref q) (up S q (.dcn w q (kvs.map fun p=>(NK.keyN p.1,p.2))))
   | _=>False
 | _=>False
section
variable {X:Cx} {o i e value:Expr} {pos pos' tpos:Pos} {td ty tv:TE} {w:World}
theorem Ds (hw:X.w=w) (hu:X.A.units + 9 < cLine) (ho:PE X o td) (hi:PE X i ty) (hs:NoSl i):PE X (.Subscript o i pos) (tOp (BV w) td ty):=by
 subst hw
 refine ⟨fun pins s σ H Q I h=>?_⟩
 refine subD_of PySem.F.slot_dict_getitem.lookup hs (thn (ho.run pins s σ H _ I h) fun u s1 ⟨x,H1,I1,rx,q1⟩=>thn (hi.run pins s1 σ H1 _ I1 q1) fun iv s2 ⟨y,H2,I2,ry,a,xs,k,v,ex,g,hk,hd,hv,q2⟩=>?_)
 subst ex
 obtain rfl:u=Value.ref a:=rx
 exact ⟨NK.at_type I2 g,NK.n_item hu I2 g hk hd ry hv fun w' s3 I3 rw'=>⟨v,H2,I3,rw',q2⟩⟩
def GJ (w:World) (td ty tv:TE):TS:=fun D σ H=>tv σ H fun v H1=>td σ H1 fun x H2=>ty σ H2 fun y H3=>∃ a xs k,x = .ref a∧NK.At H3 w a xs∧xs.length < sizeLine∧NK.Is H3 k y∧k.depth≤8∧D.nx σ (upd H3 a (.ext (NK.Obj w a (NK.putV xs k y v))))
theorem Dt (hw:X.w=w) (hu:X.A.units + 9 < cLine) (ho:PE X o td) (hi:PE X i ty) (hv:PE X value tv) (hs:swapsWith value (some (.Subscript o i pos')) pos.line X.env=pure false) :
 PS X (.Assign [.Subscript o i pos'] value pos) (GJ w td ty tv):=by
 subst hw
 refine ⟨fun pins s σ H D I h=>?_⟩
 refine wpAny_Assign_Subscript (thn (hv.run pins s σ H _ I h) fun r s1 ⟨v,H1,I1,rv,q1⟩=>thn (ho.run pins s1 σ H1 _ I1 q1) fun u s2 ⟨x,H2,I2,rx,q2⟩=>thn (hi.run pins s2 σ H2 _ I2 q2) fun iv s3 ⟨y,H3,I3,ry,a,xs,k,ex,g,hl,hk,hd,q3⟩=>?_) hs
 subst ex
 obtain rfl:u=Value.ref a:=rx
 exact NK.n_put hu I3 g hl hk hd ry rv fun s4 I4=>⟨σ,_,I4,q3⟩
def Hn (w:World) (t:TE):TE:=fun σ H Q=>t σ H fun x H1=>∃ a kvs,x = .ref a∧H1 a=some (.dK kvs)∧Q x (upd H1 a (.ext (NK.Obj w a (NK.rowsK kvs))))
theorem Fv (hw:X.w=w) (ho:PE X o td):PE X o (Hn w td):=by
 subst hw
 exact ⟨fun pins s σ H Q I h=>thn (ho.run pins s σ H _ I h) fun u s1 ⟨x,H1,I1,rx,a,kvs,ex,e,q1⟩=>⟨x,_,NK.toN I1 e,rx,q1⟩⟩
end
section
variable {B:Bs} {a b o i e:Expr} {ta tb to ti te:HTE} {pos pos':Pos}
theorem BY (ha:HE B a ta) (hb:HE B b tb) (hs:NoSl b:=by intro _ _; rfl):HE B (.Subscript a b pos) (hop (iP B.w) ta tb) :=
 ⟨fun X W ok tk=>PE.imp (Ds ok.ew (by have:=ok.room.units; omega) (ha.run X W ok tk) (hb.run X W ok tk) hs) fun σ H Q h=>lop (r:=BV B.w) BW ta tb σ H Q h⟩
theorem Ey (ho:HE B o to) (hi:HE B i ti) (h:HE B e te) (hs:∀ env,swapsWith e (some (.Subscript o i pos')) pos.line env=pure false:=by intro _; rfl):HS B (.Assign [.Subscript o i pos'] e pos) (qi B.w to ti te) :=
 ⟨fun X W ok tk=>PS.imp (Dt ok.ew (by have:=ok.room.units; omega) (ho.run X W ok tk) (hi.run X W ok tk) (h.run X W ok tk) (hs _)) fun D σ H ⟨G,F,S,env,E,rn,wd,h,oo⟩ =>
  ⟨G,F,S,env,_,_,rn,wd,h,fun z t F1 S1 H1 l1 w1 r1 h1 =>
   ⟨G,F1,S1,env,_,_,rn.le l1,w1,h1,fun x v F2 S2 H2 l2 w2 r2 h2 =>
    ⟨G,F2,S2,env,_,_,rn.le (l1.trans l2),w2,h2,fun y u F3 S3 H3 l3 w3 r3 h3 =>
     BX w3 (r2.le l3) r3 (r1.le (l2.trans l3)) h3 fun S' H' w' q=>oo.nx env σ F3 S' H' (l1.trans (l2.trans l3)) w' (rn.le (l1.trans (l2.trans l3))) q,(oo.le (l1.trans l2)).exc (rn.le (l1.trans l2))⟩,(oo.le l1).exc (rn.le l1)⟩,oo.exc rn⟩⟩
theorem Ho (h:HE B e te):HE B e (hun (Au B.w) te) :=
 ⟨fun X W ok tk=>PE.imp (Fv ok.ew (h.run X W ok tk)) fun σ H Q ⟨G,F,S,env,Q0,E0,rn,wd,h,hq,he⟩ =>
  ⟨G,F,S,env,_,E0,rn,wd,h,fun d v F1 S1 H1 l1 w1 r1 h1=>by
   unfold Au at h1
   dsimp only at h1
   split at h1
   ·rename_i q
    split at h1
    ·rename_i kvs e
     obtain rfl:v = .ref q:=r1
     obtain ⟨vs,k1,k2⟩:=pW w1 e
     refine ⟨q,_,rfl,k1,hq (.ref q) _ F1 _ _ l1 (w1.put (m:=.dcn B.w q (kvs.map fun p=>(NK.keyN p.1,p.2))) e ⟨_,rfl,?_⟩) rfl h1⟩
     clear h1 k1 e
     induction kvs generalizing vs with
     | nil=>cases k2; exact .nil
     | cons p ps ih =>
       obtain ⟨v,ws,rfl,k3,k4⟩:=k2
       exact .cons ⟨rfl,by obtain ⟨k,d⟩:=p; cases k <;> rfl,k3⟩ (ih ws k4)
    ·exact h1.elim
   ·exact h1.elim,he⟩⟩
end
end Hy
namespace LamK
open PySem PySem.Spec PyProof.Rows L2 LamX
abbrev plK (x:List Int):PyData:=.tuple (x.map .int)
end LamK
namespace Hy
open PySem PySem.Spec PyProof.Rows L2
section
variable {B:Bs} {kx vx tg iter c:Expr} {ti:HTI} {tc:HTT} {tk tv:HTE} {p:Pt} {pos:Pos} {scope:Scope}
end
end Hy
namespace SetX
open PySem PySem.Spec PyProof.Rows L2 LamX LamK
theorem Av {α β:Type} (f:α→β):∀ {us vs:List β},us.Perm vs→∀ L,vs=List.map f L→∃ M,us=List.map f M∧M.Perm L:=by
 intro us vs h
 induction h with
 | nil =>
   intro L e
   cases L with
   | nil=>exact ⟨[],rfl,.nil⟩
   | cons x L=>cases e
 | cons x _ ih =>
   intro L e
   cases L with
   | nil=>cases e
   | cons y L =>
     rw [List.map_cons] at e
     injection e with e1 e2
     obtain ⟨M,m1,m2⟩:=ih L e2
     exact ⟨y :: M,by rw [List.map_cons,m1,e1],m2.cons y⟩
 | swap x y l =>
   intro L e
   cases L with
   | nil=>cases e
   | cons a L =>
     cases L with
     | nil=>cases e
     | cons b L =>
       rw [List.map_cons,List.map_cons] at e
       injection e with e1 e2
       injection e2 with e2 e3
       exact ⟨b :: a :: L,by rw [List.map_cons,List.map_cons,e1,e2,e3],.swap a b L⟩
 | trans _ _ ih1 ih2 =>
   intro L e
   obtain ⟨M,m1,m2⟩:=ih2 L e
   obtain ⟨N,n1,n2⟩:=ih1 M m1
   exact ⟨N,n1,n2.trans m2⟩
abbrev AK:=Addr × List Int
abbrev oR (q:AK):Value:=.ref q.1
abbrev leQ:List Int→List Int→Bool:=PySem.W.dataLe false plK
theorem leQ_iff (x y:List Int):leQ x y=true↔x≤y:=by
 show PySem.W.dataLe false (fun b:List Int=>.tuple (b.map .int)) x y=true↔_
 show (!PySem.W.dataLt (.tuple (y.map .int)) (.tuple (x.map .int)))=true↔_
 rw [PySem.W.dataLt_tuple]
 show (!PySem.W.rowLt (y.map .int) (x.map .int))=true↔_
 rw [PySem.W.dataLt_ints,Bool.not_eq_true',decide_eq_false_iff_not]
 exact List.not_lt
theorem Aw (x y:List Int):(leQ x y || leQ y x)=true:=by
 rw [Bool.or_eq_true,leQ_iff,leQ_iff]
 exact List.le_total x y
theorem Ax {x y z:List Int} (h:leQ x y=true) (k:leQ y z=true):leQ x z=true:=by
 rw [leQ_iff] at h k ⊢
 exact List.le_trans h k
theorem leQ_anti {x y:List Int} (h:leQ x y=true) (k:leQ y x=true):x=y:=by
 rw [leQ_iff] at h k
 exact List.le_antisymm h k
abbrev isQ (L:List AK) (v:Value) (b:AK):Prop:=v=oR b∧b ∈ L
theorem tG (L:List AK):∀ M:List AK,(∀ q ∈ M,q ∈ L)→PySem.W.EachIs (isQ L) (M.map oR) M
 | [],_=>.nil
 | q :: M,h=>.cons ⟨rfl,h q zMs⟩ (tG L M fun r hr=>h r (zMt hr))
theorem BZ {L M:List AK} {out:List Value} (h:PySem.W.EachIs (isQ L) out M):out=M.map oR:=by
 induction h with
 | nil=>rfl
 | cons a _ ih=>rw [a.1,ih] <;> rfl
abbrev fnd (h:Heap) (b:Addr) (o:Obj):Prop:=h.get? b=some o
abbrev Ez (h h':Heap):Prop:=∀ b o,fnd h b o→fnd h' b o
section
variable {P:Program} {w:World} {A:Around} {E:Value→Shared→Prop} {s:Shared}
abbrev vB (M:List AK):List AK:=M.mergeSort fun q r=>leQ q.2 r.2
theorem xN {a:Addr} {L:List AK} {es:Array (Int × Value)} {ep:Nat} {t:SetTable} {Q:Value→Shared→Prop} (R:SetTR P w s.heap a L es ep t) (hh:A.handled=none) (hne:∀ p ∈ L,p.2 ≠ []) (hu:A.units + 4 < cLine)
 (hQ:∀ s' p out c M,Ez s.heap s'.heap→s'.gens=s.gens→s'.os=s.os→s.heap.objs.size≤p→fnd s'.heap p (seqObj "list" out c)→List.Perm M L→out.toList=(vB M).map oR→Q (.ref p) s') :
 wpAny (model P w) A (call (.builtin "sorted") [.ref a]) Q E s:=by
 obtain ⟨ob,hob,hx,hdat⟩:=R.ob
 have few:=R.few
 have szE:=R.size
 refine Calls.call_function_entry kind_sorted plain_sorted entry_sorted (args_sorted1 _) ?_
 unfold Builtin.«sorted»
 refine wpAny_bind (m:=checkCount "sorted" 1 1 _) (wpAny_pure (wpAny_bind ?_))
 refine collect_set (A:=A.in1) hh ⟨ob,hob,hx.1,hdat⟩ R.fits (by unfold scanBound; omega) R.tab.ris R.led fun s1 us gr siz gg oo pm=>?_
 have eL:es.toList.map (·.2)=L.map oR:=by
  rw [R.rows]; unfold rowsOf; rw [List.map_map]; rfl
 obtain ⟨M,rfl,pM⟩:=Av oR pm L eL
 have inL:∀ q ∈ M,q ∈ L:=fun q hq=>pM.mem_iff.mp hq
 have lenM:=pM.length_eq
 refine wpAny_bind (wpAny_newList ?_ (by rw [List.length_map,sizeLine_eq]; omega))
 have atL:fnd (s1.heap.push (seqObj "list" (M.map oR).toArray 0)) s1.heap.objs.size (seqObj "list" (M.map oR).toArray 0):=Heap.get?_push_size _ rfl
 have gp:Ez s1.heap (s1.heap.push (seqObj "list" (M.map oR).toArray 0)):=fun b o e=>Heap.get?_push_of_some _ e
 generalize hpush:s1.heap.push (seqObj "list" (M.map oR).toArray 0)=hp at *
 have hpsz:hp.objs.size=s1.heap.objs.size + 1:=by rw [← hpush,size_push']
 have rd:∀ q ∈ M,∃ as,Reads hp (oR q) (plK q.2) as∧s1.heap.objs.size ∉ as:=fun q hq=>by
  have it:=isT_keep (R.tup q (inL q hq)) fun b u e=>gp b u (gr b u e)
  obtain ⟨_,_,et,ht,hi⟩:=tupInts_of it
  cases et
  refine ⟨_,PyProof.Rows.reads_tuple_ints ht hi,fun hm=>?_⟩
  obtain ⟨o',_,_,ho',_⟩:=R.tup q (inL q hq)
  have lt:=Heap.lt_size (gr _ _ ho')
  have em:s1.heap.objs.size=q.1:=by simpa using hm
  exact absurd em (Nat.ne_of_gt lt)
 refine wpAny_bind (wpAny_holding (PySem.W.list_sort_data (s:={ s1 with heap:=hp }) (enc:=fun q:AK=>plK q.2) atL (tG L M inL) ((tG M M fun q h=>h).mono fun v b hb=>by
  obtain ⟨rfl,hb⟩:=hb
  exact rd b hb) (PySem.W.AllAlike.of fun x y=>qe x.2 y.2) (.inl fun d hd=>?_) (by rw [sizeLine_eq]; omega) (fun b _=>?_) fun out _ e2=>?_))
 ·obtain ⟨⟨c,x⟩,hb,rfl⟩:=List.mem_map.mp hd
  cases x with
  | nil=>exact absurd rfl (hne _ (inL _ hb))
  | cons x r=>exact ⟨_,_,rfl⟩
 ·have hd:(plK b.2).depth≤1:=by simp [plK,PyData.depth,PyData.depthAll,qf]
  show A.units + 1 + 1 + _ < cLine
  omega
 ·obtain ⟨c,hc⟩:=sortedHeap_at (vs:=M.map oR) (out:=out.toArray) atL
  refine wpAny_pure ⟨_,rfl,hQ _ _ out.toArray c M (fun b u e=>?_) gg oo siz hc pM (BZ e2)⟩
  have e1:=gr b u e
  have lt:=Heap.lt_size e1
  show fnd (sortedHeap hp _ _ _) b u
  unfold fnd
  rw [sortedHeap_old (Nat.ne_of_lt lt) (by rw [hpsz]; exact Nat.lt_succ_of_lt lt)]
  exact gp b u e1
end
section
variable {X:Cx}
theorem zq {pins:List (Addr × Obj)} {σ:L2.St} {H F:Hp} {s:Shared} (I:Inv X pins σ H s) (le:∀ b o,F b=some o→H b=some o):∀ {ys:List V} {bs:List (List Int)},TupIs X.K F ys bs→∃ ks:List AK,ys=ks.map (fun q=>V.ref q.1)∧bs=ks.map (·.2)∧(∀ q ∈ ks,SqT X.K F q.1 (q.2.map V.int))∧∀ q ∈ ks,IsT X.prog X.w s.heap q.2 q.1
 | _,_,.nil=>⟨[],rfl,rfl,fun q h=>(by cases h),fun q h=>(by cases h)⟩
 | _,_,.cons (x:=b) ⟨t,e,h⟩ r=>by
   obtain ⟨ks,e1,e2,e3,e4⟩:=zq I le r
   have h':SqT X.K H t (b.map V.int):=by
    rcases h with (h | ⟨o,h⟩) | h
    ·exact .inl (.inl (le _ _ h))
    ·exact .inl (.inr ⟨o,le _ _ h⟩)
    ·exact .inr h
   refine ⟨(t,b) :: ks,by rw [e,e1] <;> rfl,by rw [e2] <;> rfl,fun q hq=>?_,fun q hq=>?_⟩
   ·rcases List.mem_cons.mp hq with rfl | hq
    ·exact h
    ·exact e3 q hq
   ·rcases List.mem_cons.mp hq with rfl | hq
    ·exact I.isT h'
    ·exact e4 q hq
theorem zr {K:PySem.W.Frag} {F:Hp}:∀ ks:List AK,(∀ q ∈ ks,SqT K F q.1 (q.2.map V.int))→TupIs K F (ks.map fun q=>V.ref q.1) (ks.map (·.2))
 | [],_=>.nil
 | q :: ks,h=>.cons ⟨q.1,rfl,h q zMs⟩ (zr ks fun r hr=>h r (zMt hr))
def B1 (K:PySem.W.Frag) (ta:TE):TE:=fun σ H Q=>ta σ H fun x H1=>∃ l ys bs F,x=V.ref l∧SqL K H1 l ys∧(∀ b o,F b=some o→H1 b=some o)∧TupIs K F ys bs∧bs.length < 64∧(∀ b ∈ bs,b ≠ []) ∧
 ∀ zs cs p,H1 p=none→List.length cs < 64→List.Nodup cs→(∀ c,c ∈ cs↔c ∈ bs)→cs.Pairwise (fun x y=>leQ x y=true)→TupIs K F zs cs→Q (.ref p) (upd H1 p (.lst zs))
theorem pe_sortSet {e:Expr} {te:TE} {p p2 q pos:Pos} (hc:X.calm=true) (hu:X.A.units + 64 < cLine) (hg:Gl X "sorted") (hm:X.mg "sorted" = none) (hg2:Gl X "set") (hm2:X.mg "set" = none) (he:PE X e te)
 (na:starEach [e] X.env=(false,eval e X.env) :: starEach [] X.env:=by rfl):PE X (.Call (.Name "sorted" p) [.Call (.Name "set" p2) [e] [] q] [] pos) (B1 X.K te):=by
 refine ⟨fun pins s σ H Q I h=>Call_ (ld_blt I hg hm (by first | rfl | decide +kernel) ?_)⟩
 refine PyProof.Rows.callWith_builtin1 (PyProof.Rows.args_cons (Call_ (ld_blt I hg2 hm2 boot_set ?_)) rfl) rfl rfl
 refine PyProof.Rows.callWith_type1 (PyProof.Rows.args_cons (thn (he.run pins s σ H _ I h) fun v s1 ⟨x,H1,I1,r1,l,ys,bs,F,ex,hl,le,hy,few,hne,k⟩=>PyProof.Rows.args_nil ?_) na) na rfl
 subst ex
 cases r1
 obtain ⟨its,rv,pl,hz⟩:=I1.list hl
 obtain ⟨ks,rfl,rfl,hF,hT⟩:=zq I1 le hy
 rw [List.length_map] at few
 refine call_set_tups (P:=X.prog) (w:=X.w) ks (I1.ok.hd hc) pl.isList (by simpa using refs_of_vals rv) hT few (by omega) fun h' tk L es ep t R g gr=>PyProof.Rows.args_nil ?_
 have inK:∀ p ∈ L,p ∈ ks:=fun p hp=>List.mem_of_mem_take (g.sub p hp)
 refine xN (s:={ s1 with heap:=h',toks:=tk }) R (I1.ok.hd hc) (fun p hp=>hne _ (List.mem_map.mpr ⟨p,inK p hp,rfl⟩)) (by omega) fun s' p out c M gr2 gg oo hp hat pM eo=>?_
 have hsz:s1.heap.objs.size≤h'.objs.size:=by
  have:=R.ob
  obtain ⟨o,ho,_⟩:=this
  exact Nat.le_of_lt (Heap.lt_size ho)
 have inM:∀ p ∈ vB M,p ∈ ks:=fun p hp=>inK p (pM.mem_iff.mp ((List.mergeSort_perm _ _).mem_iff.mp hp))
 have hn:H1 p=none:=I1.hok.fresh (Nat.le_trans hsz hp)
 have lM:(vB M).length < 64:=by rw [(List.mergeSort_perm M _).length_eq,pM.length_eq]; exact R.few
 have J:Inv X pins σ (upd H1 p (.lst ((vB M).map fun q=>V.ref q.1))) { s1 with heap:=s'.heap,gens:=s'.gens,drawn:=s'.drawn,toks:=s'.toks } :=
  I1.call (ch:=[]) (Un.laid (fun b o e=>gr2 b o (gr b o e)) (Nat.le_trans hsz hp) hn) (I1.hok.laid (fun b o e=>gr2 b o (gr b o e)) (Nat.le_trans hsz hp) ⟨by rw [List.length_map,sizeLine_eq]; omega,out.toList,c,by rw [eo]; exact vals_of_refs _,hat⟩) (by rw [gg]; exact I1.bare) (fun _ z=>nomatch z)
 have e:s'={ s1 with heap:=s'.heap,gens:=s'.gens,drawn:=s'.drawn,toks:=s'.toks }:=by
  cases s'
  cases s1
  cases oo
  rfl
 rw [e]
 refine ⟨.ref p,_,J,rfl,k _ ((vB M).map (·.2)) p hn (by rw [List.length_map]; exact lM) ?_ (fun c=>?_) ?_ (zr _ fun q hq=>hF q (inM q hq))⟩
 ·exact (((List.mergeSort_perm M _).trans pM).map (·.2)).nodup_iff.mpr R.nd
 ·rw [(((List.mergeSort_perm M _).trans pM).map (·.2)).mem_iff]
  constructor
  ·intro h
   obtain ⟨q,h1,h2⟩:=List.mem_map.mp h
   exact List.mem_map.mpr ⟨q,inK q h1,h2⟩
  ·intro h
   obtain ⟨q,h1,rfl⟩:=List.mem_map.mp h
   exact g.all q (by rw [List.take_length]; exact h1)
 ·refine List.pairwise_map.mpr (List.pairwise_mergeSort (fun a b c=>?_) (fun a b=>?_) M)
  ·exact Ax
  ·exact Aw a.2 b.2
end
abbrev tk (prog:Program) (w:World):=PySem.strKind prog w
abbrev inF (xs:List Str) (i:Nat):Str→Bool:=fun t=>decide (t ∈ xs.take i)
section
variable {prog:Program} {w:World} {A:Around} {R:Result→Shared→Prop} {I S:Addr} {fp wr:List Addr} {G:Array GenState→Array GenState→Prop} {n:Nat} {P:Nat→Value→Prop} {St:Nat→Shared→Prop} {xs:List Str}
theorem B2 {i:Nat} (h:i < xs.length) (nd:xs.Nodup):inF xs i (xs.getD i Str.empty)=false∧∀ t,inF xs (i + 1) t=(inF xs i t || decide (t=xs.getD i Str.empty)):=by
 have e0:xs.getD i Str.empty=xs[i]:=by rw [List.getD_eq_getElem?_getD,List.getElem?_eq_getElem h]; rfl
 have e1:xs.take (i + 1)=xs.take i ++ [xs[i]]:=by rw [List.take_add_one,List.getElem?_eq_getElem h]; rfl
 rw [e0]
 refine ⟨decide_eq_false fun hm=>?_,fun t=>?_⟩
 ·obtain ⟨j,hj,ej⟩:=List.mem_iff_getElem.mp hm
  rw [List.length_take] at hj
  rw [List.getElem_take] at ej
  have:=(List.getElem_inj nd).mp ej
  omega
 ·unfold inF
  rw [e1,Bool.eq_iff_iff,Bool.or_eq_true,decide_eq_true_eq,decide_eq_true_eq,decide_eq_true_eq,List.mem_append,List.mem_singleton]
theorem B3 (W:WalksS prog w A.in1 I fp wr G n P St) (hSf:S ∉ fp) (nd:xs.Nodup) (len:xs.length=n) (sm:n < 1000) (hval:∀ i v,P i v→∃ t,v = .str (xs.getD i Str.empty) t) :
 ∀ (k i:Nat) (s:Shared),n - i=k→i≤n→St i s→s.heap.SetOf (tk prog w) S (inF xs i) i →
  (∀ s',Moved (S :: wr) G s s'→s'.heap.SetOf (tk prog w) S (inF xs n) n→R (.ok (.ret .none)) s')→codeAny (model prog w) A (.builtin "set.update.loop" ⟨[.ref S,.ref I],[]⟩) R s
 | 0,i,s,hk,hi,hst,hS,hR=>by
   obtain rfl:i=n:=by omega
   have nw:S ∉ wr:=fun h=>hSf (W.sub _ h)
   refine codeAny_builtin PyProof.Rows.F.entry_set_update_loop ?_
   rw [Around.under_plainId PyProof.Rows.F.plain_set_update_loop _]
   refine (show wpAny _ A.in1 (pyNext (.ref I) >>= _) _ _ s from wpAny_bind (W.done s _ _ hst fun s' hm=>?_))
   obtain ⟨o,es,ep,t,ho,rest⟩:=hS
   exact (show wpAny _ A.in1 (ret Value.none) _ _ s' from wpAny_pure (hR s' (hm.mono fun b hb=>.tail _ hb) ⟨o,es,ep,t,hm.heap S _ nw ho,rest⟩))
 | k + 1,i,s,hk,hi,hst,hS,hR=>by
   have lt:i < n:=by omega
   have nw:S ∉ wr:=fun h=>hSf (W.sub _ h)
   obtain ⟨f1,f2⟩:=B2 (xs:=xs) (i:=i) (by omega) nd
   refine codeAny_builtin PyProof.Rows.F.entry_set_update_loop ?_
   rw [Around.under_plainId PyProof.Rows.F.plain_set_update_loop _]
   refine (show wpAny _ A.in1 (pyNext (.ref I) >>= _) _ _ s from wpAny_bind (W.item i s _ _ lt hst fun v s1 hP st1 m1=>?_))
   obtain ⟨t,rfl⟩:=hval i v hP
   have S1:s1.heap.SetOf (tk prog w) S (inF xs i) i:=by
    obtain ⟨o,es,ep,tb,ho,rest⟩:=hS
    exact ⟨o,es,ep,tb,m1.heap S _ nw ho,rest⟩
   refine (show wpAny _ A.in1 (holding _ (setAdd S (.str (xs.getD i Str.empty) t)) >>= _) _ _ s1 from wpAny_bind (wpAny_holding ?_))
   unfold setAdd
   refine wpAny_holding (wpAny_bind ((tk prog w).pyHash (k:=xs.getD i Str.empty) (strKind_is _ _ _ _) ?_))
   refine wpAny_setAddHashed_of (knd:=tk prog w) (s:={ s1 with toks:=s1.toks + 1 }) (strKind_is _ _ _ _) rfl S1 (by unfold scanBound; omega) fun h2 same S2=>?_
   rw [f1] at S2
   have S3:h2.SetOf (tk prog w) S (inF xs (i + 1)) (i + 1):=SetOf_congr S2 (fun t'=>(f2 t').symm) (by simp)
   refine wpAny_pure ⟨plainId_quiet PyProof.Rows.F.plain_set_update_loop _,B3 W hSf nd len sm hval k (i + 1) _ (by omega) lt (W.frame _ s1 _ _ st1 (Nat.le_succ _) fun b hb o e=>?_) S3 fun s3 m3 S4=>hR s3 (Moved.trans W.gtrans ((m1.mono fun b hb=>.tail _ hb).then_heap (Nat.le_succ _) fun b o hb e=>?_) m3) S4⟩
   ·rw [same.2 b fun q:b=S=>hSf (q ▸ hb)]; exact e
   ·rw [same.2 b fun q:b=S=>hb (q ▸ zMs)]; exact e
end
section
variable {prog:Program} {w:World} {A:Around} {E:Value→Shared→Prop} {s:Shared}
abbrev kc (led:Bool):Obj:={ cls:=.type "set",dict:=none,data:=.set #[] 0 (.fresh 0 0 led) }
theorem EA:∀ {us:List Value} {xs:List Str},StrsAre us xs→∀ (i:Nat) (v:Value),us[i]? = some v→∃ t,v = .str (xs.getD i Str.empty) t
 | _,_,.nil,_,_,h=>by cases h
 | _,_,.cons _ t _,0,_,h=>⟨t,by cases h; rfl⟩
 | _,_,.cons _ _ r,i + 1,v,h=>EA r i v h
abbrev zt (h h':Heap):Prop:=∀ b o,b < h.objs.size→fnd h b o→fnd h' b o
theorem qj {l:Addr} {items:Array Value} {xs:List Str} {Q:Value→Shared→Prop} (hh:A.handled=none) (hl:s.heap.IsList l items) (hi:StrsAre items.toList xs) (nd:xs.Nodup) (sm:xs.length < 1000)
 (h:∀ h' tk',h'.SetOf (tk prog w) s.heap.objs.size (inF xs xs.length) xs.length→zt s.heap h'→Q (.ref s.heap.objs.size) { s with heap:=h',toks:=tk' }):wpAny (model prog w) A (call (.type "set") [.ref l]) Q E s:=by
 have len:xs.length=items.size:=by rw [← StrsAre.len_eq hi,Array.length_toList]
 obtain ⟨c,tl,hmro⟩:=PySem.F.called_set.mro
 have a1:=PySem.F.called_set.made
 have a2:=PySem.F.called_set.sub
 have a3:=PySem.F.called_set.notType
 have a4:=PySem.F.called_set.canCreate
 have a5:=PySem.F.typeCall_set_1 (.ref l)
 refine wpAny_call (codeAny_of_tree (show wpAny _ _ (callAny (.type "set") _) _ _ _ from wpAny_pure ⟨Code.quiet_builtin _ (by decide +kernel),codeAny_builtin PySem.F.entry_type_call ?_⟩))
 rw [Around.under_plain (weight_type_call_type "set" [.ref l] []) rfl]
 repeat (any_goals (first | assumption | wp_step))
 refine codeAny_mono (code_set_new_1 (.ref l) (E:=E) (Q₁:=fun v s1=>∃ led,v = .ref s.heap.objs.size∧s1={ s with heap:=s.heap.push (kc led) }) fun led=>⟨led,rfl,rfl⟩) fun r s1 hr=>?_
 cases r
 case error e=>exact hr
 case ok fl =>
  cases fl <;> try exact hr.elim
  obtain ⟨led,rfl,rfl⟩:=hr
  have atS:fnd (s.heap.push (kc led)) s.heap.objs.size (kc led):=Heap.get?_push_size _ rfl
  have tyS:Shared.TypeIs { s with heap:=s.heap.push (kc led) } (.ref s.heap.objs.size) "set" := ⟨_,atS,rfl⟩
  have a6:=PySem.F.called_set.init.lookup
  have a7:=PySem.F.called_set.init.bind (.ref s.heap.objs.size)
  repeat (any_goals (first | assumption | wp_step))
  refine codeAny_mono (codeAny_call_builtin (R:=wants (fun r s2=>r = .none∧∃ h' tk',s2={ s with heap:=h',toks:=tk' }∧h'.SetOf (tk prog w) s.heap.objs.size (inF xs xs.length) xs.length∧zt s.heap h') E) PySem.F.called_set.init.plain PySem.F.entry_set_init (check_set_init_1 tyS ?_)) fun r s2 hr2=>?_
  ·obtain ⟨⟨oc,od,oda,os⟩,at0,oc1,n0,od1⟩:=hl
   simp only at oc1 od1
   subst oc1
   subst od1
   have atl:=Heap.get?_push_of_some (kc led) at0
   have b1:=PySem.F.sub_list_set
   have b2:=PySem.F.sub_list_frozenset
   have b3:(Value.type "list" == Value.type "dict")=false:=by decide
   have isl:(s.heap.push (kc led)).IsList l items:=⟨_,atl,rfl,n0,rfl⟩
   unfold Builtin.«set.__init__» noKeywords Builtin.Frozenset.updateFrom
   generalize hpi:pyIter=pi
   wp_walk
   subst hpi
   refine wpAny_pyIter_list isl (wpAny_bind (wpAny_runValue ?_))
   have lt0:=Heap.lt_size at0
   have sz1:(s.heap.push (kc led)).objs.size=s.heap.objs.size + 1:=Heap.size_push _ _
   have hn3:A.in1.in1.in1.handled=none:=by simp [hh]
   have neI:l ≠ (s.heap.push (kc led)).objs.size:=by rw [sz1]; exact Nat.ne_of_lt (Nat.lt_succ_of_lt lt0)
   refine B3 (xs:=xs) (n:=items.size) ((Walks.list hn3 _ l neI items).toS) (S:=s.heap.objs.size) ?_ nd len (by omega) (fun i v hv=>EA hi i v (by rw [Array.getElem?_toList]; exact hv)) (items.size - 0) 0 _ (by omega) (Nat.zero_le _) ⟨⟨_,Heap.get?_push_size _ rfl,rfl,rfl⟩,isl.push _⟩ ?_ ?_
   ·rw [sz1]
    simp only [List.mem_cons,List.mem_singleton,List.not_mem_nil,or_false,not_or]
    exact ⟨Nat.ne_of_lt (Nat.lt_succ_self _),Nat.ne_of_gt lt0⟩
   ·exact SetOf_congr ((setObjOf_fresh (knd:=tk prog w) led).setOf (Heap.get?_push_of_some _ atS) (by unfold scanBound; omega)) (fun t=>(decide_eq_false (by simp)).symm) rfl
   ·intro s' hm hS'
    obtain ⟨h',g',d',t',os'⟩:=s'
    obtain rfl:g'=s.gens:=hm.gens
    obtain rfl:d'=s.drawn:=hm.drawn
    obtain rfl:os'=s.os:=hm.os
    rw [← len] at hS'
    refine (show wpAny _ _ _ _ _ _ from wpAny_pure (show wpAny _ _ (ret Value.none) _ _ _ from wpAny_pure ⟨rfl,h',t',rfl,hS',fun b o hb e=>?_⟩))
    refine hm.heap b o ?_ (Heap.get?_push_of_some _ (Heap.get?_push_of_some _ e))
    rw [sz1]
    simp only [List.mem_cons,List.mem_singleton,List.not_mem_nil,or_false,not_or]
    exact ⟨Nat.ne_of_lt hb,Nat.ne_of_lt (Nat.lt_succ_of_lt hb)⟩
  ·cases r
   case error e=>exact hr2
   case ok fl =>
    cases fl <;> try exact hr2.elim
    obtain ⟨rfl,h',t',rfl,hS',hk'⟩:=hr2
    repeat (any_goals (first | assumption | wp_step))
    exact h _ _ hS' hk'
end
section
variable {X:Cx}
theorem vC:∀ {ys:List Str} {us:List Value},Vals (ys.map V.str) us→StrsAre us ys
 | [],_,.nil=>.nil
 | y :: ys,_,.cons r t=>by
   obtain ⟨k,rfl⟩:=r
   exact .cons y k (vC t)
def Fw (K:PySem.W.Frag) (ta:TE):TE:=fun σ H Q=>ta σ H fun x H1=>∃ l,∃ xs:List Str,x = .ref l∧SqL K H1 l (xs.map V.str)∧xs.Nodup∧xs.length < 1000∧Q (.int (xs.length:Nat)) H1
theorem pe_lenTx {e:Expr} {te:TE} {p p2 q pos:Pos} (hc:X.calm=true) (hg:Gl X "len") (hm:X.mg "len" = none) (hg2:Gl X "set") (hm2:X.mg "set" = none) (he:PE X e te)
 (na:starEach [e] X.env=(false,eval e X.env) :: starEach [] X.env:=by rfl):PE X (.Call (.Name "len" p) [.Call (.Name "set" p2) [e] [] q] [] pos) (Fw X.K te):=by
 refine ⟨fun pins s σ H Q I h=>Call_ (ld_blt I hg hm boot_len ?_)⟩
 refine PyProof.Rows.callWith_builtin1 (PyProof.Rows.args_cons (Call_ (ld_blt I hg2 hm2 boot_set ?_)) rfl) rfl rfl
 refine PyProof.Rows.callWith_type1 (PyProof.Rows.args_cons (thn (he.run pins s σ H _ I h) fun v s1 ⟨x,H1,I1,r1,l,xs,ex,hq,nd,sm,k⟩=>PyProof.Rows.args_nil ?_) na) na rfl
 subst ex
 cases r1
 obtain ⟨its,r,pl,hz⟩:=I1.list hq
 refine qj (I1.ok.hd hc) pl.isList (by simpa using vC r) nd sm fun h' tk' hS hk=>PyProof.Rows.args_nil ?_
 obtain ⟨o,es,ep,t,ho,hex,hd,_,_,_,hf,hn⟩:=hS
 have I2:Inv X pins σ H1 { s1 with heap:=h',toks:=tk' }:=I1.kept fun b o e=>hk b o (Heap.lt_size e) e
 refine call_len_set ho hex hd hf (by rw [hn] <;> omega) ⟨.int (xs.length:Nat),H1,I2.tok _,⟨_,by rw [hn]⟩,k⟩
end
abbrev leT:Str→Str→Bool:=PySem.W.dataLe false fun b:Str=>PyData.str b
abbrev rSortedTx (K:PySem.W.Frag):List V→Hp→VK→Prop:=fun xs H Q=>∃ (a:Addr) (bs:List Str),xs=[.ref a]∧SqL K H a (bs.map V.str)∧bs.length≤1000000∧∀ p,H p=none→Q (.ref p) (upd H p (.lst ((bs.mergeSort leT).map V.str)))
abbrev Fx (u:Value) (x:Str):Prop:=∃ t,u = .str x t
theorem zu:∀ {xs:List Str} {us:List Value},Vals (xs.map V.str) us→PySem.W.EachIs Fx us xs
 | [],_,.nil=>.nil
 | x :: xs,_,.cons r t=>.cons r (zu t)
theorem vD:∀ {xs:List Str} {us:List Value},PySem.W.EachIs Fx us xs→Vals (xs.map V.str) us
 | _,_,.nil=>.nil
 | _,_,.cons r t=>.cons r (vD t)
theorem call_sortedTx {X:Cx} (hu:X.A.units + 8 < cLine):CallR X (.builtin "sorted") (rSortedTx X.K):=by
 intro pins s σ H xs us Q I r h
 obtain ⟨a,bs,rfl,hs,hL,q⟩:=h
 obtain ⟨u,rfl,rx⟩:=r.one
 cases rx
 obtain ⟨its,rv,hl,hz⟩:=I.list hs
 have e:=zu rv
 refine PySem.W.sorted_data (R:=Fx) (enc:=fun b:Str=>PyData.str b) (vs:=its) hl.isList e (e.mono fun v y ⟨t,hv⟩=>⟨[],by rw [hv]; exact .str ..⟩) (PySem.W.AllAlike.of fun x y=>rfl) (.inr fun d hd=>?_) (Nat.le_trans hL (by decide)) (fun b _=>?_) fun out hlo e2=>?_
 ·obtain ⟨b,hb,rfl⟩:=List.mem_map.mp hd
  exact ⟨(fun z=>nomatch z),fun xs z=>nomatch z⟩
 ·have hd:(PyData.str b).depth≤1:=by simp [PyData.depth]
  omega
 ·have z:=vD e2
  obtain ⟨ep,he'⟩:=PyProof.Rows.sortedAll_at s.heap its (List.toArray out)
  refine ⟨.ref (s.heap.objs.size + 1),upd H (s.heap.objs.size + 1) (.lst _),I.laid (t':=s.toks) (fun _ _=>PyProof.Rows.sortedAll_old) (Nat.le_succ _) ⟨?_,out,ep,z,he'⟩,rfl,q _ (I.hok.fresh (Nat.le_succ _))⟩
  rw [z.length,hlo]
  exact Nat.le_trans hL (by decide)
end SetX
namespace Hy
open PySem PySem.Spec PyProof.Rows L2
def vE:List D→Option (List Str)
 | []=>some []
 | .str x :: r=>match vE r with
   | some l=>some (x :: l)
   | none=>none
 | _ :: _=>none
theorem qk:∀ xs:List Str,vE (xs.map D.str)=some xs
 | []=>rfl
 | x :: xs=>by
   show (match vE (xs.map D.str) with
    | some l=>some (x :: l)
    | none=>none)=_
   rw [qk xs]
theorem tH {K:PySem.W.Frag} {F:Hp}:∀ {ds:List D} {vs:List V} {xs:List Str},Reps K F ds vs→vE ds=some xs→vs=xs.map V.str
 | [],_,_,r,e=>by cases r; cases e; rfl
 | d :: ds,_,xs,r,e=>by
   obtain ⟨v,ws,rfl,r1,r2⟩:=r
   cases d <;> simp only [vE] at e <;> try (exact absurd e (by simp))
   split at e
   ·rename_i l el
    cases e
    cases r1
    rw [tH r2 el] <;> rfl
   ·cases e
theorem vF {K:PySem.W.Frag} {F:Hp}:∀ xs:List Str,Reps K F (xs.map D.str) (xs.map V.str)
 | []=>rfl
 | x :: xs=>⟨_,_,rfl,rfl,vF xs⟩
abbrev leT:Str→Str→Bool:=SetX.leT
def ie:GL:=fun ds S Q=>match ds with
 | [d]=>match bF S d with
   | some es=>match vE es with
     | some bs=>bs.length≤1000000∧Q (.lst ((bs.mergeSort leT).map D.str)) S
     | none=>False
   | none=>False
 | _=>False
theorem xO {K:PySem.W.Frag}:ro K ie (SetX.rSortedTx K):=by
 intro G F S H ds vs0 Q0 Q w r h hq
 unfold ie at h
 split at h
 case h_2=>exact h.elim
 rename_i d
 obtain ⟨v,rfl,r1⟩:=r.one_inv
 split at h
 case h_2=>exact h.elim
 rename_i es ees
 split at h
 case h_2=>exact h.elim
 rename_i bs ebs
 obtain ⟨hL,h⟩:=h
 obtain ⟨a,vs,rfl,hs,rs,z⟩:=dF w r1 ees
 have e:=tH rs ebs
 subst e
 refine ⟨a,bs,rfl,hs,hL,fun p hp=>?_⟩
 refine (j6 w (vF (bs.mergeSort leT)) ?_ hq h).2 p hp
 rw [List.length_map,(List.mergeSort_perm bs leT).length_eq]
 exact Nat.le_trans hL (by decide)
theorem zx {B:Bs} {a:Expr} {tr:HTA} {p pos:Pos} (gn:Gn B "sorted") (hm:B.mg "sorted" = none) (ha:HA B [a] tr) (he:∀ env,starEach [a] env=(false,eval a env) :: starEach [] env:=by intro _; rfl):HE B (.Call (.Name "sorted" p) [a] [] pos) (hcb ie tr) :=
 lH (r:=SetX.rSortedTx) (fun X ok=>SetX.call_sortedTx (by have:=ok.room.units; omega)) xO gn hm (by decide +kernel) ha (he:=he)
def ke:G1:=fun x S Q=>match bF S x with
 | some es=>match qg es with
   | some bs=>bs.length < 64∧(∀ b ∈ bs,b ≠ [])∧∀ cs:List (List Int),cs.Nodup→(∀ c,c ∈ cs↔c ∈ bs)→cs.Pairwise (fun x y=>SetX.leQ x y=true)→Q (.lst (cs.map tpI)) S
   | none=>False
 | none=>False
def pF:G1:=fun x S Q=>match bF S x with
 | some es=>match vE es with
   | some xs=>xs.Nodup∧xs.length < 1000∧Q (.int (xs.length:Nat)) S
   | none=>False
 | none=>False
section
variable {B:Bs} {e:Expr} {te:HTE} {p p2 q pos:Pos}
theorem B4 (gn:Gn B "sorted") (hm:B.mg "sorted" = none) (gn2:Gn B "set") (hm2:B.mg "set" = none) (he:HE B e te) (na:∀ env,starEach [e] env=(false,eval e env) :: starEach [] env:=by intro _; rfl):HE B (.Call (.Name "sorted" p) [.Call (.Name "set" p2) [e] [] q] [] pos) (hun ke te) :=
 ⟨fun X W ok tk=>PE.imp (SetX.pe_sortSet ok.calm (by have:=ok.room.units; omega) (ok.gl gn) (by rw [ok.em]; exact hm) (ok.gl gn2) (by rw [ok.em]; exact hm2) (he.run X W ok tk) (na _)) fun σ H Q ⟨G,F,S,env,Q0,E0,rn,wd,h,hq,hE⟩=>⟨G,F,S,env,_,E0,rn,wd,h,fun d v F1 S1 H1 l1 w1 r1 h1=>by
  dsimp only [ke] at h1
  split at h1
  case h_2=>exact h1.elim
  rename_i es ees
  split at h1
  case h_2=>exact h1.elim
  rename_i bs ebs
  obtain ⟨few,hne,h1⟩:=h1
  obtain ⟨a,vs,rfl,hs,rs,z⟩:=dF w1 r1 ees
  obtain ⟨t1,t2,t3⟩:=zm ebs rs
  rw [ok.eK] at *
  refine ⟨a,vs,bs,F1,rfl,hs,w1.fr,t1,few,hne,fun zs cs p hp lc nd hm2 pw hz=>?_⟩
  have rz:Reps _ F1 (cs.map tpI) zs:=vo hz fun y hy=>t2 y ((hm2 y).mp hy)
  exact (j6 w1 rz (by rw [List.length_map,sizeLine_eq]; omega) (hq.le l1) (h1 cs nd hm2 pw)).2 p hp,hE⟩⟩
theorem Du (gn:Gn B "len") (hm:B.mg "len" = none) (gn2:Gn B "set") (hm2:B.mg "set" = none) (he:HE B e te) (na:∀ env,starEach [e] env=(false,eval e env) :: starEach [] env:=by intro _; rfl):HE B (.Call (.Name "len" p) [.Call (.Name "set" p2) [e] [] q] [] pos) (hun pF te) :=
 ⟨fun X W ok tk=>PE.imp (SetX.pe_lenTx ok.calm (ok.gl gn) (by rw [ok.em]; exact hm) (ok.gl gn2) (by rw [ok.em]; exact hm2) (he.run X W ok tk) (na _)) fun σ H Q ⟨G,F,S,env,Q0,E0,rn,wd,h,hq,hE⟩=>⟨G,F,S,env,_,E0,rn,wd,h,fun d v F1 S1 H1 l1 w1 r1 h1=>by
  dsimp only [pF] at h1
  split at h1
  case h_2=>exact h1.elim
  rename_i es ees
  split at h1
  case h_2=>exact h1.elim
  rename_i xs exs
  obtain ⟨nd,few,h1⟩:=h1
  obtain ⟨a,vs,rfl,hs,rs,z⟩:=dF w1 r1 ees
  have e:=tH rs exs
  subst e
  rw [ok.eK] at *
  exact ⟨a,xs,rfl,hs,nd,few,hq (.int _) _ F1 S1 H1 l1 w1 (by show V.int _=_; rfl) h1⟩,hE⟩⟩
end
def top (i:Nat):Stmt:=PySem.Challenge.pw_tryback_k61_spots_and_faults.main.body.getD i (.Pass ⟨0,0,0,0⟩)
structure Fc (K:PySem.W.Frag) (mg:Str→Option Value):Prop where
 f_all:mg "all" = none
 f_dict:mg "dict" = none
 f_enumerate:mg "enumerate" = none
 f_int:mg "int" = none
 f_isinstance:mg "isinstance" = none
 f_len:mg "len" = none
 f_list:mg "list" = none
 f_min:mg "min" = none
 f_range:mg "range" = none
 f_set:mg "set" = none
 f_sorted:mg "sorted" = none
 f_str:mg "str" = none
 f_sum:mg "sum" = none
 f_tuple:mg "tuple" = none
 g_ALONE:mg "ALONE" = some (.ref (He.ga K "ALONE"))
 t_ALONE:∀ F,Rep K F (.tup [(.str ("fault" : Str)),(.str ("may" : Str)),(.str ("again" : Str)),(.str ("out" : Str))]) (.ref (He.ga K "ALONE"))
 g_BLOCKS:∃ t,mg "BLOCKS" = some (.int 3 t)
 g_CELL_DEEDS:mg "CELL_DEEDS" = some (.ref (He.ga K "CELL_DEEDS"))
 t_CELL_DEEDS:∀ F,Rep K F (.tup [(.str ("put" : Str)),(.str ("blank" : Str)),(.str ("give" : Str))]) (.ref (He.ga K "CELL_DEEDS"))
 g_EXITS:mg "EXITS" = some (.ref (He.ga K "EXITS"))
 t_EXITS:∀ F,Rep K F (.tup [(.str ("found" : Str)),(.str ("none" : Str)),(.str ("fault" : Str))]) (.ref (He.ga K "EXITS"))
 g_LETTERS:∃ t,mg "LETTERS" = some (.str ("abcdefghijklmnopqrstuvwxyz" : Str) t)
 g_ROW_DEEDS:mg "ROW_DEEDS" = some (.ref (He.ga K "ROW_DEEDS"))
 t_ROW_DEEDS:∀ F,Rep K F (.tup [(.str ("push" : Str)),(.str ("pop" : Str)),(.str ("cut" : Str))]) (.ref (He.ga K "ROW_DEEDS"))
 g_STATEMENTS:∃ t,mg "STATEMENTS" = some (.int 14 t)
 g_TWO_PARTS:mg "TWO_PARTS" = some (.ref (He.ga K "TWO_PARTS"))
 t_TWO_PARTS:∀ F,Rep K F (.tup [(.str ("either" : Str)),(.str ("told" : Str)),(.str ("guard" : Str)),(.str ("lastly" : Str))]) (.ref (He.ga K "TWO_PARTS"))
 n_BadCode:mg (eX 35)=some (.ref (cad K 35))
 n_Checker:mg (eX 5)=some (.ref (cad K 5))
 n_Code:mg (eX 4)=some (.ref (cad K 4))
 n_Function:mg (eX 3)=some (.ref (cad K 3))
 n_Spot:mg (eX 27)=some (.ref (cad K 27))
 n_TooGreat:mg (eX 36)=some (.ref (cad K 36))
 n_TryError:mg (eX 34)=some (.ref (cad K 34))
 n_Ways:mg (eX 28)=some (.ref (cad K 28))
 k_Spot:Cls K (cad K 27)
 k_Ways:Cls K (cad K 28)
 k_Function:Cls K (cad K 3)
 k_Code:Cls K (cad K 4)
 k_Checker:Cls K (cad K 5)
 a_body:Attr K "body" bV
 a_cells:Attr K "cells" i5
 a_code:Attr K "code" jt
 a_faulting:Attr K "faulting" fQ
 a_first:Attr K "first" i6
 a_function:Attr K "function" gP
 a_functions:Attr K "functions" aO
 a_many:Attr K "many" sV
 a_mood:Attr K "mood" po
 a_name:Attr K "name" cy
 a_nexts:Attr K "nexts" fZ
 a_number:Attr K "number" gF
 a_path:Attr K "path" pq
 a_rows:Attr K "rows" mq
 a_spots:Attr K "spots" dt
 a_start:Attr K "start" pS
 a_statement:Attr K "statement" ju
 x_BadCode:ExcOk K 35
 x_TooGreat:ExcOk K 36
 b_TryError:BaseOk K 34
abbrev aZ:Stmt:=inClass (top 14) 0
def kg:List Str:=[("self" : Str),("function" : Str),("number" : Str)]
theorem oS:FnScope kg [("self" : Str),("function" : Str),("number" : Str)] (defScope aZ):=⟨rfl,rfl,rfl,by decide +kernel,rfl,by decide +kernel,by decide +kernel⟩
theorem oT {B:Bs} {k:Nat} (c:Fc B.K B.mg):HXI ⟨B.P,B.w,B.K,B.mg,B.base,k,kg,defScope aZ,true,fun _=>true⟩ (defBody aZ) (fw 35):=hxi (hx0 c.b_TryError rfl c.n_TryError) (hxs hx1 (hxs hx1 GA))
theorem oU {B:Bs} {k:Nat} {f:Addr} {fd:FuncData} (c:Fc B.K B.mg) (F:FunD B.K "__init__" "BadCode.__init__" (defArgs aZ) (defBody aZ) (defScope aZ) [] [] f fd):FnOk B.P B.w B.K B.mg B.base (CX B.P B.w) (k + 1) f fd [("self" : Str),("function" : Str),("number" : Str)] (mE B.K 35):=Ep c.x_BadCode F oS rfl (oT c)
theorem oV {K:PySem.W.Frag} {f:Addr} {fd:FuncData} (F:FunD K "__init__" "BadCode.__init__" (defArgs aZ) (defBody aZ) (defScope aZ) [] [] f fd):Binds K fd [("self" : Str),("function" : Str),("number" : Str)] []:=F.bindsN (ps:=[("self" : Str),("function" : Str),("number" : Str)]) fun _ _ _ _ _ _ us hl=>match us,hl with | [_,_,_],_=>rfl
def d_BadCode_init:He.DefD:=⟨("BadCode",some "__init__"), "__init__", "BadCode.__init__",defArgs aZ,defBody aZ,defScope aZ,[],[]⟩

abbrev aR:Stmt:=inClass (top 15) 0
def jY:List Str:=[("self" : Str)]
theorem nn:FnScope jY [("self" : Str)] (defScope aR):=⟨rfl,rfl,rfl,by decide +kernel,rfl,by decide +kernel,by decide +kernel⟩
theorem nr {B:Bs} {k:Nat} (c:Fc B.K B.mg):HXI ⟨B.P,B.w,B.K,B.mg,B.base,k,jY,defScope aR,true,fun _=>true⟩ (defBody aR) (fw 36):=hxi (hx0 c.b_TryError rfl c.n_TryError) GA
theorem nt {B:Bs} {k:Nat} {f:Addr} {fd:FuncData} (c:Fc B.K B.mg) (F:FunD B.K "__init__" "TooGreat.__init__" (defArgs aR) (defBody aR) (defScope aR) [] [] f fd):FnOk B.P B.w B.K B.mg B.base (CX B.P B.w) (k + 1) f fd [("self" : Str)] (mE B.K 36):=Ep c.x_TooGreat F nn rfl (nr c)
theorem nu {K:PySem.W.Frag} {f:Addr} {fd:FuncData} (F:FunD K "__init__" "TooGreat.__init__" (defArgs aR) (defBody aR) (defScope aR) [] [] f fd):Binds K fd [("self" : Str)] []:=F.bindsN (ps:=[("self" : Str)]) fun _ _ _ _ _ _ us hl=>match us,hl with | [_],_=>rfl
def d_TooGreat_init:He.DefD:=⟨("TooGreat",some "__init__"), "__init__", "TooGreat.__init__",defArgs aR,defBody aR,defScope aR,[],[]⟩

abbrev aS:Stmt:=top 3
def N_parts_of_layouts:List Str:=[("statement" : Str),("part" : Str)]
theorem k8:FnScope N_parts_of_layouts [("statement" : Str)] (defScope aS):=⟨rfl,rfl,rfl,by decide +kernel,rfl,by decide +kernel,by decide +kernel⟩
def du:HTS:=(aA (hLc (eT (hSl (hV 0) (iL (hC (.int 1))) mw)) (.nm 1) (fK (hTr (hun (gR j9) (hV 1)))) (hV 1) [1]))
theorem k9 {B:Bs} {k:Nat} (c:Fc B.K B.mg)  : HSs ⟨B.P,B.w,B.K,B.mg,B.base,k + 1,N_parts_of_layouts,defScope aS,true,fun _=>true⟩ (defBody aS) (du) :=
 (aI (bW (oQ [("part",1)] (gQ (hsl (hv 0) (Bi ay) ET)) (by dsimp only [Bs.blk]; decide +kernel) (by decide) (hnm 1) (Aj (oP (htr (tf s7 rfl c.f_isinstance rfl c.f_str PySem.Pv.boot_str (hv 1))))) (hv 1))))
theorem ld {B:Bs} {k:Nat} {f:Addr} {fd:FuncData} {sp:HSp} (c:Fc B.K B.mg) (F:FunD B.K "parts_of" "parts_of" (defArgs aS) (defBody aS) (defScope aS) [] [] f fd)
 (hr:∀ ds S Q E,ds.length=1→sp ds S Q E→du { nx:=fun _ S'=>Rt Q .non S',rt:=Rt Q,ex:=fun x _ S'=>Rx E x S' } (ao N_parts_of_layouts.length ds) S):FnAt B (k + 2) f 1 [] sp :=
 cO F (bc (F.bindsN fun _ _ _ _ _ _ us hl=>match us,hl with | [_],_=>rfl)) cP k8 (k9 c ) hr
def d_parts_of_layouts:He.DefD:=⟨("parts_of_layouts",none), "parts_of", "parts_of",defArgs aS,defBody aS,defScope aS,[],[]⟩

abbrev cF:Stmt:=inClass (top 6) 0
def N_Spot_init:List Str:=[("self" : Str),("path" : Str),("mood" : Str),("statement" : Str)]
theorem tJ:FnScope N_Spot_init [("self" : Str),("path" : Str),("mood" : Str),("statement" : Str)] (defScope cF):=⟨rfl,rfl,rfl,by decide +kernel,rfl,by decide +kernel,by decide +kernel⟩
def gm:HTS:=(aj (d8 pq (hV 0) (hV 1))
 (aj (d8 po (hV 0) (hV 2))
 (aj (d8 ju (hV 0) (hV 3))
 (d8 fZ (hV 0) (aE ae)))))
theorem tK {B:Bs} {k:Nat} (c:Fc B.K B.mg)  : HSs ⟨B.P,B.w,B.K,B.mg,B.base,k + 1,N_Spot_init,defScope cF,true,fun _=>true⟩ (defBody cF) (gm) :=
 (hss (i8 c.a_path (hv 0) (hv 1))
 (hss (i8 c.a_mood (hv 0) (hv 2))
 (hss (i8 c.a_statement (hv 0) (hv 3))
 (aI (i8 c.a_nexts (hv 0) (bM ag))))))
theorem tL {B:Bs} {k:Nat} {f:Addr} {fd:FuncData} {sp:HSp} (c:Fc B.K B.mg) (F:FunD B.K "__init__" "Spot.__init__" (defArgs cF) (defBody cF) (defScope cF) [] [] f fd)
 (hr:∀ ds S Q E,ds.length=4→sp ds S Q E→gm { nx:=fun _ S'=>Rt Q .non S',rt:=Rt Q,ex:=fun x _ S'=>Rx E x S' } (ao N_Spot_init.length ds) S):FnAt B (k + 2) f 4 [] sp :=
 cO F (bc (F.bindsN fun _ _ _ _ _ _ us hl=>match us,hl with | [_,_,_,_],_=>rfl)) cP tJ (tK c ) hr
def d_Spot_init:He.DefD:=⟨("Spot",some "__init__"), "__init__", "Spot.__init__",defArgs cF,defBody cF,defScope cF,[],[]⟩

abbrev cG:Stmt:=inClass (top 7) 0
def N_Ways_init:List Str:=[("self" : Str),("body" : Str),("faulting" : Str),("way" : Str),("stops" : Str)]
theorem tM:FnScope N_Ways_init [("self" : Str),("body" : Str),("faulting" : Str)] (defScope cG):=⟨rfl,rfl,rfl,by decide +kernel,rfl,by decide +kernel,by decide +kernel⟩
def gu (ax:HSp):HTS:=(aj (d8 fQ (hV 0) (hV 2))
 (aj (d8 dt (hV 0) (cM ae))
 (aj (aK 4 (xJ (eT (aE (aa (hC (.str ("found" : Str))) (aa (hC (.str ("none" : Str))) ae)))) (.nm 3) (hV 3) (aE (aa (hV 3) ae)) [3]))
 (c5 4 (d8 i6 (hV 0) (bG 28 6 [(.bl false)] ax (hV 0) (aa (hV 1) (aa (aE (aa (av ae) (aa (av ae) ae))) (aa (aE (aa (hC (.str ("none" : Str))) ae)) (aa (aE (aa (hV 4) (aa (aE (aa (hC (.str ("fault" : Str))) ae)) ae))) ae))))))))))
theorem tN {B:Bs} {k:Nat} {ax:HSp} (c:Fc B.K B.mg) (h_Ways_lay_1:HMeth B (k + 1) 28 "lay" 6 [(.bl false)] ax):HSs ⟨B.P,B.w,B.K,B.mg,B.base,k + 1,N_Ways_init,defScope cG,true,fun _=>true⟩ (defBody cG) (gu ax) :=
 (hss (i8 c.a_faulting (hv 0) (hv 2))
 (hss (i8 c.a_spots (hv 0) (iJ ag))
 (hss (Dn 4 [("way",3)] (gQ (bM (ad az (ad az ag)))) (by dsimp only [Bs.blk]; decide +kernel) (by decide) (hnm 3) (hv 3) (bM (ad (hv 3) ag)))
 (aI (jz 4 (i8 c.a_first (hv 0) (iq (h_Ways_lay_1.in_) zNr (hv 0) (ad (hv 1) (ad (bM (ad (cc ag) (ad (cc ag) ag))) (ad (bM (ad az ag)) (ad (bM (ad (hv 4) (ad (bM (ad az ag)) ag))) ag)))))))))))
theorem tO {B:Bs} {k:Nat} {f:Addr} {fd:FuncData} {ax sp:HSp} (c:Fc B.K B.mg) (F:FunD B.K "__init__" "Ways.__init__" (defArgs cG) (defBody cG) (defScope cG) [] [] f fd) (h_Ways_lay_1:HMeth B (k + 1) 28 "lay" 6 [(.bl false)] ax)
 (hr:∀ ds S Q E,ds.length=3→sp ds S Q E→gu ax { nx:=fun _ S'=>Rt Q .non S',rt:=Rt Q,ex:=fun x _ S'=>Rx E x S' } (ao N_Ways_init.length ds) S):FnAt B (k + 2) f 3 [] sp :=
 cO F (bc (F.bindsN fun _ _ _ _ _ _ us hl=>match us,hl with | [_,_,_],_=>rfl)) cP tM (tN c h_Ways_lay_1) hr
def d_Ways_init:He.DefD:=⟨("Ways",some "__init__"), "__init__", "Ways.__init__",defArgs cG,defBody cG,defScope cG,[],[]⟩

abbrev cf:Stmt:=inClass (top 7) 1
def N_Ways_lay:List Str:=[("self" : Str),("body" : Str),("where" : Str),("on" : Str),("ends" : Str),("loop" : Str),("path" : Str),("mood" : Str),("first" : Str),("numbers" : Str),("at" : Str),("statement" : Str),("here" : Str)]
theorem oz:FnScope N_Ways_lay [("self" : Str),("body" : Str),("where" : Str),("on" : Str),("ends" : Str),("loop" : Str)] (defScope cf):=⟨rfl,rfl,rfl,by decide +kernel,rfl,by decide +kernel,by decide +kernel⟩
def fU (cY cw:HSp):HTS:=(aj (f9 (.tp [(.nm 6),(.nm 7)]) (hV 2))
 (aj (aK 8 (hcb dJ (aa (hun (ba dt) (hV 0)) ae)))
 (aj (aK 9 (hop Dk (hV 8) (hop cr (hop cr (hV 8) (hcb dJ (aa (hV 1) ae))) (hC (.int 1)))))
 (aj (cC (hJ (aa (hop cr (hcb dJ (aa (hV 1) ae)) (hC (.int 1))) ae)) (.nm 10) (aj (aK 11 (hIf (hB (hop gLt (hV 10) (hcb dJ (aa (hV 1) ae)))) (hop gIx (hV 1) (hV 10)) (hC .non)))
 (aL (hMt eU cz (hun (ba dt) (hV 0)) (aa (fS 27 4 [] cY (aa (hop bb (hV 6) (av (aa (hV 10) ae))) (aa (hV 7) (aa (hV 11) ae)))) ae)))))
 (aj (cC (dO (aa (hV 1) ae)) (.tp [(.nm 10),(.nm 11)]) (aj (aK 12 (hop gIx (hun (ba dt) (hV 0)) (hop gIx (hV 9) (hV 10))))
 (d8 fZ (hV 12) (bG 28 5 [] cw (hV 0) (aa (hV 11) (aa (aE (aa (hop bb (hV 6) (av (aa (hV 10) ae))) (aa (hV 7) ae))) (aa (aE (aa (hop gIx (hV 9) (hop cr (hV 10) (hC (.int 1)))) ae)) (aa (hV 4) ae))))))))
 (aj (d8 fZ (hop gIx (hun (ba dt) (hV 0)) (hop gIx (hV 9) (hun hM (hC (.int 1))))) (hop cr (hIf (hTr (hV 5)) (aE (aa (hV 8) ae)) (aE ae)) (hV 3)))
 (aA (hV 8))))))))
theorem oA {B:Bs} {k:Nat} {cY cw:HSp} (c:Fc B.K B.mg) (h_Spot_init:HMake B k 27 4 [] cY) (h_Ways_after:HMeth B (k + 1) 28 "after" 5 [] cw):HSs ⟨B.P,B.w,B.K,B.mg,B.base,k + 1,N_Ways_lay,defScope cf,true,fun _=>true⟩ (defBody cf) (fU cY cw) :=
 (hss (u5 (hv 2) (htp (hps (hnm 6) (hps (hnm 7) nf))))
 (hss (aP (hlen rfl c.f_len (ad (dL c.a_spots (hv 0)) ag)))
 (hss (aP (Dm rfl c.f_list rfl c.f_range (hv 8) (fL (fL (hv 8) (hlen rfl c.f_len (ad (hv 1) ag))) ay)))
 (hss (ip (xB rfl c.f_range (ad (fL (hlen rfl c.f_len (ad (hv 1) ag)) ay) ag)) (hnm 10) (hss (aP (EK (Ab (hv 10) (hlen rfl c.f_len (ad (hv 1) ag))) (hix (hv 1) (hv 10)) sX))
 (aI (eO (fj (dL c.a_spots (hv 0)) (ad (rZ (h_Spot_init.in_) zNr rfl (ad (eV (hv 6) (cc (ad (hv 10) ag))) (ad (hv 7) (ad (hv 11) ag)))) ag))))))
 (hss (ip (pZ rfl c.f_enumerate (ad (hv 1) ag)) (htp (hps (hnm 10) (hps (hnm 11) nf))) (hss (aP (hix (dL c.a_spots (hv 0)) (hix (hv 9) (hv 10))))
 (aI (i8 c.a_nexts (hv 12) (iq (h_Ways_after.in_) zNr (hv 0) (ad (hv 11) (ad (bM (ad (eV (hv 6) (cc (ad (hv 10) ag))) (ad (hv 7) ag))) (ad (bM (ad (hix (hv 9) (fL (hv 10) ay)) ag)) (ad (hv 4) ag)))))))))
 (hss (i8 c.a_nexts (hix (dL c.a_spots (hv 0)) (hix (hv 9) (Ba ay))) (fL (EK (htr (hv 5)) (bM (ad (hv 8) ag)) (bM ag)) (hv 3)))
 (aI (bW (hv 8)))))))))
theorem oB {B:Bs} {k:Nat} {f:Addr} {fd:FuncData} {cY cw sp:HSp} {dv0:V} (c:Fc B.K B.mg) (F:FunD B.K "lay" "Ways.lay" (defArgs cf) (defBody cf) (defScope cf) [dv0] [] f fd) (h_Spot_init:HMake B k 27 4 [] cY) (h_Ways_after:HMeth B (k + 1) 28 "after" 5 [] cw)
 (hr:∀ ds S Q E,ds.length=6→sp ds S Q E→fU cY cw { nx:=fun _ S'=>Rt Q .non S',rt:=Rt Q,ex:=fun x _ S'=>Rx E x S' } (ao N_Ways_lay.length ds) S):FnAt B (k + 2) f 6 [] sp :=
 cO F (F.binds1 6 1 (by simp) (by rfl) fun _ _ _ _ _ _ _ us its h1 h2=>match us,its,h1,h2 with | [_,_,_,_,_,_],[_],_,_=>⟨_,rfl,rfl⟩) cP oz (oA c h_Spot_init h_Ways_after) hr
theorem ls {B:Bs} {k:Nat} {f:Addr} {fd:FuncData} {cY cw sp:HSp} {dv0:V} (c:Fc B.K B.mg) (F:FunD B.K "lay" "Ways.lay" (defArgs cf) (defBody cf) (defScope cf) [dv0] [] f fd) (hd:∀ F,Reps B.K F [(.bl false)] [dv0]) (h_Spot_init:HMake B k 27 4 [] cY) (h_Ways_after:HMeth B (k + 1) 28 "after" 5 [] cw)
 (hr:∀ ds S Q E,ds.length=6→sp ds S Q E→fU cY cw { nx:=fun _ S'=>Rt Q .non S',rt:=Rt Q,ex:=fun x _ S'=>Rx E x S' } (ao N_Ways_lay.length ds) S):FnAt B (k + 2) f 6 [(.bl false)] sp :=
 cO F (F.binds1 5 0 (by simp) (by rfl) fun _ _ _ _ _ _ _ us its h1 h2=>match us,its,h1,h2 with | [_,_,_,_,_],[_],_,_=>⟨_,rfl,rfl⟩) hd oz (oA c h_Spot_init h_Ways_after) hr
def d_Ways_lay:He.DefD:=⟨("Ways",some "lay"), "lay", "Ways.lay",defArgs cf,defBody cf,defScope cf,[(.bl false)],[]⟩

abbrev bA:Stmt:=inClass (top 7) 2
def N_Ways_after:List Str:=[("self" : Str),("statement" : Str),("where" : Str),("on" : Str),("ends" : Str),("word" : Str),("stops" : Str),("fault" : Str),("first" : Str),("inner" : Str),("parts" : Str),("at" : Str),("part" : Str),("second" : Str)]
theorem rp:FnScope N_Ways_after [("self" : Str),("statement" : Str),("where" : Str),("on" : Str),("ends" : Str)] (defScope bA):=⟨rfl,rfl,rfl,by decide +kernel,rfl,by decide +kernel,by decide +kernel⟩
def fC (eY bg aC ax bQ:HSp):HTS:=(aj (aK 5 (hop gIx (hV 1) (hC (.int 0))))
 (aj (f9 (.tp [(.nm 6),(.nm 7)]) (hV 4))
 (aj (bj (hB (hop gIn (hV 5) (aE (aa (hC (.str ("stop" : Str))) (aa (hC (.str ("again" : Str))) (aa (hC (.str ("out" : Str))) ae)))))) (aA (hop cQ (hV 6) (hop gIx (hV 1) (hun hM (hC (.int 1)))))) hNx)
 (aj (bj (hB (hop gEq (hV 5) (hC (.str ("fault" : Str))))) (aA (hV 7)) hNx)
 (aj (bj (hOr (hB (hop gEq (hV 5) (hC (.str ("may" : Str))))) (dU (hB (hop gEq (hV 5) (hC (.str ("deeper" : Str))))) (hB (hop gIn (hop gIx (hV 1) (hC (.int 1))) (hun (ba fQ) (hV 0)))))) (aA (hop cr (hV 3) (hV 7))) hNx)
 (aj (bj (hB (hop gEq (hV 5) (hC (.str ("tries" : Str))))) (aj (aK 8 (hcb dJ (aa (hun (ba dt) (hV 0)) ae)))
 (aj (aK 9 (hcb d9 (aa (hV 6) ae)))
 (aj (cE (hV 9) (hC (.str ("again" : Str))) (hop cr (aE (aa (hV 8) ae)) (hV 3)))
 (aj (cE (hV 9) (hC (.str ("out" : Str))) (hV 3))
 (aj (c5 9 (aL (bG 28 6 [] eY (hV 0) (aa (hop gIx (hV 1) (hC (.int 1))) (aa (an 2 [] bg (aa (hV 2) (aa (hC (.int 0)) ae))) (aa (hV 3) (aa (aE (aa (hV 9) (aa (hV 7) ae))) (aa (hC (.bl true)) ae))))))))
 (aA (hop cr (aE (aa (hV 8) ae)) (hV 3)))))))) hNx)
 (aj (bj (hB (hop gIn (hV 5) (aE (aa (hC (.str ("either" : Str))) (aa (hC (.str ("told" : Str))) (aa (hC (.str ("look" : Str))) ae)))))) (aj (aK 10 (an 1 [] aC (aa (hV 1) ae)))
 (aA (hcb dD (aa (hLc (dO (aa (hV 10) ae)) (.tp [(.nm 11),(.nm 12)]) fM (bG 28 6 [(.bl false)] ax (hV 0) (aa (hV 12) (aa (an 2 [] bg (aa (hV 2) (aa (hV 11) ae))) (aa (hV 3) (aa (hV 4) ae))))) [11,12]) ae)))) hNx)
 (aj (bj (hB (hop gEq (hV 5) (hC (.str ("guard" : Str))))) (aj (aK 13 (bG 28 6 [(.bl false)] ax (hV 0) (aa (hop gIx (hV 1) (hC (.int 2))) (aa (an 2 [] bg (aa (hV 2) (aa (hC (.int 1)) ae))) (aa (hV 3) (aa (hV 4) ae))))))
 (aA (aE (aa (bG 28 6 [(.bl false)] ax (hV 0) (aa (hop gIx (hV 1) (hC (.int 1))) (aa (an 2 [] bg (aa (hV 2) (aa (hC (.int 0)) ae))) (aa (hV 3) (aa (aE (aa (hV 6) (aa (aE (aa (hV 13) ae)) ae))) ae))))) ae)))) hNx)
 (aj (bj (hB (hop gEq (hV 5) (hC (.str ("lastly" : Str))))) (aA (bG 28 5 [] bQ (hV 0) (aa (hV 1) (aa (hV 2) (aa (hV 3) (aa (hV 4) ae)))))) hNx)
 (aA (hV 3)))))))))))
theorem rA {B:Bs} {k:Nat} {eY bg aC ax bQ:HSp} (c:Fc B.K B.mg) (h_Ways_lay:HMeth B (k + 1) 28 "lay" 6 [] eY) (h_in_block:HFn B (k + 1) "in_block" 2 [] bg) (h_parts_of_layouts:HFn B (k + 1) "parts_of_layouts" 1 [] aC) (h_Ways_lay_1:HMeth B (k + 1) 28 "lay" 6 [(.bl false)] ax) (h_Ways_after_lastly:HMeth B (k + 1) 28 "after_lastly" 5 [] bQ):HSs ⟨B.P,B.w,B.K,B.mg,B.base,k + 1,N_Ways_after,defScope bA,true,fun _=>true⟩ (defBody bA) (fC eY bg aC ax bQ) :=
 (hss (aP (hix (hv 1) ay))
 (hss (u5 (hv 4) (htp (hps (hnm 6) (hps (hnm 7) nf))))
 (hss (hif (mv (hv 5) (bM (ad az (ad az (ad az ag))))) (aI (bW (iu (hv 6) (hix (hv 1) (Ba ay))))) c8)
 (hss (hif (f7 (hv 5) az) (aI (bW (hv 7))) c8)
 (hss (hif (hw (hor (f7 (hv 5) az) (Aa (hw (mr (f7 (hv 5) az) (i7 (mv (hix (hv 1) ay) (dL c.a_faulting (hv 0))))))))) (aI (bW (fL (hv 3) (hv 7)))) c8)
 (hss (hif (f7 (hv 5) az) (hss (aP (hlen rfl c.f_len (ad (dL c.a_spots (hv 0)) ag)))
 (hss (aP (kQ rfl c.f_dict (ad (hv 6) ag)))
 (hss (jW (hv 9) az (fL (bM (ad (hv 8) ag)) (hv 3)))
 (hss (jW (hv 9) az (hv 3))
 (hss (jz 9 (eO (iq (h_Ways_lay.in_) zNr (hv 0) (ad (hix (hv 1) ay) (ad (bn (h_in_block.in_) zNr rfl (ad (hv 2) (ad ay ag))) (ad (hv 3) (ad (bM (ad (hv 9) (ad (hv 7) ag))) (ad hbl ag))))))))
 (aI (bW (fL (bM (ad (hv 8) ag)) (hv 3))))))))) c8)
 (hss (hif (mv (hv 5) (bM (ad az (ad az (ad az ag))))) (hss (aP (bn (h_parts_of_layouts.in_) zNr rfl (ad (hv 1) ag)))
 (aI (bW (jw rfl c.f_tuple (ad (oQ [("at",11),("part",12)] (pZ rfl c.f_enumerate (ad (hv 10) ag)) (by dsimp only [Bs.blk]; decide +kernel) (by decide) (htp (hps (hnm 11) (hps (hnm 12) nf))) hif0 (iq (h_Ways_lay_1.in_) zNr (hv 0) (ad (hv 12) (ad (bn (h_in_block.in_) zNr rfl (ad (hv 2) (ad (hv 11) ag))) (ad (hv 3) (ad (hv 4) ag)))))) ag))))) c8)
 (hss (hif (f7 (hv 5) az) (hss (aP (iq (h_Ways_lay_1.in_) zNr (hv 0) (ad (hix (hv 1) ay) (ad (bn (h_in_block.in_) zNr rfl (ad (hv 2) (ad ay ag))) (ad (hv 3) (ad (hv 4) ag))))))
 (aI (bW (bM (ad (iq (h_Ways_lay_1.in_) zNr (hv 0) (ad (hix (hv 1) ay) (ad (bn (h_in_block.in_) zNr rfl (ad (hv 2) (ad ay ag))) (ad (hv 3) (ad (bM (ad (hv 6) (ad (bM (ad (hv 13) ag)) ag))) ag))))) ag))))) c8)
 (hss (hif (f7 (hv 5) az) (aI (bW (iq (h_Ways_after_lastly.in_) zNr (hv 0) (ad (hv 1) (ad (hv 2) (ad (hv 3) (ad (hv 4) ag))))))) c8)
 (aI (bW (hv 3))))))))))))
theorem rB {B:Bs} {k:Nat} {f:Addr} {fd:FuncData} {eY bg aC ax bQ sp:HSp} (c:Fc B.K B.mg) (F:FunD B.K "after" "Ways.after" (defArgs bA) (defBody bA) (defScope bA) [] [] f fd) (h_Ways_lay:HMeth B (k + 1) 28 "lay" 6 [] eY) (h_in_block:HFn B (k + 1) "in_block" 2 [] bg) (h_parts_of_layouts:HFn B (k + 1) "parts_of_layouts" 1 [] aC) (h_Ways_lay_1:HMeth B (k + 1) 28 "lay" 6 [(.bl false)] ax) (h_Ways_after_lastly:HMeth B (k + 1) 28 "after_lastly" 5 [] bQ)
 (hr:∀ ds S Q E,ds.length=5→sp ds S Q E→fC eY bg aC ax bQ { nx:=fun _ S'=>Rt Q .non S',rt:=Rt Q,ex:=fun x _ S'=>Rx E x S' } (ao N_Ways_after.length ds) S):FnAt B (k + 2) f 5 [] sp :=
 cO F (bc (F.bindsN fun _ _ _ _ _ _ us hl=>match us,hl with | [_,_,_,_,_],_=>rfl)) cP rp (rA c h_Ways_lay h_in_block h_parts_of_layouts h_Ways_lay_1 h_Ways_after_lastly) hr
theorem rC {B:Bs} {k:Nat} {f:Addr} {fd:FuncData} {sp:HSp} (F:FunD B.K "after" "Ways.after" (defArgs bA) (defBody bA) (defScope bA) [] [] f fd) (h0:∀ ds S Q E,sp ds S Q E→False):FnAt B k f 5 [] sp :=
 ka rfl (F.bindsN (ps:=[("self" : Str),("statement" : Str),("where" : Str),("on" : Str),("ends" : Str)]) fun _ _ _ _ _ _ us hl=>match us,hl with | [_,_,_,_,_],_=>rfl) h0
def d_Ways_after:He.DefD:=⟨("Ways",some "after"), "after", "Ways.after",defArgs bA,defBody bA,defScope bA,[],[]⟩

abbrev aN:Stmt:=inClass (top 7) 3
def N_Ways_after_lastly:List Str:=[("self" : Str),("statement" : Str),("where" : Str),("on" : Str),("ends" : Str),("stops" : Str),("fault" : Str),("goals" : Str),("path" : Str),("mood" : Str),("begins" : Str),("word" : Str),("way" : Str),("inner" : Str)]
theorem kh:FnScope N_Ways_after_lastly [("self" : Str),("statement" : Str),("where" : Str),("on" : Str),("ends" : Str)] (defScope aN):=⟨rfl,rfl,rfl,by decide +kernel,rfl,by decide +kernel,by decide +kernel⟩
def c6 (bg ax:HSp):HTS:=(aj (f9 (.tp [(.nm 5),(.nm 6)]) (hV 4))
 (aj (aK 7 (hcb d9 (aa (hV 5) ae)))
 (aj (cE (hV 7) (hC (.str ("on" : Str))) (hV 3))
 (aj (cE (hV 7) (hC (.str ("fault" : Str))) (hV 6))
 (aj (f9 (.tp [(.nm 8),(.nm 9)]) (an 2 [] bg (aa (hV 2) (aa (hC (.int 1)) ae))))
 (aj (aK 10 jX)
 (aj (c5 7 (cC (vr (hV 7)) (.nm 11) (cE (hV 10) (hV 11) (aE (aa (bG 28 6 [(.bl false)] ax (hV 0) (aa (hop gIx (hV 1) (hC (.int 2))) (aa (aE (aa (hV 8) (aa (hop bb (hV 9) (av (aa (hV 11) ae))) ae))) (aa (hop cQ (hV 7) (hV 11)) (aa (hV 4) ae))))) ae)))))
 (aj (aK 13 (aE (aa (Fr (xJ (vr (hV 5)) (.nm 12) (hV 12) (hop fB (hV 10) (hV 12)) [12])) (aa (hop fB (hV 10) (hC (.str ("fault" : Str)))) ae))))
 (aA (aE (aa (bG 28 6 [(.bl false)] ax (hV 0) (aa (hop gIx (hV 1) (hC (.int 1))) (aa (an 2 [] bg (aa (hV 2) (aa (hC (.int 0)) ae))) (aa (hop fB (hV 10) (hC (.str ("on" : Str)))) (aa (hV 13) ae))))) ae)))))))))))
theorem ki {B:Bs} {k:Nat} {bg ax:HSp} (c:Fc B.K B.mg) (h_in_block:HFn B (k + 1) "in_block" 2 [] bg) (h_Ways_lay_1:HMeth B (k + 1) 28 "lay" 6 [(.bl false)] ax):HSs ⟨B.P,B.w,B.K,B.mg,B.base,k + 1,N_Ways_after_lastly,defScope aN,true,fun _=>true⟩ (defBody aN) (c6 bg ax) :=
 (hss (u5 (hv 4) (htp (hps (hnm 5) (hps (hnm 6) nf))))
 (hss (aP (kQ rfl c.f_dict (ad (hv 5) ag)))
 (hss (jW (hv 7) az (hv 3))
 (hss (jW (hv 7) az (hv 6))
 (hss (u5 (bn (h_in_block.in_) zNr rfl (ad (hv 2) (ad ay ag))) (htp (hps (hnm 8) (hps (hnm 9) nf))))
 (hss (aP Er)
 (hss (jz 7 (ip (Ft (hv 7)) (hnm 11) (aI (jW (hv 10) (hv 11) (bM (ad (iq (h_Ways_lay_1.in_) zNr (hv 0) (ad (hix (hv 1) ay) (ad (bM (ad (hv 8) (ad (eV (hv 9) (cc (ad (hv 11) ag))) ag))) (ad (iu (hv 7) (hv 11)) (ad (hv 4) ag))))) ag))))))
 (hss (aP (bM (ad (Hm (Hk [("way",12)] (Ft (hv 5)) (by dsimp only [Bs.blk]; decide +kernel) (by decide) (hnm 12) (hv 12) (BG (hv 10) (hv 12)))) (ad (BG (hv 10) az) ag))))
 (aI (bW (bM (ad (iq (h_Ways_lay_1.in_) zNr (hv 0) (ad (hix (hv 1) ay) (ad (bn (h_in_block.in_) zNr rfl (ad (hv 2) (ad ay ag))) (ad (BG (hv 10) az) (ad (hv 13) ag))))) ag))))))))))))
theorem kj {B:Bs} {k:Nat} {f:Addr} {fd:FuncData} {bg ax sp:HSp} (c:Fc B.K B.mg) (F:FunD B.K "after_lastly" "Ways.after_lastly" (defArgs aN) (defBody aN) (defScope aN) [] [] f fd) (h_in_block:HFn B (k + 1) "in_block" 2 [] bg) (h_Ways_lay_1:HMeth B (k + 1) 28 "lay" 6 [(.bl false)] ax)
 (hr:∀ ds S Q E,ds.length=5→sp ds S Q E→c6 bg ax { nx:=fun _ S'=>Rt Q .non S',rt:=Rt Q,ex:=fun x _ S'=>Rx E x S' } (ao N_Ways_after_lastly.length ds) S):FnAt B (k + 2) f 5 [] sp :=
 cO F (bc (F.bindsN fun _ _ _ _ _ _ us hl=>match us,hl with | [_,_,_,_,_],_=>rfl)) cP kh (ki c h_in_block h_Ways_lay_1) hr
def d_Ways_after_lastly:He.DefD:=⟨("Ways",some "after_lastly"), "after_lastly", "Ways.after_lastly",defArgs aN,defBody aN,defScope aN,[],[]⟩

abbrev bU:Stmt:=inClass (top 7) 4
def N_Ways_passed:List Str:=[("self" : Str),("found" : Str),("done" : Str),("number" : Str),("goal" : Str)]
theorem ql:FnScope N_Ways_passed [("self" : Str)] (defScope bU):=⟨rfl,rfl,rfl,by decide +kernel,rfl,by decide +kernel,by decide +kernel⟩
def eZ (cR:HSp):HTS:=(aj (aK 1 (cM (aa (hun (ba i6) (hV 0)) ae)))
 (aj (aK 2 (hC (.int 0)))
 (aj (pY (hB (hop gLt (hV 2) (hcb dJ (aa (hV 1) ae)))) (aj (aK 3 (hop gIx (hV 1) (hV 2)))
 (aj (aK 2 (hop cr (hV 2) (hC (.int 1))))
 (cC (eT (bG 28 2 [] cR (hV 0) (aa (hV 3) ae))) (.nm 4) (bj (hB (hop f8 (hV 4) (hV 1))) (aL (hMt eU cz (hV 1) (aa (hV 4) ae))) hNx)))))
 (aA (hcb tE (aa (hV 1) ae))))))
theorem qm {B:Bs} {k:Nat} {cR:HSp} (c:Fc B.K B.mg) (h_Ways_nexts_of:HMeth B (k + 1) 28 "nexts_of" 2 [] cR):HSs ⟨B.P,B.w,B.K,B.mg,B.base,k + 1,N_Ways_passed,defScope bU,true,fun _=>true⟩ (defBody bU) (eZ cR) :=
 (hss (aP (iJ (ad (dL c.a_first (hv 0)) ag)))
 (hss (aP ay)
 (hss (xz (Ab (hv 2) (hlen rfl c.f_len (ad (hv 1) ag))) (hss (aP (hix (hv 1) (hv 2)))
 (hss (aP (fL (hv 2) ay))
 (aI (ip (gQ (iq (h_Ways_nexts_of.in_) zNr (hv 0) (ad (hv 3) ag))) (hnm 4) (aI (hif (hZ (hv 4) (hv 1)) (aI (eO (fj (hv 1) (ad (hv 4) ag)))) c8)))))))
 (aI (bW (Fo rfl c.f_sorted (ad (hv 1) ag)))))))
theorem qo {B:Bs} {k:Nat} {f:Addr} {fd:FuncData} {cR sp:HSp} (c:Fc B.K B.mg) (F:FunD B.K "passed" "Ways.passed" (defArgs bU) (defBody bU) (defScope bU) [] [] f fd) (h_Ways_nexts_of:HMeth B (k + 1) 28 "nexts_of" 2 [] cR)
 (hr:∀ ds S Q E,ds.length=1→sp ds S Q E→eZ cR { nx:=fun _ S'=>Rt Q .non S',rt:=Rt Q,ex:=fun x _ S'=>Rx E x S' } (ao N_Ways_passed.length ds) S):FnAt B (k + 2) f 1 [] sp :=
 cO F (bc (F.bindsN fun _ _ _ _ _ _ us hl=>match us,hl with | [_],_=>rfl)) cP ql (qm c h_Ways_nexts_of) hr
def d_Ways_passed:He.DefD:=⟨("Ways",some "passed"), "passed", "Ways.passed",defArgs bU,defBody bU,defScope bU,[],[]⟩

abbrev bq:Stmt:=inClass (top 7) 5
def N_Ways_nexts_of:List Str:=[("self" : Str),("number" : Str),("goal" : Str)]
theorem nv:FnScope N_Ways_nexts_of [("self" : Str),("number" : Str)] (defScope bq):=⟨rfl,rfl,rfl,by decide +kernel,rfl,by decide +kernel,by decide +kernel⟩
def dW:HTS:=(aA (hLc (eT (hun (ba fZ) (hop gIx (hun (ba dt) (hV 0)) (hV 1)))) (.nm 2) (hB (hop f8 (hV 2) (hC (.tup [(.str ("found" : Str)),(.str ("none" : Str)),(.str ("fault" : Str))])))) (hV 2) [2]))
theorem ny {B:Bs} {k:Nat} (c:Fc B.K B.mg)  : HSs ⟨B.P,B.w,B.K,B.mg,B.base,k + 1,N_Ways_nexts_of,defScope bq,true,fun _=>true⟩ (defBody bq) (dW) :=
 (aI (bW (oQ [("goal",2)] (gQ (dL c.a_nexts (hix (dL c.a_spots (hv 0)) (hv 1)))) (by dsimp only [Bs.blk]; decide +kernel) (by decide) (hnm 2) (Aj (hZ (hv 2) (mD rfl c.g_EXITS c.t_EXITS))) (hv 2))))
theorem nz {B:Bs} {k:Nat} {f:Addr} {fd:FuncData} {sp:HSp} (c:Fc B.K B.mg) (F:FunD B.K "nexts_of" "Ways.nexts_of" (defArgs bq) (defBody bq) (defScope bq) [] [] f fd)
 (hr:∀ ds S Q E,ds.length=2→sp ds S Q E→dW { nx:=fun _ S'=>Rt Q .non S',rt:=Rt Q,ex:=fun x _ S'=>Rx E x S' } (ao N_Ways_nexts_of.length ds) S):FnAt B (k + 2) f 2 [] sp :=
 cO F (bc (F.bindsN fun _ _ _ _ _ _ us hl=>match us,hl with | [_,_],_=>rfl)) cP nv (ny c ) hr
def d_Ways_nexts_of:He.DefD:=⟨("Ways",some "nexts_of"), "nexts_of", "Ways.nexts_of",defArgs bq,defBody bq,defScope bq,[],[]⟩

abbrev bH:Stmt:=inClass (top 7) 6
def N_Ways_ends_of:List Str:=[("self" : Str),("number" : Str),("goal" : Str)]
theorem oW:FnScope N_Ways_ends_of [("self" : Str),("number" : Str)] (defScope bH):=⟨rfl,rfl,rfl,by decide +kernel,rfl,by decide +kernel,by decide +kernel⟩
def eQ:HTS:=(aA (hLc (eT (hun (ba fZ) (hop gIx (hun (ba dt) (hV 0)) (hV 1)))) (.nm 2) (hB (hop gIn (hV 2) (hC (.tup [(.str ("found" : Str)),(.str ("none" : Str)),(.str ("fault" : Str))])))) (hV 2) [2]))
theorem oX {B:Bs} {k:Nat} (c:Fc B.K B.mg)  : HSs ⟨B.P,B.w,B.K,B.mg,B.base,k + 1,N_Ways_ends_of,defScope bH,true,fun _=>true⟩ (defBody bH) (eQ) :=
 (aI (bW (oQ [("goal",2)] (gQ (dL c.a_nexts (hix (dL c.a_spots (hv 0)) (hv 1)))) (by dsimp only [Bs.blk]; decide +kernel) (by decide) (hnm 2) (Aj (mv (hv 2) (mD rfl c.g_EXITS c.t_EXITS))) (hv 2))))
theorem oY {B:Bs} {k:Nat} {f:Addr} {fd:FuncData} {sp:HSp} (c:Fc B.K B.mg) (F:FunD B.K "ends_of" "Ways.ends_of" (defArgs bH) (defBody bH) (defScope bH) [] [] f fd)
 (hr:∀ ds S Q E,ds.length=2→sp ds S Q E→eQ { nx:=fun _ S'=>Rt Q .non S',rt:=Rt Q,ex:=fun x _ S'=>Rx E x S' } (ao N_Ways_ends_of.length ds) S):FnAt B (k + 2) f 2 [] sp :=
 cO F (bc (F.bindsN fun _ _ _ _ _ _ us hl=>match us,hl with | [_,_],_=>rfl)) cP oW (oX c ) hr
def d_Ways_ends_of:He.DefD:=⟨("Ways",some "ends_of"), "ends_of", "Ways.ends_of",defArgs bH,defBody bH,defScope bH,[],[]⟩

abbrev df:Stmt:=top 8
def N_faulting:List Str:=[("code" : Str),("found" : Str),("grown" : Str),("function" : Str)]
theorem vG:FnScope N_faulting [("code" : Str)] (defScope df):=⟨rfl,rfl,rfl,by decide +kernel,rfl,by decide +kernel,by decide +kernel⟩
def gS (cS eg:HSp):HTS:=(aj (aK 1 (cM ae))
 (aj (aK 2 (hC (.bl true)))
 (aj (pY (hTr (hV 2)) (aj (aK 2 (hC (.bl false)))
 (cC (eT (hun (ba aO) (hV 0))) (.nm 3) (bj (dU (hB (hop f8 (hun (ba cy) (hV 3)) (hV 1))) (hTr (an 1 [] cS (aa (fS 28 3 [] eg (aa (hun (ba bV) (hV 3)) (aa (hV 1) ae))) ae)))) (aj (aL (hMt eU cz (hV 1) (aa (hun (ba cy) (hV 3)) ae)))
 (aK 2 (hC (.bl true)))) hNx))))
 (aA (hV 1)))))
theorem vH {B:Bs} {k:Nat} {cS eg:HSp} (c:Fc B.K B.mg) (h_ends_by_fault:HFn B (k + 1) "ends_by_fault" 1 [] cS) (h_Ways_init:HMake B k 28 3 [] eg):HSs ⟨B.P,B.w,B.K,B.mg,B.base,k + 1,N_faulting,defScope df,true,fun _=>true⟩ (defBody df) (gS cS eg) :=
 (hss (aP (iJ ag))
 (hss (aP hbl)
 (hss (xz (htr (hv 2)) (hss (aP hbl)
 (aI (ip (gQ (dL c.a_functions (hv 0))) (hnm 3) (aI (hif (hw (mr (hZ (dL c.a_name (hv 3)) (hv 1)) (i7 (htr (bn (h_ends_by_fault.in_) zNr rfl (ad (rZ (h_Ways_init.in_) zNr rfl (ad (dL c.a_body (hv 3)) (ad (hv 1) ag))) ag)))))) (hss (eO (fj (hv 1) (ad (dL c.a_name (hv 3)) ag)))
 (aI (aP hbl))) c8))))))
 (aI (bW (hv 1))))))
theorem vI {B:Bs} {k:Nat} {f:Addr} {fd:FuncData} {cS eg sp:HSp} (c:Fc B.K B.mg) (F:FunD B.K "faulting" "faulting" (defArgs df) (defBody df) (defScope df) [] [] f fd) (h_ends_by_fault:HFn B (k + 1) "ends_by_fault" 1 [] cS) (h_Ways_init:HMake B k 28 3 [] eg)
 (hr:∀ ds S Q E,ds.length=1→sp ds S Q E→gS cS eg { nx:=fun _ S'=>Rt Q .non S',rt:=Rt Q,ex:=fun x _ S'=>Rx E x S' } (ao N_faulting.length ds) S):FnAt B (k + 2) f 1 [] sp :=
 cO F (bc (F.bindsN fun _ _ _ _ _ _ us hl=>match us,hl with | [_],_=>rfl)) cP vG (vH c h_ends_by_fault h_Ways_init) hr
def d_faulting:He.DefD:=⟨("faulting",none), "faulting", "faulting",defArgs df,defBody df,defScope df,[],[]⟩

abbrev br:Stmt:=top 9
def N_ends_by_fault:List Str:=[("ways" : Str),("number" : Str),("way" : Str)]
theorem nD:FnScope N_ends_by_fault [("ways" : Str)] (defScope br):=⟨rfl,rfl,rfl,by decide +kernel,rfl,by decide +kernel,by decide +kernel⟩
def dX (dz dg:HSp):HTS:=(aA (hop gIn (hC (.str ("fault" : Str))) (Dh (eT (bG 28 1 [] dz (hV 0) ae)) (.nm 1) (eT (bG 28 2 [] dg (hV 0) (aa (hV 1) ae))) (.nm 2) (hV 2) [1,2] [2])))
theorem nE {B:Bs} {k:Nat} {dz dg:HSp} (c:Fc B.K B.mg) (h_Ways_passed:HMeth B (k + 1) 28 "passed" 1 [] dz) (h_Ways_ends_of:HMeth B (k + 1) 28 "ends_of" 2 [] dg):HSs ⟨B.P,B.w,B.K,B.mg,B.base,k + 1,N_ends_by_fault,defScope br,true,fun _=>true⟩ (defBody br) (dX dz dg) :=
 (aI (bW (hin az (Hi [("number",1),("way",2)] [2] (gQ (E2 (h_Ways_passed.in_) zNr (hv 0))) (by dsimp only [Bs.blk]; decide +kernel) (by decide) (by decide) (by decide) (hnm 1) (gQ (iq (h_Ways_ends_of.in_) zNr (hv 0) (ad (hv 1) ag))) (hnm 2) (hv 2)))))
theorem nH {B:Bs} {k:Nat} {f:Addr} {fd:FuncData} {dz dg sp:HSp} (c:Fc B.K B.mg) (F:FunD B.K "ends_by_fault" "ends_by_fault" (defArgs br) (defBody br) (defScope br) [] [] f fd) (h_Ways_passed:HMeth B (k + 1) 28 "passed" 1 [] dz) (h_Ways_ends_of:HMeth B (k + 1) 28 "ends_of" 2 [] dg)
 (hr:∀ ds S Q E,ds.length=1→sp ds S Q E→dX dz dg { nx:=fun _ S'=>Rt Q .non S',rt:=Rt Q,ex:=fun x _ S'=>Rx E x S' } (ao N_ends_by_fault.length ds) S):FnAt B (k + 2) f 1 [] sp :=
 cO F (bc (F.bindsN fun _ _ _ _ _ _ us hl=>match us,hl with | [_],_=>rfl)) cP nD (nE c h_Ways_passed h_Ways_ends_of) hr
def d_ends_by_fault:He.DefD:=⟨("ends_by_fault",none), "ends_by_fault", "ends_by_fault",defArgs br,defBody br,defScope br,[],[]⟩

abbrev dh:Stmt:=top 10
def N_in_block:List Str:=[("where" : Str),("part" : Str),("path" : Str),("mood" : Str)]
theorem vJ:FnScope N_in_block [("where" : Str),("part" : Str)] (defScope dh):=⟨rfl,rfl,rfl,by decide +kernel,rfl,by decide +kernel,by decide +kernel⟩
def gT:HTS:=(aj (f9 (.tp [(.nm 2),(.nm 3)]) (hV 0))
 (aA (aE (aa (hop bb (hV 2) (av (aa (hV 1) ae))) (aa (hV 3) ae)))))
theorem vK {B:Bs} {k:Nat} (c:Fc B.K B.mg)  : HSs ⟨B.P,B.w,B.K,B.mg,B.base,k + 1,N_in_block,defScope dh,true,fun _=>true⟩ (defBody dh) (gT) :=
 (hss (u5 (hv 0) (htp (hps (hnm 2) (hps (hnm 3) nf))))
 (aI (bW (bM (ad (eV (hv 2) (cc (ad (hv 1) ag))) (ad (hv 3) ag))))))
theorem vL {B:Bs} {k:Nat} {f:Addr} {fd:FuncData} {sp:HSp} (c:Fc B.K B.mg) (F:FunD B.K "in_block" "in_block" (defArgs dh) (defBody dh) (defScope dh) [] [] f fd)
 (hr:∀ ds S Q E,ds.length=2→sp ds S Q E→gT { nx:=fun _ S'=>Rt Q .non S',rt:=Rt Q,ex:=fun x _ S'=>Rx E x S' } (ao N_in_block.length ds) S):FnAt B (k + 2) f 2 [] sp :=
 cO F (bc (F.bindsN fun _ _ _ _ _ _ us hl=>match us,hl with | [_,_],_=>rfl)) cP vJ (vK c ) hr
def d_in_block:He.DefD:=⟨("in_block",none), "in_block", "in_block",defArgs dh,defBody dh,defScope dh,[],[]⟩

abbrev cg:Stmt:=top 11
def N_spots_of:List Str:=[("body" : Str),("found" : Str),("at" : Str),("statement" : Str),("number" : Str),("part" : Str),("path" : Str)]
theorem vM:FnScope N_spots_of [("body" : Str)] (defScope cg):=⟨rfl,rfl,rfl,by decide +kernel,rfl,by decide +kernel,by decide +kernel⟩
def gU (aC bL:HSp):HTS:=(aj (aK 1 (cM ae))
 (aj (cC (dO (aa (hV 0) ae)) (.tp [(.nm 2),(.nm 3)]) (aj (aL (hMt eU cz (hV 1) (aa (aE (aa (hV 2) ae)) ae)))
 (cC (dO (aa (an 1 [] aC (aa (hV 3) ae)) ae)) (.tp [(.nm 4),(.nm 5)]) (aL (hMt eU jy (hV 1) (aa (hLc (eT (an 1 [] bL (aa (hV 5) ae))) (.nm 6) fM (hop cr (aE (aa (hV 2) (aa (hV 4) ae))) (hV 6)) [6]) ae))))))
 (aA (hop ou (hV 1) (bD (aa (aE (aa (hcb dJ (aa (hV 0) ae)) ae)) ae))))))
theorem vN {B:Bs} {k:Nat} {aC bL:HSp} (c:Fc B.K B.mg) (h_parts_of_layouts:HFn B (k + 1) "parts_of_layouts" 1 [] aC) (h_spots_of:HFn B (k + 1) "spots_of" 1 [] bL):HSs ⟨B.P,B.w,B.K,B.mg,B.base,k + 1,N_spots_of,defScope cg,true,fun _=>true⟩ (defBody cg) (gU aC bL) :=
 (hss (aP (iJ ag))
 (hss (ip (pZ rfl c.f_enumerate (ad (hv 0) ag)) (htp (hps (hnm 2) (hps (hnm 3) nf))) (hss (eO (fj (hv 1) (ad (bM (ad (hv 2) ag)) ag)))
 (aI (ip (pZ rfl c.f_enumerate (ad (bn (h_parts_of_layouts.in_) zNr rfl (ad (hv 3) ag)) ag)) (htp (hps (hnm 4) (hps (hnm 5) nf))) (aI (eO (C4 (hv 1) (ad (oQ [("path",6)] (gQ (bn (h_spots_of.in_) zNr rfl (ad (hv 5) ag))) (by dsimp only [Bs.blk]; decide +kernel) (by decide) (hnm 6) hif0 (fL (bM (ad (hv 2) (ad (hv 4) ag))) (hv 6))) ag))))))))
 (aI (bW (En (hv 1) (f6 (ad (bM (ad (hlen rfl c.f_len (ad (hv 0) ag)) ag)) ag)))))))
theorem vO {B:Bs} {k:Nat} {f:Addr} {fd:FuncData} {aC bL sp:HSp} (c:Fc B.K B.mg) (F:FunD B.K "spots_of" "spots_of" (defArgs cg) (defBody cg) (defScope cg) [] [] f fd) (h_parts_of_layouts:HFn B (k + 1) "parts_of_layouts" 1 [] aC) (h_spots_of:HFn B (k + 1) "spots_of" 1 [] bL)
 (hr:∀ ds S Q E,ds.length=1→sp ds S Q E→gU aC bL { nx:=fun _ S'=>Rt Q .non S',rt:=Rt Q,ex:=fun x _ S'=>Rx E x S' } (ao N_spots_of.length ds) S):FnAt B (k + 2) f 1 [] sp :=
 cO F (bc (F.bindsN fun _ _ _ _ _ _ us hl=>match us,hl with | [_],_=>rfl)) cP vM (vN c h_parts_of_layouts h_spots_of) hr
theorem vP {B:Bs} {k:Nat} {f:Addr} {fd:FuncData} {sp:HSp} (F:FunD B.K "spots_of" "spots_of" (defArgs cg) (defBody cg) (defScope cg) [] [] f fd) (h0:∀ ds S Q E,sp ds S Q E→False):FnAt B k f 1 [] sp :=
 ka rfl (F.bindsN (ps:=[("body" : Str)]) fun _ _ _ _ _ _ us hl=>match us,hl with | [_],_=>rfl) h0
def d_spots_of:He.DefD:=⟨("spots_of",none), "spots_of", "spots_of",defArgs cg,defBody cg,defScope cg,[],[]⟩

abbrev dG:Stmt:=top 24
def N_word_of:List Str:=[("statement" : Str)]
theorem xP:FnScope N_word_of [("statement" : Str)] (defScope dG):=⟨rfl,rfl,rfl,by decide +kernel,rfl,by decide +kernel,by decide +kernel⟩
def jB:HTS:=(aA (hIf (hTr (hV 0)) (hop gIx (hV 0) (hC (.int 0))) (hC (.str ("" : Str)))))
theorem xQ {B:Bs} {k:Nat} (c:Fc B.K B.mg)  : HSs ⟨B.P,B.w,B.K,B.mg,B.base,k + 1,N_word_of,defScope dG,true,fun _=>true⟩ (defBody dG) (jB) :=
 (aI (bW (EK (htr (hv 0)) (hix (hv 0) ay) az)))
theorem xR {B:Bs} {k:Nat} {f:Addr} {fd:FuncData} {sp:HSp} (c:Fc B.K B.mg) (F:FunD B.K "word_of" "word_of" (defArgs dG) (defBody dG) (defScope dG) [] [] f fd)
 (hr:∀ ds S Q E,ds.length=1→sp ds S Q E→jB { nx:=fun _ S'=>Rt Q .non S',rt:=Rt Q,ex:=fun x _ S'=>Rx E x S' } (ao N_word_of.length ds) S):FnAt B (k + 2) f 1 [] sp :=
 cO F (bc (F.bindsN fun _ _ _ _ _ _ us hl=>match us,hl with | [_],_=>rfl)) cP xP (xQ c ) hr
def d_word_of:He.DefD:=⟨("word_of",none), "word_of", "word_of",defArgs dG,defBody dG,defScope dG,[],[]⟩

abbrev bf:Stmt:=top 25
def N_parts_of_codes:List Str:=[("statement" : Str),("word" : Str)]
theorem mJ:FnScope N_parts_of_codes [("statement" : Str)] (defScope bf):=⟨rfl,rfl,rfl,by decide +kernel,rfl,by decide +kernel,by decide +kernel⟩
def eW (cj:HSp):HTS:=(aj (aK 1 (an 1 [] cj (aa (hV 0) ae)))
 (aj (bj (dU (hB (hop gEq (hV 1) (hC (.str ("tries" : Str))))) (hB (hop gEq (hcb dJ (aa (hV 0) ae)) (hC (.int 2))))) (aA (aE (aa (hop gIx (hV 0) (hC (.int 1))) ae))) hNx)
 (aj (bj (dU (hB (hop gEq (hV 1) (hC (.str ("look" : Str))))) (hB (hop gEq (hcb dJ (aa (hV 0) ae)) (hC (.int 4))))) (aA (aE (aa (hop gIx (hV 0) (hC (.int 2))) (aa (hop gIx (hV 0) (hC (.int 3))) ae)))) hNx)
 (aj (bj (dU (hB (hop gIn (hV 1) (hC (.tup [(.str ("either" : Str)),(.str ("told" : Str)),(.str ("guard" : Str)),(.str ("lastly" : Str))])))) (hB (hop gEq (hcb dJ (aa (hV 0) ae)) (hC (.int 3))))) (aA (aE (aa (hop gIx (hV 0) (hC (.int 1))) (aa (hop gIx (hV 0) (hC (.int 2))) ae)))) hNx)
 (aA (aE ae))))))
theorem mK {B:Bs} {k:Nat} {cj:HSp} (c:Fc B.K B.mg) (h_word_of:HFn B (k + 1) "word_of" 1 [] cj):HSs ⟨B.P,B.w,B.K,B.mg,B.base,k + 1,N_parts_of_codes,defScope bf,true,fun _=>true⟩ (defBody bf) (eW cj) :=
 (hss (aP (bn (h_word_of.in_) zNr rfl (ad (hv 0) ag)))
 (hss (hif (hw (mr (f7 (hv 1) az) (i7 (f7 (hlen rfl c.f_len (ad (hv 0) ag)) ay)))) (aI (bW (bM (ad (hix (hv 0) ay) ag)))) c8)
 (hss (hif (hw (mr (f7 (hv 1) az) (i7 (f7 (hlen rfl c.f_len (ad (hv 0) ag)) ay)))) (aI (bW (bM (ad (hix (hv 0) ay) (ad (hix (hv 0) ay) ag))))) c8)
 (hss (hif (hw (mr (mv (hv 1) (mD rfl c.g_TWO_PARTS c.t_TWO_PARTS)) (i7 (f7 (hlen rfl c.f_len (ad (hv 0) ag)) ay)))) (aI (bW (bM (ad (hix (hv 0) ay) (ad (hix (hv 0) ay) ag))))) c8)
 (aI (bW (bM ag)))))))
theorem mL {B:Bs} {k:Nat} {f:Addr} {fd:FuncData} {cj sp:HSp} (c:Fc B.K B.mg) (F:FunD B.K "parts_of" "parts_of" (defArgs bf) (defBody bf) (defScope bf) [] [] f fd) (h_word_of:HFn B (k + 1) "word_of" 1 [] cj)
 (hr:∀ ds S Q E,ds.length=1→sp ds S Q E→eW cj { nx:=fun _ S'=>Rt Q .non S',rt:=Rt Q,ex:=fun x _ S'=>Rx E x S' } (ao N_parts_of_codes.length ds) S):FnAt B (k + 2) f 1 [] sp :=
 cO F (bc (F.bindsN fun _ _ _ _ _ _ us hl=>match us,hl with | [_],_=>rfl)) cP mJ (mK c h_word_of) hr
def d_parts_of_codes:He.DefD:=⟨("parts_of_codes",none), "parts_of", "parts_of",defArgs bf,defBody bf,defScope bf,[],[]⟩

abbrev fN:Stmt:=top 27
def N_tidy:List Str:=[("body" : Str),("made" : Str),("statement" : Str),("part" : Str),("parts" : Str)]
theorem Dw:FnScope N_tidy [("body" : Str)] (defScope fN):=⟨rfl,rfl,rfl,by decide +kernel,rfl,by decide +kernel,by decide +kernel⟩
def pG (ak en:HSp):HTS:=(aj (aK 1 (cM ae))
 (aj (cC (eT (hV 0)) (.nm 2) (aj (aK 4 (hcb dD (aa (hLc (eT (an 1 [] ak (aa (hV 2) ae))) (.nm 3) fM (an 1 [] en (aa (hV 3) ae)) [3]) ae)))
 (bj (hTr (hV 4)) (aL (hMt eU cz (hV 1) (aa (hop cr (hcb dD (aa (hSl (hV 2) mw (iL (hop pU (hcb dJ (aa (hV 2) ae)) (hcb dJ (aa (hV 4) ae))))) ae)) (hV 4)) ae))) (aL (hMt eU cz (hV 1) (aa (hcb dD (aa (hV 2) ae)) ae))))))
 (aA (hcb dD (aa (hV 1) ae)))))
theorem Dx {B:Bs} {k:Nat} {ak en:HSp} (c:Fc B.K B.mg) (h_parts_of_codes:HFn B (k + 1) "parts_of_codes" 1 [] ak) (h_tidy:HFn B (k + 1) "tidy" 1 [] en):HSs ⟨B.P,B.w,B.K,B.mg,B.base,k + 1,N_tidy,defScope fN,true,fun _=>true⟩ (defBody fN) (pG ak en) :=
 (hss (aP (iJ ag))
 (hss (ip (gQ (hv 0)) (hnm 2) (hss (aP (jw rfl c.f_tuple (ad (oQ [("part",3)] (gQ (bn (h_parts_of_codes.in_) zNr rfl (ad (hv 2) ag))) (by dsimp only [Bs.blk]; decide +kernel) (by decide) (hnm 3) hif0 (bn (h_tidy.in_) zNr rfl (ad (hv 3) ag))) ag)))
 (aI (hif (htr (hv 4)) (aI (eO (fj (hv 1) (ad (fL (jw rfl c.f_tuple (ad (hsl (hv 2) ET (Bi (A9 (hlen rfl c.f_len (ad (hv 2) ag)) (hlen rfl c.f_len (ad (hv 4) ag))))) ag)) (hv 4)) ag)))) (aI (eO (fj (hv 1) (ad (jw rfl c.f_tuple (ad (hv 2) ag)) ag))))))))
 (aI (bW (jw rfl c.f_tuple (ad (hv 1) ag))))))
theorem Dy {B:Bs} {k:Nat} {f:Addr} {fd:FuncData} {ak en sp:HSp} (c:Fc B.K B.mg) (F:FunD B.K "tidy" "tidy" (defArgs fN) (defBody fN) (defScope fN) [] [] f fd) (h_parts_of_codes:HFn B (k + 1) "parts_of_codes" 1 [] ak) (h_tidy:HFn B (k + 1) "tidy" 1 [] en)
 (hr:∀ ds S Q E,ds.length=1→sp ds S Q E→pG ak en { nx:=fun _ S'=>Rt Q .non S',rt:=Rt Q,ex:=fun x _ S'=>Rx E x S' } (ao N_tidy.length ds) S):FnAt B (k + 2) f 1 [] sp :=
 cO F (bc (F.bindsN fun _ _ _ _ _ _ us hl=>match us,hl with | [_],_=>rfl)) cP Dw (Dx c h_parts_of_codes h_tidy) hr
theorem Dz {B:Bs} {k:Nat} {f:Addr} {fd:FuncData} {sp:HSp} (F:FunD B.K "tidy" "tidy" (defArgs fN) (defBody fN) (defScope fN) [] [] f fd) (h0:∀ ds S Q E,sp ds S Q E→False):FnAt B k f 1 [] sp :=
 ka rfl (F.bindsN (ps:=[("body" : Str)]) fun _ _ _ _ _ _ us hl=>match us,hl with | [_],_=>rfl) h0
def d_tidy:He.DefD:=⟨("tidy",none), "tidy", "tidy",defArgs fN,defBody fN,defScope fN,[],[]⟩

abbrev eu:Stmt:=top 28
def N_count:List Str:=[("body" : Str),("many" : Str),("statement" : Str),("part" : Str)]
theorem B5:FnScope N_count [("body" : Str)] (defScope eu):=⟨rfl,rfl,rfl,by decide +kernel,rfl,by decide +kernel,by decide +kernel⟩
def mM (ak dA:HSp):HTS:=(aj (aK 1 (hC (.int 0)))
 (aj (cC (eT (hV 0)) (.nm 2) (nh 1 (gI0 fun i j=>.int (i + j)) (hop cr (hC (.int 1)) (hcb Go (aa (hLc (eT (an 1 [] ak (aa (hV 2) ae))) (.nm 3) fM (an 1 [] dA (aa (hV 3) ae)) [3]) ae)))))
 (aA (hV 1))))
theorem B6 {B:Bs} {k:Nat} {ak dA:HSp} (c:Fc B.K B.mg) (h_parts_of_codes:HFn B (k + 1) "parts_of_codes" 1 [] ak) (h_count:HFn B (k + 1) "count" 1 [] dA):HSs ⟨B.P,B.w,B.K,B.mg,B.base,k + 1,N_count,defScope eu,true,fun _=>true⟩ (defBody eu) (mM ak dA) :=
 (hss (aP ay)
 (hss (ip (gQ (hv 0)) (hnm 2) (aI (BA (fL ay (CZ rfl c.f_sum (ad (oQ [("part",3)] (gQ (bn (h_parts_of_codes.in_) zNr rfl (ad (hv 2) ag))) (by dsimp only [Bs.blk]; decide +kernel) (by decide) (hnm 3) hif0 (bn (h_count.in_) zNr rfl (ad (hv 3) ag))) ag))))))
 (aI (bW (hv 1)))))
theorem B7 {B:Bs} {k:Nat} {f:Addr} {fd:FuncData} {ak dA sp:HSp} (c:Fc B.K B.mg) (F:FunD B.K "count" "count" (defArgs eu) (defBody eu) (defScope eu) [] [] f fd) (h_parts_of_codes:HFn B (k + 1) "parts_of_codes" 1 [] ak) (h_count:HFn B (k + 1) "count" 1 [] dA)
 (hr:∀ ds S Q E,ds.length=1→sp ds S Q E→mM ak dA { nx:=fun _ S'=>Rt Q .non S',rt:=Rt Q,ex:=fun x _ S'=>Rx E x S' } (ao N_count.length ds) S):FnAt B (k + 2) f 1 [] sp :=
 cO F (bc (F.bindsN fun _ _ _ _ _ _ us hl=>match us,hl with | [_],_=>rfl)) cP B5 (B6 c h_parts_of_codes h_count) hr
theorem B8 {B:Bs} {k:Nat} {f:Addr} {fd:FuncData} {sp:HSp} (F:FunD B.K "count" "count" (defArgs eu) (defBody eu) (defScope eu) [] [] f fd) (h0:∀ ds S Q E,sp ds S Q E→False):FnAt B k f 1 [] sp :=
 ka rfl (F.bindsN (ps:=[("body" : Str)]) fun _ _ _ _ _ _ us hl=>match us,hl with | [_],_=>rfl) h0
def d_count:He.DefD:=⟨("count",none), "count", "count",defArgs eu,defBody eu,defScope eu,[],[]⟩

abbrev dH:Stmt:=top 29
def N_is_name:List Str:=[("text" : Str),("letter" : Str)]
theorem xS:FnScope N_is_name [("text" : Str)] (defScope dH):=⟨rfl,rfl,rfl,by decide +kernel,rfl,by decide +kernel,by decide +kernel⟩
def jC:HTS:=(aA (gc (iU gLe gLe (hC (.int 1)) (hcb dJ (aa (hV 0) ae)) (hC (.int 12))) (hcb Gp (aa (hLc (eT (hV 0)) (.nm 1) fM (hop gIn (hV 1) (hC (.str ("abcdefghijklmnopqrstuvwxyz" : Str)))) [1]) ae))))
theorem xT {B:Bs} {k:Nat} (c:Fc B.K B.mg)  : HSs ⟨B.P,B.w,B.K,B.mg,B.base,k + 1,N_is_name,defScope dH,true,fun _=>true⟩ (defBody dH) (jC) :=
 (aI (bW (vb (GD ay (hlen rfl c.f_len (ad (hv 0) ag)) ay) (iF (hall rfl c.f_all (ad (oQ [("letter",1)] (gQ (hv 0)) (by dsimp only [Bs.blk]; decide +kernel) (by decide) (hnm 1) hif0 (hin (hv 1) (hgs rfl c.g_LETTERS))) ag))))))
theorem xU {B:Bs} {k:Nat} {f:Addr} {fd:FuncData} {sp:HSp} (c:Fc B.K B.mg) (F:FunD B.K "is_name" "is_name" (defArgs dH) (defBody dH) (defScope dH) [] [] f fd)
 (hr:∀ ds S Q E,ds.length=1→sp ds S Q E→jC { nx:=fun _ S'=>Rt Q .non S',rt:=Rt Q,ex:=fun x _ S'=>Rx E x S' } (ao N_is_name.length ds) S):FnAt B (k + 2) f 1 [] sp :=
 cO F (bc (F.bindsN fun _ _ _ _ _ _ us hl=>match us,hl with | [_],_=>rfl)) cP xS (xT c ) hr
def d_is_name:He.DefD:=⟨("is_name",none), "is_name", "is_name",defArgs dH,defBody dH,defScope dH,[],[]⟩

abbrev bt:Stmt:=inClass (top 30) 0
def N_Function_init:List Str:=[("self" : Str),("name" : Str),("body" : Str)]
theorem nI:FnScope N_Function_init [("self" : Str),("name" : Str),("body" : Str)] (defScope bt):=⟨rfl,rfl,rfl,by decide +kernel,rfl,by decide +kernel,by decide +kernel⟩
def fm (en dA:HSp):HTS:=(aj (d8 cy (hV 0) (hV 1))
 (aj (d8 bV (hV 0) (an 1 [] en (aa (hV 2) ae)))
 (d8 sV (hV 0) (an 1 [] dA (aa (hun (ba bV) (hV 0)) ae)))))
theorem nJ {B:Bs} {k:Nat} {en dA:HSp} (c:Fc B.K B.mg) (h_tidy:HFn B (k + 1) "tidy" 1 [] en) (h_count:HFn B (k + 1) "count" 1 [] dA):HSs ⟨B.P,B.w,B.K,B.mg,B.base,k + 1,N_Function_init,defScope bt,true,fun _=>true⟩ (defBody bt) (fm en dA) :=
 (hss (i8 c.a_name (hv 0) (hv 1))
 (hss (i8 c.a_body (hv 0) (bn (h_tidy.in_) zNr rfl (ad (hv 2) ag)))
 (aI (i8 c.a_many (hv 0) (bn (h_count.in_) zNr rfl (ad (dL c.a_body (hv 0)) ag))))))
theorem nK {B:Bs} {k:Nat} {f:Addr} {fd:FuncData} {en dA sp:HSp} (c:Fc B.K B.mg) (F:FunD B.K "__init__" "Function.__init__" (defArgs bt) (defBody bt) (defScope bt) [] [] f fd) (h_tidy:HFn B (k + 1) "tidy" 1 [] en) (h_count:HFn B (k + 1) "count" 1 [] dA)
 (hr:∀ ds S Q E,ds.length=3→sp ds S Q E→fm en dA { nx:=fun _ S'=>Rt Q .non S',rt:=Rt Q,ex:=fun x _ S'=>Rx E x S' } (ao N_Function_init.length ds) S):FnAt B (k + 2) f 3 [] sp :=
 cO F (bc (F.bindsN fun _ _ _ _ _ _ us hl=>match us,hl with | [_,_,_],_=>rfl)) cP nI (nJ c h_tidy h_count) hr
def d_Function_init:He.DefD:=⟨("Function",some "__init__"), "__init__", "Function.__init__",defArgs bt,defBody bt,defScope bt,[],[]⟩

abbrev cI:Stmt:=inClass (top 31) 0
def N_Code_init:List Str:=[("self" : Str),("cells" : Str),("rows" : Str),("functions" : Str),("start" : Str),("one" : Str),("names" : Str),("seen" : Str),("name" : Str)]
theorem tP:FnScope N_Code_init [("self" : Str),("cells" : Str),("rows" : Str),("functions" : Str),("start" : Str)] (defScope cI):=⟨rfl,rfl,rfl,by decide +kernel,rfl,by decide +kernel,by decide +kernel⟩
def ig (fO aJ dk:HSp):HTS:=(aj (bj (hOr (hB (hop gGt (hcb dJ (aa (hV 1) ae)) (hC (.int 3)))) (hOr (hB (hop gGt (hcb dJ (aa (hV 2) ae)) (hC (.int 2)))) (hB (hop gGt (hcb dJ (aa (hV 3) ae)) (hC (.int 3)))))) (dE 36 ae) hNx)
 (aj (d8 i5 (hV 0) (hcb so (aa (hV 1) ae)))
 (aj (d8 mq (hV 0) (hcb so (aa (hV 2) ae)))
 (aj (d8 aO (hV 0) (hcb dD (aa (hV 3) ae)))
 (aj (d8 pS (hV 0) (hV 4))
 (aj (aK 6 (hLc (eT (hun (ba aO) (hV 0))) (.nm 5) fM (hun (ba cy) (hV 5)) [5]))
 (aj (bj (fK (hTr (hV 6))) (dE 35 (aa (hC .non) (aa (hC .non) ae))) hNx)
 (aj (aK 7 (cM ae))
 (aj (cC (eT (hop cr (hop cr (hcb fu (aa (hWk (hun (ba i5) (hV 0))) ae)) (hcb fu (aa (hWk (hun (ba mq) (hV 0))) ae))) (hV 6))) (.nm 8) (aj (bj (hOr (fK (hTr (an 1 [] fO (aa (hV 8) ae)))) (hB (hop gIn (hV 8) (hV 7)))) (dE 35 (aa (hC .non) (aa (hC .non) ae))) hNx)
 (aL (hMt eU cz (hV 7) (aa (hV 8) ae)))))
 (aj (bj (hB (hop f8 (hV 4) (hV 6))) (dE 35 (aa (hC .non) (aa (hC .non) ae))) hNx)
 (cC (eT (hun (ba aO) (hV 0))) (.nm 5) (aL (bG 5 5 [] aJ (fS 5 3 [] dk (aa (hV 0) (aa (hV 5) ae))) (aa (hun (ba bV) (hV 5)) (aa (hC (.int 0)) (aa (hC (.bl false)) (aa (hC (.bl false)) ae)))))))))))))))))
theorem tQ {B:Bs} {k:Nat} {fO aJ dk:HSp} (c:Fc B.K B.mg) (hx_TooGreat:HExc B k 36) (hx_BadCode:HExc B k 35) (h_is_name:HFn B (k + 1) "is_name" 1 [] fO) (h_Checker_part:HMeth B (k + 1) 5 "part" 5 [] aJ) (h_Checker_init:HMake B k 5 3 [] dk):HSs ⟨B.P,B.w,B.K,B.mg,B.base,k + 1,N_Code_init,defScope cI,true,fun _=>true⟩ (defBody cI) (ig fO aJ dk) :=
 (hss (hif (hw (hor (Ac (hlen rfl c.f_len (ad (hv 1) ag)) ay) (hor (Ac (hlen rfl c.f_len (ad (hv 2) ag)) ay) (Aa (Ac (hlen rfl c.f_len (ad (hv 3) ag)) ay))))) (aI (tq (hx_TooGreat.in_) zNr rfl)) c8)
 (hss (i8 c.a_cells (hv 0) (zg rfl c.f_tuple (ad (hv 1) ag)))
 (hss (i8 c.a_rows (hv 0) (zg rfl c.f_tuple (ad (hv 2) ag)))
 (hss (i8 c.a_functions (hv 0) (jw rfl c.f_tuple (ad (hv 3) ag)))
 (hss (i8 c.a_start (hv 0) (hv 4))
 (hss (yY [("one",5)] (gQ (dL c.a_functions (hv 0))) (by dsimp only [Bs.blk]; decide +kernel) (by decide) (hnm 5) hif0 (dL c.a_name (hv 5)))
 (hss (hif (oP (htr (hv 6))) (aI (tm (hx_BadCode.in_) zNr rfl (ad sX (ad sX ag)))) c8)
 (hss (aP (iJ ag))
 (hss (ip (gQ (fL (fL (oj rfl c.f_list (ad (hwk (dL c.a_cells (hv 0))) ag)) (oj rfl c.f_list (ad (hwk (dL c.a_rows (hv 0))) ag))) (hv 6))) (hnm 8) (hss (hif (hw (hor (oP (htr (bn (h_is_name.in_) zNr rfl (ad (hv 8) ag)))) (Aa (mv (hv 8) (hv 7))))) (aI (tm (hx_BadCode.in_) zNr rfl (ad sX (ad sX ag)))) c8)
 (aI (eO (fj (hv 7) (ad (hv 8) ag))))))
 (hss (hif (hZ (hv 4) (hv 6)) (aI (tm (hx_BadCode.in_) zNr rfl (ad sX (ad sX ag)))) c8)
 (aI (ip (gQ (dL c.a_functions (hv 0))) (hnm 5) (aI (eO (iq (h_Checker_part.in_) zNr (rZ (h_Checker_init.in_) zNr rfl (ad (hv 0) (ad (hv 5) ag))) (ad (dL c.a_body (hv 5)) (ad ay (ad hbl (ad hbl ag)))))))))))))))))))
theorem tR {B:Bs} {k:Nat} {f:Addr} {fd:FuncData} {fO aJ dk sp:HSp} (c:Fc B.K B.mg) (F:FunD B.K "__init__" "Code.__init__" (defArgs cI) (defBody cI) (defScope cI) [] [] f fd) (hx_TooGreat:HExc B k 36) (hx_BadCode:HExc B k 35) (h_is_name:HFn B (k + 1) "is_name" 1 [] fO) (h_Checker_part:HMeth B (k + 1) 5 "part" 5 [] aJ) (h_Checker_init:HMake B k 5 3 [] dk)
 (hr:∀ ds S Q E,ds.length=5→sp ds S Q E→ig fO aJ dk { nx:=fun _ S'=>Rt Q .non S',rt:=Rt Q,ex:=fun x _ S'=>Rx E x S' } (ao N_Code_init.length ds) S):FnAt B (k + 2) f 5 [] sp :=
 cO F (bc (F.bindsN fun _ _ _ _ _ _ us hl=>match us,hl with | [_,_,_,_,_],_=>rfl)) cP tP (tQ c hx_TooGreat hx_BadCode h_is_name h_Checker_part h_Checker_init) hr
def d_Code_init:He.DefD:=⟨("Code",some "__init__"), "__init__", "Code.__init__",defArgs cI,defBody cI,defScope cI,[],[]⟩

abbrev bI:Stmt:=inClass (top 32) 0
def N_Checker_init:List Str:=[("self" : Str),("code" : Str),("function" : Str)]
theorem oZ:FnScope N_Checker_init [("self" : Str),("code" : Str),("function" : Str)] (defScope bI):=⟨rfl,rfl,rfl,by decide +kernel,rfl,by decide +kernel,by decide +kernel⟩
def fF:HTS:=(aj (d8 jt (hV 0) (hV 1))
 (aj (d8 gP (hV 0) (hV 2))
 (d8 gF (hV 0) (hC (.int 0)))))
theorem o0 {B:Bs} {k:Nat} (c:Fc B.K B.mg)  : HSs ⟨B.P,B.w,B.K,B.mg,B.base,k + 1,N_Checker_init,defScope bI,true,fun _=>true⟩ (defBody bI) (fF) :=
 (hss (i8 c.a_code (hv 0) (hv 1))
 (hss (i8 c.a_function (hv 0) (hv 2))
 (aI (i8 c.a_number (hv 0) ay))))
theorem o3 {B:Bs} {k:Nat} {f:Addr} {fd:FuncData} {sp:HSp} (c:Fc B.K B.mg) (F:FunD B.K "__init__" "Checker.__init__" (defArgs bI) (defBody bI) (defScope bI) [] [] f fd)
 (hr:∀ ds S Q E,ds.length=3→sp ds S Q E→fF { nx:=fun _ S'=>Rt Q .non S',rt:=Rt Q,ex:=fun x _ S'=>Rx E x S' } (ao N_Checker_init.length ds) S):FnAt B (k + 2) f 3 [] sp :=
 cO F (bc (F.bindsN fun _ _ _ _ _ _ us hl=>match us,hl with | [_,_,_],_=>rfl)) cP oZ (o0 c ) hr
def d_Checker_init:He.DefD:=⟨("Checker",some "__init__"), "__init__", "Checker.__init__",defArgs bI,defBody bI,defScope bI,[],[]⟩

abbrev a9:Stmt:=inClass (top 32) 1
def N_Checker_part:List Str:=[("self" : Str),("body" : Str),("blocks" : Str),("looping" : Str),("last" : Str),("statement" : Str),("number" : Str),("parts" : Str),("word" : Str),("place" : Str),("inner" : Str)]
theorem o4:FnScope N_Checker_part [("self" : Str),("body" : Str),("blocks" : Str),("looping" : Str),("last" : Str)] (defScope a9):=⟨rfl,rfl,rfl,by decide +kernel,rfl,by decide +kernel,by decide +kernel⟩
def hU (b5 ak aJ:HSp):HTS:=(cC (eT (hV 1)) (.nm 5) (aj (aK 6 (hun (ba gF) (hV 0)))
 (aj (d8 gF (hV 0) (hop cr (hV 6) (hC (.int 1))))
 (aj (bj (hB (hop gGe (hV 6) (hC (.int 14)))) (dE 36 ae) hNx)
 (aj (bj (fK (hTr (bG 5 4 [] b5 (hV 0) (aa (hV 5) (aa (hV 3) (aa (hV 4) ae)))))) (dE 35 (aa (hun (ba cy) (hun (ba gP) (hV 0))) (aa (hV 6) ae))) hNx)
 (aj (aK 7 (an 1 [] ak (aa (hV 5) ae)))
 (aj (bj (dU (hTr (hV 7)) (hB (hop gGe (hV 2) (hC (.int 3))))) (dE 36 ae) hNx)
 (aj (aK 8 (hop gIx (hV 5) (hC (.int 0))))
 (cC (dO (aa (hV 7) ae)) (.tp [(.nm 9),(.nm 10)]) (aL (bG 5 5 [] aJ (hV 0) (aa (hV 10) (aa (hop cr (hV 2) (hC (.int 1))) (aa (k7 (hV 3) (hop gEq (hV 8) (hC (.str ("tries" : Str))))) (aa (gc (hop gEq (hV 8) (hC (.str ("lastly" : Str)))) (hop gEq (hV 9) (hC (.int 1)))) ae)))))))))))))))
theorem o5 {B:Bs} {k:Nat} {b5 ak aJ:HSp} (c:Fc B.K B.mg) (hx_TooGreat:HExc B k 36) (h_Checker_fits:HMeth B (k + 1) 5 "fits" 4 [] b5) (hx_BadCode:HExc B k 35) (h_parts_of_codes:HFn B (k + 1) "parts_of_codes" 1 [] ak) (h_Checker_part:HMeth B (k + 1) 5 "part" 5 [] aJ):HSs ⟨B.P,B.w,B.K,B.mg,B.base,k + 1,N_Checker_part,defScope a9,true,fun _=>true⟩ (defBody a9) (hU b5 ak aJ) :=
 (aI (ip (gQ (hv 1)) (hnm 5) (hss (aP (dL c.a_number (hv 0)))
 (hss (i8 c.a_number (hv 0) (fL (hv 6) ay))
 (hss (hif (EO (hv 6) (hgi rfl c.g_STATEMENTS)) (aI (tq (hx_TooGreat.in_) zNr rfl)) c8)
 (hss (hif (oP (htr (iq (h_Checker_fits.in_) zNr (hv 0) (ad (hv 5) (ad (hv 3) (ad (hv 4) ag)))))) (aI (tm (hx_BadCode.in_) zNr rfl (ad (dL c.a_name (dL c.a_function (hv 0))) (ad (hv 6) ag)))) c8)
 (hss (aP (bn (h_parts_of_codes.in_) zNr rfl (ad (hv 5) ag)))
 (hss (hif (hw (mr (htr (hv 7)) (i7 (EO (hv 2) (hgi rfl c.g_BLOCKS))))) (aI (tq (hx_TooGreat.in_) zNr rfl)) c8)
 (hss (aP (hix (hv 5) ay))
 (aI (ip (pZ rfl c.f_enumerate (ad (hv 7) ag)) (htp (hps (hnm 9) (hps (hnm 10) nf))) (aI (eO (iq (h_Checker_part.in_) zNr (hv 0) (ad (hv 10) (ad (fL (hv 2) ay) (ad (Gy (hv 3) (iF (heq (hv 8) az))) (ad (vb (heq (hv 8) az) (iF (heq (hv 9) ay))) ag))))))))))))))))))
theorem o6 {B:Bs} {k:Nat} {f:Addr} {fd:FuncData} {b5 ak aJ sp:HSp} (c:Fc B.K B.mg) (F:FunD B.K "part" "Checker.part" (defArgs a9) (defBody a9) (defScope a9) [] [] f fd) (hx_TooGreat:HExc B k 36) (h_Checker_fits:HMeth B (k + 1) 5 "fits" 4 [] b5) (hx_BadCode:HExc B k 35) (h_parts_of_codes:HFn B (k + 1) "parts_of_codes" 1 [] ak) (h_Checker_part:HMeth B (k + 1) 5 "part" 5 [] aJ)
 (hr:∀ ds S Q E,ds.length=5→sp ds S Q E→hU b5 ak aJ { nx:=fun _ S'=>Rt Q .non S',rt:=Rt Q,ex:=fun x _ S'=>Rx E x S' } (ao N_Checker_part.length ds) S):FnAt B (k + 2) f 5 [] sp :=
 cO F (bc (F.bindsN fun _ _ _ _ _ _ us hl=>match us,hl with | [_,_,_,_,_],_=>rfl)) cP o4 (o5 c hx_TooGreat h_Checker_fits hx_BadCode h_parts_of_codes h_Checker_part) hr
theorem o7 {B:Bs} {k:Nat} {f:Addr} {fd:FuncData} {sp:HSp} (F:FunD B.K "part" "Checker.part" (defArgs a9) (defBody a9) (defScope a9) [] [] f fd) (h0:∀ ds S Q E,sp ds S Q E→False):FnAt B k f 5 [] sp :=
 ka rfl (F.bindsN (ps:=[("self" : Str),("body" : Str),("blocks" : Str),("looping" : Str),("last" : Str)]) fun _ _ _ _ _ _ us hl=>match us,hl with | [_,_,_,_,_],_=>rfl) h0
def d_Checker_part:He.DefD:=⟨("Checker",some "part"), "part", "Checker.part",defArgs a9,defBody a9,defScope a9,[],[]⟩

abbrev bJ:Stmt:=inClass (top 32) 2
def N_Checker_fits:List Str:=[("self" : Str),("statement" : Str),("looping" : Str),("last" : Str),("word" : Str)]
theorem o8:FnScope N_Checker_fits [("self" : Str),("statement" : Str),("looping" : Str),("last" : Str)] (defScope bJ):=⟨rfl,rfl,rfl,by decide +kernel,rfl,by decide +kernel,by decide +kernel⟩
def fG (cj ak ck:HSp):HTS:=(aj (aK 4 (an 1 [] cj (aa (hV 1) ae)))
 (aj (bj (dU (hTr (hV 3)) (dU (hB (hop f8 (hV 4) (hC (.tup [(.str ("put" : Str)),(.str ("blank" : Str)),(.str ("give" : Str))])))) (hB (hop f8 (hV 4) (hC (.tup [(.str ("push" : Str)),(.str ("pop" : Str)),(.str ("cut" : Str))])))))) (aA (hC (.bl false))) hNx)
 (aj (bj (dU (hB (hop gIn (hV 4) (aE (aa (hC (.str ("again" : Str))) (aa (hC (.str ("out" : Str))) ae))))) (fK (hTr (hV 2)))) (aA (hC (.bl false))) hNx)
 (aj (bj (hB (hop gIn (hV 4) (hC (.tup [(.str ("fault" : Str)),(.str ("may" : Str)),(.str ("again" : Str)),(.str ("out" : Str))])))) (aA (hop gEq (hcb dJ (aa (hV 1) ae)) (hC (.int 1)))) hNx)
 (aj (bj (hB (hop gEq (hV 4) (hC (.str ("look" : Str))))) (aA (gc (hop gEq (hcb dJ (aa (hV 1) ae)) (hC (.int 4))) (hop gIn (hop gIx (hV 1) (hC (.int 1))) (hWk (hun (ba i5) (hun (ba jt) (hV 0))))))) hNx)
 (aj (bj (hOr (hB (hop gEq (hV 4) (hC (.str ("tries" : Str))))) (hB (hop gIn (hV 4) (hC (.tup [(.str ("either" : Str)),(.str ("told" : Str)),(.str ("guard" : Str)),(.str ("lastly" : Str))]))))) (aA (hop gGt (hcb dJ (aa (an 1 [] ak (aa (hV 1) ae)) ae)) (hC (.int 0)))) hNx)
 (aA (gc (hop gEq (hcb dJ (aa (hV 1) ae)) (hC (.int 2))) (hop gIn (hop gIx (hV 1) (hC (.int 1))) (bG 5 2 [] ck (hV 0) (aa (hV 4) ae)))))))))))
theorem o9 {B:Bs} {k:Nat} {cj ak ck:HSp} (c:Fc B.K B.mg) (h_word_of:HFn B (k + 1) "word_of" 1 [] cj) (h_parts_of_codes:HFn B (k + 1) "parts_of_codes" 1 [] ak) (h_Checker_choices:HMeth B (k + 1) 5 "choices" 2 [] ck):HSs ⟨B.P,B.w,B.K,B.mg,B.base,k + 1,N_Checker_fits,defScope bJ,true,fun _=>true⟩ (defBody bJ) (fG cj ak ck) :=
 (hss (aP (bn (h_word_of.in_) zNr rfl (ad (hv 1) ag)))
 (hss (hif (hw (mr (htr (hv 3)) (mr (hZ (hv 4) (mD rfl c.g_CELL_DEEDS c.t_CELL_DEEDS)) (i7 (hZ (hv 4) (mD rfl c.g_ROW_DEEDS c.t_ROW_DEEDS)))))) (aI (bW hbl)) c8)
 (hss (hif (hw (mr (mv (hv 4) (bM (ad az (ad az ag)))) (i7 (oP (htr (hv 2)))))) (aI (bW hbl)) c8)
 (hss (hif (mv (hv 4) (mD rfl c.g_ALONE c.t_ALONE)) (aI (bW (heq (hlen rfl c.f_len (ad (hv 1) ag)) ay))) c8)
 (hss (hif (f7 (hv 4) az) (aI (bW (vb (heq (hlen rfl c.f_len (ad (hv 1) ag)) ay) (iF (hin (hix (hv 1) ay) (hwk (dL c.a_cells (dL c.a_code (hv 0))))))))) c8)
 (hss (hif (hw (hor (f7 (hv 4) az) (Aa (mv (hv 4) (mD rfl c.g_TWO_PARTS c.t_TWO_PARTS))))) (aI (bW (hgt (hlen rfl c.f_len (ad (bn (h_parts_of_codes.in_) zNr rfl (ad (hv 1) ag)) ag)) ay))) c8)
 (aI (bW (vb (heq (hlen rfl c.f_len (ad (hv 1) ag)) ay) (iF (hin (hix (hv 1) ay) (iq (h_Checker_choices.in_) zNr (hv 0) (ad (hv 4) ag)))))))))))))
theorem pb {B:Bs} {k:Nat} {f:Addr} {fd:FuncData} {cj ak ck sp:HSp} (c:Fc B.K B.mg) (F:FunD B.K "fits" "Checker.fits" (defArgs bJ) (defBody bJ) (defScope bJ) [] [] f fd) (h_word_of:HFn B (k + 1) "word_of" 1 [] cj) (h_parts_of_codes:HFn B (k + 1) "parts_of_codes" 1 [] ak) (h_Checker_choices:HMeth B (k + 1) 5 "choices" 2 [] ck)
 (hr:∀ ds S Q E,ds.length=4→sp ds S Q E→fG cj ak ck { nx:=fun _ S'=>Rt Q .non S',rt:=Rt Q,ex:=fun x _ S'=>Rx E x S' } (ao N_Checker_fits.length ds) S):FnAt B (k + 2) f 4 [] sp :=
 cO F (bc (F.bindsN fun _ _ _ _ _ _ us hl=>match us,hl with | [_,_,_,_],_=>rfl)) cP o8 (o9 c h_word_of h_parts_of_codes h_Checker_choices) hr
def d_Checker_fits:He.DefD:=⟨("Checker",some "fits"), "fits", "Checker.fits",defArgs bJ,defBody bJ,defScope bJ,[],[]⟩

abbrev aX:Stmt:=inClass (top 32) 3
def N_Checker_choices:List Str:=[("self" : Str),("word" : Str),("one" : Str)]
theorem lK:FnScope N_Checker_choices [("self" : Str),("word" : Str)] (defScope aX):=⟨rfl,rfl,rfl,by decide +kernel,rfl,by decide +kernel,by decide +kernel⟩
def eB:HTS:=(aj (bj (hB (hop gIn (hV 1) (hC (.tup [(.str ("put" : Str)),(.str ("blank" : Str)),(.str ("give" : Str))])))) (aA (hWk (hun (ba i5) (hun (ba jt) (hV 0))))) hNx)
 (aj (bj (hB (hop gIn (hV 1) (hC (.tup [(.str ("push" : Str)),(.str ("pop" : Str)),(.str ("cut" : Str))])))) (aA (hWk (hun (ba mq) (hun (ba jt) (hV 0))))) hNx)
 (aj (bj (hB (hop gEq (hV 1) (hC (.str ("deeper" : Str))))) (aA (hcb dD (aa (hLc (eT (hun (ba aO) (hun (ba jt) (hV 0)))) (.nm 2) fM (hun (ba cy) (hV 2)) [2]) ae))) hNx)
 (aj (bj (hB (hop gEq (hV 1) (hC (.str ("answer" : Str))))) (aA (aE (aa (hC (.str ("copy" : Str))) (aa (hC (.str ("view" : Str))) ae)))) hNx)
 (aj (bj (hB (hop gEq (hV 1) (hC (.str ("stop" : Str))))) (aA (aE (aa (hC (.str ("found" : Str))) (aa (hC (.str ("none" : Str))) ae)))) hNx)
 (aA (aE ae)))))))
theorem lL {B:Bs} {k:Nat} (c:Fc B.K B.mg)  : HSs ⟨B.P,B.w,B.K,B.mg,B.base,k + 1,N_Checker_choices,defScope aX,true,fun _=>true⟩ (defBody aX) (eB) :=
 (hss (hif (mv (hv 1) (mD rfl c.g_CELL_DEEDS c.t_CELL_DEEDS)) (aI (bW (hwk (dL c.a_cells (dL c.a_code (hv 0)))))) c8)
 (hss (hif (mv (hv 1) (mD rfl c.g_ROW_DEEDS c.t_ROW_DEEDS)) (aI (bW (hwk (dL c.a_rows (dL c.a_code (hv 0)))))) c8)
 (hss (hif (f7 (hv 1) az) (aI (bW (jw rfl c.f_tuple (ad (oQ [("one",2)] (gQ (dL c.a_functions (dL c.a_code (hv 0)))) (by dsimp only [Bs.blk]; decide +kernel) (by decide) (hnm 2) hif0 (dL c.a_name (hv 2))) ag)))) c8)
 (hss (hif (f7 (hv 1) az) (aI (bW (bM (ad az (ad az ag))))) c8)
 (hss (hif (f7 (hv 1) az) (aI (bW (bM (ad az (ad az ag))))) c8)
 (aI (bW (bM ag))))))))
theorem lN {B:Bs} {k:Nat} {f:Addr} {fd:FuncData} {sp:HSp} (c:Fc B.K B.mg) (F:FunD B.K "choices" "Checker.choices" (defArgs aX) (defBody aX) (defScope aX) [] [] f fd)
 (hr:∀ ds S Q E,ds.length=2→sp ds S Q E→eB { nx:=fun _ S'=>Rt Q .non S',rt:=Rt Q,ex:=fun x _ S'=>Rx E x S' } (ao N_Checker_choices.length ds) S):FnAt B (k + 2) f 2 [] sp :=
 cO F (bc (F.bindsN fun _ _ _ _ _ _ us hl=>match us,hl with | [_,_],_=>rfl)) cP lK (lL c ) hr
def d_Checker_choices:He.DefD:=⟨("Checker",some "choices"), "choices", "Checker.choices",defArgs aX,defBody aX,defScope aX,[],[]⟩

abbrev cJ:Stmt:=top 34
def N_law_start:List Str:=[("_law_script" : Str),("_law_first" : Str)]
theorem tS:FnScope N_law_start [("_law_script" : Str)] (defScope cJ):=⟨rfl,rfl,rfl,by decide +kernel,rfl,by decide +kernel,by decide +kernel⟩
def gv:HTS:=(aj (aK 1 (hC (.int 0)))
 (aj (bj (hB (hop gGt (hcb dJ (aa (hV 0) ae)) (hC (.int 0)))) (aK 1 (hop gIx (hV 0) (hC (.int 0)))) hNx)
 (aA (cM (aa (hcb fu (aa (hV 0) ae)) (aa (hC (.int 1)) (aa (hV 1) (aa (hC (.int 0)) ae))))))))
theorem tT {B:Bs} {k:Nat} (c:Fc B.K B.mg)  : HSs ⟨B.P,B.w,B.K,B.mg,B.base,k + 1,N_law_start,defScope cJ,true,fun _=>true⟩ (defBody cJ) (gv) :=
 (hss (aP ay)
 (hss (hif (Ac (hlen rfl c.f_len (ad (hv 0) ag)) ay) (aI (aP (hix (hv 0) ay))) c8)
 (aI (bW (iJ (ad (oj rfl c.f_list (ad (hv 0) ag)) (ad ay (ad (hv 1) (ad ay ag)))))))))
theorem tU {B:Bs} {k:Nat} {f:Addr} {fd:FuncData} {sp:HSp} (c:Fc B.K B.mg) (F:FunD B.K "_law_start" "_law_start" (defArgs cJ) (defBody cJ) (defScope cJ) [] [] f fd)
 (hr:∀ ds S Q E,ds.length=1→sp ds S Q E→gv { nx:=fun _ S'=>Rt Q .non S',rt:=Rt Q,ex:=fun x _ S'=>Rx E x S' } (ao N_law_start.length ds) S):FnAt B (k + 2) f 1 [] sp :=
 cO F (bc (F.bindsN fun _ _ _ _ _ _ us hl=>match us,hl with | [_],_=>rfl)) cP tS (tT c ) hr
def d_law_start:He.DefD:=⟨("_law_start",none), "_law_start", "_law_start",defArgs cJ,defBody cJ,defScope cJ,[],[]⟩

abbrev dm:Stmt:=top 35
def N_law_draw:List Str:=[("_law_state" : Str),("_law_many" : Str),("_law_drawn" : Str),("_law_seed" : Str),("_law_mixed" : Str)]
theorem vQ:FnScope N_law_draw [("_law_state" : Str),("_law_many" : Str)] (defScope dm):=⟨rfl,rfl,rfl,by decide +kernel,rfl,by decide +kernel,by decide +kernel⟩
def gW:HTS:=(aj (bj (hB (hop gGe (hop gIx (hV 0) (hC (.int 2))) (hop EM (hC (.int 10)) (hC (.int 18))))) (aj (aK 2 (hop A8 (hcb ol (aa (hop gIx (hV 0) (hC (.int 2))) ae)) (hV 1)))
 (aj (fT (hV 0) (hC (.int 2)) (hop EL (hop gIx (hV 0) (hC (.int 2))) (hV 1)))
 (aA (hV 2)))) hNx)
 (aj (fT (hV 0) (hC (.int 3)) (hop cr (hop gIx (hV 0) (hC (.int 3))) (hC (.int 1))))
 (aj (aK 3 (hop cr (hop cr (hop A8 (hcb ol (aa (hop gIx (hV 0) (hC (.int 2))) ae)) (hC (.int 1000000007))) (hop Ej (hC (.int 69621)) (hop gIx (hV 0) (hC (.int 3))))) (hC (.int 48271))))
 (aj (aK 4 (hop A8 (hop EM (hV 3) (hC (.int 17))) (hC (.int 170141183460469231731687303715884105727))))
 (aj (bj (hB (hop gLt (hop gIx (hV 0) (hC (.int 1))) (hcb dJ (aa (hop gIx (hV 0) (hC (.int 0))) ae)))) (aj (fT (hV 0) (hC (.int 2)) (hop gIx (hop gIx (hV 0) (hC (.int 0))) (hop gIx (hV 0) (hC (.int 1)))))
 (fT (hV 0) (hC (.int 1)) (hop cr (hop gIx (hV 0) (hC (.int 1))) (hC (.int 1))))) hNx)
 (aA (hop A8 (hop EL (hcb ol (aa (hV 4) ae)) (hC (.int 64))) (hV 1))))))))
theorem vR {B:Bs} {k:Nat} (c:Fc B.K B.mg)  : HSs ⟨B.P,B.w,B.K,B.mg,B.base,k + 1,N_law_draw,defScope dm,true,fun _=>true⟩ (defBody dm) (gW) :=
 (hss (hif (EO (hix (hv 0) ay) (Gm ay ay)) (hss (aP (CU (Bl rfl c.f_int (ad (hix (hv 0) ay) ag)) (hv 1)))
 (hss (r0 (hv 0) ay (Gk (hix (hv 0) ay) (hv 1)))
 (aI (bW (hv 2))))) c8)
 (hss (r0 (hv 0) ay (fL (hix (hv 0) ay) ay))
 (hss (aP (fL (fL (CU (Bl rfl c.f_int (ad (hix (hv 0) ay) ag)) ay) (Gj ay (hix (hv 0) ay))) ay))
 (hss (aP (CU (Gm (hv 3) ay) ay))
 (hss (hif (Ab (hix (hv 0) ay) (hlen rfl c.f_len (ad (hix (hv 0) ay) ag))) (hss (r0 (hv 0) ay (hix (hix (hv 0) ay) (hix (hv 0) ay)))
 (aI (r0 (hv 0) ay (fL (hix (hv 0) ay) ay)))) c8)
 (aI (bW (CU (Gk (Bl rfl c.f_int (ad (hv 4) ag)) ay) (hv 1)))))))))
theorem vS {B:Bs} {k:Nat} {f:Addr} {fd:FuncData} {sp:HSp} (c:Fc B.K B.mg) (F:FunD B.K "_law_draw" "_law_draw" (defArgs dm) (defBody dm) (defScope dm) [] [] f fd)
 (hr:∀ ds S Q E,ds.length=2→sp ds S Q E→gW { nx:=fun _ S'=>Rt Q .non S',rt:=Rt Q,ex:=fun x _ S'=>Rx E x S' } (ao N_law_draw.length ds) S):FnAt B (k + 2) f 2 [] sp :=
 cO F (bc (F.bindsN fun _ _ _ _ _ _ us hl=>match us,hl with | [_,_],_=>rfl)) cP vQ (vR c ) hr
def d_law_draw:He.DefD:=⟨("_law_draw",none), "_law_draw", "_law_draw",defArgs dm,defBody dm,defScope dm,[],[]⟩

abbrev dp:Stmt:=top 36
def N_law_deed:List Str:=[("_law_pen" : Str),("_law_kind" : Str),("_law_deeds" : Str)]
theorem vT:FnScope N_law_deed [("_law_pen" : Str)] (defScope dp):=⟨rfl,rfl,rfl,by decide +kernel,rfl,by decide +kernel,by decide +kernel⟩
def gX (au:HSp):HTS:=(aj (aK 1 (an 2 [] au (aa (hV 0) (aa (hC (.int 14)) ae))))
 (aj (aK 2 (bD (aa (aE (aa (hC (.str ("put" : Str))) (aa (hC (.str ("a" : Str))) ae))) (aa (aE (aa (hC (.str ("put" : Str))) (aa (hC (.str ("a" : Str))) ae))) (aa (aE (aa (hC (.str ("blank" : Str))) (aa (hC (.str ("a" : Str))) ae))) (aa (aE (aa (hC (.str ("give" : Str))) (aa (hC (.str ("a" : Str))) ae))) (aa (aE (aa (hC (.str ("give" : Str))) (aa (hC (.str ("a" : Str))) ae))) (aa (aE (aa (hC (.str ("put" : Str))) (aa (hC (.str ("b" : Str))) ae))) (aa (aE (aa (hC (.str ("give" : Str))) (aa (hC (.str ("b" : Str))) ae))) ae)))))))))
 (aj (aK 2 (hop cr (hV 2) (bD (aa (aE (aa (hC (.str ("push" : Str))) (aa (hC (.str ("r" : Str))) ae))) (aa (aE (aa (hC (.str ("push" : Str))) (aa (hC (.str ("r" : Str))) ae))) (aa (aE (aa (hC (.str ("pop" : Str))) (aa (hC (.str ("r" : Str))) ae))) (aa (aE (aa (hC (.str ("pop" : Str))) (aa (hC (.str ("r" : Str))) ae))) (aa (aE (aa (hC (.str ("cut" : Str))) (aa (hC (.str ("r" : Str))) ae))) (aa (aE (aa (hC (.str ("answer" : Str))) (aa (hC (.str ("copy" : Str))) ae))) ae)))))))))
 (aA (hop gIx (hop cr (hV 2) (bD (aa (aE (aa (hC (.str ("answer" : Str))) (aa (hC (.str ("view" : Str))) ae))) ae))) (hV 1))))))
theorem vU {B:Bs} {k:Nat} {au:HSp} (c:Fc B.K B.mg) (h_law_draw:HFn B (k + 1) "_law_draw" 2 [] au):HSs ⟨B.P,B.w,B.K,B.mg,B.base,k + 1,N_law_deed,defScope dp,true,fun _=>true⟩ (defBody dp) (gX au) :=
 (hss (aP (bn (h_law_draw.in_) zNr rfl (ad (hv 0) (ad ay ag))))
 (hss (aP (f6 (ad (bM (ad az (ad az ag))) (ad (bM (ad az (ad az ag))) (ad (bM (ad az (ad az ag))) (ad (bM (ad az (ad az ag))) (ad (bM (ad az (ad az ag))) (ad (bM (ad az (ad az ag))) (ad (bM (ad az (ad az ag))) ag)))))))))
 (hss (aP (fL (hv 2) (f6 (ad (bM (ad az (ad az ag))) (ad (bM (ad az (ad az ag))) (ad (bM (ad az (ad az ag))) (ad (bM (ad az (ad az ag))) (ad (bM (ad az (ad az ag))) (ad (bM (ad az (ad az ag))) ag)))))))))
 (aI (bW (hix (fL (hv 2) (f6 (ad (bM (ad az (ad az ag))) ag))) (hv 1)))))))
theorem vV {B:Bs} {k:Nat} {f:Addr} {fd:FuncData} {au sp:HSp} (c:Fc B.K B.mg) (F:FunD B.K "_law_deed" "_law_deed" (defArgs dp) (defBody dp) (defScope dp) [] [] f fd) (h_law_draw:HFn B (k + 1) "_law_draw" 2 [] au)
 (hr:∀ ds S Q E,ds.length=1→sp ds S Q E→gX au { nx:=fun _ S'=>Rt Q .non S',rt:=Rt Q,ex:=fun x _ S'=>Rx E x S' } (ao N_law_deed.length ds) S):FnAt B (k + 2) f 1 [] sp :=
 cO F (bc (F.bindsN fun _ _ _ _ _ _ us hl=>match us,hl with | [_],_=>rfl)) cP vT (vU c h_law_draw) hr
def d_law_deed:He.DefD:=⟨("_law_deed",none), "_law_deed", "_law_deed",defArgs dp,defBody dp,defScope dp,[],[]⟩

abbrev b6:Stmt:=top 37
def N_law_simple:List Str:=[("_law_pen" : Str),("_law_inside" : Str),("_law_kind" : Str)]
theorem rD:FnScope N_law_simple [("_law_pen" : Str),("_law_inside" : Str)] (defScope b6):=⟨rfl,rfl,rfl,by decide +kernel,rfl,by decide +kernel,by decide +kernel⟩
def fD (au e6:HSp):HTS:=(aj (aK 2 (an 2 [] au (aa (hV 0) (aa (hC (.int 12)) ae))))
 (aj (bj (hB (hop gLt (hV 2) (hC (.int 6)))) (aA (an 1 [] e6 (aa (hV 0) ae))) hNx)
 (aj (bj (hB (hop gLt (hV 2) (hC (.int 9)))) (aA (aE (aa (hC (.str ("deeper" : Str))) (aa (hop gIx (bD (aa (hC (.str ("f" : Str))) (aa (hC (.str ("g" : Str))) ae))) (an 2 [] au (aa (hV 0) (aa (hC (.int 2)) ae)))) ae)))) hNx)
 (aj (bj (hB (hop gEq (hV 2) (hC (.int 9)))) (aA (aE (aa (hC (.str ("may" : Str))) ae))) hNx)
 (aj (bj (dU (hB (hop gEq (hV 2) (hC (.int 10)))) (hTr (hV 1))) (aA (hop gIx (bD (aa (aE (aa (hC (.str ("again" : Str))) ae)) (aa (aE (aa (hC (.str ("out" : Str))) ae)) ae))) (an 2 [] au (aa (hV 0) (aa (hC (.int 2)) ae))))) hNx)
 (aA (hop gIx (bD (aa (aE (aa (hC (.str ("stop" : Str))) (aa (hC (.str ("found" : Str))) ae))) (aa (aE (aa (hC (.str ("stop" : Str))) (aa (hC (.str ("none" : Str))) ae))) (aa (aE (aa (hC (.str ("fault" : Str))) ae)) ae)))) (an 2 [] au (aa (hV 0) (aa (hC (.int 3)) ae))))))))))
theorem rE {B:Bs} {k:Nat} {au e6:HSp} (c:Fc B.K B.mg) (h_law_draw:HFn B (k + 1) "_law_draw" 2 [] au) (h_law_deed:HFn B (k + 1) "_law_deed" 1 [] e6):HSs ⟨B.P,B.w,B.K,B.mg,B.base,k + 1,N_law_simple,defScope b6,true,fun _=>true⟩ (defBody b6) (fD au e6) :=
 (hss (aP (bn (h_law_draw.in_) zNr rfl (ad (hv 0) (ad ay ag))))
 (hss (hif (Ab (hv 2) ay) (aI (bW (bn (h_law_deed.in_) zNr rfl (ad (hv 0) ag)))) c8)
 (hss (hif (Ab (hv 2) ay) (aI (bW (bM (ad az (ad (hix (f6 (ad az (ad az ag))) (bn (h_law_draw.in_) zNr rfl (ad (hv 0) (ad ay ag)))) ag))))) c8)
 (hss (hif (f7 (hv 2) ay) (aI (bW (bM (ad az ag)))) c8)
 (hss (hif (hw (mr (f7 (hv 2) ay) (i7 (htr (hv 1))))) (aI (bW (hix (f6 (ad (bM (ad az ag)) (ad (bM (ad az ag)) ag))) (bn (h_law_draw.in_) zNr rfl (ad (hv 0) (ad ay ag)))))) c8)
 (aI (bW (hix (f6 (ad (bM (ad az (ad az ag))) (ad (bM (ad az (ad az ag))) (ad (bM (ad az ag)) ag)))) (bn (h_law_draw.in_) zNr rfl (ad (hv 0) (ad ay ag)))))))))))
theorem rF {B:Bs} {k:Nat} {f:Addr} {fd:FuncData} {au e6 sp:HSp} (c:Fc B.K B.mg) (F:FunD B.K "_law_simple" "_law_simple" (defArgs b6) (defBody b6) (defScope b6) [] [] f fd) (h_law_draw:HFn B (k + 1) "_law_draw" 2 [] au) (h_law_deed:HFn B (k + 1) "_law_deed" 1 [] e6)
 (hr:∀ ds S Q E,ds.length=2→sp ds S Q E→fD au e6 { nx:=fun _ S'=>Rt Q .non S',rt:=Rt Q,ex:=fun x _ S'=>Rx E x S' } (ao N_law_simple.length ds) S):FnAt B (k + 2) f 2 [] sp :=
 cO F (bc (F.bindsN fun _ _ _ _ _ _ us hl=>match us,hl with | [_,_],_=>rfl)) cP rD (rE c h_law_draw h_law_deed) hr
def d_law_simple:He.DefD:=⟨("_law_simple",none), "_law_simple", "_law_simple",defArgs b6,defBody b6,defScope b6,[],[]⟩

abbrev bR:Stmt:=top 38
def N_law_block:List Str:=[("_law_pen" : Str),("_law_left" : Str),("_law_deep" : Str),("_law_inside" : Str),("_law_word" : Str),("_law_first" : Str),("_law_ends" : Str),("_law_k" : Str),("_law_second" : Str)]
theorem tV:FnScope N_law_block [("_law_pen" : Str),("_law_left" : Str),("_law_deep" : Str),("_law_inside" : Str)] (defScope bR):=⟨rfl,rfl,rfl,by decide +kernel,rfl,by decide +kernel,by decide +kernel⟩
def gw (au bv:HSp):HTS:=(aj (aK 4 (hop gIx (bD (aa (hC (.str ("either" : Str))) (aa (hC (.str ("tries" : Str))) (aa (hC (.str ("tries" : Str))) (aa (hC (.str ("told" : Str))) (aa (hC (.str ("look" : Str))) (aa (hC (.str ("guard" : Str))) (aa (hC (.str ("lastly" : Str))) ae)))))))) (an 2 [] au (aa (hV 0) (aa (hC (.int 7)) ae)))))
 (aj (aK 5 (an 4 [] bv (aa (hV 0) (aa (hV 1) (aa (hop pU (hV 2) (hC (.int 1))) (aa (k7 (hV 3) (hop gEq (hV 4) (hC (.str ("tries" : Str))))) ae))))))
 (aj (bj (hB (hop gEq (hV 4) (hC (.str ("tries" : Str))))) (aA (aE (aa (hC (.str ("tries" : Str))) (aa (hV 5) ae)))) hNx)
 (aj (bj (hB (hop gEq (hV 4) (hC (.str ("lastly" : Str))))) (aj (aK 6 (bD (aa (aE (aa (hC (.str ("put" : Str))) (aa (hC (.str ("a" : Str))) ae))) (aa (aE (aa (hC (.str ("blank" : Str))) (aa (hC (.str ("a" : Str))) ae))) (aa (aE (aa (hC (.str ("give" : Str))) (aa (hC (.str ("a" : Str))) ae))) (aa (aE (aa (hC (.str ("pop" : Str))) (aa (hC (.str ("r" : Str))) ae))) (aa (aE (aa (hC (.str ("cut" : Str))) (aa (hC (.str ("r" : Str))) ae))) (aa (aE (aa (hC (.str ("push" : Str))) (aa (hC (.str ("r" : Str))) ae))) ae))))))))
 (aj (aK 8 (hcb dD (aa (hLc (hJ (aa (hcb Bm (aa (hop gIx (hV 1) (hC (.int 0))) (aa (an 2 [] au (aa (hV 0) (aa (hC (.int 3)) ae))) ae))) ae)) (.nm 7) fM (hop gIx (hV 6) (an 2 [] au (aa (hV 0) (aa (hC (.int 6)) ae)))) [7]) ae)))
 (aj (fT (hV 1) (hC (.int 0)) (hop pU (hop gIx (hV 1) (hC (.int 0))) (hcb dJ (aa (hV 8) ae))))
 (aA (aE (aa (hC (.str ("lastly" : Str))) (aa (hV 5) (aa (hV 8) ae)))))))) hNx)
 (aj (aK 8 (an 4 [] bv (aa (hV 0) (aa (hV 1) (aa (hop pU (hV 2) (hC (.int 1))) (aa (hV 3) ae))))))
 (aj (bj (hB (hop gEq (hV 4) (hC (.str ("look" : Str))))) (aA (aE (aa (hC (.str ("look" : Str))) (aa (hC (.str ("a" : Str))) (aa (hV 5) (aa (hV 8) ae)))))) hNx)
 (aA (aE (aa (hV 4) (aa (hV 5) (aa (hV 8) ae)))))))))))
theorem tW {B:Bs} {k:Nat} {au bv:HSp} (c:Fc B.K B.mg) (h_law_draw:HFn B (k + 1) "_law_draw" 2 [] au) (h_law_part:HFn B (k + 1) "_law_part" 4 [] bv):HSs ⟨B.P,B.w,B.K,B.mg,B.base,k + 1,N_law_block,defScope bR,true,fun _=>true⟩ (defBody bR) (gw au bv) :=
 (hss (aP (hix (f6 (ad az (ad az (ad az (ad az (ad az (ad az (ad az ag)))))))) (bn (h_law_draw.in_) zNr rfl (ad (hv 0) (ad ay ag)))))
 (hss (aP (bn (h_law_part.in_) zNr rfl (ad (hv 0) (ad (hv 1) (ad (A9 (hv 2) ay) (ad (Gy (hv 3) (iF (heq (hv 4) az))) ag))))))
 (hss (hif (f7 (hv 4) az) (aI (bW (bM (ad az (ad (hv 5) ag))))) c8)
 (hss (hif (f7 (hv 4) az) (hss (aP (f6 (ad (bM (ad az (ad az ag))) (ad (bM (ad az (ad az ag))) (ad (bM (ad az (ad az ag))) (ad (bM (ad az (ad az ag))) (ad (bM (ad az (ad az ag))) (ad (bM (ad az (ad az ag))) ag))))))))
 (hss (aP (jw rfl c.f_tuple (ad (oQ [("_law_k",7)] (xB rfl c.f_range (ad (Gs rfl c.f_min (ad (hix (hv 1) ay) (ad (bn (h_law_draw.in_) zNr rfl (ad (hv 0) (ad ay ag))) ag))) ag)) (by dsimp only [Bs.blk]; decide +kernel) (by decide) (hnm 7) hif0 (hix (hv 6) (bn (h_law_draw.in_) zNr rfl (ad (hv 0) (ad ay ag))))) ag)))
 (hss (r0 (hv 1) ay (A9 (hix (hv 1) ay) (hlen rfl c.f_len (ad (hv 8) ag))))
 (aI (bW (bM (ad az (ad (hv 5) (ad (hv 8) ag))))))))) c8)
 (hss (aP (bn (h_law_part.in_) zNr rfl (ad (hv 0) (ad (hv 1) (ad (A9 (hv 2) ay) (ad (hv 3) ag))))))
 (hss (hif (f7 (hv 4) az) (aI (bW (bM (ad az (ad az (ad (hv 5) (ad (hv 8) ag))))))) c8)
 (aI (bW (bM (ad (hv 4) (ad (hv 5) (ad (hv 8) ag))))))))))))
theorem mN {B:Bs} {k:Nat} {f:Addr} {fd:FuncData} {au bv sp:HSp} (c:Fc B.K B.mg) (F:FunD B.K "_law_block" "_law_block" (defArgs bR) (defBody bR) (defScope bR) [] [] f fd) (h_law_draw:HFn B (k + 1) "_law_draw" 2 [] au) (h_law_part:HFn B (k + 1) "_law_part" 4 [] bv)
 (hr:∀ ds S Q E,ds.length=4→sp ds S Q E→gw au bv { nx:=fun _ S'=>Rt Q .non S',rt:=Rt Q,ex:=fun x _ S'=>Rx E x S' } (ao N_law_block.length ds) S):FnAt B (k + 2) f 4 [] sp :=
 cO F (bc (F.bindsN fun _ _ _ _ _ _ us hl=>match us,hl with | [_,_,_,_],_=>rfl)) cP tV (tW c h_law_draw h_law_part) hr
theorem tX {B:Bs} {k:Nat} {f:Addr} {fd:FuncData} {sp:HSp} (F:FunD B.K "_law_block" "_law_block" (defArgs bR) (defBody bR) (defScope bR) [] [] f fd) (h0:∀ ds S Q E,sp ds S Q E→False):FnAt B k f 4 [] sp :=
 ka rfl (F.bindsN (ps:=[("_law_pen" : Str),("_law_left" : Str),("_law_deep" : Str),("_law_inside" : Str)]) fun _ _ _ _ _ _ us hl=>match us,hl with | [_,_,_,_],_=>rfl) h0
def d_law_block:He.DefD:=⟨("_law_block",none), "_law_block", "_law_block",defArgs bR,defBody bR,defScope bR,[],[]⟩

abbrev cm:Stmt:=top 39
def N_law_part:List Str:=[("_law_pen" : Str),("_law_left" : Str),("_law_deep" : Str),("_law_inside" : Str),("_law_found" : Str),("_law_turn" : Str)]
theorem oC:FnScope N_law_part [("_law_pen" : Str),("_law_left" : Str),("_law_deep" : Str),("_law_inside" : Str)] (defScope cm):=⟨rfl,rfl,rfl,by decide +kernel,rfl,by decide +kernel,by decide +kernel⟩
def fV (au cA cx:HSp):HTS:=(aj (aK 4 (cM ae))
 (aj (cC (hJ (aa (an 2 [] au (aa (hV 0) (aa (hC (.int 5)) ae))) ae)) (.nm 5) (bj (hB (hop gGt (hop gIx (hV 1) (hC (.int 0))) (hC (.int 0)))) (aj (fT (hV 1) (hC (.int 0)) (hop pU (hop gIx (hV 1) (hC (.int 0))) (hC (.int 1))))
 (bj (dU (hB (hop gGt (hV 2) (hC (.int 0)))) (hB (hop gEq (an 2 [] au (aa (hV 0) (aa (hC (.int 3)) ae))) (hC (.int 0))))) (aL (hMt eU cz (hV 4) (aa (an 4 [] cA (aa (hV 0) (aa (hV 1) (aa (hV 2) (aa (hV 3) ae))))) ae))) (aL (hMt eU cz (hV 4) (aa (an 2 [] cx (aa (hV 0) (aa (hV 3) ae))) ae))))) hNx))
 (aA (hcb dD (aa (hV 4) ae)))))
theorem oD {B:Bs} {k:Nat} {au cA cx:HSp} (c:Fc B.K B.mg) (h_law_draw:HFn B (k + 1) "_law_draw" 2 [] au) (h_law_block:HFn B (k + 1) "_law_block" 4 [] cA) (h_law_simple:HFn B (k + 1) "_law_simple" 2 [] cx):HSs ⟨B.P,B.w,B.K,B.mg,B.base,k + 1,N_law_part,defScope cm,true,fun _=>true⟩ (defBody cm) (fV au cA cx) :=
 (hss (aP (iJ ag))
 (hss (ip (xB rfl c.f_range (ad (bn (h_law_draw.in_) zNr rfl (ad (hv 0) (ad ay ag))) ag)) (hnm 5) (aI (hif (Ac (hix (hv 1) ay) ay) (hss (r0 (hv 1) ay (A9 (hix (hv 1) ay) ay))
 (aI (hif (hw (mr (Ac (hv 2) ay) (i7 (f7 (bn (h_law_draw.in_) zNr rfl (ad (hv 0) (ad ay ag))) ay)))) (aI (eO (fj (hv 4) (ad (bn (h_law_block.in_) zNr rfl (ad (hv 0) (ad (hv 1) (ad (hv 2) (ad (hv 3) ag))))) ag)))) (aI (eO (fj (hv 4) (ad (bn (h_law_simple.in_) zNr rfl (ad (hv 0) (ad (hv 3) ag))) ag))))))) c8)))
 (aI (bW (jw rfl c.f_tuple (ad (hv 4) ag))))))
theorem oE {B:Bs} {k:Nat} {f:Addr} {fd:FuncData} {au cA cx sp:HSp} (c:Fc B.K B.mg) (F:FunD B.K "_law_part" "_law_part" (defArgs cm) (defBody cm) (defScope cm) [] [] f fd) (h_law_draw:HFn B (k + 1) "_law_draw" 2 [] au) (h_law_block:HFn B (k + 1) "_law_block" 4 [] cA) (h_law_simple:HFn B (k + 1) "_law_simple" 2 [] cx)
 (hr:∀ ds S Q E,ds.length=4→sp ds S Q E→fV au cA cx { nx:=fun _ S'=>Rt Q .non S',rt:=Rt Q,ex:=fun x _ S'=>Rx E x S' } (ao N_law_part.length ds) S):FnAt B (k + 2) f 4 [] sp :=
 cO F (bc (F.bindsN fun _ _ _ _ _ _ us hl=>match us,hl with | [_,_,_,_],_=>rfl)) cP oC (oD c h_law_draw h_law_block h_law_simple) hr
def d_law_part:He.DefD:=⟨("_law_part",none), "_law_part", "_law_part",defArgs cm,defBody cm,defScope cm,[],[]⟩

abbrev dq:Stmt:=top 40
def N_law_code:List Str:=[("_law_pen" : Str),("_law_many" : Str),("_law_body" : Str),("_law_other" : Str)]
theorem vW:FnScope N_law_code [("_law_pen" : Str),("_law_many" : Str)] (defScope dq):=⟨rfl,rfl,rfl,by decide +kernel,rfl,by decide +kernel,by decide +kernel⟩
def gY (bv eC cn:HSp):HTS:=(aj (aK 2 (an 4 [] bv (aa (hV 0) (aa (cM (aa (hV 1) ae)) (aa (hC (.int 3)) (aa (hC (.bl false)) ae))))))
 (aj (aK 3 (an 4 [] bv (aa (hV 0) (aa (cM (aa (hC (.int 4)) ae)) (aa (hC (.int 1)) (aa (hC (.bl false)) ae))))))
 (aA (fS 4 5 [] eC (aa (bD (aa (hC (.str ("a" : Str))) (aa (hC (.str ("b" : Str))) ae))) (aa (bD (aa (hC (.str ("r" : Str))) ae)) (aa (bD (aa (fS 3 3 [] cn (aa (hC (.str ("f" : Str))) (aa (hV 2) ae))) (aa (fS 3 3 [] cn (aa (hC (.str ("g" : Str))) (aa (hV 3) ae))) ae))) (aa (hC (.str ("f" : Str))) ae))))))))
theorem vX {B:Bs} {k:Nat} {bv eC cn:HSp} (c:Fc B.K B.mg) (h_law_part:HFn B (k + 1) "_law_part" 4 [] bv) (h_Code_init:HMake B k 4 5 [] eC) (h_Function_init:HMake B k 3 3 [] cn):HSs ⟨B.P,B.w,B.K,B.mg,B.base,k + 1,N_law_code,defScope dq,true,fun _=>true⟩ (defBody dq) (gY bv eC cn) :=
 (hss (aP (bn (h_law_part.in_) zNr rfl (ad (hv 0) (ad (iJ (ad (hv 1) ag)) (ad ay (ad hbl ag))))))
 (hss (aP (bn (h_law_part.in_) zNr rfl (ad (hv 0) (ad (iJ (ad ay ag)) (ad ay (ad hbl ag))))))
 (aI (bW (rZ (h_Code_init.in_) zNr rfl (ad (f6 (ad az (ad az ag))) (ad (f6 (ad az ag)) (ad (f6 (ad (rZ (h_Function_init.in_) zNr rfl (ad az (ad (hv 2) ag))) (ad (rZ (h_Function_init.in_) zNr rfl (ad az (ad (hv 3) ag))) ag))) (ad az ag)))))))))
theorem vY {B:Bs} {k:Nat} {f:Addr} {fd:FuncData} {bv eC cn sp:HSp} (c:Fc B.K B.mg) (F:FunD B.K "_law_code" "_law_code" (defArgs dq) (defBody dq) (defScope dq) [] [] f fd) (h_law_part:HFn B (k + 1) "_law_part" 4 [] bv) (h_Code_init:HMake B k 4 5 [] eC) (h_Function_init:HMake B k 3 3 [] cn)
 (hr:∀ ds S Q E,ds.length=2→sp ds S Q E→gY bv eC cn { nx:=fun _ S'=>Rt Q .non S',rt:=Rt Q,ex:=fun x _ S'=>Rx E x S' } (ao N_law_code.length ds) S):FnAt B (k + 2) f 2 [] sp :=
 cO F (bc (F.bindsN fun _ _ _ _ _ _ us hl=>match us,hl with | [_,_],_=>rfl)) cP vW (vX c h_law_part h_Code_init h_Function_init) hr
def d_law_code:He.DefD:=⟨("_law_code",none), "_law_code", "_law_code",defArgs dq,defBody dq,defScope dq,[],[]⟩

abbrev cU:Stmt:=top 41
def N_law_lay:List Str:=[("_law_graph_here" : Str),("_law_body" : Str),("_law_path" : Str),("_law_mood" : Str),("_law_goals" : Str),("_law_at" : Str),("_law_later" : Str)]
theorem xV:FnScope N_law_lay [("_law_graph_here" : Str),("_law_body" : Str),("_law_path" : Str),("_law_mood" : Str),("_law_goals" : Str)] (defScope cU):=⟨rfl,rfl,rfl,by decide +kernel,rfl,by decide +kernel,by decide +kernel⟩
def qp (w:World) (dw:HSp):HTS:=(aj (cC (hJ (aa (hcb dJ (aa (hV 1) ae)) ae)) (.nm 5) (aj (aK 6 (hcb d9 (aa (hV 4) ae)))
 (aj (cE (hV 6) (hC (.str ("on" : Str))) (bD (aa (av (aa (hop bb (hV 2) (av (aa (hop cr (hV 5) (hC (.int 1))) ae))) (aa (hV 3) ae))) ae)))
 (c5 6 (qi w (hV 0) (av (aa (hop bb (hV 2) (av (aa (hV 5) ae))) (aa (hV 3) ae))) (bD (aa (hop gIx (hV 1) (hV 5)) (aa (an 4 [] dw (aa (hV 0) (aa (hop gIx (hV 1) (hV 5)) (aa (av (aa (hop bb (hV 2) (av (aa (hV 5) ae))) (aa (hV 3) ae))) (aa (hV 6) ae))))) ae))))))))
 (qi w (hV 0) (av (aa (hop bb (hV 2) (av (aa (hcb dJ (aa (hV 1) ae)) ae))) (aa (hV 3) ae))) (bD (aa (hC .non) (aa (hcb fu (aa (hop cQ (hV 4) (hC (.str ("on" : Str)))) ae)) ae)))))
theorem xW {B:Bs} {k:Nat} {dw:HSp} (c:Fc B.K B.mg) (h_law_after:HFn B (k + 1) "_law_after" 4 [] dw):HSs ⟨B.P,B.w,B.K,B.mg,B.base,k + 1,N_law_lay,defScope cU,true,fun _=>true⟩ (defBody cU) (qp B.w dw) :=
 (hss (ip (xB rfl c.f_range (ad (hlen rfl c.f_len (ad (hv 1) ag)) ag)) (hnm 5) (hss (aP (kQ rfl c.f_dict (ad (hv 4) ag)))
 (hss (jW (hv 6) az (f6 (ad (cc (ad (eV (hv 2) (cc (ad (fL (hv 5) ay) ag))) (ad (hv 3) ag))) ag)))
 (aI (jz 6 (Ey (hv 0) (cc (ad (eV (hv 2) (cc (ad (hv 5) ag))) (ad (hv 3) ag))) (f6 (ad (hix (hv 1) (hv 5)) (ad (bn (h_law_after.in_) zNr rfl (ad (hv 0) (ad (hix (hv 1) (hv 5)) (ad (cc (ad (eV (hv 2) (cc (ad (hv 5) ag))) (ad (hv 3) ag))) (ad (hv 6) ag))))) ag)))))))))
 (aI (Ey (hv 0) (cc (ad (eV (hv 2) (cc (ad (hlen rfl c.f_len (ad (hv 1) ag)) ag))) (ad (hv 3) ag))) (f6 (ad sX (ad (oj rfl c.f_list (ad (iu (hv 4) az) ag)) ag))))))
theorem xX {B:Bs} {k:Nat} {f:Addr} {fd:FuncData} {dw sp:HSp} (c:Fc B.K B.mg) (F:FunD B.K "_law_lay" "_law_lay" (defArgs cU) (defBody cU) (defScope cU) [] [] f fd) (h_law_after:HFn B (k + 1) "_law_after" 4 [] dw)
 (hr:∀ ds S Q E,ds.length=5→sp ds S Q E→qp B.w dw { nx:=fun _ S'=>Rt Q .non S',rt:=Rt Q,ex:=fun x _ S'=>Rx E x S' } (ao N_law_lay.length ds) S):FnAt B (k + 2) f 5 [] sp :=
 cO F (bc (F.bindsN fun _ _ _ _ _ _ us hl=>match us,hl with | [_,_,_,_,_],_=>rfl)) cP xV (xW c h_law_after) hr
theorem xY {B:Bs} {k:Nat} {f:Addr} {fd:FuncData} {sp:HSp} (F:FunD B.K "_law_lay" "_law_lay" (defArgs cU) (defBody cU) (defScope cU) [] [] f fd) (h0:∀ ds S Q E,sp ds S Q E→False):FnAt B k f 5 [] sp :=
 ka rfl (F.bindsN (ps:=[("_law_graph_here" : Str),("_law_body" : Str),("_law_path" : Str),("_law_mood" : Str),("_law_goals" : Str)]) fun _ _ _ _ _ _ us hl=>match us,hl with | [_,_,_,_,_],_=>rfl) h0
def d_law_lay:He.DefD:=⟨("_law_lay",none), "_law_lay", "_law_lay",defArgs cU,defBody cU,defScope cU,[],[]⟩

abbrev cK:Stmt:=top 42
def N_law_after:List Str:=[("_law_graph_here" : Str),("_law_statement" : Str),("_law_spot" : Str),("_law_goals" : Str),("_law_path" : Str),("_law_mood" : Str),("_law_word" : Str),("_law_head" : Str),("_law_inner" : Str),("_law_key" : Str),("_law_only" : Str)]
theorem tY:FnScope N_law_after [("_law_graph_here" : Str),("_law_statement" : Str),("_law_spot" : Str),("_law_goals" : Str)] (defScope cK):=⟨rfl,rfl,rfl,by decide +kernel,rfl,by decide +kernel,by decide +kernel⟩
def mO (w:World) (aD:HSp):HTS:=(aj (f9 (.tp [(.nm 4),(.nm 5)]) (mH (hV 2)))
 (aj (aK 6 (hop gIx (hV 1) (hC (.int 0))))
 (aj (bj (hB (hop gIn (hV 6) (aE (aa (hC (.str ("stop" : Str))) (aa (hC (.str ("again" : Str))) (aa (hC (.str ("out" : Str))) ae)))))) (aA (hcb fu (aa (hop cQ (hV 3) (hop gIx (hV 1) (hun hM (hC (.int 1))))) ae))) hNx)
 (aj (bj (hB (hop gEq (hV 6) (hC (.str ("fault" : Str))))) (aA (hcb fu (aa (hop cQ (hV 3) (hC (.str ("fault" : Str)))) ae))) hNx)
 (aj (bj (hOr (hB (hop gEq (hV 6) (hC (.str ("may" : Str))))) (dU (hB (hop gEq (hV 6) (hC (.str ("deeper" : Str))))) (hB (hop gIn (hop gIx (hV 1) (hC (.int 1))) (hop (iP w) (hV 0) (hC (.str ("faulty" : Str)))))))) (aA (hop cr (hop cQ (hV 3) (hC (.str ("on" : Str)))) (hop cQ (hV 3) (hC (.str ("fault" : Str)))))) hNx)
 (aj (bj (hB (hop gEq (hV 6) (hC (.str ("tries" : Str))))) (aj (aK 7 (hop cr (bD (aa (av (aa (hop bb (hV 4) (av (aa (hC (.int 0)) (aa (hC (.int 0)) ae)))) (aa (hV 5) ae))) ae)) (hop cQ (hV 3) (hC (.str ("on" : Str))))))
 (aj (aK 8 (hcb d9 (aa (hV 3) ae)))
 (aj (cE (hV 8) (hC (.str ("on" : Str))) (hV 7))
 (aj (cE (hV 8) (hC (.str ("again" : Str))) (hV 7))
 (aj (cE (hV 8) (hC (.str ("out" : Str))) (hop cQ (hV 3) (hC (.str ("on" : Str)))))
 (aj (c5 8 (aL (an 5 [] aD (aa (hV 0) (aa (hop gIx (hV 1) (hC (.int 1))) (aa (hop bb (hV 4) (av (aa (hC (.int 0)) ae))) (aa (hV 5) (aa (hV 8) ae))))))))
 (aA (hV 7)))))))) hNx)
 (aj (bj (hB (hop gIn (hV 6) (aE (aa (hC (.str ("either" : Str))) (aa (hC (.str ("told" : Str))) (aa (hC (.str ("look" : Str))) ae)))))) (aj (aL (an 5 [] aD (aa (hV 0) (aa (hop gIx (hV 1) (hun hM (hC (.int 2)))) (aa (hop bb (hV 4) (av (aa (hC (.int 0)) ae))) (aa (hV 5) (aa (hV 3) ae)))))))
 (aj (aL (an 5 [] aD (aa (hV 0) (aa (hop gIx (hV 1) (hun hM (hC (.int 1)))) (aa (hop bb (hV 4) (av (aa (hC (.int 1)) ae))) (aa (hV 5) (aa (hV 3) ae)))))))
 (aA (bD (aa (av (aa (hop bb (hV 4) (av (aa (hC (.int 0)) (aa (hC (.int 0)) ae)))) (aa (hV 5) ae))) (aa (av (aa (hop bb (hV 4) (av (aa (hC (.int 1)) (aa (hC (.int 0)) ae)))) (aa (hV 5) ae))) ae)))))) hNx)
 (aj (bj (hB (hop gEq (hV 6) (hC (.str ("guard" : Str))))) (aj (aK 8 (hcb d9 (aa (hV 3) ae)))
 (aj (cE (hV 8) (hC (.str ("fault" : Str))) (bD (aa (av (aa (hop bb (hV 4) (av (aa (hC (.int 1)) (aa (hC (.int 0)) ae)))) (aa (hV 5) ae))) ae)))
 (aj (c5 8 (aL (an 5 [] aD (aa (hV 0) (aa (hop gIx (hV 1) (hC (.int 1))) (aa (hop bb (hV 4) (av (aa (hC (.int 0)) ae))) (aa (hV 5) (aa (hV 8) ae))))))))
 (aj (aL (an 5 [] aD (aa (hV 0) (aa (hop gIx (hV 1) (hC (.int 2))) (aa (hop bb (hV 4) (av (aa (hC (.int 1)) ae))) (aa (hV 5) (aa (hV 3) ae)))))))
 (aA (bD (aa (av (aa (hop bb (hV 4) (av (aa (hC (.int 0)) (aa (hC (.int 0)) ae)))) (aa (hV 5) ae))) ae))))))) hNx)
 (aj (bj (hB (hop gEq (hV 6) (hC (.str ("lastly" : Str))))) (aj (aK 8 jX)
 (aj (cC (vr (hV 3)) (.nm 9) (aj (aK 10 (hcb d9 (aa (hV 3) ae)))
 (aj (cE (hV 10) (hC (.str ("on" : Str))) (hop cQ (hV 3) (hV 9)))
 (aj (c5 10 (aL (an 5 [] aD (aa (hV 0) (aa (hop gIx (hV 1) (hC (.int 2))) (aa (hop bb (hV 4) (av (aa (hC (.int 1)) ae))) (aa (hop bb (hV 5) (av (aa (hV 9) ae))) (aa (hV 10) ae))))))))
 (cE (hV 8) (hV 9) (bD (aa (av (aa (hop bb (hV 4) (av (aa (hC (.int 1)) (aa (hC (.int 0)) ae)))) (aa (hop bb (hV 5) (av (aa (hV 9) ae))) ae))) ae)))))))
 (aj (c5 8 (aL (an 5 [] aD (aa (hV 0) (aa (hop gIx (hV 1) (hC (.int 1))) (aa (hop bb (hV 4) (av (aa (hC (.int 0)) ae))) (aa (hV 5) (aa (hV 8) ae))))))))
 (aA (bD (aa (av (aa (hop bb (hV 4) (av (aa (hC (.int 0)) (aa (hC (.int 0)) ae)))) (aa (hV 5) ae))) ae)))))) hNx)
 (aA (hcb fu (aa (hop cQ (hV 3) (hC (.str ("on" : Str)))) ae))))))))))))
theorem tZ {B:Bs} {k:Nat} {aD:HSp} (c:Fc B.K B.mg) (h_law_lay:HFn B (k + 1) "_law_lay" 5 [] aD):HSs ⟨B.P,B.w,B.K,B.mg,B.base,k + 1,N_law_after,defScope cK,true,fun _=>true⟩ (defBody cK) (mO B.w aD) :=
 (hss (u5 (Dc (hv 2)) (htp (hps (hnm 4) (hps (hnm 5) nf))))
 (hss (aP (hix (hv 1) ay))
 (hss (hif (mv (hv 6) (bM (ad az (ad az (ad az ag))))) (aI (bW (oj rfl c.f_list (ad (iu (hv 3) (hix (hv 1) (Ba ay))) ag)))) c8)
 (hss (hif (f7 (hv 6) az) (aI (bW (oj rfl c.f_list (ad (iu (hv 3) az) ag)))) c8)
 (hss (hif (hw (hor (f7 (hv 6) az) (Aa (hw (mr (f7 (hv 6) az) (i7 (mv (hix (hv 1) ay) (BY (hv 0) az)))))))) (aI (bW (fL (iu (hv 3) az) (iu (hv 3) az)))) c8)
 (hss (hif (f7 (hv 6) az) (hss (aP (fL (f6 (ad (cc (ad (eV (hv 4) (cc (ad ay (ad ay ag)))) (ad (hv 5) ag))) ag)) (iu (hv 3) az)))
 (hss (aP (kQ rfl c.f_dict (ad (hv 3) ag)))
 (hss (jW (hv 8) az (hv 7))
 (hss (jW (hv 8) az (hv 7))
 (hss (jW (hv 8) az (iu (hv 3) az))
 (hss (jz 8 (eO (bn (h_law_lay.in_) zNr rfl (ad (hv 0) (ad (hix (hv 1) ay) (ad (eV (hv 4) (cc (ad ay ag))) (ad (hv 5) (ad (hv 8) ag))))))))
 (aI (bW (hv 7))))))))) c8)
 (hss (hif (mv (hv 6) (bM (ad az (ad az (ad az ag))))) (hss (eO (bn (h_law_lay.in_) zNr rfl (ad (hv 0) (ad (hix (hv 1) (Ba ay)) (ad (eV (hv 4) (cc (ad ay ag))) (ad (hv 5) (ad (hv 3) ag)))))))
 (hss (eO (bn (h_law_lay.in_) zNr rfl (ad (hv 0) (ad (hix (hv 1) (Ba ay)) (ad (eV (hv 4) (cc (ad ay ag))) (ad (hv 5) (ad (hv 3) ag)))))))
 (aI (bW (f6 (ad (cc (ad (eV (hv 4) (cc (ad ay (ad ay ag)))) (ad (hv 5) ag))) (ad (cc (ad (eV (hv 4) (cc (ad ay (ad ay ag)))) (ad (hv 5) ag))) ag))))))) c8)
 (hss (hif (f7 (hv 6) az) (hss (aP (kQ rfl c.f_dict (ad (hv 3) ag)))
 (hss (jW (hv 8) az (f6 (ad (cc (ad (eV (hv 4) (cc (ad ay (ad ay ag)))) (ad (hv 5) ag))) ag)))
 (hss (jz 8 (eO (bn (h_law_lay.in_) zNr rfl (ad (hv 0) (ad (hix (hv 1) ay) (ad (eV (hv 4) (cc (ad ay ag))) (ad (hv 5) (ad (hv 8) ag))))))))
 (hss (eO (bn (h_law_lay.in_) zNr rfl (ad (hv 0) (ad (hix (hv 1) ay) (ad (eV (hv 4) (cc (ad ay ag))) (ad (hv 5) (ad (hv 3) ag)))))))
 (aI (bW (f6 (ad (cc (ad (eV (hv 4) (cc (ad ay (ad ay ag)))) (ad (hv 5) ag))) ag)))))))) c8)
 (hss (hif (f7 (hv 6) az) (hss (aP Er)
 (hss (ip (Ft (hv 3)) (hnm 9) (hss (aP (kQ rfl c.f_dict (ad (hv 3) ag)))
 (hss (jW (hv 10) az (iu (hv 3) (hv 9)))
 (hss (jz 10 (eO (bn (h_law_lay.in_) zNr rfl (ad (hv 0) (ad (hix (hv 1) ay) (ad (eV (hv 4) (cc (ad ay ag))) (ad (eV (hv 5) (cc (ad (hv 9) ag))) (ad (hv 10) ag))))))))
 (aI (jW (hv 8) (hv 9) (f6 (ad (cc (ad (eV (hv 4) (cc (ad ay (ad ay ag)))) (ad (eV (hv 5) (cc (ad (hv 9) ag))) ag))) ag))))))))
 (hss (jz 8 (eO (bn (h_law_lay.in_) zNr rfl (ad (hv 0) (ad (hix (hv 1) ay) (ad (eV (hv 4) (cc (ad ay ag))) (ad (hv 5) (ad (hv 8) ag))))))))
 (aI (bW (f6 (ad (cc (ad (eV (hv 4) (cc (ad ay (ad ay ag)))) (ad (hv 5) ag))) ag))))))) c8)
 (aI (bW (oj rfl c.f_list (ad (iu (hv 3) az) ag)))))))))))))
theorem t7 {B:Bs} {k:Nat} {f:Addr} {fd:FuncData} {aD sp:HSp} (c:Fc B.K B.mg) (F:FunD B.K "_law_after" "_law_after" (defArgs cK) (defBody cK) (defScope cK) [] [] f fd) (h_law_lay:HFn B (k + 1) "_law_lay" 5 [] aD)
 (hr:∀ ds S Q E,ds.length=4→sp ds S Q E→mO B.w aD { nx:=fun _ S'=>Rt Q .non S',rt:=Rt Q,ex:=fun x _ S'=>Rx E x S' } (ao N_law_after.length ds) S):FnAt B (k + 2) f 4 [] sp :=
 cO F (bc (F.bindsN fun _ _ _ _ _ _ us hl=>match us,hl with | [_,_,_,_],_=>rfl)) cP tY (tZ c h_law_lay) hr
def d_law_after:He.DefD:=⟨("_law_after",none), "_law_after", "_law_after",defArgs cK,defBody cK,defScope cK,[],[]⟩

abbrev cL:Stmt:=top 43
def N_law_graph:List Str:=[("_law_body" : Str),("_law_faulty_here" : Str),("_law_graph_here" : Str),("_law_goals" : Str),("_law_reached" : Str),("_law_done" : Str),("_law_spot" : Str),("_law_goal" : Str)]
theorem t8:FnScope N_law_graph [("_law_body" : Str),("_law_faulty_here" : Str)] (defScope cL):=⟨rfl,rfl,rfl,by decide +kernel,rfl,by decide +kernel,by decide +kernel⟩
def mP (w:World) (aD:HSp):HTS:=(aj (aK 2 (hun (Au w) (jc [((hC (.str ("faulty" : Str))),(hV 1))])))
 (aj (aK 3 (jc [((hC (.str ("on" : Str))),(bD (aa (hC (.str ("none" : Str))) ae))),((hC (.str ("fault" : Str))),(bD (aa (hC (.str ("fault" : Str))) ae))),((hC (.str ("found" : Str))),(bD (aa (hC (.str ("found" : Str))) ae))),((hC (.str ("none" : Str))),(bD (aa (hC (.str ("none" : Str))) ae)))]))
 (aj (c5 3 (aL (an 5 [] aD (aa (hV 2) (aa (hV 0) (aa (av ae) (aa (av ae) (aa (hV 3) ae))))))))
 (aj (aK 4 (cM (aa (av (aa (av (aa (hC (.int 0)) ae)) (aa (av ae) ae))) ae)))
 (aj (aK 5 (hC (.int 0)))
 (aj (pY (hB (hop gLt (hV 5) (hcb dJ (aa (hV 4) ae)))) (aj (aK 6 (hop gIx (hV 4) (hV 5)))
 (aj (aK 5 (hop cr (hV 5) (hC (.int 1))))
 (cC (eT (hop gIx (hop (iP w) (hV 2) (hV 6)) (hC (.int 1)))) (.nm 7) (bj (dU (fK (hTr (hun (gR j9) (mH (hV 7))))) (hB (hop f8 (mH (hV 7)) (hV 4)))) (aL (hMt eU cz (hV 4) (aa (hV 7) ae))) hNx)))))
 (aA (aE (aa (hV 2) (aa (hV 4) ae))))))))))
theorem t9 {B:Bs} {k:Nat} {aD:HSp} (c:Fc B.K B.mg) (h_law_lay:HFn B (k + 1) "_law_lay" 5 [] aD):HSs ⟨B.P,B.w,B.K,B.mg,B.base,k + 1,N_law_graph,defScope cL,true,fun _=>true⟩ (defBody cL) (mP B.w aD) :=
 (hss (aP (Ho (Es (.cons az (hv 1) .nil))))
 (hss (aP (Es (.cons az (f6 (ad az ag)) (.cons az (f6 (ad az ag)) (.cons az (f6 (ad az ag)) (.cons az (f6 (ad az ag)) .nil))))))
 (hss (jz 3 (eO (bn (h_law_lay.in_) zNr rfl (ad (hv 2) (ad (hv 0) (ad (cc ag) (ad (cc ag) (ad (hv 3) ag))))))))
 (hss (aP (iJ (ad (cc (ad (cc (ad ay ag)) (ad (cc ag) ag))) ag)))
 (hss (aP ay)
 (hss (xz (Ab (hv 5) (hlen rfl c.f_len (ad (hv 4) ag))) (hss (aP (hix (hv 4) (hv 5)))
 (hss (aP (fL (hv 5) ay))
 (aI (ip (gQ (hix (BY (hv 2) (hv 6)) ay)) (hnm 7) (aI (hif (hw (mr (oP (htr (tf s7 rfl c.f_isinstance rfl c.f_str PySem.Pv.boot_str (Dc (hv 7))))) (i7 (hZ (Dc (hv 7)) (hv 4))))) (aI (eO (fj (hv 4) (ad (hv 7) ag)))) c8)))))))
 (aI (bW (bM (ad (hv 2) (ad (hv 4) ag)))))))))))
theorem ua {B:Bs} {k:Nat} {f:Addr} {fd:FuncData} {aD sp:HSp} (c:Fc B.K B.mg) (F:FunD B.K "_law_graph" "_law_graph" (defArgs cL) (defBody cL) (defScope cL) [] [] f fd) (h_law_lay:HFn B (k + 1) "_law_lay" 5 [] aD)
 (hr:∀ ds S Q E,ds.length=2→sp ds S Q E→mP B.w aD { nx:=fun _ S'=>Rt Q .non S',rt:=Rt Q,ex:=fun x _ S'=>Rx E x S' } (ao N_law_graph.length ds) S):FnAt B (k + 2) f 2 [] sp :=
 cO F (bc (F.bindsN fun _ _ _ _ _ _ us hl=>match us,hl with | [_,_],_=>rfl)) cP t8 (t9 c h_law_lay) hr
def d_law_graph:He.DefD:=⟨("_law_graph",none), "_law_graph", "_law_graph",defArgs cL,defBody cL,defScope cL,[],[]⟩

abbrev b7:Stmt:=top 44
def N_law_faulty:List Str:=[("_law_code_here" : Str),("_law_faulty_here" : Str),("_law_turn" : Str),("_law_function" : Str),("_law_graph_here" : Str),("_law_reached" : Str),("_law_ends" : Str),("_law_spot" : Str),("_law_goal" : Str)]
theorem rG:FnScope N_law_faulty [("_law_code_here" : Str)] (defScope b7):=⟨rfl,rfl,rfl,by decide +kernel,rfl,by decide +kernel,by decide +kernel⟩
def lu (w:World) (bh:HSp):HTS:=(aj (aK 1 (cM ae))
 (aj (cC (hJ (aa (hcb dJ (aa (hun (ba aO) (hV 0)) ae)) ae)) (.nm 2) (cC (eT (hun (ba aO) (hV 0))) (.nm 3) (aj (f9 (.tp [(.nm 4),(.nm 5)]) (an 2 [] bh (aa (hun (ba bV) (hV 3)) (aa (hV 1) ae))))
 (aj (aK 6 (bD ae))
 (aj (cC (eT (hV 5)) (.nm 7) (aK 6 (hop cr (hV 6) (hLc (eT (hop gIx (hop (iP w) (hV 4) (hV 7)) (hC (.int 1)))) (.nm 8) (hB (hop gEq (hV 8) (hC (.str ("fault" : Str))))) (hV 8) [8]))))
 (bj (dU (hB (hop f8 (hun (ba cy) (hV 3)) (hV 1))) (hB (hop gNe (hV 6) (bD ae)))) (aL (hMt eU cz (hV 1) (aa (hun (ba cy) (hV 3)) ae))) hNx))))))
 (aA (hV 1))))
theorem rH {B:Bs} {k:Nat} {bh:HSp} (c:Fc B.K B.mg) (h_law_graph:HFn B (k + 1) "_law_graph" 2 [] bh):HSs ⟨B.P,B.w,B.K,B.mg,B.base,k + 1,N_law_faulty,defScope b7,true,fun _=>true⟩ (defBody b7) (lu B.w bh) :=
 (hss (aP (iJ ag))
 (hss (ip (xB rfl c.f_range (ad (hlen rfl c.f_len (ad (dL c.a_functions (hv 0)) ag)) ag)) (hnm 2) (aI (ip (gQ (dL c.a_functions (hv 0))) (hnm 3) (hss (u5 (bn (h_law_graph.in_) zNr rfl (ad (dL c.a_body (hv 3)) (ad (hv 1) ag))) (htp (hps (hnm 4) (hps (hnm 5) nf))))
 (hss (aP (f6 ag))
 (hss (ip (gQ (hv 5)) (hnm 7) (aI (aP (fL (hv 6) (oQ [("_law_goal",8)] (gQ (hix (BY (hv 4) (hv 7)) ay)) (by dsimp only [Bs.blk]; decide +kernel) (by decide) (hnm 8) (Aj (f7 (hv 8) az)) (hv 8))))))
 (aI (hif (hw (mr (hZ (dL c.a_name (hv 3)) (hv 1)) (i7 (Bf (hv 6) (f6 ag))))) (aI (eO (fj (hv 1) (ad (dL c.a_name (hv 3)) ag)))) c8))))))))
 (aI (bW (hv 1)))))
theorem rJ {B:Bs} {k:Nat} {f:Addr} {fd:FuncData} {bh sp:HSp} (c:Fc B.K B.mg) (F:FunD B.K "_law_faulty" "_law_faulty" (defArgs b7) (defBody b7) (defScope b7) [] [] f fd) (h_law_graph:HFn B (k + 1) "_law_graph" 2 [] bh)
 (hr:∀ ds S Q E,ds.length=1→sp ds S Q E→lu B.w bh { nx:=fun _ S'=>Rt Q .non S',rt:=Rt Q,ex:=fun x _ S'=>Rx E x S' } (ao N_law_faulty.length ds) S):FnAt B (k + 2) f 1 [] sp :=
 cO F (bc (F.bindsN fun _ _ _ _ _ _ us hl=>match us,hl with | [_],_=>rfl)) cP rG (rH c h_law_graph) hr
def d_law_faulty:He.DefD:=⟨("_law_faulty",none), "_law_faulty", "_law_faulty",defArgs b7,defBody b7,defScope b7,[],[]⟩

abbrev bS:Stmt:=top 45
def N_law_spots:List Str:=[("_law_body" : Str),("_law_path" : Str),("_law_found" : Str),("_law_at" : Str),("_law_part_here" : Str),("_law_parts" : Str),("_law_k" : Str)]
theorem ub:FnScope N_law_spots [("_law_body" : Str),("_law_path" : Str)] (defScope bS):=⟨rfl,rfl,rfl,by decide +kernel,rfl,by decide +kernel,by decide +kernel⟩
def gx (bB:HSp):HTS:=(aj (aK 2 (cM ae))
 (aj (cC (hJ (aa (hcb dJ (aa (hV 0) ae)) ae)) (.nm 3) (aj (aL (hMt eU cz (hV 2) (aa (hop cr (hV 1) (aE (aa (hV 3) ae))) ae)))
 (aj (aK 5 (hLc (eT (hSl (hop gIx (hV 0) (hV 3)) (iL (hC (.int 1))) mw)) (.nm 4) (fK (hTr (hun (gR j9) (hV 4)))) (hV 4) [4]))
 (cC (hJ (aa (hcb dJ (aa (hV 5) ae)) ae)) (.nm 6) (aK 2 (hop ou (hV 2) (an 2 [] bB (aa (hop gIx (hV 5) (hV 6)) (aa (hop cr (hV 1) (aE (aa (hV 3) (aa (hV 6) ae)))) ae)))))))))
 (aA (hop cr (hV 2) (bD (aa (hop cr (hV 1) (aE (aa (hcb dJ (aa (hV 0) ae)) ae))) ae))))))
theorem ud {B:Bs} {k:Nat} {bB:HSp} (c:Fc B.K B.mg) (h_law_spots:HFn B (k + 1) "_law_spots" 2 [] bB):HSs ⟨B.P,B.w,B.K,B.mg,B.base,k + 1,N_law_spots,defScope bS,true,fun _=>true⟩ (defBody bS) (gx bB) :=
 (hss (aP (iJ ag))
 (hss (ip (xB rfl c.f_range (ad (hlen rfl c.f_len (ad (hv 0) ag)) ag)) (hnm 3) (hss (eO (fj (hv 2) (ad (fL (hv 1) (bM (ad (hv 3) ag))) ag)))
 (hss (yY [("_law_part_here",4)] (gQ (hsl (hix (hv 0) (hv 3)) (Bi ay) ET)) (by dsimp only [Bs.blk]; decide +kernel) (by decide) (hnm 4) (Aj (oP (htr (tf s7 rfl c.f_isinstance rfl c.f_str PySem.Pv.boot_str (hv 4))))) (hv 4))
 (aI (ip (xB rfl c.f_range (ad (hlen rfl c.f_len (ad (hv 5) ag)) ag)) (hnm 6) (aI (aP (En (hv 2) (bn (h_law_spots.in_) zNr rfl (ad (hix (hv 5) (hv 6)) (ad (fL (hv 1) (bM (ad (hv 3) (ad (hv 6) ag)))) ag)))))))))))
 (aI (bW (fL (hv 2) (f6 (ad (fL (hv 1) (bM (ad (hlen rfl c.f_len (ad (hv 0) ag)) ag))) ag)))))))
theorem ue {B:Bs} {k:Nat} {f:Addr} {fd:FuncData} {bB sp:HSp} (c:Fc B.K B.mg) (F:FunD B.K "_law_spots" "_law_spots" (defArgs bS) (defBody bS) (defScope bS) [] [] f fd) (h_law_spots:HFn B (k + 1) "_law_spots" 2 [] bB)
 (hr:∀ ds S Q E,ds.length=2→sp ds S Q E→gx bB { nx:=fun _ S'=>Rt Q .non S',rt:=Rt Q,ex:=fun x _ S'=>Rx E x S' } (ao N_law_spots.length ds) S):FnAt B (k + 2) f 2 [] sp :=
 cO F (bc (F.bindsN fun _ _ _ _ _ _ us hl=>match us,hl with | [_,_],_=>rfl)) cP ub (ud c h_law_spots) hr
theorem uf {B:Bs} {k:Nat} {f:Addr} {fd:FuncData} {sp:HSp} (F:FunD B.K "_law_spots" "_law_spots" (defArgs bS) (defBody bS) (defScope bS) [] [] f fd) (h0:∀ ds S Q E,sp ds S Q E→False):FnAt B k f 2 [] sp :=
 ka rfl (F.bindsN (ps:=[("_law_body" : Str),("_law_path" : Str)]) fun _ _ _ _ _ _ us hl=>match us,hl with | [_,_],_=>rfl) h0
def d_law_spots:He.DefD:=⟨("_law_spots",none), "_law_spots", "_law_spots",defArgs bS,defBody bS,defScope bS,[],[]⟩

abbrev iw:Stmt:=top 46
def N_law:List Str:=[("_law_script" : Str),("_law_pen" : Str),("_law_code_here" : Str),("_law_function" : Str),("_law_due" : Str),("_law_known" : Str),("_law_graph_here" : Str),("_law_reached" : Str),("_law_spot" : Str),("_law_named" : Str)]
theorem Fy:FnScope N_law [("_law_script" : Str)] (defScope iw):=⟨rfl,rfl,rfl,by decide +kernel,rfl,by decide +kernel,by decide +kernel⟩
def qq (eD e7 bB bL bh e8 dP:HSp):HTS:=(aj (aK 1 (an 1 [] eD (aa (hV 0) ae)))
 (aj (aK 2 (an 2 [] e7 (aa (hV 1) (aa (hC (.int 12)) ae))))
 (aj (cC (eT (hun (ba aO) (hV 2))) (.nm 3) (aj (aK 4 (an 2 [] bB (aa (hun (ba bV) (hV 3)) (aa (aE ae) ae))))
 (aj (aK 5 (an 1 [] bL (aa (hun (ba bV) (hV 3)) ae)))
 (aj (bj (hOr (hB (hop gNe (hV 5) (hV 4))) (hOr (hB (hop gNe (hV 4) (hun ke (hV 4)))) (fK (hTr (hun (gR yX) (hV 5)))))) (aA (hC (.bl false))) hNx)
 (aj (aL (hMt eU cz (hV 5) (aa (hC .non) ae)))
 (aj (bj (hB (hop gNe (an 1 [] bL (aa (hcb fu (aa (hun (ba bV) (hV 3)) ae)) ae)) (hV 4))) (aA (hC (.bl false))) hNx)
 (aj (f9 (.tp [(.nm 6),(.nm 7)]) (an 2 [] bh (aa (hun (ba bV) (hV 3)) (aa (cM ae) ae))))
 (bj (hB (hop gNe (hLc (eT (hV 7)) (.nm 8) (hB (hop f8 (hop gIx (mH (hV 8)) (hC (.int 0))) (hV 4))) (hV 8) [8]) (bD ae))) (aA (hC (.bl false))) hNx))))))))
 (aj (aK 9 (an 1 [] e8 (aa (hV 2) ae)))
 (aA (gc (hop gEq (hcb ie (aa (hV 9) ae)) (hcb ie (aa (an 1 [] dP (aa (hV 2) ae)) ae))) (hop gEq (hun pF (hV 9)) (hcb dJ (aa (hV 9) ae)))))))))
theorem Fz {B:Bs} {k:Nat} {eD e7 bB bL bh e8 dP:HSp} (c:Fc B.K B.mg) (h_law_start:HFn B (k + 1) "_law_start" 1 [] eD) (h_law_code:HFn B (k + 1) "_law_code" 2 [] e7) (h_law_spots:HFn B (k + 1) "_law_spots" 2 [] bB) (h_spots_of:HFn B (k + 1) "spots_of" 1 [] bL) (h_law_graph:HFn B (k + 1) "_law_graph" 2 [] bh) (h_faulting:HFn B (k + 1) "faulting" 1 [] e8) (h_law_faulty:HFn B (k + 1) "_law_faulty" 1 [] dP):HSs ⟨B.P,B.w,B.K,B.mg,B.base,k + 1,N_law,defScope iw,true,fun _=>true⟩ (defBody iw) (qq eD e7 bB bL bh e8 dP) :=
 (hss (aP (bn (h_law_start.in_) zNr rfl (ad (hv 0) ag)))
 (hss (aP (bn (h_law_code.in_) zNr rfl (ad (hv 1) (ad ay ag))))
 (hss (ip (gQ (dL c.a_functions (hv 2))) (hnm 3) (hss (aP (bn (h_law_spots.in_) zNr rfl (ad (dL c.a_body (hv 3)) (ad (bM ag) ag))))
 (hss (aP (bn (h_spots_of.in_) zNr rfl (ad (dL c.a_body (hv 3)) ag)))
 (hss (hif (hw (hor (Bf (hv 5) (hv 4)) (hor (Bf (hv 4) (B4 rfl c.f_sorted rfl c.f_set (hv 4))) (Aa (oP (htr (tf Bw rfl c.f_isinstance rfl c.f_list boot_list (hv 5)))))))) (aI (bW hbl)) c8)
 (hss (eO (fj (hv 5) (ad sX ag)))
 (hss (hif (Bf (bn (h_spots_of.in_) zNr rfl (ad (oj rfl c.f_list (ad (dL c.a_body (hv 3)) ag)) ag)) (hv 4)) (aI (bW hbl)) c8)
 (hss (u5 (bn (h_law_graph.in_) zNr rfl (ad (dL c.a_body (hv 3)) (ad (iJ ag) ag))) (htp (hps (hnm 6) (hps (hnm 7) nf))))
 (aI (hif (Bf (oQ [("_law_spot",8)] (gQ (hv 7)) (by dsimp only [Bs.blk]; decide +kernel) (by decide) (hnm 8) (Aj (hZ (hix (Dc (hv 8)) ay) (hv 4))) (hv 8)) (f6 ag)) (aI (bW hbl)) c8)))))))))
 (hss (aP (bn (h_faulting.in_) zNr rfl (ad (hv 2) ag)))
 (aI (bW (vb (heq (zx rfl c.f_sorted (ad (hv 9) ag)) (zx rfl c.f_sorted (ad (bn (h_law_faulty.in_) zNr rfl (ad (hv 2) ag)) ag))) (iF (heq (Du rfl c.f_len rfl c.f_set (hv 9)) (hlen rfl c.f_len (ad (hv 9) ag)))))))))))
theorem FA {B:Bs} {k:Nat} {f:Addr} {fd:FuncData} {eD e7 bB bL bh e8 dP:HSp} (c:Fc B.K B.mg) (F:FunD B.K "law" "law" (defArgs iw) (defBody iw) (defScope iw) [] [] f fd) (h_law_start:HFn B (k + 1) "_law_start" 1 [] eD) (h_law_code:HFn B (k + 1) "_law_code" 2 [] e7) (h_law_spots:HFn B (k + 1) "_law_spots" 2 [] bB) (h_spots_of:HFn B (k + 1) "spots_of" 1 [] bL) (h_law_graph:HFn B (k + 1) "_law_graph" 2 [] bh) (h_faulting:HFn B (k + 1) "faulting" 1 [] e8) (h_law_faulty:HFn B (k + 1) "_law_faulty" 1 [] dP)
 (hr:∀ ds S Q E,ds.length=1→r8 ds S Q E→qq eD e7 bB bL bh e8 dP { nx:=fun _ S'=>Rt Q .non S',rt:=Rt Q,ex:=fun x _ S'=>Rx E x S' } (ao N_law.length ds) S):FnOk B.P B.w B.K B.mg B.base (CX B.P B.w) (k + 2) f fd [("_law_script" : Str)] (lSp B.K 1 r8) :=
 Gz F Fy (Fz c h_law_start h_law_code h_law_spots h_spots_of h_law_graph h_faulting h_law_faulty) hr
def d_law:He.DefD:=⟨("law",none), "law", "law",defArgs iw,defBody iw,defScope iw,[],[]⟩

def book:Book:=⟨[.free "all",.free "dict",.free "enumerate",.free "int",.free "isinstance",.free "len",.free "list",.free "min",.free "range",.free "set",.free "sorted",.free "str",.free "sum",.free "tuple",.glo "ALONE",.int "BLOCKS" 3,.glo "CELL_DEEDS",.glo "EXITS",.str "LETTERS" "abcdefghijklmnopqrstuvwxyz",.glo "ROW_DEEDS",.int "STATEMENTS" 14,.glo "TWO_PARTS",.glo "BadCode",.glo "Checker",.glo "Code",.glo "Function",.glo "Spot",.glo "TooGreat",.glo "TryError",.glo "Ways",.cls "Spot",.cls "Ways",.cls "Function",.cls "Code",.cls "Checker",.noat "Function" "body",.noat "Code" "cells",.noat "Checker" "code",.noat "Ways" "faulting",.noat "Ways" "first",.noat "Checker" "function",.noat "Code" "functions",.noat "Function" "many",.noat "Spot" "mood",.noat "Function" "name",.noat "Spot" "nexts",.noat "Checker" "number",.noat "Spot" "path",.noat "Code" "rows",.noat "Ways" "spots",.noat "Code" "start",.noat "Spot" "statement",.meth "BadCode" "__init__",.meth "TooGreat" "__init__",.meth "Ways" "lay",.meth "Ways" "after",.meth "Ways" "after_lastly",.meth "Ways" "passed",.meth "Ways" "nexts_of",.meth "Ways" "ends_of",.meth "Checker" "part",.meth "Checker" "fits",.meth "Checker" "choices",.mkr "Spot",.mkr "Ways",.mkr "Function",.mkr "Code",.mkr "Checker",.glo "parts_of_layouts",.glo "faulting",.glo "ends_by_fault",.glo "in_block",.glo "spots_of",.glo "word_of",.glo "parts_of_codes",.glo "tidy",.glo "count",.glo "is_name",.glo "_law_start",.glo "_law_draw",.glo "_law_deed",.glo "_law_simple",.glo "_law_block",.glo "_law_part",.glo "_law_code",.glo "_law_lay",.glo "_law_after",.glo "_law_graph",.glo "_law_faulty",.glo "_law_spots",.glo "law"],[d_parts_of_layouts,d_Spot_init,d_Ways_init,d_Ways_lay,d_Ways_after,d_Ways_after_lastly,d_Ways_passed,d_Ways_nexts_of,d_Ways_ends_of,d_faulting,d_ends_by_fault,d_in_block,d_spots_of,d_word_of,d_parts_of_codes,d_tidy,d_count,d_is_name,d_Function_init,d_Code_init,d_Checker_init,d_Checker_part,d_Checker_fits,d_Checker_choices,d_law_start,d_law_draw,d_law_deed,d_law_simple,d_law_block,d_law_part,d_law_code,d_law_lay,d_law_after,d_law_graph,d_law_faulty,d_law_spots,d_law,d_BadCode_init,d_TooGreat_init],[nk "ALONE" [("fault" : Str),("may" : Str),("again" : Str),("out" : Str)],nk "CELL_DEEDS" [("put" : Str),("blank" : Str),("give" : Str)],nk "EXITS" [("found" : Str),("none" : Str),("fault" : Str)],nk "ROW_DEEDS" [("push" : Str),("pop" : Str),("cut" : Str)],nk "TWO_PARTS" [("either" : Str),("told" : Str),("guard" : Str),("lastly" : Str)],yZ 35,yZ 36,xF 34],[]⟩
theorem aT {K:PySem.W.Frag} {h:Heap} {mg:Str→Option Value} (X:K.In h) (G:h.Ns mainGlobals mg) (s:book.seen K=book.due):Fc K mg where
 f_all:=He.free_ok X G (Book.fact s 0)
 f_dict:=He.free_ok X G (Book.fact s 1)
 f_enumerate:=He.free_ok X G (Book.fact s 2)
 f_int:=He.free_ok X G (Book.fact s 3)
 f_isinstance:=He.free_ok X G (Book.fact s 4)
 f_len:=He.free_ok X G (Book.fact s 5)
 f_list:=He.free_ok X G (Book.fact s 6)
 f_min:=He.free_ok X G (Book.fact s 7)
 f_range:=He.free_ok X G (Book.fact s 8)
 f_set:=He.free_ok X G (Book.fact s 9)
 f_sorted:=He.free_ok X G (Book.fact s 10)
 f_str:=He.free_ok X G (Book.fact s 11)
 f_sum:=He.free_ok X G (Book.fact s 12)
 f_tuple:=He.free_ok X G (Book.fact s 13)
 g_ALONE:=He.glo_ok X G (Book.fact s 14)
 t_ALONE:=jb (x := "ALONE") (ss:=[("fault" : Str),("may" : Str),("again" : Str),("out" : Str)]) (by decide) (Book.more s 0)
 g_BLOCKS:=He.int_ok X G (Book.fact s 15)
 g_CELL_DEEDS:=He.glo_ok X G (Book.fact s 16)
 t_CELL_DEEDS:=jb (x := "CELL_DEEDS") (ss:=[("put" : Str),("blank" : Str),("give" : Str)]) (by decide) (Book.more s 1)
 g_EXITS:=He.glo_ok X G (Book.fact s 17)
 t_EXITS:=jb (x := "EXITS") (ss:=[("found" : Str),("none" : Str),("fault" : Str)]) (by decide) (Book.more s 2)
 g_LETTERS:=He.str_ok X G (Book.fact s 18)
 g_ROW_DEEDS:=He.glo_ok X G (Book.fact s 19)
 t_ROW_DEEDS:=jb (x := "ROW_DEEDS") (ss:=[("push" : Str),("pop" : Str),("cut" : Str)]) (by decide) (Book.more s 3)
 g_STATEMENTS:=He.int_ok X G (Book.fact s 20)
 g_TWO_PARTS:=He.glo_ok X G (Book.fact s 21)
 t_TWO_PARTS:=jb (x := "TWO_PARTS") (ss:=[("either" : Str),("told" : Str),("guard" : Str),("lastly" : Str)]) (by decide) (Book.more s 4)
 n_BadCode:=He.glo_ok X G (Book.fact s 22)
 n_Checker:=He.glo_ok X G (Book.fact s 23)
 n_Code:=He.glo_ok X G (Book.fact s 24)
 n_Function:=He.glo_ok X G (Book.fact s 25)
 n_Spot:=He.glo_ok X G (Book.fact s 26)
 n_TooGreat:=He.glo_ok X G (Book.fact s 27)
 n_TryError:=He.glo_ok X G (Book.fact s 28)
 n_Ways:=He.glo_ok X G (Book.fact s 29)
 k_Spot:=He.cls_ok (Book.fact s 30)
 k_Ways:=He.cls_ok (Book.fact s 31)
 k_Function:=He.cls_ok (Book.fact s 32)
 k_Code:=He.cls_ok (Book.fact s 33)
 k_Checker:=He.cls_ok (Book.fact s 34)
 a_body:=⟨fun c i h=>by
  unfold bV at h
  split at h
  ·cases h; exact ⟨He.cls_ok (Book.fact s 32),He.noat_ok (Book.fact s 35),rfl,by decide +kernel,by decide +kernel⟩
  ·cases h⟩
 a_cells:=⟨fun c i h=>by
  unfold i5 at h
  split at h
  ·cases h; exact ⟨He.cls_ok (Book.fact s 33),He.noat_ok (Book.fact s 36),rfl,by decide +kernel,by decide +kernel⟩
  ·cases h⟩
 a_code:=⟨fun c i h=>by
  unfold jt at h
  split at h
  ·cases h; exact ⟨He.cls_ok (Book.fact s 34),He.noat_ok (Book.fact s 37),rfl,by decide +kernel,by decide +kernel⟩
  ·cases h⟩
 a_faulting:=⟨fun c i h=>by
  unfold fQ at h
  split at h
  ·cases h; exact ⟨He.cls_ok (Book.fact s 31),He.noat_ok (Book.fact s 38),rfl,by decide +kernel,by decide +kernel⟩
  ·cases h⟩
 a_first:=⟨fun c i h=>by
  unfold i6 at h
  split at h
  ·cases h; exact ⟨He.cls_ok (Book.fact s 31),He.noat_ok (Book.fact s 39),rfl,by decide +kernel,by decide +kernel⟩
  ·cases h⟩
 a_function:=⟨fun c i h=>by
  unfold gP at h
  split at h
  ·cases h; exact ⟨He.cls_ok (Book.fact s 34),He.noat_ok (Book.fact s 40),rfl,by decide +kernel,by decide +kernel⟩
  ·cases h⟩
 a_functions:=⟨fun c i h=>by
  unfold aO at h
  split at h
  ·cases h; exact ⟨He.cls_ok (Book.fact s 33),He.noat_ok (Book.fact s 41),rfl,by decide +kernel,by decide +kernel⟩
  ·cases h⟩
 a_many:=⟨fun c i h=>by
  unfold sV at h
  split at h
  ·cases h; exact ⟨He.cls_ok (Book.fact s 32),He.noat_ok (Book.fact s 42),rfl,by decide +kernel,by decide +kernel⟩
  ·cases h⟩
 a_mood:=⟨fun c i h=>by
  unfold po at h
  split at h
  ·cases h; exact ⟨He.cls_ok (Book.fact s 30),He.noat_ok (Book.fact s 43),rfl,by decide +kernel,by decide +kernel⟩
  ·cases h⟩
 a_name:=⟨fun c i h=>by
  unfold cy at h
  split at h
  ·cases h; exact ⟨He.cls_ok (Book.fact s 32),He.noat_ok (Book.fact s 44),rfl,by decide +kernel,by decide +kernel⟩
  ·cases h⟩
 a_nexts:=⟨fun c i h=>by
  unfold fZ at h
  split at h
  ·cases h; exact ⟨He.cls_ok (Book.fact s 30),He.noat_ok (Book.fact s 45),rfl,by decide +kernel,by decide +kernel⟩
  ·cases h⟩
 a_number:=⟨fun c i h=>by
  unfold gF at h
  split at h
  ·cases h; exact ⟨He.cls_ok (Book.fact s 34),He.noat_ok (Book.fact s 46),rfl,by decide +kernel,by decide +kernel⟩
  ·cases h⟩
 a_path:=⟨fun c i h=>by
  unfold pq at h
  split at h
  ·cases h; exact ⟨He.cls_ok (Book.fact s 30),He.noat_ok (Book.fact s 47),rfl,by decide +kernel,by decide +kernel⟩
  ·cases h⟩
 a_rows:=⟨fun c i h=>by
  unfold mq at h
  split at h
  ·cases h; exact ⟨He.cls_ok (Book.fact s 33),He.noat_ok (Book.fact s 48),rfl,by decide +kernel,by decide +kernel⟩
  ·cases h⟩
 a_spots:=⟨fun c i h=>by
  unfold dt at h
  split at h
  ·cases h; exact ⟨He.cls_ok (Book.fact s 31),He.noat_ok (Book.fact s 49),rfl,by decide +kernel,by decide +kernel⟩
  ·cases h⟩
 a_start:=⟨fun c i h=>by
  unfold pS at h
  split at h
  ·cases h; exact ⟨He.cls_ok (Book.fact s 33),He.noat_ok (Book.fact s 50),rfl,by decide +kernel,by decide +kernel⟩
  ·cases h⟩
 a_statement:=⟨fun c i h=>by
  unfold ju at h
  split at h
  ·cases h; exact ⟨He.cls_ok (Book.fact s 30),He.noat_ok (Book.fact s 51),rfl,by decide +kernel,by decide +kernel⟩
  ·cases h⟩
 x_BadCode:=ve (Book.more s 5) (by decide) (by decide)
 x_TooGreat:=ve (Book.more s 6) (by decide) (by decide)
 b_TryError:=Ao (Book.more s 7)
theorem lh {K:PySem.W.Frag} (s:book.seen K=book.due):∃ fd,FunD K "parts_of" "parts_of" (defArgs aS) (defBody aS) (defScope aS) (d_parts_of_layouts.dvs K) [] (He.fAd K ("parts_of_layouts",none)) fd:=Book.def_ s 0 (d:=d_parts_of_layouts) rfl
theorem ug {K:PySem.W.Frag} (s:book.seen K=book.due):∃ fd,FunD K "__init__" "Spot.__init__" (defArgs cF) (defBody cF) (defScope cF) (d_Spot_init.dvs K) [] (He.fAd K ("Spot",some "__init__")) fd:=Book.def_ s 1 (d:=d_Spot_init) rfl
theorem uh {K:PySem.W.Frag} (s:book.seen K=book.due):∃ fd,FunD K "__init__" "Ways.__init__" (defArgs cG) (defBody cG) (defScope cG) (d_Ways_init.dvs K) [] (He.fAd K ("Ways",some "__init__")) fd:=Book.def_ s 2 (d:=d_Ways_init) rfl
theorem oF {K:PySem.W.Frag} (s:book.seen K=book.due):∃ fd,FunD K "lay" "Ways.lay" (defArgs cf) (defBody cf) (defScope cf) (d_Ways_lay.dvs K) [] (He.fAd K ("Ways",some "lay")) fd:=Book.def_ s 3 (d:=d_Ways_lay) rfl
theorem lx {K:PySem.W.Frag} (s:book.seen K=book.due):∃ fd,FunD K "after" "Ways.after" (defArgs bA) (defBody bA) (defScope bA) (d_Ways_after.dvs K) [] (He.fAd K ("Ways",some "after")) fd:=Book.def_ s 4 (d:=d_Ways_after) rfl
theorem kl {K:PySem.W.Frag} (s:book.seen K=book.due):∃ fd,FunD K "after_lastly" "Ways.after_lastly" (defArgs aN) (defBody aN) (defScope aN) (d_Ways_after_lastly.dvs K) [] (He.fAd K ("Ways",some "after_lastly")) fd:=Book.def_ s 5 (d:=d_Ways_after_lastly) rfl
theorem qr {K:PySem.W.Frag} (s:book.seen K=book.due):∃ fd,FunD K "passed" "Ways.passed" (defArgs bU) (defBody bU) (defScope bU) (d_Ways_passed.dvs K) [] (He.fAd K ("Ways",some "passed")) fd:=Book.def_ s 6 (d:=d_Ways_passed) rfl
theorem nL {K:PySem.W.Frag} (s:book.seen K=book.due):∃ fd,FunD K "nexts_of" "Ways.nexts_of" (defArgs bq) (defBody bq) (defScope bq) (d_Ways_nexts_of.dvs K) [] (He.fAd K ("Ways",some "nexts_of")) fd:=Book.def_ s 7 (d:=d_Ways_nexts_of) rfl
theorem pc {K:PySem.W.Frag} (s:book.seen K=book.due):∃ fd,FunD K "ends_of" "Ways.ends_of" (defArgs bH) (defBody bH) (defScope bH) (d_Ways_ends_of.dvs K) [] (He.fAd K ("Ways",some "ends_of")) fd:=Book.def_ s 8 (d:=d_Ways_ends_of) rfl
theorem vZ {K:PySem.W.Frag} (s:book.seen K=book.due):∃ fd,FunD K "faulting" "faulting" (defArgs df) (defBody df) (defScope df) (d_faulting.dvs K) [] (He.fAd K ("faulting",none)) fd:=Book.def_ s 9 (d:=d_faulting) rfl
theorem nM {K:PySem.W.Frag} (s:book.seen K=book.due):∃ fd,FunD K "ends_by_fault" "ends_by_fault" (defArgs br) (defBody br) (defScope br) (d_ends_by_fault.dvs K) [] (He.fAd K ("ends_by_fault",none)) fd:=Book.def_ s 10 (d:=d_ends_by_fault) rfl
theorem v5 {K:PySem.W.Frag} (s:book.seen K=book.due):∃ fd,FunD K "in_block" "in_block" (defArgs dh) (defBody dh) (defScope dh) (d_in_block.dvs K) [] (He.fAd K ("in_block",none)) fd:=Book.def_ s 11 (d:=d_in_block) rfl
theorem oG {K:PySem.W.Frag} (s:book.seen K=book.due):∃ fd,FunD K "spots_of" "spots_of" (defArgs cg) (defBody cg) (defScope cg) (d_spots_of.dvs K) [] (He.fAd K ("spots_of",none)) fd:=Book.def_ s 12 (d:=d_spots_of) rfl
theorem xZ {K:PySem.W.Frag} (s:book.seen K=book.due):∃ fd,FunD K "word_of" "word_of" (defArgs dG) (defBody dG) (defScope dG) (d_word_of.dvs K) [] (He.fAd K ("word_of",none)) fd:=Book.def_ s 13 (d:=d_word_of) rfl
theorem mQ {K:PySem.W.Frag} (s:book.seen K=book.due):∃ fd,FunD K "parts_of" "parts_of" (defArgs bf) (defBody bf) (defScope bf) (d_parts_of_codes.dvs K) [] (He.fAd K ("parts_of_codes",none)) fd:=Book.def_ s 14 (d:=d_parts_of_codes) rfl
theorem zy {K:PySem.W.Frag} (s:book.seen K=book.due):∃ fd,FunD K "tidy" "tidy" (defArgs fN) (defBody fN) (defScope fN) (d_tidy.dvs K) [] (He.fAd K ("tidy",none)) fd:=Book.def_ s 15 (d:=d_tidy) rfl
theorem v6 {K:PySem.W.Frag} (s:book.seen K=book.due):∃ fd,FunD K "count" "count" (defArgs eu) (defBody eu) (defScope eu) (d_count.dvs K) [] (He.fAd K ("count",none)) fd:=Book.def_ s 16 (d:=d_count) rfl
theorem ya {K:PySem.W.Frag} (s:book.seen K=book.due):∃ fd,FunD K "is_name" "is_name" (defArgs dH) (defBody dH) (defScope dH) (d_is_name.dvs K) [] (He.fAd K ("is_name",none)) fd:=Book.def_ s 17 (d:=d_is_name) rfl
theorem nN {K:PySem.W.Frag} (s:book.seen K=book.due):∃ fd,FunD K "__init__" "Function.__init__" (defArgs bt) (defBody bt) (defScope bt) (d_Function_init.dvs K) [] (He.fAd K ("Function",some "__init__")) fd:=Book.def_ s 18 (d:=d_Function_init) rfl
theorem ui {K:PySem.W.Frag} (s:book.seen K=book.due):∃ fd,FunD K "__init__" "Code.__init__" (defArgs cI) (defBody cI) (defScope cI) (d_Code_init.dvs K) [] (He.fAd K ("Code",some "__init__")) fd:=Book.def_ s 19 (d:=d_Code_init) rfl
theorem pe {K:PySem.W.Frag} (s:book.seen K=book.due):∃ fd,FunD K "__init__" "Checker.__init__" (defArgs bI) (defBody bI) (defScope bI) (d_Checker_init.dvs K) [] (He.fAd K ("Checker",some "__init__")) fd:=Book.def_ s 20 (d:=d_Checker_init) rfl
theorem jZ {K:PySem.W.Frag} (s:book.seen K=book.due):∃ fd,FunD K "part" "Checker.part" (defArgs a9) (defBody a9) (defScope a9) (d_Checker_part.dvs K) [] (He.fAd K ("Checker",some "part")) fd:=Book.def_ s 21 (d:=d_Checker_part) rfl
theorem pf {K:PySem.W.Frag} (s:book.seen K=book.due):∃ fd,FunD K "fits" "Checker.fits" (defArgs bJ) (defBody bJ) (defScope bJ) (d_Checker_fits.dvs K) [] (He.fAd K ("Checker",some "fits")) fd:=Book.def_ s 22 (d:=d_Checker_fits) rfl
theorem lP {K:PySem.W.Frag} (s:book.seen K=book.due):∃ fd,FunD K "choices" "Checker.choices" (defArgs aX) (defBody aX) (defScope aX) (d_Checker_choices.dvs K) [] (He.fAd K ("Checker",some "choices")) fd:=Book.def_ s 23 (d:=d_Checker_choices) rfl
theorem uj {K:PySem.W.Frag} (s:book.seen K=book.due):∃ fd,FunD K "_law_start" "_law_start" (defArgs cJ) (defBody cJ) (defScope cJ) (d_law_start.dvs K) [] (He.fAd K ("_law_start",none)) fd:=Book.def_ s 24 (d:=d_law_start) rfl
theorem v7 {K:PySem.W.Frag} (s:book.seen K=book.due):∃ fd,FunD K "_law_draw" "_law_draw" (defArgs dm) (defBody dm) (defScope dm) (d_law_draw.dvs K) [] (He.fAd K ("_law_draw",none)) fd:=Book.def_ s 25 (d:=d_law_draw) rfl
theorem v8 {K:PySem.W.Frag} (s:book.seen K=book.due):∃ fd,FunD K "_law_deed" "_law_deed" (defArgs dp) (defBody dp) (defScope dp) (d_law_deed.dvs K) [] (He.fAd K ("_law_deed",none)) fd:=Book.def_ s 26 (d:=d_law_deed) rfl
theorem rK {K:PySem.W.Frag} (s:book.seen K=book.due):∃ fd,FunD K "_law_simple" "_law_simple" (defArgs b6) (defBody b6) (defScope b6) (d_law_simple.dvs K) [] (He.fAd K ("_law_simple",none)) fd:=Book.def_ s 27 (d:=d_law_simple) rfl
theorem jD {K:PySem.W.Frag} (s:book.seen K=book.due):∃ fd,FunD K "_law_block" "_law_block" (defArgs bR) (defBody bR) (defScope bR) (d_law_block.dvs K) [] (He.fAd K ("_law_block",none)) fd:=Book.def_ s 28 (d:=d_law_block) rfl
theorem km {K:PySem.W.Frag} (s:book.seen K=book.due):∃ fd,FunD K "_law_part" "_law_part" (defArgs cm) (defBody cm) (defScope cm) (d_law_part.dvs K) [] (He.fAd K ("_law_part",none)) fd:=Book.def_ s 29 (d:=d_law_part) rfl
theorem v9 {K:PySem.W.Frag} (s:book.seen K=book.due):∃ fd,FunD K "_law_code" "_law_code" (defArgs dq) (defBody dq) (defScope dq) (d_law_code.dvs K) [] (He.fAd K ("_law_code",none)) fd:=Book.def_ s 30 (d:=d_law_code) rfl
theorem qt {K:PySem.W.Frag} (s:book.seen K=book.due):∃ fd,FunD K "_law_lay" "_law_lay" (defArgs cU) (defBody cU) (defScope cU) (d_law_lay.dvs K) [] (He.fAd K ("_law_lay",none)) fd:=Book.def_ s 31 (d:=d_law_lay) rfl
theorem uk {K:PySem.W.Frag} (s:book.seen K=book.due):∃ fd,FunD K "_law_after" "_law_after" (defArgs cK) (defBody cK) (defScope cK) (d_law_after.dvs K) [] (He.fAd K ("_law_after",none)) fd:=Book.def_ s 32 (d:=d_law_after) rfl
theorem ul {K:PySem.W.Frag} (s:book.seen K=book.due):∃ fd,FunD K "_law_graph" "_law_graph" (defArgs cL) (defBody cL) (defScope cL) (d_law_graph.dvs K) [] (He.fAd K ("_law_graph",none)) fd:=Book.def_ s 33 (d:=d_law_graph) rfl
theorem rL {K:PySem.W.Frag} (s:book.seen K=book.due):∃ fd,FunD K "_law_faulty" "_law_faulty" (defArgs b7) (defBody b7) (defScope b7) (d_law_faulty.dvs K) [] (He.fAd K ("_law_faulty",none)) fd:=Book.def_ s 34 (d:=d_law_faulty) rfl
theorem mR {K:PySem.W.Frag} (s:book.seen K=book.due):∃ fd,FunD K "_law_spots" "_law_spots" (defArgs bS) (defBody bS) (defScope bS) (d_law_spots.dvs K) [] (He.fAd K ("_law_spots",none)) fd:=Book.def_ s 35 (d:=d_law_spots) rfl
theorem fd_law {K:PySem.W.Frag} (s:book.seen K=book.due):∃ fd,FunD K "law" "law" (defArgs iw) (defBody iw) (defScope iw) (d_law.dvs K) [] (He.fAd K ("law",none)) fd:=Book.def_ s 36 (d:=d_law) rfl
theorem qu {B:Bs} {h:Heap} (X:B.K.In h) (G:h.Ns mainGlobals B.mg) (s:book.seen B.K=book.due):HExc B 1 35:=by
 obtain ⟨fd,F⟩:∃ fd,FunD B.K "__init__" "BadCode.__init__" (defArgs aZ) (defBody aZ) (defScope aZ) (d_BadCode_init.dvs B.K) [] (He.fAd B.K ("BadCode",some "__init__")) fd:=Book.def_ s 37 (d:=d_BadCode_init) rfl
 exact y0 (aT X G s).x_BadCode (aT X G s).n_BadCode (He.meth_ok (x := "BadCode") (m := "__init__") (Book.fact s 52 rfl)) (oV F) (oU (k:=0) (aT X G s) F)
theorem oH {B:Bs} {h:Heap} (X:B.K.In h) (G:h.Ns mainGlobals B.mg) (s:book.seen B.K=book.due):HExc B 1 36:=by
 obtain ⟨fd,F⟩:∃ fd,FunD B.K "__init__" "TooGreat.__init__" (defArgs aR) (defBody aR) (defScope aR) (d_TooGreat_init.dvs B.K) [] (He.fAd B.K ("TooGreat",some "__init__")) fd:=Book.def_ s 38 (d:=d_TooGreat_init) rfl
 exact y0 (aT X G s).x_TooGreat (aT X G s).n_TooGreat (He.meth_ok (x := "TooGreat") (m := "__init__") (Book.fact s 53 rfl)) (nu F) (nt (k:=0) (aT X G s) F)
theorem iQ {K:PySem.W.Frag} (s:book.seen K=book.due):Meth K (cad K 28) "lay" (He.fAd K ("Ways",some "lay")):=He.meth_ok (x := "Ways") (m := "lay") (Book.fact s 54 rfl)
theorem ly {K:PySem.W.Frag} (s:book.seen K=book.due):Meth K (cad K 28) "after" (He.fAd K ("Ways",some "after")):=He.meth_ok (x := "Ways") (m := "after") (Book.fact s 55 rfl)
theorem ko {K:PySem.W.Frag} (s:book.seen K=book.due):Meth K (cad K 28) "after_lastly" (He.fAd K ("Ways",some "after_lastly")):=He.meth_ok (x := "Ways") (m := "after_lastly") (Book.fact s 56 rfl)
theorem qv {K:PySem.W.Frag} (s:book.seen K=book.due):Meth K (cad K 28) "passed" (He.fAd K ("Ways",some "passed")):=He.meth_ok (x := "Ways") (m := "passed") (Book.fact s 57 rfl)
theorem nO {K:PySem.W.Frag} (s:book.seen K=book.due):Meth K (cad K 28) "nexts_of" (He.fAd K ("Ways",some "nexts_of")):=He.meth_ok (x := "Ways") (m := "nexts_of") (Book.fact s 58 rfl)
theorem pg {K:PySem.W.Frag} (s:book.seen K=book.due):Meth K (cad K 28) "ends_of" (He.fAd K ("Ways",some "ends_of")):=He.meth_ok (x := "Ways") (m := "ends_of") (Book.fact s 59 rfl)
theorem j5 {K:PySem.W.Frag} (s:book.seen K=book.due):Meth K (cad K 5) "part" (He.fAd K ("Checker",some "part")):=He.meth_ok (x := "Checker") (m := "part") (Book.fact s 60 rfl)
theorem ph {K:PySem.W.Frag} (s:book.seen K=book.due):Meth K (cad K 5) "fits" (He.fAd K ("Checker",some "fits")):=He.meth_ok (x := "Checker") (m := "fits") (Book.fact s 61 rfl)
theorem lQ {K:PySem.W.Frag} (s:book.seen K=book.due):Meth K (cad K 5) "choices" (He.fAd K ("Checker",some "choices")):=He.meth_ok (x := "Checker") (m := "choices") (Book.fact s 62 rfl)
theorem um {K:PySem.W.Frag} (s:book.seen K=book.due):Mk K (cad K 27) (He.fAd K ("Spot",some "__init__")):=He.mkr_ok (x := "Spot") (Book.fact s 63 rfl)
theorem uo {K:PySem.W.Frag} (s:book.seen K=book.due):Mk K (cad K 28) (He.fAd K ("Ways",some "__init__")):=He.mkr_ok (x := "Ways") (Book.fact s 64 rfl)
theorem nP {K:PySem.W.Frag} (s:book.seen K=book.due):Mk K (cad K 3) (He.fAd K ("Function",some "__init__")):=He.mkr_ok (x := "Function") (Book.fact s 65 rfl)
theorem uq {K:PySem.W.Frag} (s:book.seen K=book.due):Mk K (cad K 4) (He.fAd K ("Code",some "__init__")):=He.mkr_ok (x := "Code") (Book.fact s 66 rfl)
theorem pj {K:PySem.W.Frag} (s:book.seen K=book.due):Mk K (cad K 5) (He.fAd K ("Checker",some "__init__")):=He.mkr_ok (x := "Checker") (Book.fact s 67 rfl)
theorem li {K:PySem.W.Frag} {h:Heap} {mg:Str→Option Value} (X:K.In h) (G:h.Ns mainGlobals mg) (s:book.seen K=book.due):mg "parts_of_layouts" = some (.ref (He.ga K "parts_of_layouts")):=He.glo_ok X G (x := "parts_of_layouts") (Book.fact s 68 rfl)
theorem wb {K:PySem.W.Frag} {h:Heap} {mg:Str→Option Value} (X:K.In h) (G:h.Ns mainGlobals mg) (s:book.seen K=book.due):mg "faulting" = some (.ref (He.ga K "faulting")):=He.glo_ok X G (x := "faulting") (Book.fact s 69 rfl)
theorem nQ {K:PySem.W.Frag} {h:Heap} {mg:Str→Option Value} (X:K.In h) (G:h.Ns mainGlobals mg) (s:book.seen K=book.due):mg "ends_by_fault" = some (.ref (He.ga K "ends_by_fault")):=He.glo_ok X G (x := "ends_by_fault") (Book.fact s 70 rfl)
theorem wc {K:PySem.W.Frag} {h:Heap} {mg:Str→Option Value} (X:K.In h) (G:h.Ns mainGlobals mg) (s:book.seen K=book.due):mg "in_block" = some (.ref (He.ga K "in_block")):=He.glo_ok X G (x := "in_block") (Book.fact s 71 rfl)
theorem oI {K:PySem.W.Frag} {h:Heap} {mg:Str→Option Value} (X:K.In h) (G:h.Ns mainGlobals mg) (s:book.seen K=book.due):mg "spots_of" = some (.ref (He.ga K "spots_of")):=He.glo_ok X G (x := "spots_of") (Book.fact s 72 rfl)
theorem yb {K:PySem.W.Frag} {h:Heap} {mg:Str→Option Value} (X:K.In h) (G:h.Ns mainGlobals mg) (s:book.seen K=book.due):mg "word_of" = some (.ref (He.ga K "word_of")):=He.glo_ok X G (x := "word_of") (Book.fact s 73 rfl)
theorem mS {K:PySem.W.Frag} {h:Heap} {mg:Str→Option Value} (X:K.In h) (G:h.Ns mainGlobals mg) (s:book.seen K=book.due):mg "parts_of_codes" = some (.ref (He.ga K "parts_of_codes")):=He.glo_ok X G (x := "parts_of_codes") (Book.fact s 74 rfl)
theorem zz {K:PySem.W.Frag} {h:Heap} {mg:Str→Option Value} (X:K.In h) (G:h.Ns mainGlobals mg) (s:book.seen K=book.due):mg "tidy" = some (.ref (He.ga K "tidy")):=He.glo_ok X G (x := "tidy") (Book.fact s 75 rfl)
theorem we {K:PySem.W.Frag} {h:Heap} {mg:Str→Option Value} (X:K.In h) (G:h.Ns mainGlobals mg) (s:book.seen K=book.due):mg "count" = some (.ref (He.ga K "count")):=He.glo_ok X G (x := "count") (Book.fact s 76 rfl)
theorem yc {K:PySem.W.Frag} {h:Heap} {mg:Str→Option Value} (X:K.In h) (G:h.Ns mainGlobals mg) (s:book.seen K=book.due):mg "is_name" = some (.ref (He.ga K "is_name")):=He.glo_ok X G (x := "is_name") (Book.fact s 77 rfl)
theorem ut {K:PySem.W.Frag} {h:Heap} {mg:Str→Option Value} (X:K.In h) (G:h.Ns mainGlobals mg) (s:book.seen K=book.due):mg "_law_start" = some (.ref (He.ga K "_law_start")):=He.glo_ok X G (x := "_law_start") (Book.fact s 78 rfl)
theorem wg {K:PySem.W.Frag} {h:Heap} {mg:Str→Option Value} (X:K.In h) (G:h.Ns mainGlobals mg) (s:book.seen K=book.due):mg "_law_draw" = some (.ref (He.ga K "_law_draw")):=He.glo_ok X G (x := "_law_draw") (Book.fact s 79 rfl)
theorem wj {K:PySem.W.Frag} {h:Heap} {mg:Str→Option Value} (X:K.In h) (G:h.Ns mainGlobals mg) (s:book.seen K=book.due):mg "_law_deed" = some (.ref (He.ga K "_law_deed")):=He.glo_ok X G (x := "_law_deed") (Book.fact s 80 rfl)
theorem rM {K:PySem.W.Frag} {h:Heap} {mg:Str→Option Value} (X:K.In h) (G:h.Ns mainGlobals mg) (s:book.seen K=book.due):mg "_law_simple" = some (.ref (He.ga K "_law_simple")):=He.glo_ok X G (x := "_law_simple") (Book.fact s 81 rfl)
theorem jE {K:PySem.W.Frag} {h:Heap} {mg:Str→Option Value} (X:K.In h) (G:h.Ns mainGlobals mg) (s:book.seen K=book.due):mg "_law_block" = some (.ref (He.ga K "_law_block")):=He.glo_ok X G (x := "_law_block") (Book.fact s 82 rfl)
theorem kr {K:PySem.W.Frag} {h:Heap} {mg:Str→Option Value} (X:K.In h) (G:h.Ns mainGlobals mg) (s:book.seen K=book.due):mg "_law_part" = some (.ref (He.ga K "_law_part")):=He.glo_ok X G (x := "_law_part") (Book.fact s 83 rfl)
theorem wm {K:PySem.W.Frag} {h:Heap} {mg:Str→Option Value} (X:K.In h) (G:h.Ns mainGlobals mg) (s:book.seen K=book.due):mg "_law_code" = some (.ref (He.ga K "_law_code")):=He.glo_ok X G (x := "_law_code") (Book.fact s 84 rfl)
theorem qw {K:PySem.W.Frag} {h:Heap} {mg:Str→Option Value} (X:K.In h) (G:h.Ns mainGlobals mg) (s:book.seen K=book.due):mg "_law_lay" = some (.ref (He.ga K "_law_lay")):=He.glo_ok X G (x := "_law_lay") (Book.fact s 85 rfl)
theorem uu {K:PySem.W.Frag} {h:Heap} {mg:Str→Option Value} (X:K.In h) (G:h.Ns mainGlobals mg) (s:book.seen K=book.due):mg "_law_after" = some (.ref (He.ga K "_law_after")):=He.glo_ok X G (x := "_law_after") (Book.fact s 86 rfl)
theorem uv {K:PySem.W.Frag} {h:Heap} {mg:Str→Option Value} (X:K.In h) (G:h.Ns mainGlobals mg) (s:book.seen K=book.due):mg "_law_graph" = some (.ref (He.ga K "_law_graph")):=He.glo_ok X G (x := "_law_graph") (Book.fact s 87 rfl)
theorem rN {K:PySem.W.Frag} {h:Heap} {mg:Str→Option Value} (X:K.In h) (G:h.Ns mainGlobals mg) (s:book.seen K=book.due):mg "_law_faulty" = some (.ref (He.ga K "_law_faulty")):=He.glo_ok X G (x := "_law_faulty") (Book.fact s 88 rfl)
theorem mT {K:PySem.W.Frag} {h:Heap} {mg:Str→Option Value} (X:K.In h) (G:h.Ns mainGlobals mg) (s:book.seen K=book.due):mg "_law_spots" = some (.ref (He.ga K "_law_spots")):=He.glo_ok X G (x := "_law_spots") (Book.fact s 89 rfl)
theorem gl_law {K:PySem.W.Frag} {h:Heap} {mg:Str→Option Value} (X:K.In h) (G:h.Ns mainGlobals mg) (s:book.seen K=book.due):mg "law" = some (.ref (He.ga K "law")):=He.glo_ok X G (x := "law") (Book.fact s 90 rfl)
end Hy
set_option maxHeartbeats 0
namespace Hy
open PySem PySem.Spec PyProof.Rows L2
def Hq:List Str:=[("_wall" : Str),("EXITS" : Str),("parts_of" : Str),("parts_of_layouts" : Str),("Spot" : Str),("Ways" : Str),("faulting" : Str),("ends_by_fault" : Str),("in_block" : Str),("spots_of" : Str),("TryError" : Str),("BadCode" : Str),("TooGreat" : Str),("LETTERS" : Str),("CELL_DEEDS" : Str),("ROW_DEEDS" : Str),("ALONE" : Str),("TWO_PARTS" : Str),("STATEMENTS" : Str),("BLOCKS" : Str)]
def Hr:List Str:=[("word_of" : Str),("parts_of_codes" : Str),("tidy" : Str),("count" : Str),("is_name" : Str),("Function" : Str),("Code" : Str),("Checker" : Str),("_law_start" : Str),("_law_draw" : Str),("_law_deed" : Str),("_law_simple" : Str),("_law_block" : Str),("_law_part" : Str),("_law_code" : Str),("_law_lay" : Str),("_law_after" : Str),("_law_graph" : Str),("_law_faulty" : Str),("_law_spots" : Str)]
def nms:List Str:=Hq ++ (Hr)
abbrev LRow:PySem.W.OpenRow:=PySem.W.OpenLaw.row PySem.Challenge.rw_tryback_k61_spots_and_faults
abbrev hk:PySem.W.Hook:=book.hookR 0 1500
def ob (s:PySem.W.SharedT):He.AlD:=book.lookR 0 1500 (HandSHeadRun.getT s)
theorem ob_eq (s:PySem.W.SharedT):ob s=hk.obs s.abs:=Book.lookR_eq (HandSHeadRun.getT_eq s)
theorem Hs (w:World):Ev LRow (PySem.W.view LRow.prog [46]) 20000 nms w:=by
 intro os
 kernel_rfl
theorem Ht (w:World):LookEq LRow 20000 (book.low 1000 0) 0 1500 w:=by
 intro os
 kernel_rfl
theorem Hu (w:World):LookEq LRow 20000 (book.high 1000 0) 0 1500 w:=by
 intro os
 kernel_rfl
theorem run (w:World):HandSHeadRun.RunEq LRow (PySem.W.view LRow.prog [46]) hk ob 20000 nms w:=Fk (Hs w) (LookEq.of_cut 1000 0 (Ht w) (Hu w))
abbrev EN (Q E:HK):HEnds:={ nx:=fun _ S'=>Rt Q .non S',rt:=Rt Q,ex:=fun x _ S'=>Rx E x S' }
theorem dC {t u:HTS} {D:HEnds} {env:aW} {S:Sto} (h:t { D with nx:=u D } env S):aj t u D env S:=h
theorem ku:(!true)=false:=rfl
theorem kw:(!false)=true:=rfl
def gSq (x:D) (S:Sto) (R:List D→Ck→Sto→Prop):Prop:=match x with
 | .str z=>z.length≤sizeLine∧R (z.cps.toList.map fun c=>.str ⟨#[c]⟩) none S
 | x=>match items S x with
   | some ds=>R ds (Ai x ds) S
   | none=>False
theorem b8 (te:HTE):eT te=fun env S R E=>te env S (fun x S1=>gSq x S1 R) E:=rfl
local macro_rules | `(tactic| walk_at "p")=>`(tactic| try simp only [aK,f9,aA,om,aL,bj,hNx,hop,hun,hcb,hV,hC,hB,hTr,fK,dU,hOr,hIf,aE,bD,cM,aa,ae,an,bG,fS,hMt,hSl,mw,iL,fT,d8,k7,gc,ot,nh,bu,bindDs,u9,vh,ow,dO,dE,oy,fM,cC,hLc,vd,hJ,u6,b8,cN,ao,List.map_cons,List.map_nil,List.length_cons,List.length_nil,List.replicate,List.cons_append,List.nil_append,List.append_nil,zG0,zG1,zS0,zS1,Nat.reduceAdd,Nat.reduceSub,Nat.zero_add,gI0,gI,iH,u8,hM,jv,pV,isN,ng,Nat.beq,Nat.ble,isStr,ku,kw])
local macro_rules | `(tactic| walk_at "q")=>`(tactic| ((try dsimp only); refine dC ?_; walk_at "p"))
local macro_rules | `(tactic| walk_at "g")=>`(tactic| try simp only [gLt,gLe,gGt,gGe,pU,jv,gI0,gI,cr,hM])
section
variable {S:Sto} {q:Addr} {ds ys:List D} {d z:D} {i k:Int} {j:Nat} {Q:HK} {K:Sto→Prop}
theorem eE (h:S q=some (.lst ds)) (e:atI ds i=some d) (g:Q d S):gIx (.ref q) (.int i) S Q:=by
 show (match items S (.ref q) with
  | some ds=>match atI ds i with
    | some d=>Q d S
    | none=>False
  | none=>False)
 have:items S (.ref q)=some ds:=by show (match S q with | some (.lst ds)=>some ds | _=>none)=some ds; rw [h]
 rw [this]
 dsimp only
 rw [e]
 exact g
theorem kR (h:S q=some (.lst ds)) (e:ixN ds.length k=some j) (g:K (up S q (.lst (ds.set j z)))):vc (.ref q) (.int k) z S K:=by
 unfold vc
 dsimp only
 rw [h]
 dsimp only
 rw [e]
 exact g
theorem pH (h:S q=some (.lst ds)) (g:Q (.int ds.length) S):dJ [.ref q] S Q:=by
 show (match items S (.ref q) with
  | some xs=>Q (.int xs.length) S
  | none=>_)
 have:items S (.ref q)=some ds:=by show (match S q with | some (.lst ds)=>some ds | _=>none)=some ds; rw [h]
 rw [this]
 exact g
theorem fH (h:S q=some (.lst ds)) (l:ds.length < 16777216) (g:Q .non (up S q (.lst (ds ++ [d])))):cz (.ref q) [d] S Q:=by
 unfold cz
 dsimp only
 rw [h]
 exact ⟨l,g⟩
theorem cB (h:S q=some (.lst ds)):eU S (.ref q)=true:=by
 unfold eU bF
 dsimp only
 rw [h] <;> rfl
theorem DA (h:S q=some (.lst ds)) (g:Q (.tup ds) S):dD [.ref q] S Q:=by
 unfold dD
 dsimp only
 have:items S (.ref q)=some ds:=by unfold items; dsimp only; rw [h]
 rw [this]
 exact g
theorem ii {α:Type} {l:List α} {n:Nat} (h:n < l.length):atI l (n:Int)=some l[n]:=by
 unfold atI ixN
 rw [if_pos (by omega),if_pos (by omega)]
 simp [h]
end
def Pen (S:Sto) (p q:Addr) (n:Nat):Prop:=∃ (cs:List Int) (s:Nat),S p=some (.lst [.ref q,.int s])∧S q=some (.lst (cs.map D.int))∧cs ≠ []∧s≤n
def Fr2 (p q:Addr) (S S':Sto):Prop:=∀ a,a ≠ p→a ≠ q→S' a=S a
theorem Fr2.rfl' {p q:Addr} {S:Sto}:Fr2 p q S S:=fun _ _ _=>rfl
theorem Fr2.trans {p q:Addr} {S T U:Sto} (h:Fr2 p q S T) (k:Fr2 p q T U):Fr2 p q S U:=fun a h1 h2=>(k a h1 h2).trans (h a h1 h2)
theorem Pen.ne {S:Sto} {p q:Addr} {n:Nat} (h:Pen S p q n):p ≠ q:=by
 obtain ⟨cs,s,h1,h2,_⟩:=h
 intro e
 subst e
 rw [h1] at h2
 cases cs with
 | nil=>cases h2
 | cons c cs=>cases h2
theorem Pen.mono {S:Sto} {p q:Addr} {n m:Nat} (h:Pen S p q n) (l:n≤m):Pen S p q m:=by
 obtain ⟨cs,s,h1,h2,h3,h4⟩:=h
 exact ⟨cs,s,h1,h2,h3,Nat.le_trans h4 l⟩
theorem Pen.frame {S S':Sto} {p q:Addr} {n:Nat} (h:Pen S p q n) (h1:S' p=S p) (h2:S' q=S q):Pen S' p q n:=by
 obtain ⟨cs,s,a,b,c,d⟩:=h
 exact ⟨cs,s,h1.trans a,h2.trans b,c,d⟩
theorem Pen.up {S:Sto} {p q a:Addr} {n:Nat} {m:M} (h:Pen S p q n) (ha:S a=none):Pen (Hy.up S a m) p q n:=by
 obtain ⟨cs,s,h1,h2,_⟩:=id h
 exact h.frame (ar (sne h1 ha)) (ar (sne h2 ha))
abbrev HF:Nat:=1000000
theorem B9 {i:Int} {n:Nat} (h:i.natAbs < 2 ^ n) (hn:0 < n):i.natAbs.log2 < n:=by
 by_cases e:i.natAbs=0
 ·rw [e]; simpa using hn
 ·exact (Nat.log2_lt e).mpr h
theorem Ay {i m:Int} (h:0 < m):(i % m).natAbs < m.natAbs:=by
 have h1:=Int.emod_nonneg i (Int.ne_of_gt h)
 have h2:=Int.emod_lt_of_pos i h
 omega
theorem dv {S:Sto} {x:D} {xs:List D} {R:List D→Ck→Sto→Prop} (h:items S x=some xs) (g:R xs (Ai x xs) S):gSq x S R:=by
 cases x with
 | str z=>cases h
 | _=>unfold gSq; dsimp only; rw [h]; exact g
theorem bz {S:Sto} {x:D} {xs:List D} {Q:HK} (h:items S x=some xs) (g:Q (.int xs.length) S):dJ [x] S Q:=by
 cases x with
 | str z=>cases h
 | ref p=>unfold dJ; dsimp only; rw [h]; exact g
 | tup ys=>cases h; exact g
 | lst ys=>cases h; exact g
 | rls ys=>cases h; exact g
 | _=>cases h
theorem aF {S:Sto} {x:D} {xs:List D} {i:Int} {d:D} {Q:HK} (h:items S x=some xs) (e:atI xs i=some d) (g:Q d S):gIx x (.int i) S Q:=by
 cases x with
 | str z=>cases h
 | ref p=>unfold gIx; dsimp only; rw [h]; dsimp only; rw [e]; exact g
 | tup ys=>cases h; unfold gIx; dsimp only [items]; rw [e]; exact g
 | lst ys=>cases h; unfold gIx; dsimp only [items]; rw [e]; exact g
 | rls ys=>cases h; unfold gIx; dsimp only [items]; rw [e]; exact g
 | _=>cases h
theorem nT {p:Pt} {tb:HTS} {k:Ck} {D0:HEnds} (I:Nat→aW→Sto→Prop):∀ (l:List D) (j:Nat),(∀ i env S,i≤l.length→I (j + i) env S→∀ A:Prop,A→chk k S A) →
 (∀ i d env S,l[i]? = some d→I (j + i) env S→∃ env1,bu p d env=some env1∧∀ K:aW→Sto→Prop,(∀ e S',I (j + i + 1) e S'→K e S')→tb { D0 with nx:=K,ct:=K,bk:=D0.nx } env1 S) →
 (∀ env S,I (j + l.length) env S→D0.nx env S)→∀ env S,I j env S→cZ p tb k l D0 env S
 | [],j,hc,_,hf,env,S,h=>hc 0 env S zNr h _ (hf env S h)
 | d :: l,j,hc,hs,hf,env,S,h=>by
   refine hc 0 env S (Nat.zero_le _) h _ ?_
   obtain ⟨env1,e,hb⟩:=hs 0 d env S rfl h
   show (match bu p d env with
    | some env1=>tb { D0 with nx:=cZ p tb k l D0,ct:=cZ p tb k l D0,bk:=D0.nx } env1 S
    | none=>False)
   rw [e]
   refine hb _ fun e' S' h'=>nT I l (j + 1) (fun i env S hi=>?_) (fun i d' env S hd=>?_) (fun env S=>?_) e' S' h'
   ·have:=hc (i + 1) env S (by simpa using hi)
    rwa [show j + (i + 1)=j + 1 + i by omega] at this
   ·have:=hs (i + 1) d' env S (by simpa using hd)
    rwa [show j + (i + 1)=j + 1 + i by omega] at this
   ·have:=hf env S
    rwa [show j + (d :: l).length=j + 1 + l.length by simp; omega] at this
theorem c7 {p:Pt} {tb:HTS} {D0:HEnds} (I:Nat→aW→Sto→Prop) (l:List D)
 (hs:∀ i d env S,l[i]? = some d→I i env S→∃ env1,bu p d env=some env1∧∀ K:aW→Sto→Prop,(∀ e S',I (i + 1) e S'→K e S')→tb { D0 with nx:=K,ct:=K,bk:=D0.nx } env1 S)
 (hf:∀ env S,I l.length env S→D0.nx env S) {env:aW} {S:Sto} (h:I 0 env S):cZ p tb none l D0 env S :=
 nT I l 0 (fun i env S h1 h2 A a=>(show chk none S A from a)) (fun i d env S hd hi=>by rw [Nat.zero_add] at hi ⊢; exact hs i d env S hd hi) (fun env S hi=>hf env S (by rwa [Nat.zero_add] at hi)) env S h
theorem wn {p:Pt} {tb:HTS} {D0:HEnds} {q:Addr} (I:Nat→aW→Sto→Prop) (l:List D) (hq:∀ i env S,I i env S→S q=some (.lst l))
 (hs:∀ i d env S,l[i]? = some d→I i env S→∃ env1,bu p d env=some env1∧∀ K:aW→Sto→Prop,(∀ e S',I (i + 1) e S'→K e S')→tb { D0 with nx:=K,ct:=K,bk:=D0.nx } env1 S)
 (hf:∀ env S,I l.length env S→D0.nx env S) {env:aW} {S:Sto} (h:I 0 env S):cZ p tb (some (q,l)) l D0 env S :=
 nT I l 0 (fun i env S _ hi A a=>(show chk (some (q,l)) S A from ⟨hq _ env S hi,a⟩)) (fun i d env S hd hi=>by rw [Nat.zero_add] at hi ⊢; exact hs i d env S hd hi) (fun env S hi=>hf env S (by rwa [Nat.zero_add] at hi)) env S h
theorem mU {lo:Int} {n i:Nat} {d:D} (h:(g9 lo n)[i]? = some d):i < n∧d = .int (lo + (i:Nat)):=by
 unfold g9 at h
 rw [List.getElem?_map] at h
 obtain ⟨j,h1,h2⟩:=Option.map_eq_some_iff.mp h
 obtain ⟨hl,h3⟩:=List.getElem?_eq_some_iff.mp h1
 rw [List.getElem_range] at h3
 subst h3
 exact ⟨by simpa using hl,h2.symm⟩
theorem sq {p:Pt} {te:HTE} {k:Ck} {env:aW} {S:Sto} {Q:HK} (f:D→D) (hc:∀ A:Prop,A→chk k S A):∀ (l acc:List D),
 (∀ d ∈ l,∃ env1,bu p d env=some env1∧∀ (R E:HK),R (f d) S→te env1 S R E)→Q (.lst (acc ++ l.map f)) S→cW p fM te k l acc env S Q
 | [],acc,_,h=>hc _ (by rw [List.map_nil,List.append_nil] at h; exact h)
 | d :: l,acc,hs,h=>by
   refine hc _ ?_
   obtain ⟨env1,e,hy⟩:=hs d zMs
   rw [e]
   refine hy _ _ (sq f hc l (acc ++ [f d]) (fun d' hd=>hs d' (zMt hd)) ?_)
   rw [List.map_cons] at h
   rwa [List.append_assoc]
theorem wo {α:Type} {dec:List D→Option α} {f:α→Sto→HK→Prop} {xs:List D} {ns:α} {S:Sto} {Q:HK} (e:dec xs=some ns) (h:f ns S Q):mz dec f [.lst xs] S Q:=by
 unfold mz
 dsimp only [bF]
 rw [e]
 exact h
theorem wp (xs:List D) (n:Nat):lG xs none (some (n:Int))=xs.take n:=by
 unfold lG
 rw [HT.sIx_none,HT.sIx_nat,List.drop_zero,Nat.sub_zero]
 by_cases h:n≤xs.length
 ·rw [Nat.min_eq_left h]
 ·rw [Nat.min_eq_right (by omega),List.take_of_length_le zNr,List.take_of_length_le (by omega)]
theorem FB {c:List D→D} {xs:List D} {n:Nat} {S:Sto} {Q:HK} (hc:c = .tup∨c = .lst) (h:Q (c (xs.take n)) S):gSl (c xs) none (some (n:Int)) S Q:=by
 rcases hc with rfl | rfl
 ·show Q (.tup (lG xs none (some (n:Int)))) S
  rw [wp]; exact h
 ·show Q (.lst (lG xs none (some (n:Int)))) S
  rw [wp]; exact h
theorem zA {xs:List D} {S:Sto} {Q:HK} (h:Q (.tup xs) S):dD [.lst xs] S Q:=h
theorem zB {xs:List D} {S:Sto} {Q:HK} (h:Q (.tup xs) S):dD [.tup xs] S Q:=h
theorem c9 {ix:Nat→Option Nat} {c i:Nat} {q:Addr} {ds ds':List D} {d:D} {S:Sto} {K:Sto→Prop} (h:S q=some (.ins c ds)) (e:ix c=some i) (e2:Bp ds i d=some ds') (g:K (up S q (.ins c ds'))):Ak ix (.ref q) d S K:=by
 unfold Ak
 dsimp only
 rw [h]
 dsimp only
 rw [e]
 dsimp only
 rw [e2]
 exact g
theorem b9 {ix:Nat→Option Nat} {c i:Nat} {q:Addr} {ds:List D} {d:D} {S:Sto} {Q:HK} (h:S q=some (.ins c ds)) (e:ix c=some i) (e2:ds[i]? = some d) (g:Q d S):ba ix (.ref q) S Q:=by
 unfold ba
 dsimp only
 rw [h]
 dsimp only
 rw [e]
 dsimp only
 rw [e2]
 exact g
theorem jF (a b:Str):deq (.str a) (.str b)=(a == b):=by simp [deq,toP,PyData.eqv]
theorem zC {a b:Str} {r:Bool} {S:Sto} {Q:HK} (e:(a == b)=r) (h:Q (.bl r) S):gEq (.str a) (.str b) S Q:=by
 show Q (.bl (ng false (deq (.str a) (.str b)))) S
 rw [jF,e]
 exact h
theorem mV {neg:Bool} {a:Str} {ss:List Str} {r:Bool} {S:Sto} {Q:HK} (e:(ss.any fun z=>z == a)=r) (h:Q (.bl (ng neg r)) S):iG neg (.str a) (.tup (ss.map D.str)) S Q:=by
 have e1:((ss.map D.str).any fun z=>deq z (.str a))=r:=by
  rw [List.any_map,← e]
  congr 1 <;> (funext z; exact jF z a)
 have e2:(cV (.str a) && (ss.map D.str).all cV)=true:=by
  rw [List.all_map]
  show (true && ss.all fun _=>true)=true
  simp
 show (match cV (.str a) && (ss.map D.str).all cV with
  | true=>Q (.bl (ng neg ((ss.map D.str).any fun z=>deq z (.str a)))) S
  | false=>_)
 rw [e2,e1]
 exact h
theorem jG {neg:Bool} {i j:Int} {S:Sto} {Q:HK} (h:Q (.bl (ng neg (decide (i=j)))) S):uZ neg (.int i) (.int j) S Q:=by
 show Q (.bl (ng neg (deq (.int i) (.int j)))) S
 rw [show deq (.int i) (.int j)=decide (i=j) by
  rw [Bool.eq_iff_iff,decide_eq_true_iff]
  simp [deq,toP,PyData.eqv]]
 exact h
theorem zD {neg:Bool} {x y:D} {r:Bool} {S:Sto} {Q:HK} (d1:dok 60 (dr S x)=true) (d2:dok 60 (dr S y)=true) (e:deq (dr S x) (dr S y)=r) (h:Q (.bl (ng neg r)) S):uZ neg x y S Q:=by
 unfold uZ
 split
 ·rename_i s t
  rw [← e,show deq (dr S (.str s)) (dr S (.str t))=(s == t) from jF s t] at h
  exact h
 ·rw [d1,d2,e]
  exact h
def Ca (x:Str):Bool:=x.cps.toList.all (· < 0x110000)
local macro_rules | `(tactic| walk_at "p")=>`(tactic| try simp only [aK,f9,aA,om,aL,bj,hNx,hop,hun,hcb,hV,hC,hB,hTr,fK,dU,hOr,hIf,aE,bD,cM,aa,ae,an,bG,fS,hMt,hSl,mw,iL,fT,d8,k7,gc,ot,nh,bu,bindDs,u9,vh,ow,dO,dE,oy,Ah,se,iU,cE,jX,jc,qc,hO,kb,fM,cC,hLc,vd,hJ,u6,b8,cN,ao,List.map_cons,List.map_nil,List.length_cons,List.length_nil,List.replicate,List.cons_append,List.nil_append,List.append_nil,zG0,zG1,zS0,zS1,Nat.reduceAdd,Nat.reduceSub,Nat.zero_add,gI0,gI,iH,u8,hM,jv,pV,isN,ng,Nat.beq,Nat.ble,isStr,ku,kw])
abbrev cp (z:Str):List Nat:=z.cps.toList
def abc:Str:=("abcdefghijklmnopqrstuvwxyz" : Str)
def nU (s:Str):Bool:=decide (1≤s.length) && decide (s.length≤12) && (cp s).all fun c=>decide (c ∈ cp abc)
theorem okName_iff {s:Str}:nU s=true↔1≤s.length∧s.length≤12∧∀ c ∈ cp s,c ∈ cp abc:=by
 unfold nU
 rw [Bool.and_eq_true,Bool.and_eq_true,decide_eq_true_iff,decide_eq_true_iff,List.all_eq_true]
 constructor
 ·rintro ⟨⟨h1,h2⟩,h3⟩
  exact ⟨h1,h2,fun c hc=>of_decide_eq_true (h3 c hc)⟩
 ·rintro ⟨h1,h2,h3⟩
  exact ⟨⟨h1,h2⟩,fun c hc=>decide_eq_true (h3 c hc)⟩
theorem abc_facts:abc.length=26∧(cp abc).length=26∧(cp abc).all (· < 0x110000)=true:=by decide +kernel
theorem yd {s:Str} (h:nU s=true):Ca s=true:=by
 obtain ⟨_,_,h3⟩:=okName_iff.mp h
 unfold Ca
 rw [List.all_eq_true]
 intro c hc
 exact List.all_eq_true.mp abc_facts.2.2 c (h3 c hc)
theorem FC {neg:Bool} {c:Nat} {S:Sto} {Q:HK} (h:Q (.bl (ng neg (decide (c ∈ cp abc)))) S):iG neg (.str ⟨#[c]⟩) (.str abc) S Q:=h
theorem Cb {s:Str} {S:Sto} {Q:HK} (h:s.length≤1000) (g:Q (.int (s.length:Nat)) S):dJ [.str s] S Q:=⟨fi (by omega),g⟩
theorem wq {i:Nat} {env:aW} {S:Sto} {Q:HK} (hi:i < env.length):∀ (l:List Nat) (acc:List Bool),Q (.lst ((acc ++ l.map fun c=>decide (c ∈ cp abc)).map D.bl)) S →
 cW (.nm i) fM (hop gIn (hV i) (hC (.str abc))) none (l.map fun c=>.str ⟨#[c]⟩) (acc.map D.bl) env S Q
 | [],acc,h=>by rw [List.map_nil,List.append_nil] at h; exact h
 | c :: l,acc,h=>by
   have ih:=wq (i:=i) (env:=env) (S:=S) (Q:=Q) hi l (acc ++ [decide (c ∈ cp abc)]) (by rw [List.append_assoc]; exact h)
   simp only [List.map_cons,cW,chk,bu,fM,hop,hV,hC,List.getElem?_set_self hi]
   rw [List.map_append] at ih
   exact FC ih
def qx:HSp:=fun ds S Q _=>∃ s:Str,ds=[.str s]∧s.length≤1000∧Q (.bl (nU s)) S
theorem uw {ds:List D} {S:Sto} {Q E:HK} (h:qx ds S Q E):jC (EN Q E) (ao 2 ds) S:=by
 obtain ⟨s,rfl,hs,g⟩:=h
 unfold jC
 walk_at "p"
 refine Cb hs ?_
 unfold nU at g
 walk_at "g"
 rw [show decide ((1:Int)≤((s.length:Nat):Int))=decide (1≤s.length) by rw [Bool.eq_iff_iff,decide_eq_true_iff,decide_eq_true_iff]; omega]
 cases h1:decide (1≤s.length) with
 | false =>
   rw [h1] at g
   exact Rt.mk g
 | true =>
   rw [h1] at g
   dsimp only
   walk_at "g"
   rw [show decide (((s.length:Nat):Int)≤12)=decide (s.length≤12) by rw [Bool.eq_iff_iff,decide_eq_true_iff,decide_eq_true_iff]; omega]
   cases h2:decide (s.length≤12) with
   | false =>
     rw [h2] at g
     exact Rt.mk g
   | true =>
     rw [h2] at g
     dsimp only
     refine ⟨fi (by omega),?_⟩
     refine wq (i:=1) (by show 1 < 2; decide) (cp s) [] ?_
     rw [List.nil_append]
     refine wo (yU _) ?_
     rw [List.all_map]
     exact Rt.mk g
def ye (ss:List Str) (x:Str):Bool:=ss.any fun z=>z == x
theorem DB {neg:Bool} {q:Addr} {x:Str} {ss:List Str} {S:Sto} {Q:HK} (e:S q=some (.lst (ss.map D.str))) (h:Q (.bl (ng neg (ye ss x))) S):iG neg (.str x) (.ref q) S Q:=by
 have e1:((ss.map D.str).any fun z=>deq z (.str x))=ye ss x:=by
  rw [List.any_map]
  unfold ye
  congr 1 <;> (funext z; exact jF z x)
 have e2:(cV (.str x) && (ss.map D.str).all cV)=true:=by
  rw [List.all_map]
  show (true && ss.all fun _=>true)=true
  simp
 have it:items S (.ref q)=some (ss.map D.str):=by unfold items; dsimp only; rw [e]
 show (match items S (.ref q) with
  | some ds=>match cV (.str x) && ds.all cV with
    | true=>Q (.bl (ng neg (ds.any fun z=>deq z (.str x)))) S
    | false=>_
  | none=>_)
 rw [it]
 show (match cV (.str x) && (ss.map D.str).all cV with
  | true=>Q (.bl (ng neg ((ss.map D.str).any fun z=>deq z (.str x)))) S
  | false=>_)
 rw [e2,e1]
 exact h
theorem hasS_mem {ss:List Str} {x:Str}:ye ss x=true↔x ∈ ss:=by
 unfold ye
 rw [List.any_eq_true]
 constructor
 ·rintro ⟨y,h1,h2⟩
  rw [← eq_of_beq h2]; exact h1
 ·intro h
  exact ⟨x,h,by simp⟩
inductive Ent where
 | s (x:Str)
 | p (b:List (List Ent))
abbrev Stm:=List Ent
abbrev Bdy:=List Stm
mutual
def jH:Ent→D
 | .s x=>.str x
 | .p b=>.tup (stmsD b)
def stmsD:List (List Ent)→List D
 | []=>[]
 | st :: b=>.tup (entsD st) :: stmsD b
def entsD:List Ent→List D
 | []=>[]
 | e :: st=>jH e :: entsD st
end
abbrev aY (st:Stm):D:=.tup (entsD st)
abbrev aw (b:Bdy):D:=.tup (stmsD b)
theorem bN:∀ st:Stm,entsD st=st.map jH
 | []=>rfl
 | e :: st=>by show jH e :: entsD st=_; rw [bN st] <;> rfl
theorem fW:∀ b:Bdy,stmsD b=b.map aY
 | []=>rfl
 | st :: b=>by show D.tup (entsD st) :: stmsD b=_; rw [fW b] <;> rfl
mutual
def DC:Ent→Nat
 | .s _=>0
 | .p b=>cntB b
def cntB:List (List Ent)→Nat
 | []=>0
 | st :: b=>1 + cntS st + cntB b
def cntS:List Ent→Nat
 | []=>0
 | e :: st=>DC e + cntS st
end
theorem qy:∀ a b:Bdy,cntB (a ++ b)=cntB a + cntB b
 | [],b=>by show cntB b=0 + cntB b; omega
 | st :: a,b=>by
   have:=qy a b
   show 1 + cntS st + cntB (a ++ b)=1 + cntS st + cntB a + cntB b
   omega
theorem iR:∀ b:Bdy,b.length≤cntB b
 | []=>Nat.le_refl _
 | st :: b=>by
   have:=iR b
   show b.length + 1≤1 + cntS st + cntB b
   omega
theorem wt {b:Bdy} {st:Stm} (h:st ∈ b):1 + cntS st≤cntB b:=by
 induction b with
 | nil=>cases h
 | cons x b ih =>
   rcases List.mem_cons.mp h with rfl | h
   ·show 1 + cntS st≤1 + cntS st + cntB b; omega
   ·have:=ih h; show 1 + cntS st≤1 + cntS x + cntB b; omega
def Lv:Nat→Bdy→Prop
 | 0,_=>False
 | n + 1,b=>b.length≤1000∧∀ st ∈ b,∃ x r,st = .s x :: r∧r.length≤9∧∀ e ∈ r,match e with
   | .s _=>True
   | .p c=>Lv n c
abbrev LvE (n:Nat) (e:Ent):Prop:=match e with
 | .s _=>True
 | .p c=>Lv n c
theorem Lv.up:∀ {n:Nat} {b:Bdy},Lv n b→Lv (n + 1) b
 | 0,_,h=>h.elim
 | n + 1,b,h=>⟨h.1,fun st hs=>by
   obtain ⟨x,r,h1,h2,h3⟩:=h.2 st hs
   refine ⟨x,r,h1,h2,fun e he=>?_⟩
   have:=h3 e he
   cases e with
   | s x=>trivial
   | p c=>exact Lv.up this⟩
theorem Lv.mono {n m:Nat} {b:Bdy} (h:Lv n b) (l:n≤m):Lv m b:=by
 induction l with
 | refl=>exact h
 | step _ ih=>exact ih.up
def isP:Ent→Bool
 | .p _=>true
 | _=>false
theorem Cc (xs:List D) (n:Nat):lG xs (some (n:Int)) none=xs.drop n:=by
 unfold lG
 rw [HT.sIx_none,HT.sIx_nat]
 by_cases h:n≤xs.length
 ·rw [Nat.min_eq_left h,List.take_of_length_le (by rw [List.length_drop]; omega)]
 ·rw [Nat.min_eq_right (by omega),List.drop_of_length_le (by omega),List.drop_of_length_le (by omega)]
  simp
theorem wu {xs:List D} {n:Nat} {S:Sto} {Q:HK} (h:Q (.tup (xs.drop n)) S):gSl (.tup xs) (some (n:Int)) none S Q:=by
 show Q (.tup (lG xs (some (n:Int)) none)) S
 rw [Cc]; exact h
theorem sqT {xs:List D} {S:Sto} {R:List D→Ck→Sto→Prop} (h:R xs none S):gSq (.tup xs) S R:=h
theorem sqL {xs:List D} {S:Sto} {R:List D→Ck→Sto→Prop} (h:R xs none S):gSq (.lst xs) S R:=h
theorem mW {i j:Int} {S:Sto} {Q:HK} (h:Q (.int (i + j)) S):cr (.int i) (.int j) S Q:=h
theorem Cd {α:Type} {g:α→D} {l:List α} {i:Nat} {d:D} (h:(l.map g)[i]? = some d):∃ x,l[i]? = some x∧d=g x:=by
 rw [List.getElem?_map] at h
 obtain ⟨x,h1,h2⟩:=Option.map_eq_some_iff.mp h
 exact ⟨x,h1,h2.symm⟩
theorem nV {α:Type} {l:List α} {i:Nat} {x:α} (h:l[i]? = some x):l.take (i + 1)=l.take i ++ [x]:=by
 obtain ⟨h1,h2⟩:=List.getElem?_eq_some_iff.mp h
 rw [List.take_succ_eq_append_getElem h1,h2]
theorem Ce (st:Stm):cntB [st]=1 + cntS st:=rfl
structure PN where
 cs:List Str
 rs:List Str
 fs:List Str
def PN.Ok (P:PN):Prop:=P.cs.length≤3∧P.rs.length≤2∧1≤P.fs.length∧P.fs.length≤3∧(∀ s ∈ P.cs ++ P.rs ++ P.fs,nU s=true)∧(P.cs ++ P.rs ++ P.fs).Nodup
abbrev sr (l:List Str):D:=.lst (l.map D.str)
abbrev FD:Key:=.inr ("cells" : Str)
abbrev GN:Key:=.inr ("rows" : Str)
abbrev FE:Key:=.inr ("order" : Str)
def PlanAt (S:Sto) (q:Addr) (P:PN):Prop:=∃ kvs,S q=some (.dct kvs)∧gh kvs FD=some (sr P.cs)∧gh kvs GN=some (sr P.rs)∧gh kvs FE=some (sr P.fs)
theorem PlanAt.frame {S S':Sto} {q:Addr} {P:PN} (h:PlanAt S q P) (e:S' q=S q):PlanAt S' q P:=by
 obtain ⟨kvs,h1,h2⟩:=h
 exact ⟨kvs,e.trans h1,h2⟩
theorem PlanAt.ne {S:Sto} {q a:Addr} {P:PN} {ds:List D} (h:PlanAt S q P) (ha:S a=some (.lst ds)):q ≠ a:=by
 obtain ⟨kvs,h1,h2⟩:=h
 intro e
 subst e
 rw [ha] at h1; cases h1
theorem PlanAt.pen {S:Sto} {q p r:Addr} {n:Nat} {P:PN} (h:PlanAt S q P) (pen:Pen S p r n):q ≠ p∧q ≠ r:=by
 obtain ⟨cs,s,h1,h2,_⟩:=pen
 exact ⟨h.ne h1,h.ne h2⟩
theorem PlanAt.fr {S S':Sto} {q p r:Addr} {n:Nat} {P:PN} (h:PlanAt S q P) (pen:Pen S p r n) (fr:Fr2 p r S S'):PlanAt S' q P:=h.frame (fr q (h.pen pen).1 (h.pen pen).2)
theorem je {S:Sto} {q:Addr} {kvs:List (Key × D)} {k:Key} {d y:D} {Q:HK} (h:S q=some (.dct kvs)) (e:hO y=some k) (e2:gh kvs k=some d) (g:Q d S):fB (.ref q) y S Q:=by
 unfold fB
 dsimp only
 rw [h]
 dsimp only
 rw [e]
 dsimp only
 rw [e2]
 exact g
theorem PlanAt.cells {S:Sto} {q:Addr} {P:PN} {Q:HK} (h:PlanAt S q P) (g:Q (sr P.cs) S):fB (.ref q) (.str ("cells" : Str)) S Q:=by
 obtain ⟨kvs,h1,h2,h3,h4⟩:=h
 exact je h1 rfl h2 g
theorem PlanAt.rows {S:Sto} {q:Addr} {P:PN} {Q:HK} (h:PlanAt S q P) (g:Q (sr P.rs) S):fB (.ref q) (.str ("rows" : Str)) S Q:=by
 obtain ⟨kvs,h1,h2,h3,h4⟩:=h
 exact je h1 rfl h3 g
theorem PlanAt.order {S:Sto} {q:Addr} {P:PN} {Q:HK} (h:PlanAt S q P) (g:Q (sr P.fs) S):fB (.ref q) (.str ("order" : Str)) S Q:=by
 obtain ⟨kvs,h1,h2,h3,h4⟩:=h
 exact je h1 rfl h4 g
theorem ifs {c:HTT} {t u:HTS} {D0:HEnds} {env:aW} {S:Sto} (b:Bool) (h:∀ (R:Bool→Sto→Prop) (E:HK),R b S→c env S R E) (ht:b=true→t D0 env S) (hf:b=false→u D0 env S):bj c t u D0 env S :=
 h _ _ (by cases b with
  | true=>exact ht rfl
  | false=>exact hf rfl)
theorem bZ {c:HTT} {t u:HTS} {D0:HEnds} {env:aW} {S:Sto} (b:Bool) (h:∀ (R:Bool→Sto→Prop) (E:HK),R b S→c env S R E) (ht:b=true→t { D0 with nx:=u D0 } env S) (hf:b=false→u D0 env S):aj (bj c t hNx) u D0 env S :=
 ifs b h ht hf
theorem fy {i:Nat} {te:HTE} {u:HTS} {D0:HEnds} {env:aW} {S:Sto} (d:D) (S':Sto) (h:∀ (R E:HK),R d S'→te env S R E) (hn:u D0 (env.set i (some d)) S'):aj (aK i te) u D0 env S:=h _ _ hn
theorem fz {i:Nat} {te:HTE} {u:HTS} {D0:HEnds} {env:aW} {S:Sto} (P:D→Sto→Prop) (h:∀ (R E:HK),(∀ d S',P d S'→R d S')→te env S R E) (hn:∀ d S',P d S'→u D0 (env.set i (some d)) S'):aj (aK i te) u D0 env S:=h _ _ hn
theorem ifN {c:HTT} {t u:HTS} {D0:HEnds} {env:aW} {S:Sto} (P:Bool→Sto→Prop) (h:∀ (R:Bool→Sto→Prop) (E:HK),(∀ b S',P b S'→R b S')→c env S R E) (ht:∀ S',P true S'→t D0 env S') (hf:∀ S',P false S'→u D0 env S'):bj c t u D0 env S :=
 h _ _ (fun b S' hp=>by cases b with
  | true=>exact ht S' hp
  | false=>exact hf S' hp)
abbrev two (w x:Str):Stm:=[.s w,.s x]
abbrev one (w:Str):Stm:=[.s w]
def da (c:Str):List Stm:=[two ("put" : Str) c,two ("blank" : Str) c,two ("give" : Str) c,two ("put" : Str) c]
def eR (r:Str):List Stm:=[two ("push" : Str) r,two ("pop" : Str) r,two ("cut" : Str) r,two ("push" : Str) r]
def be (P:PN):List Stm:=P.cs.flatMap da ++ P.rs.flatMap eR
def hX:List Stm:=[two ("stop" : Str) ("found" : Str),two ("stop" : Str) ("none" : Str),one ("fault" : Str),one ("may" : Str),one ("may" : Str)]
def jf:List Stm:=[two ("answer" : Str) ("copy" : Str),two ("answer" : Str) ("view" : Str)]
def lC:List Stm:=[one ("again" : Str),one ("out" : Str)]
def EB:Bool→List Stm
 | false=>hX ++ jf
 | true=>hX ++ jf ++ lC
def mX (P:PN) (lp:Bool) (st:Stm):Prop:=st ∈ be P∨(∃ f ∈ P.fs,st=two ("deeper" : Str) f)∨st ∈ EB lp
abbrev aB:Str:=("tries" : Str)
abbrev bw:Str:=("look" : Str)
abbrev am:Str:=("lastly" : Str)
def Cf:List Str:=[("either" : Str),("told" : Str),("guard" : Str)]
def GoodS (P:PN):Nat→Bool→Stm→Prop
 | 0,lp,st=>mX P lp st
 | lv + 1,lp,st=>mX P lp st∨(∃ a,st=[.s aB,.p a]∧∀ x ∈ a,GoodS P lv true x)∨(∃ w a b,w ∈ Cf∧st=[.s w,.p a,.p b]∧(∀ x ∈ a,GoodS P lv lp x)∧∀ x ∈ b,GoodS P lv lp x) ∨
   (∃ c a b,c ∈ P.cs∧st=[.s bw,.s c,.p a,.p b]∧(∀ x ∈ a,GoodS P lv lp x)∧∀ x ∈ b,GoodS P lv lp x)∨∃ a b,st=[.s am,.p a,.p b]∧(∀ x ∈ a,GoodS P lv lp x)∧∀ x ∈ b,x ∈ be P
theorem GoodS.simp {P:PN} {lv:Nat} {lp:Bool} {st:Stm} (h:mX P lp st):GoodS P lv lp st:=by
 cases lv with
 | zero=>exact h
 | succ lv=>exact .inl h
theorem jg {P:PN} {st:Stm} (h:st ∈ be P):∃ w x,st=two w x:=by
 unfold be at h
 rcases List.mem_append.mp h with h | h
 ·obtain ⟨c,hc,h⟩:=List.mem_flatMap.mp h
  simp [da] at h
  rcases h with rfl | rfl | rfl | rfl <;> exact ⟨_,_,rfl⟩
 ·obtain ⟨c,hc,h⟩:=List.mem_flatMap.mp h
  simp [eR] at h
  rcases h with rfl | rfl | rfl | rfl <;> exact ⟨_,_,rfl⟩
theorem Az {lp:Bool} {st:Stm} (h:st ∈ EB lp):(∃ w x,st=two w x)∨∃ w,st=one w:=by
 have key:∀ st ∈ hX ++ jf ++ lC,(∃ w x,st=two w x)∨∃ w,st=one w:=by
  intro st h
  simp [hX,jf,lC] at h
  rcases h with rfl | rfl | rfl | rfl | rfl | rfl | rfl | rfl <;> first | exact .inl ⟨_,_,rfl⟩ | exact .inr ⟨_,rfl⟩
 refine key st ?_
 cases lp with
 | false=>exact List.mem_append_left _ h
 | true=>exact h
theorem sv {P:PN} {lp:Bool} {st:Stm} (h:mX P lp st):(∃ w x,st=two w x)∨∃ w,st=one w:=by
 rcases h with h | ⟨f,_,rfl⟩ | h
 ·exact .inl (jg h)
 ·exact .inl ⟨_,_,rfl⟩
 ·exact Az h
theorem ux {n:Nat} {st:Stm} (h:(∃ w x,st=two w x)∨∃ w,st=one w):∃ x r,st = .s x :: r∧r.length≤9∧∀ e ∈ r,LvE n e:=by
 rcases h with ⟨w,x,rfl⟩ | ⟨w,rfl⟩
 ·exact ⟨w,[.s x],rfl,by simp,fun e he=>by rw [List.mem_singleton] at he; subst he; trivial⟩
 ·exact ⟨w,[],rfl,by decide,fun e he=>by cases he⟩
theorem Cg {P:PN} {b:Bdy} (n:Nat) (h:∀ x ∈ b,x ∈ be P) (hl:b.length≤1000):Lv (n + 1) b:=⟨hl,fun st hs=>ux (.inl (jg (h st hs)))⟩
theorem AA (w:Str) (a b:Bdy):cntS [.s w,.p a,.p b]=cntB a + cntB b:=by
 show 0 + (cntB a + (cntB b + 0))=_
 omega
theorem FF (w c:Str) (a b:Bdy):cntS [.s w,.s c,.p a,.p b]=cntB a + cntB b:=by
 show 0 + (0 + (cntB a + (cntB b + 0)))=_
 omega
theorem FG (w:Str) (a:Bdy):cntS [.s w,.p a]=cntB a:=by
 show 0 + (cntB a + 0)=_
 omega
theorem kS {P:PN}:∀ (lv:Nat) (lp:Bool) (b:Bdy),(∀ st ∈ b,GoodS P lv lp st)→cntB b≤1000→Lv (lv + 1) b
 | 0,lp,b,h,hc=>⟨Nat.le_trans (iR b) hc,fun st hs=>ux (sv (h st hs))⟩
 | lv + 1,lp,b,h,hc=>⟨Nat.le_trans (iR b) hc,fun st hs=>by
   have hm:=wt hs
   have two_:∀ (w:Str) (a b':Bdy),(∀ x ∈ a,GoodS P lv lp x)→Lv (lv + 1) b'→cntB a≤1000→∃ x r,([.s w,.p a,.p b']:Stm) = .s x :: r∧r.length≤9∧∀ e ∈ r,LvE (lv + 1) e:=fun w a b' h1 h2 hca=>by
    refine ⟨w,[.p a,.p b'],rfl,by simp,fun e he=>?_⟩
    rcases List.mem_cons.mp he with rfl | he
    ·exact kS lv lp a h1 hca
    ·rw [List.mem_singleton] at he; subst he; exact h2
   rcases h st hs with h | ⟨a,rfl,h1⟩ | ⟨w,a,b',_,rfl,h1,h2⟩ | ⟨c,a,b',_,rfl,h1,h2⟩ | ⟨a,b',rfl,h1,h2⟩
   ·exact ux (sv h)
   ·rw [FG] at hm
    refine ⟨aB,[.p a],rfl,by simp,fun e he=>?_⟩
    rw [List.mem_singleton] at he; subst he
    exact kS lv true a h1 (by omega)
   ·rw [AA] at hm
    exact two_ w a b' h1 (kS lv lp b' h2 (by omega)) (by omega)
   ·rw [FF] at hm
    refine ⟨bw,[.s c,.p a,.p b'],rfl,by simp,fun e he=>?_⟩
    rcases List.mem_cons.mp he with rfl | he
    ·trivial
    rcases List.mem_cons.mp he with rfl | he
    ·exact kS lv lp a h1 (by omega)
    ·rw [List.mem_singleton] at he; subst he; exact kS lv lp b' h2 (by omega)
   ·rw [AA] at hm
    exact two_ am a b' h1 (Cg lv h2 (Nat.le_trans (iR b') (by omega))) (by omega)⟩
theorem PN.Ok.cps {P:PN} (h:PN.Ok P):∀ s ∈ P.cs ++ P.rs ++ P.fs,Ca s=true:=fun s hs=>yd (h.2.2.2.2.1 s hs)
theorem uy (a b:Str):(a == b)=decide (a=b):=by
 rw [Bool.eq_iff_iff,beq_iff_eq,decide_eq_true_iff]
theorem Ch {i j:Int} {S:Sto} {Q:HK} (h:Q (.int (i - j)) S):pU (.int i) (.int j) S Q:=h
abbrev FH:Key:=.inr ("start" : Str)
abbrev DD:Key:=.inr ("bodies" : Str)
structure FullAt (S:Sto) (a b:Addr) (P:PN) (st:Str) (bs:Str→Bdy):Prop where
 pl:PlanAt S a P
 ne:a ≠ b
 sb:∃ kvs,S a=some (.dct kvs)∧gh kvs FH=some (.str st)∧gh kvs DD=some (.ref b)
 bd:∃ kvb,S b=some (.dct kvb)∧kvb.length≤100∧∀ f ∈ P.fs,gh kvb (.inr f)=some (aw (bs f))
theorem FullAt.frame {S S':Sto} {a b:Addr} {P:PN} {st:Str} {bs:Str→Bdy} (h:FullAt S a b P st bs) (e1:S' a=S a) (e2:S' b=S b):FullAt S' a b P st bs:=by
 obtain ⟨h1,h2,⟨kvs,h3,h4⟩,kvb,h5,h6⟩:=h
 exact ⟨h1.frame e1,h2,⟨kvs,e1.trans h3,h4⟩,kvb,e2.trans h5,h6⟩
theorem FullAt.start {S:Sto} {a b:Addr} {P:PN} {st:Str} {bs:Str→Bdy} {Q:HK} (h:FullAt S a b P st bs) (g:Q (.str st) S):fB (.ref a) (.str ("start" : Str)) S Q:=by
 obtain ⟨_,_,⟨kvs,h1,h2,h3⟩,_⟩:=h
 exact je h1 rfl h2 g
theorem FullAt.bodies {S:Sto} {a b:Addr} {P:PN} {st:Str} {bs:Str→Bdy} {Q:HK} (h:FullAt S a b P st bs) (g:Q (.ref b) S):fB (.ref a) (.str ("bodies" : Str)) S Q:=by
 obtain ⟨_,_,⟨kvs,h1,h2,h3⟩,_⟩:=h
 exact je h1 rfl h3 g
theorem FullAt.body {S:Sto} {a b:Addr} {P:PN} {st:Str} {bs:Str→Bdy} {f:Str} {Q:HK} (h:FullAt S a b P st bs) (hf:f ∈ P.fs) (g:Q (aw (bs f)) S):fB (.ref b) (.str f) S Q:=by
 obtain ⟨_,_,_,kvb,h1,_,h2⟩:=h
 exact je h1 rfl (h2 f hf) g
def FrO (p q:Addr) (S S':Sto):Prop:=∀ x,x ≠ p→x ≠ q→S x ≠ none→S' x=S x
theorem Fr2.o {p q:Addr} {S S':Sto} (h:Fr2 p q S S'):FrO p q S S':=fun x h1 h2 _=>h x h1 h2
theorem FrO.trans {p q:Addr} {S T U:Sto} (h:FrO p q S T) (k:FrO p q T U):FrO p q S U:=fun x h1 h2 h3=>by
 have:=h x h1 h2 h3
 rw [k x h1 h2 (by rw [this]; exact h3),this]
def GO (P:PN) (room:Nat) (st:Str) (bs:Str→Bdy):Prop:=PN.Ok P∧st ∈ P.fs∧∀ f ∈ P.fs,(∀ x ∈ bs f,GoodS P 3 false x)∧cntB (bs f)≤room
theorem wv {t u:HTS} {D0:HEnds} {env:aW} {S:Sto} (P:Sto→Prop) (h:∀ D1:HEnds,(∀ S',P S'→D1.nx env S')→t D1 env S) (hn:∀ S',P S'→u D0 env S'):aj t u D0 env S :=
 h { D0 with nx:=u D0 } fun S' hp=>hn S' hp
theorem gE {t u:HTS} {D0:HEnds} {env:aW} {S:Sto} (P:aW→Sto→Prop) (h:∀ D1:HEnds,(∀ e S',P e S'→D1.nx e S')→t D1 env S) (hn:∀ e S',P e S'→u D0 e S'):aj t u D0 env S :=
 h { D0 with nx:=u D0 } fun e S' hp=>hn e S' hp
def e9:List Str:=[("either" : Str),("told" : Str),("guard" : Str),("lastly" : Str)]
def aG {α:Type} (w:Str) (r:List α):List α :=
 if w=aB∧r.length=1 then r else if w=bw∧r.length=3 then r.drop 1 else if w ∈ e9∧r.length=2 then r else []
theorem lR {α β:Type} (f:α→β) (w:Str) (r:List α):aG w (r.map f)=(aG w r).map f:=by
 unfold aG
 rw [List.length_map]
 split
 ·rfl
 ·split
  ·rw [List.map_drop]
  ·split <;> rfl
theorem yf {α:Type} (w:Str) (r:List α):∃ t,r=t ++ aG w r:=by
 unfold aG
 split
 ·exact ⟨[],rfl⟩
 ·split
  ·exact ⟨r.take 1,(List.take_append_drop 1 r).symm⟩
  ·split
   ·exact ⟨[],rfl⟩
   ·exact ⟨r,(List.append_nil r).symm⟩
def mY:HSp:=fun ds S Q _=>∃ (w:Str) (xs:List D),ds=[.tup (.str w :: xs)]∧Q (.str w) S
theorem uz {ds:List D} {S:Sto} {Q E:HK} (h:mY ds S Q E):jB (EN Q E) (ao 1 ds) S:=by
 obtain ⟨w,xs,rfl,g⟩:=h
 unfold jB
 walk_at "p"
 exact aF (S:=S) (x:=.tup (.str w :: xs)) rfl (d:=.str w) (ii (l:=D.str w :: xs) (n:=0) (by simp)) (Rt.mk g)
theorem yg {c d:HTT} {env:aW} {S:Sto} (a b:Bool) (hc:∀ (R:Bool→Sto→Prop) (E:HK),R a S→c env S R E) (hd:a=true→∀ (R:Bool→Sto→Prop) (E:HK),R b S→d env S R E) {R:Bool→Sto→Prop} {E:HK} (h:R (a && b) S):dU c d env S R E :=
 hc _ _ (by cases a with
  | true=>exact hd rfl _ _ h
  | false=>exact h)
theorem or2 {c d:HTT} {env:aW} {S:Sto} (a b:Bool) (hc:∀ (R:Bool→Sto→Prop) (E:HK),R a S→c env S R E) (hd:a=false→∀ (R:Bool→Sto→Prop) (E:HK),R b S→d env S R E) {R:Bool→Sto→Prop} {E:HK} (h:R (a || b) S):hOr c d env S R E :=
 hc _ _ (by cases a with
  | true=>exact h
  | false=>exact hd rfl _ _ h)
theorem FI {c:HTT} {env:aW} {S:Sto} (a:Bool) (hc:∀ (R:Bool→Sto→Prop) (E:HK),R a S→c env S R E) {R:Bool→Sto→Prop} {E:HK} (h:R (!a) S):fK c env S R E:=hc _ _ h
theorem yh {i:Nat} {x w:Str} {env:aW} {S:Sto} (hi:env[i]? = some (some (.str x))) {R:Bool→Sto→Prop} {E:HK} (h:R (decide (x=w)) S):hB (hop gEq (hV i) (hC (.str w))) env S R E:=by
 simp only [hB,hop,hV,hC]
 rw [hi]
 dsimp only
 exact zC (r:=decide (x=w)) (uy _ _) h
theorem Ci {i:Nat} {xs:List D} {n:Int} {env:aW} {S:Sto} (hi:env[i]? = some (some (.tup xs))) {R:Bool→Sto→Prop} {E:HK} (h:R (decide ((xs.length:Int)=n)) S):hB (hop gEq (hcb dJ (aa (hV i) ae)) (hC (.int n))) env S R E:=by
 simp only [hB,hop,hcb,aa,ae,hV,hC]
 rw [hi]
 dsimp only
 refine bz rfl ?_
 exact jG h
theorem jI (ss:List Str) (x:Str):(ss.any fun z=>z == x)=decide (x ∈ ss):=by
 rw [Bool.eq_iff_iff,List.any_eq_true,decide_eq_true_iff]
 constructor
 ·rintro ⟨z,h1,h2⟩
  rw [← LawfulBEq.eq_of_beq h2]; exact h1
 ·intro h
  exact ⟨x,h,beq_self_eq_true x⟩
theorem yi {neg:Bool} {i:Nat} {x:Str} {ss:List Str} {d:D} {env:aW} {S:Sto} (hi:env[i]? = some (some (.str x))) (hd:d = .tup (ss.map D.str)) {R:Bool→Sto→Prop} {E:HK} (h:R (ng neg (decide (x ∈ ss))) S):hB (hop (iG neg) (hV i) (hC d)) env S R E:=by
 subst hd
 simp only [hB,hop,hV,hC]
 rw [hi]
 dsimp only
 exact mV (jI ss x) h
def dY:HSp:=fun ds S Q _=>∃ (w:Str) (xs:List D),ds=[.tup (.str w :: xs)]∧Q (.tup (aG w xs)) S
theorem rO {ds:List D} {S:Sto} {Q E:HK} (h:dY ds S Q E):eW mY (EN Q E) (ao 2 ds) S:=by
 obtain ⟨w,xs,rfl,g⟩:=h
 unfold eW
 have lenE:∀ n:Nat,decide ((((D.str w :: xs).length:Nat):Int)=((n + 1:Nat):Int))=decide (xs.length=n):=fun n=>by
  rw [List.length_cons,Bool.eq_iff_iff,decide_eq_true_iff,decide_eq_true_iff]; omega
 refine fy (.str w) S (fun R E r=>?_) ?_
 ·walk_at "p"
  exact ⟨w,xs,rfl,r⟩
 refine bZ (decide (w=aB) && decide (xs.length=1)) (fun R E r=>?_) (fun hb=>?_) (fun hb=>?_)
 ·exact yg _ _ (fun R E r=>yh rfl r) (fun _ R E r=>Ci rfl (by rw [← lenE 1] at r; exact r)) r
 ·obtain ⟨h1,h2⟩:=Bool.and_eq_true_iff.mp hb
  have h1:=of_decide_eq_true h1
  have h2:=of_decide_eq_true h2
  match xs,h2 with
  | [x],_ =>
    have e:aG w [x]=[x]:=by unfold aG; rw [if_pos ⟨h1,rfl⟩]
    rw [e] at g
    exact Rt.mk g
 have h1:¬ (w=aB∧xs.length=1):=fun h=>by rw [decide_eq_true h.1,decide_eq_true h.2] at hb; cases hb
 refine bZ (decide (w=bw) && decide (xs.length=3)) (fun R E r=>?_) (fun hb=>?_) (fun hb=>?_)
 ·exact yg _ _ (fun R E r=>yh rfl r) (fun _ R E r=>Ci rfl (by rw [← lenE 3] at r; exact r)) r
 ·obtain ⟨h3,h2⟩:=Bool.and_eq_true_iff.mp hb
  have h3:=of_decide_eq_true h3
  have h2:=of_decide_eq_true h2
  match xs,h2 with
  | [x,y,z],_ =>
    have e:aG w [x,y,z]=[y,z]:=by unfold aG; rw [if_neg h1,if_pos ⟨h3,rfl⟩] <;> rfl
    rw [e] at g
    exact Rt.mk g
 have h2:¬ (w=bw∧xs.length=3):=fun h=>by rw [decide_eq_true h.1,decide_eq_true h.2] at hb; cases hb
 refine bZ (decide (w ∈ e9) && decide (xs.length=2)) (fun R E r=>?_) (fun hb=>?_) (fun hb=>?_)
 ·exact yg _ _ (fun R E r=>yi (neg:=false) (ss:=e9) rfl rfl r) (fun _ R E r=>Ci rfl (by rw [← lenE 2] at r; exact r)) r
 ·obtain ⟨h3,h4⟩:=Bool.and_eq_true_iff.mp hb
  have h3:=of_decide_eq_true h3
  have h4:=of_decide_eq_true h4
  match xs,h4 with
  | [x,y],_ =>
    have e:aG w [x,y]=[x,y]:=by unfold aG; rw [if_neg h1,if_neg h2,if_pos ⟨h3,rfl⟩]
    rw [e] at g
    exact Rt.mk g
 have h3:¬ (w ∈ e9∧xs.length=2):=fun h=>by rw [decide_eq_true h.1,decide_eq_true h.2] at hb; cases hb
 have e:aG w xs=[]:=by unfold aG; rw [if_neg h1,if_neg h2,if_neg h3]
 rw [e] at g
 exact Rt.mk g
inductive All2 {α β:Type} (R:α→β→Prop):List α→List β→Prop where
 | nil:All2 R [] []
 | cons {x:α} {y:β} {l:List α} {m:List β} (h:R x y) (t:All2 R l m):All2 R (x :: l) (y :: m)
theorem All2.imp {α β:Type} {R T:α→β→Prop} {l:List α} {m:List β} (h:All2 R l m) (i:∀ x y,y ∈ m→R x y→T x y):All2 T l m:=by
 induction h with
 | nil=>exact .nil
 | cons h t ih=>exact .cons (i _ _ zMs h) (ih fun x y hy=>i x y (zMt hy))
theorem All2.length {α β:Type} {R:α→β→Prop} {l:List α} {m:List β} (h:All2 R l m):l.length=m.length:=by
 induction h with
 | nil=>rfl
 | cons h t ih=>rw [List.length_cons,List.length_cons,ih]
theorem All2.at {α β:Type} {R:α→β→Prop} {l:List α} {m:List β} (h:All2 R l m):∀ {i:Nat} {x:α},l[i]? = some x→∃ y,m[i]? = some y∧R x y:=by
 induction h with
 | nil=>intro i x h; simp at h
 | cons h t ih =>
   intro i x hx
   cases i with
   | zero=>rw [zG0] at hx; obtain rfl:=Option.some.inj hx; exact ⟨_,rfl,h⟩
   | succ i=>rw [zG1] at hx; rw [zG1]; exact ih hx
theorem All2.map {α β:Type} {R:α→β→Prop} {f:β→α} {m:List β} (h:∀ y ∈ m,R (f y) y):All2 R (m.map f) m:=by
 induction m with
 | nil=>exact .nil
 | cons y m ih=>exact .cons (h y zMs) (ih fun z hz=>h z (zMt hz))
def AB (w:Str) (n:Nat):Nat:=if w=aB∧n=1 then 0 else if w=bw∧n=3 then 1 else if w ∈ e9∧n=2 then 0 else n
theorem ww {α:Type} (w:Str) (r:List α):aG w r=r.drop (AB w r.length):=by
 unfold aG AB
 split
 ·rfl
 ·split
  ·rfl
  ·split
   ·rfl
   ·rw [List.drop_length]
theorem wx {α β:Type} {w:Str} {t ps:List α} {u ys:List β} (h:aG w (t ++ ps)=ps) (l1:u.length=t.length) (l2:ys.length=ps.length):aG w (u ++ ys)=ys:=by
 rw [ww] at h ⊢
 have e:(t ++ ps).length - AB w (t ++ ps).length=ps.length:=by rw [← List.length_drop,h]
 have hk:AB w (t ++ ps).length≤(t ++ ps).length:=by
  unfold AB
  split
  ·exact Nat.zero_le _
  ·split
   ·omega
   ·split
    ·exact Nat.zero_le _
    ·exact Nat.le_refl _
 rw [List.length_append] at e hk
 rw [List.length_append,l1,l2]
 rw [show AB w (t.length + ps.length)=u.length by rw [l1]; omega]
 exact List.drop_left
def LooseB:Nat→Sto→D→Bdy→Prop
 | 0,_,_,_=>False
 | n + 1,S,d,b=>b.length≤1000∧∃ ds,(d = .tup ds∨∃ a,d = .ref a∧S a=some (.lst ds))∧All2 (fun x st=>∃ (w:Str) (t ps:Stm) (ys:List D),st = .s w :: (t ++ ps)∧aG w (t ++ ps)=ps∧(t ++ ps).length≤9∧x = .tup (.str w :: (entsD t ++ ys))∧All2 (fun y e=>∃ c,e = .p c∧LooseB n S y c) ys ps) ds b
theorem LooseB.le' {S T:Sto} (l:∀ a xs,S a=some (.lst xs)→T a=some (.lst xs)):∀ {n:Nat} {d:D} {b:Bdy},LooseB n S d b→LooseB n T d b
 | 0,_,_,h=>h
 | n + 1,d,b,⟨h0,ds,h1,h2⟩=>by
   refine ⟨h0,ds,?_,h2.imp fun x st _ ⟨w,t,ps,ys,e1,e2,e3,e4,h3⟩=>⟨w,t,ps,ys,e1,e2,e3,e4,h3.imp fun y e _ ⟨c,e5,h4⟩=>⟨c,e5,LooseB.le' l h4⟩⟩⟩
   rcases h1 with h | ⟨a,e,h⟩
   ·exact .inl h
   ·exact .inr ⟨a,e,l a _ h⟩
theorem LooseB.le {S T:Sto} (l:SLe S T) {n:Nat} {d:D} {b:Bdy} (h:LooseB n S d b):LooseB n T d b:=h.le' fun a xs e=>l a _ e
def qz (n:Nat):HSp:=fun ds S Q _=>∃ (d:D) (b:Bdy),ds=[d]∧LooseB n S d b∧Q (aw b) S
theorem AC {n:Nat} {x0 x1 x2 x4:Option D} {S:Sto} {Q:HK} {ys:List D} {ps:List Ent} (h:All2 (fun y e=>∃ c,e = .p c∧LooseB n S y c) ys ps):∀ acc:List D,Q (.lst (acc ++ entsD ps)) S →
 cW (.nm 3) fM (an 1 [] (qz n) (aa (hV 3) ae)) none ys acc [x0,x1,x2,none,x4] S Q:=by
 induction h with
 | nil =>
   intro acc h
   rw [show entsD []=[] from rfl,List.append_nil] at h
   exact h
 | @cons y e ys ps h t ih =>
   intro acc hq
   obtain ⟨c,rfl,hc⟩:=h
   refine ⟨y,c,rfl,hc,?_⟩
   exact ih (acc ++ [aw c]) (by rw [List.append_assoc]; exact hq)
theorem FJ {d:D} {ds:List D} {S:Sto} {p:Pt} {tb:HTS} {D0:HEnds} {env:aW} (h:d = .tup ds∨∃ a,d = .ref a∧S a=some (.lst ds)) (I:Nat→aW→Sto→Prop) (hI:∀ a,d = .ref a→∀ i e S',I i e S'→S' a=some (.lst ds))
 (hs:∀ i d env S,ds[i]? = some d→I i env S→∃ env1,bu p d env=some env1∧∀ K:aW→Sto→Prop,(∀ e S',I (i + 1) e S'→K e S')→tb { D0 with nx:=K,ct:=K,bk:=D0.nx } env1 S)
 (hf:∀ env S,I ds.length env S→D0.nx env S) (h0:I 0 env S):gSq d S fun xs k S1=>cZ p tb k xs D0 env S1:=by
 rcases h with rfl | ⟨a,rfl,ha⟩
 ·exact c7 I ds hs hf h0
 ·show (match items S (.ref a) with
   | some ds=>cZ p tb (Ai (.ref a) ds) ds D0 env S
   | none=>False)
  have e:items S (.ref a)=some ds:=by
   show (match S a with
    | some (.lst ds)=>some ds
    | _=>none)=some ds
   rw [ha]
  rw [e]
  exact wn I ds (fun i e S'=>hI a rfl i e S') hs hf h0
theorem yj {n:Nat} {ds:List D} {S:Sto} {Q E:HK} (h:qz (n + 1) ds S Q E):pG dY (qz n) (EN Q E) (ao 5 ds) S:=by
 obtain ⟨d,b,rfl,⟨hb0,xs,hd,hall⟩,g⟩:=h
 unfold pG
 refine dC ?_
 walk_at "p"
 intro r hr
 have er0:up S r (.lst []) r=some (.lst ((b.take 0).map aY)):=ai
 have fr0:∀ x,x ≠ r→up S r (.lst []) x=S x:=fun x h=>ar h
 generalize up S r (.lst [])=S0 at er0 fr0 ⊢
 have le:∀ S',(∀ x,x ≠ r→S' x=S x)→SLe S S':=fun S' h a m e=>by rw [h a (sne e hr)]; exact e
 have hlen:=hall.length
 have hd0:d = .tup xs∨∃ a,d = .ref a∧S0 a=some (.lst xs):=by
  rcases hd with h | ⟨a,h1,h2⟩
  ·exact .inl h
  ·exact .inr ⟨a,h1,(fr0 a (sne h2 hr)).trans h2⟩
 refine gE (fun env' S'=>(∃ y2 y4,env'=[some d,some (.ref r),y2,none,y4])∧S' r=some (.lst (b.map aY))∧∀ x,x ≠ r→S' x=S x) ?_ fun env' S' ⟨⟨y2,y4,ee⟩,er',fr'⟩=>?_
 ·intro D1 hD
  walk_at "p"
  refine FJ hd0 (fun i env' S'=>(∃ y2 y4,env'=[some d,some (.ref r),y2,none,y4])∧S' r=some (.lst ((b.take i).map aY))∧∀ x,x ≠ r→S' x=S x) (fun a ha i e S' ⟨_,_,h⟩=>?_) (fun i x env' S' hx ⟨⟨y2,y4,ee⟩,er',fr'⟩=>?_) (fun env' S' ⟨h1,h2,h3⟩=>hD _ _ ⟨h1,by rw [hlen,List.take_length] at h2; exact h2,h3⟩) ⟨⟨none,none,rfl⟩,er0,fr0⟩
  ·subst ha
   rcases hd with h1 | ⟨a',h1,h2⟩
   ·cases h1
   ·cases h1
    rw [h a (sne h2 hr)]; exact h2
  ·subst ee
   obtain ⟨st,hst,w,t,ps,ys,e1,e2,e3,e4,hys⟩:=hall.at hx
   refine ⟨_,rfl,fun K hK=>?_⟩
   have hpg:aG w (entsD t ++ ys)=ys:=wx e2 (by rw [bN,List.length_map]) hys.length
   have hys':=hys.imp fun y e _ ⟨c,h1,h2⟩=>(⟨c,h1,h2.le (le S' fr')⟩:∃ c,e=Ent.p c∧LooseB n S' y c)
   have hle:entsD (t ++ ps)=entsD t ++ entsD ps:=by rw [bN,bN,bN,List.map_append]
   have hst2:aY st = .tup (.str w :: (entsD t ++ entsD ps)):=by rw [e1,← hle] <;> rfl
   have hlt:(entsD t).length=t.length:=by rw [bN,List.length_map]
   have hlp:(entsD ps).length=ps.length:=by rw [bN,List.length_map]
   have h9:=e3
   rw [List.length_append] at h9
   subst e4
   have fin:∀ K1:aW→Sto→Prop,(∀ e S'',((∃ y2 y4,e=[some d,some (.ref r),y2,none,y4])∧S'' r=some (.lst ((b.take (i + 1)).map aY))∧∀ x,x ≠ r→S'' x=S x)→K1 e S'')→K1 [some d,some (.ref r),some (.tup (.str w :: (entsD t ++ ys))),none,some (.tup (entsD ps))] (up S' r (.lst ((b.take i).map aY ++ [aY st]))):=fun K1 h=>h _ _ ⟨⟨_,_,rfl⟩,by rw [ai,nV hst,List.map_append] <;> rfl,fun x hx=>(ar hx).trans (fr' x hx)⟩
   have hbl:((b.take i).map aY).length < 16777216:=by rw [List.length_map,List.length_take]; omega
   refine fy (.tup (entsD ps)) S' (fun R E q=>?_) ?_
   ·walk_at "p"
    refine ⟨w,_,rfl,?_⟩
    rw [hpg]
    refine sqT ?_
    refine AC hys' [] ?_
    exact zA q
   ·refine ifs (!(entsD ps).isEmpty) (fun R E q=>?_) (fun hb=>?_) (fun hb=>?_)
    ·walk_at "p"
     exact q
    ·walk_at "p"
     rw [cB er']
     dsimp only
     refine bz rfl ?_
     refine bz rfl ?_
     refine Ch ?_
     dsimp only
     rw [show (((D.str w :: (entsD t ++ ys)).length:Nat):Int) - (((entsD ps).length:Nat):Int)=((t.length + 1:Nat):Int) by
      rw [List.length_cons,List.length_append,hlt,hlp,hys.length]; omega]
     refine FB (.inl rfl) ?_
     rw [show (D.str w :: (entsD t ++ ys)).take (t.length + 1)=D.str w :: entsD t by rw [List.take_succ_cons,← hlt,List.take_left]]
     refine zB ?_
     refine ⟨?_,?_⟩
     ·exact fi (by rw [List.length_cons,hlt,hlp]; omega)
     ·rw [List.cons_append,← hst2]
      exact fH er' hbl (fin _ hK)
    ·have he:entsD ps=[]:=by
      cases h:entsD ps with
      | nil=>rfl
      | cons x l=>rw [h] at hb; cases hb
     have hy:ys=[]:=by
      cases ys with
      | nil=>rfl
      | cons y ys=>have:=hys.length; rw [← hlp,he] at this; cases this
     walk_at "p"
     rw [cB er']
     dsimp only
     refine zB ?_
     have hst3:D.tup (.str w :: (entsD t ++ ys))=aY st:=by rw [hst2,hy,he]
     have f2:=fin K hK
     rw [← hst3] at f2
     exact fH er' hbl f2
 ·subst ee
  walk_at "p"
  refine DA er' ?_
  rw [← fW]
  exact Rt.less (le S' fr') g
def WfB:Nat→Bdy→Prop
 | 0,_=>False
 | n + 1,b=>b.length≤1000∧∀ st ∈ b,∃ (w:Str) (r:Stm),st = .s w :: r∧r.length≤9∧∀ e ∈ aG w r,∃ c,e = .p c∧WfB n c
def rP:Nat→Bdy→Prop
 | 0,_=>True
 | n + 1,b=>∀ st ∈ b,∀ (w:Str) (r:Stm),st = .s w :: r→cntS r=((aG w r).map DC).sum∧∀ c,.p c ∈ aG w r→rP n c
theorem All2.mem {α β:Type} {R:α→β→Prop} {l:List α} {m:List β} (h:All2 R l m):∀ y ∈ m,∃ x ∈ l,R x y:=by
 induction h with
 | nil=>intro y hy; cases hy
 | cons h t ih =>
   intro y hy
   rcases List.mem_cons.mp hy with rfl | hy
   ·exact ⟨_,zMs,h⟩
   ·obtain ⟨x,h1,h2⟩:=ih y hy
    exact ⟨x,zMt h1,h2⟩
theorem LooseB.wf {S:Sto}:∀ {n:Nat} {d:D} {b:Bdy},LooseB n S d b→WfB n b
 | 0,_,_,h=>h
 | n + 1,d,b,⟨h0,ds,h1,h2⟩=>⟨h0,fun st hst=>by
   obtain ⟨x,hx,w,t,ps,ys,e1,e2,e3,e4,h3⟩:=h2.mem st hst
   refine ⟨w,t ++ ps,e1,e3,fun e he=>?_⟩
   rw [e2] at he
   obtain ⟨y,_,c,h4,h5⟩:=h3.mem e he
   exact ⟨c,h4,LooseB.wf h5⟩⟩
theorem WfB.loose {S:Sto}:∀ {n:Nat} {b:Bdy},WfB n b→LooseB n S (aw b) b
 | 0,_,h=>h
 | n + 1,b,⟨h0,h1⟩=>by
   refine ⟨h0,stmsD b,.inl rfl,?_⟩
   rw [fW]
   refine All2.map fun st hst=>?_
   obtain ⟨w,r,e1,e2,e3⟩:=h1 st hst
   obtain ⟨t,ht⟩:=yf w r
   refine ⟨w,t,aG w r,entsD (aG w r),by rw [← ht]; exact e1,by rw [← ht],by rw [← ht]; exact e2,?_,?_⟩
   ·rw [e1,bN (aG w r),bN t,← List.map_append,← ht,← bN] <;> rfl
   ·rw [bN]
    refine All2.map fun e he=>?_
    obtain ⟨c,h2,h3⟩:=e3 e he
    subst h2
    exact ⟨c,rfl,WfB.loose h3⟩
def mZ (n:Nat):HSp:=fun ds S Q _=>∃ b:Bdy,ds=[aw b]∧WfB n b∧∀ m:Nat,(rP n b→m=cntB b)→Q (.int (m:Nat)) S
theorem qA {n:Nat} {x0 x1 x2:Option D} {S:Sto} {Q:HK}:∀ (ps:List Ent) (acc:List Int),(∀ e ∈ ps,∃ c,e = .p c∧WfB n c)→(∀ s:Nat,((∀ c,.p c ∈ ps→rP n c)→s=(ps.map DC).sum)→∀ ms:List Int,ms.sum=acc.sum + (s:Int)→Q (.lst (ms.map D.int)) S) →
 cW (.nm 3) fM (an 1 [] (mZ n) (aa (hV 3) ae)) none (entsD ps) (acc.map D.int) [x0,x1,x2,none] S Q
 | [],acc,_,h=>h 0 (fun _=>rfl) acc (by simp)
 | e :: ps,acc,hp,h=>by
   obtain ⟨c,rfl,hc⟩:=hp e zMs
   refine ⟨c,rfl,hc,fun m hm=>?_⟩
   have ih:=qA (n:=n) (x0:=x0) (x1:=x1) (x2:=x2) (S:=S) (Q:=Q) ps (acc ++ [(m:Int)]) (fun e he=>hp e (zMt he)) (fun s hs ms e1=>by
    refine h (m + s) (fun hr=>?_) ms ?_
    ·rw [hm (hr c zMs),hs fun c' hc'=>hr c' (zMt hc')]
     rw [List.map_cons,List.sum_cons] <;> rfl
    ·rw [e1,List.sum_append]; simp; omega)
   rw [List.map_append] at ih
   exact ih
theorem wz {n:Nat} {ds:List D} {S:Sto} {Q E:HK} (h:mZ (n + 1) ds S Q E):mM dY (mZ n) (EN Q E) (ao 4 ds) S:=by
 obtain ⟨b,rfl,⟨hb0,hb⟩,g⟩:=h
 unfold mM
 walk_at "q"
 walk_at "q"
 refine sqT ?_
 rw [fW]
 refine c7 (I:=fun i env S'=>S'=S∧∃ (m:Nat) (y:Option D),(rP (n + 1) b→m=cntB (b.take i))∧env=[some (aw b),some (.int (m:Nat)),y,none]) _ (fun i d env S' hd ⟨eS,m,y,hm,e2⟩=>?_) (fun env S' ⟨eS,m,y,hm,e2⟩=>?_) ⟨rfl,0,none,fun _=>rfl,rfl⟩
 ·subst eS e2
  obtain ⟨st,hs,rfl⟩:=Cd hd
  have hmem:=List.mem_of_getElem? hs
  obtain ⟨w,r,e1,h2,h3⟩:=hb st hmem
  subst e1
  refine ⟨_,rfl,fun K hK=>?_⟩
  walk_at "p"
  refine ⟨w,entsD r,rfl,?_⟩
  rw [bN,lR,← bN]
  refine sqT ?_
  refine qA (aG w r) [] h3 fun s CZ ms ems=>?_
  refine wo (u4 _) ?_
  refine mW ?_
  rw [ems]
  dsimp only
  have e4:((m:Nat):Int) + (1 + (([]:List Int).sum + ((s:Nat):Int)))=((m + (1 + s):Nat):Int):=by simp
  rw [e4]
  refine hK _ _ ⟨rfl,_,_,fun hr=>?_,rfl⟩
  have hr1:=hr _ hmem w r rfl
  rw [nV hs,qy,Ce,hm hr,CZ hr1.2,← hr1.1]
  show _=cntB (b.take i) + (1 + (0 + cntS r))
  omega
 ·subst eS e2
  rw [List.length_map,List.take_length] at hm
  walk_at "p"
  exact Rt.mk (g m hm)
def fnD (x:Str) (b:Bdy) (m:Nat):D:=.obj 3 [.str x,aw b,.int (m:Nat)]
def kz (n:Nat):HSp:=fun ds S Q _=>∃ (p:Addr) (x:Str) (d:D) (b:Bdy),ds=[.ref p,.str x,d]∧S p=some (.ins 3 [])∧LooseB n S d b∧∀ m:Nat,(rP n b→m=cntB b)→Q .non (up S p (.ins 3 [.str x,aw b,.int (m:Nat)]))
theorem uA {n:Nat} {ds:List D} {S:Sto} {Q E:HK} (h:kz n ds S Q E):fm (qz n) (mZ n) (EN Q E) (ao 3 ds) S:=by
 obtain ⟨p,x,d,b,rfl,hp,hl,g⟩:=h
 unfold fm
 walk_at "q"
 refine c9 hp rfl rfl ?_
 have l1:LooseB n (up S p (.ins 3 [.str x])) d b:=hl.le' fun a xs e=>by
  have:a ≠ p:=fun h=>by subst h; rw [hp] at e; cases e
  rw [ar this]; exact e
 walk_at "q"
 refine ⟨d,b,rfl,l1,?_⟩
 refine c9 ai rfl rfl ?_
 walk_at "p"
 refine b9 ai rfl rfl ?_
 refine ⟨b,rfl,hl.wf,fun m hm=>?_⟩
 refine c9 ai rfl rfl ?_
 have:=g m hm
 rw [dI,dI]
 exact Rt.mk this
def bT:List Str:=[("put" : Str),("blank" : Str),("give" : Str)]
def co:List Str:=[("push" : Str),("pop" : Str),("cut" : Str)]
def iy:List Str:=[("fault" : Str),("may" : Str),("again" : Str),("out" : Str)]
def m4:List Str:=[("again" : Str),("out" : Str)]
abbrev EC (l:List Str):D:=.tup (l.map D.str)
abbrev jh (l:List Str):D:=.tpx (l.map D.str)
structure Fn where
 x:Str
 b:Bdy
 m:Nat
def Fn.d (f:Fn):D:=fnD f.x f.b f.m
structure ChkAt (S:Sto) (p c:Addr) (P:PN) (fl:List Fn) (f:Fn) (st:D) (num:Nat):Prop where
 hp:S p=some (.ins 5 [.ref c,f.d,.int (num:Nat)])
 hc:S c=some (.ins 4 [jh P.cs,jh P.rs,.tup (fl.map Fn.d),st])
 hf:fl.map Fn.x=P.fs
def fA (P:PN) (w:Str):List Str :=
 if w ∈ bT then P.cs else if w ∈ co then P.rs else if w=("deeper" : Str) then P.fs else if w=("answer" : Str) then [("copy" : Str),("view" : Str)] else if w=("stop" : Str) then [("found" : Str),("none" : Str)] else []
def nW:HSp:=fun ds S Q _=>∃ (p c:Addr) (P:PN) (fl:List Fn) (f:Fn) (st:D) (num:Nat) (w:Str),ds=[.ref p,.str w]∧ChkAt S p c P fl f st num∧Q (EC (fA P w)) S
theorem rQ {ds:List D} {S:Sto} {Q E:HK} (h:nW ds S Q E):eB (EN Q E) (ao 3 ds) S:=by
 obtain ⟨p,c,P,fl,f,st,num,w,rfl,⟨hp,hc,hf⟩,g⟩:=h
 unfold eB
 refine bZ (decide (w ∈ bT)) (fun R E r=>yi (neg:=false) (ss:=bT) rfl rfl r) (fun hb=>?_) (fun hb=>?_)
 ·unfold fA at g
  rw [if_pos (of_decide_eq_true hb)] at g
  simp only [aA,hWk,hun,hV,zG0]
  exact b9 hp rfl rfl (b9 hc rfl rfl (Rt.mk g))
 have h1:=of_decide_eq_false hb
 refine bZ (decide (w ∈ co)) (fun R E r=>yi (neg:=false) (ss:=co) rfl rfl r) (fun hb=>?_) (fun hb=>?_)
 ·unfold fA at g
  rw [if_neg h1,if_pos (of_decide_eq_true hb)] at g
  simp only [aA,hWk,hun,hV,zG0]
  exact b9 hp rfl rfl (b9 hc rfl rfl (Rt.mk g))
 have h2:=of_decide_eq_false hb
 refine bZ (decide (w=("deeper" : Str))) (fun R E r=>yh rfl r) (fun hb=>?_) (fun hb=>?_)
 ·unfold fA at g
  rw [if_neg h1,if_neg h2,if_pos (of_decide_eq_true hb),← hf,show EC (fl.map Fn.x)=D.tup (fl.map (D.str ∘ Fn.x)) by rw [← List.map_map]] at g
  walk_at "p"
  refine b9 hp rfl rfl (b9 hc rfl rfl ?_)
  refine sqT ?_
  have lp:∀ (l:List Fn) (acc:List D) (x0 x1:Option D),dD [.lst (acc ++ l.map (D.str ∘ Fn.x))] S (Rt Q)→cW (.nm 2) fM (hun (ba cy) (hV 2)) none (l.map Fn.d) acc [x0,x1,none] S (fun a S2=>dD [a] S2 (Rt Q)):=by
   intro l
   induction l with
   | nil=>intro acc x0 x1 h; rw [List.map_nil,List.append_nil] at h; exact h
   | cons f l ih =>
     intro acc x0 x1 h
     refine ih (acc ++ [.str f.x]) x0 x1 ?_
     rw [List.append_assoc]; exact h
  exact lp fl [] _ _ (Rt.mk g)
 have h3:=of_decide_eq_false hb
 refine bZ (decide (w=("answer" : Str))) (fun R E r=>yh rfl r) (fun hb=>?_) (fun hb=>?_)
 ·unfold fA at g
  rw [if_neg h1,if_neg h2,if_neg h3,if_pos (of_decide_eq_true hb)] at g
  exact Rt.mk g
 have h4:=of_decide_eq_false hb
 refine bZ (decide (w=("stop" : Str))) (fun R E r=>yh rfl r) (fun hb=>?_) (fun hb=>?_)
 ·unfold fA at g
  rw [if_neg h1,if_neg h2,if_neg h3,if_neg h4,if_pos (of_decide_eq_true hb)] at g
  exact Rt.mk g
 have h5:=of_decide_eq_false hb
 unfold fA at g
 rw [if_neg h1,if_neg h2,if_neg h3,if_neg h4,if_neg h5] at g
 exact Rt.mk g
def ED (e:Option Ent) (ss:List Str):Bool:=match e with
 | some (.s x)=>decide (x ∈ ss)
 | _=>false
def gZ (P:PN) (w:Str) (r:Stm) (lp la:Bool):Bool :=
 if (la && (!decide (w ∈ bT) && !decide (w ∈ co)))=true then false
 else if (decide (w ∈ m4) && !lp)=true then false
 else if w ∈ iy then decide (r.length=0)
 else if w=bw then decide (r.length=3) && ED r[0]? P.cs
 else if w=aB∨w ∈ e9 then !(aG w r).isEmpty
 else decide (r.length=1) && ED r[0]? (fA P w)
def sw (w:Str) (r:Stm):Prop:=(w=bw→r.length=3→∃ x,r[0]? = some (.s x))∧(w ∉ iy→w ≠ bw→w ≠ aB→w ∉ e9→r.length=1→∃ x,r[0]? = some (.s x))
def kB:HSp:=fun ds S Q _=>∃ (p c:Addr) (P:PN) (fl:List Fn) (f:Fn) (st:D) (num:Nat) (w:Str) (r:Stm) (lp la:Bool),ds=[.ref p,aY (.s w :: r),.bl lp,.bl la]∧ChkAt S p c P fl f st num∧sw w r∧Q (.bl (gZ P w r lp la)) S
theorem eF {c:Nat} {S:Sto} {p:Addr} {ds:List D} (h:S p=some (.ins c ds)):isC c S (.ref p)=true:=by
 show (match S p with
  | some (.ins c' _)=>Nat.beq c' c
  | _=>false)=true
 rw [h]
 exact Nat.beq_refl c
theorem at1 {w x:Str} {r:Stm} (h:r[0]? = some (.s x)):atI (entsD (.s w :: r)) 1=some (.str x):=by
 cases r with
 | nil=>cases h
 | cons e r =>
   rw [zG0] at h
   obtain rfl:=Option.some.inj h
   exact ii (l:=entsD (.s w :: .s x :: r)) (n:=1) (by rw [bN]; simp)
theorem yk {ds:List D} {S:Sto} {Q E:HK} (h:kB ds S Q E):fG mY dY nW (EN Q E) (ao 5 ds) S:=by
 obtain ⟨p,c,P,fl,f,st,num,w,r,lp,la,rfl,ca,hn,g⟩:=h
 obtain ⟨hp,hc,hf⟩:=id ca
 have hl:(entsD r).length=r.length:=by rw [bN,List.length_map]
 have e2:∀ n:Nat,decide ((((entsD (.s w :: r)).length:Nat):Int)=((n + 1:Nat):Int))=decide (r.length=n):=fun n=>by
  rw [show (entsD (.s w :: r)).length=r.length + 1 by rw [bN,List.length_map]; rfl,Bool.eq_iff_iff,decide_eq_true_iff,decide_eq_true_iff]; omega
 unfold fG
 refine fy (.str w) S (fun R E r'=>?_) ?_
 ·walk_at "p"
  exact ⟨w,entsD r,rfl,r'⟩
 refine bZ (la && (!decide (w ∈ bT) && !decide (w ∈ co))) (fun R E q=>?_) (fun hb=>?_) (fun hb=>?_)
 ·exact yg la _ (fun R E q=>q) (fun _ R E q=>yg _ _ (fun R E q=>yi (neg:=true) (ss:=bT) rfl rfl q) (fun _ R E q=>yi (neg:=true) (ss:=co) rfl rfl q) q) q
 ·unfold gZ at g
  rw [if_pos hb] at g
  exact Rt.mk g
 have h1:¬ (la && (!decide (w ∈ bT) && !decide (w ∈ co)))=true:=by rw [hb]; decide
 refine bZ (decide (w ∈ m4) && !lp) (fun R E q=>?_) (fun hb=>?_) (fun hb=>?_)
 ·refine yg _ _ (fun R E q=>?_) (fun _ R E q=>FI lp (fun R E q=>q) q) q
  walk_at "p"
  exact mV (ss:=m4) (jI m4 w) q
 ·unfold gZ at g
  rw [if_neg h1,if_pos hb] at g
  exact Rt.mk g
 have h2:¬ (decide (w ∈ m4) && !lp)=true:=by rw [hb]; decide
 refine bZ (decide (w ∈ iy)) (fun R E q=>yi (neg:=false) (ss:=iy) rfl rfl q) (fun hb=>?_) (fun hb=>?_)
 ·unfold gZ at g
  rw [if_neg h1,if_neg h2,if_pos (of_decide_eq_true hb)] at g
  walk_at "p"
  refine bz rfl ?_
  refine jG ?_
  rw [← e2 0] at g
  exact Rt.mk g
 have h3:=of_decide_eq_false hb
 refine bZ (decide (w=bw)) (fun R E q=>yh rfl q) (fun hb=>?_) (fun hb=>?_)
 ·have hw:=of_decide_eq_true hb
  unfold gZ at g
  rw [if_neg h1,if_neg h2,if_neg h3,if_pos hw] at g
  walk_at "p"
  refine bz rfl ?_
  refine jG ?_
  have e24:decide ((((entsD (.s w :: r)).length:Nat):Int)=4)=decide (r.length=3):=e2 3
  rw [e24]
  cases h:decide (r.length=3) with
  | false=>rw [h] at g; exact Rt.mk g
  | true =>
    rw [h] at g
    obtain ⟨x,hx⟩:=hn.1 hw (of_decide_eq_true h)
    rw [hx] at g
    dsimp only [ng]
    refine aF rfl (at1 hx) ?_
    simp only [hWk,hun,hV,zG0]
    refine b9 hp rfl rfl (b9 hc rfl rfl ?_)
    exact mV (jI P.cs x) (Rt.mk g)
 have h4:=of_decide_eq_false hb
 refine bZ (decide (w=aB) || decide (w ∈ e9)) (fun R E q=>or2 _ _ (fun R E q=>yh rfl q) (fun _ R E q=>yi (neg:=false) (ss:=e9) rfl rfl q) q) (fun hb=>?_) (fun hb=>?_)
 ·have hw:w=aB∨w ∈ e9:=by
   rcases Bool.or_eq_true_iff.mp hb with h | h
   ·exact .inl (of_decide_eq_true h)
   ·exact .inr (of_decide_eq_true h)
  unfold gZ at g
  rw [if_neg h1,if_neg h2,if_neg h3,if_neg h4,if_pos hw] at g
  walk_at "p"
  refine ⟨w,entsD r,rfl,?_⟩
  rw [bN,lR]
  refine bz rfl ?_
  rw [List.length_map]
  walk_at "g"
  rw [show decide ((0:Int) < (((aG w r).length:Nat):Int)) = !(aG w r).isEmpty by cases aG w r <;> simp <;> omega]
  exact Rt.mk g
 have h5:¬ (w=aB∨w ∈ e9):=fun h=>by
  rcases h with h | h
  ·rw [decide_eq_true h] at hb; cases hb
  ·rw [decide_eq_true h,Bool.or_true] at hb; cases hb
 unfold gZ at g
 rw [if_neg h1,if_neg h2,if_neg h3,if_neg h4,if_neg h5] at g
 walk_at "p"
 refine bz rfl ?_
 refine jG ?_
 have e22:decide ((((entsD (.s w :: r)).length:Nat):Int)=2)=decide (r.length=1):=e2 1
 rw [e22]
 cases h:decide (r.length=1) with
 | false=>rw [h] at g; exact Rt.mk g
 | true =>
   rw [h] at g
   obtain ⟨x,hx⟩:=hn.2 h3 h4 (fun h=>h5 (.inl h)) (fun h=>h5 (.inr h)) (of_decide_eq_true h)
   rw [hx] at g
   dsimp only [ng]
   refine aF rfl (at1 hx) ?_
   rw [eF hp]
   dsimp only
   refine ⟨p,c,P,fl,f,st,num,w,rfl,ca,?_⟩
   exact mV (jI (fA P w) x) (Rt.mk g)
inductive CkR where
 | fine (k:Nat)
 | bad (k:Nat)
 | great
def AD (f:Stm→Nat→CkR):Bdy→Nat→CkR
 | [],k=>.fine k
 | st :: b,k=>match f st k with
   | .fine k'=>AD f b k'
   | x=>x
def lV (f:Bdy→Nat→Nat→CkR):List Ent→Nat→Nat→CkR
 | [],_,k=>.fine k
 | .p c :: ps,i,k=>match f c i k with
   | .fine k'=>lV f ps (i + 1) k'
   | x=>x
 | .s _ :: ps,i,k=>lV f ps (i + 1) k
def uB (P:PN) (f:Bdy→Bool→Bool→Nat→CkR) (blocks:Nat) (lp la:Bool) (st:Stm) (num:Nat):CkR:=match st with
 | .s w :: r=>if 14≤num then .great else if gZ P w r lp la=false then .bad num else if (!(aG w r).isEmpty && decide (3≤blocks))=true then .great
   else lV (fun c i k=>f c (lp || decide (w=aB)) (decide (w=am) && decide (i=1)) k) (aG w r) 0 (num + 1)
 | _=>.fine num
def lj (P:PN):Nat→Bdy→Nat→Bool→Bool→Nat→CkR
 | 0,_,_,_,_,k=>.fine k
 | n + 1,b,blocks,lp,la,k=>AD (uB P (fun c lp' la' k'=>lj P n c (blocks + 1) lp' la' k') blocks lp la) b k
def NmB:Nat→Bdy→Prop
 | 0,_=>True
 | n + 1,b=>∀ st ∈ b,∀ (w:Str) (r:Stm),st = .s w :: r→sw w r∧∀ c,.p c ∈ aG w r→NmB n c
abbrev jJ (c:Addr) (f:Fn) (k:Nat):M:=.ins 5 [.ref c,f.d,.int (k:Nat)]
def Out (S:Sto) (p:Addr) (f:Fn) (r:CkR) (N:Nat→Prop) (X:D→Sto→Prop):Prop:=match r with
 | .fine k=>N k
 | .bad k=>∀ S',(∀ a,a ≠ p→S' a=S a)→X (.exc 35 [.str f.x,.int (k:Nat)]) S'
 | .great=>∀ S',(∀ a,a ≠ p→S' a=S a)→X (.exc 36 []) S'
theorem Out.imp {S:Sto} {p:Addr} {f:Fn} {r:CkR} {N N':Nat→Prop} {X X':D→Sto→Prop} (h:Out S p f r N X) (n:∀ k,N k→N' k) (x:∀ d S',X d S'→X' d S'):Out S p f r N' X':=by
 cases r with
 | fine k=>exact n k h
 | bad k=>exact fun S' e=>x _ _ (h S' e)
 | great=>exact fun S' e=>x _ _ (h S' e)
theorem Out.up {S:Sto} {p:Addr} {m:M} {f:Fn} {r:CkR} {N:Nat→Prop} {X:D→Sto→Prop} (h:Out S p f r N X):Out (Hy.up S p m) p f r N X:=by
 cases r with
 | fine k=>exact h
 | bad k=>exact fun S' e=>h S' fun a ha=>(e a ha).trans (ar ha)
 | great=>exact fun S' e=>h S' fun a ha=>(e a ha).trans (ar ha)
def ji (n:Nat):HSp:=fun ds S Q E=>∃ (p c:Addr) (P:PN) (fl:List Fn) (f:Fn) (st:D) (num blocks:Nat) (lp la:Bool) (b:Bdy),ds=[.ref p,aw b,.int (blocks:Nat),.bl lp,.bl la]∧ChkAt S p c P fl f st num∧WfB n b∧NmB n b ∧
 Out S p f (lj P n b blocks lp la num) (fun k=>Q .non (up S p (jJ c f k))) E
theorem ChkAt.ne {S:Sto} {p c:Addr} {P:PN} {fl:List Fn} {f:Fn} {st:D} {num:Nat} (h:ChkAt S p c P fl f st num):c ≠ p:=fun e=>by
 have h1:=h.hp
 have h2:=h.hc
 rw [← e,h2] at h1
 simp at h1
theorem ChkAt.up {S:Sto} {p c:Addr} {P:PN} {fl:List Fn} {f:Fn} {st:D} {num:Nat} (h:ChkAt S p c P fl f st num) (k:Nat):ChkAt (Hy.up S p (jJ c f k)) p c P fl f st k:=⟨ai,(ar h.ne).trans h.hc,h.hf⟩
theorem Hv {ta tb:HTE} {env:aW} {S:Sto} (a b:Bool) (ha:∀ (R E:HK),R (.bl a) S→ta env S R E) (hb:∀ (R E:HK),R (.bl b) S→tb env S R E) {R E:HK} (h:R (.bl (a || b)) S):k7 ta tb env S R E :=
 ha _ _ (by cases a with
  | true=>exact h
  | false=>exact hb _ _ h)
theorem GP {ta tb:HTE} {env:aW} {S:Sto} (a b:Bool) (ha:∀ (R E:HK),R (.bl a) S→ta env S R E) (hb:∀ (R E:HK),R (.bl b) S→tb env S R E) {R E:HK} (h:R (.bl (a && b)) S):gc ta tb env S R E :=
 ha _ _ (by cases a with
  | true=>exact hb _ _ h
  | false=>exact h)
theorem GQ {i:Nat} {x w:Str} {env:aW} {S:Sto} (hi:env[i]? = some (some (.str x))) {R E:HK} (h:R (.bl (decide (x=w))) S):hop gEq (hV i) (hC (.str w)) env S R E:=by
 simp only [hop,hV,hC]
 rw [hi]
 dsimp only
 exact zC (r:=decide (x=w)) (uy _ _) h
theorem GR {i:Nat} {x w:Int} {env:aW} {S:Sto} (hi:env[i]? = some (some (.int x))) {R E:HK} (h:R (.bl (decide (x=w))) S):hop gEq (hV i) (hC (.int w)) env S R E:=by
 simp only [hop,hV,hC]
 rw [hi]
 dsimp only
 exact jG h
theorem GS {i:Nat} {x w:Int} {env:aW} {S:Sto} (hi:env[i]? = some (some (.int x))) {R E:HK} (h:R (.int (x + w)) S):hop cr (hV i) (hC (.int w)) env S R E:=by
 simp only [hop,hV,hC]
 rw [hi]
 dsimp only
 exact mW h
theorem EE {n:Nat} {S:Sto} {p c:Addr} {P:PN} {fl:List Fn} {f:Fn} {st:D} {num blocks:Nat} {lp la:Bool} {w:Str} {x1 x5 x6 x7:Option D} {D0:HEnds} (ca:ChkAt S p c P fl f st num):∀ (ps:List Ent) (i k:Nat) (y9 y10:Option D),(∀ e ∈ ps,∃ c,e = .p c∧WfB n c∧NmB n c) →
 Out S p f (lV (fun b i k=>lj P n b (blocks + 1) (lp || decide (w=aB)) (decide (w=am) && decide (i=1)) k) ps i k)
  (fun k=>∀ y9 y10,D0.nx [some (.ref p),x1,some (.int (blocks:Nat)),some (.bl lp),some (.bl la),x5,x6,x7,some (.str w),y9,y10] (up S p (jJ c f k))) (fun d S'=>∀ env,D0.ex d env S') →
 cZ (.tp [(.nm 9),(.nm 10)]) (aL (bG 5 5 [] (ji n) (hV 0) (aa (hV 10) (aa (hop cr (hV 2) (hC (.int 1))) (aa (k7 (hV 3) (hop gEq (hV 8) (hC (.str ("tries" : Str))))) (aa (gc (hop gEq (hV 8) (hC (.str ("lastly" : Str)))) (hop gEq (hV 9) (hC (.int 1)))) ae)))))) none (ja i (entsD ps)) D0
  [some (.ref p),x1,some (.int (blocks:Nat)),some (.bl lp),some (.bl la),x5,x6,x7,some (.str w),y9,y10] (up S p (jJ c f k))
 | [],i,k,y9,y10,_,h=>h y9 y10
 | e :: ps,i,k,y9,y10,hps,h=>by
   obtain ⟨b,rfl,wf,nm⟩:=hps e zMs
   show (aL (bG 5 5 [] (ji n) (hV 0) (aa (hV 10) (aa (hop cr (hV 2) (hC (.int 1))) (aa (k7 (hV 3) (hop gEq (hV 8) (hC (.str ("tries" : Str))))) (aa (gc (hop gEq (hV 8) (hC (.str ("lastly" : Str)))) (hop gEq (hV 9) (hC (.int 1)))) ae)))))) _
    [some (.ref p),x1,some (.int (blocks:Nat)),some (.bl lp),some (.bl la),x5,x6,x7,some (.str w),some (.int (i:Nat)),some (aw b)] (up S p (jJ c f k))
   simp only [aL,bG,hV,aa,ae,hC,zG0,zG1]
   rw [eF (c:=5) ai]
   dsimp only
   refine GS rfl ?_
   refine Hv lp (decide (w=aB)) (fun R E q=>q) (fun R E q=>GQ rfl q) ?_
   refine GP (decide (w=am)) (decide (((i:Nat):Int)=1)) (fun R E q=>GQ rfl q) (fun R E q=>GR rfl q) ?_
   refine ⟨p,c,P,fl,f,st,k,blocks + 1,_,_,b,rfl,ca.up k,wf,nm,?_⟩
   have h:=h
   unfold lV at h
   have ei:decide (((i:Nat):Int)=1)=decide (i=1):=by rw [Bool.eq_iff_iff,decide_eq_true_iff,decide_eq_true_iff]; omega
   rw [ei]
   cases hr:lj P n b (blocks + 1) (lp || decide (w=aB)) (decide (w=am) && decide (i=1)) k with
   | fine k' =>
     rw [hr] at h
     show cZ _ _ _ _ _ _ _
     rw [dI]
     exact EE ca ps (i + 1) k' _ _ (fun e he=>hps e (zMt he)) h
   | bad k' =>
     rw [hr] at h
     intro S' hS
     exact h S' (fun a ha=>(hS a ha).trans (ar ha)) _
   | great =>
     rw [hr] at h
     intro S' hS
     exact h S' (fun a ha=>(hS a ha).trans (ar ha)) _
def nX (b5 wA aJ:HSp):HTS:=(aj (aK 6 (hun (ba gF) (hV 0)))
 (aj (d8 gF (hV 0) (hop cr (hV 6) (hC (.int 1))))
 (aj (bj (hB (hop gGe (hV 6) (hC (.int 14)))) (dE 36 ae) hNx)
 (aj (bj (fK (hTr (bG 5 4 [] b5 (hV 0) (aa (hV 5) (aa (hV 3) (aa (hV 4) ae)))))) (dE 35 (aa (hun (ba cy) (hun (ba gP) (hV 0))) (aa (hV 6) ae))) hNx)
 (aj (aK 7 (an 1 [] wA (aa (hV 5) ae)))
 (aj (bj (dU (hTr (hV 7)) (hB (hop gGe (hV 2) (hC (.int 3))))) (dE 36 ae) hNx)
 (aj (aK 8 (hop gIx (hV 5) (hC (.int 0))))
 (cC (dO (aa (hV 7) ae)) (.tp [(.nm 9),(.nm 10)]) (aL (bG 5 5 [] aJ (hV 0) (aa (hV 10) (aa (hop cr (hV 2) (hC (.int 1))) (aa (k7 (hV 3) (hop gEq (hV 8) (hC (.str ("tries" : Str))))) (aa (gc (hop gEq (hV 8) (hC (.str ("lastly" : Str)))) (hop gEq (hV 9) (hC (.int 1)))) ae))))))))))))))
theorem zE {c:Nat} {D0:HEnds} {env:aW} {S:Sto} (e:(fw c).length=0) (h:D0.ex (.exc c []) env S):dE c ae D0 env S:=by
 show (match Nat.beq 0 (fw c).length with
  | true=>D0.ex (.exc c []) env S
  | false=>False)
 rw [e]
 exact h
theorem outer {n:Nat} {S:Sto} {p c:Addr} {P:PN} {fl:List Fn} {f:Fn} {st:D} {num blocks:Nat} {lp la:Bool} {x1:Option D} {D0:HEnds} (ca:ChkAt S p c P fl f st num):∀ (l:Bdy) (k:Nat) (y5 y6 y7 y8 y9 y10:Option D),
 (∀ st ∈ l,∃ (w:Str) (r:Stm),st = .s w :: r∧sw w r∧∀ e ∈ aG w r,∃ c,e = .p c∧WfB n c∧NmB n c) →
 Out S p f (AD (uB P (fun c lp' la' k'=>lj P n c (blocks + 1) lp' la' k') blocks lp la) l k)
  (fun k=>∀ y5 y6 y7 y8 y9 y10,D0.nx [some (.ref p),x1,some (.int (blocks:Nat)),some (.bl lp),some (.bl la),y5,y6,y7,y8,y9,y10] (up S p (jJ c f k))) (fun d S'=>∀ env,D0.ex d env S') →
 cZ (.nm 5) (nX kB dY (ji n)) none (l.map aY) D0 [some (.ref p),x1,some (.int (blocks:Nat)),some (.bl lp),some (.bl la),y5,y6,y7,y8,y9,y10] (up S p (jJ c f k))
 | [],k,y5,y6,y7,y8,y9,y10,_,h=>h y5 y6 y7 y8 y9 y10
 | s :: l,k,y5,y6,y7,y8,y9,y10,hl,h=>by
   obtain ⟨w,r,rfl,hn,hp⟩:=hl s zMs
   have ih:=fun k y5 y6 y7 y8 y9 y10=>outer ca l k y5 y6 y7 y8 y9 y10 (fun s hs=>hl s (zMt hs)) (D0:=D0) (x1:=x1) (blocks:=blocks) (lp:=lp) (la:=la)
   show nX kB dY (ji n) { D0 with nx:=cZ (.nm 5) (nX kB dY (ji n)) none (l.map aY) D0,ct:=cZ (.nm 5) (nX kB dY (ji n)) none (l.map aY) D0,bk:=D0.nx }
    [some (.ref p),x1,some (.int (blocks:Nat)),some (.bl lp),some (.bl la),some (aY (.s w :: r)),y6,y7,y8,y9,y10] (up S p (jJ c f k))
   unfold AD at h
   generalize cZ (.nm 5) (nX kB dY (ji n)) none (l.map aY) D0=L at ih ⊢
   unfold nX
   have hS:uB P (fun c lp' la' k'=>lj P n c (blocks + 1) lp' la' k') blocks lp la (.s w :: r) k=if 14≤k then .great else if gZ P w r lp la=false then .bad k else if (!(aG w r).isEmpty && decide (3≤blocks))=true then .great
    else lV (fun b i k=>lj P n b (blocks + 1) (lp || decide (w=aB)) (decide (w=am) && decide (i=1)) k) (aG w r) 0 (k + 1):=rfl
   rw [hS] at h
   clear hS
   refine fy (.int (k:Nat)) (up S p (jJ c f k)) (fun R E q=>?_) ?_
   ·walk_at "p"
    exact b9 ai rfl rfl q
   refine wv (fun S'=>S'=up S p (jJ c f (k + 1))) (fun D1 hD=>?_) fun S' e=>?_
   ·walk_at "p"
    refine mW ?_
    refine c9 ai rfl rfl ?_
    rw [dI]
    exact hD _ rfl
   subst e
   have ca1:=ca.up (k + 1)
   have frS:∀ a,a ≠ p→up S p (jJ c f (k + 1)) a=S a:=fun a ha=>ar ha
   dsimp only [zS0,zS1]
   refine bZ (decide (14≤k)) (fun R E q=>?_) (fun hb=>?_) (fun hb=>?_)
   ·walk_at "p"
    walk_at "g"
    rw [show decide ((14:Int)≤((k:Nat):Int))=decide (14≤k) by rw [Bool.eq_iff_iff,decide_eq_true_iff,decide_eq_true_iff]; omega]
    exact q
   ·rw [if_pos (of_decide_eq_true hb)] at h
    exact zE (by rfl) (h _ frS _)
   have h14:=of_decide_eq_false hb
   rw [if_neg h14] at h
   refine bZ (!gZ P w r lp la) (fun R E q=>?_) (fun hb=>?_) (fun hb=>?_)
   ·refine FI _ (fun R E q=>?_) q
    simp only [hTr,bG,hV,aa,ae,hC,zG0,zG1]
    rw [eF (c:=5) ai]
    dsimp only
    exact ⟨p,c,P,fl,f,st,k + 1,w,r,lp,la,rfl,ca1,hn,q⟩
   ·rw [Bool.not_eq_true'] at hb
    rw [if_pos hb] at h
    simp only [dE,aa,ae,hun,hV,zG0,zG1]
    refine b9 ai rfl rfl ?_
    exact h _ frS _
   rw [Bool.not_eq_false'] at hb
   rw [if_neg (by rw [hb]; decide)] at h
   refine fy (.tup ((aG w r).map jH)) (up S p (jJ c f (k + 1))) (fun R E q=>?_) ?_
   ·walk_at "p"
    refine ⟨w,entsD r,rfl,?_⟩
    rw [bN,lR]
    exact q
   refine bZ (!(aG w r).isEmpty && decide (3≤blocks)) (fun R E q=>?_) (fun hb=>?_) (fun hb=>?_)
   ·refine yg _ _ (fun R E q=>?_) (fun _ R E q=>?_) q
    ·walk_at "p"
     have e3:((aG w r).map jH).isEmpty=(aG w r).isEmpty:=by cases aG w r <;> rfl
     show R (!((aG w r).map jH).isEmpty) _
     rw [e3]; exact q
    ·walk_at "p"
     walk_at "g"
     rw [show decide ((3:Int)≤((blocks:Nat):Int))=decide (3≤blocks) by rw [Bool.eq_iff_iff,decide_eq_true_iff,decide_eq_true_iff]; omega]
     exact q
   ·rw [if_pos hb] at h
    exact zE (by rfl) (h _ frS _)
   rw [if_neg (by rw [hb]; decide)] at h
   refine fy (.str w) (up S p (jJ c f (k + 1))) (fun R E q=>?_) ?_
   ·walk_at "p"
    exact aF rfl (ii (l:=entsD (.s w :: r)) (n:=0) (by rw [bN]; simp)) q
   have h2:Out S p f (lV (fun b i k=>lj P n b (blocks + 1) (lp || decide (w=aB)) (decide (w=am) && decide (i=1)) k) (aG w r) 0 (k + 1))
    (fun k2=>∀ y9 y10,L [some (.ref p),x1,some (.int (blocks:Nat)),some (.bl lp),some (.bl la),some (aY (.s w :: r)),some (.int (k:Nat)),some (.tup ((aG w r).map jH)),some (.str w),y9,y10] (up S p (jJ c f k2))) (fun d S'=>∀ env,D0.ex d env S'):=by
    cases hr:lV (fun b i k=>lj P n b (blocks + 1) (lp || decide (w=aB)) (decide (w=am) && decide (i=1)) k) (aG w r) 0 (k + 1) with
    | fine k' =>
      rw [hr] at h
      intro y9 y10
      exact ih k' _ _ _ _ _ _ h
    | bad k'=>rw [hr] at h; exact h
    | great=>rw [hr] at h; exact h
   have:=EE (x1:=x1) (x5:=some (aY (.s w :: r))) (x6:=some (.int (k:Nat))) (x7:=some (.tup ((aG w r).map jH))) (D0:={ D0 with nx:=L,ct:=L,bk:=D0.nx }) ca (aG w r) 0 (k + 1) y9 y10 hp h2
   rw [bN] at this
   exact this
theorem AE {n:Nat} {ds:List D} {S:Sto} {Q E:HK} (h:ji (n + 1) ds S Q E):hU kB dY (ji n) (EN Q E) (ao 11 ds) S:=by
 obtain ⟨p,c,P,fl,f,st,num,blocks,lp,la,b,rfl,ca,wf,nm,g⟩:=h
 have e:up S p (jJ c f num)=S:=by
  funext a
  by_cases h:a=p
  ·subst h; rw [ai,ca.hp]
  ·rw [ar h]
 have:=outer (x1:=some (aw b)) (D0:=EN Q E) ca b num none none none none none none (fun st hst=>by
  obtain ⟨w,r,e1,e2,e3⟩:=wf.2 st hst
  obtain ⟨n1,n2⟩:=nm st hst w r e1
  refine ⟨w,r,e1,n1,fun e he=>?_⟩
  obtain ⟨c,h1,h2⟩:=e3 e he
  subst h1
  exact ⟨c,rfl,h2,n2 c he⟩) (g.imp (fun k h _ _ _ _ _ _=>Rt.mk h) fun d S' h _=>Rx.mk h)
 rw [e,← fW] at this
 exact this
def m5:HSp:=fun ds S Q _=>∃ (p:Addr) (x y:D),ds=[.ref p,x,y]∧S p=some (.ins 5 [])∧Q .non (up S p (.ins 5 [x,y,.int 0]))
theorem uC {ds:List D} {S:Sto} {Q E:HK} (h:m5 ds S Q E):fF (EN Q E) (ao 3 ds) S:=by
 obtain ⟨p,x,y,rfl,hp,g⟩:=h
 unfold fF
 walk_at "q"
 refine c9 hp rfl rfl ?_
 walk_at "q"
 refine c9 ai rfl rfl ?_
 walk_at "p"
 refine c9 ai rfl rfl ?_
 rw [dI,dI]
 exact Rt.mk g
theorem AF {S:Sto} {x:D} {xs:List D} {Q:HK} (h:items S x=some xs) (g:Q (.tup xs) S):dD [x] S Q:=by
 show (match items S x with
  | some xs=>Q (.tup xs) S
  | none=>False)
 rw [h]; exact g
theorem qB {S:Sto} {x:D} {xs:List D} {Q:HK} (h:bF S x=some xs) (g:Q (.tpx xs) S):so [x] S Q:=by
 show (match bF S x with
  | some xs=>Q (.tpx xs) S
  | none=>False)
 rw [h]; exact g
theorem sx {S:Sto} {x:D} {xs:List D} (h:bF S x=some xs):items S x=some xs:=by
 cases x <;> first | exact h | (simp [bF] at h; done)
theorem wB {S T:Sto} {x:D} {xs:List D} (h:bF S x=some xs) (l:∀ a ds,S a=some (.lst ds)→T a=some (.lst ds)):bF T x=some xs:=by
 cases x with
 | ref a =>
   have h:(match S a with
    | some (.lst ds)=>some ds
    | _=>none)=some xs:=h
   show (match T a with
    | some (.lst ds)=>some ds
    | _=>none)=some xs
   cases e:S a with
   | none=>rw [e] at h; cases h
   | some m =>
     rw [e] at h
     cases m with
     | lst ds=>rw [l a ds e]; exact h
     | _=>cases h
 | _=>exact h
theorem yl {S T:Sto} {x:D} {xs:List D} (h:items S x=some xs) (l:∀ a ds,S a=some (.lst ds)→T a=some (.lst ds)):items T x=some xs:=by
 cases x with
 | ref a =>
   have h:(match S a with
    | some (.lst ds)=>some ds
    | _=>none)=some xs:=h
   show (match T a with
    | some (.lst ds)=>some ds
    | _=>none)=some xs
   cases e:S a with
   | none=>rw [e] at h; cases h
   | some m =>
     rw [e] at h
     cases m with
     | lst ds=>rw [l a ds e]; exact h
     | dct kvs=>cases h
     | dcu kvs=>cases h
     | dcn _ _ _=>cases h
     | ins c xs=>cases h
 | _=>exact h
def oJ (P:PN) (n:Nat):List Fn→Option (Fn × CkR)
 | []=>none
 | f :: fl=>match lj P n f.b 0 false false 0 with
   | .fine _=>oJ P n fl
   | x=>some (f,x)
def GT (r:Option (Fn × CkR)) (N:Prop) (X:D→Prop):Prop:=match r with
 | none=>N
 | some (f,.bad k)=>X (.exc 35 [.str f.x,.int (k:Nat)])
 | some (_,_)=>X (.exc 36 [])
def kD (P:PN) (fl:List Fn) (st:Str):List D:=[jh P.cs,jh P.rs,.tup (fl.map Fn.d),.str st]
def lW (n:Nat):HSp:=fun ds S Q E=>∃ (c:Addr) (xc xr xf:D) (P:PN) (fl:List Fn) (st:Str),ds=[.ref c,xc,xr,xf,.str st]∧S c=some (.ins 4 [])∧bF S xc=some (P.cs.map D.str)∧bF S xr=some (P.rs.map D.str)∧items S xf=some (fl.map Fn.d)∧fl.map Fn.x=P.fs∧PN.Ok P∧st ∈ P.fs ∧
 (∀ f ∈ fl,WfB n f.b∧NmB n f.b)∧GT (oJ P n fl) (Q .non (up S c (.ins 4 (kD P fl st)))) (fun d=>E d (dl S c))
def ckL (n:Nat):HTS:=(aL (bG 5 5 [] (ji n) (fS 5 3 [] m5 (aa (hV 0) (aa (hV 5) ae))) (aa (hun (ba bV) (hV 5)) (aa (hC (.int 0)) (aa (hC (.bl false)) (aa (hC (.bl false)) ae))))))
theorem DE {f:Fn} {S:Sto} {Q:HK} (h:Q (aw f.b) S):ba bV f.d S Q:=by
 unfold ba Fn.d fnD
 exact h
theorem qC {n:Nat} {S:Sto} {c:Addr} {P:PN} {gl:List Fn} {st:D} {x1 x2 x3 x4 x6 x7 x8:Option D} {D0:HEnds} (hc:S c=some (.ins 4 [jh P.cs,jh P.rs,.tup (gl.map Fn.d),st])) (hf:gl.map Fn.x=P.fs):∀ (fl:List Fn) (S':Sto) (y5:Option D),(∀ f ∈ fl,WfB n f.b∧NmB n f.b)→SLe S S' →
 GT (oJ P n fl) (∀ S' y5,SLe S S'→D0.nx [some (.ref c),x1,x2,x3,x4,y5,x6,x7,x8] S') (fun d=>∀ S' env,SLe S S'→D0.ex d env S') →
 cZ (.nm 5) (ckL n) none (fl.map Fn.d) D0 [some (.ref c),x1,x2,x3,x4,y5,x6,x7,x8] S'
 | [],S',y5,_,le,h=>h S' y5 le
 | f :: fl,S',y5,hw,le,h=>by
   show (ckL n) { D0 with nx:=cZ (.nm 5) (ckL n) none (fl.map Fn.d) D0,ct:=cZ (.nm 5) (ckL n) none (fl.map Fn.d) D0,bk:=D0.nx } [some (.ref c),x1,x2,x3,x4,some f.d,x6,x7,x8] S'
   have ih:=fun S' y5=>qC hc hf fl S' y5 (fun f hf=>hw f (zMt hf)) (D0:=D0) (x1:=x1) (x2:=x2) (x3:=x3) (x4:=x4) (x6:=x6) (x7:=x7) (x8:=x8)
   generalize cZ (.nm 5) (ckL n) none (fl.map Fn.d) D0=L at ih ⊢
   unfold oJ at h
   unfold ckL
   simp only [aL,bG,fS,hV,aa,ae,hC,hun,zG0,zG1]
   intro pk hk
   dsimp only [Nat.beq,List.append_nil,List.length_cons,List.length_nil]
   refine ⟨pk,_,_,rfl,ai,rfl,?_⟩
   refine Rt.mk ?_
   rw [dI]
   rw [eF (c:=5) ai]
   dsimp only
   have hcS:S' c=some (.ins 4 [jh P.cs,jh P.rs,.tup (gl.map Fn.d),st]):=le c _ hc
   have npc:c ≠ pk:=sne hcS hk
   have le2:∀ S'',(∀ a,a ≠ pk→S'' a=up S' pk (jJ c f 0) a)→SLe S S'':=fun S'' h a m e=>by
    have e1:=le a m e
    have:a ≠ pk:=sne e1 hk
    rw [h a this,ar this]; exact e1
   obtain ⟨wf,nm⟩:=hw f zMs
   refine DE ?_
   show ji n [.ref pk,aw f.b,.int (0:Nat),.bl false,.bl false] (up S' pk (jJ c f 0)) _ _
   refine ⟨pk,c,P,gl,f,st,0,0,false,false,f.b,rfl,⟨ai,(ar npc).trans hcS,hf⟩,wf,nm,?_⟩
   cases hr:lj P n f.b 0 false false 0 with
   | fine k =>
     rw [hr] at h
     show L _ (up (up S' pk (jJ c f 0)) pk (jJ c f k))
     exact ih _ _ (le2 _ fun a ha=>ar ha) h
   | bad k =>
     rw [hr] at h
     exact fun S'' e=>h S'' _ (le2 _ e)
   | great =>
     rw [hr] at h
     exact fun S'' e=>h S'' _ (le2 _ e)
theorem DF {neg:Bool} {x:Str} {ss:List Str} {S:Sto} {Q:HK} (h:Q (.bl (ng neg (decide (x ∈ ss)))) S):iG neg (.str x) (.lst (ss.map D.str)) S Q:=by
 have e1:((ss.map D.str).any fun z=>deq z (.str x))=decide (x ∈ ss):=by
  rw [← jI,List.any_map]
  congr 1 <;> (funext z; exact jF z x)
 have e2:(cV (.str x) && (ss.map D.str).all cV)=true:=by
  rw [List.all_map]
  show (true && ss.all fun _=>true)=true
  simp
 show (match cV (.str x) && (ss.map D.str).all cV with
  | true=>Q (.bl (ng neg ((ss.map D.str).any fun z=>deq z (.str x)))) S
  | false=>_)
 rw [e2,e1]
 exact h
theorem sy {xs:List D} {S:Sto} {Q:HK} (h:Q (.lst xs) S):fu [.tup xs] S Q:=h
theorem m6 {xs ys:List D} {S:Sto} {Q:HK} (hl:xs.length + ys.length≤16777216) (h:Q (.lst (xs ++ ys)) S):cr (.lst xs) (.lst ys) S Q:=⟨fi hl,h⟩
theorem Cj {i:Nat} {x:D} {xs:List D} {m:Nat} {env:aW} {S:Sto} (hi:env[i]? = some (some x)) (hx:items S x=some xs) (hl:xs.length≤m) {R:Bool→Sto→Prop} {E:HK} (h:R false S):hB (hop gGt (hcb dJ (aa (hV i) ae)) (hC (.int (m:Int)))) env S R E:=by
 simp only [hB,hop,hcb,aa,ae,hV,hC]
 rw [hi]
 dsimp only
 refine bz hx ?_
 simp only [gGt,jv,gI0,gI,gLt]
 rw [decide_eq_false (show ¬ (m:Int) < ((xs.length:Nat):Int) by omega)]
 exact h
theorem ym {α:Type} {l:List α} {i:Nat} {x:α} (h:l.Nodup) (hx:l[i]? = some x):x ∉ l.take i:=by
 intro hm
 obtain ⟨j,hj⟩:=List.getElem?_of_mem hm
 have hji:j < i:=by
  have:=(List.getElem?_eq_some_iff.mp hj).1
  rw [List.length_take] at this
  omega
 rw [List.getElem?_take_of_lt hji] at hj
 obtain ⟨h1,e1⟩:=List.getElem?_eq_some_iff.mp hj
 obtain ⟨h2,e2⟩:=List.getElem?_eq_some_iff.mp hx
 have:=(List.nodup_iff_pairwise_ne.mp h)
 have:=List.pairwise_iff_getElem.mp this j i h1 h2 hji
 exact this (e1.trans e2.symm)
theorem qD {n:Nat} {ds:List D} {S:Sto} {Q E:HK} (h:lW n ds S Q E):ig qx (ji n) m5 (EN Q E) (ao 9 ds) S:=by
 obtain ⟨c,xc,xr,xf,P,fl,st,rfl,hc,ic,ir,if_,hfs,ok,hst,hw,g⟩:=h
 unfold ig
 obtain ⟨ok1,ok2,ok3,ok4,ok5,ok6⟩:=id ok
 have hfl:fl.length=P.fs.length:=by rw [← hfs,List.length_map]
 refine bZ false (fun R E q=>?_) (fun hb=>by cases hb) (fun _=>?_)
 ·exact or2 false false (fun R E q=>Cj (m:=3) rfl (sx ic) (by rw [List.length_map]; exact ok1) q) (fun _ R E q=>or2 false false (fun R E q=>Cj (m:=2) rfl (sx ir) (by rw [List.length_map]; exact ok2) q) (fun _ R E q=>Cj (m:=3) rfl if_ (by rw [List.length_map,hfl]; exact ok4) q) q) q
 have keep:∀ (x:D) (xs:List D) (m:M),items S x=some xs→items (up S c m) x=some xs:=fun x xs m h=>yl h fun a ds e=>by
  have:a ≠ c:=fun h=>by subst h; rw [hc] at e; cases e
  rw [ar this]; exact e
 have keepL:∀ (x:D) (xs:List D) (m:M),bF S x=some xs→bF (up S c m) x=some xs:=fun x xs m h=>wB h fun a ds e=>by
  have:a ≠ c:=fun h=>by subst h; rw [hc] at e; cases e
  rw [ar this]; exact e
 refine wv (fun S'=>S'=up S c (.ins 4 [jh P.cs])) (fun D1 hD=>?_) fun S' e=>?_
 ·walk_at "p"
  refine qB ic ?_
  exact c9 hc rfl rfl (hD _ rfl)
 subst e
 refine wv (fun S'=>S'=up S c (.ins 4 [jh P.cs,jh P.rs])) (fun D1 hD=>?_) fun S' e=>?_
 ·walk_at "p"
  refine qB (keepL _ _ _ ir) ?_
  refine c9 ai rfl rfl ?_
  rw [dI]
  exact hD _ rfl
 subst e
 refine wv (fun S'=>S'=up S c (.ins 4 [jh P.cs,jh P.rs,.tup (fl.map Fn.d)])) (fun D1 hD=>?_) fun S' e=>?_
 ·walk_at "p"
  refine AF (keep _ _ _ if_) ?_
  refine c9 ai rfl rfl ?_
  rw [dI]
  exact hD _ rfl
 subst e
 refine wv (fun S'=>S'=up S c (.ins 4 (kD P fl st))) (fun D1 hD=>?_) fun S' e=>?_
 ·walk_at "p"
  refine c9 ai rfl rfl ?_
  rw [dI]
  exact hD _ rfl
 subst e
 obtain ⟨S1,hS1⟩:∃ S1,S1=up S c (.ins 4 (kD P fl st)):=⟨_,rfl⟩
 have hc1:S1 c=some (.ins 4 (kD P fl st)):=by rw [hS1,ai]
 rw [← hS1] at g ⊢
 have le1:SLe (dl S c) S1:=fun a m e=>by
  by_cases h:a=c
  ·subst h; rw [iI] at e; cases e
  ·rw [fR h] at e; rw [hS1,ar h]; exact e
 clear hS1
 refine fy (.lst (P.fs.map D.str)) S1 (fun R E q=>?_) ?_
 ·walk_at "p"
  refine b9 hc1 rfl rfl ?_
  refine sqT ?_
  have lp:∀ (l:List Fn) (acc:List D) (x0 x1 x2 x3 x4 x6 x7 x8:Option D),R (.lst (acc ++ l.map (D.str ∘ Fn.x))) S1→cW (.nm 5) fM (hun (ba cy) (hV 5)) none (l.map Fn.d) acc [x0,x1,x2,x3,x4,none,x6,x7,x8] S1 R:=by
   intro l
   induction l with
   | nil=>intro acc x0 x1 x2 x3 x4 x6 x7 x8 h; rw [List.map_nil,List.append_nil] at h; exact h
   | cons f l ih =>
     intro acc x0 x1 x2 x3 x4 x6 x7 x8 h
     refine ih (acc ++ [.str f.x]) x0 x1 x2 x3 x4 x6 x7 x8 ?_
     rw [List.append_assoc]; exact h
  rw [← hfs,List.map_map] at q
  exact lp fl [] _ _ _ _ _ _ _ _ q
 refine bZ false (fun R E q=>?_) (fun hb=>by cases hb) (fun _=>?_)
 ·walk_at "p"
  show R (!(!(P.fs.map D.str).isEmpty)) S1
  have:(P.fs.map D.str).isEmpty=false:=by
   cases h:P.fs with
   | nil=>rw [h] at ok3; simp at ok3
   | cons x l=>rfl
  rw [this]
  exact q
 refine dC ?_
 walk_at "p"
 intro r hr
 have ncr:c ≠ r:=sne hc1 hr
 have er0:up S1 r (.lst []) r=some (.lst (((P.cs ++ P.rs ++ P.fs).take 0).map D.str)):=ai
 have fr0:∀ x,x ≠ r→up S1 r (.lst []) x=S1 x:=fun x h=>ar h
 generalize up S1 r (.lst [])=S2 at er0 fr0 ⊢
 have hN:(P.cs ++ P.rs ++ P.fs).length≤8:=by rw [List.length_append,List.length_append]; omega
 refine gE (fun e S'=>(∃ y8,e=[some (.ref c),some xc,some xr,some xf,some (.str st),none,some (.lst (P.fs.map D.str)),some (.ref r),y8])∧∀ x,x ≠ r→S' x=S1 x) (fun D1 hD=>?_) fun e S3 ⟨⟨y8,ee⟩,fr3⟩=>?_
 ·walk_at "p"
  have hc2:=(fr0 c ncr).trans hc1
  simp only [hWk,hun,hV,zG0]
  refine b9 hc2 rfl rfl ?_
  refine sy ?_
  refine b9 hc2 rfl rfl ?_
  refine sy ?_
  refine m6 (by rw [List.length_map,List.length_map]; omega) ?_
  refine m6 (by rw [List.length_append,List.length_map,List.length_map,List.length_map]; omega) ?_
  rw [← List.map_append,← List.map_append]
  refine sqL ?_
  refine c7 (I:=fun i e S'=>(∃ y8,e=[some (.ref c),some xc,some xr,some xf,some (.str st),none,some (.lst (P.fs.map D.str)),some (.ref r),y8])∧S' r=some (.lst (((P.cs ++ P.rs ++ P.fs).take i).map D.str))∧∀ x,x ≠ r→S' x=S1 x) _ (fun i d e S' hd ⟨⟨y8,ee⟩,er',fr'⟩=>?_) (fun e S' ⟨h1,h2,h3⟩=>hD _ _ ⟨h1,h3⟩) ⟨⟨none,rfl⟩,er0,fr0⟩
  subst ee
  obtain ⟨x,hx,rfl⟩:=Cd hd
  refine ⟨_,rfl,fun K hK=>?_⟩
  have okx:=ok5 x (List.mem_of_getElem? hx)
  have oP:x ∉ (P.cs ++ P.rs ++ P.fs).take i:=ym ok6 hx
  refine bZ false (fun R E q=>?_) (fun hb=>by cases hb) (fun _=>?_)
  ·refine or2 false false (fun R E q=>FI true (fun R E q=>?_) q) (fun _ R E q=>?_) q
   ·walk_at "p"
    refine ⟨x,rfl,?_,?_⟩
    ·have:=(okName_iff.mp okx).2.1; omega
    ·rw [okx]; exact q
   ·walk_at "p"
    refine DB er' ?_
    rw [show ye ((P.cs ++ P.rs ++ P.fs).take i) x=false by
     cases h:ye ((P.cs ++ P.rs ++ P.fs).take i) x with
     | false=>rfl
     | true=>exact absurd (hasS_mem.mp h) oP]
    exact q
  ·walk_at "p"
   rw [cB er']
   dsimp only
   refine fH er' (by rw [List.length_map,List.length_take]; omega) ?_
   refine hK _ _ ⟨⟨_,rfl⟩,?_,fun a ha=>(ar ha).trans (fr' a ha)⟩
   rw [ai,nV hx,List.map_append] <;> rfl
 subst ee
 have hc3:=(fr3 c ncr).trans hc1
 refine bZ false (fun R E q=>?_) (fun hb=>by cases hb) (fun _=>?_)
 ·walk_at "p"
  refine DF ?_
  rw [decide_eq_true hst]
  exact q
 have le13:SLe S1 S3:=fun a m e=>by
  have:a ≠ r:=sne e hr
  rw [fr3 a this]; exact e
 simp only [cC,b8,hun,hV,zG0]
 refine b9 hc3 rfl rfl ?_
 refine sqT ?_
 refine qC (S:=S1) (D0:=EN Q E) hc1 hfs fl S3 none hw le13 ?_
 cases hr:oJ P n fl with
 | none =>
   rw [hr] at g
   exact fun S' y5 le=>Rt.less le g
 | some z =>
   rw [hr] at g
   obtain ⟨f,x⟩:=z
   cases x with
   | fine k=>exact fun S' env le=>Rx.less (le1.trans le) g
   | bad k=>exact fun S' env le=>Rx.less (le1.trans le) g
   | great=>exact fun S' env le=>Rx.less (le1.trans le) g
def jK:List Str:=[("deeper" : Str),("answer" : Str),("stop" : Str)]
theorem FK:∀ w ∈ bT ++ co ++ jK,w ∉ m4∧w ∉ iy∧w ≠ bw∧w ≠ aB∧w ∉ e9:=by decide +kernel
theorem Hw:∀ w ∈ co,w ∉ bT:=by decide +kernel
theorem yn:∀ w ∈ jK,w ∉ bT∧w ∉ co:=by decide +kernel
theorem Cl:∀ w ∈ aB :: bw :: e9,w ∉ m4∧w ∉ iy:=by decide +kernel
theorem lookW:bw ≠ aB∧bw ∉ e9∧bw ≠ am∧aB ≠ bw∧aB ≠ am∧am ≠ bw∧am ≠ aB:=by decide +kernel
theorem GU:∀ w ∈ Cf,w ≠ bw∧w ≠ aB∧w ≠ am∧w ∈ e9:=by decide +kernel
theorem Cm:∀ w ∈ e9,w ≠ bw∧w ≠ aB:=by decide +kernel
theorem FL:∀ w ∈ iy,w ≠ bw∧w ≠ aB∧w ∉ e9:=by decide +kernel
def gG (P:PN) (lp la:Bool) (st:Stm):Prop:=∃ w r,st = .s w :: r∧gZ P w r lp la=true∧aG w r=[]∧sw w r∧cntS st=0∧r.length≤9
theorem jj {P:PN} {w x:Str} {lp la:Bool} (hw:w ∈ bT ++ co ++ jK) (hla:la=true→w ∈ bT ++ co) (hx:x ∈ fA P w):gG P lp la (two w x):=by
 obtain ⟨h1,h2,h3,h4,h5⟩:=FK w hw
 refine ⟨w,[.s x],rfl,?_,?_,⟨fun e=>absurd e h3,fun _ _ _ _ _=>⟨x,rfl⟩⟩,rfl,by simp⟩
 ·unfold gZ
  rw [if_neg,decide_eq_false h1,if_neg (by rw [Bool.false_and]; decide),if_neg h2,if_neg h3,if_neg (fun h=>h.elim h4 h5)]
  ·show (decide (([.s x]:Stm).length=1) && decide (x ∈ fA P w))=true
   rw [decide_eq_true hx]; rfl
  ·intro h
   obtain ⟨h6,h7⟩:=Bool.and_eq_true_iff.mp h
   obtain ⟨h8,h9⟩:=Bool.and_eq_true_iff.mp h7
   rcases List.mem_append.mp (hla h6) with h | h
   ·rw [decide_eq_true h] at h8; cases h8
   ·rw [decide_eq_true h] at h9; cases h9
 ·unfold aG
  rw [if_neg (fun h=>h4 h.1),if_neg (fun h=>h3 h.1),if_neg (fun h=>h5 h.1)]
theorem lX {P:PN} {lp la:Bool} {st:Stm} (h:st ∈ be P):gG P lp la st:=by
 have hc:∀ w ∈ bT,∀ x ∈ P.cs,gG P lp la (two w x):=fun w hw x hx =>
  jj (List.mem_append_left _ (List.mem_append_left _ hw)) (fun _=>List.mem_append_left _ hw) (by unfold fA; rw [if_pos hw]; exact hx)
 have hr:∀ w ∈ co,∀ x ∈ P.rs,gG P lp la (two w x):=fun w hw x hx =>
  jj (List.mem_append_left _ (List.mem_append_right _ hw)) (fun _=>List.mem_append_right _ hw) (by unfold fA; rw [if_neg (Hw w hw),if_pos hw]; exact hx)
 unfold be at h
 rcases List.mem_append.mp h with h | h
 ·obtain ⟨x,hx,hs⟩:=List.mem_flatMap.mp h
  simp only [da,List.mem_cons,List.not_mem_nil,or_false] at hs
  rcases hs with rfl | rfl | rfl | rfl
  ·exact hc _ (by simp [bT]) x hx
  ·exact hc _ (by simp [bT]) x hx
  ·exact hc _ (by simp [bT]) x hx
  ·exact hc _ (by simp [bT]) x hx
 ·obtain ⟨x,hx,hs⟩:=List.mem_flatMap.mp h
  simp only [eR,List.mem_cons,List.not_mem_nil,or_false] at hs
  rcases hs with rfl | rfl | rfl | rfl
  ·exact hr _ (by simp [co]) x hx
  ·exact hr _ (by simp [co]) x hx
  ·exact hr _ (by simp [co]) x hx
  ·exact hr _ (by simp [co]) x hx
theorem kE {P:PN} {w:Str} {lp:Bool} (hw:w ∈ iy) (hl:w ∈ m4→lp=true):gG P lp false (one w):=by
 obtain ⟨h3,h4,h5⟩:=FL w hw
 refine ⟨w,[],rfl,?_,?_,⟨fun e=>absurd e h3,fun h=>absurd hw h⟩,rfl,by simp⟩
 ·unfold gZ
  rw [if_neg (by rw [Bool.false_and]; decide),if_neg,if_pos hw]
  ·rfl
  ·intro h
   obtain ⟨h6,h7⟩:=Bool.and_eq_true_iff.mp h
   rw [hl (of_decide_eq_true h6)] at h7; cases h7
 ·unfold aG
  rw [if_neg (fun h=>h4 h.1),if_neg (fun h=>h3 h.1),if_neg (fun h=>h5 h.1)]
theorem jL {P:PN} {lp:Bool} {st:Stm} (h:mX P lp st):gG P lp false st:=by
 have ne:∀ {a b:Str},decide (a=b)=false→a ≠ b:=fun h=>of_decide_eq_false h
 rcases h with h | ⟨f,hf,rfl⟩ | h
 ·exact lX h
 ·exact jj (by simp [jK]) (fun h=>by cases h) (by
   unfold fA
   obtain ⟨h1,h2⟩:=yn ("deeper" : Str) (by simp [jK])
   rw [if_neg h1,if_neg h2,if_pos rfl]; exact hf)
 ·have stp:∀ x,x ∈ [("found" : Str),("none" : Str)]→gG P lp false (two ("stop" : Str) x):=fun x hx=>jj (by simp [jK]) (fun h=>by cases h) (by
   unfold fA
   obtain ⟨h1,h2⟩:=yn ("stop" : Str) (by simp [jK])
   rw [if_neg h1,if_neg h2,if_neg (ne (by decide +kernel)),if_neg (ne (by decide +kernel)),if_pos rfl]; exact hx)
  have ans:∀ x,x ∈ [("copy" : Str),("view" : Str)]→gG P lp false (two ("answer" : Str) x):=fun x hx=>jj (by simp [jK]) (fun h=>by cases h) (by
   unfold fA
   obtain ⟨h1,h2⟩:=yn ("answer" : Str) (by simp [jK])
   rw [if_neg h1,if_neg h2,if_neg (ne (by decide +kernel)),if_pos rfl]; exact hx)
  have al:∀ w,w ∈ [("fault" : Str),("may" : Str)]→gG P lp false (one w):=fun w hw=>kE (by simp only [iy,List.mem_cons,List.not_mem_nil,or_false] at hw ⊢; rcases hw with h | h <;> simp [h]) (fun h=>absurd h ((by decide +kernel:∀ w ∈ [("fault" : Str),("may" : Str)],w ∉ m4) w hw))
  have hA:∀ st ∈ hX,gG P lp false st:=fun st h=>by
   simp only [hX,List.mem_cons,List.not_mem_nil,or_false] at h
   rcases h with rfl | rfl | rfl | rfl | rfl
   ·exact stp _ (by simp)
   ·exact stp _ (by simp)
   ·exact al _ (by simp)
   ·exact al _ (by simp)
   ·exact al _ (by simp)
  have hB:∀ st ∈ jf,gG P lp false st:=fun st h=>by
   simp only [jf,List.mem_cons,List.not_mem_nil,or_false] at h
   rcases h with rfl | rfl
   ·exact ans _ (by simp)
   ·exact ans _ (by simp)
  cases lp with
  | false =>
    rcases List.mem_append.mp h with h | h
    ·exact hA st h
    ·exact hB st h
  | true =>
    rcases List.mem_append.mp h with h | h
    ·rcases List.mem_append.mp h with h | h
     ·exact hA st h
     ·exact hB st h
    ·simp only [lC,List.mem_cons,List.not_mem_nil,or_false] at h
     rcases h with rfl | rfl
     ·exact kE (by simp [iy]) (fun _=>rfl)
     ·exact kE (by simp [iy]) (fun _=>rfl)
theorem kT {f:Stm→Nat→CkR}:∀ (l:Bdy) (k:Nat),(∀ st ∈ l,∀ k,k + (1 + cntS st)≤14→f st k = .fine (k + (1 + cntS st)))→k + cntB l≤14→AD f l k = .fine (k + cntB l)
 | [],k,_,_=>rfl
 | st :: l,k,h,hk=>by
   have e:cntB (st :: l)=1 + cntS st + cntB l:=rfl
   rw [e] at hk ⊢
   unfold AD
   rw [h st zMs k (by omega)]
   dsimp only
   rw [kT l _ (fun s hs=>h s (zMt hs)) (by omega)]
   congr 1
   omega
theorem lY {P:PN} {f:Bdy→Bool→Bool→Nat→CkR} {blocks:Nat} {lp la:Bool} {st:Stm} {k:Nat} (h:gG P lp la st) (hk:k + (1 + cntS st)≤14):uB P f blocks lp la st k = .fine (k + (1 + cntS st)):=by
 obtain ⟨w,r,rfl,h1,h2,_,h4,_⟩:=h
 rw [h4] at hk ⊢
 unfold uB
 dsimp only
 rw [if_neg (by omega),h1,h2,if_neg (by decide),if_neg (by simp)]
 rfl
theorem AG {P:PN} {n:Nat} {b:Bdy} {blocks:Nat} {lp la:Bool} {k:Nat} (h:∀ x ∈ b,x ∈ be P) (hk:k + cntB b≤14):lj P (n + 1) b blocks lp la k = .fine (k + cntB b):=by
 unfold lj
 exact kT b k (fun st hs k hk=>lY (lX (h st hs)) hk) hk
theorem lZ {P:PN} {w:Str} {r:Stm} {lp:Bool} (hw:w=aB∨w ∈ e9) (hp:aG w r=r) (hr:r ≠ []):gZ P w r lp false=true:=by
 have hm:w ∈ aB :: bw :: e9:=by
  rcases hw with h | h
  ·rw [h]; exact zMs
  ·exact zMt (zMt h)
 obtain ⟨h1,h2⟩:=Cl w hm
 have h3:w ≠ bw:=by
  rcases hw with h | h
  ·rw [h]; exact lookW.2.2.2.1
  ·exact (Cm w h).1
 unfold gZ
 rw [if_neg (by rw [Bool.false_and]; decide),if_neg (by rw [decide_eq_false h1,Bool.false_and]; decide),if_neg h2,if_neg h3,if_pos hw,hp]
 cases r with
 | nil=>exact absurd rfl hr
 | cons x r=>rfl
theorem iS (x:Ent):aG aB [x]=[x]:=by unfold aG; rw [if_pos ⟨rfl,rfl⟩]
theorem fX {w:Str} (h:w ∈ e9) (x y:Ent):aG w [x,y]=[x,y]:=by
 obtain ⟨h1,h2⟩:=Cm w h
 unfold aG
 rw [if_neg (fun h=>h2 h.1),if_neg (fun h=>h1 h.1),if_pos ⟨h,rfl⟩]
theorem ma (x y z:Ent):aG bw [x,y,z]=[y,z]:=by
 unfold aG
 rw [if_neg (fun h=>lookW.1 h.1),if_pos ⟨rfl,rfl⟩] <;> rfl
theorem AH {P:PN} {c:Str} {x y:Ent} {lp:Bool} (hc:c ∈ P.cs):gZ P bw [.s c,x,y] lp false=true:=by
 obtain ⟨h1,h2⟩:=Cl bw (by simp)
 unfold gZ
 rw [if_neg (by rw [Bool.false_and]; decide),if_neg (by rw [decide_eq_false h1,Bool.false_and]; decide),if_neg h2,if_pos rfl]
 show (decide (([.s c,x,y]:Stm).length=3) && decide (c ∈ P.cs))=true
 rw [decide_eq_true hc]; rfl
theorem uD {w:Str} (h:w ∈ Cf):w ∈ e9:=(GU w h).2.2.2
theorem gH:am ∈ e9:=by decide +kernel
theorem qE {P:PN}:∀ (lv n:Nat) (lp:Bool) (b:Bdy) (blocks k:Nat),lv + 1≤n→blocks + lv≤3→(∀ st ∈ b,GoodS P lv lp st)→k + cntB b≤14→lj P n b blocks lp false k = .fine (k + cntB b)
 | _,0,_,_,_,_,h,_,_,_=>by omega
 | 0,n + 1,lp,b,blocks,k,_,_,hg,hk=>by
   unfold lj
   exact kT b k (fun st hs k hk=>lY (jL (hg st hs)) hk) hk
 | lv + 1,n + 1,lp,b,blocks,k,hn,hb,hg,hk=>by
   have ih:=fun lp' b' k' (h1:∀ st ∈ b',GoodS P lv lp' st) (h2:k' + cntB b'≤14)=>qE lv n lp' b' (blocks + 1) k' (by omega) (by omega) h1 h2
   obtain ⟨m,rfl⟩:∃ m,n=m + 1:=⟨n - 1,by omega⟩
   rw [lj]
   refine kT b k (fun st hs k hk=>?_) hk
   have hbl:decide (3≤blocks)=false:=decide_eq_false (by omega)
   rcases hg st hs with h | ⟨a,rfl,h1⟩ | ⟨w,a,b',hw,rfl,h1,h2⟩ | ⟨c,a,b',hc,rfl,h1,h2⟩ | ⟨a,b',rfl,h1,h2⟩
   ·exact lY (jL h) hk
   ·rw [FG] at hk ⊢
    unfold uB
    dsimp only
    rw [if_neg (by omega),lZ (.inl rfl) (iS _) (by simp),iS,hbl,if_neg (by decide),if_neg (by simp)]
    unfold lV
    rw [decide_eq_true (rfl:aB=aB),Bool.or_true,decide_eq_false lookW.2.2.2.2.1,Bool.false_and,ih true a (k + 1) h1 (by omega)]
    show CkR.fine _=_
    congr 1; omega
   ·rw [AA] at hk ⊢
    obtain ⟨w1,w2,w3,w4⟩:=GU w hw
    unfold uB
    dsimp only
    rw [if_neg (by omega),lZ (.inr w4) (fX w4 _ _) (by simp),fX w4,hbl,if_neg (by decide),if_neg (by simp)]
    unfold lV
    rw [decide_eq_false w2,Bool.or_false,decide_eq_false w3,Bool.false_and,ih lp a (k + 1) h1 (by omega)]
    dsimp only
    unfold lV
    rw [Bool.false_and,ih lp b' (k + 1 + cntB a) h2 (by omega)]
    show CkR.fine _=_
    congr 1; omega
   ·rw [FF] at hk ⊢
    unfold uB
    dsimp only
    rw [if_neg (by omega),AH hc,ma,hbl,if_neg (by decide),if_neg (by simp)]
    unfold lV
    rw [decide_eq_false lookW.1,Bool.or_false,decide_eq_false lookW.2.2.1,Bool.false_and,ih lp a (k + 1) h1 (by omega)]
    dsimp only
    unfold lV
    rw [Bool.false_and,ih lp b' (k + 1 + cntB a) h2 (by omega)]
    show CkR.fine _=_
    congr 1; omega
   ·rw [AA] at hk ⊢
    unfold uB
    dsimp only
    rw [if_neg (by omega),lZ (.inr gH) (fX gH _ _) (by simp),fX gH,hbl,if_neg (by decide),if_neg (by simp)]
    unfold lV
    rw [decide_eq_false lookW.2.2.2.2.2.2,Bool.or_false,decide_eq_false (show ¬ (0:Nat)=1 by decide),Bool.and_false,ih lp a (k + 1) h1 (by omega)]
    dsimp only
    unfold lV
    rw [AG h2 (by omega)]
    show CkR.fine _=_
    congr 1; omega
def GV (n:Nat) (st:Stm):Prop:=∃ (w:Str) (r:Stm),st = .s w :: r∧r.length≤9∧sw w r∧cntS r=((aG w r).map DC).sum∧∀ e ∈ aG w r,∃ c,e = .p c∧WfB n c∧NmB n c∧rP n c
theorem nY {n:Nat} {b:Bdy} (h:∀ st ∈ b,GV n st) (hl:b.length≤1000):WfB (n + 1) b∧NmB (n + 1) b∧rP (n + 1) b:=by
 refine ⟨⟨hl,fun st hs=>?_⟩,fun st hs w r e=>?_,fun st hs w r e=>?_⟩
 ·obtain ⟨w,r,e,h1,h2,h3,h4⟩:=h st hs
  exact ⟨w,r,e,h1,fun x hx=>let ⟨c,a,b,_⟩:=h4 x hx; ⟨c,a,b⟩⟩
 ·obtain ⟨w',r',e',h1,h2,h3,h4⟩:=h st hs
  rw [e] at e'
  simp only [List.cons.injEq,Ent.s.injEq] at e'
  obtain ⟨rfl,rfl⟩:=e'
  refine ⟨h2,fun c hc=>?_⟩
  obtain ⟨c',a,_,b,_⟩:=h4 _ hc
  cases a
  exact b
 ·obtain ⟨w',r',e',h1,h2,h3,h4⟩:=h st hs
  rw [e] at e'
  simp only [List.cons.injEq,Ent.s.injEq] at e'
  obtain ⟨rfl,rfl⟩:=e'
  refine ⟨h3,fun c hc=>?_⟩
  obtain ⟨c',a,_,_,b⟩:=h4 _ hc
  cases a
  exact b
theorem qF {P:PN} {n:Nat} {lp la:Bool} {st:Stm} (h:gG P lp la st):GV n st:=by
 obtain ⟨w,r,rfl,h1,h2,h3,h4,h5⟩:=h
 refine ⟨w,r,rfl,h5,h3,?_,fun e he=>by rw [h2] at he; cases he⟩
 rw [h2]
 have h4:0 + cntS r=0:=h4
 rw [Nat.zero_add] at h4
 rw [h4] <;> rfl
theorem Cn {P:PN} {n:Nat} {b:Bdy} (h:∀ x ∈ b,x ∈ be P) (hl:b.length≤1000):WfB (n + 1) b∧NmB (n + 1) b∧rP (n + 1) b :=
 nY (fun st hs=>qF (lX (lp:=false) (la:=false) (h st hs))) hl
theorem pI {P:PN}:∀ (lv n:Nat) (lp:Bool) (b:Bdy),lv + 1≤n→(∀ st ∈ b,GoodS P lv lp st)→cntB b≤1000→WfB n b∧NmB n b∧rP n b
 | _,0,_,_,h,_,_=>by omega
 | 0,n + 1,lp,b,_,hg,hk=>nY (fun st hs=>qF (jL (hg st hs))) (Nat.le_trans (iR b) hk)
 | lv + 1,n + 1,lp,b,hn,hg,hk=>by
   obtain ⟨m,rfl⟩:∃ m,n=m + 1:=⟨n - 1,by omega⟩
   refine nY (fun st hs=>?_) (Nat.le_trans (iR b) hk)
   have hm:=wt hs
   have ih:=fun lp' b' (h1:∀ st ∈ b',GoodS P lv lp' st) (h2:cntB b'≤1000)=>pI lv (m + 1) lp' b' (by omega) h1 h2
   have nm:∀ {w:Str} {r:Stm},w=aB∨w ∈ e9→sw w r:=fun {w r} h=>by
    refine ⟨fun e=>?_,fun _ _ h1 h2=>?_⟩
    ·rcases h with h | h
     ·exact absurd (h.symm.trans e) lookW.2.2.2.1
     ·exact absurd e (Cm w h).1
    ·rcases h with h | h
     ·exact absurd h h1
     ·exact absurd h h2
   have one2:∀ {a b':Bdy} {Q:Ent→Prop},Q (.p a)→Q (.p b')→∀ e ∈ [Ent.p a,.p b'],Q e:=fun {a b' Q} h1 h2 e he=>by
    rcases List.mem_cons.mp he with rfl | he
    ·exact h1
    ·rw [List.mem_singleton] at he; subst he; exact h2
   rcases hg st hs with h | ⟨a,rfl,h1⟩ | ⟨w,a,b',hw,rfl,h1,h2⟩ | ⟨c,a,b',hc,rfl,h1,h2⟩ | ⟨a,b',rfl,h1,h2⟩
   ·exact qF (jL h)
   ·rw [FG] at hm
    refine ⟨aB,[.p a],rfl,by simp,nm (.inl rfl),?_,fun e he=>?_⟩
    ·rw [iS]; rfl
    ·rw [iS,List.mem_singleton] at he; subst he
     exact ⟨a,rfl,ih true a h1 (by omega)⟩
   ·rw [AA] at hm
    refine ⟨w,[.p a,.p b'],rfl,by simp,nm (.inr (uD hw)),?_,?_⟩
    ·rw [fX (uD hw)]; rfl
    ·rw [fX (uD hw)]
     exact one2 ⟨a,rfl,ih lp a h1 (by omega)⟩ ⟨b',rfl,ih lp b' h2 (by omega)⟩
   ·rw [FF] at hm
    refine ⟨bw,[.s c,.p a,.p b'],rfl,by simp,⟨fun _ _=>⟨c,rfl⟩,fun _ h=>absurd rfl h⟩,?_,?_⟩
    ·rw [ma]
     show 0 + (cntB a + (cntB b' + 0))=cntB a + (cntB b' + 0)
     omega
    ·rw [ma]
     exact one2 ⟨a,rfl,ih lp a h1 (by omega)⟩ ⟨b',rfl,ih lp b' h2 (by omega)⟩
   ·rw [AA] at hm
    refine ⟨am,[.p a,.p b'],rfl,by simp,nm (.inr gH),?_,?_⟩
    ·rw [fX gH]; rfl
    ·rw [fX gH]
     exact one2 ⟨a,rfl,ih lp a h1 (by omega)⟩ ⟨b',rfl,Cn h2 (Nat.le_trans (iR b') (by omega))⟩
def fE (P:PN) (bs:Str→Bdy):List Fn:=P.fs.map fun x=>⟨x,bs x,cntB (bs x)⟩
def EF (P:PN) (st:Str) (bs:Str→Bdy):D:=.obj 4 (kD P (fE P bs) st)
local macro_rules | `(tactic| walk_at "p")=>`(tactic| try simp only [aK,f9,aA,om,aL,bj,hNx,hop,hun,hcb,hV,hC,hB,hTr,fK,dU,hOr,hIf,aE,bD,cM,aa,ae,an,bG,fS,hMt,hSl,mw,iL,fT,d8,k7,gc,ot,nh,bu,bindDs,u9,vh,ow,dO,dE,oy,fM,cC,hLc,vd,hJ,u6,b8,cN,ao,List.map_cons,List.map_nil,List.length_cons,List.length_nil,List.replicate,List.cons_append,List.nil_append,List.append_nil,zG0,zG1,zS0,zS1,Nat.reduceAdd,Nat.reduceSub,Nat.zero_add,gI0,gI,iH,u8,hM,jv,pV,isN,ng,Nat.beq,Nat.ble,isStr,ku,kw])
inductive Tr where
 | nd (bits:List Int) (kids:List (Option Tr))
def OkK (P:Tr→Prop):Option Tr→Prop
 | none=>True
 | some t=>P t
def FM (b:List Int):Prop:=(∀ x ∈ b,x=0∨x=1)∧b.length≤128
def Ok:Nat→Tr→Prop
 | 0,_=>False
 | n + 1,.nd b ks=>FM b∧ks.length≤600∧∀ k ∈ ks,OkK (Ok n) k
theorem Ok.up:∀ {n:Nat} {t:Tr},Ok n t→Ok (n + 1) t
 | 0,_,h=>h.elim
 | n + 1,.nd b ks,h=>⟨h.1,h.2.1,fun k hk=>by
   have:=h.2.2 k hk
   cases k with
   | none=>trivial
   | some t=>exact Ok.up this⟩
theorem Ok.mono {n m:Nat} {t:Tr} (h:Ok n t) (l:n≤m):Ok m t:=by
 induction l with
 | refl=>exact h
 | step _ ih=>exact ih.up
mutual
def Tr.size:Tr→Int
 | .nd _ ks=>1 + ksSize ks
def ksSize:List (Option Tr)→Int
 | []=>0
 | k :: ks=>kSize k + ksSize ks
def kSize:Option Tr→Int
 | none=>0
 | some t=>t.size
end
def OkP (n:Nat) (t:Tr):Prop:=Ok n t∧t.size≤500
theorem OkP.mono {n m:Nat} {t:Tr} (h:OkP n t) (l:n≤m):OkP m t:=⟨h.1.mono l,h.2⟩
def Co {α:Type} (p:α→Bool):List α→Nat
 | []=>0
 | x :: xs=>match Co p xs with
   | 0=>match p x with
     | true=>1
     | false=>0
   | n + 1=>n + 2
def short {α:Type} (p:α→Bool) (xs:List α):List α:=xs.take (Co p xs)
mutual
def Tr.deep:Tr→Int
 | .nd _ ks=>1 + Gq (deeps ks ++ [0])
def deeps:List (Option Tr)→List Int
 | []=>[]
 | k :: ks=>kdeep k ++ deeps ks
def kdeep:Option Tr→List Int
 | none=>[]
 | some t=>[t.deep]
end
theorem zF {xs ys:List D} {S:Sto} {Q:HK} (hl:xs.length + ys.length≤16777216) (h:Q (.lst (xs ++ ys)) S):cr (.lst xs) (.lst ys) S Q:=⟨fi hl,h⟩
local macro_rules | `(tactic| walk_at "p")=>`(tactic| try simp only [aK,f9,aA,om,aL,bj,hNx,hop,hun,hcb,hV,hC,hB,hTr,fK,dU,hOr,hIf,aE,bD,cM,aa,ae,an,bG,fS,hMt,hSl,mw,iL,fT,d8,k7,gc,ot,nh,bu,bindDs,u9,vh,ow,dO,dE,oy,Ah,se,iU,cE,jX,jc,qc,hO,kb,fM,cC,hLc,vd,hJ,u6,b8,cN,ao,List.map_cons,List.map_nil,List.length_cons,List.length_nil,List.replicate,List.cons_append,List.nil_append,List.append_nil,zG0,zG1,zS0,zS1,Nat.reduceAdd,Nat.reduceSub,Nat.zero_add,gI0,gI,iH,u8,hM,jv,pV,isN,ng,Nat.beq,Nat.ble,isStr,ku,kw])
structure Own_ where
 p:List Nat
 t:Nat
abbrev yo:=(Str→Option Own_) × (Str→List Own_)
structure Vis_ where
 path:List Nat
 fn:Str
 ci:yo
 out:Option (Str × yo)
 /-- the bits read and the calls made, when it has ended -/
 uc:Option (Nat × Nat)
structure Wld where
 cells:Str→Option Own_
 rows:Str→List Own_
 trace:List (Str × Str)
 heard:List (Str × List Nat × yo)
 visits:List Vis_
structure Frm where
 path:List Nat
 node:Tr
 used:Nat
 calls:Nat
 turn:Nat
 lucky:Bool
 ci:yo
abbrev Wld.cont (w:Wld):yo:=(w.cells,w.rows)
abbrev wOn:Str:=("on" : Str)
abbrev af:Str:=("fault" : Str)
abbrev dQ:Str:=("found" : Str)
abbrev dS:Str:=("none" : Str)
abbrev bP:Str:=("may" : Str)
abbrev aH:Str:=("again" : Str)
abbrev cD:Str:=("out" : Str)
abbrev bK:Str:=("stop" : Str)
abbrev aq:Str:=("deeper" : Str)
abbrev bX:Str:=("either" : Str)
abbrev d7:Str:=("told" : Str)
abbrev aM:Str:=("guard" : Str)
abbrev fo:Str:=("answer" : Str)
abbrev Cp:Str:=("put" : Str)
abbrev yq:Str:=("blank" : Str)
abbrev wC:Str:=("give" : Str)
abbrev sz:Str:=("push" : Str)
abbrev AI:Str:=("pop" : Str)
abbrev Cq:Str:=("cut" : Str)
abbrev Frm.own (fr:Frm):Own_:=⟨fr.path,fr.turn⟩
abbrev Frm.next (fr:Frm):Frm:={ fr with used:=fr.used + 1 }
abbrev lim:Nat:=1000000
abbrev zG (p:List Nat):D:=.tup (p.map fun (n:Nat)=>.int (n:Int))
abbrev FN (o:Own_):D:=.tup [zG o.p,.int (o.t:Nat)]
def GW:Option Own_→D
 | none=>.non
 | some o=>FN o
abbrev uE (P:PN) (f:Str→Option Own_):D:=.tup (P.cs.map fun x=>GW (f x))
abbrev uF (P:PN) (f:Str→List Own_):D:=.tup (P.rs.map fun x=>.tup ((f x).map FN))
abbrev GX (P:PN) (c:yo):D:=.tup [uE P c.1,uF P c.2]
abbrev FO (P:PN) (z:Str × List Nat × yo):D:=.tup [.str z.1,zG z.2.1,GX P z.2.2]
abbrev FP (z:Str × Str):D:=.tup [.str z.1,.str z.2]
def Hx (P:PN) (v:Vis_):List D:=match v.out with
 | none=>[zG v.path,.str v.fn,uE P v.ci.1,uF P v.ci.2,.non,.non,.non]
 | some (way,c)=>[zG v.path,.str v.fn,uE P v.ci.1,uF P v.ci.2,.str way,uE P c.1,uF P c.2]
structure SmallW (P:PN) (w:Wld):Prop where
 tr:w.trace.length≤lim
 rw:∀ x,(w.rows x).length≤w.trace.length
 hd:w.heard.length≤w.trace.length
 vs:w.visits.length≤w.trace.length
structure WA where
 c:Addr
 r:Addr
 h:Addr
 v:Addr
 s:Addr
 t:Addr
 ra:List Addr
 va:List Addr
 sk:List D
abbrev WA.fixd (A:WA):List Addr:=[A.c,A.r,A.h,A.v,A.s,A.t]
structure At (P:PN) (cd:D) (S:Sto) (p:Addr) (A:WA) (w:Wld):Prop where
 hp:S p=some (.ins 12 [cd,.obj 11 [],.ref A.c,.ref A.r,.ref A.h,.ref A.v,.ref A.s,.ref A.t])
 hc:S A.c=some (.lst (P.cs.map fun x=>GW (w.cells x)))
 hr:S A.r=some (.lst (A.ra.map D.ref))
 rl:A.ra.length=P.rs.length
 rr:∀ (i:Nat) (x:Str) (a:Addr),P.rs[i]? = some x→A.ra[i]? = some a→S a=some (.lst ((w.rows x).map FN))
 hh:S A.h=some (.lst (w.heard.map (FO P)))
 hv:S A.v=some (.lst (A.va.map D.ref))
 vl:A.va.length=w.visits.length
 vv:∀ (i:Nat) (a:Addr) (x:Vis_),A.va[i]? = some a→w.visits[i]? = some x→S a=some (.ins 8 (Hx P x))
 hs:S A.s=some (.lst A.sk)
 sl:A.sk.length≤w.trace.length
 ht:S A.t=some (.lst (w.trace.map FP))
 nd:(A.fixd ++ A.ra).Nodup
 vn:A.va.Nodup
 sm:SmallW P w
structure Rel (f:Addr) (A:WA) (S:Sto) (A':WA) (S':Sto):Prop where
 fx:A'.fixd=A.fixd
 sk:A'.sk=A.sk
 ra:∀ a ∈ A'.ra,a ∈ A.ra∨S a=none
 va:∃ l,A'.va=A.va ++ l
 fr:∀ x,S x ≠ none→x ≠ f→x ∉ A.fixd→x ∉ A.ra→S' x=S x
 ex:∀ x,S x ≠ none→S' x ≠ none
theorem Rel.rfl' {f:Addr} {A:WA} {S:Sto}:Rel f A S A S:=⟨rfl,rfl,fun a h=>.inl h,⟨[],by simp⟩,fun _ _ _ _ _=>rfl,fun _ h=>h⟩
theorem Rel.trans {f:Addr} {A A1 A2:WA} {S S1 S2:Sto} (h:Rel f A S A1 S1) (k:Rel f A1 S1 A2 S2):Rel f A S A2 S2:=by
 refine ⟨k.fx.trans h.fx,k.sk.trans h.sk,fun a ha=>?_,?_,fun x h1 h2 h3 h4=>?_,fun x hx=>k.ex x (h.ex x hx)⟩
 ·rcases k.ra a ha with h1 | h1
  ·exact h.ra a h1
  ·refine .inr ?_
   by_cases e:S a=none
   ·exact e
   ·exact absurd h1 (h.ex a e)
 ·obtain ⟨l1,e1⟩:=h.va
  obtain ⟨l2,e2⟩:=k.va
  exact ⟨l1 ++ l2,by rw [e2,e1,List.append_assoc]⟩
 ·rw [k.fr x (h.ex x h1) h2 (by rw [h.fx]; exact h3) fun h5=>?_,h.fr x h1 h2 h3 h4]
  rcases h.ra x h5 with h6 | h6
  ·exact h4 h6
  ·exact h1 h6
def iY:List Str:=[Cp,yq,wC]
def m7:List Str:=[sz,AI,Cq]
theorem uG {neg:Bool} {x:Str} {ss:List Str} {S:Sto} {Q:HK} (h:Q (.bl (ng neg (decide (x ∈ ss)))) S):iG neg (.str x) (.tup (ss.map D.str)) S Q:=mV (jI ss x) h
theorem zH {neg:Bool} {a b:Str} {S:Sto} {Q:HK} (h:Q (.bl (ng neg (decide (a=b)))) S):uZ neg (.str a) (.str b) S Q:=by
 show Q (.bl (ng neg (deq (.str a) (.str b)))) S
 rw [jF,uy]
 exact h
def yr (P:PN) (w x:Str):Prop:=(w ∈ iY∧x ∈ P.cs)∨(w ∈ m7∧x ∈ P.rs)∨w=fo
theorem mb {P:PN} {st:Stm} (h:st ∈ be P):∃ w x,st=two w x∧yr P w x:=by
 unfold be at h
 rcases List.mem_append.mp h with h | h
 ·obtain ⟨c,hc,hs⟩:=List.mem_flatMap.mp h
  simp only [da,List.mem_cons,List.not_mem_nil,or_false] at hs
  rcases hs with rfl | rfl | rfl | rfl <;> exact ⟨_,_,rfl,.inl ⟨by simp [iY],hc⟩⟩
 ·obtain ⟨c,hc,hs⟩:=List.mem_flatMap.mp h
  simp only [eR,List.mem_cons,List.not_mem_nil,or_false] at hs
  rcases hs with rfl | rfl | rfl | rfl <;> exact ⟨_,_,rfl,.inr (.inl ⟨by simp [m7],hc⟩)⟩
theorem qG {P:PN} {lp:Bool} {st:Stm} (h:mX P lp st):(∃ w,st=[.s w])∨(∃ w x,yr P w x∧st=[.s w,.s x])∨(∃ f ∈ P.fs,st=[.s aq,.s f])∨∃ x,st=[.s bK,.s x]:=by
 rcases h with h | ⟨f,hf,rfl⟩ | h
 ·obtain ⟨w,x,rfl,hd⟩:=mb h
  exact .inr (.inl ⟨w,x,hd,rfl⟩)
 ·exact .inr (.inr (.inl ⟨f,hf,rfl⟩))
 ·have hall:∀ st ∈ hX ++ jf ++ lC,(∃ w,st=[.s w])∨(∃ w x,yr P w x∧st=[.s w,.s x])∨(∃ f ∈ P.fs,st=[.s aq,.s f])∨∃ x,st=[.s bK,.s x]:=fun st h=>by
   simp only [hX,jf,lC,List.cons_append,List.nil_append,List.mem_cons,List.not_mem_nil,or_false] at h
   rcases h with rfl | rfl | rfl | rfl | rfl | rfl | rfl | rfl | rfl
   ·exact .inr (.inr (.inr ⟨_,rfl⟩))
   ·exact .inr (.inr (.inr ⟨_,rfl⟩))
   ·exact .inl ⟨_,rfl⟩
   ·exact .inl ⟨_,rfl⟩
   ·exact .inl ⟨_,rfl⟩
   ·exact .inr (.inl ⟨_,_,.inr (.inr rfl),rfl⟩)
   ·exact .inr (.inl ⟨_,_,.inr (.inr rfl),rfl⟩)
   ·exact .inl ⟨_,rfl⟩
   ·exact .inl ⟨_,rfl⟩
  cases lp with
  | true=>exact hall st h
  | false=>exact hall st (List.mem_append_left _ h)
def fnB (bs:Str→Bdy) (x:Str):D:=fnD x (bs x) (cntB (bs x))
abbrev cdS (P:PN) (bs:Str→Bdy) (st:Str):D:=.obj 4 [.tpx (P.cs.map D.str),.tpx (P.rs.map D.str),.tup (P.fs.map (fnB bs)),.str st]
local macro_rules | `(tactic| walk_at "p")=>`(tactic| try simp only [aK,f9,aA,om,aL,bj,hNx,hop,hun,hcb,hV,hC,hB,hTr,fK,dU,hOr,hIf,aE,bD,cM,aa,ae,an,bG,fS,hMt,hSl,mw,iL,fT,d8,k7,gc,ot,nh,bu,bindDs,u9,vh,ow,dO,dE,oy,Ah,se,iU,cE,jX,jc,qc,hO,kb,av,zh,zi,zj,pD,pE,tB,tD,mI,fM,cC,hLc,vd,hJ,u6,b8,cN,ao,List.map_cons,List.map_nil,List.length_cons,List.length_nil,List.replicate,List.cons_append,List.nil_append,List.append_nil,zG0,zG1,zS0,zS1,Nat.reduceAdd,Nat.reduceSub,Nat.zero_add,gI0,gI,iH,u8,hM,jv,pV,isN,ng,Nat.beq,Nat.ble,isStr,ku,kw])
theorem mc {xs:List D} {j:Nat} {d:D} {S:Sto} {Q:HK} (e:xs[j]? = some d) (g:Q d S):gIx (.lst xs) (.int (j:Nat)) S Q:=by
 obtain ⟨h,e⟩:=List.getElem?_eq_some_iff.mp e
 exact aF (S:=S) (x:=.lst xs) rfl (by rw [ii h,e]) g
theorem kU (P:PN) (bs:Str→Bdy) (st:Str):EF P st bs=cdS P bs st:=by
 unfold EF kD fE
 rw [List.map_map] <;> rfl
def PenH (S:Sto) (p:Addr) (n:Nat):Prop:=∃ (cs:List Int) (i k:Nat) (c:Int),S p=some (.lst [.lst (cs.map D.int),.int (i:Nat),.int c,.int (k:Nat)])∧i≤1000∧cs.length≤1000∧k≤n
theorem PenH.mono {S:Sto} {p:Addr} {n m:Nat} (h:PenH S p n) (l:n≤m):PenH S p m:=by
 obtain ⟨cs,i,k,c,h1,h2,h3,h4⟩:=h
 exact ⟨cs,i,k,c,h1,h2,h3,Nat.le_trans h4 l⟩
theorem PenH.frame {S S':Sto} {p:Addr} {n:Nat} (h:PenH S p n) (e:S' p=S p):PenH S' p n:=by
 obtain ⟨cs,i,k,c,h1,h2⟩:=h
 exact ⟨cs,i,k,c,e.trans h1,h2⟩
def Fr1 (p:Addr) (S S':Sto):Prop:=∀ a,a ≠ p→S' a=S a
theorem Fr1.r {p:Addr} {S:Sto}:Fr1 p S S:=fun _ _=>rfl
theorem Fr1.t {p:Addr} {S S1 S2:Sto} (h:Fr1 p S S1) (k:Fr1 p S1 S2):Fr1 p S S2:=fun a ha=>(k a ha).trans (h a ha)
def pJ:HSp:=fun ds S Q _=>∃ ns:List Int,ns.length≤63∧ds=[.rls (ns.map D.int)]∧∀ p S',S p=none→PenH S' p 0→Fr1 p S S'→Q (.ref p) S'
theorem wD {ds:List D} {S:Sto} {Q E:HK} (h:pJ ds S Q E):gv (EN Q E) (ao 2 ds) S:=by
 obtain ⟨ns,hn,rfl,g⟩:=h
 show gv (EN Q E) [some (.rls (ns.map D.int)),none] S
 unfold gv
 refine fy (.int 0) S (fun R E r=>by simp only [hC]; exact r) ?_
 dsimp only [zS1,zS0]
 refine gE (fun env S'=>∃ c:Int,env=[some (.rls (ns.map D.int)),some (.int c)]∧S'=S) (fun D1 hD=>?_) fun env S1 ⟨c,ee,es⟩=>?_
 ·refine ifs (decide (ns ≠ [])) (fun R E r=>?_) (fun h=>?_) (fun _=>hD _ _ ⟨0,rfl,rfl⟩)
  ·simp only [hB,hop,hcb,aa,ae,hV,hC,zG0,zG1]
   refine bz rfl ?_
   rw [List.length_map]
   have e:decide ((0:Int) < ((ns.length:Nat):Int))=decide (ns ≠ []):=by
    rw [decide_eq_decide]
    cases ns with
    | nil=>simp
    | cons a l=>simp
   rw [← e] at r
   exact r
  ·have h:=of_decide_eq_true h
   cases ns with
   | nil=>exact absurd rfl h
   | cons a l =>
     simp only [aK,hop,hV,hC,zG0,zG1,zS0,zS1]
     refine aF (xs:=(a :: l).map D.int) (d:=.int a) rfl (by rw [show (0:Int)=((0:Nat):Int) from rfl,ii (by simp:0 < ((a :: l).map D.int).length)]; rfl) ?_
     exact hD _ _ ⟨a,rfl,rfl⟩
 subst ee
 subst es
 simp only [aA,cM,hcb,aa,ae,hV,hC,zG0,zG1]
 unfold fu
 dsimp only [items]
 intro q hq
 exact Rt.mk (g q _ hq ⟨ns,1,0,c,ai,by decide,by omega,Nat.le_refl _⟩ fun a ha=>ar ha)
def fJ:HSp:=fun ds S Q _=>∃ (p:Addr) (n:Nat) (m:Int),ds=[.ref p,.int m]∧0 < m∧m≤1000000∧PenH S p n∧n < 1000000∧∀ (v:Int) (S':Sto),0≤v→v < m→PenH S' p (n + 1)→Fr1 p S S'→Q (.int v) S'
theorem wF {ds:List D} {S:Sto} {Q E:HK} (h:fJ ds S Q E):gW (EN Q E) (ao 5 ds) S:=by
 obtain ⟨p,n,m,rfl,hm,hm2,⟨cs,i,k,c,hp,hi,hcl,hk⟩,hn,g⟩:=h
 show gW (EN Q E) [some (.ref p),some (.int m),none,none,none] S
 unfold gW
 refine bZ (decide ((10:Int) ^ (18:Int).toNat≤c)) (fun R E r=>?_) (fun _=>?_) (fun _=>?_)
 ·simp only [hB,hop,hV,hC,zG0,zG1]
  refine eE hp rfl ?_
  refine ⟨⟨by decide,by decide,by decide⟩,?_⟩
  exact r
 ·refine fy (.int (c % m)) S (fun R E r=>?_) ?_
  ·simp only [hop,hcb,aa,ae,hV,hC,zG0,zG1]
   refine eE hp rfl ?_
   simp only [ol]
   exact ⟨hm,r⟩
  dsimp only [zS1,zS0]
  refine dC ?_
  simp only [fT,hop,hV,hC,zG0,zG1]
  refine eE hp rfl ?_
  refine ⟨⟨hm,by omega⟩,?_⟩
  refine kR (j:=2) hp rfl ?_
  simp only [aA,hV,zG0,zG1]
  exact Rt.mk (g _ _ (Int.emod_nonneg _ (by omega)) (Int.emod_lt_of_pos _ hm) ⟨cs,i,k,c / m,ai,hi,hcl,by omega⟩ fun a ha=>ar ha)
 ·refine dC ?_
  simp only [fT,hop,hV,hC,zG0,zG1]
  refine eE hp rfl ?_
  refine mW ?_
  refine kR (j:=3) hp rfl ?_
  have hp1:up S p (.lst ([D.lst (cs.map D.int),.int (i:Nat),.int c,.int (k:Nat)].set 3 (.int ((k:Nat) + 1)))) p=some (.lst [.lst (cs.map D.int),.int (i:Nat),.int c,.int ((k + 1:Nat):Int)]):=ai
  have fr1:Fr1 p S (up S p (.lst ([D.lst (cs.map D.int),.int (i:Nat),.int c,.int (k:Nat)].set 3 (.int ((k:Nat) + 1))))):=fun a ha=>ar ha
  generalize up S p (.lst ([D.lst (cs.map D.int),.int (i:Nat),.int c,.int (k:Nat)].set 3 (.int ((k:Nat) + 1))))=S1 at hp1 fr1 ⊢
  have b1:=Ay (i:=c) (m:=1000000007) (by decide)
  refine fy (.int (c % 1000000007 + 69621 * ((k + 1:Nat):Int) + 48271)) S1 (fun R E r=>?_) ?_
  ·simp only [hop,hcb,aa,ae,hV,hC,zG0,zG1]
   refine eE hp1 rfl ?_
   simp only [ol]
   refine ⟨by show (0:Int) < 1000000007; decide,?_⟩
   refine eE hp1 rfl ?_
   refine ⟨Nat.lt_of_lt_of_le (Nat.add_lt_add (B9 (n:=64) (by decide) (by decide)) (B9 (n:=64) (by omega) (by decide))) (by decide),?_⟩
   refine mW ?_
   refine mW ?_
   exact r
  dsimp only [zS1,zS0]
  have n1:=Int.emod_nonneg c (show (1000000007:Int) ≠ 0 by decide)
  have n2:=Int.emod_lt_of_pos c (show (0:Int) < 1000000007 by decide)
  refine fz (fun d S'=>∃ z:Int,d = .int z∧S'=S1) (fun R E hR=>?_) fun d S2 ⟨z,ed,es⟩=>?_
  ·simp only [hop,hV,hC,zG0,zG1]
   refine ⟨⟨by decide,by decide,by omega⟩,?_⟩
   refine ⟨by show (0:Int) < 170141183460469231731687303715884105727; decide,?_⟩
   exact hR _ _ ⟨_,rfl,rfl⟩
  subst ed
  subst es
  dsimp only [zS1,zS0]
  refine gE (fun env S'=>∃ x2 x3,env=[some (.ref p),some (.int m),x2,x3,some (.int z)]∧PenH S' p (n + 1)∧Fr1 p S2 S') (fun D1 hD=>?_) fun env S3 ⟨x2,x3,ee,pen3,fr3⟩=>?_
  ·refine ifs (decide (i < cs.length)) (fun R E r=>?_) (fun h=>?_) (fun _=>hD _ _ ⟨_,_,rfl,⟨cs,i,k + 1,c,hp1,hi,hcl,by omega⟩,Fr1.r⟩)
   ·simp only [hB,hop,hcb,aa,ae,hV,hC,zG0,zG1]
    refine eE hp1 rfl ?_
    refine eE hp1 rfl ?_
    refine bz rfl ?_
    rw [List.length_map]
    have e:decide (((i:Nat):Int) < ((cs.length:Nat):Int))=decide (i < cs.length):=by rw [decide_eq_decide]; omega
    rw [← e] at r
    exact r
   ·have h:=of_decide_eq_true h
    refine dC ?_
    simp only [fT,hop,hV,hC,zG0,zG1]
    refine eE hp1 rfl ?_
    refine eE hp1 rfl ?_
    refine mc (j:=i) (d:=.int cs[i]) (by rw [List.getElem?_map,List.getElem?_eq_getElem h]; rfl) ?_
    refine kR (j:=2) hp1 rfl ?_
    have hp2:up S2 p (.lst ([D.lst (cs.map D.int),.int (i:Nat),.int c,.int ((k + 1:Nat):Int)].set 2 (.int cs[i]))) p=some (.lst [.lst (cs.map D.int),.int (i:Nat),.int cs[i],.int ((k + 1:Nat):Int)]):=ai
    have fr2:Fr1 p S2 (up S2 p (.lst ([D.lst (cs.map D.int),.int (i:Nat),.int c,.int ((k + 1:Nat):Int)].set 2 (.int cs[i])))):=fun a ha=>ar ha
    generalize up S2 p (.lst ([D.lst (cs.map D.int),.int (i:Nat),.int c,.int ((k + 1:Nat):Int)].set 2 (.int cs[i])))=S3 at hp2 fr2 ⊢
    refine eE hp2 rfl ?_
    refine mW ?_
    refine kR (j:=1) hp2 rfl ?_
    exact hD _ _ ⟨_,_,rfl,⟨cs,i + 1,k + 1,cs[i],ai,by omega,hcl,by omega⟩,fr2.t fun a ha=>ar ha⟩
  subst ee
  simp only [aA,hop,hcb,aa,ae,hV,hC,zG0,zG1]
  simp only [ol]
  refine ⟨⟨by decide,by decide⟩,?_⟩
  refine ⟨hm,?_⟩
  exact Rt.mk (g _ _ (Int.emod_nonneg _ (by omega)) (Int.emod_lt_of_pos _ hm) pen3 (fr1.t fr3))
abbrev nA:Str:=("a" : Str)
abbrev nB:Str:=("b" : Str)
abbrev nR:Str:=("r" : Str)
abbrev nF:Str:=("f" : Str)
abbrev nG:Str:=("g" : Str)
def PH:PN:=⟨[nA,nB],[nR],[nF,nG]⟩
def deeds7:List Stm:=[two Cp nA,two Cp nA,two yq nA,two wC nA,two wC nA,two Cp nB,two wC nB]
def deeds6:List Stm:=[two sz nR,two sz nR,two AI nR,two AI nR,two Cq nR,two fo ("copy" : Str)]
def qH:List Stm:=[two fo ("view" : Str)]
theorem yt:∀ s ∈ deeds7 ++ deeds6 ++ qH,∀ lp,mX PH lp s:=fun s hs lp=>by
 simp only [deeds7,deeds6,qH,List.cons_append,List.nil_append,List.mem_cons,List.not_mem_nil,or_false] at hs
 have ans:∀ x,x ∈ jf→mX PH lp x:=fun x hx=>by
  refine .inr (.inr ?_)
  cases lp with
  | false=>exact List.mem_append_right _ hx
  | true=>exact List.mem_append_left _ (List.mem_append_right _ hx)
 rcases hs with rfl | rfl | rfl | rfl | rfl | rfl | rfl | rfl | rfl | rfl | rfl | rfl | rfl | rfl
 ·exact .inl (by simp [be,PH,da])
 ·exact .inl (by simp [be,PH,da])
 ·exact .inl (by simp [be,PH,da])
 ·exact .inl (by simp [be,PH,da])
 ·exact .inl (by simp [be,PH,da])
 ·exact .inl (by simp [be,PH,da])
 ·exact .inl (by simp [be,PH,da])
 ·exact .inl (by simp [be,PH,eR])
 ·exact .inl (by simp [be,PH,eR])
 ·exact .inl (by simp [be,PH,eR])
 ·exact .inl (by simp [be,PH,eR])
 ·exact .inl (by simp [be,PH,eR])
 ·exact ans _ (by simp [jf])
 ·exact ans _ (by simp [jf])
def pK:HSp:=fun ds S Q _=>∃ (p:Addr) (n:Nat),ds=[.ref p]∧PenH S p n∧n < 900000∧∀ (s:Stm) (S':Sto),(∀ lp,mX PH lp s)→PenH S' p (n + 1)→Fr1 p S S'→Q (aY s) S'
theorem wG {ds:List D} {S:Sto} {Q E:HK} (h:pK ds S Q E):gX fJ (EN Q E) (ao 3 ds) S:=by
 obtain ⟨p,n,rfl,pen,hn,g⟩:=h
 show gX fJ (EN Q E) [some (.ref p),none,none] S
 unfold gX
 refine fz (fun d S'=>∃ v:Nat,d = .int (v:Nat)∧v < 14∧PenH S' p (n + 1)∧Fr1 p S S') (fun R E hR=>?_) fun d S1 ⟨v,ed,hv,pen1,fr1⟩=>?_
 ·simp only [an,aa,ae,hV,hC,zG0,zG1]
  refine ⟨p,n,14,rfl,by decide,by decide,pen,by omega,fun v S' v0 v1 pen' fr=>?_⟩
  obtain ⟨v,rfl⟩:=Int.eq_ofNat_of_zero_le v0
  exact hR _ _ ⟨v,rfl,by omega,pen',fr⟩
 subst ed
 dsimp only [zS1,zS0]
 refine fy (.lst (deeds7.map aY)) S1 (fun R E r=>by simp only [bD,aE,aa,ae,hC]; exact r) ?_
 dsimp only [zS1,zS0]
 refine fy (.lst (deeds7.map aY ++ deeds6.map aY)) S1 (fun R E r=>?_) ?_
 ·simp only [hop,bD,aE,aa,ae,hV,hC,zG0,zG1]
  refine zF (by decide) ?_
  exact r
 dsimp only [zS1,zS0]
 simp only [aA,hop,bD,aE,aa,ae,hV,hC,zG0,zG1]
 refine zF (by decide) ?_
 have hlt:v < (deeds7 ++ deeds6 ++ qH).length:=hv
 have e:(deeds7.map aY ++ deeds6.map aY ++ [D.tup [.str fo,.str ("view" : Str)]])[v]? = some (aY (deeds7 ++ deeds6 ++ qH)[v]):=by
  have:(deeds7.map aY ++ deeds6.map aY ++ [D.tup [.str fo,.str ("view" : Str)]])=(deeds7 ++ deeds6 ++ qH).map aY:=by
   rw [List.map_append,List.map_append]
   rfl
  rw [this,List.getElem?_map,List.getElem?_eq_getElem hlt]
  rfl
 refine mc e ?_
 exact Rt.mk (g _ S1 (yt _ (List.getElem_mem hlt)) pen1 fr1)
def jk:HSp:=fun ds S Q _=>∃ (p:Addr) (n:Nat) (lp:Bool),ds=[.ref p,.bl lp]∧PenH S p n∧n < 800000∧∀ (s:Stm) (S':Sto),mX PH lp s→PenH S' p (n + 2)→Fr1 p S S'→Q (aY s) S'
theorem rR {ds:List D} {S:Sto} {Q E:HK} (h:jk ds S Q E):fD fJ pK (EN Q E) (ao 3 ds) S:=by
 obtain ⟨p,n,lp,rfl,pen,hn,g⟩:=h
 show fD fJ pK (EN Q E) [some (.ref p),some (.bl lp),none] S
 unfold fD
 refine fz (fun d S'=>∃ v:Nat,d = .int (v:Nat)∧v < 12∧PenH S' p (n + 1)∧Fr1 p S S') (fun R E hR=>?_) fun d S1 ⟨v,ed,hv,pen1,fr1⟩=>?_
 ·simp only [an,aa,ae,hV,hC,zG0,zG1]
  refine ⟨p,n,12,rfl,by decide,by decide,pen,by omega,fun v S' v0 v1 pen' fr=>?_⟩
  obtain ⟨v,rfl⟩:=Int.eq_ofNat_of_zero_le v0
  exact hR _ _ ⟨v,rfl,by omega,pen',fr⟩
 subst ed
 dsimp only [zS1,zS0]
 have rare:∀ s,s ∈ hX→mX PH lp s:=fun s hs=>by
  refine .inr (.inr ?_)
  cases lp with
  | false=>exact List.mem_append_left _ hs
  | true=>exact List.mem_append_left _ (List.mem_append_left _ hs)
 have dr:∀ (m:Nat) (Q0 E0:HK),0 < m→m≤100→(∀ (v:Nat) (S':Sto),v < m→PenH S' p (n + 2)→Fr1 p S S'→Q0 (.int (v:Nat)) S')→fJ [.ref p,.int (m:Nat)] S1 Q0 E0:=fun m Q0 E0 h0 h1 k=>by
  refine ⟨p,n + 1,m,rfl,by omega,by omega,pen1,by omega,fun v S' v0 v1 pen' fr=>?_⟩
  obtain ⟨v,rfl⟩:=Int.eq_ofNat_of_zero_le v0
  exact k v S' (by omega) pen' (fr1.t fr)
 have lt:∀ (j:Nat) (R:Bool→Sto→Prop) (E:HK),R (decide (v < j)) S1→hB (hop gLt (hV 2) (hC (.int (j:Nat)))) [some (.ref p),some (.bl lp),some (.int (v:Nat))] S1 R E:=fun j R E r=>by
  simp only [hB,hop,hV,hC,zG0,zG1]
  have e:decide (((v:Nat):Int) < ((j:Nat):Int))=decide (v < j):=by rw [decide_eq_decide]; omega
  rw [← e] at r
  exact r
 have eqn:∀ (j:Nat) (R:Bool→Sto→Prop) (E:HK),R (decide (v=j)) S1→hB (hop gEq (hV 2) (hC (.int (j:Nat)))) [some (.ref p),some (.bl lp),some (.int (v:Nat))] S1 R E:=fun j R E r=>by
  simp only [hB,hop,hV,hC,zG0,zG1]
  refine jG (neg:=false) ?_
  have e:ng false (decide (((v:Nat):Int)=((j:Nat):Int)))=decide (v=j):=by
   show decide _=_
   rw [decide_eq_decide]; omega
  rw [e]
  exact r
 refine bZ (decide (v < 6)) (fun R E r=>lt 6 R E r) (fun _=>?_) (fun _=>?_)
 ·simp only [aA,an,aa,ae,hV,zG0,zG1]
  exact ⟨p,n + 1,rfl,pen1,by omega,fun s S' h1 h2 h3=>Rt.mk (g s S' (h1 lp) h2 (fr1.t h3))⟩
 refine bZ (decide (v < 9)) (fun R E r=>lt 9 R E r) (fun _=>?_) (fun _=>?_)
 ·simp only [aA,aE,hop,bD,an,aa,ae,hV,hC,zG0,zG1]
  refine dr 2 _ _ (by decide) (by decide) fun v S' hv pen2 fr2=>?_
  have hf:∃ f ∈ PH.fs,([D.str nF,.str nG]:List D)[v]? = some (.str f):=by
   have:v=0∨v=1:=by omega
   rcases this with rfl | rfl
   ·exact ⟨nF,by simp [PH],rfl⟩
   ·exact ⟨nG,by simp [PH],rfl⟩
  obtain ⟨f,hf1,hf2⟩:=hf
  refine mc hf2 ?_
  exact Rt.mk (g (two aq f) S' (.inr (.inl ⟨f,hf1,rfl⟩)) pen2 fr2)
 refine bZ (decide (v=9)) (fun R E r=>eqn 9 R E r) (fun _=>?_) (fun _=>?_)
 ·simp only [aA,aE,aa,ae,hC]
  exact Rt.mk (g (one bP) S1 (rare _ (by simp [hX])) (pen1.mono (by omega)) fr1)
 refine bZ (decide (v=10) && lp) (fun R E r=>?_) (fun h=>?_) (fun _=>?_)
 ·refine (show dU _ _ _ _ _ _ from eqn 10 _ E ?_)
  cases hd:decide (v=10) with
  | false =>
    rw [hd] at r
    exact r
  | true =>
    rw [hd] at r
    simp only [hTr,hV,zG0,zG1]
    exact r
 ·rw [Bool.and_eq_true] at h
  simp only [aA,aE,hop,bD,an,aa,ae,hV,hC,zG0,zG1]
  refine dr 2 _ _ (by decide) (by decide) fun v S' hv pen2 fr2=>?_
  have hf:∃ s ∈ lC,([aY (one aH),aY (one cD)]:List D)[v]? = some (aY s):=by
   have:v=0∨v=1:=by omega
   rcases this with rfl | rfl
   ·exact ⟨one aH,by simp [lC],rfl⟩
   ·exact ⟨one cD,by simp [lC],rfl⟩
  obtain ⟨s,hf1,hf2⟩:=hf
  refine mc hf2 ?_
  refine Rt.mk (g s S' (.inr (.inr ?_)) pen2 fr2)
  rw [h.2]
  exact List.mem_append_right _ hf1
 ·simp only [aA,aE,hop,bD,an,aa,ae,hV,hC,zG0,zG1]
  refine dr 3 _ _ (by decide) (by decide) fun v S' hv pen2 fr2=>?_
  have hf:∃ s ∈ hX,([aY (two bK dQ),aY (two bK dS),aY (one af)]:List D)[v]? = some (aY s):=by
   have:v=0∨v=1∨v=2:=by omega
   rcases this with rfl | rfl | rfl
   ·exact ⟨_,by simp [hX],rfl⟩
   ·exact ⟨_,by simp [hX],rfl⟩
   ·exact ⟨_,by simp [hX],rfl⟩
  obtain ⟨s,hf1,hf2⟩:=hf
  refine mc hf2 ?_
  exact Rt.mk (g s S' (rare s hf1) pen2 fr2)
def cH:Nat→Nat
 | 0=>20
 | n + 1=>25 + 8 * cH n
def LeftH (S:Sto) (q:Addr) (l:Nat):Prop:=S q=some (.lst [.int (l:Nat)])
def jM (lv:Nat):HSp:=fun ds S Q _=>∃ (p q:Addr) (n l:Nat) (lp:Bool),ds=[.ref p,.ref q,.int (lv:Nat),.bl lp]∧p ≠ q∧PenH S p n∧LeftH S q l∧l≤100∧n + cH lv≤700000∧∀ (b:Bdy) (l':Nat) (S':Sto),(∀ x ∈ b,GoodS PH lv lp x)→cntB b + l'=l→PenH S' p (n + cH lv)→LeftH S' q l'→FrO p q S S'→Q (aw b) S'
def kF (lv:Nat):HSp:=fun ds S Q _=>∃ (p q:Addr) (n l:Nat) (lp:Bool),ds=[.ref p,.ref q,.int ((lv + 1:Nat):Int),.bl lp]∧p ≠ q∧PenH S p n∧LeftH S q l∧l≤100∧n + 5 + 2 * cH lv≤700000∧∀ (s:Stm) (l':Nat) (S':Sto),GoodS PH (lv + 1) lp s→cntS s + l'=l→PenH S' p (n + 5 + 2 * cH lv)→LeftH S' q l'→FrO p q S S'→Q (aY s) S'
theorem wH {a b:Str} {S:Sto} {Q:HK} (h:Q (.bl (decide (a=b))) S):gEq (.str a) (.str b) S Q:=by
 show Q (.bl (ng false (a == b))) S
 have e:(a == b)=decide (a=b):=by rw [Bool.eq_iff_iff]; simp
 rw [e]
 exact h
theorem FrO.r {p q:Addr} {S:Sto}:FrO p q S S:=fun _ _ _ _=>rfl
theorem Fr1.o {p q:Addr} {S S':Sto} (h:Fr1 p S S'):FrO p q S S':=fun a ha _ _=>h a ha
theorem LeftH.fr {S S':Sto} {p q:Addr} {l:Nat} (h:LeftH S q l) (hne:p ≠ q) (f:Fr1 p S S'):LeftH S' q l:=(f q (Ne.symm hne)).trans h
def ends6:List Stm:=[two Cp nA,two yq nA,two wC nA,two AI nR,two Cq nR,two sz nR]
theorem DG:∀ s ∈ ends6,s ∈ be PH:=fun s hs=>by
 simp only [ends6,List.mem_cons,List.not_mem_nil,or_false] at hs
 rcases hs with rfl | rfl | rfl | rfl | rfl | rfl
 ·simp [be,PH,da]
 ·simp [be,PH,da]
 ·simp [be,PH,da]
 ·simp [be,PH,eR]
 ·simp [be,PH,eR]
 ·simp [be,PH,eR]
theorem sA {p:Addr} {x1 x2 x3 x4 x5 x8:Option D} {R:HK}:∀ (l:List D) (acc:List Stm) (S:Sto) (n:Nat),PenH S p n→n + l.length < 900000→(∀ (ss:List Stm) (S':Sto),(∀ x ∈ ss,x ∈ be PH)→ss.length=l.length→PenH S' p (n + l.length)→Fr1 p S S'→R (.lst ((acc ++ ss).map aY)) S') →
 cW (.nm 7) fM (hop gIx (hV 6) (an 2 [] fJ (aa (hV 0) (aa (hC (.int 6)) ae)))) none l (acc.map aY) [some (.ref p),x1,x2,x3,x4,x5,some (.lst (ends6.map aY)),none,x8] S R
 | [],acc,S,n,pen,hn,g=>by
   have:=g [] S (fun x hx=>by cases hx) rfl pen Fr1.r
   rw [List.append_nil] at this
   exact this
 | d :: l,acc,S,n,pen,hn,g=>by
   rw [List.length_cons] at hn g
   simp only [cW,chk,bu,fM,hop,an,aa,ae,hV,hC,zS0,zS1,zG0,zG1]
   refine ⟨p,n,6,rfl,by decide,by decide,pen,by omega,fun v S' v0 v1 pen' fr=>?_⟩
   obtain ⟨v,rfl⟩:=Int.eq_ofNat_of_zero_le v0
   have hlt:v < ends6.length:=by show v < 6; omega
   refine mc (d:=aY ends6[v]) (by rw [List.getElem?_map,List.getElem?_eq_getElem hlt]; rfl) ?_
   rw [show acc.map aY ++ [aY ends6[v]]=(acc ++ [ends6[v]]).map aY by rw [List.map_append]; rfl]
   refine sA l _ S' (n + 1) pen' (by omega) fun ss S'' h1 h2 h3 h4=>?_
   rw [List.append_assoc]
   refine g (ends6[v] :: ss) S'' (fun x hx=>?_) (by rw [List.length_cons,h2]) (h3.mono (by omega)) (fr.t h4)
   rcases List.mem_cons.mp hx with rfl | hx
   ·exact DG _ (List.getElem_mem hlt)
   ·exact h1 x hx
theorem kW (b:Bdy):aw b = .tup (b.map aY):=by
 show D.tup (stmsD b)=_
 rw [fW]
theorem qI:∀ (b:Bdy),(∀ x ∈ b,x ∈ be PH)→cntB b=b.length
 | [],_=>rfl
 | s :: b,h=>by
   have ih:=qI b fun x hx=>h x (zMt hx)
   obtain ⟨w,x,rfl⟩:=jg (h s zMs)
   show 1 + 0 + cntB b=b.length + 1
   omega
abbrev words7:List Str:=[bX,aB,aB,d7,bw,aM,am]
theorem m8 {lv:Nat} {ds:List D} {S:Sto} {Q E:HK} (h:kF lv ds S Q E):gw fJ (jM lv) (EN Q E) (ao 9 ds) S:=by
 obtain ⟨p,q,n,l,lp,rfl,hpq,pen,hl,hl14,hn,g⟩:=h
 show gw fJ (jM lv) (EN Q E) [some (.ref p),some (.ref q),some (.int ((lv + 1:Nat):Int)),some (.bl lp),none,none,none,none,none] S
 unfold gw
 refine fz (fun d S'=>∃ w ∈ words7,d = .str w∧PenH S' p (n + 1)∧Fr1 p S S') (fun R E hR=>?_) fun d S1 ⟨w,hw,ed,pen1,fr1⟩=>?_
 ·simp only [hop,bD,an,aa,ae,hV,hC,zG0,zG1]
  refine ⟨p,n,7,rfl,by decide,by decide,pen,by omega,fun v S' v0 v1 pen' fr=>?_⟩
  obtain ⟨v,rfl⟩:=Int.eq_ofNat_of_zero_le v0
  have hlt:v < words7.length:=by show v < 7; omega
  refine mc (d:=.str words7[v]) ?_ (hR _ _ ⟨words7[v],List.getElem_mem hlt,rfl,pen',fr⟩)
  show (words7.map D.str)[v]? = _
  rw [List.getElem?_map,List.getElem?_eq_getElem hlt]
  rfl
 subst ed
 dsimp only [zS1,zS0]
 have hl1:=hl.fr hpq fr1
 have hd:((lv + 1:Nat):Int) - 1=(lv:Nat):=by omega
 refine fz (fun d S'=>∃ (a:Bdy) (l1:Nat),d=aw a∧(∀ x ∈ a,GoodS PH lv (lp || decide (w=aB)) x)∧cntB a + l1=l∧PenH S' p (n + 1 + cH lv)∧LeftH S' q l1∧FrO p q S S') (fun R E hR=>?_) fun d S2 ⟨a,l1,ed,ha,hc,pen2,hl2,fr2⟩=>?_
 ·simp only [hop,an,aa,ae,hV,hC,k7,zG0,zG1]
  refine Ch ?_
  rw [hd]
  have go:∀ (S':Sto) (b:Bool),S'=S1→b=(lp || decide (w=aB))→jM lv [.ref p,.ref q,.int (lv:Nat),.bl b] S' R E:=fun S' b e1 e2=>by
   subst e1
   subst e2
   refine ⟨p,q,n + 1,l,_,rfl,hpq,pen1,hl1,hl14,by omega,fun b l' S'' h1 h2 h3 h4 h5=>?_⟩
   exact hR _ _ ⟨b,l',rfl,h1,h2,h3,h4,fun x h6 h7 h8=>(h5 x h6 h7 (by rw [fr1 x h6]; exact h8)).trans (fr1 x h6)⟩
  cases lp with
  | true=>exact go S1 true rfl rfl
  | false =>
    unfold iH
    dsimp only
    refine wH ?_
    exact go S1 _ rfl (by simp)
 subst ed
 dsimp only [zS1,zS0]
 have eqw:∀ (z:Str) (x6 x7 x8:Option D) (S':Sto) (R:Bool→Sto→Prop) (E:HK),R (decide (w=z)) S'→hB (hop gEq (hV 4) (hC (.str z))) [some (.ref p),some (.ref q),some (.int ((lv + 1:Nat):Int)),some (.bl lp),some (.str w),some (aw a),x6,x7,x8] S' R E:=fun z x6 x7 x8 S' R E r=>by
  simp only [hB,hop,hV,hC,zG0,zG1]
  refine wH ?_
  exact r
 have ne6:am ≠ aB∧bw ≠ aB∧bw ≠ am:=by decide +kernel
 refine bZ (decide (w=aB)) (fun R E r=>eqw _ _ _ _ _ R E r) (fun h=>?_) (fun h1=>?_)
 ·have h:=of_decide_eq_true h
  subst h
  simp only [aA,aE,aa,ae,hV,hC,zG0,zG1]
  refine Rt.mk (g [.s aB,.p a] l1 S2 (.inr (.inl ⟨a,rfl,fun x hx=>by have:=ha x hx; rw [decide_eq_true rfl,Bool.or_true] at this; exact this⟩)) ?_ (pen2.mono (by omega)) hl2 fr2)
  show 0 + (cntB a + 0) + l1=l
  omega
 have h1:=of_decide_eq_false h1
 rw [decide_eq_false h1,Bool.or_false] at ha
 refine bZ (decide (w=am)) (fun R E r=>eqw _ _ _ _ _ R E r) (fun h=>?_) (fun h2=>?_)
 ·have h:=of_decide_eq_true h
  subst h
  refine fy (.lst (ends6.map aY)) S2 (fun R E r=>by simp only [bD,aE,aa,ae,hC]; exact r) ?_
  dsimp only [zS1,zS0]
  refine fz (fun d S'=>∃ (b:Bdy),d=aw b∧(∀ x ∈ b,x ∈ be PH)∧b.length≤l1∧PenH S' p (n + 5 + cH lv)∧Fr1 p S2 S') (fun R E hR=>?_) fun d S3 ⟨b,ed,hb,hbl,pen3,fr3⟩=>?_
  ·simp only [hcb,hLc,hJ,hop,an,aa,ae,hV,hC,zG0,zG1]
   refine eE hl2 rfl ?_
   refine ⟨p,n + 1 + cH lv,3,rfl,by decide,by decide,pen2,by omega,fun v S' v0 v1 pen' fr=>?_⟩
   obtain ⟨v,rfl⟩:=Int.eq_ofNat_of_zero_le v0
   show (min ((l1:Nat):Int) ((v:Nat):Int)≤16777216∧_)
   refine ⟨by omega,by omega,?_⟩
   have hml:(g9 0 (min ((l1:Nat):Int) ((v:Nat):Int)).toNat).length=min l1 v:=by
    rw [dV]
    omega
   simp only [cN,List.foldl,zS1,zS0]
   refine sA (x1:=some (.ref q)) _ [] S' (n + 1 + cH lv + 1) pen' (by rw [hml]; omega) fun ss S'' k1 k2 k3 k4=>?_
   unfold dD
   dsimp only [items]
   rw [List.nil_append]
   refine hR _ _ ⟨ss,(kW ss).symm,k1,by rw [k2,hml]; omega,k3.mono (by rw [hml]; omega),fr.t k4⟩
  subst ed
  dsimp only [zS1,zS0]
  have hl3:=hl2.fr hpq fr3
  refine dC ?_
  simp only [fT,hop,hcb,aa,ae,hV,hC,zG0,zG1]
  refine eE hl3 rfl ?_
  rw [kW b]
  refine bz rfl ?_
  rw [List.length_map]
  refine Ch ?_
  refine kR (j:=0) hl3 rfl ?_
  simp only [aA,aE,aa,ae,hV,hC,zG0,zG1]
  rw [← kW b]
  refine Rt.mk (g [.s am,.p a,.p b] (l1 - b.length) _ (.inr (.inr (.inr (.inr ⟨a,b,rfl,ha,hb⟩)))) ?_ (PenH.frame (pen3.mono (by omega)) (ar hpq)) ?_ fun x k1 k2 k3=>?_)
  ·have:=qI b hb
   show 0 + (cntB a + (cntB b + 0)) + (l1 - b.length)=l
   omega
  ·show up S3 q _ q=_
   rw [ai]
   show some (M.lst [D.int (((l1:Nat):Int) - ((b.length:Nat):Int))])=_
   rw [show ((l1:Nat):Int) - ((b.length:Nat):Int)=((l1 - b.length:Nat):Int) by omega]
  ·rw [ar k2,fr3 x k1]
   exact fr2 x k1 k2 k3
 have h2:=of_decide_eq_false h2
 refine fz (fun d S'=>∃ (b:Bdy) (l2:Nat),d=aw b∧(∀ x ∈ b,GoodS PH lv lp x)∧cntB b + l2=l1∧PenH S' p (n + 1 + cH lv + cH lv)∧LeftH S' q l2∧FrO p q S S') (fun R E hR=>?_) fun d S3 ⟨b,l2,ed,hb,hc2,pen3,hl3,fr3⟩=>?_
 ·simp only [hop,an,aa,ae,hV,hC,zG0,zG1]
  refine Ch ?_
  rw [hd]
  refine ⟨p,q,n + 1 + cH lv,l1,lp,rfl,hpq,pen2,hl2,by omega,by omega,fun b l' S'' h1 h2 h3 h4 h5=>?_⟩
  exact hR _ _ ⟨b,l',rfl,h1,h2,h3,h4,fun x k1 k2 k3=>by
   have e2:=fr2 x k1 k2 k3
   exact (h5 x k1 k2 (by rw [e2]; exact k3)).trans e2⟩
 subst ed
 dsimp only [zS1,zS0]
 have pen4:PenH S3 p (n + 5 + 2 * cH lv):=pen3.mono (by omega)
 refine bZ (decide (w=bw)) (fun R E r=>eqw _ _ _ _ _ R E r) (fun h=>?_) (fun h3=>?_)
 ·simp only [aA,aE,aa,ae,hV,hC,zG0,zG1]
  refine Rt.mk (g [.s bw,.s nA,.p a,.p b] l2 S3 (.inr (.inr (.inr (.inl ⟨nA,a,b,by simp [PH],rfl,ha,hb⟩)))) ?_ pen4 hl3 fr3)
  show 0 + (0 + (cntB a + (cntB b + 0))) + l2=l
  omega
 ·have h3:=of_decide_eq_false h3
  simp only [aA,aE,aa,ae,hV,zG0,zG1]
  refine Rt.mk (g [.s w,.p a,.p b] l2 S3 (.inr (.inr (.inl ⟨w,a,b,?_,rfl,ha,hb⟩))) ?_ pen4 hl3 fr3)
  ·simp only [words7,List.mem_cons,List.not_mem_nil,or_false] at hw
   simp only [Cf,List.mem_cons,List.not_mem_nil,or_false]
   rcases hw with h | h | h | h | h | h | h
   ·exact .inl h
   ·exact absurd h h1
   ·exact absurd h h1
   ·exact .inr (.inl h)
   ·exact absurd h h3
   ·exact .inr (.inr h)
   ·exact absurd h h2
  ·show 0 + (cntB a + (cntB b + 0)) + l2=l
   omega
def cT:Nat→Nat
 | 0=>2
 | n + 1=>6 + 2 * cH n
theorem GY (lv:Nat):1 + 4 * cT lv≤cH lv:=by
 cases lv with
 | zero=>decide
 | succ n =>
   show 1 + 4 * (6 + 2 * cH n)≤25 + 8 * cH n
   omega
theorem FQ (lv:Nat):2≤cT lv:=by
 cases lv with
 | zero=>exact Nat.le_refl _
 | succ n =>
   show 2≤6 + 2 * cH n
   omega
def Cr (p q k:Addr) (S S':Sto):Prop:=∀ x,x ≠ p→x ≠ q→x ≠ k→S x ≠ none→S' x=S x
theorem kG {lv:Nat} {spb:HSp} (hspb:∀ l,lv=l + 1→∀ ds S Q E,kF l ds S Q E→spb ds S Q E) {ds:List D} {S:Sto} {Q E:HK} (h:jM lv ds S Q E):fV fJ spb jk (EN Q E) (ao 6 ds) S:=by
 obtain ⟨p,q,n,l,lp,rfl,hpq,pen,hl,hl14,hn,g⟩:=h
 have hct:=GY lv
 have hc2:=FQ lv
 show fV fJ spb jk (EN Q E) [some (.ref p),some (.ref q),some (.int (lv:Nat)),some (.bl lp),none,none] S
 unfold fV
 refine fz (fun d S'=>∃ k,d = .ref k∧S k=none∧S'=up S k (.lst [])) (fun R E hR=>?_) fun d S1 ⟨k,ed,hk,es⟩=>?_
 ·simp only [cM,ae]
  exact fun k hk=>hR _ _ ⟨k,rfl,hk,rfl⟩
 subst ed
 subst es
 dsimp only [zS1,zS0]
 have kp:p ≠ k:=fun e=>by
  obtain ⟨_,_,_,_,h1,_⟩:=pen
  rw [e,hk] at h1; cases h1
 have kq:q ≠ k:=fun e=>by
  have h1:S q=_:=hl
  rw [e,hk] at h1; cases h1
 have pen0:PenH (up S k (.lst [])) p n:=pen.frame (ar kp)
 have hl0:LeftH (up S k (.lst [])) q l:=(ar kq).trans hl
 have hk0:up S k (.lst []) k=some (.lst (([]:Bdy).map aY)):=ai
 have fr0:Cr p q k S (up S k (.lst [])):=fun x _ _ h3 _=>ar h3
 generalize up S k (.lst [])=S1 at pen0 hl0 hk0 fr0
 refine gE (fun env S'=>∃ (b:Bdy) (l':Nat) (x5:Option D),env=[some (.ref p),some (.ref q),some (.int (lv:Nat)),some (.bl lp),some (.ref k),x5]∧(∀ x ∈ b,GoodS PH lv lp x)∧cntB b + l'=l∧PenH S' p (n + cH lv)∧LeftH S' q l'∧S' k=some (.lst (b.map aY))∧Cr p q k S S') (fun D1 hD=>?_) fun env S2 ⟨b,l',x5,ee,hb,hc,pen2,hl2,hk2,fr2⟩=>?_
 ·simp only [cC,hJ,an,aa,ae,hV,hC,zG0,zG1]
  refine ⟨p,n,5,rfl,by decide,by decide,pen0,by omega,fun v S' v0 v1 pen' fr=>?_⟩
  obtain ⟨v,rfl⟩:=Int.eq_ofNat_of_zero_le v0
  refine ⟨by omega,by omega,?_⟩
  have hlen:(g9 0 ((v:Nat):Int).toNat).length≤4:=by
   rw [dV]
   omega
  refine c7 (I:=fun i e S'=>∃ (b:Bdy) (l':Nat) (x5:Option D),e=[some (.ref p),some (.ref q),some (.int (lv:Nat)),some (.bl lp),some (.ref k),x5]∧(∀ x ∈ b,GoodS PH lv lp x)∧cntB b + l'=l∧PenH S' p (n + 1 + i * cT lv)∧LeftH S' q l'∧S' k=some (.lst (b.map aY))∧Cr p q k S S') _ (fun i d e S' hd ⟨b,l',x5,ee,hb,hc,pen',hl',hk',fr'⟩=>?_) (fun e S' ⟨b,l',x5,ee,hb,hc,pen',hl',hk',fr'⟩=>?_)
   ⟨[],l,none,rfl,fun x hx=>(by cases hx),(by show 0 + l=l; omega),(by rw [Nat.zero_mul]; exact pen'),(fr q (Ne.symm hpq)).trans hl0,(fr k (Ne.symm kp)).trans hk0,fun x h1 h2 h3 h4=>by rw [fr x h1]; exact fr0 x h1 h2 h3 h4⟩
  ·subst ee
   have hi:i < 4:=Nat.lt_of_lt_of_le (List.getElem?_eq_some_iff.mp hd).1 hlen
   have hbud:n + 1 + i * cT lv + cT lv≤n + cH lv:=by
    have:i * cT lv + cT lv≤4 * cT lv:=by
     have:=Nat.mul_le_mul_right (cT lv) (show i + 1≤4 by omega)
     rw [Nat.add_mul,Nat.one_mul] at this
     exact this
    omega
   refine ⟨_,rfl,fun K hK=>?_⟩
   dsimp only [zS1,zS0]
   have next:(i + 1) * cT lv=i * cT lv + cT lv:=by rw [Nat.add_mul,Nat.one_mul]
   refine ifs (decide (0 < l')) (fun R E r=>?_) (fun h0=>?_) (fun _=>hK _ _ ⟨b,l',_,rfl,hb,hc,pen'.mono (by omega),hl',hk',fr'⟩)
   ·simp only [hB,hop,hV,hC,zG0,zG1]
    refine eE hl' rfl ?_
    have e:decide ((0:Int) < ((l':Nat):Int))=decide (0 < l'):=by rw [decide_eq_decide]; omega
    rw [← e] at r
    exact r
   have h0:=of_decide_eq_true h0
   refine dC ?_
   simp only [fT,hop,hV,hC,zG0,zG1]
   refine eE hl' rfl ?_
   refine Ch ?_
   refine kR (j:=0) hl' rfl ?_
   have pen3:PenH (up S' q (.lst ([D.int (l':Nat)].set 0 (.int (((l':Nat):Int) - 1))))) p (n + 1 + i * cT lv):=pen'.frame (ar hpq)
   have hl3:LeftH (up S' q (.lst ([D.int (l':Nat)].set 0 (.int (((l':Nat):Int) - 1))))) q (l' - 1):=by
    show up S' q _ q=_
    rw [ai]
    show some (M.lst [D.int (((l':Nat):Int) - 1)])=_
    rw [show ((l':Nat):Int) - 1=((l' - 1:Nat):Int) by omega]
   have hk3:up S' q (.lst ([D.int (l':Nat)].set 0 (.int (((l':Nat):Int) - 1)))) k=some (.lst (b.map aY)):=(ar (Ne.symm kq)).trans hk'
   have fr3:Cr p q k S (up S' q (.lst ([D.int (l':Nat)].set 0 (.int (((l':Nat):Int) - 1))))):=fun x h1 h2 h3 h4=>(ar h2).trans (fr' x h1 h2 h3 h4)
   generalize up S' q (.lst ([D.int (l':Nat)].set 0 (.int (((l':Nat):Int) - 1))))=S3 at pen3 hl3 hk3 fr3 ⊢
   have cb:∀ s:Stm,cntB (b ++ [s])=cntB b + (1 + cntS s):=fun s=>by
    rw [qy]
    show _ + (1 + cntS s + 0)=_
    omega
   have blen:(b.map aY).length≤100:=by
    rw [List.length_map]
    have:=iR b
    omega
   -- what is appended
   have fin:∀ (N:aW→Sto→Prop) (s:Stm) (l2 m:Nat) (S4:Sto),(∀ e S,K e S→N e S)→GoodS PH lv lp s→cntS s + l2=l' - 1→PenH S4 p m→m≤n + 1 + (i + 1) * cT lv→LeftH S4 q l2→S4 k=some (.lst (b.map aY))→Cr p q k S S4→cz (.ref k) [aY s] S4 fun _ S5=>N [some (.ref p),some (.ref q),some (.int (lv:Nat)),some (.bl lp),some (.ref k),some d] S5:=fun N s l2 m S4 hN g1 g2 g3 g4 g5 g6 g7=>by
    refine fH g6 (by omega) ?_
    refine hN _ _ (hK _ _ ⟨b ++ [s],l2,_,rfl,fun x hx=>?_,by rw [cb]; omega,(g3.frame (ar kp)).mono g4,(ar kq).trans g5,by rw [ai,List.map_append]; rfl,fun x h1 h2 h3 h4=>(ar h3).trans (g7 x h1 h2 h3 h4)⟩)
    rcases List.mem_append.mp hx with hx | hx
    ·exact hb x hx
    ·rw [List.mem_singleton.mp hx]; exact g1
   have simple:∀ (D2:HEnds) (S4:Sto) (m:Nat),(∀ e S,K e S→D2.nx e S)→PenH S4 p m→m + 2≤n + 1 + (i + 1) * cT lv→Fr1 p S3 S4→aL (hMt eU cz (hV 4) (aa (an 2 [] jk (aa (hV 0) (aa (hV 3) ae))) ae)) D2 [some (.ref p),some (.ref q),some (.int (lv:Nat)),some (.bl lp),some (.ref k),some d] S4:=fun D2 S4 m hN g1 g2 g3=>by
    have hk4:S4 k=some (.lst (b.map aY)):=(g3 k (Ne.symm kp)).trans hk3
    simp only [aL,hMt,an,aa,ae,hV,zG0,zG1]
    rw [cB hk4]
    dsimp only
    refine ⟨p,m,lp,rfl,g1,by omega,fun s S5 k1 k2 k3=>?_⟩
    refine fin _ s (l' - 1) (m + 2) S5 hN (GoodS.simp k1) ?_ k2 g2 ((hl3.fr hpq g3).fr hpq k3) ((k3 k (Ne.symm kp)).trans hk4) fun x h1 h2 h3 h4=>by rw [k3 x h1,g3 x h1]; exact fr3 x h1 h2 h3 h4
    have:cntS s=0:=by
     rcases qG k1 with ⟨w,rfl⟩ | ⟨w,x,_,rfl⟩ | ⟨f,_,rfl⟩ | ⟨x,rfl⟩ <;> rfl
    omega
   cases lv with
   | zero =>
     refine ifs false (fun R E r=>?_) (fun h=>by cases h) (fun _=>simple _ S3 _ (fun _ _ z=>z) pen3 (by omega) Fr1.r)
     simp only [dU,hB,hop,hV,hC,zG0,zG1]
     exact r
   | succ lv =>
     refine ifN (fun _ S4=>PenH S4 p (n + 1 + i * cT (lv + 1) + 1)∧Fr1 p S3 S4) (fun R E hR=>?_) (fun S4 ⟨g1,g3⟩=>?_) (fun S4 ⟨g1,g3⟩=>simple _ S4 _ (fun _ _ z=>z) g1 (by have:cT (lv + 1)=6 + 2 * cH lv:=rfl; omega) g3)
     ·have e:decide ((0:Int) < ((lv + 1:Nat):Int))=true:=decide_eq_true (by omega)
      simp only [dU,hB,hop,an,aa,ae,hV,hC,zG0,zG1]
      show (match decide ((0:Int) < ((lv + 1:Nat):Int)) with | true=>_ | false=>_)
      rw [e]
      refine ⟨p,n + 1 + i * cT (lv + 1),3,rfl,by decide,by decide,pen3,by omega,fun v S4 v0 v1 pen4 fr4=>?_⟩
      refine jG (neg:=false) ?_
      exact hR _ _ ⟨pen4,fr4⟩
     ·have hk4:S4 k=some (.lst (b.map aY)):=(g3 k (Ne.symm kp)).trans hk3
      simp only [aL,hMt,an,aa,ae,hV,zG0,zG1]
      rw [cB hk4]
      dsimp only
      have ec:cT (lv + 1)=6 + 2 * cH lv:=rfl
      refine hspb lv rfl _ _ _ _ ⟨p,q,n + 1 + i * cT (lv + 1) + 1,l' - 1,lp,rfl,hpq,g1,hl3.fr hpq g3,by omega,by omega,fun s l2 S5 k1 k2 k3 k4 k5=>?_⟩
      refine fin _ s l2 _ S5 (fun _ _ z=>z) k1 k2 k3 (by omega) k4 ((k5 k (Ne.symm kp) (Ne.symm kq) (by rw [hk4]; simp)).trans hk4) fun x h1 h2 h3 h4=>?_
      have e4:S4 x=S x:=(g3 x h1).trans (fr3 x h1 h2 h3 h4)
      exact (k5 x h1 h2 (by rw [e4]; exact h4)).trans e4
  ·subst ee
   exact hD _ _ ⟨b,l',x5,rfl,hb,hc,pen'.mono (by
    have:=Nat.mul_le_mul_right (cT lv) hlen
    omega),hl',hk',fr'⟩
 ·subst ee
  simp only [aA,hcb,aa,ae,hV,zG0,zG1]
  unfold dD
  dsimp only
  rw [show items S2 (.ref k)=some (b.map aY) from by unfold items; dsimp only; rw [hk2]]
  dsimp only
  rw [← kW b]
  exact Rt.mk (g b l' S2 hb hc pen2 hl2 fun x h1 h2 h3=>fr2 x h1 h2 (fun e=>h3 (by rw [e]; exact hk)) h3)
def uH (m:Nat):HSp:=fun ds S Q E=>∃ l,l≤m∧jM l ds S Q E
theorem wI {P:PN}:∀ {lv:Nat} {lp:Bool} {s:Stm},GoodS P lv lp s→GoodS P (lv + 1) lp s:=fun {lv}=>by
 induction lv with
 | zero=>intro lp s h; exact .inl h
 | succ lv ih =>
   intro lp s h
   rcases h with h | ⟨a,rfl,g1⟩ | ⟨z,a,b,hz,rfl,g1,g2⟩ | ⟨c,a,b,hcc,rfl,g1,g2⟩ | ⟨a,b,rfl,g1,g2⟩
   ·exact .inl h
   ·exact .inr (.inl ⟨a,rfl,fun x hx=>ih (g1 x hx)⟩)
   ·exact .inr (.inr (.inl ⟨z,a,b,hz,rfl,fun x hx=>ih (g1 x hx),fun x hx=>ih (g2 x hx)⟩))
   ·exact .inr (.inr (.inr (.inl ⟨c,a,b,hcc,rfl,fun x hx=>ih (g1 x hx),fun x hx=>ih (g2 x hx)⟩)))
   ·exact .inr (.inr (.inr (.inr ⟨a,b,rfl,fun x hx=>ih (g1 x hx),g2⟩)))
def bsH (a b:Bdy):Str→Bdy:=fun f=>if f=nF then a else b
theorem EG:PN.Ok PH:=by
 refine ⟨by decide,by decide,by decide,by decide,?_,?_⟩
 ·decide +kernel
 ·decide +kernel
theorem nFG:nG ≠ nF:=by decide +kernel
theorem DH {a b:Bdy} (ha:∀ x ∈ a,GoodS PH 3 false x) (hb:∀ x ∈ b,GoodS PH 3 false x) (ca:cntB a≤14) (cb:cntB b≤14):GO PH 14 nF (bsH a b):=by
 refine ⟨EG,by simp [PH],fun f hf=>?_⟩
 unfold bsH
 split
 ·exact ⟨ha,ca⟩
 ·exact ⟨hb,cb⟩
theorem wJ {x:Str} {b:Bdy} (hb:∀ s ∈ b,GoodS PH 3 false s) (hc:cntB b≤14) {S:Sto} {Q E:HK} (q:Q (Fn.d ⟨x,b,cntB b⟩) S) (pk:Addr) (hk:S pk=none):kz 5 [.ref pk,.str x,aw b] (up S pk (.ins 3 [])) (fun r S1=>isN r=true∧Rt Q (.ref pk) S1) E:=by
 have hok:WfB 5 b∧NmB 5 b∧rP 5 b:=pI 3 5 false b (by decide) hb (by omega)
 refine ⟨pk,x,aw b,b,rfl,ai,hok.1.loose,fun m hm=>⟨rfl,?_⟩⟩
 rw [hm hok.2.2,dI]
 refine ⟨_,_,Vw.obj ai,?_⟩
 rw [lk hk]
 exact q
def pL:HSp:=fun ds S Q _=>∃ (p:Addr) (n m:Nat),ds=[.ref p,.int (m:Nat)]∧m≤14∧PenH S p n∧n + 20000≤600000∧∀ (a b:Bdy) (S':Sto),(∀ x ∈ a,GoodS PH 3 false x)→(∀ x ∈ b,GoodS PH 3 false x)→cntB a≤m→cntB b≤4→PenH S' p (n + 20000)→(∀ x,x ≠ p→S x ≠ none→S' x=S x)→Q (cdS PH (bsH a b) nF) S'
theorem wK {spc:HSp} (hc:∀ ds S Q E,lW 5 ds S Q E→spc ds S Q E) {ds:List D} {S:Sto} {Q E:HK} (h:pL ds S Q E):gY (uH 3) spc (kz 5) (EN Q E) (ao 4 ds) S:=by
 obtain ⟨p,n,m,rfl,hm,pen,hn,g⟩:=h
 have c3:cH 3=12065:=by decide
 have c1:cH 1=185:=by decide
 show gY (uH 3) spc (kz 5) (EN Q E) [some (.ref p),some (.int (m:Nat)),none,none] S
 unfold gY
 have penU:∀ {S:Sto} {k:Nat} {q:Addr} {mm:M},PenH S p k→S q=none→p ≠ q∧PenH (up S q mm) p k:=fun {S k q mm} pn hq=>by
  have ne:p ≠ q:=fun e=>by
   obtain ⟨_,_,_,_,h1,_⟩:=pn
   rw [e,hq] at h1; cases h1
  exact ⟨ne,pn.frame (ar ne)⟩
 refine fz (fun d S'=>∃ a:Bdy,d=aw a∧(∀ x ∈ a,GoodS PH 3 false x)∧cntB a≤m∧PenH S' p (n + 12065)∧∀ x,x ≠ p→S x ≠ none→S' x=S x) (fun R E hR=>?_) fun d S1 ⟨a,ed,ha,ca,pen1,fr1⟩=>?_
 ·simp only [an,cM,aa,ae,hV,hC,zG0,zG1]
  intro q hq
  obtain ⟨ne,pn⟩:=penU (mm:=.lst [.int (m:Nat)]) pen hq
  refine ⟨3,Nat.le_refl _,p,q,n,m,false,rfl,ne,pn,ai,by omega,by omega,fun b l' S' h1 h2 h3 h4 h5=>?_⟩
  refine hR _ _ ⟨b,rfl,h1,by omega,by rw [c3] at h3; exact h3,fun x k1 k2=>?_⟩
  have k3:x ≠ q:=fun e=>k2 (by rw [e]; exact hq)
  rw [h5 x k1 k3 (by rw [ar k3]; exact k2),ar k3]
 subst ed
 dsimp only [zS1,zS0]
 refine fz (fun d S'=>∃ b:Bdy,d=aw b∧(∀ x ∈ b,GoodS PH 3 false x)∧cntB b≤4∧PenH S' p (n + 20000)∧∀ x,x ≠ p→S x ≠ none→S' x=S x) (fun R E hR=>?_) fun d S2 ⟨b,ed,hb,cb,pen2,fr2⟩=>?_
 ·simp only [an,cM,aa,ae,hV,hC,zG0,zG1]
  intro q hq
  obtain ⟨ne,pn⟩:=penU (mm:=.lst [.int 4]) pen1 hq
  refine ⟨1,by decide,p,q,n + 12065,4,false,rfl,ne,pn,ai,by omega,by omega,fun b l' S' h1 h2 h3 h4 h5=>?_⟩
  refine hR _ _ ⟨b,rfl,fun x hx=>wI (wI (h1 x hx)),by omega,h3.mono (by omega),fun x k1 k2=>?_⟩
  have e1:=fr1 x k1 k2
  have k3:x ≠ q:=fun e=>k2 (by rw [← e1,e]; exact hq)
  rw [h5 x k1 k3 (by rw [ar k3,e1]; exact k2),ar k3,e1]
 subst ed
 dsimp only [zS1,zS0]
 have gp:=DH ha hb (by omega) (by omega)
 simp only [aA,fS,bD,aa,ae,hV,hC,zG0,zG1]
 intro p1 k1
 refine wJ ha (by omega) (Q:=fun y S3=>_) ?_ p1 k1
 intro p2 k2
 refine wJ hb (by omega) (Q:=fun y S3=>_) ?_ p2 k2
 intro pk hk
 have e1:bsH a b nF=a:=if_pos rfl
 have e2:bsH a b nG=b:=if_neg nFG
 have efs:(fE PH (bsH a b))=[⟨nF,a,cntB a⟩,⟨nG,b,cntB b⟩]:=by
  show [(⟨nF,bsH a b nF,cntB (bsH a b nF)⟩:Fn),⟨nG,bsH a b nG,cntB (bsH a b nG)⟩]=_
  rw [e1,e2]
 refine hc _ _ _ _ ⟨pk,.lst [.str nA,.str nB],.lst [.str nR],.lst [Fn.d ⟨nF,a,cntB a⟩,Fn.d ⟨nG,b,cntB b⟩],PH,[⟨nF,a,cntB a⟩,⟨nG,b,cntB b⟩],nF,rfl,ai,rfl,rfl,rfl,rfl,EG,by simp [PH],fun f hf=>?_,?_⟩
 ·simp only [List.mem_cons,List.not_mem_nil,or_false] at hf
  rcases hf with rfl | rfl
  ·have:=pI (P:=PH) 3 5 false a (by decide) ha (by omega)
   exact ⟨this.1,this.2.1⟩
  ·have:=pI (P:=PH) 3 5 false b (by decide) hb (by omega)
   exact ⟨this.1,this.2.1⟩
 ·have hr:oJ PH 5 [⟨nF,a,cntB a⟩,⟨nG,b,cntB b⟩]=none:=by
   unfold oJ
   rw [qE 3 5 false a 0 0 (by decide) (by decide) ha (by omega)]
   unfold oJ
   rw [qE 3 5 false b 0 0 (by decide) (by decide) hb (by omega)]
   rfl
  rw [hr]
  refine ⟨rfl,?_⟩
  rw [dI]
  refine ⟨_,_,Vw.obj ai,?_⟩
  rw [lk hk]
  have ec:D.obj 4 (kD PH [⟨nF,a,cntB a⟩,⟨nG,b,cntB b⟩] nF)=cdS PH (bsH a b) nF:=by
   rw [← kU PH (bsH a b) nF,← efs]
   rfl
  refine Rt.mk ?_
  show Q (D.obj 4 (kD PH [⟨nF,a,cntB a⟩,⟨nG,b,cntB b⟩] nF)) S2
  rw [ec]
  exact g a b S2 ha hb ca cb pen2 fr2
end Hy
namespace Hy
namespace Hgt
inductive Dd where
 | no | push | pop | cut
deriving DecidableEq
structure Gr where
 nx:Nat→List Nat
 ex:Nat→Bool
 dd:Nat→Dd
 first:Nat
 full:Bool
variable (g:Gr)
def Gr.aft (u h:Nat):Nat:=match g.dd u with
 | .no=>h
 | .push=>h + 1
 | .pop=>h - 1
 | .cut=>0
def Gr.dl (u:Nat):Int:=match g.dd u with
 | .push=>1
 | .pop=>-1
 | _=>0
inductive Gr.Pass:Nat→Prop where
 | first:Gr.Pass g.first
 | step {u v:Nat}:Gr.Pass u→v ∈ g.nx u→Gr.Pass v
inductive Gr.Real:Nat→Nat→Prop where
 | first:Gr.Real g.first 0
 | step {u v h:Nat}:Gr.Real u h→v ∈ g.nx u→Gr.Real v (g.aft u h)
structure Gr.Found (m:Nat) (X:Nat→Nat→Prop):Prop where
 first:X g.first 0
 step:∀ u h v,X u h→v ∈ g.nx u→g.aft u h≤2 * m + 2→X v (g.aft u h)
 below:∀ u,g.full=true→g.dd u = .pop→¬ X u 0
 left:∀ u h,X u h→g.ex u=true→h=0
inductive Gr.Wk:Nat→List Nat→Int→Nat→Prop where
 | nil (u:Nat):Gr.Wk u [] 0 u
 | cons {u v w:Nat} {l:List Nat} {d:Int}:g.dd u ≠ .cut→v ∈ g.nx u→Gr.Wk v l d w→Gr.Wk u (u :: l) (g.dl u + d) w
inductive Gr.Wa:Nat→List Nat→Nat→Prop where
 | nil (u:Nat):Gr.Wa u [] u
 | cons {u v w:Nat} {l:List Nat}:v ∈ g.nx u→Gr.Wa v l w→Gr.Wa u (u :: l) w
variable {g}
theorem jl:∀ {l:List Nat},¬ l.Nodup→∃ l1 x l2 l3,l=l1 ++ x :: l2 ++ x :: l3
 | [],h=>absurd List.nodup_nil h
 | x :: l,h=>by
   by_cases hx:x ∈ l
   ·obtain ⟨a,b,rfl⟩:=List.append_of_mem hx
    exact ⟨[],x,a,b,rfl⟩
   ·have:¬ l.Nodup:=fun k=>h (List.nodup_cons.mpr ⟨hx,k⟩)
    obtain ⟨l1,y,l2,l3,rfl⟩:=jl this
    exact ⟨x :: l1,y,l2,l3,rfl⟩
theorem nodup_len:∀ {l m:List Nat},l.Nodup→(∀ x ∈ l,x ∈ m)→l.length≤m.length
 | [],m,_,_=>Nat.zero_le _
 | x :: l,m,nd,h=>by
   rw [List.nodup_cons] at nd
   obtain ⟨a,b,rfl⟩:=List.append_of_mem (h x zMs)
   have:l.length≤(a ++ b).length:=nodup_len nd.2 fun y hy=>by
    have:=h y (zMt hy)
    rcases List.mem_append.mp this with k | k
    ·exact List.mem_append_left _ k
    ·rcases List.mem_cons.mp k with rfl | k
     ·exact absurd hy nd.1
     ·exact List.mem_append_right _ k
   simp only [List.length_append,List.length_cons] at this ⊢
   omega
theorem Gr.Wk.split:∀ {l1 l2:List Nat} {u x w:Nat} {d:Int},g.Wk u (l1 ++ x :: l2) d w→∃ d1 d2,g.Wk u l1 d1 x∧g.Wk x (x :: l2) d2 w∧d=d1 + d2
 | [],l2,u,x,w,d,h=>by
   cases h with
   | cons a b c=>exact ⟨0,_,.nil _,.cons a b c,by omega⟩
 | y :: l1,l2,u,x,w,d,h=>by
   cases h with
   | cons a b c =>
     obtain ⟨d1,d2,h1,h2,e⟩:=c.split
     exact ⟨_,d2,.cons a b h1,h2,by omega⟩
theorem Gr.Wk.app:∀ {l1 l2:List Nat} {u x w:Nat} {d1 d2:Int},g.Wk u l1 d1 x→g.Wk x l2 d2 w→g.Wk u (l1 ++ l2) (d1 + d2) w
 | [],l2,u,x,w,d1,d2,h,k=>by
   cases h
   rw [Int.zero_add]
   exact k
 | y :: l1,l2,u,x,w,d1,d2,h,k=>by
   cases h with
   | cons a b c =>
     have:=c.app k
     rw [Int.add_assoc]
     exact .cons a b this
theorem Gr.Wa.split:∀ {l1 l2:List Nat} {u x w:Nat},g.Wa u (l1 ++ x :: l2) w→g.Wa u l1 x∧g.Wa x (x :: l2) w
 | [],l2,u,x,w,h=>by
   cases h with
   | cons b c=>exact ⟨.nil _,.cons b c⟩
 | y :: l1,l2,u,x,w,h=>by
   cases h with
   | cons b c =>
     obtain ⟨h1,h2⟩:=c.split
     exact ⟨.cons b h1,h2⟩
theorem Gr.Wa.app:∀ {l1 l2:List Nat} {u x w:Nat},g.Wa u l1 x→g.Wa x l2 w→g.Wa u (l1 ++ l2) w
 | [],l2,u,x,w,h,k=>by cases h; exact k
 | y :: l1,l2,u,x,w,h,k=>by
   cases h with
   | cons b c=>exact .cons b (c.app k)
theorem Gr.Wk.pass:∀ {l:List Nat} {u w:Nat} {d:Int},g.Wk u l d w→g.Pass u→(∀ x ∈ l,g.Pass x)∧g.Pass w
 | [],u,w,d,h,p=>by cases h; exact ⟨fun x hx=>(by cases hx),p⟩
 | y :: l,u,w,d,h,p=>by
   cases h with
   | cons a b c =>
     obtain ⟨h1,h2⟩:=c.pass (.step p b)
     exact ⟨fun x hx=>(List.mem_cons.mp hx).elim (fun e=>e ▸ p) (h1 x),h2⟩
theorem Gr.Wa.pass:∀ {l:List Nat} {u w:Nat},g.Wa u l w→g.Pass u→(∀ x ∈ l,g.Pass x)∧g.Pass w
 | [],u,w,h,p=>by cases h; exact ⟨fun x hx=>(by cases hx),p⟩
 | y :: l,u,w,h,p=>by
   cases h with
   | cons b c =>
     obtain ⟨h1,h2⟩:=c.pass (.step p b)
     exact ⟨fun x hx=>(List.mem_cons.mp hx).elim (fun e=>e ▸ p) (h1 x),h2⟩
theorem Gr.Wk.short:∀ (n:Nat) {l:List Nat} {u w:Nat} {d:Int},l.length≤n→g.Wk u l d w→∃ l' d',g.Wk u l' d' w∧l'.Nodup
 | 0,l,u,w,d,hl,h=>by
   have:l=[]:=List.eq_nil_of_length_eq_zero (by omega)
   subst this
   exact ⟨[],d,h,List.nodup_nil⟩
 | n + 1,l,u,w,d,hl,h=>by
   by_cases nd:l.Nodup
   ·exact ⟨l,d,h,nd⟩
   ·obtain ⟨l1,x,l2,l3,rfl⟩:=jl nd
    rw [List.append_assoc] at h
    obtain ⟨d1,d2,h1,h2,_⟩:=h.split
    obtain ⟨_,d3,_,h3,_⟩:=Gr.Wk.split (l1:=x :: l2) h2
    refine Gr.Wk.short n ?_ (h1.app h3)
    simp only [List.length_append,List.length_cons] at hl ⊢
    omega
theorem Gr.Wa.short:∀ (n:Nat) {l:List Nat} {u w:Nat},l.length≤n→g.Wa u l w→∃ l',g.Wa u l' w∧l'.Nodup
 | 0,l,u,w,hl,h=>by
   have:l=[]:=List.eq_nil_of_length_eq_zero (by omega)
   subst this
   exact ⟨[],h,List.nodup_nil⟩
 | n + 1,l,u,w,hl,h=>by
   by_cases nd:l.Nodup
   ·exact ⟨l,h,nd⟩
   ·obtain ⟨l1,x,l2,l3,rfl⟩:=jl nd
    rw [List.append_assoc] at h
    obtain ⟨h1,h2⟩:=h.split
    obtain ⟨_,h3⟩:=Gr.Wa.split (l1:=x :: l2) h2
    refine Gr.Wa.short n ?_ (h1.app h3)
    simp only [List.length_append,List.length_cons] at hl ⊢
    omega
theorem Gr.Wk.round:∀ (n:Nat) {l:List Nat} {x:Nat} {d:Int},l.length≤n→g.Wk x l d x→d < 0→∃ y l' d',g.Wk y l' d' y∧l'.Nodup∧d' < 0∧(y=x∨y ∈ l)
 | 0,l,x,d,hl,h,hd=>by
   have:l=[]:=List.eq_nil_of_length_eq_zero (by omega)
   subst this
   cases h
   omega
 | n + 1,l,x,d,hl,h,hd=>by
   by_cases nd:l.Nodup
   ·exact ⟨x,l,d,h,nd,hd,.inl rfl⟩
   ·obtain ⟨l1,y,l2,l3,rfl⟩:=jl nd
    rw [List.append_assoc] at h
    obtain ⟨d1,d2,h1,h2,e⟩:=h.split
    obtain ⟨dc,d3,hc,h3,e2⟩:=Gr.Wk.split (l1:=y :: l2) h2
    simp only [List.length_append,List.length_cons] at hl
    by_cases hn:dc < 0
    ·obtain ⟨z,l',d',k1,k2,k3,k4⟩:=Gr.Wk.round n (by simp only [List.length_cons]; omega) hc hn
     refine ⟨z,l',d',k1,k2,k3,.inr ?_⟩
     simp only [List.mem_append,List.mem_cons] at k4 ⊢
     rcases k4 with rfl | rfl | k4
     ·exact .inl (.inr (.inl rfl))
     ·exact .inl (.inr (.inl rfl))
     ·exact .inl (.inr (.inr k4))
    ·obtain ⟨z,l',d',k1,k2,k3,k4⟩:=Gr.Wk.round n (l:=l1 ++ y :: l3) (by simp only [List.length_append,List.length_cons]; omega) (h1.app h3) (by omega)
     refine ⟨z,l',d',k1,k2,k3,?_⟩
     simp only [List.mem_append,List.mem_cons] at k4 ⊢
     rcases k4 with rfl | k4 | rfl | k4
     ·exact .inl rfl
     ·exact .inr (.inl (.inl k4))
     ·exact .inr (.inl (.inr (.inl rfl)))
     ·exact .inr (.inr (.inr k4))
theorem Gr.Wk.red:∀ (n:Nat) {l:List Nat} {u w:Nat} {d:Int},l.length≤n→g.Wk u l d w→(∃ y l' d',g.Wk y l' d' y∧l'.Nodup∧d' < 0∧y ∈ l)∨∃ l' d',g.Wk u l' d' w∧l'.Nodup∧d'≤d
 | 0,l,u,w,d,hl,h=>by
   have:l=[]:=List.eq_nil_of_length_eq_zero (by omega)
   subst this
   exact .inr ⟨[],d,h,List.nodup_nil,Int.le_refl _⟩
 | n + 1,l,u,w,d,hl,h=>by
   by_cases nd:l.Nodup
   ·exact .inr ⟨l,d,h,nd,Int.le_refl _⟩
   ·obtain ⟨l1,x,l2,l3,rfl⟩:=jl nd
    rw [List.append_assoc] at h
    obtain ⟨d1,d2,h1,h2,e⟩:=h.split
    obtain ⟨dc,d3,hc,h3,e2⟩:=Gr.Wk.split (l1:=x :: l2) h2
    simp only [List.length_append,List.length_cons] at hl
    by_cases hn:dc < 0
    ·obtain ⟨z,l',d',k1,k2,k3,k4⟩:=Gr.Wk.round _ zNr hc hn
     refine .inl ⟨z,l',d',k1,k2,k3,?_⟩
     simp only [List.mem_append,List.mem_cons] at k4 ⊢
     rcases k4 with rfl | rfl | k4
     ·exact .inl (.inr (.inl rfl))
     ·exact .inl (.inr (.inl rfl))
     ·exact .inl (.inr (.inr k4))
    ·rcases Gr.Wk.red n (l:=l1 ++ x :: l3) (by simp only [List.length_append,List.length_cons]; omega) (h1.app h3) with ⟨z,l',d',k1,k2,k3,k4⟩ | ⟨l',d',k1,k2,k3⟩
     ·refine .inl ⟨z,l',d',k1,k2,k3,?_⟩
      simp only [List.mem_append,List.mem_cons] at k4 ⊢
      rcases k4 with k4 | rfl | k4
      ·exact .inl (.inl k4)
      ·exact .inl (.inr (.inl rfl))
      ·exact .inr (.inr k4)
     ·exact .inr ⟨l',d',k1,k2,by omega⟩
theorem Gr.Wk.low:∀ {l:List Nat} {u w:Nat} {d:Int},g.Wk u l d w → -(l.length:Int)≤d
 | [],u,w,d,h=>by cases h; simp
 | y :: l,u,w,d,h=>by
   cases h with
   | cons a b c =>
     have:=c.low
     have : -1≤g.dl y:=by unfold Gr.dl; split <;> omega
     rw [List.length_cons]
     omega
section
variable {m:Nat} {X:Nat→Nat→Prop} (F:g.Found m X)
include F
theorem uI (u h:Nat):g.aft u h≤h + 1:=by unfold Gr.aft; split <;> omega
omit F in
theorem FR {u h:Nat} (hc:g.dd u ≠ .cut):h≤g.aft u h + 1:=by
 unfold Gr.aft
 split
 ·omega
 ·omega
 ·omega
 ·rename_i e; exact absurd e hc
theorem Gr.Found.wa:∀ {l:List Nat} {u w h:Nat},g.Wa u l w→X u h→h + l.length≤2 * m + 2→∃ h',X w h'∧h'≤h + l.length
 | [],u,w,h,k,x,_=>by cases k; exact ⟨h,x,Nat.le_refl _⟩
 | y :: l,u,w,h,k,x,hl=>by
   cases k with
   | cons b c =>
     rw [List.length_cons] at hl
     have h1:=uI F y h
     obtain ⟨h',x',e⟩:=Gr.Found.wa c (F.step y h _ x b (by omega)) (by omega)
     exact ⟨h',x',by rw [List.length_cons]; omega⟩
theorem Gr.Found.wk:∀ {l:List Nat} {u w h:Nat} {d:Int},g.Wk u l d w→X u h→h + l.length≤2 * m + 2→∃ h',X w h'∧h≤h' + l.length
 | [],u,w,h,d,k,x,_=>by cases k; exact ⟨h,x,Nat.le_refl _⟩
 | y :: l,u,w,h,d,k,x,hl=>by
   cases k with
   | cons a b c =>
     rw [List.length_cons] at hl
     have h1:=uI F y h
     have h2:=FR (h:=h) a
     obtain ⟨h',x',e⟩:=Gr.Found.wk c (F.step y h _ x b (by omega)) (by omega)
     exact ⟨h',x',by rw [List.length_cons]; omega⟩
theorem Gr.Found.wkf (hf:g.full=true):∀ {l:List Nat} {u w h:Nat} {d:Int},g.Wk u l d w→X u h→h + l.length≤2 * m + 2→∃ h':Nat,X w h'∧(h':Int)=h + d
 | [],u,w,h,d,k,x,_=>by cases k; exact ⟨h,x,by omega⟩
 | y :: l,u,w,h,d,k,x,hl=>by
   cases k with
   | @cons _ v _ _ d0 a b c =>
     rw [List.length_cons] at hl
     have h1:=uI F y h
     have e1:((g.aft y h:Nat):Int)=h + g.dl y:=by
      unfold Gr.aft Gr.dl
      cases e:g.dd y with
      | no=>simp
      | push=>simp
      | pop =>
        have:h ≠ 0:=fun z=>by subst z; exact F.below y hf e x
        simp only
        omega
      | cut=>exact absurd e a
     obtain ⟨h',x',e⟩:=Gr.Found.wkf hf c (F.step y h _ x b (by omega)) (by omega)
     exact ⟨h',x',by omega⟩
variable {ps:List Nat} (hps:∀ u,g.Pass u→u ∈ ps) (hm:ps.length≤m)
include hps hm
theorem Gr.Found.all {u:Nat} (p:g.Pass u):∃ h,X u h∧h≤m:=by
 have w:∃ l,g.Wa g.first l u:=by
  induction p with
  | first=>exact ⟨[],.nil _⟩
  | step p hv ih =>
    obtain ⟨l,hw⟩:=ih
    exact ⟨_,hw.app (.cons hv (.nil _))⟩
 obtain ⟨l,hw⟩:=w
 obtain ⟨l',h1,h2⟩:=Gr.Wa.short _ zNr hw
 have hl:=nodup_len h2 fun x hx=>hps x ((h1.pass .first).1 x hx)
 obtain ⟨h',x',e⟩:=F.wa h1 F.first (by omega)
 exact ⟨h',x',by omega⟩
def CD (g:Gr) (u:Nat):Prop:=∀ l d w,g.Wk u l d w→g.ex w=true→False
theorem Gr.Found.high {u:Nat} (p:g.Pass u) (x:X u (m + 1)):CD g u:=fun l d w hw hx=>by
 obtain ⟨l',d',h1,h2⟩:=Gr.Wk.short _ zNr hw
 have hl:=nodup_len h2 fun x hx=>hps x ((h1.pass p).1 x hx)
 obtain ⟨h',x',e⟩:=F.wk h1 x (by omega)
 have:=F.left w h' x' hx
 omega
theorem Gr.Found.noRound (hf:g.full=true) {y:Nat} {l:List Nat} {d:Int} (p:g.Pass y) (hw:g.Wk y l d y) (nd:l.Nodup) (hd:d < 0):False:=by
 have hl:=nodup_len nd fun x hx=>hps x ((hw.pass p).1 x hx)
 have gen:∀ h:Nat,h≤m→X y h→False:=fun h=>by
  induction h using Nat.strongRecOn with
  | _ h ih =>
    intro hh x
    obtain ⟨h',x',e⟩:=F.wkf hf hw x (by omega)
    exact ih h' (by omega) (by omega) x'
 obtain ⟨h,x,hh⟩:=F.all hps hm p
 exact gen h hh x
theorem Gr.Found.real {u h:Nat} (r:g.Real u h):g.Pass u∧((X u h∧h≤m)∨(CD g u∧(g.full=true→∃ v l d,g.Pass v∧g.Wk v l d u∧(h:Int)=m + 1 + d))):=by
 induction r with
 | first=>exact ⟨.first,.inl ⟨F.first,Nat.zero_le _⟩⟩
 | @step u v h r hv ih =>
   obtain ⟨p,ih⟩:=ih
   have pv:g.Pass v:=.step p hv
   refine ⟨pv,?_⟩
   have up:=uI F u h
   rcases ih with ⟨x,hh⟩ | ⟨cd,hr⟩
   ·have xv:=F.step u h v x hv (by omega)
    by_cases hle:g.aft u h≤m
    ·exact .inl ⟨xv,hle⟩
    ·have e:g.aft u h=m + 1:=by omega
     rw [e] at xv ⊢
     exact .inr ⟨F.high hps hm pv xv,fun _=>⟨v,[],0,pv,.nil _,by omega⟩⟩
   ·by_cases hc:g.dd u = .cut
    ·have e:∀ k,g.aft u k=0:=fun k=>by unfold Gr.aft; rw [hc]
     obtain ⟨h0,x0,_⟩:=F.all hps hm p
     have:=F.step u h0 v x0 hv (by rw [e]; omega)
     rw [e] at this ⊢
     exact .inl ⟨this,Nat.zero_le _⟩
    ·refine .inr ⟨fun l d w hw hx=>cd _ _ w (.cons hc hv hw) hx,fun hf=>?_⟩
     obtain ⟨v0,l,d,p0,hw,e⟩:=hr hf
     have w2:g.Wk v0 (l ++ [u]) (d + (g.dl u + 0)) v:=hw.app (.cons hc hv (.nil _))
     by_cases hz:g.dd u = .pop∧h=0
     ·obtain ⟨hz,rfl⟩:=hz
      -- the way from the height m + 1 down to 0 has a round that lowers
      rcases Gr.Wk.red _ zNr hw with ⟨y,l',d',k1,k2,k3,k4⟩ | ⟨l',d',k1,k2,k3⟩
      ·exact (F.noRound hps hm hf ((hw.pass p0).1 y k4) k1 k2 k3).elim
      ·have:=nodup_len k2 fun x hx=>hps x ((k1.pass p0).1 x hx)
       have:=k1.low
       omega
     ·refine ⟨v0,_,_,p0,w2,?_⟩
      have e1:((g.aft u h:Nat):Int)=h + g.dl u:=by
       unfold Gr.aft Gr.dl
       cases ed:g.dd u with
       | no=>simp
       | push=>simp
       | pop =>
         have:h ≠ 0:=fun z=>hz ⟨ed,z⟩
         simp only
         omega
       | cut=>exact absurd ed hc
      omega
end
end Hgt
end Hy
namespace Hy
open PySem PySem.Spec PyProof.Rows L2
inductive Gl where
 | sp (n:Nat)
 | out (w:Str)
structure SpL where
 path:List Nat
 mood:List Str
 stm:Option Stm
 nx:List Gl
abbrev Gl.num:Gl→Option Nat
 | .sp n=>some n
 | .out _=>none
abbrev Gl.isOut:Gl→Bool
 | .sp _=>false
 | .out _=>true
def nxs (S:List SpL) (u:Nat):List Gl:=match S[u]? with
 | some s=>s.nx
 | none=>[]
def lD (S:List SpL) (u:Nat):Option Stm:=match S[u]? with
 | some s=>s.stm
 | none=>none
def Hz (r:Str):Option Stm→Hgt.Dd
 | some [.s w,.s x]=>if x=r then (if w=sz then .push else if w=AI then .pop else if w=Cq then .cut else .no) else .no
 | _=>.no
def HB (r:Str) (full:Bool) (S:List SpL):Hgt.Gr:=⟨fun u=>(nxs S u).filterMap Gl.num,fun u=>(nxs S u).any Gl.isOut,fun u=>Hz r (lD S u),0,full⟩
def aQ:Bool→List Str
 | false=>[dQ,dS]
 | true=>[dQ,dS,aH,cD]
abbrev ce:=Str→List Gl
def aV (on:List Gl) (st:ce) (fl:List Gl):ce:=fun w=>if w=wOn then on else if w=af then fl else st w
theorem wE:wOn ≠ af∧(∀ lp,∀ e ∈ aQ lp,e ≠ wOn∧e ≠ af)∧(∀ e ∈ aQ false,e ≠ aH∧e ≠ cD):=by
 refine ⟨by decide +kernel,fun lp=>?_,by decide +kernel⟩
 cases lp <;> decide +kernel
theorem two_kinds:(∀ w ∈ iY ++ m7 ++ [fo],w ≠ bK∧w ≠ aq)∧aq ≠ bK∧bP ≠ af∧(∀ w ∈ [aH,cD],w ≠ af∧w ≠ bP)∧(∀ w ∈ iY ++ [fo],w ≠ sz∧w ≠ AI∧w ≠ Cq)∧af ≠ bP:=by decide +kernel
theorem wL {P:PN} {lp:Bool} {st:Stm} (h:mX P lp st):st=[.s af]∨st=[.s bP]∨(lp=true∧∃ w ∈ [aH,cD],st=[.s w])∨(∃ x ∈ [dQ,dS],st=[.s bK,.s x])∨(∃ f ∈ P.fs,st=[.s aq,.s f])∨∃ z x,z ∈ iY ++ m7 ++ [fo]∧st=[.s z,.s x]:=by
 rcases h with h | ⟨f,hf,rfl⟩ | h
 ·obtain ⟨w,x,rfl,hd⟩:=mb h
  refine .inr (.inr (.inr (.inr (.inr ⟨w,x,?_,rfl⟩))))
  rcases hd with h | h | h
  ·exact List.mem_append_left _ (List.mem_append_left _ h.1)
  ·exact List.mem_append_left _ (List.mem_append_right _ h.1)
  ·exact List.mem_append_right _ (by rw [h]; simp)
 ·exact .inr (.inr (.inr (.inr (.inl ⟨f,hf,rfl⟩))))
 ·have ab:∀ st ∈ hX ++ jf,st=[.s af]∨st=[.s bP]∨(lp=true∧∃ w ∈ [aH,cD],st=[.s w])∨(∃ x ∈ [dQ,dS],st=[.s bK,.s x])∨(∃ f ∈ P.fs,st=[.s aq,.s f])∨∃ z x,z ∈ iY ++ m7 ++ [fo]∧st=[.s z,.s x]:=fun st h=>by
   simp only [hX,jf,List.cons_append,List.nil_append,List.mem_cons,List.not_mem_nil,or_false] at h
   rcases h with rfl | rfl | rfl | rfl | rfl | rfl | rfl
   ·exact .inr (.inr (.inr (.inl ⟨_,by simp,rfl⟩)))
   ·exact .inr (.inr (.inr (.inl ⟨_,by simp,rfl⟩)))
   ·exact .inl rfl
   ·exact .inr (.inl rfl)
   ·exact .inr (.inl rfl)
   ·exact .inr (.inr (.inr (.inr (.inr ⟨_,_,by simp,rfl⟩))))
   ·exact .inr (.inr (.inr (.inr (.inr ⟨_,_,by simp,rfl⟩))))
  cases lp with
  | false=>exact ab st h
  | true =>
    rcases List.mem_append.mp h with h | h
    ·exact ab st h
    ·refine .inr (.inr (.inl ⟨rfl,?_⟩))
     simp only [lC,List.mem_cons,List.not_mem_nil,or_false] at h
     rcases h with rfl | rfl
     ·exact ⟨_,by simp,rfl⟩
     ·exact ⟨_,by simp,rfl⟩
theorem uJ {e:Str} {lp:Bool} (h:e ∈ aQ true) (h1:e ≠ aH) (h2:e ≠ cD):e ∈ aQ lp:=by
 simp only [aQ,List.mem_cons,List.not_mem_nil,or_false] at h
 rcases h with rfl | rfl | rfl | rfl
 ·cases lp <;> simp [aQ]
 ·cases lp <;> simp [aQ]
 ·exact absurd rfl h1
 ·exact absurd rfl h2
abbrev yu:=Nat→Bool→Bdy→List Nat→List Str→List Gl→ce→List Gl→Bool→List SpL
def bC (lay:yu) (lp:Bool) (b:Bdy) (path:List Nat) (mood:List Str) (on:List Gl) (st:ce) (fl:List Gl):List Str→Nat→List (Str × Nat) × List SpL
 | [],_=>([],[])
 | w :: ws,k =>
   let sg:=lay k lp b path (mood ++ [w]) (aV on st fl w) st fl false
   let r:=bC lay lp b path mood on st fl ws (k + sg.length)
   ((w,k) :: r.1,sg ++ r.2)
def eJ (l:List (Str × Nat)) (w:Str):Nat:=((l.find? fun z=>decide (z.1=w)).map (·.2)).getD 0
def bE (lay:yu) (fa:List Str) (k:Nat) (lp:Bool) (s:Stm) (path:List Nat) (mood:List Str) (on:List Gl) (st:ce) (fl:List Gl):List Gl × List SpL:=match s with
 | [.s w]=>(if w=af then fl else if w=bP then on ++ fl else st w,[])
 | [.s w,.s x]=>(if w=bK then st x else if w=aq then on ++ (if x ∈ fa then fl else []) else on,[])
 | [.s _,.p a]=>(.sp k :: on,lay k true a (path ++ [0]) mood on (fun w=>if w=aH then .sp k :: on else if w=cD then on else st w) fl true)
 | [.s w,.p a,.p b]=>if w=bX∨w=d7 then
  let sa:=lay k lp a (path ++ [0]) mood on st fl false
  ([.sp k,.sp (k + sa.length)],sa ++ lay (k + sa.length) lp b (path ++ [1]) mood on st fl false)
   else if w=aM then
    let sb:=lay k lp b (path ++ [1]) mood on st fl false
    ([.sp (k + sb.length)],sb ++ lay (k + sb.length) lp a (path ++ [0]) mood on st [.sp k] false)
   else
    let r:=bC lay lp b (path ++ [1]) mood on st fl (aQ lp ++ [wOn,af]) k
    ([.sp (k + r.2.length)],r.2 ++ lay (k + r.2.length) lp a (path ++ [0]) mood [.sp (eJ r.1 wOn)] (fun w=>[.sp (eJ r.1 w)]) [.sp (eJ r.1 af)] false)
 | [.s _,.s _,.p a,.p b] =>
  let sa:=lay k lp a (path ++ [0]) mood on st fl false
  ([.sp k,.sp (k + sa.length)],sa ++ lay (k + sa.length) lp b (path ++ [1]) mood on st fl false)
 | _=>([],[])
def bx (lay:yu) (fa:List Str) (k:Nat) (lp:Bool) (path:List Nat) (mood:List Str) (st:ce) (fl:List Gl):Bdy→Nat→Nat→List SpL × List SpL
 | [],_,_=>([],[])
 | s :: b,i,L =>
   let a:=bE lay fa L lp s (path ++ [i]) mood [.sp (k + i + 1)] st fl
   let r:=bx lay fa k lp path mood st fl b (i + 1) (L + a.2.length)
   (⟨path ++ [i],mood,some s,a.1⟩ :: r.1,a.2 ++ r.2)
def ah (fa:List Str):Nat→yu
 | 0=>fun _ _ _ _ _ _ _ _ _=>[]
 | n + 1=>fun k lp b path mood on st fl loop =>
   let r:=bx (ah fa n) fa k lp path mood st fl b 0 (k + b.length + 1)
   r.1 ++ ⟨path ++ [b.length],mood,none,(if loop then [.sp k] else []) ++ on⟩ :: r.2
def Sits (S:List SpL) (k:Nat) (l:List SpL):Prop:=∀ i,i < l.length→S[k + i]? = l[i]?
theorem Sits.left {S:List SpL} {k:Nat} {a b:List SpL} (h:Sits S k (a ++ b)):Sits S k a:=fun i hi=>by
 rw [h i (by rw [List.length_append]; omega),List.getElem?_append_left hi]
theorem Sits.right {S:List SpL} {k:Nat} {a b:List SpL} (h:Sits S k (a ++ b)):Sits S (k + a.length) b:=fun i hi=>by
 have:=h (a.length + i) (by rw [List.length_append]; omega)
 rw [Nat.add_assoc,this,List.getElem?_append_right (Nat.le_add_right _ _),Nat.add_sub_cancel_left]
theorem Sits.head {S:List SpL} {k:Nat} {s:SpL} {l:List SpL} (h:Sits S k (s :: l)):S[k]? = some s:=h 0 (Nat.zero_lt_succ _)
theorem Sits.tail {S:List SpL} {k:Nat} {s:SpL} {l:List SpL} (h:Sits S k (s :: l)):Sits S (k + 1) l:=Sits.right (a:=[s]) h
def ShS (fa:List Str):Nat→Stm→Prop
 | 0,s=>(∃ w,s=[.s w])∨∃ w x,s=[.s w,.s x]
 | n + 1,s=>(∃ w,s=[.s w])∨(∃ w x,s=[.s w,.s x])∨(∃ w a,s=[.s w,.p a]∧∀ x ∈ a,ShS fa n x)∨(∃ w a b,s=[.s w,.p a,.p b]∧(∀ x ∈ a,ShS fa n x)∧∀ x ∈ b,ShS fa n x)∨∃ w c a b,s=[.s w,.s c,.p a,.p b]∧(∀ x ∈ a,ShS fa n x)∧∀ x ∈ b,ShS fa n x
theorem GoodS.sh {P:PN} {fa:List Str}:∀ {lv:Nat} {lp:Bool} {s:Stm},GoodS P lv lp s→ShS fa lv s:=fun {lv}=>by
 have simp':∀ {lp:Bool} {s:Stm},mX P lp s→(∃ w,s=[.s w])∨∃ w x,s=[.s w,.s x]:=fun h=>by
  rcases qG h with ⟨w,rfl⟩ | ⟨w,x,_,rfl⟩ | ⟨f,_,rfl⟩ | ⟨x,rfl⟩
  ·exact .inl ⟨_,rfl⟩
  ·exact .inr ⟨_,_,rfl⟩
  ·exact .inr ⟨_,_,rfl⟩
  ·exact .inr ⟨_,_,rfl⟩
 have dd:∀ {s:Stm} (n:Nat),s ∈ be P→ShS fa n s:=fun n h=>by
  obtain ⟨w,x,rfl⟩:=jg h
  cases n with
  | zero=>exact .inr ⟨_,_,rfl⟩
  | succ n=>exact .inr (.inl ⟨_,_,rfl⟩)
 induction lv with
 | zero=>intro lp s h; exact simp' h
 | succ lv ih =>
   intro lp s h
   rcases h with h | ⟨a,rfl,g1⟩ | ⟨z,a,b,hz,rfl,g1,g2⟩ | ⟨c,a,b,hcc,rfl,g1,g2⟩ | ⟨a,b,rfl,g1,g2⟩
   ·rcases simp' h with h | h
    ·exact .inl h
    ·exact .inr (.inl h)
   ·exact .inr (.inr (.inl ⟨_,_,rfl,fun x hx=>ih (g1 x hx)⟩))
   ·exact .inr (.inr (.inr (.inl ⟨_,_,_,rfl,fun x hx=>ih (g1 x hx),fun x hx=>ih (g2 x hx)⟩)))
   ·exact .inr (.inr (.inr (.inr ⟨_,_,_,_,rfl,fun x hx=>ih (g1 x hx),fun x hx=>ih (g2 x hx)⟩)))
   ·exact .inr (.inr (.inr (.inl ⟨_,_,_,rfl,fun x hx=>ih (g1 x hx),fun x hx=>dd lv (g2 x hx)⟩)))
theorem jm {lay:yu} {fa:List Str} {k:Nat} {lp:Bool} {path:List Nat} {mood:List Str} {st:ce} {fl:List Gl}:∀ (b:Bdy) (i L:Nat),(bx lay fa k lp path mood st fl b i L).1.length=b.length
 | [],_,_=>rfl
 | s :: b,i,L=>congrArg (· + 1) (jm b (i + 1) _)
def bO (fa:List Str) (b:Bdy):List SpL:=ah fa 4 0 false b [] [] [.out dS] (fun w=>[.out w]) [.out af] false
local macro_rules | `(tactic| walk_at "p")=>`(tactic| try simp only [aK,f9,aA,om,aL,bj,hNx,hop,hun,hcb,hV,hC,hB,hTr,fK,dU,hOr,hIf,aE,bD,cM,aa,ae,an,bG,fS,hMt,hSl,mw,iL,fT,d8,k7,gc,ot,nh,bu,bindDs,u9,vh,ow,dO,dE,oy,Ah,se,iU,cE,jX,jc,qc,hO,kb,av,zh,zi,zj,pD,pE,tB,tD,mI,fM,cC,hLc,vd,hJ,u6,b8,cN,ao,List.map_cons,List.map_nil,List.length_cons,List.length_nil,List.replicate,List.cons_append,List.nil_append,List.append_nil,zG0,zG1,zS0,zS1,Nat.reduceAdd,Nat.reduceSub,Nat.zero_add,gI0,gI,iH,u8,hM,jv,pV,isN,ng,Nat.beq,Nat.ble,isStr,ku,kw])
local macro_rules | `(tactic| walk_at "q")=>`(tactic| ((try dsimp only); refine dC ?_; walk_at "p"))
local macro_rules | `(tactic| walk_at "g")=>`(tactic| try simp only [gLt,gLe,gGt,gGe,pU,jv,gI0,gI,cr,hM])
def glD:Gl→D
 | .sp n=>.int (n:Nat)
 | .out w=>.str w
def rS:Option Stm→D
 | none=>.non
 | some s=>aY s
def spF (s:SpL):List D:=[.tps (s.path.map fun (n:Nat)=>D.int (n:Int)),.tps (s.mood.map D.str),rS s.stm,.tup (s.nx.map glD)]
structure WaysAt (S:Sto) (w:Addr) (L:List SpL):Prop where
 at_:∃ (d:D) (q:Addr) (ps:List Addr),S w=some (.ins 28 [d,.ref q,.int 0])∧S q=some (.lst (ps.map D.ref))∧ps.length=L.length∧∀ (i:Nat) (s:SpL) (p:Addr),L[i]? = some s→ps[i]? = some p→S p=some (.ins 27 (spF s))
theorem WaysAt.spot {S:Sto} {w:Addr} {L:List SpL} (h:WaysAt S w L) {u:Nat} {s:SpL} (hs:L[u]? = some s):∃ (d:D) (q:Addr) (ps:List Addr) (p:Addr),S w=some (.ins 28 [d,.ref q,.int 0])∧S q=some (.lst (ps.map D.ref))∧ps[u]? = some p∧S p=some (.ins 27 (spF s)):=by
 obtain ⟨d,q,ps,h1,h2,h3,h4⟩:=h.at_
 have hu:=(List.getElem?_eq_some_iff.mp hs).1
 have hp:ps[u]? = some (ps[u]'(by omega)):=List.getElem?_eq_getElem (by omega)
 exact ⟨d,q,ps,_,h1,h2,hp,h4 u s _ hs hp⟩
theorem wM {S:Sto} {w:Addr} {L:List SpL} {u:Nat} {s:SpL} {Q:HK} (h:WaysAt S w L) (hs:L[u]? = some s) (g:∀ p,S p=some (.ins 27 (spF s))→Q (.ref p) S):ba dt (.ref w) S (fun x S1=>gIx x (.int (u:Nat)) S1 Q):=by
 obtain ⟨d,q,ps,p,h1,h2,h3,h4⟩:=h.spot hs
 refine b9 h1 rfl rfl ?_
 have hu:(ps.map D.ref)[u]? = some (.ref p):=by rw [List.getElem?_map,h3]; rfl
 have hl:=(List.getElem?_eq_some_iff.mp hu).1
 refine aF (xs:=ps.map D.ref) (d:=.ref p) (by unfold items; dsimp only; rw [h2]) (by rw [ii hl,(List.getElem?_eq_some_iff.mp hu).2]) ?_
 exact g p h4
def exL:List Str:=[dQ,dS,af]
def zI (l:List Gl):Prop:=∀ w,.out w ∈ l→w ∈ exL
theorem Cs {neg:Bool} {g:Gl} {S:Sto} {Q:HK} (hg:∀ w,g = .out w→w ∈ exL) (h:Q (.bl (ng neg g.isOut)) S):iG neg (glD g) (.tup (exL.map D.str)) S Q:=by
 cases g with
 | sp n =>
   have e1:((exL.map D.str).any fun z=>deq z (.int (n:Nat)))=false:=by
    simp [exL,deq,toP,PyData.eqv]
   have e2:(cV (.int (n:Nat)) && (exL.map D.str).all cV)=true:=by
    simp [exL,cV]
   show (match cV (.int (n:Nat)) && (exL.map D.str).all cV with | true=>Q (.bl (ng neg ((exL.map D.str).any fun z=>deq z (.int (n:Nat))))) S | false=>False)
   rw [e2,e1]
   exact h
 | out w =>
   refine uG ?_
   rw [decide_eq_true (hg w rfl)]
   exact h
theorem jN {neg:Bool} {x0 x1:Option D} {R:HK} {S:Sto}:∀ (l:List Gl) (acc:List D),zI l→R (.lst (acc ++ (l.filter fun g=>ng neg g.isOut).map glD)) S →
 cW (.nm 2) (hB (hop (iG neg) (hV 2) (hC (.tup (exL.map D.str))))) (hV 2) none (l.map glD) acc [x0,x1,none] S R
 | [],acc,_,g=>by
   rw [List.filter_nil,List.map_nil,List.append_nil] at g
   exact g
 | a :: l,acc,hl,g=>by
   simp only [List.map_cons,cW,chk,bu,hB,hop,hV,hC,zS0,zS1,zG0,zG1]
   refine Cs (fun w e=>hl w (by rw [e]; exact zMs)) ?_
   cases hb:ng neg a.isOut with
   | true =>
     refine jN l _ (fun w hw=>hl w (zMt hw)) ?_
     rw [List.filter_cons_of_pos (by simpa using hb),List.map_cons] at g
     rw [List.append_assoc]
     exact g
   | false =>
     refine jN l _ (fun w hw=>hl w (zMt hw)) ?_
     rw [List.filter_cons_of_neg (by simpa using hb)] at g
     exact g
def zJ:HSp:=fun ds S Q _=>∃ (w:Addr) (L:List SpL) (u:Nat),ds=[.ref w,.int (u:Nat)]∧WaysAt S w L∧u < L.length∧zI (nxs L u)∧Q (.lst (((nxs L u).filterMap Gl.num).map fun (n:Nat)=>D.int (n:Int))) S
def qJ:HSp:=fun ds S Q _=>∃ (w:Addr) (L:List SpL) (u:Nat),ds=[.ref w,.int (u:Nat)]∧WaysAt S w L∧u < L.length∧zI (nxs L u)∧Q (.lst (((nxs L u).filter Gl.isOut).map glD)) S
theorem mf:∀ l:List Gl,(l.filter fun g=>ng true g.isOut).map glD=(l.filterMap Gl.num).map fun (n:Nat)=>D.int (n:Int)
 | []=>rfl
 | .sp n :: l=>by
   have:=mf l
   show glD (.sp n) :: (l.filter fun g=>ng true g.isOut).map glD=D.int (n:Int) :: (l.filterMap Gl.num).map _
   rw [this]
   rfl
 | .out w :: l=>mf l
theorem AJ {ds:List D} {S:Sto} {Q E:HK} (h:qJ ds S Q E):eQ (EN Q E) (ao 3 ds) S:=by
 obtain ⟨w,L,u,rfl,hw,hu,ok,g⟩:=h
 show eQ (EN Q E) [some (.ref w),some (.int (u:Nat)),none] S
 have hs:L[u]? = some L[u]:=List.getElem?_eq_getElem hu
 have est:nxs L u=L[u].nx:=by unfold nxs; rw [hs]
 rw [est] at ok g
 unfold eQ
 simp only [aA,hLc]
 rw [b8]
 simp only [hun,hop,hV,zG0,zG1]
 refine wM hw hs fun p hp=>?_
 refine b9 hp rfl rfl ?_
 refine dv (xs:=L[u].nx.map glD) rfl ?_
 refine jN (neg:=false) L[u].nx [] ok ?_
 exact Rt.mk g
theorem AL {ds:List D} {S:Sto} {Q E:HK} (h:zJ ds S Q E):dW (EN Q E) (ao 3 ds) S:=by
 obtain ⟨w,L,u,rfl,hw,hu,ok,g⟩:=h
 show dW (EN Q E) [some (.ref w),some (.int (u:Nat)),none] S
 have hs:L[u]? = some L[u]:=List.getElem?_eq_getElem hu
 have est:nxs L u=L[u].nx:=by unfold nxs; rw [hs]
 rw [est] at ok g
 unfold dW
 simp only [aA,hLc]
 rw [b8]
 simp only [hun,hop,hV,zG0,zG1]
 refine wM hw hs fun p hp=>?_
 refine b9 hp rfl rfl ?_
 refine dv (xs:=L[u].nx.map glD) rfl ?_
 refine jN (neg:=true) L[u].nx [] ok ?_
 rw [List.nil_append,mf]
 exact Rt.mk g
theorem kH {xs ys:List D} {S:Sto} {Q:HK} (hl:xs.length + ys.length≤16777216) (h:Q (.tup (xs ++ ys)) S):cr (.tup xs) (.tup ys) S Q:=⟨fi hl,h⟩
abbrev aU (p:List Nat):D:=.tps (p.map fun (n:Nat)=>D.int (n:Int))
abbrev bp (m:List Str):D:=.tps (m.map D.str)
def mh:HSp:=fun ds S Q _=>∃ (p:List Nat) (m:List Str) (i:Nat),ds=[.tup [aU p,bp m],.int (i:Nat)]∧p.length≤100∧Q (.tup [aU (p ++ [i]),bp m]) S
theorem yv {ds:List D} {S:Sto} {Q E:HK} (h:mh ds S Q E):gT (EN Q E) (ao 4 ds) S:=by
 obtain ⟨p,m,i,rfl,hp,g⟩:=h
 show gT (EN Q E) [some (.tup [aU p,bp m]),some (.int (i:Nat)),none,none] S
 unfold gT
 refine dC ?_
 simp only [f9,hV,bu,bindDs,zG0,zG1,zS0,zS1]
 simp only [aA,aE,av,hop,aa,ae,hV,zG0,zG1]
 refine (show bb (aU p) (.tps [.int (i:Nat)]) S _ from gj (by rw [List.length_map,List.length_singleton]; omega) ?_)
 rw [show p.map (fun (n:Nat)=>D.int (n:Int)) ++ [D.int (i:Int)]=(p ++ [i]).map fun (n:Nat)=>D.int (n:Int) by rw [List.map_append]; rfl]
 exact Rt.mk g
def pN:HSp:=fun ds S Q _=>∃ (p:Addr) (a b c:D),ds=[.ref p,a,b,c]∧S p=some (.ins 27 [])∧Q .non (up S p (.ins 27 [a,b,c,.tup []]))
theorem wN (h0:pq 27=some 0:=by rfl) (h1:po 27=some 1:=by rfl) {ds:List D} {S:Sto} {Q E:HK} (h:pN ds S Q E):gm (EN Q E) (ao 4 ds) S:=by
 obtain ⟨p,a,b,c,rfl,hp,g⟩:=h
 show gm (EN Q E) [some (.ref p),some a,some b,some c] S
 unfold gm
 refine dC ?_
 simp only [d8,hV,zG0,zG1]
 refine c9 hp h0 rfl ?_
 refine dC ?_
 simp only [d8,hV,zG0,zG1]
 refine c9 ai h1 rfl ?_
 rw [dI]
 refine dC ?_
 simp only [d8,hV,zG0,zG1]
 refine c9 ai rfl rfl ?_
 rw [dI]
 simp only [d8,aE,ae,hV,zG0,zG1]
 refine c9 ai rfl rfl ?_
 rw [dI]
 exact Rt.mk g
abbrev glT (l:List Gl):D:=.tup (l.map glD)
def stD (lp:Bool) (st:ce):D:=.dkz ((aQ lp).map Sum.inr) ((aQ lp).map fun w=>glT (st w))
def FaOk (S:Sto) (q:Addr) (d:D) (fa:List Str):Prop:=d = .lst (fa.map D.str)∨∃ r,d = .ref r∧r ≠ q∧S r=some (.lst (fa.map D.str))
structure WAt (S:Sto) (w q:Addr) (d:D) (fa:List Str) (ps:List Addr):Prop where
 hw:S w=some (.ins 28 [d,.ref q])
 hq:S q=some (.lst (ps.map D.ref))
 fa:FaOk S q d fa
def SpAt (S:Sto) (ps:List Addr) (l:List SpL):Prop:=ps.length=l.length∧∀ (i:Nat) (s:SpL) (p:Addr),l[i]? = some s→ps[i]? = some p→S p=some (.ins 27 (spF s))
def KeepQ (q:Addr) (S S':Sto):Prop:=∀ a m,a ≠ q→S a=some m→S' a=some m
theorem KeepQ.r {q:Addr} {S:Sto}:KeepQ q S S:=fun _ _ _ h=>h
theorem KeepQ.t {q:Addr} {S S1 S2:Sto} (h:KeepQ q S S1) (k:KeepQ q S1 S2):KeepQ q S S2:=fun a m ha e=>k a m ha (h a m ha e)
theorem KeepQ.fresh {q a:Addr} {S S1:Sto} (h:KeepQ q S S1) (ha:a ≠ q) (e:S1 a=none):S a=none:=by
 cases e2:S a with
 | none=>rfl
 | some m=>rw [h a m ha e2] at e; cases e
structure Grown (S:Sto) (q:Addr) (ps:List Addr) (S':Sto) (ps':List Addr) (l:List SpL):Prop where
 hq:S' q=some (.lst ((ps ++ ps').map D.ref))
 at_:SpAt S' ps' l
 keep:KeepQ q S S'
 fresh:∀ p ∈ ps',S p=none
theorem WAt.ne {S:Sto} {w q:Addr} {d:D} {fa:List Str} {ps:List Addr} (h:WAt S w q d fa ps):w ≠ q:=fun e=>by
 have:=h.hw
 rw [e,h.hq] at this
 cases this
theorem FaOk.keep {S S':Sto} {q:Addr} {d:D} {fa:List Str} (h:FaOk S q d fa) (k:KeepQ q S S'):FaOk S' q d fa:=by
 rcases h with h | ⟨r,e,h1,h2⟩
 ·exact .inl h
 ·exact .inr ⟨r,e,h1,k r _ h1 h2⟩
theorem WAt.grown {S S':Sto} {w q:Addr} {d:D} {fa:List Str} {ps ps':List Addr} (h:WAt S w q d fa ps) (hq:S' q=some (.lst ((ps ++ ps').map D.ref))) (k:KeepQ q S S'):WAt S' w q d fa (ps ++ ps'):=⟨k w _ h.ne h.hw,hq,h.fa.keep k⟩
theorem SpAt.keep {S S':Sto} {ps:List Addr} {l:List SpL} (h:SpAt S ps l) (k:∀ p ∈ ps,S' p=S p):SpAt S' ps l:=⟨h.1,fun i s p h1 h2=>(k p (List.mem_of_getElem? h2)).trans (h.2 i s p h1 h2)⟩
theorem SpAt.nil {S:Sto}:SpAt S [] []:=⟨rfl,fun i s p h=>by cases h⟩
theorem SpAt.app {S:Sto} {ps ps':List Addr} {l l':List SpL} (h:SpAt S ps l) (h':SpAt S ps' l'):SpAt S (ps ++ ps') (l ++ l'):=⟨by rw [List.length_append,List.length_append,h.1,h'.1],fun i s p h1 h2=>by
 by_cases hi:i < l.length
 ·rw [List.getElem?_append_left hi] at h1
  rw [List.getElem?_append_left (by rw [h.1]; exact hi)] at h2
  exact h.2 i s p h1 h2
 ·rw [List.getElem?_append_right (by omega)] at h1
  rw [List.getElem?_append_right (by rw [h.1]; omega),h.1] at h2
  exact h'.2 _ s p h1 h2⟩
structure LenG (on:List Gl) (st:ce) (fl:List Gl):Prop where
 on:on.length≤3
 st:∀ w,(st w).length≤3
 fl:fl.length≤3
def hY (n:Nat):HSp:=fun ds S Q _=>∃ (w q:Addr) (d:D) (fa:List Str) (ps:List Addr) (P:PN) (lv:Nat) (lp:Bool) (b:Bdy) (path:List Nat) (mood:List Str) (on:List Gl) (st:ce) (fl:List Gl) (loop:Bool),
 ds=[.ref w,aw b,.tup [aU path,bp mood],glT on,.tup [stD lp st,glT fl],.bl loop]∧WAt S w q d fa ps∧(∀ x ∈ b,GoodS P lv lp x)∧lv < n∧path.length + 2 * n≤100∧mood.length + n≤100∧LenG on st fl∧ps.length + (ah fa n ps.length lp b path mood on st fl loop).length≤1000 ∧
 ∀ (S':Sto) (ps':List Addr),Grown S q ps S' ps' (ah fa n ps.length lp b path mood on st fl loop)→Q (.int (ps.length:Nat)) S'
def zK (n:Nat):HSp:=fun ds S Q _=>∃ (w q:Addr) (d:D) (fa:List Str) (ps:List Addr) (P:PN) (lv:Nat) (lp:Bool) (s:Stm) (path:List Nat) (mood:List Str) (on:List Gl) (st:ce) (fl:List Gl),
 ds=[.ref w,aY s,.tup [aU path,bp mood],glT on,.tup [stD lp st,glT fl]]∧WAt S w q d fa ps∧GoodS P lv lp s∧lv≤n∧path.length + 2 * n + 1≤100∧mood.length + n + 1≤100∧on.length=1∧LenG on st fl∧ps.length + (bE (ah fa n) fa ps.length lp s path mood on st fl).2.length≤1000 ∧
 ∀ (S':Sto) (ps':List Addr),Grown S q ps S' ps' (bE (ah fa n) fa ps.length lp s path mood on st fl).2→Q (glT (bE (ah fa n) fa ps.length lp s path mood on st fl).1) S'
def prv (path:List Nat) (mood:List Str) (b:Bdy) (j:Nat):SpL:=⟨path ++ [j],mood,b[j]?,[]⟩
theorem wO {ps qs:List Addr} {i:Nat} {p:Addr} (h:qs[i]? = some p):((ps ++ qs).map D.ref)[ps.length + i]? = some (.ref p):=by
 rw [List.getElem?_map,List.getElem?_append_right (Nat.le_add_right _ _),Nat.add_sub_cancel_left,h]
 rfl
theorem fe {α:Type} {l:List α} {n:Nat} {x:α} (h:l[n]? = some x):atI l ((n:Nat):Int)=some x:=by
 obtain ⟨hl,e⟩:=List.getElem?_eq_some_iff.mp h
 rw [ii hl,e]
theorem yw {k m i:Nat} (h:i < m):(g9 (k:Nat) m)[i]? = some (.int ((k + i:Nat):Int)):=by
 unfold g9
 rw [List.getElem?_map,List.getElem?_range h]
 show some (D.int (((k:Nat):Int) + ((i:Nat):Int)))=_
 rw [← Int.natCast_add]
theorem m9 {b:Bdy} {i:Nat} {s:Stm} (h:b[i]? = some s):(stmsD b)[i]? = some (aY s):=by rw [fW,List.getElem?_map,h]; rfl
theorem kI (b:Bdy):(stmsD b).length=b.length:=by rw [fW,List.length_map]
structure Lays (S:Sto) (q:Addr) (ps:List Addr) (S':Sto) (ps1 ps2:List Addr) (f:Nat→SpL) (l2:List SpL):Prop where
 hq:S' q=some (.lst ((ps ++ (ps1 ++ ps2)).map D.ref))
 own:∀ (i:Nat) (p:Addr),ps1[i]? = some p→S' p=some (.ins 27 (spF (f i)))
 blk:SpAt S' ps2 l2
 keep:KeepQ q S S'
 fr1:∀ p ∈ ps1,S p=none
 fr2:∀ p ∈ ps2,S p=none
 nd:∀ (i j:Nat) (p:Addr),ps1[i]? = some p→ps1[j]? = some p→i=j
 dj:∀ p ∈ ps2,p ∉ ps1
theorem Lays.nq {S:Sto} {q:Addr} {ps:List Addr} {S':Sto} {ps1 ps2:List Addr} {f:Nat→SpL} {l2:List SpL} (h:Lays S q ps S' ps1 ps2 f l2) {i:Nat} {p:Addr} (hp:ps1[i]? = some p):p ≠ q:=fun e=>by
 have:=h.own i p hp
 rw [e,h.hq] at this
 cases this
theorem sB (h0:fZ 27=some 3:=by rfl) (h1:dt 28=some 1:=by rfl) {n:Nat} {ds:List D} {S:Sto} {Q E:HK} (h:hY (n + 1) ds S Q E):fU pN (zK n) (EN Q E) (ao 13 ds) S:=by
 obtain ⟨w,q,d,fa,ps,P,lv,lp,b,path,mood,on,st,fl,loop,rfl,hw,hb,hlv,hpa,hmo,hlen,hsz,g⟩:=h
 have hwq:=hw.ne
 have eL0:∃ L,L=bx (ah fa n) fa ps.length lp path mood st fl b 0 (ps.length + b.length + 1):=⟨_,rfl⟩
 obtain ⟨L,hL⟩:=eL0
 have eL:ah fa (n + 1) ps.length lp b path mood on st fl loop=L.1 ++ ⟨path ++ [b.length],mood,none,(if loop then [.sp ps.length] else []) ++ on⟩ :: L.2:=by rw [hL]; rfl
 rw [eL] at hsz g
 have l1:L.1.length=b.length:=by rw [hL]; exact jm b 0 _
 rw [List.length_append,List.length_cons,l1] at hsz
 have lm:=kI b
 show fU pN (zK n) (EN Q E) [some (.ref w),some (aw b),some (.tup [aU path,bp mood]),some (glT on),some (.tup [stD lp st,glT fl]),some (.bl loop),none,none,none,none,none,none,none] S
 unfold fU
 refine dC ?_
 simp only [f9,hV,bu,bindDs,zG0,zG1,zS0,zS1]
 refine fy (.int (ps.length:Nat)) S (fun R E r=>?_) ?_
 ·simp only [hcb,hun,aa,ae,hV,zG0,zG1]
  refine b9 hw.hw h1 rfl ?_
  refine pH hw.hq ?_
  rw [List.length_map]
  exact r
 dsimp only [zS1,zS0]
 refine fy (.lst (g9 (ps.length:Nat) (b.length + 1))) S (fun R E r=>?_) ?_
 ·simp only [hop,hcb,aa,ae,hV,hC,zG0,zG1]
  refine bz (xs:=stmsD b) rfl ?_
  rw [lm]
  refine mW ?_
  refine mW ?_
  refine ⟨RgOk.of_le (by omega) (by omega) (by omega) (by omega),?_⟩
  rw [show (((ps.length:Nat):Int) + ((b.length:Nat):Int) + 1 - ((ps.length:Nat):Int)).toNat=b.length + 1 by omega]
  exact r
 dsimp only [zS1,zS0]
 -- the own spots
 refine gE (fun env S'=>∃ (ps1:List Addr) (x10 x11 x12:Option D),env=[some (.ref w),some (aw b),some (.tup [aU path,bp mood]),some (glT on),some (.tup [stD lp st,glT fl]),some (.bl loop),some (aU path),some (bp mood),some (.int (ps.length:Nat)),some (.lst (g9 (ps.length:Nat) (b.length + 1))),x10,x11,x12]∧ps1.length=b.length + 1∧Lays S q ps S' ps1 [] (prv path mood b) []) (fun D1 hD=>?_) fun env S1 ⟨ps1,x10,x11,x12,ee,hp1,hl1⟩=>?_
 ·simp only [cC,hJ,hcb,hop,aa,ae,hV,hC,zG0,zG1]
  refine bz (xs:=stmsD b) rfl ?_
  rw [lm]
  refine mW ?_
  refine ⟨by omega,by omega,?_⟩
  rw [show (((b.length:Nat):Int) + 1).toNat=b.length + 1 by omega]
  refine c7 (I:=fun i e S'=>∃ (ps1:List Addr) (x10 x11 x12:Option D),e=[some (.ref w),some (aw b),some (.tup [aU path,bp mood]),some (glT on),some (.tup [stD lp st,glT fl]),some (.bl loop),some (aU path),some (bp mood),some (.int (ps.length:Nat)),some (.lst (g9 (ps.length:Nat) (b.length + 1))),x10,x11,x12]∧ps1.length=i∧Lays S q ps S' ps1 [] (prv path mood b) []) _ (fun i d0 e S2 hdi ⟨ps1,x10,x11,x12,ee,hp1,hl1⟩=>?_) (fun e S2 ⟨ps1,x10,x11,x12,ee,hp1,hl1⟩=>?_) ⟨[],none,none,none,rfl,rfl,⟨by rw [List.append_nil,List.append_nil]; exact hw.hq,fun i p h=>(by cases h),.nil,.r,fun p h=>(by cases h),fun p h=>(by cases h),fun i j p h=>(by cases h),fun p h=>(by cases h)⟩⟩
  ·subst ee
   obtain ⟨hi,rfl⟩:=mU hdi
   refine ⟨_,rfl,fun K hK=>?_⟩
   dsimp only [zS1,zS0]
   rw [show (0:Int) + ((i:Nat):Int)=((i:Nat):Int) by omega]
   refine fy (rS b[i]?) S2 (fun R E r=>?_) ?_
   ·simp only [hIf,hB,hop,hcb,aa,ae,hV,hC,zG0,zG1]
    refine bz (xs:=stmsD b) rfl ?_
    rw [lm]
    show (match decide (((i:Nat):Int) < ((b.length:Nat):Int)) with | true=>_ | false=>_)
    by_cases hib:i < b.length
    ·rw [decide_eq_true (show ((i:Nat):Int) < ((b.length:Nat):Int) by omega)]
     have hs:b[i]? = some b[i]:=List.getElem?_eq_getElem hib
     rw [hs] at r
     exact aF (xs:=stmsD b) rfl (fe (m9 hs)) r
    ·rw [decide_eq_false (show ¬ ((i:Nat):Int) < ((b.length:Nat):Int) by omega)]
     rw [List.getElem?_eq_none (by omega)] at r
     exact r
   dsimp only [zS1,zS0]
   have hw2:S2 w=some (.ins 28 [d,.ref q]):=hl1.keep w _ hwq hw.hw
   simp only [aL,hMt,fS,hun,hop,av,aa,ae,hV,zG0,zG1]
   refine b9 hw2 h1 rfl ?_
   rw [cB hl1.hq]
   dsimp only
   refine (show bb (aU path) (.tps [.int ((i:Nat):Int)]) S2 _ from gj (by rw [List.length_map,List.length_singleton]; omega) ?_)
   rw [show path.map (fun (n:Nat)=>D.int (n:Int)) ++ [D.int ((i:Nat):Int)]=(path ++ [i]).map fun (n:Nat)=>D.int (n:Int) by rw [List.map_append]; rfl]
   intro p hp
   have hpq:p ≠ q:=fun e=>by rw [e,hl1.hq] at hp; cases hp
   refine ⟨p,aU (path ++ [i]),bp mood,rS b[i]?,rfl,ai,⟨rfl,Rt.mk ?_⟩⟩
   rw [dI]
   refine fH ((ar (Ne.symm hpq)).trans hl1.hq) (by rw [List.length_map,List.length_append,List.append_nil]; omega) ?_
   refine hK _ _ ⟨ps1 ++ [p],_,_,_,rfl,by rw [List.length_append,hp1]; rfl,?_⟩
   have hpn:p ∉ ps1:=fun hm=>by
    obtain ⟨j,hj⟩:=List.mem_iff_getElem?.mp hm
    rw [hl1.own j p hj] at hp
    cases hp
   have keep:KeepQ q S (up (up S2 p (.ins 27 [aU (path ++ [i]),bp mood,rS b[i]?,.tup []])) q (.lst ((ps ++ (ps1 ++ [])).map D.ref ++ [.ref p]))):=fun a m ha e=>by
    have e2:=hl1.keep a m ha e
    rw [ar ha,ar (sne e2 hp)]
    exact e2
   have at1:∀ (j:Nat) (z:Addr),(ps1 ++ [p])[j]? = some z→(j < i∧ps1[j]? = some z)∨(j=i∧z=p):=fun j z hj=>by
    by_cases hji:j < ps1.length
    ·rw [List.getElem?_append_left hji] at hj
     exact .inl ⟨by omega,hj⟩
    ·have hjl:=(List.getElem?_eq_some_iff.mp hj).1
     rw [List.length_append,List.length_singleton] at hjl
     rw [List.getElem?_append_right (by omega),show j - ps1.length=0 by omega] at hj
     cases hj
     exact .inr ⟨by omega,rfl⟩
   refine ⟨?_,fun j z hj=>?_,.nil,keep,fun z hz=>?_,fun z h=>(by cases h),fun j k z h2 h3=>?_,fun z h=>(by cases h)⟩
   ·rw [ai]
    simp only [List.append_nil,List.map_append,List.map_cons,List.map_nil,List.append_assoc]
   ·rcases at1 j z hj with ⟨hji,hj⟩ | ⟨rfl,rfl⟩
    ·have:=hl1.own j z hj
     rw [ar (hl1.nq hj),ar (sne this hp)]
     exact this
    ·rw [ar hpq,ai]
     rfl
   ·rcases List.mem_append.mp hz with hz | hz
    ·exact hl1.fr1 z hz
    ·rw [List.mem_singleton.mp hz]
     exact hl1.keep.fresh hpq hp
   ·rcases at1 j z h2 with ⟨hji,h2⟩ | ⟨e1,e2⟩
    ·rcases at1 k z h3 with ⟨hki,h3⟩ | ⟨e3,e4⟩
     ·exact hl1.nd j k z h2 h3
     ·rw [e4] at h2
      exact absurd (List.mem_of_getElem? h2) hpn
    ·rcases at1 k z h3 with ⟨hki,h3⟩ | ⟨e3,e4⟩
     ·rw [e2] at h3
      exact absurd (List.mem_of_getElem? h3) hpn
     ·omega
  ·subst ee
   rw [dV] at hp1
   exact hD _ _ ⟨ps1,_,_,_,rfl,hp1,hl1⟩
 subst ee
 -- what comes next behind each statement
 let f:=fun (i:Nat) (l:List SpL) (j:Nat)=>if j < i then l[j]?.getD (prv path mood b j) else prv path mood b j
 refine gE (fun env S'=>∃ (ps2:List Addr) (x10 x11 x12:Option D),env=[some (.ref w),some (aw b),some (.tup [aU path,bp mood]),some (glT on),some (.tup [stD lp st,glT fl]),some (.bl loop),some (aU path),some (bp mood),some (.int (ps.length:Nat)),some (.lst (g9 (ps.length:Nat) (b.length + 1))),x10,x11,x12]∧Lays S q ps S' ps1 ps2 (f b.length L.1) L.2) (fun D1 hD=>?_) fun env S2 ⟨ps2,y10,y11,y12,ee,hl2⟩=>?_
 ·simp only [cC,dO,aa,ae,hV,zG0,zG1]
  show cZ _ _ none (ja 0 (stmsD b)) _ _ S1
  refine c7 (I:=fun i e S'=>∃ (ps2:List Addr) (d1 d2:List SpL) (x10 x11 x12:Option D),e=[some (.ref w),some (aw b),some (.tup [aU path,bp mood]),some (glT on),some (.tup [stD lp st,glT fl]),some (.bl loop),some (aU path),some (bp mood),some (.int (ps.length:Nat)),some (.lst (g9 (ps.length:Nat) (b.length + 1))),x10,x11,x12]∧d1.length=i∧Lays S q ps S' ps1 ps2 (f i d1) d2∧L.1=d1 ++ (bx (ah fa n) fa ps.length lp path mood st fl (b.drop i) i (ps.length + b.length + 1 + d2.length)).1∧L.2=d2 ++ (bx (ah fa n) fa ps.length lp path mood st fl (b.drop i) i (ps.length + b.length + 1 + d2.length)).2) _ (fun i d0 e S2 hdi ⟨ps2,d1,d2,x10,x11,x12,ee,hd1,hl2,e1,e2⟩=>?_) (fun e S2 ⟨ps2,d1,d2,x10,x11,x12,ee,hd1,hl2,e1,e2⟩=>?_) ⟨[],[],[],_,_,_,rfl,rfl,?_,?_,?_⟩
  ·subst ee
   have hi:i < b.length:=by
    have:=(List.getElem?_eq_some_iff.mp hdi).1
    rw [fk,lm] at this
    exact this
   have hs:b[i]? = some b[i]:=List.getElem?_eq_getElem hi
   rw [mF 0 (stmsD b) i _ (m9 hs),Nat.zero_add] at hdi
   cases hdi
   generalize b[i]=s at hs
   refine ⟨_,rfl,fun K hK=>?_⟩
   simp only [zS1,zS0]
   obtain ⟨p,hp⟩:∃ p,ps1[i]? = some p:=⟨_,List.getElem?_eq_getElem (by omega)⟩
   have hpq:=hl2.nq hp
   have hw2:S2 w=some (.ins 28 [d,.ref q]):=hl2.keep w _ hwq hw.hw
   refine fy (.ref p) S2 (fun R E r=>?_) ?_
   ·simp only [hop,hun,hV,zG0,zG1]
    refine b9 hw2 h1 rfl ?_
    refine aF (xs:=g9 (ps.length:Nat) (b.length + 1)) rfl (fe (yw (show i < b.length + 1 by omega))) ?_
    refine eE hl2.hq (fe (wO (p:=p) ?_)) r
    rw [List.getElem?_append_left (by omega)]
    exact hp
   dsimp only [zS1,zS0]
   have ed:b.drop i=s :: b.drop (i + 1):=by
    rw [List.drop_eq_getElem_cons hi]
    rw [List.getElem?_eq_getElem hi] at hs
    cases hs
    rfl
   rw [ed] at e1 e2
   generalize hA:bE (ah fa n) fa (ps.length + b.length + 1 + d2.length) lp s (path ++ [i]) mood [.sp (ps.length + i + 1)] st fl=A
   have e1:L.1=d1 ++ (⟨path ++ [i],mood,some s,A.1⟩ :: (bx (ah fa n) fa ps.length lp path mood st fl (b.drop (i + 1)) (i + 1) (ps.length + b.length + 1 + d2.length + A.2.length)).1):=by rw [← hA]; exact e1
   have e2:L.2=d2 ++ (A.2 ++ (bx (ah fa n) fa ps.length lp path mood st fl (b.drop (i + 1)) (i + 1) (ps.length + b.length + 1 + d2.length + A.2.length)).2):=by rw [← hA]; exact e2
   have lps:(ps ++ (ps1 ++ ps2)).length=ps.length + b.length + 1 + d2.length:=by
    rw [List.length_append,List.length_append,hp1,hl2.blk.1]
    omega
   have lz:d2.length + A.2.length≤L.2.length:=by
    rw [e2,List.length_append,List.length_append]
    omega
   simp only [d8,bG,aE,av,hop,aa,ae,hV,hC,zG0,zG1]
   rw [eF hw2]
   dsimp only
   refine (show bb (aU path) (.tps [.int ((i:Nat):Int)]) S2 _ from gj (by rw [List.length_map,List.length_singleton]; omega) ?_)
   rw [show path.map (fun (n:Nat)=>D.int (n:Int)) ++ [D.int ((i:Nat):Int)]=(path ++ [i]).map fun (n:Nat)=>D.int (n:Int) by rw [List.map_append]; rfl]
   refine mW ?_
   rw [show ((i:Nat):Int) + 1=((i + 1:Nat):Int) by omega]
   refine aF (xs:=g9 (ps.length:Nat) (b.length + 1)) rfl (fe (yw (show i + 1 < b.length + 1 by omega))) ?_
   refine ⟨w,q,d,fa,ps ++ (ps1 ++ ps2),P,lv,lp,s,path ++ [i],mood,[.sp (ps.length + i + 1)],st,fl,rfl,⟨hw2,hl2.hq,hw.fa.keep hl2.keep⟩,hb s (List.mem_of_getElem? hs),by omega,by rw [List.length_append,List.length_singleton]; omega,by omega,rfl,⟨by show 1≤3; omega,hlen.st,hlen.fl⟩,?_,fun S3 ps3 gr=>?_⟩
   ·rw [lps,hA]
    omega
   rw [lps,hA] at gr ⊢
   have hp2:=hl2.own i p hp
   have hp3:S3 p=some (.ins 27 (spF (prv path mood b i))):=by
    have:=gr.keep p _ hpq hp2
    rw [this]
    show some (M.ins 27 (spF (if i < i then _ else _)))=_
    rw [if_neg (Nat.lt_irrefl _)]
   refine c9 (ds':=spF ⟨path ++ [i],mood,some s,A.1⟩) hp3 h0 (by unfold prv; rw [hs]; rfl) ?_
   have hp3n:p ∉ ps3:=fun hm=>by
    rw [gr.fresh p hm] at hp2
    cases hp2
   have hp2n:p ∉ ps2:=fun hm=>hl2.dj p hm (List.mem_of_getElem? hp)
   refine hK _ _ ⟨ps2 ++ ps3,d1 ++ [⟨path ++ [i],mood,some s,A.1⟩],d2 ++ A.2,_,_,_,rfl,by rw [List.length_append,hd1]; rfl,⟨?_,fun j z hj=>?_,?_,fun a m ha e=>?_,hl2.fr1,fun z hz=>?_,hl2.nd,fun z hz=>?_⟩,?_,?_⟩
   ·rw [ar (Ne.symm hpq),gr.hq]
    simp only [List.append_assoc]
   ·by_cases hji:j=i
    ·subst hji
     rw [hp] at hj
     cases hj
     rw [ai]
     show _=some (M.ins 27 (spF (if j < j + 1 then _ else _)))
     rw [if_pos (Nat.lt_succ_self _),List.getElem?_append_right (by omega),hd1,Nat.sub_self]
     rfl
    ·have hzp:z ≠ p:=fun e=>hji (hl2.nd j i p (e ▸ hj) hp)
     rw [ar hzp,gr.keep z _ (hl2.nq hj) (hl2.own j z hj)]
     show some (M.ins 27 (spF (if j < i then _ else _)))=some (M.ins 27 (spF (if j < i + 1 then _ else _)))
     by_cases hlt:j < i
     ·rw [if_pos hlt,if_pos (by omega),List.getElem?_append_left (by omega)]
     ·rw [if_neg hlt,if_neg (by omega)]
   ·refine SpAt.app (hl2.blk.keep fun z hz=>?_) (gr.at_.keep fun z hz=>?_)
    ·obtain ⟨j,hj⟩:=List.mem_iff_getElem?.mp hz
     have hjl:=(List.getElem?_eq_some_iff.mp hj).1
     have:=hl2.blk.2 j _ z (List.getElem?_eq_getElem (by rw [← hl2.blk.1]; exact hjl)) hj
     have hzq:z ≠ q:=fun e=>by rw [e,hl2.hq] at this; cases this
     have hne:z ≠ p:=fun e=>hp2n (by rw [← e]; exact hz)
     rw [ar hne,gr.keep z _ hzq this,this]
    ·have hne:z ≠ p:=fun e=>hp3n (by rw [← e]; exact hz)
     exact ar hne
   ·rw [ar (fun e'=>by rw [e',hl2.fr1 p (List.mem_of_getElem? hp)] at e; cases e)]
    exact (hl2.keep.t gr.keep) a m ha e
   ·rcases List.mem_append.mp hz with hz | hz
    ·exact hl2.fr2 z hz
    ·have hzn:=gr.fresh z hz
     exact hl2.keep.fresh (fun e=>by rw [e,hl2.hq] at hzn; cases hzn) hzn
   ·rcases List.mem_append.mp hz with hz | hz
    ·exact hl2.dj z hz
    ·intro hm
     obtain ⟨j,hj⟩:=List.mem_iff_getElem?.mp hm
     have:=gr.fresh z hz
     rw [hl2.own j z hj] at this
     cases this
   ·rw [e1,List.length_append,List.append_assoc,← Nat.add_assoc]
    rfl
   ·rw [e2,List.length_append,List.append_assoc,← Nat.add_assoc]
  ·refine ⟨hl1.hq,fun j z hj=>?_,.nil,hl1.keep,hl1.fr1,fun z h=>(by cases h),hl1.nd,fun z h=>(by cases h)⟩
   show S1 z=some (M.ins 27 (spF (if j < 0 then _ else _)))
   rw [if_neg (Nat.not_lt_zero _)]
   exact hl1.own j z hj
  ·exact hL ▸ rfl
  ·exact hL ▸ rfl
  ·subst ee
   rw [fk,lm] at hd1 hl2 e1 e2
   rw [List.drop_length] at e1 e2
   have e1:L.1=d1 ++ []:=e1
   have e2:L.2=d2 ++ []:=e2
   rw [List.append_nil] at e1 e2
   rw [← e1,← e2] at hl2
   exact hD _ _ ⟨ps2,_,_,_,rfl,hl2⟩
 subst ee
 obtain ⟨p,hp⟩:∃ p,ps1[b.length]? = some p:=⟨_,List.getElem?_eq_getElem (by omega)⟩
 have hpq:=hl2.nq hp
 have hw2:S2 w=some (.ins 28 [d,.ref q]):=hl2.keep w _ hwq hw.hw
 have hp2:S2 p=some (.ins 27 (spF ⟨path ++ [b.length],mood,none,[]⟩)):=by
  rw [hl2.own _ _ hp]
  show some (M.ins 27 (spF (if b.length < b.length then _ else _)))=_
  rw [if_neg (Nat.lt_irrefl _)]
  unfold prv
  rw [List.getElem?_eq_none zNr]
 refine dC ?_
 simp only [d8,hIf,hTr,aE,hop,hun,aa,ae,hV,hC,zG0,zG1]
 have fin:∀ K:Sto→Prop,K (up S2 p (.ins 27 (spF ⟨path ++ [b.length],mood,none,(if loop then [.sp ps.length] else []) ++ on⟩)))→ba dt (.ref w) S2 (fun x S3=>hM (.int 1) S3 fun y S4=>gIx (.lst (g9 (ps.length:Nat) (b.length + 1))) y S4 fun z S5=>gIx x z S5 fun x2 S6=>Ak fZ x2 (glT ((if loop then [.sp ps.length] else []) ++ on)) S6 K):=fun K k=>by
  refine b9 hw2 h1 rfl ?_
  refine (show gIx (.lst (g9 (ps.length:Nat) (b.length + 1))) (.int (-1)) S2 _ from ?_)
  refine aF (xs:=g9 (ps.length:Nat) (b.length + 1)) (d:=.int ((ps.length + b.length:Nat):Int)) rfl ?_ ?_
  ·unfold atI ixN
   rw [dV,if_neg (by omega),if_pos (by omega)]
   rw [show (-1 + (((b.length + 1:Nat)):Int)).toNat=b.length by omega]
   exact yw (by omega)
  refine eE hl2.hq (fe (wO (p:=p) ?_)) ?_
  ·rw [List.getElem?_append_left (by omega)]
   exact hp
  exact c9 hp2 h0 rfl k
 have done:Rt Q (.int (ps.length:Nat)) (up S2 p (.ins 27 (spF ⟨path ++ [b.length],mood,none,(if loop then [.sp ps.length] else []) ++ on⟩))):=by
  refine Rt.mk (g _ (ps1 ++ ps2) ⟨?_,?_,fun a m ha e=>?_,fun z hz=>?_⟩)
  ·rw [ar (Ne.symm hpq)]
   exact hl2.hq
  ·rw [show L.1 ++ (⟨path ++ [b.length],mood,none,(if loop then [.sp ps.length] else []) ++ on⟩ :: L.2)=(L.1 ++ [⟨path ++ [b.length],mood,none,(if loop then [.sp ps.length] else []) ++ on⟩]) ++ L.2 by rw [List.append_assoc]; rfl]
   refine SpAt.app ⟨by rw [List.length_append,l1,hp1]; rfl,fun j s z h3 h4=>?_⟩ (hl2.blk.keep fun z hz=>ar fun e=>hl2.dj z hz (e ▸ List.mem_of_getElem? hp))
   by_cases hj:j < b.length
   ·rw [List.getElem?_append_left (by omega)] at h3
    have hzp:z ≠ p:=fun e=>by
     have:=hl2.nd j b.length p (e ▸ h4) hp
     omega
    rw [ar hzp,hl2.own j z h4]
    show some (M.ins 27 (spF (if j < b.length then L.1[j]?.getD _ else _)))=_
    rw [if_pos hj,h3]
    rfl
   ·have hjl:=(List.getElem?_eq_some_iff.mp h4).1
    have hjb:j=b.length:=by omega
    subst hjb
    rw [hp] at h4
    cases h4
    rw [List.getElem?_append_right (by omega),l1,Nat.sub_self] at h3
    cases h3
    exact ai
  ·rw [ar (fun e'=>by rw [e',hl2.fr1 p (List.mem_of_getElem? hp)] at e; cases e)]
   exact hl2.keep a m ha e
  ·rcases List.mem_append.mp hz with hz | hz
   ·exact hl2.fr1 z hz
   ·exact hl2.fr2 z hz
 have on3:=hlen.on
 cases loop with
 | true =>
   dsimp only [iH,List.length_cons,List.length_nil,Nat.ble]
   refine kH (xs:=[.int ((ps.length:Nat):Int)]) (ys:=on.map glD) (by rw [List.length_map,List.length_singleton]; omega) ?_
   refine fin _ ?_
   simp only [aA,hV,zG0,zG1]
   exact done
 | false =>
   dsimp only [iH,List.length_cons,List.length_nil,Nat.ble]
   refine kH (xs:=[]) (ys:=on.map glD) (by rw [List.length_map,List.length_nil]; omega) ?_
   refine fin _ ?_
   simp only [aA,hV,zG0,zG1]
   exact done
theorem Grown.refl {S:Sto} {q:Addr} {ps:List Addr} (h:S q=some (.lst (ps.map D.ref))):Grown S q ps S [] []:=⟨by rw [List.append_nil]; exact h,.nil,.r,fun p h=>(by cases h)⟩
theorem Grown.t {S S1 S2:Sto} {q:Addr} {ps ps1 ps2:List Addr} {l1 l2:List SpL} (h:Grown S q ps S1 ps1 l1) (k:Grown S1 q (ps ++ ps1) S2 ps2 l2):Grown S q ps S2 (ps1 ++ ps2) (l1 ++ l2):=by
 refine ⟨by rw [k.hq,List.append_assoc],SpAt.app (h.at_.keep fun z hz=>?_) k.at_,h.keep.t k.keep,fun z hz=>?_⟩
 ·obtain ⟨j,hj⟩:=List.mem_iff_getElem?.mp hz
  have hjl:=(List.getElem?_eq_some_iff.mp hj).1
  have:=h.at_.2 j _ z (List.getElem?_eq_getElem (by rw [← h.at_.1]; exact hjl)) hj
  have hzq:z ≠ q:=fun e=>by rw [e,h.hq] at this; cases this
  rw [k.keep z _ hzq this,this]
 ·rcases List.mem_append.mp hz with hz | hz
  ·exact h.fresh z hz
  ·have hzn:=k.fresh z hz
   exact h.keep.fresh (fun e=>by rw [e,h.hq] at hzn; cases hzn) hzn
theorem WAt.gr {S S':Sto} {w q:Addr} {d:D} {fa:List Str} {ps ps':List Addr} {l:List SpL} (h:WAt S w q d fa ps) (g:Grown S q ps S' ps' l):WAt S' w q d fa (ps ++ ps'):=h.grown g.hq g.keep
def kvT (ws:List Str) (f:Str→D):List (Key × D):=ws.map fun w=>((Sum.inr w:Key),f w)
theorem gM (ws:List Str) (f:Str→D):(kvT ws f).map (·.1)=ws.map Sum.inr:=by unfold kvT; rw [List.map_map]; rfl
theorem gN (ws:List Str) (f:Str→D):(kvT ws f).map (·.2)=ws.map f:=by unfold kvT; rw [List.map_map]; rfl
theorem jO (ws:List Str) (f:Str→D):(kvT ws f).length=ws.length:=List.length_map ..
theorem kX (f:Str→D):∀ ws:List Str,(ws.map (Sum.inr:Str→Key)).zip (ws.map f)=kvT ws f
 | []=>rfl
 | w :: ws=>congrArg (List.cons _) (kX f ws)
theorem pO (f:Str→D) {w:Str}:∀ ws:List Str,w ∈ ws→gh (kvT ws f) (.inr w)=some (f w)
 | [],h=>by cases h
 | x :: ws,h=>by
   by_cases e:x=w
   ·subst e
    unfold gh kvT
    rw [List.map_cons,List.find?_cons,decide_eq_true rfl]
    rfl
   ·have ih:=pO f ws ((List.mem_cons.mp h).resolve_left fun q=>e q.symm)
    unfold gh kvT at ih ⊢
    rw [List.map_cons,List.find?_cons,decide_eq_false (by intro q; cases q; exact e rfl)]
    exact ih
theorem uK (f:Str→D) (w:Str):∀ ws:List Str,((kvT ws f).any fun kv=>decide (kv.1 = .inr w))=decide (w ∈ ws)
 | []=>rfl
 | x :: ws=>by
   have ih:=uK f w ws
   show (decide ((Sum.inr x:Key) = .inr w) || ((kvT ws f).any fun kv=>decide (kv.1 = .inr w)))=_
   rw [ih]
   by_cases e:x=w
   ·subst e
    rw [decide_eq_true rfl,decide_eq_true zMs]
    rfl
   ·rw [decide_eq_false (by intro q; cases q; exact e rfl),Bool.false_or]
    by_cases h:w ∈ ws
    ·rw [decide_eq_true h,decide_eq_true (zMt h)]
    ·rw [decide_eq_false h,decide_eq_false fun q=>(List.mem_cons.mp q).elim (fun q=>e q.symm) h]
theorem jP {f:Str→D} {w:Str} {v:D} {ws:List Str} (h:w ∈ ws):cX (kvT ws f) (.inr w) v=kvT ws fun x=>if x=w then v else f x:=by
 unfold cX
 rw [uK,decide_eq_true h,if_pos rfl]
 unfold kvT
 rw [List.map_map]
 refine List.map_congr_left fun x _=>?_
 show (if (Sum.inr x:Key) = .inr w then ((Sum.inr x:Key),v) else (Sum.inr x,f x))=(Sum.inr x,if x=w then v else f x)
 by_cases e:x=w
 ·rw [if_pos e,if_pos (by rw [e])]
 ·rw [if_neg e,if_neg (by intro q; cases q; exact e rfl)]
theorem gy {f:Str→D} {w:Str} {v:D} {ws:List Str} (h:w ∉ ws):cX (kvT ws f) (.inr w) v=kvT (ws ++ [w]) fun x=>if x=w then v else f x:=by
 unfold cX
 rw [uK,decide_eq_false h,if_neg (by simp)]
 unfold kvT
 rw [List.map_append]
 congr 1
 ·refine List.map_congr_left fun x hx=>?_
  show ((Sum.inr x:Key),f x)=(Sum.inr x,if x=w then v else f x)
  rw [if_neg fun (e:x=w)=>h (by rw [← e]; exact hx)]
 ·show [((Sum.inr w:Key),v)]=[((Sum.inr w:Key),if w=w then v else f w)]
  rw [if_pos rfl]
theorem Ct {lp:Bool} {st:ce} {w:Str} {S:Sto} {Q:HK} (hw:w ∈ aQ lp) (h:Q (glT (st w)) S):cQ (stD lp st) (.str w) S Q:=by
 show (match gh (((aQ lp).map (Sum.inr:Str→Key)).zip ((aQ lp).map fun w=>glT (st w))) (.inr w) with
  | some d=>Q d S
  | none=>False)
 rw [kX,pO _ _ hw]
 exact h
theorem zL {lp:Bool} {st:ce} {S:Sto} {Q:HK} (h:∀ p,S p=none→Q (.ref p) (up S p (.dct (kvT (aQ lp) fun w=>glT (st w))))):d9 [stD lp st] S Q:=by
 show ∀ p,S p=none→Q (.ref p) (up S p (.dct (((aQ lp).map (Sum.inr:Str→Key)).zip ((aQ lp).map fun w=>glT (st w)))))
 rw [kX]
 exact h
theorem kJ {S:Sto} {r:Addr} {ws:List Str} {f:Str→D} {w:Str} {v:D} {K:Sto→Prop} (hr:S r=some (.dct (kvT ws f))) (hl:ws.length≤1000) (h:K (up S r (.dct (cX (kvT ws f) (.inr w) v)))):gD (.ref r) (.str w) v S K:=by
 unfold gD
 dsimp only
 rw [hr]
 dsimp only [hO]
 rw [show Nat.ble (kvT ws f).length 1000=true from Nat.ble_eq.mpr (by rw [jO]; exact hl)]
 exact h
theorem dom_words:(∀ lp,dQ ∈ aQ lp∧dS ∈ aQ lp)∧aH ∈ aQ true∧cD ∈ aQ true∧aH ∉ aQ false∧cD ∉ aQ false ++ [aH]∧aH ≠ cD∧aQ false ++ [aH] ++ [cD]=aQ true∧(∀ lp,wOn ∉ aQ lp∧af ∉ aQ lp ++ [wOn])∧af ≠ wOn:=by
 refine ⟨fun lp=>?_,by decide +kernel,by decide +kernel,by decide +kernel,by decide +kernel,by decide +kernel,by decide +kernel,fun lp=>?_,by decide +kernel⟩ <;> cases lp <;> decide +kernel
theorem Cu (lp:Bool) (st:ce) (g1 g2:List Gl):cX (cX (kvT (aQ lp) fun w=>glT (st w)) (.inr aH) (glT g1)) (.inr cD) (glT g2)=kvT (aQ true) fun w=>glT (if w=aH then g1 else if w=cD then g2 else st w):=by
 obtain ⟨_,a1,a2,a3,a4,a5,a6,_⟩:=dom_words
 have ef:(fun x:Str=>if x=cD then glT g2 else if x=aH then glT g1 else glT (st x))=fun w=>glT (if w=aH then g1 else if w=cD then g2 else st w):=by
  funext x
  by_cases h1:x=cD
  ·rw [if_pos h1,if_neg (by rw [h1]; exact fun e=>a5 e.symm),if_pos h1]
  ·rw [if_neg h1]
   by_cases h2:x=aH
   ·rw [if_pos h2,if_pos h2]
   ·rw [if_neg h2,if_neg h2,if_neg h1]
 cases lp with
 | true=>rw [jP a1,jP a2,ef]
 | false=>rw [gy a3,gy a4,a6,ef]
def iT:HSp:=fun ds S Q _=>∃ (w:Str) (es:List Ent),ds=[aY (.s w :: es)]∧Q (.lst ((es.filter isP).map jH)) S
theorem mj {x0:Option D} {S:Sto} {R:HK}:∀ (r:List Ent) (acc:List D),R (.lst (acc ++ (r.filter isP).map jH)) S→cW (.nm 1) (fK (hTr (hun (gR j9) (hV 1)))) (hV 1) none (entsD r) acc [x0,none] S R
 | [],acc,h=>by
   rw [List.filter_nil,List.map_nil,List.append_nil] at h
   exact h
 | .s x :: r,acc,h=>by
   have ih:=mj (x0:=x0) (S:=S) (R:=R) r acc h
   show cW (.nm 1) (fK (hTr (hun (gR j9) (hV 1)))) (hV 1) none (D.str x :: entsD r) acc [x0,none] S R
   simp only [cW,chk,bu,fK,hTr,hun,hV,zG0,zG1,zS0,zS1]
   exact ih
 | .p b :: r,acc,h=>by
   have ih:=mj (x0:=x0) (S:=S) (R:=R) r (acc ++ [aw b]) (by
    rw [List.append_assoc]; exact h)
   show cW (.nm 1) (fK (hTr (hun (gR j9) (hV 1)))) (hV 1) none (aw b :: entsD r) acc [x0,none] S R
   simp only [cW,chk,bu,fK,hTr,hun,hV,zG0,zG1,zS0,zS1]
   exact ih
theorem wP {ds:List D} {S:Sto} {Q E:HK} (h:iT ds S Q E):du (EN Q E) (ao 2 ds) S:=by
 obtain ⟨w,es,rfl,g⟩:=h
 show du (EN Q E) [some (aY (.s w :: es)),none] S
 unfold du
 simp only [aA,hLc]
 rw [b8]
 simp only [hSl,iL,mw,hV,hC,zG0,zG1]
 refine (show gSl (.tup (D.str w :: entsD es)) (some ((1:Nat):Int)) none S _ from wu ?_)
 refine dv (xs:=entsD es) rfl ?_
 refine mj es [] ?_
 exact Rt.mk g
theorem eqT {a b:Str} {S:Sto} {Q:HK} (e:a=b) (h:Q (.bl true) S):gEq (.str a) (.str b) S Q:=zH (neg:=false) (by rw [decide_eq_true e]; exact h)
theorem eqF {a b:Str} {S:Sto} {Q:HK} (e:a ≠ b) (h:Q (.bl false) S):gEq (.str a) (.str b) S Q:=zH (neg:=false) (by rw [decide_eq_false e]; exact h)
theorem inT {a:Str} {ss:List Str} {S:Sto} {Q:HK} (e:a ∈ ss) (h:Q (.bl true) S):gIn (.str a) (.tup (ss.map D.str)) S Q:=uG (neg:=false) (by rw [decide_eq_true e]; exact h)
theorem inF {a:Str} {ss:List Str} {S:Sto} {Q:HK} (e:a ∉ ss) (h:Q (.bl false) S):gIn (.str a) (.tup (ss.map D.str)) S Q:=uG (neg:=false) (by rw [decide_eq_false e]; exact h)
theorem jn {neg:Bool} {x:Str} {ss:List Str} {y:D} {S:Sto} {Q:HK} (hy:items S y=some (ss.map D.str)) (h:Q (.bl (ng neg (decide (x ∈ ss)))) S):iG neg (.str x) y S Q:=by
 have e1:((ss.map D.str).any fun z=>deq z (.str x))=decide (x ∈ ss):=by
  rw [← jI ss x,List.any_map]
  congr 1 <;> (funext z; exact jF z x)
 have e2:(cV (.str x) && (ss.map D.str).all cV)=true:=by
  rw [List.all_map]
  show (true && ss.all fun _=>true)=true
  simp
 unfold iG
 cases y with
 | str z=>cases hy
 | _ =>
   dsimp only
   rw [hy]
   dsimp only
   rw [e2]
   dsimp only
   rw [e1]
   exact h
theorem FaOk.items {S:Sto} {q:Addr} {d:D} {fa:List Str} (h:FaOk S q d fa):items S d=some (fa.map D.str):=by
 rcases h with rfl | ⟨r,rfl,_,h⟩
 ·rfl
 ·unfold Hy.items
  dsimp only
  rw [h]
abbrev wSAO:List Str:=[bK,aH,cD]
abbrev wETL:List Str:=[bX,d7,bw]
structure WordT (z:Str):Prop where
 a:z ∉ wSAO
 b:z ≠ af
 c:z ≠ bP
theorem oK:(∀ z ∈ iY ++ m7 ++ [fo],WordT z∧z ≠ aq∧z ≠ aB∧z ∉ wETL∧z ≠ aM∧z ≠ am):=by
 have h:∀ z ∈ iY ++ m7 ++ [fo],(z ∉ wSAO∧z ≠ af∧z ≠ bP)∧z ≠ aq∧z ≠ aB∧z ∉ wETL∧z ≠ aM∧z ≠ am:=by decide +kernel
 exact fun z hz=>let ⟨⟨a,b,c⟩,r⟩:=h z hz; ⟨⟨a,b,c⟩,r⟩
def uL (n:Nat):HSp:=fun ds S Q _=>∃ (w q:Addr) (d:D) (fa:List Str) (ps:List Addr) (P:PN) (lv:Nat) (lp:Bool) (a b:Bdy) (path:List Nat) (mood:List Str) (on:List Gl) (st:ce) (fl:List Gl),
 ds=[.ref w,aY [.s am,.p a,.p b],.tup [aU path,bp mood],glT on,.tup [stD lp st,glT fl]]∧WAt S w q d fa ps∧(∀ x ∈ a,GoodS P lv lp x)∧(∀ x ∈ b,x ∈ be P)∧lv < n∧path.length + 2 * n + 1≤100∧mood.length + n + 1≤100∧on.length=1∧LenG on st fl∧ps.length + (bE (ah fa n) fa ps.length lp [.s am,.p a,.p b] path mood on st fl).2.length≤1000 ∧
 ∀ (S':Sto) (ps':List Addr),Grown S q ps S' ps' (bE (ah fa n) fa ps.length lp [.s am,.p a,.p b] path mood on st fl).2→Q (glT (bE (ah fa n) fa ps.length lp [.s am,.p a,.p b] path mood on st fl).1) S'
inductive StmK (P:PN) (n:Nat) (lp:Bool):Stm→Prop
 | jump (w:Str):w ∈ [aH,cD]→lp=true→StmK P n lp [.s w]
 | stop (x:Str):x ∈ [dQ,dS]→StmK P n lp [.s bK,.s x]
 | fault:StmK P n lp [.s af]
 | may:StmK P n lp [.s bP]
 | deeper (f:Str):StmK P n lp [.s aq,.s f]
 | deed (z x:Str):z ∈ iY ++ m7 ++ [fo]→StmK P n lp [.s z,.s x]
 | tries (a:Bdy) (m:Nat):m < n→(∀ x ∈ a,GoodS P m true x)→StmK P n lp [.s aB,.p a]
 | two (w:Str) (a b:Bdy) (m:Nat):w ∈ [bX,d7]→m < n→(∀ x ∈ a,GoodS P m lp x)→(∀ x ∈ b,GoodS P m lp x)→StmK P n lp [.s w,.p a,.p b]
 | guard (a b:Bdy) (m:Nat):m < n→(∀ x ∈ a,GoodS P m lp x)→(∀ x ∈ b,GoodS P m lp x)→StmK P n lp [.s aM,.p a,.p b]
 | look (c:Str) (a b:Bdy) (m:Nat):m < n→(∀ x ∈ a,GoodS P m lp x)→(∀ x ∈ b,GoodS P m lp x)→StmK P n lp [.s bw,.s c,.p a,.p b]
 | lastly (a b:Bdy) (m:Nat):m < n→(∀ x ∈ a,GoodS P m lp x)→(∀ x ∈ b,x ∈ be P)→StmK P n lp [.s am,.p a,.p b]
theorem AM {P:PN} {n lv:Nat} {lp:Bool} {s:Stm} (h:GoodS P lv lp s) (hl:lv≤n):StmK P n lp s:=by
 have simp':mX P lp s→StmK P n lp s:=fun h=>by
  rcases wL h with rfl | rfl | ⟨h1,w,h2,rfl⟩ | ⟨x,h2,rfl⟩ | ⟨f,_,rfl⟩ | ⟨z,x,h2,rfl⟩
  ·exact .fault
  ·exact .may
  ·exact .jump w h2 h1
  ·exact .stop x h2
  ·exact .deeper f
  ·exact .deed z x h2
 cases lv with
 | zero=>exact simp' h
 | succ lv =>
   rcases h with h | ⟨a,rfl,g1⟩ | ⟨z,a,b,hz,rfl,g1,g2⟩ | ⟨c,a,b,hcc,rfl,g1,g2⟩ | ⟨a,b,rfl,g1,g2⟩
   ·exact simp' h
   ·exact .tries a lv (by omega) g1
   ·have hz:z=bX∨z=d7∨z=aM:=by simpa [Cf] using hz
    rcases hz with rfl | rfl | rfl
    ·exact .two _ a b lv (by simp) (by omega) g1 g2
    ·exact .two _ a b lv (by simp) (by omega) g1 g2
    ·exact .guard a b lv (by omega) g1 g2
   ·exact .look c a b lv (by omega) g1 g2
   ·exact .lastly a b lv (by omega) g1 g2
section
variable {t u:HTS} {D0:HEnds} {env:aW} {S:Sto} {z y y2:Str} {ss:List Str} {tt:HTE} {c:HTT}
theorem nZ (htt:∀ (env:aW) (S:Sto) (R E:HK),R (.tup (ss.map D.str)) S→tt env S R E) (he:env[5]? = some (some (.str z))) (hz:z ∉ ss) (hu:u D0 env S):aj (bj (hB (hop gIn (hV 5) tt)) t hNx) u D0 env S:=by
 refine bZ false (fun R E r=>?_) (fun hb=>by cases hb) (fun _=>hu)
 simp only [hB,hop,hV]
 rw [he]
 exact htt _ _ _ _ (inF hz r)
theorem zM (htt:∀ (env:aW) (S:Sto) (R E:HK),R (.tup (ss.map D.str)) S→tt env S R E) (he:env[5]? = some (some (.str z))) (hz:z ∈ ss) (ht:t { D0 with nx:=u D0 } env S):aj (bj (hB (hop gIn (hV 5) tt)) t hNx) u D0 env S:=by
 refine bZ true (fun R E r=>?_) (fun _=>ht) (fun hb=>by cases hb)
 simp only [hB,hop,hV]
 rw [he]
 exact htt _ _ _ _ (inT hz r)
theorem jQ (he:env[5]? = some (some (.str z))) (hz:z ≠ y) (hu:u D0 env S):aj (bj (hB (hop gEq (hV 5) (hC (.str y)))) t hNx) u D0 env S:=by
 refine bZ false (fun R E r=>?_) (fun hb=>by cases hb) (fun _=>hu)
 simp only [hB,hop,hV,hC]
 rw [he]
 exact eqF hz r
theorem zN (he:env[5]? = some (some (.str z))) (hz:z=y) (ht:t { D0 with nx:=u D0 } env S):aj (bj (hB (hop gEq (hV 5) (hC (.str y)))) t hNx) u D0 env S:=by
 refine bZ true (fun R E r=>?_) (fun _=>ht) (fun hb=>by cases hb)
 simp only [hB,hop,hV,hC]
 rw [he]
 exact eqT hz r
theorem AN (he:env[5]? = some (some (.str z))) (hz:z ≠ y) (hz2:z ≠ y2) (hu:u D0 env S):aj (bj (hOr (hB (hop gEq (hV 5) (hC (.str y)))) (dU (hB (hop gEq (hV 5) (hC (.str y2)))) c)) t hNx) u D0 env S:=by
 refine bZ false (fun R E r=>?_) (fun hb=>by cases hb) (fun _=>hu)
 simp only [hB,hOr,dU,hop,hV,hC]
 rw [he]
 refine eqF hz ?_
 refine eqF hz2 ?_
 exact r
end
theorem DI {a b:List Gl}:(a ++ b).map glD=a.map glD ++ b.map glD:=List.map_append ..
theorem uM {a b:List Gl} {S:Sto} {Q:HK} (ha:a.length≤1000) (hb:b.length≤1000) (h:Q (glT (a ++ b)) S):cr (glT a) (glT b) S Q:=kH (by rw [List.length_map,List.length_map]; omega) (by rw [← DI]; exact h)
theorem AO (h1:dt 28=some 1:=by rfl) (h2:fQ 28=some 0:=by rfl) {n:Nat} {ds:List D} {S:Sto} {Q E:HK} (h:zK n ds S Q E):fC (hY n) mh iT (hY n) (uL n) (EN Q E) (ao 14 ds) S:=by
 obtain ⟨w,q,d,fa,ps,P,lv,lp,s,path,mood,on,st,fl,rfl,hw,hs,hlv,hpa,hmo,hon,hlen,hsz,g⟩:=h
 have onl:on.length≤1000:=by omega
 have fll:fl.length≤1000:=by have:=hlen.fl; omega
 show fC (hY n) mh iT (hY n) (uL n) (EN Q E) [some (.ref w),some (aY s),some (.tup [aU path,bp mood]),some (glT on),some (.tup [stD lp st,glT fl]),none,none,none,none,none,none,none,none,none] S
 have g0:∀ l,(bE (ah fa n) fa ps.length lp s path mood on st fl).2=[]→(bE (ah fa n) fa ps.length lp s path mood on st fl).1=l→Rt Q (glT l) S:=fun l e1 e2=>Rt.mk (by
  have:=g S []
  rw [e1,e2] at this
  exact this (Grown.refl hw.hq))
 have hd:∀ z es,s = .s z :: es→∀ {R:HK},R (.str z) S→gIx (aY s) (.int 0) S R:=fun z es e R r=>by
  subst e
  exact aF (xs:=D.str z :: entsD es) rfl (by rw [show (0:Int)=((0:Nat):Int) from rfl,ii (by show 0 < _ + 1; omega)]; rfl) r
 obtain ⟨wf1,wf2,wf3⟩:af ∉ wSAO∧bP ∉ wSAO∧aq ∉ wSAO:=by decide +kernel
 -- the word and the goals
 have start:∀ (z:Str) (es:List Ent),s = .s z :: es→∀ (u:HTS) (D0:HEnds),u D0 [some (.ref w),some (aY s),some (.tup [aU path,bp mood]),some (glT on),some (.tup [stD lp st,glT fl]),some (.str z),some (stD lp st),some (glT fl),none,none,none,none,none,none] S →
  aj (aK 5 (hop gIx (hV 1) (hC (.int 0)))) (aj (f9 (.tp [(.nm 6),(.nm 7)]) (hV 4)) u) D0 [some (.ref w),some (aY s),some (.tup [aU path,bp mood]),some (glT on),some (.tup [stD lp st,glT fl]),none,none,none,none,none,none,none,none,none] S:=fun z es e u D0 hu=>by
  refine fy (.str z) S (fun R E r=>?_) ?_
  ·simp only [hop,hV,hC,zG0,zG1]
   exact hd z es e r
  dsimp only [zS1,zS0]
  refine dC ?_
  simp only [f9,hV,bu,bindDs,zG0,zG1,zS0,zS1]
  exact hu
 -- two parts of which one is gone
 have pair:∀ (z:Str) (es:List Ent) (a b:Bdy) (m:Nat),s = .s z :: es→es.filter isP=[.p a,.p b]→m < n→(∀ x ∈ a,GoodS P m lp x)→(∀ x ∈ b,GoodS P m lp x) →
  ps.length + (ah fa n ps.length lp a (path ++ [0]) mood on st fl false ++ ah fa n (ps.length + (ah fa n ps.length lp a (path ++ [0]) mood on st fl false).length) lp b (path ++ [1]) mood on st fl false).length≤1000 →
  (∀ (S':Sto) (ps':List Addr),Grown S q ps S' ps' (ah fa n ps.length lp a (path ++ [0]) mood on st fl false ++ ah fa n (ps.length + (ah fa n ps.length lp a (path ++ [0]) mood on st fl false).length) lp b (path ++ [1]) mood on st fl false)→Q (glT [.sp ps.length,.sp (ps.length + (ah fa n ps.length lp a (path ++ [0]) mood on st fl false).length)]) S') →
  ∀ (D0:HEnds) (zd:D),D0.rt=Rt Q→(aj (aK 10 (an 1 [] iT (aa (hV 1) ae))) (aA (hcb dD (aa (hLc (dO (aa (hV 10) ae)) (.tp [(.nm 11),(.nm 12)]) fM (bG 28 6 [(.bl false)] (hY n) (hV 0) (aa (hV 12) (aa (an 2 [] mh (aa (hV 2) (aa (hV 11) ae))) (aa (hV 3) (aa (hV 4) ae))))) [11,12]) ae)))) D0 [some (.ref w),some (aY s),some (.tup [aU path,bp mood]),some (glT on),some (.tup [stD lp st,glT fl]),some zd,some (stD lp st),some (glT fl),none,none,none,none,none,none] S:=fun z es a b m e1 e2 hm ga gb hsz g D0 zd hD0=>by
  refine fy (.lst [aw a,aw b]) S (fun R E r=>?_) ?_
  ·simp only [an,aa,ae,hV,zG0,zG1]
   exact ⟨z,es,by rw [e1]; rfl,by rw [e2]; exact r⟩
  dsimp only [zS1,zS0]
  rw [List.length_append] at hsz
  simp only [aA,hcb,hLc,dO,aa,ae,hV,zG0,zG1]
  show cW _ _ _ none [.tup [.int ((0:Nat):Int),aw a],.tup [.int ((1:Nat):Int),aw b]] [] _ S _
  simp only [cW,chk,bu,bindDs,fM,bG,an,aa,ae,hV,cN,zG0,zG1,zS1,zS0]
  rw [eF hw.hw]
  dsimp only
  refine ⟨path,mood,0,rfl,by omega,?_⟩
  refine ⟨w,q,d,fa,ps,P,m,lp,a,path ++ [0],mood,on,st,fl,false,rfl,hw,ga,hm,by rw [List.length_append,List.length_singleton]; omega,by omega,hlen,by omega,fun S1 ps1 gr1=>?_⟩
  have hw1:=hw.gr gr1
  dsimp only
  rw [eF hw1.hw]
  dsimp only
  refine ⟨path,mood,1,rfl,by omega,?_⟩
  have lps:(ps ++ ps1).length=ps.length + (ah fa n ps.length lp a (path ++ [0]) mood on st fl false).length:=by rw [List.length_append,gr1.at_.1]
  refine ⟨w,q,d,fa,ps ++ ps1,P,m,lp,b,path ++ [1],mood,on,st,fl,false,rfl,hw1,gb,hm,by rw [List.length_append,List.length_singleton]; omega,by omega,hlen,by rw [lps]; omega,fun S2 ps2 gr2=>?_⟩
  rw [lps] at gr2 ⊢
  refine zA ?_
  rw [hD0]
  exact Rt.mk (g _ _ (gr1.t gr2))
 unfold fC
 cases AM hs hlv with
 | jump z hz hl =>
   obtain ⟨z1,z2,z3,z4⟩:z ∈ wSAO∧z ∈ aQ true∧z ≠ af∧z ≠ bP:=(by decide +kernel:∀ z ∈ [aH,cD],z ∈ wSAO∧z ∈ aQ true∧z ≠ af∧z ≠ bP) z hz
   refine start z [] rfl _ _ ?_
   refine zM (ss:=wSAO) (fun _ _ _ _ h=>h) rfl (by first | assumption | decide +kernel) ?_
   simp only [aA,hop,hun,hV,hC,zG0,zG1]
   refine (show gIx (aY [.s z]) (.int (-1)) S _ from aF (xs:=[.str z]) rfl rfl ?_)
   refine Ct (by rw [hl]; exact z2) ?_
   exact g0 _ (by show (if z=af then fl else if z=bP then on ++ fl else st z,([]:List SpL)).2=[]; rfl) (by show (if z=af then fl else if z=bP then on ++ fl else st z)=_; rw [if_neg z3,if_neg z4])
 | stop x hx =>
   have z1:bK ∈ wSAO:=by decide +kernel
   refine start bK [.s x] rfl _ _ ?_
   refine zM (ss:=wSAO) (fun _ _ _ _ h=>h) rfl (by first | assumption | decide +kernel) ?_
   simp only [aA,hop,hun,hV,hC,zG0,zG1]
   refine (show gIx (aY [.s bK,.s x]) (.int (-1)) S _ from aF (xs:=[.str bK,.str x]) rfl rfl ?_)
   have hxd:x ∈ aQ lp:=by
    simp only [List.mem_cons,List.not_mem_nil,or_false] at hx
    rcases hx with rfl | rfl
    ·exact (dom_words.1 lp).1
    ·exact (dom_words.1 lp).2
   refine Ct hxd ?_
   exact g0 _ rfl (by show (if bK=bK then st x else if bK=aq then on ++ (if x ∈ fa then fl else []) else on)=_; rw [if_pos rfl])
 | fault =>
   refine start af [] rfl _ _ ?_
   refine nZ (ss:=wSAO) (fun _ _ _ _ h=>h) rfl (by first | assumption | decide +kernel) ?_
   refine zN rfl rfl ?_
   simp only [aA,hV,zG0,zG1]
   exact g0 _ rfl (by show (if af=af then fl else if af=bP then on ++ fl else st af)=_; rw [if_pos rfl])
 | may =>
   have z3:bP ≠ af:=by decide +kernel
   refine start bP [] rfl _ _ ?_
   refine nZ (ss:=wSAO) (fun _ _ _ _ h=>h) rfl (by first | assumption | decide +kernel) ?_
   refine jQ rfl (by first | assumption | decide +kernel) ?_
   refine bZ true (fun R E r=>?_) (fun _=>?_) (fun hb=>by cases hb)
   ·simp only [hB,hOr,hop,hV,hC,zG0,zG1]
    exact eqT rfl r
   simp only [aA,hop,hV,zG0,zG1]
   refine uM onl fll ?_
   exact g0 _ rfl (by show (if bP=af then fl else if bP=bP then on ++ fl else st bP)=_; rw [if_neg z3,if_pos rfl])
 | deeper f =>
   obtain ⟨z2,z3,z4,z5,z6,z7,z8⟩:aq ≠ af∧aq ≠ bP∧aq ≠ aB∧aq ∉ wETL∧aq ≠ aM∧aq ≠ am∧aq ≠ bK:=by decide +kernel
   have e1:(bE (ah fa n) fa ps.length lp [.s aq,.s f] path mood on st fl).1=on ++ if f ∈ fa then fl else []:=by
    show (if aq=bK then st f else if aq=aq then on ++ (if f ∈ fa then fl else []) else on)=_
    rw [if_neg z8,if_pos rfl]
   refine start aq [.s f] rfl _ _ ?_
   refine nZ (ss:=wSAO) (fun _ _ _ _ h=>h) rfl (by first | assumption | decide +kernel) ?_
   refine jQ rfl (by first | assumption | decide +kernel) ?_
   refine bZ (decide (f ∈ fa)) (fun R E r=>?_) (fun hb=>?_) (fun hb=>?_)
   ·simp only [hB,hOr,dU,hop,hun,hV,hC,zG0,zG1]
    refine eqF z3 ?_
    dsimp only
    refine eqT rfl ?_
    dsimp only
    refine (show gIx (aY [.s aq,.s f]) (.int 1) S _ from aF (xs:=[.str aq,.str f]) rfl rfl ?_)
    refine b9 hw.hw h2 rfl ?_
    exact jn (neg:=false) hw.fa.items r
   ·simp only [aA,hop,hV,zG0,zG1]
    refine uM onl fll ?_
    exact g0 _ rfl (by rw [e1,if_pos (of_decide_eq_true hb)])
   ·refine jQ rfl (by first | assumption | decide +kernel) ?_
    refine nZ (ss:=wETL) (fun _ _ _ _ h=>h) rfl (by first | assumption | decide +kernel) ?_
    refine jQ rfl (by first | assumption | decide +kernel) ?_
    refine jQ rfl (by first | assumption | decide +kernel) ?_
    simp only [aA,hV,zG0,zG1]
    exact g0 _ rfl (by rw [e1,if_neg (of_decide_eq_false hb),List.append_nil])
 | deed z x hz =>
   obtain ⟨⟨z1,z2,z3⟩,z4,z5,z6,z7,z8⟩:=oK z hz
   refine start z [.s x] rfl _ _ ?_
   refine nZ (ss:=wSAO) (fun _ _ _ _ h=>h) rfl (by first | assumption | decide +kernel) ?_
   refine jQ rfl (by first | assumption | decide +kernel) ?_
   refine AN rfl (by first | assumption | decide +kernel) (by first | assumption | decide +kernel) ?_
   refine jQ rfl (by first | assumption | decide +kernel) ?_
   refine nZ (ss:=wETL) (fun _ _ _ _ h=>h) rfl (by first | assumption | decide +kernel) ?_
   refine jQ rfl (by first | assumption | decide +kernel) ?_
   refine jQ rfl (by first | assumption | decide +kernel) ?_
   simp only [aA,hV,zG0,zG1]
   have z9:z ≠ bK:=fun e=>z1 (by rw [e]; simp)
   exact g0 _ rfl (by show (if z=bK then st x else if z=aq then on ++ (if x ∈ fa then fl else []) else on)=_; rw [if_neg z9,if_neg z4])
 | tries a m hm ga =>
   obtain ⟨z1,z2,z3,z4⟩:aB ∉ wSAO∧aB ≠ af∧aB ≠ bP∧aB ≠ aq:=by decide +kernel
   refine start aB [.p a] rfl _ _ ?_
   refine nZ (ss:=wSAO) (fun _ _ _ _ h=>h) rfl (by first | assumption | decide +kernel) ?_
   refine jQ rfl (by first | assumption | decide +kernel) ?_
   refine AN rfl (by first | assumption | decide +kernel) (by first | assumption | decide +kernel) ?_
   refine zN rfl rfl ?_
   refine fy (.int (ps.length:Nat)) S (fun R E r=>?_) ?_
   ·simp only [hcb,hun,aa,ae,hV,zG0,zG1]
    refine b9 hw.hw h1 rfl ?_
    refine pH hw.hq ?_
    rw [List.length_map]
    exact r
   dsimp only [zS1,zS0]
   refine fz (fun x S'=>∃ r,x = .ref r∧S r=none∧S'=up S r (.dct (kvT (aQ lp) fun w=>glT (st w)))) (fun R E hR=>?_) fun x S1 ⟨r,ex,hr,eS⟩=>?_
   ·simp only [hcb,aa,ae,hV,zG0,zG1]
    exact zL fun r hr=>hR _ _ ⟨r,rfl,hr,rfl⟩
   subst ex
   subst eS
   dsimp only [zS1,zS0]
   have dl4:∀ lp,(aQ lp).length≤1000:=fun lp=>by cases lp <;> decide
   refine dC ?_
   simp only [cE,aE,hop,aa,ae,hV,hC,zG0,zG1]
   refine (show cr (glT [.sp ps.length]) (glT on) _ _ from uM (by show 1≤1000; omega) onl ?_)
   refine kJ ai (dl4 _) ?_
   rw [dI]
   refine dC ?_
   simp only [cE,hV,hC,zG0,zG1]
   have d2:∀ K:Sto→Prop,K (up S r (.dct (kvT (aQ true) fun w=>glT (if w=aH then .sp ps.length :: on else if w=cD then on else st w))))→gD (.ref r) (.str cD) (glT on) (up S r (.dct (cX (kvT (aQ lp) fun w=>glT (st w)) (.inr aH) (glT ([.sp ps.length] ++ on))))) K:=fun K k=>by
    unfold gD
    dsimp only
    rw [ai]
    dsimp only [hO]
    have l:(cX (kvT (aQ lp) fun w=>glT (st w)) (.inr aH) (glT ([.sp ps.length] ++ on))).length≤1000:=by
     cases lp with
     | true=>rw [jP dom_words.2.1,jO]; exact dl4 _
     | false=>rw [gy dom_words.2.2.2.1,jO]; decide
    rw [show Nat.ble _ 1000=true from Nat.ble_eq.mpr l]
    dsimp only
    rw [dI]
    exact (congrArg (fun z=>K (up S r (.dct z))) (Cu lp st ([.sp ps.length] ++ on) on)).mpr k
   refine d2 _ ?_
   have done:∀ (S':Sto) (ps':List Addr),Grown S q ps S' ps' (ah fa n ps.length true a (path ++ [0]) mood on (fun w=>if w=aH then .sp ps.length :: on else if w=cD then on else st w) fl true)→Rt Q (glT (.sp ps.length :: on)) S':=fun S' ps' gr=>Rt.mk (g S' ps' gr)
   refine dC ?_
   unfold c5
   simp only [zG0,zG1]
   rw [ai]
   dsimp only [zS1,zS0]
   rw [lk hr,gM,gN]
   simp only [aL,bG,an,aE,hop,aa,ae,hV,hC,zG0,zG1]
   rw [eF hw.hw]
   dsimp only
   refine (show gIx (aY [.s aB,.p a]) (.int 1) S _ from aF (xs:=[.str aB,aw a]) rfl rfl ?_)
   refine ⟨path,mood,0,rfl,by omega,?_⟩
   refine ⟨w,q,d,fa,ps,P,m,true,a,path ++ [0],mood,on,_,fl,true,rfl,hw,ga,hm,by rw [List.length_append,List.length_singleton]; omega,by omega,⟨by omega,fun w=>?_,hlen.fl⟩,hsz,fun S' ps' gr=>?_⟩
   ·show (if w=aH then _ else if w=cD then on else st w).length≤3
    split
    ·show on.length + 1≤3; omega
    ·split
     ·omega
     ·exact hlen.st w
   ·simp only [aA,aE,hop,aa,ae,hV,zG0,zG1]
    refine (show cr (glT [.sp ps.length]) (glT on) S' _ from uM (by show 1≤1000; omega) onl ?_)
    exact done S' ps' gr
 | two z a b m hz hm ga gb =>
   obtain ⟨z1,z2,z3,z4,z5,z6⟩:z ∉ wSAO∧z ≠ af∧z ≠ bP∧z ≠ aq∧z ≠ aB∧z ∈ wETL:=(by decide +kernel:∀ z ∈ [bX,d7],z ∉ wSAO∧z ≠ af∧z ≠ bP∧z ≠ aq∧z ≠ aB∧z ∈ wETL) z hz
   have hz2:z=bX∨z=d7:=by simpa using hz
   have eA:bE (ah fa n) fa ps.length lp [.s z,.p a,.p b] path mood on st fl=([.sp ps.length,.sp (ps.length + (ah fa n ps.length lp a (path ++ [0]) mood on st fl false).length)],ah fa n ps.length lp a (path ++ [0]) mood on st fl false ++ ah fa n (ps.length + (ah fa n ps.length lp a (path ++ [0]) mood on st fl false).length) lp b (path ++ [1]) mood on st fl false):=by
    unfold bE
    dsimp only
    rw [if_pos hz2]
   rw [eA] at hsz g
   refine start z [.p a,.p b] rfl _ _ ?_
   refine nZ (ss:=wSAO) (fun _ _ _ _ h=>h) rfl z1 ?_
   refine jQ rfl z2 ?_
   refine AN rfl z3 z4 ?_
   refine jQ rfl z5 ?_
   refine zM (ss:=wETL) (fun _ _ _ _ h=>h) rfl z6 ?_
   exact pair z [.p a,.p b] a b m rfl rfl hm ga gb hsz g _ _ rfl
 | look c a b m hm ga gb =>
   obtain ⟨z1,z2,z3,z4,z5,z6⟩:bw ∉ wSAO∧bw ≠ af∧bw ≠ bP∧bw ≠ aq∧bw ≠ aB∧bw ∈ wETL:=by decide +kernel
   refine start bw [.s c,.p a,.p b] rfl _ _ ?_
   refine nZ (ss:=wSAO) (fun _ _ _ _ h=>h) rfl z1 ?_
   refine jQ rfl z2 ?_
   refine AN rfl z3 z4 ?_
   refine jQ rfl z5 ?_
   refine zM (ss:=wETL) (fun _ _ _ _ h=>h) rfl z6 ?_
   exact pair bw [.s c,.p a,.p b] a b m rfl rfl hm ga gb hsz g _ _ rfl
 | guard a b m hm ga gb =>
   obtain ⟨z1,z2,z3,z4,z5,z6⟩:aM ∉ wSAO∧aM ≠ af∧aM ≠ bP∧aM ≠ aq∧aM ≠ aB∧aM ∉ wETL:=by decide +kernel
   have z7:¬ (aM=bX∨aM=d7):=by decide +kernel
   have eA:bE (ah fa n) fa ps.length lp [.s aM,.p a,.p b] path mood on st fl=([.sp (ps.length + (ah fa n ps.length lp b (path ++ [1]) mood on st fl false).length)],ah fa n ps.length lp b (path ++ [1]) mood on st fl false ++ ah fa n (ps.length + (ah fa n ps.length lp b (path ++ [1]) mood on st fl false).length) lp a (path ++ [0]) mood on st [.sp ps.length] false):=by
    unfold bE
    dsimp only
    rw [if_neg z7,if_pos rfl]
   rw [eA] at hsz g
   dsimp only at hsz
   rw [List.length_append] at hsz
   refine start aM [.p a,.p b] rfl _ _ ?_
   refine nZ (ss:=wSAO) (fun _ _ _ _ h=>h) rfl z1 ?_
   refine jQ rfl z2 ?_
   refine AN rfl z3 z4 ?_
   refine jQ rfl z5 ?_
   refine nZ (ss:=wETL) (fun _ _ _ _ h=>h) rfl z6 ?_
   refine zN rfl rfl ?_
   refine fz (fun x S'=>∃ ps',x = .int (ps.length:Nat)∧Grown S q ps S' ps' (ah fa n ps.length lp b (path ++ [1]) mood on st fl false)) (fun R E hR=>?_) fun x S1 ⟨ps1,ex,gr1⟩=>?_
   ·simp only [bG,an,hop,aa,ae,hV,hC,zG0,zG1]
    rw [eF hw.hw]
    dsimp only
    refine (show gIx (aY [.s aM,.p a,.p b]) (.int 2) S _ from aF (xs:=[.str aM,aw a,aw b]) rfl rfl ?_)
    refine ⟨path,mood,1,rfl,by omega,?_⟩
    exact ⟨w,q,d,fa,ps,P,m,lp,b,path ++ [1],mood,on,st,fl,false,rfl,hw,gb,hm,by rw [List.length_append,List.length_singleton]; omega,by omega,hlen,by omega,fun S' ps' gr=>hR _ _ ⟨ps',rfl,gr⟩⟩
   subst ex
   dsimp only [zS1,zS0]
   have hw1:=hw.gr gr1
   simp only [aA,bG,an,aE,hop,aa,ae,hV,hC,zG0,zG1]
   rw [eF hw1.hw]
   dsimp only
   refine (show gIx (aY [.s aM,.p a,.p b]) (.int 1) S1 _ from aF (xs:=[.str aM,aw a,aw b]) rfl rfl ?_)
   refine ⟨path,mood,0,rfl,by omega,?_⟩
   have lps:(ps ++ ps1).length=ps.length + (ah fa n ps.length lp b (path ++ [1]) mood on st fl false).length:=by rw [List.length_append,gr1.at_.1]
   refine ⟨w,q,d,fa,ps ++ ps1,P,m,lp,a,path ++ [0],mood,on,st,[.sp ps.length],false,rfl,hw1,ga,hm,by rw [List.length_append,List.length_singleton]; omega,by omega,⟨hlen.on,hlen.st,by show 1≤3; omega⟩,by rw [lps]; omega,fun S2 ps2 gr2=>?_⟩
   rw [lps] at gr2 ⊢
   exact Rt.mk (g _ _ (gr1.t gr2))
 | lastly a b m hm ga gb =>
   obtain ⟨z1,z2,z3,z4,z5,z6,z7⟩:am ∉ wSAO∧am ≠ af∧am ≠ bP∧am ≠ aq∧am ≠ aB∧am ∉ wETL∧am ≠ aM:=by decide +kernel
   refine start am [.p a,.p b] rfl _ _ ?_
   refine nZ (ss:=wSAO) (fun _ _ _ _ h=>h) rfl z1 ?_
   refine jQ rfl z2 ?_
   refine AN rfl z3 z4 ?_
   refine jQ rfl z5 ?_
   refine nZ (ss:=wETL) (fun _ _ _ _ h=>h) rfl z6 ?_
   refine jQ rfl z7 ?_
   refine zN rfl rfl ?_
   simp only [aA,bG,aa,ae,hV,zG0,zG1]
   rw [eF hw.hw]
   exact ⟨w,q,d,fa,ps,P,m,lp,a,b,path,mood,on,st,fl,rfl,hw,ga,gb,hm,hpa,hmo,hon,hlen,hsz,fun S' ps' gr=>Rt.mk (g S' ps' gr)⟩
theorem FS {S:Sto} {r r2:Addr} {m m2:M} (h:S r=none) (hn:r2 ≠ r):dl (up (up S r m) r2 m2) r=up S r2 m2:=by
 funext b
 by_cases e:b=r
 ·subst e
  rw [iI,ar (Ne.symm hn),h]
 ·rw [fR e]
  by_cases e2:b=r2
  ·subst e2
   rw [ai,ai]
  ·rw [ar e2,ar e2,ar e]
theorem n3 {kvs:List (Key × D)} {k:Key} {v:D} (h:∀ kv ∈ kvs,kv.1 ≠ k):cX kvs k v=kvs ++ [(k,v)]:=by
 unfold cX
 rw [if_neg]
 intro e
 obtain ⟨kv,h1,h2⟩:=List.any_eq_true.mp e
 exact h kv h1 (of_decide_eq_true h2)
def kvP (l:List (Str × Nat)):List (Key × D):=l.map fun z=>((Sum.inr z.1:Key),glT [.sp z.2])
theorem zO {w:Str}:∀ l:List (Str × Nat),w ∈ l.map (·.1)→gh (kvP l) (.inr w)=some (glT [.sp (eJ l w)])
 | [],h=>by cases h
 | (x,k) :: l,h=>by
   by_cases e:x=w
   ·subst e
    unfold gh kvP eJ
    rw [List.map_cons,List.find?_cons,decide_eq_true rfl,List.find?_cons,decide_eq_true rfl]
    rfl
   ·have ih:=zO l ((List.mem_cons.mp h).resolve_left fun q=>e q.symm)
    unfold gh kvP eJ at ih ⊢
    rw [List.map_cons,List.find?_cons,decide_eq_false (by intro q; cases q; exact e rfl),List.find?_cons,decide_eq_false e]
    exact ih
theorem Cv {S:Sto} {r:Addr} {kvs:List (Key × D)} {w:Str} {d:D} {Q:HK} (hr:S r=some (.dct kvs)) (e:gh kvs (.inr w)=some d) (h:Q d S):fB (.ref r) (.str w) S Q:=by
 unfold fB
 dsimp only
 rw [hr]
 dsimp only [hO]
 rw [e]
 exact h
theorem qK {f:Str→D} {kvs:List (Key × D)} {r2:Addr} {env:aW} {S:Sto} {Q:HK} (hl:env.length=14) (he:env[10]? = some (some (.ref r2))) (hr:S r2=some (.dct kvs)):∀ (ws done:List Str),(∀ w ∈ ws,gh kvs (.inr w)=some (f w))→(done ++ ws).Nodup→(done ++ ws).length≤1000 →
 (∀ r,S r=none→Q (.ref r) (up S r (.dct (kvT (done ++ ws) f))))→iW (.nm 12) (hV 12) (hop fB (hV 10) (hV 12)) none (ws.map D.str) (kvT done f) env S Q
 | [],done,_,_,_,g=>by
   rw [List.append_nil] at g
   exact g
 | w :: ws,done,hv,nd,hz,g=>by
   have ih:=qK hl he hr ws (done ++ [w]) (fun x hx=>hv x (zMt hx)) (by rw [List.append_assoc]; exact nd) (by rw [List.append_assoc]; exact hz) (Q:=Q) (by rw [List.append_assoc]; exact g)
   have hw:w ∉ done:=fun hm=>by
    have:=(List.nodup_append.mp nd).2.2 w hm w zMs
    exact this rfl
   have e12:(env.set 12 (some (.str w)))[12]? = some (some (.str w)):=List.getElem?_set_self (by omega)
   have e10:(env.set 12 (some (.str w)))[10]? = some (some (.ref r2)):=by rw [List.getElem?_set_ne (by decide)]; exact he
   show (match bu (.nm 12) (D.str w) env with
    | some env1=>hV 12 env1 S (fun y S1=>hop fB (hV 10) (hV 12) env1 S1 (fun z S2=>(kvT done f).length≤1000000∧match hO y with
      | some kk=>iW (.nm 12) (hV 12) (hop fB (hV 10) (hV 12)) none (ws.map D.str) (cX (kvT done f) kk z) env S2 Q
      | none=>False) fun _ _=>False) fun _ _=>False
    | none=>False)
   simp only [bu,hop,hV]
   rw [e12,e10]
   dsimp only
   refine Cv hr (hv w zMs) ?_
   refine ⟨?_,?_⟩
   ·rw [jO]
    rw [List.length_append] at hz
    omega
   ·show iW (.nm 12) (hV 12) (hop fB (hV 10) (hV 12)) none (ws.map D.str) (cX (kvT done f) (.inr w) (f w)) env S Q
    rw [gy hw,show kvT (done ++ [w]) (fun x=>if x=w then f w else f x)=kvT (done ++ [w]) f from ?_]
    ·exact ih
    ·unfold kvT
     refine List.map_congr_left fun x _=>?_
     show ((Sum.inr x:Key),if x=w then f w else f x)=(Sum.inr x,f x)
     by_cases e:x=w
     ·rw [if_pos e,e]
     ·rw [if_neg e]
abbrev wsL (lp:Bool):List Str:=aQ lp ++ [wOn] ++ [af]
theorem FT:∀ lp,(wsL lp).Nodup∧(wsL lp).length≤6∧wOn ∈ wsL lp∧af ∈ wsL lp∧(∀ w ∈ aQ lp,w ∈ wsL lp)∧(aQ lp).Nodup:=fun lp=>by cases lp <;> decide +kernel
theorem Cw (lp:Bool) (st:ce) (on fl:List Gl):cX (cX (kvT (aQ lp) fun w=>glT (st w)) (.inr wOn) (glT on)) (.inr af) (glT fl)=kvT (wsL lp) fun w=>glT (aV on st fl w):=by
 obtain ⟨_,_,_,_,_,_,_,a7,a8⟩:=dom_words
 have ef:(fun x:Str=>if x=af then glT fl else if x=wOn then glT on else glT (st x))=fun w=>glT (aV on st fl w):=by
  funext x
  unfold aV
  by_cases h1:x=af
  ·rw [if_pos h1,if_neg (by rw [h1]; exact a8),if_pos h1]
  ·rw [if_neg h1]
   by_cases h2:x=wOn
   ·rw [if_pos h2,if_pos h2]
   ·rw [if_neg h2,if_neg h2,if_neg h1]
 rw [gy (a7 lp).1,gy (a7 lp).2,ef]
theorem yx (h1:dt 28=some 1:=by rfl) {n:Nat} {ds:List D} {S:Sto} {Q E:HK} (h:uL n ds S Q E):c6 mh (hY n) (EN Q E) (ao 14 ds) S:=by
 obtain ⟨w,q,d,fa,ps,P,lv,lp,a,b,path,mood,on,st,fl,rfl,hw,ga,gb,hlv,hpa,hmo,hon,hlen,hsz,g⟩:=h
 have hwq:=hw.ne
 obtain ⟨nd,wl6,wOnM,wFaM,wDM,ndD⟩:=FT lp
 have eL0:∃ L,L=bC (ah fa n) lp b (path ++ [1]) mood on st fl (wsL lp) ps.length:=⟨_,rfl⟩
 obtain ⟨L,hL⟩:=eL0
 have eA:bE (ah fa n) fa ps.length lp [.s am,.p a,.p b] path mood on st fl=([.sp (ps.length + L.2.length)],L.2 ++ ah fa n (ps.length + L.2.length) lp a (path ++ [0]) mood [.sp (eJ L.1 wOn)] (fun w=>[.sp (eJ L.1 w)]) [.sp (eJ L.1 af)] false):=by
  have z1:¬ (am=bX∨am=d7):=by decide +kernel
  have z2:am ≠ aM:=by decide +kernel
  have z3:aQ lp ++ [wOn,af]=wsL lp:=by rw [show wsL lp=aQ lp ++ [wOn] ++ [af] from rfl,List.append_assoc]; rfl
  unfold bE
  dsimp only
  rw [if_neg z1,if_neg z2,z3,← hL]
 rw [eA] at hsz g
 dsimp only at hsz g
 rw [List.length_append] at hsz
 show c6 mh (hY n) (EN Q E) [some (.ref w),some (aY [.s am,.p a,.p b]),some (.tup [aU path,bp mood]),some (glT on),some (.tup [stD lp st,glT fl]),none,none,none,none,none,none,none,none,none] S
 unfold c6
 refine dC ?_
 simp only [f9,hV,bu,bindDs,zG0,zG1,zS0,zS1]
 refine fz (fun x S'=>∃ r,x = .ref r∧S r=none∧S'=up S r (.dct (kvT (aQ lp) fun w=>glT (st w)))) (fun R E hR=>?_) fun x S1 ⟨r,ex,hr,eS⟩=>?_
 ·simp only [hcb,aa,ae,hV,zG0,zG1]
  exact zL fun r hr=>hR _ _ ⟨r,rfl,hr,rfl⟩
 subst ex
 subst eS
 dsimp only [zS1,zS0]
 have dl4:∀ lp,(aQ lp).length≤4:=fun lp=>by cases lp <;> decide
 refine dC ?_
 simp only [cE,hV,hC,zG0,zG1]
 refine kJ ai (Nat.le_trans (dl4 _) (by decide)) ?_
 rw [dI]
 refine dC ?_
 simp only [cE,hV,hC,zG0,zG1]
 have d2:∀ K:Sto→Prop,K (up S r (.dct (kvT (wsL lp) fun w=>glT (aV on st fl w))))→gD (.ref r) (.str af) (glT fl) (up S r (.dct (cX (kvT (aQ lp) fun w=>glT (st w)) (.inr wOn) (glT on)))) K:=fun K k=>by
  unfold gD
  dsimp only
  rw [ai]
  dsimp only [hO]
  have l:(cX (kvT (aQ lp) fun w=>glT (st w)) (.inr wOn) (glT on)).length≤1000:=by
   rw [gy (dom_words.2.2.2.2.2.2.2.1 lp).1,jO,List.length_append,List.length_singleton]
   have:=dl4 lp
   omega
  rw [show Nat.ble _ 1000=true from Nat.ble_eq.mpr l]
  dsimp only
  rw [dI]
  exact (congrArg (fun z=>K (up S r (.dct z))) (Cw lp st on fl)).mpr k
 refine d2 _ ?_
 clear d2
 refine dC ?_
 simp only [f9,an,aa,ae,hV,hC,zG0,zG1]
 refine ⟨path,mood,1,rfl,by omega,?_⟩
 simp only [bu,bindDs,zS0,zS1]
 refine fz (fun x S'=>∃ r2,x = .ref r2∧S r2=none∧r2 ≠ r∧S'=up (up S r (.dct (kvT (wsL lp) fun w=>glT (aV on st fl w)))) r2 (.dct [])) (fun R E hR=>?_) fun x S1 ⟨r2,ex,hr2,hrr,eS⟩=>?_
 ·simp only [jX]
  intro r2 h2
  have hrr:r2 ≠ r:=fun e=>by rw [e,ai] at h2; cases h2
  rw [ar hrr] at h2
  exact hR _ _ ⟨r2,rfl,h2,hrr,rfl⟩
 subst ex
 subst eS
 dsimp only [zS1,zS0]
 have hqr2:r2 ≠ q:=fun e=>by rw [e,hw.hq] at hr2; cases hr2
 -- the second block, for each way on
 refine gE (fun env S'=>∃ (ps':List Addr) (x11:Option D),env=[some (.ref w),some (aY [.s am,.p a,.p b]),some (.tup [aU path,bp mood]),some (glT on),some (.tup [stD lp st,glT fl]),some (stD lp st),some (glT fl),some (.dkz ((wsL lp).map Sum.inr) ((wsL lp).map fun w=>glT (aV on st fl w))),some (aU (path ++ [1])),some (bp mood),some (.ref r2),x11,none,none]∧Grown S q ps S' ps' L.2∧S' r2=some (.dct (kvP L.1))∧L.1.map (·.1)=wsL lp) (fun D1 hD=>?_) fun env S1 ⟨ps1,x11,ee,gr1,hr1,hk1⟩=>?_
 ·unfold c5
  simp only [zG0,zG1]
  rw [ar (Ne.symm hrr),ai]
  dsimp only [zS1,zS0]
  rw [FS hr hrr,gM,gN]
  simp only [cC,vr,hV,zG0,zG1]
  refine ⟨by rw [List.length_map]; omega,?_⟩
  rw [List.map_map]
  have kd:(kdD ∘ (Sum.inr:Str→Key))=D.str:=rfl
  rw [kd]
  refine c7 (I:=fun i e S'=>∃ (ps':List Addr) (d1:List (Str × Nat)) (d2:List SpL) (x11:Option D),e=[some (.ref w),some (aY [.s am,.p a,.p b]),some (.tup [aU path,bp mood]),some (glT on),some (.tup [stD lp st,glT fl]),some (stD lp st),some (glT fl),some (.dkz ((wsL lp).map Sum.inr) ((wsL lp).map fun w=>glT (aV on st fl w))),some (aU (path ++ [1])),some (bp mood),some (.ref r2),x11,none,none]∧d1.map (·.1)=(wsL lp).take i∧Grown S q ps S' ps' d2∧S' r2=some (.dct (kvP d1))∧L.1=d1 ++ (bC (ah fa n) lp b (path ++ [1]) mood on st fl ((wsL lp).drop i) (ps.length + d2.length)).1∧L.2=d2 ++ (bC (ah fa n) lp b (path ++ [1]) mood on st fl ((wsL lp).drop i) (ps.length + d2.length)).2) _ (fun i d0 e S2 hdi ⟨ps2,d1,d2,x11,ee,hd1,gr2,hr2',e1,e2⟩=>?_) (fun e S2 ⟨ps2,d1,d2,x11,ee,hd1,gr2,hr2',e1,e2⟩=>?_) ⟨[],[],[],none,rfl,rfl,⟨?_,.nil,fun a m ha e=>?_,fun p h=>(by cases h)⟩,ai,hL ▸ rfl,hL ▸ rfl⟩
  ·subst ee
   rw [List.getElem?_map] at hdi
   obtain ⟨z,hz,rfl⟩:=Option.map_eq_some_iff.mp hdi
   have hi:=(List.getElem?_eq_some_iff.mp hz).1
   have hzm:=List.mem_of_getElem? hz
   refine ⟨_,rfl,fun K hK=>?_⟩
   simp only [zS1,zS0]
   have ed:(wsL lp).drop i=z :: (wsL lp).drop (i + 1):=by
    rw [List.drop_eq_getElem_cons hi,(List.getElem?_eq_some_iff.mp hz).2]
   rw [ed] at e1 e2
   have ez0:∃ A,A=ah fa n (ps.length + d2.length) lp b (path ++ [1]) (mood ++ [z]) (aV on st fl z) st fl false:=⟨_,rfl⟩
   obtain ⟨A,hA⟩:=ez0
   have e1:L.1=d1 ++ ((z,ps.length + d2.length) :: (bC (ah fa n) lp b (path ++ [1]) mood on st fl ((wsL lp).drop (i + 1)) (ps.length + d2.length + A.length)).1):=by rw [hA]; exact e1
   have e2:L.2=d2 ++ (A ++ (bC (ah fa n) lp b (path ++ [1]) mood on st fl ((wsL lp).drop (i + 1)) (ps.length + d2.length + A.length)).2):=by rw [hA]; exact e2
   have hw2:=hw.gr gr2
   have lps:(ps ++ ps2).length=ps.length + d2.length:=by rw [List.length_append,gr2.at_.1]
   simp only [cE,aE,av,bG,hop,aa,ae,hV,hC,zG0,zG1]
   rw [eF hw2.hw]
   dsimp only
   refine (show gIx (aY [.s am,.p a,.p b]) (.int 2) S2 _ from aF (xs:=[.str am,aw a,aw b]) rfl rfl ?_)
   refine (show bb (bp mood) (.tps [.str z]) S2 _ from gj (by rw [List.length_map,List.length_singleton]; omega) ?_)
   rw [show mood.map D.str ++ [D.str z]=(mood ++ [z]).map D.str by rw [List.map_append]; rfl]
   refine (show cQ (.dkz ((wsL lp).map Sum.inr) ((wsL lp).map fun w=>glT (aV on st fl w))) (.str z) S2 _ from ?_)
   have gz:∀ R:HK,R (glT (aV on st fl z)) S2→cQ (.dkz ((wsL lp).map Sum.inr) ((wsL lp).map fun w=>glT (aV on st fl w))) (.str z) S2 R:=fun R r=>by
    show (match gh (((wsL lp).map (Sum.inr:Str→Key)).zip ((wsL lp).map fun w=>glT (aV on st fl w))) (.inr z) with
     | some d=>R d S2
     | none=>False)
    rw [kX,pO _ _ hzm]
    exact r
   refine gz _ ?_
   refine ⟨w,q,d,fa,ps ++ ps2,P,0,lp,b,path ++ [1],mood ++ [z],aV on st fl z,st,fl,false,rfl,hw2,fun x hx=>GoodS.simp (.inl (gb x hx)),by omega,by rw [List.length_append,List.length_singleton]; omega,by rw [List.length_append,List.length_singleton]; omega,⟨?_,hlen.st,hlen.fl⟩,?_,fun S3 ps3 gr3=>?_⟩
   ·unfold aV
    split
    ·omega
    ·split
     ·exact hlen.fl
     ·exact hlen.st z
   ·rw [lps,← hA]
    have:=congrArg List.length e2
    rw [List.length_append,List.length_append] at this
    omega
   rw [lps,← hA] at gr3
   rw [lps]
   have hr3:S3 r2=some (.dct (kvP d1)):=gr3.keep r2 _ hqr2 hr2'
   have zn:∀ kv ∈ kvP d1,kv.1 ≠ (Sum.inr z:Key):=fun kv hkv e=>by
    obtain ⟨x,hx,rfl⟩:=List.mem_map.mp hkv
    have ex:x.1=z:=by injection e
    have hm:x.1 ∈ (wsL lp).take i:=by rw [← hd1]; exact List.mem_map.mpr ⟨x,hx,rfl⟩
    rw [ex] at hm
    obtain ⟨j,hj⟩:=List.mem_iff_getElem?.mp hm
    rw [List.getElem?_take] at hj
    split at hj
    ·have:=(List.getElem?_inj hi nd).mp (hz.trans hj.symm)
     omega
    ·cases hj
   have d1l:d1.length≤1000:=by
    have:=congrArg List.length hd1
    rw [List.length_map,List.length_take] at this
    omega
   refine (show gD (.ref r2) (.str z) (glT [.sp (ps.length + d2.length)]) S3 _ from ?_)
   unfold gD
   dsimp only
   rw [hr3]
   dsimp only [hO]
   rw [show Nat.ble (kvP d1).length 1000=true from Nat.ble_eq.mpr (by unfold kvP; rw [List.length_map]; exact d1l)]
   dsimp only
   rw [n3 zn]
   have gr4:=gr2.t gr3
   refine hK _ _ ⟨ps2 ++ ps3,d1 ++ [(z,ps.length + d2.length)],d2 ++ A,_,rfl,?_,⟨?_,gr4.at_.keep fun p hp=>ar fun e=>?_,fun x m hx e=>?_,gr4.fresh⟩,?_,?_,?_⟩
   ·rw [List.map_append,hd1,List.take_succ,hz]
    rfl
   ·rw [ar (Ne.symm hqr2)]
    exact gr4.hq
   ·obtain ⟨j,hj⟩:=List.mem_iff_getElem?.mp hp
    have hjl:=(List.getElem?_eq_some_iff.mp hj).1
    have:=gr4.at_.2 j _ p (List.getElem?_eq_getElem (by rw [← gr4.at_.1]; exact hjl)) hj
    rw [e,hr3] at this
    cases this
   ·rw [ar (sne e hr2)]
    exact gr4.keep x m hx e
   ·rw [ai]
    unfold kvP
    rw [List.map_append]
    rfl
   ·rw [e1,List.append_assoc,List.length_append,← Nat.add_assoc]
    rfl
   ·rw [e2,List.append_assoc,List.length_append,← Nat.add_assoc]
  ·rw [ar (Ne.symm hqr2),List.append_nil]
   exact hw.hq
  ·rw [ar (sne e hr2)]
   exact e
  ·subst ee
   rw [List.length_map] at hd1 e1 e2
   rw [List.drop_length] at e1 e2
   have e1:L.1=d1 ++ []:=e1
   have e2:L.2=d2 ++ []:=e2
   rw [List.append_nil] at e1 e2
   rw [List.take_length] at hd1
   rw [← e2] at gr2
   rw [← e1] at hr2' hd1
   exact hD _ _ ⟨ps2,_,rfl,gr2,hr2',hd1⟩
 subst ee
 have vk:∀ x ∈ wsL lp,gh (kvP L.1) (.inr x)=some (glT [.sp (eJ L.1 x)]):=fun x hx=>zO L.1 (by rw [hk1]; exact hx)
 refine fy (.tup [stD lp (fun x=>[.sp (eJ L.1 x)]),glT [.sp (eJ L.1 af)]]) S1 (fun R E r=>?_) ?_
 ·simp only [aE,Fr,xJ,vr,aa,ae,hop,hV,hC,zG0,zG1]
  refine (show ((aQ lp).map (Sum.inr:Str→Key)).length≤1000000∧_ from ⟨by rw [List.length_map]; have:=dl4 lp; omega,?_⟩)
  rw [List.map_map]
  refine (show iW (.nm 12) (hV 12) (hop fB (hV 10) (hV 12)) none ((aQ lp).map D.str) (kvT [] fun x=>glT [.sp (eJ L.1 x)]) _ S1 _ from qK (kvs:=kvP L.1) (r2:=r2) rfl rfl hr1 (aQ lp) [] (fun x hx=>vk x (wDM x hx)) ndD (by have:=dl4 lp; show (aQ lp).length≤1000; omega) fun r3 h3=>?_)
  dsimp only
  rw [ai]
  dsimp only
  rw [lk h3,gM,gN]
  refine Cv hr1 (vk af wFaM) ?_
  exact r
 dsimp only [zS1,zS0]
 have hw1:=hw.gr gr1
 have lps:(ps ++ ps1).length=ps.length + L.2.length:=by rw [List.length_append,gr1.at_.1]
 simp only [aA,aE,bG,an,hop,aa,ae,hV,hC,zG0,zG1]
 rw [eF hw1.hw]
 dsimp only
 refine (show gIx (aY [.s am,.p a,.p b]) (.int 1) S1 _ from aF (xs:=[.str am,aw a,aw b]) rfl rfl ?_)
 refine ⟨path,mood,0,rfl,by omega,?_⟩
 refine Cv hr1 (vk wOn wOnM) ?_
 refine ⟨w,q,d,fa,ps ++ ps1,P,lv,lp,a,path ++ [0],mood,[.sp (eJ L.1 wOn)],fun x=>[.sp (eJ L.1 x)],[.sp (eJ L.1 af)],false,rfl,hw1,ga,hlv,by rw [List.length_append,List.length_singleton]; omega,by omega,⟨by show 1≤3; omega,fun x=>(by show 1≤3; omega),by show 1≤3; omega⟩,by rw [lps]; omega,fun S2 ps2 gr2=>?_⟩
 rw [lps] at gr2 ⊢
 exact Rt.mk (g _ _ (gr1.t gr2))
def qL (P:PN) (A:Gl→Prop) (s:SpL):Prop:=(∀ g ∈ s.nx,A g)∧s.nx.length≤4∧∀ t,s.stm=some t→∃ lv lp,GoodS P lv lp t
structure NxA (A:Gl→Prop) (lp:Bool) (on_:List Gl) (st_:ce) (fl_:List Gl):Prop where
 on:∀ g ∈ on_,A g
 st:∀ w ∈ aQ lp,∀ g ∈ st_ w,A g
 fl:∀ g ∈ fl_,A g
 lon:on_.length≤3
 lst:∀ w,(st_ w).length≤3
 lfl:fl_.length≤3
def Rng (A:Gl→Prop) (k l:Nat):Prop:=∀ m,k≤m→m < k + l→A (.sp m)
theorem Rng.sub {A:Gl→Prop} {k l k' l':Nat} (h:Rng A k l) (h1:k≤k') (h2:k' + l'≤k + l):Rng A k' l':=fun m a b=>h m (by omega) (by omega)
def DJ (P:PN) (fa:List Str) (A:Gl→Prop) (n:Nat):Prop:=∀ (k:Nat) (lp:Bool) (b:Bdy) (path:List Nat) (mood:List Str) (on:List Gl) (st:ce) (fl:List Gl) (loop:Bool) (lv:Nat),(∀ x ∈ b,GoodS P lv lp x)→lv < n →
 (ah fa n k lp b path mood on st fl loop).length≤1 + 8 * cntB b∧1≤(ah fa n k lp b path mood on st fl loop).length∧(Rng A k (ah fa n k lp b path mood on st fl loop).length→NxA A lp on st fl→∀ s ∈ ah fa n k lp b path mood on st fl loop,qL P A s)
theorem Cy {P:PN} {lay:yu} {fa:List Str} {k:Nat} {lp:Bool} {s:Stm} {path:List Nat} {mood:List Str} {on:List Gl} {st:ce} {fl:List Gl} (h:s ∈ be P):bE lay fa k lp s path mood on st fl=(on,[]):=by
 obtain ⟨w,x,rfl,hd⟩:=mb h
 have hz:w ∈ iY ++ m7 ++ [fo]:=by
  rcases hd with h | h | h
  ·exact List.mem_append_left _ (List.mem_append_left _ h.1)
  ·exact List.mem_append_left _ (List.mem_append_right _ h.1)
  ·exact List.mem_append_right _ (by rw [h]; simp)
 obtain ⟨z1,z2⟩:=two_kinds.1 w hz
 show (if w=bK then st x else if w=aq then on ++ (if x ∈ fa then fl else []) else on,([]:List SpL))=_
 rw [if_neg z1,if_neg z2]
theorem oL {P:PN} {lay:yu} {fa:List Str} {k:Nat} {lp:Bool} {path:List Nat} {mood:List Str} {st:ce} {fl:List Gl}:∀ (b:Bdy) (i L:Nat),(∀ x ∈ b,x ∈ be P)→(bx lay fa k lp path mood st fl b i L).2=[]
 | [],_,_,_=>rfl
 | s :: b,i,L,h=>by
   show (bE lay fa L lp s (path ++ [i]) mood [.sp (k + i + 1)] st fl).2 ++ _=[]
   rw [Cy (h s zMs)]
   exact oL b (i + 1) _ fun x hx=>h x (zMt hx)
theorem yy {P:PN} {fa:List Str} {n k:Nat} {lp:Bool} {b:Bdy} {path:List Nat} {mood:List Str} {on:List Gl} {st:ce} {fl:List Gl} (h:∀ x ∈ b,x ∈ be P):(ah fa (n + 1) k lp b path mood on st fl false).length=b.length + 1:=by
 show ((bx (ah fa n) fa k lp path mood st fl b 0 (k + b.length + 1)).1 ++ ⟨path ++ [b.length],mood,none,(if false then [.sp k] else []) ++ on⟩ :: (bx (ah fa n) fa k lp path mood st fl b 0 (k + b.length + 1)).2).length=_
 rw [oL b _ _ h,List.length_append,jm]
 rfl
theorem n4 {P:PN}:∀ b:Bdy,(∀ x ∈ b,x ∈ be P)→cntB b=b.length
 | [],_=>rfl
 | s :: b,h=>by
   obtain ⟨w,x,rfl⟩:=jg (h s zMs)
   have:=n4 b fun x hx=>h x (zMt hx)
   show 1 + (0 + (0 + 0)) + cntB b=b.length + 1
   omega
theorem zP {w x:Str} {k:Nat} {l:List (Str × Nat)}:eJ ((x,k) :: l) w=if x=w then k else eJ l w:=by
 unfold eJ
 rw [List.find?_cons]
 by_cases e:x=w
 ·rw [decide_eq_true e,if_pos e]
  rfl
 ·rw [decide_eq_false e,if_neg e]
theorem oM {P:PN} {fa:List Str} {A:Gl→Prop} {n:Nat} (ih:DJ P fa A (n + 1)) {lp:Bool} {b:Bdy} {path:List Nat} {mood:List Str} {on:List Gl} {st:ce} {fl:List Gl} (hb:∀ x ∈ b,x ∈ be P):∀ (ws:List Str) (k:Nat),
 (bC (ah fa (n + 1)) lp b path mood on st fl ws k).2.length=ws.length * (b.length + 1)∧(∀ w ∈ ws,k≤eJ (bC (ah fa (n + 1)) lp b path mood on st fl ws k).1 w∧eJ (bC (ah fa (n + 1)) lp b path mood on st fl ws k).1 w < k + (bC (ah fa (n + 1)) lp b path mood on st fl ws k).2.length) ∧
 (Rng A k (bC (ah fa (n + 1)) lp b path mood on st fl ws k).2.length→NxA A lp on st fl→(∀ w ∈ ws,(aV on st fl w).length≤3∧∀ g ∈ aV on st fl w,A g)→∀ s ∈ (bC (ah fa (n + 1)) lp b path mood on st fl ws k).2,qL P A s)
 | [],k=>⟨(Nat.zero_mul _).symm,fun w hw=>(by cases hw),fun _ _ _ s hs=>(by cases hs)⟩
 | w0 :: ws,k=>by
   have gd:∀ x ∈ b,GoodS P 0 lp x:=fun x hx=>GoodS.simp (.inl (hb x hx))
   have l0:=yy (P:=P) (fa:=fa) (n:=n) (k:=k) (lp:=lp) (path:=path) (mood:=mood ++ [w0]) (on:=aV on st fl w0) (st:=st) (fl:=fl) hb
   obtain ⟨i1,i2,i3⟩:=ih k lp b path (mood ++ [w0]) (aV on st fl w0) st fl false 0 gd (Nat.zero_lt_succ _)
   obtain ⟨j1,j2,j3⟩:=oM ih (path:=path) (mood:=mood) (on:=on) (st:=st) (fl:=fl) hb ws (k + (ah fa (n + 1) k lp b path (mood ++ [w0]) (aV on st fl w0) st fl false).length)
   have e:bC (ah fa (n + 1)) lp b path mood on st fl (w0 :: ws) k=((w0,k) :: (bC (ah fa (n + 1)) lp b path mood on st fl ws (k + (ah fa (n + 1) k lp b path (mood ++ [w0]) (aV on st fl w0) st fl false).length)).1,ah fa (n + 1) k lp b path (mood ++ [w0]) (aV on st fl w0) st fl false ++ (bC (ah fa (n + 1)) lp b path mood on st fl ws (k + (ah fa (n + 1) k lp b path (mood ++ [w0]) (aV on st fl w0) st fl false).length)).2):=rfl
   rw [e]
   dsimp only
   generalize bC (ah fa (n + 1)) lp b path mood on st fl ws (k + (ah fa (n + 1) k lp b path (mood ++ [w0]) (aV on st fl w0) st fl false).length)=r at j1 j2 j3
   generalize ah fa (n + 1) k lp b path (mood ++ [w0]) (aV on st fl w0) st fl false=sg at *
   rw [List.length_append]
   refine ⟨?_,fun w hw=>?_,fun h1 h2 h3 s hs=>?_⟩
   ·rw [l0,j1,List.length_cons,Nat.succ_mul]
    omega
   ·rw [zP]
    by_cases ew:w0=w
    ·rw [if_pos ew]
     omega
    ·rw [if_neg ew]
     have:=j2 w ((List.mem_cons.mp hw).resolve_left fun q=>ew q.symm)
     omega
   ·rcases List.mem_append.mp hs with hs | hs
    ·exact i3 (h1.sub zNr (by omega)) ⟨(h3 w0 zMs).2,h2.st,h2.fl,(h3 w0 zMs).1,h2.lst,h2.lfl⟩ s hs
    ·exact j3 (h1.sub (by omega) (by omega)) h2 (fun w hw=>h3 w (zMt hw)) s hs
theorem DK:∀ lp,(aQ lp ++ [wOn,af]).length≤6:=fun lp=>by cases lp <;> decide
theorem AP {P:PN} {fa:List Str} {A:Gl→Prop} {n:Nat} (ih:DJ P fa A n) {k:Nat} {lp:Bool} {s:Stm} {path:List Nat} {mood:List Str} {on:List Gl} {st:ce} {fl:List Gl} (hs:StmK P n lp s) (hon:on.length≤1) :
 (bE (ah fa n) fa k lp s path mood on st fl).2.length≤7 + 8 * cntS s∧(Rng A k (bE (ah fa n) fa k lp s path mood on st fl).2.length→NxA A lp on st fl→(∀ g ∈ (bE (ah fa n) fa k lp s path mood on st fl).1,A g)∧(bE (ah fa n) fa k lp s path mood on st fl).1.length≤4∧∀ x ∈ (bE (ah fa n) fa k lp s path mood on st fl).2,qL P A x):=by
 cases hs with
 | jump w hw hl =>
   obtain ⟨z2,z3,z4⟩:w ∈ aQ true∧w ≠ af∧w ≠ bP:=(by decide +kernel:∀ z ∈ [aH,cD],z ∈ aQ true∧z ≠ af∧z ≠ bP) w hw
   have e:bE (ah fa n) fa k lp [.s w] path mood on st fl=(st w,[]):=by
    show (if w=af then fl else if w=bP then on ++ fl else st w,([]:List SpL))=_
    rw [if_neg z3,if_neg z4]
   rw [e]
   exact ⟨Nat.zero_le _,fun _ h=>⟨h.st w (by rw [hl]; exact z2),Nat.le_succ_of_le (h.lst w),fun x hx=>(by cases hx)⟩⟩
 | stop x hx =>
   have e:bE (ah fa n) fa k lp [.s bK,.s x] path mood on st fl=(st x,[]):=by
    show (if bK=bK then st x else if bK=aq then on ++ (if x ∈ fa then fl else []) else on,([]:List SpL))=_
    rw [if_pos rfl]
   rw [e]
   have hxd:x ∈ aQ lp:=by
    simp only [List.mem_cons,List.not_mem_nil,or_false] at hx
    rcases hx with rfl | rfl
    ·exact (dom_words.1 lp).1
    ·exact (dom_words.1 lp).2
   exact ⟨Nat.zero_le _,fun _ h=>⟨h.st x hxd,Nat.le_succ_of_le (h.lst x),fun x hx=>(by cases hx)⟩⟩
 | fault =>
   have e:bE (ah fa n) fa k lp [.s af] path mood on st fl=(fl,[]):=by
    show (if af=af then fl else if af=bP then on ++ fl else st af,([]:List SpL))=_
    rw [if_pos rfl]
   rw [e]
   exact ⟨Nat.zero_le _,fun _ h=>⟨h.fl,Nat.le_succ_of_le h.lfl,fun x hx=>(by cases hx)⟩⟩
 | may =>
   have z3:bP ≠ af:=by decide +kernel
   have e:bE (ah fa n) fa k lp [.s bP] path mood on st fl=(on ++ fl,[]):=by
    show (if bP=af then fl else if bP=bP then on ++ fl else st bP,([]:List SpL))=_
    rw [if_neg z3,if_pos rfl]
   rw [e]
   exact ⟨Nat.zero_le _,fun _ h=>⟨fun g hg=>(List.mem_append.mp hg).elim (h.on g) (h.fl g),by have:=h.lfl; show (on ++ fl).length≤4; rw [List.length_append]; omega,fun x hx=>(by cases hx)⟩⟩
 | deeper f =>
   have e:bE (ah fa n) fa k lp [.s aq,.s f] path mood on st fl=(on ++ (if f ∈ fa then fl else []),[]):=by
    show (if aq=bK then st f else if aq=aq then on ++ (if f ∈ fa then fl else []) else on,([]:List SpL))=_
    rw [if_neg two_kinds.2.1,if_pos rfl]
   rw [e]
   refine ⟨Nat.zero_le _,fun _ h=>⟨fun g hg=>(List.mem_append.mp hg).elim (h.on g) fun hg=>?_,?_,fun x hx=>(by cases hx)⟩⟩
   ·split at hg
    ·exact h.fl g hg
    ·cases hg
   ·have:=h.lfl
    show (on ++ (if f ∈ fa then fl else [])).length≤4
    rw [List.length_append]
    split
    ·omega
    ·show on.length + 0≤4; omega
 | deed z x hz =>
   obtain ⟨z1,z2⟩:=two_kinds.1 z hz
   have e:bE (ah fa n) fa k lp [.s z,.s x] path mood on st fl=(on,[]):=by
    show (if z=bK then st x else if z=aq then on ++ (if x ∈ fa then fl else []) else on,([]:List SpL))=_
    rw [if_neg z1,if_neg z2]
   rw [e]
   exact ⟨Nat.zero_le _,fun _ h=>⟨h.on,by show on.length≤4; omega,fun x hx=>(by cases hx)⟩⟩
 | tries a m hm ga =>
   obtain ⟨i1,i2,i3⟩:=ih k true a (path ++ [0]) mood on (fun w=>if w=aH then .sp k :: on else if w=cD then on else st w) fl true m ga hm
   refine ⟨?_,fun h1 h2=>?_⟩
   ·refine Nat.le_trans (show (ah fa n k true a (path ++ [0]) mood on (fun w=>if w=aH then .sp k :: on else if w=cD then on else st w) fl true).length≤_ from i1) ?_
    show _≤7 + 8 * (0 + (cntB a + 0))
    omega
   ·have h1:Rng A k (ah fa n k true a (path ++ [0]) mood on (fun w=>if w=aH then .sp k :: on else if w=cD then on else st w) fl true).length:=h1
    have hk:=h1 k zNr (by omega)
    have kon:∀ g ∈ Gl.sp k :: on,A g:=fun g hg=>(List.mem_cons.mp hg).elim (fun e=>e ▸ hk) (h2.on g)
    refine ⟨kon,by show on.length + 1≤4; omega,i3 h1 ⟨h2.on,fun w hw g hg=>?_,h2.fl,h2.lon,fun w=>?_,h2.lfl⟩⟩
    ·have hg:g ∈ (if w=aH then .sp k :: on else if w=cD then on else st w):=hg
     split at hg
     ·exact kon g hg
     ·split at hg
      ·exact h2.on g hg
      ·rename_i e1 e2
       exact h2.st w (uJ hw e1 e2) g hg
    ·show (if w=aH then .sp k :: on else if w=cD then on else st w).length≤3
     split
     ·show on.length + 1≤3; omega
     ·split
      ·omega
      ·exact h2.lst w
 | two w a b m hw hm ga gb =>
   have hz2:w=bX∨w=d7:=by simpa using hw
   obtain ⟨i1,i2,i3⟩:=ih k lp a (path ++ [0]) mood on st fl false m ga hm
   have e:bE (ah fa n) fa k lp [.s w,.p a,.p b] path mood on st fl=([.sp k,.sp (k + (ah fa n k lp a (path ++ [0]) mood on st fl false).length)],ah fa n k lp a (path ++ [0]) mood on st fl false ++ ah fa n (k + (ah fa n k lp a (path ++ [0]) mood on st fl false).length) lp b (path ++ [1]) mood on st fl false):=by
    unfold bE
    dsimp only
    rw [if_pos hz2]
   rw [e]
   dsimp only
   obtain ⟨j1,j2,j3⟩:=ih (k + (ah fa n k lp a (path ++ [0]) mood on st fl false).length) lp b (path ++ [1]) mood on st fl false m gb hm
   rw [List.length_append]
   refine ⟨?_,fun h1 h2=>⟨fun g hg=>?_,(by show 2≤4; omega),fun x hx=>?_⟩⟩
   ·show _≤7 + 8 * (0 + (cntB a + (cntB b + 0)))
    omega
   ·simp only [List.mem_cons,List.not_mem_nil,or_false] at hg
    rcases hg with rfl | rfl
    ·exact h1 _ (by omega) (by omega)
    ·exact h1 _ (by omega) (by omega)
   ·rcases List.mem_append.mp hx with hx | hx
    ·exact i3 (h1.sub zNr (by omega)) h2 x hx
    ·exact j3 (h1.sub (by omega) (by omega)) h2 x hx
 | look c a b m hm ga gb =>
   obtain ⟨i1,i2,i3⟩:=ih k lp a (path ++ [0]) mood on st fl false m ga hm
   have e:bE (ah fa n) fa k lp [.s bw,.s c,.p a,.p b] path mood on st fl=([.sp k,.sp (k + (ah fa n k lp a (path ++ [0]) mood on st fl false).length)],ah fa n k lp a (path ++ [0]) mood on st fl false ++ ah fa n (k + (ah fa n k lp a (path ++ [0]) mood on st fl false).length) lp b (path ++ [1]) mood on st fl false):=rfl
   rw [e]
   dsimp only
   obtain ⟨j1,j2,j3⟩:=ih (k + (ah fa n k lp a (path ++ [0]) mood on st fl false).length) lp b (path ++ [1]) mood on st fl false m gb hm
   rw [List.length_append]
   refine ⟨?_,fun h1 h2=>⟨fun g hg=>?_,(by show 2≤4; omega),fun x hx=>?_⟩⟩
   ·show _≤7 + 8 * (0 + (0 + (cntB a + (cntB b + 0))))
    omega
   ·simp only [List.mem_cons,List.not_mem_nil,or_false] at hg
    rcases hg with rfl | rfl
    ·exact h1 _ (by omega) (by omega)
    ·exact h1 _ (by omega) (by omega)
   ·rcases List.mem_append.mp hx with hx | hx
    ·exact i3 (h1.sub zNr (by omega)) h2 x hx
    ·exact j3 (h1.sub (by omega) (by omega)) h2 x hx
 | guard a b m hm ga gb =>
   obtain ⟨i1,i2,i3⟩:=ih k lp b (path ++ [1]) mood on st fl false m gb hm
   have z7:¬ (aM=bX∨aM=d7):=by decide +kernel
   have e:bE (ah fa n) fa k lp [.s aM,.p a,.p b] path mood on st fl=([.sp (k + (ah fa n k lp b (path ++ [1]) mood on st fl false).length)],ah fa n k lp b (path ++ [1]) mood on st fl false ++ ah fa n (k + (ah fa n k lp b (path ++ [1]) mood on st fl false).length) lp a (path ++ [0]) mood on st [.sp k] false):=by
    unfold bE
    dsimp only
    rw [if_neg z7,if_pos rfl]
   rw [e]
   dsimp only
   obtain ⟨j1,j2,j3⟩:=ih (k + (ah fa n k lp b (path ++ [1]) mood on st fl false).length) lp a (path ++ [0]) mood on st [.sp k] false m ga hm
   rw [List.length_append]
   refine ⟨?_,fun h1 h2=>⟨fun g hg=>?_,(by show 1≤4; omega),fun x hx=>?_⟩⟩
   ·show _≤7 + 8 * (0 + (cntB a + (cntB b + 0)))
    omega
   ·rw [List.mem_singleton.mp hg]
    exact h1 _ (by omega) (by omega)
   ·rcases List.mem_append.mp hx with hx | hx
    ·exact i3 (h1.sub zNr (by omega)) h2 x hx
    ·exact j3 (h1.sub (by omega) (by omega)) ⟨h2.on,h2.st,fun g hg=>(by rw [List.mem_singleton.mp hg]; exact h1 _ (by omega) (by omega)),h2.lon,h2.lst,by show 1≤3; omega⟩ x hx
 | lastly a b m hm ga gb =>
   have z1:¬ (am=bX∨am=d7):=by decide +kernel
   have z2:am ≠ aM:=by decide +kernel
   cases n with
   | zero=>omega
   | succ n =>
   obtain ⟨i1,i2,i3⟩:=oM ih (lp:=lp) (path:=path ++ [1]) (mood:=mood) (on:=on) (st:=st) (fl:=fl) gb (aQ lp ++ [wOn,af]) k
   have e:bE (ah fa (n + 1)) fa k lp [.s am,.p a,.p b] path mood on st fl=([.sp (k + (bC (ah fa (n + 1)) lp b (path ++ [1]) mood on st fl (aQ lp ++ [wOn,af]) k).2.length)],(bC (ah fa (n + 1)) lp b (path ++ [1]) mood on st fl (aQ lp ++ [wOn,af]) k).2 ++ ah fa (n + 1) (k + (bC (ah fa (n + 1)) lp b (path ++ [1]) mood on st fl (aQ lp ++ [wOn,af]) k).2.length) lp a (path ++ [0]) mood [.sp (eJ (bC (ah fa (n + 1)) lp b (path ++ [1]) mood on st fl (aQ lp ++ [wOn,af]) k).1 wOn)] (fun w=>[.sp (eJ (bC (ah fa (n + 1)) lp b (path ++ [1]) mood on st fl (aQ lp ++ [wOn,af]) k).1 w)]) [.sp (eJ (bC (ah fa (n + 1)) lp b (path ++ [1]) mood on st fl (aQ lp ++ [wOn,af]) k).1 af)] false):=by
    unfold bE
    dsimp only
    rw [if_neg z1,if_neg z2]
   rw [e]
   dsimp only
   generalize bC (ah fa (n + 1)) lp b (path ++ [1]) mood on st fl (aQ lp ++ [wOn,af]) k=r at i1 i2 i3
   obtain ⟨j1,j2,j3⟩:=ih (k + r.2.length) lp a (path ++ [0]) mood [.sp (eJ r.1 wOn)] (fun w=>[.sp (eJ r.1 w)]) [.sp (eJ r.1 af)] false m ga hm
   rw [List.length_append]
   have l6:=DK lp
   have lm:(aQ lp ++ [wOn,af]).length * (b.length + 1)≤6 * (b.length + 1):=Nat.mul_le_mul_right _ l6
   have hwOn:wOn ∈ aQ lp ++ [wOn,af]:=List.mem_append_right _ (by simp)
   have hwFa:af ∈ aQ lp ++ [wOn,af]:=List.mem_append_right _ (by simp)
   refine ⟨?_,fun h1 h2=>⟨fun g hg=>?_,(by show 1≤4; omega),fun x hx=>?_⟩⟩
   ·have:=n4 b gb
    show _≤7 + 8 * (0 + (cntB a + (cntB b + 0)))
    omega
   ·rw [List.mem_singleton.mp hg]
    exact h1 _ (by omega) (by omega)
   ·have kk:∀ w ∈ aQ lp ++ [wOn,af],A (.sp (eJ r.1 w)):=fun w hw=>h1 _ (i2 w hw).1 (by have:=(i2 w hw).2; omega)
    rcases List.mem_append.mp hx with hx | hx
    ·refine i3 (h1.sub zNr (by omega)) h2 (fun w hw=>⟨?_,fun g hg=>?_⟩) x hx
     ·unfold aV
      split
      ·omega
      ·split
       ·exact h2.lfl
       ·exact h2.lst w
     unfold aV at hg
     split at hg
     ·exact h2.on g hg
     ·rename_i e1
      split at hg
      ·exact h2.fl g hg
      ·rename_i e2
       have hd:w ∈ aQ lp:=(List.mem_append.mp hw).elim id fun q=>by
        simp only [List.mem_cons,List.not_mem_nil,or_false] at q
        exact q.elim (fun q=>absurd q e1) fun q=>absurd q e2
       exact h2.st w hd g hg
    ·exact j3 (h1.sub (by omega) (by omega)) ⟨fun g hg=>(by rw [List.mem_singleton.mp hg]; exact kk _ hwOn),fun w hw g hg=>(by rw [List.mem_singleton.mp hg]; exact kk _ (List.mem_append_left _ hw)),fun g hg=>(by rw [List.mem_singleton.mp hg]; exact kk _ hwFa),by show 1≤3; omega,fun w=>(by show 1≤3; omega),by show 1≤3; omega⟩ x hx
theorem oN {P:PN} {fa:List Str} {A:Gl→Prop} {n lv:Nat} (ih:DJ P fa A n) (hlv:lv≤n) {k:Nat} {lp:Bool} {path:List Nat} {mood:List Str} {st:ce} {fl:List Gl}:∀ (b:Bdy) (i L:Nat),(∀ x ∈ b,GoodS P lv lp x) →
 (bx (ah fa n) fa k lp path mood st fl b i L).1.length + (bx (ah fa n) fa k lp path mood st fl b i L).2.length≤8 * cntB b∧(Rng A L (bx (ah fa n) fa k lp path mood st fl b i L).2.length→(∀ j,j≤b.length→A (.sp (k + i + j)))→(∀ w ∈ aQ lp,∀ g ∈ st w,A g)→(∀ g ∈ fl,A g)→(∀ w,(st w).length≤3)→fl.length≤3→(∀ x ∈ (bx (ah fa n) fa k lp path mood st fl b i L).1,qL P A x)∧∀ x ∈ (bx (ah fa n) fa k lp path mood st fl b i L).2,qL P A x)
 | [],i,L,_=>⟨Nat.le_refl _,fun _ _ _ _ _ _=>⟨fun x hx=>(by cases hx),fun x hx=>(by cases hx)⟩⟩
 | s :: b,i,L,hb=>by
   have hs:=hb s zMs
   obtain ⟨a1,a2⟩:=AP ih (k:=L) (path:=path ++ [i]) (mood:=mood) (on:=[.sp (k + i + 1)]) (st:=st) (fl:=fl) (AM hs hlv) (by show 1≤1; omega)
   obtain ⟨r1,r2⟩:=oN ih hlv (k:=k) (path:=path) (mood:=mood) (st:=st) (fl:=fl) b (i + 1) (L + (bE (ah fa n) fa L lp s (path ++ [i]) mood [.sp (k + i + 1)] st fl).2.length) fun x hx=>hb x (zMt hx)
   have e:bx (ah fa n) fa k lp path mood st fl (s :: b) i L=(⟨path ++ [i],mood,some s,(bE (ah fa n) fa L lp s (path ++ [i]) mood [.sp (k + i + 1)] st fl).1⟩ :: (bx (ah fa n) fa k lp path mood st fl b (i + 1) (L + (bE (ah fa n) fa L lp s (path ++ [i]) mood [.sp (k + i + 1)] st fl).2.length)).1,(bE (ah fa n) fa L lp s (path ++ [i]) mood [.sp (k + i + 1)] st fl).2 ++ (bx (ah fa n) fa k lp path mood st fl b (i + 1) (L + (bE (ah fa n) fa L lp s (path ++ [i]) mood [.sp (k + i + 1)] st fl).2.length)).2):=rfl
   rw [e]
   dsimp only
   generalize bE (ah fa n) fa L lp s (path ++ [i]) mood [.sp (k + i + 1)] st fl=a at *
   generalize bx (ah fa n) fa k lp path mood st fl b (i + 1) (L + a.2.length)=r at *
   rw [List.length_append,List.length_cons]
   refine ⟨?_,fun h1 h2 h3 h4 h5 h6=>?_⟩
   ·show _≤8 * (1 + cntS s + cntB b)
    omega
   ·obtain ⟨b1,b3,b2⟩:=a2 (h1.sub zNr (by omega)) ⟨fun g hg=>(by rw [List.mem_singleton.mp hg]; exact h2 1 (by rw [List.length_cons]; omega)),h3,h4,by show 1≤3; omega,h5,h6⟩
    obtain ⟨c1,c2⟩:=r2 (h1.sub (by omega) (by omega)) (fun j hj=>by
     have:=h2 (j + 1) (by rw [List.length_cons]; omega)
     rwa [show k + i + (j + 1)=k + (i + 1) + j by omega] at this) h3 h4 h5 h6
    refine ⟨fun x hx=>?_,fun x hx=>(List.mem_append.mp hx).elim (b2 x) (c2 x)⟩
    rcases List.mem_cons.mp hx with rfl | hx
    ·exact ⟨b1,b3,fun t ht=>by cases ht; exact ⟨lv,lp,hs⟩⟩
    ·exact c1 x hx
theorem n5 {P:PN} {fa:List Str} {A:Gl→Prop}:∀ n,DJ P fa A n
 | 0=>fun _ _ _ _ _ _ _ _ _ _ _ h=>absurd h (Nat.not_lt_zero _)
 | n + 1=>fun k lp b path mood on st fl loop lv hb hlv=>by
   obtain ⟨r1,r2⟩:=oN (n5 n) (Nat.le_of_lt_succ hlv) (k:=k) (path:=path) (mood:=mood) (st:=st) (fl:=fl) b 0 (k + b.length + 1) hb
   have e:ah fa (n + 1) k lp b path mood on st fl loop=(bx (ah fa n) fa k lp path mood st fl b 0 (k + b.length + 1)).1 ++ ⟨path ++ [b.length],mood,none,(if loop then [.sp k] else []) ++ on⟩ :: (bx (ah fa n) fa k lp path mood st fl b 0 (k + b.length + 1)).2:=rfl
   have l1:=jm (lay:=ah fa n) (fa:=fa) (k:=k) (lp:=lp) (path:=path) (mood:=mood) (st:=st) (fl:=fl) b 0 (k + b.length + 1)
   rw [e]
   generalize bx (ah fa n) fa k lp path mood st fl b 0 (k + b.length + 1)=r at *
   rw [List.length_append,List.length_cons]
   refine ⟨by omega,by omega,fun h1 h2=>?_⟩
   obtain ⟨c1,c2⟩:=r2 (h1.sub (by omega) (by omega)) (fun j hj=>h1 _ (by omega) (by omega)) h2.st h2.fl h2.lst h2.lfl
   intro s hs
   rcases List.mem_append.mp hs with hs | hs
   ·exact c1 s hs
   ·rcases List.mem_cons.mp hs with rfl | hs
    ·refine ⟨fun g hg=>?_,?_,fun t ht=>(by cases ht)⟩
     rotate_left
     ·have:=h2.lon
      show ((if loop then [Gl.sp k] else []) ++ on).length≤4
      rw [List.length_append]
      split
      ·show 1 + on.length≤4; omega
      ·show 0 + on.length≤4; omega
     have hg:g ∈ (if loop then [.sp k] else []) ++ on:=hg
     rcases List.mem_append.mp hg with hg | hg
     ·split at hg
      ·rw [List.mem_singleton.mp hg]
       exact h1 _ zNr (by omega)
      ·cases hg
     ·exact h2.on g hg
    ·exact c2 s hs
structure WayF (P:PN) (L:List SpL):Prop where
 pos:0 < L.length
 len:L.length≤200
 nx:∀ u v,v ∈ (nxs L u).filterMap Gl.num→v < L.length
 out:∀ u,zI (nxs L u)
 few:∀ u,(nxs L u).length≤4
 stm:∀ u t,lD L u=some t→∃ lv lp,GoodS P lv lp t
theorem ml {P:PN} {fa:List Str} {b:Bdy} (hb:∀ x ∈ b,GoodS P 3 false x) (hc:cntB b≤14):WayF P (bO fa b):=by
 obtain ⟨h1,h2,h3⟩:=n5 (P:=P) (fa:=fa) (A:=fun g=>match g with | .sp m=>m < (bO fa b).length | .out w=>w ∈ exL) 4 0 false b [] [] [.out dS] (fun w=>[.out w]) [.out af] false 3 hb (by omega)
 have h3:=h3 (fun m _ hm=>by
  have hm:m < 0 + (bO fa b).length:=hm
  show m < (bO fa b).length
  omega) ⟨fun g hg=>(by rw [List.mem_singleton.mp hg]; exact (by decide +kernel:dS ∈ exL)),fun w hw g hg=>(by rw [List.mem_singleton.mp hg]; exact (by decide +kernel:∀ w ∈ aQ false,w ∈ exL) w hw),fun g hg=>(by rw [List.mem_singleton.mp hg]; exact (by decide +kernel:af ∈ exL)),by show 1≤3; omega,fun w=>(by show 1≤3; omega),by show 1≤3; omega⟩
 have sp:∀ u g,g ∈ nxs (bO fa b) u→match g with | .sp m=>m < (bO fa b).length | .out w=>w ∈ exL:=fun u g hg=>by
  unfold nxs at hg
  cases e:(bO fa b)[u]? with
  | none=>rw [e] at hg; cases hg
  | some s =>
    rw [e] at hg
    exact (h3 s (List.mem_of_getElem? e)).1 g hg
 refine ⟨h2,?_,fun u v hv=>?_,fun u w hw=>sp u _ hw,fun u=>?_,fun u t ht=>?_⟩
 ·have:(bO fa b).length≤1 + 8 * cntB b:=h1
  omega
 ·obtain ⟨g,hg,e⟩:=List.mem_filterMap.mp hv
  cases g with
  | sp m =>
    cases e
    exact sp u _ hg
  | out w=>cases e
 ·unfold nxs
  cases e:(bO fa b)[u]? with
  | none=>exact Nat.zero_le _
  | some s=>exact (h3 s (List.mem_of_getElem? e)).2.1
 ·unfold lD at ht
  cases e:(bO fa b)[u]? with
  | none=>rw [e] at ht; cases ht
  | some s =>
    rw [e] at ht
    exact (h3 s (List.mem_of_getElem? e)).2.2 t ht
def HC (S:Sto) (d:D) (fa:List Str):Prop:=d = .lst (fa.map D.str)∨∃ r,d = .ref r∧S r=some (.lst (fa.map D.str))
def pP:HSp:=fun ds S Q _=>∃ (w:Addr) (d:D) (fa:List Str) (P:PN) (b:Bdy),ds=[.ref w,aw b,d]∧S w=some (.ins 28 [])∧HC S d fa∧(∀ x ∈ b,GoodS P 3 false x)∧cntB b≤14∧∀ S',WaysAt S' w (bO fa b)→KeepQ w S S'→Q .non S'
theorem FU:cX (cX [] (.inr dQ) (glT [.out dQ])) (.inr dS) (glT [.out dS])=kvT (aQ false) fun w=>glT [.out w]:=by
 have e1:cX [] (.inr dQ) (glT [.out dQ])=[((.inr dQ:Key),glT [.out dQ])]:=n3 fun kv h=>(by cases h)
 rw [e1,n3]
 ·rfl
 ·intro kv h
  rw [List.mem_singleton.mp h]
  show (Sum.inr dQ:Key) ≠ Sum.inr dS
  intro e
  injection e with e
  exact absurd e (by decide +kernel)
theorem wQ (h0:fQ 28=some 0:=by rfl) (h1:dt 28=some 1:=by rfl) (h2:i6 28=some 2:=by rfl) {ds:List D} {S:Sto} {Q E:HK} (h:pP ds S Q E):gu (hY 4) (EN Q E) (ao 5 ds) S:=by
 obtain ⟨w,d,fa,P,b,rfl,hw,hfa,hb,hc,g⟩:=h
 show gu (hY 4) (EN Q E) [some (.ref w),some (aw b),some d,none,none] S
 unfold gu
 refine dC ?_
 simp only [d8,hV,zG0,zG1]
 refine c9 hw h0 rfl ?_
 refine dC ?_
 simp only [d8,cM,ae,hV,zG0,zG1]
 intro q hq
 have hqw:q ≠ w:=fun e=>by rw [e,ai] at hq; cases hq
 have hqn:S q=none:=by rw [ar hqw] at hq; exact hq
 refine c9 (c:=28) (ds:=[d]) (ds':=[d,.ref q]) ((ar (Ne.symm hqw)).trans ai) h1 rfl ?_
 have hS:∃ S2,S2=up (up (up S w (.ins 28 [d])) q (.lst [])) w (.ins 28 [d,.ref q]):=⟨_,rfl⟩
 obtain ⟨S2,eS2⟩:=hS
 rw [show ([] ++ [d]:List D)=[d] from rfl,← eS2]
 have hw2:S2 w=some (.ins 28 [d,.ref q]):=by rw [eS2,ai]
 have hq2:S2 q=some (.lst []):=by rw [eS2,ar hqw,ai]
 have k2:∀ a m,a ≠ w→S a=some m→S2 a=some m:=fun a m ha e=>by
  have haq:a ≠ q:=fun e'=>by rw [e',hqn] at e; cases e
  rw [eS2,ar ha,ar haq,ar ha]
  exact e
 have fa2:FaOk S2 q d fa:=by
  rcases hfa with h | ⟨r,e,h⟩
  ·exact .inl h
  ·have hrw:r ≠ w:=fun e'=>by rw [e',hw] at h; cases h
   exact .inr ⟨r,e,fun e'=>(by rw [e',hqn] at h; cases h),k2 r _ hrw h⟩
 refine fz (fun x S'=>∃ r,x = .ref r∧S2 r=none∧S'=up S2 r (.dct (kvT (aQ false) fun w=>glT [.out w]))) (fun R E hR=>?_) fun x S1 ⟨r,ex,hr,eS⟩=>?_
 ·simp only [xJ]
  rw [b8]
  simp only [aE,aa,ae,hC]
  refine (show gSq (.tup [.str dQ,.str dS]) S2 _ from dv (xs:=[.str dQ,.str dS]) rfl ?_)
  show iW (.nm 3) (hV 3) (aE (aa (hV 3) ae)) none [.str dQ,.str dS] [] _ S2 R
  have last:∀ r,S2 r=none→R (.ref r) (up S2 r (.dct (cX (cX [] (.inr dQ) (glT [.out dQ])) (.inr dS) (glT [.out dS])))):=fun r hr=>hR _ _ ⟨r,rfl,hr,by rw [FU]⟩
  exact ⟨by decide,by decide,last⟩
 subst ex
 subst eS
 dsimp only [zS1,zS0]
 unfold c5
 simp only [zG0,zG1]
 rw [ai]
 dsimp only [zS1,zS0]
 rw [lk hr,gM,gN]
 simp only [d8,bG,aE,av,aa,ae,hV,hC,zG0,zG1]
 rw [eF hw2]
 dsimp only
 obtain ⟨f1,f2,f3⟩:=n5 (P:=P) (fa:=fa) (A:=fun _=>True) 4 0 false b [] [] [.out dS] (fun w=>[.out w]) [.out af] false 3 hb (by omega)
 refine ⟨w,q,d,fa,[],P,3,false,b,[],[],[.out dS],fun w=>[.out w],[.out af],false,rfl,⟨hw2,hq2,fa2⟩,hb,by omega,by decide,by decide,⟨by show 1≤3; omega,fun x=>(by show 1≤3; omega),by show 1≤3; omega⟩,?_,fun S3 ps3 gr=>?_⟩
 ·show 0 + _≤1000
  show 0 + (ah fa 4 0 false b [] [] [.out dS] (fun w=>[.out w]) [.out af] false).length≤1000
  omega
 have hw3:S3 w=some (.ins 28 [d,.ref q]):=gr.keep w _ (Ne.symm hqw) hw2
 refine c9 (ds':=[d,.ref q,.int 0]) hw3 h2 rfl ?_
 refine Rt.mk (g _ ⟨d,q,ps3,ai,?_,gr.at_.1,fun i s p h3 h4=>?_⟩ fun a m ha e=>?_)
 ·rw [ar hqw]
  exact gr.hq
 ·have:=gr.at_.2 i s p h3 h4
  rw [ar (fun e=>by rw [e,hw3] at this; cases this)]
  exact this
 ·have haq:a ≠ q:=fun e'=>by rw [e',hqn] at e; cases e
  rw [ar ha]
  exact gr.keep a m haq (k2 a m ha e)
theorem nodup_len {α:Type} [DecidableEq α]:∀ (l m:List α),l.Nodup→(∀ x ∈ l,x ∈ m)→l.length≤m.length
 | [],_,_,_=>Nat.zero_le _
 | x :: l,m,nd,h=>by
   obtain ⟨n1,n2⟩:=List.nodup_cons.mp nd
   have hx:=h x zMs
   have ih:=nodup_len l (m.erase x) n2 fun y hy=>(List.mem_erase_of_ne (fun e=>n1 (by rw [← e]; exact hy))).mpr (h y (zMt hy))
   rw [List.length_erase_of_mem hx] at ih
   have:=List.length_pos_of_mem hx
   rw [List.length_cons]
   omega
theorem iz {l:List Nat} {n:Nat} (nd:l.Nodup) (h:∀ x ∈ l,x < n):l.length≤n:=by
 have:=nodup_len l (List.range n) nd fun x hx=>List.mem_range.mpr (h x hx)
 rwa [List.length_range] at this
abbrev dB (l:List Nat):List D:=l.map fun (n:Nat)=>D.int (n:Int)
theorem DL (a x:Nat):deq (.int (a:Nat)) (.int (x:Nat))=decide (a=x):=by
 rw [show deq (.int (a:Nat)) (.int (x:Nat))=(((a:Nat):Int) == ((x:Nat):Int)) by simp [deq,toP,PyData.eqv]]
 rw [Bool.eq_iff_iff,beq_iff_eq,decide_eq_true_eq]
 omega
theorem wR (x:Nat):∀ ss:List Nat,((dB ss).any fun z=>deq z (.int (x:Nat)))=decide (x ∈ ss)
 | []=>rfl
 | a :: l=>by
   show (deq (.int (a:Nat)) (.int (x:Nat)) || ((dB l).any fun z=>deq z (.int (x:Nat))))=_
   rw [DL,wR x l,Bool.eq_iff_iff]
   simp only [Bool.or_eq_true,decide_eq_true_eq,List.mem_cons]
   exact ⟨fun q=>q.imp (fun q=>q.symm) id,fun q=>q.imp (fun q=>q.symm) id⟩
theorem qM:∀ l:List Nat,iM (dB l)=some (l.map fun (n:Nat)=>(n:Int))
 | []=>rfl
 | a :: l=>by
   show (iM (dB l)).map _=_
   rw [qM l]
   rfl
theorem AQ {neg:Bool} {x:Nat} {ss:List Nat} {y:D} {S:Sto} {Q:HK} (hy:items S y=some (dB ss)) (h:Q (.bl (ng neg (decide (x ∈ ss)))) S):iG neg (.int (x:Nat)) y S Q:=by
 have e1:=wR x ss
 have e2:(cV (.int (x:Nat)) && (dB ss).all cV)=true:=by
  rw [List.all_map]
  show (true && ss.all fun _=>true)=true
  simp
 unfold iG
 cases y with
 | str z=>cases hy
 | _ =>
   dsimp only
   rw [hy]
   dsimp only
   rw [e2]
   dsimp only
   rw [e1]
   exact h
theorem fY {S:Sto} {r:Addr} {ds:List D} (h:S r=some (.lst ds)):items S (.ref r)=some ds:=by
 unfold items
 dsimp only
 rw [h]
abbrev qN (L:List SpL) (u:Nat):Prop:=(HB wOn false L).Pass u
structure PassD (L:List SpL) (ps:List Nat):Prop where
 first:0 ∈ ps
 step:∀ u ∈ ps,∀ v ∈ (nxs L u).filterMap Gl.num,v ∈ ps
 lt:∀ u ∈ ps,u < L.length
 nd:ps.Nodup
 real:∀ u ∈ ps,qN L u
def kK:HSp:=fun ds S Q _=>∃ (w:Addr) (P:PN) (L:List SpL),ds=[.ref w]∧WaysAt S w L∧WayF P L∧∀ ps,PassD L ps→Q (.lst (dB ps)) S
theorem WaysAt.up {S:Sto} {w r:Addr} {L:List SpL} {m:M} (h:WaysAt S w L) (hr:S r=none):WaysAt (Hy.up S r m) w L:=by
 obtain ⟨d,q,ps,h1,h2,h3,h4⟩:=h.at_
 exact ⟨d,q,ps,(ar (sne h1 hr)).trans h1,(ar (sne h2 hr)).trans h2,h3,fun i s p a b=>(ar (sne (h4 i s p a b) hr)).trans (h4 i s p a b)⟩
theorem WaysAt.self {S:Sto} {w:Addr} {L:List SpL} (h:WaysAt S w L):isC 28 S (.ref w)=true:=by
 obtain ⟨d,q,ps,h1,_⟩:=h.at_
 exact eF h1
theorem uN (h2:i6 28=some 2:=by rfl) {ds:List D} {S:Sto} {Q E:HK} (h:kK ds S Q E):eZ zJ (EN Q E) (ao 5 ds) S:=by
 obtain ⟨w,P,L,rfl,hw,wf,g⟩:=h
 show eZ zJ (EN Q E) [some (.ref w),none,none,none,none] S
 unfold eZ
 refine fz (fun x S'=>∃ r,x = .ref r∧S r=none∧S'=up S r (.lst (dB [0]))) (fun R E hR=>?_) fun x S1 ⟨r,ex,hr,eS⟩=>?_
 ·simp only [cM,hun,aa,ae,hV,zG0,zG1]
  obtain ⟨d,q,ps,h1,_⟩:=hw.at_
  refine b9 h1 h2 rfl ?_
  exact fun r hr=>hR _ _ ⟨r,rfl,hr,rfl⟩
 subst ex
 subst eS
 dsimp only [zS1,zS0]
 refine fy (.int ((0:Nat):Int)) (up S r (.lst (dB [0]))) (fun R E r=>by simp only [hC]; exact r) ?_
 dsimp only [zS1,zS0]
 refine gE (fun env S'=>∃ (ps:List Nat) (x2 x3 x4:Option D),env=[some (.ref w),some (.ref r),x2,x3,x4]∧PassD L ps∧S'=up S r (.lst (dB ps))) (fun D1 hD=>?_) fun env S1 ⟨ps,x2,x3,x4,ee,pd,eS⟩=>?_
 ·refine ⟨fun m env S'=>∃ (fs:List Nat) (dn:Nat) (x3 x4:Option D),env=[some (.ref w),some (.ref r),some (.int (dn:Nat)),x3,x4]∧S'=up S r (.lst (dB fs))∧fs.Nodup∧(∀ u ∈ fs,u < L.length∧qN L u)∧0 ∈ fs∧dn≤fs.length∧(∀ i u,i < dn→fs[i]? = some u→∀ v ∈ (nxs L u).filterMap Gl.num,v ∈ fs)∧m=L.length - dn,⟨_,[0],0,_,_,rfl,rfl,by simp,fun u hu=>by rw [List.mem_singleton.mp hu]; exact ⟨wf.pos,.first⟩,List.mem_singleton.mpr rfl,Nat.zero_le _,fun i u hi=>absurd hi (Nat.not_lt_zero _),rfl⟩,fun m env S' ⟨fs,dn,x3,x4,ee,eS,nd,lt,f0,dl,st,em⟩=>?_⟩
  subst ee
  subst eS
  have hfs:up S r (.lst (dB fs)) r=some (.lst (dB fs)):=ai
  simp only [hB,hop,hcb,aa,ae,hV,zG0,zG1]
  refine pH hfs ?_
  rw [List.length_map]
  show (match decide (((dn:Nat):Int) < ((fs.length:Nat):Int)) with | true=>_ | false=>_)
  by_cases hdn:dn < fs.length
  ·rw [decide_eq_true (show ((dn:Nat):Int) < ((fs.length:Nat):Int) by omega)]
   dsimp only
   obtain ⟨u,hu⟩:∃ u,fs[dn]? = some u:=⟨_,List.getElem?_eq_getElem hdn⟩
   have hum:=List.mem_of_getElem? hu
   obtain ⟨hul,hup⟩:=lt u hum
   refine fy (.int (u:Nat)) (up S r (.lst (dB fs))) (fun R E q=>?_) ?_
   ·simp only [hop,hV,zG0,zG1]
    exact eE hfs (fe (by rw [List.getElem?_map,hu]; rfl)) q
   dsimp only [zS1,zS0]
   refine fy (.int ((dn + 1:Nat):Int)) (up S r (.lst (dB fs))) (fun R E q=>?_) ?_
   ·simp only [hop,hV,hC,zG0,zG1]
    refine mW ?_
    rw [show ((dn:Nat):Int) + 1=((dn + 1:Nat):Int) by omega]
    exact q
   dsimp only [zS1,zS0]
   have fl:=iz nd fun u hu=>(lt u hu).1
   simp only [cC]
   rw [b8]
   simp only [bG,aa,ae,hV,zG0,zG1]
   rw [(hw.up hr (m:=.lst (dB fs))).self]
   refine ⟨w,L,u,rfl,hw.up hr,hul,wf.out u,?_⟩
   refine dv (xs:=dB ((nxs L u).filterMap Gl.num)) rfl ?_
   refine c7 (I:=fun j e S'=>∃ (gs:List Nat) (x4:Option D),e=[some (.ref w),some (.ref r),some (.int ((dn + 1:Nat):Int)),some (.int (u:Nat)),x4]∧S'=up S r (.lst (dB (fs ++ gs)))∧(fs ++ gs).Nodup∧(∀ x ∈ fs ++ gs,x < L.length∧qN L x)∧∀ v ∈ ((nxs L u).filterMap Gl.num).take j,v ∈ fs ++ gs) _ (fun j d e S2 hdj ⟨gs,x4,ee,eS,nd2,lt2,h2⟩=>?_) (fun e S2 ⟨gs,x4,ee,eS,nd2,lt2,h2⟩=>?_) ⟨[],_,rfl,by rw [List.append_nil],by rw [List.append_nil]; exact nd,by rw [List.append_nil]; exact lt,fun v hv=>by rw [List.take_zero] at hv; cases hv⟩
   ·subst ee
    subst eS
    rw [List.getElem?_map] at hdj
    obtain ⟨v,hv,rfl⟩:=Option.map_eq_some_iff.mp hdj
    have hvm:=List.mem_of_getElem? hv
    have hvl:=wf.nx u v hvm
    refine ⟨_,rfl,fun K hK=>?_⟩
    simp only [zS1,zS0]
    have hgs:up S r (.lst (dB (fs ++ gs))) r=some (.lst (dB (fs ++ gs))):=ai
    have tk:((nxs L u).filterMap Gl.num).take (j + 1)=((nxs L u).filterMap Gl.num).take j ++ [v]:=by rw [List.take_succ,hv]; rfl
    refine ifs (!decide (v ∈ fs ++ gs)) (fun R E q=>?_) (fun hb=>?_) (fun hb=>?_)
    ·simp only [hB,hop,hV,zG0,zG1]
     exact AQ (neg:=true) (fY hgs) q
    ·have hn:v ∉ fs ++ gs:=of_decide_eq_false (by rw [← Bool.not_eq_true']; exact hb)
     simp only [aL,hMt,aa,ae,hV,zG0,zG1]
     rw [cB hgs]
     dsimp only
     have nl:=iz nd2 fun u hu=>(lt2 u hu).1
     have wl:=wf.len
     refine fH hgs (by rw [List.length_map]; omega) ?_
     rw [dI]
     refine hK _ _ ⟨gs ++ [v],_,rfl,?_,?_,?_,?_⟩
     ·rw [← List.append_assoc,show dB (fs ++ gs ++ [v])=dB (fs ++ gs) ++ [.int (v:Nat)] from List.map_append ..]
     ·rw [← List.append_assoc,List.nodup_append]
      refine ⟨nd2,by simp,fun a ha b hb2 e=>hn ?_⟩
      rw [List.mem_singleton.mp hb2] at e
      rw [← e]
      exact ha
     ·intro x hx
      rw [← List.append_assoc] at hx
      rcases List.mem_append.mp hx with hx | hx
      ·exact lt2 x hx
      ·rw [List.mem_singleton.mp hx]
       exact ⟨hvl,.step hup hvm⟩
     ·intro x hx
      rw [tk] at hx
      rw [← List.append_assoc]
      rcases List.mem_append.mp hx with hx | hx
      ·exact List.mem_append_left _ (h2 x hx)
      ·exact List.mem_append_right _ hx
    ·have hn:v ∈ fs ++ gs:=of_decide_eq_true (by rw [← Bool.not_eq_false']; exact hb)
     refine (show K _ _ from hK _ _ ⟨gs,_,rfl,rfl,nd2,lt2,fun x hx=>?_⟩)
     rw [tk] at hx
     rcases List.mem_append.mp hx with hx | hx
     ·exact h2 x hx
     ·rw [List.mem_singleton.mp hx]
      exact hn
   ·subst ee
    subst eS
    rw [List.length_map,List.take_length] at h2
    refine ⟨L.length - (dn + 1),by omega,fs ++ gs,dn + 1,_,_,rfl,rfl,nd2,lt2,List.mem_append_left _ f0,by rw [List.length_append]; omega,fun i x hi hx=>?_,rfl⟩
    by_cases hid:i < dn
    ·rw [List.getElem?_append_left (by omega)] at hx
     exact fun v hv=>List.mem_append_left _ (st i x hid hx v hv)
    ·have:i=dn:=by omega
     subst this
     rw [List.getElem?_append_left hdn,hu] at hx
     cases hx
     exact h2
  ·rw [decide_eq_false (show ¬ ((dn:Nat):Int) < ((fs.length:Nat):Int) by omega)]
   refine (show D1.nx _ _ from hD _ _ ⟨fs,_,_,_,rfl,⟨f0,fun u hu=>?_,fun u hu=>(lt u hu).1,nd,fun u hu=>(lt u hu).2⟩,rfl⟩)
   obtain ⟨i,hi⟩:=List.mem_iff_getElem?.mp hu
   have hil:=(List.getElem?_eq_some_iff.mp hi).1
   exact st i u (by omega) hi
 subst ee
 subst eS
 have pl:=iz pd.nd pd.lt
 have wl:=wf.len
 simp only [aA,hcb,aa,ae,hV,zG0,zG1]
 have hps:up S r (.lst (dB ps)) r=some (.lst (dB ps)):=ai
 refine (show tE [.ref r] (up S r (.lst (dB ps))) (Rt Q) from ?_)
 have di:=qM ps
 unfold tE mz
 dsimp only [bF]
 rw [hps]
 dsimp only
 rw [di]
 refine ⟨by rw [List.length_map]; omega,fun ns' pm _=>?_⟩
 obtain ⟨qs,q1,q2⟩:=LiT.perm_inv (fun (n:Nat)=>(n:Int)) pm rfl
 subst q2
 have e:(qs.map fun (n:Nat)=>(n:Int)).map D.int=dB qs:=by rw [List.map_map]; rfl
 rw [e]
 have sl:SLe S (up S r (.lst (dB ps))):=fun a m ha=>by rw [ar (sne ha hr)]; exact ha
 refine Rt.less sl (g qs ⟨q1.mem_iff.mpr pd.first,fun u hu v hv=>q1.mem_iff.mpr (pd.step u (q1.mem_iff.mp hu) v hv),fun u hu=>pd.lt u (q1.mem_iff.mp hu),q1.nodup_iff.mpr pd.nd,fun u hu=>pd.real u (q1.mem_iff.mp hu)⟩)
def gJ (L:List SpL):Prop:=∃ u,qN L u ∧ .out af ∈ nxs L u
theorem PassD.all {L:List SpL} {ps:List Nat} (h:PassD L ps) {u:Nat} (p:qN L u):u ∈ ps:=by
 induction p with
 | first=>exact h.first
 | step _ hv ih=>exact h.step _ ih _ hv
def zQ:HSp:=fun ds S Q _=>∃ (w:Addr) (P:PN) (L:List SpL),ds=[.ref w]∧WaysAt S w L∧WayF P L∧∀ b:Bool,(b=true↔gJ L)→Q (.bl b) S
def sC:Gl→Option Str
 | .sp _=>none
 | .out w=>some w
theorem qO:∀ l:List Gl,(l.filter Gl.isOut).map glD=(l.filterMap sC).map D.str
 | []=>rfl
 | .sp n :: l=>qO l
 | .out w :: l=>by
   show D.str w :: (l.filter Gl.isOut).map glD=D.str w :: (l.filterMap sC).map D.str
   rw [qO l]
theorem wS {x0 x1:Option D} {S:Sto} {R:List D→Sto→Prop}:∀ (ws acc:List Str),acc.length + ws.length≤1000000→R ((acc ++ ws).map D.str) S→cin (.nm 2) (hV 2) none (ws.map D.str) (acc.map D.str) [x0,x1,none] S R
 | [],acc,_,h=>by
   rw [List.append_nil] at h
   exact h
 | w :: ws,acc,hl,h=>by
   rw [List.length_cons] at hl
   have ih:=wS (x0:=x0) (x1:=x1) (S:=S) (R:=R) ws (acc ++ [w]) (by rw [List.length_append,List.length_singleton]; omega) (by rw [List.append_assoc]; exact h)
   rw [List.map_append] at ih
   exact ⟨by rw [List.length_map]; omega,ih⟩
theorem DM {p1:Pt} {te:HTE} {env env':aW} {S:Sto} {R:List D→Sto→Prop} {l acc:List D} (e:env=env') (h:cin p1 te none l acc env' S R):cin p1 te none l acc env S R:=e ▸ h
theorem Cz {P:PN} {L:List SpL} (u:Nat):((nxs L u).filterMap sC).length≤(nxs L u).length:=List.length_filterMap_le ..
theorem wT {w:Addr} {P:PN} {L:List SpL} {S:Sto} {Q:HK} (hw:WaysAt S w L) (wf:WayF P L) (hn:∀ u,(nxs L u).length≤1000):∀ (ps:List Nat) (acc:List Str),(∀ u ∈ ps,u < L.length)→acc.length + 1000 * ps.length≤1000000→Q (.lst ((acc ++ ps.flatMap fun u=>(nxs L u).filterMap sC).map D.str)) S →
 iV (.nm 1) (eT (bG 28 2 [] qJ (hV 0) (aa (hV 1) ae))) (.nm 2) (hV 2) [2] none (dB ps) (acc.map D.str) [some (.ref w),none,none] S Q
 | [],acc,_,hl,h=>by
   rw [List.flatMap_nil,List.append_nil] at h
   exact ⟨by rw [List.length_map]; omega,h⟩
 | u :: ps,acc,lt,hl,h=>by
   rw [List.length_cons] at hl
   have hl2:=Cz (P:=P) (L:=L) u
   have hn2:=hn u
   have ih:=wT hw wf hn (Q:=Q) ps (acc ++ (nxs L u).filterMap sC) (fun x hx=>lt x (zMt hx)) (by rw [List.length_append]; omega) (by rw [List.append_assoc]; exact h)
   show (match bu (.nm 1) (D.int (u:Nat)) [some (.ref w),none,none] with
    | some env1=>eT (bG 28 2 [] qJ (hV 0) (aa (hV 1) ae)) env1 S (fun ds1 k1 S1=>cin (.nm 2) (hV 2) k1 ds1 (acc.map D.str) (cN env1 [2]) S1 fun acc' S2=>iV (.nm 1) (eT (bG 28 2 [] qJ (hV 0) (aa (hV 1) ae))) (.nm 2) (hV 2) [2] none (dB ps) acc' [some (.ref w),none,none] S2 Q) fun _ _=>False
    | none=>False)
   simp only [bu,zS0,zS1]
   rw [b8]
   simp only [bG,aa,ae,hV,zG0,zG1]
   rw [hw.self]
   refine ⟨w,L,u,rfl,hw,lt u zMs,wf.out u,?_⟩
   refine dv (xs:=((nxs L u).filter Gl.isOut).map glD) rfl ?_
   rw [qO]
   refine DM (show cN [some (.ref w),some (.int (u:Nat)),none] [2]=[some (.ref w),some (.int (u:Nat)),none] from rfl) ?_
   exact wS _ _ (by omega) ih
theorem AR {ds:List D} {S:Sto} {Q E:HK} (h:zQ ds S Q E):dX kK qJ (EN Q E) (ao 3 ds) S:=by
 obtain ⟨w,P,L,rfl,hw,wf,g⟩:=h
 show dX kK qJ (EN Q E) [some (.ref w),none,none] S
 unfold dX
 simp only [aA,hop,Dh,hC]
 rw [show (eT (bG 28 1 [] kK (hV 0) ae))=_ from b8 _]
 simp only [bG,ae,hV,zG0]
 rw [hw.self]
 refine ⟨w,P,L,rfl,hw,wf,fun ps pd=>?_⟩
 have pl:=iz pd.nd pd.lt
 have wl:=wf.len
 refine dv (xs:=dB ps) rfl ?_
 refine (show iV _ _ _ _ _ none (dB ps) (([]:List Str).map D.str) [some (.ref w),none,none] S _ from wT hw wf (fun u=>by have:=wf.few u; omega) ps [] pd.lt (by show 0 + 1000 * ps.length≤1000000; omega) ?_)
 refine jn (neg:=false) (y:=.lst _) rfl ?_
 refine Rt.mk (g _ ?_)
 show decide (af ∈ ps.flatMap fun u=>(nxs L u).filterMap sC)=true↔_
 rw [decide_eq_true_eq]
 refine ⟨fun h=>?_,fun ⟨u,hp,hm⟩=>List.mem_flatMap.mpr ⟨u,pd.all hp,List.mem_filterMap.mpr ⟨_,hm,rfl⟩⟩⟩
 obtain ⟨u,hu,h2⟩:=List.mem_flatMap.mp h
 obtain ⟨g,hg,e⟩:=List.mem_filterMap.mp h2
 cases g with
 | sp n=>cases e
 | out w=>cases e; exact ⟨u,pd.real u hu,hg⟩
end Hy
namespace Hy
open PySem PySem.Spec PyProof.Rows L2
local macro_rules | `(tactic| walk_at "p")=>`(tactic| try simp only [aK,f9,aA,om,aL,bj,hNx,hop,hun,hcb,hV,hC,hB,hTr,fK,dU,hOr,hIf,aE,bD,cM,aa,ae,an,bG,fS,hMt,hSl,mw,iL,fT,d8,k7,gc,ot,nh,bu,bindDs,u9,vh,ow,dO,dE,oy,Ah,se,iU,cE,jX,jc,qc,hO,kb,av,zh,zi,zj,pD,pE,tB,tD,mI,fM,cC,hLc,vd,hJ,u6,b8,cN,ao,List.map_cons,List.map_nil,List.length_cons,List.length_nil,List.replicate,List.cons_append,List.nil_append,List.append_nil,zG0,zG1,zS0,zS1,Nat.reduceAdd,Nat.reduceSub,Nat.zero_add,gI0,gI,iH,u8,hM,jv,pV,isN,ng,Nat.beq,Nat.ble,isStr,ku,kw])
local macro_rules | `(tactic| walk_at "q")=>`(tactic| ((try dsimp only); refine dC ?_; walk_at "p"))
local macro_rules | `(tactic| walk_at "g")=>`(tactic| try simp only [gLt,gLe,gGt,gGe,pU,jv,gI0,gI,cr,hM])
structure FnsOk (P:PN) (bs:Str→Bdy):Prop where
 good:∀ f ∈ P.fs,∀ x ∈ bs f,GoodS P 3 false x
 cnt:∀ f ∈ P.fs,cntB (bs f)≤14
open Classical in
noncomputable def db (bs:Str→Bdy) (fa:List Str) (f:Str):List Str:=if f ∉ fa∧gJ (bO fa (bs f)) then fa ++ [f] else fa
noncomputable def hW (fs:List Str) (bs:Str→Bdy) (fa:List Str):List Str:=fs.foldl (db bs) fa
noncomputable def dM (fs:List Str) (bs:Str→Bdy):Nat→List Str→List Str
 | 0,fa=>fa
 | n + 1,fa=>dM fs bs n (hW fs bs fa)
def Stab (fs:List Str) (bs:Str→Bdy) (fa:List Str):Prop:=(∃ k,fa=dM fs bs k [])∧hW fs bs fa=fa
theorem n6 {fs:List Str} {bs:Str→Bdy} {fa:List Str} (h:hW fs bs fa=fa):∀ k,dM fs bs k fa=fa
 | 0=>rfl
 | k + 1=>by
   show dM fs bs k (hW fs bs fa)=fa
   rw [h,n6 h k]
theorem jo {fs:List Str} {bs:Str→Bdy}:∀ (k m:Nat) (fa:List Str),dM fs bs (k + m) fa=dM fs bs m (dM fs bs k fa)
 | 0,m,fa=>by rw [Nat.zero_add]; rfl
 | k + 1,m,fa=>by
   rw [Nat.add_right_comm]
   exact jo k m (hW fs bs fa)
theorem Stab.same {fs:List Str} {bs:Str→Bdy} {fa fb:List Str} (h:Stab fs bs fa) (k:Stab fs bs fb):fa=fb:=by
 obtain ⟨⟨m,h1⟩,h2⟩:=h
 obtain ⟨⟨n,k1⟩,k2⟩:=k
 by_cases l:m≤n
 ·obtain ⟨d,rfl⟩:=Nat.exists_eq_add_of_le l
  rw [jo,← h1,n6 h2] at k1
  exact k1.symm
 ·obtain ⟨d,rfl⟩:=Nat.exists_eq_add_of_le (Nat.le_of_lt (Nat.lt_of_not_le l))
  rw [jo,← k1,n6 k2] at h1
  exact h1
theorem sD (bs:Str→Bdy) (fa:List Str) (f:Str):fa.length≤(db bs fa f).length:=by
 unfold db
 split
 ·rw [List.length_append]; omega
 ·exact Nat.le_refl _
theorem kL (bs:Str→Bdy):∀ (l fa:List Str),fa.length≤(l.foldl (db bs) fa).length
 | [],_=>Nat.le_refl _
 | f :: l,fa=>Nat.le_trans (sD bs fa f) (kL bs l _)
theorem wU {bs:Str→Bdy}:∀ (l fa:List Str),l.foldl (db bs) fa=fa→∀ f ∈ l,f ∉ fa→¬ gJ (bO fa (bs f))
 | [],_,_,f,hf=>by cases hf
 | x :: l,fa,h,f,hf=>by
   have h:l.foldl (db bs) (db bs fa x)=fa:=h
   have e:db bs fa x=fa:=by
    by_cases c:x ∉ fa∧gJ (bO fa (bs x))
    ·have e1:db bs fa x=fa ++ [x]:=if_pos c
     have:=kL bs l (db bs fa x)
     rw [h,e1,List.length_append,List.length_singleton] at this
     omega
    ·exact if_neg c
   rw [e] at h
   rcases List.mem_cons.mp hf with rfl | hf
   ·intro hn hp
    have e1:db bs fa f=fa ++ [f]:=if_pos ⟨hn,hp⟩
    rw [e] at e1
    have:=congrArg List.length e1
    rw [List.length_append,List.length_singleton] at this
    omega
   ·exact wU l fa h f hf
theorem Stab.no {fs:List Str} {bs:Str→Bdy} {fa:List Str} (h:Stab fs bs fa):∀ f ∈ fs,f ∉ fa→¬ gJ (bO fa (bs f)):=wU fs fa h.2
def jR:HSp:=fun ds S Q _=>∃ (P:PN) (bs:Str→Bdy) (st:Str),ds=[cdS P bs st]∧FnsOk P bs∧P.fs.Nodup∧P.fs.length≤10∧∀ fa:List Str,Stab P.fs bs fa→Q (.lst (fa.map D.str)) S
def KeepA (S S':Sto):Prop:=∀ a m,S a=some m→S' a=some m
theorem qP (h1:aO 4=some 2:=by rfl) (h2:cy 3=some 0:=by rfl) (h3:bV 3=some 1:=by rfl) {ds:List D} {S:Sto} {Q E:HK} (h:jR ds S Q E):gS zQ pP (EN Q E) (ao 4 ds) S:=by
 obtain ⟨P,bs,st,rfl,ok,fnd,fl10,g⟩:=h
 show gS zQ pP (EN Q E) [some (cdS P bs st),none,none,none] S
 unfold gS
 refine fz (fun x S'=>∃ r,x = .ref r∧S r=none∧S'=up S r (.lst [])) (fun R E hR=>?_) fun x S1 ⟨r,ex,hr,eS⟩=>?_
 ·simp only [cM,ae]
  exact fun r hr=>hR _ _ ⟨r,rfl,hr,rfl⟩
 subst ex
 subst eS
 dsimp only [zS1,zS0]
 refine fy (.bl true) (up S r (.lst [])) (fun R E r=>by simp only [hC]; exact r) ?_
 dsimp only [zS1,zS0]
 refine gE (fun env S'=>∃ (fa:List Str) (x2 x3:Option D),env=[some (cdS P bs st),some (.ref r),x2,x3]∧S' r=some (.lst (fa.map D.str))∧KeepA S S'∧Stab P.fs bs fa) (fun D1 hD=>?_) fun env S1 ⟨fa,x2,x3,ee,hr1,k1,h4⟩=>?_
 ·refine ⟨fun m env S'=>∃ (fa:List Str) (gr:Bool) (x3:Option D),env=[some (cdS P bs st),some (.ref r),some (.bl gr),x3]∧S' r=some (.lst (fa.map D.str))∧KeepA S S'∧fa.Nodup∧(∀ f ∈ fa,f ∈ P.fs)∧(∃ k,fa=dM P.fs bs k [])∧(gr=false→hW P.fs bs fa=fa)∧m=2 * (P.fs.length - fa.length) + (if gr then 1 else 0),⟨_,[],true,_,rfl,ai,fun a m e=>(ar (sne e hr)).trans e,by simp,fun f hf=>(by cases hf),⟨0,rfl⟩,fun h=>(by cases h),rfl⟩,fun m env S' ⟨fa,gr,x3,ee,hr1,k1,nd,sub,hit,h4,em⟩=>?_⟩
  subst ee
  simp only [hTr,hV,zG0,zG1]
  cases gr with
  | false=>exact (show D1.nx _ S' from hD _ _ ⟨fa,_,_,rfl,hr1,k1,hit,h4 rfl⟩)
  | true =>
    dsimp only [iH]
    refine fy (.bl false) S' (fun R E r=>by simp only [hC]; exact r) ?_
    dsimp only [zS1,zS0]
    simp only [cC]
    rw [b8]
    simp only [hun,hV,zG0]
    have ff:∀ {R:HK},R (.tup ((fE P bs).map Fn.d)) S'→ba aO (cdS P bs st) S' R:=fun {R} r=>by
     rw [← kU P bs st]
     show ba aO (.obj 4 (kD P (fE P bs) st)) S' R
     unfold ba
     dsimp only
     rw [h1]
     exact r
    refine ff ?_
    refine dv (xs:=(fE P bs).map Fn.d) rfl ?_
    have flen:=nodup_len fa P.fs nd sub
    refine c7 (I:=fun j e S2=>∃ (fb:List Str) (gr:Bool) (x3:Option D),e=[some (cdS P bs st),some (.ref r),some (.bl gr),x3]∧S2 r=some (.lst (fb.map D.str))∧KeepA S S2∧fb.Nodup∧(∀ f ∈ fb,f ∈ P.fs)∧fb=(P.fs.take j).foldl (db bs) fa∧(gr=false→fb=fa)∧(gr=true→fa.length < fb.length)) _ (fun j d e S2 hdj ⟨fb,gr,x3,ee,hr2,k2,nd2,sub2,gf,g1,g2⟩=>?_) (fun e S2 ⟨fb,gr,x3,ee,hr2,k2,nd2,sub2,gf,g1,g2⟩=>?_) ⟨fa,false,_,rfl,hr1,k1,nd,sub,by rw [List.take_zero]; rfl,fun _=>rfl,fun h=>(by cases h)⟩
    ·subst ee
     have efn:(fE P bs).map Fn.d=P.fs.map fun x=>fnD x (bs x) (cntB (bs x)):=by
      unfold fE
      rw [List.map_map]
      rfl
     rw [efn,List.getElem?_map] at hdj
     obtain ⟨f,hf,rfl⟩:=Option.map_eq_some_iff.mp hdj
     have hfm:=List.mem_of_getElem? hf
     refine ⟨_,rfl,fun K hK=>?_⟩
     simp only [zS1,zS0]
     have tk:P.fs.take (j + 1)=P.fs.take j ++ [f]:=by rw [List.take_succ,hf]; rfl
     have flen2:=nodup_len fb P.fs nd2 sub2
     refine ifN (fun b S4=>(b=true↔f ∉ fb∧gJ (bO fb (bs f)))∧S4 r=some (.lst (fb.map D.str))∧KeepA S S4) (fun R E hR=>?_) (fun S4 ⟨b1,b3,b4⟩=>?_) (fun S4 ⟨b2,b3,b4⟩=>?_)
     ·simp only [dU,hB,hTr,hop,hun,an,fS,aa,ae,hV,zG0,zG1]
      refine (show ba cy (.obj 3 [.str f,aw (bs f),.int (cntB (bs f):Nat)]) S2 _ from ?_)
      have gn:∀ {R:HK} {S:Sto},R (.str f) S→ba cy (.obj 3 [.str f,aw (bs f),.int (cntB (bs f):Nat)]) S R:=fun {R S} r=>by
       unfold ba
       dsimp only
       rw [h2]
       exact r
      have gb:∀ {R:HK} {S:Sto},R (aw (bs f)) S→ba bV (.obj 3 [.str f,aw (bs f),.int (cntB (bs f):Nat)]) S R:=fun {R S} r=>by
       unfold ba
       dsimp only
       rw [h3]
       exact r
      refine gn ?_
      refine jn (neg:=true) (fY hr2) ?_
      show (match (!decide (f ∈ fb)) with | true=>_ | false=>_)
      by_cases hfb:f ∈ fb
      ·rw [decide_eq_true hfb]
       exact hR _ _ ⟨⟨fun h=>(by cases h),fun h=>absurd hfb h.1⟩,hr2,k2⟩
      ·rw [decide_eq_false hfb]
       show (ba bV (.obj 3 [.str f,aw (bs f),.int (cntB (bs f):Nat)]) S2 _)
       refine (show ba bV (.obj 3 [.str f,aw (bs f),.int (cntB (bs f):Nat)]) S2 _ from gb ?_)
       intro p hp
       have hpr:r ≠ p:=sne hr2 hp
       refine ⟨p,.ref r,fb,P,bs f,rfl,ai,.inr ⟨r,rfl,(ar hpr).trans hr2⟩,ok.good f hfm,ok.cnt f hfm,fun S3 wa k3=>⟨rfl,Rt.mk ?_⟩⟩
       refine ⟨p,P,_,rfl,wa,ml (ok.good f hfm) (ok.cnt f hfm),fun b hb=>?_⟩
       refine (show R b S3 from hR _ _ ⟨⟨fun h=>⟨hfb,hb.mp h⟩,fun h=>hb.mpr h.2⟩,k3 r _ hpr ((ar hpr).trans hr2),fun a m e=>?_⟩)
       have e2:=k2 a m e
       have hap:a ≠ p:=sne e2 hp
       exact k3 a m hap ((ar hap).trans e2)
     ·have hfire:=b1.mp rfl
      have hn:=hfire.1
      have es:fb ++ [f]=(P.fs.take (j + 1)).foldl (db bs) fa:=by
       rw [tk,List.foldl_append,← gf]
       exact (if_pos hfire).symm
      refine dC ?_
      simp only [aL,hMt,hun,aa,ae,hV,zG0,zG1]
      rw [cB b3]
      dsimp only
      refine (show ba cy (.obj 3 [.str f,aw (bs f),.int (cntB (bs f):Nat)]) S4 _ from ?_)
      unfold ba
      dsimp only
      rw [h2]
      dsimp only [zG0]
      refine fH b3 (by rw [List.length_map]; omega) ?_
      simp only [aK,hC,zS1,zS0]
      refine hK _ _ ⟨fb ++ [f],true,_,rfl,by rw [ai,List.map_append]; rfl,fun a m e=>?_,?_,?_,es,fun h=>(by cases h),fun _=>?_⟩
      ·rw [ar (fun e'=>by rw [e',hr] at e; cases e)]
       exact b4 a m e
      ·rw [List.nodup_append]
       refine ⟨nd2,by simp,fun a ha b hb2 e=>hn ?_⟩
       rw [List.mem_singleton.mp hb2] at e
       rw [← e]
       exact ha
      ·intro x hx
       rcases List.mem_append.mp hx with hx | hx
       ·exact sub2 x hx
       ·rw [List.mem_singleton.mp hx]
        exact hfm
      ·rw [List.length_append,List.length_singleton]
       cases gr with
       | true =>
         have:=g2 rfl
         omega
       | false =>
         rw [g1 rfl]
         omega
     ·refine (show K _ _ from hK _ _ ⟨fb,gr,_,rfl,b3,b4,nd2,sub2,?_,g1,g2⟩)
      rw [tk,List.foldl_append,← gf]
      refine (if_neg fun c=>?_).symm
      have:=b2.mpr c
      cases this
    ·subst ee
     have ln:(fE P bs).length=P.fs.length:=by unfold fE; rw [List.length_map]
     have flen2:=nodup_len fb P.fs nd2 sub2
     rw [List.length_map,ln,List.take_length] at gf
     have gf:fb=hW P.fs bs fa:=gf
     obtain ⟨k0,ek⟩:=hit
     refine ⟨2 * (P.fs.length - fb.length) + (if gr then 1 else 0),?_,fb,gr,_,rfl,hr2,k2,nd2,sub2,⟨k0 + 1,by rw [jo,← ek]; exact gf⟩,fun h=>?_,rfl⟩
     ·rw [em,if_pos rfl]
      cases gr with
      | true =>
        have:=g2 rfl
        rw [if_pos rfl]
        omega
      | false =>
        have:=g1 rfl
        rw [this,if_neg (by simp)]
        omega
     ·have e:=g1 h
      rw [e] at gf ⊢
      exact gf.symm
 subst ee
 simp only [aA,hV,zG0,zG1]
 refine ⟨.lst (fa.map D.str),S,(Vw.lst hr1).trans (Vw.less fun a m e=>?_),g fa h4⟩
 have:a ≠ r:=fun e'=>by rw [e',hr] at e; cases e
 rw [fR this]
 exact k1 a m e
end Hy
namespace Hy
open PySem PySem.Spec PyProof.Rows L2
inductive GK where
 | at_ (p:List Nat) (m:List Str)
 | out (w:Str)
abbrev GsT:=Str→List GK
abbrev EnG:=(List Nat × List Str) × (Option Stm × List GK)
def bi (gs:GsT) (w:Str) (l:List GK):GsT:=fun x=>if x=w then l else gs x
def bY (lp:Bool):List Str:=wOn :: af :: aQ lp
abbrev sE:=Bool→Bdy→List Nat→List Str→GsT→List EnG
def fg (lay:sE) (fa:List Str) (lp:Bool) (s:Stm) (path:List Nat) (mood:List Str) (gs:GsT):List GK × List EnG:=match s with
 | [.s w]=>(if w=af then gs af else if w=bP then gs wOn ++ gs af else gs w,[])
 | [.s w,.s x]=>(if w=bK then gs x else if w=aq then gs wOn ++ (if x ∈ fa then gs af else []) else gs wOn,[])
 | [.s _,.p a] =>
   let hd:=GK.at_ (path ++ [0,0]) mood :: gs wOn
   (hd,lay true a (path ++ [0]) mood (bi (bi (bi gs wOn hd) aH hd) cD (gs wOn)))
 | [.s w,.p a,.p b]=>if w=bX∨w=d7 then
  ([.at_ (path ++ [0,0]) mood,.at_ (path ++ [1,0]) mood],lay lp a (path ++ [0]) mood gs ++ lay lp b (path ++ [1]) mood gs)
   else if w=aM then
    ([.at_ (path ++ [0,0]) mood],lay lp a (path ++ [0]) mood (bi gs af [.at_ (path ++ [1,0]) mood]) ++ lay lp b (path ++ [1]) mood gs)
   else
    ([.at_ (path ++ [0,0]) mood],((bY lp).flatMap fun w=>lay lp b (path ++ [1]) (mood ++ [w]) (bi gs wOn (gs w))) ++ lay lp a (path ++ [0]) mood (fun w=>[.at_ (path ++ [1,0]) (mood ++ [w])]))
 | [.s _,.s _,.p a,.p b]=>([.at_ (path ++ [0,0]) mood,.at_ (path ++ [1,0]) mood],lay lp a (path ++ [0]) mood gs ++ lay lp b (path ++ [1]) mood gs)
 | _=>([],[])
def dN (lay:sE) (fa:List Str) (lp:Bool) (path:List Nat) (mood:List Str) (gs:GsT):Bdy→Nat→List EnG
 | [],_=>[]
 | s :: b,i =>
   let r:=fg lay fa lp s (path ++ [i]) mood (bi gs wOn [.at_ (path ++ [i + 1]) mood])
   r.2 ++ ((path ++ [i],mood),(some s,r.1)) :: dN lay fa lp path mood gs b (i + 1)
def bo (fa:List Str):Nat→sE
 | 0=>fun _ _ _ _ _=>[]
 | n + 1=>fun lp b path mood gs=>dN (bo fa n) fa lp path mood gs b 0 ++ [((path ++ [b.length],mood),(none,gs wOn))]
def kap (S:List SpL):Gl→GK
 | .sp n=>match S[n]? with
   | some s=>.at_ s.path s.mood
   | none=>.out wOn
 | .out w=>.out w
theorem uO {S:List SpL} {n:Nat} {s:SpL} (h:S[n]? = some s):kap S (.sp n) = .at_ s.path s.mood:=by
 show (match S[n]? with
  | some s=>GK.at_ s.path s.mood
  | none=>.out wOn)=_
 rw [h]
def enS (S:List SpL) (s:SpL):EnG:=((s.path,s.mood),(s.stm,s.nx.map (kap S)))
structure MapG (S:List SpL) (lp:Bool) (on:List Gl) (st:ce) (fl:List Gl) (gs:GsT):Prop where
 on:gs wOn=on.map (kap S)
 fl:gs af=fl.map (kap S)
 st:∀ w ∈ aQ lp,gs w=(st w).map (kap S)
theorem MapG.goals {S:List SpL} {lp:Bool} {on:List Gl} {st:ce} {fl:List Gl} {gs:GsT} (h:MapG S lp on st fl gs) {w:Str} (hw:w ∈ bY lp):gs w=(aV on st fl w).map (kap S):=by
 unfold aV
 rcases List.mem_cons.mp hw with rfl | hw
 ·rw [if_pos rfl]; exact h.on
 ·rcases List.mem_cons.mp hw with rfl | hw
  ·rw [if_neg (fun e=>wE.1 e.symm),if_pos rfl]; exact h.fl
  ·obtain ⟨e1,e2⟩:=wE.2.1 lp w hw
   rw [if_neg e1,if_neg e2]; exact h.st w hw
theorem MapG.setOn {S:List SpL} {lp:Bool} {on on':List Gl} {st:ce} {fl:List Gl} {gs:GsT} {l:List GK} (h:MapG S lp on st fl gs) (e:l=on'.map (kap S)):MapG S lp on' st fl (bi gs wOn l):=by
 refine ⟨?_,?_,fun w hw=>?_⟩
 ·unfold bi; rw [if_pos rfl]; exact e
 ·unfold bi; rw [if_neg (fun q=>wE.1 q.symm)]; exact h.fl
 ·unfold bi; rw [if_neg (wE.2.1 lp w hw).1]; exact h.st w hw
structure Same (S:List SpL) (k l:Nat) (es:List EnG):Prop where
 to:∀ e ∈ es,∃ i s,i < l∧S[k + i]? = some s∧e=enS S s
 of:∀ i,i < l→∀ s,S[k + i]? = some s→enS S s ∈ es
theorem Same.app {S:List SpL} {k l l':Nat} {a b:List EnG} (h:Same S k l a) (g:Same S (k + l) l' b):Same S k (l + l') (a ++ b):=by
 refine ⟨fun e he=>?_,fun i hi s hs=>?_⟩
 ·rcases List.mem_append.mp he with he | he
  ·obtain ⟨i,s,h1,h2,h3⟩:=h.to e he
   exact ⟨i,s,by omega,h2,h3⟩
  ·obtain ⟨i,s,h1,h2,h3⟩:=g.to e he
   exact ⟨l + i,s,by omega,by rw [← Nat.add_assoc]; exact h2,h3⟩
 ·by_cases hl:i < l
  ·exact List.mem_append_left _ (h.of i hl s hs)
  ·refine List.mem_append_right _ (g.of (i - l) (by omega) s ?_)
   rw [show k + l + (i - l)=k + i by omega]
   exact hs
theorem Same.perm {S:List SpL} {k l:Nat} {a b:List EnG} (h:Same S k l a) (p:∀ e,e ∈ a↔e ∈ b):Same S k l b:=⟨fun e he=>h.to e ((p e).mpr he),fun i hi s hs=>(p _).mp (h.of i hi s hs)⟩
theorem Same.nil {S:List SpL} {k:Nat}:Same S k 0 []:=⟨fun e he=>(by cases he),fun i hi=>absurd hi (Nat.not_lt_zero _)⟩
theorem yz {fa:List Str} {n k:Nat} {lp:Bool} {b:Bdy} {path:List Nat} {mood:List Str} {on:List Gl} {st:ce} {fl:List Gl} {loop:Bool}:∃ s r,ah fa (n + 1) k lp b path mood on st fl loop=s :: r∧s.path=path ++ [0]∧s.mood=mood:=by
 cases b with
 | nil=>exact ⟨_,_,rfl,rfl,rfl⟩
 | cons x b=>exact ⟨_,_,rfl,rfl,rfl⟩
theorem dR {S:List SpL} {fa:List Str} {n k:Nat} {lp:Bool} {b:Bdy} {path:List Nat} {mood:List Str} {on:List Gl} {st:ce} {fl:List Gl} {loop:Bool} (h:Sits S k (ah fa (n + 1) k lp b path mood on st fl loop)):kap S (.sp k) = .at_ (path ++ [0]) mood:=by
 obtain ⟨s,r,e,h1,h2⟩:=yz (fa:=fa) (n:=n) (k:=k) (lp:=lp) (b:=b) (path:=path) (mood:=mood) (on:=on) (st:=st) (fl:=fl) (loop:=loop)
 rw [e] at h
 rw [uO h.head,h1,h2]
def DO (S:List SpL) (fa:List Str) (P:PN) (n:Nat):Prop:=∀ (k:Nat) (lp:Bool) (b:Bdy) (path:List Nat) (mood:List Str) (on:List Gl) (st:ce) (fl:List Gl) (loop:Bool) (gs:GsT) (lv:Nat),(∀ x ∈ b,GoodS P lv lp x)→lv < n →
 Sits S k (ah fa n k lp b path mood on st fl loop)→MapG S lp ((if loop then [.sp k] else []) ++ on) st fl gs→Same S k (ah fa n k lp b path mood on st fl loop).length (bo fa n lp b path mood gs)
theorem AS (p:List Nat) (i j:Nat):p ++ [i] ++ [j]=p ++ [i,j]:=by rw [List.append_assoc]; rfl
theorem wsE {S:List SpL} {fa:List Str} {P:PN} {n:Nat} (ih:DO S fa P (n + 1)) {lp:Bool} {b:Bdy} {path:List Nat} {mood:List Str} {on:List Gl} {st:ce} {fl:List Gl} {gs:GsT} (hb:∀ x ∈ b,GoodS P 0 lp x) (hg:MapG S lp on st fl gs):∀ (ws:List Str) (k:Nat),(∀ w ∈ ws,w ∈ bY lp) →
 Sits S k (bC (ah fa (n + 1)) lp b path mood on st fl ws k).2→Same S k (bC (ah fa (n + 1)) lp b path mood on st fl ws k).2.length (ws.flatMap fun w=>bo fa (n + 1) lp b path (mood ++ [w]) (bi gs wOn (gs w))) ∧
  ∀ w ∈ ws,kap S (.sp (eJ (bC (ah fa (n + 1)) lp b path mood on st fl ws k).1 w)) = .at_ (path ++ [0]) (mood ++ [w])
 | [],k,_,_=>⟨.nil,fun w hw=>(by cases hw)⟩
 | w0 :: ws,k,hw,h=>by
   have e:bC (ah fa (n + 1)) lp b path mood on st fl (w0 :: ws) k=((w0,k) :: (bC (ah fa (n + 1)) lp b path mood on st fl ws (k + (ah fa (n + 1) k lp b path (mood ++ [w0]) (aV on st fl w0) st fl false).length)).1,ah fa (n + 1) k lp b path (mood ++ [w0]) (aV on st fl w0) st fl false ++ (bC (ah fa (n + 1)) lp b path mood on st fl ws (k + (ah fa (n + 1) k lp b path (mood ++ [w0]) (aV on st fl w0) st fl false).length)).2):=rfl
   rw [e] at h ⊢
   dsimp only at h ⊢
   have i1:=ih k lp b path (mood ++ [w0]) (aV on st fl w0) st fl false (bi gs wOn (gs w0)) 0 hb (Nat.zero_lt_succ _) h.left (hg.setOn (hg.goals (hw w0 zMs)))
   obtain ⟨j1,j2⟩:=wsE ih hb hg ws _ (fun w h'=>hw w (zMt h')) h.right
   refine ⟨?_,fun w h'=>?_⟩
   ·rw [List.length_append,List.flatMap_cons]
    exact i1.app j1
   ·rw [zP]
    by_cases ew:w0=w
    ·subst ew
     rw [if_pos rfl]
     exact dR h.left
    ·rw [if_neg ew]
     exact j2 w ((List.mem_cons.mp h').resolve_left fun q=>ew q.symm)
theorem eM {gs:GsT} {w x:Str} {l:List GK} (h:x ≠ w):bi gs w l x=gs x:=if_neg h
theorem gO {gs:GsT} {w:Str} {l:List GK}:bi gs w l w=l:=if_pos rfl
theorem MapG.setFl {S:List SpL} {lp:Bool} {on:List Gl} {st:ce} {fl fl':List Gl} {gs:GsT} {l:List GK} (h:MapG S lp on st fl gs) (e:l=fl'.map (kap S)):MapG S lp on st fl' (bi gs af l):=by
 refine ⟨?_,by rw [gO]; exact e,fun w hw=>?_⟩
 ·rw [eM wE.1]; exact h.on
 ·rw [eM (wE.2.1 lp w hw).2]; exact h.st w hw
theorem GZ:aH ≠ cD∧wOn ≠ aH∧wOn ≠ cD∧af ≠ wOn∧af ≠ aH∧af ≠ cD:=by decide +kernel
theorem FV {S:List SpL} {fa:List Str} {P:PN} {n:Nat} (ih:DO S fa P n) {k:Nat} {lp:Bool} {s:Stm} {path:List Nat} {mood:List Str} {on:List Gl} {st:ce} {fl:List Gl} {gs:GsT} (hs:StmK P n lp s)
 (h:Sits S k (bE (ah fa n) fa k lp s path mood on st fl).2) (hg:MapG S lp on st fl gs) :
 (fg (bo fa n) fa lp s path mood gs).1=(bE (ah fa n) fa k lp s path mood on st fl).1.map (kap S)∧Same S k (bE (ah fa n) fa k lp s path mood on st fl).2.length (fg (bo fa n) fa lp s path mood gs).2:=by
 cases hs with
 | jump w hw hl =>
   obtain ⟨z2,z3,z4⟩:w ∈ aQ true∧w ≠ af∧w ≠ bP:=(by decide +kernel:∀ z ∈ [aH,cD],z ∈ aQ true∧z ≠ af∧z ≠ bP) w hw
   refine ⟨?_,Same.nil⟩
   show (if w=af then gs af else if w=bP then gs wOn ++ gs af else gs w)=(if w=af then fl else if w=bP then on ++ fl else st w).map (kap S)
   rw [if_neg z3,if_neg z4,if_neg z3,if_neg z4]
   exact hg.st w (by rw [hl]; exact z2)
 | stop x hx =>
   refine ⟨?_,Same.nil⟩
   show (if bK=bK then gs x else if bK=aq then gs wOn ++ (if x ∈ fa then gs af else []) else gs wOn)=(if bK=bK then st x else if bK=aq then on ++ (if x ∈ fa then fl else []) else on).map (kap S)
   rw [if_pos rfl,if_pos rfl]
   refine hg.st x ?_
   simp only [List.mem_cons,List.not_mem_nil,or_false] at hx
   rcases hx with rfl | rfl
   ·exact (dom_words.1 lp).1
   ·exact (dom_words.1 lp).2
 | fault =>
   refine ⟨?_,Same.nil⟩
   show (if af=af then gs af else if af=bP then gs wOn ++ gs af else gs af)=(if af=af then fl else if af=bP then on ++ fl else st af).map (kap S)
   rw [if_pos rfl,if_pos rfl]
   exact hg.fl
 | may =>
   have z3:bP ≠ af:=by decide +kernel
   refine ⟨?_,Same.nil⟩
   show (if bP=af then gs af else if bP=bP then gs wOn ++ gs af else gs bP)=(if bP=af then fl else if bP=bP then on ++ fl else st bP).map (kap S)
   rw [if_neg z3,if_pos rfl,if_neg z3,if_pos rfl,List.map_append,hg.on,hg.fl]
 | deeper f =>
   refine ⟨?_,Same.nil⟩
   show (if aq=bK then gs f else if aq=aq then gs wOn ++ (if f ∈ fa then gs af else []) else gs wOn)=(if aq=bK then st f else if aq=aq then on ++ (if f ∈ fa then fl else []) else on).map (kap S)
   rw [if_neg two_kinds.2.1,if_pos rfl,if_neg two_kinds.2.1,if_pos rfl,List.map_append,hg.on]
   congr 1
   split
   ·exact hg.fl
   ·rfl
 | deed z x hz =>
   obtain ⟨z1,z2⟩:=two_kinds.1 z hz
   refine ⟨?_,Same.nil⟩
   show (if z=bK then gs x else if z=aq then gs wOn ++ (if x ∈ fa then gs af else []) else gs wOn)=(if z=bK then st x else if z=aq then on ++ (if x ∈ fa then fl else []) else on).map (kap S)
   rw [if_neg z1,if_neg z2,if_neg z1,if_neg z2]
   exact hg.on
 | tries a m hm ga =>
   obtain ⟨n,rfl⟩:∃ n',n=n' + 1:=⟨n - 1,by omega⟩
   have h:Sits S k (ah fa (n + 1) k true a (path ++ [0]) mood on (fun w=>if w=aH then .sp k :: on else if w=cD then on else st w) fl true):=h
   have hk:=dR h
   rw [AS] at hk
   have ehd:GK.at_ (path ++ [0,0]) mood :: gs wOn=(Gl.sp k :: on).map (kap S):=by rw [List.map_cons,hk,hg.on]
   obtain ⟨t1,t2,t3,t4,t5,t6⟩:=GZ
   refine ⟨ehd,ih k true a (path ++ [0]) mood on _ fl true _ m ga hm h ⟨?_,?_,fun w hw=>?_⟩⟩
   ·show bi (bi (bi gs wOn _) aH _) cD _ wOn=([Gl.sp k] ++ on).map (kap S)
    rw [eM t3,eM t2,gO]
    exact ehd
   ·rw [eM t6,eM t5,eM t4]
    exact hg.fl
   ·by_cases e2:w=cD
    ·subst e2
     rw [gO]
     show _=(if cD=aH then Gl.sp k :: on else if cD=cD then on else st cD).map (kap S)
     rw [if_neg (fun e=>t1 e.symm),if_pos rfl]
     exact hg.on
    ·rw [eM e2]
     show _=(if w=aH then Gl.sp k :: on else if w=cD then on else st w).map (kap S)
     by_cases e1:w=aH
     ·subst e1
      rw [gO,if_pos rfl]
      exact ehd
     ·rw [eM e1,eM (wE.2.1 true w hw).1,if_neg e1,if_neg e2]
      exact hg.st w (uJ hw e1 e2)
 | two w a b m hw hm ga gb =>
   obtain ⟨n,rfl⟩:∃ n',n=n' + 1:=⟨n - 1,by omega⟩
   have hz2:w=bX∨w=d7:=by simpa using hw
   have e:bE (ah fa (n + 1)) fa k lp [.s w,.p a,.p b] path mood on st fl=([.sp k,.sp (k + (ah fa (n + 1) k lp a (path ++ [0]) mood on st fl false).length)],ah fa (n + 1) k lp a (path ++ [0]) mood on st fl false ++ ah fa (n + 1) (k + (ah fa (n + 1) k lp a (path ++ [0]) mood on st fl false).length) lp b (path ++ [1]) mood on st fl false):=by
    unfold bE
    dsimp only
    rw [if_pos hz2]
   have eG:fg (bo fa (n + 1)) fa lp [.s w,.p a,.p b] path mood gs=([.at_ (path ++ [0,0]) mood,.at_ (path ++ [1,0]) mood],bo fa (n + 1) lp a (path ++ [0]) mood gs ++ bo fa (n + 1) lp b (path ++ [1]) mood gs):=by
    unfold fg
    dsimp only
    rw [if_pos hz2]
   rw [e] at h ⊢
   rw [eG]
   dsimp only at h ⊢
   have k1:=dR h.left
   have k2:=dR h.right
   rw [AS] at k1 k2
   refine ⟨by rw [List.map_cons,List.map_cons,k1,k2]; rfl,?_⟩
   rw [List.length_append]
   exact (ih k lp a (path ++ [0]) mood on st fl false gs m ga hm h.left hg).app (ih _ lp b (path ++ [1]) mood on st fl false gs m gb hm h.right hg)
 | look c a b m hm ga gb =>
   obtain ⟨n,rfl⟩:∃ n',n=n' + 1:=⟨n - 1,by omega⟩
   have h:Sits S k (ah fa (n + 1) k lp a (path ++ [0]) mood on st fl false ++ ah fa (n + 1) (k + (ah fa (n + 1) k lp a (path ++ [0]) mood on st fl false).length) lp b (path ++ [1]) mood on st fl false):=h
   have k1:=dR h.left
   have k2:=dR h.right
   rw [AS] at k1 k2
   refine ⟨?_,?_⟩
   ·show [GK.at_ (path ++ [0,0]) mood,.at_ (path ++ [1,0]) mood]=([.sp k,.sp (k + (ah fa (n + 1) k lp a (path ++ [0]) mood on st fl false).length)]:List Gl).map (kap S)
    rw [List.map_cons,List.map_cons,k1,k2]; rfl
   ·show Same S k (ah fa (n + 1) k lp a (path ++ [0]) mood on st fl false ++ ah fa (n + 1) (k + (ah fa (n + 1) k lp a (path ++ [0]) mood on st fl false).length) lp b (path ++ [1]) mood on st fl false).length (bo fa (n + 1) lp a (path ++ [0]) mood gs ++ bo fa (n + 1) lp b (path ++ [1]) mood gs)
    rw [List.length_append]
    exact (ih k lp a (path ++ [0]) mood on st fl false gs m ga hm h.left hg).app (ih _ lp b (path ++ [1]) mood on st fl false gs m gb hm h.right hg)
 | guard a b m hm ga gb =>
   obtain ⟨n,rfl⟩:∃ n',n=n' + 1:=⟨n - 1,by omega⟩
   have z7:¬ (aM=bX∨aM=d7):=by decide +kernel
   have e:bE (ah fa (n + 1)) fa k lp [.s aM,.p a,.p b] path mood on st fl=([.sp (k + (ah fa (n + 1) k lp b (path ++ [1]) mood on st fl false).length)],ah fa (n + 1) k lp b (path ++ [1]) mood on st fl false ++ ah fa (n + 1) (k + (ah fa (n + 1) k lp b (path ++ [1]) mood on st fl false).length) lp a (path ++ [0]) mood on st [.sp k] false):=by
    unfold bE
    dsimp only
    rw [if_neg z7,if_pos rfl]
   have eG:fg (bo fa (n + 1)) fa lp [.s aM,.p a,.p b] path mood gs=([.at_ (path ++ [0,0]) mood],bo fa (n + 1) lp a (path ++ [0]) mood (bi gs af [.at_ (path ++ [1,0]) mood]) ++ bo fa (n + 1) lp b (path ++ [1]) mood gs):=by
    unfold fg
    dsimp only
    rw [if_neg z7,if_pos rfl]
   rw [e] at h ⊢
   rw [eG]
   dsimp only at h ⊢
   have k1:=dR h.left
   have k2:=dR h.right
   rw [AS] at k1 k2
   refine ⟨by rw [List.map_cons,k2]; rfl,?_⟩
   rw [List.length_append]
   have s1:=ih k lp b (path ++ [1]) mood on st fl false gs m gb hm h.left hg
   have s2:=ih _ lp a (path ++ [0]) mood on st [.sp k] false (bi gs af [.at_ (path ++ [1,0]) mood]) m ga hm h.right (hg.setFl (by rw [List.map_cons,k1]; rfl))
   exact (s1.app s2).perm fun x=>by rw [List.mem_append,List.mem_append,or_comm]
 | lastly a b m hm ga gb =>
   obtain ⟨n,rfl⟩:∃ n',n=n' + 1:=⟨n - 1,by omega⟩
   have z1:¬ (am=bX∨am=d7):=by decide +kernel
   have z2:am ≠ aM:=by decide +kernel
   have e:bE (ah fa (n + 1)) fa k lp [.s am,.p a,.p b] path mood on st fl=([.sp (k + (bC (ah fa (n + 1)) lp b (path ++ [1]) mood on st fl (aQ lp ++ [wOn,af]) k).2.length)],(bC (ah fa (n + 1)) lp b (path ++ [1]) mood on st fl (aQ lp ++ [wOn,af]) k).2 ++ ah fa (n + 1) (k + (bC (ah fa (n + 1)) lp b (path ++ [1]) mood on st fl (aQ lp ++ [wOn,af]) k).2.length) lp a (path ++ [0]) mood [.sp (eJ (bC (ah fa (n + 1)) lp b (path ++ [1]) mood on st fl (aQ lp ++ [wOn,af]) k).1 wOn)] (fun w=>[.sp (eJ (bC (ah fa (n + 1)) lp b (path ++ [1]) mood on st fl (aQ lp ++ [wOn,af]) k).1 w)]) [.sp (eJ (bC (ah fa (n + 1)) lp b (path ++ [1]) mood on st fl (aQ lp ++ [wOn,af]) k).1 af)] false):=by
    unfold bE
    dsimp only
    rw [if_neg z1,if_neg z2]
   have eG:fg (bo fa (n + 1)) fa lp [.s am,.p a,.p b] path mood gs=([.at_ (path ++ [0,0]) mood],((bY lp).flatMap fun w=>bo fa (n + 1) lp b (path ++ [1]) (mood ++ [w]) (bi gs wOn (gs w))) ++ bo fa (n + 1) lp a (path ++ [0]) mood (fun w=>[.at_ (path ++ [1,0]) (mood ++ [w])])):=by
    unfold fg
    dsimp only
    rw [if_neg z1,if_neg z2]
   rw [e] at h ⊢
   rw [eG]
   dsimp only at h ⊢
   have hws:∀ w ∈ aQ lp ++ [wOn,af],w ∈ bY lp:=fun w hw=>by
    unfold bY
    rcases List.mem_append.mp hw with hw | hw
    ·exact zMt (zMt hw)
    ·simp only [List.mem_cons,List.not_mem_nil,or_false] at hw
     rcases hw with rfl | rfl
     ·exact zMs
     ·exact zMt zMs
   obtain ⟨j1,j2⟩:=wsE ih (fun x hx=>GoodS.simp (.inl (gb x hx))) hg (aQ lp ++ [wOn,af]) k hws h.left
   have hr:=h.right
   generalize bC (ah fa (n + 1)) lp b (path ++ [1]) mood on st fl (aQ lp ++ [wOn,af]) k=r at h hr j1 j2 ⊢
   have k2:=dR hr
   rw [AS] at k2
   have kk:∀ w ∈ aQ lp ++ [wOn,af],[GK.at_ (path ++ [1,0]) (mood ++ [w])]=([.sp (eJ r.1 w)]:List Gl).map (kap S):=fun w hw=>by
    have:=j2 w hw
    rw [AS] at this
    rw [List.map_cons,this]; rfl
   refine ⟨by rw [List.map_cons,k2]; rfl,?_⟩
   rw [List.length_append]
   have s2:=ih _ lp a (path ++ [0]) mood _ _ _ false (fun w=>[.at_ (path ++ [1,0]) (mood ++ [w])]) m ga hm hr ⟨kk wOn (by simp),kk af (by simp),fun w hw=>kk w (List.mem_append_left _ hw)⟩
   refine (j1.perm fun x=>?_).app s2
   simp only [List.mem_flatMap]
   refine ⟨fun ⟨w,hw,hx⟩=>⟨w,hws w hw,hx⟩,fun ⟨w,hw,hx⟩=>⟨w,?_,hx⟩⟩
   unfold bY at hw
   rcases List.mem_cons.mp hw with rfl | hw
   ·simp
   ·rcases List.mem_cons.mp hw with rfl | hw
    ·simp
    ·exact List.mem_append_left _ hw
theorem wV {S:List SpL} {fa:List Str} {P:PN} {n:Nat} (ih:DO S fa P n) {k:Nat} {lp:Bool} {path:List Nat} {mood:List Str} {on:List Gl} {st:ce} {fl:List Gl} {gs:GsT} (hg:MapG S lp on st fl gs) {tot:Nat} (hp:∀ j,j≤tot→kap S (.sp (k + j)) = .at_ (path ++ [j]) mood) :
 ∀ (b:Bdy) (i L:Nat),i + b.length=tot→(∀ x ∈ b,StmK P n lp x)→Sits S (k + i) (bx (ah fa n) fa k lp path mood st fl b i L).1→Sits S L (bx (ah fa n) fa k lp path mood st fl b i L).2 →
  ∃ A B,(∀ e,e ∈ dN (bo fa n) fa lp path mood gs b i↔e ∈ A ++ B)∧Same S (k + i) b.length A∧Same S L (bx (ah fa n) fa k lp path mood st fl b i L).2.length B
 | [],i,L,_,_,_,_=>⟨[],[],fun e=>Iff.rfl,.nil,.nil⟩
 | s :: b,i,L,ht,hs,h1,h2=>by
   rw [List.length_cons] at ht
   have e:bx (ah fa n) fa k lp path mood st fl (s :: b) i L=(⟨path ++ [i],mood,some s,(bE (ah fa n) fa L lp s (path ++ [i]) mood [.sp (k + i + 1)] st fl).1⟩ :: (bx (ah fa n) fa k lp path mood st fl b (i + 1) (L + (bE (ah fa n) fa L lp s (path ++ [i]) mood [.sp (k + i + 1)] st fl).2.length)).1,(bE (ah fa n) fa L lp s (path ++ [i]) mood [.sp (k + i + 1)] st fl).2 ++ (bx (ah fa n) fa k lp path mood st fl b (i + 1) (L + (bE (ah fa n) fa L lp s (path ++ [i]) mood [.sp (k + i + 1)] st fl).2.length)).2):=rfl
   rw [e] at h1 h2 ⊢
   dsimp only at h1 h2 ⊢
   have on1:MapG S lp [.sp (k + i + 1)] st fl (bi gs wOn [.at_ (path ++ [i + 1]) mood]):=hg.setOn (by rw [List.map_cons,Nat.add_assoc,hp (i + 1) (by omega)]; rfl)
   obtain ⟨a1,a2⟩:=FV ih (hs s zMs) h2.left on1
   obtain ⟨A,B,g1,g2,g3⟩:=wV ih hg hp b (i + 1) _ (by omega) (fun x hx=>hs x (zMt hx)) (by rw [← Nat.add_assoc]; exact h1.tail) h2.right
   have hd:=h1.head
   refine ⟨enS S ⟨path ++ [i],mood,some s,(bE (ah fa n) fa L lp s (path ++ [i]) mood [.sp (k + i + 1)] st fl).1⟩ :: A,(fg (bo fa n) fa lp s (path ++ [i]) mood (bi gs wOn [.at_ (path ++ [i + 1]) mood])).2 ++ B,fun x=>?_,?_,?_⟩
   ·show x ∈ (fg (bo fa n) fa lp s (path ++ [i]) mood (bi gs wOn [.at_ (path ++ [i + 1]) mood])).2 ++ ((path ++ [i],mood),(some s,(fg (bo fa n) fa lp s (path ++ [i]) mood (bi gs wOn [.at_ (path ++ [i + 1]) mood])).1)) :: dN (bo fa n) fa lp path mood gs b (i + 1)↔_
    rw [a1]
    simp only [List.mem_append,List.mem_cons,g1]
    unfold enS
    dsimp only
    constructor
    ·rintro (h | h | h | h)
     ·exact .inr (.inl h)
     ·exact .inl (.inl h)
     ·exact .inl (.inr h)
     ·exact .inr (.inr h)
    ·rintro ((h | h) | (h | h))
     ·exact .inr (.inl h)
     ·exact .inr (.inr (.inl h))
     ·exact .inl h
     ·exact .inr (.inr (.inr h))
   ·have one:Same S (k + i) 1 [enS S ⟨path ++ [i],mood,some s,(bE (ah fa n) fa L lp s (path ++ [i]) mood [.sp (k + i + 1)] st fl).1⟩]:=⟨fun e he=>⟨0,_,Nat.zero_lt_one,hd,List.mem_singleton.mp he⟩,fun j hj z hz=>by
     have:j=0:=by omega
     subst this
     rw [Nat.add_zero,hd] at hz
     cases hz
     exact List.mem_singleton.mpr rfl⟩
    have:=one.app (b:=A) (l':=b.length) (by rw [Nat.add_assoc]; exact g2)
    rw [List.length_cons,Nat.add_comm b.length 1]
    exact this
   ·rw [List.length_append]
    exact a2.app g3
theorem zR {S:List SpL} {fa:List Str} {P:PN}:∀ n:Nat,DO S fa P n
 | 0=>fun k lp b path mood on st fl loop gs lv hb hl=>absurd hl (Nat.not_lt_zero _)
 | n + 1=>fun k lp b path mood on st fl loop gs lv hb hl h hg=>by
   have e:ah fa (n + 1) k lp b path mood on st fl loop=(bx (ah fa n) fa k lp path mood st fl b 0 (k + b.length + 1)).1 ++ ⟨path ++ [b.length],mood,none,(if loop then [.sp k] else []) ++ on⟩ :: (bx (ah fa n) fa k lp path mood st fl b 0 (k + b.length + 1)).2:=rfl
   rw [e] at h ⊢
   have l1:(bx (ah fa n) fa k lp path mood st fl b 0 (k + b.length + 1)).1.length=b.length:=jm b 0 _
   have s1:=h.left
   have s2:=h.right
   rw [l1] at s2
   have s3:=s2.tail
   have hp:∀ j,j≤b.length→kap S (.sp (k + j)) = .at_ (path ++ [j]) mood:=by
    intro j hj
    rcases Nat.lt_or_eq_of_le hj with hj | rfl
    ·have:=s1 j (by rw [l1]; exact hj)
     obtain ⟨z,hz⟩:∃ z,(bx (ah fa n) fa k lp path mood st fl b 0 (k + b.length + 1)).1[j]? = some z:=⟨_,List.getElem?_eq_getElem (by rw [l1]; exact hj)⟩
     rw [hz] at this
     rw [uO this]
     have pos:∀ (b:Bdy) (i L j:Nat) (z:SpL),(bx (ah fa n) fa k lp path mood st fl b i L).1[j]? = some z→z.path=path ++ [i + j]∧z.mood=mood:=by
      intro b
      induction b with
      | nil=>intro i L j z hz; simp [bx] at hz
      | cons x b ihb =>
        intro i L j z hz
        cases j with
        | zero =>
          simp only [bx,zG0,Option.some.injEq] at hz
          subst hz
          exact ⟨rfl,rfl⟩
        | succ j =>
          simp only [bx,zG1] at hz
          have:=ihb _ _ _ _ hz
          rw [show i + (j + 1)=i + 1 + j by omega]
          exact this
     obtain ⟨q1,q2⟩:=pos _ _ _ _ _ hz
     rw [q1,q2,Nat.zero_add]
    ·rw [uO s2.head]
   obtain ⟨A,B,g1,g2,g3⟩:=wV (zR n) (on:=(if loop then [.sp k] else []) ++ on) hg hp b 0 (k + b.length + 1) (by omega) (fun x hx=>AM (hb x hx) (by omega)) s1 s3
   have one:Same S (k + b.length) 1 [((path ++ [b.length],mood),(none,gs wOn))]:=by
    refine ⟨fun e he=>⟨0,_,Nat.zero_lt_one,s2.head,?_⟩,fun j hj z hz=>?_⟩
    ·rw [List.mem_singleton.mp he,hg.on]; rfl
    ·have:j=0:=by omega
     subst this
     rw [Nat.add_zero,s2.head] at hz
     cases hz
     rw [List.mem_singleton,hg.on]; rfl
   have all:=(g2.app (b:=[((path ++ [b.length],mood),(none,gs wOn))]) (l':=1) (by rw [Nat.add_zero]; exact one)).app (b:=B) (l':=(bx (ah fa n) fa k lp path mood st fl b 0 (k + b.length + 1)).2.length) (by rw [Nat.add_zero,← Nat.add_assoc]; exact g3)
   rw [List.length_append,List.length_cons,l1,← Nat.add_assoc,Nat.add_right_comm]
   refine Same.perm (a:=A ++ [((path ++ [b.length],mood),(none,gs wOn))] ++ B) (by simpa using all) fun x=>?_
   show _↔x ∈ dN (bo fa n) fa lp path mood gs b 0 ++ [((path ++ [b.length],mood),(none,gs wOn))]
   simp only [List.mem_append,g1]
   constructor
   ·rintro ((h | h) | h)
    ·exact .inl (.inl h)
    ·exact .inr h
    ·exact .inl (.inr h)
   ·rintro ((h | h) | h)
    ·exact .inl (.inl h)
    ·exact .inr h
    ·exact .inl (.inr h)
abbrev gA (s:SpL):List Nat × List Str:=(s.path,s.mood)
theorem kY {a b:List SpL} (h1:(a.map gA).Nodup) (h2:(b.map gA).Nodup) (h:∀ x ∈ a,∀ y ∈ b,gA x ≠ gA y):((a ++ b).map gA).Nodup:=by
 rw [List.map_append,List.nodup_append]
 refine ⟨h1,h2,fun x hx y hy e=>?_⟩
 obtain ⟨u,hu,rfl⟩:=List.mem_map.mp hx
 obtain ⟨v,hv,rfl⟩:=List.mem_map.mp hy
 exact h u hu v hv e
def Below (p:List Nat) (m:List Str) (s:SpL):Prop:=∃ j r q,s.path=p ++ j :: r∧s.mood=m ++ q∧∀ w ∈ q,w ∈ aQ true ++ [wOn,af]
theorem Below.apart {p:List Nat} {c d:Nat} {m m':List Str} {x y:SpL} (h:Below (p ++ [c]) m x) (k:Below (p ++ [d]) m' y) (ne:c ≠ d):gA x ≠ gA y:=by
 obtain ⟨j,r,q,h1,h2,_⟩:=h
 obtain ⟨j',r',q',k1,k2,_⟩:=k
 intro e
 have e1:x.path=y.path:=congrArg Prod.fst e
 rw [h1,k1,List.append_assoc,List.append_assoc] at e1
 have:=List.append_cancel_left e1
 exact ne (List.cons.inj this).1
theorem Below.mood {p:List Nat} {m:List Str} {w w':Str} {x y:SpL} (h:Below p (m ++ [w]) x) (k:Below p (m ++ [w']) y) (ne:w ≠ w'):gA x ≠ gA y:=by
 obtain ⟨j,r,q,h1,h2,_⟩:=h
 obtain ⟨j',r',q',k1,k2,_⟩:=k
 intro e
 have e1:x.mood=y.mood:=congrArg Prod.snd e
 rw [h2,k2,List.append_assoc,List.append_assoc] at e1
 have:=List.append_cancel_left e1
 exact ne (List.cons.inj this).1
theorem Below.up {p:List Nat} {c:Nat} {m:List Str} {s:SpL} (h:Below (p ++ [c]) m s):Below p m s:=by
 obtain ⟨j,r,q,h1,h2,h3⟩:=h
 exact ⟨c,j :: r,q,by rw [h1,List.append_assoc]; rfl,h2,h3⟩
theorem Below.upM {p:List Nat} {m:List Str} {w:Str} {s:SpL} (h:Below p (m ++ [w]) s) (hw:w ∈ aQ true ++ [wOn,af]):Below p m s:=by
 obtain ⟨j,r,q,h1,h2,h3⟩:=h
 exact ⟨j,r,w :: q,h1,by rw [h2,List.append_assoc]; rfl,fun x hx=>(List.mem_cons.mp hx).elim (fun e=>e ▸ hw) (h3 x)⟩
theorem FW:∀ lp,∀ w ∈ aQ lp ++ [wOn,af],w ∈ aQ true ++ [wOn,af]:=fun lp=>by cases lp <;> decide +kernel
def DP (fa:List Str) (P:PN) (n:Nat):Prop:=∀ (k:Nat) (lp:Bool) (b:Bdy) (path:List Nat) (mood:List Str) (on:List Gl) (st:ce) (fl:List Gl) (loop:Bool) (lv:Nat),(∀ x ∈ b,GoodS P lv lp x)→lv < n →
 (∀ s ∈ ah fa n k lp b path mood on st fl loop,Below path mood s)∧((ah fa n k lp b path mood on st fl loop).map gA).Nodup
theorem CA {fa:List Str} {P:PN} {n:Nat} (ih:DP fa P (n + 1)) {lp:Bool} {b:Bdy} {path:List Nat} {mood:List Str} {on:List Gl} {st:ce} {fl:List Gl} (hb:∀ x ∈ b,GoodS P 0 lp x):∀ (ws:List Str) (k:Nat),ws.Nodup →
 (∀ s ∈ (bC (ah fa (n + 1)) lp b path mood on st fl ws k).2,∃ w ∈ ws,Below path (mood ++ [w]) s)∧((bC (ah fa (n + 1)) lp b path mood on st fl ws k).2.map gA).Nodup
 | [],k,_=>⟨fun s hs=>(by cases hs),List.nodup_nil⟩
 | w0 :: ws,k,hn=>by
   obtain ⟨n1,n2⟩:=List.nodup_cons.mp hn
   obtain ⟨i1,i2⟩:=ih k lp b path (mood ++ [w0]) (aV on st fl w0) st fl false 0 hb (Nat.zero_lt_succ _)
   obtain ⟨j1,j2⟩:=CA ih (path:=path) (mood:=mood) (on:=on) (st:=st) (fl:=fl) hb ws (k + (ah fa (n + 1) k lp b path (mood ++ [w0]) (aV on st fl w0) st fl false).length) n2
   have e:(bC (ah fa (n + 1)) lp b path mood on st fl (w0 :: ws) k).2=ah fa (n + 1) k lp b path (mood ++ [w0]) (aV on st fl w0) st fl false ++ (bC (ah fa (n + 1)) lp b path mood on st fl ws (k + (ah fa (n + 1) k lp b path (mood ++ [w0]) (aV on st fl w0) st fl false).length)).2:=rfl
   rw [e]
   refine ⟨fun s hs=>?_,kY i2 j2 fun x hx y hy=>?_⟩
   ·rcases List.mem_append.mp hs with hs | hs
    ·exact ⟨w0,zMs,i1 s hs⟩
    ·obtain ⟨w,h1,h2⟩:=j1 s hs
     exact ⟨w,zMt h1,h2⟩
   ·obtain ⟨w,h1,h2⟩:=j1 y hy
    exact (i1 x hx).mood h2 fun e=>n1 (by rw [e]; exact h1)
theorem CB:∀ lp,(aQ lp ++ [wOn,af]).Nodup:=fun lp=>by cases lp <;> decide +kernel
theorem DQ {fa:List Str} {P:PN} {n:Nat} (ih:DP fa P n) {k:Nat} {lp:Bool} {s:Stm} {path:List Nat} {mood:List Str} {on:List Gl} {st:ce} {fl:List Gl} (hs:StmK P n lp s) :
 (∀ x ∈ (bE (ah fa n) fa k lp s path mood on st fl).2,∃ c,Below (path ++ [c]) mood x)∧((bE (ah fa n) fa k lp s path mood on st fl).2.map gA).Nodup:=by
 have none_:(∀ x ∈ ([]:List SpL),∃ c,Below (path ++ [c]) mood x)∧(([]:List SpL).map gA).Nodup:=⟨fun x hx=>(by cases hx),List.nodup_nil⟩
 have pair:∀ {c d:Nat} {a b:List SpL},c ≠ d→(∀ x ∈ a,Below (path ++ [c]) mood x)→(∀ x ∈ b,Below (path ++ [d]) mood x)→(a.map gA).Nodup→(b.map gA).Nodup→(∀ x ∈ a ++ b,∃ c,Below (path ++ [c]) mood x)∧((a ++ b).map gA).Nodup:=fun ne h1 h2 h3 h4 =>
  ⟨fun x hx=>(List.mem_append.mp hx).elim (fun h=>⟨_,h1 x h⟩) fun h=>⟨_,h2 x h⟩,kY h3 h4 fun x hx y hy=>(h1 x hx).apart (h2 y hy) ne⟩
 cases hs with
 | jump w hw hl=>exact none_
 | stop x hx=>exact none_
 | fault=>exact none_
 | may=>exact none_
 | deeper f=>exact none_
 | deed z x hz=>exact none_
 | tries a m hm ga =>
   obtain ⟨i1,i2⟩:=ih k true a (path ++ [0]) mood on (fun w=>if w=aH then .sp k :: on else if w=cD then on else st w) fl true m ga hm
   exact ⟨fun x hx=>⟨0,i1 x hx⟩,i2⟩
 | two w a b m hw hm ga gb =>
   have hz2:w=bX∨w=d7:=by simpa using hw
   obtain ⟨i1,i2⟩:=ih k lp a (path ++ [0]) mood on st fl false m ga hm
   obtain ⟨j1,j2⟩:=ih (k + (ah fa n k lp a (path ++ [0]) mood on st fl false).length) lp b (path ++ [1]) mood on st fl false m gb hm
   have e:(bE (ah fa n) fa k lp [.s w,.p a,.p b] path mood on st fl).2=ah fa n k lp a (path ++ [0]) mood on st fl false ++ ah fa n (k + (ah fa n k lp a (path ++ [0]) mood on st fl false).length) lp b (path ++ [1]) mood on st fl false:=by
    unfold bE
    dsimp only
    rw [if_pos hz2]
   rw [e]
   exact pair (by decide) i1 j1 i2 j2
 | look c a b m hm ga gb =>
   obtain ⟨i1,i2⟩:=ih k lp a (path ++ [0]) mood on st fl false m ga hm
   obtain ⟨j1,j2⟩:=ih (k + (ah fa n k lp a (path ++ [0]) mood on st fl false).length) lp b (path ++ [1]) mood on st fl false m gb hm
   exact pair (by decide) i1 j1 i2 j2
 | guard a b m hm ga gb =>
   obtain ⟨i1,i2⟩:=ih k lp b (path ++ [1]) mood on st fl false m gb hm
   obtain ⟨j1,j2⟩:=ih (k + (ah fa n k lp b (path ++ [1]) mood on st fl false).length) lp a (path ++ [0]) mood on st [.sp k] false m ga hm
   have z7:¬ (aM=bX∨aM=d7):=by decide +kernel
   have e:(bE (ah fa n) fa k lp [.s aM,.p a,.p b] path mood on st fl).2=ah fa n k lp b (path ++ [1]) mood on st fl false ++ ah fa n (k + (ah fa n k lp b (path ++ [1]) mood on st fl false).length) lp a (path ++ [0]) mood on st [.sp k] false:=by
    unfold bE
    dsimp only
    rw [if_neg z7,if_pos rfl]
   rw [e]
   exact pair (by decide) i1 j1 i2 j2
 | lastly a b m hm ga gb =>
   obtain ⟨n,rfl⟩:∃ n',n=n' + 1:=⟨n - 1,by omega⟩
   have z1:¬ (am=bX∨am=d7):=by decide +kernel
   have z2:am ≠ aM:=by decide +kernel
   obtain ⟨i1,i2⟩:=CA ih (lp:=lp) (path:=path ++ [1]) (mood:=mood) (on:=on) (st:=st) (fl:=fl) (fun x hx=>GoodS.simp (P:=P) (.inl (gb x hx))) (aQ lp ++ [wOn,af]) k (CB lp)
   obtain ⟨j1,j2⟩:=ih (k + (bC (ah fa (n + 1)) lp b (path ++ [1]) mood on st fl (aQ lp ++ [wOn,af]) k).2.length) lp a (path ++ [0]) mood [.sp (eJ (bC (ah fa (n + 1)) lp b (path ++ [1]) mood on st fl (aQ lp ++ [wOn,af]) k).1 wOn)] (fun w=>[.sp (eJ (bC (ah fa (n + 1)) lp b (path ++ [1]) mood on st fl (aQ lp ++ [wOn,af]) k).1 w)]) [.sp (eJ (bC (ah fa (n + 1)) lp b (path ++ [1]) mood on st fl (aQ lp ++ [wOn,af]) k).1 af)] false m ga hm
   have e:(bE (ah fa (n + 1)) fa k lp [.s am,.p a,.p b] path mood on st fl).2=(bC (ah fa (n + 1)) lp b (path ++ [1]) mood on st fl (aQ lp ++ [wOn,af]) k).2 ++ ah fa (n + 1) (k + (bC (ah fa (n + 1)) lp b (path ++ [1]) mood on st fl (aQ lp ++ [wOn,af]) k).2.length) lp a (path ++ [0]) mood [.sp (eJ (bC (ah fa (n + 1)) lp b (path ++ [1]) mood on st fl (aQ lp ++ [wOn,af]) k).1 wOn)] (fun w=>[.sp (eJ (bC (ah fa (n + 1)) lp b (path ++ [1]) mood on st fl (aQ lp ++ [wOn,af]) k).1 w)]) [.sp (eJ (bC (ah fa (n + 1)) lp b (path ++ [1]) mood on st fl (aQ lp ++ [wOn,af]) k).1 af)] false:=by
    unfold bE
    dsimp only
    rw [if_neg z1,if_neg z2]
   rw [e]
   exact pair (c:=1) (d:=0) (by decide) (fun x hx=>let ⟨_,hw,h⟩:=i1 x hx; h.upM (FW lp _ hw)) j1 i2 j2
theorem CC {fa:List Str} {P:PN} {n:Nat} (ih:DP fa P n) {k:Nat} {lp:Bool} {path:List Nat} {mood:List Str} {st:ce} {fl:List Gl}:∀ (b:Bdy) (i L:Nat),(∀ x ∈ b,StmK P n lp x) →
 (∀ s ∈ (bx (ah fa n) fa k lp path mood st fl b i L).1,∃ j,i≤j∧j < i + b.length∧s.path=path ++ [j]∧s.mood=mood)∧((bx (ah fa n) fa k lp path mood st fl b i L).1.map gA).Nodup ∧
 (∀ s ∈ (bx (ah fa n) fa k lp path mood st fl b i L).2,∃ j c,i≤j∧Below (path ++ [j] ++ [c]) mood s)∧((bx (ah fa n) fa k lp path mood st fl b i L).2.map gA).Nodup
 | [],i,L,_=>⟨fun s hs=>(by cases hs),List.nodup_nil,fun s hs=>(by cases hs),List.nodup_nil⟩
 | s :: b,i,L,hs=>by
   obtain ⟨a1,a2⟩:=DQ ih (k:=L) (path:=path ++ [i]) (mood:=mood) (on:=[.sp (k + i + 1)]) (st:=st) (fl:=fl) (hs s zMs)
   obtain ⟨j1,j2,j3,j4⟩:=CC ih (k:=k) (path:=path) (mood:=mood) (st:=st) (fl:=fl) b (i + 1) (L + (bE (ah fa n) fa L lp s (path ++ [i]) mood [.sp (k + i + 1)] st fl).2.length) (fun x hx=>hs x (zMt hx))
   have e:bx (ah fa n) fa k lp path mood st fl (s :: b) i L=(⟨path ++ [i],mood,some s,(bE (ah fa n) fa L lp s (path ++ [i]) mood [.sp (k + i + 1)] st fl).1⟩ :: (bx (ah fa n) fa k lp path mood st fl b (i + 1) (L + (bE (ah fa n) fa L lp s (path ++ [i]) mood [.sp (k + i + 1)] st fl).2.length)).1,(bE (ah fa n) fa L lp s (path ++ [i]) mood [.sp (k + i + 1)] st fl).2 ++ (bx (ah fa n) fa k lp path mood st fl b (i + 1) (L + (bE (ah fa n) fa L lp s (path ++ [i]) mood [.sp (k + i + 1)] st fl).2.length)).2):=rfl
   rw [e]
   dsimp only
   refine ⟨fun x hx=>?_,?_,fun x hx=>?_,kY a2 j4 fun x hx y hy=>?_⟩
   ·rcases List.mem_cons.mp hx with rfl | hx
    ·exact ⟨i,Nat.le_refl _,by rw [List.length_cons]; omega,rfl,rfl⟩
    ·obtain ⟨j,g1,g2,g3⟩:=j1 x hx
     exact ⟨j,by omega,by rw [List.length_cons]; omega,g3⟩
   ·rw [List.map_cons,List.nodup_cons]
    refine ⟨fun hm=>?_,j2⟩
    obtain ⟨y,hy,ey⟩:=List.mem_map.mp hm
    obtain ⟨j,g1,g2,g3,g4⟩:=j1 y hy
    have e1:y.path=path ++ [i]:=congrArg Prod.fst ey
    rw [g3] at e1
    have:=List.append_cancel_left e1
    have:=(List.cons.inj this).1
    omega
   ·rcases List.mem_append.mp hx with hx | hx
    ·obtain ⟨c,h⟩:=a1 x hx
     exact ⟨i,c,Nat.le_refl _,h⟩
    ·obtain ⟨j,c,h1,h2⟩:=j3 x hx
     exact ⟨j,c,by omega,h2⟩
   ·obtain ⟨c,h⟩:=a1 x hx
    obtain ⟨j,d,h1,h2⟩:=j3 y hy
    exact h.up.apart h2.up (by omega)
theorem qQ {fa:List Str} {P:PN}:∀ n:Nat,DP fa P n
 | 0=>fun k lp b path mood on st fl loop lv hb hl=>absurd hl (Nat.not_lt_zero _)
 | n + 1=>fun k lp b path mood on st fl loop lv hb hl=>by
   obtain ⟨j1,j2,j3,j4⟩:=CC (qQ (fa:=fa) (P:=P) n) (k:=k) (path:=path) (mood:=mood) (st:=st) (fl:=fl) b 0 (k + b.length + 1) (fun x hx=>AM (hb x hx) (by omega))
   have e:ah fa (n + 1) k lp b path mood on st fl loop=(bx (ah fa n) fa k lp path mood st fl b 0 (k + b.length + 1)).1 ++ ⟨path ++ [b.length],mood,none,(if loop then [.sp k] else []) ++ on⟩ :: (bx (ah fa n) fa k lp path mood st fl b 0 (k + b.length + 1)).2:=rfl
   rw [e]
   have flat:∀ {x y:SpL} {j:Nat},x.path=path ++ [j]→(∃ i c,0≤i∧Below (path ++ [i] ++ [c]) mood y)→gA x ≠ gA y:=fun {x y j} hx ⟨i,c,_,i',r,q,h1,_,_⟩ ee=>by
    have e1:x.path=y.path:=congrArg Prod.fst ee
    rw [hx,h1] at e1
    have:=congrArg List.length e1
    simp only [List.length_append,List.length_cons,List.length_nil] at this
    omega
   refine ⟨fun s hs=>?_,kY j2 ?_ fun x hx y hy=>?_⟩
   ·rcases List.mem_append.mp hs with hs | hs
    ·obtain ⟨j,_,_,g3,g4⟩:=j1 s hs
     exact ⟨j,[],[],g3,by rw [g4,List.append_nil],fun w hw=>(by cases hw)⟩
    ·rcases List.mem_cons.mp hs with rfl | hs
     ·exact ⟨b.length,[],[],rfl,(List.append_nil _).symm,fun w hw=>(by cases hw)⟩
     ·obtain ⟨j,c,_,h⟩:=j3 s hs
      exact h.up.up
   ·rw [List.map_cons,List.nodup_cons]
    refine ⟨fun hm=>?_,j4⟩
    obtain ⟨y,hy,ey⟩:=List.mem_map.mp hm
    exact flat (x:=⟨path ++ [b.length],mood,none,(if loop then [.sp k] else []) ++ on⟩) rfl (j3 y hy) ey.symm
   ·obtain ⟨j,g1,g2,g3,g4⟩:=j1 x hx
    rcases List.mem_cons.mp hy with rfl | hy
    ·intro ee
     have e1:x.path=path ++ [b.length]:=congrArg Prod.fst ee
     rw [g3] at e1
     have:=(List.cons.inj (List.append_cancel_left e1)).1
     omega
    ·exact flat g3 (j3 y hy)
def gs0:GsT:=fun w=>if w=wOn then [.out dS] else [.out w]
theorem DR {fa:List Str} {P:PN} {b:Bdy} (h:∀ x ∈ b,GoodS P 3 false x):Same (bO fa b) 0 (bO fa b).length (bo fa 4 false b [] [] gs0):=by
 refine zR (P:=P) 4 0 false b [] [] [.out dS] (fun w=>[.out w]) [.out af] false gs0 3 h (by decide) (fun i hi=>by rw [Nat.zero_add]; rfl) ⟨rfl,?_,fun w hw=>?_⟩
 ·show (if af=wOn then _ else _)=_
  rw [if_neg (fun e=>wE.1 e.symm)]; rfl
 ·show (if w=wOn then _ else _)=_
  rw [if_neg (wE.2.1 false w hw).1]; rfl
theorem wW {fa:List Str} {P:PN} {b:Bdy} (h:∀ x ∈ b,GoodS P 3 false x):((bO fa b).map gA).Nodup:=(qQ (fa:=fa) (P:=P) 4 0 false b [] [] [.out dS] (fun w=>[.out w]) [.out af] false 3 h (by decide)).2
theorem AT {fa:List Str} {P:PN} {b:Bdy} (h:∀ x ∈ b,GoodS P 3 false x):∀ s ∈ bO fa b,∀ w ∈ s.mood,w ∈ aQ true ++ [wOn,af]:=fun s hs w hw=>by
 obtain ⟨j,r,q,h1,h2,h3⟩:=(qQ (fa:=fa) (P:=P) 4 0 false b [] [] [.out dS] (fun w=>[.out w]) [.out af] false 3 h (by decide)).1 s hs
 rw [h2] at hw
 exact h3 w hw
local macro_rules | `(tactic| walk_at "p")=>`(tactic| try simp only [aK,f9,aA,om,aL,bj,hNx,hop,hun,hcb,hV,hC,hB,hTr,fK,dU,hOr,hIf,aE,bD,cM,aa,ae,an,bG,fS,hMt,hSl,mw,iL,fT,d8,k7,gc,ot,nh,bu,bindDs,u9,vh,ow,dO,dE,oy,Ah,se,iU,cE,jX,jc,qc,hO,kb,av,zh,zi,zj,pD,pE,tB,tD,mI,fM,cC,hLc,vd,hJ,u6,b8,cN,ao,List.map_cons,List.map_nil,List.length_cons,List.length_nil,List.replicate,List.cons_append,List.nil_append,List.append_nil,zG0,zG1,zS0,zS1,Nat.reduceAdd,Nat.reduceSub,Nat.zero_add,gI0,gI,iH,u8,hM,jv,pV,isN,ng,Nat.beq,Nat.ble,isStr,ku,kw])
local macro_rules | `(tactic| walk_at "q")=>`(tactic| ((try dsimp only); refine dC ?_; walk_at "p"))
local macro_rules | `(tactic| walk_at "g")=>`(tactic| try simp only [gLt,gLe,gGt,gGe,pU,jv,gI0,gI,cr,hM])
def gB:Str:=("faulty" : Str)
def gkD:GK→D
 | .at_ p m=>.tps [aU p,bp m]
 | .out w=>.str w
def g8 (p:List Nat) (m:List Str):NestedKey:=.tup [.tup (p.map fun (n:Nat)=>.num (n:Int)),.tup (m.map .text)]
theorem sF:∀ p:List Nat,nkDs (p.map fun (n:Nat)=>D.int (n:Int))=some (p.map fun (n:Nat)=>.num (n:Int))
 | []=>by unfold List.map nkDs; rfl
 | a :: p=>by
   rw [List.map_cons,List.map_cons]
   unfold nkDs nkD
   dsimp only
   rw [sF p]
theorem sG:∀ m:List Str,nkDs (m.map D.str)=some (m.map .text)
 | []=>by unfold List.map nkDs; rfl
 | a :: p=>by
   rw [List.map_cons,List.map_cons]
   unfold nkDs nkD
   dsimp only
   rw [sG p]
theorem uP (p:List Nat) (m:List Str):nkD (.tps [aU p,bp m])=some (g8 p m):=by
 unfold nkD nkDs nkDs nkDs nkD
 show (match (match (match nkDs (p.map fun (n:Nat)=>D.int (n:Int)) with | some ks=>some (NestedKey.tup ks) | none=>none) with | some k=>_ | none=>none) with | some ks=>some (NestedKey.tup ks) | none=>none)=_
 rw [sF,sG]
 rfl
theorem qR:∀ p:List Nat,NestedKey.depthAll (p.map fun (n:Nat)=>.num (n:Int))=0
 | []=>rfl
 | a :: p=>by
   rw [List.map_cons]
   unfold NestedKey.depthAll NestedKey.depth
   rw [qR p]
   rfl
theorem oO:∀ p:List Str,NestedKey.depthAll (p.map .text)=0
 | []=>rfl
 | a :: p=>by
   rw [List.map_cons]
   unfold NestedKey.depthAll NestedKey.depth
   rw [oO p]
   rfl
theorem n7 (p:List Nat) (m:List Str):(g8 p m).depth≤8:=by
 unfold g8 NestedKey.depth NestedKey.depthAll NestedKey.depthAll NestedKey.depthAll NestedKey.depth
 rw [qR,oO]
 decide
theorem wX:∀ {p q:List Nat},p.map (fun (n:Nat)=>NestedKey.num (n:Int))=q.map (fun (n:Nat)=>NestedKey.num (n:Int))→p=q
 | [],[],_=>rfl
 | [],_ :: _,e=>by simp at e
 | _ :: _,[],e=>by simp at e
 | a :: p,b :: q,e=>by
   rw [List.map_cons,List.map_cons] at e
   injection e with e1 e2
   injection e1 with e1
   rw [wX e2,show a=b by omega]
theorem sH:∀ {p q:List Str},p.map NestedKey.text=q.map NestedKey.text→p=q
 | [],[],_=>rfl
 | [],_ :: _,e=>by simp at e
 | _ :: _,[],e=>by simp at e
 | a :: p,b :: q,e=>by
   rw [List.map_cons,List.map_cons] at e
   injection e with e1 e2
   injection e1 with e1
   rw [sH e2,e1]
theorem DS {p q:List Nat} {m n:List Str} (e:g8 p m=g8 q n):p=q∧m=n:=by
 unfold g8 at e
 injection e with e
 injection e with e1 e2
 injection e1 with e1
 injection e2 with e2 _
 injection e2 with e2
 exact ⟨wX e1,sH e2⟩
def enV (e:EnG):D:=.lst [rS e.2.1,.lst (e.2.2.map gkD)]
def iA (kvs:List (NestedKey × D)) (es:List EnG):List (NestedKey × D):=es.foldl (fun a e=>iO a (g8 e.1.1 e.1.2) (enV e)) kvs
theorem n8 (kvs:List (NestedKey × D)) (a b:List EnG):iA kvs (a ++ b)=iA (iA kvs a) b:=List.foldl_append ..
theorem n9 (kvs:List (NestedKey × D)) (k j:NestedKey) (d:D):fv (iO kvs k d) j=if k=j then some d else fv kvs j:=by
 unfold iO
 by_cases ha:(kvs.any fun kv=>decide (kv.1=k))=true
 ·rw [if_pos ha]
  induction kvs with
  | nil=>simp at ha
  | cons p ps ih =>
    rw [List.map_cons]
    unfold fv at ih ⊢
    by_cases hp:p.1=k
    ·rw [if_pos hp]
     by_cases hj:k=j
     ·rw [if_pos hj,List.find?_cons,decide_eq_true (show p.1=j by rw [hp,hj])]
      rfl
     ·rw [if_neg hj,List.find?_cons,decide_eq_false (show ¬ p.1=j by rw [hp]; exact hj),List.find?_cons,decide_eq_false (show ¬ p.1=j by rw [hp]; exact hj)]
      dsimp only
      by_cases hr:(ps.any fun kv=>decide (kv.1=k))=true
      ·have:=ih hr
       rw [if_neg hj] at this
       exact this
      ·have e:(ps.map fun kv=>if kv.1=k then (kv.1,d) else kv)=ps:=by
        refine (List.map_congr_left fun y hy=>?_).trans (List.map_id ps)
        rw [if_neg]
        ·rfl
        ·intro z
         exact hr (List.any_eq_true.mpr ⟨y,hy,decide_eq_true z⟩)
       rw [e]
    ·rw [if_neg hp]
     have hr:(ps.any fun kv=>decide (kv.1=k))=true:=by
      rw [List.any_cons,decide_eq_false hp,Bool.false_or] at ha
      exact ha
     by_cases hj:p.1=j
     ·have:¬ k=j:=fun e=>hp (by rw [hj,e])
      rw [if_neg this,List.find?_cons,decide_eq_true hj,List.find?_cons,decide_eq_true hj]
     ·rw [List.find?_cons,decide_eq_false hj,List.find?_cons,decide_eq_false hj]
      exact ih hr
 ·rw [if_neg ha]
  have hn:(kvs.find? fun kv=>decide (kv.1=k))=none:=List.find?_eq_none.mpr fun x hx e=>ha (List.any_eq_true.mpr ⟨x,hx,e⟩)
  unfold fv
  rw [List.find?_append]
  by_cases hj:k=j
  ·subst hj
   rw [if_pos rfl,hn,Option.none_or,List.find?_cons,decide_eq_true rfl]
   rfl
  ·rw [if_neg hj,List.find?_cons,decide_eq_false hj,List.find?_nil,Option.or_none]
theorem AU (kvs:List (NestedKey × D)) (k:NestedKey) (d:D):(iO kvs k d).length≤kvs.length + 1:=by
 unfold iO
 split
 ·rw [List.length_map]; omega
 ·rw [List.length_append]; simp
theorem gK (es:List EnG):∀ kvs,(iA kvs es).length≤kvs.length + es.length:=by
 induction es with
 | nil=>intro kvs; exact Nat.le_refl _
 | cons e es ih =>
   intro kvs
   have h1:=ih (iO kvs (g8 e.1.1 e.1.2) (enV e))
   have h2:=AU kvs (g8 e.1.1 e.1.2) (enV e)
   show (iA (iO kvs (g8 e.1.1 e.1.2) (enV e)) es).length≤_
   rw [List.length_cons]
   omega
theorem yA (es:List EnG) (x:Str):∀ kvs,fv (iA kvs es) (.text x)=fv kvs (.text x):=by
 induction es with
 | nil=>intro kvs; rfl
 | cons e es ih =>
   intro kvs
   show fv (iA (iO kvs (g8 e.1.1 e.1.2) (enV e)) es) (.text x)=_
   rw [ih,n9,if_neg (fun q=>nomatch q)]
structure GrAt (S:Sto) (w:World) (g fq:Addr) (fa:List Str) (kvs:List (NestedKey × D)):Prop where
 hg:S g=some (.dcn w g kvs)
 hf:fv kvs (.text gB)=some (.ref fq)
 hq:S fq=some (.lst (fa.map D.str))
 ne:fq ≠ g
structure GrowG (w:World) (g:Addr) (kvs:List (NestedKey × D)) (S S':Sto) (es:List EnG):Prop where
 hg:S' g=some (.dcn w g (iA kvs es))
 keep:KeepQ g S S'
theorem GrAt.grow {S S':Sto} {w:World} {g fq:Addr} {fa:List Str} {kvs:List (NestedKey × D)} {es:List EnG} (h:GrAt S w g fq fa kvs) (k:GrowG w g kvs S S' es):GrAt S' w g fq fa (iA kvs es) :=
 ⟨k.hg,by rw [yA]; exact h.hf,k.keep fq _ h.ne h.hq,h.ne⟩
theorem GrowG.t {w:World} {g:Addr} {kvs:List (NestedKey × D)} {S S1 S2:Sto} {a b:List EnG} (h:GrowG w g kvs S S1 a) (k:GrowG w g (iA kvs a) S1 S2 b):GrowG w g kvs S S2 (a ++ b):=⟨by rw [n8]; exact k.hg,h.keep.t k.keep⟩
theorem GrAt.r {S:Sto} {w:World} {g fq:Addr} {fa:List Str} {kvs:List (NestedKey × D)} (h:GrAt S w g fq fa kvs):GrowG w g kvs S S []:=⟨h.hg,KeepQ.r⟩
theorem zS {w:World} {g:Addr} {kvs:List (NestedKey × D)} {S:Sto} {y d:D} {k:NestedKey} {Q:HK} (h:S g=some (.dcn w g kvs)) (e:nkD y=some k) (hd:k.depth≤8) (ev:fv kvs k=some d) (q:Q d S):iP w (.ref g) y S Q:=by
 unfold iP
 dsimp only
 rw [h]
 dsimp only
 rw [e]
 dsimp only
 rw [ev]
 exact ⟨rfl,rfl,hd,q⟩
theorem zT {w:World} {g:Addr} {kvs:List (NestedKey × D)} {S:Sto} {y d:D} {k:NestedKey} {Q:Sto→Prop} (h:S g=some (.dcn w g kvs)) (e:nkD y=some k) (hd:k.depth≤8) (hl:kvs.length < 16777216) (q:Q (up S g (.dcn w g (iO kvs k d)))):vA w (.ref g) y d S Q:=by
 unfold vA
 dsimp only
 rw [h]
 dsimp only
 rw [e]
 exact ⟨rfl,rfl,hd,hl,q⟩
theorem wY {w:World} {g fq:Addr} {fa:List Str} {kvs:List (NestedKey × D)} {S:Sto} {Q:HK} (h:GrAt S w g fq fa kvs) (q:Q (.ref fq) S):iP w (.ref g) (.str gB) S Q:=zS h.hg rfl (Nat.zero_le _) h.hf q
abbrev cu (l:List GK):D:=.lst (l.map gkD)
abbrev gsD (lp:Bool) (gs:GsT):D:=.dkz ((bY lp).map Sum.inr) ((bY lp).map fun w=>cu (gs w))
theorem gL {lp:Bool} {gs:GsT} {w:Str} {S:Sto} {Q:HK} (hw:w ∈ bY lp) (h:Q (cu (gs w)) S):cQ (gsD lp gs) (.str w) S Q:=by
 show (match gh (((bY lp).map (Sum.inr:Str→Key)).zip ((bY lp).map fun w=>cu (gs w))) (.inr w) with
  | some d=>Q d S
  | none=>False)
 rw [kX,pO _ _ hw]
 exact h
theorem pQ {lp:Bool} {gs:GsT} {S:Sto} {Q:HK} (h:∀ p,S p=none→Q (.ref p) (up S p (.dct (kvT (bY lp) fun w=>cu (gs w))))):d9 [gsD lp gs] S Q:=by
 show ∀ p,S p=none→Q (.ref p) (up S p (.dct (((bY lp).map (Sum.inr:Str→Key)).zip ((bY lp).map fun w=>cu (gs w)))))
 rw [kX]
 exact h
theorem domG_words:(∀ lp,(bY lp).length≤6∧(bY lp).Nodup∧wOn ∈ bY lp∧af ∈ bY lp∧dQ ∈ bY lp∧dS ∈ bY lp)∧aH ∈ bY true∧cD ∈ bY true∧aH ∉ bY false∧cD ∉ bY false ++ [aH]∧bY false ++ [aH] ++ [cD]=bY true:=by
 refine ⟨fun lp=>?_,by decide +kernel,by decide +kernel,by decide +kernel,by decide +kernel,by decide +kernel⟩
 cases lp <;> decide +kernel
theorem DT {S:Sto} {r:Addr} {lp:Bool} {gs:GsT} {w:Str} {l:List GK} {K:Sto→Prop} (hr:S r=some (.dct (kvT (bY lp) fun x=>cu (gs x)))) (hw:w ∈ bY lp) (h:K (up S r (.dct (kvT (bY lp) fun x=>cu (bi gs w l x))))):gD (.ref r) (.str w) (cu l) S K:=by
 refine kJ hr (Nat.le_trans (domG_words.1 lp).1 (by decide)) ?_
 rw [jP hw]
 have:(fun x=>if x=w then cu l else cu (gs x))=fun x=>cu (bi gs w l x):=by
  funext x
  unfold bi
  split <;> rfl
 rw [this]
 exact h
def GsL (lp:Bool) (gs:GsT):Prop:=∀ w ∈ bY lp,(gs w).length≤3
theorem GsL.set {lp:Bool} {gs:GsT} {w:Str} {l:List GK} (h:GsL lp gs) (hl:l.length≤3):GsL lp (bi gs w l):=fun x hx=>by
 unfold bi
 split
 ·exact hl
 ·exact h x hx
theorem yB {a b:List GK} {S:Sto} {Q:HK} (ha:a.length≤1000) (hb:b.length≤1000) (h:Q (cu (a ++ b)) S):cr (cu a) (cu b) S Q:=m6 (by rw [List.length_map,List.length_map]; omega) (by rw [← List.map_append]; exact h)
theorem ptT (p:List Nat) (i:Nat):p.map (fun (n:Nat)=>D.int (n:Int)) ++ [D.int (i:Int)]=(p ++ [i]).map fun (n:Nat)=>D.int (n:Int):=by rw [List.map_append]; rfl
theorem HD (p:List Nat) (i j:Nat):p.map (fun (n:Nat)=>D.int (n:Int)) ++ [D.int (i:Int),D.int (j:Int)]=(p ++ [i,j]).map fun (n:Nat)=>D.int (n:Int):=by rw [List.map_append]; rfl
theorem mdT (m:List Str) (w:Str):m.map D.str ++ [D.str w]=(m ++ [w]).map D.str:=by rw [List.map_append]; rfl
def yC (w:World) (aD:HSp):HTS:=(aj (f9 (.tp [(.nm 4),(.nm 5)]) (mH (hV 2)))
 (aj (aK 6 (hop gIx (hV 1) (hC (.int 0))))
 (aj (bj (hB (hop gIn (hV 6) (aE (aa (hC (.str ("stop" : Str))) (aa (hC (.str ("again" : Str))) (aa (hC (.str ("out" : Str))) ae)))))) (aA (hcb fu (aa (hop cQ (hV 3) (hop gIx (hV 1) (hun hM (hC (.int 1))))) ae))) hNx)
 (aj (bj (hB (hop gEq (hV 6) (hC (.str ("fault" : Str))))) (aA (hcb fu (aa (hop cQ (hV 3) (hC (.str ("fault" : Str)))) ae))) hNx)
 (aj (bj (hOr (hB (hop gEq (hV 6) (hC (.str ("may" : Str))))) (dU (hB (hop gEq (hV 6) (hC (.str ("deeper" : Str))))) (hB (hop gIn (hop gIx (hV 1) (hC (.int 1))) (hop (iP w) (hV 0) (hC (.str ("faulty" : Str)))))))) (aA (hop cr (hop cQ (hV 3) (hC (.str ("on" : Str)))) (hop cQ (hV 3) (hC (.str ("fault" : Str)))))) hNx)
 (aj (bj (hB (hop gEq (hV 6) (hC (.str ("tries" : Str))))) (aj (aK 7 (hop cr (bD (aa (av (aa (hop bb (hV 4) (av (aa (hC (.int 0)) (aa (hC (.int 0)) ae)))) (aa (hV 5) ae))) ae)) (hop cQ (hV 3) (hC (.str ("on" : Str))))))
 (aj (aK 8 (hcb d9 (aa (hV 3) ae)))
 (aj (cE (hV 8) (hC (.str ("on" : Str))) (hV 7))
 (aj (cE (hV 8) (hC (.str ("again" : Str))) (hV 7))
 (aj (cE (hV 8) (hC (.str ("out" : Str))) (hop cQ (hV 3) (hC (.str ("on" : Str)))))
 (aj (c5 8 (aL (an 5 [] aD (aa (hV 0) (aa (hop gIx (hV 1) (hC (.int 1))) (aa (hop bb (hV 4) (av (aa (hC (.int 0)) ae))) (aa (hV 5) (aa (hV 8) ae))))))))
 (aA (hV 7)))))))) hNx)
 (aj (bj (hB (hop gIn (hV 6) (aE (aa (hC (.str ("either" : Str))) (aa (hC (.str ("told" : Str))) (aa (hC (.str ("look" : Str))) ae)))))) (aj (aL (an 5 [] aD (aa (hV 0) (aa (hop gIx (hV 1) (hun hM (hC (.int 2)))) (aa (hop bb (hV 4) (av (aa (hC (.int 0)) ae))) (aa (hV 5) (aa (hV 3) ae)))))))
 (aj (aL (an 5 [] aD (aa (hV 0) (aa (hop gIx (hV 1) (hun hM (hC (.int 1)))) (aa (hop bb (hV 4) (av (aa (hC (.int 1)) ae))) (aa (hV 5) (aa (hV 3) ae)))))))
 (aA (bD (aa (av (aa (hop bb (hV 4) (av (aa (hC (.int 0)) (aa (hC (.int 0)) ae)))) (aa (hV 5) ae))) (aa (av (aa (hop bb (hV 4) (av (aa (hC (.int 1)) (aa (hC (.int 0)) ae)))) (aa (hV 5) ae))) ae)))))) hNx)
 (aj (bj (hB (hop gEq (hV 6) (hC (.str ("guard" : Str))))) (aj (aK 8 (hcb d9 (aa (hV 3) ae)))
 (aj (cE (hV 8) (hC (.str ("fault" : Str))) (bD (aa (av (aa (hop bb (hV 4) (av (aa (hC (.int 1)) (aa (hC (.int 0)) ae)))) (aa (hV 5) ae))) ae)))
 (aj (c5 8 (aL (an 5 [] aD (aa (hV 0) (aa (hop gIx (hV 1) (hC (.int 1))) (aa (hop bb (hV 4) (av (aa (hC (.int 0)) ae))) (aa (hV 5) (aa (hV 8) ae))))))))
 (aj (aL (an 5 [] aD (aa (hV 0) (aa (hop gIx (hV 1) (hC (.int 2))) (aa (hop bb (hV 4) (av (aa (hC (.int 1)) ae))) (aa (hV 5) (aa (hV 3) ae)))))))
 (aA (bD (aa (av (aa (hop bb (hV 4) (av (aa (hC (.int 0)) (aa (hC (.int 0)) ae)))) (aa (hV 5) ae))) ae))))))) hNx)
 (aj (bj (hB (hop gEq (hV 6) (hC (.str ("lastly" : Str))))) (aj (aK 8 jX)
 (aj (cC (vr (hV 3)) (.nm 9) (aj (aK 10 (hcb d9 (aa (hV 3) ae)))
 (aj (cE (hV 10) (hC (.str ("on" : Str))) (hop cQ (hV 3) (hV 9)))
 (aj (c5 10 (aL (an 5 [] aD (aa (hV 0) (aa (hop gIx (hV 1) (hC (.int 2))) (aa (hop bb (hV 4) (av (aa (hC (.int 1)) ae))) (aa (hop bb (hV 5) (av (aa (hV 9) ae))) (aa (hV 10) ae))))))))
 (cE (hV 8) (hV 9) (bD (aa (av (aa (hop bb (hV 4) (av (aa (hC (.int 1)) (aa (hC (.int 0)) ae)))) (aa (hop bb (hV 5) (av (aa (hV 9) ae))) ae))) ae)))))))
 (aj (c5 8 (aL (an 5 [] aD (aa (hV 0) (aa (hop gIx (hV 1) (hC (.int 1))) (aa (hop bb (hV 4) (av (aa (hC (.int 0)) ae))) (aa (hV 5) (aa (hV 8) ae))))))))
 (aA (bD (aa (av (aa (hop bb (hV 4) (av (aa (hC (.int 0)) (aa (hC (.int 0)) ae)))) (aa (hV 5) ae))) ae)))))) hNx)
 (aA (hcb fu (aa (hop cQ (hV 3) (hC (.str ("on" : Str)))) ae))))))))))))
def iZ (w:World) (n:Nat):HSp:=fun ds S Q _=>∃ (g fq:Addr) (fa:List Str) (kvs:List (NestedKey × D)) (P:PN) (lv:Nat) (lp:Bool) (b:Bdy) (path:List Nat) (mood:List Str) (gs:GsT),
 ds=[.ref g,aw b,aU path,bp mood,gsD lp gs]∧GrAt S w g fq fa kvs∧(∀ x ∈ b,GoodS P lv lp x)∧lv < n∧path.length + 2 * n≤100∧mood.length + n≤100∧GsL lp gs∧kvs.length + (bo fa n lp b path mood gs).length≤100000 ∧
 ∀ S',GrowG w g kvs S S' (bo fa n lp b path mood gs)→Q .non S'
def uQ (w:World) (n:Nat):HSp:=fun ds S Q _=>∃ (g fq:Addr) (fa:List Str) (kvs:List (NestedKey × D)) (P:PN) (lv:Nat) (lp:Bool) (s:Stm) (path:List Nat) (mood:List Str) (gs:GsT),
 ds=[.ref g,aY s,.tps [aU path,bp mood],gsD lp gs]∧GrAt S w g fq fa kvs∧GoodS P lv lp s∧lv≤n∧path.length + 2 * n + 1≤100∧mood.length + n + 1≤100∧GsL lp gs∧(gs wOn).length≤1∧kvs.length + (fg (bo fa n) fa lp s path mood gs).2.length≤100000 ∧
 ∀ S',GrowG w g kvs S S' (fg (bo fa n) fa lp s path mood gs).2→Q (cu (fg (bo fa n) fa lp s path mood gs).1) S'
section
variable {t u:HTS} {D0:HEnds} {env:aW} {S:Sto} {z y y2:Str} {ss:List Str} {tt:HTE} {c:HTT}
theorem jp (htt:∀ (env:aW) (S:Sto) (R E:HK),R (.tup (ss.map D.str)) S→tt env S R E) (he:env[6]? = some (some (.str z))) (hz:z ∉ ss) (hu:u D0 env S):aj (bj (hB (hop gIn (hV 6) tt)) t hNx) u D0 env S:=by
 refine bZ false (fun R E r=>?_) (fun hb=>by cases hb) (fun _=>hu)
 simp only [hB,hop,hV]
 rw [he]
 exact htt _ _ _ _ (inF hz r)
theorem uR (htt:∀ (env:aW) (S:Sto) (R E:HK),R (.tup (ss.map D.str)) S→tt env S R E) (he:env[6]? = some (some (.str z))) (hz:z ∈ ss) (ht:t { D0 with nx:=u D0 } env S):aj (bj (hB (hop gIn (hV 6) tt)) t hNx) u D0 env S:=by
 refine bZ true (fun R E r=>?_) (fun _=>ht) (fun hb=>by cases hb)
 simp only [hB,hop,hV]
 rw [he]
 exact htt _ _ _ _ (inT hz r)
theorem gC (he:env[6]? = some (some (.str z))) (hz:z ≠ y) (hu:u D0 env S):aj (bj (hB (hop gEq (hV 6) (hC (.str y)))) t hNx) u D0 env S:=by
 refine bZ false (fun R E r=>?_) (fun hb=>by cases hb) (fun _=>hu)
 simp only [hB,hop,hV,hC]
 rw [he]
 exact eqF hz r
theorem uS (he:env[6]? = some (some (.str z))) (hz:z=y) (ht:t { D0 with nx:=u D0 } env S):aj (bj (hB (hop gEq (hV 6) (hC (.str y)))) t hNx) u D0 env S:=by
 refine bZ true (fun R E r=>?_) (fun _=>ht) (fun hb=>by cases hb)
 simp only [hB,hop,hV,hC]
 rw [he]
 exact eqT hz r
theorem sJ (he:env[6]? = some (some (.str z))) (hz:z ≠ y) (hz2:z ≠ y2) (hu:u D0 env S):aj (bj (hOr (hB (hop gEq (hV 6) (hC (.str y)))) (dU (hB (hop gEq (hV 6) (hC (.str y2)))) c)) t hNx) u D0 env S:=by
 refine bZ false (fun R E r=>?_) (fun hb=>by cases hb) (fun _=>hu)
 simp only [hB,hOr,dU,hop,hV,hC]
 rw [he]
 refine eqF hz ?_
 refine eqF hz2 ?_
 exact r
theorem G0 (htt:tt=aE (aa (hC (.str z)) (aa (hC (.str y)) (aa (hC (.str y2)) ae)))):∀ (env:aW) (S:Sto) (R E:HK),R (.tup ([z,y,y2].map D.str)) S→tt env S R E:=fun env S R E h=>by
 subst htt
 simp only [aE,aa,ae,hC]
 exact h
end
theorem CE (lp:Bool) (gs:GsT) (h a:List GK) (o:List GK):cX (cX (kvT (bY lp) fun x=>cu (bi gs wOn h x)) (.inr aH) (cu a)) (.inr cD) (cu o)=kvT (bY true) fun x=>cu (bi (bi (bi gs wOn h) aH a) cD o x):=by
 obtain ⟨_,a1,a2,a3,a4,a5⟩:=domG_words
 have ef:(fun x:Str=>if x=cD then cu o else if x=aH then cu a else cu (bi gs wOn h x))=fun x=>cu (bi (bi (bi gs wOn h) aH a) cD o x):=by
  funext x
  by_cases h1:x=cD
  ·subst h1; rw [if_pos rfl,gO]
  ·rw [if_neg h1,eM h1]
   by_cases h2:x=aH
   ·subst h2; rw [if_pos rfl,gO]
   ·rw [if_neg h2,eM h2]
 cases lp with
 | true=>rw [jP a1,jP a2,ef]
 | false=>rw [gy a3,gy a4,a5,ef]
theorem yD {w:World} {n:Nat} {ds:List D} {S:Sto} {Q E:HK} (h:uQ w n ds S Q E):yC w (iZ w n) (EN Q E) (ao 11 ds) S:=by
 obtain ⟨g,fq,fa,kvs,P,lv,lp,s,path,mood,gs,rfl,hg,hs,hlv,hpa,hmo,hgs,hon,hsz,q⟩:=h
 obtain ⟨w6,wnd,wOnM,wFaM,wFoM,wNoM⟩:=domG_words.1 lp
 have onl:(gs wOn).length≤1000:=by omega
 have fll:(gs af).length≤1000:=by have:=hgs af wFaM; omega
 show yC w (iZ w n) (EN Q E) [some (.ref g),some (aY s),some (.tps [aU path,bp mood]),some (gsD lp gs),none,none,none,none,none,none,none] S
 have g0:∀ l,(fg (bo fa n) fa lp s path mood gs).2=[]→(fg (bo fa n) fa lp s path mood gs).1=l→Rt Q (cu l) S:=fun l e1 e2=>Rt.mk (by
  have:=q S
  rw [e1,e2] at this
  exact this hg.r)
 have start:∀ (z:Str) (es:List Ent),s = .s z :: es→∀ (u:HTS) (D0:HEnds),u D0 [some (.ref g),some (aY s),some (.tps [aU path,bp mood]),some (gsD lp gs),some (aU path),some (bp mood),some (.str z),none,none,none,none] S →
  aj (f9 (.tp [(.nm 4),(.nm 5)]) (mH (hV 2))) (aj (aK 6 (hop gIx (hV 1) (hC (.int 0)))) u) D0 [some (.ref g),some (aY s),some (.tps [aU path,bp mood]),some (gsD lp gs),none,none,none,none,none,none,none] S:=fun z es e u D0 hu=>by
  refine dC ?_
  simp only [f9,mH,hV,wkt,bu,bindDs,zG0,zG1,zS0,zS1]
  refine fy (.str z) S (fun R E r=>?_) ?_
  ·simp only [hop,hV,hC,zG0,zG1]
   subst e
   exact aF (xs:=D.str z :: entsD es) rfl (by rw [show (0:Int)=((0:Nat):Int) from rfl,ii (by show 0 < _ + 1; omega)]; rfl) r
  dsimp only [zS1,zS0]
  exact hu
 have tupSAO:∀ (env:aW) (S:Sto) (R E:HK),R (.tup (wSAO.map D.str)) S→(aE (aa (hC (.str ("stop" : Str))) (aa (hC (.str ("again" : Str))) (aa (hC (.str ("out" : Str))) ae)))) env S R E:=G0 rfl
 have tupETL:∀ (env:aW) (S:Sto) (R E:HK),R (.tup (wETL.map D.str)) S→(aE (aa (hC (.str ("either" : Str))) (aa (hC (.str ("told" : Str))) (aa (hC (.str ("look" : Str))) ae)))) env S R E:=G0 rfl
 have lw:∀ {x:List GK} {S:Sto} {R:HK},R (cu x) S→fu [cu x] S R:=fun r=>r
 -- a key made of the path, and steps
 have key2:∀ {S1:Sto} {i j:Nat} {R:HK},R (aU (path ++ [i,j])) S1→bb (aU path) (.tps [.int (i:Int),.int (j:Int)]) S1 R:=fun {S1 i j R} r=>gj (by rw [List.length_map]; show _ + 2≤_; omega) (by rw [HD]; exact r)
 have key1:∀ {S1:Sto} {i:Nat} {R:HK},R (aU (path ++ [i])) S1→bb (aU path) (.tps [.int (i:Int)]) S1 R:=fun {S1 i R} r=>gj (by rw [List.length_map]; show _ + 1≤_; omega) (by rw [ptT]; exact r)
 -- two blocks of which one is gone
 have pair:∀ (st:Stm) (a b:Bdy) (m:Nat) (zw:Str),s=st→(∀ {S1:Sto} {R:HK},R (aw a) S1→gIx (aY st) (.int (-2)) S1 R)→(∀ {S1:Sto} {R:HK},R (aw b) S1→gIx (aY st) (.int (-1)) S1 R)→m < n→(∀ x ∈ a,GoodS P m lp x)→(∀ x ∈ b,GoodS P m lp x) →
  kvs.length + (bo fa n lp a (path ++ [0]) mood gs ++ bo fa n lp b (path ++ [1]) mood gs).length≤100000 →
  (∀ S',GrowG w g kvs S S' (bo fa n lp a (path ++ [0]) mood gs ++ bo fa n lp b (path ++ [1]) mood gs)→Q (cu [.at_ (path ++ [0,0]) mood,.at_ (path ++ [1,0]) mood]) S') →
  ∀ (D0:HEnds),D0.rt=Rt Q→(aj (aL (an 5 [] (iZ w n) (aa (hV 0) (aa (hop gIx (hV 1) (hun hM (hC (.int 2)))) (aa (hop bb (hV 4) (av (aa (hC (.int 0)) ae))) (aa (hV 5) (aa (hV 3) ae))))))) (aj (aL (an 5 [] (iZ w n) (aa (hV 0) (aa (hop gIx (hV 1) (hun hM (hC (.int 1)))) (aa (hop bb (hV 4) (av (aa (hC (.int 1)) ae))) (aa (hV 5) (aa (hV 3) ae))))))) (aA (bD (aa (av (aa (hop bb (hV 4) (av (aa (hC (.int 0)) (aa (hC (.int 0)) ae)))) (aa (hV 5) ae))) (aa (av (aa (hop bb (hV 4) (av (aa (hC (.int 1)) (aa (hC (.int 0)) ae)))) (aa (hV 5) ae))) ae)))))) D0 [some (.ref g),some (aY s),some (.tps [aU path,bp mood]),some (gsD lp gs),some (aU path),some (bp mood),some (.str zw),none,none,none,none] S:=fun st a b m zw e1 ia ib hm ga gb hsz q D0 hD0=>by
  subst e1
  rw [List.length_append] at hsz
  refine dC ?_
  simp only [aL,an,av,hop,hun,hM,aa,ae,hV,hC,zG0,zG1]
  refine ia ?_
  refine key1 (i:=0) ?_
  refine ⟨g,fq,fa,kvs,P,m,lp,a,path ++ [0],mood,gs,rfl,hg,ga,hm,by rw [List.length_append,List.length_singleton]; omega,by omega,hgs,by omega,fun S1 gr1=>?_⟩
  refine dC ?_
  simp only [aL,an,av,hop,hun,hM,aa,ae,hV,hC,zG0,zG1]
  refine ib ?_
  refine key1 (i:=1) ?_
  have hl:=gK (bo fa n lp a (path ++ [0]) mood gs) kvs
  refine ⟨g,fq,fa,iA kvs (bo fa n lp a (path ++ [0]) mood gs),P,m,lp,b,path ++ [1],mood,gs,rfl,hg.grow gr1,gb,hm,by rw [List.length_append,List.length_singleton]; omega,by omega,hgs,by omega,fun S2 gr2=>?_⟩
  simp only [aA,bD,av,hop,aa,ae,hV,hC,zG0,zG1]
  refine key2 (i:=0) (j:=0) ?_
  refine key2 (i:=1) (j:=0) ?_
  rw [hD0]
  exact Rt.mk (q S2 (gr1.t gr2))
 unfold yC
 cases AM hs hlv with
 | jump z hz hl =>
   obtain ⟨z1,z2,z3,z4⟩:z ∈ wSAO∧z ∈ aQ true∧z ≠ af∧z ≠ bP:=(by decide +kernel:∀ z ∈ [aH,cD],z ∈ wSAO∧z ∈ aQ true∧z ≠ af∧z ≠ bP) z hz
   refine start z [] rfl _ _ ?_
   refine uR (ss:=wSAO) tupSAO rfl z1 ?_
   simp only [aA,hcb,hop,hun,aa,ae,hV,hC,zG0,zG1]
   refine (show gIx (aY [.s z]) (.int (-1)) S _ from aF (xs:=[.str z]) rfl rfl ?_)
   refine gL (by rw [hl]; exact zMt (zMt z2)) ?_
   refine lw ?_
   exact g0 _ rfl (by show (if z=af then gs af else if z=bP then gs wOn ++ gs af else gs z)=_; rw [if_neg z3,if_neg z4])
 | stop x hx =>
   have z1:bK ∈ wSAO:=by decide +kernel
   refine start bK [.s x] rfl _ _ ?_
   refine uR (ss:=wSAO) tupSAO rfl z1 ?_
   simp only [aA,hcb,hop,hun,aa,ae,hV,hC,zG0,zG1]
   refine (show gIx (aY [.s bK,.s x]) (.int (-1)) S _ from aF (xs:=[.str bK,.str x]) rfl rfl ?_)
   have hxd:x ∈ bY lp:=by
    simp only [List.mem_cons,List.not_mem_nil,or_false] at hx
    rcases hx with rfl | rfl
    ·exact wFoM
    ·exact wNoM
   refine gL hxd ?_
   refine lw ?_
   exact g0 _ rfl (by show (if bK=bK then gs x else if bK=aq then gs wOn ++ (if x ∈ fa then gs af else []) else gs wOn)=_; rw [if_pos rfl])
 | fault =>
   refine start af [] rfl _ _ ?_
   refine jp (ss:=wSAO) tupSAO rfl (by decide +kernel) ?_
   refine uS rfl rfl ?_
   simp only [aA,hcb,hop,aa,ae,hV,hC,zG0,zG1]
   refine gL (w:=af) wFaM ?_
   refine lw ?_
   exact g0 _ rfl (by show (if af=af then gs af else if af=bP then gs wOn ++ gs af else gs af)=_; rw [if_pos rfl])
 | may =>
   have z3:bP ≠ af:=by decide +kernel
   refine start bP [] rfl _ _ ?_
   refine jp (ss:=wSAO) tupSAO rfl (by decide +kernel) ?_
   refine gC rfl z3 ?_
   refine bZ true (fun R E r=>?_) (fun _=>?_) (fun hb=>by cases hb)
   ·simp only [hB,hOr,hop,hV,hC,zG0,zG1]
    exact eqT rfl r
   simp only [aA,hop,hV,hC,zG0,zG1]
   refine gL (w:=wOn) wOnM ?_
   refine gL (w:=af) wFaM ?_
   refine yB onl fll ?_
   exact g0 _ rfl (by show (if bP=af then gs af else if bP=bP then gs wOn ++ gs af else gs bP)=_; rw [if_neg z3,if_pos rfl])
 | deeper f =>
   obtain ⟨z2,z3,z4,z5,z6,z7,z8⟩:aq ≠ af∧aq ≠ bP∧aq ≠ aB∧aq ∉ wETL∧aq ≠ aM∧aq ≠ am∧aq ≠ bK:=by decide +kernel
   have e1:(fg (bo fa n) fa lp [.s aq,.s f] path mood gs).1=gs wOn ++ if f ∈ fa then gs af else []:=by
    show (if aq=bK then gs f else if aq=aq then gs wOn ++ (if f ∈ fa then gs af else []) else gs wOn)=_
    rw [if_neg z8,if_pos rfl]
   refine start aq [.s f] rfl _ _ ?_
   refine jp (ss:=wSAO) tupSAO rfl (by decide +kernel) ?_
   refine gC rfl z2 ?_
   refine bZ (decide (f ∈ fa)) (fun R E r=>?_) (fun hb=>?_) (fun hb=>?_)
   ·simp only [hB,hOr,dU,hop,hun,hV,hC,zG0,zG1]
    refine eqF z3 ?_
    dsimp only
    refine eqT rfl ?_
    dsimp only
    refine (show gIx (aY [.s aq,.s f]) (.int 1) S _ from aF (xs:=[.str aq,.str f]) rfl rfl ?_)
    refine (show iP w (.ref g) (.str gB) S _ from wY hg ?_)
    exact jn (neg:=false) (fY hg.hq) r
   ·simp only [aA,hop,hV,hC,zG0,zG1]
    refine gL (w:=wOn) wOnM ?_
    refine gL (w:=af) wFaM ?_
    refine yB onl fll ?_
    exact g0 _ rfl (by rw [e1,if_pos (of_decide_eq_true hb)])
   ·refine gC rfl z4 ?_
    refine jp (ss:=wETL) tupETL rfl z5 ?_
    refine gC rfl z6 ?_
    refine gC rfl z7 ?_
    simp only [aA,hcb,hop,aa,ae,hV,hC,zG0,zG1]
    refine gL (w:=wOn) wOnM ?_
    refine lw ?_
    exact g0 _ rfl (by rw [e1,if_neg (of_decide_eq_false hb),List.append_nil])
 | deed z x hz =>
   obtain ⟨⟨z1,z2,z3⟩,z4,z5,z6,z7,z8⟩:=oK z hz
   refine start z [.s x] rfl _ _ ?_
   refine jp (ss:=wSAO) tupSAO rfl (by first | assumption | decide +kernel) ?_
   refine gC rfl (by first | assumption | decide +kernel) ?_
   refine sJ rfl (by first | assumption | decide +kernel) (by first | assumption | decide +kernel) ?_
   refine gC rfl (by first | assumption | decide +kernel) ?_
   refine jp (ss:=wETL) tupETL rfl (by first | assumption | decide +kernel) ?_
   refine gC rfl (by first | assumption | decide +kernel) ?_
   refine gC rfl (by first | assumption | decide +kernel) ?_
   simp only [aA,hcb,hop,aa,ae,hV,hC,zG0,zG1]
   refine gL (w:=wOn) wOnM ?_
   refine lw ?_
   have z9:z ≠ bK:=fun e=>z1 (by rw [e]; simp)
   exact g0 _ rfl (by show (if z=bK then gs x else if z=aq then gs wOn ++ (if x ∈ fa then gs af else []) else gs wOn)=_; rw [if_neg z9,if_neg z4])
 | tries a m hm ga =>
   obtain ⟨z1,z2,z3,z4⟩:aB ∉ wSAO∧aB ≠ af∧aB ≠ bP∧aB ≠ aq:=by decide +kernel
   refine start aB [.p a] rfl _ _ ?_
   refine jp (ss:=wSAO) tupSAO rfl z1 ?_
   refine gC rfl z2 ?_
   refine sJ rfl z3 z4 ?_
   refine uS rfl rfl ?_
   refine fy (cu (.at_ (path ++ [0,0]) mood :: gs wOn)) S (fun R E r=>?_) ?_
   ·simp only [hop,av,bD,aa,ae,hV,hC,zG0,zG1]
    refine key2 (i:=0) (j:=0) ?_
    refine gL (w:=wOn) wOnM ?_
    refine (show cr (cu [.at_ (path ++ [0,0]) mood]) (cu (gs wOn)) S R from yB (by show 1≤1000; omega) onl ?_)
    exact r
   dsimp only [zS1,zS0]
   refine fz (fun x S'=>∃ r,x = .ref r∧S r=none∧S'=up S r (.dct (kvT (bY lp) fun x=>cu (gs x)))) (fun R E hR=>?_) fun x S1 ⟨r,ex,hr,eS⟩=>?_
   ·simp only [hcb,aa,ae,hV,zG0,zG1]
    exact pQ fun r hr=>hR _ _ ⟨r,rfl,hr,rfl⟩
   subst ex
   subst eS
   dsimp only [zS1,zS0]
   refine dC ?_
   simp only [cE,hV,hC,zG0,zG1]
   refine DT (w:=wOn) ai wOnM ?_
   rw [dI]
   refine dC ?_
   simp only [cE,hV,hC,zG0,zG1]
   refine (show gD (.ref r) (.str aH) (cu (.at_ (path ++ [0,0]) mood :: gs wOn)) _ _ from kJ ai (Nat.le_trans w6 (by decide)) ?_)
   rw [dI]
   refine dC ?_
   simp only [cE,hop,hV,hC,zG0,zG1]
   refine gL (w:=wOn) wOnM ?_
   have d2:∀ K:Sto→Prop,K (up S r (.dct (kvT (bY true) fun x=>cu (bi (bi (bi gs wOn (.at_ (path ++ [0,0]) mood :: gs wOn)) aH (.at_ (path ++ [0,0]) mood :: gs wOn)) cD (gs wOn) x))))→gD (.ref r) (.str cD) (cu (gs wOn)) (up S r (.dct (cX (kvT (bY lp) fun x=>cu (bi gs wOn (.at_ (path ++ [0,0]) mood :: gs wOn) x)) (.inr aH) (cu (.at_ (path ++ [0,0]) mood :: gs wOn))))) K:=fun K k=>by
    unfold gD
    dsimp only
    rw [ai]
    dsimp only [hO]
    have l:(cX (kvT (bY lp) fun x=>cu (bi gs wOn (.at_ (path ++ [0,0]) mood :: gs wOn) x)) (.inr aH) (cu (.at_ (path ++ [0,0]) mood :: gs wOn))).length≤1000:=by
     cases lp with
     | true=>rw [jP domG_words.2.1,jO]; exact Nat.le_trans w6 (by decide)
     | false=>rw [gy domG_words.2.2.2.1,jO]; decide
    rw [show Nat.ble _ 1000=true from Nat.ble_eq.mpr l]
    dsimp only
    rw [dI]
    exact (congrArg (fun z=>K (up S r (.dct z))) (CE lp gs _ _ _)).mpr k
   refine d2 _ ?_
   refine dC ?_
   unfold c5
   simp only [zG0,zG1]
   rw [ai]
   dsimp only [zS1,zS0]
   rw [lk hr,gM,gN]
   simp only [aL,an,av,hop,aa,ae,hV,hC,zG0,zG1]
   refine (show gIx (aY [.s aB,.p a]) (.int 1) S _ from aF (xs:=[.str aB,aw a]) rfl rfl ?_)
   refine key1 (i:=0) ?_
   refine ⟨g,fq,fa,kvs,P,m,true,a,path ++ [0],mood,bi (bi (bi gs wOn (.at_ (path ++ [0,0]) mood :: gs wOn)) aH (.at_ (path ++ [0,0]) mood :: gs wOn)) cD (gs wOn),rfl,hg,ga,hm,by rw [List.length_append,List.length_singleton]; omega,by omega,?_,hsz,fun S' gr=>?_⟩
   ·intro x hx
    by_cases e1:x=cD
    ·subst e1; rw [gO]; omega
    ·rw [eM e1]
     by_cases e2:x=aH
     ·subst e2; rw [gO,List.length_cons]; omega
     ·rw [eM e2]
      by_cases e3:x=wOn
      ·subst e3; rw [gO,List.length_cons]; omega
      ·rw [eM e3]
       refine hgs x ?_
       unfold bY at hx ⊢
       rcases List.mem_cons.mp hx with rfl | hx
       ·exact absurd rfl e3
       ·rcases List.mem_cons.mp hx with rfl | hx
        ·exact wFaM
        ·exact zMt (zMt (uJ hx e2 e1))
   ·simp only [aA,hV,zG0,zG1]
    exact Rt.mk (q S' gr)
 | two z a b m hz hm ga gb =>
   obtain ⟨z1,z2,z3,z4,z5,z6⟩:z ∉ wSAO∧z ≠ af∧z ≠ bP∧z ≠ aq∧z ≠ aB∧z ∈ wETL:=(by decide +kernel:∀ z ∈ [bX,d7],z ∉ wSAO∧z ≠ af∧z ≠ bP∧z ≠ aq∧z ≠ aB∧z ∈ wETL) z hz
   have hz2:z=bX∨z=d7:=by simpa using hz
   have eG:fg (bo fa n) fa lp [.s z,.p a,.p b] path mood gs=([.at_ (path ++ [0,0]) mood,.at_ (path ++ [1,0]) mood],bo fa n lp a (path ++ [0]) mood gs ++ bo fa n lp b (path ++ [1]) mood gs):=by
    unfold fg
    dsimp only
    rw [if_pos hz2]
   rw [eG] at hsz q
   refine start z [.p a,.p b] rfl _ _ ?_
   refine jp (ss:=wSAO) tupSAO rfl z1 ?_
   refine gC rfl z2 ?_
   refine sJ rfl z3 z4 ?_
   refine gC rfl z5 ?_
   refine uR (ss:=wETL) tupETL rfl z6 ?_
   exact pair [.s z,.p a,.p b] a b m z rfl (aF (xs:=[.str z,aw a,aw b]) rfl rfl) (aF (xs:=[.str z,aw a,aw b]) rfl rfl) hm ga gb hsz q _ rfl
 | look c a b m hm ga gb =>
   obtain ⟨z1,z2,z3,z4,z5,z6⟩:bw ∉ wSAO∧bw ≠ af∧bw ≠ bP∧bw ≠ aq∧bw ≠ aB∧bw ∈ wETL:=by decide +kernel
   refine start bw [.s c,.p a,.p b] rfl _ _ ?_
   refine jp (ss:=wSAO) tupSAO rfl z1 ?_
   refine gC rfl z2 ?_
   refine sJ rfl z3 z4 ?_
   refine gC rfl z5 ?_
   refine uR (ss:=wETL) tupETL rfl z6 ?_
   exact pair [.s bw,.s c,.p a,.p b] a b m bw rfl (aF (xs:=[.str bw,.str c,aw a,aw b]) rfl rfl) (aF (xs:=[.str bw,.str c,aw a,aw b]) rfl rfl) hm ga gb hsz q _ rfl
 | guard a b m hm ga gb =>
   obtain ⟨z1,z2,z3,z4,z5,z6⟩:aM ∉ wSAO∧aM ≠ af∧aM ≠ bP∧aM ≠ aq∧aM ≠ aB∧aM ∉ wETL:=by decide +kernel
   have z7:¬ (aM=bX∨aM=d7):=by decide +kernel
   have eG:fg (bo fa n) fa lp [.s aM,.p a,.p b] path mood gs=([.at_ (path ++ [0,0]) mood],bo fa n lp a (path ++ [0]) mood (bi gs af [.at_ (path ++ [1,0]) mood]) ++ bo fa n lp b (path ++ [1]) mood gs):=by
    unfold fg
    dsimp only
    rw [if_neg z7,if_pos rfl]
   rw [eG] at hsz q
   dsimp only at hsz q
   rw [List.length_append] at hsz
   refine start aM [.p a,.p b] rfl _ _ ?_
   refine jp (ss:=wSAO) tupSAO rfl z1 ?_
   refine gC rfl z2 ?_
   refine sJ rfl z3 z4 ?_
   refine gC rfl z5 ?_
   refine jp (ss:=wETL) tupETL rfl z6 ?_
   refine uS rfl rfl ?_
   refine fz (fun x S'=>∃ r,x = .ref r∧S r=none∧S'=up S r (.dct (kvT (bY lp) fun x=>cu (gs x)))) (fun R E hR=>?_) fun x S1 ⟨r,ex,hr,eS⟩=>?_
   ·simp only [hcb,aa,ae,hV,zG0,zG1]
    exact pQ fun r hr=>hR _ _ ⟨r,rfl,hr,rfl⟩
   subst ex
   subst eS
   dsimp only [zS1,zS0]
   refine dC ?_
   simp only [cE,bD,av,hop,aa,ae,hV,hC,zG0,zG1]
   refine key2 (i:=1) (j:=0) ?_
   refine (show gD (.ref r) (.str af) (cu [.at_ (path ++ [1,0]) mood]) _ _ from DT (w:=af) ai wFaM ?_)
   rw [dI]
   refine dC ?_
   unfold c5
   simp only [zG0,zG1]
   rw [ai]
   dsimp only [zS1,zS0]
   rw [lk hr,gM,gN]
   simp only [aL,an,av,hop,aa,ae,hV,hC,zG0,zG1]
   refine (show gIx (aY [.s aM,.p a,.p b]) (.int 1) S _ from aF (xs:=[.str aM,aw a,aw b]) rfl rfl ?_)
   refine key1 (i:=0) ?_
   refine ⟨g,fq,fa,kvs,P,m,lp,a,path ++ [0],mood,bi gs af [.at_ (path ++ [1,0]) mood],rfl,hg,ga,hm,by rw [List.length_append,List.length_singleton]; omega,by omega,hgs.set (by show 1≤3; omega),by omega,fun S1 gr1=>?_⟩
   refine dC ?_
   simp only [aL,an,av,hop,aa,ae,hV,hC,zG0,zG1]
   refine (show gIx (aY [.s aM,.p a,.p b]) (.int 2) S1 _ from aF (xs:=[.str aM,aw a,aw b]) rfl rfl ?_)
   refine key1 (i:=1) ?_
   have hl:=gK (bo fa n lp a (path ++ [0]) mood (bi gs af [.at_ (path ++ [1,0]) mood])) kvs
   refine ⟨g,fq,fa,iA kvs (bo fa n lp a (path ++ [0]) mood (bi gs af [.at_ (path ++ [1,0]) mood])),P,m,lp,b,path ++ [1],mood,gs,rfl,hg.grow gr1,gb,hm,by rw [List.length_append,List.length_singleton]; omega,by omega,hgs,by omega,fun S2 gr2=>?_⟩
   simp only [aA,bD,av,hop,aa,ae,hV,hC,zG0,zG1]
   refine key2 (i:=0) (j:=0) ?_
   exact Rt.mk (q S2 (gr1.t gr2))
 | lastly a b m hm ga gb =>
   obtain ⟨z1,z2,z3,z4,z5,z6,z7⟩:am ∉ wSAO∧am ≠ af∧am ≠ bP∧am ≠ aq∧am ≠ aB∧am ∉ wETL∧am ≠ aM:=by decide +kernel
   have z8:¬ (am=bX∨am=d7):=by decide +kernel
   have eG:fg (bo fa n) fa lp [.s am,.p a,.p b] path mood gs=([.at_ (path ++ [0,0]) mood],((bY lp).flatMap fun w=>bo fa n lp b (path ++ [1]) (mood ++ [w]) (bi gs wOn (gs w))) ++ bo fa n lp a (path ++ [0]) mood (fun w=>[.at_ (path ++ [1,0]) (mood ++ [w])])):=by
    unfold fg
    dsimp only
    rw [if_neg z8,if_neg z7]
   rw [eG] at hsz q
   dsimp only at hsz q
   rw [List.length_append] at hsz
   refine start am [.p a,.p b] rfl _ _ ?_
   refine jp (ss:=wSAO) tupSAO rfl z1 ?_
   refine gC rfl z2 ?_
   refine sJ rfl z3 z4 ?_
   refine gC rfl z5 ?_
   refine jp (ss:=wETL) tupETL rfl z6 ?_
   refine gC rfl z7 ?_
   refine uS rfl rfl ?_
   refine fz (fun x S'=>∃ r,x = .ref r∧S r=none∧S'=up S r (.dct [])) (fun R E hR=>?_) fun x S1 ⟨r,ex,hr,eS⟩=>?_
   ·simp only [jX]
    exact fun r hr=>hR _ _ ⟨r,rfl,hr,rfl⟩
   subst ex
   subst eS
   dsimp only [zS1,zS0]
   have rg:r ≠ g:=fun e=>by rw [e,hg.hg] at hr; cases hr
   refine gE (fun env S'=>∃ (x9 x10:Option D),env=[some (.ref g),some (aY [.s am,.p a,.p b]),some (.tps [aU path,bp mood]),some (gsD lp gs),some (aU path),some (bp mood),some (.str am),none,some (.ref r),x9,x10]∧GrowG w g kvs S S' ((bY lp).flatMap fun w=>bo fa n lp b (path ++ [1]) (mood ++ [w]) (bi gs wOn (gs w)))∧S' r=some (.dct (kvT (bY lp) fun w=>cu [.at_ (path ++ [1,0]) (mood ++ [w])]))) (fun D1 hD=>?_) fun env S1 ⟨x9,x10,ee,gr1,hr1⟩=>?_
   ·simp only [cC,vr,hV,zG0,zG1]
    refine ⟨by rw [List.length_map]; omega,?_⟩
    rw [List.map_map]
    have kd:(kdD ∘ (Sum.inr:Str→Key))=D.str:=rfl
    rw [kd]
    refine c7 (I:=fun i e S'=>∃ (x9 x10:Option D),e=[some (.ref g),some (aY [.s am,.p a,.p b]),some (.tps [aU path,bp mood]),some (gsD lp gs),some (aU path),some (bp mood),some (.str am),none,some (.ref r),x9,x10]∧GrowG w g kvs S S' (((bY lp).take i).flatMap fun w=>bo fa n lp b (path ++ [1]) (mood ++ [w]) (bi gs wOn (gs w)))∧S' r=some (.dct (kvT ((bY lp).take i) fun w=>cu [.at_ (path ++ [1,0]) (mood ++ [w])]))) _ (fun i d e S2 hdi ⟨x9,x10,ee,gr2,hr2⟩=>?_) (fun e S2 ⟨x9,x10,ee,gr2,hr2⟩=>?_) ⟨none,none,rfl,⟨?_,fun x m hx e=>?_⟩,ai⟩
    ·subst ee
     rw [List.getElem?_map] at hdi
     obtain ⟨z,hz,rfl⟩:=Option.map_eq_some_iff.mp hdi
     have hi:=(List.getElem?_eq_some_iff.mp hz).1
     have hzm:=List.mem_of_getElem? hz
     have tk:(bY lp).take (i + 1)=(bY lp).take i ++ [z]:=by rw [List.take_succ,hz]; rfl
     have hg2:=hg.grow gr2
     refine ⟨_,rfl,fun K hK=>?_⟩
     simp only [zS1,zS0]
     refine fz (fun x S'=>∃ p,x = .ref p∧S2 p=none∧S'=up S2 p (.dct (kvT (bY lp) fun x=>cu (gs x)))) (fun R E hR=>?_) fun x S3 ⟨p,ex,hp,eS⟩=>?_
     ·simp only [hcb,aa,ae,hV,zG0,zG1]
      exact pQ fun p hp=>hR _ _ ⟨p,rfl,hp,rfl⟩
     subst ex
     subst eS
     dsimp only [zS1,zS0]
     refine dC ?_
     simp only [cE,hop,hV,hC,zG0,zG1]
     refine gL hzm ?_
     refine DT (w:=wOn) ai wOnM ?_
     rw [dI]
     refine dC ?_
     unfold c5
     simp only [zG0,zG1]
     rw [ai]
     dsimp only [zS1,zS0]
     rw [lk hp,gM,gN]
     simp only [aL,an,av,hop,aa,ae,hV,hC,zG0,zG1]
     refine (show gIx (aY [.s am,.p a,.p b]) (.int 2) S2 _ from aF (xs:=[.str am,aw a,aw b]) rfl rfl ?_)
     refine key1 (i:=1) ?_
     refine (show bb (bp mood) (.tps [.str z]) S2 _ from gj (by rw [List.length_map,List.length_singleton]; omega) ?_)
     rw [mdT]
     have hl:=gK (((bY lp).take i).flatMap fun w=>bo fa n lp b (path ++ [1]) (mood ++ [w]) (bi gs wOn (gs w))) kvs
     have CZ:(((bY lp).take i).flatMap fun w=>bo fa n lp b (path ++ [1]) (mood ++ [w]) (bi gs wOn (gs w))).length + (bo fa n lp b (path ++ [1]) (mood ++ [z]) (bi gs wOn (gs z))).length≤((bY lp).flatMap fun w=>bo fa n lp b (path ++ [1]) (mood ++ [w]) (bi gs wOn (gs w))).length:=by
      have e:(bY lp)=(bY lp).take (i + 1) ++ (bY lp).drop (i + 1):=(List.take_append_drop _ _).symm
      have:((bY lp).flatMap fun w=>bo fa n lp b (path ++ [1]) (mood ++ [w]) (bi gs wOn (gs w)))=(((bY lp).take i).flatMap fun w=>bo fa n lp b (path ++ [1]) (mood ++ [w]) (bi gs wOn (gs w))) ++ bo fa n lp b (path ++ [1]) (mood ++ [z]) (bi gs wOn (gs z)) ++ (((bY lp).drop (i + 1)).flatMap fun w=>bo fa n lp b (path ++ [1]) (mood ++ [w]) (bi gs wOn (gs w))):=by
       rw [← List.flatMap_singleton (fun w=>bo fa n lp b (path ++ [1]) (mood ++ [w]) (bi gs wOn (gs w))) z,← List.flatMap_append,← List.flatMap_append,← tk,List.take_append_drop]
      rw [this,List.length_append,List.length_append]
      omega
     refine ⟨g,fq,fa,_,P,0,lp,b,path ++ [1],mood ++ [z],bi gs wOn (gs z),rfl,hg2,fun x hx=>GoodS.simp (.inl (gb x hx)),by omega,by rw [List.length_append,List.length_singleton]; omega,by rw [List.length_append,List.length_singleton]; omega,hgs.set (hgs z hzm),by omega,fun S3 gr3=>?_⟩
     simp only [cE,bD,av,hop,aa,ae,hV,hC,zG0,zG1]
     refine key2 (i:=1) (j:=0) ?_
     refine (show bb (bp mood) (.tps [.str z]) S3 _ from gj (by rw [List.length_map,List.length_singleton]; omega) ?_)
     rw [mdT]
     have hr3:S3 r=some (.dct (kvT ((bY lp).take i) fun w=>cu [.at_ (path ++ [1,0]) (mood ++ [w])])):=gr3.keep r _ rg hr2
     refine (show gD (.ref r) (.str z) (cu [.at_ (path ++ [1,0]) (mood ++ [z])]) S3 _ from kJ hr3 (by rw [List.length_take]; omega) ?_)
     have zn:z ∉ (bY lp).take i:=fun hm=>by
      obtain ⟨j,hj⟩:=List.mem_iff_getElem?.mp hm
      rw [List.getElem?_take] at hj
      split at hj
      ·have:=(List.getElem?_inj hi wnd).mp (hz.trans hj.symm)
       omega
      ·cases hj
     rw [gy zn]
     have ek:kvT ((bY lp).take i ++ [z]) (fun x=>if x=z then cu [.at_ (path ++ [1,0]) (mood ++ [z])] else cu [.at_ (path ++ [1,0]) (mood ++ [x])])=kvT ((bY lp).take (i + 1)) fun w=>cu [.at_ (path ++ [1,0]) (mood ++ [w])]:=by
      rw [tk]
      unfold kvT
      refine List.map_congr_left fun x _=>?_
      show ((Sum.inr x:Key),if x=z then cu [.at_ (path ++ [1,0]) (mood ++ [z])] else cu [.at_ (path ++ [1,0]) (mood ++ [x])])=_
      by_cases e:x=z
      ·rw [if_pos e,e]
      ·rw [if_neg e]
     rw [ek]
     have gr4:=gr2.t gr3
     refine hK _ _ ⟨_,_,rfl,⟨?_,fun x m hx e=>?_⟩,ai⟩
     ·rw [ar (Ne.symm rg),gr4.hg,tk,List.flatMap_append,List.flatMap_singleton]
     ·rw [ar (sne e hr)]
      exact gr4.keep x m hx e
    ·rw [ar (Ne.symm rg)]
     exact hg.hg
    ·rw [ar (sne e hr)]
     exact e
    ·subst ee
     rw [List.length_map,List.take_length] at gr2 hr2
     exact hD _ _ ⟨_,_,rfl,gr2,hr2⟩
   subst ee
   have gr1':GrowG w g kvs S (dl S1 r) ((bY lp).flatMap fun w=>bo fa n lp b (path ++ [1]) (mood ++ [w]) (bi gs wOn (gs w))):=⟨by rw [fR (Ne.symm rg)]; exact gr1.hg,fun x m hx e=>by rw [fR (sne e hr)]; exact gr1.keep x m hx e⟩
   refine dC ?_
   unfold c5
   simp only [zG0,zG1]
   rw [hr1]
   dsimp only [zS1,zS0]
   rw [gM,gN]
   simp only [aL,an,av,hop,aa,ae,hV,hC,zG0,zG1]
   refine (show gIx (aY [.s am,.p a,.p b]) (.int 1) (dl S1 r) _ from aF (xs:=[.str am,aw a,aw b]) rfl rfl ?_)
   refine key1 (i:=0) ?_
   have hl:=gK ((bY lp).flatMap fun w=>bo fa n lp b (path ++ [1]) (mood ++ [w]) (bi gs wOn (gs w))) kvs
   refine ⟨g,fq,fa,_,P,m,lp,a,path ++ [0],mood,fun w=>[.at_ (path ++ [1,0]) (mood ++ [w])],rfl,hg.grow gr1',ga,hm,by rw [List.length_append,List.length_singleton]; omega,by omega,fun x _=>by show 1≤3; omega,by omega,fun S2 gr2=>?_⟩
   simp only [aA,bD,av,hop,aa,ae,hV,hC,zG0,zG1]
   refine key2 (i:=0) (j:=0) ?_
   exact Rt.mk (q S2 (gr1'.t gr2))
def yE (w:World) (dw:HSp):HTS:=(aj (cC (hJ (aa (hcb dJ (aa (hV 1) ae)) ae)) (.nm 5) (aj (aK 6 (hcb d9 (aa (hV 4) ae)))
 (aj (cE (hV 6) (hC (.str ("on" : Str))) (bD (aa (av (aa (hop bb (hV 2) (av (aa (hop cr (hV 5) (hC (.int 1))) ae))) (aa (hV 3) ae))) ae)))
 (c5 6 (qi w (hV 0) (av (aa (hop bb (hV 2) (av (aa (hV 5) ae))) (aa (hV 3) ae))) (bD (aa (hop gIx (hV 1) (hV 5)) (aa (an 4 [] dw (aa (hV 0) (aa (hop gIx (hV 1) (hV 5)) (aa (av (aa (hop bb (hV 2) (av (aa (hV 5) ae))) (aa (hV 3) ae))) (aa (hV 6) ae))))) ae))))))))
 (qi w (hV 0) (av (aa (hop bb (hV 2) (av (aa (hcb dJ (aa (hV 1) ae)) ae))) (aa (hV 3) ae))) (bD (aa (hC .non) (aa (hcb fu (aa (hop cQ (hV 4) (hC (.str ("on" : Str)))) ae)) ae)))))
theorem oa (lay:sE) (fa:List Str) (lp:Bool) (path:List Nat) (mood:List Str) (gs:GsT):∀ (a b:Bdy) (i:Nat),dN lay fa lp path mood gs (a ++ b) i=dN lay fa lp path mood gs a i ++ dN lay fa lp path mood gs b (i + a.length)
 | [],b,i=>rfl
 | s :: a,b,i=>by
   have ih:=oa lay fa lp path mood gs a b (i + 1)
   show (fg lay fa lp s (path ++ [i]) mood (bi gs wOn [.at_ (path ++ [i + 1]) mood])).2 ++ _ :: dN lay fa lp path mood gs (a ++ b) (i + 1)=((fg lay fa lp s (path ++ [i]) mood (bi gs wOn [.at_ (path ++ [i + 1]) mood])).2 ++ _ :: dN lay fa lp path mood gs a (i + 1)) ++ _
   rw [ih,List.append_assoc,List.cons_append,List.length_cons,show i + (a.length + 1)=i + 1 + a.length by omega]
theorem yF {lay:sE} {fa:List Str} {lp:Bool} {path:List Nat} {mood:List Str} {gs:GsT} {b:Bdy} {i:Nat} {s:Stm} (h:b[i]? = some s):dN lay fa lp path mood gs (b.take (i + 1)) 0=dN lay fa lp path mood gs (b.take i) 0 ++ ((fg lay fa lp s (path ++ [i]) mood (bi gs wOn [.at_ (path ++ [i + 1]) mood])).2 ++ [((path ++ [i],mood),(some s,(fg lay fa lp s (path ++ [i]) mood (bi gs wOn [.at_ (path ++ [i + 1]) mood])).1))]):=by
 have hi:=(List.getElem?_eq_some_iff.mp h).1
 rw [List.take_succ,h]
 show dN lay fa lp path mood gs (b.take i ++ [s]) 0=_
 rw [oa,List.length_take,Nat.min_eq_left (by omega),Nat.zero_add]
 rfl
theorem yG {w:World} {n:Nat} {ds:List D} {S:Sto} {Q E:HK} (h:iZ w (n + 1) ds S Q E):yE w (uQ w n) (EN Q E) (ao 7 ds) S:=by
 obtain ⟨g,fq,fa,kvs,P,lv,lp,b,path,mood,gs,rfl,hg,hb,hlv,hpa,hmo,hgs,hsz,q⟩:=h
 obtain ⟨w6,wnd,wOnM,wFaM,wFoM,wNoM⟩:=domG_words.1 lp
 have lm:(stmsD b).length=b.length:=kI b
 have eL:bo fa (n + 1) lp b path mood gs=dN (bo fa n) fa lp path mood gs b 0 ++ [((path ++ [b.length],mood),(none,gs wOn))]:=rfl
 rw [eL] at hsz q
 rw [List.length_append,List.length_singleton] at hsz
 have bl:b.length≤100000:=by
  have:∀ (b:Bdy) (i:Nat),b.length≤(dN (bo fa n) fa lp path mood gs b i).length:=by
   intro b
   induction b with
   | nil=>intro i; exact Nat.zero_le _
   | cons s b ih =>
     intro i
     have:=ih (i + 1)
     show b.length + 1≤((fg (bo fa n) fa lp s (path ++ [i]) mood (bi gs wOn [.at_ (path ++ [i + 1]) mood])).2 ++ _ :: dN (bo fa n) fa lp path mood gs b (i + 1)).length
     rw [List.length_append,List.length_cons]
     omega
  have:=this b 0
  omega
 have key1:∀ {S1:Sto} {i:Nat} {R:HK},R (aU (path ++ [i])) S1→bb (aU path) (.tps [.int (i:Int)]) S1 R:=fun {S1 i R} r=>gj (by rw [List.length_map]; show _ + 1≤_; omega) (by rw [ptT]; exact r)
 have lw:∀ {x:List GK} {S:Sto} {R:HK},R (cu x) S→fu [cu x] S R:=fun r=>r
 show yE w (uQ w n) (EN Q E) [some (.ref g),some (aw b),some (aU path),some (bp mood),some (gsD lp gs),none,none] S
 unfold yE
 refine gE (fun env S'=>∃ (x5 x6:Option D),env=[some (.ref g),some (aw b),some (aU path),some (bp mood),some (gsD lp gs),x5,x6]∧GrowG w g kvs S S' (dN (bo fa n) fa lp path mood gs b 0)) (fun D1 hD=>?_) fun env S1 ⟨x5,x6,ee,gr1⟩=>?_
 ·simp only [cC,hJ,hcb,aa,ae,hV,zG0,zG1]
  refine bz (xs:=stmsD b) rfl ?_
  rw [lm]
  refine ⟨by omega,by omega,?_⟩
  rw [show ((b.length:Nat):Int).toNat=b.length by omega]
  refine c7 (I:=fun i e S'=>∃ (x5 x6:Option D),e=[some (.ref g),some (aw b),some (aU path),some (bp mood),some (gsD lp gs),x5,x6]∧GrowG w g kvs S S' (dN (bo fa n) fa lp path mood gs (b.take i) 0)) _ (fun i d e S2 hdi ⟨x5,x6,ee,gr2⟩=>?_) (fun e S2 ⟨x5,x6,ee,gr2⟩=>?_) ⟨none,none,rfl,hg.r⟩
  ·subst ee
   obtain ⟨hi,rfl⟩:=mU hdi
   refine ⟨_,rfl,fun K hK=>?_⟩
   dsimp only [zS1,zS0]
   rw [show (0:Int) + ((i:Nat):Int)=((i:Nat):Int) by omega]
   obtain ⟨s,hs⟩:∃ s,b[i]? = some s:=⟨_,List.getElem?_eq_getElem hi⟩
   have hg2:=hg.grow gr2
   have hl:=gK (dN (bo fa n) fa lp path mood gs (b.take i) 0) kvs
   have tk:=yF (lay:=bo fa n) (fa:=fa) (lp:=lp) (path:=path) (mood:=mood) (gs:=gs) hs
   have hle:(dN (bo fa n) fa lp path mood gs (b.take (i + 1)) 0).length≤(dN (bo fa n) fa lp path mood gs b 0).length:=by
    have:=oa (bo fa n) fa lp path mood gs (b.take (i + 1)) (b.drop (i + 1)) 0
    rw [List.take_append_drop] at this
    rw [this,List.length_append]
    omega
   rw [tk,List.length_append,List.length_append,List.length_singleton] at hle
   refine fz (fun x S'=>∃ p,x = .ref p∧S2 p=none∧S'=up S2 p (.dct (kvT (bY lp) fun x=>cu (gs x)))) (fun R E hR=>?_) fun x S3 ⟨p,ex,hp,eS⟩=>?_
   ·simp only [hcb,aa,ae,hV,zG0,zG1]
    exact pQ fun p hp=>hR _ _ ⟨p,rfl,hp,rfl⟩
   subst ex
   subst eS
   dsimp only [zS1,zS0]
   refine dC ?_
   simp only [cE,bD,av,hop,aa,ae,hV,hC,zG0,zG1]
   refine mW ?_
   rw [show ((i:Nat):Int) + 1=((i + 1:Nat):Int) by omega]
   refine key1 ?_
   refine (show gD (.ref p) (.str wOn) (cu [.at_ (path ++ [i + 1]) mood]) _ _ from DT (w:=wOn) ai wOnM ?_)
   rw [dI]
   unfold c5
   simp only [zG0,zG1]
   rw [ai]
   dsimp only [zS1,zS0]
   rw [lk hp,gM,gN]
   simp only [qi,an,bD,av,hop,aa,ae,hV,hC,zG0,zG1]
   refine aF (xs:=stmsD b) rfl (fe (m9 hs)) ?_
   refine aF (xs:=stmsD b) rfl (fe (m9 hs)) ?_
   refine key1 ?_
   refine ⟨g,fq,fa,_,P,lv,lp,s,path ++ [i],mood,bi gs wOn [.at_ (path ++ [i + 1]) mood],rfl,hg2,hb s (List.mem_of_getElem? hs),by omega,by rw [List.length_append,List.length_singleton]; omega,by omega,hgs.set (by show 1≤3; omega),by rw [gO]; show 1≤1; omega,by omega,fun S3 gr3=>?_⟩
   have gr4:=gr2.t gr3
   refine key1 ?_
   have hl2:=gK (dN (bo fa n) fa lp path mood gs (b.take i) 0 ++ (fg (bo fa n) fa lp s (path ++ [i]) mood (bi gs wOn [.at_ (path ++ [i + 1]) mood])).2) kvs
   rw [List.length_append] at hl2
   refine zT gr4.hg (uP (path ++ [i]) mood) (n7 _ _) (by omega) ?_
   refine hK _ _ ⟨_,_,rfl,?_,fun x m hx e=>?_⟩
   ·rw [ai,tk,← List.append_assoc,n8 (kvs:=kvs) (b:=[_])]
    rfl
   ·rw [ar hx]
    exact gr4.keep x m hx e
  ·subst ee
   rw [dV,List.take_length] at gr2
   exact hD _ _ ⟨_,_,rfl,gr2⟩
 subst ee
 have hl:=gK (dN (bo fa n) fa lp path mood gs b 0) kvs
 simp only [qi,hcb,bD,av,hop,aa,ae,hV,hC,zG0,zG1]
 refine gL (w:=wOn) wOnM ?_
 refine lw ?_
 refine bz (xs:=stmsD b) rfl ?_
 rw [lm]
 refine key1 ?_
 refine zT gr1.hg (uP (path ++ [b.length]) mood) (n7 _ _) (by omega) ?_
 refine Rt.mk (q _ ⟨?_,fun x m hx e=>?_⟩)
 ·rw [ai,n8]
  rfl
 ·rw [ar hx]
  exact gr1.keep x m hx e
theorem CF {es:List EnG} {e0:EnG}:∀ {kvs:List (NestedKey × D)},(∀ e ∈ es,e.1=e0.1→e=e0)→(e0 ∈ es∨fv kvs (g8 e0.1.1 e0.1.2)=some (enV e0))→fv (iA kvs es) (g8 e0.1.1 e0.1.2)=some (enV e0):=by
 induction es with
 | nil =>
   intro kvs _ h
   rcases h with h | h
   ·cases h
   ·exact h
 | cons e es ih =>
   intro kvs hu h
   show fv (iA (iO kvs (g8 e.1.1 e.1.2) (enV e)) es) _=_
   refine ih (fun x hx=>hu x (zMt hx)) ?_
   by_cases he:e.1=e0.1
   ·have:=hu e zMs he
    subst this
    exact .inr (by rw [n9,if_pos rfl])
   ·have hn:¬ g8 e.1.1 e.1.2=g8 e0.1.1 e0.1.2:=fun q=>he (by
     obtain ⟨h1,h2⟩:=DS q
     exact Prod.ext h1 h2)
    rcases h with h | h
    ·rcases List.mem_cons.mp h with h | h
     ·exact absurd (by rw [h]) he
     ·exact .inl h
    ·exact .inr (by rw [n9,if_neg hn]; exact h)
theorem wZ {L:List SpL} (h:(L.map gA).Nodup) {i j:Nat} {s t:SpL} (hi:L[i]? = some s) (hj:L[j]? = some t) (e:gA s=gA t):i=j:=by
 have h1:(L.map gA)[i]? = some (gA s):=by rw [List.getElem?_map,hi]; rfl
 have h2:(L.map gA)[j]? = some (gA s):=by rw [List.getElem?_map,hj,e]; rfl
 exact (List.getElem?_inj (List.getElem?_eq_some_iff.mp h1).1 h).mp (h1.trans h2.symm)
structure LawG (S:Sto) (w:World) (g:Addr) (L:List SpL):Prop where
 at_:∃ kvs,S g=some (.dcn w g kvs)∧∀ (i:Nat) (s:SpL),L[i]? = some s→fv kvs (g8 s.path s.mood)=some (enV (enS L s))
theorem LawG.keep {S S':Sto} {w:World} {g:Addr} {L:List SpL} (h:LawG S w g L) (k:∀ m,S g=some m→S' g=some m):LawG S' w g L:=by
 obtain ⟨kvs,h1,h2⟩:=h.at_
 exact ⟨kvs,k _ h1,h2⟩
theorem LawG.of {P:PN} {b:Bdy} {fa:List Str} {S:Sto} {w:World} {g:Addr} {kvs:List (NestedKey × D)} (hb:∀ x ∈ b,GoodS P 3 false x) (h:S g=some (.dcn w g (iA kvs (bo fa 4 false b [] [] gs0)))):LawG S w g (bO fa b):=by
 refine ⟨_,h,fun i s hs=>?_⟩
 have sm:=DR (fa:=fa) hb
 have kn:=wW (fa:=fa) hb
 refine CF (e0:=enS (bO fa b) s) (fun e he ek=>?_) (.inl (sm.of i (List.getElem?_eq_some_iff.mp hs).1 s (by rw [Nat.zero_add]; exact hs)))
 obtain ⟨j,t,_,hj,rfl⟩:=sm.to e he
 rw [Nat.zero_add] at hj
 have:=wZ kn hj hs ek
 subst this
 rw [hs] at hj
 cases hj
 rfl
abbrev fh (L:List SpL) (u:Nat):D:=gkD (kap L (.sp u))
theorem ij {L:List SpL} {u:Nat} {s:SpL} (h:L[u]? = some s):fh L u = .tps [aU s.path,bp s.mood]:=by
 show gkD (kap L (.sp u))=_
 rw [uO h]
 rfl
theorem LawG.get {S:Sto} {w:World} {g:Addr} {L:List SpL} {u:Nat} {Q:HK} (h:LawG S w g L) (hu:u < L.length) (q:Q (.lst [rS (lD L u),cu ((nxs L u).map (kap L))]) S):iP w (.ref g) (fh L u) S Q:=by
 obtain ⟨kvs,h1,h2⟩:=h.at_
 have hs:L[u]? = some L[u]:=List.getElem?_eq_getElem hu
 rw [ij hs]
 refine zS h1 (uP _ _) (n7 _ _) (h2 u _ hs) ?_
 have e1:lD L u=L[u].stm:=by unfold lD; rw [hs]
 have e2:nxs L u=L[u].nx:=by unfold nxs; rw [hs]
 rw [e1,e2] at q
 exact q
theorem sK:∀ p q:List Nat,PyData.eqvAll (toPs (p.map fun (n:Nat)=>D.int (n:Int))) (toPs (q.map fun (n:Nat)=>D.int (n:Int)))=decide (p=q)
 | [],[]=>rfl
 | [],_ :: _=>rfl
 | _ :: _,[]=>rfl
 | a :: p,b :: q=>by
   show ((((a:Nat):Int) == ((b:Nat):Int)) && PyData.eqvAll (toPs (p.map fun (n:Nat)=>D.int (n:Int))) (toPs (q.map fun (n:Nat)=>D.int (n:Int))))=_
   rw [sK p q,Bool.eq_iff_iff,Bool.and_eq_true,beq_iff_eq,decide_eq_true_eq,decide_eq_true_eq,List.cons.injEq]
   constructor <;> rintro ⟨h1,h2⟩ <;> exact ⟨by omega,h2⟩
theorem sL:∀ p q:List Str,PyData.eqvAll (toPs (p.map D.str)) (toPs (q.map D.str))=decide (p=q)
 | [],[]=>rfl
 | [],_ :: _=>rfl
 | _ :: _,[]=>rfl
 | a :: p,b :: q=>by
   show ((a == b) && PyData.eqvAll (toPs (p.map D.str)) (toPs (q.map D.str)))=_
   rw [sL p q,Bool.eq_iff_iff,Bool.and_eq_true,beq_iff_eq,decide_eq_true_eq,decide_eq_true_eq,List.cons.injEq]
theorem DU (p q:List Nat) (m n:List Str):deq (.tps [aU p,bp m]) (.tps [aU q,bp n])=decide ((p,m)=(q,n)):=by
 show (PyData.eqvAll (toPs (p.map fun (n:Nat)=>D.int (n:Int))) (toPs (q.map fun (n:Nat)=>D.int (n:Int))) && (PyData.eqvAll (toPs (m.map D.str)) (toPs (n.map D.str)) && true))=_
 rw [sK,sL,Bool.eq_iff_iff,Bool.and_true,Bool.and_eq_true,decide_eq_true_eq,decide_eq_true_eq,decide_eq_true_eq,Prod.mk.injEq]
theorem qS:∀ (p:List Nat) (n:Nat),doks n (p.map fun (n:Nat)=>D.int (n:Int))=true
 | [],_=>by unfold List.map doks; rfl
 | a :: p,n=>by
   rw [List.map_cons]
   unfold doks dok
   rw [qS p n]
   rfl
theorem qT:∀ (p:List Str) (n:Nat),(∀ w ∈ p,PyData.strOk w=true)→doks n (p.map D.str)=true
 | [],_,_=>by unfold List.map doks; rfl
 | a :: p,n,h=>by
   rw [List.map_cons]
   unfold doks dok
   rw [qT p n fun w hw=>h w (zMt hw),h a zMs]
   rfl
theorem DV {p:List Nat} {m:List Str} (h:∀ w ∈ m,PyData.strOk w=true) (n:Nat):dok (n + 2) (.tps [aU p,bp m])=true:=by
 unfold dok
 dsimp only
 unfold doks doks doks dok
 dsimp only
 rw [qS,qT m _ h]
 rfl
theorem DW:∀ w ∈ aQ true ++ [wOn,af],PyData.strOk w=true:=by decide +kernel
structure KeyF (L:List SpL):Prop where
 nd:(L.map gA).Nodup
 mood:∀ s ∈ L,∀ w ∈ s.mood,PyData.strOk w=true
theorem sM {P:PN} {b:Bdy} {fa:List Str} (hb:∀ x ∈ b,GoodS P 3 false x):KeyF (bO fa b):=⟨wW hb,fun s hs w hw=>DW w (AT hb s hs w hw)⟩
theorem FX {L:List SpL} (k:KeyF L) {u v:Nat} (hu:u < L.length) (hv:v < L.length):deq (fh L u) (fh L v)=decide (u=v):=by
 rw [ij (List.getElem?_eq_getElem hu),ij (List.getElem?_eq_getElem hv),DU,decide_eq_decide]
 constructor
 ·intro e
  exact wZ k.nd (List.getElem?_eq_getElem hu) (List.getElem?_eq_getElem hv) e
 ·rintro rfl; rfl
theorem yH {L:List SpL} (k:KeyF L) {u:Nat} (hu:u < L.length) (n:Nat):dok (n + 2) (fh L u)=true:=by
 rw [ij (List.getElem?_eq_getElem hu)]
 exact DV (k.mood _ (List.getElem_mem hu)) n
theorem zU {L:List SpL} (k:KeyF L) {v:Nat} (hv:v < L.length):∀ us:List Nat,(∀ u ∈ us,u < L.length)→((us.map (fh L)).any fun z=>deq z (fh L v))=decide (v ∈ us)
 | [],_=>rfl
 | a :: us,h=>by
   show (deq (fh L a) (fh L v) || ((us.map (fh L)).any fun z=>deq z (fh L v)))=_
   rw [zU k hv us fun u hu=>h u (zMt hu),FX k (h a zMs) hv,Bool.eq_iff_iff]
   simp only [Bool.or_eq_true,decide_eq_true_eq,List.mem_cons]
   exact ⟨fun q=>q.imp (fun q=>q.symm) id,fun q=>q.imp (fun q=>q.symm) id⟩
theorem xa {L:List SpL} (k:KeyF L) {n:Nat}:∀ us:List Nat,(∀ u ∈ us,u < L.length)→doks (n + 2) (us.map (fh L))=true
 | [],_=>by unfold List.map doks; rfl
 | a :: us,h=>by
   rw [List.map_cons]
   unfold doks
   rw [yH k (h a zMs),xa k us fun u hu=>h u (zMt hu)]
   rfl
theorem FY {neg:Bool} {L:List SpL} (k:KeyF L) {v:Nat} (hv:v < L.length) {us:List Nat} (hu:∀ u ∈ us,u < L.length) {y:D} {S:Sto} {Q:HK} (hy:items S y=some (us.map (fh L))) (hz:bF S y=some (us.map (fh L))) (h:Q (.bl (ng neg (decide (v ∈ us)))) S):iG neg (fh L v) y S Q:=by
 have e0:cV (fh L v)=false:=by rw [ij (List.getElem?_eq_getElem hv)]; rfl
 have e1:dok 60 (fh L v)=true:=yH k hv 58
 have e2:dok 60 (.lst (us.map (fh L)))=true:=by
  unfold dok
  dsimp only
  exact xa (n:=57) k us hu
 have e3:=zU k hv us hu
 unfold iG
 cases y with
 | str z=>cases hy
 | _ =>
   try dsimp only
   rw [hy]
   try dsimp only
   rw [e0,Bool.false_and]
   try dsimp only
   rw [hz]
   try dsimp only
   rw [e1,e2,Bool.and_true]
   try dsimp only
   rw [e3]
   exact h
def uT (w:World) (aD:HSp):HTS:=(aj (aK 2 (hun (Au w) (jc [((hC (.str ("faulty" : Str))),(hV 1))])))
 (aj (aK 3 (jc [((hC (.str ("on" : Str))),(bD (aa (hC (.str ("none" : Str))) ae))),((hC (.str ("fault" : Str))),(bD (aa (hC (.str ("fault" : Str))) ae))),((hC (.str ("found" : Str))),(bD (aa (hC (.str ("found" : Str))) ae))),((hC (.str ("none" : Str))),(bD (aa (hC (.str ("none" : Str))) ae)))]))
 (aj (c5 3 (aL (an 5 [] aD (aa (hV 2) (aa (hV 0) (aa (av ae) (aa (av ae) (aa (hV 3) ae))))))))
 (aj (aK 4 (cM (aa (av (aa (av (aa (hC (.int 0)) ae)) (aa (av ae) ae))) ae)))
 (aj (aK 5 (hC (.int 0)))
 (aj (pY (hB (hop gLt (hV 5) (hcb dJ (aa (hV 4) ae)))) (aj (aK 6 (hop gIx (hV 4) (hV 5)))
 (aj (aK 5 (hop cr (hV 5) (hC (.int 1))))
 (cC (eT (hop gIx (hop (iP w) (hV 2) (hV 6)) (hC (.int 1)))) (.nm 7) (bj (dU (fK (hTr (hun (gR j9) (mH (hV 7))))) (hB (hop f8 (mH (hV 7)) (hV 4)))) (aL (hMt eU cz (hV 4) (aa (hV 7) ae))) hNx)))))
 (aA (aE (aa (hV 2) (aa (hV 4) ae))))))))))
def jS (w:World):HSp:=fun ds S Q _=>∃ (fq:Addr) (fa:List Str) (P:PN) (b:Bdy),ds=[aw b,.ref fq]∧S fq=some (.lst (fa.map D.str))∧(∀ x ∈ b,GoodS P 3 false x)∧cntB b≤14 ∧
 ∀ g rq ks S',LawG S' w g (bO fa b)→S' rq=some (.lst (ks.map (fh (bO fa b))))→PassD (bO fa b) ks→(∃ ks',ks=0 :: ks')→KeepA S S'→S g=none→S rq=none→g ≠ rq→Q (.tup [.ref g,.ref rq]) S'
theorem sN {P:PN} {lay:sE} {fa:List Str} {n:Nat} (hl:∀ (lp:Bool) (b:Bdy) (path:List Nat) (mood:List Str) (gs:GsT) (lv:Nat),(∀ x ∈ b,GoodS P lv lp x)→lv < n→(lay lp b path mood gs).length≤1 + 8 * cntB b) (hd:∀ (lp:Bool) (b:Bdy) (path:List Nat) (mood:List Str) (gs:GsT),0 < n→(∀ x ∈ b,x ∈ be P)→(lay lp b path mood gs).length≤cntB b + 1) {lp:Bool} {path:List Nat} {mood:List Str} {gs:GsT}:∀ (b:Bdy) (i:Nat),(∀ x ∈ b,StmK P n lp x)→(dN lay fa lp path mood gs b i).length≤8 * cntB b
 | [],i,_=>Nat.zero_le _
 | s :: b,i,hs=>by
   have ih:=sN (fa:=fa) (lp:=lp) (path:=path) (mood:=mood) (gs:=gs) hl hd b (i + 1) (fun x hx=>hs x (zMt hx))
   have one:(fg lay fa lp s (path ++ [i]) mood (bi gs wOn [.at_ (path ++ [i + 1]) mood])).2.length≤7 + 8 * cntS s:=by
    cases hs s zMs with
    | jump w hw hl=>exact Nat.zero_le _
    | stop x hx=>exact Nat.zero_le _
    | fault=>exact Nat.zero_le _
    | may=>exact Nat.zero_le _
    | deeper f=>exact Nat.zero_le _
    | deed z x hz=>exact Nat.zero_le _
    | tries a m hm ga =>
      refine Nat.le_trans (hl _ a _ _ _ m ga hm) ?_
      show _≤7 + 8 * (0 + (cntB a + 0))
      omega
    | two w a b m hw hm ga gb =>
      have hz2:w=bX∨w=d7:=by simpa using hw
      unfold fg
      dsimp only
      rw [if_pos hz2,List.length_append]
      have h1:=hl lp a (path ++ [i] ++ [0]) mood (bi gs wOn [.at_ (path ++ [i + 1]) mood]) m ga hm
      have h2:=hl lp b (path ++ [i] ++ [1]) mood (bi gs wOn [.at_ (path ++ [i + 1]) mood]) m gb hm
      show _≤7 + 8 * (0 + (cntB a + (cntB b + 0)))
      omega
    | look c a b m hm ga gb =>
      have h1:=hl lp a (path ++ [i] ++ [0]) mood (bi gs wOn [.at_ (path ++ [i + 1]) mood]) m ga hm
      have h2:=hl lp b (path ++ [i] ++ [1]) mood (bi gs wOn [.at_ (path ++ [i + 1]) mood]) m gb hm
      show (lay lp a (path ++ [i] ++ [0]) mood (bi gs wOn [.at_ (path ++ [i + 1]) mood]) ++ lay lp b (path ++ [i] ++ [1]) mood (bi gs wOn [.at_ (path ++ [i + 1]) mood])).length≤7 + 8 * (0 + (0 + (cntB a + (cntB b + 0))))
      rw [List.length_append]
      omega
    | guard a b m hm ga gb =>
      have z7:¬ (aM=bX∨aM=d7):=by decide +kernel
      unfold fg
      dsimp only
      rw [if_neg z7,if_pos rfl,List.length_append]
      have h1:=hl lp a (path ++ [i] ++ [0]) mood (bi (bi gs wOn [.at_ (path ++ [i + 1]) mood]) af [.at_ (path ++ [i] ++ [1,0]) mood]) m ga hm
      have h2:=hl lp b (path ++ [i] ++ [1]) mood (bi gs wOn [.at_ (path ++ [i + 1]) mood]) m gb hm
      show _≤7 + 8 * (0 + (cntB a + (cntB b + 0)))
      omega
    | lastly a b m hm ga gb =>
      have z1:¬ (am=bX∨am=d7):=by decide +kernel
      have z2:am ≠ aM:=by decide +kernel
      unfold fg
      dsimp only
      rw [if_neg z1,if_neg z2,List.length_append]
      have h1:=hl lp a (path ++ [i] ++ [0]) mood (fun w=>[.at_ (path ++ [i] ++ [1,0]) (mood ++ [w])]) m ga hm
      have sm:∀ ws:List Str,(ws.flatMap fun w=>lay lp b (path ++ [i] ++ [1]) (mood ++ [w]) (bi (bi gs wOn [.at_ (path ++ [i + 1]) mood]) wOn (bi gs wOn [.at_ (path ++ [i + 1]) mood] w))).length≤ws.length * (cntB b + 1):=by
       intro ws
       induction ws with
       | nil=>exact Nat.zero_le _
       | cons w ws ihw =>
         rw [List.flatMap_cons,List.length_append,List.length_cons,Nat.succ_mul]
         have:=hd lp b (path ++ [i] ++ [1]) (mood ++ [w]) (bi (bi gs wOn [.at_ (path ++ [i + 1]) mood]) wOn (bi gs wOn [.at_ (path ++ [i + 1]) mood] w)) (by omega) gb
         omega
      have s6:=sm (bY lp)
      have l6:=(domG_words.1 lp).1
      have:=Nat.mul_le_mul_right (cntB b + 1) l6
      show _≤7 + 8 * (0 + (cntB a + (cntB b + 0)))
      omega
   show ((fg lay fa lp s (path ++ [i]) mood (bi gs wOn [.at_ (path ++ [i + 1]) mood])).2 ++ _ :: dN lay fa lp path mood gs b (i + 1)).length≤8 * (1 + cntS s + cntB b)
   rw [List.length_append,List.length_cons]
   omega
theorem yI {P:PN} {fa:List Str} {n:Nat} {lp:Bool} {path:List Nat} {mood:List Str} {gs:GsT} {b:Bdy} (h:∀ x ∈ b,x ∈ be P):(bo fa (n + 1) lp b path mood gs).length=cntB b + 1:=by
 have:∀ (b:Bdy) (i:Nat),(∀ x ∈ b,x ∈ be P)→(dN (bo fa n) fa lp path mood gs b i).length=b.length:=by
  intro b
  induction b with
  | nil=>intro i _; rfl
  | cons s b ih =>
    intro i h
    obtain ⟨w,x,rfl⟩:=jg (h s zMs)
    have:=ih (i + 1) fun x hx=>h x (zMt hx)
    show ([] ++ _ :: dN (bo fa n) fa lp path mood gs b (i + 1)).length=b.length + 1
    rw [List.nil_append,List.length_cons,this]
 show (dN (bo fa n) fa lp path mood gs b 0 ++ [_]).length=_
 rw [List.length_append,this b 0 h,n4 b h]
 rfl
theorem xg {P:PN} {fa:List Str}:∀ (n:Nat) (lp:Bool) (b:Bdy) (path:List Nat) (mood:List Str) (gs:GsT) (lv:Nat),(∀ x ∈ b,GoodS P lv lp x)→lv < n→(bo fa n lp b path mood gs).length≤1 + 8 * cntB b
 | 0,_,_,_,_,_,_,_,h=>absurd h (Nat.not_lt_zero _)
 | n + 1,lp,b,path,mood,gs,lv,hb,hl=>by
   have hd:∀ (lp:Bool) (b:Bdy) (path:List Nat) (mood:List Str) (gs:GsT),0 < n→(∀ x ∈ b,x ∈ be P)→(bo fa n lp b path mood gs).length≤cntB b + 1:=by
    intro lp b path mood gs hn h
    cases n with
    | zero=>omega
    | succ m=>exact Nat.le_of_eq (yI (P:=P) (fa:=fa) (n:=m) h)
   have:=sN (P:=P) (lay:=bo fa n) (fa:=fa) (n:=n) (xg (fa:=fa) n) hd (lp:=lp) (path:=path) (mood:=mood) (gs:=gs) b 0 (fun x hx=>AM (hb x hx) (by omega))
   show (dN (bo fa n) fa lp path mood gs b 0 ++ [_]).length≤_
   rw [List.length_append,List.length_singleton]
   omega
abbrev iB (L:List SpL) (us:List Nat):List D:=us.map (fh L)
theorem EH {L:List SpL} {u:Nat} (hu:u < L.length):wkt (fh L u) = .tup [aU L[u].path,bp L[u].mood]:=by
 rw [ij (List.getElem?_eq_getElem hu)]
 rfl
theorem DY {neg:Bool} {L:List SpL} (k:KeyF L) {v:Nat} (hv:v < L.length) {us:List Nat} (hu:∀ u ∈ us,u < L.length) {r:Addr} {S:Sto} {Q:HK} (hr:S r=some (.lst (iB L us))) (h:Q (.bl (ng neg (decide (v ∈ us)))) S):iG neg (wkt (fh L v)) (.ref r) S Q:=by
 have key:=FY (neg:=neg) k hv hu (fY hr) (show bF S (.ref r)=some (us.map (fh L)) by unfold bF; dsimp only; rw [hr]) h
 rw [EH hv]
 rw [ij (List.getElem?_eq_getElem hv)] at key
 exact key
theorem FZ {L:List SpL} {v:Nat} (hv:v < L.length) {S:Sto} {R:HK} (h:R (.bl false) S):gR j9 (wkt (fh L v)) S R:=by
 rw [EH hv]
 exact h
theorem qU {L:List SpL} (l:List Gl):(l.map (kap L)).map gkD=l.map fun x=>gkD (kap L x):=List.map_map ..
theorem xh {w:World} {ds:List D} {S:Sto} {Q E:HK} (h:jS w ds S Q E):uT w (iZ w 4) (EN Q E) (ao 8 ds) S:=by
 obtain ⟨fq,fa,P,b,rfl,hq,hb,hc,q⟩:=h
 have wf:WayF P (bO fa b):=ml hb hc
 have kf:KeyF (bO fa b):=sM hb
 have wl:=wf.len
 show uT w (iZ w 4) (EN Q E) [some (aw b),some (.ref fq),none,none,none,none,none,none] S
 unfold uT
 -- the graph, empty but for the names
 refine fz (fun x S'=>∃ g,x = .ref g∧S g=none∧S'=up S g (.dcn w g [(.text gB,.ref fq)])) (fun R E hR=>?_) fun x S1 ⟨g,ex,hg,eS⟩=>?_
 ·simp only [hun,jc,qc,hV,hC,zG0,zG1]
  show ∀ p,S p=none→Au w (.ref p) (up S p (.dct [(Sum.inr gB,.ref fq)])) R
  intro p hp
  unfold Au
  dsimp only
  rw [ai]
  dsimp only
  rw [dI]
  exact hR _ _ ⟨p,rfl,hp,rfl⟩
 subst ex
 subst eS
 dsimp only [zS1,zS0]
 have gfq:fq ≠ g:=fun e=>by rw [e,hg] at hq; cases hq
 have hA:GrAt (up S g (.dcn w g [(.text gB,.ref fq)])) w g fq fa [(.text gB,.ref fq)]:=⟨ai,by unfold fv; rw [List.find?_cons,decide_eq_true rfl]; rfl,by rw [ar gfq]; exact hq,gfq⟩
 -- the goals
 refine fz (fun x S'=>∃ r,x = .ref r∧up S g (.dcn w g [(.text gB,.ref fq)]) r=none∧S'=up (up S g (.dcn w g [(.text gB,.ref fq)])) r (.dct (kvT (bY false) fun x=>cu (gs0 x)))) (fun R E hR=>?_) fun x S1 ⟨r,ex,hr,eS⟩=>?_
 ·simp only [jc,qc,bD,aa,ae,hV,hC,zG0,zG1]
  intro p hp
  exact hR _ _ ⟨p,rfl,hp,rfl⟩
 subst ex
 subst eS
 dsimp only [zS1,zS0]
 refine gE (fun env S'=>env=[some (aw b),some (.ref fq),some (.ref g),some (gsD false gs0),none,none,none,none]∧GrowG w g [(.text gB,.ref fq)] (up S g (.dcn w g [(.text gB,.ref fq)])) S' (bo fa 4 false b [] [] gs0)) (fun D1 hD=>?_) fun env S2 ⟨ee,gr⟩=>?_
 ·unfold c5
  simp only [zG0,zG1]
  rw [ai]
  dsimp only [zS1,zS0]
  rw [lk hr,gM,gN]
  simp only [aL,an,av,aa,ae,hV,hC,zG0,zG1]
  have:=xg (fa:=fa) (P:=P) 4 false b [] [] gs0 3 hb (by decide)
  refine ⟨g,fq,fa,_,P,3,false,b,[],[],gs0,rfl,hA,hb,by decide,by decide,by decide,fun x hx=>?_,by show 1 + _≤100000; omega,fun S' gr=>hD _ _ ⟨rfl,gr⟩⟩
  unfold gs0
  split <;> (show 1≤3; omega)
 subst ee
 have lg0:LawG S2 w g (bO fa b):=LawG.of hb gr.hg
 have keep0:KeepA S S2:=fun x m e=>gr.keep x m (fun z=>by rw [z,hg] at e; cases e) (by rw [ar (sne e hg)]; exact e)
 have k0:fh (bO fa b) 0 = .tps [.tps [.int 0],.tps []]:=by
  have h0:Sits (bO fa b) 0 (ah fa 4 0 false b [] [] [.out dS] (fun w=>[.out w]) [.out af] false):=fun i hi=>by rw [Nat.zero_add]; rfl
  show gkD (kap (bO fa b) (.sp 0))=_
  rw [dR h0]
  rfl
 clear hA hr gr
 generalize bO fa b=L at *
 -- what is reached
 refine fz (fun x S'=>∃ r,x = .ref r∧S2 r=none∧S'=up S2 r (.lst (iB L [0]))) (fun R E hR=>?_) fun x S1 ⟨r,ex,hr,eS⟩=>?_
 ·simp only [cM,av,aa,ae,hV,hC]
  intro r hr
  refine hR _ _ ⟨r,rfl,hr,?_⟩
  show up S2 r (.lst [.tps [.tps [.int 0],.tps []]])=up S2 r (.lst [fh L 0])
  rw [k0]
 subst ex
 subst eS
 dsimp only [zS1,zS0]
 have rg:g ≠ r:=fun e=>by
  obtain ⟨kvs,h1,_⟩:=lg0.at_
  rw [e,hr] at h1; cases h1
 have lgU:∀ m,LawG (up S2 r m) w g L:=fun m=>lg0.keep fun x e=>by rw [ar rg]; exact e
 refine fy (.int ((0:Nat):Int)) (up S2 r (.lst (iB L [0]))) (fun R E r=>by simp only [hC]; exact r) ?_
 dsimp only [zS1,zS0]
 refine gE (fun env S'=>∃ (ps:List Nat) (x5 x6 x7:Option D),env=[some (aw b),some (.ref fq),some (.ref g),some (gsD false gs0),some (.ref r),x5,x6,x7]∧PassD L ps∧(∃ ks',ps=0 :: ks')∧S'=up S2 r (.lst (iB L ps))) (fun D1 hD=>?_) fun env S1 ⟨ps,x5,x6,x7,ee,pd,hk,eS⟩=>?_
 ·refine ⟨fun m env S'=>∃ (fs:List Nat) (dn:Nat) (x6 x7:Option D),env=[some (aw b),some (.ref fq),some (.ref g),some (gsD false gs0),some (.ref r),some (.int (dn:Nat)),x6,x7]∧S'=up S2 r (.lst (iB L fs))∧fs.Nodup∧(∀ u ∈ fs,u < L.length∧qN L u)∧(∃ ks',fs=0 :: ks')∧dn≤fs.length∧(∀ i u,i < dn→fs[i]? = some u→∀ v ∈ (nxs L u).filterMap Gl.num,v ∈ fs)∧m=L.length - dn,⟨_,[0],0,_,_,rfl,rfl,by simp,fun u hu=>by rw [List.mem_singleton.mp hu]; exact ⟨wf.pos,.first⟩,⟨[],rfl⟩,Nat.zero_le _,fun i u hi=>absurd hi (Nat.not_lt_zero _),rfl⟩,fun m env S' ⟨fs,dn,x6,x7,ee,eS,nd,lt,f0,dl,st,em⟩=>?_⟩
  subst ee
  subst eS
  have hfs:up S2 r (.lst (iB L fs)) r=some (.lst (iB L fs)):=ai
  simp only [hB,hop,hcb,aa,ae,hV,zG0,zG1]
  refine pH hfs ?_
  rw [List.length_map]
  show (match decide (((dn:Nat):Int) < ((fs.length:Nat):Int)) with | true=>_ | false=>_)
  by_cases hdn:dn < fs.length
  ·rw [decide_eq_true (show ((dn:Nat):Int) < ((fs.length:Nat):Int) by omega)]
   dsimp only
   obtain ⟨u,hu⟩:∃ u,fs[dn]? = some u:=⟨_,List.getElem?_eq_getElem hdn⟩
   have hum:=List.mem_of_getElem? hu
   obtain ⟨hul,hup⟩:=lt u hum
   refine fy (fh L u) (up S2 r (.lst (iB L fs))) (fun R E q=>?_) ?_
   ·simp only [hop,hV,zG0,zG1]
    exact eE hfs (fe (by rw [List.getElem?_map,hu]; rfl)) q
   dsimp only [zS1,zS0]
   refine fy (.int ((dn + 1:Nat):Int)) (up S2 r (.lst (iB L fs))) (fun R E q=>?_) ?_
   ·simp only [hop,hV,hC,zG0,zG1]
    refine mW ?_
    rw [show ((dn:Nat):Int) + 1=((dn + 1:Nat):Int) by omega]
    exact q
   dsimp only [zS1,zS0]
   have fl:=iz nd fun u hu=>(lt u hu).1
   simp only [cC]
   rw [b8]
   simp only [hop,hV,hC,zG0,zG1]
   refine (lgU _).get hul ?_
   refine (show gIx (.lst [rS (lD L u),cu ((nxs L u).map (kap L))]) (.int 1) _ _ from aF (xs:=[rS (lD L u),cu ((nxs L u).map (kap L))]) rfl rfl ?_)
   refine dv (xs:=((nxs L u).map (kap L)).map gkD) rfl ?_
   rw [qU]
   refine c7 (I:=fun j e S'=>∃ (gs:List Nat) (x7:Option D),e=[some (aw b),some (.ref fq),some (.ref g),some (gsD false gs0),some (.ref r),some (.int ((dn + 1:Nat):Int)),some (fh L u),x7]∧S'=up S2 r (.lst (iB L (fs ++ gs)))∧(fs ++ gs).Nodup∧(∀ x ∈ fs ++ gs,x < L.length∧qN L x)∧∀ v ∈ ((nxs L u).take j).filterMap Gl.num,v ∈ fs ++ gs) _ (fun j d e S3 hdj ⟨gs,x7,ee,eS,nd2,lt2,h2⟩=>?_) (fun e S3 ⟨gs,x7,ee,eS,nd2,lt2,h2⟩=>?_) ⟨[],_,rfl,by rw [List.append_nil],by rw [List.append_nil]; exact nd,by rw [List.append_nil]; exact lt,fun v hv=>by rw [List.take_zero] at hv; cases hv⟩
   ·subst ee
    subst eS
    rw [List.getElem?_map] at hdj
    obtain ⟨x,hx,rfl⟩:=Option.map_eq_some_iff.mp hdj
    have tk:((nxs L u).take (j + 1)).filterMap Gl.num=((nxs L u).take j).filterMap Gl.num ++ [x].filterMap Gl.num:=by rw [List.take_succ,hx,List.filterMap_append]; rfl
    refine ⟨_,rfl,fun K hK=>?_⟩
    simp only [zS1,zS0]
    have hgs:up S2 r (.lst (iB L (fs ++ gs))) r=some (.lst (iB L (fs ++ gs))):=ai
    cases x with
    | out wy =>
      refine ifs false (fun R E q=>?_) (fun hb=>by cases hb) (fun _=>?_)
      ·simp only [dU,fK,hTr,hun,mH,hV,zG0,zG1]
       exact q
      ·refine (show K _ _ from hK _ _ ⟨gs,_,rfl,rfl,nd2,lt2,fun y hy=>h2 y ?_⟩)
       rw [tk] at hy
       rcases List.mem_append.mp hy with hy | hy
       ·exact hy
       ·cases hy
    | sp v =>
      have hvm:v ∈ (nxs L u).filterMap Gl.num:=List.mem_filterMap.mpr ⟨_,List.mem_of_getElem? hx,rfl⟩
      have hvl:=wf.nx u v hvm
      refine ifs (!decide (v ∈ fs ++ gs)) (fun R E q=>?_) (fun hb=>?_) (fun hb=>?_)
      ·simp only [dU,fK,hTr,hB,hop,hun,mH,hV,zG0,zG1]
       refine (show gR j9 (wkt (fh L v)) _ _ from FZ hvl ?_)
       show iG true (wkt (fh L v)) (.ref r) (up S2 r (.lst (iB L (fs ++ gs)))) (fun c S'=>match c with | .bl b=>R b S' | _=>False)
       refine DY (neg:=true) kf hvl (fun x hx=>(lt2 x hx).1) hgs ?_
       exact q
      ·have hn:v ∉ fs ++ gs:=of_decide_eq_false (by rw [← Bool.not_eq_true']; exact hb)
       simp only [aL,hMt,aa,ae,hV,zG0,zG1]
       rw [cB hgs]
       dsimp only
       have nl:=iz nd2 fun u hu=>(lt2 u hu).1
       refine fH hgs (by rw [List.length_map]; omega) ?_
       rw [dI]
       refine hK _ _ ⟨gs ++ [v],_,rfl,?_,?_,?_,?_⟩
       ·rw [← List.append_assoc,show iB L (fs ++ gs ++ [v])=iB L (fs ++ gs) ++ [fh L v] from List.map_append ..]
       ·rw [← List.append_assoc,List.nodup_append]
        refine ⟨nd2,by simp,fun a ha b hb2 e=>hn ?_⟩
        rw [List.mem_singleton.mp hb2] at e
        rw [← e]
        exact ha
       ·intro x hx
        rw [← List.append_assoc] at hx
        rcases List.mem_append.mp hx with hx | hx
        ·exact lt2 x hx
        ·rw [List.mem_singleton.mp hx]
         exact ⟨hvl,.step hup hvm⟩
       ·intro x hx
        rw [tk] at hx
        rw [← List.append_assoc]
        rcases List.mem_append.mp hx with hx | hx
        ·exact List.mem_append_left _ (h2 x hx)
        ·exact List.mem_append_right _ hx
      ·have hn:v ∈ fs ++ gs:=of_decide_eq_true (by rw [← Bool.not_eq_false']; exact hb)
       refine (show K _ _ from hK _ _ ⟨gs,_,rfl,rfl,nd2,lt2,fun x hx=>?_⟩)
       rw [tk] at hx
       rcases List.mem_append.mp hx with hx | hx
       ·exact h2 x hx
       ·rw [List.mem_singleton.mp (show x ∈ [v] from hx)]
        exact hn
   ·subst ee
    subst eS
    rw [List.length_map,List.take_length] at h2
    obtain ⟨ks',hks⟩:=f0
    refine ⟨L.length - (dn + 1),by omega,fs ++ gs,dn + 1,_,_,rfl,rfl,nd2,lt2,⟨ks' ++ gs,by rw [hks]; rfl⟩,by rw [List.length_append]; omega,fun i x hi hx=>?_,rfl⟩
    by_cases hid:i < dn
    ·rw [List.getElem?_append_left (by omega)] at hx
     exact fun v hv=>List.mem_append_left _ (st i x hid hx v hv)
    ·have:i=dn:=by omega
     subst this
     rw [List.getElem?_append_left hdn,hu] at hx
     cases hx
     exact h2
  ·rw [decide_eq_false (show ¬ ((dn:Nat):Int) < ((fs.length:Nat):Int) by omega)]
   have f0m:0 ∈ fs:=by
    obtain ⟨ks',e⟩:=f0
    rw [e]
    exact zMs
   refine (show D1.nx _ _ from hD _ _ ⟨fs,_,_,_,rfl,⟨f0m,fun u hu=>?_,fun u hu=>(lt u hu).1,nd,fun u hu=>(lt u hu).2⟩,f0,rfl⟩)
   obtain ⟨i,hi⟩:=List.mem_iff_getElem?.mp hu
   have hil:=(List.getElem?_eq_some_iff.mp hi).1
   exact st i u (by omega) hi
 subst ee
 subst eS
 simp only [aA,aE,aa,ae,hV,zG0,zG1]
 have kA:KeepA S (up S2 r (.lst (iB L ps))):=fun x m e=>by
  have:=keep0 x m e
  rw [ar (sne this hr)]
  exact this
 have hSr:S r=none:=by
  cases e:S r with
  | none=>rfl
  | some m=>have:=keep0 r m e; rw [hr] at this; cases this
 exact Rt.mk (q g r ps _ (lgU _) ai pd hk kA hg hSr rg)
def og (w:World) (bh:HSp):HTS:=(aj (aK 1 (cM ae))
 (aj (cC (hJ (aa (hcb dJ (aa (hun (ba aO) (hV 0)) ae)) ae)) (.nm 2) (cC (eT (hun (ba aO) (hV 0))) (.nm 3) (aj (f9 (.tp [(.nm 4),(.nm 5)]) (an 2 [] bh (aa (hun (ba bV) (hV 3)) (aa (hV 1) ae))))
 (aj (aK 6 (bD ae))
 (aj (cC (eT (hV 5)) (.nm 7) (aK 6 (hop cr (hV 6) (hLc (eT (hop gIx (hop (iP w) (hV 4) (hV 7)) (hC (.int 1)))) (.nm 8) (hB (hop gEq (hV 8) (hC (.str ("fault" : Str))))) (hV 8) [8]))))
 (bj (dU (hB (hop f8 (hun (ba cy) (hV 3)) (hV 1))) (hB (hop gNe (hV 6) (bD ae)))) (aL (hMt eU cz (hV 1) (aa (hun (ba cy) (hV 3)) ae))) hNx))))))
 (aA (hV 1))))
theorem mn (fs:List Str) (bs:Str→Bdy) (k:Nat) (fa:List Str):dM fs bs (k + 1) fa=hW fs bs (dM fs bs k fa):=by
 rw [jo]; rfl
theorem oh {bs:Str→Bdy}:∀ (l fa:List Str),(l.foldl (db bs) fa).length=fa.length→l.foldl (db bs) fa=fa
 | [],_,_=>rfl
 | f :: l,fa,h=>by
   have h:(l.foldl (db bs) (db bs fa f)).length=fa.length:=h
   have h1:=kL bs l (db bs fa f)
   have h2:=sD bs fa f
   have e:db bs fa f=fa:=by
    by_cases c:f ∉ fa∧gJ (bO fa (bs f))
    ·have e1:db bs fa f=fa ++ [f]:=if_pos c
     have e2:(db bs fa f).length=fa.length + 1:=by rw [e1,List.length_append,List.length_singleton]
     omega
    ·exact if_neg c
   show l.foldl (db bs) (db bs fa f)=fa
   rw [e] at h ⊢
   exact oh l fa h
structure FaSub (fs fa:List Str):Prop where
 nd:fa.Nodup
 sub:∀ f ∈ fa,f ∈ fs
theorem FaSub.step {fs fa:List Str} {bs:Str→Bdy} {f:Str} (h:FaSub fs fa) (hf:f ∈ fs):FaSub fs (db bs fa f):=by
 by_cases c:f ∉ fa∧gJ (bO fa (bs f))
 ·have e1:db bs fa f=fa ++ [f]:=if_pos c
  rw [e1]
  refine ⟨?_,fun x hx=>?_⟩
  ·rw [List.nodup_append]
   exact ⟨h.nd,by simp,fun a ha b hb e=>c.1 (by rw [List.mem_singleton.mp hb] at e; rw [← e]; exact ha)⟩
  ·rcases List.mem_append.mp hx with hx | hx
   ·exact h.sub x hx
   ·rw [List.mem_singleton.mp hx]; exact hf
 ·have e1:db bs fa f=fa:=if_neg c
  rw [e1]; exact h
theorem FaSub.fold {fs:List Str} {bs:Str→Bdy}:∀ (l:List Str) {fa:List Str},(∀ f ∈ l,f ∈ fs)→FaSub fs fa→FaSub fs (l.foldl (db bs) fa)
 | [],_,_,h=>h
 | f :: l,_,hl,h=>FaSub.fold l (fun x hx=>hl x (zMt hx)) (h.step (hl f zMs))
theorem FaSub.iter {fs:List Str} {bs:Str→Bdy}:∀ k,FaSub fs (dM fs bs k [])
 | 0=>⟨List.nodup_nil,fun f h=>(by cases h)⟩
 | k + 1=>by
   rw [mn]
   exact FaSub.fold fs (fun f h=>h) (FaSub.iter k)
theorem sO {fs:List Str} {bs:Str→Bdy}:∀ k,hW fs bs (dM fs bs k [])=dM fs bs k []∨k≤(dM fs bs k []).length
 | 0=>.inr (Nat.zero_le _)
 | k + 1=>by
   rw [mn]
   rcases sO (fs:=fs) (bs:=bs) k with h | h
   ·exact .inl (by rw [h,h])
   ·by_cases e:(hW fs bs (dM fs bs k [])).length=(dM fs bs k []).length
    ·have:=oh fs _ e
     have e2:hW fs bs (dM fs bs k [])=dM fs bs k []:=this
     exact .inl (by rw [e2,e2])
    ·have:=kL bs fs (dM fs bs k [])
     have this:(dM fs bs k []).length≤(hW fs bs (dM fs bs k [])).length:=this
     exact .inr (by omega)
theorem AV (fs:List Str) (bs:Str→Bdy):Stab fs bs (dM fs bs fs.length []):=by
 refine ⟨⟨_,rfl⟩,?_⟩
 rcases sO (fs:=fs) (bs:=bs) fs.length with h | h
 ·exact h
 ·refine oh fs _ ?_
  have h1:=kL bs fs (dM fs bs fs.length [])
  have h2:=FaSub.fold (bs:=bs) fs (fun f h=>h) (FaSub.iter (fs:=fs) (bs:=bs) fs.length)
  have h3:=nodup_len _ fs h2.nd h2.sub
  omega
def DZ:Gl→Bool
 | .sp _=>false
 | .out w=>decide (w=af)
def faN (l:List Gl):Nat:=(l.filter DZ).length
theorem D3 {l:List Gl}:0 < faN l ↔ .out af ∈ l:=by
 unfold faN
 rw [List.length_pos_iff_exists_mem]
 constructor
 ·rintro ⟨x,hx⟩
  obtain ⟨h1,h2⟩:=List.mem_filter.mp hx
  cases x with
  | sp n=>cases h2
  | out w=>rw [← of_decide_eq_true h2]; exact h1
 ·intro h
  exact ⟨_,List.mem_filter.mpr ⟨h,show decide (af=af)=true from decide_eq_true rfl⟩⟩
theorem Ga {L:List SpL} (k:KeyF L) {v:Nat} (hv:v < L.length) {x:Str} {S:Sto} {Q:HK} (hx:PyData.strOk x=true) (h:Q (.bl false) S):gEq (fh L v) (.str x) S Q:=by
 have e1:dok 60 (fh L v)=true:=yH k hv 58
 rw [ij (List.getElem?_eq_getElem hv)] at e1 ⊢
 have e2:dok 60 (.str x)=true:=by unfold dok; exact hx
 show (match dok 60 (.tps [aU L[v].path,bp L[v].mood]) && dok 60 (.str x) with
  | true=>Q (.bl (ng false (deq (.tps [aU L[v].path,bp L[v].mood]) (.str x)))) S
  | false=>False)
 rw [e1,e2]
 exact h
theorem jT {L:List SpL} (k:KeyF L) {x0 x1 x2 x3 x4 x5 x6 x7 x8:Option D} {S:Sto} {R:HK}:∀ (l:List Gl) (n:Nat),(∀ v,.sp v ∈ l→v < L.length)→R (.lst (List.replicate (n + faN l) (.str af))) S →
 cW (.nm 8) (hB (hop gEq (hV 8) (hC (.str af)))) (hV 8) none (l.map fun x=>gkD (kap L x)) (List.replicate n (.str af)) [x0,x1,x2,x3,x4,x5,x6,x7,x8] S R
 | [],n,_,h=>h
 | .sp v :: l,n,hl,h=>by
   have ih:=jT k (x0:=x0) (x1:=x1) (x2:=x2) (x3:=x3) (x4:=x4) (x5:=x5) (x6:=x6) (x7:=x7) (x8:=x8) (S:=S) (R:=R) l n (fun u hu=>hl u (zMt hu)) h
   simp only [List.map_cons,cW,chk,bu,hB,hop,hV,hC,zS0,zS1,zG0,zG1]
   refine (show gEq (fh L v) (.str af) S _ from Ga k (hl v zMs) (by decide +kernel) ?_)
   exact ih
 | .out w :: l,n,hl,h=>by
   simp only [List.map_cons,cW,chk,bu,hB,hop,hV,hC,zS0,zS1,zG0,zG1]
   by_cases e:w=af
   ·subst e
    have e1:faN (.out af :: l)=1 + faN l:=by
     unfold faN
     rw [List.filter_cons_of_pos (show DZ (.out af)=true from (show decide (af=af)=true from decide_eq_true rfl)),List.length_cons,Nat.add_comm]
    rw [e1,← Nat.add_assoc] at h
    have ih:=jT k (x0:=x0) (x1:=x1) (x2:=x2) (x3:=x3) (x4:=x4) (x5:=x5) (x6:=x6) (x7:=x7) (x8:=x8) (S:=S) (R:=R) l (n + 1) (fun u hu=>hl u (zMt hu)) h
    refine (show gEq (.str af) (.str af) S _ from eqT rfl ?_)
    rw [List.replicate_succ'] at ih
    exact ih
   ·have e1:faN (.out w :: l)=faN l:=by
     unfold faN
     rw [List.filter_cons_of_neg (show ¬ DZ (.out w)=true by unfold DZ; simpa using e)]
    rw [e1] at h
    have ih:=jT k (x0:=x0) (x1:=x1) (x2:=x2) (x3:=x3) (x4:=x4) (x5:=x5) (x6:=x6) (x7:=x7) (x8:=x8) (S:=S) (R:=R) l n (fun u hu=>hl u (zMt hu)) h
    refine (show gEq (.str w) (.str af) S _ from eqF e ?_)
    exact ih
theorem Gb {n:Nat} {x:Str} {S:Sto} {Q:HK} (hx:PyData.strOk x=true) (h:Q (.bl (decide (0 < n))) S):gNe (.lst (List.replicate n (.str x))) (.lst []) S Q:=by
 have e1:∀ n,doks 59 (List.replicate n (.str x))=true:=by
  intro n
  induction n with
  | zero=>unfold List.replicate doks; rfl
  | succ n ih =>
    rw [List.replicate_succ]
    unfold doks dok
    rw [ih,hx]
    rfl
 have e2:dok 60 (.lst (List.replicate n (.str x)))=true:=by unfold dok; exact e1 n
 have e3:dok 60 (.lst [])=true:=by unfold dok doks; rfl
 have e4:deq (.lst (List.replicate n (.str x))) (.lst []) = !decide (0 < n):=by
  cases n with
  | zero=>rfl
  | succ n =>
    rw [decide_eq_true (Nat.succ_pos n)]
    rfl
 show (match dok 60 (.lst (List.replicate n (.str x))) && dok 60 (.lst []) with
  | true=>Q (.bl (ng true (deq (.lst (List.replicate n (.str x))) (.lst [])))) S
  | false=>False)
 rw [e2,e3,e4]
 show Q (.bl (!!decide (0 < n))) S
 rw [Bool.not_not]
 exact h
def jq (_:World):HSp:=fun ds S Q _=>∃ (P:PN) (bs:Str→Bdy) (st:Str),ds=[cdS P bs st]∧FnsOk P bs∧P.fs.length≤10 ∧
 ∀ fq fa S',Stab P.fs bs fa→S' fq=some (.lst (fa.map D.str))→KeepA S S'→S fq=none→Q (.ref fq) S'
theorem KeepA.t {S S1 S2:Sto} (h:KeepA S S1) (k:KeepA S1 S2):KeepA S S2:=fun a m e=>k a m (h a m e)
theorem rT (h1:aO 4=some 2:=by rfl) (h2:cy 3=some 0:=by rfl) (h3:bV 3=some 1:=by rfl) {w:World} {ds:List D} {S:Sto} {Q E:HK} (h:jq w ds S Q E):og w (jS w) (EN Q E) (ao 9 ds) S:=by
 obtain ⟨P,bs,st,rfl,ok,fl10,q⟩:=h
 show og w (jS w) (EN Q E) [some (cdS P bs st),none,none,none,none,none,none,none,none] S
 unfold og
 have ff:∀ {R:HK} {S':Sto},R (.tup ((fE P bs).map Fn.d)) S'→ba aO (cdS P bs st) S' R:=fun {R S'} r=>by
  rw [← kU P bs st]
  show ba aO (.obj 4 (kD P (fE P bs) st)) S' R
  unfold ba
  dsimp only
  rw [h1]
  exact r
 have efn:(fE P bs).map Fn.d=P.fs.map fun x=>fnD x (bs x) (cntB (bs x)):=by
  unfold fE
  rw [List.map_map]
  rfl
 refine fz (fun x S'=>∃ r,x = .ref r∧S r=none∧S'=up S r (.lst [])) (fun R E hR=>?_) fun x S1 ⟨r,ex,hr,eS⟩=>?_
 ·simp only [cM,ae]
  exact fun r hr=>hR _ _ ⟨r,rfl,hr,rfl⟩
 subst ex
 subst eS
 dsimp only [zS1,zS0]
 refine gE (fun env S'=>∃ (x2 x3 x4 x5 x6 x7 x8:Option D),env=[some (cdS P bs st),some (.ref r),x2,x3,x4,x5,x6,x7,x8]∧S' r=some (.lst ((dM P.fs bs P.fs.length []).map D.str))∧KeepA S S') (fun D1 hD=>?_) fun env S1 ⟨x2,x3,x4,x5,x6,x7,x8,ee,hr1,k1⟩=>?_
 ·simp only [cC,hJ,hcb,hun,aa,ae,hV,zG0,zG1]
  refine ff ?_
  refine bz (xs:=(fE P bs).map Fn.d) rfl ?_
  rw [efn,List.length_map]
  refine ⟨by omega,by omega,?_⟩
  rw [show ((P.fs.length:Nat):Int).toNat=P.fs.length by omega]
  refine c7 (I:=fun i e S'=>∃ (x2 x3 x4 x5 x6 x7 x8:Option D),e=[some (cdS P bs st),some (.ref r),x2,x3,x4,x5,x6,x7,x8]∧S' r=some (.lst ((dM P.fs bs i []).map D.str))∧KeepA S S') _ (fun i d e S2 hdi ⟨x2,x3,x4,x5,x6,x7,x8,ee,hr2,k2⟩=>?_) (fun e S2 ⟨x2,x3,x4,x5,x6,x7,x8,ee,hr2,k2⟩=>?_) ⟨none,none,none,none,none,none,none,rfl,ai,fun x m e=>by rw [ar (sne e hr)]; exact e⟩
  ·subst ee
   obtain ⟨hi,rfl⟩:=mU hdi
   refine ⟨_,rfl,fun K hK=>?_⟩
   simp only [zS1,zS0]
   simp only [cC]
   rw [b8]
   simp only [hun,hV,zG0,zG1]
   refine ff ?_
   refine dv (xs:=(fE P bs).map Fn.d) rfl ?_
   refine c7 (I:=fun j e S3=>∃ (x2 x3 x4 x5 x6 x7 x8:Option D),e=[some (cdS P bs st),some (.ref r),x2,x3,x4,x5,x6,x7,x8]∧S3 r=some (.lst (((P.fs.take j).foldl (db bs) (dM P.fs bs i [])).map D.str))∧KeepA S S3) _ (fun j d e S3 hdj ⟨x2,x3,x4,x5,x6,x7,x8,ee,hr3,k3⟩=>?_) (fun e S3 ⟨x2,x3,x4,x5,x6,x7,x8,ee,hr3,k3⟩=>?_) ⟨_,_,_,_,_,_,_,rfl,hr2,k2⟩
   ·subst ee
    rw [efn,List.getElem?_map] at hdj
    obtain ⟨f,hf,rfl⟩:=Option.map_eq_some_iff.mp hdj
    have hfm:=List.mem_of_getElem? hf
    have tk:P.fs.take (j + 1)=P.fs.take j ++ [f]:=by rw [List.take_succ,hf]; rfl
    have fin:=FaSub.fold (bs:=bs) (P.fs.take j) (fun x hx=>List.mem_of_mem_take hx) (FaSub.iter (fs:=P.fs) (bs:=bs) i)
    have estep:(P.fs.take (j + 1)).foldl (db bs) (dM P.fs bs i [])=db bs ((P.fs.take j).foldl (db bs) (dM P.fs bs i [])) f:=by rw [tk,List.foldl_append]; rfl
    rw [estep] at *
    generalize (P.fs.take j).foldl (db bs) (dM P.fs bs i [])=fb at hr3 fin hK ⊢
    have flen:=nodup_len fb P.fs fin.nd fin.sub
    refine ⟨_,rfl,fun K2 hK2=>?_⟩
    simp only [zS1,zS0]
    have gn:∀ {R:HK} {S:Sto},R (.str f) S→ba cy (.obj 3 [.str f,aw (bs f),.int (cntB (bs f):Nat)]) S R:=fun {R S} r=>by
     unfold ba
     dsimp only
     rw [h2]
     exact r
    have gb:∀ {R:HK} {S:Sto},R (aw (bs f)) S→ba bV (.obj 3 [.str f,aw (bs f),.int (cntB (bs f):Nat)]) S R:=fun {R S} r=>by
     unfold ba
     dsimp only
     rw [h3]
     exact r
    refine dC ?_
    simp only [f9,an,hun,aa,ae,hV,zG0,zG1]
    refine (show ba bV (.obj 3 [.str f,aw (bs f),.int (cntB (bs f):Nat)]) S3 _ from gb ?_)
    refine ⟨r,fb,P,bs f,rfl,hr3,ok.good f hfm,ok.cnt f hfm,fun g rq ks S4 lg hrq pd hk0 kA hSg hSrq ne=>?_⟩
    have kf:KeyF (bO fb (bs f)):=sM (ok.good f hfm)
    have wf:WayF P (bO fb (bs f)):=ml (ok.good f hfm) (ok.cnt f hfm)
    have hr4:S4 r=some (.lst (fb.map D.str)):=kA r _ hr3
    have k4:=k3.t kA
    have efp:gJ (bO fb (bs f))↔∃ u ∈ ks,.out af ∈ nxs (bO fb (bs f)) u:=⟨fun ⟨u,h1,h2⟩=>⟨u,pd.all h1,h2⟩,fun ⟨u,h1,h2⟩=>⟨u,pd.real u h1,h2⟩⟩
    have estp1:f ∉ fb∧gJ (bO fb (bs f))→db bs fb f=fb ++ [f]:=fun c=>if_pos c
    have estp0:¬ (f ∉ fb∧gJ (bO fb (bs f)))→db bs fb f=fb:=fun c=>if_neg c
    generalize bO fb (bs f)=L at *
    simp only [bu,bindDs,zS0,zS1]
    refine fy (.lst (List.replicate 0 (.str af))) S4 (fun R E r=>by simp only [bD,ae]; exact r) ?_
    dsimp only [zS1,zS0]
    refine gE (fun env S'=>∃ (n:Nat) (x7 x8:Option D),env=[some (cdS P bs st),some (.ref r),x2,some (fnD f (bs f) (cntB (bs f))),some (.ref g),some (.ref rq),some (.lst (List.replicate n (.str af))),x7,x8]∧S'=S4∧(0 < n↔∃ u ∈ ks,.out af ∈ nxs L u)) (fun D2 hD2=>?_) fun env S5 ⟨n,x7,x8,ee,eS,hn⟩=>?_
    ·try simp only [cC]
     rw [b8]
     try simp only [hV,zG0,zG1]
     refine dv (xs:=iB L ks) (fY hrq) ?_
     refine wn (q:=rq) (I:=fun m e S'=>∃ (n:Nat) (x7 x8:Option D),e=[some (cdS P bs st),some (.ref r),x2,some (fnD f (bs f) (cntB (bs f))),some (.ref g),some (.ref rq),some (.lst (List.replicate n (.str af))),x7,x8]∧S'=S4∧n≤4 * m∧(0 < n↔∃ u ∈ ks.take m,.out af ∈ nxs L u)) (iB L ks) (fun m e S' ⟨_,_,_,_,eS,_,_⟩=>by rw [eS]; exact hrq) (fun m d e S5 hdm ⟨n,x7,x8,ee,eS,hn4,hn⟩=>?_) (fun e S5 ⟨n,x7,x8,ee,eS,hn4,hn⟩=>?_) ⟨0,_,_,rfl,rfl,Nat.zero_le _,?_⟩
     ·subst ee
      subst eS
      rw [List.getElem?_map] at hdm
      obtain ⟨u,hu,rfl⟩:=Option.map_eq_some_iff.mp hdm
      have hul:=pd.lt u (List.mem_of_getElem? hu)
      have hm:=(List.getElem?_eq_some_iff.mp hu).1
      have pl:=iz pd.nd pd.lt
      have wl:=wf.len
      have few:=wf.few u
      have fl:faN (nxs L u)≤4:=Nat.le_trans (List.length_filter_le _ _) few
      have tku:ks.take (m + 1)=ks.take m ++ [u]:=by rw [List.take_succ,hu]; rfl
      refine ⟨_,rfl,fun K3 hK3=>?_⟩
      simp only [aK,hop,hLc,hV,hC,zS1,zS0,zG0,zG1]
      rw [b8]
      simp only [hop,hV,hC,zG0,zG1]
      refine lg.get hul ?_
      refine (show gIx (.lst [rS (lD L u),cu ((nxs L u).map (kap L))]) (.int 1) _ _ from aF (xs:=[rS (lD L u),cu ((nxs L u).map (kap L))]) rfl rfl ?_)
      refine dv (xs:=((nxs L u).map (kap L)).map gkD) rfl ?_
      rw [qU]
      refine (show cW (.nm 8) (hB (hop gEq (hV 8) (hC (.str af)))) (hV 8) none ((nxs L u).map fun x=>gkD (kap L x)) (List.replicate 0 (.str af)) [some (cdS P bs st),some (.ref r),x2,some (fnD f (bs f) (cntB (bs f))),some (.ref g),some (.ref rq),some (.lst (List.replicate n (.str af))),some (fh L u),none] S5 _ from jT kf (nxs L u) 0 (fun v hv=>wf.nx u v (List.mem_filterMap.mpr ⟨_,hv,rfl⟩)) ?_)
      refine m6 (by rw [List.length_replicate,List.length_replicate]; omega) ?_
      rw [Nat.zero_add,List.replicate_append_replicate]
      refine hK3 _ _ ⟨n + faN (nxs L u),_,_,rfl,rfl,by omega,?_⟩
      rw [tku]
      have fp:=D3 (l:=nxs L u)
      constructor
      ·intro h
       by_cases h0:0 < n
       ·obtain ⟨v,h1,h2⟩:=hn.mp h0
        exact ⟨v,List.mem_append_left _ h1,h2⟩
       ·exact ⟨u,List.mem_append_right _ (List.mem_singleton.mpr rfl),fp.mp (by omega)⟩
      ·rintro ⟨v,h1,h2⟩
       rcases List.mem_append.mp h1 with h1 | h1
       ·have:=hn.mpr ⟨v,h1,h2⟩; omega
       ·rw [List.mem_singleton.mp h1] at h2
        have:=fp.mpr h2; omega
     ·subst ee
      subst eS
      rw [List.length_map,List.take_length] at hn
      exact hD2 _ _ ⟨n,_,_,rfl,rfl,hn⟩
     ·rw [List.take_zero]
      exact ⟨fun h=>absurd h (Nat.lt_irrefl _),fun ⟨u,h,_⟩=>(by cases h)⟩
    subst ee
    subst eS
    refine ifs (!decide (f ∈ fb) && decide (0 < n)) (fun R E q=>?_) (fun hb=>?_) (fun hb=>?_)
    ·simp only [dU,hB,hop,hun,bD,ae,hV,zG0,zG1]
     refine (show ba cy (.obj 3 [.str f,aw (bs f),.int (cntB (bs f):Nat)]) S5 _ from gn ?_)
     refine jn (neg:=true) (fY hr4) ?_
     cases hd:decide (f ∈ fb) with
     | true =>
       rw [hd] at q
       exact q
     | false =>
       rw [hd] at q
       refine (show gNe (.lst (List.replicate n (.str af))) (.lst []) S5 _ from Gb (by decide +kernel) ?_)
       exact q
    ·obtain ⟨hb1,hb2⟩:=Bool.and_eq_true_iff.mp hb
     have hn1:f ∉ fb:=of_decide_eq_false (by rw [← Bool.not_eq_true']; exact hb1)
     have hfp:gJ L:=efp.mpr (hn.mp (of_decide_eq_true hb2))
     simp only [aL,hMt,hun,aa,ae,hV,zG0,zG1]
     rw [cB hr4]
     dsimp only
     refine (show ba cy (.obj 3 [.str f,aw (bs f),.int (cntB (bs f):Nat)]) S5 _ from gn ?_)
     refine fH hr4 (by rw [List.length_map]; omega) ?_
     refine hK2 _ _ ⟨_,_,_,_,_,_,_,rfl,?_,fun x m e=>?_⟩
     ·rw [ai,estp1 ⟨hn1,hfp⟩,List.map_append]
      rfl
     ·rw [ar (sne e hr)]
      exact k4 x m e
    ·have oP:¬ (f ∉ fb∧gJ L):=fun ⟨a1,a2⟩=>by
      rw [decide_eq_false a1,decide_eq_true (hn.mpr (efp.mp a2))] at hb
      cases hb
     refine (show K2 _ _ from hK2 _ _ ⟨_,_,_,_,_,_,_,rfl,?_,k4⟩)
     rw [estp0 oP]
     exact hr4
   ·subst ee
    rw [efn,List.length_map,List.take_length] at hr3
    refine hK _ _ ⟨_,_,_,_,_,_,_,rfl,?_,k3⟩
    rw [mn]
    exact hr3
  ·subst ee
   rw [dV] at hr2
   exact hD _ _ ⟨_,_,_,_,_,_,_,rfl,hr2,k2⟩
 subst ee
 simp only [aA,hV,zG0,zG1]
 exact Rt.mk (q r _ S1 (AV P.fs bs) hr1 k1 hr)
def pn:Ent→Nat
 | .s _=>0
 | .p _=>1
mutual
def lF:Ent→Nat→Nat→List (List Nat)
 | .s _,_,_=>[]
 | .p c,i,k=>(spotB c 0).map fun q=>i :: k :: q
def spotB:List (List Ent)→Nat→List (List Nat)
 | [],i=>[[i]]
 | st :: b,i=>[i] :: (spotS st i 0 ++ spotB b (i + 1))
def spotS:List Ent→Nat→Nat→List (List Nat)
 | [],_,_=>[]
 | e :: r,i,k=>lF e i k ++ spotS r i (k + pn e)
end
theorem cq (x:Str) (r:List Ent) (i k:Nat):spotS (.s x :: r) i k=spotS r i k:=by
 rw [spotS,lF]; rfl
theorem de (c:Bdy) (r:List Ent) (i k:Nat):spotS (.p c :: r) i k=((spotB c 0).map fun q=>i :: k :: q) ++ spotS r i (k + 1):=by
 rw [spotS,lF]; rfl
theorem dy (i k:Nat):spotS [] i k=[]:=by rw [spotS]
theorem il (i:Nat):spotB [] i=[[i]]:=by rw [spotB]
theorem fP (st:Stm) (b:Bdy) (i:Nat):spotB (st :: b) i=[i] :: (spotS st i 0 ++ spotB b (i + 1)):=by rw [spotB]
theorem qV {e:Ent} {i k:Nat} {q:List Nat} (h:q ∈ lF e i k):∃ r,q=i :: k :: r:=by
 cases e with
 | s x=>rw [lF] at h; cases h
 | p c =>
   rw [lF] at h
   obtain ⟨r,_,rfl⟩:=List.mem_map.mp h
   exact ⟨r,rfl⟩
theorem iD:∀ {st:List Ent} {i k:Nat} {q:List Nat},q ∈ spotS st i k→∃ j r,q=i :: j :: r∧k≤j
 | [],_,_,q,h=>by rw [spotS] at h; cases h
 | e :: st,i,k,q,h=>by
   rw [spotS] at h
   rcases List.mem_append.mp h with h | h
   ·obtain ⟨r,rfl⟩:=qV h
    exact ⟨k,r,rfl,Nat.le_refl _⟩
   ·obtain ⟨j,r,rfl,hj⟩:=iD h
    exact ⟨j,r,rfl,by omega⟩
theorem jU:∀ {b:List (List Ent)} {i:Nat} {q:List Nat},q ∈ spotB b i→∃ j r,q=j :: r∧i≤j
 | [],i,q,h=>by
   rw [il] at h
   exact ⟨i,[],List.mem_singleton.mp h,Nat.le_refl _⟩
 | st :: b,i,q,h=>by
   rw [fP] at h
   rcases List.mem_cons.mp h with rfl | h
   ·exact ⟨i,[],rfl,Nat.le_refl _⟩
   ·rcases List.mem_append.mp h with h | h
    ·obtain ⟨j,r,rfl,_⟩:=iD h
     exact ⟨i,_,rfl,Nat.le_refl _⟩
    ·obtain ⟨j,r,rfl,hj⟩:=jU h
     exact ⟨j,r,rfl,by omega⟩
abbrev LtP (p q:List Nat):Prop:=p < q
theorem ltP_cons {a b:Nat} {p q:List Nat}:LtP (a :: p) (b :: q)↔a < b∨a=b∧LtP p q:=List.cons_lt_cons_iff
mutual
theorem CG:∀ (e:Ent) (i k:Nat),(lF e i k).Pairwise LtP
 | .s _,_,_=>by rw [lF]; exact .nil
 | .p c,i,k=>by
   rw [lF]
   refine List.pairwise_map.mpr ((spotB_lt c 0).imp fun h=>?_)
   exact ltP_cons.mpr (.inr ⟨rfl,ltP_cons.mpr (.inr ⟨rfl,h⟩)⟩)
theorem spotB_lt:∀ (b:List (List Ent)) (i:Nat),(spotB b i).Pairwise LtP
 | [],i=>by rw [spotB]; exact List.pairwise_singleton ..
 | st :: b,i=>by
   rw [spotB]
   refine .cons (fun q hq=>?_) (List.pairwise_append.mpr ⟨spotS_lt st i 0,spotB_lt b (i + 1),fun p hp q hq=>?_⟩)
   ·rcases List.mem_append.mp hq with h | h
    ·obtain ⟨j,r,rfl,_⟩:=iD h
     exact ltP_cons.mpr (.inr ⟨rfl,List.nil_lt_cons ..⟩)
    ·obtain ⟨j,r,rfl,hj⟩:=jU h
     exact ltP_cons.mpr (.inl (by omega))
   ·obtain ⟨j,r,rfl,_⟩:=iD hp
    obtain ⟨j2,r2,rfl,hj⟩:=jU hq
    exact ltP_cons.mpr (.inl (by omega))
theorem spotS_lt:∀ (st:List Ent) (i k:Nat),(spotS st i k).Pairwise LtP
 | [],_,_=>by rw [spotS]; exact .nil
 | e :: r,i,k=>by
   rw [spotS]
   refine List.pairwise_append.mpr ⟨CG e i k,spotS_lt r i (k + pn e),fun p hp q hq=>?_⟩
   obtain ⟨t,rfl⟩:=qV hp
   obtain ⟨j,t2,rfl,hj⟩:=iD hq
   refine ltP_cons.mpr (.inr ⟨rfl,ltP_cons.mpr (.inl ?_)⟩)
   cases e with
   | s x=>rw [lF] at hp; cases hp
   | p c =>
     have:k + 1≤j:=hj
     omega
end
def rU (p:List Nat):List Int:=p.map fun (n:Nat)=>(n:Int)
theorem uU:∀ {p q:List Nat},LtP p q→rU p < rU q
 | [],[],h=>absurd h (List.lt_irrefl _)
 | [],_ :: _,_=>List.nil_lt_cons ..
 | _ :: _,[],h=>absurd h (List.not_lt_nil _)
 | a :: p,b :: q,h=>by
   refine List.cons_lt_cons_iff.mpr ?_
   rcases ltP_cons.mp h with h | ⟨h,k⟩
   ·exact .inl (by show ((_:Nat):Int) < ((_:Nat):Int); omega)
   ·exact .inr ⟨by rw [h],uU k⟩
theorem D4 (b:Bdy) (i:Nat):((spotB b i).map rU).Pairwise fun x y=>SetX.leQ x y=true :=
 List.pairwise_map.mpr ((spotB_lt b i).imp fun h=>(SetX.leQ_iff _ _).mpr (List.le_of_lt (uU h)))
theorem D5 (b:Bdy) (i:Nat):((spotB b i).map rU).Nodup :=
 List.pairwise_map.mpr ((spotB_lt b i).imp fun h e=>by
  have:=uU h
  rw [e] at this
  exact List.lt_irrefl _ this)
theorem CH {b:Bdy} {i:Nat} {cs:List (List Int)} (nd:cs.Nodup) (hm:∀ c,c ∈ cs↔c ∈ (spotB b i).map rU) (pw:cs.Pairwise fun x y=>SetX.leQ x y=true):cs=(spotB b i).map rU :=
 ((List.perm_ext_iff_of_nodup nd (D5 b i)).mpr hm).eq_of_pairwise (fun _ _ _ _ h k=>SetX.leQ_anti h k) pw (D4 b i)
theorem AW {fa:List Str} {n:Nat} (ih:∀ (b:Bdy) (i:Nat),(∀ x ∈ b,ShS fa n x)→(spotB b i).length≤1 + 3 * cntB b) {s:Stm} (h:ShS fa (n + 1) s) (i:Nat):(spotS s i 0).length≤2 + 3 * cntS s:=by
 rcases h with ⟨w,rfl⟩ | ⟨w,x,rfl⟩ | ⟨w,a,rfl,ha⟩ | ⟨w,a,b,rfl,ha,hb⟩ | ⟨w,c,a,b,rfl,ha,hb⟩
 ·rw [cq,dy]; exact Nat.zero_le _
 ·rw [cq,cq,dy]; exact Nat.zero_le _
 ·have:=ih a 0 ha
  rw [cq,de,dy,List.append_nil,List.length_map]
  show _≤2 + 3 * (0 + (cntB a + 0))
  omega
 ·have:=ih a 0 ha
  have:=ih b 0 hb
  rw [cq,de,de,dy,List.append_nil,List.length_append,List.length_map,List.length_map]
  show _≤2 + 3 * (0 + (cntB a + (cntB b + 0)))
  omega
 ·have:=ih a 0 ha
  have:=ih b 0 hb
  rw [cq,cq,de,de,dy,List.append_nil,List.length_append,List.length_map,List.length_map]
  show _≤2 + 3 * (0 + (0 + (cntB a + (cntB b + 0))))
  omega
theorem yJ {fa:List Str} {s:Stm} (h:ShS fa 0 s) (i:Nat):(spotS s i 0).length≤2 + 3 * cntS s:=by
 rcases h with ⟨w,rfl⟩ | ⟨w,x,rfl⟩
 ·rw [cq,dy]; exact Nat.zero_le _
 ·rw [cq,cq,dy]; exact Nat.zero_le _
theorem AX {fa:List Str}:∀ (n:Nat) (b:Bdy) (i:Nat),(∀ x ∈ b,ShS fa n x)→(spotB b i).length≤1 + 3 * cntB b:=fun n=>by
 induction n with
 | zero =>
   intro b
   induction b with
   | nil=>intro i _; rw [il]; exact Nat.le_refl _
   | cons s b ihb =>
     intro i h
     have h1:=yJ (h s zMs) i
     have h2:=ihb (i + 1) fun x hx=>h x (zMt hx)
     rw [fP,List.length_cons,List.length_append]
     show _≤1 + 3 * (1 + cntS s + cntB b)
     omega
 | succ n ih =>
   intro b
   induction b with
   | nil=>intro i _; rw [il]; exact Nat.le_refl _
   | cons s b ihb =>
     intro i h
     have h1:=AW ih (h s zMs) i
     have h2:=ihb (i + 1) fun x hx=>h x (zMt hx)
     rw [fP,List.length_cons,List.length_append]
     show _≤1 + 3 * (1 + cntS s + cntB b)
     omega
def D6 (fa:List Str) (n:Nat):Prop:=∀ (k:Nat) (lp:Bool) (b:Bdy) (path:List Nat) (mood:List Str) (on:List Gl) (st:ce) (fl:List Gl) (loop:Bool),∀ s ∈ ah fa n k lp b path mood on st fl loop,∃ q ∈ spotB b 0,s.path=path ++ q
theorem zV {fa:List Str} {n:Nat} (ih:D6 fa n) {lp:Bool} {b:Bdy} {path:List Nat} {mood:List Str} {on:List Gl} {st:ce} {fl:List Gl}:∀ (ws:List Str) (k:Nat),∀ s ∈ (bC (ah fa n) lp b path mood on st fl ws k).2,∃ q ∈ spotB b 0,s.path=path ++ q
 | [],_,s,h=>by cases h
 | w :: ws,k,s,h=>by
   have h:s ∈ ah fa n k lp b path (mood ++ [w]) (aV on st fl w) st fl false ++ (bC (ah fa n) lp b path mood on st fl ws (k + (ah fa n k lp b path (mood ++ [w]) (aV on st fl w) st fl false).length)).2:=h
   rcases List.mem_append.mp h with h | h
   ·exact ih _ _ _ _ _ _ _ _ _ s h
   ·exact zV ih ws _ s h
theorem G3 {fa:List Str} {n:Nat} (ih:D6 fa n) {k:Nat} {lp:Bool} {s:Stm} {path:List Nat} {i:Nat} {mood:List Str} {on:List Gl} {st:ce} {fl:List Gl}:∀ x ∈ (bE (ah fa n) fa k lp s (path ++ [i]) mood on st fl).2,∃ q ∈ spotS s i 0,x.path=path ++ q:=fun x hx=>by
 have pos:∀ (a:Bdy) (j:Nat) (Z:List (List Nat)),((spotB a 0).map fun q=>i :: j :: q) ⊆ Z→(∃ q ∈ spotB a 0,x.path=(path ++ [i] ++ [j]) ++ q)→∃ q ∈ Z,x.path=path ++ q:=fun a j Z hz ⟨q,hq,e⟩ =>
  ⟨i :: j :: q,hz (List.mem_map.mpr ⟨q,hq,rfl⟩),by rw [e,List.append_assoc,List.append_assoc]; rfl⟩
 unfold bE at hx
 split at hx
 ·cases hx
 ·cases hx
 ·rename_i a
  rw [cq,de]
  exact pos a 0 _ (List.subset_append_left ..) (ih _ _ _ _ _ _ _ _ _ x hx)
 ·rename_i w a b
  have sa:((spotB a 0).map fun q=>i :: 0 :: q) ⊆ spotS [.s w,.p a,.p b] i 0:=by
   rw [cq,de]
   exact List.subset_append_left ..
  have sb:((spotB b 0).map fun q=>i :: 1 :: q) ⊆ spotS [.s w,.p a,.p b] i 0:=by
   rw [cq,de,de]
   exact fun z hz=>List.mem_append_right _ (List.mem_append_left _ hz)
  split at hx
  ·rcases List.mem_append.mp hx with h | h
   ·exact pos a 0 _ sa (ih _ _ _ _ _ _ _ _ _ x h)
   ·exact pos b 1 _ sb (ih _ _ _ _ _ _ _ _ _ x h)
  ·split at hx
   ·rcases List.mem_append.mp hx with h | h
    ·exact pos b 1 _ sb (ih _ _ _ _ _ _ _ _ _ x h)
    ·exact pos a 0 _ sa (ih _ _ _ _ _ _ _ _ _ x h)
   ·rcases List.mem_append.mp hx with h | h
    ·exact pos b 1 _ sb (zV ih _ _ x h)
    ·exact pos a 0 _ sa (ih _ _ _ _ _ _ _ _ _ x h)
 ·rename_i w c a b
  have sa:((spotB a 0).map fun q=>i :: 0 :: q) ⊆ spotS [.s w,.s c,.p a,.p b] i 0:=by
   rw [cq,cq,de]
   exact List.subset_append_left ..
  have sb:((spotB b 0).map fun q=>i :: 1 :: q) ⊆ spotS [.s w,.s c,.p a,.p b] i 0:=by
   rw [cq,cq,de,de]
   exact fun z hz=>List.mem_append_right _ (List.mem_append_left _ hz)
  rcases List.mem_append.mp hx with h | h
  ·exact pos a 0 _ sa (ih _ _ _ _ _ _ _ _ _ x h)
  ·exact pos b 1 _ sb (ih _ _ _ _ _ _ _ _ _ x h)
 ·cases hx
theorem zW {fa:List Str} {n:Nat} (ih:D6 fa n) {k:Nat} {lp:Bool} {path:List Nat} {mood:List Str} {st:ce} {fl:List Gl}:∀ (b:Bdy) (i L:Nat),(∀ s ∈ (bx (ah fa n) fa k lp path mood st fl b i L).1,∃ q ∈ spotB b i,s.path=path ++ q)∧∀ s ∈ (bx (ah fa n) fa k lp path mood st fl b i L).2,∃ q ∈ spotB b i,s.path=path ++ q
 | [],_,_=>⟨fun s h=>(by cases h),fun s h=>(by cases h)⟩
 | s :: b,i,L=>by
   have a:=G3 ih (k:=L) (lp:=lp) (s:=s) (path:=path) (i:=i) (mood:=mood) (on:=[.sp (k + i + 1)]) (st:=st) (fl:=fl)
   obtain ⟨r1,r2⟩:=zW ih (k:=k) (lp:=lp) (path:=path) (mood:=mood) (st:=st) (fl:=fl) b (i + 1) (L + (bE (ah fa n) fa L lp s (path ++ [i]) mood [.sp (k + i + 1)] st fl).2.length)
   rw [fP]
   refine ⟨fun x hx=>?_,fun x hx=>?_⟩
   ·have hx:x ∈ ⟨path ++ [i],mood,some s,(bE (ah fa n) fa L lp s (path ++ [i]) mood [.sp (k + i + 1)] st fl).1⟩ :: (bx (ah fa n) fa k lp path mood st fl b (i + 1) (L + (bE (ah fa n) fa L lp s (path ++ [i]) mood [.sp (k + i + 1)] st fl).2.length)).1:=hx
    rcases List.mem_cons.mp hx with rfl | hx
    ·exact ⟨[i],zMs,rfl⟩
    ·obtain ⟨q,h1,h2⟩:=r1 x hx
     exact ⟨q,zMt (List.mem_append_right _ h1),h2⟩
   ·have hx:x ∈ (bE (ah fa n) fa L lp s (path ++ [i]) mood [.sp (k + i + 1)] st fl).2 ++ (bx (ah fa n) fa k lp path mood st fl b (i + 1) (L + (bE (ah fa n) fa L lp s (path ++ [i]) mood [.sp (k + i + 1)] st fl).2.length)).2:=hx
    rcases List.mem_append.mp hx with hx | hx
    ·obtain ⟨q,h1,h2⟩:=a x hx
     exact ⟨q,zMt (List.mem_append_left _ h1),h2⟩
    ·obtain ⟨q,h1,h2⟩:=r2 x hx
     exact ⟨q,zMt (List.mem_append_right _ h1),h2⟩
theorem qW:∀ (b:Bdy) (i:Nat),[i + b.length] ∈ spotB b i
 | [],i=>by rw [il]; exact List.mem_singleton.mpr rfl
 | s :: b,i=>by
   rw [fP,List.length_cons,show i + (b.length + 1)=i + 1 + b.length by omega]
   exact zMt (List.mem_append_right _ (qW b (i + 1)))
theorem EI {fa:List Str}:∀ n,D6 fa n
 | 0=>fun _ _ _ _ _ _ _ _ _ s h=>by cases h
 | n + 1=>fun k lp b path mood on st fl loop s h=>by
   obtain ⟨r1,r2⟩:=zW (EI n) (k:=k) (lp:=lp) (path:=path) (mood:=mood) (st:=st) (fl:=fl) b 0 (k + b.length + 1)
   have h:s ∈ (bx (ah fa n) fa k lp path mood st fl b 0 (k + b.length + 1)).1 ++ ⟨path ++ [b.length],mood,none,(if loop then [.sp k] else []) ++ on⟩ :: (bx (ah fa n) fa k lp path mood st fl b 0 (k + b.length + 1)).2:=h
   rcases List.mem_append.mp h with h | h
   ·exact r1 s h
   ·rcases List.mem_cons.mp h with rfl | h
    ·refine ⟨[b.length],?_,rfl⟩
     have:=qW b 0
     rw [Nat.zero_add] at this
     exact this
    ·exact r2 s h
theorem AY {fa:List Str} {b:Bdy} {s:SpL} (h:s ∈ bO fa b):s.path ∈ spotB b 0:=by
 obtain ⟨q,h1,h2⟩:=EI 4 0 false b [] [] _ _ _ false s h
 rw [h2]
 exact h1
theorem CI {q:Addr} {xs ys:List D} {S:Sto} {Q:HK} (h:S q=some (.lst xs)) (l:xs.length + ys.length≤16777216) (g:Q .non (up S q (.lst (xs ++ ys)))):jy (.ref q) [.lst ys] S Q:=by
 unfold jy
 dsimp only
 rw [h]
 exact ⟨l,g⟩
abbrev ptJ (p:List Nat):D:=.tup (p.map fun (n:Nat)=>D.int (n:Int))
abbrev dZ (ps:List (List Nat)):List D:=ps.map ptJ
def iE:List (List Ent)→Nat→List (List Nat)
 | [],_=>[]
 | st :: b,i=>[i] :: (spotS st i 0 ++ iE b (i + 1))
theorem jr:∀ (b:Bdy) (i:Nat),spotB b i=iE b i ++ [[i + b.length]]
 | [],i=>by rw [il]; rfl
 | st :: b,i=>by
   rw [fP,jr b (i + 1),List.length_cons,show i + (b.length + 1)=i + 1 + b.length by omega]
   show _=([i] :: (spotS st i 0 ++ iE b (i + 1))) ++ _
   rw [List.cons_append,List.append_assoc]
theorem ft:∀ (es:List Ent) (i k:Nat),spotS (es.filter isP) i k=spotS es i k
 | [],_,_=>rfl
 | .s x :: es,i,k=>by
   rw [cq,List.filter_cons_of_neg (show ¬ isP (.s x)=true from fun h=>by cases h),ft es]
 | .p c :: es,i,k=>by
   rw [List.filter_cons_of_pos (show isP (.p c)=true from rfl),de,de,ft es]
theorem qX:∀ {st:List Ent} {i k:Nat} {q:List Nat},q ∈ spotS st i k→∃ c j r,Ent.p c ∈ st∧r ∈ spotB c 0∧q=i :: j :: r
 | [],i,k,q,h=>by rw [dy] at h; cases h
 | .s x :: st,i,k,q,h=>by
   rw [cq] at h
   obtain ⟨c,j,r,h1,h2,h3⟩:=qX h
   exact ⟨c,j,r,zMt h1,h2,h3⟩
 | .p c :: st,i,k,q,h=>by
   rw [de] at h
   rcases List.mem_append.mp h with h | h
   ·obtain ⟨r,hr,rfl⟩:=List.mem_map.mp h
    exact ⟨c,k,r,zMs,hr,rfl⟩
   ·obtain ⟨c,j,r,h1,h2,h3⟩:=qX h
    exact ⟨c,j,r,zMt h1,h2,h3⟩
theorem qY:∀ {n:Nat} {b:Bdy} {i:Nat} {q:List Nat},Lv n b→q ∈ spotB b i→q.length≤2 * n
 | 0,_,_,_,h,_=>h.elim
 | n + 1,b,i,q,h,hq=>by
   have go:∀ (b:Bdy) (i:Nat),(∀ st ∈ b,∃ x r,st = .s x :: r∧r.length≤9∧∀ e ∈ r,LvE n e)→q ∈ spotB b i→q.length≤2 * (n + 1):=fun b=>by
    induction b with
    | nil =>
      intro i _ hq
      rw [il] at hq
      rw [List.mem_singleton.mp hq]
      show 1≤_
      omega
    | cons st b ih =>
      intro i hb hq
      rw [fP] at hq
      rcases List.mem_cons.mp hq with rfl | hq
      ·show 1≤_
       omega
      ·rcases List.mem_append.mp hq with hq | hq
       ·obtain ⟨x,r,rfl,_,h3⟩:=hb st zMs
        rw [cq] at hq
        obtain ⟨c,j,t,h1,h2,rfl⟩:=qX hq
        have:=qY (h3 _ h1) h2
        show t.length + 1 + 1≤_
        omega
       ·exact ih (i + 1) (fun s hs=>hb s (zMt hs)) hq
   exact go b i h.2 hq
def ik (n:Nat):HSp:=fun ds S Q _=>∃ (b:Bdy) (x:D),ds=[x]∧(x=aw b∨x = .lst (stmsD b))∧Lv n b∧n≤100∧(spotB b 0).length≤1000∧∀ q S',KeepA S S'→S q=none→S' q=some (.lst (dZ (spotB b 0)))→Q (.ref q) S'
theorem qZ {p:Pt} {tb:HTS} {d:D} {l:List D} {D0:HEnds} {env env1:aW} {S:Sto} (e:bu p d env=some env1) (h:tb { D0 with nx:=cZ p tb none l D0,ct:=cZ p tb none l D0,bk:=D0.nx } env1 S):cZ p tb none (d :: l) D0 env S:=by
 show (match bu p d env with
  | some env1=>tb { D0 with nx:=cZ p tb none l D0,ct:=cZ p tb none l D0,bk:=D0.nx } env1 S
  | none=>False)
 rw [e]
 exact h
theorem KeepA.q {r:Addr} {S S':Sto} (h:KeepA S S'):KeepQ r S S':=fun a m _ e=>h a m e
theorem KeepA.r {S:Sto}:KeepA S S:=fun _ _ e=>e
def Gc (i k:Nat):D→D
 | .tup xs=>.tup (.int (i:Nat) :: .int (k:Nat) :: xs)
 | d=>d
theorem D7 (i k:Nat) (l:List (List Nat)):(dZ l).map (Gc i k)=dZ (l.map fun q=>i :: k :: q):=by
 show (l.map ptJ).map (Gc i k)=(l.map fun q=>i :: k :: q).map ptJ
 rw [List.map_map,List.map_map]; rfl
theorem q0 (a b:List (List Nat)):dZ (a ++ b)=dZ a ++ dZ b:=List.map_append ..
abbrev inJ (sp:HSp):HTS:=aL (hMt eU jy (hV 1) (aa (hLc (eT (an 1 [] sp (aa (hV 5) ae))) (.nm 6) fM (hop cr (aE (aa (hV 2) (aa (hV 4) ae))) (hV 6)) [6]) ae))
theorem rc {n:Nat} {x0 x3:Option D} {r:Addr} {i:Nat} {D0:HEnds} (hn:n≤100):∀ (l:List Ent) (k:Nat) (acc:List (List Nat)) (S:Sto) (x4 x5:Option D),(∀ e ∈ l,∃ c,e = .p c∧Lv n c)→S r=some (.lst (dZ acc))→acc.length + (spotS l i k).length≤1000 →
 (∀ S' y4 y5,KeepQ r S S'→S' r=some (.lst (dZ (acc ++ spotS l i k)))→D0.nx [x0,some (.ref r),some (.int (i:Nat)),x3,y4,y5,none] S') →
 cZ (.tp [.nm 4,.nm 5]) (inJ (ik n)) none (ja k (l.map jH)) D0 [x0,some (.ref r),some (.int (i:Nat)),x3,x4,x5,none] S
 | [],k,acc,S,x4,x5,_,hr,_,hD=>by
   rw [dy,List.append_nil] at hD
   exact hD S x4 x5 .r hr
 | e :: l,k,acc,S,x4,x5,hl,hr,hz,hD=>by
   obtain ⟨c,rfl,hc⟩:=hl e zMs
   rw [de,List.length_append,List.length_map] at hz
   rw [de] at hD
   refine qZ (env1:=[x0,some (.ref r),some (.int (i:Nat)),x3,some (.int (k:Nat)),some (aw c),none]) rfl ?_
   simp only [inJ,aL,hMt,hLc,aa,ae,hV,zG0,zG1]
   rw [cB hr]
   dsimp only
   rw [b8]
   simp only [an,aa,ae,hV,zG0,zG1]
   refine ⟨c,aw c,rfl,.inl rfl,hc,hn,by omega,fun q S1 k1 hq0 hq=>?_⟩
   refine dv (xs:=dZ (spotB c 0)) (fY hq) ?_
   refine sq (Gc i k) (fun A a=>(show chk (some (q,dZ (spotB c 0))) S1 A from ⟨hq,a⟩)) _ [] (fun d hd=>?_) ?_
   ·obtain ⟨p,hp,rfl⟩:=List.mem_map.mp hd
    have:=qY hc hp
    refine ⟨_,rfl,fun R E h=>?_⟩
    simp only [hop,aE,aa,ae,hV,cN,zS0,zS1,zG0,zG1]
    refine kH ?_ h
    rw [List.length_map]
    show 2 + p.length≤_
    omega
   rw [List.nil_append,D7]
   refine CI (k1 _ _ hr) (by rw [List.length_map,List.length_map,List.length_map]; omega) ?_
   have hqr:q ≠ r:=fun e=>by rw [e] at hq0; rw [hr] at hq0; cases hq0
   refine rc hn l (k + 1) (acc ++ (spotB c 0).map fun q=>i :: k :: q) _ _ _ (fun e he=>hl e (zMt he)) ?_ ?_ fun S' y4 y5 kq hr'=>?_
   ·rw [ai,q0]
   ·rw [List.length_append,List.length_map]; omega
   ·refine hD S' y4 y5 ((k1.q.t fun a m ha e=>(ar ha).trans e).t kq) ?_
    rw [hr',List.append_assoc]
theorem re {n:Nat} {x0:Option D} {r:Addr} {D0:HEnds} (hn:n≤100):∀ (b:Bdy) (i:Nat) (acc:List (List Nat)) (S:Sto) (x2 x3 x4 x5:Option D),(∀ st ∈ b,∃ x r,st = .s x :: r∧r.length≤9∧∀ e ∈ r,LvE n e)→S r=some (.lst (dZ acc))→acc.length + (iE b i).length≤1000 →
 (∀ S' y2 y3 y4 y5,KeepQ r S S'→S' r=some (.lst (dZ (acc ++ iE b i)))→D0.nx [x0,some (.ref r),y2,y3,y4,y5,none] S') →
 cZ (.tp [.nm 2,.nm 3]) (aj (aL (hMt eU cz (hV 1) (aa (aE (aa (hV 2) ae)) ae))) (cC (dO (aa (an 1 [] iT (aa (hV 3) ae)) ae)) (.tp [.nm 4,.nm 5]) (inJ (ik n)))) none (ja i (stmsD b)) D0 [x0,some (.ref r),x2,x3,x4,x5,none] S
 | [],i,acc,S,x2,x3,x4,x5,_,hr,_,hD=>by
   refine hD S x2 x3 x4 x5 .r ?_
   rw [hr]
   show _=some (M.lst (dZ (acc ++ [])))
   rw [List.append_nil]
 | st :: b,i,acc,S,x2,x3,x4,x5,hb,hr,hz,hD=>by
   obtain ⟨w,es,rfl,hes,hle⟩:=hb st zMs
   have hz:acc.length + ([i] :: (spotS (.s w :: es) i 0 ++ iE b (i + 1))).length≤1000:=hz
   rw [List.length_cons,List.length_append,cq] at hz
   refine qZ (env1:=[x0,some (.ref r),some (.int (i:Nat)),some (aY (.s w :: es)),x4,x5,none]) rfl ?_
   refine dC ?_
   simp only [aL,hMt,aE,aa,ae,hV,zG0,zG1]
   rw [cB hr]
   dsimp only
   refine fH hr (by rw [List.length_map]; omega) ?_
   simp only [cC,dO,an,aa,ae,hV,zG0,zG1]
   refine ⟨w,es,rfl,?_⟩
   refine (show cZ _ _ none (ja 0 ((es.filter isP).map jH)) _ _ _ from rc hn (es.filter isP) 0 (acc ++ [[i]]) _ _ _ (fun e he=>?_) ?_ ?_ fun S' y4 y5 k1 hr1=>?_)
   ·obtain ⟨h1,h2⟩:=List.mem_filter.mp he
    cases e with
    | s x=>cases h2
    | p c=>exact ⟨c,rfl,hle _ h1⟩
   ·rw [ai,q0]; rfl
   ·rw [List.length_append,List.length_singleton,ft]; omega
   ·rw [ft,List.append_assoc] at hr1
    refine re hn b (i + 1) (acc ++ ([[i]] ++ spotS es i 0)) S' _ _ _ _ (fun s hs=>hb s (zMt hs)) hr1 ?_ fun S2 y2 y3 z4 z5 k2 hr2=>?_
    ·rw [List.length_append,List.length_append,List.length_singleton]; omega
    ·refine hD S2 y2 y3 z4 z5 (KeepQ.t (KeepQ.t (fun a m ha e=>(ar ha).trans e) k1) k2) ?_
     rw [hr2,List.append_assoc,List.append_assoc]
     show _=some (M.lst (dZ (acc ++ ([i] :: (spotS (.s w :: es) i 0 ++ iE b (i + 1))))))
     rw [cq]
     rfl
theorem xi {n:Nat} {ds:List D} {S:Sto} {Q E:HK} (h:ik (n + 1) ds S Q E):gU iT (ik n) (EN Q E) (ao 7 ds) S:=by
 obtain ⟨b,x,rfl,hx,lv,hn,hz,g⟩:=h
 show gU iT (ik n) (EN Q E) [some x,none,none,none,none,none,none] S
 unfold gU
 have hi:∀ S,items S x=some (stmsD b):=fun S=>by
  rcases hx with rfl | rfl <;> rfl
 have hc:Ai x (stmsD b)=none:=by
  rcases hx with rfl | rfl <;> rfl
 have hz':=hz
 rw [jr,List.length_append,List.length_singleton] at hz'
 refine fz (fun x S'=>∃ r,x = .ref r∧S r=none∧S'=up S r (.lst [])) (fun R E hR=>?_) fun y S1 ⟨r,ex,hr,eS⟩=>?_
 ·simp only [cM,ae]
  exact fun r hr=>hR _ _ ⟨r,rfl,hr,rfl⟩
 subst ex
 subst eS
 dsimp only [zS1,zS0]
 refine gE (fun env S'=>∃ (x2 x3 x4 x5:Option D),env=[some x,some (.ref r),x2,x3,x4,x5,none]∧KeepQ r (up S r (.lst [])) S'∧S' r=some (.lst (dZ (iE b 0)))) (fun D1 hD=>?_) fun env S1 ⟨x2,x3,x4,x5,ee,k1,hr1⟩=>?_
 ·simp only [cC,dO,aa,ae,hV,zG0,zG1]
  rw [hi]
  dsimp only
  rw [hc]
  refine re (by omega) b 0 [] _ _ _ _ _ lv.2 ai (by rw [List.length_nil]; omega) fun S' y2 y3 y4 y5 k1 hr1=>hD _ _ ⟨y2,y3,y4,y5,rfl,k1,hr1⟩
 subst ee
 simp only [aA,hop,hcb,bD,aE,aa,ae,hV,zG0,zG1]
 refine bz (hi S1) ?_
 have e1:bF S1 (.ref r)=some (dZ (iE b 0)):=by
  show (match S1 r with
   | some (.lst ds)=>some ds
   | _=>none)=_
  rw [hr1]
 show ou (.ref r) (.lst [.tup [.int ((stmsD b).length:Nat)]]) S1 _
 unfold ou
 show sd (.ref r) (.lst [.tup [.int ((stmsD b).length:Nat)]]) S1 _
 unfold sd
 rw [e1]
 refine ⟨by rw [List.length_map]; show _ + 1≤_; omega,fun p hp=>?_⟩
 have kA:KeepA S (up S1 p (.lst (dZ (iE b 0) ++ [.tup [.int ((stmsD b).length:Nat)]]))):=fun a m e=>by
  have ha:a ≠ r:=fun z=>by rw [z,hr] at e; cases e
  have h1:S1 a=some m:=k1 a m ha ((ar ha).trans e)
  have hp':a ≠ p:=fun z=>by rw [z,hp] at h1; cases h1
  exact (ar hp').trans h1
 have hSp:S p=none:=by
  cases e:S p with
  | none=>rfl
  | some m =>
    have ha:p ≠ r:=fun z=>by rw [z,hr] at e; cases e
    have h1:S1 p=some m:=k1 p m ha ((ar ha).trans e)
    rw [hp] at h1; cases h1
 refine Rt.mk (g p _ kA hSp ?_)
 rw [ai,jr,q0,kI,Nat.zero_add]
 rfl
abbrev prJ (path:List Nat) (l:List (List Nat)):List D:=l.map fun q=>ptJ (path ++ q)
theorem uV (p:List Nat) (a b:List (List Nat)):prJ p (a ++ b)=prJ p a ++ prJ p b:=List.map_append ..
theorem D8 (p:List Nat) (i k:Nat) (l:List (List Nat)):prJ (p ++ [i,k]) l=prJ p (l.map fun q=>i :: k :: q):=by
 show (l.map fun q=>ptJ ((p ++ [i,k]) ++ q))=(l.map fun q=>i :: k :: q).map fun q=>ptJ (p ++ q)
 rw [List.map_map]
 refine List.map_congr_left fun q _=>?_
 show ptJ (p ++ [i,k] ++ q)=ptJ (p ++ (i :: k :: q))
 rw [List.append_assoc]
 rfl
theorem oi (st:Stm):∀ (b:Bdy) (i:Nat),iE (b ++ [st]) i=iE b i ++ ([i + b.length] :: spotS st (i + b.length) 0)
 | [],i=>by
   show [i] :: (spotS st i 0 ++ [])=_
   rw [List.append_nil]; rfl
 | x :: b,i=>by
   show [i] :: (spotS x i 0 ++ iE (b ++ [st]) (i + 1))=([i] :: (spotS x i 0 ++ iE b (i + 1))) ++ _
   rw [oi st b (i + 1),List.length_cons,show i + (b.length + 1)=i + 1 + b.length by omega,List.cons_append,List.append_assoc]
theorem rf (c:Bdy):∀ (l:List Ent) (i k:Nat),(∀ e ∈ l,isP e=true)→spotS (l ++ [.p c]) i k=spotS l i k ++ (spotB c 0).map fun q=>i :: (k + l.length) :: q
 | [],i,k,_=>by
   rw [List.nil_append,de,dy,dy,List.append_nil]; rfl
 | .s x :: l,i,k,h=>by cases h _ zMs
 | .p d :: l,i,k,h=>by
   rw [List.cons_append,de,de,rf c l i (k + 1) fun e he=>h e (zMt he),List.length_cons,show k + (l.length + 1)=k + 1 + l.length by omega,List.append_assoc]
theorem kM {x0 x1 x2 x3 x5 x6:Option D} {S:Sto} {R:HK}:∀ (r:List Ent) (acc:List D),R (.lst (acc ++ (r.filter isP).map jH)) S→cW (.nm 4) (fK (hTr (hun (gR j9) (hV 4)))) (hV 4) none (entsD r) acc [x0,x1,x2,x3,none,x5,x6] S R
 | [],acc,h=>by
   rw [List.filter_nil,List.map_nil,List.append_nil] at h
   exact h
 | .s x :: r,acc,h=>by
   have ih:=kM (x0:=x0) (x1:=x1) (x2:=x2) (x3:=x3) (x5:=x5) (x6:=x6) (S:=S) (R:=R) r acc h
   show cW _ _ _ none (D.str x :: entsD r) acc _ S R
   simp only [cW,chk,bu,fK,hTr,hun,hV,zG0,zG1,zS0,zS1]
   exact ih
 | .p b :: r,acc,h=>by
   have ih:=kM (x0:=x0) (x1:=x1) (x2:=x2) (x3:=x3) (x5:=x5) (x6:=x6) (S:=S) (R:=R) r (acc ++ [aw b]) (by rw [List.append_assoc]; exact h)
   show cW _ _ _ none (aw b :: entsD r) acc _ S R
   simp only [cW,chk,bu,fK,hTr,hun,hV,zG0,zG1,zS0,zS1]
   exact ih
def js (n:Nat):HSp:=fun ds S Q _=>∃ (b:Bdy) (path:List Nat),ds=[aw b,ptJ path]∧Lv n b∧n≤100∧path.length + 2 * n≤1000∧(spotB b 0).length≤1000∧∀ S',KeepA S S'→Q (.lst (prJ path (spotB b 0))) S'
theorem KeepA.up {S S1:Sto} {p:Addr} {m:M} (h:KeepA S S1) (hp:S1 p=none):KeepA S (Hy.up S1 p m):=fun a x e=>by
 have h1:=h a x e
 have ha:a ≠ p:=fun z=>by rw [z,hp] at h1; cases h1
 exact (ar ha).trans h1
theorem KeepA.put {S S1:Sto} {p:Addr} {m:M} (h:KeepA S S1) (hp:S p=none):KeepA S (Hy.up S1 p m):=fun a x e=>by
 have ha:a ≠ p:=fun z=>by rw [z,hp] at e; cases e
 exact (ar ha).trans (h a x e)
theorem KeepA.none {S S1:Sto} {p:Addr} (h:KeepA S S1) (hp:S1 p=none):S p=none:=by
 cases e:S p with
 | none=>rfl
 | some m=>have:=h p m e; rw [hp] at this; cases this
theorem rh {p l:List Nat} {S:Sto} {Q:HK} (hl:p.length + l.length≤100000) (h:Q (ptJ (p ++ l)) S):cr (ptJ p) (.tup (l.map fun (n:Nat)=>D.int (n:Int))) S Q:=by
 refine kH (by rw [List.length_map,List.length_map]; omega) ?_
 rw [← List.map_append]
 exact h
theorem D9 {b:Bdy} {i m:Nat} (h:m≤b.length):(iE (b.take m) i).length≤(iE b i).length:=by
 have:∀ (b c:Bdy) (i:Nat),(iE b i).length≤(iE (b ++ c) i).length:=fun b c=>by
  induction b with
  | nil=>intro i; exact Nat.zero_le _
  | cons s b ih =>
    intro i
    show ([i] :: (spotS s i 0 ++ iE b (i + 1))).length≤([i] :: (spotS s i 0 ++ iE (b ++ c) (i + 1))).length
    rw [List.length_cons,List.length_cons,List.length_append,List.length_append]
    have:=ih (i + 1)
    omega
 have h2:=this (b.take m) (b.drop m) i
 rwa [List.take_append_drop] at h2
theorem sP:∀ {l:List Ent} {i k m:Nat},(spotS (l.take m) i k).length≤(spotS l i k).length
 | [],_,_,m=>by rw [List.take_nil]; exact Nat.le_refl _
 | e :: l,i,k,0=>by rw [List.take_zero,dy]; exact Nat.zero_le _
 | e :: l,i,k,m + 1=>by
   rw [List.take_succ_cons,spotS,spotS,List.length_append,List.length_append]
   exact Nat.add_le_add_left sP _
theorem uW {n:Nat} {ds:List D} {S:Sto} {Q E:HK} (h:js (n + 1) ds S Q E):gx (js n) (EN Q E) (ao 7 ds) S:=by
 obtain ⟨b,path,rfl,lv,hn,hp,hz,g⟩:=h
 show gx (js n) (EN Q E) [some (aw b),some (ptJ path),none,none,none,none,none] S
 unfold gx
 have hb:=lv.2
 have hz':=hz
 rw [jr,List.length_append,List.length_singleton] at hz'
 refine fz (fun x S'=>∃ r,x = .ref r∧S r=none∧S'=up S r (.lst [])) (fun R E hR=>?_) fun y S1 ⟨r,ex,hr,eS⟩=>?_
 ·simp only [cM,ae]
  exact fun r hr=>hR _ _ ⟨r,rfl,hr,rfl⟩
 subst ex
 subst eS
 dsimp only [zS1,zS0]
 refine gE (fun env S'=>∃ (r:Addr) (x3 x5 x6:Option D),env=[some (aw b),some (ptJ path),some (.ref r),x3,none,x5,x6]∧KeepA S S'∧S r=none∧S' r=some (.lst (prJ path (iE b 0)))) (fun D1 hD=>?_) fun env S1 ⟨r,x3,x5,x6,ee,k1,hr0,hr1⟩=>?_
 ·simp only [cC,hJ,hcb,aa,ae,hV,zG0,zG1]
  refine bz (xs:=stmsD b) rfl ?_
  rw [kI]
  have lb:b.length≤1000:=lv.1
  refine ⟨by omega,by omega,?_⟩
  rw [show ((b.length:Nat):Int).toNat=b.length by omega]
  refine c7 (I:=fun i e S'=>∃ (r:Addr) (x3 x5 x6:Option D),e=[some (aw b),some (ptJ path),some (.ref r),x3,none,x5,x6]∧KeepA S S'∧S r=none∧S' r=some (.lst (prJ path (iE (b.take i) 0)))) _ (fun i d e S2 hdi ⟨r,x3,x5,x6,ee,k2,hr0,hr2⟩=>?_) (fun e S2 ⟨r,x3,x5,x6,ee,k2,hr0,hr2⟩=>?_) ⟨r,_,_,_,rfl,KeepA.r.put hr,hr,ai⟩
  ·subst ee
   obtain ⟨hi,rfl⟩:=mU hdi
   rw [Int.zero_add]
   refine ⟨_,rfl,fun K hK=>?_⟩
   simp only [zS1,zS0]
   have hs:b[i]? = some b[i]:=List.getElem?_eq_getElem hi
   obtain ⟨w,es,est,hes,hle⟩:=hb b[i] (List.getElem_mem hi)
   have tk:b.take (i + 1)=b.take i ++ [.s w :: es]:=by rw [List.take_succ,hs,est]; rfl
   have ll:=D9 (b:=b) (i:=0) (m:=i + 1) (by omega)
   rw [est] at hs
   rw [tk,oi,List.length_take,Nat.min_eq_left (Nat.le_of_lt hi),Nat.zero_add] at hK
   rw [tk,oi,List.length_take,Nat.min_eq_left (Nat.le_of_lt hi),Nat.zero_add,List.length_append,List.length_cons,cq] at ll
   generalize hA:iE (b.take i) 0=A at *
   refine dC ?_
   simp only [aL,hMt,hop,aE,aa,ae,hV,zG0,zG1]
   rw [cB hr2]
   dsimp only
   refine rh (l:=[i]) (by show path.length + 1≤_; omega) ?_
   refine fH hr2 (by rw [List.length_map]; omega) ?_
   have k3:=k2.put (m:=.lst (prJ path A ++ [ptJ (path ++ [i])])) hr0
   have hr3:up S2 r (.lst (prJ path A ++ [ptJ (path ++ [i])])) r=some (.lst (prJ path (A ++ [[i]]))):=by rw [ai,uV]; rfl
   generalize up S2 r (.lst (prJ path A ++ [ptJ (path ++ [i])]))=S3 at k3 hr3
   refine fy (.lst ((es.filter isP).map jH)) S3 (fun R E h=>?_) ?_
   ·simp only [hLc]
    rw [b8]
    simp only [hSl,hop,iL,mw,hV,hC,zG0,zG1]
    refine (show gIx (aw b) (.int ((i:Nat):Int)) S3 _ from aF (xs:=stmsD b) rfl (fe (m9 hs)) ?_)
    refine (show gSl (.tup (D.str w :: entsD es)) (some ((1:Nat):Int)) none S3 _ from wu ?_)
    refine dv (xs:=entsD es) rfl ?_
    exact kM es [] h
   dsimp only [zS1,zS0]
   simp only [cC,hJ,hcb,aa,ae,hV,zG0,zG1]
   refine bz (xs:=(es.filter isP).map jH) rfl ?_
   have lf:(es.filter isP).length≤es.length:=List.length_filter_le ..
   rw [List.length_map]
   refine ⟨by omega,by omega,?_⟩
   rw [show (((es.filter isP).length:Nat):Int).toNat=(es.filter isP).length by omega]
   have ap:∀ e ∈ es.filter isP,isP e=true:=fun e he=>(List.mem_filter.mp he).2
   have ac:∀ c,Ent.p c ∈ es.filter isP→Lv n c:=fun c hc=>hle _ (List.mem_filter.mp hc).1
   rw [← ft es] at ll
   rw [cq,← ft es] at hK
   generalize es.filter isP=fs at *
   refine c7 (I:=fun j e S'=>∃ (r:Addr) (x6:Option D),e=[some (aw b),some (ptJ path),some (.ref r),some (.int (i:Nat)),none,some (.lst (fs.map jH)),x6]∧KeepA S S'∧S r=none∧S' r=some (.lst (prJ path (A ++ ([i] :: spotS (fs.take j) i 0))))) _ (fun j d e S4 hdj ⟨r,x6,ee,k4,hr0,hr4⟩=>?_) (fun e S4 ⟨r,x6,ee,k4,hr0,hr4⟩=>?_) ⟨r,_,rfl,k3,hr0,by rw [List.take_zero,dy]; exact hr3⟩
   ·subst ee
    obtain ⟨hj,rfl⟩:=mU hdj
    rw [Int.zero_add]
    refine ⟨_,rfl,fun K2 hK2=>?_⟩
    simp only [zS1,zS0]
    have hf:fs[j]? = some fs[j]:=List.getElem?_eq_getElem hj
    obtain ⟨c,hc⟩:∃ c,fs[j] = .p c:=by
     have:=ap fs[j] (List.getElem_mem hj)
     cases h:fs[j] with
     | s x=>rw [h] at this; cases this
     | p c=>exact ⟨c,rfl⟩
    have hcm:Ent.p c ∈ fs:=hc ▸ List.getElem_mem hj
    have hf':(fs.map jH)[j]? = some (aw c):=by rw [List.getElem?_map,hf,hc]; rfl
    have tk2:fs.take (j + 1)=fs.take j ++ [.p c]:=by rw [List.take_succ,hf,hc]; rfl
    have pl:=sP (l:=fs) (i:=i) (k:=0) (m:=j + 1)
    have sn:=rf c (fs.take j) i 0 fun e he=>ap e (List.mem_of_mem_take he)
    rw [List.length_take,Nat.min_eq_left (Nat.le_of_lt hj),Nat.zero_add] at sn
    rw [tk2,sn,List.length_append,List.length_map] at pl
    rw [tk2,sn] at hK2
    simp only [aK,hop,an,aE,aa,ae,hV,zG0,zG1]
    refine (show gIx (.lst (fs.map jH)) (.int ((j:Nat):Int)) S4 _ from aF (xs:=fs.map jH) rfl (fe hf') ?_)
    refine (show cr (ptJ path) (.tup ([i,j].map fun (n:Nat)=>D.int (n:Int))) S4 _ from rh (by show path.length + 2≤_; omega) ?_)
    refine ⟨c,path ++ [i,j],rfl,ac c hcm,by omega,by rw [List.length_append]; show path.length + 2 + _≤_; omega,by omega,fun S5 k5=>?_⟩
    have hr5:=k5 _ _ hr4
    have e1:bF S5 (.ref r)=some (prJ path (A ++ ([i] :: spotS (fs.take j) i 0))):=by
     show (match S5 r with
      | some (.lst ds)=>some ds
      | _=>none)=_
     rw [hr5]
    unfold ou
    show sd (.ref r) (.lst (prJ (path ++ [i,j]) (spotB c 0))) S5 _
    unfold sd
    rw [e1]
    refine ⟨by rw [List.length_map,List.length_map,List.length_append,List.length_cons]; omega,fun p hp=>?_⟩
    have k6:=k4.t k5
    refine hK2 _ _ ⟨p,_,rfl,k6.up hp,k6.none hp,?_⟩
    rw [ai,D8,← uV,List.append_assoc]
    rfl
   ·subst ee
    rw [dV,List.take_length] at hr4
    exact hK _ _ ⟨r,_,_,_,rfl,k4,hr0,hr4⟩
  ·subst ee
   rw [dV,List.take_length] at hr2
   exact hD _ _ ⟨r,_,_,_,rfl,k2,hr0,hr2⟩
 subst ee
 simp only [aA,hop,hcb,bD,aE,aa,ae,hV,zG0,zG1]
 refine bz (xs:=stmsD b) rfl ?_
 rw [kI]
 refine (show cr (ptJ path) (.tup ([b.length].map fun (n:Nat)=>D.int (n:Int))) S1 _ from rh (by show path.length + 1≤_; omega) ?_)
 show (match S1 r with
  | some (.lst xs)=>xs.length + 1≤sizeLine∧Rt Q (.lst (xs ++ [ptJ (path ++ [b.length])])) S1
  | _=>False)
 rw [hr1]
 refine ⟨by rw [List.length_map,sizeLine_eq]; omega,Rt.mk ?_⟩
 have:=g S1 k1
 rw [jr,uV,Nat.zero_add] at this
 exact this
theorem CJ {t u:HTS} {D0:HEnds} {env:aW} {S:Sto} (P:aW→Sto→Prop) (h:∀ D1:HEnds,D1.rt=D0.rt→(∀ e S',P e S'→D1.nx e S')→t D1 env S) (hn:∀ e S',P e S'→u D0 e S'):aj t u D0 env S:=h { D0 with nx:=u D0 } rfl fun e S' hp=>hn e S' hp
mutual
theorem sQ:∀ d:D,PyData.eqv (toP d) (toP d)=true
 | .non=>by simp [toP,PyData.eqv]
 | .bl b=>by simp [toP,PyData.eqv]
 | .int i=>by simp [toP,PyData.eqv]
 | .str x=>by show (x == x)=true; rw [uy]; exact decide_eq_true rfl
 | .tup ds=>by rw [toP,PyData.eqv]; exact toPs_reflJ ds
 | .lst ds=>by rw [toP,PyData.eqv]; exact toPs_reflJ ds
 | .rls ds=>by rw [toP,PyData.eqv]; exact toPs_reflJ ds
 | .ref _=>by simp [toP,PyData.eqv]
 | .ty _=>by simp [toP,PyData.eqv]
 | .obj _ _=>by simp [toP,PyData.eqv]
 | .exc _ _=>by simp [toP,PyData.eqv]
 | .tpx _=>by simp [toP,PyData.eqv]
 | .tps ds=>by rw [toP,PyData.eqv]; exact toPs_reflJ ds
 | .dtz _ _=>by simp [toP,PyData.eqv]
 | .dkz _ _=>by simp [toP,PyData.eqv]
theorem toPs_reflJ:∀ ds:List D,PyData.eqvAll (toPs ds) (toPs ds)=true
 | []=>rfl
 | d :: ds=>by rw [toPs,PyData.eqvAll,sQ d,toPs_reflJ ds]; rfl
end
theorem sR (d:D):deq d d=true:=sQ d
theorem kZ {m:Nat}:∀ (l:List D),(∀ d ∈ l,dok m d=true)→doks m l=true
 | [],_=>by simp [doks]
 | d :: l,h=>by rw [doks,h d zMs,kZ l fun x hx=>h x (zMt hx)]; rfl
theorem xj {m:Nat} {l:List D} (h:∀ d ∈ l,dok m d=true):dok (m + 1) (.lst l)=true:=kZ l h
theorem Ea (p:List Nat) (m:Nat):dok (m + 2) (ptJ p)=true:=kZ _ fun d hd=>by
 obtain ⟨i,_,rfl⟩:=List.mem_map.mp hd
 rfl
theorem ri (l:List (List Nat)):dok 60 (.lst (dZ l))=true:=xj (m:=59) fun d hd=>by
 obtain ⟨p,_,rfl⟩:=List.mem_map.mp hd
 exact Ea p 57
theorem CK {q:Addr} {ds:List D} {S:Sto} (h:S q=some (.lst ds)):dr S (.ref q) = .lst ds:=by
 show (match S q with
  | some (.lst ds)=>D.lst ds
  | _=>.ref q)=_
 rw [h]
theorem uX {x y:D} {l:List (List Nat)} {S:Sto} {Q:HK} (hx:dr S x = .lst (dZ l)) (hy:dr S y = .lst (dZ l)) (h:Q (.bl false) S):gNe x y S Q :=
 zD (neg:=true) (r:=true) (by rw [hx]; exact ri l) (by rw [hy]; exact ri l) (by rw [hx,hy]; exact sR _) h
theorem rj:∀ p:List Nat,iM (p.map fun (n:Nat)=>D.int (n:Int))=some (rU p)
 | []=>rfl
 | a :: p=>by
   show (iM (p.map fun (n:Nat)=>D.int (n:Int))).map (fun l=>(a:Int) :: l)=_
   rw [rj p]
   rfl
theorem sS:∀ l:List (List Nat),qg (dZ l)=some (l.map rU)
 | []=>rfl
 | p :: l=>by
   show (match vm (ptJ p) with
    | some x=>(qg (dZ l)).map (x :: ·)
    | none=>none)=_
   rw [show vm (ptJ p)=some (rU p) from rj p,sS l]
   rfl
theorem Eb (l:List (List Nat)):(l.map rU).map tpI=dZ l:=by
 rw [List.map_map]
 refine List.map_congr_left fun p _=>?_
 show D.tup ((p.map fun (n:Nat)=>(n:Int)).map D.int)=_
 rw [List.map_map]
 rfl
theorem yK {b:Bdy} {S:Sto} {Q:HK} (few:(spotB b 0).length < 64) (h:Q (.lst (dZ (spotB b 0))) S):ke (.lst (dZ (spotB b 0))) S Q:=by
 show (match qg (dZ (spotB b 0)) with
  | some bs=>bs.length < 64∧(∀ b ∈ bs,b ≠ [])∧∀ cs:List (List Int),cs.Nodup→(∀ c,c ∈ cs↔c ∈ bs)→cs.Pairwise (fun x y=>SetX.leQ x y=true)→Q (.lst (cs.map tpI)) S
  | none=>False)
 rw [sS]
 refine ⟨by rw [List.length_map]; exact few,fun c hc=>?_,fun cs nd hm pw=>?_⟩
 ·obtain ⟨p,hp,rfl⟩:=List.mem_map.mp hc
  obtain ⟨j,r,rfl,_⟩:=jU hp
  exact List.cons_ne_nil _ _
 ·rw [CH nd hm pw,Eb]
  exact h
theorem Ec {q:Addr} {ds:List D} {S:Sto} {Q:HK} (h:S q=some (.lst ds)) (g:Q (.bl true) S):gR yX (.ref q) S Q:=by
 unfold gR tag
 dsimp only
 rw [h]
 exact g
theorem Gd {p:List Nat} {l:List (List Nat)} {S:Sto} {Q:HK} (hp:p ∈ l) (h:Q (.bl false) S):f8 (aU p) (.lst (dZ l)) S Q:=by
 have e0:cV (aU p)=false:=rfl
 have e1:dok 60 (aU p)=true:=kZ _ fun d hd=>by
  obtain ⟨i,_,rfl⟩:=List.mem_map.mp hd
  rfl
 have e3:((dZ l).any fun z=>deq z (aU p))=true:=List.any_eq_true.mpr ⟨ptJ p,List.mem_map.mpr ⟨p,hp,rfl⟩,toPs_reflJ _⟩
 show iG true (aU p) (.lst (dZ l)) S Q
 unfold iG
 dsimp only [items,bF]
 rw [e0,Bool.false_and]
 dsimp only
 rw [e1,ri,Bool.and_true]
 dsimp only
 rw [e3]
 exact h
theorem rk {L:List SpL} {l:List (List Nat)} (hl:∀ s ∈ L,s.path ∈ l) {rq:Addr} {ks:List D} {S:Sto} {R:HK} {x0 x1 x2 x3 x5 x6 x7 x9:Option D} (hq:S rq=some (.lst ks)) (h:R (.lst []) S):∀ us:List Nat,(∀ u ∈ us,u < L.length) →
 cW (.nm 8) (hB (hop f8 (hop gIx (mH (hV 8)) (hC (.int 0))) (hV 4))) (hV 8) (some (rq,ks)) (iB L us) [] [x0,x1,x2,x3,some (.lst (dZ l)),x5,x6,x7,none,x9] S R
 | [],_=>⟨hq,h⟩
 | u :: us,hu=>by
   have hul:=hu u zMs
   have hs:L[u]? = some L[u]:=List.getElem?_eq_getElem hul
   refine ⟨hq,?_⟩
   simp only [bu,hB,hop,mH,hC,hV,zS0,zS1,zG0,zG1]
   rw [show wkt (gkD (kap L (.sp u))) = .tup [aU L[u].path,bp L[u].mood] from by rw [show gkD (kap L (.sp u))=_ from ij hs]; rfl]
   refine (show gIx (.tup [aU L[u].path,bp L[u].mood]) (.int 0) S _ from aF (xs:=[aU L[u].path,bp L[u].mood]) rfl rfl ?_)
   refine Gd (hl _ (List.getElem_mem hul)) ?_
   exact rk hl hq h us fun x hx=>hu x (zMt hx)
theorem xk {x:D} {S:Sto} {Q:HK} (hd:dok 60 (dr S x)=true) (h:Q (.bl true) S):gEq x x S Q:=zD (neg:=false) (r:=true) hd hd (sR _) h
theorem sT {d:D} {xs:List Str} {S:Sto} {Q:HK} (hd:bF S d=some (xs.map D.str)) (hn:xs.length≤1000) (h:Q (.lst ((xs.mergeSort leT).map D.str)) S):ie [d] S Q:=by
 unfold ie
 dsimp only
 rw [hd]
 dsimp only
 rw [qk]
 exact ⟨by omega,h⟩
theorem yL {x:D} {xs:List D} {S:Sto} {Q:HK} (h:items S x=some xs) (g:Q (.lst xs) S):fu [x] S Q:=by
 unfold fu
 dsimp only
 rw [h]
 exact g
theorem xl (h1:aO 4=some 2:=by rfl) (h3:bV 3=some 1:=by rfl) {w:World} {ds:List D} {S:Sto} {Q E:HK} (h:r8 ds S Q E):qq pJ pL (js 4) (ik 4) (jS w) jR (jq w) (EN Q E) (ao 10 ds) S:=by
 obtain ⟨ns,hns,rfl,_,g⟩:=h
 show qq pJ pL (js 4) (ik 4) (jS w) jR (jq w) (EN Q E) [some (.rls (ns.map D.int)),none,none,none,none,none,none,none,none,none] S
 unfold qq
 obtain ⟨x0,ex0⟩:∃ x0,x0=some (D.rls (ns.map D.int)):=⟨_,rfl⟩
 refine fz (fun x S'=>∃ p,x = .ref p∧PenH S' p 0) (fun R E hR=>?_) fun x S1 ⟨p,ex,pen1⟩=>?_
 ·simp only [an,aa,ae,hV,zG0]
  exact ⟨ns,hns,rfl,fun p S' _ pn _=>hR _ _ ⟨p,rfl,pn⟩⟩
 subst ex
 rw [← ex0]
 dsimp only [zS1,zS0]
 refine fz (fun x S'=>∃ a b,x=cdS PH (bsH a b) nF∧(∀ s ∈ a,GoodS PH 3 false s)∧(∀ s ∈ b,GoodS PH 3 false s)∧cntB a≤12∧cntB b≤4) (fun R E hR=>?_) fun x S2 ⟨a,b,ex,ha,hb,ca,cb⟩=>?_
 ·simp only [an,aa,ae,hV,hC,zG0,zG1]
  exact ⟨p,0,12,rfl,by omega,pen1,by omega,fun a b S' h1 h2 h3 h4 pn _=>hR _ _ ⟨a,b,rfl,h1,h2,h3,h4⟩⟩
 subst ex
 dsimp only [zS1,zS0]
 have ok:FnsOk PH (bsH a b):=⟨fun f hf=>by
  unfold bsH
  split
  ·exact ha
  ·exact hb,fun f hf=>by
  unfold bsH
  split
  ·omega
  ·omega⟩
 generalize bsH a b=bs at ok
 clear ha hb ca cb
 refine CJ (fun env S'=>∃ (x3 x4 x5 x6 x7 x9:Option D),env=[x0,some (.ref p),some (cdS PH bs nF),x3,x4,x5,x6,x7,none,x9]) (fun D1 hrt hD=>?_) fun env S3 ⟨x3,x4,x5,x6,x7,x9,ee⟩=>?_
 ·simp only [cC]
  rw [b8]
  simp only [hun,hV,zG0,zG1]
  have ff:∀ {R:HK} {S':Sto},R (.tup ((fE PH bs).map Fn.d)) S'→ba aO (cdS PH bs nF) S' R:=fun {R S'} r=>by
   rw [← kU PH bs nF]
   show ba aO (.obj 4 (kD PH (fE PH bs) nF)) S' R
   unfold ba
   dsimp only
   rw [h1]
   exact r
  have efn:(fE PH bs).map Fn.d=PH.fs.map fun x=>fnD x (bs x) (cntB (bs x)):=by
   unfold fE
   rw [List.map_map]
   rfl
  refine ff ?_
  refine dv (xs:=(fE PH bs).map Fn.d) rfl ?_
  refine c7 (I:=fun i e S'=>∃ (x3 x4 x5 x6 x7 x9:Option D),e=[x0,some (.ref p),some (cdS PH bs nF),x3,x4,x5,x6,x7,none,x9]) _ (fun i d e S3 hdi ⟨x3,x4,x5,x6,x7,x9,ee⟩=>?_) (fun e S3 ⟨x3,x4,x5,x6,x7,x9,ee⟩=>hD _ _ ⟨x3,x4,x5,x6,x7,x9,ee⟩) ⟨_,_,_,_,_,_,rfl⟩
  subst ee
  rw [efn,List.getElem?_map] at hdi
  obtain ⟨f,hf,rfl⟩:=Option.map_eq_some_iff.mp hdi
  have hfm:=List.mem_of_getElem? hf
  have good:=ok.good f hfm
  have cnt:=ok.cnt f hfm
  have lv:Lv 4 (bs f):=kS 3 false (bs f) good (by omega)
  have sl:=AX (fa:=[]) 3 (bs f) 0 fun x hx=>(good x hx).sh
  have gb:∀ {R:HK} {S:Sto},R (aw (bs f)) S→ba bV (.obj 3 [.str f,aw (bs f),.int (cntB (bs f):Nat)]) S R:=fun {R S} r=>by
   unfold ba
   dsimp only
   rw [h3]
   exact r
  refine ⟨_,rfl,fun K hK=>?_⟩
  simp only [zS1,zS0]
  refine fz (fun x S'=>x = .lst (dZ (spotB (bs f) 0))) (fun R E hR=>?_) fun x S4 ex=>?_
  ·simp only [an,aE,hun,aa,ae,hV,zG0,zG1]
   refine (show ba bV (.obj 3 [.str f,aw (bs f),.int (cntB (bs f):Nat)]) S3 _ from gb ?_)
   exact ⟨bs f,[],rfl,lv,by omega,by show 0 + _≤_; omega,by omega,fun S' _=>hR _ _ rfl⟩
  subst ex
  dsimp only [zS1,zS0]
  refine fz (fun x S'=>∃ q,x = .ref q∧S' q=some (.lst (dZ (spotB (bs f) 0)))) (fun R E hR=>?_) fun x S5 ⟨q,ex,hq⟩=>?_
  ·simp only [an,hun,aa,ae,hV,zG0,zG1]
   refine (show ba bV (.obj 3 [.str f,aw (bs f),.int (cntB (bs f):Nat)]) S4 _ from gb ?_)
   exact ⟨bs f,_,rfl,.inl rfl,lv,by omega,by omega,fun q S' _ _ hq=>hR _ _ ⟨q,rfl,hq⟩⟩
  subst ex
  dsimp only [zS1,zS0]
  refine bZ false (fun R E r=>?_) (fun hb=>by cases hb) (fun _=>?_)
  ·simp only [hOr,fK,hTr,hB,hop,hun,hV,zG0,zG1]
   refine uX (CK hq) rfl ?_
   dsimp only
   refine (show ke (.lst (dZ (spotB (bs f) 0))) S5 _ from yK (by omega) ?_)
   refine (show gNe (.lst (dZ (spotB (bs f) 0))) (.lst (dZ (spotB (bs f) 0))) S5 _ from uX rfl rfl ?_)
   dsimp only
   refine (show gR yX (.ref q) S5 _ from Ec hq ?_)
   exact r
  refine dC ?_
  simp only [aL,hMt,hC,aa,ae,hV,zG0,zG1]
  rw [cB hq]
  dsimp only
  refine fH hq (by rw [List.length_map]; omega) ?_
  generalize Hy.up S5 q _=S6
  refine CJ (fun env S'=>env=[x0,some (.ref p),some (cdS PH bs nF),some (fnD f (bs f) (cntB (bs f))),some (.lst (dZ (spotB (bs f) 0))),some (.ref q),x6,x7,none,x9]) (fun D2 hrt2 hD2=>?_) fun env S7 ee=>?_
  ·refine ifN (fun b S'=>b=false) (fun R E hR=>?_) (fun S' hb=>by cases hb) (fun S' _=>hD2 _ _ rfl)
   simp only [hB,hop,hcb,hun,an,aa,ae,hV,zG0,zG1]
   refine (show ba bV (.obj 3 [.str f,aw (bs f),.int (cntB (bs f):Nat)]) S6 _ from gb ?_)
   refine (show fu [aw (bs f)] S6 _ from yL (xs:=stmsD (bs f)) rfl ?_)
   refine (show ik 4 [.lst (stmsD (bs f))] S6 _ _ from ?_)
   refine ⟨bs f,_,rfl,.inr rfl,lv,by omega,by omega,fun q2 S' _ _ hq2=>?_⟩
   exact (show gNe (.ref q2) (.lst (dZ (spotB (bs f) 0))) S' _ from uX (CK hq2) rfl (hR _ _ rfl))
  subst ee
  refine CJ (fun env S'=>∃ g rq ks,env=[x0,some (.ref p),some (cdS PH bs nF),some (fnD f (bs f) (cntB (bs f))),some (.lst (dZ (spotB (bs f) 0))),some (.ref q),some (.ref g),some (.ref rq),none,x9]∧S' rq=some (.lst (iB (bO [] (bs f)) ks))∧∀ u ∈ ks,u < (bO [] (bs f)).length) (fun D2 hrt2 hD2=>?_) fun env S8 ⟨gq,rq,ks,ee,hrq,lt⟩=>?_
  ·simp only [f9,an,cM,hun,aa,ae,hV,zG0,zG1]
   refine (show ba bV (.obj 3 [.str f,aw (bs f),.int (cntB (bs f):Nat)]) S7 _ from gb ?_)
   intro fq hfq
   refine (show jS w [aw (bs f),.ref fq] (Hy.up S7 fq (.lst [])) _ _ from ⟨fq,[],PH,bs f,rfl,ai,good,cnt,fun gq rq ks S4 lg hrq pk _ kA _ _ _=>?_⟩)
   simp only [bu,bindDs,zS1,zS0]
   exact hD2 _ _ ⟨gq,rq,ks,rfl,hrq,pk.lt⟩
  subst ee
  refine ifN (fun b S'=>b=false) (fun R E hR=>?_) (fun S' hb=>by cases hb) (fun S' _=>hK _ _ ⟨_,_,_,_,_,_,rfl⟩)
  simp only [hB,hop,hLc,bD,aa,ae]
  rw [b8]
  simp only [hV,cN,zG0,zG1,zS0,zS1]
  refine dv (xs:=iB (bO [] (bs f)) ks) (fY hrq) ?_
  refine (show cW _ _ _ (some (rq,iB (bO [] (bs f)) ks)) (iB (bO [] (bs f)) ks) [] _ S8 _ from rk (fun s hs=>AY hs) hrq ?_ ks lt)
  exact (show gNe (.lst (dZ [])) (.lst (dZ [])) S8 _ from uX rfl rfl (hR _ _ rfl))
 subst ee
 refine fz (fun x S'=>∃ fa,x = .lst (fa.map D.str)∧Stab PH.fs bs fa) (fun R E hR=>?_) fun x S4 ⟨fa,ex,sb⟩=>?_
 ·simp only [an,aa,ae,hV,zG0,zG1]
  exact ⟨PH,bs,nF,rfl,ok,by decide +kernel,by decide,fun fa sb=>hR _ _ ⟨fa,rfl,sb⟩⟩
 subst ex
 dsimp only [zS1,zS0]
 have fs:FaSub PH.fs fa:=by
  obtain ⟨⟨k,e⟩,_⟩:=sb
  rw [e]
  exact FaSub.iter k
 have fl:=nodup_len fa PH.fs fs.nd fs.sub
 have f10:PH.fs.length≤10:=by decide
 simp only [aA,gc,hop,hcb,hun,an,aa,ae,hV,zG0,zG1]
 refine (show ie [.lst (fa.map D.str)] S4 _ from sT rfl (by omega) ?_)
 refine (show jq w [cdS PH bs nF] S4 _ _ from ⟨PH,bs,nF,rfl,ok,f10,fun fq fb S5 sb2 hfq _ _=>?_⟩)
 have e:=sb2.same sb
 subst e
 have it:bF S5 (.ref fq)=some (fb.map D.str):=by
  show (match S5 fq with
   | some (.lst ds)=>some ds
   | _=>none)=_
  rw [hfq]
 refine (show ie [.ref fq] S5 _ from sT it (by omega) ?_)
 refine (show gEq (.lst ((fb.mergeSort leT).map D.str)) (.lst ((fb.mergeSort leT).map D.str)) S5 _ from xk ?_ ?_)
 ·refine xj (m:=59) fun d hd=>?_
  obtain ⟨x,hx,rfl⟩:=List.mem_map.mp hd
  have hx2:=fs.sub x ((List.mergeSort_perm fb leT).mem_iff.mp hx)
  exact (by decide +kernel:∀ c ∈ PH.fs,PyData.strOk c=true) x hx2
 dsimp only [iH]
 refine (show pF (.lst (fb.map D.str)) S5 _ from ?_)
 show (match vE (fb.map D.str) with
  | some xs=>xs.Nodup∧xs.length < 1000∧_
  | none=>False)
 rw [qk]
 refine ⟨fs.nd,by omega,?_⟩
 refine bz (xs:=fb.map D.str) rfl ?_
 rw [List.length_map]
 refine (show gEq (.int (fb.length:Nat)) (.int (fb.length:Nat)) S5 _ from xk rfl ?_)
 exact Rt.mk (g _)
section
variable {B:Bs} {h:Heap} (X:B.K.In h) (G:h.Ns mainGlobals B.mg) (s:book.seen B.K=book.due)
include X G s
theorem sU:HFn B 2 "word_of" 1 [] mY:=by
 obtain ⟨fd,F⟩:=xZ s
 exact ⟨yb X G s,F.kp,xR (k:=0) (aT X G s) F  fun ds S Q E _ h=>uz h⟩
theorem jV:HFn B 3 "parts_of_codes" 1 [] dY:=by
 obtain ⟨fd,F⟩:=mQ s
 exact ⟨mS X G s,F.kp,mL (k:=1) (aT X G s) F (h_word_of:=(sU X G s).mono (by omega)) fun ds S Q E _ h=>rO h⟩
theorem CL:∀ n:Nat,HFn B (n + 4) "tidy" 1 [] (qz n)
 | 0=>by
   obtain ⟨fd,F⟩:=zy s
   exact ⟨zz X G s,F.kp,Dz F fun ds S Q E h=>by obtain ⟨_,_,_,h,_⟩:=h; exact h⟩
 | n + 1=>by
   obtain ⟨fd,F⟩:=zy s
   exact ⟨zz X G s,F.kp,Dy (k:=n + 3) (aT X G s) F (h_parts_of_codes:=(jV X G s).mono (by omega)) (h_tidy:=CL n) fun ds S Q E _ h=>yj h⟩
theorem zX:∀ n:Nat,HFn B (n + 4) "count" 1 [] (mZ n)
 | 0=>by
   obtain ⟨fd,F⟩:=v6 s
   exact ⟨we X G s,F.kp,B8 F fun ds S Q E h=>by obtain ⟨_,_,h,_⟩:=h; exact h⟩
 | n + 1=>by
   obtain ⟨fd,F⟩:=v6 s
   exact ⟨we X G s,F.kp,B7 (k:=n + 3) (aT X G s) F (h_parts_of_codes:=(jV X G s).mono (by omega)) (h_count:=zX n) fun ds S Q E _ h=>wz h⟩
theorem AZ:HFn B 2 "is_name" 1 [] qx:=by
 obtain ⟨fd,F⟩:=ya s
 exact ⟨yc X G s,F.kp,xU (k:=0) (aT X G s) F  fun ds S Q E _ h=>uw h⟩
theorem CM:HMake B 29 3 3 [] (kz 5):=by
 obtain ⟨fd,F⟩:=nN s
 exact ⟨(aT X G s).n_Function,_,nP s,nK (k:=27) (aT X G s) F (h_tidy:=(CL X G s 5).mono (by omega)) (h_count:=(zX X G s 5).mono (by omega)) fun ds S Q E _ h=>uA h⟩
theorem CN:HMake B 2 5 3 [] m5:=by
 obtain ⟨fd,F⟩:=pe s
 exact ⟨(aT X G s).n_Checker,_,pj s,o3 (k:=0) (aT X G s) F fun ds S Q E _ h=>uC h⟩
theorem A0:HMeth B 2 5 "choices" 2 [] nW:=by
 obtain ⟨fd,F⟩:=lP s
 exact ⟨(aT X G s).k_Checker,⟨_,lQ s,lN (k:=0) (aT X G s) F fun ds S Q E _ h=>rQ h⟩,by decide +kernel⟩
theorem Ge:HMeth B 4 5 "fits" 4 [] kB:=by
 obtain ⟨fd,F⟩:=pf s
 exact ⟨(aT X G s).k_Checker,⟨_,ph s,pb (k:=2) (aT X G s) F (h_word_of:=(sU X G s).mono (by omega)) (h_parts_of_codes:=(jV X G s).mono (by omega)) (h_Checker_choices:=(A0 X G s).mono (by omega)) fun ds S Q E _ h=>yk h⟩,by decide +kernel⟩
theorem CO:∀ n:Nat,HMeth B (n + 5) 5 "part" 5 [] (ji n)
 | 0=>by
   obtain ⟨fd,F⟩:=jZ s
   exact ⟨(aT X G s).k_Checker,⟨_,j5 s,o7 F fun ds S Q E h=>by obtain ⟨_,_,_,_,_,_,_,_,_,_,_,_,_,h,_⟩:=h; exact h⟩,by decide +kernel⟩
 | n + 1=>by
   obtain ⟨fd,F⟩:=jZ s
   exact ⟨(aT X G s).k_Checker,⟨_,j5 s,o6 (k:=n + 4) (aT X G s) F (hx_TooGreat:=(oH X G s).mono (by omega)) (h_Checker_fits:=(Ge X G s).mono (by omega)) (hx_BadCode:=(qu X G s).mono (by omega)) (h_parts_of_codes:=(jV X G s).mono (by omega)) (h_Checker_part:=CO n) fun ds S Q E _ h=>AE h⟩,by decide +kernel⟩
theorem yM:HMake B 30 4 5 [] (lW 5):=by
 obtain ⟨fd,F⟩:=ui s
 exact ⟨(aT X G s).n_Code,_,uq s,tR (k:=28) (aT X G s) F (hx_TooGreat:=(oH X G s).mono (by omega)) (hx_BadCode:=(qu X G s).mono (by omega)) (h_is_name:=(AZ X G s).mono (by omega)) (h_Checker_part:=(CO X G s 5).mono (by omega)) (h_Checker_init:=(CN X G s).mono (by omega)) fun ds S Q E _ h=>qD h⟩
theorem Ed:HFn B 2 "_law_start" 1 [] pJ:=by
 obtain ⟨fd,F⟩:=uj s
 exact ⟨ut X G s,F.kp,tU (k:=0) (aT X G s) F  fun ds S Q E _ h=>wD h⟩
theorem mo:HFn B 2 "_law_draw" 2 [] fJ:=by
 obtain ⟨fd,F⟩:=v7 s
 exact ⟨wg X G s,F.kp,vS (k:=0) (aT X G s) F  fun ds S Q E _ h=>wF h⟩
theorem Ee:HFn B 3 "_law_deed" 1 [] pK:=by
 obtain ⟨fd,F⟩:=v8 s
 exact ⟨wj X G s,F.kp,vV (k:=1) (aT X G s) F (h_law_draw:=(mo X G s).mono (by omega)) fun ds S Q E _ h=>wG h⟩
theorem rm:HFn B 4 "_law_simple" 2 [] jk:=by
 obtain ⟨fd,F⟩:=rK s
 exact ⟨rM X G s,F.kp,rF (k:=2) (aT X G s) F (h_law_draw:=(mo X G s).mono (by omega)) (h_law_deed:=(Ee X G s).mono (by omega)) fun ds S Q E _ h=>rR h⟩
theorem xm:HFn B 2 "_law_block" 4 [] (fun _ _ _ _=>False):=by
 obtain ⟨fd,F⟩:=jD s
 exact ⟨jE X G s,F.kp,tX F fun _ _ _ _ h=>h⟩
theorem zY:∀ lv:Nat,HFn B (2 * lv + 9) "_law_part" 4 [] (jM lv)
 | 0=>by
   obtain ⟨fd,F⟩:=km s
   exact ⟨kr X G s,F.kp,oE (k:=7) (aT X G s) F (h_law_draw:=(mo X G s).mono (by omega)) (h_law_simple:=(rm X G s).mono (by omega)) (h_law_block:=(xm X G s).mono (by omega)) fun ds S Q E _ h=>kG (fun l e=>by cases e) h⟩
 | lv + 1=>by
   have hb:HFn B (2 * lv + 10) "_law_block" 4 [] (kF lv):=by
    obtain ⟨fd,F⟩:=jD s
    exact ⟨jE X G s,F.kp,mN (k:=2 * lv + 8) (aT X G s) F (h_law_draw:=(mo X G s).mono (by omega)) (h_law_part:=zY lv) fun ds S Q E _ h=>m8 h⟩
   obtain ⟨fd,F⟩:=km s
   exact ⟨kr X G s,F.kp,oE (k:=2 * lv + 9) (aT X G s) F (h_law_draw:=(mo X G s).mono (by omega)) (h_law_simple:=(rm X G s).mono (by omega)) (h_law_block:=hb) fun ds S Q E _ h=>kG (fun l e ds S Q E h=>by cases e; exact h) h⟩
theorem CP (lv:Nat):HFn B (2 * lv + 10) "_law_block" 4 [] (kF lv):=by
 obtain ⟨fd,F⟩:=jD s
 exact ⟨jE X G s,F.kp,mN (k:=2 * lv + 8) (aT X G s) F (h_law_draw:=(mo X G s).mono (by omega)) (h_law_part:=zY X G s lv) fun ds S Q E _ h=>m8 h⟩
end
abbrev U {α:Type} (sp:α→HSp):HSp:=fun ds S Q E=>∃ a,sp a ds S Q E
theorem G4 {α:Type} {B:Bs} {x qual:Str} {params:Arguments} {body:List Stmt} {scope:Scope} {dv0 dvs:List V} {f:Addr} {fd:FuncData} {N ps:List Str} {k:Nat} {sp:α→HSp} {t:α→HTS} {dds:List D}
 (F:FunD B.K x qual params body scope dv0 [] f fd) (hb:∃ ds,Vals dvs ds∧Binds B.K fd ps ds) (hd:∀ F,Reps B.K F dds dvs) (S:FnScope N ps scope) (hbody:∀ a,HSs { B with k:=k,N:=N,sc:=scope,top:=true,own:=fun _=>true } body (t a))
 (hr:∀ a ds S Q E,ds.length=ps.length→sp a ds S Q E→t a { nx:=fun _ S'=>Rt Q .non S',rt:=Rt Q,ex:=fun x _ S'=>Rx E x S' } (ao N.length ds) S):FnAt B (k + 1) f ps.length dds (U sp):=by
 obtain ⟨ds,hv,hb⟩:=hb
 refine ⟨fd,ps,ds,dvs,rfl,hb,hv,hd,F.ok S (fun vs H Q E h=>h.1) fun cdv A outer s H vs Q E hroom h=>?_⟩
 obtain ⟨hn,G,F0,S0,es,Q0,E0,rs,wd,⟨a,hsp⟩,hq,he⟩:=h
 refine ⟨_,(hbody a).run _ (fun cls d _ H=>E cls d H) ⟨rfl,rfl,rfl,rfl,rfl,rfl,rfl,S.nd,rfl,hroom,fun _ _ _=>rfl,passes_of rfl,fun _=>⟨rfl,rfl,rfl⟩⟩ (takes_of rfl rfl rfl rfl),?_⟩
 refine ⟨G,F0,S0,ao N.length es,_,ni rs,wd,hr a es S0 Q0 E0 (by rw [← rs.len]; exact hn) hsp,⟨fun env σ F' S' H' l w rn ⟨d',S2,vw,q⟩=>?_,Rt.ok hq,fun _ _ _ _ _ _ _ _ h=>h.elim,fun _ _ _ _ _ _ _ _ h=>h.elim,fun x cls dd env σ F' S' H' l w rn r h=>Rx.ok he x cls dd F' S' H' l w r h⟩⟩
 obtain ⟨F2,l2,w2,r2⟩:=vw B.K G F' H' .non w rfl
 exact hq d' .non F2 S2 H' (l.trans l2) w2 r2 q
section
variable {B:Bs} {k n c:Nat} {x m:Str} {dds:List D} {sp sp':HSp} {α:Type} {spa:α→HSp}
theorem HFn.imp (h:HFn B k x n dds sp) (i:∀ ds S Q E,sp' ds S Q E→sp ds S Q E):HFn B k x n dds sp':=⟨h.mg,h.kp,h.at_.imp i⟩
theorem HMeth.imp (h:HMeth B k c m n dds sp) (i:∀ ds S Q E,sp' ds S Q E→sp ds S Q E):HMeth B k c m n dds sp':=⟨h.cl,let ⟨f,a,b⟩:=h.me; ⟨f,a,b.imp i⟩,h.no⟩
theorem HMake.imp (h:HMake B k c n dds sp) (i:∀ ds S Q E,sp' ds S Q E→sp ds S Q E):HMake B k c n dds sp':=⟨h.mg,let ⟨f,a,b⟩:=h.mkr; ⟨f,a,b.imp i⟩⟩
theorem HFn.u (h:HFn B k x n dds (U spa)) (a:α):HFn B k x n dds (spa a):=h.imp fun _ _ _ _ q=>⟨a,q⟩
theorem HMeth.u (h:HMeth B k c m n dds (U spa)) (a:α):HMeth B k c m n dds (spa a):=h.imp fun _ _ _ _ q=>⟨a,q⟩
theorem HMake.u (h:HMake B k c n dds (U spa)) (a:α):HMake B k c n dds (spa a):=h.imp fun _ _ _ _ q=>⟨a,q⟩
end
theorem xn {α:Type} {B:Bs} {k:Nat} {f:Addr} {fd:FuncData} {au:α→HSp} {cA:α→HSp} {cx:α→HSp} {sp:α→HSp} (c:Fc B.K B.mg) (F:FunD B.K "_law_part" "_law_part" (defArgs cm) (defBody cm) (defScope cm) [] [] f fd) (h_law_draw:∀ a,HFn B (k + 1) "_law_draw" 2 [] (au a)) (h_law_block:∀ a,HFn B (k + 1) "_law_block" 4 [] (cA a)) (h_law_simple:∀ a,HFn B (k + 1) "_law_simple" 2 [] (cx a))
 (hr:∀ a ds S Q E,ds.length=4→sp a ds S Q E→fV (au a) (cA a) (cx a) { nx:=fun _ S'=>Rt Q .non S',rt:=Rt Q,ex:=fun x _ S'=>Rx E x S' } (ao N_law_part.length ds) S):FnAt B (k + 2) f 4 [] (U sp) :=
 G4 F (bc (F.bindsN fun _ _ _ _ _ _ us hl=>match us,hl with | [_,_,_,_],_=>rfl)) cP oC (fun a=>oD c (h_law_draw a) (h_law_block a) (h_law_simple a)) hr
section
variable {B:Bs} {h:Heap} (X:B.K.In h) (G:h.Ns mainGlobals B.mg) (s:book.seen B.K=book.due)
include X G s
theorem Ef:HFn B 22 "_law_part" 4 [] (uH 3):=by
 obtain ⟨fd,F⟩:=km s
 have h:HFn B 22 "_law_part" 4 [] (U fun a:{l:Nat // l≤3}=>jM a.1):=⟨kr X G s,F.kp,xn (k:=20) (aT X G s) F (cA:=fun a=>match a.1 with | 0=>fun _ _ _ _=>False | l + 1=>kF l) (h_law_draw:=fun _=>(mo X G s).mono (by omega)) (h_law_block:=fun a=>by
  obtain ⟨l,hl⟩:=a
  cases l with
  | zero=>exact (xm X G s).mono (by omega)
  | succ l=>exact (CP X G s l).mono (by omega)) (h_law_simple:=fun _=>(rm X G s).mono (by omega)) fun a ds S Q E _ h=>kG (fun l e ds S Q E hq=>by
    obtain ⟨m,hm⟩:=a
    have e:m=l + 1:=e
    subst e
    exact hq) h⟩
 exact h.imp fun ds S Q E ⟨l,hl,q⟩=>⟨⟨l,hl⟩,q⟩
theorem Eg:HFn B 32 "_law_code" 2 [] pL:=by
 obtain ⟨fd,F⟩:=v9 s
 exact ⟨wm X G s,F.kp,vY (k:=30) (aT X G s) F (h_law_part:=(Ef X G s).mono (by omega)) (h_Code_init:=(yM X G s).mono (by omega)) (h_Function_init:=(CM X G s).mono (by omega)) fun ds S Q E _ h=>wK (fun _ _ _ _ h=>h) h⟩
theorem xo:HFn B 2 "parts_of_layouts" 1 [] iT:=by
 obtain ⟨fd,F⟩:=lh s
 exact ⟨li X G s,F.kp,ld (k:=0) (aT X G s) F  fun ds S Q E _ h=>wP h⟩
theorem CQ:HFn B 2 "in_block" 2 [] mh:=by
 obtain ⟨fd,F⟩:=v5 s
 exact ⟨wc X G s,F.kp,vL (k:=0) (aT X G s) F  fun ds S Q E _ h=>yv h⟩
theorem pR:HMake B 2 27 4 [] pN:=by
 obtain ⟨fd,F⟩:=ug s
 exact ⟨(aT X G s).n_Spot,_,um s,tL (k:=0) (aT X G s) F  fun ds S Q E _ h=>wN (h:=h)⟩
theorem xp:HMeth B 1 28 "after" 5 [] (fun _ _ _ _=>False):=by
 obtain ⟨fd,F⟩:=lx s
 exact ⟨(aT X G s).k_Ways,⟨_,ly s,rC F fun _ _ _ _ h=>h⟩,by decide +kernel⟩
theorem G5 {ds:List D} {S:Sto} {Q E:HK} (h:hY 0 ds S Q E):False:=by
 obtain ⟨_,_,_,_,_,_,_,_,_,_,_,_,_,_,_,_,_,_,h,_⟩:=h
 exact absurd h (Nat.not_lt_zero _)
theorem Gf {n:Nat} (hl:HMeth B (6 * n + 10) 28 "lay" 6 [(.bl false)] (hY n)):HMeth B (6 * n + 12) 28 "after_lastly" 5 [] (uL n):=by
 obtain ⟨fd,F⟩:=kl s
 exact ⟨(aT X G s).k_Ways,⟨_,ko s,kj (k:=6 * n + 10) (aT X G s) F (h_in_block:=(CQ X G s).mono (by omega)) (h_Ways_lay_1:=hl.mono (by omega)) fun ds S Q E _ h=>yx (h:=h)⟩,by decide +kernel⟩
theorem G6 {n:Nat} (hl0:HMeth B (6 * n + 10) 28 "lay" 6 [] (hY n)) (hl:HMeth B (6 * n + 10) 28 "lay" 6 [(.bl false)] (hY n)):HMeth B (6 * n + 14) 28 "after" 5 [] (zK n):=by
 obtain ⟨fd,F⟩:=lx s
 exact ⟨(aT X G s).k_Ways,⟨_,ly s,rB (k:=6 * n + 12) (aT X G s) F (h_Ways_lay:=hl0.mono (by omega)) (h_in_block:=(CQ X G s).mono (by omega)) (h_parts_of_layouts:=(xo X G s).mono (by omega)) (h_Ways_lay_1:=hl.mono (by omega)) (h_Ways_after_lastly:=(Gf X G s hl).mono (by omega)) fun ds S Q E _ h=>AO (h:=h)⟩,by decide +kernel⟩
theorem EJ:∀ n:Nat,HMeth B (6 * n + 10) 28 "lay" 6 [] (hY n)∧HMeth B (6 * n + 10) 28 "lay" 6 [(.bl false)] (hY n)
 | 0=>by
   obtain ⟨fd,F⟩:=oF s
   exact ⟨⟨(aT X G s).k_Ways,⟨_,iQ s,oB (k:=8) (aT X G s) F (h_Spot_init:=(pR X G s).mono (by omega)) (h_Ways_after:=(xp X G s).mono (by omega)) fun ds S Q E _ h=>(G5 X G s h).elim⟩,by decide +kernel⟩,
    ⟨(aT X G s).k_Ways,⟨_,iQ s,ls (k:=8) (aT X G s) F (fun F=>⟨_,_,rfl,rfl,rfl⟩) (h_Spot_init:=(pR X G s).mono (by omega)) (h_Ways_after:=(xp X G s).mono (by omega)) fun ds S Q E _ h=>(G5 X G s h).elim⟩,by decide +kernel⟩⟩
 | n + 1=>by
   obtain ⟨h0,h1⟩:=EJ n
   have ha:=G6 X G s h0 h1
   obtain ⟨fd,F⟩:=oF s
   exact ⟨⟨(aT X G s).k_Ways,⟨_,iQ s,oB (k:=6 * n + 14) (aT X G s) F (h_Spot_init:=(pR X G s).mono (by omega)) (h_Ways_after:=ha.mono (by omega)) fun ds S Q E _ h=>sB (h:=h)⟩,by decide +kernel⟩,
    ⟨(aT X G s).k_Ways,⟨_,iQ s,ls (k:=6 * n + 14) (aT X G s) F (fun F=>⟨_,_,rfl,rfl,rfl⟩) (h_Spot_init:=(pR X G s).mono (by omega)) (h_Ways_after:=ha.mono (by omega)) fun ds S Q E _ h=>sB (h:=h)⟩,by decide +kernel⟩⟩
theorem Eh:HMake B 36 28 3 [] pP:=by
 obtain ⟨fd,F⟩:=uh s
 exact ⟨(aT X G s).n_Ways,_,uo s,tO (k:=34) (aT X G s) F (h_Ways_lay_1:=(EJ X G s 4).2.mono (by omega)) fun ds S Q E _ h=>wQ (h:=h)⟩
theorem Ei:HMeth B 2 28 "nexts_of" 2 [] zJ:=by
 obtain ⟨fd,F⟩:=nL s
 exact ⟨(aT X G s).k_Ways,⟨_,nO s,nz (k:=0) (aT X G s) F  fun ds S Q E _ h=>AL h⟩,by decide +kernel⟩
theorem Gg:HMeth B 2 28 "ends_of" 2 [] qJ:=by
 obtain ⟨fd,F⟩:=pc s
 exact ⟨(aT X G s).k_Ways,⟨_,pg s,oY (k:=0) (aT X G s) F  fun ds S Q E _ h=>AJ h⟩,by decide +kernel⟩
theorem CR:HMeth B 4 28 "passed" 1 [] kK:=by
 obtain ⟨fd,F⟩:=qr s
 exact ⟨(aT X G s).k_Ways,⟨_,qv s,qo (k:=2) (aT X G s) F (h_Ways_nexts_of:=(Ei X G s).mono (by omega)) fun ds S Q E _ h=>uN (h:=h)⟩,by decide +kernel⟩
theorem G7:HFn B 6 "ends_by_fault" 1 [] zQ:=by
 obtain ⟨fd,F⟩:=nM s
 exact ⟨nQ X G s,F.kp,nH (k:=4) (aT X G s) F (h_Ways_passed:=(CR X G s).mono (by omega)) (h_Ways_ends_of:=(Gg X G s).mono (by omega)) fun ds S Q E _ h=>AR h⟩
theorem yN:HFn B 38 "faulting" 1 [] jR:=by
 obtain ⟨fd,F⟩:=vZ s
 exact ⟨wb X G s,F.kp,vI (k:=36) (aT X G s) F (h_ends_by_fault:=(G7 X G s).mono (by omega)) (h_Ways_init:=(Eh X G s).mono (by omega)) fun ds S Q E _ h=>qP (h:=h)⟩
theorem G8 {w:World} {ds:List D} {S:Sto} {Q E:HK} (h:iZ w 0 ds S Q E):False:=by
 obtain ⟨_,_,_,_,_,_,_,_,_,_,_,h⟩:=h
 omega
theorem Gh {n:Nat} (hl:HFn B (4 * n + 4) "_law_lay" 5 [] (iZ B.w n)):HFn B (4 * n + 6) "_law_after" 4 [] (uQ B.w n):=by
 obtain ⟨fd,F⟩:=uk s
 exact ⟨uu X G s,F.kp,t7 (k:=4 * n + 4) (aT X G s) F (h_law_lay:=hl.mono (by omega)) fun ds S Q E _ h=>yD h⟩
theorem CS:∀ n:Nat,HFn B (4 * n + 4) "_law_lay" 5 [] (iZ B.w n)
 | 0=>by
   obtain ⟨fd,F⟩:=qt s
   exact ⟨qw X G s,F.kp,xY F fun ds S Q E h=>G8 X G s h⟩
 | n + 1=>by
   obtain ⟨fd,F⟩:=qt s
   exact ⟨qw X G s,F.kp,xX (k:=4 * n + 6) (aT X G s) F (h_law_after:=(Gh X G s (CS n)).mono (by omega)) fun ds S Q E _ h=>yG h⟩
theorem zZ:HFn B 24 "_law_graph" 2 [] (jS B.w):=by
 obtain ⟨fd,F⟩:=ul s
 exact ⟨uv X G s,F.kp,ua (k:=22) (aT X G s) F (h_law_lay:=(CS X G s 4).mono (by omega)) fun ds S Q E _ h=>xh h⟩
theorem A3:HFn B 26 "_law_faulty" 1 [] (jq B.w):=by
 obtain ⟨fd,F⟩:=rL s
 exact ⟨rN X G s,F.kp,rJ (k:=24) (aT X G s) F (h_law_graph:=(zZ X G s).mono (by omega)) fun ds S Q E _ h=>rT (h:=h)⟩
theorem z0:∀ n:Nat,HFn B (2 * n + 4) "spots_of" 1 [] (ik n)
 | 0=>by
   obtain ⟨fd,F⟩:=oG s
   exact ⟨oI X G s,F.kp,vP F fun ds S Q E ⟨_,_,_,_,h,_⟩=>h⟩
 | n + 1=>by
   obtain ⟨fd,F⟩:=oG s
   exact ⟨oI X G s,F.kp,vO (k:=2 * n + 4) (aT X G s) F (h_parts_of_layouts:=(xo X G s).mono (by omega)) (h_spots_of:=(z0 n).mono (by omega)) fun ds S Q E _ h=>xi h⟩
theorem xq:∀ n:Nat,HFn B (2 * n + 4) "_law_spots" 2 [] (js n)
 | 0=>by
   obtain ⟨fd,F⟩:=mR s
   exact ⟨mT X G s,F.kp,uf F fun ds S Q E ⟨_,_,_,h,_⟩=>h⟩
 | n + 1=>by
   obtain ⟨fd,F⟩:=mR s
   exact ⟨mT X G s,F.kp,ue (k:=2 * n + 4) (aT X G s) F (h_law_spots:=(xq n).mono (by omega)) fun ds S Q E _ h=>uW h⟩
end
abbrev lawK:Nat:=50
theorem law_at {B:Bs} {h:Heap} {fd:FuncData} (X:B.K.In h) (G:h.Ns mainGlobals B.mg) (s:book.seen B.K=book.due) (F:FunD B.K "law" "law" (defArgs iw) (defBody iw) (defScope iw) [] [] (He.fAd B.K ("law",none)) fd) :
 FnOk B.P B.w B.K B.mg B.base (CX B.P B.w) lawK (He.fAd B.K ("law",none)) fd ["_law_script"] (lSp B.K 1 r8) :=
 FA (k:=48) (aT X G s) F (h_law_start:=(Ed X G s).mono (by omega)) (h_law_code:=(Eg X G s).mono (by omega)) (h_law_spots:=(xq X G s 4).mono (by omega)) (h_spots_of:=(z0 X G s 4).mono (by omega)) (h_law_graph:=(zZ X G s).mono (by omega)) (h_faulting:=(yN X G s).mono (by omega)) (h_law_faulty:=(A3 X G s).mono (by omega)) fun ds S Q E _ h=>xl (h:=h)
end Hy
open PySem PySem.W PySem.Calls PyProof.Rows
theorem PySem.Challenge.cw_tryback_k61_spots_and_faults_holds : PySem.Challenge.rw_tryback_k61_spots_and_faults.Holds := by
 w_on; o_law
 refine HandSHeadRun.head_any (r:=OpenLaw.row PySem.Challenge.rw_tryback_k61_spots_and_faults) (q:=view (OpenLaw.row PySem.Challenge.rw_tryback_k61_spots_and_faults).prog [46]) (H:=Hy.hk) (ob:=Hy.ob) (M:=20000) (loose:=Hy.nms) (d:=HandSHeadRun.topDef (OpenLaw.row PySem.Challenge.rw_tryback_k61_spots_and_faults).prog 46) (kwd:=[]) Hy.ob_eq
  (by kernel_rfl) (fun s=>by kernel_rfl) Hy.run (by kernel_rfl) (by kernel_rfl) (by kernel_rfl) (by rfl) (by first | assumption | decide +kernel) (by decide +kernel) ⟨rfl,rfl,rfl,rfl,rfl,by decide +kernel⟩ ?hw ?hc
 case hw=>w_witness2
 case hc =>
  refine L2.walk_ofE (l:=PySem.Challenge.rw_tryback_k61_spots_and_faults) (n:=63) (k:=Hy.lawK) (x := "_law_script") (CX:=Hy.CXe) rfl (by decide) (by kernel_rfl) ⟨rfl,by decide,by decide⟩ ?F (fun _ _ _ _ ⟨_,_,_,z⟩=>z)
  intro w mg fa h Y G hmg0
  obtain ⟨K,KX,c⟩:=Y
  have hmg:mg ("law" : Str)=some (.ref fa):=by
   have e:(HandSHeadRun.topDef (OpenLaw.row PySem.Challenge.rw_tryback_k61_spots_and_faults).prog 46).name=("law" : Str):=by kernel_rfl
   rw [← e]
   exact hmg0
  cases hmg.symm.trans (Hy.gl_law KX G c)
  obtain ⟨fd,F⟩:=Hy.fd_law c
  exact ⟨K,fd,Hy.spScr K,KX,L2.FunD.bindsA (ps:=["_law_script"]) F (fun _ _ _ _ _ _ us hl=>match us,hl with | [_],_=>rfl) |> fun b s v=>b s [v] rfl,fun H a ns hl _ hS=>⟨a,ns,rfl,hl,hS,fun p hp=>by simp [Hy.tabs] at hp,fun _=>rfl⟩,fun base B0 _=>Hy.law_ok (Hy.law_at (B:=⟨(PySem.Challenge.rw_tryback_k61_spots_and_faults).prog,w,K,mg,base,0,[],Hy.sc00,true,fun _=>true⟩) KX G c F)⟩