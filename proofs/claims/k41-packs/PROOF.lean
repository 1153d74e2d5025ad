import PyProof.Rows.All
import Wide.All
import OpenK.AllK
import Wide.FinOn
import HandS.ForMost
import HandS.Exc
import HandS.More
import HandS.Deep
import HandS.IsInst
import HandS.Wide
import HandS.TupAny
import HandS.SortInts
import HandS.CallSlots
import HandS.ExcOwn
import HandS.WordsExc
import HandS.HeadWalk
import HandS.Rev
import HandS.Zip
import KE.GoesMore
import PyProof.EnumMake
import PyProof.Draws
import KE.GoesZip
import HandS.Comp
import HandS.NoneIn
import HandS.Dict
import HandS.List
import HandS.Style
import HandS.RevTup
import PyProof.ListNew
import HandS.ExcIs
import HandS.Defaults
import HandS.HeadHook3
import HandS.HeadHook4
import HandS.Ends
import HandS.EndBits
import HandS.Head0
import HandS.Head1
import HandS.Head2
import HandS.HeadEnd
import PySem.Challenge.RW_bitfloor_k41_packs
set_option Elab.async false
set_option linter.all false
set_option autoImplicit false
set_option maxRecDepth 100000
/-! THE BRIDGE, 1: data, code, the evaluator. -/
namespace PB
open PySem (Str sizeLine)
abbrev Key := L2.Key

/-- data: what is frozen (lists, tuples, dicts, records), references to cells of the store, errors -/
inductive D where
  | non | bl (b : Bool) | int (i : Int) | str (s : Str)
  | lst (ds : List D) | tup (ds : List D)
  | dk (kvs : List (Key × D)) | dt (kvs : List (List Key × D))
  | ins (c : Nat) (fs : List (Str × D))
  | sd (kvs : List (Str × D)) | scr (ds : List D) | stp (ds : List D)
  | cell (k : Nat)
  | exc (c : Nat) (fs : List (Str × D))
instance : Inhabited D := ⟨.non⟩

/-- a slot of the frame: nothing known, a value, an object that this slot alone holds -/
inductive Sl where
  | no | im (d : D) | own (d : D)
/-- what an expression gives: a value, a new object that nobody holds, the own object of slot i -/
inductive Vl where
  | im (d : D) | own (d : D) | pk (i : Nat)
structure S where
  ρ : List Sl
  st : List (Option D)
inductive R (α : Type) where
  | ok (a : α) (s : S)
  | er (c : Nat) (fs : List (Str × D)) (s : S)
  | no
def R.bind {α β : Type} (r : R α) (f : α → S → R β) : R β := match r with
  | .ok a s => f a s
  | .er c fs s => .er c fs s
  | .no => .no
theorem R.bind_assoc {α β γ : Type} (r : R α) (f : α → S → R β) (g : β → S → R γ) : (r.bind f).bind g = r.bind fun a s => (f a s).bind g := by cases r <;> rfl
/-- no error may leave -/
def R.noE {α : Type} : R α → R α
  | .er _ _ _ => .no
  | r => r
/-- a call's end -/
inductive RC where
  | ok (v : Vl) (st : List (Option D))
  | er (c : Nat) (fs : List (Str × D)) (st : List (Option D))
  | no
inductive Fl where
  | nx | bk | ct | rt (v : Vl)

/-! ### code -/
inductive BOp where
  | add | sub | mul | fdiv | mod | pow | shl | shr | band | bor | bxor | eq | ne | lt | le | gt | ge | in_ | nin | is_ | isn
  deriving DecidableEq
inductive UOp where
  | neg
  deriving DecidableEq
/-- built-in functions -/
inductive BI where
  | len | list | tuple | int | str | min1 | max1 | min2 | max2 | sum | all | any | divmod | abs | sorted
  deriving DecidableEq
/-- methods of built-in types -/
inductive MT where
  | append | extend | pop0 | popAt | insert | lremove | reverse | clear | index | count | join | split | strip | startswith | get1 | get2
  deriving DecidableEq
/-- what a for walks -/
inductive IK where
  | ex | r1 | r2 | r3 | enum | zip | rev | items | vals
  deriving DecidableEq
inductive Ty where
  | int | bool | str | list | tuple | dict
  deriving DecidableEq
inductive Tg where
  | nm (i : Nat) | tn | tc (h t : Tg)
mutual
inductive E where
  | var (i : Nat) | cst (d : D) | glo (g : Nat)
  | bin (op : BOp) (a b : E) | un (op : UOp) (a : E) | chn (op op' : BOp) (a b c : E)
  | ban (a : A) | bor (a : A) | nt (a : E) | ife (t a b : E)
  | tup (a : A) | lst (a : A) | dK | dT | dic (a : A)
  | sub (a i : E) | sli (a lo hi : E) | nop
  | fld (a : E) (f : Str)
  | bi (f : BI) (a : A) | mt (m : MT) (o : E) (a : A)
  | cal (f : Nat) (a : A) | calP (f : Nat) (a : A) | met (f : Nat) (m : Str) (c : Nat) (o : E) (a : A) | mkC (c f : Nat) (a : A) | mkR (c f : Nat) (a : A)
  | calD (f : Nat) (a : A) | mkP (c f : Nat) (a : A)
  | isi (a : E) (t : List Ty)
  | isx (a : E) (t : List Nat)
  | lc (elt : E) (tg : Tg) (k : IK) (src : A) (ifs : A) (own : List Nat)
  | nwc (a : E) | fzc (a : E) | lrv (a : E)
inductive A where
  | nil | cons (e : E) (r : A)
end
inductive C where
  | skip | seq (a b : C) | ex (e : E)
  | asg (tg : Tg) (e : E) | par (i j : Nat) (a b : E) | par3 (i j l : Nat) (a b c : E) | aug (i : Nat) (e : E)
  | setI (o i e : E) | setF (o : E) (f : Str) (e : E) | augF (o : E) (f : Str) (e : E)
  | ret (e : E) | retN | ite (t : E) (a b : C)
  | for_ (tg : Tg) (k : IK) (src : A) (body : C) | forL (tg : Tg) (src : E) (body : C) | whl (t : E) (body : C) | brk | cnt
  | sda (o k : E) (e : E)
  | rai (c : Nat) (f : Option Str) (e : E)
  | tr (body : C) (c : Nat) (nm : Option Nat) (suite : C)
  | dead
  | wp (l : List Nat) (a : C) (l' : List Nat)

structure Fn where
  n : Nat
  np : Nat
  body : C

/-! ### reading -/
/-- a cell's content in a cell's place -/
def deref (st : List (Option D)) : D → Option D
  | .cell k => match st[k]? with
    | some (some d) => some d
    | _ => none
  | d => some d
def Vl.look (s : S) : Vl → Option D
  | .im d => deref s.st d
  | .own d => some d
  | .pk i => match s.ρ[i]? with
    | some (.own d) => some d
    | _ => none
def lookAll (s : S) : List Vl → Option (List D)
  | [] => some []
  | v :: vs => match v.look s with
    | some d => match lookAll s vs with
      | some ds => some (d :: ds)
      | none => none
    | none => none
/-- nobody else holds it: it is frozen -/
def Vl.hold : Vl → Vl
  | .own d => .im d
  | v => v
def Vl.fz (s : S) : Vl → R D
  | .im d => .ok d s
  | .own d => .ok d s
  | .pk i => match s.ρ[i]? with
    | some (.own d) => .ok d { s with ρ := s.ρ.set i (.im d) }
    | _ => .no
def toR (s : S) : Option Vl → R Vl
  | some v => .ok v s
  | none => .no

/-! ### the operations on data -/
def ixN (n : Nat) (i : Int) : Option Nat := L2.ixN n i
def atD (ds : List D) (i : Int) : Option D := L2.atI ds i
def cutD {α : Type} (xs : List α) (lo hi : Option Int) : List α := (xs.drop (HT.sIx xs.length 0 lo)).take (HT.sIx xs.length xs.length hi - HT.sIx xs.length 0 lo)
mutual
def toPy : D → Option PySem.PyData
  | .non => some .none
  | .bl b => some (.bool b)
  | .int i => some (.int i)
  | .str s => some (.str s)
  | .lst ds => match toPys ds with
    | some ps => some (.list ps)
    | none => none
  | .tup ds => match toPys ds with
    | some ps => some (.tuple ps)
    | none => none
  | .stp ds => match toPys ds with
    | some ps => some (.tuple ps)
    | none => none
  | _ => none
def toPys : List D → Option (List PySem.PyData)
  | [] => some []
  | d :: ds => match toPy d with
    | some p => match toPys ds with
      | some ps => some (p :: ps)
      | none => none
    | none => none
end
def eqD (d e : D) : Option Bool := match toPy d, toPy e with
  | some p, some q => if PySem.SeqAt.shaped p && PySem.SeqAt.shaped q then some (PySem.PyData.eqv p q) else none
  | _, _ => none
def toKey : D → Option Key
  | .int i => some (.inl i)
  | .str s => some (.inr s)
  | _ => none
def toKeys : List D → Option (List Key)
  | [] => some []
  | d :: ds => match toKey d with
    | some k => match toKeys ds with
      | some ks => some (k :: ks)
      | none => none
    | none => none
def look {κ : Type} [DecidableEq κ] (k : κ) : List (κ × D) → Option D
  | [] => none
  | (j, d) :: r => if j = k then some d else look k r
def lookT (k : List Key) (kvs : List (List Key × D)) : Option D := look k kvs
def put {κ : Type} [DecidableEq κ] (k : κ) (d : D) (kvs : List (κ × D)) : List (κ × D) :=
  if (kvs.any fun kv => decide (kv.1 = k)) = true then kvs.map (fun kv => if kv.1 = k then (kv.1, d) else kv) else kvs ++ [(k, d)]
def drop {κ : Type} [DecidableEq κ] (k : κ) (kvs : List (κ × D)) : List (κ × D) := kvs.filter fun kv => decide (kv.1 ≠ k)
def mergeD (kvs : List (Key × D)) : List (Key × D) := kvs.foldl (fun m kv => put kv.1 kv.2 m) []
/-- a display's pairs: keys and values by turns -/
def dicD : List D → Option (List (Key × D))
  | [] => some []
  | k :: v :: r => match toKey k with
    | some k => match dicD r with
      | some kvs => some ((k, v) :: kvs)
      | none => none
    | none => none
  | _ => none
/-- the slots that a target writes -/
def Tg.slots : Tg → List Nat
  | .nm i => [i]
  | .tn => []
  | .tc h t => h.slots ++ t.slots
def fget (f : Str) : List (Str × D) → Option D
  | [] => none
  | (g, d) :: r => if f = g then some d else fget f r
def fput (f : Str) (d : D) : List (Str × D) → List (Str × D)
  | [] => [(f, d)]
  | (g, e) :: r => if g = f then (g, d) :: r else (g, e) :: fput f d r
def bl (b : Bool) : Option Vl := some (.im (.bl b))
def intD (i : Int) : Option Vl := some (.im (.int i))
def ifB (c : Bool) (v : Option Vl) : Option Vl := if c then v else none
/-- flat data -/
def flat : D → Bool
  | .non => true
  | .bl _ => true
  | .int _ => true
  | .str _ => true
  | _ => false
def eqF : D → D → Bool
  | .non, .non => true
  | .bl a, .bl b => a == b
  | .bl a, .int b => (if a then 1 else 0) == b
  | .int a, .bl b => a == (if b then 1 else 0)
  | .int a, .int b => a == b
  | .str a, .str b => a == b
  | _, _ => false
def inF (d : D) (ds : List D) : Bool := ds.any fun e => eqF e d
def inD : D → D → Option Bool
  | d, .lst ds => if flat d && ds.all flat then some (inF d ds) else (match toPy d, toPys ds with
    | some p, some ps => if PySem.SeqAt.shaped p && PySem.SeqAt.shaped (.list ps) then some (ps.any fun z => PySem.PyData.eqv z p) else none
    | _, _ => none)
  | d, .tup ds => if flat d && ds.all flat then some (inF d ds) else none
  | d, .stp ds => if flat d && ds.all flat then some (inF d ds) else none
  | .str s, .str t => if s.length = 1 then some (decide ((s.cps.toList.headD 0) ∈ t.cps.toList)) else none
  | .int i, .dk kvs => some (look (.inl i) kvs).isSome
  | .str s, .dk kvs => some (look (.inr s) kvs).isSome
  | .str s, .sd kvs => some (look s kvs).isSome
  | .tup ds, .dt kvs => match toKeys ds with
    | some ks => some (lookT ks kvs).isSome
    | none => none
  | _, _ => none
def opB : BOp → D → D → Option Vl
  | .add, .int i, .int j => intD (i + j)
  | .add, .str a, .str b => ifB (decide (a.length + b.length ≤ sizeLine)) (some (.im (.str (a ++ b))))
  | .add, .lst a, .lst b => ifB (decide (a.length + b.length ≤ sizeLine)) (some (.own (.lst (a ++ b))))
  | .add, .tup a, .tup b => ifB (decide (a.length + b.length ≤ sizeLine)) (some (.im (.tup (a ++ b))))
  | .sub, .int i, .int j => intD (i - j)
  | .mul, .int i, .int j => ifB (decide (i.natAbs.log2 + j.natAbs.log2 < 1000000)) (intD (i * j))
  | .mul, .lst a, .int k => ifB (decide (-(2 ^ 63) ≤ k ∧ k < 2 ^ 63 ∧ a.length * k.toNat ≤ sizeLine)) (some (.own (.lst (List.replicate k.toNat a).flatten)))
  | .fdiv, .int i, .int j => ifB (decide (0 < j ∧ j.natAbs.log2 < 9000)) (intD (i / j))
  | .mod, .int i, .int j => ifB (decide (0 < j)) (intD (i % j))
  | .pow, .int i, .int j => ifB (decide (0 ≤ j ∧ j ≤ 1000000 ∧ i.natAbs < 2 ^ 64)) (intD (i ^ j.toNat))
  | .shl, .int i, .int j => ifB (decide (0 ≤ j ∧ j ≤ 1000000 ∧ i.natAbs < 2 ^ 64)) (intD (i * 2 ^ j.toNat))
  | .shr, .int i, .int j => ifB (decide (0 ≤ j)) (intD (i / 2 ^ j.toNat))
  | .band, .int i, .int j => intD (PySem.Builtin.bitAnd i j)
  | .bor, .int i, .int j => intD (PySem.Builtin.bitOr i j)
  | .bxor, .int i, .int j => intD (PySem.Builtin.bitXor i j)
  | .eq, d, e => match eqD d e with
    | some b => bl b
    | none => none
  | .ne, d, e => match eqD d e with
    | some b => bl (!b)
    | none => none
  | .lt, .int i, .int j => bl (decide (i < j))
  | .le, .int i, .int j => bl (decide (i ≤ j))
  | .gt, .int i, .int j => bl (decide (j < i))
  | .ge, .int i, .int j => bl (decide (j ≤ i))
  | .in_, d, e => match inD d e with
    | some b => bl b
    | none => none
  | .nin, d, e => match inD d e with
    | some b => bl (!b)
    | none => none
  | .is_, d, .non => bl (match d with | .non => true | _ => false)
  | .is_, d, .bl b => bl (match d with | .bl a => decide (a = b) | _ => false)
  | .isn, d, .bl b => bl (match d with | .bl a => !decide (a = b) | _ => true)
  | .isn, d, .non => bl (match d with | .non => false | _ => true)
  | _, _, _ => none
def opU : UOp → D → Option Vl
  | .neg, .int i => intD (-i)
  | _, _ => none
def truth : D → Option Bool
  | .non => some false
  | .bl b => some b
  | .int i => some (i != 0)
  | .str s => if s.length ≤ sizeLine then some (s.length != 0) else none
  | .lst ds => some (!ds.isEmpty)
  | .scr ds => some (!ds.isEmpty)
  | .tup ds => some (!ds.isEmpty)
  | .stp ds => some (!ds.isEmpty)
  | _ => none
def subD : D → D → Option Vl
  | .stp ds, .int i => match atD ds i with
    | some d => some (.im d)
    | none => none
  | .scr ds, .int i => match atD ds i with
    | some d => some (.im d)
    | none => none
  | .lst ds, .int i => match atD ds i with
    | some d => some (.im d)
    | none => none
  | .tup ds, .int i => match atD ds i with
    | some d => some (.im d)
    | none => none
  | .str z, .int i => if z.length ≤ sizeLine then (match L2.atI z.cps.toList i with
    | some c => some (.im (.str ⟨#[c]⟩))
    | none => none) else none
  | .dk kvs, .int i => match look (.inl i) kvs with
    | some d => some (.im d)
    | none => none
  | .dk kvs, .str s => match look (.inr s) kvs with
    | some d => some (.im d)
    | none => none
  | .sd kvs, .str s => match look s kvs with
    | some d => some (.im d)
    | none => none
  | .dt kvs, .tup ds => match toKeys ds with
    | some ks => match lookT ks kvs with
      | some d => some (.im d)
      | none => none
    | none => none
  | _, _ => none
/-- a bound of a slice -/
def bndD : D → Option (Option Int)
  | .non => some none
  | .int i => some (some i)
  | _ => none
def sliD : D → Option Int → Option Int → Option Vl
  | .lst ds, lo, hi => some (.own (.lst (cutD ds lo hi)))
  | .scr ds, lo, hi => some (.own (.lst (cutD ds lo hi)))
  | .tup ds, lo, hi => some (.im (.tup (cutD ds lo hi)))
  | .str z, lo, hi => ifB (decide (z.length ≤ sizeLine)) (some (.im (.str ⟨(cutD z.cps.toList lo hi).toArray⟩)))
  | _, _, _ => none
def intsD : List D → Option (List Int)
  | [] => some []
  | .int i :: ds => match intsD ds with
    | some is => some (i :: is)
    | none => none
  | _ :: _ => none
def boolsD : List D → Option (List Bool)
  | [] => some []
  | .bl i :: ds => match boolsD ds with
    | some is => some (i :: is)
    | none => none
  | _ :: _ => none
def strsD : List D → Option (List Str)
  | [] => some []
  | .str i :: ds => match strsD ds with
    | some is => some (i :: is)
    | none => none
  | _ :: _ => none
def maxI : List Int → Int
  | [] => 0
  | [i] => i
  | i :: is => max i (maxI is)
def minI : List Int → Int
  | [] => 0
  | [i] => i
  | i :: is => min i (minI is)
def keyD : Key → D
  | .inl i => .int i
  | .inr s => .str s
/-- whole numbers, rising -/
def insI (i : Int) : List Int → List Int
  | [] => [i]
  | j :: js => if i ≤ j then i :: j :: js else j :: insI i js
def srtI : List Int → List Int
  | [] => []
  | i :: is => insI i (srtI is)
/-- the place of the first that is as p -/
def posP (p : PySem.PyData) : List PySem.PyData → Option Nat
  | [] => none
  | z :: zs => if PySem.PyData.eqv z p then some 0 else (posP p zs).map (· + 1)
def opF : BI → List D → Option Vl
  | .len, [.lst ds] => intD ds.length
  | .len, [.scr ds] => intD ds.length
  | .len, [.tup ds] => intD ds.length
  | .len, [.stp ds] => intD ds.length
  | .len, [.str z] => ifB (decide (z.length ≤ sizeLine)) (intD z.length)
  | .len, [.dk kvs] => intD kvs.length
  | .list, [.lst ds] => some (.own (.lst ds))
  | .list, [.tup ds] => some (.own (.lst ds))
  | .list, [.dk kvs] => some (.own (.lst (kvs.map fun kv => keyD kv.1)))
  | .tuple, [.lst ds] => some (.im (.tup ds))
  | .tuple, [.tup ds] => some (.im (.tup ds))
  | .int, [.int i] => intD i
  | .int, [.bl b] => intD (if b then 1 else 0)
  | .str, [.int i] => ifB (decide (i.natAbs.log2 < 1920)) (some (.im (.str (PySem.Str.ofString (toString i)))))
  | .abs, [.int i] => intD (if i < 0 then -i else i)
  | .min2, [.int i, .int j] => intD (if j < i then j else i)
  | .max2, [.int i, .int j] => intD (if j > i then j else i)
  | .sum, [.lst ds] => (intsD ds).bind fun is => intD is.sum
  | .all, [.lst ds] => (boolsD ds).bind fun bs => bl (bs.all id)
  | .any, [.lst ds] => (boolsD ds).bind fun bs => bl (bs.any id)
  | .max1, [.lst ds] => (intsD ds).bind fun is => ifB (!is.isEmpty) (intD (maxI is))
  | .min1, [.lst ds] => (intsD ds).bind fun is => ifB (!is.isEmpty) (intD (minI is))
  | .sorted, [.lst ds] => (intsD ds).bind fun is => some (.own (.lst ((srtI is).map .int)))
  | .divmod, [.int i, .int j] => ifB (decide (0 < j ∧ j < 1073741824)) (some (.im (.tup [.int (i / j), .int (i % j)])))
  | _, _ => none
/-- the kinds of receivers -/
inductive Kd where
  | list | str | dict
  deriving DecidableEq
def MT.kd : MT → Kd
  | .join => .str
  | .split => .str
  | .strip => .str
  | .startswith => .str
  | .get1 => .dict
  | .get2 => .dict
  | _ => .list
def isKd : Kd → D → Bool
  | .list, .lst _ => true
  | .str, .str _ => true
  | .dict, .dk _ => true
  | .dict, .dt _ => true
  | _, _ => false
/-- a method: its value, and the receiver's new content if it changes it -/
def opM : MT → D → List D → Option (Vl × Option D)
  | .append, .lst ds, [d] => if ds.length < sizeLine then some (.im .non, some (.lst (ds ++ [d]))) else none
  | .extend, .lst ds, [.lst es] => if ds.length + es.length ≤ sizeLine then some (.im .non, some (.lst (ds ++ es))) else none
  | .pop0, .lst ds, [] => match ds[ds.length - 1]? with
    | some d => some (.im d, some (.lst ds.dropLast))
    | none => none
  | .popAt, .lst ds, [.int i] => if -(2 ^ 63) ≤ i ∧ i < 2 ^ 63 then (match PySem.seqIndex? i ds.length with
    | some k => match ds[k]? with
      | some d => some (.im d, some (.lst (ds.eraseIdx k)))
      | none => none
    | none => none) else none
  | .reverse, .lst ds, [] => some (.im .non, some (.lst ds.reverse))
  | .clear, .lst _, [] => some (.im .non, some (.lst []))
  | .insert, .lst ds, [.int i, d] => if 0 ≤ i ∧ i < 2 ^ 63 ∧ ds.length < sizeLine then some (.im .non, some (.lst (ds.take i.toNat ++ [d] ++ ds.drop i.toNat))) else none
  | .index, .lst ds, [d] => match toPys ds, toPy d with
    | some ps, some p => if PySem.SeqAt.shaped (.list ps) && PySem.SeqAt.shaped p then (match posP p ps with
      | some j => some (.im (.int (j : Nat)), none)
      | none => none) else none
    | _, _ => none
  | .get1, .dk kvs, [d] => match toKey d with
    | some k => some (.im ((look k kvs).getD .non), none)
    | none => none
  | .get2, .dk kvs, [d, e] => match toKey d with
    | some k => some (.im ((look k kvs).getD e), none)
    | none => none
  | .get1, .dt kvs, [.tup ds] => match toKeys ds with
    | some k => some (.im ((lookT k kvs).getD .non), none)
    | none => none
  | .get2, .dt kvs, [.tup ds, e] => match toKeys ds with
    | some k => some (.im ((lookT k kvs).getD e), none)
    | none => none
  | _, _, _ => none
/-- what isinstance may be asked of -/
def okTy : D → Bool
  | .non => true
  | .bl _ => true
  | .int _ => true
  | .str _ => true
  | .lst _ => true
  | .tup _ => true
  | .dk _ => true
  | _ => false
def tyD : D → Ty → Bool
  | .bl _, .int => true
  | .bl _, .bool => true
  | .int _, .int => true
  | .str _, .str => true
  | .lst _, .list => true
  | .tup _, .tuple => true
  | .dk _, .dict => true
  | .dt _, .dict => true
  | _, _ => false
def intsTo : Nat → List Int
  | 0 => []
  | n + 1 => intsTo n ++ [(n : Int)]
def rngD (lo : Int) (n : Nat) : List D := (List.range n).map fun i => .int (lo + (i : Nat))
def inR (i : Int) : Bool := decide (-(2 ^ 62) ≤ i ∧ i < 2 ^ 62)
def enumD : Nat → List D → List D
  | _, [] => []
  | i, d :: ds => .tup [.int i, d] :: enumD (i + 1) ds
def zipD : List D → List D → List D
  | d :: ds, e :: es => .tup [d, e] :: zipD ds es
  | _, _ => []
/-- the items that a for meets -/
def itemsD : IK → List D → Option (List D)
  | .ex, [.lst ds] => some ds
  | .ex, [.scr ds] => some ds
  | .ex, [.tup ds] => some ds
  | .ex, [.stp ds] => some ds
  | .ex, [.str z] => some (z.cps.toList.map fun c => .str ⟨#[c]⟩)
  | .r1, [.int j] => if inR j then some (rngD 0 j.toNat) else none
  | .r2, [.int i, .int j] => if inR i && inR j then some (rngD i (j - i).toNat) else none
  | .enum, [.lst ds] => some (enumD 0 ds)
  | .enum, [.tup ds] => some (enumD 0 ds)
  | .zip, [.lst ds, .lst es] => some (zipD ds es)
  | .zip, [.tup ds, .tup es] => some (zipD ds es)
  | .zip, [.tup ds, .lst es] => some (zipD ds es)
  | .zip, [.lst ds, .tup es] => some (zipD ds es)
  | .rev, [.lst ds] => some ds.reverse
  | .rev, [.tup ds] => some ds.reverse
  | _, _ => none

/-! ### targets, loops -/
def asgT : Tg → D → S → R Unit
  | .nm i, d, s => if i < s.ρ.length then .ok () { s with ρ := s.ρ.set i (.im d) } else .no
  | .tc h t, .tup (d :: ds), s => (asgT h d s).bind fun _ s => asgT t (.tup ds) s
  | .tn, .tup [], s => .ok () s
  | .tc h t, .stp (d :: ds), s => (asgT h d s).bind fun _ s => asgT t (.stp ds) s
  | .tn, .stp [], s => .ok () s
  | .tc h t, .lst (d :: ds), s => (asgT h d s).bind fun _ s => asgT t (.lst ds) s
  | .tn, .lst [], s => .ok () s
  | _, _, _ => .no
def loop (step : D → S → R Fl) : List D → S → R Fl
  | [], s => .ok .nx s
  | d :: ds, s => (step d s).bind fun f s => match f with
    | .nx => loop step ds s
    | .ct => loop step ds s
    | .bk => .ok .nx s
    | .rt v => .ok (.rt v) s
/-- a comprehension's turns: what is kept -/
def lcLoop (step : D → S → R (Option D)) : List D → List D → S → R (List D)
  | [], acc, s => .ok acc s
  | d :: ds, acc, s => (step d s).bind fun o s => match o with
    | some e => if acc.length < sizeLine then lcLoop step ds (acc ++ [e]) s else .no
    | none => lcLoop step ds acc s
def wloop (test : S → R Bool) (body : S → R Fl) : Nat → S → R Fl
  | 0, _ => .no
  | n + 1, s => (test s).bind fun b s => if b then (body s).bind fun f s => match f with
    | .nx => wloop test body n s
    | .ct => wloop test body n s
    | .bk => .ok .nx s
    | .rt v => .ok (.rt v) s
    else .ok .nx s
def wipeS (s : S) : List Nat → S
  | [] => s
  | i :: is => let s := wipeS s is; { s with ρ := s.ρ.set i .no }

/-! ### the evaluator -/
structure Env where
  fn : Nat → List D → List (Option D) → RC
  fm : Nat → List D → List (Option D) → RC
  nw : Nat → Nat → List D → List (Option D) → RC
  glo : Nat → Option D
  sub : Nat → Nat → Option Bool
  na : Nat → Str → Bool
  wf : Nat
def RC.toR (s : S) : RC → R Vl
  | .ok v st => .ok v { s with st := st }
  | .er c fs st => .er c fs { s with st := st }
  | .no => .no
/-- a call that sees all as frozen: a flat value, nothing changed -/
def mapO (f : D → Option D) : List D → Option (List D)
  | [] => some []
  | d :: ds => match f d with
    | some e => match mapO f ds with
      | some es => some (e :: es)
      | none => none
    | none => none
/-- the cells within read, too -/
def deepD : Nat → List (Option D) → D → Option D
  | 0, _, _ => none
  | n + 1, st, .cell k => match st[k]? with
    | some (some d) => deepD n st d
    | _ => none
  | n + 1, st, .lst ds => match mapO (deepD n st) ds with
    | some es => some (.lst es)
    | none => none
  | n + 1, st, .tup ds => match mapO (deepD n st) ds with
    | some es => some (.tup es)
    | none => none
  | _ + 1, _, d => some d
/-- no list, no dict, no object within -/
def lfD : Nat → D → Bool
  | 0, _ => false
  | n + 1, .tup ds => ds.all (lfD n)
  | _ + 1, .non => true
  | _ + 1, .bl _ => true
  | _ + 1, .int _ => true
  | _ + 1, .str _ => true
  | _ + 1, _ => false
def mkPR (s : S) : RC → R Vl
  | .ok (.own (.ins c fs)) _ => if fs.all (fun p => lfD 8 p.2) then .ok (.own (.ins c fs)) s else .no
  | .er c [] _ => .er c [] s
  | _ => .no
def flatR (s : S) : RC → R Vl
  | .ok (.im d) _ => if flat d then .ok (.im d) s else .no
  | .er c [] _ => .er c [] s
  | _ => .no
/-- what a builtin's method leaves -/
def back (v : Vl) (s : S) (r : Vl × Option D) : R Vl := match r.2 with
  | none => .ok r.1 s
  | some d => match v with
    | .pk i => .ok r.1 { s with ρ := s.ρ.set i (.own d) }
    | .im (.cell k) => .ok r.1 { s with st := s.st.set k (some d) }
    | _ => .no
def fldD (na : Nat → Str → Bool) (d : D) (f : Str) : Option Vl := match d with
  | .ins k fs => if na k f then (fget f fs).map .im else none
  | _ => none
/-- the class of None, of ValueError -/
def nonN : Nat := 999998
def veN : Nat := 999999
def insN : Nat := 2000000
def isxK : D → Option Nat
  | .non => some nonN
  | .exc k [] => if k < nonN then some k else none
  | .ins k _ => some (insN + k)
  | _ => none
def anyS (f : Nat → Option Bool) : List Nat → Option Bool
  | [] => some false
  | c :: cs => match f c with
    | some b => (match anyS f cs with
      | some r => some (b || r)
      | none => none)
    | none => none
def isxD (sub : Nat → Nat → Option Bool) (d : D) (cs : List Nat) : Option Bool := match isxK d with
  | some k => anyS (sub k) cs
  | none => none
/-- an expression's value, and its answer as a test -/
structure Pr where
  v : S → R Vl
  t : S → R Bool
def tst (v : S → R Vl) : S → R Bool := fun s => (v s).bind fun v s => match v.look s with
  | some d => match truth d with
    | some b => .ok b s
    | none => .no
  | none => .no
def Pr.mk1 (v : S → R Vl) : Pr := ⟨v, tst v⟩
mutual
def evP (X : Env) : E → Pr
  | .var i => .mk1 (fun s => match s.ρ[i]? with
    | some (.im d) => .ok (.im d) s
    | some (.own _) => .ok (.pk i) s
    | _ => .no)
  | .cst d => .mk1 (fun s => .ok (.im d) s)
  | .glo g => .mk1 (fun s => match X.glo g with
    | some d => .ok (.im d) s
    | none => .no)
  | .bin op a b => .mk1 (fun s => ((evP X a).v s).bind fun v s => ((evP X b).v s).bind fun u s => match v.hold.look s, u.look s with
    | some d, some e => toR s (opB op d e)
    | _, _ => .no)
  | .un op a => .mk1 (fun s => ((evP X a).v s).bind fun v s => match v.look s with
    | some d => toR s (opU op d)
    | none => .no)
  | .chn op op' a b c => .mk1 (fun s => ((evP X a).v s).bind fun v s => ((evP X b).v s).bind fun u s => match v.hold.look s, u.hold.look s with
    | some d, some e => match opB op d e with
      | some (.im (.bl true)) => ((evP X c).v s).bind fun t s => match u.hold.look s, t.look s with
        | some e, some z => (match opB op' e z with
          | some (.im (.bl r)) => .ok (.im (.bl r)) s
          | _ => .no)
        | _, _ => .no
      | some (.im (.bl false)) => .ok (.im (.bl false)) s
      | _ => .no
    | _, _ => .no)
  | .ban a => evAnd X a
  | .bor a => evOr X a
  | .nt a => ⟨fun s => ((evP X a).v s).bind fun v s => match v with
    | .im (.bl b) => .ok (.im (.bl (!b))) s
    | _ => .no, fun s => ((evP X a).t s).bind fun b s => .ok (!b) s⟩
  | .ife t a b => .mk1 (fun s => ((evP X t).t s).bind fun c s => if c then (evP X a).v s else (evP X b).v s)
  | .tup a => .mk1 (fun s => (evA X a s).bind fun ds s => if ds.length ≤ sizeLine then .ok (.im (.tup ds)) s else .no)
  | .lst a => .mk1 (fun s => (evA X a s).bind fun ds s => if ds.length ≤ sizeLine then .ok (.own (.lst ds)) s else .no)
  | .dK => .mk1 (fun s => .ok (.own (.dk [])) s)
  | .dT => .mk1 (fun s => .ok (.own (.dt [])) s)
  | .dic a => .mk1 (fun s => (evA X a s).bind fun ds s => match dicD ds with
    | some kvs => if 0 < kvs.length ∧ kvs.length ≤ 15 then .ok (.own (.dk (mergeD kvs))) s else .no
    | none => .no)
  | .sub a i => .mk1 (fun s => ((evP X a).v s).bind fun v s => ((evP X i).v s).bind fun u s => match v.hold.look s, u.look s with
    | some d, some e => toR s (subD d e)
    | _, _ => .no)
  | .sli a lo hi => .mk1 (fun s => ((evP X a).v s).bind fun v s => ((evP X lo).v s).bind fun l s => match l with
    | .im l => (match bndD l with
      | some l => ((evP X hi).v s).bind fun h s => match h with
        | .im h => (match v.hold.look s, bndD h with
          | some d, some h => toR s (sliD d l h)
          | _, _ => .no)
        | _ => .no
      | none => .no)
    | _ => .no)
  | .nop => .mk1 (fun s => .ok (.im .non) s)
  | .fld a f => .mk1 (fun s => ((evP X a).v s).bind fun v s => match v.look s with
    | some d => toR s (fldD X.na d f)
    | none => .no)
  | .bi f a => .mk1 (fun s => (evO X a s).bind fun vs s => match lookAll s vs with
    | some ds => toR s (opF f ds)
    | none => .no)
  | .mt m o a => .mk1 (fun s => ((evP X o).v s).bind fun v s => match v.hold.look s with
    | some d => if isKd m.kd d then (evA X a s).bind fun ds s => match v.hold.look s with
        | some d => (match opM m d ds with
          | some r => back v.hold s r
          | none => .no)
        | none => .no
      else .no
    | none => .no)
  | .cal f a => .mk1 (fun s => (evA X a s).bind fun ds s => (X.fn f ds s.st).toR s)
  | .calP f a => .mk1 (fun s => (evO X a s).bind fun vs s => match lookAll s vs with
    | some ds => flatR s (X.fn f ds (s.st.map fun _ => none))
    | none => .no)
  | .calD f a => .mk1 (fun s => (evO X a s).bind fun vs s => match lookAll s vs with
    | some ds => match mapO (deepD 8 s.st) ds with
      | some es => flatR s (X.fn f es (s.st.map fun _ => none))
      | none => .no
    | none => .no)
  | .mkP c f a => .mk1 (fun s => (evO X a s).bind fun vs s => match lookAll s vs with
    | some ds => match mapO (deepD 8 s.st) ds with
      | some es => mkPR s (X.nw c f es (s.st.map fun _ => none))
      | none => .no
    | none => .no)
  | .met f m c o a => .mk1 (fun s => ((evP X o).v s).bind fun v s => (v.fz s).bind fun d s => match deref s.st d with
    | some (.ins c' fs) => if c' = c ∧ fget m fs = none then (evA X a s).bind fun ds s => (X.fn f (d :: ds) s.st).toR s else .no
    | _ => .no)
  | .mkC c f a => .mk1 (fun s => (evA X a s).bind fun ds s => match X.fm f (.cell s.st.length :: ds) (s.st ++ [some (.ins c [])]) with
    | .ok (.im .non) st => .ok (.im (.cell s.st.length)) { s with st := st }
    | .er c fs st => .er c fs { s with st := st }
    | _ => .no)
  | .mkR c f a => .mk1 (fun s => (evA X a s).bind fun ds s => match X.nw c f ds s.st with
    | .ok (.own d) st => .ok (.own d) { s with st := st }
    | .er c fs st => .er c fs { s with st := st }
    | _ => .no)
  | .isi a t => .mk1 (fun s => ((evP X a).v s).bind fun v s => match v.look s with
    | some d => if okTy d then .ok (.im (.bl (t.any (tyD d)))) s else .no
    | none => .no)
  | .isx a t => .mk1 (fun s => ((evP X a).v s).bind fun v s => match v.look s with
    | some d => (match isxD X.sub d t with
      | some b => .ok (.im (.bl b)) s
      | none => .no)
    | none => .no)
  | .lc elt tg k src ifs own => .mk1 (fun s => (evA X src s).bind fun ds s => match itemsD k ds with
    | some xs => (lcLoop (fun d s => (asgT tg d (wipeS s own)).bind fun _ s => ((evAnd X ifs).t s).bind fun b s => if b then ((evP X elt).v s).bind fun v s => (v.fz s).bind fun e s => .ok (some e) s else .ok none s) xs [] s).noE.bind
        fun acc s => .ok (.own (.lst acc)) (wipeS s own)
    | none => .no)
  | .lrv a => .mk1 (fun s => ((evP X a).v s).bind fun v s => match v.look s with
    | some (.lst ds) => .ok (.own (.lst ds.reverse)) s
    | some (.tup ds) => .ok (.own (.lst ds.reverse)) s
    | _ => .no)
  | .nwc a => .mk1 (fun s => ((evP X a).v s).bind fun v s => match v with
    | .own d => .ok (.im (.cell s.st.length)) { s with st := s.st ++ [some d] }
    | _ => .no)
  | .fzc a => .mk1 (fun s => ((evP X a).v s).bind fun v s => match v with
    | .im (.cell k) => match s.st[k]? with
      | some (some d) => .ok (.im d) { s with st := s.st.set k none }
      | _ => .no
    | _ => .no)
def evA (X : Env) : A → S → R (List D)
  | .nil => fun s => .ok [] s
  | .cons e r => fun s => ((evP X e).v s).bind fun v s => (v.fz s).bind fun d s => (evA X r s).bind fun ds s => .ok (d :: ds) s
def evO (X : Env) : A → S → R (List Vl)
  | .nil => fun s => .ok [] s
  | .cons e r => fun s => ((evP X e).v s).bind fun v s => (evO X r s).bind fun vs s => .ok (v.hold :: vs) s
def evAnd (X : Env) : A → Pr
  | .nil => ⟨fun _ => .no, fun s => .ok true s⟩
  | .cons e r => ⟨match r with
    | .nil => (evP X e).v
    | r => fun s => ((evP X e).v s).bind fun v s => match v with
      | .im (.bl true) => (evAnd X r).v s
      | .im (.bl false) => .ok (.im (.bl false)) s
      | _ => .no, fun s => ((evP X e).t s).bind fun b s => if b then (evAnd X r).t s else .ok false s⟩
def evOr (X : Env) : A → Pr
  | .nil => ⟨fun _ => .no, fun s => .ok false s⟩
  | .cons e r => ⟨match r with
    | .nil => (evP X e).v
    | r => fun s => ((evP X e).v s).bind fun v s => match v with
      | .im (.bl false) => (evOr X r).v s
      | .im (.bl true) => .ok (.im (.bl true)) s
      | _ => .no, fun s => ((evP X e).t s).bind fun b s => if b then .ok true s else (evOr X r).t s⟩
end
def ev (X : Env) (e : E) : S → R Vl := (evP X e).v
def evT (X : Env) (e : E) : S → R Bool := (evP X e).t
def evAndV (X : Env) (a : A) : S → R Vl := (evAnd X a).v
def evOrV (X : Env) (a : A) : S → R Vl := (evOr X a).v
def evAndT (X : Env) (a : A) : S → R Bool := (evAnd X a).t
def evOrT (X : Env) (a : A) : S → R Bool := (evOr X a).t
section
variable {X : Env} {s : S}
@[simp] theorem ev_var (i : Nat) : ev X (.var i) s = (match s.ρ[i]? with
    | some (.im d) => .ok (.im d) s
    | some (.own _) => .ok (.pk i) s
    | _ => .no) := rfl
@[simp] theorem ev_cst (d : D) : ev X (.cst d) s = (.ok (.im d) s) := rfl
@[simp] theorem ev_glo (g : Nat) : ev X (.glo g) s = (match X.glo g with
    | some d => .ok (.im d) s
    | none => .no) := rfl
@[simp] theorem ev_bin (op : BOp) (a b : E) : ev X (.bin op a b) s = ((ev X a s).bind fun v s => (ev X b s).bind fun u s => match v.hold.look s, u.look s with
    | some d, some e => toR s (opB op d e)
    | _, _ => .no) := rfl
@[simp] theorem ev_un (op : UOp) (a : E) : ev X (.un op a) s = ((ev X a s).bind fun v s => match v.look s with
    | some d => toR s (opU op d)
    | none => .no) := rfl
@[simp] theorem ev_chn (op op' : BOp) (a b c : E) : ev X (.chn op op' a b c) s = ((ev X a s).bind fun v s => (ev X b s).bind fun u s => match v.hold.look s, u.hold.look s with
    | some d, some e => match opB op d e with
      | some (.im (.bl true)) => (ev X c s).bind fun t s => match u.hold.look s, t.look s with
        | some e, some z => (match opB op' e z with
          | some (.im (.bl r)) => .ok (.im (.bl r)) s
          | _ => .no)
        | _, _ => .no
      | some (.im (.bl false)) => .ok (.im (.bl false)) s
      | _ => .no
    | _, _ => .no) := rfl
@[simp] theorem ev_nt (a : E) : ev X (.nt a) s = ((ev X a s).bind fun v s => match v with
    | .im (.bl b) => .ok (.im (.bl (!b))) s
    | _ => .no) := rfl
@[simp] theorem ev_ife (t a b : E) : ev X (.ife t a b) s = ((evT X t s).bind fun c s => if c then ev X a s else ev X b s) := rfl
@[simp] theorem ev_tup (a : A) : ev X (.tup a) s = ((evA X a s).bind fun ds s => if ds.length ≤ sizeLine then .ok (.im (.tup ds)) s else .no) := rfl
@[simp] theorem ev_lst (a : A) : ev X (.lst a) s = ((evA X a s).bind fun ds s => if ds.length ≤ sizeLine then .ok (.own (.lst ds)) s else .no) := rfl
@[simp] theorem ev_dK  : ev X (.dK) s = (.ok (.own (.dk [])) s) := rfl
@[simp] theorem ev_dT  : ev X (.dT) s = (.ok (.own (.dt [])) s) := rfl
@[simp] theorem ev_sub (a i : E) : ev X (.sub a i) s = ((ev X a s).bind fun v s => (ev X i s).bind fun u s => match v.hold.look s, u.look s with
    | some d, some e => toR s (subD d e)
    | _, _ => .no) := rfl
@[simp] theorem ev_sli (a lo hi : E) : ev X (.sli a lo hi) s = ((ev X a s).bind fun v s => (ev X lo s).bind fun l s => match l with
    | .im l => (match bndD l with
      | some l => (ev X hi s).bind fun h s => match h with
        | .im h => (match v.hold.look s, bndD h with
          | some d, some h => toR s (sliD d l h)
          | _, _ => .no)
        | _ => .no
      | none => .no)
    | _ => .no) := rfl
@[simp] theorem ev_dic (a : A) : ev X (.dic a) s = ((evA X a s).bind fun ds s => match dicD ds with
    | some kvs => if 0 < kvs.length ∧ kvs.length ≤ 15 then .ok (.own (.dk (mergeD kvs))) s else .no
    | none => .no) := rfl
@[simp] theorem ev_nop  : ev X (.nop) s = (.ok (.im .non) s) := rfl
@[simp] theorem ev_fld (a : E) (f : Str) : ev X (.fld a f) s = ((ev X a s).bind fun v s => match v.look s with
    | some d => toR s (fldD X.na d f)
    | none => .no) := rfl
@[simp] theorem ev_bi (f : BI) (a : A) : ev X (.bi f a) s = ((evO X a s).bind fun vs s => match lookAll s vs with
    | some ds => toR s (opF f ds)
    | none => .no) := rfl
@[simp] theorem ev_mt (m : MT) (o : E) (a : A) : ev X (.mt m o a) s = ((ev X o s).bind fun v s => match v.hold.look s with
    | some d => if isKd m.kd d then (evA X a s).bind fun ds s => match v.hold.look s with
        | some d => (match opM m d ds with
          | some r => back v.hold s r
          | none => .no)
        | none => .no
      else .no
    | none => .no) := rfl
@[simp] theorem ev_cal (f : Nat) (a : A) : ev X (.cal f a) s = ((evA X a s).bind fun ds s => (X.fn f ds s.st).toR s) := rfl
@[simp] theorem ev_calP (f : Nat) (a : A) : ev X (.calP f a) s = ((evO X a s).bind fun vs s => match lookAll s vs with
    | some ds => flatR s (X.fn f ds (s.st.map fun _ => none))
    | none => .no) := rfl
@[simp] theorem ev_calD (f : Nat) (a : A) : ev X (.calD f a) s = ((evO X a s).bind fun vs s => match lookAll s vs with
    | some ds => match mapO (deepD 8 s.st) ds with
      | some es => flatR s (X.fn f es (s.st.map fun _ => none))
      | none => .no
    | none => .no) := rfl
@[simp] theorem ev_mkP (c f : Nat) (a : A) : ev X (.mkP c f a) s = ((evO X a s).bind fun vs s => match lookAll s vs with
    | some ds => match mapO (deepD 8 s.st) ds with
      | some es => mkPR s (X.nw c f es (s.st.map fun _ => none))
      | none => .no
    | none => .no) := rfl
@[simp] theorem ev_met (f : Nat) (m : Str) (c : Nat) (o : E) (a : A) : ev X (.met f m c o a) s = ((ev X o s).bind fun v s => (v.fz s).bind fun d s => match deref s.st d with
    | some (.ins c' fs) => if c' = c ∧ fget m fs = none then (evA X a s).bind fun ds s => (X.fn f (d :: ds) s.st).toR s else .no
    | _ => .no) := rfl
@[simp] theorem ev_mkC (c f : Nat) (a : A) : ev X (.mkC c f a) s = ((evA X a s).bind fun ds s => match X.fm f (.cell s.st.length :: ds) (s.st ++ [some (.ins c [])]) with
    | .ok (.im .non) st => .ok (.im (.cell s.st.length)) { s with st := st }
    | .er c fs st => .er c fs { s with st := st }
    | _ => .no) := rfl
@[simp] theorem ev_mkR (c f : Nat) (a : A) : ev X (.mkR c f a) s = ((evA X a s).bind fun ds s => match X.nw c f ds s.st with
    | .ok (.own d) st => .ok (.own d) { s with st := st }
    | .er c fs st => .er c fs { s with st := st }
    | _ => .no) := rfl
@[simp] theorem ev_isi (a : E) (t : List Ty) : ev X (.isi a t) s = ((ev X a s).bind fun v s => match v.look s with
    | some d => if okTy d then .ok (.im (.bl (t.any (tyD d)))) s else .no
    | none => .no) := rfl
theorem ev_isx (a : E) (t : List Nat) : ev X (.isx a t) s = ((ev X a s).bind fun v s => match v.look s with
    | some d => (match isxD X.sub d t with
      | some b => .ok (.im (.bl b)) s
      | none => .no)
    | none => .no) := rfl
theorem ev_lc (elt : E) (tg : Tg) (k : IK) (src : A) (ifs : A) (own : List Nat) : ev X (.lc elt tg k src ifs own) s = ((evA X src s).bind fun ds s => match itemsD k ds with
    | some xs => (lcLoop (fun d s => (asgT tg d (wipeS s own)).bind fun _ s => (evAndT X ifs s).bind fun b s => if b then (ev X elt s).bind fun v s => (v.fz s).bind fun e s => .ok (some e) s else .ok none s) xs [] s).noE.bind
        fun acc s => .ok (.own (.lst acc)) (wipeS s own)
    | none => .no) := rfl
@[simp] theorem ev_lrv (a : E) : ev X (.lrv a) s = ((ev X a s).bind fun v s => match v.look s with
    | some (.lst ds) => .ok (.own (.lst ds.reverse)) s
    | some (.tup ds) => .ok (.own (.lst ds.reverse)) s
    | _ => .no) := rfl
@[simp] theorem ev_nwc (a : E) : ev X (.nwc a) s = ((ev X a s).bind fun v s => match v with
    | .own d => .ok (.im (.cell s.st.length)) { s with st := s.st ++ [some d] }
    | _ => .no) := rfl
@[simp] theorem ev_fzc (a : E) : ev X (.fzc a) s = ((ev X a s).bind fun v s => match v with
    | .im (.cell k) => match s.st[k]? with
      | some (some d) => .ok (.im d) { s with st := s.st.set k none }
      | _ => .no
    | _ => .no) := rfl
@[simp] theorem ev_ban (a : A) : ev X (.ban a) s = evAndV X a s := rfl
@[simp] theorem ev_bor (a : A) : ev X (.bor a) s = evOrV X a s := rfl
@[simp] theorem evA_nil : evA X .nil s = .ok [] s := rfl
@[simp] theorem evA_cons (e : E) (r : A) : evA X (.cons e r) s = (ev X e s).bind fun v s => (v.fz s).bind fun d s => (evA X r s).bind fun ds s => .ok (d :: ds) s := rfl
@[simp] theorem evO_nil : evO X .nil s = .ok [] s := rfl
@[simp] theorem evO_cons (e : E) (r : A) : evO X (.cons e r) s = (ev X e s).bind fun v s => (evO X r s).bind fun vs s => .ok (v.hold :: vs) s := rfl
@[simp] theorem evAndV_one (e : E) : evAndV X (.cons e .nil) s = ev X e s := rfl
@[simp] theorem evAndV_cons (e e' : E) (r : A) : evAndV X (.cons e (.cons e' r)) s = (ev X e s).bind fun v s => match v with
      | .im (.bl true) => evAndV X (.cons e' r) s
      | .im (.bl false) => .ok (.im (.bl false)) s
      | _ => .no := rfl
@[simp] theorem evOrV_one (e : E) : evOrV X (.cons e .nil) s = ev X e s := rfl
@[simp] theorem evOrV_cons (e e' : E) (r : A) : evOrV X (.cons e (.cons e' r)) s = (ev X e s).bind fun v s => match v with
      | .im (.bl false) => evOrV X (.cons e' r) s
      | .im (.bl true) => .ok (.im (.bl true)) s
      | _ => .no := rfl
@[simp] theorem evAndT_nil : evAndT X .nil s = .ok true s := rfl
@[simp] theorem evAndT_cons (e : E) (r : A) : evAndT X (.cons e r) s = (evT X e s).bind fun b s => if b then evAndT X r s else .ok false s := by cases r <;> rfl
@[simp] theorem evOrT_nil : evOrT X .nil s = .ok false s := rfl
@[simp] theorem evOrT_cons (e : E) (r : A) : evOrT X (.cons e r) s = (evT X e s).bind fun b s => if b then .ok true s else evOrT X r s := by cases r <;> rfl
@[simp] theorem evT_nt (a : E) : evT X (.nt a) s = (evT X a s).bind fun b s => .ok (!b) s := rfl
@[simp] theorem evT_ban (a : A) : evT X (.ban a) s = evAndT X a s := rfl
@[simp] theorem evT_bor (a : A) : evT X (.bor a) s = evOrT X a s := rfl
def plainT : E → Bool
  | .nt _ => false
  | .ban _ => false
  | .bor _ => false
  | _ => true
theorem evT_any {e : E} (h : plainT e = true) : evT X e s = tst (ev X e) s := by
  cases e <;> first | rfl | cases h
end
/-! ### statements -/
def bindV (i : Nat) (v : Vl) (s : S) : R Unit := if i < s.ρ.length then (match v with
  | .im d => .ok () { s with ρ := s.ρ.set i (.im d) }
  | .own d => .ok () { s with ρ := s.ρ.set i (if i = 0 then .im d else .own d) }
  | .pk j => match s.ρ[j]? with
    | some (.own d) => .ok () { s with ρ := (s.ρ.set j (.im d)).set i (.im d) }
    | _ => .no) else .no
def asgV : Tg → Vl → S → R Unit
  | .nm i, v, s => bindV i v s
  | tg, v, s => match v with
    | .im d => asgT tg d s
    | _ => .no
/-- what leaves with a return -/
def outV (v : Vl) (s : S) : R Vl := match v with
  | .pk i => match s.ρ[i]? with
    | some (.own d) => .ok (.own d) { s with ρ := s.ρ.set i .no }
    | _ => .no
  | v => .ok v s
/-- o[i] = e -/
def setD : D → D → D → Option D
  | .lst ds, .int i, d => match ixN ds.length i with
    | some k => some (.lst (ds.set k d))
    | none => none
  | .dk kvs, .int i, d => if kvs.length < sizeLine then some (.dk (put (.inl i) d kvs)) else none
  | .dk kvs, .str z, d => if kvs.length < sizeLine then some (.dk (put (.inr z) d kvs)) else none
  | .dt kvs, .tup ds, d => match toKeys ds with
    | some ks => if kvs.length < sizeLine then some (.dt (put ks d kvs)) else none
    | none => none
  | _, _, _ => none
def putFD (na : Nat → Str → Bool) (f : Str) (d : D) : D → Option D
  | .ins c fs => if na c f = true ∧ fs.length < 200 then some (.ins c (fput f d fs)) else none
  | _ => none
/-- d.setdefault(k, []).append(e): the list that k has is a cell, or becomes one -/
def sdaD : D → D → List (Option D) → Option (Nat × Option D)
  | .dk kvs, k, st => match toKey k with
    | some k => match look k kvs with
      | some (.cell n) => some (n, none)
      | some _ => none
      | none => if kvs.length < sizeLine then some (st.length, some (.dk (put k (.cell st.length) kvs))) else none
    | none => none
  | .dt kvs, .tup ds, st => match toKeys ds with
    | some k => match lookT k kvs with
      | some (.cell n) => some (n, none)
      | some _ => none
      | none => if kvs.length < sizeLine then some (st.length, some (.dt (put k (.cell st.length) kvs))) else none
    | none => none
  | _, _, _ => none
def sameK : D → D → Bool
  | .ins k _, .ins j _ => decide (k = j)
  | _, _ => false
/-- x += y -/
def augD : D → D → Option D
  | .int i, .int j => some (.int (i + j))
  | .str a, .str b => if a.length + b.length ≤ sizeLine then some (.str (a ++ b)) else none
  | _, _ => none
/-- a walk over a list that may change under it -/
def loopL (get : S → Option D) (step : D → S → R Fl) : Nat → Nat → S → R Fl
  | 0, _, _ => .no
  | n + 1, i, s => match get s with
    | some (.lst ds) => (match ds[i]? with
      | some d => (step d s).bind fun f s => match f with
        | .nx => loopL get step n (i + 1) s
        | .ct => loopL get step n (i + 1) s
        | .bk => .ok .nx s
        | .rt v => .ok (.rt v) s
      | none => .ok .nx s)
    | _ => .no
/-- slots forgotten behind a statement -/
def fWp (l : List Nat) : R Fl → R Fl
  | .ok .nx s => .ok .nx (wipeS s l)
  | .ok .bk s => .ok .bk (wipeS s l)
  | .ok .ct s => .ok .ct (wipeS s l)
  | r => r
def run (X : Env) : C → S → R Fl
  | .skip => fun s => .ok .nx s
  | .seq a b => fun s => (run X a s).bind fun f s => match f with
    | .nx => run X b s
    | .bk => .ok .bk s
    | .ct => .ok .ct s
    | .rt v => .ok (.rt v) s
  | .ex e => fun s => (ev X e s).bind fun _ s => .ok .nx s
  | .asg tg e => fun s => (ev X e s).bind fun v s => (asgV tg v s).bind fun _ s => .ok .nx s
  | .par i j a b => fun s => (evA X (.cons a (.cons b .nil)) s).bind fun ds s => match ds with
    | [d, e] => (asgT (.nm i) d s).bind fun _ s => (asgT (.nm j) e s).bind fun _ s => .ok .nx s
    | _ => .no
  | .par3 i j l a b c => fun s => (evA X (.cons a (.cons b (.cons c .nil))) s).bind fun ds s => match ds with
    | [d, e, g] => (asgT (.nm i) d s).bind fun _ s => (asgT (.nm j) e s).bind fun _ s => (asgT (.nm l) g s).bind fun _ s => .ok .nx s
    | _ => .no
  | .aug i e => fun s => match s.ρ[i]? with
    | some (.im d) => (ev X e s).bind fun v s => match v.look s with
      | some d' => (match augD d d' with
        | some d => if i < s.ρ.length then .ok .nx { s with ρ := s.ρ.set i (.im d) } else .no
        | none => .no)
      | none => .no
    | _ => .no
  | .setI o i e => fun s => (ev X e s).bind fun v s => (v.fz s).bind fun d s => (ev X o s).bind fun u s => (ev X i s).bind fun w s => match u.hold.look s, w.look s with
    | some x, some y => (match setD x y d with
      | some z => (back u.hold s (.im .non, some z)).bind fun _ s => .ok .nx s
      | none => .no)
    | _, _ => .no
  | .setF o f e => fun s => (ev X e s).bind fun v s => (v.fz s).bind fun d s => (ev X o s).bind fun u s => match u.hold.look s with
    | some x => (match putFD X.na f d x with
      | some z => (back u.hold s (.im .non, some z)).bind fun _ s => .ok .nx s
      | none => .no)
    | none => .no
  | .augF o f e => fun s => (ev X o s).bind fun u s => match u.hold.look s with
    | some x => (match fldD X.na x f with
      | some (.im (.int i)) => (ev X e s).bind fun v s => (match v.look s, u.hold.look s with
        | some (.int j), some y => if sameK x y then (match putFD X.na f (.int (i + j)) y with
          | some z => (back u.hold s (.im .non, some z)).bind fun _ s => .ok .nx s
          | none => .no) else .no
        | _, _ => .no)
      | _ => .no)
    | none => .no
  | .ret e => fun s => (ev X e s).bind fun v s => (outV v s).bind fun v s => .ok (.rt v) s
  | .retN => fun s => .ok (.rt (.im .non)) s
  | .ite t a b => fun s => (evT X t s).bind fun c s => if c then run X a s else run X b s
  | .for_ tg k src body => fun s => (evA X src s).bind fun ds s => match itemsD k ds with
    | some xs => loop (fun d s => (asgT tg d s).bind fun _ s => run X body s) xs s
    | none => .no
  | .forL tg src body => fun s => (ev X src s).bind fun v s => match v with
    | .im (.cell k) => loopL (fun s => Vl.look s (.im (.cell k))) (fun d s => (asgT tg d s).bind fun _ s => run X body s) X.wf 0 s
    | _ => .no
  | .whl t body => fun s => wloop (evT X t) (run X body) X.wf s
  | .dead => fun _ => .no
  | .wp l a l' => fun s => fWp l' (run X a (wipeS s l))
  | .brk => fun s => .ok .bk s
  | .cnt => fun s => .ok .ct s
  | .rai c f e => fun s => match f with
    | none => .er c [] s
    | some f => (ev X e s).bind fun v s => (v.fz s).bind fun d s => .er c [(f, d)] s
  | .tr body c nm suite => fun s => match run X body s with
    | .ok f s => .ok f s
    | .er k fs s => (match (if k < nonN then X.sub k c else none) with
      | some true => (match nm with
        | some i => if i < s.ρ.length then (run X suite { s with ρ := s.ρ.set i (.im (.exc k fs)) }).bind fun f s => .ok f { s with ρ := s.ρ.set i .no } else .no
        | none => run X suite s)
      | some false => .er k fs s
      | none => .no)
    | .no => .no
  | .sda o k e => fun s => (ev X o s).bind fun u s => match u.hold.look s with
    | some _ => (ev X k s).bind fun w s => (match w.look s with
      | some y => (ev X e s).bind fun v s => (v.fz s).bind fun d s => (match u.hold.look s with
        | some x => (match sdaD x y s.st with
          | some (n, none) => (match s.st[n]? with
            | some (some (.lst ds)) => if ds.length < sizeLine then .ok .nx { s with st := s.st.set n (some (.lst (ds ++ [d]))) } else .no
            | _ => .no)
          | some (_, some x) => (back u.hold { s with st := s.st ++ [some (.lst [d])] } (.im .non, some x)).bind fun _ s => .ok .nx s
          | none => .no)
        | none => .no)
      | none => .no)
    | none => .no
section
variable {X : Env} {s : S}
@[simp] theorem run_skip : run X .skip s = .ok .nx s := rfl
@[simp] theorem run_seq (a b : C) : run X (.seq a b) s = (run X a s).bind fun f s => match f with
    | .nx => run X b s
    | .bk => .ok .bk s
    | .ct => .ok .ct s
    | .rt v => .ok (.rt v) s := rfl
theorem run_wp (l l' : List Nat) (a : C) : run X (.wp l a l') s = fWp l' (run X a (wipeS s l)) := rfl
@[simp] theorem run_ex (e : E) : run X (.ex e) s = (ev X e s).bind fun _ s => .ok .nx s := rfl
@[simp] theorem run_asg (tg : Tg) (e : E) : run X (.asg tg e) s = (ev X e s).bind fun v s => (asgV tg v s).bind fun _ s => .ok .nx s := rfl
@[simp] theorem run_ret (e : E) : run X (.ret e) s = (ev X e s).bind fun v s => (outV v s).bind fun v s => .ok (.rt v) s := rfl
@[simp] theorem run_ite (t : E) (a b : C) : run X (.ite t a b) s = (evT X t s).bind fun c s => if c then run X a s else run X b s := rfl
theorem run_for (tg : Tg) (k : IK) (src : A) (body : C) : run X (.for_ tg k src body) s = (evA X src s).bind fun ds s => match itemsD k ds with
    | some xs => loop (fun d s => (asgT tg d s).bind fun _ s => run X body s) xs s
    | none => .no := rfl
end
/-! ### calls -/
/-- a def's end -/
def endF : R Fl → RC
  | .ok .nx s => .ok (.im .non) s.st
  | .ok (.rt (.pk _)) _ => .no
  | .ok (.rt v) s => .ok v s.st
  | .er c fs s => .er c fs s.st
  | _ => .no
def callF (X : Env) (f : Fn) (ds : List D) (st : List (Option D)) : RC := if ds.length = f.np ∧ f.np ≤ f.n then endF (run X f.body ⟨ds.map .im ++ List.replicate (f.n - f.np) .no, st⟩) else .no
/-- __init__ of a new object that stands in slot 0 alone -/
def endN : R Fl → RC
  | .ok .nx s => match (s.ρ[0]? : Option Sl) with
    | some (Sl.own d) => .ok (.own d) s.st
    | _ => .no
  | .er c fs s => .er c fs s.st
  | _ => .no
def callN (X : Env) (c : Nat) (f : Fn) (ds : List D) (st : List (Option D)) : RC := if ds.length + 1 = f.np ∧ f.np ≤ f.n then endN (run X f.body ⟨.own (.ins c []) :: (ds.map .im ++ List.replicate (f.n - f.np) .no), st⟩) else .no
structure Prog where
  fns : Nat → Option Fn
  glo : Nat → Option D
  sub : Nat → Nat → Option Bool
  na : Nat → Str → Bool
  wf : Nat
def fnB (P : Prog) (X : Env) (f : Nat) (ds : List D) (st : List (Option D)) : RC := match P.fns f with
  | some g => callF X g ds st
  | none => .no
def nwB (P : Prog) (X : Env) (c f : Nat) (ds : List D) (st : List (Option D)) : RC := match P.fns f with
  | some g => callN X c g ds st
  | none => .no
def envL (P : Prog) : Nat → Env
  | 0 => ⟨fun _ _ _ => .no, fun _ _ _ => .no, fun _ _ _ _ => .no, P.glo, P.sub, P.na, P.wf⟩
  | 1 => ⟨fnB P (envL P 0), fun _ _ _ => .no, fun _ _ _ _ => .no, P.glo, P.sub, P.na, P.wf⟩
  | n + 2 => ⟨fnB P (envL P (n + 1)), fnB P (envL P n), nwB P (envL P n), P.glo, P.sub, P.na, P.wf⟩
end PB

set_option Elab.async false
set_option linter.all false
set_option autoImplicit false
set_option maxRecDepth 100000
/-! THE BRIDGE, 2: data and the heap. -/
namespace PB
open PySem L2

/-- a text-keyed table of the written part, its values flat -/
structure SdAt (K : PySem.W.Frag) (w : World) (a : Addr) (kvs : List (Str × D)) : Prop where
  kd : ∃ es n, KDict K w a es n
  hit : ∀ z d, look z kvs = some d → ∃ u, PySem.W.nsIn K a z = some (some u) ∧ ∃ v, RelV v u ∧ ((∃ i, d = .int i ∧ v = .int i) ∨ (∃ x, d = .str x ∧ v = .str x))
  mis : ∀ z, look z kvs = none → PySem.W.nsIn K a z = some none

/-- what stays the same within a def: the written part, the world, the classes' addresses, the errors at hand -/
structure Ct where
  K : PySem.W.Frag
  w : World
  cA : Nat → Addr
  px : List (Addr × Value × Option Addr)
  pin : Option Addr := none
/-- an error's object, by what is true of it -/
def ExO (cls : Value) (d : Option Addr) (a : Addr) : HO := .ext fun h => ∃ (oe : Obj) (vs : Array Value), h.get? a = some oe ∧ Zc cls d oe ∧ oe.data = .fields vs
mutual
def Rep (c : Ct) (B : Hp) (m : List Addr) : D → V → Prop
  | .non, v => v = .non
  | .bl b, v => v = .bl b
  | .int i, v => v = .int i
  | .str s, v => v = .str s
  | .lst ds, v => ∃ a vs, v = .ref a ∧ B a = some (.lst vs) ∧ Reps c B m ds vs
  | .scr ds, v => ∃ a vs, v = .ref a ∧ SqL c.K B a vs ∧ Reps c B m ds vs
  | .tup ds, v => ∃ a vs, v = .ref a ∧ B a = some (.tup vs) ∧ Reps c B m ds vs
  | .stp ds, v => ∃ a vs, v = .ref a ∧ SqT c.K B a vs ∧ Reps c B m ds vs
  | .dk kvs, v => ∃ a us, v = .ref a ∧ Rd B a (.dK us) ∧ RepK c B m kvs us
  | .dt kvs, v => ∃ a us, v = .ref a ∧ Rd B a (.dT us) ∧ RepT c B m kvs us
  | .sd kvs, v => ∃ a, v = .ref a ∧ SdAt c.K c.w a kvs
  | .ins k fs, v => ∃ a dx us, v = .ref a ∧ B a = some (.ins (c.cA k) dx us) ∧ RepF c B m fs us
  | .cell k, v => ∃ a, v = .ref a ∧ m[k]? = some a
  | .exc k fs, v => ∃ a d, v = .ref a ∧ B a = some (ExO (.ref (c.cA k)) d a) ∧
      ((d = none ∧ fs = []) ∨ ∃ dd us, d = some dd ∧ B dd = some (.xd us) ∧ RepF c B m fs us ∧ fs ≠ [])
def Reps (c : Ct) (B : Hp) (m : List Addr) : List D → List V → Prop
  | [], vs => vs = []
  | d :: ds, vs => ∃ v us, vs = v :: us ∧ Rep c B m d v ∧ Reps c B m ds us
def RepK (c : Ct) (B : Hp) (m : List Addr) : List (Key × D) → List (Key × V) → Prop
  | [], vs => vs = []
  | (k, d) :: ds, vs => ∃ v us, vs = (k, v) :: us ∧ Rep c B m d v ∧ RepK c B m ds us
def RepT (c : Ct) (B : Hp) (m : List Addr) : List (List Key × D) → List (List Key × V) → Prop
  | [], vs => vs = []
  | (k, d) :: ds, vs => ∃ v us, vs = (k, v) :: us ∧ Rep c B m d v ∧ RepT c B m ds us
def RepF (c : Ct) (B : Hp) (m : List Addr) : List (Str × D) → List (Str × V) → Prop
  | [], vs => vs = []
  | (k, d) :: ds, vs => ∃ v us, vs = (k, v) :: us ∧ Rep c B m d v ∧ RepF c B m ds us
end
def Sub (B B' : Hp) : Prop := ∀ a o, B a = some o → B' a = some o
theorem Sub.refl (B : Hp) : Sub B B := fun _ _ h => h
theorem Sub.trans {A B C : Hp} (h : Sub A B) (k : Sub B C) : Sub A C := fun a o e => k a o (h a o e)
theorem Sub.rd {B B' : Hp} {a : Addr} {u : HO} (h : Sub B B') (r : Rd B a u) : Rd B' a u := by
  rcases r with r | ⟨o, r⟩
  · exact .inl (h _ _ r)
  · exact .inr ⟨o, h _ _ r⟩
theorem Sub.l {K : PySem.W.Frag} {B B' : Hp} {a : Addr} {xs : List V} (h : Sub B B') (r : SqL K B a xs) : SqL K B' a xs := by
  rcases r with r | r
  · exact .inl (h.rd r)
  · exact .inr r
theorem Sub.t {K : PySem.W.Frag} {B B' : Hp} {a : Addr} {xs : List V} (h : Sub B B') (r : SqT K B a xs) : SqT K B' a xs := by
  rcases r with r | r
  · exact .inl (h.rd r)
  · exact .inr r
section
variable {c : Ct} {B B' : Hp} {m m' : List Addr}
mutual
theorem Rep.mono (hB : Sub B B') (hm : ∃ e, m' = m ++ e) : ∀ (d : D) (v : V), Rep c B m d v → Rep c B' m' d v
  | .non, v, h => h
  | .bl b, v, h => h
  | .int i, v, h => h
  | .str s, v, h => h
  | .lst ds, v, h => by
    obtain ⟨a, vs, e, hs, hr⟩ := h
    exact ⟨a, vs, e, hB _ _ hs, Reps.mono hB hm ds vs hr⟩
  | .scr ds, v, h => by
    obtain ⟨a, vs, e, hs, hr⟩ := h
    exact ⟨a, vs, e, hB.l hs, Reps.mono hB hm ds vs hr⟩
  | .tup ds, v, h => by
    obtain ⟨a, vs, e, hs, hr⟩ := h
    exact ⟨a, vs, e, hB _ _ hs, Reps.mono hB hm ds vs hr⟩
  | .stp ds, v, h => by
    obtain ⟨a, vs, e, hs, hr⟩ := h
    exact ⟨a, vs, e, hB.t hs, Reps.mono hB hm ds vs hr⟩
  | .dk kvs, v, h => by
    obtain ⟨a, vs, e, hs, hr⟩ := h
    exact ⟨a, vs, e, hB.rd hs, RepK.mono hB hm kvs vs hr⟩
  | .dt kvs, v, h => by
    obtain ⟨a, vs, e, hs, hr⟩ := h
    exact ⟨a, vs, e, hB.rd hs, RepT.mono hB hm kvs vs hr⟩
  | .sd kvs, v, h => h
  | .ins k fs, v, h => by
    obtain ⟨a, dx, us, e, hs, hr⟩ := h
    exact ⟨a, dx, us, e, hB _ _ hs, RepF.mono hB hm fs us hr⟩
  | .cell k, v, h => by
    obtain ⟨a, e, hk⟩ := h
    obtain ⟨x, rfl⟩ := hm
    exact ⟨a, e, by rw [List.getElem?_append_left (List.getElem?_eq_some_iff.mp hk).1]; exact hk⟩
  | .exc k fs, v, h => by
    obtain ⟨a, d, e, h1, h2⟩ := h
    refine ⟨a, d, e, hB _ _ h1, ?_⟩
    rcases h2 with h2 | ⟨dd, us, e1, e2, h3, h4⟩
    · exact .inl h2
    · exact .inr ⟨dd, us, e1, hB _ _ e2, RepF.mono hB hm fs us h3, h4⟩
theorem Reps.mono (hB : Sub B B') (hm : ∃ e, m' = m ++ e) : ∀ (ds : List D) (vs : List V), Reps c B m ds vs → Reps c B' m' ds vs
  | [], vs, h => h
  | d :: ds, vs, h => by
    obtain ⟨v, us, e, h1, h2⟩ := h
    exact ⟨v, us, e, Rep.mono hB hm d v h1, Reps.mono hB hm ds us h2⟩
theorem RepK.mono (hB : Sub B B') (hm : ∃ e, m' = m ++ e) : ∀ (ds : List (Key × D)) (vs : List (Key × V)), RepK c B m ds vs → RepK c B' m' ds vs
  | [], vs, h => h
  | (k, d) :: ds, vs, h => by
    obtain ⟨v, us, e, h1, h2⟩ := h
    exact ⟨v, us, e, Rep.mono hB hm d v h1, RepK.mono hB hm ds us h2⟩
theorem RepT.mono (hB : Sub B B') (hm : ∃ e, m' = m ++ e) : ∀ (ds : List (List Key × D)) (vs : List (List Key × V)), RepT c B m ds vs → RepT c B' m' ds vs
  | [], vs, h => h
  | (k, d) :: ds, vs, h => by
    obtain ⟨v, us, e, h1, h2⟩ := h
    exact ⟨v, us, e, Rep.mono hB hm d v h1, RepT.mono hB hm ds us h2⟩
theorem RepF.mono (hB : Sub B B') (hm : ∃ e, m' = m ++ e) : ∀ (ds : List (Str × D)) (vs : List (Str × V)), RepF c B m ds vs → RepF c B' m' ds vs
  | [], vs, h => h
  | (k, d) :: ds, vs, h => by
    obtain ⟨v, us, e, h1, h2⟩ := h
    exact ⟨v, us, e, Rep.mono hB hm d v h1, RepF.mono hB hm ds us h2⟩
end
theorem Reps.length : ∀ {ds : List D} {vs : List V}, Reps c B m ds vs → vs.length = ds.length
  | [], _, h => by
    rw [show _ = [] from h]
    rfl
  | d :: ds, _, h => by
    obtain ⟨v, us, rfl, _, h2⟩ := h
    rw [List.length_cons, List.length_cons, Reps.length h2]
theorem Reps.get : ∀ {ds : List D} {vs : List V} {i : Nat} {d : D}, Reps c B m ds vs → ds[i]? = some d → ∃ v, vs[i]? = some v ∧ Rep c B m d v
  | [], _, _, _, _, h => by cases h
  | d :: ds, _, 0, e, h, q => by
    obtain ⟨v, us, rfl, h1, h2⟩ := h
    cases q
    exact ⟨v, rfl, h1⟩
  | d :: ds, _, i + 1, e, h, q => by
    obtain ⟨v, us, rfl, h1, h2⟩ := h
    exact Reps.get (i := i) h2 q
theorem Reps.append : ∀ {ds es : List D} {vs us : List V}, Reps c B m ds vs → Reps c B m es us → Reps c B m (ds ++ es) (vs ++ us)
  | [], _, _, _, h, k => by
    rw [show _ = [] from h]
    exact k
  | d :: ds, _, _, _, h, k => by
    obtain ⟨v, us, rfl, h1, h2⟩ := h
    exact ⟨v, _, rfl, h1, Reps.append h2 k⟩
theorem Reps.one {d : D} {v : V} (h : Rep c B m d v) : Reps c B m [d] [v] := ⟨v, [], rfl, h, rfl⟩
theorem Reps.take : ∀ {ds : List D} {vs : List V} (n : Nat), Reps c B m ds vs → Reps c B m (ds.take n) (vs.take n)
  | _, _, 0, _ => rfl
  | [], _, n + 1, h => by
    rw [show _ = [] from h]
    exact rfl
  | d :: ds, _, n + 1, h => by
    obtain ⟨v, us, rfl, h1, h2⟩ := h
    exact ⟨v, _, rfl, h1, Reps.take n h2⟩
theorem Reps.drop : ∀ {ds : List D} {vs : List V} (n : Nat), Reps c B m ds vs → Reps c B m (ds.drop n) (vs.drop n)
  | _, _, 0, h => h
  | [], _, n + 1, h => by
    rw [show _ = [] from h]
    exact rfl
  | d :: ds, _, n + 1, h => by
    obtain ⟨v, us, rfl, h1, h2⟩ := h
    exact Reps.drop n h2
theorem Reps.reverse : ∀ {ds : List D} {vs : List V}, Reps c B m ds vs → Reps c B m ds.reverse vs.reverse
  | [], _, h => by
    rw [show _ = [] from h]
    exact rfl
  | d :: ds, _, h => by
    obtain ⟨v, us, rfl, h1, h2⟩ := h
    rw [List.reverse_cons, List.reverse_cons]
    exact (Reps.reverse h2).append (.one h1)
theorem Reps.set : ∀ {ds : List D} {vs : List V} (i : Nat) {d : D} {v : V}, Reps c B m ds vs → Rep c B m d v → Reps c B m (ds.set i d) (vs.set i v)
  | [], _, _, _, _, h, _ => by
    rw [show _ = [] from h]
    exact rfl
  | d :: ds, _, 0, _, _, h, k => by
    obtain ⟨v, us, rfl, h1, h2⟩ := h
    exact ⟨_, _, rfl, k, h2⟩
  | d :: ds, _, i + 1, _, _, h, k => by
    obtain ⟨v, us, rfl, h1, h2⟩ := h
    exact ⟨_, _, rfl, h1, Reps.set i h2 k⟩
theorem Reps.eraseIdx : ∀ {ds : List D} {vs : List V} (i : Nat), Reps c B m ds vs → Reps c B m (ds.eraseIdx i) (vs.eraseIdx i)
  | [], _, _, h => by
    rw [show _ = [] from h]
    exact rfl
  | d :: ds, _, 0, h => by
    obtain ⟨v, us, rfl, h1, h2⟩ := h
    exact h2
  | d :: ds, _, i + 1, h => by
    obtain ⟨v, us, rfl, h1, h2⟩ := h
    exact ⟨_, _, rfl, h1, Reps.eraseIdx i h2⟩
theorem Reps.dropLast {ds : List D} {vs : List V} (h : Reps c B m ds vs) : Reps c B m ds.dropLast vs.dropLast := by
  rw [List.dropLast_eq_take, List.dropLast_eq_take, h.length]
  exact h.take _
theorem Reps.ints : ∀ {ds : List D} {vs : List V} {is : List Int}, Reps c B m ds vs → intsD ds = some is → vs = is.map V.int
  | [], _, _, h, e => by
    rw [show _ = [] from h]
    cases e
    rfl
  | d :: ds, _, is, h, e => by
    obtain ⟨v, us, rfl, h1, h2⟩ := h
    cases d <;> (try (simp [intsD] at e; done))
    rename_i i
    unfold intsD at e
    cases q : intsD ds with
    | none =>
      rw [q] at e
      cases e
    | some js =>
      rw [q] at e
      cases e
      rw [Reps.ints h2 q, show v = V.int i from h1]
      rfl
theorem Reps.bools : ∀ {ds : List D} {vs : List V} {is : List Bool}, Reps c B m ds vs → boolsD ds = some is → vs = is.map V.bl
  | [], _, _, h, e => by
    rw [show _ = [] from h]
    cases e
    rfl
  | d :: ds, _, is, h, e => by
    obtain ⟨v, us, rfl, h1, h2⟩ := h
    cases d <;> (try (simp [boolsD] at e; done))
    rename_i i
    unfold boolsD at e
    cases q : boolsD ds with
    | none =>
      rw [q] at e
      cases e
    | some js =>
      rw [q] at e
      cases e
      rw [Reps.bools h2 q, show v = V.bl i from h1]
      rfl
theorem Reps.strs : ∀ {ds : List D} {vs : List V} {is : List Str}, Reps c B m ds vs → strsD ds = some is → vs = is.map V.str
  | [], _, _, h, e => by
    rw [show _ = [] from h]
    cases e
    rfl
  | d :: ds, _, is, h, e => by
    obtain ⟨v, us, rfl, h1, h2⟩ := h
    cases d <;> (try (simp [strsD] at e; done))
    rename_i i
    unfold strsD at e
    cases q : strsD ds with
    | none =>
      rw [q] at e
      cases e
    | some js =>
      rw [q] at e
      cases e
      rw [Reps.strs h2 q, show v = V.str i from h1]
      rfl
end

/-! ### the world of a run -/
structure Wd where
  B : Hp
  m : List Addr
  τ : Addr → Option (Sum Nat Nat)
def Ext (w w' : Wd) : Prop := Sub w.B w'.B ∧ ∃ e, w'.m = w.m ++ e
theorem Ext.refl (w : Wd) : Ext w w := ⟨Sub.refl _, [], (List.append_nil _).symm⟩
theorem Ext.trans {a b c : Wd} (h : Ext a b) (k : Ext b c) : Ext a c := ⟨h.1.trans k.1, by
  obtain ⟨e, h2⟩ := h.2
  obtain ⟨f, k2⟩ := k.2
  exact ⟨e ++ f, by rw [k2, h2, List.append_assoc]⟩⟩
def RepO (c : Ct) (w : Wd) : HO → D → Prop
  | .lst vs, .lst ds => Reps c w.B w.m ds vs
  | .dK us, .dk kvs => RepK c w.B w.m kvs us
  | .dT us, .dt kvs => RepT c w.B w.m kvs us
  | .ins C _ us, .ins k fs => C = c.cA k ∧ RepF c w.B w.m fs us
  | _, _ => False
theorem RepO.mono {c : Ct} {w w' : Wd} {o : HO} {d : D} (x : Ext w w') (h : RepO c w o d) : RepO c w' o d := by
  unfold RepO at h ⊢
  split at h
  · exact Reps.mono x.1 x.2 _ _ h
  · exact RepK.mono x.1 x.2 _ _ h
  · exact RepT.mono x.1 x.2 _ _ h
  · exact ⟨h.1, RepF.mono x.1 x.2 _ _ h.2⟩
  · cases h
/-- only the pinned object has slot 0 for its owner -/
def PinOk (c : Ct) (w : Wd) : Prop := ∀ p a, c.pin = some p → w.τ a = some (.inl 0) → a = p
/-- the state of a run and its abstract heap; F: what stands apart, the callers' -/
structure SR (c : Ct) (F : Hp) (w : Wd) (H : Hp) (σ : L2.St) (s : S) : Prop where
  bh : Sub w.B H
  fh : Sub F H
  fb : ∀ a o, F a = some o → w.B a = none ∧ w.τ a = none
  tb : ∀ a o, w.τ a = some o → w.B a = none ∧ H a ≠ none
  im : ∀ (i : Nat) (d : D), s.ρ[i]? = some (Sl.im d) → ∃ v, σ[i]? = some (some v) ∧ Rep c w.B w.m d v
  ow : ∀ (i : Nat) (d : D), s.ρ[i]? = some (Sl.own d) → ∃ a o, σ[i]? = some (some (.ref a)) ∧ w.τ a = some (.inl i) ∧ H a = some o ∧ RepO c w o d
  ce : ∀ (k : Nat) (d : D), s.st[k]? = some (some d) → ∃ a o, w.m[k]? = some a ∧ w.τ a = some (.inr k) ∧ H a = some o ∧ RepO c w o d
  ln : w.m.length = s.st.length
  sl : s.ρ.length = σ.length
  pn : PinOk c w
def RV (c : Ct) (F : Hp) (σ : L2.St) (w : Wd) (H : Hp) : Vl → V → Prop
  | .im d, v => Rep c w.B w.m d v
  | .own d, v => ∃ a o, v = .ref a ∧ H a = some o ∧ RepO c w o d ∧ w.B a = none ∧ F a = none ∧ w.τ a = none
  | .pk i, v => σ[i]? = some (some v)
/-- x may be read as d -/
def View (c : Ct) (w : Wd) (H : Hp) (d : D) (v : V) : Prop := match d with
  | .lst ds => ∃ a vs, v = .ref a ∧ H a = some (.lst vs) ∧ Reps c w.B w.m ds vs
  | .dk kvs => ∃ a us, v = .ref a ∧ Rd H a (.dK us) ∧ RepK c w.B w.m kvs us
  | .dt kvs => ∃ a us, v = .ref a ∧ Rd H a (.dT us) ∧ RepT c w.B w.m kvs us
  | .ins k fs => ∃ a dx us, v = .ref a ∧ H a = some (.ins (c.cA k) dx us) ∧ RepF c w.B w.m fs us
  | d => Rep c w.B w.m d v

section
variable {c : Ct} {F H : Hp} {w w' : Wd} {σ : L2.St} {s : S}
theorem SR.sub (x : SR c F w H σ s) {d : D} {v : V} (h : Rep c w.B w.m d v) : View c w H d v := by
  cases d with
  | lst ds =>
    obtain ⟨a, vs, e, hs, hr⟩ := h
    exact ⟨a, vs, e, x.bh _ _ hs, hr⟩
  | dk ds =>
    obtain ⟨a, vs, e, hs, hr⟩ := h
    exact ⟨a, vs, e, x.bh.rd hs, hr⟩
  | dt ds =>
    obtain ⟨a, vs, e, hs, hr⟩ := h
    exact ⟨a, vs, e, x.bh.rd hs, hr⟩
  | ins k fs =>
    obtain ⟨a, dx, us, e, hs, hr⟩ := h
    exact ⟨a, dx, us, e, x.bh _ _ hs, hr⟩
  | _ => exact h
theorem RepO.view {a : Addr} {o : HO} {d : D} (ho : H a = some o) (h : RepO c w o d) : View c w H d (.ref a) := by
  unfold RepO at h
  split at h
  · exact ⟨a, _, rfl, ho, h⟩
  · exact ⟨a, _, rfl, .inl ho, h⟩
  · exact ⟨a, _, rfl, .inl ho, h⟩
  · obtain ⟨e, h⟩ := h
    subst e
    exact ⟨a, _, _, rfl, ho, h⟩
  · cases h
/-- an object that nobody else writes -/
theorem RepO.rep {B : Hp} {m : List Addr} {τ : Addr → Option (Sum Nat Nat)} {a : Addr} {o : HO} {d : D} (hB : B a = some o) (h : RepO c ⟨B, m, τ⟩ o d) : Rep c B m d (.ref a) := by
  unfold RepO at h
  split at h
  · exact ⟨a, _, rfl, hB, h⟩
  · exact ⟨a, _, rfl, .inl hB, h⟩
  · exact ⟨a, _, rfl, .inl hB, h⟩
  · obtain ⟨e, h⟩ := h
    subst e
    exact ⟨a, _, _, rfl, hB, h⟩
  · cases h
/-- the state stays, the world grows: values stay -/
theorem RV.im_mono (x : Ext w w') {d : D} {v : V} (h : Rep c w.B w.m d v) : Rep c w'.B w'.m d v := Rep.mono x.1 x.2 d v h
theorem SR.free (x : SR c F w H σ s) {p : Addr} (hp : H p = none) : w.B p = none ∧ F p = none ∧ w.τ p = none := by
  refine ⟨?_, ?_, ?_⟩
  · cases e : w.B p with
    | none => rfl
    | some o =>
      rw [x.bh _ _ e] at hp
      cases hp
  · cases e : F p with
    | none => rfl
    | some o =>
      rw [x.fh _ _ e] at hp
      cases hp
  · cases e : w.τ p with
    | none => rfl
    | some o => exact absurd hp (x.tb _ _ e).2
/-- the abstract heap grows -/
theorem SR.grow {H' : Hp} (x : SR c F w H σ s) (h : Sub H H') : SR c F w H' σ s where
  bh := x.bh.trans h
  fh := x.fh.trans h
  fb := x.fb
  tb := fun a o e => ⟨(x.tb a o e).1, fun z => by
    cases q : H a with
    | none => exact (x.tb a o e).2 q
    | some u =>
      rw [h _ _ q] at z
      cases z⟩
  im := x.im
  ow := fun i d e => by
    obtain ⟨a, o, h1, h2, h3, h4⟩ := x.ow i d e
    exact ⟨a, o, h1, h2, h _ _ h3, h4⟩
  ce := fun i d e => by
    obtain ⟨a, o, h1, h2, h3, h4⟩ := x.ce i d e
    exact ⟨a, o, h1, h2, h _ _ h3, h4⟩
  ln := x.ln
  sl := x.sl
  pn := x.pn
theorem sub_new {H : Hp} {p : Addr} {o : HO} (hp : H p = none) : Sub H (upd H p o) := fun a u e => by
  rw [upd_ne (ne_of_none e hp)]
  exact e
/-- an object that stands in the heap and that nobody holds is frozen -/
def Wd.add (w : Wd) (a : Addr) (o : HO) : Wd := ⟨upd w.B a o, w.m, w.τ⟩
theorem Ext.add {a : Addr} {o : HO} (h : w.B a = none) : Ext w (w.add a o) := ⟨sub_new h, [], (List.append_nil _).symm⟩
theorem SR.add (x : SR c F w H σ s) {a : Addr} {o : HO} (hH : H a = some o) (hB : w.B a = none) (hF : F a = none) (hτ : w.τ a = none) : SR c F (w.add a o) H σ s := by
  have ex : Ext w (w.add a o) := Ext.add hB
  refine ⟨fun b u e => ?_, x.fh, fun b u e => ⟨?_, (x.fb b u e).2⟩, fun b u e => ⟨?_, (x.tb b u e).2⟩, fun i d e => ?_, fun i d e => ?_, fun i d e => ?_, x.ln, x.sl, x.pn⟩
  · have e' : upd w.B a o b = some u := e
    by_cases z : b = a
    · subst z
      rw [upd_same] at e'
      cases e'
      exact hH
    · rw [upd_ne z] at e'
      exact x.bh _ _ e'
  · have z : b ≠ a := fun z => by
      rw [z, hF] at e
      cases e
    show upd w.B a o b = none
    rw [upd_ne z]
    exact (x.fb b u e).1
  · have z : b ≠ a := fun z => by
      have e' : w.τ b = some u := e
      rw [z, hτ] at e'
      cases e'
    show upd w.B a o b = none
    rw [upd_ne z]
    exact (x.tb b u e).1
  · obtain ⟨v, h1, h2⟩ := x.im i d e
    exact ⟨v, h1, RV.im_mono ex h2⟩
  · obtain ⟨b, u, h1, h2, h3, h4⟩ := x.ow i d e
    exact ⟨b, u, h1, h2, h3, h4.mono ex⟩
  · obtain ⟨b, u, h1, h2, h3, h4⟩ := x.ce i d e
    exact ⟨b, u, h1, h2, h3, h4.mono ex⟩
/-- a slot gets a value that is frozen -/
theorem SR.put (x : SR c F w H σ s) {i : Nat} {d : D} {v : V} (h : Rep c w.B w.m d v) : SR c F w H (σ.set i (some v)) { s with ρ := s.ρ.set i (.im d) } := by
  refine ⟨x.bh, x.fh, x.fb, x.tb, fun j e q => ?_, fun j e q => ?_, x.ce, x.ln, by simp [x.sl], x.pn⟩
  · by_cases z : j = i
    · subst z
      have hl : j < s.ρ.length := by
        have := (List.getElem?_eq_some_iff.mp q).1
        simpa using this
      rw [List.getElem?_set_self hl] at q
      cases q
      exact ⟨v, by rw [List.getElem?_set_self (by rw [← x.sl]; exact hl)], h⟩
    · rw [List.getElem?_set_ne (Ne.symm z)] at q
      rw [List.getElem?_set_ne (Ne.symm z)]
      exact x.im j e q
  · by_cases z : j = i
    · subst z
      have hl : j < s.ρ.length := by
        have := (List.getElem?_eq_some_iff.mp q).1
        simpa using this
      rw [List.getElem?_set_self hl] at q
      cases q
    · rw [List.getElem?_set_ne (Ne.symm z)] at q
      rw [List.getElem?_set_ne (Ne.symm z)]
      exact x.ow j e q
/-- a slot is forgotten -/
theorem SR.drop (x : SR c F w H σ s) {i : Nat} {v : Option V} : SR c F w H (σ.set i v) { s with ρ := s.ρ.set i .no } := by
  refine ⟨x.bh, x.fh, x.fb, x.tb, fun j e q => ?_, fun j e q => ?_, x.ce, x.ln, by simp [x.sl], x.pn⟩
  · by_cases z : j = i
    · subst z
      have hl : j < s.ρ.length := by
        have := (List.getElem?_eq_some_iff.mp q).1
        simpa using this
      rw [List.getElem?_set_self hl] at q
      cases q
    · rw [List.getElem?_set_ne (Ne.symm z)] at q
      rw [List.getElem?_set_ne (Ne.symm z)]
      exact x.im j e q
  · by_cases z : j = i
    · subst z
      have hl : j < s.ρ.length := by
        have := (List.getElem?_eq_some_iff.mp q).1
        simpa using this
      rw [List.getElem?_set_self hl] at q
      cases q
    · rw [List.getElem?_set_ne (Ne.symm z)] at q
      rw [List.getElem?_set_ne (Ne.symm z)]
      exact x.ow j e q
/-- the owner of an object -/
def Wd.own (w : Wd) (a : Addr) (t : Option (Sum Nat Nat)) : Wd := ⟨w.B, w.m, fun b => if b = a then t else w.τ b⟩
theorem Ext.own {a : Addr} {t : Option (Sum Nat Nat)} : Ext w (w.own a t) := ⟨Sub.refl _, [], (List.append_nil _).symm⟩
theorem RepO.own {a : Addr} {t : Option (Sum Nat Nat)} {o : HO} {d : D} (h : RepO c w o d) : RepO c (w.own a t) o d := h.mono Ext.own
theorem own_same {a : Addr} {t : Option (Sum Nat Nat)} : (w.own a t).τ a = t := if_pos rfl
theorem own_ne {a b : Addr} {t : Option (Sum Nat Nat)} (h : b ≠ a) : (w.own a t).τ b = w.τ b := if_neg h
/-- a slot gets an object that nobody holds -/
theorem SR.bind (x : SR c F w H σ s) {i : Nat} {d : D} {a : Addr} {o : HO} (hH : H a = some o) (hr : RepO c w o d) (hB : w.B a = none) (hF : F a = none) (hτ : w.τ a = none) (hi : i ≠ 0) :
    SR c F (w.own a (some (.inl i))) H (σ.set i (some (.ref a))) { s with ρ := s.ρ.set i (.own d) } := by
  refine ⟨x.bh, x.fh, fun b u e => ⟨(x.fb b u e).1, ?_⟩, fun b u e => ?_, fun j e q => ?_, fun j e q => ?_, fun j e q => ?_, x.ln, by simp [x.sl], fun p b hp e => ?_⟩
  · have z : b ≠ a := fun z => by
      rw [z, hF] at e
      cases e
    rw [own_ne z]
    exact (x.fb b u e).2
  · by_cases z : b = a
    · subst z
      exact ⟨hB, by rw [hH]; simp⟩
    · rw [own_ne z] at e
      exact x.tb b u e
  · by_cases z : j = i
    · subst z
      have hl : j < s.ρ.length := by
        have := (List.getElem?_eq_some_iff.mp q).1
        simpa using this
      rw [List.getElem?_set_self hl] at q
      cases q
    · rw [List.getElem?_set_ne (Ne.symm z)] at q
      rw [List.getElem?_set_ne (Ne.symm z)]
      exact x.im j e q
  · by_cases z : j = i
    · subst z
      have hl : j < s.ρ.length := by
        have := (List.getElem?_eq_some_iff.mp q).1
        simpa using this
      rw [List.getElem?_set_self hl] at q
      cases q
      exact ⟨a, o, by rw [List.getElem?_set_self (by rw [← x.sl]; exact hl)], own_same, hH, hr.own⟩
    · rw [List.getElem?_set_ne (Ne.symm z)] at q
      rw [List.getElem?_set_ne (Ne.symm z)]
      obtain ⟨b, u, h1, h2, h3, h4⟩ := x.ow j e q
      exact ⟨b, u, h1, by rw [own_ne fun z => by rw [z, hτ] at h2; cases h2]; exact h2, h3, h4.own⟩
  · obtain ⟨b, u, h1, h2, h3, h4⟩ := x.ce j e q
    exact ⟨b, u, h1, by rw [own_ne fun z => by rw [z, hτ] at h2; cases h2]; exact h2, h3, h4.own⟩
  · by_cases z : b = a
    · subst z
      rw [own_same] at e
      cases e
      exact absurd rfl hi
    · rw [own_ne z] at e
      exact x.pn p b hp e
theorem SR.pnN (x : SR c F w H σ s) {a : Addr} : PinOk c (w.own a none) := fun p b hp e => by
  by_cases z : b = a
  · subst z
    rw [own_same] at e
    cases e
  · rw [own_ne z] at e
    exact x.pn p b hp e
/-- a slot's object is frozen -/
theorem SR.freeze (x : SR c F w H σ s) {i : Nat} {d : D} (h : s.ρ[i]? = some (Sl.own d)) {v : V} (hv : σ[i]? = some (some v)) :
    ∃ w', SR c F w' H σ { s with ρ := s.ρ.set i (.im d) } ∧ Ext w w' ∧ Rep c w'.B w'.m d v := by
  obtain ⟨a, o, h1, h2, h3, h4⟩ := x.ow i d h
  rw [hv] at h1
  cases h1
  have hB := (x.tb _ _ h2).1
  have hF : F a = none := by
    cases e : F a with
    | none => rfl
    | some u =>
      have := (x.fb _ _ e).2
      rw [h2] at this
      cases this
  have hl := (List.getElem?_eq_some_iff.mp h).1
  have e1 : Ext w ((w.own a none).add a o) := (Ext.own (a := a) (t := none)).trans (Ext.add hB)
  refine ⟨(w.own a none).add a o, ⟨fun b u e => ?_, x.fh, fun b u e => ⟨?_, ?_⟩, fun b u e => ?_, fun j e q => ?_, fun j e q => ?_, fun j e q => ?_, x.ln, by simpa using x.sl, x.pnN (a := a)⟩, e1, ?_⟩
  · have e' : upd w.B a o b = some u := e
    by_cases z : b = a
    · subst z
      rw [upd_same] at e'
      cases e'
      exact h3
    · rw [upd_ne z] at e'
      exact x.bh _ _ e'
  · have z : b ≠ a := fun z => by
      rw [z, hF] at e
      cases e
    show upd w.B a o b = none
    rw [upd_ne z]
    exact (x.fb b u e).1
  · have z : b ≠ a := fun z => by
      rw [z, hF] at e
      cases e
    show (w.own a none).τ b = none
    rw [own_ne z]
    exact (x.fb b u e).2
  · have e' : (w.own a none).τ b = some u := e
    have z : b ≠ a := fun z => by
      rw [z, own_same] at e'
      cases e'
    rw [own_ne z] at e'
    refine ⟨?_, (x.tb b u e').2⟩
    show upd w.B a o b = none
    rw [upd_ne z]
    exact (x.tb b u e').1
  · by_cases z : j = i
    · subst z
      rw [List.getElem?_set_self hl] at q
      cases q
      exact ⟨_, hv, RepO.rep (τ := w.τ) (show upd w.B a o a = some o from upd_same) (h4.mono (w' := ⟨upd w.B a o, w.m, w.τ⟩) e1)⟩
    · rw [List.getElem?_set_ne (Ne.symm z)] at q
      obtain ⟨v, k1, k2⟩ := x.im j e q
      exact ⟨v, k1, RV.im_mono e1 k2⟩
  · by_cases z : j = i
    · subst z
      rw [List.getElem?_set_self hl] at q
      cases q
    · rw [List.getElem?_set_ne (Ne.symm z)] at q
      obtain ⟨b, u, k1, k2, k3, k4⟩ := x.ow j e q
      have zb : b ≠ a := fun zb => by
        rw [zb, h2] at k2
        cases k2
        exact z rfl
      exact ⟨b, u, k1, by show (w.own a none).τ b = _; rw [own_ne zb]; exact k2, k3, k4.mono e1⟩
  · obtain ⟨b, u, k1, k2, k3, k4⟩ := x.ce j e q
    have zb : b ≠ a := fun zb => by
      rw [zb, h2] at k2
      cases k2
    exact ⟨b, u, k1, by show (w.own a none).τ b = _; rw [own_ne zb]; exact k2, k3, k4.mono e1⟩
  · exact RepO.rep (τ := w.τ) (show upd w.B a o a = some o from upd_same) (h4.mono (w' := ⟨upd w.B a o, w.m, w.τ⟩) e1)
/-- a slot's own object is written -/
theorem SR.write (x : SR c F w H σ s) {i : Nat} {d d' : D} {a : Addr} {o' : HO} (h : s.ρ[i]? = some (Sl.own d)) (hv : σ[i]? = some (some (.ref a))) (hr : RepO c w o' d') :
    SR c F w (upd H a o') σ { s with ρ := s.ρ.set i (.own d') } := by
  obtain ⟨a', o, h1, h2, h3, h4⟩ := x.ow i d h
  rw [hv] at h1
  cases h1
  have hB := (x.tb _ _ h2).1
  have hl := (List.getElem?_eq_some_iff.mp h).1
  refine ⟨fun b u e => ?_, fun b u e => ?_, x.fb, fun b u e => ⟨(x.tb b u e).1, ?_⟩, fun j e q => ?_, fun j e q => ?_, fun j e q => ?_, x.ln, by simpa using x.sl, x.pn⟩
  · have z : b ≠ a := fun z => by
      rw [z, hB] at e
      cases e
    rw [upd_ne z]
    exact x.bh _ _ e
  · have z : b ≠ a := fun z => by
      have := (x.fb _ _ e).2
      rw [z, h2] at this
      cases this
    rw [upd_ne z]
    exact x.fh _ _ e
  · by_cases z : b = a
    · subst z
      rw [upd_same]
      simp
    · rw [upd_ne z]
      exact (x.tb b u e).2
  · by_cases z : j = i
    · subst z
      rw [List.getElem?_set_self hl] at q
      cases q
    · rw [List.getElem?_set_ne (Ne.symm z)] at q
      exact x.im j e q
  · by_cases z : j = i
    · subst z
      rw [List.getElem?_set_self hl] at q
      cases q
      exact ⟨a, o', hv, h2, upd_same, hr⟩
    · rw [List.getElem?_set_ne (Ne.symm z)] at q
      obtain ⟨b, u, k1, k2, k3, k4⟩ := x.ow j e q
      have zb : b ≠ a := fun zb => by
        rw [zb, h2] at k2
        cases k2
        exact z rfl
      exact ⟨b, u, k1, k2, by rw [upd_ne zb]; exact k3, k4⟩
  · obtain ⟨b, u, k1, k2, k3, k4⟩ := x.ce j e q
    have zb : b ≠ a := fun zb => by
      rw [zb, h2] at k2
      cases k2
    exact ⟨b, u, k1, k2, by rw [upd_ne zb]; exact k3, k4⟩
/-- a cell is written -/
theorem SR.store (x : SR c F w H σ s) {i : Nat} {d d' : D} {a : Addr} {o' : HO} (h : s.st[i]? = some (some d)) (hv : w.m[i]? = some a) (hr : RepO c w o' d') :
    SR c F w (upd H a o') σ { s with st := s.st.set i (some d') } := by
  obtain ⟨a', o, h1, h2, h3, h4⟩ := x.ce i d h
  rw [hv] at h1
  cases h1
  have hB := (x.tb _ _ h2).1
  have hl := (List.getElem?_eq_some_iff.mp h).1
  refine ⟨fun b u e => ?_, fun b u e => ?_, x.fb, fun b u e => ⟨(x.tb b u e).1, ?_⟩, x.im, fun j e q => ?_, fun j e q => ?_, by simpa using x.ln, x.sl, x.pn⟩
  · have z : b ≠ a := fun z => by
      rw [z, hB] at e
      cases e
    rw [upd_ne z]
    exact x.bh _ _ e
  · have z : b ≠ a := fun z => by
      have := (x.fb _ _ e).2
      rw [z, h2] at this
      cases this
    rw [upd_ne z]
    exact x.fh _ _ e
  · by_cases z : b = a
    · subst z
      rw [upd_same]
      simp
    · rw [upd_ne z]
      exact (x.tb b u e).2
  · obtain ⟨b, u, k1, k2, k3, k4⟩ := x.ow j e q
    have zb : b ≠ a := fun zb => by
      rw [zb, h2] at k2
      cases k2
    exact ⟨b, u, k1, k2, by rw [upd_ne zb]; exact k3, k4⟩
  · by_cases z : j = i
    · subst z
      rw [List.getElem?_set_self hl] at q
      cases q
      exact ⟨a, o', hv, h2, upd_same, hr⟩
    · rw [List.getElem?_set_ne (Ne.symm z)] at q
      obtain ⟨b, u, k1, k2, k3, k4⟩ := x.ce j e q
      have zb : b ≠ a := fun zb => by
        rw [zb, h2] at k2
        cases k2
        exact z rfl
      exact ⟨b, u, k1, k2, by rw [upd_ne zb]; exact k3, k4⟩
/-- a new cell -/
def Wd.cel (w : Wd) (a : Addr) : Wd := ⟨w.B, w.m ++ [a], fun b => if b = a then some (.inr w.m.length) else w.τ b⟩
theorem Ext.cel {a : Addr} : Ext w (w.cel a) := ⟨Sub.refl _, [a], rfl⟩
theorem SR.newCell (x : SR c F w H σ s) {d : D} {a : Addr} {o : HO} (hH : H a = some o) (hr : RepO c w o d) (hB : w.B a = none) (hF : F a = none) (hτ : w.τ a = none) :
    SR c F (w.cel a) H σ { s with st := s.st ++ [some d] } := by
  have tn : ∀ {b : Addr}, b ≠ a → (w.cel a).τ b = w.τ b := fun h => if_neg h
  refine ⟨x.bh, x.fh, fun b u e => ⟨(x.fb b u e).1, ?_⟩, fun b u e => ?_, fun j e q => ?_, fun j e q => ?_, fun j e q => ?_, by show (w.m ++ [a]).length = (s.st ++ [some d]).length; simp [x.ln], x.sl, fun p b hp e => ?_⟩
  · have z : b ≠ a := fun z => by
      rw [z, hF] at e
      cases e
    rw [tn z]
    exact (x.fb b u e).2
  · by_cases z : b = a
    · subst z
      exact ⟨hB, by rw [hH]; simp⟩
    · rw [tn z] at e
      exact x.tb b u e
  · obtain ⟨v, h1, h2⟩ := x.im j e q
    exact ⟨v, h1, RV.im_mono Ext.cel h2⟩
  · obtain ⟨b, u, h1, h2, h3, h4⟩ := x.ow j e q
    exact ⟨b, u, h1, by rw [tn fun z => by rw [z, hτ] at h2; cases h2]; exact h2, h3, h4.mono Ext.cel⟩
  · by_cases z : j < s.st.length
    · rw [List.getElem?_append_left z] at q
      obtain ⟨b, u, h1, h2, h3, h4⟩ := x.ce j e q
      refine ⟨b, u, ?_, by rw [tn fun z => by rw [z, hτ] at h2; cases h2]; exact h2, h3, h4.mono Ext.cel⟩
      show (w.m ++ [a])[j]? = some b
      rw [List.getElem?_append_left (by rw [x.ln]; exact z)]
      exact h1
    · have zj : j = s.st.length := by
        have := (List.getElem?_eq_some_iff.mp q).1
        simp at this
        omega
      subst zj
      rw [List.getElem?_append_right (Nat.le_refl _), Nat.sub_self] at q
      cases q
      refine ⟨a, o, ?_, ?_, hH, hr.mono Ext.cel⟩
      · show (w.m ++ [a])[s.st.length]? = some a
        rw [← x.ln, List.getElem?_append_right (Nat.le_refl _), Nat.sub_self]
        rfl
      · show (if a = a then some (Sum.inr w.m.length) else w.τ a) = some (.inr s.st.length)
        rw [if_pos rfl, x.ln]
  · by_cases z : b = a
    · subst z
      have e : (if b = b then some (Sum.inr w.m.length) else w.τ b) = some (.inl 0) := e
      rw [if_pos rfl] at e
      cases e
    · rw [tn z] at e
      exact x.pn p b hp e
/-- a cell is frozen -/
theorem SR.freezeCell (x : SR c F w H σ s) {i : Nat} {d : D} (h : s.st[i]? = some (some d)) {a : Addr} (hv : w.m[i]? = some a) :
    ∃ w', SR c F w' H σ { s with st := s.st.set i none } ∧ Ext w w' ∧ Rep c w'.B w'.m d (.ref a) := by
  obtain ⟨a', o, h1, h2, h3, h4⟩ := x.ce i d h
  rw [hv] at h1
  cases h1
  have hB := (x.tb _ _ h2).1
  have hF : F a = none := by
    cases e : F a with
    | none => rfl
    | some u =>
      have := (x.fb _ _ e).2
      rw [h2] at this
      cases this
  have hl := (List.getElem?_eq_some_iff.mp h).1
  have e1 : Ext w ((w.own a none).add a o) := (Ext.own (a := a) (t := none)).trans (Ext.add hB)
  refine ⟨(w.own a none).add a o, ⟨fun b u e => ?_, x.fh, fun b u e => ⟨?_, ?_⟩, fun b u e => ?_, fun j e q => ?_, fun j e q => ?_, fun j e q => ?_, by show w.m.length = (s.st.set i none).length; rw [List.length_set]; exact x.ln, x.sl, x.pnN (a := a)⟩, e1, ?_⟩
  · have e' : upd w.B a o b = some u := e
    by_cases z : b = a
    · subst z
      rw [upd_same] at e'
      cases e'
      exact h3
    · rw [upd_ne z] at e'
      exact x.bh _ _ e'
  · have z : b ≠ a := fun z => by
      rw [z, hF] at e
      cases e
    show upd w.B a o b = none
    rw [upd_ne z]
    exact (x.fb b u e).1
  · have z : b ≠ a := fun z => by
      rw [z, hF] at e
      cases e
    show (w.own a none).τ b = none
    rw [own_ne z]
    exact (x.fb b u e).2
  · have e' : (w.own a none).τ b = some u := e
    have z : b ≠ a := fun z => by
      rw [z, own_same] at e'
      cases e'
    rw [own_ne z] at e'
    refine ⟨?_, (x.tb b u e').2⟩
    show upd w.B a o b = none
    rw [upd_ne z]
    exact (x.tb b u e').1
  · obtain ⟨v, k1, k2⟩ := x.im j e q
    exact ⟨v, k1, RV.im_mono e1 k2⟩
  · obtain ⟨b, u, k1, k2, k3, k4⟩ := x.ow j e q
    have zb : b ≠ a := fun zb => by
      rw [zb, h2] at k2
      cases k2
    exact ⟨b, u, k1, by show (w.own a none).τ b = _; rw [own_ne zb]; exact k2, k3, k4.mono e1⟩
  · by_cases z : j = i
    · subst z
      rw [List.getElem?_set_self hl] at q
      cases q
    · rw [List.getElem?_set_ne (Ne.symm z)] at q
      obtain ⟨b, u, k1, k2, k3, k4⟩ := x.ce j e q
      have zb : b ≠ a := fun zb => by
        rw [zb, h2] at k2
        cases k2
        exact z rfl
      exact ⟨b, u, k1, by show (w.own a none).τ b = _; rw [own_ne zb]; exact k2, k3, k4.mono e1⟩
  · exact RepO.rep (τ := w.τ) (show upd w.B a o a = some o from upd_same) (h4.mono (w' := ⟨upd w.B a o, w.m, w.τ⟩) e1)

/-! ### values and what they are read as -/
theorem RV.hold (x : SR c F w H σ s) {v : Vl} {z : V} (h : RV c F σ w H v z) : ∃ w', SR c F w' H σ s ∧ Ext w w' ∧ RV c F σ w' H v.hold z := by
  cases v with
  | im d => exact ⟨w, x, Ext.refl _, h⟩
  | pk i => exact ⟨w, x, Ext.refl _, h⟩
  | own d =>
    obtain ⟨a, o, rfl, h1, h2, h3, h4, h5⟩ := h
    have ex : Ext w (w.add a o) := Ext.add h3
    exact ⟨w.add a o, x.add h1 h3 h4 h5, ex, RepO.rep (B := (w.add a o).B) (m := w.m) (τ := w.τ) upd_same (h2.mono (w' := ⟨(w.add a o).B, w.m, w.τ⟩) ex)⟩
/-- held values stay -/
theorem RV.mono {H' : Hp} (ex : Ext w w') {v : Vl} {z : V} (hv : v.hold = v) (h : RV c F σ w H v z) : RV c F σ w' H' v z := by
  cases v with
  | im d => exact RV.im_mono ex h
  | pk i => exact h
  | own d => cases hv
theorem hold_hold (v : Vl) : v.hold.hold = v.hold := by cases v <;> rfl
theorem RV.look (x : SR c F w H σ s) {v : Vl} {z : V} {d : D} (h : RV c F σ w H v z) (e : v.look s = some d) : View c w H d z := by
  cases v with
  | im d' =>
    have e' : deref s.st d' = some d := e
    cases d' with
    | cell k =>
      obtain ⟨a, rfl, hk⟩ := h
      have e'' : (match s.st[k]? with | some (some d) => some d | _ => none) = some d := e'
      split at e''
      · cases e''
        rename_i q
        obtain ⟨b, o, h1, h2, h3, h4⟩ := x.ce k d q
        rw [hk] at h1
        cases h1
        exact h4.view h3
      · cases e''
    | _ =>
      cases e'
      exact x.sub h
  | own d' =>
    cases e
    obtain ⟨a, o, rfl, h1, h2, h3, h4, h5⟩ := h
    exact h2.view h1
  | pk i =>
    have e' : (match s.ρ[i]? with | some (.own d) => some d | _ => none) = some d := e
    split at e'
    · cases e'
      rename_i q
      obtain ⟨b, o, h1, h2, h3, h4⟩ := x.ow i d q
      have h' : σ[i]? = some (some z) := h
      rw [h'] at h1
      cases h1
      exact h4.view h3
    · cases e'
theorem RV.fz (x : SR c F w H σ s) {v : Vl} {z : V} {d : D} {s' : S} (h : RV c F σ w H v z) (e : v.fz s = .ok d s') : ∃ w', SR c F w' H σ s' ∧ Ext w w' ∧ Rep c w'.B w'.m d z := by
  cases v with
  | im d' =>
    cases e
    exact ⟨w, x, Ext.refl _, h⟩
  | own d' =>
    cases e
    exact RV.hold x h
  | pk i =>
    have e' : (match s.ρ[i]? with | some (.own d) => R.ok d { s with ρ := s.ρ.set i (.im d) } | _ => .no) = .ok d s' := e
    split at e'
    · cases e'
      rename_i q
      exact x.freeze q h
    · cases e'
theorem fz_noEr {v : Vl} {s s' : S} {k : Nat} {fs : List (Str × D)} (e : v.fz s = .er k fs s') : False := by
  cases v with
  | im d => cases e
  | own d => cases e
  | pk i =>
    have e' : (match s.ρ[i]? with | some (.own d) => R.ok d { s with ρ := s.ρ.set i (.im d) } | _ => .no) = .er k fs s' := e
    split at e' <;> cases e'
end
end PB

set_option Elab.async false
set_option linter.all false
set_option autoImplicit false
set_option maxRecDepth 100000
/-! THE BRIDGE, 3: the operations. -/
namespace PB
open PySem L2

/-- an error that leaves -/
def ExR (c : Ct) (w : Wd) (k : Nat) (fs : List (Str × D)) (cls : Value) (d : Option Addr) : Prop :=
  cls = .ref (c.cA k) ∧ ((d = none ∧ fs = []) ∨ ∃ dd us, d = some dd ∧ w.B dd = some (.xd us) ∧ RepF c w.B w.m fs us ∧ fs ≠ [])
def Post {α β : Type} (c : Ct) (F : Hp) (σ : L2.St) (W : WX) (w : Wd) (rel : Wd → Hp → α → β → Prop) (Q : β → Hp → Prop) : R α → Prop
  | .ok a s' => ∀ w' H' x, SR c F w' H' σ s' → Ext w w' → rel w' H' a x → Q x H'
  | .er k fs s' => ∀ w' H' cls d, SR c F w' H' σ s' → Ext w w' → ExR c w' k fs cls d → W cls d σ H'
  | .no => False
section
variable {c : Ct} {F H : Hp} {w w' : Wd} {σ : L2.St} {s : S} {W : WX}
theorem Post.ext {α β : Type} {rel : Wd → Hp → α → β → Prop} {Q : β → Hp → Prop} {r : R α} (x : Ext w w') (h : Post c F σ W w rel Q r) : Post c F σ W w' rel Q r := by
  cases r with
  | ok a s' => exact fun w1 H1 y sr ex rl => h w1 H1 y sr (x.trans ex) rl
  | er k fs s' => exact fun w1 H1 cls d sr ex rl => h w1 H1 cls d sr (x.trans ex) rl
  | no => exact h
theorem Post.bind {α β γ δ : Type} {rel : Wd → Hp → α → β → Prop} {rel1 : Wd → Hp → γ → δ → Prop} {Q : β → Hp → Prop} {Q1 : δ → Hp → Prop} {r : R γ} {f : γ → S → R α}
    (h : Post c F σ W w rel Q (r.bind f)) (k : ∀ a s1 w1 H1 x, SR c F w1 H1 σ s1 → Ext w w1 → rel1 w1 H1 a x → Post c F σ W w1 rel Q (f a s1) → Q1 x H1) : Post c F σ W w rel1 Q1 r := by
  cases r with
  | ok a s' => exact fun w1 H1 y sr ex rl => k a s' w1 H1 y sr ex rl (Post.ext (r := f a s') ex h)
  | er k fs s' => exact h
  | no => exact h
/-- what an operation gives -/
def Fin (c : Ct) (F : Hp) (σ : L2.St) (s : S) (w : Wd) (Q : VK) : Option Vl → Prop
  | some v => ∀ w' H' z, SR c F w' H' σ s → Ext w w' → RV c F σ w' H' v z → Q z H'
  | none => False
theorem fin_post {Q : VK} {o : Option Vl} (h : Post c F σ W w (RV c F σ) Q (toR s o)) : Fin c F σ s w Q o := by
  cases o with
  | none => exact h
  | some v => exact h
theorem fin_im {Q : VK} {d : D} {z : V} (h : Fin c F σ s w Q (some (.im d))) (x : SR c F w H σ s) (r : Rep c w.B w.m d z) : Q z H := h w H z x (Ext.refl _) r
theorem fin_own {Q : VK} {d : D} {p : Addr} {o : HO} (h : Fin c F σ s w Q (some (.own d))) (x : SR c F w H σ s) (hp : H p = none) (r : RepO c w o d) : Q (.ref p) (upd H p o) := by
  obtain ⟨h1, h2, h3⟩ := x.free hp
  exact h w _ _ (x.grow (sub_new hp)) (Ext.refl _) ⟨p, o, rfl, upd_same, r, h1, h2, h3⟩
theorem fin_tup {Q : VK} {ds : List D} {vs : List V} {p : Addr} (h : Fin c F σ s w Q (some (.im (.tup ds)))) (x : SR c F w H σ s) (hp : H p = none) (r : Reps c w.B w.m ds vs) : Q (.ref p) (upd H p (.tup vs)) := by
  obtain ⟨h1, h2, h3⟩ := x.free hp
  have ex : Ext w (w.add p (.tup vs)) := Ext.add h1
  exact h _ _ _ ((x.grow (sub_new hp)).add upd_same h1 h2 h3) ex ⟨p, vs, rfl, upd_same, Reps.mono ex.1 ex.2 _ _ r⟩
theorem fin_ifB {Q : VK} {b : Bool} {v : Option Vl} (h : Fin c F σ s w Q (ifB b v)) : b = true ∧ Fin c F σ s w Q v := by
  cases b with
  | true => exact ⟨rfl, h⟩
  | false => exact h.elim
end

/-! ### data that == tells apart -/
section
variable {c : Ct} {B H : Hp} {m : List Addr} {K : PySem.W.Frag}
mutual
theorem Rep.dp (hB : Sub B H) : ∀ (d : D) (v : V) (p : PyData), Rep c B m d v → toPy d = some p → Dp c.K H v p
  | .non, v, p, h, e => by
    rw [toPy] at e
    cases e
    rw [show v = V.non from h]
    exact .non
  | .bl b, v, p, h, e => by
    rw [toPy] at e
    cases e
    rw [show v = V.bl b from h]
    exact .bl b
  | .int i, v, p, h, e => by
    rw [toPy] at e
    cases e
    rw [show v = V.int i from h]
    exact .int i
  | .str x, v, p, h, e => by
    rw [toPy] at e
    cases e
    rw [show v = V.str x from h]
    exact .str x
  | .lst ds, v, p, h, e => by
    obtain ⟨a, vs, rfl, ha, hr⟩ := h
    rw [toPy] at e
    cases q : toPys ds with
    | none =>
      rw [q] at e
      cases e
    | some ps =>
      rw [q] at e
      cases e
      exact .lst (SqL.of (hB _ _ ha)) (Reps.dp hB ds vs ps hr q)
  | .tup ds, v, p, h, e => by
    obtain ⟨a, vs, rfl, ha, hr⟩ := h
    rw [toPy] at e
    cases q : toPys ds with
    | none =>
      rw [q] at e
      cases e
    | some ps =>
      rw [q] at e
      cases e
      exact .tup (SqT.of (hB _ _ ha)) (Reps.dp hB ds vs ps hr q)
  | .stp ds, v, p, h, e => by
    obtain ⟨a, vs, rfl, ha, hr⟩ := h
    rw [toPy] at e
    cases q : toPys ds with
    | none =>
      rw [q] at e
      cases e
    | some ps =>
      rw [q] at e
      cases e
      exact .tup (hB.t ha) (Reps.dp hB ds vs ps hr q)
  | .dk _, _, _, _, e => by simp [toPy] at e
  | .dt _, _, _, _, e => by simp [toPy] at e
  | .sd _, _, _, _, e => by simp [toPy] at e
  | .scr _, _, _, _, e => by simp [toPy] at e
  | .ins _ _, _, _, _, e => by simp [toPy] at e
  | .cell _, _, _, _, e => by simp [toPy] at e
  | .exc _ _, _, _, _, e => by simp [toPy] at e
theorem Reps.dp (hB : Sub B H) : ∀ (ds : List D) (vs : List V) (ps : List PyData), Reps c B m ds vs → toPys ds = some ps → DpAll c.K H vs ps
  | [], vs, ps, h, e => by
    rw [toPys] at e
    cases e
    rw [show vs = [] from h]
    exact .nil
  | d :: ds, _, ps, h, e => by
    obtain ⟨v, us, rfl, h1, h2⟩ := h
    rw [toPys] at e
    cases q : toPy d with
    | none =>
      rw [q] at e
      cases e
    | some p =>
      rw [q] at e
      cases q2 : toPys ds with
      | none =>
        rw [q2] at e
        cases e
      | some qs =>
        rw [q2] at e
        cases e
        exact .cons (Rep.dp hB d v p h1 q) (Reps.dp hB ds us qs h2 q2)
end
theorem View.dp {w : Wd} {F : Hp} {σ : L2.St} {s : S} (x : SR c F w H σ s) {d : D} {v : V} {p : PyData} (h : View c w H d v) (e : toPy d = some p) : Dp c.K H v p := by
  cases d with
  | lst ds =>
    obtain ⟨a, vs, rfl, ha, hr⟩ := h
    rw [toPy] at e
    cases q : toPys ds with
    | none =>
      rw [q] at e
      cases e
    | some ps =>
      rw [q] at e
      cases e
      exact .lst (SqL.of ha) (Reps.dp x.bh ds vs ps hr q)
  | dk _ => simp [toPy] at e
  | dt _ => simp [toPy] at e
  | ins _ _ => simp [toPy] at e
  | _ => exact Rep.dp x.bh _ v p h e
theorem flat_rep {d : D} {v : V} {w : Wd} (f : flat d = true) (h : View c w H d v) : flatV v = true := by
  cases d with
  | non => rw [show v = V.non from h] <;> rfl
  | bl b => rw [show v = V.bl b from h] <;> rfl
  | int b => rw [show v = V.int b from h] <;> rfl
  | str b => rw [show v = V.str b from h] <;> rfl
  | _ => cases f
theorem flat_eq {d e : D} {v u : V} {w : Wd} (f : flat d = true) (g : flat e = true) (h : View c w H d v) (k : View c w H e u) : eqV v u = eqF d e := by
  cases d with
  | non => rw [show v = V.non from h]; cases e <;> first | (rw [show u = _ from k]; rfl) | cases g
  | bl b => rw [show v = V.bl b from h]; cases e <;> first | (rw [show u = _ from k]; rfl) | cases g
  | int b => rw [show v = V.int b from h]; cases e <;> first | (rw [show u = _ from k]; rfl) | cases g
  | str b => rw [show v = V.str b from h]; cases e <;> first | (rw [show u = _ from k]; rfl) | cases g
  | _ => cases f
theorem flat_view {d : D} {v : V} {w : Wd} (f : flat d = true) (h : Rep c w.B w.m d v) : View c w H d v := by
  cases d <;> first | exact h | cases f
theorem flats_rep {w : Wd} : ∀ {ds : List D} {vs : List V}, ds.all flat = true → Reps c w.B w.m ds vs → vs.all flatV = true
  | [], _, _, h => by
    rw [show _ = [] from h]
    rfl
  | d :: ds, _, f, h => by
    obtain ⟨v, us, rfl, h1, h2⟩ := h
    rw [List.all_cons, Bool.and_eq_true] at f
    rw [List.all_cons, Bool.and_eq_true]
    exact ⟨flat_rep (H := fun _ => none) f.1 (flat_view f.1 h1), flats_rep f.2 h2⟩
theorem flats_in {w : Wd} {d : D} {v : V} (f : flat d = true) (h : View c w H d v) : ∀ {ds : List D} {vs : List V}, ds.all flat = true → Reps c w.B w.m ds vs → inV v vs = inF d ds
  | [], _, _, k => by
    rw [show _ = [] from k]
    rfl
  | e :: ds, _, g, k => by
    obtain ⟨u, us, rfl, h1, h2⟩ := k
    rw [List.all_cons, Bool.and_eq_true] at g
    have ih := flats_in f h g.2 h2
    unfold inV inF at ih ⊢
    rw [List.any_cons, List.any_cons, ih, flat_eq g.1 f (flat_view g.1 h1) h]
end

/-! ### dicts -/
section
variable {c : Ct} {B : Hp} {m : List Addr}
theorem RepK.look : ∀ {kvs : List (Key × D)} {us : List (Key × V)} (k : Key), RepK c B m kvs us →
    (∀ d, look k kvs = some d → ∃ v, valV us k = some v ∧ Rep c B m d v) ∧ (look k kvs = none → valV us k = none)
  | [], _, k, h => by
    rw [show _ = [] from h]
    exact ⟨fun d e => (nomatch (show (none : Option D) = some d from e)), fun _ => rfl⟩
  | (j, d) :: r, _, k, h => by
    obtain ⟨v, us, rfl, h1, h2⟩ := h
    have ih := RepK.look k h2
    unfold PB.look
    by_cases e : j = k
    · rw [if_pos e, valV_pos (p := (j, v)) e]
      exact ⟨fun d' q => by cases q; exact ⟨v, rfl, h1⟩, fun q => nomatch q⟩
    · rw [if_neg e, valV_neg (p := (j, v)) e]
      exact ih
theorem RepK.put {k : Key} {d : D} {v : V} (hd : Rep c B m d v) : ∀ {kvs : List (Key × D)} {us : List (Key × V)}, RepK c B m kvs us → RepK c B m (put k d kvs) (putK us k v) := by
  have any : ∀ {kvs : List (Key × D)} {us : List (Key × V)}, RepK c B m kvs us → (kvs.any fun kv => decide (kv.1 = k)) = us.any fun kv => decide (kv.1 = k) := by
    intro kvs
    induction kvs with
    | nil =>
      intro us h
      rw [show us = [] from h]
      rfl
    | cons p r ih =>
      intro us h
      obtain ⟨j, e⟩ := p
      obtain ⟨u, us, rfl, h1, h2⟩ := h
      rw [List.any_cons, List.any_cons, ih h2]
  have mp : ∀ {kvs : List (Key × D)} {us : List (Key × V)}, RepK c B m kvs us → RepK c B m (kvs.map fun kv => if kv.1 = k then (kv.1, d) else kv) (us.map fun kv => if kv.1 = k then (kv.1, v) else kv) := by
    intro kvs
    induction kvs with
    | nil =>
      intro us h
      rw [show us = [] from h]
      exact rfl
    | cons p r ih =>
      intro us h
      obtain ⟨j, e⟩ := p
      obtain ⟨u, us, rfl, h1, h2⟩ := h
      rw [List.map_cons, List.map_cons]
      by_cases z : j = k
      · rw [if_pos z, if_pos z]
        exact ⟨v, _, rfl, hd, ih h2⟩
      · rw [if_neg z, if_neg z]
        exact ⟨u, _, rfl, h1, ih h2⟩
  have ap : ∀ {kvs : List (Key × D)} {us : List (Key × V)}, RepK c B m kvs us → RepK c B m (kvs ++ [(k, d)]) (us ++ [(k, v)]) := by
    intro kvs
    induction kvs with
    | nil =>
      intro us h
      rw [show us = [] from h]
      exact ⟨v, [], rfl, hd, rfl⟩
    | cons p r ih =>
      intro us h
      obtain ⟨j, e⟩ := p
      obtain ⟨u, us, rfl, h1, h2⟩ := h
      exact ⟨u, _, rfl, h1, ih h2⟩
  intro kvs us h
  unfold PB.put putK
  rw [any h]
  split
  · exact mp h
  · exact ap h
theorem RepK.length : ∀ {kvs : List (Key × D)} {us : List (Key × V)}, RepK c B m kvs us → us.length = kvs.length
  | [], _, h => by
    rw [show _ = [] from h]
    rfl
  | (k, d) :: ds, _, h => by
    obtain ⟨v, us, rfl, _, h2⟩ := h
    rw [List.length_cons, List.length_cons, RepK.length h2]
theorem RepT.look : ∀ {kvs : List (List Key × D)} {us : List (List Key × V)} (k : List Key), RepT c B m kvs us →
    (∀ d, lookT k kvs = some d → ∃ v, valV us k = some v ∧ Rep c B m d v) ∧ (lookT k kvs = none → valV us k = none)
  | [], _, k, h => by
    rw [show _ = [] from h]
    exact ⟨fun d e => (nomatch (show (none : Option D) = some d from e)), fun _ => rfl⟩
  | (j, d) :: r, _, k, h => by
    obtain ⟨v, us, rfl, h1, h2⟩ := h
    have ih := RepT.look k h2
    unfold lookT PB.look
    by_cases e : j = k
    · rw [if_pos e, valV_pos (p := (j, v)) e]
      exact ⟨fun d' q => by cases q; exact ⟨v, rfl, h1⟩, fun q => nomatch q⟩
    · rw [if_neg e, valV_neg (p := (j, v)) e]
      unfold lookT at ih
      exact ih
theorem RepT.length : ∀ {kvs : List (List Key × D)} {us : List (List Key × V)}, RepT c B m kvs us → us.length = kvs.length
  | [], _, h => by
    rw [show _ = [] from h]
    rfl
  | (k, d) :: ds, _, h => by
    obtain ⟨v, us, rfl, _, h2⟩ := h
    rw [List.length_cons, List.length_cons, RepT.length h2]
theorem toKey_rep {w : Wd} {H : Hp} {d : D} {v : V} {k : Key} (e : toKey d = some k) (h : View c w H d v) : v = kV k := by
  cases d with
  | int i =>
    cases e
    exact h
  | str x =>
    cases e
    exact h
  | _ => cases e
theorem toKey_rep' {d : D} {v : V} {k : Key} (e : toKey d = some k) (h : Rep c B m d v) : v = kV k := by
  cases d with
  | int i =>
    cases e
    exact h
  | str x =>
    cases e
    exact h
  | _ => cases e
theorem toKeys_rep : ∀ {ds : List D} {vs : List V} {ks : List Key}, toKeys ds = some ks → Reps c B m ds vs → vs = ks.map kV
  | [], _, _, e, h => by
    rw [show _ = [] from h]
    cases e
    rfl
  | d :: ds, _, ks, e, h => by
    obtain ⟨v, us, rfl, h1, h2⟩ := h
    unfold toKeys at e
    cases q : toKey d with
    | none =>
      rw [q] at e
      cases e
    | some k =>
      rw [q] at e
      cases q2 : toKeys ds with
      | none =>
        rw [q2] at e
        cases e
      | some js =>
        rw [q2] at e
        cases e
        rw [toKey_rep' q h1, toKeys_rep q2 h2]
        rfl
theorem RepF.get : ∀ {fs : List (Str × D)} {us : List (Str × V)} (f : Str), RepF c B m fs us →
    (∀ d, fget f fs = some d → ∃ v, us.lookup f = some v ∧ Rep c B m d v) ∧ (fget f fs = none → us.lookup f = none)
  | [], _, f, h => by
    rw [show _ = [] from h]
    exact ⟨fun d e => (nomatch (show (none : Option D) = some d from e)), fun _ => rfl⟩
  | (g, d) :: r, _, f, h => by
    obtain ⟨v, us, rfl, h1, h2⟩ := h
    have ih := RepF.get f h2
    unfold fget
    rw [List.lookup_cons]
    by_cases e : f = g
    · rw [if_pos e, show (f == g) = true from beq_iff_eq.mpr e]
      exact ⟨fun d' q => by cases q; exact ⟨v, rfl, h1⟩, fun q => nomatch q⟩
    · rw [if_neg e, show (f == g) = false from beq_eq_false_iff_ne.mpr e]
      exact ih
theorem RepF.put {f : Str} {d : D} {v : V} (hd : Rep c B m d v) : ∀ {fs : List (Str × D)} {us : List (Str × V)}, RepF c B m fs us → RepF c B m (fput f d fs) (putF f v us)
  | [], _, h => by
    rw [show _ = [] from h]
    exact ⟨v, [], rfl, hd, rfl⟩
  | (g, e) :: r, _, h => by
    obtain ⟨u, us, rfl, h1, h2⟩ := h
    unfold fput putF
    by_cases z : g = f
    · rw [if_pos z, if_pos z]
      exact ⟨v, _, rfl, hd, h2⟩
    · rw [if_neg z, if_neg z]
      exact ⟨u, _, rfl, h1, RepF.put hd h2⟩
theorem RepF.length : ∀ {kvs : List (Str × D)} {us : List (Str × V)}, RepF c B m kvs us → us.length = kvs.length
  | [], _, h => by
    rw [show _ = [] from h]
    rfl
  | (k, d) :: ds, _, h => by
    obtain ⟨v, us, rfl, _, h2⟩ := h
    rw [List.length_cons, List.length_cons, RepF.length h2]
end
end PB

set_option Elab.async false
set_option linter.all false
set_option autoImplicit false
set_option maxRecDepth 100000
/-! THE BRIDGE, 4: the operators and the built-in functions. -/
namespace PB
open PySem PySem.Spec PyProof.Rows L2

/-- what a two-place operation on data asks of values -/
def rD2 (c : Ct) (f : D → D → Option Vl) : R2 := fun x y H Q => ∃ (F : Hp) (w : Wd) (σ : L2.St) (s : S) (d e : D), SR c F w H σ s ∧ View c w H d x ∧ View c w H e y ∧ Fin c F σ s w Q (f d e)
def rD1 (c : Ct) (f : D → Option Vl) : V → Hp → VK → Prop := fun x H Q => ∃ (F : Hp) (w : Wd) (σ : L2.St) (s : S) (d : D), SR c F w H σ s ∧ View c w H d x ∧ Fin c F σ s w Q (f d)
inductive Views (c : Ct) (w : Wd) (H : Hp) : List D → List V → Prop where
  | nil : Views c w H [] []
  | cons {d : D} {v : V} {ds : List D} {vs : List V} (h : View c w H d v) (t : Views c w H ds vs) : Views c w H (d :: ds) (v :: vs)
def rDn (c : Ct) (f : List D → Option Vl) : List V → Hp → VK → Prop := fun xs H Q => ∃ (F : Hp) (w : Wd) (σ : L2.St) (s : S) (ds : List D), SR c F w H σ s ∧ Views c w H ds xs ∧ Fin c F σ s w Q (f ds)
/-- the machine's operation -/
def fB : BOp → Value → Value → Sem Value
  | .add => binaryOp .Add
  | .sub => binaryOp .Sub
  | .mul => binaryOp .Mult
  | .fdiv => binaryOp .FloorDiv
  | .mod => binaryOp .Mod
  | .pow => binaryOp .Pow
  | .shl => binaryOp .LShift
  | .shr => binaryOp .RShift
  | .band => binaryOp .BitAnd
  | .bor => binaryOp .BitOr
  | .bxor => binaryOp .BitXor
  | .eq => compareOp .Eq
  | .ne => compareOp .NotEq
  | .lt => compareOp .Lt
  | .le => compareOp .LtE
  | .gt => compareOp .Gt
  | .ge => compareOp .GtE
  | .in_ => compareOp .In
  | .nin => compareOp .NotIn
  | .is_ => compareOp .Is
  | .isn => compareOp .IsNot
section
variable {X : Cx} {c : Ct}
theorem ob_add (hK : X.K = c.K) : OpR X (binaryOp .Add) (rD2 c (opB .add)) := by
  intro pins s σ H x y v u Q I rx ry h
  obtain ⟨F, w, σ', s', d, e, sr, vd, ve, h⟩ := h
  cases d <;> cases e <;> first | exact h.elim | skip
  · cases (show x = _ from vd)
    cases (show y = _ from ve)
    exact op_add pins s σ H _ _ v u Q I rx ry ⟨_, _, rfl, rfl, fin_im h sr rfl⟩
  · cases (show x = _ from vd)
    cases (show y = _ from ve)
    obtain ⟨hb, h⟩ := fin_ifB h
    exact op_add_str pins s σ H _ _ v u Q I rx ry ⟨_, _, rfl, rfl, of_decide_eq_true hb, fin_im h sr rfl⟩
  · obtain ⟨a, vs, rfl, ha, hr⟩ := vd
    obtain ⟨b, us, rfl, hb, kr⟩ := ve
    obtain ⟨hz, h⟩ := fin_ifB h
    have hz := of_decide_eq_true hz
    exact op_cat pins s σ H _ _ v u Q I rx ry ⟨a, b, vs, us, rfl, rfl, ha, hb, by rw [hr.length, kr.length]; exact hz, fun p hp => fin_own (o := .lst (vs ++ us)) h sr hp (hr.append kr)⟩
  · rename_i ds es
    obtain ⟨a, vs, rfl, ha, hr⟩ := vd
    obtain ⟨b, us, rfl, hb, kr⟩ := ve
    obtain ⟨hz, h⟩ := fin_ifB h
    have hz2 := of_decide_eq_true hz
    refine op_catA pins s σ H _ _ v u Q I rx ry ⟨a, b, vs, us, rfl, rfl, SqT.of (sr.bh _ _ ha), SqT.of (sr.bh _ _ hb), by rw [hr.length, kr.length]; exact hz2, ?_, ?_, ?_⟩
    · intro q
      have : ds = [] := List.eq_nil_of_length_eq_zero (by rw [← hr.length, q]; rfl)
      subst this
      exact fin_im h sr ⟨b, us, rfl, hb, kr⟩
    · intro _ q
      have : es = [] := List.eq_nil_of_length_eq_zero (by rw [← kr.length, q]; rfl)
      subst this
      rw [List.append_nil] at h
      exact fin_im h sr ⟨a, vs, rfl, ha, hr⟩
    · intro _ _ p hp
      exact fin_tup h sr hp (hr.append kr)
theorem ob_mul : OpR X (binaryOp .Mult) (rD2 c (opB .mul)) := by
  intro pins s σ H x y v u Q I rx ry h
  obtain ⟨F, w, σ', s', d, e, sr, vd, ve, h⟩ := h
  cases d <;> cases e <;> first | exact h.elim | skip
  · cases (show x = _ from vd)
    cases (show y = _ from ve)
    obtain ⟨hb, h⟩ := fin_ifB h
    exact op_mulW pins s σ H _ _ v u Q I rx ry ⟨_, _, rfl, rfl, (show CMulW _ _ from of_decide_eq_true (p := _ < 1000000) hb), fin_im h sr rfl⟩
  · obtain ⟨a, vs, rfl, ha, hr⟩ := vd
    cases (show y = _ from ve)
    obtain ⟨hz, h⟩ := fin_ifB h
    have hz := of_decide_eq_true hz
    refine op_rep pins s σ H _ _ v u Q I rx ry ⟨a, _, vs, rfl, rfl, ha, hz.1, hz.2.1, by rw [hr.length]; exact hz.2.2, fun p hp => fin_own (o := .lst _) h sr hp ?_⟩
    generalize Int.toNat _ = n
    induction n with
    | zero => exact rfl
    | succ n ih =>
      rw [List.replicate_succ, List.replicate_succ, List.flatten_cons, List.flatten_cons]
      exact hr.append ih
theorem ob_eq (hK : X.K = c.K) (hu : X.A.units + 65 < cLine) : OpR X (compareOp .Eq) (rD2 c (opB .eq)) := by
  intro pins s σ H x y v u Q I rx ry h
  obtain ⟨F, w, σ', s', d, e, sr, vd, ve, h⟩ := h
  have h' : Fin c F σ' s' w Q (match eqD d e with | some b => bl b | none => none) := h
  unfold eqD at h'
  cases q1 : toPy d with
  | none =>
    rw [q1] at h'
    exact h'.elim
  | some p =>
    cases q2 : toPy e with
    | none =>
      rw [q1, q2] at h'
      exact h'.elim
    | some q =>
      rw [q1, q2] at h'
      cases q3 : (SeqAt.shaped p && SeqAt.shaped q) with
      | false =>
        simp only [q3] at h'
        exact h'.elim
      | true =>
        simp only [q3] at h'
        rw [Bool.and_eq_true] at q3
        exact op_eqD (by omega) pins s σ H _ _ v u Q I rx ry ⟨p, q, by rw [hK]; exact vd.dp sr q1, by rw [hK]; exact ve.dp sr q2, q3.1, q3.2, fin_im h' sr rfl⟩
theorem ob_ne (hK : X.K = c.K) (hu : X.A.units + 65 < cLine) : OpR X (compareOp .NotEq) (rD2 c (opB .ne)) := by
  intro pins s σ H x y v u Q I rx ry h
  obtain ⟨F, w, σ', s', d, e, sr, vd, ve, h⟩ := h
  have h' : Fin c F σ' s' w Q (match eqD d e with | some b => bl (!b) | none => none) := h
  unfold eqD at h'
  cases q1 : toPy d with
  | none =>
    rw [q1] at h'
    exact h'.elim
  | some p =>
    cases q2 : toPy e with
    | none =>
      rw [q1, q2] at h'
      exact h'.elim
    | some q =>
      rw [q1, q2] at h'
      cases q3 : (SeqAt.shaped p && SeqAt.shaped q) with
      | false =>
        simp only [q3] at h'
        exact h'.elim
      | true =>
        simp only [q3] at h'
        rw [Bool.and_eq_true] at q3
        exact op_neD (by omega) pins s σ H _ _ v u Q I rx ry ⟨p, q, by rw [hK]; exact vd.dp sr q1, by rw [hK]; exact ve.dp sr q2, q3.1, q3.2, fin_im h' sr rfl⟩
/-- in, not in: one proof -/
theorem one_sign {s : Str} (h : s.length = 1) : s = ⟨#[s.cps.toList.headD 0]⟩ := by
  obtain ⟨⟨l⟩⟩ := s
  cases l with
  | nil => cases h
  | cons a r =>
    cases r with
    | nil => rfl
    | cons b r => cases (show r.length + 2 = 1 from h)
theorem look_text (z : Str) : ∀ kvs : List (Str × D), (∃ d, look z kvs = some d) ∨ look z kvs = none := fun kvs => by
  cases look z kvs with
  | none => exact .inr rfl
  | some d => exact .inl ⟨d, rfl⟩
theorem ob_in (hK : X.K = c.K) (hw : X.w = c.w) (hu : X.A.units + 65 < cLine) : OpR X (compareOp .In) (rD2 c (opB .in_)) := by
  intro pins s σ H x y v u Q I rx ry h
  obtain ⟨F, w, σ', s', d, e, sr, vd, ve, h⟩ := h
  have h' : Fin c F σ' s' w Q (match inD d e with | some b => bl b | none => none) := h
  cases e with
  | lst ds =>
    unfold inD at h'
    have h' : Fin c F σ' s' w Q (match (if (flat d && ds.all flat) = true then some (inF d ds) else (match toPy d, toPys ds with
    | some p, some ps => if SeqAt.shaped p && SeqAt.shaped (.list ps) then some (ps.any fun z => PyData.eqv z p) else none
    | _, _ => none)) with | some b => bl b | none => none) := by cases d <;> exact h'
    by_cases q : (flat d && ds.all flat) = true
    · rw [if_pos q] at h'
      rw [Bool.and_eq_true] at q
      obtain ⟨a, vs, rfl, ha, hr⟩ := ve
      exact op_in_seq pins s σ H _ _ v u Q I rx ry ⟨a, vs, rfl, .inl (by rw [hK]; exact SqL.of ha), flat_rep q.1 vd, flats_rep q.2 hr, by rw [if_neg Bool.false_ne_true, flats_in q.1 vd q.2 hr]; exact fin_im h' sr rfl⟩
    · rw [if_neg q] at h'
      cases q1 : toPy d with
      | none =>
        rw [q1] at h'
        exact h'.elim
      | some p =>
        cases q2 : toPys ds with
        | none =>
          rw [q1, q2] at h'
          exact h'.elim
        | some ps =>
          rw [q1, q2] at h'
          cases q3 : (SeqAt.shaped p && SeqAt.shaped (.list ps)) with
          | false =>
            simp only [q3] at h'
            exact h'.elim
          | true =>
            simp only [q3] at h'
            rw [Bool.and_eq_true] at q3
            exact op_inD hu pins s σ H _ _ v u Q I rx ry ⟨p, ps, by rw [hK]; exact vd.dp sr q1, by rw [hK]; exact ve.dp sr (by rw [toPy, q2]), q3.1, q3.2, fin_im h' sr rfl⟩
  | tup ds =>
    have h' : Fin c F σ' s' w Q (match (if (flat d && ds.all flat) = true then some (inF d ds) else none) with | some b => bl b | none => none) := by cases d <;> exact h'
    by_cases q : (flat d && ds.all flat) = true
    · rw [if_pos q] at h'
      rw [Bool.and_eq_true] at q
      obtain ⟨a, vs, rfl, ha, hr⟩ := ve
      exact op_in_seq pins s σ H _ _ v u Q I rx ry ⟨a, vs, rfl, .inr (SqT.of (sr.bh _ _ ha)), flat_rep q.1 vd, flats_rep q.2 hr, by rw [if_neg Bool.false_ne_true, flats_in q.1 vd q.2 hr]; exact fin_im h' sr rfl⟩
    · rw [if_neg q] at h'
      exact h'.elim
  | stp ds =>
    have h' : Fin c F σ' s' w Q (match (if (flat d && ds.all flat) = true then some (inF d ds) else none) with | some b => bl b | none => none) := by cases d <;> exact h'
    by_cases q : (flat d && ds.all flat) = true
    · rw [if_pos q] at h'
      rw [Bool.and_eq_true] at q
      obtain ⟨a, vs, rfl, ha, hr⟩ := ve
      exact op_in_seq pins s σ H _ _ v u Q I rx ry ⟨a, vs, rfl, .inr (by rw [hK]; exact sr.bh.t ha), flat_rep q.1 vd, flats_rep q.2 hr, by rw [if_neg Bool.false_ne_true, flats_in q.1 vd q.2 hr]; exact fin_im h' sr rfl⟩
    · rw [if_neg q] at h'
      exact h'.elim
  | str t =>
    cases d <;> first | exact h'.elim | skip
    rename_i z
    have h' : Fin c F σ' s' w Q (match (if z.length = 1 then some (decide ((z.cps.toList.headD 0) ∈ t.cps.toList)) else none) with | some b => bl b | none => none) := h'
    by_cases q : z.length = 1
    · rw [if_pos q] at h'
      cases (show x = _ from vd)
      cases (show y = _ from ve)
      exact op_in_sign pins s σ H _ _ v u Q I rx ry ⟨z.cps.toList.headD 0, t, by rw [← one_sign q], rfl, fin_im h' sr rfl⟩
    · rw [if_neg q] at h'
      exact h'.elim
  | dk kvs =>
    obtain ⟨a, us, rfl, ha, hr⟩ := ve
    cases ry
    have go : ∀ k : Key, toKey d = some k → Fin c F σ' s' w Q (bl (look k kvs).isSome) → wpAny (model X.prog X.w) X.A (compareOp .In v (.ref a)) (EP X pins σ Q) X.xe s := by
      intro k hk hq
      have ex := toKey_rep hk vd
      subst ex
      have hl := hr.look k
      have g : DGet H a (kV k) (valV us k) := .inl ⟨us, k, ha, rfl, rfl⟩
      refine d_in (by omega) I g rx fun s3 I3 => ⟨.bl _, H, I3, rfl, ?_⟩
      cases q : look k kvs with
      | none =>
        rw [q] at hq
        rw [hl.2 q]
        exact fin_im hq sr rfl
      | some d' =>
        obtain ⟨v', e1, _⟩ := hl.1 d' q
        rw [q] at hq
        rw [e1]
        exact fin_im hq sr rfl
    cases d <;> first | exact h'.elim | skip
    · exact go _ rfl h'
    · exact go _ rfl h'
  | dt kvs =>
    obtain ⟨a, us, rfl, ha, hr⟩ := ve
    cases d <;> first | exact h'.elim | skip
    rename_i ds
    cases ry
    have h' : Fin c F σ' s' w Q (match (match toKeys ds with | some ks => some (lookT ks kvs).isSome | none => none) with | some b => bl b | none => none) := h'
    cases hk : toKeys ds with
    | none =>
      rw [hk] at h'
      exact h'.elim
    | some ks =>
      rw [hk] at h'
      obtain ⟨b, vs, rfl, hb, kr⟩ := vd
      have ex := toKeys_rep hk kr
      subst ex
      have hl := hr.look ks
      have h' : Fin c F σ' s' w Q (bl (lookT ks kvs).isSome) := h'
      have g : DGet H a (.ref b) (valV us ks) := .inr ⟨us, ks, b, ha, rfl, sr.bh _ _ hb, rfl⟩
      refine d_in (by omega) I g rx fun s3 I3 => ⟨.bl _, H, I3, rfl, ?_⟩
      cases q : lookT ks kvs with
      | none =>
        rw [q] at h'
        rw [hl.2 q]
        exact fin_im h' sr rfl
      | some d' =>
        obtain ⟨v', e1, _⟩ := hl.1 d' q
        rw [q] at h'
        rw [e1]
        exact fin_im h' sr rfl
  | sd kvs =>
    obtain ⟨a, rfl, hs⟩ := ve
    cases d <;> first | exact h'.elim | skip
    rename_i z
    cases (show x = _ from vd)
    obtain ⟨es, n, kd⟩ := hs.kd
    rw [← hK, ← hw] at kd
    cases q : look z kvs with
    | none =>
      have h' : Fin c F σ' s' w Q (bl (look z kvs).isSome) := h'
      rw [q] at h'
      exact op_in_kd kd pins s σ H _ _ v u Q I rx ry ⟨z, none, rfl, rfl, by rw [hK]; exact hs.mis z q, fin_im h' sr rfl⟩
    | some d' =>
      have h' : Fin c F σ' s' w Q (bl (look z kvs).isSome) := h'
      rw [q] at h'
      obtain ⟨u', e1, _⟩ := hs.hit z d' q
      exact op_in_kd kd pins s σ H _ _ v u Q I rx ry ⟨z, some u', rfl, rfl, by rw [hK]; exact e1, fin_im h' sr rfl⟩
  | _ => cases d <;> exact h'.elim
theorem ob_nin (hK : X.K = c.K) (hw : X.w = c.w) (hu : X.A.units + 65 < cLine) : OpR X (compareOp .NotIn) (rD2 c (opB .nin)) := by
  intro pins s σ H x y v u Q I rx ry h
  obtain ⟨F, w, σ', s', d, e, sr, vd, ve, h⟩ := h
  have h' : Fin c F σ' s' w Q (match inD d e with | some b => bl (!b) | none => none) := h
  cases e with
  | lst ds =>
    unfold inD at h'
    have h' : Fin c F σ' s' w Q (match (if (flat d && ds.all flat) = true then some (inF d ds) else (match toPy d, toPys ds with
    | some p, some ps => if SeqAt.shaped p && SeqAt.shaped (.list ps) then some (ps.any fun z => PyData.eqv z p) else none
    | _, _ => none)) with | some b => bl (!b) | none => none) := by cases d <;> exact h'
    by_cases q : (flat d && ds.all flat) = true
    · rw [if_pos q] at h'
      rw [Bool.and_eq_true] at q
      obtain ⟨a, vs, rfl, ha, hr⟩ := ve
      exact op_notIn_seq pins s σ H _ _ v u Q I rx ry ⟨a, vs, rfl, .inl (by rw [hK]; exact SqL.of ha), flat_rep q.1 vd, flats_rep q.2 hr, by rw [if_pos rfl, flats_in q.1 vd q.2 hr]; exact fin_im h' sr rfl⟩
    · rw [if_neg q] at h'
      cases q1 : toPy d with
      | none =>
        rw [q1] at h'
        exact h'.elim
      | some p =>
        cases q2 : toPys ds with
        | none =>
          rw [q1, q2] at h'
          exact h'.elim
        | some ps =>
          rw [q1, q2] at h'
          cases q3 : (SeqAt.shaped p && SeqAt.shaped (.list ps)) with
          | false =>
            simp only [q3] at h'
            exact h'.elim
          | true =>
            simp only [q3] at h'
            rw [Bool.and_eq_true] at q3
            exact op_notInD hu pins s σ H _ _ v u Q I rx ry ⟨p, ps, by rw [hK]; exact vd.dp sr q1, by rw [hK]; exact ve.dp sr (by rw [toPy, q2]), q3.1, q3.2, fin_im h' sr rfl⟩
  | tup ds =>
    have h' : Fin c F σ' s' w Q (match (if (flat d && ds.all flat) = true then some (inF d ds) else none) with | some b => bl (!b) | none => none) := by cases d <;> exact h'
    by_cases q : (flat d && ds.all flat) = true
    · rw [if_pos q] at h'
      rw [Bool.and_eq_true] at q
      obtain ⟨a, vs, rfl, ha, hr⟩ := ve
      exact op_notIn_seq pins s σ H _ _ v u Q I rx ry ⟨a, vs, rfl, .inr (SqT.of (sr.bh _ _ ha)), flat_rep q.1 vd, flats_rep q.2 hr, by rw [if_pos rfl, flats_in q.1 vd q.2 hr]; exact fin_im h' sr rfl⟩
    · rw [if_neg q] at h'
      exact h'.elim
  | stp ds =>
    have h' : Fin c F σ' s' w Q (match (if (flat d && ds.all flat) = true then some (inF d ds) else none) with | some b => bl (!b) | none => none) := by cases d <;> exact h'
    by_cases q : (flat d && ds.all flat) = true
    · rw [if_pos q] at h'
      rw [Bool.and_eq_true] at q
      obtain ⟨a, vs, rfl, ha, hr⟩ := ve
      exact op_notIn_seq pins s σ H _ _ v u Q I rx ry ⟨a, vs, rfl, .inr (by rw [hK]; exact sr.bh.t ha), flat_rep q.1 vd, flats_rep q.2 hr, by rw [if_pos rfl, flats_in q.1 vd q.2 hr]; exact fin_im h' sr rfl⟩
    · rw [if_neg q] at h'
      exact h'.elim
  | str t =>
    cases d <;> first | exact h'.elim | skip
    rename_i z
    have h' : Fin c F σ' s' w Q (match (if z.length = 1 then some (decide ((z.cps.toList.headD 0) ∈ t.cps.toList)) else none) with | some b => bl (!b) | none => none) := h'
    by_cases q : z.length = 1
    · rw [if_pos q] at h'
      cases (show x = _ from vd)
      cases (show y = _ from ve)
      exact op_notIn_sign pins s σ H _ _ v u Q I rx ry ⟨z.cps.toList.headD 0, t, by rw [← one_sign q], rfl, fin_im h' sr rfl⟩
    · rw [if_neg q] at h'
      exact h'.elim
  | dk kvs =>
    obtain ⟨a, us, rfl, ha, hr⟩ := ve
    cases ry
    have go : ∀ k : Key, toKey d = some k → Fin c F σ' s' w Q (bl (!(look k kvs).isSome)) → wpAny (model X.prog X.w) X.A (compareOp .NotIn v (.ref a)) (EP X pins σ Q) X.xe s := by
      intro k hk hq
      have ex := toKey_rep hk vd
      subst ex
      have hl := hr.look k
      have g : DGet H a (kV k) (valV us k) := .inl ⟨us, k, ha, rfl, rfl⟩
      refine d_notIn (by omega) I g rx fun s3 I3 => ⟨.bl _, H, I3, rfl, ?_⟩
      cases q : look k kvs with
      | none =>
        rw [q] at hq
        rw [hl.2 q]
        exact fin_im hq sr rfl
      | some d' =>
        obtain ⟨v', e1, _⟩ := hl.1 d' q
        rw [q] at hq
        rw [e1]
        exact fin_im hq sr rfl
    cases d <;> first | exact h'.elim | skip
    · exact go _ rfl h'
    · exact go _ rfl h'
  | dt kvs =>
    obtain ⟨a, us, rfl, ha, hr⟩ := ve
    cases d <;> first | exact h'.elim | skip
    rename_i ds
    cases ry
    have h' : Fin c F σ' s' w Q (match (match toKeys ds with | some ks => some (lookT ks kvs).isSome | none => none) with | some b => bl (!b) | none => none) := h'
    cases hk : toKeys ds with
    | none =>
      rw [hk] at h'
      exact h'.elim
    | some ks =>
      rw [hk] at h'
      obtain ⟨b, vs, rfl, hb, kr⟩ := vd
      have ex := toKeys_rep hk kr
      subst ex
      have hl := hr.look ks
      have h' : Fin c F σ' s' w Q (bl (!(lookT ks kvs).isSome)) := h'
      have g : DGet H a (.ref b) (valV us ks) := .inr ⟨us, ks, b, ha, rfl, sr.bh _ _ hb, rfl⟩
      refine d_notIn (by omega) I g rx fun s3 I3 => ⟨.bl _, H, I3, rfl, ?_⟩
      cases q : lookT ks kvs with
      | none =>
        rw [q] at h'
        rw [hl.2 q]
        exact fin_im h' sr rfl
      | some d' =>
        obtain ⟨v', e1, _⟩ := hl.1 d' q
        rw [q] at h'
        rw [e1]
        exact fin_im h' sr rfl
  | sd kvs =>
    obtain ⟨a, rfl, hs⟩ := ve
    cases d <;> first | exact h'.elim | skip
    rename_i z
    cases (show x = _ from vd)
    obtain ⟨es, n, kd⟩ := hs.kd
    rw [← hK, ← hw] at kd
    cases q : look z kvs with
    | none =>
      have h' : Fin c F σ' s' w Q (bl (!(look z kvs).isSome)) := h'
      rw [q] at h'
      exact op_notIn_kd kd pins s σ H _ _ v u Q I rx ry ⟨z, none, rfl, rfl, by rw [hK]; exact hs.mis z q, fin_im h' sr rfl⟩
    | some d' =>
      have h' : Fin c F σ' s' w Q (bl (!(look z kvs).isSome)) := h'
      rw [q] at h'
      obtain ⟨u', e1, _⟩ := hs.hit z d' q
      exact op_notIn_kd kd pins s σ H _ _ v u Q I rx ry ⟨z, some u', rfl, rfl, by rw [hK]; exact e1, fin_im h' sr rfl⟩
  | _ => cases d <;> exact h'.elim
theorem ob_int {op : BOp} {C : Int → Int → Prop} {g : Int → Int → V} (r : OpR X (fB op) (rI C g))
    (ho : ∀ d e, (∃ i j, d = .int i ∧ e = .int j ∧ ∀ F w σ s Q, Fin c F σ s w Q (opB op d e) → C i j ∧ ∃ r, opB op d e = some (.im r) ∧ Rep c w.B w.m r (g i j)) ∨ opB op d e = none) : OpR X (fB op) (rD2 c (opB op)) := by
  intro pins s σ H x y v u Q I rx ry h
  obtain ⟨F, w, σ', s', d, e, sr, vd, ve, h⟩ := h
  rcases ho d e with ⟨i, j, rfl, rfl, h2⟩ | h2
  · cases (show x = _ from vd)
    cases (show y = _ from ve)
    obtain ⟨hc, r', e1, e2⟩ := h2 F w σ' s' Q h
    rw [e1] at h
    exact r pins s σ H _ _ v u Q I rx ry ⟨i, j, rfl, rfl, hc, fin_im h sr e2⟩
  · rw [h2] at h
    exact h.elim
theorem opr0 {f : Value → Value → Sem Value} {g : Int → Int → V} (r : OpR X f (rI0 g)) : OpR X f (rI (fun _ _ => True) g) := by
  intro pins s σ H x y v u Q I rx ry h
  obtain ⟨i, j, rfl, rfl, _, q⟩ := h
  exact r pins s σ H _ _ v u Q I rx ry ⟨i, j, rfl, rfl, q⟩
theorem op_isB : OpR X (compareOp .Is) (fun x y H Q => ∃ b r, y = .bl b ∧ (∀ v, RelV x v → plainIs v (.bool b) = true ∧ (v == Value.bool b) = r) ∧ Q (.bl r) H) := by
  intro pins s σ H x y v u Q I rx ry h
  obtain ⟨b, r, rfl, hv, q⟩ := h
  cases (show u = Value.bool b from ry)
  obtain ⟨h1, h2⟩ := hv v rx
  exact wpAny_is_plain h1 ⟨.bl r, H, I, by rw [h2]; rfl, q⟩
theorem op_notB : OpR X (compareOp .IsNot) (fun x y H Q => ∃ b r, y = .bl b ∧ (∀ v, RelV x v → plainIs v (.bool b) = true ∧ (!(v == Value.bool b)) = r) ∧ Q (.bl r) H) := by
  intro pins s σ H x y v u Q I rx ry h
  obtain ⟨b, r, rfl, hv, q⟩ := h
  cases (show u = Value.bool b from ry)
  obtain ⟨h1, h2⟩ := hv v rx
  exact wpAny_isNot_plain h1 ⟨.bl r, H, I, by rw [h2]; rfl, q⟩
theorem ob_is : OpR X (compareOp .Is) (rD2 c (opB .is_)) := by
  intro pins s σ H x y v u Q I rx ry h
  obtain ⟨F, w, σ', s', d, e, sr, vd, ve, h⟩ := h
  cases e <;> first | exact h.elim | skip
  ·   cases (show y = _ from ve)
      refine op_isN pins s σ H _ _ v u Q I rx ry ⟨rfl, ?_⟩
      cases d with
      | non =>
        cases (show x = _ from vd)
        exact fin_im h sr rfl
      | bl b =>
        cases (show x = _ from vd)
        exact fin_im h sr rfl
      | int b =>
        cases (show x = _ from vd)
        exact fin_im h sr rfl
      | str b =>
        cases (show x = _ from vd)
        exact fin_im h sr rfl
      | sd b =>
        obtain ⟨a, rfl, _⟩ := vd
        exact fin_im h sr rfl
      | cell b =>
        obtain ⟨a, rfl, _⟩ := vd
        exact fin_im h sr rfl
      | ins b fs =>
        obtain ⟨a, dx, us, rfl, _⟩ := vd
        exact fin_im h sr rfl
      | _ =>
        obtain ⟨a, us, rfl, _⟩ := vd
        exact fin_im h sr rfl
  · rename_i b
    cases (show y = _ from ve)
    cases d with
    | non =>
      cases (show x = _ from vd)
      exact op_isB pins s σ H _ _ v u Q I rx ry ⟨b, _, rfl, fun v rv => (by cases (show v = _ from rv); exact ⟨rfl, rfl⟩), fin_im h sr rfl⟩
    | bl a =>
      cases (show x = _ from vd)
      cases a <;> cases b <;> exact op_isB pins s σ H _ _ v u Q I rx ry ⟨_, _, rfl, fun v rv => (by cases (show v = _ from rv); exact ⟨rfl, rfl⟩), fin_im h sr rfl⟩
    | int i =>
      cases (show x = _ from vd)
      exact op_isB pins s σ H _ _ v u Q I rx ry ⟨b, _, rfl, fun v rv => (by obtain ⟨t, rfl⟩ := rv; exact ⟨rfl, rfl⟩), fin_im h sr rfl⟩
    | str z =>
      cases (show x = _ from vd)
      exact op_isB pins s σ H _ _ v u Q I rx ry ⟨b, _, rfl, fun v rv => (by obtain ⟨t, rfl⟩ := rv; exact ⟨rfl, rfl⟩), fin_im h sr rfl⟩
    | sd z =>
      obtain ⟨a, rfl, _⟩ := vd
      exact op_isB pins s σ H _ _ v u Q I rx ry ⟨b, _, rfl, fun v rv => (by cases (show v = _ from rv); exact ⟨rfl, rfl⟩), fin_im h sr rfl⟩
    | cell z =>
      obtain ⟨a, rfl, _⟩ := vd
      exact op_isB pins s σ H _ _ v u Q I rx ry ⟨b, _, rfl, fun v rv => (by cases (show v = _ from rv); exact ⟨rfl, rfl⟩), fin_im h sr rfl⟩
    | ins z fs =>
      obtain ⟨a, dx, us, rfl, _⟩ := vd
      exact op_isB pins s σ H _ _ v u Q I rx ry ⟨b, _, rfl, fun v rv => (by cases (show v = _ from rv); exact ⟨rfl, rfl⟩), fin_im h sr rfl⟩
    | _ =>
      obtain ⟨a, us, rfl, _⟩ := vd
      exact op_isB pins s σ H _ _ v u Q I rx ry ⟨b, _, rfl, fun v rv => (by cases (show v = _ from rv); exact ⟨rfl, rfl⟩), fin_im h sr rfl⟩
theorem ob_isn : OpR X (compareOp .IsNot) (rD2 c (opB .isn)) := by
  intro pins s σ H x y v u Q I rx ry h
  obtain ⟨F, w, σ', s', d, e, sr, vd, ve, h⟩ := h
  cases e <;> first | exact h.elim | skip
  ·   cases (show y = _ from ve)
      refine op_notN pins s σ H _ _ v u Q I rx ry ⟨rfl, ?_⟩
      cases d with
      | non =>
        cases (show x = _ from vd)
        exact fin_im h sr rfl
      | bl b =>
        cases (show x = _ from vd)
        exact fin_im h sr rfl
      | int b =>
        cases (show x = _ from vd)
        exact fin_im h sr rfl
      | str b =>
        cases (show x = _ from vd)
        exact fin_im h sr rfl
      | sd b =>
        obtain ⟨a, rfl, _⟩ := vd
        exact fin_im h sr rfl
      | cell b =>
        obtain ⟨a, rfl, _⟩ := vd
        exact fin_im h sr rfl
      | ins b fs =>
        obtain ⟨a, dx, us, rfl, _⟩ := vd
        exact fin_im h sr rfl
      | _ =>
        obtain ⟨a, us, rfl, _⟩ := vd
        exact fin_im h sr rfl
  · rename_i b
    cases (show y = _ from ve)
    cases d with
    | non =>
      cases (show x = _ from vd)
      exact op_notB pins s σ H _ _ v u Q I rx ry ⟨b, _, rfl, fun v rv => (by cases (show v = _ from rv); exact ⟨rfl, rfl⟩), fin_im h sr rfl⟩
    | bl a =>
      cases (show x = _ from vd)
      cases a <;> cases b <;> exact op_notB pins s σ H _ _ v u Q I rx ry ⟨_, _, rfl, fun v rv => (by cases (show v = _ from rv); exact ⟨rfl, rfl⟩), fin_im h sr rfl⟩
    | int i =>
      cases (show x = _ from vd)
      exact op_notB pins s σ H _ _ v u Q I rx ry ⟨b, _, rfl, fun v rv => (by obtain ⟨t, rfl⟩ := rv; exact ⟨rfl, rfl⟩), fin_im h sr rfl⟩
    | str z =>
      cases (show x = _ from vd)
      exact op_notB pins s σ H _ _ v u Q I rx ry ⟨b, _, rfl, fun v rv => (by obtain ⟨t, rfl⟩ := rv; exact ⟨rfl, rfl⟩), fin_im h sr rfl⟩
    | sd z =>
      obtain ⟨a, rfl, _⟩ := vd
      exact op_notB pins s σ H _ _ v u Q I rx ry ⟨b, _, rfl, fun v rv => (by cases (show v = _ from rv); exact ⟨rfl, rfl⟩), fin_im h sr rfl⟩
    | cell z =>
      obtain ⟨a, rfl, _⟩ := vd
      exact op_notB pins s σ H _ _ v u Q I rx ry ⟨b, _, rfl, fun v rv => (by cases (show v = _ from rv); exact ⟨rfl, rfl⟩), fin_im h sr rfl⟩
    | ins z fs =>
      obtain ⟨a, dx, us, rfl, _⟩ := vd
      exact op_notB pins s σ H _ _ v u Q I rx ry ⟨b, _, rfl, fun v rv => (by cases (show v = _ from rv); exact ⟨rfl, rfl⟩), fin_im h sr rfl⟩
    | _ =>
      obtain ⟨a, us, rfl, _⟩ := vd
      exact op_notB pins s σ H _ _ v u Q I rx ry ⟨b, _, rfl, fun v rv => (by cases (show v = _ from rv); exact ⟨rfl, rfl⟩), fin_im h sr rfl⟩
theorem ob_g {op : BOp} {C : Int → Int → Prop} {g : Int → Int → Int} {bb : Int → Int → Bool} (r : OpR X (fB op) (rI C fun i j => .int (g i j))) (hC : ∀ i j, bb i j = true → C i j)
    (h0 : ∀ i j, opB op (.int i) (.int j) = ifB (bb i j) (intD (g i j))) (hn : ∀ d e, (∃ i j, d = .int i ∧ e = .int j) ∨ opB op d e = none) : OpR X (fB op) (rD2 c (opB op)) := by
  intro pins s σ H x y v u Q I rx ry h
  obtain ⟨F, w, σ', s', d, e, sr, vd, ve, h⟩ := h
  rcases hn d e with ⟨i, j, rfl, rfl⟩ | h2
  · cases (show x = _ from vd)
    cases (show y = _ from ve)
    rw [h0] at h
    obtain ⟨hb, h⟩ := fin_ifB h
    exact r pins s σ H _ _ v u Q I rx ry ⟨i, j, rfl, rfl, hC i j hb, fin_im h sr rfl⟩
  · rw [h2] at h
    exact h.elim
theorem ob_ok (hK : X.K = c.K) (hw : X.w = c.w) (hu : X.A.units + 65 < cLine) : ∀ op, OpR X (fB op) (rD2 c (opB op))
  | .add => ob_add hK
  | .mul => ob_mul
  | .eq => ob_eq hK hu
  | .ne => ob_ne hK hu
  | .in_ => ob_in hK hw hu
  | .nin => ob_nin hK hw hu
  | .is_ => ob_is
  | .isn => ob_isn
  | .sub => ob_int (opr0 op_sub) fun d e => by
    cases d <;> cases e <;> first | exact .inr rfl | exact .inl ⟨_, _, rfl, rfl, fun F w σ s Q h => ⟨trivial, _, rfl, rfl⟩⟩
  | .band => ob_int (opr0 op_and) fun d e => by
    cases d <;> cases e <;> first | exact .inr rfl | exact .inl ⟨_, _, rfl, rfl, fun F w σ s Q h => ⟨trivial, _, rfl, rfl⟩⟩
  | .bor => ob_int (opr0 op_or) fun d e => by
    cases d <;> cases e <;> first | exact .inr rfl | exact .inl ⟨_, _, rfl, rfl, fun F w σ s Q h => ⟨trivial, _, rfl, rfl⟩⟩
  | .bxor => ob_int (opr0 op_xor) fun d e => by
    cases d <;> cases e <;> first | exact .inr rfl | exact .inl ⟨_, _, rfl, rfl, fun F w σ s Q h => ⟨trivial, _, rfl, rfl⟩⟩
  | .lt => ob_int (opr0 op_lt) fun d e => by
    cases d <;> cases e <;> first | exact .inr rfl | exact .inl ⟨_, _, rfl, rfl, fun F w σ s Q h => ⟨trivial, _, rfl, rfl⟩⟩
  | .le => ob_int (opr0 op_le) fun d e => by
    cases d <;> cases e <;> first | exact .inr rfl | exact .inl ⟨_, _, rfl, rfl, fun F w σ s Q h => ⟨trivial, _, rfl, rfl⟩⟩
  | .gt => ob_int (opr0 op_gt) fun d e => by
    cases d <;> cases e <;> first | exact .inr rfl | exact .inl ⟨_, _, rfl, rfl, fun F w σ s Q h => ⟨trivial, _, rfl, rfl⟩⟩
  | .ge => ob_int (opr0 op_ge) fun d e => by
    cases d <;> cases e <;> first | exact .inr rfl | exact .inl ⟨_, _, rfl, rfl, fun F w σ s Q h => ⟨trivial, _, rfl, rfl⟩⟩
  | .fdiv => ob_g op_fdivW (fun i j hb => (show 0 < j ∧ j.natAbs.log2 < 9000 from of_decide_eq_true hb)) (fun _ _ => rfl) fun d e => by
    cases d <;> cases e <;> first | exact .inr rfl | exact .inl ⟨_, _, rfl, rfl⟩
  | .mod => ob_g op_mod (fun i j hb => of_decide_eq_true hb) (fun _ _ => rfl) fun d e => by
    cases d <;> cases e <;> first | exact .inr rfl | exact .inl ⟨_, _, rfl, rfl⟩
  | .pow => ob_g op_pow (fun i j hb => (show 0 ≤ j ∧ j ≤ 1000000 ∧ i.natAbs < 2 ^ 64 from of_decide_eq_true hb)) (fun _ _ => rfl) fun d e => by
    cases d <;> cases e <;> first | exact .inr rfl | exact .inl ⟨_, _, rfl, rfl⟩
  | .shl => ob_g op_shl (fun i j hb => (show 0 ≤ j ∧ j ≤ 1000000 ∧ i.natAbs < 2 ^ 64 from of_decide_eq_true hb)) (fun _ _ => rfl) fun d e => by
    cases d <;> cases e <;> first | exact .inr rfl | exact .inl ⟨_, _, rfl, rfl⟩
  | .shr => ob_g op_shr (fun i j hb => of_decide_eq_true hb) (fun _ _ => rfl) fun d e => by
    cases d <;> cases e <;> first | exact .inr rfl | exact .inl ⟨_, _, rfl, rfl⟩
theorem ou_neg : UnR X (unaryOp .USub) (rD1 c (opU .neg)) := by
  intro pins s σ H x v Q I rx h
  obtain ⟨F, w, σ', s', d, sr, vd, h⟩ := h
  cases d <;> first | exact h.elim | skip
  cases (show x = _ from vd)
  exact un_neg pins s σ H _ v Q I rx ⟨_, rfl, fin_im h sr rfl⟩
theorem empty_len {α β : Type} {ds : List α} {vs : List β} (h : vs.length = ds.length) : (!ds.isEmpty) = !vs.isEmpty := by
  cases ds with
  | nil => cases vs with
    | nil => rfl
    | cons _ _ => cases h
  | cons _ _ => cases vs with
    | nil => cases h
    | cons _ _ => rfl
/-- truth -/
theorem truth_ok {w : Wd} {F H : Hp} {σ : L2.St} {s : S} (sr : SR c F w H σ s) {d : D} {x : V} {b : Bool} (h : View c w H d x) (e : truth d = some b) : TruV c.K x H b := by
  cases d <;> first | (cases e; done) | skip
  · cases e
    rw [show x = _ from h]
    rfl
  · cases e
    rw [show x = _ from h]
    rfl
  · cases e
    rw [show x = _ from h]
    rfl
  · rename_i z
    have e' : (if z.length ≤ sizeLine then some (z.length != 0) else none) = some b := e
    split at e'
    · rename_i hz
      cases e'
      rw [show x = _ from h]
      refine ⟨hz, ?_⟩
      cases z.length with
      | zero => rfl
      | succ n => rfl
    · cases e'
  · cases e
    obtain ⟨a, vs, rfl, ha, hr⟩ := h
    refine .inl ⟨vs, SqL.of ha, ?_⟩
    exact empty_len hr.length
  · cases e
    obtain ⟨a, vs, rfl, ha, hr⟩ := h
    refine .inr (.inl ⟨vs, SqT.of (sr.bh _ _ ha), ?_⟩)
    exact empty_len hr.length
  · cases e
    obtain ⟨a, vs, rfl, ha, hr⟩ := h
    refine .inl ⟨vs, sr.bh.l ha, ?_⟩
    exact empty_len hr.length
  · cases e
    obtain ⟨a, vs, rfl, ha, hr⟩ := h
    refine .inr (.inl ⟨vs, sr.bh.t ha, ?_⟩)
    exact empty_len hr.length
/-! ### subscripts -/
theorem atD_rep {w : Wd} {ds : List D} {vs : List V} {i : Int} {d : D} (hr : Reps c w.B w.m ds vs) (e : atD ds i = some d) : ∃ v, atI vs i = some v ∧ Rep c w.B w.m d v := by
  unfold atD atI at e
  unfold atI
  cases q : L2.ixN ds.length i with
  | none =>
    rw [q] at e
    cases e
  | some j =>
    rw [q] at e
    rw [hr.length, q]
    exact hr.get e
theorem ix_dict (hu : X.A.units + 1 < cLine) : IxR X (fun x y H Q => ∃ a v, x = .ref a ∧ DGet H a y (some v) ∧ Q v H) := by
  intro value slice pins s σ H x y v u Q I rx ry h hs
  obtain ⟨a, z, rfl, g, q⟩ := h
  cases rx
  exact tail_any (dict_typeIs I g) PySem.F.slot_dict_getitem.lookup (d_getItem hu I g ry fun w' s3 I3 rw' => ⟨z, H, I3, rw', q⟩) hs
theorem ix_kd {d : Addr} {es : Array DictEntry} {n : Nat} (kd : KDict X.K X.w d es n) : IxR X (fun x y H Q => ∃ (z : Str) (u0 : Value) (v0 : V), x = .ref d ∧ y = .str z ∧ PySem.W.nsIn X.K d z = some (some u0) ∧ RelV v0 u0 ∧ Q v0 H) := by
  intro value slice pins s σ H x y v u Q I rx ry h hs
  obtain ⟨z, u0, v0, rfl, rfl, e1, r1, q⟩ := h
  have rx' := rx
  cases rx
  exact tail_any (kd_type kd I) PySem.F.slot_dict_getitem.lookup (op_item_kd kd pins s σ H _ _ _ u Q I rx' ry ⟨z, u0, v0, rfl, rfl, e1, r1, q⟩) hs
theorem ox_ok (hK : X.K = c.K) (hw : X.w = c.w) (hu : X.A.units + 65 < cLine) : IxR X (rD2 c subD) := by
  intro value slice pins s σ H x y v u Q I rx ry h hs
  obtain ⟨F, w, σ', s', d, e, sr, vd, ve, h⟩ := h
  cases d <;> first | (cases e <;> exact h.elim) | skip
  · rename_i z
    cases e <;> first | exact h.elim | skip
    rename_i i
    have h' : Fin c F σ' s' w Q (if z.length ≤ sizeLine then (match atI z.cps.toList i with | some c => some (.im (.str ⟨#[c]⟩)) | none => none) else none) := h
    split at h'
    · rename_i hz
      cases q : atI z.cps.toList i with
      | none =>
        rw [q] at h'
        exact h'.elim
      | some k =>
        rw [q] at h'
        cases (show x = _ from vd)
        cases (show y = _ from ve)
        exact ix_str value slice pins s σ H _ _ v u Q I rx ry ⟨z, i, k, rfl, rfl, hz, q, fin_im h' sr rfl⟩ hs
    · exact h'.elim
  · rename_i ds
    cases e <;> first | exact h.elim | skip
    rename_i i
    have h' : Fin c F σ' s' w Q (match atD ds i with | some d => some (.im d) | none => none) := h
    cases q : atD ds i with
    | none =>
      rw [q] at h'
      exact h'.elim
    | some d' =>
      rw [q] at h'
      obtain ⟨a, vs, rfl, ha, hr⟩ := vd
      cases (show y = _ from ve)
      obtain ⟨z, e1, e2⟩ := atD_rep hr q
      exact ix_list value slice pins s σ H _ _ v u Q I rx ry ⟨a, vs, i, z, rfl, rfl, SqL.of ha, e1, fin_im h' sr e2⟩ hs
  · rename_i ds
    cases e <;> first | exact h.elim | skip
    rename_i i
    have h' : Fin c F σ' s' w Q (match atD ds i with | some d => some (.im d) | none => none) := h
    cases q : atD ds i with
    | none =>
      rw [q] at h'
      exact h'.elim
    | some d' =>
      rw [q] at h'
      obtain ⟨a, vs, rfl, ha, hr⟩ := vd
      cases (show y = _ from ve)
      obtain ⟨z, e1, e2⟩ := atD_rep hr q
      exact ix_tup value slice pins s σ H _ _ v u Q I rx ry ⟨a, vs, i, z, rfl, rfl, SqT.of (sr.bh _ _ ha), e1, fin_im h' sr e2⟩ hs
  · rename_i kvs
    obtain ⟨a, us, rfl, ha, hr⟩ := vd
    have go : ∀ k : Key, toKey e = some k → Fin c F σ' s' w Q (match look k kvs with | some d => some (.im d) | none => none) → wpAny (model X.prog X.w) X.A (subscriptTail value slice v u) (EP X pins σ Q) X.xe s := by
      intro k hk hq
      have ex := toKey_rep hk ve
      subst ex
      have hl := hr.look k
      cases q : look k kvs with
      | none =>
        rw [q] at hq
        exact hq.elim
      | some d' =>
        rw [q] at hq
        obtain ⟨z, e1, e2⟩ := hl.1 d' q
        have g : DGet H a (kV k) (some z) := .inl ⟨us, k, ha, rfl, e1.symm⟩
        exact ix_dict (by omega) value slice pins s σ H _ _ v u Q I rx ry ⟨a, z, rfl, g, fin_im hq sr e2⟩ hs
    cases e <;> first | exact h.elim | skip
    · exact go _ rfl h
    · exact go _ rfl h
  · rename_i kvs
    obtain ⟨a, us, rfl, ha, hr⟩ := vd
    cases e <;> first | exact h.elim | skip
    rename_i ds
    have h' : Fin c F σ' s' w Q (match toKeys ds with | some ks => (match lookT ks kvs with | some d => some (.im d) | none => none) | none => none) := h
    cases hk : toKeys ds with
    | none =>
      rw [hk] at h'
      exact h'.elim
    | some ks =>
      rw [hk] at h'
      have h' : Fin c F σ' s' w Q (match lookT ks kvs with | some d => some (.im d) | none => none) := h'
      obtain ⟨b, vs, rfl, hb, kr⟩ := ve
      have ex := toKeys_rep hk kr
      subst ex
      have hl := hr.look ks
      cases q : lookT ks kvs with
      | none =>
        rw [q] at h'
        exact h'.elim
      | some d' =>
        rw [q] at h'
        obtain ⟨z, e1, e2⟩ := hl.1 d' q
        have g : DGet H a (.ref b) (some z) := .inr ⟨us, ks, b, ha, rfl, sr.bh _ _ hb, e1.symm⟩
        exact ix_dict (by omega) value slice pins s σ H _ _ v u Q I rx ry ⟨a, z, rfl, g, fin_im h' sr e2⟩ hs
  · rename_i kvs
    obtain ⟨a, rfl, hd⟩ := vd
    cases e <;> first | exact h.elim | skip
    rename_i z
    cases (show y = _ from ve)
    obtain ⟨es, n, kd⟩ := hd.kd
    rw [← hK, ← hw] at kd
    have h' : Fin c F σ' s' w Q (match look z kvs with | some d => some (.im d) | none => none) := h
    cases q : look z kvs with
    | none =>
      rw [q] at h'
      exact h'.elim
    | some d' =>
      rw [q] at h'
      obtain ⟨u0, e1, v0, r0, e2⟩ := hd.hit z d' q
      refine ix_kd kd value slice pins s σ H _ _ v u Q I rx ry ⟨z, u0, v0, rfl, rfl, by rw [hK]; exact e1, r0, fin_im h' sr ?_⟩ hs
      rcases e2 with ⟨i, rfl, rfl⟩ | ⟨i, rfl, rfl⟩
      · exact rfl
      · exact rfl
  · rename_i ds
    cases e <;> first | exact h.elim | skip
    rename_i i
    have h' : Fin c F σ' s' w Q (match atD ds i with | some d => some (.im d) | none => none) := h
    cases q : atD ds i with
    | none =>
      rw [q] at h'
      exact h'.elim
    | some d' =>
      rw [q] at h'
      obtain ⟨a, vs, rfl, ha, hr⟩ := vd
      cases (show y = _ from ve)
      obtain ⟨z, e1, e2⟩ := atD_rep hr q
      exact ix_list value slice pins s σ H _ _ v u Q I rx ry ⟨a, vs, i, z, rfl, rfl, by rw [hK]; exact sr.bh.l ha, e1, fin_im h' sr e2⟩ hs
  · rename_i ds
    cases e <;> first | exact h.elim | skip
    rename_i i
    have h' : Fin c F σ' s' w Q (match atD ds i with | some d => some (.im d) | none => none) := h
    cases q : atD ds i with
    | none =>
      rw [q] at h'
      exact h'.elim
    | some d' =>
      rw [q] at h'
      obtain ⟨a, vs, rfl, ha, hr⟩ := vd
      cases (show y = _ from ve)
      obtain ⟨z, e1, e2⟩ := atD_rep hr q
      exact ix_tup value slice pins s σ H _ _ v u Q I rx ry ⟨a, vs, i, z, rfl, rfl, by rw [hK]; exact sr.bh.t ha, e1, fin_im h' sr e2⟩ hs
end
end PB

set_option Elab.async false
set_option linter.all false
set_option autoImplicit false
set_option maxRecDepth 100000
/-! THE BRIDGE, 5: slices, built-in functions, methods. -/
namespace PB
open PySem PySem.Spec PyProof.Rows L2
section
variable {X : Cx} {c : Ct}
theorem cutD_rep {w : Wd} {ds : List D} {vs : List V} {lo hi : Option Int} (hr : Reps c w.B w.m ds vs) : Reps c w.B w.m (cutD ds lo hi) (cutV vs lo hi) := by
  unfold cutD cutV
  rw [hr.length]
  exact (hr.drop _).take _
def rSl (c : Ct) : V → Option Int → Option Int → Hp → VK → Prop := fun x lo hi H Q => ∃ (F : Hp) (w : Wd) (σ : L2.St) (s : S) (d : D), SR c F w H σ s ∧ View c w H d x ∧ Fin c F σ s w Q (sliD d lo hi)
theorem six_le (n d : Nat) (hd : d ≤ n) (o : Option Int) : HT.sIx n d o ≤ n := HT.sIx_le n d hd o
theorem cut_whole {ds : List D} {lo hi : Option Int} (h : HT.sIx ds.length 0 lo = 0 ∧ HT.sIx ds.length ds.length hi = ds.length) : cutD ds lo hi = ds := by
  unfold cutD
  rw [h.1, h.2]
  simp
theorem osl_ok (hK : X.K = c.K) : SlR X (rSl c) := by
  intro pins s σ H x v vl vu lo hi sl Q I rx hs pl pu h
  obtain ⟨F, w, σ', s', d, sr, vd, h⟩ := h
  cases d <;> first | exact h.elim | skip
  · rename_i z
    obtain ⟨hz, h⟩ := fin_ifB h
    cases (show x = _ from vd)
    refine sl_str pins s σ H _ v vl vu lo hi sl Q I rx hs pl pu ⟨z, rfl, of_decide_eq_true hz, fin_im h sr ?_⟩
    show V.str (cutS z lo hi) = V.str _
    unfold cutS cutD
    rw [show z.cps.toList.length = z.length from by simp [Str.length]]
  · rename_i ds
    obtain ⟨a, vs, rfl, ha, hr⟩ := vd
    exact sl_list pins s σ H _ v vl vu lo hi sl Q I rx hs pl pu ⟨a, vs, rfl, SqL.of ha, fun p hp => fin_own (o := .lst _) h sr hp (cutD_rep hr)⟩
  · rename_i ds
    obtain ⟨a, vs, rfl, ha, hr⟩ := vd
    refine sl_tupA pins s σ H _ v vl vu lo hi sl Q I rx hs pl pu ⟨a, vs, rfl, SqT.of (sr.bh _ _ ha), fun q => ?_, fun _ p hp => fin_tup h sr hp (cutD_rep hr)⟩
    rw [hr.length] at q
    have h' : Fin c F σ' s' w Q (some (.im (.tup (cutD ds lo hi)))) := h
    rw [cut_whole q] at h'
    exact fin_im h' sr ⟨a, vs, rfl, ha, hr⟩
  · rename_i ds
    obtain ⟨a, vs, rfl, ha, hr⟩ := vd
    exact sl_list pins s σ H _ v vl vu lo hi sl Q I rx hs pl pu ⟨a, vs, rfl, by rw [hK]; exact sr.bh.l ha, fun p hp => fin_own (o := .lst _) h sr hp (cutD_rep hr)⟩

/-! ### built-in functions -/
theorem Views.one {w : Wd} {H : Hp} {d : D} {xs : List V} (h : Views c w H [d] xs) : ∃ x, xs = [x] ∧ View c w H d x := by
  cases h with
  | cons h t =>
    cases t
    exact ⟨_, rfl, h⟩
theorem Views.two {w : Wd} {H : Hp} {d e : D} {xs : List V} (h : Views c w H [d, e] xs) : ∃ x y, xs = [x, y] ∧ View c w H d x ∧ View c w H e y := by
  cases h with
  | cons h t =>
    obtain ⟨y, rfl, h2⟩ := t.one
    exact ⟨_, y, rfl, h, h2⟩
/-- the machine's function -/
def fF : BI → Value
  | .len => .builtin "len"
  | .list => .type "list"
  | .tuple => .type "tuple"
  | .int => .type "int"
  | .str => .type "str"
  | .min1 => .builtin "min"
  | .min2 => .builtin "min"
  | .max1 => .builtin "max"
  | .max2 => .builtin "max"
  | .sum => .builtin "sum"
  | .all => .builtin "all"
  | .any => .builtin "any"
  | .divmod => .builtin "divmod"
  | .abs => .builtin "abs"
  | .sorted => .builtin "sorted"
theorem maxI_mem : ∀ {is : List Int}, is ≠ [] → maxI is ∈ is ∧ ∀ y ∈ is, y ≤ maxI is
  | [], h => absurd rfl h
  | [i], _ => ⟨by simp [maxI], by simp [maxI]⟩
  | i :: j :: r, _ => by
    obtain ⟨h1, h2⟩ := maxI_mem (is := j :: r) (by simp)
    have e : maxI (i :: j :: r) = max i (maxI (j :: r)) := rfl
    rw [e]
    refine ⟨?_, fun y hy => ?_⟩
    · rcases Int.le_total i (maxI (j :: r)) with q | q
      · rw [Int.max_eq_right q]
        exact List.mem_cons_of_mem _ h1
      · rw [Int.max_eq_left q]
        exact List.mem_cons_self
    · rcases List.mem_cons.mp hy with rfl | hy
      · exact Int.le_max_left _ _
      · exact Int.le_trans (h2 y hy) (Int.le_max_right _ _)
theorem minI_mem : ∀ {is : List Int}, is ≠ [] → minI is ∈ is ∧ ∀ y ∈ is, minI is ≤ y
  | [], h => absurd rfl h
  | [i], _ => ⟨by simp [minI], by simp [minI]⟩
  | i :: j :: r, _ => by
    obtain ⟨h1, h2⟩ := minI_mem (is := j :: r) (by simp)
    have e : minI (i :: j :: r) = min i (minI (j :: r)) := rfl
    rw [e]
    refine ⟨?_, fun y hy => ?_⟩
    · rcases Int.le_total i (minI (j :: r)) with q | q
      · rw [Int.min_eq_left q]
        exact List.mem_cons_self
      · rw [Int.min_eq_right q]
        exact List.mem_cons_of_mem _ h1
    · rcases List.mem_cons.mp hy with rfl | hy
      · exact Int.min_le_left _ _
      · exact Int.le_trans (Int.min_le_right _ _) (h2 y hy)
theorem fin_opt {F : Hp} {σ : L2.St} {s : S} {w : Wd} {Q : VK} {α : Type} {o : Option α} {f : α → Option Vl} (h : Fin c F σ s w Q (o.bind f)) : ∃ a, o = some a ∧ Fin c F σ s w Q (f a) := by
  cases o with
  | none => exact h.elim
  | some a => exact ⟨a, rfl, h⟩
theorem call_lenRd : CallR X (.builtin "len") (fun xs H Q => ∃ a kvs, xs = [.ref a] ∧ Rd H a (.dK kvs) ∧ Q (.int kvs.length) H) := by
  intro pins s σ H xs us Q I r h
  obtain ⟨a, kvs, rfl, ha, q⟩ := h
  obtain ⟨u, rfl, ru⟩ := vals1 r
  cases ru
  exact d_len I ha fun t s' I' => ⟨.int kvs.length, H, I', ⟨t, rfl⟩, q⟩
theorem oF_len (hK : X.K = c.K) : CallR X (.builtin "len") (rDn c (opF .len)) := by
  intro pins s σ H xs us Q I r h
  obtain ⟨F, w, σ', s', ds, sr, vd, h⟩ := h
  cases ds with
  | nil => exact h.elim
  | cons d ds =>
  cases ds with
  | cons _ _ => cases d <;> exact h.elim
  | nil =>
  obtain ⟨x, ex, vq⟩ := vd.one
  clear vd
  subst ex
  have vd := vq
  cases d <;> first | exact h.elim | skip
  · rename_i z
    obtain ⟨hz, h⟩ := fin_ifB h
    cases (show x = _ from vd)
    exact call_len pins s σ H _ us Q I r ⟨.str z, z.length, rfl, ⟨of_decide_eq_true hz, rfl⟩, fin_im h sr rfl⟩
  · obtain ⟨a, vs, rfl, ha, hr⟩ := vd
    exact call_len_seq pins s σ H _ us Q I r ⟨a, vs, rfl, .inl (SqL.of ha), by rw [hr.length]; exact fin_im h sr rfl⟩
  · obtain ⟨a, vs, rfl, ha, hr⟩ := vd
    exact call_len_seq pins s σ H _ us Q I r ⟨a, vs, rfl, .inr (SqT.of (sr.bh _ _ ha)), by rw [hr.length]; exact fin_im h sr rfl⟩
  · obtain ⟨a, vs, rfl, ha, hr⟩ := vd
    have h2 := hr.length
    refine call_lenRd pins s σ H _ us Q I r ⟨a, vs, rfl, ha, by rw [h2]; exact fin_im h sr rfl⟩
  · obtain ⟨a, vs, rfl, ha, hr⟩ := vd
    exact call_len_seq pins s σ H _ us Q I r ⟨a, vs, rfl, .inl (by rw [hK]; exact sr.bh.l ha), by rw [hr.length]; exact fin_im h sr rfl⟩
  · obtain ⟨a, vs, rfl, ha, hr⟩ := vd
    exact call_len_seq pins s σ H _ us Q I r ⟨a, vs, rfl, .inr (by rw [hK]; exact sr.bh.t ha), by rw [hr.length]; exact fin_im h sr rfl⟩
theorem RepK.keysR {B : Hp} {m : List Addr} : ∀ {kvs : List (Key × D)} {us : List (Key × V)}, RepK c B m kvs us → Reps c B m (kvs.map fun kv => keyD kv.1) (us.map fun kv => kV kv.1)
  | [], _, h => by
    rw [show _ = [] from h]
    rfl
  | (k, d) :: r, _, h => by
    obtain ⟨v, us, rfl, _, h2⟩ := h
    refine ⟨kV k, _, rfl, ?_, RepK.keysR h2⟩
    cases k <;> rfl
theorem oF_list (hc : X.calm = true) : CallR X (.type "list") (rDn c (opF .list)) := by
  intro pins s σ H xs us Q I r h
  obtain ⟨F, w, σ', s', ds, sr, vd, h⟩ := h
  cases ds with
  | nil => exact h.elim
  | cons d ds =>
  cases ds with
  | cons _ _ => cases d <;> exact h.elim
  | nil =>
  obtain ⟨x, ex, vq⟩ := vd.one
  clear vd
  subst ex
  have vd := vq
  cases d <;> first | exact h.elim | skip
  · obtain ⟨a, vs, rfl, ha, hr⟩ := vd
    exact call_list_of pins s σ H _ us Q I r ⟨a, vs, rfl, .inl (SqL.of ha), fun p hp => fin_own (o := .lst vs) h sr hp hr⟩
  · obtain ⟨a, vs, rfl, ha, hr⟩ := vd
    exact call_list_of pins s σ H _ us Q I r ⟨a, vs, rfl, .inr (SqT.of (sr.bh _ _ ha)), fun p hp => fin_own (o := .lst vs) h sr hp hr⟩
  · obtain ⟨a, us', rfl, ha, hr⟩ := vd
    exact call_listD hc pins s σ H _ us Q I r ⟨a, us', rfl, ha, fun p hp => fin_own (o := .lst _) h sr hp hr.keysR⟩
theorem oF_tuple : CallR X (.type "tuple") (rDn c (opF .tuple)) := by
  intro pins s σ H xs us Q I r h
  obtain ⟨F, w, σ', s', ds, sr, vd, h⟩ := h
  cases ds with
  | nil => exact h.elim
  | cons d ds =>
  cases ds with
  | cons _ _ => cases d <;> exact h.elim
  | nil =>
  obtain ⟨x, ex, vq⟩ := vd.one
  clear vd
  subst ex
  have vd := vq
  cases d <;> first | exact h.elim | skip
  · obtain ⟨a, vs, rfl, ha, hr⟩ := vd
    exact call_tuple_of pins s σ H _ us Q I r ⟨a, vs, rfl, .inl ⟨SqL.of ha, fun p hp => fin_tup h sr hp hr⟩⟩
  · obtain ⟨a, vs, rfl, ha, hr⟩ := vd
    exact call_tuple_of pins s σ H _ us Q I r ⟨a, vs, rfl, .inr ⟨SqT.of (sr.bh _ _ ha), fin_im h sr ⟨a, vs, rfl, ha, hr⟩⟩⟩
theorem oF_int : CallR X (.type "int") (rDn c (opF .int)) := by
  intro pins s σ H xs us Q I r h
  obtain ⟨F, w, σ', s', ds, sr, vd, h⟩ := h
  cases ds with
  | nil => exact h.elim
  | cons d ds =>
  cases ds with
  | cons _ _ => cases d <;> exact h.elim
  | nil =>
  obtain ⟨x, ex, vq⟩ := vd.one
  clear vd
  subst ex
  have vd := vq
  cases d <;> first | exact h.elim | skip
  · cases (show x = _ from vd)
    exact call_int1 pins s σ H _ us Q I r (.inr ⟨_, rfl, fin_im h sr rfl⟩)
  · cases (show x = _ from vd)
    exact call_int1 pins s σ H _ us Q I r (.inl ⟨_, rfl, fin_im h sr rfl⟩)
theorem oF_str : CallR X (.type "str") (rDn c (opF .str)) := by
  intro pins s σ H xs us Q I r h
  obtain ⟨F, w, σ', s', ds, sr, vd, h⟩ := h
  cases ds with
  | nil => exact h.elim
  | cons d ds =>
  cases ds with
  | cons _ _ => cases d <;> exact h.elim
  | nil =>
  obtain ⟨x, ex, vq⟩ := vd.one
  clear vd
  subst ex
  have vd := vq
  cases d <;> first | exact h.elim | skip
  cases (show x = _ from vd)
  obtain ⟨hz, h⟩ := fin_ifB h
  exact call_str_int pins s σ H _ us Q I r ⟨_, rfl, of_decide_eq_true hz, fin_im h sr rfl⟩
theorem oF_abs : CallR X (.builtin "abs") (rDn c (opF .abs)) := by
  intro pins s σ H xs us Q I r h
  obtain ⟨F, w, σ', s', ds, sr, vd, h⟩ := h
  cases ds with
  | nil => exact h.elim
  | cons d ds =>
  cases ds with
  | cons _ _ => cases d <;> exact h.elim
  | nil =>
  obtain ⟨x, ex, vq⟩ := vd.one
  clear vd
  subst ex
  have vd := vq
  cases d <;> first | exact h.elim | skip
  cases (show x = _ from vd)
  exact call_abs pins s σ H _ us Q I r ⟨_, rfl, fin_im h sr rfl⟩
theorem oF_two {f : BI} {id : String} {g : Int → Int → Int} (rule : CallR X (.builtin id) fun xs H Q => ∃ i j, xs = [V.int i, V.int j] ∧ Q (V.int (g i j)) H)
    (h0 : ∀ i j, opF f [.int i, .int j] = intD (g i j)) (hn : ∀ ds, (∃ i j, ds = [.int i, .int j]) ∨ opF f ds = none) : CallR X (.builtin id) (rDn c (opF f)) := by
  intro pins s σ H xs us Q I r h
  obtain ⟨F, w, σ', s', ds, sr, vd, h⟩ := h
  rcases hn ds with ⟨i, j, rfl⟩ | q
  · obtain ⟨x, y, rfl, v1, v2⟩ := vd.two
    cases (show x = _ from v1)
    cases (show y = _ from v2)
    rw [h0] at h
    exact rule pins s σ H _ us Q I r ⟨i, j, rfl, fin_im h sr rfl⟩
  · rw [q] at h
    exact h.elim
theorem two_ints (f : BI) (h0 : opF f [] = none) (h1 : ∀ d, opF f [d] = none) (h3 : ∀ d e g r, opF f (d :: e :: g :: r) = none) (h2 : ∀ d e, (∃ i j, d = .int i ∧ e = .int j) ∨ opF f [d, e] = none) (ds : List D) :
    (∃ i j, ds = [.int i, .int j]) ∨ opF f ds = none := by
  match ds with
  | [] => exact .inr h0
  | [d] => exact .inr (h1 d)
  | [d, e] =>
    rcases h2 d e with ⟨i, j, rfl, rfl⟩ | q
    · exact .inl ⟨i, j, rfl⟩
    · exact .inr q
  | d :: e :: g :: r => exact .inr (h3 d e g r)
theorem oF_min2 (hc : X.calm = true) : CallR X (.builtin "min") (rDn c (opF .min2)) :=
  oF_two (call_min2 hc) (fun _ _ => rfl) (two_ints _ rfl (fun d => by cases d <;> rfl) (fun d e g r => by cases d <;> cases e <;> rfl) fun d e => by cases d <;> cases e <;> first | exact .inr rfl | exact .inl ⟨_, _, rfl, rfl⟩)
theorem oF_max2 (hc : X.calm = true) : CallR X (.builtin "max") (rDn c (opF .max2)) :=
  oF_two (call_max2 hc) (fun _ _ => rfl) (two_ints _ rfl (fun d => by cases d <;> rfl) (fun d e g r => by cases d <;> cases e <;> rfl) fun d e => by cases d <;> cases e <;> first | exact .inr rfl | exact .inl ⟨_, _, rfl, rfl⟩)
theorem oF_divmod : CallR X (.builtin "divmod") (rDn c (opF .divmod)) := by
  intro pins s σ H xs us Q I r h
  obtain ⟨F, w, σ', s', ds, sr, vd, h⟩ := h
  rcases two_ints .divmod rfl (fun d => by cases d <;> rfl) (fun d e g r => by cases d <;> cases e <;> rfl) (fun d e => by cases d <;> cases e <;> first | exact .inr rfl | exact .inl ⟨_, _, rfl, rfl⟩) ds with ⟨i, j, rfl⟩ | q
  · obtain ⟨x, y, rfl, v1, v2⟩ := vd.two
    cases (show x = _ from v1)
    cases (show y = _ from v2)
    obtain ⟨hz, h⟩ := fin_ifB h
    exact call_divmod pins s σ H _ us Q I r ⟨i, j, rfl, (show 0 < j ∧ j < 1073741824 from of_decide_eq_true hz), fun p hp => fin_tup h sr hp ⟨_, _, rfl, rfl, _, _, rfl, rfl, rfl⟩⟩
  · rw [q] at h
    exact h.elim
theorem oF_sum (hK : X.K = c.K) (hc : X.calm = true) : CallR X (.builtin "sum") (rDn c (opF .sum)) := by
  intro pins s σ H xs us Q I r h
  obtain ⟨F, w, σ', s', ds, sr, vd, h⟩ := h
  cases ds with
  | nil => exact h.elim
  | cons d ds =>
  cases ds with
  | cons _ _ => cases d <;> exact h.elim
  | nil =>
  obtain ⟨x, ex, vq⟩ := vd.one
  clear vd
  subst ex
  have vd := vq
  cases d <;> first | exact h.elim | skip
  rename_i ds
  obtain ⟨a, vs, rfl, ha, hr⟩ := vd
  obtain ⟨is, e, h⟩ := fin_opt (o := intsD ds) (f := fun is => intD is.sum) h
  have ev := hr.ints e
  subst ev
  exact cr_sum hc pins s σ H _ us Q I r ⟨a, is, rfl, SqL.of ha, fin_im h sr rfl⟩
theorem oF_all (hc : X.calm = true) : CallR X (.builtin "all") (rDn c (opF .all)) := by
  intro pins s σ H xs us Q I r h
  obtain ⟨F, w, σ', s', ds, sr, vd, h⟩ := h
  cases ds with
  | nil => exact h.elim
  | cons d ds =>
  cases ds with
  | cons _ _ => cases d <;> exact h.elim
  | nil =>
  obtain ⟨x, ex, vq⟩ := vd.one
  clear vd
  subst ex
  have vd := vq
  cases d <;> first | exact h.elim | skip
  rename_i ds
  obtain ⟨a, vs, rfl, ha, hr⟩ := vd
  obtain ⟨is, e, h⟩ := fin_opt (o := boolsD ds) (f := fun is => bl (is.all id)) h
  have ev := hr.bools e
  subst ev
  exact cr_all hc pins s σ H _ us Q I r ⟨a, is, rfl, SqL.of ha, fin_im h sr rfl⟩
theorem oF_any (hc : X.calm = true) : CallR X (.builtin "any") (rDn c (opF .any)) := by
  intro pins s σ H xs us Q I r h
  obtain ⟨F, w, σ', s', ds, sr, vd, h⟩ := h
  cases ds with
  | nil => exact h.elim
  | cons d ds =>
  cases ds with
  | cons _ _ => cases d <;> exact h.elim
  | nil =>
  obtain ⟨x, ex, vq⟩ := vd.one
  clear vd
  subst ex
  have vd := vq
  cases d <;> first | exact h.elim | skip
  rename_i ds
  obtain ⟨a, vs, rfl, ha, hr⟩ := vd
  obtain ⟨is, e, h⟩ := fin_opt (o := boolsD ds) (f := fun is => bl (is.any id)) h
  have ev := hr.bools e
  subst ev
  exact cr_any hc pins s σ H _ us Q I r ⟨a, is, rfl, SqL.of ha, fin_im h sr rfl⟩
theorem oF_max1 (hc : X.calm = true) : CallR X (.builtin "max") (rDn c (opF .max1)) := by
  intro pins s σ H xs us Q I r h
  obtain ⟨F, w, σ', s', ds, sr, vd, h⟩ := h
  cases ds with
  | nil => exact h.elim
  | cons d ds =>
  cases ds with
  | cons _ _ => cases d <;> exact h.elim
  | nil =>
  obtain ⟨x, ex, vq⟩ := vd.one
  clear vd
  subst ex
  have vd := vq
  cases d <;> first | exact h.elim | skip
  rename_i ds
  obtain ⟨a, vs, rfl, ha, hr⟩ := vd
  obtain ⟨is, e, h⟩ := fin_opt (o := intsD ds) (f := fun is => ifB (!is.isEmpty) (intD (maxI is))) h
  obtain ⟨hn, h⟩ := fin_ifB h
  have hne : is ≠ [] := fun z => by
    rw [z] at hn
    cases hn
  have ev := hr.ints e
  subst ev
  obtain ⟨m1, m2⟩ := maxI_mem hne
  refine cr_max hc pins s σ H _ us Q I r ⟨a, is, rfl, SqL.of ha, List.length_pos_iff.mpr hne, fun m k1 k2 => ?_⟩
  rw [show m = maxI is from Int.le_antisymm (m2 m k1) (k2 _ m1)]
  exact fin_im h sr rfl
theorem oF_min1 (hc : X.calm = true) : CallR X (.builtin "min") (rDn c (opF .min1)) := by
  intro pins s σ H xs us Q I r h
  obtain ⟨F, w, σ', s', ds, sr, vd, h⟩ := h
  cases ds with
  | nil => exact h.elim
  | cons d ds =>
  cases ds with
  | cons _ _ => cases d <;> exact h.elim
  | nil =>
  obtain ⟨x, ex, vq⟩ := vd.one
  clear vd
  subst ex
  have vd := vq
  cases d <;> first | exact h.elim | skip
  rename_i ds
  obtain ⟨a, vs, rfl, ha, hr⟩ := vd
  obtain ⟨is, e, h⟩ := fin_opt (o := intsD ds) (f := fun is => ifB (!is.isEmpty) (intD (minI is))) h
  obtain ⟨hn, h⟩ := fin_ifB h
  have hne : is ≠ [] := fun z => by
    rw [z] at hn
    cases hn
  have ev := hr.ints e
  subst ev
  obtain ⟨m1, m2⟩ := minI_mem hne
  refine cr_min hc pins s σ H _ us Q I r ⟨a, is, rfl, SqL.of ha, List.length_pos_iff.mpr hne, fun m k1 k2 => ?_⟩
  rw [show m = minI is from Int.le_antisymm (k2 _ m1) (m2 m k1)]
  exact fin_im h sr rfl
theorem insI_perm (i : Int) : ∀ js : List Int, (insI i js).Perm (i :: js)
  | [] => .refl _
  | j :: js => by
    unfold insI
    split
    · exact .refl _
    · exact ((insI_perm i js).cons j).trans (.swap _ _ _)
theorem insI_mem {i x : Int} {js : List Int} (h : x ∈ insI i js) : x = i ∨ x ∈ js := by
  have := (insI_perm i js).mem_iff.mp h
  simpa using this
theorem insI_srt (i : Int) : ∀ js : List Int, js.Pairwise (· ≤ ·) → (insI i js).Pairwise (· ≤ ·)
  | [], _ => by simp [insI]
  | j :: js, h => by
    obtain ⟨h1, h2⟩ := List.pairwise_cons.mp h
    unfold insI
    split
    · rename_i z
      refine List.pairwise_cons.mpr ⟨fun x hx => ?_, h⟩
      rcases List.mem_cons.mp hx with rfl | hx
      · exact z
      · exact Int.le_trans z (h1 x hx)
    · rename_i z
      refine List.pairwise_cons.mpr ⟨fun x hx => ?_, insI_srt i js h2⟩
      rcases insI_mem hx with rfl | hx
      · omega
      · exact h1 x hx
theorem srtI_ok : ∀ is : List Int, (srtI is).Perm is ∧ (srtI is).Pairwise (· ≤ ·)
  | [] => ⟨.refl _, .nil⟩
  | i :: is => by
    obtain ⟨h1, h2⟩ := srtI_ok is
    exact ⟨(insI_perm i _).trans (h1.cons i), insI_srt i _ h2⟩
theorem srt_uniq {xs ys : List Int} (p : xs.Perm ys) (h : xs.Pairwise (· ≤ ·)) (k : ys.Pairwise (· ≤ ·)) : xs = ys :=
  List.Perm.eq_of_pairwise (fun _ _ _ _ z1 z2 => Int.le_antisymm z1 z2) h k p
theorem reps_ints {B : Hp} {m : List Addr} : ∀ is : List Int, Reps c B m (is.map .int) (is.map V.int)
  | [] => rfl
  | i :: is => ⟨_, _, rfl, rfl, reps_ints is⟩
theorem oF_sorted : CallR X (.builtin "sorted") (rDn c (opF .sorted)) := by
  intro pins s σ H xs us Q I r h
  obtain ⟨F, w, σ', s', ds, sr, vd, h⟩ := h
  cases ds with
  | nil => exact h.elim
  | cons d ds =>
  cases ds with
  | cons _ _ => cases d <;> exact h.elim
  | nil =>
  obtain ⟨x, ex, vq⟩ := vd.one
  clear vd
  subst ex
  have vd := vq
  cases d <;> first | exact h.elim | skip
  rename_i ds
  obtain ⟨a, vs, rfl, ha, hr⟩ := vd
  obtain ⟨is, e, h⟩ := fin_opt (o := intsD ds) (f := fun is => some (.own (.lst ((srtI is).map .int)))) h
  have ev := hr.ints e
  subst ev
  refine cr_sortedI pins s σ H _ us Q I r ⟨a, is, rfl, SqL.of ha, fun ns p h1 h2 hp => ?_⟩
  obtain ⟨k1, k2⟩ := srtI_ok is
  rw [srt_uniq (h1.trans k1.symm) h2 k2]
  exact fin_own (o := .lst _) h sr hp (reps_ints _)
theorem oF_ok (hK : X.K = c.K) (hc : X.calm = true) : ∀ f, CallR X (fF f) (rDn c (opF f))
  | .len => oF_len hK
  | .list => oF_list hc
  | .tuple => oF_tuple
  | .int => oF_int
  | .str => oF_str
  | .min1 => oF_min1 hc
  | .min2 => oF_min2 hc
  | .max1 => oF_max1 hc
  | .max2 => oF_max2 hc
  | .sum => oF_sum hK hc
  | .all => oF_all hc
  | .any => oF_any hc
  | .divmod => oF_divmod
  | .abs => oF_abs
  | .sorted => oF_sorted
end
end PB

set_option Elab.async false
set_option linter.all false
set_option autoImplicit false
set_option maxRecDepth 100000
/-! THE BRIDGE, 6: expressions of the text and their code. -/
namespace PB
open PySem PySem.Spec PyProof.Rows L2

/-! ### the forms of the text -/
def plainX : Expr → Bool
  | .Starred .. => false
  | _ => true
def noSlice : Expr → Bool
  | .Slice .. => false
  | _ => true
def baseOk : Expr → Bool
  | .Call (.Name id _) _ _ _ => id != ("super" : Str)
  | .Call (.Attribute ..) _ _ _ => true
  | .Call .. => false
  | _ => true
def noSet : Expr → Bool
  | .Set .. => false
  | _ => true
theorem star_cons {e : Expr} {es : List Expr} {env : PySem.Env} (h : plainX e = true) : starEach (e :: es) env = (false, eval e env) :: starEach es env := by
  cases e <;> first | rfl | cases h
theorem any_plain {pos : Pos} {env : PySem.Env} : ∀ {es : List Expr}, es.all plainX = true → (backTo pos (starEach es env)).any (·.1) = false
  | [], _ => rfl
  | e :: es, h => by
    rw [List.all_cons, Bool.and_eq_true] at h
    rw [star_cons h.1]
    show (false || (backTo pos (starEach es env)).any (·.1)) = false
    rw [any_plain h.2]
    rfl
theorem all_plain {pos : Pos} {env : PySem.Env} : ∀ {es : List Expr}, es.all plainX = true → (backTo pos (starEach es env)).all (fun x => !x.1) = true
  | [], _ => rfl
  | e :: es, h => by
    rw [List.all_cons, Bool.and_eq_true] at h
    rw [star_cons h.1]
    show (true && (backTo pos (starEach es env)).all (fun x => !x.1)) = true
    rw [all_plain h.2]
    rfl
theorem few_plain {pos : Pos} {env : PySem.Env} {es : List Expr} (h : es.all plainX = true) (hl : es.length < 30) :
    ((backTo pos (starEach es env)).all (fun x => !x.1) && (backToKw pos (keywordEach [] env)).all (fun x => x.1.isSome)
      && decide (es.length + ([] : List Keyword).length + (if ([] : List Keyword).isEmpty then 0 else 1) < 30)) = true := by
  rw [all_plain h]
  show (true && decide (es.length + 0 + 0 < 30)) = true
  rw [decide_eq_true (by omega)]
  rfl
theorem base_ok {o : Expr} {n : Str} {env : PySem.Env} {whole : Sem Value} (h : baseOk o = true) : attributeBase o n env whole = whole := by
  cases o <;> first | rfl | skip
  rename_i f as ks p
  cases f <;> first | (cases h; done) | rfl | skip
  rename_i id p'
  cases as with
  | cons a as => rfl
  | nil =>
    cases ks with
    | cons k ks => rfl
    | nil =>
      have h : (id != ("super" : Str)) = true := h
      unfold attributeBase
      simp only [h, Bool.true_or, if_true]
theorem ix_plain {i : Expr} (h : noSlice i = true) : PlainIx i := by
  intro o j
  cases i <;> first | rfl | cases h
theorem no_set {op : CmpOp} {e : Expr} (h : noSet e = true) : behindInMarks op e = false := by
  cases e <;> first | rfl | cases h
theorem folded_ok {e : Expr} {env : PySem.Env} (h : noSet e = true) : ∀ x, foldedSetIterable e env x = pure x := by
  intro x
  cases e <;> first | rfl | cases h
theorem _root_.L2.PE.imp {X : Cx} {e : Expr} {t t' : TE} (h : PE X e t) (k : ∀ σ H Q, t' σ H Q → t σ H Q) : PE X e t' := ⟨fun pins s σ H Q I q => h.run pins s σ H Q I (k σ H Q q)⟩
theorem _root_.L2.PT.imp {X : Cx} {e : Expr} {t t' : TT} (h : PT X e t) (k : ∀ σ H Q, t' σ H Q → t σ H Q) : PT X e t' := ⟨fun pins s σ H Q I q => h.run pins s σ H Q I (k σ H Q q)⟩
theorem _root_.L2.PA.imp {X : Cx} {e : List Expr} {t t' : TA} (h : PA X e t) (k : ∀ σ H Q, t' σ H Q → t σ H Q) : PA X e t' := ⟨fun pos pins s σ H Q I q => h.run pos pins s σ H Q I (k σ H Q q)⟩

/-! ### readings -/
def relA (c : Ct) : Wd → Hp → List D → List V → Prop := fun w _ ds xs => Reps c w.B w.m ds xs
inductive RVs (c : Ct) (F : Hp) (σ : L2.St) (w : Wd) (H : Hp) : List Vl → List V → Prop where
  | nil : RVs c F σ w H [] []
  | cons {v : Vl} {x : V} {vs : List Vl} {xs : List V} (hh : v.hold = v) (h : RV c F σ w H v x) (t : RVs c F σ w H vs xs) : RVs c F σ w H (v :: vs) (x :: xs)
def relB : Wd → Hp → Bool → Bool → Prop := fun _ _ a b => a = b
section
variable (Z : Env) (c : Ct) (W : WX)
def tEv (e : E) : TE := fun σ H Q => ∃ F w s, SR c F w H σ s ∧ Post c F σ W w (RV c F σ) Q (ev Z e s)
def tEa (a : A) : TA := fun σ H Q => ∃ F w s, SR c F w H σ s ∧ Post c F σ W w (relA c) Q (evA Z a s)
def tEo (a : A) : TA := fun σ H Q => ∃ F w s, SR c F w H σ s ∧ Post c F σ W w (RVs c F σ) Q (evO Z a s)
def tEt (e : E) : TT := fun σ H Q => ∃ F w s, SR c F w H σ s ∧ Post c F σ W w relB Q (evT Z e s)
def tEx (f : S → R Bool) : TT := fun σ H Q => ∃ F w s, SR c F w H σ s ∧ Post c F σ W w relB Q (f s)
def tEw (f : S → R Vl) : TE := fun σ H Q => ∃ F w s, SR c F w H σ s ∧ Post c F σ W w (RV c F σ) Q (f s)
end
section
variable {X : Cx} {Z : Env} {c : Ct} {W : WX}
theorem look_hold {s : S} {v : Vl} : v.hold.look s = v.look s ∨ ∃ d, v = .own d := by
  cases v with
  | im d => exact .inl rfl
  | pk i => exact .inl rfl
  | own d => exact .inr ⟨d, rfl⟩
/-! ### names, constants -/
theorem s_var {i : Nat} {x : Str} {pos : Pos} (h : PE X (.Name x pos) (tVar i)) : PE X (.Name x pos) (tEv Z c W (.var i)) := by
  refine h.imp fun σ H Q h => ?_
  obtain ⟨F, w, s, sr, h⟩ := h
  rw [ev_var] at h
  cases e : s.ρ[i]? with
  | none =>
    rw [e] at h
    exact h.elim
  | some v =>
    rw [e] at h
    cases v with
    | no => exact h.elim
    | im d =>
      obtain ⟨v, e1, r⟩ := sr.im i d e
      exact ⟨v, e1, h w H v sr (Ext.refl _) r⟩
    | own d =>
      obtain ⟨a, o, e1, _⟩ := sr.ow i d e
      exact ⟨.ref a, e1, h w H _ sr (Ext.refl _) e1⟩
theorem s_cst {d : D} {v : V} {e : Expr} (h : PE X e (tC v)) (hr : ∀ B m, Rep c B m d v) : PE X e (tEv Z c W (.cst d)) := by
  refine h.imp fun σ H Q h => ?_
  obtain ⟨F, w, s, sr, h⟩ := h
  rw [ev_cst] at h
  exact h w H v sr (Ext.refl _) (hr _ _)
theorem s_glo {g : Nat} {d : D} {v : V} {e : Expr} (h : PE X e (tC v)) (hg : Z.glo g = some d) (hr : ∀ B m, Rep c B m d v) : PE X e (tEv Z c W (.glo g)) := by
  refine h.imp fun σ H Q h => ?_
  obtain ⟨F, w, s, sr, h⟩ := h
  rw [ev_glo, hg] at h
  exact h w H v sr (Ext.refl _) (hr _ _)
/-! ### operators -/
theorem s_bin2 {op : BOp} {a b : E} {ta tb : TE} {e : Expr} (h : PE X e (tOp (rD2 c (opB op)) (tEv Z c W a) (tEv Z c W b))) : PE X e (tEv Z c W (.bin op a b)) := by
  refine h.imp fun σ H Q h => ?_
  obtain ⟨F, w, s, sr, h⟩ := h
  rw [ev_bin] at h
  refine ⟨F, w, s, sr, h.bind fun v s1 w1 H1 x sr1 ex1 rv1 h1 => ?_⟩
  obtain ⟨w1', sr1', ex1', rv1'⟩ := rv1.hold sr1
  refine ⟨F, w1', s1, sr1', (h1.ext ex1').bind fun u s2 w2 H2 y sr2 ex2 rv2 h2 => ?_⟩
  have rv1'' : RV c F σ w2 H2 v.hold x := RV.mono ex2 (hold_hold v) rv1'
  cases e1 : v.hold.look s2 with
  | none =>
    rw [e1] at h2
    exact h2.elim
  | some d =>
    rw [e1] at h2
    cases e2 : u.look s2 with
    | none =>
      rw [e2] at h2
      exact h2.elim
    | some d' =>
      rw [e2] at h2
      exact ⟨F, w2, σ, s2, d, d', sr2, rv1''.look sr2 e1, rv2.look sr2 e2, fin_post h2⟩
theorem s_sub2 {a b : E} {e : Expr} (h : PE X e (tOp (rD2 c subD) (tEv Z c W a) (tEv Z c W b))) : PE X e (tEv Z c W (.sub a b)) := by
  refine h.imp fun σ H Q h => ?_
  obtain ⟨F, w, s, sr, h⟩ := h
  rw [ev_sub] at h
  refine ⟨F, w, s, sr, h.bind fun v s1 w1 H1 x sr1 ex1 rv1 h1 => ?_⟩
  obtain ⟨w1', sr1', ex1', rv1'⟩ := rv1.hold sr1
  refine ⟨F, w1', s1, sr1', (h1.ext ex1').bind fun u s2 w2 H2 y sr2 ex2 rv2 h2 => ?_⟩
  have rv1'' : RV c F σ w2 H2 v.hold x := RV.mono ex2 (hold_hold v) rv1'
  cases e1 : v.hold.look s2 with
  | none =>
    rw [e1] at h2
    exact h2.elim
  | some d =>
    rw [e1] at h2
    cases e2 : u.look s2 with
    | none =>
      rw [e2] at h2
      exact h2.elim
    | some d' =>
      rw [e2] at h2
      exact ⟨F, w2, σ, s2, d, d', sr2, rv1''.look sr2 e1, rv2.look sr2 e2, fin_post h2⟩
theorem s_un {op : UOp} {a : E} {e : Expr} (h : PE X e (tUn (rD1 c (opU op)) (tEv Z c W a))) : PE X e (tEv Z c W (.un op a)) := by
  refine h.imp fun σ H Q h => ?_
  obtain ⟨F, w, s, sr, h⟩ := h
  rw [ev_un] at h
  refine ⟨F, w, s, sr, h.bind fun v s1 w1 H1 x sr1 ex1 rv1 h1 => ?_⟩
  cases e1 : v.look s1 with
  | none =>
    rw [e1] at h1
    exact h1.elim
  | some d =>
    rw [e1] at h1
    exact ⟨F, w1, σ, s1, d, sr1, rv1.look sr1 e1, fin_post h1⟩
/-! ### argument lists -/
theorem s_anil : PA X [] (tEa Z c W .nil) := pa_nil.imp fun σ H Q h => by
  obtain ⟨F, w, s, sr, h⟩ := h
  rw [evA_nil] at h
  exact h w H [] sr (Ext.refl _) rfl
theorem s_acons {e : E} {r : A} {x : Expr} {xs : List Expr} (hx : plainX x = true) (h1 : PE X x (tEv Z c W e)) (h2 : PA X xs (tEa Z c W r)) : PA X (x :: xs) (tEa Z c W (.cons e r)) := by
  refine (pa_cons h1 h2 (star_cons hx)).imp fun σ H Q h => ?_
  obtain ⟨F, w, s, sr, h⟩ := h
  rw [evA_cons] at h
  refine ⟨F, w, s, sr, h.bind fun v s1 w1 H1 x sr1 ex1 rv1 h1 => ?_⟩
  cases e1 : v.fz s1 with
  | no =>
    rw [e1] at h1
    exact h1.elim
  | er k fs s' => exact (fz_noEr e1).elim
  | ok d s1' =>
    rw [e1] at h1
    obtain ⟨w1', sr1', ex1', r1⟩ := rv1.fz sr1 e1
    have h1 : Post c F σ W w1' (relA c) Q ((evA Z r s1').bind fun ds s => R.ok (d :: ds) s) := h1.ext ex1'
    refine ⟨F, w1', s1', sr1', h1.bind fun ds s2 w2 H2 ys sr2 ex2 rs h2 => ?_⟩
    exact h2 w2 H2 _ sr2 (Ext.refl _) ⟨x, ys, rfl, RV.im_mono ex2 r1, rs⟩
theorem s_onil : PA X [] (tEo Z c W .nil) := pa_nil.imp fun σ H Q h => by
  obtain ⟨F, w, s, sr, h⟩ := h
  rw [evO_nil] at h
  exact h w H [] sr (Ext.refl _) .nil
theorem s_ocons {e : E} {r : A} {x : Expr} {xs : List Expr} (hx : plainX x = true) (h1 : PE X x (tEv Z c W e)) (h2 : PA X xs (tEo Z c W r)) : PA X (x :: xs) (tEo Z c W (.cons e r)) := by
  refine (pa_cons h1 h2 (star_cons hx)).imp fun σ H Q h => ?_
  obtain ⟨F, w, s, sr, h⟩ := h
  rw [evO_cons] at h
  refine ⟨F, w, s, sr, h.bind fun v s1 w1 H1 x sr1 ex1 rv1 h1 => ?_⟩
  obtain ⟨w1', sr1', ex1', rv1'⟩ := rv1.hold sr1
  have h1 : Post c F σ W w1' (RVs c F σ) Q ((evO Z r s1).bind fun vs s => R.ok (v.hold :: vs) s) := h1.ext ex1'
  refine ⟨F, w1', s1, sr1', h1.bind fun vs s2 w2 H2 ys sr2 ex2 rs h2 => ?_⟩
  exact h2 w2 H2 _ sr2 (Ext.refl _) (.cons (hold_hold v) (RV.mono ex2 (hold_hold v) rv1') rs)
theorem RVs.views {F : Hp} {σ : L2.St} {w : Wd} {H : Hp} {s : S} (sr : SR c F w H σ s) : ∀ {vs : List Vl} {xs : List V} {ds : List D}, RVs c F σ w H vs xs → lookAll s vs = some ds → Views c w H ds xs
  | _, _, _, .nil, e => by
    cases e
    exact .nil
  | v :: vs, x :: xs, ds, .cons hh h t, e => by
    rw [lookAll] at e
    cases q1 : v.look s with
    | none =>
      rw [q1] at e
      cases e
    | some d =>
      rw [q1] at e
      cases q2 : lookAll s vs with
      | none =>
        rw [q2] at e
        cases e
      | some ds' =>
        rw [q2] at e
        cases e
        exact .cons (h.look sr q1) (RVs.views sr t q2)
theorem s_tup {a : A} {es : List Expr} {k : Nat} {pos : Pos} (h : PA X es (tEa Z c W a)) : PE X (.Tuple es k pos) (tEv Z c W (.tup a)) := by
  refine (pe_tup h).imp fun σ H Q h => ?_
  obtain ⟨F, w, s, sr, h⟩ := h
  rw [ev_tup] at h
  refine ⟨F, w, s, sr, h.bind fun ds s1 w1 H1 xs sr1 ex1 rs h1 => ?_⟩
  by_cases z : ds.length ≤ sizeLine
  · rw [if_pos z] at h1
    exact ⟨by rw [Reps.length rs]; exact z, fun p hp => fin_tup (fin_post (o := some (.im (.tup ds))) h1) sr1 hp rs⟩
  · rw [if_neg z] at h1
    exact h1.elim
theorem s_lst {a : A} {es : List Expr} {pos : Pos} (h : PA X es (tEa Z c W a)) : PE X (.List es pos) (tEv Z c W (.lst a)) := by
  refine (pe_lst h).imp fun σ H Q h => ?_
  obtain ⟨F, w, s, sr, h⟩ := h
  rw [ev_lst] at h
  refine ⟨F, w, s, sr, h.bind fun ds s1 w1 H1 xs sr1 ex1 rs h1 => ?_⟩
  by_cases z : ds.length ≤ sizeLine
  · rw [if_pos z] at h1
    exact ⟨by rw [Reps.length rs]; exact z, fun p hp => fin_own (o := .lst xs) (fin_post (o := some (.own (.lst ds))) h1) sr1 hp rs⟩
  · rw [if_neg z] at h1
    exact h1.elim
theorem s_dK {pos : Pos} (h : PE X (.Dict [] [] pos) (fun σ H Q => ∀ p, H p = none → Q (.ref p) (upd H p (.dK [])))) : PE X (.Dict [] [] pos) (tEv Z c W .dK) := by
  refine h.imp fun σ H Q h p hp => ?_
  obtain ⟨F, w, s, sr, h⟩ := h
  rw [ev_dK] at h
  exact fin_own (d := .dk []) (o := .dK []) (fin_post (o := some (.own (.dk []))) h) sr hp rfl
theorem s_dT {pos : Pos} (h : PE X (.Dict [] [] pos) (fun σ H Q => ∀ p, H p = none → Q (.ref p) (upd H p (.dT [])))) : PE X (.Dict [] [] pos) (tEv Z c W .dT) := by
  refine h.imp fun σ H Q h p hp => ?_
  obtain ⟨F, w, s, sr, h⟩ := h
  rw [ev_dT] at h
  exact fin_own (d := .dt []) (o := .dT []) (fin_post (o := some (.own (.dt []))) h) sr hp rfl
theorem s_bi {f : BI} {a : A} {e : Expr} (h : PE X e (tCB (rDn c (opF f)) (tEo Z c W a))) : PE X e (tEv Z c W (.bi f a)) := by
  refine h.imp fun σ H Q h => ?_
  obtain ⟨F, w, s, sr, h⟩ := h
  rw [ev_bi] at h
  refine ⟨F, w, s, sr, h.bind fun vs s1 w1 H1 xs sr1 ex1 rs h1 => ?_⟩
  cases e1 : lookAll s1 vs with
  | none =>
    rw [e1] at h1
    exact h1.elim
  | some ds =>
    rw [e1] at h1
    exact ⟨F, w1, σ, s1, ds, sr1, RVs.views sr1 rs e1, fin_post h1⟩
/-! ### bools -/
theorem s_nt {a : E} {x : Expr} {pos : Pos} (h : PE X x (tEv Z c W a)) : PE X (.UnaryOp .Not x pos) (tEv Z c W (.nt a)) := by
  refine (pe_not h).imp fun σ H Q h => ?_
  obtain ⟨F, w, s, sr, h⟩ := h
  rw [ev_nt] at h
  refine ⟨F, w, s, sr, h.bind fun v s1 w1 H1 x sr1 ex1 rv1 h1 => ?_⟩
  split at h1
  · rename_i b
    cases (show x = V.bl b from rv1)
    exact ⟨b, rfl, h1 w1 H1 _ sr1 (Ext.refl _) rfl⟩
  · exact h1.elim
theorem s_ife {t a b : E} {x y z : Expr} {pos : Pos} (ht : PT X x (tEt Z c W t)) (ha : PE X y (tEv Z c W a)) (hb : PE X z (tEv Z c W b)) : PE X (.IfExp x y z pos) (tEv Z c W (.ife t a b)) := by
  refine (pe_ifExp ht ha hb).imp fun σ H Q h => ?_
  obtain ⟨F, w, s, sr, h⟩ := h
  rw [ev_ife] at h
  refine ⟨F, w, s, sr, h.bind fun v s1 w1 H1 x sr1 ex1 rv1 h1 => ?_⟩
  cases (show v = x from rv1)
  cases v with
  | true => exact iteT ⟨F, w1, s1, sr1, h1⟩
  | false => exact iteF ⟨F, w1, s1, sr1, h1⟩
theorem s_and1 {e : E} {x : Expr} {pos : Pos} (h : PE X x (tEv Z c W e)) : PE X (.BoolOp .And [x] pos) (tEw c W (evAndV Z (.cons e .nil))) := by
  refine (pe_one h).imp fun σ H Q h => ?_
  obtain ⟨F, w, s, sr, h⟩ := h
  exact ⟨F, w, s, sr, by rw [evAndV_one] at h; exact h⟩
theorem s_and {e e' : E} {r : A} {x y : Expr} {xs : List Expr} {pos : Pos} (h : PE X x (tEv Z c W e)) (h2 : PE X (.BoolOp .And (y :: xs) pos) (tEw c W (evAndV Z (.cons e' r)))) :
    PE X (.BoolOp .And (x :: y :: xs) pos) (tEw c W (evAndV Z (.cons e (.cons e' r)))) := by
  refine (pe_and h h2).imp fun σ H Q h => ?_
  obtain ⟨F, w, s, sr, h⟩ := h
  have h : Post c F σ W w (RV c F σ) Q ((ev Z e s).bind fun v s => match v with
      | .im (.bl true) => evAndV Z (.cons e' r) s
      | .im (.bl false) => .ok (.im (.bl false)) s
      | _ => .no) := by rw [evAndV_cons] at h; exact h
  refine ⟨F, w, s, sr, h.bind fun v s1 w1 H1 x sr1 ex1 rv1 h1 => ?_⟩
  split at h1
  · cases (show x = V.bl true from rv1)
    exact ⟨true, rfl, iteT ⟨F, w1, s1, sr1, h1⟩⟩
  · cases (show x = V.bl false from rv1)
    exact ⟨false, rfl, iteF (h1 w1 H1 _ sr1 (Ext.refl _) rfl)⟩
  · exact h1.elim
theorem s_or1 {e : E} {x : Expr} {pos : Pos} (h : PE X x (tEv Z c W e)) : PE X (.BoolOp .Or [x] pos) (tEw c W (evOrV Z (.cons e .nil))) := by
  refine (pe_one h).imp fun σ H Q h => ?_
  obtain ⟨F, w, s, sr, h⟩ := h
  exact ⟨F, w, s, sr, by rw [evOrV_one] at h; exact h⟩
theorem s_or {e e' : E} {r : A} {x y : Expr} {xs : List Expr} {pos : Pos} (h : PE X x (tEv Z c W e)) (h2 : PE X (.BoolOp .Or (y :: xs) pos) (tEw c W (evOrV Z (.cons e' r)))) :
    PE X (.BoolOp .Or (x :: y :: xs) pos) (tEw c W (evOrV Z (.cons e (.cons e' r)))) := by
  refine (pe_or h h2).imp fun σ H Q h => ?_
  obtain ⟨F, w, s, sr, h⟩ := h
  have h : Post c F σ W w (RV c F σ) Q ((ev Z e s).bind fun v s => match v with
      | .im (.bl false) => evOrV Z (.cons e' r) s
      | .im (.bl true) => .ok (.im (.bl true)) s
      | _ => .no) := by rw [evOrV_cons] at h; exact h
  refine ⟨F, w, s, sr, h.bind fun v s1 w1 H1 x sr1 ex1 rv1 h1 => ?_⟩
  split at h1
  · cases (show x = V.bl false from rv1)
    exact ⟨false, rfl, iteF ⟨F, w1, s1, sr1, h1⟩⟩
  · cases (show x = V.bl true from rv1)
    exact ⟨true, rfl, iteT (h1 w1 H1 _ sr1 (Ext.refl _) rfl)⟩
  · exact h1.elim
end
end PB

set_option Elab.async false
set_option linter.all false
set_option autoImplicit false
set_option maxRecDepth 100000
/-! THE BRIDGE, 7: tests, chains, slices, fields, methods of built-in types. -/
namespace PB
open PySem PySem.Spec PyProof.Rows L2
theorem _root_.L2.PW.imp {X : Cx} {e : Expr} {t t' : TT} (h : PW X e t) (k : ∀ σ H Q, t' σ H Q → t σ H Q) : PW X e t' := ⟨fun wh pins s σ H Q I q => h.run wh pins s σ H Q I (k σ H Q q)⟩
theorem _root_.L2.PO.imp {X : Cx} {e : Option Expr} {t t' : TO} (h : PO X e t) (k : ∀ σ H Q, t' σ H Q → t σ H Q) : PO X e t' := ⟨fun pins s σ H Q I q => h.run pins s σ H Q I (k σ H Q q)⟩
section
variable {X : Cx} {Z : Env} {c : Ct} {W : WX}
/-! ### tests -/
def isCmp : BOp → Bool
  | .eq => true
  | .ne => true
  | .lt => true
  | .le => true
  | .gt => true
  | .ge => true
  | .in_ => true
  | .nin => true
  | .is_ => true
  | .isn => true
  | _ => false
theorem cmp_bl {op : BOp} (h : isCmp op = true) {d e : D} {v : Vl} (q : opB op d e = some v) : ∃ b, v = .im (.bl b) := by
  cases op <;> first | (cases h; done) | skip
  · have q' : (match eqD d e with | some b => bl b | none => none) = some v := q
    split at q'
    · cases q'
      exact ⟨_, rfl⟩
    · cases q'
  · have q' : (match eqD d e with | some b => bl (!b) | none => none) = some v := q
    split at q'
    · cases q'
      exact ⟨_, rfl⟩
    · cases q'
  · cases d <;> cases e <;> cases q <;> exact ⟨_, rfl⟩
  · cases d <;> cases e <;> cases q <;> exact ⟨_, rfl⟩
  · cases d <;> cases e <;> cases q <;> exact ⟨_, rfl⟩
  · cases d <;> cases e <;> cases q <;> exact ⟨_, rfl⟩
  · have q' : (match inD d e with | some b => bl b | none => none) = some v := q
    split at q'
    · cases q'
      exact ⟨_, rfl⟩
    · cases q'
  · have q' : (match inD d e with | some b => bl (!b) | none => none) = some v := q
    split at q'
    · cases q'
      exact ⟨_, rfl⟩
    · cases q'
  · cases e <;> first | (cases d <;> cases q; done) | skip
    all_goals (cases d <;> cases q <;> exact ⟨_, rfl⟩)
  · cases e <;> first | (cases d <;> cases q; done) | skip
    all_goals (cases d <;> cases q <;> exact ⟨_, rfl⟩)
/-- a value that is a bool whenever it comes, as a test -/
theorem tEt_of_bl {e : E} (he : plainT e = true) (hb : ∀ s v s', ev Z e s = .ok v s' → ∃ b, v = .im (.bl b)) {σ : L2.St} {H : Hp} {Q : Bool → Hp → Prop} (h : tEt Z c W e σ H Q) : tEv Z c W e σ H (fun x H' => ∃ k, x = .bl k ∧ Q k H') := by
  obtain ⟨F, w, s, sr, h⟩ := h
  rw [evT_any he] at h
  unfold tst at h
  refine ⟨F, w, s, sr, ?_⟩
  cases q : ev Z e s with
  | no =>
    rw [q] at h
    exact h.elim
  | er k fs s' =>
    rw [q] at h
    exact h
  | ok v s' =>
    obtain ⟨b, rfl⟩ := hb _ _ _ q
    rw [q] at h
    intro w' H' x sr' ex rv
    exact ⟨b, rv, h w' H' b sr' ex rfl⟩
theorem s_tcmp {op : BOp} {a b : E} {ta tb : TE} {e : Expr} (hc : isCmp op = true) (h : PT X e (tTest (tOp (rD2 c (opB op)) (tEv Z c W a) (tEv Z c W b)))) : PT X e (tEt Z c W (.bin op a b)) := by
  refine h.imp fun σ H Q h => ?_
  have h2 := tEt_of_bl (by rfl) (fun s v s' q => by
    rw [ev_bin] at q
    cases q1 : ev Z a s with
    | no => rw [q1] at q; cases q
    | er _ _ _ => rw [q1] at q; cases q
    | ok v1 s1 =>
      rw [q1] at q
      have q : ((ev Z b s1).bind fun u s => match v1.hold.look s, u.look s with
        | some d, some e => toR s (opB op d e)
        | _, _ => .no) = R.ok v s' := q
      cases q2 : ev Z b s1 with
      | no => rw [q2] at q; cases q
      | er _ _ _ => rw [q2] at q; cases q
      | ok v2 s2 =>
        rw [q2] at q
        have q : (match v1.hold.look s2, v2.look s2 with
        | some d, some e => toR s2 (opB op d e)
        | _, _ => .no) = R.ok v s' := q
        split at q
        · cases q3 : opB op _ _ with
          | none => rw [q3] at q; cases q
          | some r =>
            obtain ⟨b, rfl⟩ := cmp_bl hc q3
            rw [q3] at q
            cases q
            exact ⟨b, rfl⟩
        · cases q) h
  clear h
  obtain ⟨F, w, s, sr, h⟩ := h2
  rw [ev_bin] at h
  refine ⟨F, w, s, sr, h.bind fun v s1 w1 H1 x sr1 ex1 rv1 h1 => ?_⟩
  obtain ⟨w1', sr1', ex1', rv1'⟩ := rv1.hold sr1
  refine ⟨F, w1', s1, sr1', (h1.ext ex1').bind fun u s2 w2 H2 y sr2 ex2 rv2 h2 => ?_⟩
  have rv1'' : RV c F σ w2 H2 v.hold x := RV.mono ex2 (hold_hold v) rv1'
  cases e1 : v.hold.look s2 with
  | none =>
    rw [e1] at h2
    exact h2.elim
  | some d =>
    rw [e1] at h2
    cases e2 : u.look s2 with
    | none =>
      rw [e2] at h2
      exact h2.elim
    | some d' =>
      rw [e2] at h2
      exact ⟨F, w2, σ, s2, d, d', sr2, rv1''.look sr2 e1, rv2.look sr2 e2, fin_post h2⟩
theorem s_tnt {a : E} {x : Expr} {pos : Pos} (h : PT X x (tEt Z c W a)) : PT X (.UnaryOp .Not x pos) (tEt Z c W (.nt a)) := by
  refine (pt_not h).imp fun σ H Q h => ?_
  obtain ⟨F, w, s, sr, h⟩ := h
  rw [evT_nt] at h
  refine ⟨F, w, s, sr, h.bind fun v s1 w1 H1 x sr1 ex1 rv1 h1 => ?_⟩
  cases (show v = x from rv1)
  exact h1 w1 H1 _ sr1 (Ext.refl _) rfl
theorem s_tand1 {e : E} {x : Expr} {pos : Pos} (h : PT X x (tEt Z c W e)) : PW X (.BoolOp .And [x] pos) (tEx c W (evAndT Z (.cons e .nil))) := by
  refine (pw_and1 h).imp fun σ H Q h => ?_
  obtain ⟨F, w, s, sr, h⟩ := h
  rw [evAndT_cons] at h
  refine ⟨F, w, s, sr, h.bind fun v s1 w1 H1 x sr1 ex1 rv1 h1 => ?_⟩
  cases (show v = x from rv1)
  cases v with
  | true =>
    rw [if_pos rfl, evAndT_nil] at h1
    exact h1 w1 H1 _ sr1 (Ext.refl _) rfl
  | false => exact h1 w1 H1 _ sr1 (Ext.refl _) rfl
theorem s_tand {e e' : E} {r : A} {x y : Expr} {xs : List Expr} {pos : Pos} (h : PT X x (tEt Z c W e)) (h2 : PW X (.BoolOp .And (y :: xs) pos) (tEx c W (evAndT Z (.cons e' r)))) :
    PW X (.BoolOp .And (x :: y :: xs) pos) (tEx c W (evAndT Z (.cons e (.cons e' r)))) := by
  refine (pw_and h h2).imp fun σ H Q h => ?_
  obtain ⟨F, w, s, sr, h⟩ := h
  rw [evAndT_cons] at h
  refine ⟨F, w, s, sr, h.bind fun v s1 w1 H1 x sr1 ex1 rv1 h1 => ?_⟩
  cases (show v = x from rv1)
  cases v with
  | true => exact iteT ⟨F, w1, s1, sr1, h1⟩
  | false => exact iteF (h1 w1 H1 _ sr1 (Ext.refl _) rfl)
theorem s_tor1 {e : E} {x : Expr} {pos : Pos} (h : PT X x (tEt Z c W e)) : PW X (.BoolOp .Or [x] pos) (tEx c W (evOrT Z (.cons e .nil))) := by
  refine (pw_or1 h).imp fun σ H Q h => ?_
  obtain ⟨F, w, s, sr, h⟩ := h
  rw [evOrT_cons] at h
  refine ⟨F, w, s, sr, h.bind fun v s1 w1 H1 x sr1 ex1 rv1 h1 => ?_⟩
  cases (show v = x from rv1)
  cases v with
  | false =>
    rw [if_neg Bool.false_ne_true, evOrT_nil] at h1
    exact h1 w1 H1 _ sr1 (Ext.refl _) rfl
  | true => exact h1 w1 H1 _ sr1 (Ext.refl _) rfl
theorem s_tor {e e' : E} {r : A} {x y : Expr} {xs : List Expr} {pos : Pos} (h : PT X x (tEt Z c W e)) (h2 : PW X (.BoolOp .Or (y :: xs) pos) (tEx c W (evOrT Z (.cons e' r)))) :
    PW X (.BoolOp .Or (x :: y :: xs) pos) (tEx c W (evOrT Z (.cons e (.cons e' r)))) := by
  refine (pw_or h h2).imp fun σ H Q h => ?_
  obtain ⟨F, w, s, sr, h⟩ := h
  rw [evOrT_cons] at h
  refine ⟨F, w, s, sr, h.bind fun v s1 w1 H1 x sr1 ex1 rv1 h1 => ?_⟩
  cases (show v = x from rv1)
  cases v with
  | false => exact iteF ⟨F, w1, s1, sr1, h1⟩
  | true => exact iteT (h1 w1 H1 _ sr1 (Ext.refl _) rfl)
/-- any other expression as a test -/
def testOk : Expr → Bool
  | .UnaryOp .. => false
  | .BoolOp .. => false
  | .IfExp .. => false
  | .Compare .. => false
  | _ => true
theorem s_tany (hK : X.K = c.K) {e : E} {x : Expr} (hx : testOk x = true) (he : plainT e = true) (h : PE X x (tEv Z c W e)) : PT X x (tEt Z c W e) := by
  refine (pt_truth h (by intro wh; cases x <;> first | rfl | cases hx)).imp fun σ H Q h => ?_
  obtain ⟨F, w, s, sr, h⟩ := h
  rw [evT_any he] at h
  refine ⟨F, w, s, sr, h.bind fun v s1 w1 H1 x sr1 ex1 rv1 h1 => ?_⟩
  cases e1 : v.look s1 with
  | none =>
    rw [e1] at h1
    exact h1.elim
  | some d =>
    rw [e1] at h1
    cases e2 : truth d with
    | none =>
      simp only [e2] at h1
      exact h1.elim
    | some b =>
      simp only [e2] at h1
      exact ⟨b, by rw [hK]; exact truth_ok sr1 (rv1.look sr1 e1) e2, h1 w1 H1 b sr1 (Ext.refl _) rfl⟩
/-! ### a < b < c -/
theorem chn_read {op op' : BOp} {a b d : E} {σ : L2.St} {H : Hp} {Q : VK} (hc : isCmp op = true) (h : tEv Z c W (.chn op op' a b d) σ H Q) :
    tChain (rD2 c (opB op)) (rD2 c (opB op')) (tEv Z c W a) (tEv Z c W b) (tEv Z c W d) σ H Q := by
  obtain ⟨F, w, s, sr, h⟩ := h
  rw [ev_chn] at h
  refine ⟨F, w, s, sr, h.bind fun v s1 w1 H1 x sr1 ex1 rv1 h1 => ?_⟩
  obtain ⟨w1', sr1', ex1', rv1'⟩ := rv1.hold sr1
  refine ⟨F, w1', s1, sr1', (h1.ext ex1').bind fun u s2 w2 H2 y sr2 ex2 rv2 h2 => ?_⟩
  have rv1'' : RV c F σ w2 H2 v.hold x := RV.mono ex2 (hold_hold v) rv1'
  obtain ⟨w2', sr2', ex2', rv2'⟩ := rv2.hold sr2
  have h2 := h2.ext ex2'
  have rv1'' : RV c F σ w2' H2 v.hold x := RV.mono ex2' (hold_hold v) rv1''
  cases e1 : v.hold.look s2 with
  | none =>
    rw [e1] at h2
    exact h2.elim
  | some d1 =>
    rw [e1] at h2
    cases e2 : u.hold.look s2 with
    | none =>
      rw [e2] at h2
      exact h2.elim
    | some d2 =>
      rw [e2] at h2
      dsimp only at h2
      refine ⟨F, w2', σ, s2, d1, d2, sr2', rv1''.look sr2' e1, rv2'.look sr2' e2, ?_⟩
      cases e3 : opB op d1 d2 with
      | none =>
        rw [e3] at h2
        exact h2.elim
      | some r =>
        obtain ⟨k, rfl⟩ := cmp_bl hc e3
        rw [e3] at h2
        intro w3 H3 z sr3 ex3 rv3
        cases (show z = V.bl k from rv3)
        cases k with
        | false => exact ⟨false, rfl, iteF (h2 w3 H3 _ sr3 ex3 rfl)⟩
        | true =>
          refine ⟨true, rfl, iteT ⟨F, w3, s2, sr3, ?_⟩⟩
          have h2 := (show Post c F σ W w2' (RV c F σ) Q ((ev Z d s2).bind fun t s => match u.hold.look s, t.look s with
            | some e, some z => (match opB op' e z with
              | some (.im (.bl r)) => .ok (.im (.bl r)) s
              | _ => .no)
            | _, _ => .no) from h2).ext ex3
          refine h2.bind fun t s4 w4 H4 z sr4 ex4 rv4 h4 => ?_
          have rv2'' : RV c F σ w4 H4 u.hold y := RV.mono ex4 (hold_hold u) (RV.mono (H' := H3) ex3 (hold_hold u) rv2')
          cases e4 : u.hold.look s4 with
          | none =>
            rw [e4] at h4
            exact h4.elim
          | some d4 =>
            rw [e4] at h4
            cases e5 : t.look s4 with
            | none =>
              rw [e5] at h4
              exact h4.elim
            | some d5 =>
              rw [e5] at h4
              dsimp only at h4
              refine ⟨F, w4, σ, s4, d4, d5, sr4, rv2''.look sr4 e4, rv4.look sr4 e5, ?_⟩
              split at h4
              · rename_i r q
                rw [q]
                exact h4
              · exact h4.elim
theorem chn_bl {op op' : BOp} {a b d : E} (s : S) (v : Vl) (s' : S) (q : ev Z (.chn op op' a b d) s = .ok v s') : ∃ b, v = .im (.bl b) := by
  rw [ev_chn] at q
  cases q1 : ev Z a s with
  | no => rw [q1] at q; cases q
  | er _ _ _ => rw [q1] at q; cases q
  | ok v1 s1 =>
    rw [q1] at q
    cases q2 : ev Z b s1 with
    | no => simp only [R.bind, q2] at q; cases q
    | er _ _ _ => simp only [R.bind, q2] at q; cases q
    | ok v2 s2 =>
      simp only [R.bind, q2] at q
      split at q
      · split at q
        · cases q3 : ev Z d s2 with
          | no => simp only [q3] at q; cases q
          | er _ _ _ => simp only [q3] at q; cases q
          | ok v3 s3 =>
            simp only [q3] at q
            split at q
            · split at q
              · cases q
                exact ⟨_, rfl⟩
              · cases q
            · cases q
        · cases q
          exact ⟨_, rfl⟩
        · cases q
      · cases q
/-! ### slices -/
theorem po_val {e : Expr} {te : TE} (h : PE X e te) : PO X (some e) (fun σ H Q => te σ H fun x H1 => ∃ o, ((∃ i, x = .int i ∧ o = some i) ∨ (x = .non ∧ o = none)) ∧ Q o H1) := by
  refine ⟨fun pins s σ H Q I hw => ?_⟩
  rw [evalPart_some]
  refine thn (h.run pins s σ H _ I hw) fun u s1 ⟨x, H1, I1, r1, q1⟩ => ?_
  obtain ⟨o, h | h, q⟩ := q1
  · obtain ⟨i, rfl, rfl⟩ := h
    obtain ⟨t, rfl⟩ := r1
    exact ⟨some i, H1, I1, .int i t, q⟩
  · obtain ⟨rfl, rfl⟩ := h
    cases r1
    exact ⟨none, H1, I1, .none, q⟩
def tPo (Z : Env) (c : Ct) (W : WX) (e : E) : TO := fun σ H Q => tEv Z c W e σ H fun x H1 => ∃ o, ((∃ i, x = .int i ∧ o = some i) ∨ (x = .non ∧ o = none)) ∧ Q o H1
theorem s_po {e : E} {x : Expr} (h : PE X x (tEv Z c W e)) : PO X (some x) (tPo Z c W e) := po_val h
theorem s_nop : PO X none (tPo Z c W .nop) := po_none.imp fun σ H Q h => by
  obtain ⟨F, w, s, sr, h⟩ := h
  rw [ev_nop] at h
  obtain ⟨o, q, h⟩ := h w H .non sr (Ext.refl _) rfl
  rcases q with ⟨i, q, _⟩ | ⟨_, rfl⟩
  · cases q
  · exact h
theorem bnd_rep {B : Hp} {m : List Addr} {d : D} {o : Option Int} {v : V} (e : bndD d = some o) (h : Rep c B m d v) : (∃ i, v = .int i ∧ o = some i) ∨ (v = .non ∧ o = none) := by
  cases d <;> first | (cases e; done) | skip
  · cases e
    exact .inr ⟨h, rfl⟩
  · cases e
    exact .inl ⟨_, h, rfl⟩
theorem s_sli {a lo hi : E} {e : Expr} (h : PE X e (tSl (rSl c) (tEv Z c W a) (tPo Z c W lo) (tPo Z c W hi))) : PE X e (tEv Z c W (.sli a lo hi)) := by
  refine h.imp fun σ H Q h => ?_
  obtain ⟨F, w, s, sr, h⟩ := h
  rw [ev_sli] at h
  refine ⟨F, w, s, sr, h.bind fun v s1 w1 H1 x sr1 ex1 rv1 h1 => ?_⟩
  obtain ⟨w1', sr1', ex1', rv1'⟩ := rv1.hold sr1
  refine ⟨F, w1', s1, sr1', (h1.ext ex1').bind fun l s2 w2 H2 y sr2 ex2 rv2 h2 => ?_⟩
  split at h2
  · rename_i l
    have rv1'' : RV c F σ w2 H2 v.hold x := RV.mono ex2 (hold_hold v) rv1'
    cases hlo : bndD l with
    | none =>
      rw [hlo] at h2
      exact h2.elim
    | some lo' =>
      rw [hlo] at h2
      refine ⟨lo', bnd_rep hlo rv2, F, w2, s2, sr2, h2.bind fun h' s3 w3 H3 z sr3 ex3 rv3 h3 => ?_⟩
      split at h3
      · rename_i h'
        have rv1''' : RV c F σ w3 H3 v.hold x := RV.mono ex3 (hold_hold v) rv1''
        cases e1 : v.hold.look s3 with
        | none =>
          rw [e1] at h3
          exact h3.elim
        | some d =>
          cases e2 : bndD h' with
          | none =>
            rw [e1, e2] at h3
            exact h3.elim
          | some hi' =>
            rw [e1, e2] at h3
            exact ⟨hi', bnd_rep e2 rv3, F, w3, σ, s3, d, sr3, rv1'''.look sr3 e1, fin_post h3⟩
      · exact h3.elim
  · exact h2.elim
end
end PB

set_option Elab.async false
set_option linter.all false
set_option autoImplicit false
set_option maxRecDepth 100000
/-! THE BRIDGE, 8: fields, methods of built-in types. -/
namespace PB
open PySem PySem.Spec PyProof.Rows L2
theorem evalArgs_empty {M : Model} {A : Around} {E : Value → Shared → Prop} {s : Shared} {f : Value} {Q : Args → Shared → Prop} (h : wpAny M A (spliced []) (fun vs s' => Q ⟨vs, []⟩ s') E s) : wpAny M A (evalArgs f true [] []) Q E s := by
  unfold evalArgs
  show wpAny M A (spliced [] >>= _) Q E s
  refine wpAny_bind (wpAny_mono h (fun vs s' h' => ?_) fun _ _ x => x)
  refine wpAny_bind (wpAny_pure ?_)
  refine wpAny_holding ?_
  exact wpAny_bind (wpAny_pure (wpAny_bind (wpAny_pure (wpAny_pure h'))))
section
variable {X : Cx} {Z : Env} {c : Ct} {W : WX}
/-! ### fields -/
structure NaOk (c : Ct) (Z : Env) : Prop where
  cls : ∀ k f, Z.na k f = true → Cls c.K (c.cA k) ∧ NoAttr c.K (c.cA k) f
theorem s_fld (hK : X.K = c.K) (na : NaOk c Z) {a : E} {f : Str} {e : Expr} {pos : Pos} (hb : baseOk e = true) (h : PE X e (tEv Z c W a)) : PE X (.Attribute e f pos) (tEv Z c W (.fld a f)) := by
  refine (pe_fld h (base_ok hb)).imp fun σ H Q h => ?_
  obtain ⟨F, w, s, sr, h⟩ := h
  rw [ev_fld] at h
  refine ⟨F, w, s, sr, h.bind fun v s1 w1 H1 x sr1 ex1 rv1 h1 => ?_⟩
  cases e1 : v.look s1 with
  | none =>
    rw [e1] at h1
    exact h1.elim
  | some d =>
    rw [e1] at h1
    have vw := rv1.look sr1 e1
    cases d with
    | ins k fs =>
      obtain ⟨a, dx, us, rfl, ha, hr⟩ := vw
      by_cases z : Z.na k f = true
      · have h1 : Post c F σ W w1 (RV c F σ) Q (toR s1 ((fget f fs).map .im)) := by
          have h1' : Post c F σ W w1 (RV c F σ) Q (toR s1 (if Z.na k f then (fget f fs).map .im else none)) := h1
          rw [if_pos z] at h1'
          exact h1'
        cases e2 : fget f fs with
        | none =>
          rw [e2] at h1
          exact h1.elim
        | some d =>
          rw [e2] at h1
          obtain ⟨z1, z2, z3⟩ := (RepF.get f hr).1 d e2
          obtain ⟨n1, n2⟩ := na.cls k f z
          exact ⟨a, _, dx, us, z1, rfl, ha, by rw [hK]; exact n1, by rw [hK]; exact n2, z2, fin_im (fin_post (o := some (.im d)) h1) sr1 z3⟩
      · have h1' : Post c F σ W w1 (RV c F σ) Q (toR s1 (if Z.na k f then (fget f fs).map .im else none)) := h1
        rw [if_neg z] at h1'
        exact h1'.elim
    | exc k fs => exact h1.elim
    | _ => exact h1.elim
theorem repsOne {B : Hp} {m : List Addr} {d : D} {xs : List V} (h : Reps c B m [d] xs) : ∃ x, xs = [x] ∧ Rep c B m d x := by
  obtain ⟨x, us, rfl, h1, h2⟩ := h
  cases (show us = [] from h2)
  exact ⟨x, rfl, h1⟩
theorem repsTwo {B : Hp} {m : List Addr} {d e : D} {xs : List V} (h : Reps c B m [d, e] xs) : ∃ x y, xs = [x, y] ∧ Rep c B m d x ∧ Rep c B m e y := by
  obtain ⟨x, us, rfl, h1, h2⟩ := h
  obtain ⟨y, rfl, h3⟩ := repsOne h2
  exact ⟨x, y, rfl, h1, h3⟩
theorem valsOne {x : V} {us : List Value} (h : Vals [x] us) : ∃ u, us = [u] ∧ RelV x u := by
  cases h with
  | cons r t =>
    cases t
    exact ⟨_, rfl, r⟩
theorem valsTwo {x y : V} {us : List Value} (h : Vals [x, y] us) : ∃ u w, us = [u, w] ∧ RelV x u ∧ RelV y w := by
  cases h with
  | cons r t =>
    obtain ⟨w, rfl, r2⟩ := valsOne t
    exact ⟨_, w, rfl, r, r2⟩
/-! ### methods of built-in types -/
def rMt (c : Ct) (m : MT) : V → List V → Hp → VK → Prop := fun x xs H Q => ∃ (F : Hp) (w : Wd) (σ : L2.St) (s : S) (v : Vl) (d : D) (ds : List D), SR c F w H σ s ∧ v.hold = v ∧ RV c F σ w H v x ∧ v.look s = some d ∧ Reps c w.B w.m ds xs ∧
  Post c F σ (fun _ _ _ _ => True) w (RV c F σ) Q (match opM m d ds with
    | some r => back v s r
    | none => .no)
/-- the receiver is a list that is written -/
theorem recv_lst {F H : Hp} {w : Wd} {σ : L2.St} {s : S} {v : Vl} {x : V} {ds ds' : List D} {r : Vl} {Q : VK} (sr : SR c F w H σ s) (hv : RV c F σ w H v x) (e : v.look s = some (.lst ds))
    (h : Post c F σ (fun _ _ _ _ => True) w (RV c F σ) Q (back v s (r, some (.lst ds')))) :
    ∃ a vs, x = .ref a ∧ H a = some (.lst vs) ∧ Reps c w.B w.m ds vs ∧ ∀ vs' z, Reps c w.B w.m ds' vs' → RV c F σ w (upd H a (.lst vs')) r z → Q z (upd H a (.lst vs')) := by
  cases v with
  | own d => exact h.elim
  | pk i =>
    have e' : (match s.ρ[i]? with | some (.own d) => some d | _ => none) = some (.lst ds) := e
    split at e'
    · rename_i d q
      cases e'
      obtain ⟨a, o, h1, h2, h3, h4⟩ := sr.ow i _ q
      have hv' : σ[i]? = some (some x) := hv
      rw [h1] at hv'
      cases hv'
      cases o with
      | lst vs =>
        refine ⟨a, vs, rfl, h3, h4, fun vs' z hr hz => ?_⟩
        exact h w _ z (sr.write q h1 (o' := .lst vs') (d' := .lst ds') hr) (Ext.refl _) hz
      | _ => exact h4.elim
    · cases e'
  | im d =>
    cases d with
    | cell k =>
      have e' : (match s.st[k]? with | some (some d) => some d | _ => none) = some (.lst ds) := e
      split at e'
      · rename_i d q
        cases e'
        obtain ⟨a, o, h1, h2, h3, h4⟩ := sr.ce k _ q
        obtain ⟨a', rfl, hk⟩ := hv
        rw [h1] at hk
        cases hk
        cases o with
        | lst vs =>
          refine ⟨a, vs, rfl, h3, h4, fun vs' z hr hz => ?_⟩
          exact h w _ z (sr.store q h1 (o' := .lst vs') (d' := .lst ds') hr) (Ext.refl _) hz
        | _ => exact h4.elim
      · cases e'
    | _ => exact h.elim
def MT.name : MT → Str
  | .append => "append"
  | .extend => "extend"
  | .pop0 => "pop"
  | .popAt => "pop"
  | .insert => "insert"
  | .lremove => "remove"
  | .reverse => "reverse"
  | .clear => "clear"
  | .index => "index"
  | .count => "count"
  | .join => "join"
  | .split => "split"
  | .strip => "strip"
  | .startswith => "startswith"
  | .get1 => "get"
  | .get2 => "get"
def Kd.ty : Kd → String
  | .list => "list"
  | .str => "str"
  | .dict => "dict"
/-- what the model knows of a method -/
structure MtOk (X : Cx) (c : Ct) (m : MT) : Prop where
  ok : ∃ id, PlainAttrs m.kd.ty ∧ Slot m.kd.ty m.name id ∧ typeOf (.builtin id) = pure (.type "method_descriptor") ∧ MtR X id (rMt c m)
theorem mtk_append : MtOk X c .append := ⟨"list.append", PySem.F.plainAttrs_list, PySem.F.slot_list_append, PySem.F.type_list_append, by
  intro pins s σ H x xs v us Q I rx rv h
  obtain ⟨F, w, σ', s', v', d, ds, sr, hh, hv, e, hr, h⟩ := h
  cases d <;> first | exact h.elim | skip
  rename_i es
  match ds, hr with
  | [], hr => exact h.elim
  | _ :: _ :: _, hr => exact h.elim
  | [d], hr =>
    obtain ⟨y, ys, rfl, h1, h2⟩ := hr
    cases (show ys = [] from h2)
    have h' : Post c F σ' (fun _ _ _ _ => True) w (RV c F σ') Q (match (if es.length < sizeLine then some (Vl.im .non, some (D.lst (es ++ [d]))) else none) with
      | some r => back v' s' r
      | none => .no) := h
    by_cases z : es.length < sizeLine
    · rw [if_pos z] at h'
      obtain ⟨a, vs, rfl, ha, hr, k⟩ := recv_lst sr hv e h'
      exact mt_append pins s σ H _ _ v us Q I rx rv ⟨a, vs, y, rfl, rfl, ha, by rw [hr.length]; exact z, k _ _ (hr.append (.one h1)) rfl⟩
    · rw [if_neg z] at h'
      exact h'.elim⟩
theorem mtk_extend : MtOk X c .extend := ⟨"list.extend", PySem.F.plainAttrs_list, PySem.F.slot_list_extend, PySem.F.type_list_extend, by
  intro pins s σ H x xs v us Q I rx rv h
  obtain ⟨F, w, σ', s', v', d, ds, sr, hh, hv, e, hr, h⟩ := h
  cases d <;> first | exact h.elim | skip
  rename_i es
  match ds, hr with
  | [], hr => exact h.elim
  | d :: _ :: _, hr => cases d <;> exact h.elim
  | [d], hr =>
    cases d <;> first | exact h.elim | skip
    rename_i fs
    obtain ⟨y, ys, rfl, h1, h2⟩ := hr
    cases (show ys = [] from h2)
    obtain ⟨b, ws, rfl, hb, kr⟩ := h1
    have h' : Post c F σ' (fun _ _ _ _ => True) w (RV c F σ') Q (match (if es.length + fs.length ≤ sizeLine then some (Vl.im .non, some (D.lst (es ++ fs))) else none) with
      | some r => back v' s' r
      | none => .no) := h
    by_cases z : es.length + fs.length ≤ sizeLine
    · rw [if_pos z] at h'
      obtain ⟨a, vs, rfl, ha, hr, k⟩ := recv_lst sr hv e h'
      exact mt_extend pins s σ H _ _ v us Q I rx rv ⟨a, b, vs, ws, rfl, rfl, ha, sr.bh _ _ hb, by rw [hr.length, kr.length]; exact z, k _ _ (hr.append kr) rfl⟩
    · rw [if_neg z] at h'
      exact h'.elim⟩
theorem mtk_pop0 : MtOk X c .pop0 := ⟨"list.pop", PySem.F.plainAttrs_list, PySem.F.slot_list_pop, PySem.F.type_list_pop, by
  intro pins s σ H x xs v us Q I rx rv h
  obtain ⟨F, w, σ', s', v', d, ds, sr, hh, hv, e, hr, h⟩ := h
  cases d <;> first | exact h.elim | skip
  rename_i es
  match ds, hr with
  | _ :: _, hr => exact h.elim
  | [], hr =>
    cases (show xs = [] from hr)
    have h' : Post c F σ' (fun _ _ _ _ => True) w (RV c F σ') Q (match (match es[es.length - 1]? with
      | some d => some (Vl.im d, some (D.lst es.dropLast))
      | none => none) with
      | some r => back v' s' r
      | none => .no) := h
    cases q : es[es.length - 1]? with
    | none =>
      rw [q] at h'
      exact h'.elim
    | some d =>
      rw [q] at h'
      obtain ⟨a, vs, rfl, ha, hr, k⟩ := recv_lst sr hv e h'
      obtain ⟨y, h1, h2⟩ := hr.get q
      exact mt_pop pins s σ H _ _ v us Q I rx rv ⟨a, vs, y, rfl, rfl, ha, by rw [hr.length]; exact h1, k _ _ hr.dropLast h2⟩⟩
theorem mtk_popAt : MtOk X c .popAt := ⟨"list.pop", PySem.F.plainAttrs_list, PySem.F.slot_list_pop, PySem.F.type_list_pop, by
  intro pins s σ H x xs v us Q I rx rv h
  obtain ⟨F, w, σ', s', v', d, ds, sr, hh, hv, e, hr, h⟩ := h
  cases d <;> first | exact h.elim | skip
  rename_i es
  match ds, hr with
  | [], hr => exact h.elim
  | d :: _ :: _, hr => cases d <;> exact h.elim
  | [d], hr =>
    cases d <;> first | exact h.elim | skip
    rename_i i
    obtain ⟨y, ys, rfl, h1, h2⟩ := hr
    cases (show ys = [] from h2)
    cases (show y = _ from h1)
    have h' : Post c F σ' (fun _ _ _ _ => True) w (RV c F σ') Q (match (if -(2 ^ 63) ≤ i ∧ i < 2 ^ 63 then (match PySem.seqIndex? i es.length with
      | some k => match es[k]? with
        | some d => some (Vl.im d, some (D.lst (es.eraseIdx k)))
        | none => none
      | none => none) else none) with
      | some r => back v' s' r
      | none => .no) := h
    by_cases z : -(2 ^ 63) ≤ i ∧ i < 2 ^ 63
    · rw [if_pos z] at h'
      cases q : PySem.seqIndex? i es.length with
      | none =>
        rw [q] at h'
        exact h'.elim
      | some j =>
        rw [q] at h'
        dsimp only at h'
        cases q2 : es[j]? with
        | none =>
          rw [q2] at h'
          exact h'.elim
        | some d =>
          rw [q2] at h'
          obtain ⟨a, vs, rfl, ha, hr, k⟩ := recv_lst sr hv e h'
          obtain ⟨y, h1, h2⟩ := hr.get q2
          exact mt_popAt pins s σ H _ _ v us Q I rx rv ⟨a, vs, i, j, y, rfl, rfl, ha, z.1, z.2, by rw [hr.length]; exact q, h1, k _ _ (hr.eraseIdx j) h2⟩
    · rw [if_neg z] at h'
      exact h'.elim⟩
theorem mtk_reverse : MtOk X c .reverse := ⟨"list.reverse", PySem.F.plainAttrs_list, PySem.F.slot_list_reverse, PySem.F.type_list_reverse, by
  intro pins s σ H x xs v us Q I rx rv h
  obtain ⟨F, w, σ', s', v', d, ds, sr, hh, hv, e, hr, h⟩ := h
  cases d <;> first | exact h.elim | skip
  rename_i es
  match ds, hr with
  | _ :: _, hr => exact h.elim
  | [], hr =>
    cases (show xs = [] from hr)
    obtain ⟨a, vs, rfl, ha, hr, k⟩ := recv_lst sr hv e h
    exact mt_reverse pins s σ H _ _ v us Q I rx rv ⟨a, vs, rfl, rfl, ha, k _ _ hr.reverse rfl⟩⟩
theorem mtk_clear : MtOk X c .clear := ⟨"list.clear", PySem.F.plainAttrs_list, PySem.F.slot_list_clear, PySem.F.type_list_clear, by
  intro pins s σ H x xs v us Q I rx rv h
  obtain ⟨F, w, σ', s', v', d, ds, sr, hh, hv, e, hr, h⟩ := h
  cases d <;> first | exact h.elim | skip
  rename_i es
  match ds, hr with
  | _ :: _, hr => exact h.elim
  | [], hr =>
    cases (show xs = [] from hr)
    obtain ⟨a, vs, rfl, ha, hr, k⟩ := recv_lst sr hv e h
    exact mt_clear pins s σ H _ _ v us Q I rx rv ⟨a, vs, rfl, rfl, ha, k [] _ rfl rfl⟩⟩
theorem mtk_insert : MtOk X c .insert := ⟨"list.insert", PySem.F.plainAttrs_list, PySem.F.slot_list_insert, PySem.F.type_list_insert, by
  intro pins s σ H x xs v us Q I rx rv h
  obtain ⟨F, w, σ', s', v', d, ds, sr, hh, hv, e, hr, h⟩ := h
  cases d <;> first | exact h.elim | skip
  rename_i es
  match ds, hr with
  | [], hr => exact h.elim
  | [d], hr => cases d <;> exact h.elim
  | d :: _ :: _ :: _, hr => cases d <;> exact h.elim
  | [d, d2], hr =>
    cases d <;> first | exact h.elim | skip
    rename_i i
    obtain ⟨y, y2, rfl, h1, h2⟩ := repsTwo hr
    cases (show y = _ from h1)
    have h' : Post c F σ' (fun _ _ _ _ => True) w (RV c F σ') Q (match (if 0 ≤ i ∧ i < 2 ^ 63 ∧ es.length < sizeLine then some (Vl.im .non, some (D.lst (es.take i.toNat ++ [d2] ++ es.drop i.toNat))) else none) with
      | some r => back v' s' r
      | none => .no) := h
    by_cases z : 0 ≤ i ∧ i < 2 ^ 63 ∧ es.length < sizeLine
    · rw [if_pos z] at h'
      obtain ⟨a, vs, rfl, ha, hr, k⟩ := recv_lst sr hv e h'
      exact mt_insert pins s σ H _ _ v us Q I rx rv ⟨a, vs, i, y2, rfl, rfl, ha, by rw [hr.length]; exact z.2.2, z.1, z.2.1, k _ _ (((hr.take _).append (.one h2)).append (hr.drop _)) rfl⟩
    · rw [if_neg z] at h'
      exact h'.elim⟩
theorem posP_ok {p : PySem.PyData} : ∀ {ps : List PySem.PyData} {j : Nat}, posP p ps = some j → ∃ z, ps[j]? = some z ∧ PySem.PyData.eqv z p = true ∧ ∀ (m : Nat) (z' : PySem.PyData), m < j → ps[m]? = some z' → PySem.PyData.eqv z' p = false
  | [], j, h => by cases h
  | z :: zs, j, h => by
    unfold posP at h
    by_cases q : PySem.PyData.eqv z p = true
    · rw [if_pos q] at h
      cases h
      exact ⟨z, rfl, q, fun m z' hm => absurd hm (Nat.not_lt_zero m)⟩
    · rw [if_neg q] at h
      obtain ⟨i, hi, rfl⟩ := Option.map_eq_some_iff.mp h
      obtain ⟨y, h1, h2, h3⟩ := posP_ok hi
      refine ⟨y, h1, h2, fun m z' hm e => ?_⟩
      cases m with
      | zero =>
        cases e
        simpa using q
      | succ m => exact h3 m z' (by omega) e
theorem mtk_index (hK : X.K = c.K) (hu : X.A.units + 65 < cLine) : MtOk X c .index := ⟨"list.index", PySem.F.plainAttrs_list, PySem.F.slot_list_index, PySem.F.type_list_index, by
  intro pins s σ H x xs v us Q I rx rv h
  obtain ⟨F, w, σ', s', v', d, ds, sr, hh, hv, e, hr, h⟩ := h
  have vw := hv.look sr e
  cases d <;> first | exact h.elim | skip
  rename_i es
  match ds, hr with
  | [], hr => exact h.elim
  | d :: _ :: _, hr => cases d <;> exact h.elim
  | [d], hr =>
    obtain ⟨y, rfl, ry⟩ := repsOne hr
    have h : Post c F σ' (fun _ _ _ _ => True) w (RV c F σ') Q (match (match toPys es, toPy d with
      | some ps, some p => if (PySem.SeqAt.shaped (.list ps) && PySem.SeqAt.shaped p) = true then (match posP p ps with
        | some j => some (Vl.im (.int (j : Nat)), (none : Option D))
        | none => none) else none
      | _, _ => none) with
      | some r => back v' s' r
      | none => .no) := h
    cases q1 : toPys es with
    | none =>
      rw [q1] at h
      exact h.elim
    | some ps =>
    cases q2 : toPy d with
    | none =>
      rw [q1, q2] at h
      exact h.elim
    | some p =>
    rw [q1, q2] at h
    dsimp only at h
    by_cases q3 : (PySem.SeqAt.shaped (.list ps) && PySem.SeqAt.shaped p) = true
    · rw [if_pos q3] at h
      rw [Bool.and_eq_true] at q3
      cases q4 : posP p ps with
      | none =>
        rw [q4] at h
        exact h.elim
      | some j =>
        rw [q4] at h
        obtain ⟨z, g1, g2, g3⟩ := posP_ok q4
        have e3 : toPy (.lst es) = some (.list ps) := by
          show (match toPys es with
            | some ps => some (PySem.PyData.list ps)
            | none => none) = _
          rw [q1]
        have dp := vw.dp sr e3
        obtain ⟨a, vs, rfl, ha, _⟩ := vw
        exact mt_indexD hu pins s σ H _ _ v us Q I rx rv ⟨a, y, p, ps, j, z, rfl, rfl, by rw [hK]; exact dp, by rw [hK]; exact (sr.sub ry).dp sr q2, q3.1, q3.2, g1, g2, g3, h w H _ sr (Ext.refl _) rfl⟩
    · rw [if_neg q3] at h
      exact h.elim⟩
theorem look_getD {B : Hp} {m : List Addr} {kvs : List (Key × D)} {us : List (Key × V)} {k : Key} {d : D} {v : V} (h : RepK c B m kvs us) (r : Rep c B m d v) : Rep c B m ((look k kvs).getD d) ((valV us k).getD v) := by
  cases e : look k kvs with
  | none =>
    rw [(h.look k).2 e]
    exact r
  | some d' =>
    obtain ⟨v', h1, h2⟩ := (h.look k).1 d' e
    rw [h1]
    exact h2
theorem lookT_getD {B : Hp} {m : List Addr} {kvs : List (List Key × D)} {us : List (List Key × V)} {k : List Key} {d : D} {v : V} (h : RepT c B m kvs us) (r : Rep c B m d v) : Rep c B m ((lookT k kvs).getD d) ((valV us k).getD v) := by
  cases e : lookT k kvs with
  | none =>
    rw [(h.look k).2 e]
    exact r
  | some d' =>
    obtain ⟨v', h1, h2⟩ := (h.look k).1 d' e
    rw [h1]
    exact h2
theorem mtk_get1 (hu : X.A.units + 1 < cLine) : MtOk X c .get1 := ⟨"dict.get", PySem.F.plainAttrs_dict, PySem.F.slot_dict_get, PySem.F.type_dict_get, by
  intro pins s σ H x xs v us Q I rx rv h
  obtain ⟨F, w, σ', s', v', d, ds, sr, hh, hv, e, hr, h⟩ := h
  have vw := hv.look sr e
  cases d <;> first | (cases ds <;> exact h.elim) | skip
  · rename_i kvs
    match ds, hr with
    | [], hr => exact h.elim
    | d0 :: _ :: _, hr => cases d0 <;> exact h.elim
    | [d], hr =>
      obtain ⟨y, rfl, ry⟩ := repsOne hr
      have h : Post c F σ' (fun _ _ _ _ => True) w (RV c F σ') Q (match (match toKey d with
        | some k => some (Vl.im ((look k kvs).getD .non), (none : Option D))
        | none => none) with
        | some r => back v' s' r
        | none => .no) := h
      cases q : toKey d with
      | none =>
        rw [q] at h
        exact h.elim
      | some k =>
        rw [q] at h
        obtain ⟨a, vs, rfl, ha, hk⟩ := vw
        cases (toKey_rep' q ry)
        cases rx
        obtain ⟨u, rfl, ru⟩ := valsOne rv
        exact d_get1 hu I (.inl ⟨vs, k, ha, rfl, rfl⟩) ru fun w' s3 I3 rw' => ⟨_, H, I3, rw', h w H _ sr (Ext.refl _) (look_getD hk rfl)⟩
  · rename_i kvs
    match ds, hr with
    | [], hr => exact h.elim
    | d0 :: _ :: _, hr => cases d0 <;> exact h.elim
    | [d], hr =>
      cases d <;> first | exact h.elim | skip
      rename_i es
      obtain ⟨y, rfl, ry⟩ := repsOne hr
      have h : Post c F σ' (fun _ _ _ _ => True) w (RV c F σ') Q (match (match toKeys es with
        | some k => some (Vl.im ((lookT k kvs).getD .non), (none : Option D))
        | none => none) with
        | some r => back v' s' r
        | none => .no) := h
      cases q : toKeys es with
      | none =>
        rw [q] at h
        exact h.elim
      | some k =>
        rw [q] at h
        obtain ⟨a, vs, rfl, ha, hk⟩ := vw
        obtain ⟨b, ys, rfl, hb, hy⟩ := ry
        have hb2 : H b = some (.tup (k.map kV)) := by rw [sr.bh _ _ hb, toKeys_rep q hy]
        cases rx
        obtain ⟨u, rfl, ru⟩ := valsOne rv
        exact d_get1 hu I (.inr ⟨vs, k, b, ha, rfl, hb2, rfl⟩) ru fun w' s3 I3 rw' => ⟨_, H, I3, rw', h w H _ sr (Ext.refl _) (lookT_getD hk rfl)⟩⟩
theorem mtk_get2 (hu : X.A.units + 1 < cLine) : MtOk X c .get2 := ⟨"dict.get", PySem.F.plainAttrs_dict, PySem.F.slot_dict_get, PySem.F.type_dict_get, by
  intro pins s σ H x xs v us Q I rx rv h
  obtain ⟨F, w, σ', s', v', d, ds, sr, hh, hv, e, hr, h⟩ := h
  have vw := hv.look sr e
  cases d <;> first | (cases ds <;> exact h.elim) | skip
  · rename_i kvs
    match ds, hr with
    | [], hr => exact h.elim
    | [d0], hr => cases d0 <;> exact h.elim
    | d0 :: _ :: _ :: _, hr => cases d0 <;> exact h.elim
    | [d, d2], hr =>
      obtain ⟨y, y2, rfl, ry, ry2⟩ := repsTwo hr
      have h : Post c F σ' (fun _ _ _ _ => True) w (RV c F σ') Q (match (match toKey d with
        | some k => some (Vl.im ((look k kvs).getD d2), (none : Option D))
        | none => none) with
        | some r => back v' s' r
        | none => .no) := h
      cases q : toKey d with
      | none =>
        rw [q] at h
        exact h.elim
      | some k =>
        rw [q] at h
        obtain ⟨a, vs, rfl, ha, hk⟩ := vw
        cases (toKey_rep' q ry)
        cases rx
        obtain ⟨u, u2, rfl, ru, ru2⟩ := valsTwo rv
        exact d_get2 hu I (.inl ⟨vs, k, ha, rfl, rfl⟩) ru ru2 fun w' s3 I3 rw' => ⟨_, H, I3, rw', h w H _ sr (Ext.refl _) (look_getD hk ry2)⟩
  · rename_i kvs
    match ds, hr with
    | [], hr => exact h.elim
    | [d0], hr => cases d0 <;> exact h.elim
    | d0 :: _ :: _ :: _, hr => cases d0 <;> exact h.elim
    | [d, d2], hr =>
      cases d <;> first | exact h.elim | skip
      rename_i es
      obtain ⟨y, y2, rfl, ry, ry2⟩ := repsTwo hr
      have h : Post c F σ' (fun _ _ _ _ => True) w (RV c F σ') Q (match (match toKeys es with
        | some k => some (Vl.im ((lookT k kvs).getD d2), (none : Option D))
        | none => none) with
        | some r => back v' s' r
        | none => .no) := h
      cases q : toKeys es with
      | none =>
        rw [q] at h
        exact h.elim
      | some k =>
        rw [q] at h
        obtain ⟨a, vs, rfl, ha, hk⟩ := vw
        obtain ⟨b, ys, rfl, hb, hy⟩ := ry
        have hb2 : H b = some (.tup (k.map kV)) := by rw [sr.bh _ _ hb, toKeys_rep q hy]
        cases rx
        obtain ⟨u, u2, rfl, ru, ru2⟩ := valsTwo rv
        exact d_get2 hu I (.inr ⟨vs, k, b, ha, rfl, hb2, rfl⟩) ru ru2 fun w' s3 I3 rw' => ⟨_, H, I3, rw', h w H _ sr (Ext.refl _) (lookT_getD hk ry2)⟩⟩
theorem s_mt {m : MT} (hm : MtOk X c m) {o : E} {a : A} {x : Expr} {es : List Expr} {apos cpos : Pos} (hb : baseOk x = true) (hp : es.all plainX = true) (hl : es.length < 30) (hline : (apos.endLine == cpos.line) = true)
    (h : PE X x (tEv Z c W o)) (ha : PA X es (tEa Z c W a)) : PE X (.Call (.Attribute x m.name apos) es [] cpos) (tEv Z c W (.mt m o a)) := by
  obtain ⟨id, pa, slot, hty, hmr⟩ := hm.ok
  refine ⟨fun pins s σ H Q I hh => ?_⟩
  obtain ⟨F, w, s', sr, hh⟩ := hh
  rw [ev_mt] at hh
  refine wpAny_Call_method_late (base_ok hb) (few_plain hp hl) hline rfl (thn (h.run pins s σ H (fun x1 H1 => ∃ F w s v d, SR c F w H1 σ s ∧ v.hold = v ∧ RV c F σ w H1 v x1 ∧ v.look s = some d ∧ isKd m.kd d = true ∧
    Post c F σ W w (RV c F σ) Q ((evA Z a s).bind fun ds s => match v.look s with
        | some d => (match opM m d ds with
          | some r => back v s r
          | none => .no)
        | none => .no)) I ⟨F, w, s', sr, hh.bind fun v s1 w1 H1 x sr1 ex1 rv1 h1 => ?_⟩) fun v s1 ⟨x1, H1, I1, r1, q1⟩ => ?_)
  · obtain ⟨w1', sr1', ex1', rv1'⟩ := rv1.hold sr1
    cases e1 : v.hold.look s1 with
    | none =>
      rw [e1] at h1
      exact h1.elim
    | some d =>
      rw [e1] at h1
      dsimp only at h1
      by_cases z : isKd m.kd d = true
      · rw [if_pos z] at h1
        exact ⟨F, w1', s1, v.hold, d, sr1', hold_hold v, rv1', e1, z, h1.ext ex1'⟩
      · rw [if_neg z] at h1
        exact h1.elim
  · obtain ⟨F, w1, s1', u, d, sr1, hu, ru, e1, kd, h1⟩ := q1
    have vw := ru.look sr1 e1
    have ty : s1.TypeIs v m.kd.ty ∧ ∀ a, v = .ref a → ∃ ob, s1.heap.get? a = some ob ∧ ob.dict = none := by
      cases q : m.kd with
      | list =>
        rw [q] at kd
        cases d <;> first | (cases kd; done) | skip
        obtain ⟨a, vs, rfl, ha, _⟩ := vw
        exact tyV_is I1 r1 (.inl ⟨rfl, vs, SqL.of ha⟩)
      | str =>
        rw [q] at kd
        cases d <;> first | (cases kd; done) | skip
        cases (show x1 = _ from vw)
        exact tyV_is I1 r1 (show "str" = "str" from rfl)
      | dict =>
        rw [q] at kd
        cases d <;> first | (cases kd; done) | skip
        · obtain ⟨a, vs, rfl, ha, _⟩ := vw
          cases r1
          exact ⟨(isD_at I1 (.inl ⟨_, ha⟩)).1, (isD_at I1 (.inl ⟨_, ha⟩)).2.1⟩
        · obtain ⟨a, vs, rfl, ha, _⟩ := vw
          cases r1
          exact ⟨(isD_at I1 (.inr ⟨_, ha⟩)).1, (isD_at I1 (.inr ⟨_, ha⟩)).2.1⟩
    refine ⟨_, id, pa, slot, hty, ty.1, ty.2, ?_⟩
    have hA := ha.run cpos pins s1 σ H1 (fun vs H2 => rMt c m x1 vs H2 Q) I1 ⟨F, w1, s1', sr1, h1.bind fun ds s2 w2 H2 xs sr2 ex2 rs h2 => ?_⟩
    · have hA := thn hA fun us s2 ⟨vs, H2, I2, r2, q2⟩ => hmr pins s2 σ H2 x1 vs v us Q I2 r1 r2 q2
      cases es with
      | nil =>
        exact Calls.callWith_builtin rfl (evalArgs_empty hA)
      | cons e es =>
        have hp' := hp
        rw [List.all_cons, Bool.and_eq_true] at hp'
        rw [star_cons hp'.1] at hA ⊢
        refine Calls.callWith_builtin (by show (false || (backTo cpos (starEach es X.env)).any (·.1)) = false; rw [any_plain hp'.2] <;> rfl) (Calls.evalArgs_plain hA)
    · cases e2 : u.look s2 with
      | none =>
        rw [e2] at h2
        exact h2.elim
      | some d2 =>
        rw [e2] at h2
        refine ⟨F, w2, σ, s2, u, d2, ds, sr2, hu, RV.mono ex2 hu ru, e2, rs, ?_⟩
        dsimp only at h2
        cases q : opM m d2 ds with
        | none =>
          rw [q] at h2
          exact h2.elim
        | some r =>
          rw [q] at h2
          dsimp only at h2 ⊢
          cases q3 : back u s2 r with
          | no =>
            rw [q3] at h2
            exact h2
          | er k fs s' => exact fun _ _ _ _ _ _ _ => trivial
          | ok v' s' =>
            rw [q3] at h2
            exact h2
end
end PB

set_option Elab.async false
set_option linter.all false
set_option autoImplicit false
set_option maxRecDepth 100000
/-! THE BRIDGE, 9: calls. -/
namespace PB
open PySem PySem.Spec PyProof.Rows L2

/-! ### into a call and back -/
section
variable {c : Ct} {F H : Hp} {w : Wd} {σ : L2.St} {s : S}
/-- what the callee must leave alone -/
def fenceF (F H : Hp) (w : Wd) : Hp := fun a => match w.τ a with
  | some (.inl _) => H a
  | _ => F a
def fenceT : Option (Sum Nat Nat) → Option (Sum Nat Nat)
  | some (.inl _) => none
  | t => t
def fenceW (w : Wd) : Wd := ⟨w.B, w.m, fun a => fenceT (w.τ a)⟩
def backT (t u : Option (Sum Nat Nat)) : Option (Sum Nat Nat) := match t with
  | some (.inl i) => some (.inl i)
  | _ => u
def backW (w w2 : Wd) : Wd := ⟨w2.B, w2.m, fun a => backT (w.τ a) (w2.τ a)⟩
theorem fenceF_own {a : Addr} {i : Nat} (h : w.τ a = some (.inl i)) : fenceF F H w a = H a := by
  unfold fenceF
  rw [h]
theorem fenceF_no {a : Addr} (h : ∀ i, w.τ a ≠ some (.inl i)) : fenceF F H w a = F a := by
  unfold fenceF
  split
  · rename_i i q
    exact absurd q (h i)
  · rfl
theorem fenceW_own {a : Addr} {i : Nat} (h : w.τ a = some (.inl i)) : (fenceW w).τ a = none := by
  show fenceT (w.τ a) = none
  rw [h]
  rfl
theorem fenceW_no {a : Addr} (h : ∀ i, w.τ a ≠ some (.inl i)) : (fenceW w).τ a = w.τ a := by
  show fenceT (w.τ a) = w.τ a
  unfold fenceT
  split
  · rename_i i q
    exact absurd q (h i)
  · rfl
theorem backW_own {w2 : Wd} {a : Addr} {i : Nat} (h : w.τ a = some (.inl i)) : (backW w w2).τ a = some (.inl i) := by
  show backT (w.τ a) (w2.τ a) = _
  rw [h]
  rfl
theorem backW_no {w2 : Wd} {a : Addr} (h : ∀ i, w.τ a ≠ some (.inl i)) : (backW w w2).τ a = w2.τ a := by
  show backT (w.τ a) (w2.τ a) = _
  unfold backT
  split
  · rename_i i q
    exact absurd q (h i)
  · rfl
theorem own_dec (w : Wd) (a : Addr) : (∃ i, w.τ a = some (.inl i)) ∨ ∀ i, w.τ a ≠ some (.inl i) := by
  cases q : w.τ a with
  | none => exact .inr fun i z => nomatch z
  | some t => cases t with
    | inl i => exact .inl ⟨i, rfl⟩
    | inr k => exact .inr fun i z => nomatch z
theorem SR.enter (x : SR c F w H σ s) : SR c (fenceF F H w) (fenceW w) H [] ⟨[], s.st⟩ where
  bh := x.bh
  fh := fun a o e => by
    rcases own_dec w a with ⟨i, q⟩ | q
    · rw [fenceF_own q] at e
      exact e
    · rw [fenceF_no q] at e
      exact x.fh _ _ e
  fb := fun a o e => by
    rcases own_dec w a with ⟨i, q⟩ | q
    · exact ⟨(x.tb _ _ q).1, fenceW_own q⟩
    · rw [fenceF_no q] at e
      rw [fenceW_no q]
      exact x.fb _ _ e
  tb := fun a o e => by
    rcases own_dec w a with ⟨i, q⟩ | q
    · rw [fenceW_own q] at e
      cases e
    · rw [fenceW_no q] at e
      exact x.tb _ _ e
  im := fun i d e => by cases e
  ow := fun i d e => by cases e
  ce := fun k d e => by
    obtain ⟨a, o, h1, h2, h3, h4⟩ := x.ce k d e
    exact ⟨a, o, h1, by rw [fenceW_no (fun i z => by rw [h2] at z; cases z)]; exact h2, h3, h4.mono (w' := fenceW w) ⟨Sub.refl _, [], (List.append_nil _).symm⟩⟩
  ln := x.ln
  sl := rfl
  pn := fun p a _ e => by
    rcases own_dec w a with ⟨i, q⟩ | q
    · rw [fenceW_own q] at e
      cases e
    · rw [fenceW_no q] at e
      exact absurd e (q 0)
theorem SR.leave (x : SR c F w H σ s) {w2 : Wd} {H2 : Hp} {st2 : List (Option D)} (y : SR c (fenceF F H w) w2 H2 [] ⟨[], st2⟩) (ex : Ext (fenceW w) w2) :
    SR c F (backW w w2) H2 σ { s with st := st2 } ∧ Ext w (backW w w2) ∧ ∀ a, w2.B a = none → fenceF F H w a = none → w2.τ a = none → F a = none ∧ (backW w w2).τ a = none := by
  have e1 : Ext w (backW w w2) := ⟨ex.1, ex.2⟩
  have e2 : Ext w2 (backW w w2) := ⟨Sub.refl _, [], (List.append_nil _).symm⟩
  have fo : ∀ {a : Addr} {o : HO}, F a = some o → ∀ i, w.τ a ≠ some (.inl i) := fun e i z => by
    have := (x.fb _ _ e).2
    rw [z] at this
    cases this
  have ho : ∀ {a : Addr} {i : Nat}, w.τ a = some (.inl i) → ∃ o, fenceF F H w a = some o := fun {a i} z => by
    rw [fenceF_own z]
    cases q : H a with
    | none => exact absurd q (x.tb _ _ z).2
    | some o => exact ⟨o, rfl⟩
  refine ⟨⟨y.bh, fun a o e => ?_, fun a o e => ⟨?_, ?_⟩, fun a o e => ?_, fun i d e => ?_, fun i d e => ?_, fun k d e => ?_, y.ln, x.sl, fun p a hp e => ?_⟩, e1, fun a h1 h2 h3 => ?_⟩
  · exact y.fh _ _ (by rw [fenceF_no (fo e)]; exact e)
  · exact (y.fb a o (by rw [fenceF_no (fo e)]; exact e)).1
  · rw [backW_no (fo e)]
    exact (y.fb a o (by rw [fenceF_no (fo e)]; exact e)).2
  · rcases own_dec w a with ⟨i, q⟩ | q
    · obtain ⟨u, hu⟩ := ho q
      exact ⟨(y.fb _ _ hu).1, by rw [y.fh _ _ hu]; simp⟩
    · rw [backW_no q] at e
      exact y.tb _ _ e
  · obtain ⟨v, h1, h2⟩ := x.im i d e
    exact ⟨v, h1, RV.im_mono e1 h2⟩
  · obtain ⟨a, o, h1, h2, h3, h4⟩ := x.ow i d e
    exact ⟨a, o, h1, backW_own h2, y.fh _ _ (by rw [fenceF_own h2]; exact h3), h4.mono e1⟩
  · obtain ⟨a, o, h1, h2, h3, h4⟩ := y.ce k d e
    refine ⟨a, o, h1, ?_, h3, h4.mono e2⟩
    rw [backW_no fun i z => ?_]
    · exact h2
    · obtain ⟨u, hu⟩ := ho z
      have := (y.fb _ _ hu).2
      rw [h2] at this
      cases this
  · rcases own_dec w a with ⟨i, q⟩ | q
    · rw [backW_own q] at e
      cases e
      exact x.pn p a hp q
    · rw [backW_no q] at e
      exact y.pn p a hp e
  · rcases own_dec w a with ⟨i, q⟩ | q
    · obtain ⟨u, hu⟩ := ho q
      rw [h2] at hu
      cases hu
    · rw [fenceF_no q] at h2
      exact ⟨h2, by rw [backW_no q]; exact h3⟩
end
/-! ### what a def promises -/
def PostC (c : Ct) (F : Hp) (w : Wd) (Q : VK) (E : XK) : RC → Prop
  | .ok v st => ∀ w' H' x, SR c F w' H' [] ⟨[], st⟩ → Ext w w' → RV c F [] w' H' v x → Q x H'
  | .er k fs st => ∀ w' H' cls d, SR c F w' H' [] ⟨[], st⟩ → Ext w w' → ExR c w' k fs cls d → E cls d H'
  | .no => False
def spF (c : Ct) (n : Nat) (g : List D → List (Option D) → RC) : Sp := fun vs H Q E => vs.length = n ∧ ∃ F w ds st, SR c F w H [] ⟨[], st⟩ ∧ Reps c w.B w.m ds vs ∧ PostC c F w Q E (g ds st)
/-- __init__ with the new object in slot 0 alone -/
def PostN (c : Ct) (F : Hp) (w : Wd) (a : Addr) (Q : VK) (E : XK) : RC → Prop
  | .ok (.own d) st => ∀ w' H', SR c F w' H' [] ⟨[], st⟩ → Ext w w' → (∃ o, H' a = some o ∧ RepO c w' o d ∧ w'.B a = none ∧ F a = none ∧ w'.τ a = none) → Q .non H'
  | .er k fs st => ∀ w' H' cls d, SR c F w' H' [] ⟨[], st⟩ → Ext w w' → ExR c w' k fs cls d → E cls d H'
  | _ => False
def spN (c : Ct) (k n : Nat) (g : List D → List (Option D) → RC) : Sp := fun vs H Q E => vs.length = n ∧ ∃ F w ds st a dx us, vs = .ref a :: us ∧ H a = some (.ins (c.cA k) dx []) ∧ w.B a = none ∧ F a = none ∧ w.τ a = none ∧ SR c F w H [] ⟨[], st⟩ ∧ Reps c w.B w.m ds us ∧ PostN c F w a Q E (g ds st)
section
variable {c : Ct} {F H : Hp} {w : Wd} {σ : L2.St} {s : S} {W : WX}
theorem call_post {Q : VK} {r : RC} (x : SR c F w H σ s) (h : Post c F σ W w (RV c F σ) Q (r.toR s)) : PostC c (fenceF F H w) (fenceW w) Q (fun cls d H' => W cls d σ H') r := by
  cases r with
  | no => exact h
  | ok v st =>
    intro w2 H2 z y ex rv
    obtain ⟨y', e1, k⟩ := x.leave y ex
    refine h _ _ z y' e1 ?_
    cases v with
    | im d => exact rv
    | own d =>
      obtain ⟨a, o, rfl, h1, h2, h3, h4, h5⟩ := rv
      obtain ⟨k1, k2⟩ := k a h3 h4 h5
      exact ⟨a, o, rfl, h1, h2.mono (w' := backW w w2) ⟨Sub.refl _, [], (List.append_nil _).symm⟩, h3, k1, k2⟩
    | pk i => cases (show ([] : L2.St)[i]? = some (some z) from rv)
  | er k fs st =>
    intro w2 H2 cls d y ex rv
    obtain ⟨y', e1, _⟩ := x.leave y ex
    exact h _ _ cls d y' e1 rv
end
section
variable {X : Cx} {Z : Env} {c : Ct} {W : WX}
/-- what is known of a def: it keeps the promise g -/
structure FnI (X : Cx) (c : Ct) (k : Nat) (f : Addr) (n : Nat) (g : List D → List (Option D) → RC) : Prop where
  ok : ∃ (fd : FuncData) (ps : List Str), FnOk X.prog X.w X.K X.mg X.base (L2.CX X.prog X.w) k f fd ps (spF c n g) ∧ Binds X.K fd ps []
  kp : PySem.W.keepIn X.K (.ref f) = true
theorem run_cal {k n : Nat} {f : Addr} {g : List D → List (Option D) → RC} (tk : Takes X W) (hr : Room k X.A) (G : FnI X c k f n g) {pins : List (Addr × Obj)} {s : Shared} {σ : L2.St} {H : Hp} {Q : VK} {us : List Value} {vs : List V}
    (I : Inv X pins σ H s) (r : Vals vs us) (h : spF c n g vs H Q (fun cls d H' => W cls d σ H')) : wpAny (model X.prog X.w) X.A (call (.ref f) us) (EP X pins σ Q) X.xe s := by
  obtain ⟨fd, ps, ok, b⟩ := G.ok
  exact run_fnS ok hr b (passAt tk σ) I r h
theorem Post.bindE {α β γ δ : Type} {F : Hp} {w : Wd} {σ : L2.St} {rel : Wd → Hp → α → β → Prop} {rel1 : Wd → Hp → γ → δ → Prop} {Q : β → Hp → Prop} {Q1 : δ → Hp → Prop} {r : R γ} {f : γ → S → R α}
    (h : Post c F σ W w rel Q (r.bind f)) (k : ∀ a s1, r = .ok a s1 → ∀ w1 H1 x, SR c F w1 H1 σ s1 → Ext w w1 → rel1 w1 H1 a x → Post c F σ W w1 rel Q (f a s1) → Q1 x H1) : Post c F σ W w rel1 Q1 r := by
  cases r with
  | ok a s' => exact fun w1 H1 y sr ex rl => k a s' rfl w1 H1 y sr ex rl (Post.ext (r := f a s') ex h)
  | er k fs s' => exact h
  | no => exact h
def A.len : A → Nat
  | .nil => 0
  | .cons _ r => r.len + 1
theorem evA_len : ∀ (a : A) {s s' : S} {ds : List D}, evA Z a s = .ok ds s' → ds.length = a.len
  | .nil, s, s', ds, h => by
    rw [evA_nil] at h
    cases h
    rfl
  | .cons e r, s, s', ds, h => by
    rw [evA_cons] at h
    cases q1 : ev Z e s with
    | no => rw [q1] at h; cases h
    | er _ _ _ => rw [q1] at h; cases h
    | ok v s1 =>
      rw [q1] at h
      have h : ((v.fz s1).bind fun d s => (evA Z r s).bind fun ds s => R.ok (d :: ds) s) = .ok ds s' := h
      cases q2 : v.fz s1 with
      | no => rw [q2] at h; cases h
      | er _ _ _ => rw [q2] at h; cases h
      | ok d s2 =>
        rw [q2] at h
        have h : ((evA Z r s2).bind fun ds s => R.ok (d :: ds) s) = .ok ds s' := h
        cases q3 : evA Z r s2 with
        | no => rw [q3] at h; cases h
        | er _ _ _ => rw [q3] at h; cases h
        | ok es s3 =>
          rw [q3] at h
          cases h
          show es.length + 1 = r.len + 1
          rw [evA_len r q3]
/-- arguments, then the call of a value that the call keeps -/
theorem callWith_plain {f : Value} {first : List Value} {pos : Pos} {es : List Expr} {s : Shared} {σ : L2.St} {Q : Value → Shared → Prop} (hk : PySem.W.keepIn X.K f = true) (hp : es.all plainX = true)
    (hA : wpAny (model X.prog X.w) X.A (spliced (backTo pos (starEach es X.env))) (fun us s1 => X.K.In s1.heap ∧ wpAny (model X.prog X.w) X.A (call f (first ++ us)) Q X.xe s1) X.xe s) :
    wpAny (model X.prog X.w) X.A (callWith pos f first (backTo pos (starEach es X.env)) []) Q X.xe s := by
  cases es with
  | nil => exact PySem.W.callWith_of rfl (PySem.W.keeps_K hk) (evalArgs_empty hA)
  | cons e es =>
    rw [List.all_cons, Bool.and_eq_true] at hp
    rw [star_cons hp.1] at hA ⊢
    exact PySem.W.callWith_of (by show ((false || (backTo pos (starEach es X.env)).any (·.1)) || false) = false; rw [any_plain hp.2]; rfl) (PySem.W.keeps_K hk) (Calls.evalArgs_plain hA)
theorem s_cal {k n i : Nat} {f : Addr} {a : A} {x : Str} {es : List Expr} {p pos : Pos} (tk : Takes X W) (hr : Room k X.A) (G : FnI X c k f n (Z.fn i)) (hg : Gl X x) (hm : X.mg x = some (.ref f)) (hdb : (x == ("__debug__" : Str)) = false)
    (hp : es.all plainX = true) (hn : a.len = n) (ha : PA X es (tEa Z c W a)) : PE X (.Call (.Name x p) es [] pos) (tEv Z c W (.cal i a)) := by
  refine ⟨fun pins s σ H Q I h => ?_⟩
  obtain ⟨F, w, s', sr, h⟩ := h
  rw [ev_cal] at h
  have hA := ha.run pos pins s σ H (fun vs H1 => spF c n (Z.fn i) vs H1 Q (fun cls d H' => W cls d σ H')) I ⟨F, w, s', sr, h.bindE fun ds s1 q w1 H1 xs sr1 ex1 rs h1 => ?_⟩
  · refine wpAny_Call_Name_kw (ld_glob I hg hm ?_ hdb)
    exact callWith_plain (first := []) (σ := σ) G.kp hp (thn hA fun us s1 ⟨vs, H1, I1, r, q⟩ => ⟨I1.kIn, run_cal tk hr G I1 r q⟩)
  · exact ⟨by rw [rs.length, evA_len a q, hn], _, _, ds, s1.st, sr1.enter, rs, call_post sr1 h1⟩
/-! ### f(..), all lent -/
def lendB (w : Wd) (H : Hp) : Hp := fun a => match w.B a with
  | some o => some o
  | none => match w.τ a with
    | some _ => H a
    | none => none
theorem lendB_B {w : Wd} {H : Hp} {a : Addr} {o : HO} (h : w.B a = some o) : lendB w H a = some o := by
  unfold lendB
  rw [h]
theorem lendB_τ {w : Wd} {H : Hp} {a : Addr} {t : Sum Nat Nat} (h : w.B a = none) (k : w.τ a = some t) : lendB w H a = H a := by
  unfold lendB
  rw [h, k]
theorem lendB_no {w : Wd} {H : Hp} {a : Addr} (h : w.B a = none) (k : w.τ a = none) : lendB w H a = none := by
  unfold lendB
  rw [h, k]
def lendW (w : Wd) (H : Hp) : Wd := ⟨lendB w H, w.m, fun _ => none⟩
theorem Ext.lend {w : Wd} {H : Hp} : Ext w (lendW w H) := ⟨fun _ _ e => lendB_B e, [], (List.append_nil _).symm⟩
theorem SR.lend {F : Hp} {w : Wd} {H : Hp} {σ : L2.St} {s : S} (x : SR c F w H σ s) : SR c F (lendW w H) H [] ⟨[], s.st.map fun _ => none⟩ where
  bh := fun a o e => by
    have e : lendB w H a = some o := e
    cases q : w.B a with
    | some u =>
      rw [lendB_B q] at e
      cases e
      exact x.bh _ _ q
    | none =>
      cases q2 : w.τ a with
      | some u =>
        rw [lendB_τ q q2] at e
        exact e
      | none =>
        rw [lendB_no q q2] at e
        cases e
  fh := x.fh
  fb := fun a o e => by
    obtain ⟨h1, h2⟩ := x.fb a o e
    exact ⟨lendB_no h1 h2, rfl⟩
  tb := fun a o e => by cases e
  im := fun i d e => by cases e
  ow := fun i d e => by cases e
  ce := fun k d e => by
    have e : (s.st.map fun _ => (none : Option D))[k]? = some (some d) := e
    rw [List.getElem?_map] at e
    cases q : s.st[k]? with
    | none =>
      rw [q] at e
      cases e
    | some u =>
      rw [q] at e
      cases e
  ln := by
    show w.m.length = (s.st.map fun _ => (none : Option D)).length
    rw [List.length_map]
    exact x.ln
  sl := rfl
  pn := fun p a _ e => by cases e
theorem SR.unlend {F : Hp} {w : Wd} {H : Hp} {σ : L2.St} {s : S} (x : SR c F w H σ s) {w2 : Wd} {H2 : Hp} {σ2 : L2.St} {s2 : S} (y : SR c F w2 H2 σ2 s2) (ex : Ext (lendW w H) w2) : SR c F w H2 σ s := by
  have kp : ∀ {a : Addr} {t : Sum Nat Nat} {o : HO}, w.τ a = some t → H a = some o → H2 a = some o := fun {a t o} q e => y.bh _ _ (ex.1 _ _ (show lendB w H a = some o by rw [lendB_τ (x.tb _ _ q).1 q]; exact e))
  refine ⟨fun a o e => y.bh _ _ (ex.1 _ _ (lendB_B e)), y.fh, x.fb, fun a o e => ⟨(x.tb a o e).1, ?_⟩, x.im, fun i d e => ?_, fun k d e => ?_, x.ln, x.sl, x.pn⟩
  · cases q : H a with
    | none => exact absurd q (x.tb _ _ e).2
    | some u =>
      rw [kp e q]
      simp
  · obtain ⟨a, o, h1, h2, h3, h4⟩ := x.ow i d e
    exact ⟨a, o, h1, h2, kp h2 h3, h4⟩
  · obtain ⟨a, o, h1, h2, h3, h4⟩ := x.ce k d e
    exact ⟨a, o, h1, h2, kp h2 h3, h4⟩
theorem RV.lend {F : Hp} {w : Wd} {H : Hp} {σ : L2.St} {s : S} (x : SR c F w H σ s) {v : Vl} {z : V} {d : D} (hh : v.hold = v) (h : RV c F σ w H v z) (e : v.look s = some d) : Rep c (lendW w H).B (lendW w H).m d z := by
  have rp : ∀ {a : Addr} {t : Sum Nat Nat} {o : HO}, w.τ a = some t → H a = some o → RepO c w o d → Rep c (lendW w H).B (lendW w H).m d (.ref a) := fun {a t o} q e h => RepO.rep (τ := (lendW w H).τ) (show lendB w H a = some o by rw [lendB_τ (x.tb _ _ q).1 q]; exact e) (h.mono (w' := lendW w H) Ext.lend)
  cases v with
  | im d' =>
    have e' : deref s.st d' = some d := e
    cases d' with
    | cell k =>
      obtain ⟨a, rfl, hk⟩ := h
      have e'' : (match s.st[k]? with | some (some d) => some d | _ => none) = some d := e'
      split at e''
      · cases e''
        rename_i q
        obtain ⟨b, o, h1, h2, h3, h4⟩ := x.ce k d q
        rw [hk] at h1
        cases h1
        exact rp h2 h3 h4
      · cases e''
    | _ =>
      cases e'
      exact Rep.mono (B' := (lendW w H).B) (m' := (lendW w H).m) (Ext.lend (w := w) (H := H)).1 (Ext.lend (w := w) (H := H)).2 _ _ h
  | own d' => cases hh
  | pk i =>
    have e' : (match s.ρ[i]? with | some (.own d) => some d | _ => none) = some d := e
    split at e'
    · cases e'
      rename_i q
      obtain ⟨b, o, h1, h2, h3, h4⟩ := x.ow i d q
      have h' : σ[i]? = some (some z) := h
      rw [h'] at h1
      cases h1
      exact rp h2 h3 h4
    · cases e'
theorem RVs.lend {F : Hp} {w : Wd} {H : Hp} {σ : L2.St} {s : S} (x : SR c F w H σ s) : ∀ {vs : List Vl} {xs : List V} {ds : List D}, RVs c F σ w H vs xs → lookAll s vs = some ds → Reps c (lendW w H).B (lendW w H).m ds xs
  | [], _, ds, h, e => by
    cases h
    cases e
    exact rfl
  | v :: vs, _, ds, h, e => by
    cases h with
    | cons hh h t =>
      have e : (match v.look s with
        | some d => match lookAll s vs with
          | some ds => some (d :: ds)
          | none => none
        | none => none) = some ds := e
      cases q1 : v.look s with
      | none =>
        rw [q1] at e
        cases e
      | some d =>
        rw [q1] at e
        cases q2 : lookAll s vs with
        | none =>
          rw [q2] at e
          cases e
        | some ds' =>
          rw [q2] at e
          cases e
          exact ⟨_, _, rfl, h.lend x hh q1, RVs.lend x t q2⟩
theorem RVs.len {F : Hp} {w : Wd} {H : Hp} {σ : L2.St} : ∀ {vs : List Vl} {xs : List V}, RVs c F σ w H vs xs → xs.length = vs.length
  | [], _, h => by
    cases h
    rfl
  | v :: vs, _, h => by
    cases h with
    | cons hh h t => rw [List.length_cons, List.length_cons, RVs.len t]
theorem evO_len : ∀ (a : A) {s s' : S} {ds : List Vl}, evO Z a s = .ok ds s' → ds.length = a.len
  | .nil, s, s', ds, h => by
    rw [evO_nil] at h
    cases h
    rfl
  | .cons e r, s, s', ds, h => by
    rw [evO_cons] at h
    cases q1 : ev Z e s with
    | no => rw [q1] at h; cases h
    | er _ _ _ => rw [q1] at h; cases h
    | ok v s1 =>
      rw [q1] at h
      have h : ((evO Z r s1).bind fun ds s => R.ok (v.hold :: ds) s) = .ok ds s' := h
      cases q2 : evO Z r s1 with
      | no => rw [q2] at h; cases h
      | er _ _ _ => rw [q2] at h; cases h
      | ok vs s2 =>
        rw [q2] at h
        cases h
        rw [List.length_cons, evO_len r q2]
        rfl
theorem flat_rep2 {B B' : Hp} {m m' : List Addr} {d : D} {v : V} (hf : flat d = true) (h : Rep c B m d v) : Rep c B' m' d v := by
  cases d <;> first | exact h | cases hf
theorem lend_post {F : Hp} {w : Wd} {H : Hp} {σ : L2.St} {s : S} {Q : VK} {r : RC} (x : SR c F w H σ s) (h : Post c F σ W w (RV c F σ) Q (flatR s r)) : PostC c F (lendW w H) Q (fun cls d H' => W cls d σ H') r := by
  cases r with
  | no => exact h.elim
  | er k fs st =>
    cases fs with
    | cons _ _ => exact h.elim
    | nil =>
      intro w2 H2 cls d sr ex er
      obtain ⟨e1, er⟩ := er
      refine (show ∀ w' H' cls d, SR c F w' H' σ s → Ext w w' → ExR c w' k [] cls d → W cls d σ H' from h) w H2 cls d (x.unlend sr ex) (Ext.refl _) ⟨e1, ?_⟩
      rcases er with er | ⟨_, _, _, _, _, e4⟩
      · exact .inl er
      · exact absurd rfl e4
  | ok v st =>
    cases v with
    | own d => exact h.elim
    | pk i => exact h.elim
    | im d =>
      have h : Post c F σ W w (RV c F σ) Q (if flat d then .ok (.im d) s else .no) := h
      split at h
      · rename_i hf
        exact fun w2 H2 y sr ex rv => h w H2 y (x.unlend sr ex) (Ext.refl _) (flat_rep2 hf (show Rep c w2.B w2.m d y from rv))
      · exact h.elim
theorem s_calP {k n i : Nat} {f : Addr} {a : A} {x : Str} {es : List Expr} {p pos : Pos} (tk : Takes X W) (hr : Room k X.A) (G : FnI X c k f n (Z.fn i)) (hg : Gl X x) (hm : X.mg x = some (.ref f)) (hdb : (x == ("__debug__" : Str)) = false)
    (hp : es.all plainX = true) (hn : a.len = n) (ha : PA X es (tEo Z c W a)) : PE X (.Call (.Name x p) es [] pos) (tEv Z c W (.calP i a)) := by
  refine ⟨fun pins s σ H Q I h => ?_⟩
  obtain ⟨F, w, s', sr, h⟩ := h
  rw [ev_calP] at h
  have hA := ha.run pos pins s σ H (fun vs H1 => spF c n (Z.fn i) vs H1 Q (fun cls d H' => W cls d σ H')) I ⟨F, w, s', sr, h.bindE fun ds s1 q w1 H1 xs sr1 ex1 rs h1 => ?_⟩
  · refine wpAny_Call_Name_kw (ld_glob I hg hm ?_ hdb)
    exact callWith_plain (first := []) (σ := σ) G.kp hp (thn hA fun us s1 ⟨vs, H1, I1, r, q⟩ => ⟨I1.kIn, run_cal tk hr G I1 r q⟩)
  · cases e1 : lookAll s1 ds with
    | none =>
      rw [e1] at h1
      exact h1.elim
    | some es =>
      rw [e1] at h1
      exact ⟨by rw [rs.len, evO_len a q, hn], F, _, es, _, sr1.lend, RVs.lend sr1 rs e1, lend_post sr1 h1⟩
/-! ### o.m(..) -/
theorem eval_meth {x : Expr} {m : Str} {es : List Expr} {apos pos : Pos} {env : PySem.Env} (hb : baseOk x = true) (hp : es.all plainX = true) (hl : es.length < 30) (hline : (apos.endLine == pos.line) = true) :
    eval (.Call (.Attribute x m apos) es [] pos) env = (do
      let ov ← eval x env
      standAt apos.atName
      let (f, first) ← holding [ov] (getMethod ov m (plainOf x env))
      callWith pos f first (backTo pos (starEach es env)) (backToKw pos (keywordEach [] env))) := by
  rw [arm_eval_Call, base_ok hb]
  have hf : methodCallForm (es.length + ([] : List Keyword).length) (backTo pos (starEach es env)) (backToKw pos (keywordEach [] env)) = true := few_plain hp hl
  congr 1
  funext ov
  congr 1
  funext _
  exact mcall_line hf hline

theorem s_met {k n i kc : Nat} {f : Addr} {m : Str} {o : E} {a : A} {x : Expr} {es : List Expr} {apos pos : Pos} (tk : Takes X W) (hK : X.K = c.K) (hr : Room k X.A) (G : FnI X c k f (n + 1) (Z.fn i)) (cl : Cls X.K (c.cA kc)) (hm : Meth X.K (c.cA kc) m f)
    (hp : es.all plainX = true) (hn : a.len = n) (hb : baseOk x = true) (ho : PE X x (tEv Z c W o)) (ha : PA X es (tEa Z c W a)) (hl : es.length < 30) (hline : (apos.endLine == pos.line) = true) :
    PE X (.Call (.Attribute x m apos) es [] pos) (tEv Z c W (.met i m kc o a)) := by
  refine ⟨fun pins s σ H Q I h => ?_⟩
  obtain ⟨F, w, s', sr, h⟩ := h
  rw [ev_met] at h
  have ht := eval_meth (m := m) (apos := apos) (pos := pos) (env := X.env) hb hp hl hline
  have hO := ho.run pins s σ H (fun x1 H1 => ∃ F w s d fs, SR c F w H1 σ s ∧ Rep c w.B w.m d x1 ∧ deref s.st d = some (.ins kc fs) ∧ fget m fs = none ∧
    Post c F σ W w (RV c F σ) Q ((evA Z a s).bind fun ds s => (Z.fn i (d :: ds) s.st).toR s)) I ⟨F, w, s', sr, h.bind fun v s1 w1 H1 x1 sr1 ex1 rv1 h1 => ?_⟩
  · refine PySem.W.methodCall_KW (pl := plainOf x X.env) (thn hO fun u s1 ⟨x1, H1, I1, rx, F1, w1, s2, d, fs, sr1, rd, hd, hf, h1⟩ => ?_) ht
    have vw : View c w1 H1 (.ins kc fs) x1 := by
      have := (show RV c F1 σ w1 H1 (.im d) x1 from rd).look sr1 (d := .ins kc fs) hd
      exact this
    obtain ⟨b, dx, us, rfl, hb', hr'⟩ := vw
    obtain rfl : u = Value.ref b := rx
    refine getmeth_ok I1 hb' cl hm ((RepF.get m hr').2 hf) ?_
    have hA := ha.run pos pins s1 σ H1 (fun vs H2 => spF c (n + 1) (Z.fn i) (.ref b :: vs) H2 Q (fun cls d H' => W cls d σ H')) I1 ⟨F1, w1, s2, sr1, h1.bindE fun ds s3 q w2 H2 xs sr2 ex2 rs h2 => ?_⟩
    · exact callWith_plain (first := [.ref b]) (σ := σ) hm.kp hp (thn hA fun us s1 ⟨vs, H1, I1, r, q⟩ => ⟨I1.kIn, run_cal (us := .ref b :: us) (vs := .ref b :: vs) tk hr G I1 (.cons rfl r) q⟩)
    · exact ⟨by rw [List.length_cons, rs.length, evA_len a q, hn], _, _, d :: ds, s3.st, sr2.enter, ⟨_, _, rfl, RV.im_mono ex2 rd, rs⟩, call_post sr2 h2⟩
  · cases e1 : v.fz s1 with
    | no =>
      rw [e1] at h1
      exact h1.elim
    | er k fs s' => exact (fz_noEr e1).elim
    | ok d s1' =>
      rw [e1] at h1
      obtain ⟨w1', sr1', ex1', r1⟩ := rv1.fz sr1 e1
      have h1 : Post c F σ W w1' (RV c F σ) Q (match deref s1'.st d with
        | some (.ins c' fs) => if c' = kc ∧ fget m fs = none then (evA Z a s1').bind fun ds s => (Z.fn i (d :: ds) s.st).toR s else .no
        | _ => .no) := h1.ext ex1'
      split at h1
      · rename_i c' fs q
        have h9 : Post c F σ W w1' (RV c F σ) Q (if c' = kc ∧ fget m fs = none then (evA Z a s1').bind fun ds s => (Z.fn i (d :: ds) s.st).toR s else .no) := h1
        by_cases z : c' = kc ∧ fget m fs = none
        · rw [if_pos z] at h9
          obtain ⟨z1, z2⟩ := z
          subst z1
          exact ⟨F, w1', s1', d, fs, sr1', r1, q, z2, h9⟩
        · rw [if_neg z] at h9
          exact h9.elim
      · exact h1.elim
/-! ### C(..) -/
structure NwI (X : Cx) (c : Ct) (k : Nat) (f : Addr) (kc n : Nat) (g : List D → List (Option D) → RC) : Prop where
  made : Mk X.K (c.cA kc) f
  ok : ∃ (fd : FuncData) (ps : List Str), FnOk X.prog X.w X.K X.mg X.base (L2.CX X.prog X.w) k f fd ps (spN c kc (n + 1) g) ∧ Binds X.K fd ps []
structure McI (X : Cx) (c : Ct) (k : Nat) (f : Addr) (kc n : Nat) (g : List D → List (Option D) → RC) : Prop where
  made : Mk X.K (c.cA kc) f
  ok : ∃ (fd : FuncData) (ps : List Str), FnOk X.prog X.w X.K X.mg X.base (L2.CX X.prog X.w) k f fd ps (spF c (n + 1) g) ∧ Binds X.K fd ps []
/-- the new instance is made, __init__ runs: whatever its promise -/
theorem run_makeX {k : Nat} {f C : Addr} {fd : FuncData} {ps : List Str} {sp : Sp} (tk : Takes X W) (M : Mk X.K C f) (G : FnOk X.prog X.w X.K X.mg X.base (L2.CX X.prog X.w) k f fd ps sp) (hr : Room (k + 1) X.A) (hb : Binds X.K fd ps []) {pins : List (Addr × Obj)} {s : Shared} {σ : L2.St} {H : Hp} {Q : VK}
    {us : List Value} {vs : List V} (I : Inv X pins σ H s) (r : Vals vs us)
    (h : ∀ x dx, H x = none → H dx = none → dx ≠ x → sp (.ref x :: vs) (upd (upd H dx (.own x)) x (.ins C dx [])) (fun v H2 => v = .non ∧ Q (.ref x) H2) (fun cls d H' => W cls d σ H')) :
    wpAny (model X.prog X.w) X.A (call (.ref C) us) (EP X pins σ Q) X.xe s := by
  have hq := h (s.heap.objs.size + 1) s.heap.objs.size (I.hok.fresh (Nat.le_succ _)) (I.hok.fresh (Nat.le_refl _)) (Nat.ne_of_lt (Nat.lt_succ_self _))
  have I2 := Inv.made (C := C) I
  have r2 : Vals (V.ref (s.heap.objs.size + 1) :: vs) (Value.ref (s.heap.objs.size + 1) :: us) := .cons rfl r
  have hl : (Value.ref (s.heap.objs.size + 1) :: us ++ []).length = ps.length := by
    have e := r2.length
    rw [G.len _ _ _ _ hq] at e
    rw [List.append_nil]
    exact e.symm
  have hb2 := hb _ (Value.ref (s.heap.objs.size + 1) :: us) I2.kIn hl
  rw [List.append_nil] at hb2
  refine wpAny_call (make_map (f := f) I.kIn M.makes M.init (beq_iff_eq.mp M.fn) (codeAny_mono (G.run _ X.stack _ _ ⟨Value.ref (s.heap.objs.size + 1) :: us, []⟩ (Value.ref (s.heap.objs.size + 1) :: us) _ _ _ (hr.make C us [])
    (I2.env0.make C us []) hb2 r2 hq) fun r s' hq' => ?_))
  cases r with
  | error e => exact passAt tk σ pins _ _ e s' I2 hq'
  | ok fl =>
    cases fl with
    | ret u =>
      obtain ⟨v, H', I3, rv, ev, q3⟩ := I2.after hq'
      subst ev
      exact ⟨rv, ⟨V.ref (s.heap.objs.size + 1), H', I3, rfl, q3⟩⟩
    | next => exact False.elim hq'
    | brk => exact False.elim hq'
    | cont => exact False.elim hq'
theorem new_sub {H : Hp} {x dx : Addr} {o u : HO} (h1 : H x = none) (h2 : H dx = none) : Sub H (upd (upd H dx u) x o) := fun a v e => by
  rw [upd_ne (ne_of_none e h1), upd_ne (ne_of_none e h2)]
  exact e
theorem s_mkR {k n i kc : Nat} {f : Addr} {a : A} {x : Str} {es : List Expr} {p pos : Pos} (tk : Takes X W) (hr : Room (k + 1) X.A) (G : NwI X c k f kc n (Z.nw kc i)) (hg : Gl X x) (hm : X.mg x = some (.ref (c.cA kc))) (hdb : (x == ("__debug__" : Str)) = false)
    (hp : es.all plainX = true) (hn : a.len = n) (ha : PA X es (tEa Z c W a)) : PE X (.Call (.Name x p) es [] pos) (tEv Z c W (.mkR kc i a)) := by
  refine ⟨fun pins s σ H Q I h => ?_⟩
  obtain ⟨F, w, s', sr, h⟩ := h
  rw [ev_mkR] at h
  obtain ⟨fd, ps, ok, b⟩ := G.ok
  have hA := ha.run pos pins s σ H (fun vs H1 => ∀ x dx, H1 x = none → H1 dx = none → dx ≠ x → spN c kc (n + 1) (Z.nw kc i) (.ref x :: vs) (upd (upd H1 dx (.own x)) x (.ins (c.cA kc) dx [])) (fun v H2 => v = .non ∧ Q (.ref x) H2) (fun cls d H' => W cls d σ H')) I
    ⟨F, w, s', sr, h.bindE fun ds s1 q w1 H1 xs sr1 ex1 rs h1 => ?_⟩
  · refine wpAny_Call_Name_kw (ld_glob I hg hm ?_ hdb)
    exact callWith_plain (first := []) (σ := σ) G.made.kp hp (thn hA fun us s1 ⟨vs, H1, I1, r, q⟩ => ⟨I1.kIn, run_makeX tk G.made ok hr b I1 r q⟩)
  · intro y dx h2 h3 h4
    obtain ⟨k1, k2, k3⟩ := sr1.free h2
    have sr2 : SR c F w1 (upd (upd H1 dx (.own y)) y (.ins (c.cA kc) dx [])) σ s1 := sr1.grow (new_sub h2 h3)
    have ny : ∀ i, w1.τ y ≠ some (.inl i) := fun i z => by rw [k3] at z; cases z
    refine ⟨by rw [List.length_cons, rs.length, evA_len a q, hn], fenceF F _ w1, fenceW w1, ds, s1.st, y, dx, xs, rfl, upd_same, k1, by rw [fenceF_no ny]; exact k2, by rw [fenceW_no ny]; exact k3, sr2.enter, rs, ?_⟩
    cases e : Z.nw kc i ds s1.st with
    | no =>
      rw [e] at h1
      exact h1
    | er k fs st =>
      rw [e] at h1
      intro w2 H2 cls d y2 ex rv
      obtain ⟨y', e1, _⟩ := sr2.leave y2 ex
      exact h1 _ _ cls d y' e1 rv
    | ok v st =>
      rw [e] at h1
      cases v with
      | im d => exact h1
      | pk i => exact h1
      | own d =>
        intro w2 H2 y2 ex ho
        obtain ⟨y', e1, kk⟩ := sr2.leave y2 ex
        obtain ⟨o, g1, g2, g3, g4, g5⟩ := ho
        obtain ⟨g6, g7⟩ := kk y g3 g4 g5
        exact ⟨rfl, h1 _ _ _ y' e1 ⟨y, o, rfl, g1, g2.mono (w' := backW w1 w2) ⟨Sub.refl _, [], (List.append_nil _).symm⟩, g3, g6, g7⟩⟩
theorem s_mkC {k n i kc : Nat} {f : Addr} {a : A} {x : Str} {es : List Expr} {p pos : Pos} (tk : Takes X W) (hr : Room (k + 1) X.A) (G : McI X c k f kc n (Z.fm i)) (hg : Gl X x) (hm : X.mg x = some (.ref (c.cA kc))) (hdb : (x == ("__debug__" : Str)) = false)
    (hp : es.all plainX = true) (hn : a.len = n) (ha : PA X es (tEa Z c W a)) : PE X (.Call (.Name x p) es [] pos) (tEv Z c W (.mkC kc i a)) := by
  refine ⟨fun pins s σ H Q I h => ?_⟩
  obtain ⟨F, w, s', sr, h⟩ := h
  rw [ev_mkC] at h
  obtain ⟨fd, ps, ok, b⟩ := G.ok
  have hA := ha.run pos pins s σ H (fun vs H1 => ∀ x dx, H1 x = none → H1 dx = none → dx ≠ x → spF c (n + 1) (Z.fm i) (.ref x :: vs) (upd (upd H1 dx (.own x)) x (.ins (c.cA kc) dx [])) (fun v H2 => v = .non ∧ Q (.ref x) H2) (fun cls d H' => W cls d σ H')) I
    ⟨F, w, s', sr, h.bindE fun ds s1 q w1 H1 xs sr1 ex1 rs h1 => ?_⟩
  · refine wpAny_Call_Name_kw (ld_glob I hg hm ?_ hdb)
    exact callWith_plain (first := []) (σ := σ) G.made.kp hp (thn hA fun us s1 ⟨vs, H1, I1, r, q⟩ => ⟨I1.kIn, run_makeX tk G.made ok hr b I1 r q⟩)
  · intro y dx h2 h3 h4
    obtain ⟨k1, k2, k3⟩ := sr1.free h2
    have sr2 : SR c F w1 (upd (upd H1 dx (.own y)) y (.ins (c.cA kc) dx [])) σ s1 := sr1.grow (new_sub h2 h3)
    have sr3 : SR c F (w1.cel y) (upd (upd H1 dx (.own y)) y (.ins (c.cA kc) dx [])) σ { s1 with st := s1.st ++ [some (.ins kc [])] } := sr2.newCell (o := .ins (c.cA kc) dx []) upd_same ⟨rfl, rfl⟩ k1 k2 k3
    have ex3 : Ext w1 (w1.cel y) := Ext.cel
    refine ⟨by rw [List.length_cons, rs.length, evA_len a q, hn], fenceF F _ (w1.cel y), fenceW (w1.cel y), .cell s1.st.length :: ds, s1.st ++ [some (.ins kc [])], sr3.enter, ⟨_, _, rfl, ⟨y, rfl, ?_⟩, Reps.mono ex3.1 ex3.2 _ _ rs⟩, ?_⟩
    · show (w1.m ++ [y])[s1.st.length]? = some y
      rw [← sr1.ln, List.getElem?_append_right (Nat.le_refl _), Nat.sub_self]
      rfl
    cases e : Z.fm i (.cell s1.st.length :: ds) (s1.st ++ [some (.ins kc [])]) with
    | no =>
      rw [e] at h1
      exact h1
    | er k fs st =>
      rw [e] at h1
      intro w2 H2 cls d y2 ex rv
      obtain ⟨y', e1, _⟩ := sr3.leave y2 ex
      exact h1 _ _ cls d y' (ex3.trans e1) rv
    | ok v st =>
      rw [e] at h1
      have h1 : Post c F σ W w1 (RV c F σ) Q (match (RC.ok v st) with
        | .ok (.im .non) st => .ok (.im (.cell s1.st.length)) { s1 with st := st }
        | .er c fs st => .er c fs { s1 with st := st }
        | _ => .no) := h1
      split at h1
      · rename_i st' q2
        cases q2
        intro w2 H2 z y2 ex rv
        cases (show z = V.non from rv)
        obtain ⟨y', e1, _⟩ := sr3.leave y2 ex
        refine ⟨rfl, h1 _ _ _ y' (ex3.trans e1) ⟨y, rfl, ?_⟩⟩
        obtain ⟨e', he⟩ := e1.2
        rw [he, List.getElem?_append_left (by show s1.st.length < (w1.m ++ [y]).length; rw [List.length_append, ← sr1.ln]; exact Nat.lt_succ_self _)]
        show (w1.m ++ [y])[s1.st.length]? = some y
        rw [← sr1.ln, List.getElem?_append_right (Nat.le_refl _), Nat.sub_self]
        rfl
      · rename_i q2
        cases q2
      · exact h1.elim
/-! ### cells -/
theorem nwc_read {a : E} {σ : L2.St} {H : Hp} {Q : VK} (h : tEv Z c W (.nwc a) σ H Q) : tEv Z c W a σ H Q := by
  obtain ⟨F, w, s, sr, h⟩ := h
  rw [ev_nwc] at h
  refine ⟨F, w, s, sr, h.bind fun v s1 w1 H1 x sr1 ex1 rv1 h1 => ?_⟩
  cases v with
  | im d => exact h1.elim
  | pk i => exact h1.elim
  | own d =>
    obtain ⟨y, o, rfl, h2, h3, h4, h5, h6⟩ := rv1
    refine h1 _ _ _ (sr1.newCell h2 h3 h4 h5 h6) Ext.cel ⟨y, rfl, ?_⟩
    show (w1.m ++ [y])[s1.st.length]? = some y
    rw [← sr1.ln, List.getElem?_append_right (Nat.le_refl _), Nat.sub_self]
    rfl
theorem s_nwc {a : E} {x : Expr} (h : PE X x (tEv Z c W a)) : PE X x (tEv Z c W (.nwc a)) := h.imp fun σ H Q h => nwc_read h
theorem fzc_read {a : E} {σ : L2.St} {H : Hp} {Q : VK} (h : tEv Z c W (.fzc a) σ H Q) : tEv Z c W a σ H Q := by
  obtain ⟨F, w, s, sr, h⟩ := h
  rw [ev_fzc] at h
  refine ⟨F, w, s, sr, h.bind fun v s1 w1 H1 x sr1 ex1 rv1 h1 => ?_⟩
  split at h1
  · rename_i k
    obtain ⟨y, rfl, hy⟩ := rv1
    have h1 : Post c F σ W w1 (RV c F σ) Q (match s1.st[k]? with
      | some (some d) => .ok (.im d) { s1 with st := s1.st.set k none }
      | _ => .no) := h1
    split at h1
    · rename_i d q
      obtain ⟨w2, sr2, ex2, r2⟩ := sr1.freezeCell q hy
      exact h1 _ _ _ sr2 ex2 r2
    · exact h1.elim
  · exact h1.elim
theorem s_fzc {a : E} {x : Expr} (h : PE X x (tEv Z c W a)) : PE X x (tEv Z c W (.fzc a)) := h.imp fun σ H Q h => fzc_read h
end
end PB

set_option Elab.async false
set_option linter.all false
set_option autoImplicit false
set_option maxRecDepth 100000
/-! THE BRIDGE: calls and instances whose arguments are lent with all that hangs on them. -/
namespace PB
open PySem PySem.Spec PyProof.Rows L2
section
variable {X : Cx} {Z : Env} {c : Ct} {W : WX}
theorem mapO_rep {B B' : Hp} {m m' : List Addr} {f : D → Option D} (hf : ∀ d e v, f d = some e → Rep c B m d v → Rep c B' m' e v) : ∀ {ds es : List D} {vs : List V}, mapO f ds = some es → Reps c B m ds vs → Reps c B' m' es vs
  | [], es, vs, e, h => by
    cases e
    exact h
  | d :: ds, es, vs, e, h => by
    obtain ⟨v, us, rfl, h1, h2⟩ := h
    have e : (match f d with
      | some e => match mapO f ds with
        | some es => some (e :: es)
        | none => none
      | none => none) = some es := e
    cases q1 : f d with
    | none =>
      rw [q1] at e
      cases e
    | some d' =>
      rw [q1] at e
      cases q2 : mapO f ds with
      | none =>
        rw [q2] at e
        cases e
      | some ds' =>
        rw [q2] at e
        cases e
        exact ⟨v, us, rfl, hf _ _ _ q1 h1, mapO_rep hf q2 h2⟩
theorem mapO_len {f : D → Option D} : ∀ {ds es : List D}, mapO f ds = some es → es.length = ds.length
  | [], es, e => by
    cases e
    rfl
  | d :: ds, es, e => by
    have e : (match f d with
      | some e => match mapO f ds with
        | some es => some (e :: es)
        | none => none
      | none => none) = some es := e
    cases q1 : f d with
    | none =>
      rw [q1] at e
      cases e
    | some d' =>
      rw [q1] at e
      cases q2 : mapO f ds with
      | none =>
        rw [q2] at e
        cases e
      | some ds' =>
        rw [q2] at e
        cases e
        rw [List.length_cons, List.length_cons, mapO_len q2]
theorem deep_rep {F : Hp} {w : Wd} {H : Hp} {σ : L2.St} {s : S} (x : SR c F w H σ s) : ∀ (n : Nat) (d e : D) (v : V), deepD n s.st d = some e → Rep c (lendW w H).B (lendW w H).m d v → Rep c (lendW w H).B (lendW w H).m e v
  | 0, d, e, v, q, h => by cases q
  | n + 1, d, e, v, q, h => by
    cases d with
    | cell k =>
      obtain ⟨a, rfl, hk⟩ := h
      have q : (match s.st[k]? with
        | some (some d) => deepD n s.st d
        | _ => none) = some e := q
      split at q
      · rename_i d g
        obtain ⟨b, o, h1, h2, h3, h4⟩ := x.ce k d g
        have hk : w.m[k]? = some a := hk
        rw [hk] at h1
        cases h1
        exact deep_rep x n d e _ q (RepO.rep (τ := (lendW w H).τ) (show lendB w H a = some o by rw [lendB_τ (x.tb _ _ h2).1 h2]; exact h3) (h4.mono (w' := lendW w H) Ext.lend))
      · cases q
    | lst ds =>
      have q : (match mapO (deepD n s.st) ds with
        | some es => some (D.lst es)
        | none => none) = some e := q
      split at q
      · rename_i es g
        cases q
        obtain ⟨a, vs, rfl, h1, h2⟩ := h
        exact ⟨a, vs, rfl, h1, mapO_rep (fun d e v q h => deep_rep x n d e v q h) g h2⟩
      · cases q
    | tup ds =>
      have q : (match mapO (deepD n s.st) ds with
        | some es => some (D.tup es)
        | none => none) = some e := q
      split at q
      · rename_i es g
        cases q
        obtain ⟨a, vs, rfl, h1, h2⟩ := h
        exact ⟨a, vs, rfl, h1, mapO_rep (fun d e v q h => deep_rep x n d e v q h) g h2⟩
      · cases q
    | _ =>
      cases q
      exact h
theorem s_calD {k n i : Nat} {f : Addr} {a : A} {x : Str} {es : List Expr} {p pos : Pos} (tk : Takes X W) (hr : Room k X.A) (G : FnI X c k f n (Z.fn i)) (hg : Gl X x) (hm : X.mg x = some (.ref f)) (hdb : (x == ("__debug__" : Str)) = false)
    (hp : es.all plainX = true) (hn : a.len = n) (ha : PA X es (tEo Z c W a)) : PE X (.Call (.Name x p) es [] pos) (tEv Z c W (.calD i a)) := by
  refine ⟨fun pins s σ H Q I h => ?_⟩
  obtain ⟨F, w, s', sr, h⟩ := h
  rw [ev_calD] at h
  have hA := ha.run pos pins s σ H (fun vs H1 => spF c n (Z.fn i) vs H1 Q (fun cls d H' => W cls d σ H')) I ⟨F, w, s', sr, h.bindE fun ds s1 q w1 H1 xs sr1 ex1 rs h1 => ?_⟩
  · refine wpAny_Call_Name_kw (ld_glob I hg hm ?_ hdb)
    exact callWith_plain (first := []) (σ := σ) G.kp hp (thn hA fun us s1 ⟨vs, H1, I1, r, q⟩ => ⟨I1.kIn, run_cal tk hr G I1 r q⟩)
  · cases e1 : lookAll s1 ds with
    | none =>
      rw [e1] at h1
      exact h1.elim
    | some es =>
      simp only [e1] at h1
      cases e2 : mapO (deepD 8 s1.st) es with
      | none =>
        rw [e2] at h1
        exact h1.elim
      | some fs =>
        rw [e2] at h1
        exact ⟨by rw [rs.len, evO_len a q, hn], F, _, fs, _, sr1.lend, mapO_rep (fun d e v q h => deep_rep sr1 8 d e v q h) e2 (RVs.lend sr1 rs e1), lend_post sr1 h1⟩
/-! ### instances made of what is lent -/
def keepT (w w2 : Wd) : Addr → Option (Sum Nat Nat) := fun a => match w2.B a with
  | some (.tup _) => none
  | _ => w.τ a
def keepW (w w2 : Wd) : Wd := ⟨fun a => match keepT w w2 a with
  | some _ => none
  | none => w2.B a, w.m, keepT w w2⟩
theorem keepT_sub {w w2 : Wd} {a : Addr} {t : Sum Nat Nat} (h : keepT w w2 a = some t) : w.τ a = some t := by
  unfold keepT at h
  split at h
  · cases h
  · exact h
theorem keepT_no {w w2 : Wd} {a : Addr} (h : w.τ a = none) : keepT w w2 a = none := by
  unfold keepT
  split
  · rfl
  · exact h
theorem keepB_no {w w2 : Wd} {a : Addr} (h : keepT w w2 a = none) : (keepW w w2).B a = w2.B a := by
  show (match keepT w w2 a with
    | some _ => none
    | none => w2.B a) = _
  rw [h]
theorem keepB_sub {w w2 : Wd} {a : Addr} {o : HO} (h : (keepW w w2).B a = some o) : w2.B a = some o := by
  have h : (match keepT w w2 a with
    | some _ => none
    | none => w2.B a) = some o := h
  split at h
  · cases h
  · exact h
theorem SR.keep {F : Hp} {w : Wd} {H : Hp} {σ : L2.St} {s : S} (x : SR c F w H σ s) {w2 : Wd} {H2 : Hp} {σ2 : L2.St} {s2 : S} (y : SR c F w2 H2 σ2 s2) (ex : Ext (lendW w H) w2) : SR c F (keepW w w2) H2 σ s ∧ Ext w (keepW w w2) := by
  have x' := x.unlend y ex
  have e0 : Ext w (keepW w w2) := ⟨fun a o e => by
    have t : w.τ a = none := by
      cases q : w.τ a with
      | none => rfl
      | some t =>
        rw [(x.tb _ _ q).1] at e
        cases e
    rw [keepB_no (keepT_no t)]
    exact ex.1 _ _ (lendB_B e), [], (List.append_nil _).symm⟩
  have live : ∀ {a : Addr} {t : Sum Nat Nat} {o : HO} {d : D}, w.τ a = some t → H2 a = some o → RepO c w o d → keepT w w2 a = some t := fun {a t o d} h1 h2 h3 => by
    unfold keepT
    split
    · rename_i vs q
      have := y.bh _ _ q
      rw [h2] at this
      cases this
      cases d <;> exact h3.elim
    · exact h1
  refine ⟨⟨fun a o e => y.bh _ _ (keepB_sub e), x'.fh, fun a o e => ?_, fun a t e => ?_, fun i d e => ?_, fun i d e => ?_, fun k d e => ?_, x.ln, x.sl, fun p a h1 h2 => x.pn p a h1 (keepT_sub h2)⟩, e0⟩
  · have h1 := (y.fb _ _ e).1
    refine ⟨?_, keepT_no (x.fb _ _ e).2⟩
    rw [keepB_no (keepT_no (x.fb _ _ e).2)]
    exact h1
  · refine ⟨?_, (x'.tb a t (keepT_sub e)).2⟩
    show (match keepT w w2 a with
      | some _ => none
      | none => w2.B a) = none
    rw [show keepT w w2 a = some t from e]
  · obtain ⟨v, h1, h2⟩ := x.im i d e
    exact ⟨v, h1, Rep.mono e0.1 e0.2 _ _ h2⟩
  · obtain ⟨a, o, h1, h2, h3, h4⟩ := x'.ow i d e
    exact ⟨a, o, h1, live h2 h3 h4, h3, h4.mono e0⟩
  · obtain ⟨a, o, h1, h2, h3, h4⟩ := x'.ce k d e
    exact ⟨a, o, h1, live h2 h3 h4, h3, h4.mono e0⟩
theorem lf_rep {w w2 : Wd} : ∀ (n : Nat) (d : D) (v : V), lfD n d = true → Rep c w2.B w2.m d v → Rep c (keepW w w2).B (keepW w w2).m d v
  | 0, d, v, q, h => by cases q
  | n + 1, d, v, q, h => by
    cases d with
    | tup ds =>
      have q : ds.all (lfD n) = true := q
      obtain ⟨a, vs, rfl, h1, h2⟩ := h
      refine ⟨a, vs, rfl, ?_, ?_⟩
      · rw [keepB_no (by unfold keepT; rw [h1])]
        exact h1
      · have all : ∀ (ds : List D) (vs : List V), (∀ d ∈ ds, lfD n d = true) → Reps c w2.B w2.m ds vs → Reps c (keepW w w2).B (keepW w w2).m ds vs := by
          intro ds
          induction ds with
          | nil => exact fun vs _ h => h
          | cons d ds ih =>
            intro vs hd h
            obtain ⟨v, us, rfl, h1, h2⟩ := h
            exact ⟨v, us, rfl, lf_rep n d v (hd d List.mem_cons_self) h1, ih us (fun d m => hd d (List.mem_cons_of_mem _ m)) h2⟩
        exact all ds vs (fun d m => List.all_eq_true.mp q d m) h2
    | non => exact h
    | bl b => exact h
    | int i => exact h
    | str z => exact h
    | _ => cases q
theorem lf_repF {w w2 : Wd} : ∀ {fs : List (Str × D)} {us : List (Str × V)}, fs.all (fun p => lfD 8 p.2) = true → RepF c w2.B w2.m fs us → RepF c (keepW w w2).B (keepW w w2).m fs us
  | [], us, q, h => h
  | (k, d) :: fs, us, q, h => by
    obtain ⟨v, us, rfl, h1, h2⟩ := h
    rw [List.all_cons, Bool.and_eq_true] at q
    exact ⟨v, us, rfl, lf_rep 8 d v q.1 h1, lf_repF q.2 h2⟩
theorem lend_sub {w : Wd} {H H' : Hp} (h : Sub H H') : Ext (lendW w H) (lendW w H') := by
  refine ⟨fun a o e => ?_, [], (List.append_nil _).symm⟩
  have e : lendB w H a = some o := e
  show lendB w H' a = some o
  cases q : w.B a with
  | some u =>
    rw [lendB_B q] at e ⊢
    exact e
  | none =>
    cases q2 : w.τ a with
    | some t =>
      rw [lendB_τ q q2] at e ⊢
      exact h _ _ e
    | none =>
      rw [lendB_no q q2] at e
      exact (nomatch e)
theorem s_mkP {k n i kc : Nat} {f : Addr} {a : A} {x : Str} {es : List Expr} {p pos : Pos} (tk : Takes X W) (hr : Room (k + 1) X.A) (G : NwI X c k f kc n (Z.nw kc i)) (hg : Gl X x) (hm : X.mg x = some (.ref (c.cA kc))) (hdb : (x == ("__debug__" : Str)) = false)
    (hp : es.all plainX = true) (hn : a.len = n) (ha : PA X es (tEo Z c W a)) : PE X (.Call (.Name x p) es [] pos) (tEv Z c W (.mkP kc i a)) := by
  refine ⟨fun pins s σ H Q I h => ?_⟩
  obtain ⟨F, w, s', sr, h⟩ := h
  rw [ev_mkP] at h
  obtain ⟨fd, ps, ok, b⟩ := G.ok
  have hA := ha.run pos pins s σ H (fun vs H1 => ∀ x dx, H1 x = none → H1 dx = none → dx ≠ x → spN c kc (n + 1) (Z.nw kc i) (.ref x :: vs) (upd (upd H1 dx (.own x)) x (.ins (c.cA kc) dx [])) (fun v H2 => v = .non ∧ Q (.ref x) H2) (fun cls d H' => W cls d σ H')) I
    ⟨F, w, s', sr, h.bindE fun ds s1 q w1 H1 xs sr1 ex1 rs h1 => ?_⟩
  · refine wpAny_Call_Name_kw (ld_glob I hg hm ?_ hdb)
    exact callWith_plain (first := []) (σ := σ) G.made.kp hp (thn hA fun us s1 ⟨vs, H1, I1, r, q⟩ => ⟨I1.kIn, run_makeX tk G.made ok hr b I1 r q⟩)
  · intro y dx h2 h3 h4
    obtain ⟨k1, k2, k3⟩ := sr1.free h2
    have sub := new_sub (o := .ins (c.cA kc) dx []) (u := .own y) h2 h3
    have sr2 : SR c F w1 (upd (upd H1 dx (.own y)) y (.ins (c.cA kc) dx [])) σ s1 := sr1.grow sub
    cases e1 : lookAll s1 ds with
    | none =>
      rw [e1] at h1
      exact h1.elim
    | some es =>
      simp only [e1] at h1
      cases e2 : mapO (deepD 8 s1.st) es with
      | none =>
        rw [e2] at h1
        exact h1.elim
      | some gs =>
        simp only [e2] at h1
        have R1 := mapO_rep (fun d e v q h => deep_rep sr1 8 d e v q h) e2 (RVs.lend sr1 rs e1)
        refine ⟨by rw [List.length_cons, rs.len, evO_len a q, hn], F, lendW w1 (upd (upd H1 dx (.own y)) y (.ins (c.cA kc) dx [])), gs, s1.st.map fun _ => none, y, dx, xs, rfl, upd_same, lendB_no k1 k3, k2, rfl, sr2.lend, Reps.mono (lend_sub sub).1 (lend_sub sub).2 _ _ R1, ?_⟩
        cases e : Z.nw kc i gs (s1.st.map fun _ => none) with
        | no =>
          rw [e] at h1
          exact h1.elim
        | er k fs st =>
          rw [e] at h1
          cases fs with
          | cons _ _ => exact h1.elim
          | nil =>
            intro w2 H2 cls d y2 ex er
            obtain ⟨e1, er⟩ := er
            refine (show ∀ w' H' cls d, SR c F w' H' σ s1 → Ext w1 w' → ExR c w' k [] cls d → W cls d σ H' from h1) w1 H2 cls d (sr2.unlend y2 ex) (Ext.refl _) ⟨e1, ?_⟩
            rcases er with er | ⟨_, _, _, _, _, e4⟩
            · exact .inl er
            · exact absurd rfl e4
        | ok v st =>
          rw [e] at h1
          cases v with
          | im d => exact h1.elim
          | pk i => exact h1.elim
          | own d =>
            cases d <;> first | exact h1.elim | skip
            rename_i c2 fs
            have h1 : Post c F σ W w1 (RV c F σ) Q (if fs.all (fun p => lfD 8 p.2) then .ok (.own (.ins c2 fs)) s1 else .no) := h1
            split at h1
            · rename_i lf
              intro w2 H2 y2 ex ho
              obtain ⟨o, g1, g2, g3, g4, g5⟩ := ho
              obtain ⟨y', e0⟩ := sr2.keep y2 ex
              have t0 : w1.τ y = none := k3
              refine ⟨rfl, h1 _ _ (.ref y) y' e0 ⟨y, o, rfl, g1, ?_, ?_, g4, keepT_no t0⟩⟩
              · cases o <;> first | exact g2.elim | skip
                exact ⟨g2.1, lf_repF lf g2.2⟩
              · rw [keepB_no (keepT_no t0)]
                exact g3
            · exact h1.elim
end
end PB

set_option Elab.async false
set_option linter.all false
set_option autoImplicit false
set_option maxRecDepth 100000
/-! THE BRIDGE, 10: enumerate of a tuple. -/
namespace PySem
open Sem (wp)
open AutoSeq1 (wpAny_loadPart')
theorem meets_enumerate_newTu (l : Addr) (items : Array Value) (n : Nat) (dct : Option Addr) (sl : Array (Option Value)) :
    Meets (Builtin.«enumerate.__new__» ⟨[.type "enumerate", .ref l], []⟩) (fun _ R s => s.heap.get? l = some { cls := .type "tuple", dict := dct, data := .seq items n, slots := sl } ∧
      R (.ok (.ret (.ref (s.heap.push { cls := .type "tuple_iterator", data := .fields #[.ref l, .int 0 0] }).objs.size)))
        { s with heap := (s.heap.push { cls := .type "tuple_iterator", data := .fields #[.ref l, .int 0 0] }).push { cls := .type "enumerate", data := .fields #[.none, .bool false, .ref s.heap.objs.size, rawInt 0, .none, .none] } }) :=
  .of_wp fun prog w A R s h => by
    obtain ⟨hp, g, d, tk, os⟩ := s; obtain ⟨hl, h⟩ := h
    have hsub := sub_enumerate
    have hL : Heap.IsTuple (Shared.heap ⟨hp, g, d, tk, os⟩) l items := ⟨_, hl, rfl, n, rfl⟩
    wp_walk using wpAny_loadPart' hl
    refine wpAny_stack_any fun st => wpAny_pure ?_
    split
    · rename_i c _ _ _ _ _
      cases (c == Value.type "enumerate")
      · wp_walk using wpAny_loadPart' hl, wpAny_pyIter_tuple hL
        exact ⟨_, rfl, h⟩
      · wp_walk using wpAny_loadPart' hl, wpAny_pyIter_tuple hL
        exact ⟨_, rfl, h⟩
    · wp_walk using wpAny_loadPart' hl, wpAny_pyIter_tuple hL
      exact ⟨_, rfl, h⟩
section
variable {prog : Program} {w : World} {A : Around} {E : Value → Shared → Prop} {s : Shared}
theorem call_enumerate_tupleB {l : Addr} {items : Array Value} {Q : Value → Shared → Prop} (hL : s.heap.IsTuple l items)
    (h : ∀ h', IsEnum h' (s.heap.objs.size + 1) s.heap.objs.size 0 .none → h'.IsTupleIter s.heap.objs.size l 0 → h'.objs.size = s.heap.objs.size + 2 →
      (∀ b o, s.heap.get? b = some o → h'.get? b = some o) → Q (.ref (s.heap.objs.size + 1)) { s with heap := h' }) :
    wpAny (model prog w) A (call (.type "enumerate") [.ref l]) Q E s := by
  obtain ⟨⟨c, dct, dt, sl⟩, hl, hc, n, hd⟩ := hL
  replace hc : c = .type "tuple" := hc
  replace hd : dt = .seq items n := hd
  subst hc hd
  refine callType_new F.called_enumerate (by decide) (F.typeCall_enumerate_1 _) (F.newCall_enumerate_1 _) (fun obj => F.args_object_init_2 obj _) F.entry_enumerate_new
    (meets_enumerate_newTu l items n dct sl) ⟨hl, ?_⟩
  have hz : (s.heap.push { cls := .type "tuple_iterator", data := .fields #[.ref l, .int 0 0] }).objs.size = s.heap.objs.size + 1 := Heap.size_push ..
  show _ ∧ _
  rw [hz]
  have he : IsEnum ((s.heap.push { cls := .type "tuple_iterator", data := .fields #[.ref l, .int 0 0] }).push
      { cls := .type "enumerate", data := .fields #[.none, .bool false, .ref s.heap.objs.size, rawInt 0, .none, .none] }) (s.heap.objs.size + 1) s.heap.objs.size 0 .none := by
    have := Heap.get?_push_size (s.heap.push { cls := .type "tuple_iterator", data := .fields #[.ref l, .int 0 0] })
      (o := { cls := .type "enumerate", data := .fields #[.none, .bool false, .ref s.heap.objs.size, rawInt 0, .none, .none] }) rfl
    rw [hz] at this; exact this
  refine ⟨⟨_, he, rfl⟩, h _ he ⟨_, Heap.get?_push_of_some _ (Heap.get?_push_size _ rfl), rfl, rfl⟩ (by rw [Heap.size_push, hz]) fun b o x => Heap.get?_push_of_some _ (Heap.get?_push_of_some _ x)⟩
end
end PySem
namespace PB
open PySem PySem.Spec PyProof.Rows L2
def IteT (K : PySem.W.Frag) (a : Addr) : It :=
  ⟨fun i H => ∃ (xs : List V) (x : V), SqT K H a xs ∧ xs[i]? = some x, fun i H v H' => ∃ T x, v = .ref T ∧ H T = none ∧ H' = upd H T (.tup [.int (i : Nat), x]) ∧ ∀ xs, SqT K H a xs → xs[i]? = some x, fun i H => ∃ xs : List V, SqT K H a xs ∧ xs.length = i⟩
theorem turn_enumT {P : Program} {w : World} {K : PySem.W.Frag} {elts : List Expr} {kk : Nat} {tpos : Pos} (a e it : Addr) (hai : a ≠ it) (hae : a ≠ e) :
    Turn P w K (.Tuple elts kk tpos) (IteT K a) [e, it] e (fun i h => (∃ old, IsEnum h e it ((i : Nat) : Int) old) ∧ h.IsTupleIter it a i ∧ e ≠ it) where
  mem := by simp
  obj := fun i h st b hb => by
    obtain ⟨⟨old, he⟩, ⟨o, ho, hc, hd⟩, _⟩ := st
    have e' : b = e ∨ b = it := by simpa using hb
    rcases e' with z | z
    · rw [z]; exact ⟨_, he, fun v q => nomatch q⟩
    · rw [z]; exact ⟨o, ho, fun v q => by rw [hd] at q; cases q⟩
  keep := fun i h h' st k => let ⟨⟨old, he⟩, hi, hne⟩ := st; ⟨⟨old, k e (by simp) _ he⟩, hi.at fun o q => k it (by simp) o q, hne⟩
  item := by
    intro X hP hw hK hc i pins s σ H E I hf st hg
    subst hP hw hK
    obtain ⟨⟨old, he⟩, hit, hne⟩ := st
    obtain ⟨xs, x, hq, hx⟩ := hg
    obtain ⟨its, rv, p, hz⟩ := I.tuple hq
    obtain ⟨u, hu, ru⟩ := rv.get hx
    have hel : e < s.heap.objs.size := Heap.lt_size he
    have hil : it < s.heap.objs.size := by obtain ⟨_, q, _⟩ := hit; exact Heap.lt_size q
    have pT : s.heap.IsTuple a its.toArray := p
    have hd : X.A.in1.handled = none := I.ok.hd hc
    have hlt : i < its.toArray.size := by
      have := (List.getElem?_eq_some_iff.mp hu).1
      simpa using this
    refine wpAny_pyNext_enum_itemD (Draws.tuple hd it a hai its.toArray) he ⟨hit, pT⟩ hlt hne (by
      intro q
      have : e = it ∨ e = a := by simpa using q
      rcases this with z | z
      · exact hne z
      · exact hae z.symm) fun v h' tk hv ho st2 hT hsz hk => ?_
    have hv' : v = u := by
      have hv : its.toArray[i]? = some v := hv
      have : its[i]? = some v := by simpa using hv
      rw [hu] at this
      cases this
      rfl
    subst hv'
    refine ⟨_, rfl, wpAny_letOwnedTupleGo_enum (s := { s with heap := h', toks := tk + 1 }) ho fun h'' he' sb => ?_⟩
    have hT2 : h''.get? s.heap.objs.size = some { cls := .type "tuple", data := .seq #[.int i tk, v] } := (sb.2 _ (Nat.ne_of_gt hel)).trans hT
    have new : ObjOk X.prog X.w (upd H s.heap.objs.size (.tup [.int (i : Nat), x])) h'' s.heap.objs.size (.tup [.int (i : Nat), x]) :=
      ⟨by show 2 ≤ sizeLine; decide, [.int i tk, v], .cons ⟨_, rfl⟩ (.cons ru .nil), ⟨_, hT2, rfl, _, rfl⟩⟩
    have I1 : Inv X pins σ (upd H s.heap.objs.size (.tup [.int (i : Nat), x])) { s with heap := h'', toks := tk + 1 } :=
      I.turnedNew (ch := [e, it]) (fun b ob hb q => (sb.2 b (fun z => hb (by simp [z]))).trans (hk b ob (fun z => hb (by simp [z])) (fun z => hb (by simp [z])) q)) hf (Nat.le_refl _) new
    refine ⟨.ref s.heap.objs.size, _, I1, rfl, ⟨_, x, rfl, I.hok.fresh (Nat.le_refl _), rfl, fun ys hy => by rw [I.tuple_inj hy hq]; exact hx⟩, ⟨⟨v, ?_⟩, st2.1.at fun o q => (sb.2 it (Ne.symm hne)).trans q, hne⟩, fun b hb => ?_⟩
    · have e1 : ((i + 1 : Nat) : Int) = (i : Int) + 1 := by omega
      rw [e1]; exact he'
    · have hb' : b < s.heap.objs.size := by
        have e' : b = e ∨ b = it := by simpa using hb
        rcases e' with z | z
        · rw [z]; exact hel
        · rw [z]; exact hil
      rw [upd_ne (Nat.ne_of_lt hb')]
      exact (hf b hb).1
  done := by
    intro X hP hw hK hc i pins s σ H E I hf st hg
    subst hP hw hK
    obtain ⟨⟨old, he⟩, hit, hne⟩ := st
    obtain ⟨xs, hq, hx⟩ := hg
    obtain ⟨its, rv, p, hz⟩ := I.tuple hq
    obtain ⟨f0, f1, f2, f3, f4, f5⟩ := hf it (by simp)
    have hl := rv.length
    have pT : s.heap.IsTuple a its.toArray := p
    have hd : X.A.in1.handled = none := I.ok.hd hc
    have st2 : s.heap.IsTupleIter it a its.toArray.size ∧ s.heap.IsTuple a its.toArray := ⟨by rw [show its.toArray.size = i by simp; omega]; exact hit, pT⟩
    exact wpAny_pyNext_enum_endD (Draws.tuple hd it a hai its.toArray) he st2 fun h' eb => ⟨rfl, I.turned (t' := s.toks) (fun b o hb q => eb b o hb q) f0 f1 f3 f4 f5⟩
  self := fun A i s Q E st h => let ⟨⟨_, he⟩, _⟩ := st; wpAny_pyIter_enum he h
/-- enumerate(x), x a list or a tuple -/
def iEnumA (K : PySem.W.Frag) (ta : TA) : TI := fun σ H R => ta σ H fun vs H1 => ∃ a xs, vs = [.ref a] ∧ ((SqL K H1 a xs ∧ R (Ite K a) H1) ∨ (SqT K H1 a xs ∧ R (IteT K a) H1))
theorem pi_enumA {X : Cx} {e : Expr} {ta : TA} {p pos tpos : Pos} {elts : List Expr} {kk : Nat} (hg : Gl X "enumerate") (hm : X.mg "enumerate" = none) (ha : PA X [e] ta) (hs : starEach [e] X.env = [(false, eval e X.env)]) :
    PI X (.Tuple elts kk tpos) (.Call (.Name "enumerate" p) [e] [] pos) (iEnumA X.K ta) := by
  refine ⟨fun pins s σ H R I h => ?_⟩
  refine Call_ (ld_blt I hg hm boot_enumerate (PyProof.Rows.callWith_type1 (thn (ha.run pos pins s σ H _ I h) fun us s1 ⟨vs, H1, I1, r1, q1⟩ => ?_) hs rfl))
  obtain ⟨a, xs, ex, q⟩ := q1
  subst ex
  cases r1 with
  | cons r rr =>
    cases rr
    cases r
    have fp2 : ∀ b ∈ [s1.heap.objs.size + 1, s1.heap.objs.size], FpOk X pins H1 b := fun b hb => by
      have e' : b = s1.heap.objs.size + 1 ∨ b = s1.heap.objs.size := by simpa using hb
      have hle : s1.heap.objs.size ≤ b := by
        rcases e' with z | z
        · rw [z]; exact Nat.le_add_right _ _
        · rw [z]; exact Nat.le_refl _
      exact I1.fpOk hle (I1.hok.fresh hle)
    rcases q with ⟨hq, q⟩ | ⟨hq, q⟩
    · obtain ⟨its, rv, p', hz⟩ := I1.list hq
      refine call_enumerate_list p'.isList fun h' he hit hsz hk => wpAny_pyIter_enum he ?_
      have I2 : Inv X pins σ H1 { s1 with heap := h' } := I1.kept (t' := s1.toks) hk
      exact ⟨s1.heap.objs.size + 1, [s1.heap.objs.size + 1, s1.heap.objs.size], _, _, H1, rfl, I2, turn_enum a (s1.heap.objs.size + 1) s1.heap.objs.size, ⟨⟨.none, he⟩, hit, Nat.succ_ne_self _⟩, fp2, q⟩
    · obtain ⟨its, rv, p', hz⟩ := I1.tuple hq
      have pT : s1.heap.IsTuple a its.toArray := p'
      have hal : a < s1.heap.objs.size := by
        obtain ⟨o, ho, _⟩ := id pT
        exact Heap.lt_size ho
      refine call_enumerate_tupleB pT fun h' he hit hsz hk => wpAny_pyIter_enum he ?_
      have I2 : Inv X pins σ H1 { s1 with heap := h' } := I1.kept (t' := s1.toks) hk
      exact ⟨s1.heap.objs.size + 1, [s1.heap.objs.size + 1, s1.heap.objs.size], _, _, H1, rfl, I2, turn_enumT a (s1.heap.objs.size + 1) s1.heap.objs.size (Nat.ne_of_lt hal) (Nat.ne_of_lt (Nat.lt_succ_of_lt hal)),
        ⟨⟨.none, he⟩, hit, Nat.succ_ne_self _⟩, fp2, q⟩
/-- for x in y: y a list, a tuple or a text -/
def iAny (K : PySem.W.Frag) (tl : TE) : TI := fun σ H R => tl σ H fun x H1 =>
  (∃ a, x = .ref a ∧ (∃ xs, SqL K H1 a xs) ∧ R (Itl K a) H1) ∨ (∃ a, x = .ref a ∧ (∃ xs, SqT K H1 a xs) ∧ R (Itt K a) H1) ∨ (∃ z, x = .str z ∧ R (Its z) H1)
theorem pi_any {X : Cx} {tg l : Expr} {tl : TE} (hl : PE X l tl) : PI X tg l (iAny X.K tl) := by
  refine ⟨fun pins s σ H R I h => ?_⟩
  refine thn (hl.run pins s σ H _ I h) fun v s1 ⟨x, H1, I1, r1, q1⟩ => ?_
  rcases q1 with ⟨a, e, ⟨xs, hq⟩, q⟩ | ⟨a, e, ⟨xs, hq⟩, q⟩ | ⟨x', ex, q⟩
  · subst e
    cases r1
    obtain ⟨its, rv, p, hz⟩ := I1.list hq
    refine wpAny_pyIter_list p.isList ?_
    refine ⟨s1.heap.objs.size, [s1.heap.objs.size], _, _, H1, rfl, I1.kept (t' := s1.toks) fun b o e => Heap.get?_push_of_some _ e, turn_list a _, ⟨_, Heap.get?_push_size _ rfl, rfl, rfl⟩, fun b hb => ?_, q⟩
    have e : b = s1.heap.objs.size := by simpa using hb
    subst e
    exact I1.fpOk (Nat.le_refl _) (I1.hok.fresh (Nat.le_refl _))
  · subst e
    cases r1
    obtain ⟨its, rv, p, hz⟩ := I1.tuple hq
    refine wpAny_pyIter_tuple (show s1.heap.IsTuple a its.toArray from p) ?_
    refine ⟨s1.heap.objs.size, [s1.heap.objs.size], _, _, H1, rfl, I1.kept (t' := s1.toks) fun b o e => Heap.get?_push_of_some _ e, turn_tuple a _, ⟨_, Heap.get?_push_size _ rfl, rfl, rfl⟩, fun b hb => ?_, q⟩
    have e : b = s1.heap.objs.size := by simpa using hb
    subst e
    exact I1.fpOk (Nat.le_refl _) (I1.hok.fresh (Nat.le_refl _))
  · subst ex
    obtain ⟨t, rfl⟩ := r1
    cases ha : x'.cps.all (· < 128)
    · exact wpAny_pyIter_wide ha (pi_one (tk := s1.toks) I1 _ (turn_str _ x' t "str_iterator" (.inr rfl)) ⟨_, Heap.get?_push_size _ rfl, rfl, rfl⟩ q)
    · exact wpAny_pyIter_ascii ha (pi_one (tk := s1.toks) I1 _ (turn_str _ x' t "str_ascii_iterator" (.inl rfl)) ⟨_, Heap.get?_push_size _ rfl, rfl, rfl⟩ q)
end PB

set_option Elab.async false
set_option linter.all false
set_option autoImplicit false
set_option maxRecDepth 100000
set_option maxHeartbeats 1000000
/-! THE BRIDGE, 10b: zip of a tuple and a list. -/
namespace PySem
open Sem (wp)
/-- the iterator's class: of a tuple or of a list -/
abbrev mzC (k : Bool) : String := bif k then "tuple_iterator" else "list_iterator"
abbrev mzH1 (k : Bool) (h : Heap) (a : Addr) : Heap := h.push { cls := .type (mzC k), data := .fields #[.ref a, .int 0 0] }
abbrev mzH2 (k q : Bool) (h : Heap) (a b : Addr) : Heap := (mzH1 k h a).push { cls := .type (mzC q), data := .fields #[.ref b, .int 0 0] }
abbrev mzH3 (k q : Bool) (h : Heap) (a b : Addr) : Heap := (mzH2 k q h a b).push { cls := .type "tuple", data := .seq #[.ref h.objs.size, .ref (mzH1 k h a).objs.size] }
abbrev mzH4 (k q : Bool) (h : Heap) (a b : Addr) : Heap := (mzH3 k q h a b).push { cls := .type "tuple", data := .seq #[.none, .none] }
abbrev mzH5 (k q : Bool) (h : Heap) (a b : Addr) : Heap := (mzH4 k q h a b).push { cls := .type "zip", data := .fields #[.none, .bool false, .bool false, .ref (mzH2 k q h a b).objs.size, .ref (mzH3 k q h a b).objs.size] }
def mzSq (k : Bool) (h : Heap) (a : Addr) (its : Array Value) : Prop := match k with
  | true => h.IsTuple a its
  | false => h.IsList a its
def mzIt (k : Bool) (h : Heap) (it a : Addr) (i : Nat) : Prop := match k with
  | true => h.IsTupleIter it a i
  | false => h.IsListIter it a i
theorem mz_meets (k q : Bool) (a b : Addr) (xs ys : Array Value) :
    Meets (Builtin.«zip.__new__» ⟨[.type "zip", .ref a, .ref b], []⟩) (fun _ R s => mzSq k s.heap a xs ∧ mzSq q s.heap b ys ∧
      R (.ok (.ret (.ref (mzH4 k q s.heap a b).objs.size))) { s with heap := mzH5 k q s.heap a b }) := by
  cases k <;> cases q
  · exact .of_wp fun prog w A R s hz => by
      obtain ⟨hp, g, d, tk, os⟩ := s
      obtain ⟨ha, hb, hz⟩ := hz
      have hsub := sub_zip
      have hA : Heap.IsList (Shared.heap ⟨hp, g, d, tk, os⟩) a xs := ha
      have hb : hp.IsList b ys := hb
      have hB : Heap.IsList (Shared.heap ⟨hp.push { cls := .type "list_iterator", data := .fields #[.ref a, .int 0 0] }, g, d, tk, os⟩) b ys := Heap.IsList.push hb _
      wp_walk using wpAny_pyIter_list hA, wpAny_pyIter_list hB
      exact ⟨_, rfl, hz⟩
  · exact .of_wp fun prog w A R s hz => by
      obtain ⟨hp, g, d, tk, os⟩ := s
      obtain ⟨ha, hb, hz⟩ := hz
      have hsub := sub_zip
      have hA : Heap.IsList (Shared.heap ⟨hp, g, d, tk, os⟩) a xs := ha
      have hb : hp.IsTuple b ys := hb
      have hB : Heap.IsTuple (Shared.heap ⟨hp.push { cls := .type "list_iterator", data := .fields #[.ref a, .int 0 0] }, g, d, tk, os⟩) b ys := Heap.IsTuple.push hb _
      wp_walk using wpAny_pyIter_list hA, wpAny_pyIter_tuple hB
      exact ⟨_, rfl, hz⟩
  · exact .of_wp fun prog w A R s hz => by
      obtain ⟨hp, g, d, tk, os⟩ := s
      obtain ⟨ha, hb, hz⟩ := hz
      have hsub := sub_zip
      have hA : Heap.IsTuple (Shared.heap ⟨hp, g, d, tk, os⟩) a xs := ha
      have hb : hp.IsList b ys := hb
      have hB : Heap.IsList (Shared.heap ⟨hp.push { cls := .type "tuple_iterator", data := .fields #[.ref a, .int 0 0] }, g, d, tk, os⟩) b ys := Heap.IsList.push hb _
      wp_walk using wpAny_pyIter_tuple hA, wpAny_pyIter_list hB
      exact ⟨_, rfl, hz⟩
  · exact .of_wp fun prog w A R s hz => by
      obtain ⟨hp, g, d, tk, os⟩ := s
      obtain ⟨ha, hb, hz⟩ := hz
      have hsub := sub_zip
      have hA : Heap.IsTuple (Shared.heap ⟨hp, g, d, tk, os⟩) a xs := ha
      have hb : hp.IsTuple b ys := hb
      have hB : Heap.IsTuple (Shared.heap ⟨hp.push { cls := .type "tuple_iterator", data := .fields #[.ref a, .int 0 0] }, g, d, tk, os⟩) b ys := Heap.IsTuple.push hb _
      wp_walk using wpAny_pyIter_tuple hA, wpAny_pyIter_tuple hB
      exact ⟨_, rfl, hz⟩
section
variable {prog : Program} {w : World} {A : Around} {E : Value → Shared → Prop} {s : Shared}
theorem mz_call {k q : Bool} {a b : Addr} {xs ys : Array Value} {Q : Value → Shared → Prop} (ha : mzSq k s.heap a xs) (hb : mzSq q s.heap b ys)
    (h : ∀ h', IsZip h' (s.heap.objs.size + 4) (s.heap.objs.size + 2) (s.heap.objs.size + 3) .none → IsTupOf2 h' (s.heap.objs.size + 2) (.ref s.heap.objs.size) (.ref (s.heap.objs.size + 1)) →
      IsTupOf2 h' (s.heap.objs.size + 3) .none .none → mzIt k h' s.heap.objs.size a 0 → mzIt q h' (s.heap.objs.size + 1) b 0 →
      (∀ c o, s.heap.get? c = some o → h'.get? c = some o) → Q (.ref (s.heap.objs.size + 4)) { s with heap := h' }) :
    wpAny (model prog w) A (call (.type "zip") [.ref a, .ref b]) Q E s := by
  refine callType_new F.called_zip (by decide) (F.typeCall_zip_2 _ _) (F.newCall_zip_2 _ _) (fun obj => F.args_object_init_3 obj _ _) F.entry_zip_new
    (mz_meets k q a b xs ys) ⟨ha, hb, ?_⟩
  have n1 : (mzH1 k s.heap a).objs.size = s.heap.objs.size + 1 := Heap.size_push ..
  have n2 : (mzH2 k q s.heap a b).objs.size = s.heap.objs.size + 2 := by rw [Heap.size_push, n1]
  have n3 : (mzH3 k q s.heap a b).objs.size = s.heap.objs.size + 3 := by rw [Heap.size_push, n2]
  have n4 : (mzH4 k q s.heap a b).objs.size = s.heap.objs.size + 4 := by rw [Heap.size_push, n3]
  have e5 : (mzH5 k q s.heap a b).get? (mzH4 k q s.heap a b).objs.size = some _ := Heap.get?_push_size _ rfl
  have e4 : (mzH5 k q s.heap a b).get? (mzH3 k q s.heap a b).objs.size = some _ := Heap.get?_push_of_some _ (Heap.get?_push_size _ rfl)
  have e3 : (mzH5 k q s.heap a b).get? (mzH2 k q s.heap a b).objs.size = some _ := Heap.get?_push_of_some _ (Heap.get?_push_of_some _ (Heap.get?_push_size _ rfl))
  have e2 : (mzH5 k q s.heap a b).get? (mzH1 k s.heap a).objs.size = some _ := Heap.get?_push_of_some _ (Heap.get?_push_of_some _ (Heap.get?_push_of_some _ (Heap.get?_push_size _ rfl)))
  have e1 : (mzH5 k q s.heap a b).get? s.heap.objs.size = some _ := Heap.get?_push_of_some _ (Heap.get?_push_of_some _ (Heap.get?_push_of_some _ (Heap.get?_push_of_some _ (Heap.get?_push_size _ rfl))))
  show _ ∧ _
  rw [n2, n3, n4] at e5
  rw [n1, n2] at e3
  rw [n3] at e4
  rw [n1] at e2
  rw [n4]
  refine ⟨⟨_, e5, rfl⟩, h _ e5 e3 e4 ?_ ?_ fun c o x => Heap.get?_push_of_some _ (Heap.get?_push_of_some _ (Heap.get?_push_of_some _ (Heap.get?_push_of_some _ (Heap.get?_push_of_some _ x))))⟩
  · cases k <;> exact ⟨_, e1, rfl, rfl⟩
  · cases q <;> exact ⟨_, e2, rfl, rfl⟩
theorem mz_draws (k : Bool) (hh : A.handled = none) (it a : Addr) (hne : a ≠ it) (its : Array Value) :
    Draws prog w A it [it, a] its.size (fun i v => its[i]? = some v) (fun i h => mzIt k h it a i ∧ mzSq k h a its) := by
  cases k
  · exact Draws.list hh it a hne its
  · exact Draws.tuple hh it a hne its
end
theorem mzIt.at {k : Bool} {h h' : Heap} {it a : Addr} {i : Nat} (x : mzIt k h it a i) (hk : ∀ o, h.get? it = some o → h'.get? it = some o) : mzIt k h' it a i := by
  cases k
  · exact Heap.IsListIter.at x hk
  · exact Heap.IsTupleIter.at x hk
theorem mzIt.ob {k : Bool} {h : Heap} {it a : Addr} {i : Nat} (x : mzIt k h it a i) : ∃ o, h.get? it = some o ∧ ∀ v, o.data ≠ .cell v := by
  cases k <;> exact (let ⟨o, e, _, d⟩ := x; ⟨o, e, fun v q => by rw [d] at q; cases q⟩)
end PySem
namespace PB
open PySem PySem.Spec PyProof.Rows L2
def SqK (K : PySem.W.Frag) (k : Bool) (H : Hp) (a : Addr) (xs : List V) : Prop := match k with
  | true => SqT K H a xs
  | false => SqL K H a xs
theorem SqK.inv {X : Cx} {pins : List (Addr × Obj)} {σ : L2.St} {H : Hp} {s : Shared} {k : Bool} {a : Addr} {xs : List V} (I : Inv X pins σ H s) (h : SqK X.K k H a xs) : ∃ its, Vals xs its ∧ mzSq k s.heap a its.toArray := by
  cases k
  · obtain ⟨its, rv, p, _⟩ := I.list h
    exact ⟨its, rv, p.isList⟩
  · obtain ⟨its, rv, p, _⟩ := I.tuple h
    exact ⟨its, rv, p⟩
theorem SqK.inj {X : Cx} {pins : List (Addr × Obj)} {σ : L2.St} {H : Hp} {s : Shared} {k : Bool} {a : Addr} {xs ys : List V} (I : Inv X pins σ H s) (h : SqK X.K k H a xs) (h' : SqK X.K k H a ys) : xs = ys := by
  cases k
  · exact I.list_inj h h'
  · exact I.tuple_inj h h'
def ItzM (K : PySem.W.Frag) (k q : Bool) (a b : Addr) : It :=
  ⟨fun i H => ∃ (xs ys : List V) (x y : V), SqK K k H a xs ∧ SqK K q H b ys ∧ xs[i]? = some x ∧ ys[i]? = some y,
    fun i H v H' => ∃ T x y, v = .ref T ∧ H T = none ∧ H' = upd H T (.tup [x, y]) ∧ (∀ xs, SqK K k H a xs → xs[i]? = some x) ∧ ∀ ys, SqK K q H b ys → ys[i]? = some y,
    fun i H => ∃ xs ys : List V, SqK K k H a xs ∧ SqK K q H b ys ∧ i ≤ xs.length ∧ i ≤ ys.length ∧ (xs.length = i ∨ ys.length = i)⟩
theorem mz_sep {z TI TO i1 i2 a b : Addr} (D : ZipApart z TI TO i1 i2 a b) : ZipSep2 z TI TO i1 i2 [i1, a] [i2, b] where
  TIz := D.TIz
  TOz := D.TOz
  TITO := D.TITO
  TIi1 := D.TIi1
  mem1 := by simp
  zf1 := by simp [D.i1z.symm, D.l1z.symm]
  Tf1 := by simp [D.TOi1, D.l1TO.symm]
  TIi2 := D.TIi2
  mem2 := by simp
  zf2 := by simp [D.i2z.symm, D.l2z.symm]
  Tf2 := by simp [D.TOi2, D.l2TO.symm]
  sep1_2 := by simp [D.i12, D.l2i1.symm]
  sep2_1 := by simp [D.i12.symm, D.l1i2.symm]
theorem mz_turn {P : Program} {w : World} {K : PySem.W.Frag} {elts : List Expr} {kk : Nat} {tpos : Pos} {k q : Bool} {a b z TI TO i1 i2 : Addr} (D : ZipApart z TI TO i1 i2 a b) :
    Turn P w K (.Tuple elts kk tpos) (ItzM K k q a b) [z, TI, TO, i1, i2] z (fun i h => IsZip h z TI TO .none ∧ IsTupOf2 h TI (.ref i1) (.ref i2) ∧ (∃ x y, IsTupOf2 h TO x y) ∧ mzIt k h i1 a i ∧ mzIt q h i2 b i) where
  mem := by simp
  obj := fun i h st c hc => by
    obtain ⟨hz, hTI, ⟨x, y, hTO⟩, h1, h2⟩ := st
    have e' : c = z ∨ c = TI ∨ c = TO ∨ c = i1 ∨ c = i2 := by simpa using hc
    rcases e' with rfl | rfl | rfl | rfl | rfl
    · exact ⟨_, hz, fun v j => nomatch j⟩
    · exact ⟨_, hTI, fun v j => nomatch j⟩
    · exact ⟨_, hTO, fun v j => nomatch j⟩
    · exact h1.ob
    · exact h2.ob
  keep := fun i h h' st hk => by
    obtain ⟨hz, hTI, ⟨x, y, hTO⟩, h1, h2⟩ := st
    exact ⟨hk z (by simp) _ hz, hk TI (by simp) _ hTI, ⟨x, y, hk TO (by simp) _ hTO⟩, h1.at (hk i1 (by simp)), h2.at (hk i2 (by simp))⟩
  item := by
    intro X hP hw hK hc i pins s σ H E I hf st hg
    subst hP hw hK
    obtain ⟨hz, hTI, ⟨x0, y0, hTO⟩, h1, h2⟩ := st
    obtain ⟨xs, ys, x, y, hqx, hqy, hx, hy⟩ := hg
    obtain ⟨its, rv, p1⟩ := SqK.inv I hqx
    obtain ⟨its2, rv2, p2⟩ := SqK.inv I hqy
    obtain ⟨u, hu, ru⟩ := rv.get hx
    obtain ⟨u2, hu2, ru2⟩ := rv2.get hy
    have hzl : z < s.heap.objs.size := Heap.lt_size hz
    have hd : X.A.in1.handled = none := I.ok.hd hc
    refine wpAny_pyNext_zipD2_item (mz_sep D) (mz_draws k hd i1 a D.l1i1 its.toArray) (mz_draws q hd i2 b D.l2i2 its2.toArray) hz hTI hTO (i := i) ⟨h1, p1⟩ ⟨h2, p2⟩
      (by simpa using (List.getElem?_eq_some_iff.mp hu).1) (by simpa using (List.getElem?_eq_some_iff.mp hu2).1) fun v1 v2 h' tk w1 w2 z' TO' s1' s2' hT hsz hk => ?_
    have e1 : v1 = u := by
      have w1 : its.toArray[i]? = some v1 := w1
      have w1 : its[i]? = some v1 := by simpa using w1
      rw [hu] at w1
      exact (Option.some.inj w1).symm
    have e2 : v2 = u2 := by
      have w2 : its2.toArray[i]? = some v2 := w2
      have w2 : its2[i]? = some v2 := by simpa using w2
      rw [hu2] at w2
      exact (Option.some.inj w2).symm
    subst e1 e2
    refine ⟨_, rfl, wpAny_letOwnedTupleGo_zip (s := { s with heap := h', toks := tk }) z' fun h'' z'' sb => ?_⟩
    have hT2 : h''.get? s.heap.objs.size = some { cls := .type "tuple", data := .seq #[v1, v2] } := (sb.2 _ (Nat.ne_of_gt hzl)).trans hT
    have new : ObjOk X.prog X.w (upd H s.heap.objs.size (.tup [x, y])) h'' s.heap.objs.size (.tup [x, y]) :=
      ⟨by show 2 ≤ sizeLine; decide, [v1, v2], .cons ru (.cons ru2 .nil), ⟨_, hT2, rfl, _, rfl⟩⟩
    have nin : ∀ {c : Addr}, c ∉ [z, TI, TO, i1, i2] → c ≠ z ∧ c ≠ TO ∧ c ≠ i1 ∧ c ≠ i2 := fun {c} hb => ⟨fun j => hb (by simp [j]), fun j => hb (by simp [j]), fun j => hb (by simp [j]), fun j => hb (by simp [j])⟩
    have I1 : Inv X pins σ (upd H s.heap.objs.size (.tup [x, y])) { s with heap := h'', toks := tk } :=
      I.turnedNew (t' := tk) (ch := [z, TI, TO, i1, i2]) (fun c o hb j => (sb.2 c (nin hb).1).trans (hk c o (nin hb).1 (nin hb).2.1 (nin hb).2.2.1 (nin hb).2.2.2 j)) hf (Nat.le_refl _) new
    refine ⟨.ref s.heap.objs.size, _, I1, rfl, ⟨_, x, y, rfl, I.hok.fresh (Nat.le_refl _), rfl, fun l hl => by rw [SqK.inj I hl hqx]; exact hx, fun l hl => by rw [SqK.inj I hl hqy]; exact hy⟩,
      ⟨z'', (sb.2 _ D.TIz).trans (hk _ _ D.TIz D.TITO D.TIi1 D.TIi2 hTI), ⟨v1, v2, (sb.2 _ D.TOz).trans TO'⟩, s1'.1.at fun o j => (sb.2 _ D.i1z).trans j, s2'.1.at fun o j => (sb.2 _ D.i2z).trans j⟩, fun c hcm => ?_⟩
    have hlt : c < s.heap.objs.size := by
      have e' : c = z ∨ c = TI ∨ c = TO ∨ c = i1 ∨ c = i2 := by simpa using hcm
      rcases e' with rfl | rfl | rfl | rfl | rfl
      · exact hzl
      · exact Heap.lt_size hTI
      · exact Heap.lt_size hTO
      · obtain ⟨_, e1, _⟩ := h1.ob
        exact Heap.lt_size e1
      · obtain ⟨_, e1, _⟩ := h2.ob
        exact Heap.lt_size e1
    rw [upd_ne (Nat.ne_of_lt hlt)]
    exact (hf c hcm).1
  done := by
    intro X hP hw hK hc i pins s σ H E I hf st hg
    subst hP hw hK
    obtain ⟨hz, hTI, ⟨x0, y0, hTO⟩, h1, h2⟩ := st
    obtain ⟨xs, ys, hqx, hqy, g1, g2, hend⟩ := hg
    obtain ⟨its, rv, p1⟩ := SqK.inv I hqx
    obtain ⟨its2, rv2, p2⟩ := SqK.inv I hqy
    have l1 := rv.length
    have l2 := rv2.length
    have hd : X.A.in1.handled = none := I.ok.hd hc
    exact wpAny_pyNext_zipD2_end (mz_sep D) (mz_draws k hd i1 a D.l1i1 its.toArray) (mz_draws q hd i2 b D.l2i2 its2.toArray) hz hTI hTO (i := i) ⟨h1, p1⟩ ⟨h2, p2⟩
      (by simp; omega) (by simp; omega) (by simp; omega) fun h' tk hk => ⟨rfl, I.turnedL (t' := tk) (ch := [z, TI, TO, i1, i2]) (fun c o hb j =>
        hk c o (fun j' => hb (by simp [j'])) (fun j' => hb (by simp [j'])) (fun j' => hb (by simp [j'])) (fun j' => hb (by simp [j'])) j) hf⟩
  self := fun A i s Q E st h => wpAny_pyIter_zip st.1 h
/-- zip(x, y), lists or tuples -/
def iZipM (K : PySem.W.Frag) (ta : TA) : TI := fun σ H R => ta σ H fun vs H1 => ∃ (k q : Bool) (a b : Addr) (xs ys : List V), vs = [.ref a, .ref b] ∧ SqK K k H1 a xs ∧ SqK K q H1 b ys ∧ R (ItzM K k q a b) H1
theorem mz_src {X : Cx} {e f : Expr} {ta : TA} {p pos tpos : Pos} {elts : List Expr} {kk : Nat} (hg : Gl X "zip") (hm : X.mg "zip" = none) (ha : PA X [e, f] ta)
    (hs : starEach [e, f] X.env = (false, eval e X.env) :: starEach [f] X.env) (hpl : (backTo pos (starEach [f] X.env)).any (·.1) = false) :
    PI X (.Tuple elts kk tpos) (.Call (.Name "zip" p) [e, f] [] pos) (iZipM X.K ta) := by
  refine ⟨fun pins s σ H R I h => ?_⟩
  refine Call_ (ld_blt I hg hm PyProof.Rows.boot_zip (PyProof.Rows.callWith_type1 (thn (ha.run pos pins s σ H _ I h) fun us s1 ⟨vs, H1, I1, r1, q1⟩ => ?_) hs hpl))
  obtain ⟨k, q, a, b, xs, ys, ex, hqx, hqy, q1⟩ := q1
  subst ex
  cases r1 with
  | cons r rr =>
  cases rr with
  | cons r' rr =>
  cases rr
  cases r
  cases r'
  obtain ⟨its, rv, p1⟩ := SqK.inv I1 hqx
  obtain ⟨its2, rv2, p2⟩ := SqK.inv I1 hqy
  have lt : ∀ {k : Bool} {c : Addr} {is : Array Value}, mzSq k s1.heap c is → c < s1.heap.objs.size := fun {k c is} x => by
    cases k
    · obtain ⟨o, e, _⟩ := (show s1.heap.IsList c is from x)
      exact Heap.lt_size e
    · obtain ⟨o, e, _⟩ := (show s1.heap.IsTuple c is from x)
      exact Heap.lt_size e
  refine mz_call p1 p2 fun h' hz hTI hTO h1 h2 hk => wpAny_pyIter_zip hz ?_
  refine ⟨s1.heap.objs.size + 4, [s1.heap.objs.size + 4, s1.heap.objs.size + 2, s1.heap.objs.size + 3, s1.heap.objs.size, s1.heap.objs.size + 1], _, _, H1, rfl, I1.kept (t' := s1.toks) hk, mz_turn (PySem.W.ktu_apart s1.heap.objs.size a b (lt p1) (lt p2)), ⟨hz, hTI, ⟨_, _, hTO⟩, h1, h2⟩, fun c hcm => ?_, q1⟩
  have hle : s1.heap.objs.size ≤ c := by
    have e' : c = s1.heap.objs.size + 4 ∨ c = s1.heap.objs.size + 2 ∨ c = s1.heap.objs.size + 3 ∨ c = s1.heap.objs.size ∨ c = s1.heap.objs.size + 1 := by simpa using hcm
    rcases e' with rfl | rfl | rfl | rfl | rfl <;> first | exact Nat.le_add_right _ _ | exact Nat.le_refl _
  exact I1.fpOk hle (I1.hok.fresh hle)
end PB

set_option Elab.async false
set_option linter.all false
set_option autoImplicit false
set_option maxRecDepth 100000
/-! THE BRIDGE, 11: what is walked. -/
namespace PB
open PySem PySem.Spec PyProof.Rows L2
theorem _root_.L2.PI.imp {X : Cx} {tg e : Expr} {t t' : TI} (h : PI X tg e t) (k : ∀ σ H R, t' σ H R → t σ H R) : PI X tg e t' := ⟨fun pins s σ H R I q => h.run pins s σ H R I (k σ H R q)⟩
/-- the walk J gives the items ds -/
def Yl (c : Ct) (w0 : Wd) (ds : List D) (J : It) : Prop := ∀ (F : Hp) (w : Wd) (H : Hp) (σ : L2.St) (s : S), SR c F w H σ s → Ext w0 w →
  J.stop ds.length H ∧ ∀ i d, ds[i]? = some d → J.go i H ∧ ∀ x H', J.yld i H x H' → ∃ w', SR c F w' H' σ s ∧ Ext w w' ∧ Rep c w'.B w'.m d x
def relJ (c : Ct) : Wd → Hp → List D → It → Prop := fun w _ ds J => Yl c w ds J
theorem Yl.ext {c : Ct} {w0 w1 : Wd} {ds : List D} {J : It} (x : Ext w0 w1) (h : Yl c w0 ds J) : Yl c w1 ds J := fun F w H σ s sr ex => h F w H σ s sr (x.trans ex)
section
variable (Z : Env) (c : Ct) (W : WX)
def tIt (k : IK) (src : A) : TI := fun σ H R => ∃ F w s, SR c F w H σ s ∧ Post c F σ W w (relJ c) R ((evA Z src s).bind fun ds s => match itemsD k ds with
  | some xs => .ok xs s
  | none => .no)
end
section
variable {X : Cx} {Z : Env} {c : Ct} {W : WX}
theorem Reps.getV {B : Hp} {m : List Addr} {ds : List D} {vs : List V} {i : Nat} {d : D} {x : V} (h : Reps c B m ds vs) (e : ds[i]? = some d) (q : vs[i]? = some x) : Rep c B m d x := by
  obtain ⟨v, h1, h2⟩ := h.get e
  rw [q] at h1
  cases h1
  exact h2
theorem yl_list {w0 : Wd} {ds : List D} {vs : List V} {a : Addr} (hs : SqL c.K w0.B a vs) (hr : Reps c w0.B w0.m ds vs) : Yl c w0 ds (Itl c.K a) := fun F w H σ s sr ex => by
  have h1 : SqL c.K H a vs := sr.bh.l (ex.1.l hs)
  have h2 : Reps c w.B w.m ds vs := Reps.mono ex.1 ex.2 _ _ hr
  refine ⟨⟨vs, h1, by rw [hr.length]; exact Nat.le_refl _⟩, fun i d e => ?_⟩
  obtain ⟨v, g1, g2⟩ := h2.get e
  refine ⟨⟨vs, v, h1, g1⟩, fun x H' y => ?_⟩
  obtain ⟨rfl, y2⟩ := y
  exact ⟨w, sr, Ext.refl _, h2.getV e (y2 vs h1)⟩
theorem yl_tup {w0 : Wd} {ds : List D} {vs : List V} {a : Addr} (hs : SqT c.K w0.B a vs) (hr : Reps c w0.B w0.m ds vs) : Yl c w0 ds (Itt c.K a) := fun F w H σ s sr ex => by
  have h1 : SqT c.K H a vs := sr.bh.t (ex.1.t hs)
  have h2 : Reps c w.B w.m ds vs := Reps.mono ex.1 ex.2 _ _ hr
  refine ⟨⟨vs, h1, by rw [hr.length]; exact Nat.le_refl _⟩, fun i d e => ?_⟩
  obtain ⟨v, g1, g2⟩ := h2.get e
  refine ⟨⟨vs, v, h1, g1⟩, fun x H' y => ?_⟩
  obtain ⟨rfl, y2⟩ := y
  exact ⟨w, sr, Ext.refl _, h2.getV e (y2 vs h1)⟩
theorem yl_str {w0 : Wd} {z : Str} : Yl c w0 (z.cps.toList.map fun c => .str ⟨#[c]⟩) (Its z) := fun F w H σ s sr ex => by
  refine ⟨by show z.cps.size ≤ (z.cps.toList.map _).length; simp, fun i d e => ?_⟩
  rw [List.getElem?_map] at e
  cases q : z.cps.toList[i]? with
  | none =>
    rw [q] at e
    cases e
  | some k =>
    rw [q] at e
    cases e
    have hi : i < z.cps.size := by
      have := (List.getElem?_eq_some_iff.mp q).1
      simpa using this
    refine ⟨hi, fun x H' y => ?_⟩
    obtain ⟨rfl, k', y1, rfl⟩ := y
    have : z.cps.toList[i]? = some k' := by simpa using y1
    rw [q] at this
    cases this
    exact ⟨w, sr, Ext.refl _, rfl⟩
theorem yl_rng {w0 : Wd} {lo : Int} {n : Nat} : Yl c w0 (rngD lo n) (Itr lo n) := fun F w H σ s sr ex => by
  refine ⟨by show n ≤ (rngD lo n).length; unfold rngD; simp, fun i d e => ?_⟩
  unfold rngD at e
  rw [List.getElem?_map] at e
  by_cases hi : i < n
  · rw [List.getElem?_range hi] at e
    cases e
    refine ⟨hi, fun x H' y => ?_⟩
    obtain ⟨rfl, rfl⟩ := y
    exact ⟨w, sr, Ext.refl _, rfl⟩
  · rw [List.getElem?_eq_none (by simpa using hi)] at e
    cases e
theorem enumD_get : ∀ (ds : List D) (k i : Nat) (d : D), (enumD k ds)[i]? = some d → ∃ e, ds[i]? = some e ∧ d = .tup [.int ((k + i : Nat) : Int), e]
  | [], k, i, d, h => by simp [enumD] at h
  | e :: ds, k, 0, d, h => by
    unfold enumD at h
    cases h
    exact ⟨e, rfl, rfl⟩
  | e :: ds, k, i + 1, d, h => by
    unfold enumD at h
    obtain ⟨e', h1, h2⟩ := enumD_get ds (k + 1) i d h
    exact ⟨e', h1, by rw [h2, show k + 1 + i = k + (i + 1) by omega]⟩
theorem enumD_len : ∀ (ds : List D) (k : Nat), (enumD k ds).length = ds.length
  | [], k => rfl
  | e :: ds, k => by
    unfold enumD
    rw [List.length_cons, List.length_cons, enumD_len ds]
/-- a new tuple is frozen -/
theorem SR.newTup {F : Hp} {w : Wd} {H : Hp} {σ : L2.St} {s : S} (x : SR c F w H σ s) {p : Addr} {ds : List D} {vs : List V} (hp : H p = none) (r : Reps c w.B w.m ds vs) :
    ∃ w', SR c F w' (upd H p (.tup vs)) σ s ∧ Ext w w' ∧ Rep c w'.B w'.m (.tup ds) (.ref p) := by
  obtain ⟨h1, h2, h3⟩ := x.free hp
  have ex : Ext w (w.add p (.tup vs)) := Ext.add h1
  exact ⟨_, (x.grow (sub_new hp)).add upd_same h1 h2 h3, ex, ⟨p, vs, rfl, upd_same, Reps.mono ex.1 ex.2 _ _ r⟩⟩
theorem yl_enumL {w0 : Wd} {ds : List D} {vs : List V} {a : Addr} (hs : SqL c.K w0.B a vs) (hr : Reps c w0.B w0.m ds vs) : Yl c w0 (enumD 0 ds) (Ite c.K a) := fun F w H σ s sr ex => by
  have h1 : SqL c.K H a vs := sr.bh.l (ex.1.l hs)
  have h2 : Reps c w.B w.m ds vs := Reps.mono ex.1 ex.2 _ _ hr
  refine ⟨⟨vs, h1, by rw [hr.length, enumD_len]; exact Nat.le_refl _⟩, fun i d e => ?_⟩
  obtain ⟨d', e1, rfl⟩ := enumD_get _ _ _ _ e
  obtain ⟨v, g1, g2⟩ := h2.get e1
  refine ⟨⟨vs, v, h1, g1⟩, fun x H' y => ?_⟩
  obtain ⟨T, x', rfl, y1, rfl, y2⟩ := y
  exact sr.newTup y1 ⟨_, _, rfl, by rw [Nat.zero_add]; rfl, ⟨_, _, rfl, h2.getV e1 (y2 vs h1), rfl⟩⟩
theorem yl_enumT {w0 : Wd} {ds : List D} {vs : List V} {a : Addr} (hs : SqT c.K w0.B a vs) (hr : Reps c w0.B w0.m ds vs) : Yl c w0 (enumD 0 ds) (IteT c.K a) := fun F w H σ s sr ex => by
  have h1 : SqT c.K H a vs := sr.bh.t (ex.1.t hs)
  have h2 : Reps c w.B w.m ds vs := Reps.mono ex.1 ex.2 _ _ hr
  refine ⟨⟨vs, h1, by rw [hr.length, enumD_len]⟩, fun i d e => ?_⟩
  obtain ⟨d', e1, rfl⟩ := enumD_get _ _ _ _ e
  obtain ⟨v, g1, g2⟩ := h2.get e1
  refine ⟨⟨vs, v, h1, g1⟩, fun x H' y => ?_⟩
  obtain ⟨T, x', rfl, y1, rfl, y2⟩ := y
  exact sr.newTup y1 ⟨_, _, rfl, by rw [Nat.zero_add]; rfl, ⟨_, _, rfl, h2.getV e1 (y2 vs h1), rfl⟩⟩
theorem zipD_get : ∀ (ds es : List D) (i : Nat) (d : D), (zipD ds es)[i]? = some d → ∃ e f, ds[i]? = some e ∧ es[i]? = some f ∧ d = .tup [e, f]
  | [], es, i, d, h => by simp [zipD] at h
  | e :: ds, [], i, d, h => by simp [zipD] at h
  | e :: ds, f :: es, 0, d, h => by
    unfold zipD at h
    cases h
    exact ⟨e, f, rfl, rfl, rfl⟩
  | e :: ds, f :: es, i + 1, d, h => by
    unfold zipD at h
    exact zipD_get ds es i d h
theorem zipD_len : ∀ (ds es : List D), ds.length ≤ (zipD ds es).length ∨ es.length ≤ (zipD ds es).length
  | [], es => .inl (Nat.zero_le _)
  | e :: ds, [] => .inr (Nat.zero_le _)
  | e :: ds, f :: es => by
    unfold zipD
    rw [List.length_cons, List.length_cons, List.length_cons]
    rcases zipD_len ds es with h | h
    · exact .inl (Nat.succ_le_succ h)
    · exact .inr (Nat.succ_le_succ h)
theorem SqK.of {K : PySem.W.Frag} {k : Bool} {H : Hp} {a : Addr} {xs : List V} (h : H a = some (if k then .tup xs else .lst xs)) : SqK K k H a xs := by
  cases k
  · exact SqL.of h
  · exact SqT.of h
theorem zipD_len2 : ∀ (ds es : List D), (zipD ds es).length ≤ ds.length ∧ (zipD ds es).length ≤ es.length ∧ (ds.length = (zipD ds es).length ∨ es.length = (zipD ds es).length)
  | [], es => by simp [zipD]
  | d :: ds, [] => by simp [zipD]
  | d :: ds, e :: es => by
    have := zipD_len2 ds es
    unfold zipD
    simp only [List.length_cons]
    omega
theorem yl_zipM {w0 : Wd} {k q : Bool} {ds es : List D} {vs us : List V} {a b : Addr} (hs : w0.B a = some (if k then .tup vs else .lst vs)) (ks : w0.B b = some (if q then .tup us else .lst us)) (hr : Reps c w0.B w0.m ds vs) (kr : Reps c w0.B w0.m es us) : Yl c w0 (zipD ds es) (ItzM c.K k q a b) := fun F w H σ s sr ex => by
  have h1 : SqK c.K k H a vs := SqK.of (sr.bh _ _ (ex.1 _ _ hs))
  have k1 : SqK c.K q H b us := SqK.of (sr.bh _ _ (ex.1 _ _ ks))
  have h2 : Reps c w.B w.m ds vs := Reps.mono ex.1 ex.2 _ _ hr
  have k2 : Reps c w.B w.m es us := Reps.mono ex.1 ex.2 _ _ kr
  obtain ⟨n1, n2, n3⟩ := zipD_len2 ds es
  refine ⟨⟨vs, us, h1, k1, by rw [hr.length]; exact n1, by rw [kr.length]; exact n2, by rw [hr.length, kr.length]; exact n3⟩, fun i d e => ?_⟩
  obtain ⟨d1, d2, e1, e2, rfl⟩ := zipD_get _ _ _ _ e
  obtain ⟨v, g1, g2⟩ := h2.get e1
  obtain ⟨u, j1, j2⟩ := k2.get e2
  refine ⟨⟨vs, us, v, u, h1, k1, g1, j1⟩, fun x H' y => ?_⟩
  obtain ⟨T, x1, x2, rfl, y1, rfl, y2, y3⟩ := y
  exact sr.newTup y1 ⟨_, _, rfl, h2.getV e1 (y2 vs h1), ⟨_, _, rfl, k2.getV e2 (y3 us k1), rfl⟩⟩
theorem rev_get {α : Type} {xs : List α} {i : Nat} {d : α} (e : xs.reverse[i]? = some d) : i < xs.length ∧ xs[xs.length - 1 - i]? = some d := by
  have hi : i < xs.length := by
    have := (List.getElem?_eq_some_iff.mp e).1
    simpa using this
  exact ⟨hi, by rw [← List.getElem?_reverse hi]; exact e⟩
theorem yl_revL {w0 : Wd} {ds : List D} {vs : List V} {a : Addr} (hs : SqL c.K w0.B a vs) (hr : Reps c w0.B w0.m ds vs) : Yl c w0 ds.reverse (Itv c.K a vs.length) := fun F w H σ s sr ex => by
  have h1 : SqL c.K H a vs := sr.bh.l (ex.1.l hs)
  have h2 : Reps c w.B w.m ds vs := Reps.mono ex.1 ex.2 _ _ hr
  refine ⟨by show vs.length ≤ ds.reverse.length; rw [hr.length, List.length_reverse]; exact Nat.le_refl _, fun i d e => ?_⟩
  obtain ⟨hi, e⟩ := rev_get e
  rw [← hr.length] at hi e
  obtain ⟨v, g1, g2⟩ := h2.get e
  refine ⟨⟨hi, vs, v, h1, g1⟩, fun x H' y => ?_⟩
  obtain ⟨rfl, y2⟩ := y
  exact ⟨w, sr, Ext.refl _, h2.getV e (y2 vs h1)⟩
theorem yl_revT {w0 : Wd} {ds : List D} {vs : List V} {a : Addr} (hs : SqT c.K w0.B a vs) (hr : Reps c w0.B w0.m ds vs) : Yl c w0 ds.reverse (RT.ItvT c.K a vs.length) := fun F w H σ s sr ex => by
  have h1 : SqT c.K H a vs := sr.bh.t (ex.1.t hs)
  have h2 : Reps c w.B w.m ds vs := Reps.mono ex.1 ex.2 _ _ hr
  refine ⟨by show vs.length ≤ ds.reverse.length; rw [hr.length, List.length_reverse]; exact Nat.le_refl _, fun i d e => ?_⟩
  obtain ⟨hi, e⟩ := rev_get e
  rw [← hr.length] at hi e
  obtain ⟨v, g1, g2⟩ := h2.get e
  refine ⟨⟨hi, vs, v, h1, g1⟩, fun x H' y => ?_⟩
  obtain ⟨rfl, y2⟩ := y
  exact ⟨w, sr, Ext.refl _, h2.getV e (y2 vs h1)⟩
/-! ### the walks of the text -/
/-- one source: its value, and what is walked -/
theorem it_one {k : IK} {e : E} {σ : L2.St} {H : Hp} {Rw : It → Hp → Prop} (h : tIt Z c W k (.cons e .nil) σ H Rw) : tEv Z c W e σ H fun x H1 => ∃ F w d s, SR c F w H1 σ s ∧ Rep c w.B w.m d x ∧ Post c F σ W w (relJ c) Rw (match itemsD k [d] with
    | some xs => .ok xs s
    | none => .no) := by
  obtain ⟨F, w, s, sr, h⟩ := h
  rw [evA_cons, R.bind_assoc] at h
  refine ⟨F, w, s, sr, h.bind fun v s1 w1 H1 x sr1 ex1 rv1 h1 => ?_⟩
  cases e1 : v.fz s1 with
  | no =>
    rw [e1] at h1
    exact h1.elim
  | er k fs s' => exact (fz_noEr e1).elim
  | ok d s1' =>
    rw [e1] at h1
    obtain ⟨w1', sr1', ex1', r1⟩ := rv1.fz sr1 e1
    exact ⟨F, w1', d, s1', sr1', r1, h1.ext ex1'⟩
theorem Post.mono {α β : Type} {F : Hp} {w : Wd} {σ : L2.St} {rel : Wd → Hp → α → β → Prop} {Q Q' : β → Hp → Prop} {r : R α} (h : Post c F σ W w rel Q r) (k : ∀ x H, Q x H → Q' x H) : Post c F σ W w rel Q' r := by
  cases r with
  | ok a s' => exact fun w1 H1 y sr ex rl => k _ _ (h w1 H1 y sr ex rl)
  | er k fs s' => exact h
  | no => exact h
theorem tEv_mono {e : E} {σ : L2.St} {H : Hp} {Q Q' : VK} (h : tEv Z c W e σ H Q) (k : ∀ x H, Q x H → Q' x H) : tEv Z c W e σ H Q' := by
  obtain ⟨F, w, s, sr, h⟩ := h
  exact ⟨F, w, s, sr, h.mono k⟩
theorem s_it_ex (hK : X.K = c.K) {tg : Expr} {e : E} {x : Expr} (h : PE X x (tEv Z c W e)) : PI X tg x (tIt Z c W .ex (.cons e .nil)) := by
  refine (pi_any h).imp fun σ H Rw q => tEv_mono (it_one q) ?_
  rintro x H1 ⟨F, w, d, s, sr, r, q⟩
  rw [hK]
  cases d <;> first | exact q.elim | skip
  · cases (show x = _ from r)
    exact .inr (.inr ⟨_, rfl, q w H1 _ sr (Ext.refl _) yl_str⟩)
  · obtain ⟨a, vs, rfl, ha, hr⟩ := r
    exact .inl ⟨a, rfl, ⟨vs, SqL.of (sr.bh _ _ ha)⟩, q w H1 _ sr (Ext.refl _) (yl_list (SqL.of ha) hr)⟩
  · obtain ⟨a, vs, rfl, ha, hr⟩ := r
    exact .inr (.inl ⟨a, rfl, ⟨vs, SqT.of (sr.bh _ _ ha)⟩, q w H1 _ sr (Ext.refl _) (yl_tup (SqT.of ha) hr)⟩)
  · obtain ⟨a, vs, rfl, ha, hr⟩ := r
    exact .inl ⟨a, rfl, ⟨vs, sr.bh.l ha⟩, q w H1 _ sr (Ext.refl _) (yl_list ha hr)⟩
  · obtain ⟨a, vs, rfl, ha, hr⟩ := r
    exact .inr (.inl ⟨a, rfl, ⟨vs, sr.bh.t ha⟩, q w H1 _ sr (Ext.refl _) (yl_tup ha hr)⟩)
/-- argument lists as sources -/
theorem tEa_mono {a : A} {σ : L2.St} {H : Hp} {Q Q' : List V → Hp → Prop} (h : tEa Z c W a σ H Q) (k : ∀ x H, Q x H → Q' x H) : tEa Z c W a σ H Q' := by
  obtain ⟨F, w, s, sr, h⟩ := h
  exact ⟨F, w, s, sr, h.mono k⟩
theorem it_args {k : IK} {a : A} {σ : L2.St} {H : Hp} {Rw : It → Hp → Prop} (h : tIt Z c W k a σ H Rw) : tEa Z c W a σ H fun xs H1 => ∃ F w ds s, SR c F w H1 σ s ∧ Reps c w.B w.m ds xs ∧ Post c F σ W w (relJ c) Rw (match itemsD k ds with
    | some xs => .ok xs s
    | none => .no) := by
  obtain ⟨F, w, s, sr, h⟩ := h
  exact ⟨F, w, s, sr, h.bind fun ds s1 w1 H1 xs sr1 ex1 rs h1 => ⟨F, w1, ds, s1, sr1, rs, h1⟩⟩
theorem star1 {e : Expr} {env : PySem.Env} (h : plainX e = true) : starEach [e] env = [(false, eval e env)] := star_cons h
theorem star2 {e f : Expr} {env : PySem.Env} (h : plainX e = true) (k : plainX f = true) : starEach [e, f] env = [(false, eval e env), (false, eval f env)] := by
  rw [star_cons h, star_cons k]
  rfl
theorem reps1 {B : Hp} {m : List Addr} {d : D} {xs : List V} (h : Reps c B m [d] xs) : ∃ x, xs = [x] ∧ Rep c B m d x := by
  obtain ⟨x, us, rfl, h1, h2⟩ := h
  cases (show us = [] from h2)
  exact ⟨x, rfl, h1⟩
theorem reps2 {B : Hp} {m : List Addr} {d e : D} {xs : List V} (h : Reps c B m [d, e] xs) : ∃ x y, xs = [x, y] ∧ Rep c B m d x ∧ Rep c B m e y := by
  obtain ⟨x, us, rfl, h1, h2⟩ := h
  obtain ⟨y, rfl, h3⟩ := reps1 h2
  exact ⟨x, y, rfl, h1, h3⟩
theorem it_r1 {d : List D} {xs : List D} (h : itemsD .r1 d = some xs) : ∃ j : Int, d = [.int j] ∧ inR j = true ∧ xs = rngD 0 j.toNat := by
  unfold itemsD at h
  split at h <;> first | (rename_i q _; cases q; done) | (rename_i q; cases q; done) | skip
  all_goals first | (rename_i j q; split at h <;> first | (cases h; exact ⟨_, rfl, by assumption, rfl⟩) | cases h) | cases h
theorem s_it_r1 {tg : Expr} {a : A} {e : Expr} {p pos : Pos} (hg : Gl X "range") (hm : X.mg "range" = none) (hp : plainX e = true) (h : PA X [e] (tEa Z c W a)) : PI X tg (.Call (.Name "range" p) [e] [] pos) (tIt Z c W .r1 a) := by
  refine (pi_range1 hg hm h (star1 hp)).imp fun σ H Rw q => tEa_mono (it_args q) ?_
  rintro xs H1 ⟨F, w, ds, s, sr, r, q⟩
  cases e1 : itemsD .r1 ds with
  | none =>
    rw [e1] at q
    exact q.elim
  | some ys =>
    rw [e1] at q
    obtain ⟨j, rfl, hj, rfl⟩ := it_r1 e1
    obtain ⟨x, rfl, rx⟩ := reps1 r
    cases (show x = _ from rx)
    have hj := of_decide_eq_true hj
    exact ⟨j, rfl, hj.1, hj.2, q w H1 _ sr (Ext.refl _) yl_rng⟩
theorem it_r2 {d : List D} {xs : List D} (h : itemsD .r2 d = some xs) : ∃ i j : Int, d = [.int i, .int j] ∧ inR i = true ∧ inR j = true ∧ xs = rngD i (j - i).toNat := by
  unfold itemsD at h
  split at h <;> first | (rename_i q _; cases q; done) | (rename_i q; cases q; done) | skip
  all_goals first | (rename_i i j q; split at h <;> first | (cases h; rename_i z; rw [Bool.and_eq_true] at z; exact ⟨_, _, rfl, z.1, z.2, rfl⟩) | cases h) | cases h
theorem s_it_r2 {tg : Expr} {a : A} {e f : Expr} {p pos : Pos} (hg : Gl X "range") (hm : X.mg "range" = none) (hp : plainX e = true) (hp2 : plainX f = true) (h : PA X [e, f] (tEa Z c W a)) : PI X tg (.Call (.Name "range" p) [e, f] [] pos) (tIt Z c W .r2 a) := by
  refine (pi_range2 hg hm h (star2 hp hp2) (star1 hp2)).imp fun σ H Rw q => tEa_mono (it_args q) ?_
  rintro xs H1 ⟨F, w, ds, s, sr, r, q⟩
  cases e1 : itemsD .r2 ds with
  | none =>
    rw [e1] at q
    exact q.elim
  | some ys =>
    rw [e1] at q
    obtain ⟨i, j, rfl, hi, hj, rfl⟩ := it_r2 e1
    obtain ⟨x, y, rfl, rx, ry⟩ := reps2 r
    cases (show x = _ from rx)
    cases (show y = _ from ry)
    have hi := of_decide_eq_true hi
    have hj := of_decide_eq_true hj
    exact ⟨i, j, rfl, ⟨hi.1, hi.2, hj.1, hj.2⟩, q w H1 _ sr (Ext.refl _) yl_rng⟩
theorem it_enum {d : List D} {xs : List D} (h : itemsD .enum d = some xs) : ∃ ds, (d = [.lst ds] ∨ d = [.tup ds]) ∧ xs = enumD 0 ds := by
  unfold itemsD at h
  split at h <;> first | (rename_i q _; cases q; done) | (rename_i q; cases q; done) | skip
  all_goals first | (cases h; exact ⟨_, .inl rfl, rfl⟩) | (cases h; exact ⟨_, .inr rfl, rfl⟩) | cases h
theorem s_it_enum (hK : X.K = c.K) {elts : List Expr} {kk : Nat} {tpos : Pos} {a : A} {e : Expr} {p pos : Pos} (hg : Gl X "enumerate") (hm : X.mg "enumerate" = none) (hp : plainX e = true) (h : PA X [e] (tEa Z c W a)) :
    PI X (.Tuple elts kk tpos) (.Call (.Name "enumerate" p) [e] [] pos) (tIt Z c W .enum a) := by
  refine (pi_enumA hg hm h (star1 hp)).imp fun σ H Rw q => tEa_mono (it_args q) ?_
  rintro xs H1 ⟨F, w, ds, s, sr, r, q⟩
  rw [hK]
  cases e1 : itemsD .enum ds with
  | none =>
    rw [e1] at q
    exact q.elim
  | some ys =>
    rw [e1] at q
    obtain ⟨ds', rfl | rfl, rfl⟩ := it_enum e1
    · obtain ⟨x, rfl, rx⟩ := reps1 r
      obtain ⟨b, vs, rfl, hb, hr⟩ := rx
      exact ⟨b, vs, rfl, .inl ⟨SqL.of (sr.bh _ _ hb), q w H1 _ sr (Ext.refl _) (yl_enumL (SqL.of hb) hr)⟩⟩
    · obtain ⟨x, rfl, rx⟩ := reps1 r
      obtain ⟨b, vs, rfl, hb, hr⟩ := rx
      exact ⟨b, vs, rfl, .inr ⟨SqT.of (sr.bh _ _ hb), q w H1 _ sr (Ext.refl _) (yl_enumT (SqT.of hb) hr)⟩⟩
theorem it_zip {d : List D} {xs : List D} (h : itemsD .zip d = some xs) : ∃ ds es, (d = [.lst ds, .lst es] ∨ d = [.tup ds, .tup es] ∨ d = [.tup ds, .lst es] ∨ d = [.lst ds, .tup es]) ∧ xs = zipD ds es := by
  unfold itemsD at h
  split at h <;> first | (rename_i q _; cases q; done) | (rename_i q; cases q; done) | skip
  all_goals first | (cases h; exact ⟨_, _, .inl rfl, rfl⟩) | (cases h; exact ⟨_, _, .inr (.inl rfl), rfl⟩) | (cases h; exact ⟨_, _, .inr (.inr (.inl rfl)), rfl⟩) | (cases h; exact ⟨_, _, .inr (.inr (.inr rfl)), rfl⟩) | cases h
theorem s_it_zip (hK : X.K = c.K) {elts : List Expr} {kk : Nat} {tpos : Pos} {a : A} {e f : Expr} {p pos : Pos} (hg : Gl X "zip") (hm : X.mg "zip" = none) (hp : plainX e = true) (hp2 : plainX f = true) (h : PA X [e, f] (tEa Z c W a)) :
    PI X (.Tuple elts kk tpos) (.Call (.Name "zip" p) [e, f] [] pos) (tIt Z c W .zip a) := by
  refine (mz_src hg hm h (star_cons hp) (by rw [star1 hp2]; rfl)).imp fun σ H Rw q => tEa_mono (it_args q) ?_
  rintro xs H1 ⟨F, w, ds, s, sr, r, q⟩
  rw [hK]
  cases e1 : itemsD .zip ds with
  | none =>
    rw [e1] at q
    exact q.elim
  | some ys =>
    rw [e1] at q
    obtain ⟨d1, d2, rfl | rfl | rfl | rfl, rfl⟩ := it_zip e1
    · obtain ⟨x, y, rfl, rx, ry⟩ := reps2 r
      obtain ⟨b, vs, rfl, hb, hr⟩ := rx
      obtain ⟨b', us, rfl, hb', hr'⟩ := ry
      exact ⟨false, false, b, b', vs, us, rfl, SqK.of (sr.bh _ _ hb), SqK.of (sr.bh _ _ hb'), q w H1 _ sr (Ext.refl _) (yl_zipM hb hb' hr hr')⟩
    · obtain ⟨x, y, rfl, rx, ry⟩ := reps2 r
      obtain ⟨b, vs, rfl, hb, hr⟩ := rx
      obtain ⟨b', us, rfl, hb', hr'⟩ := ry
      exact ⟨true, true, b, b', vs, us, rfl, SqK.of (sr.bh _ _ hb), SqK.of (sr.bh _ _ hb'), q w H1 _ sr (Ext.refl _) (yl_zipM hb hb' hr hr')⟩
    · obtain ⟨x, y, rfl, rx, ry⟩ := reps2 r
      obtain ⟨b, vs, rfl, hb, hr⟩ := rx
      obtain ⟨b', us, rfl, hb', hr'⟩ := ry
      exact ⟨true, false, b, b', vs, us, rfl, SqK.of (sr.bh _ _ hb), SqK.of (sr.bh _ _ hb'), q w H1 _ sr (Ext.refl _) (yl_zipM hb hb' hr hr')⟩
    · obtain ⟨x, y, rfl, rx, ry⟩ := reps2 r
      obtain ⟨b, vs, rfl, hb, hr⟩ := rx
      obtain ⟨b', us, rfl, hb', hr'⟩ := ry
      exact ⟨false, true, b, b', vs, us, rfl, SqK.of (sr.bh _ _ hb), SqK.of (sr.bh _ _ hb'), q w H1 _ sr (Ext.refl _) (yl_zipM hb hb' hr hr')⟩
theorem it_rev {d : List D} {xs : List D} (h : itemsD .rev d = some xs) : ∃ ds, (d = [.lst ds] ∨ d = [.tup ds]) ∧ xs = ds.reverse := by
  unfold itemsD at h
  split at h <;> first | (rename_i q _; cases q; done) | (rename_i q; cases q; done) | skip
  all_goals first | (cases h; exact ⟨_, .inl rfl, rfl⟩) | (cases h; exact ⟨_, .inr rfl, rfl⟩) | cases h
theorem s_it_rev (hK : X.K = c.K) {tg : Expr} {e : E} {x : Expr} {p pos : Pos} (hg : Gl X "reversed") (hm : X.mg "reversed" = none) (hp : plainX x = true) (h : PE X x (tEv Z c W e)) : PI X tg (.Call (.Name "reversed" p) [x] [] pos) (tIt Z c W .rev (.cons e .nil)) := by
  refine (RT.pi_revA hg hm h (star_cons hp)).imp fun σ H Rw q => tEv_mono (it_one q) ?_
  rintro x H1 ⟨F, w, d, s, sr, r, q⟩
  rw [hK]
  cases e1 : itemsD .rev [d] with
  | none =>
    rw [e1] at q
    exact q.elim
  | some ys =>
    rw [e1] at q
    obtain ⟨ds, h1 | h1, rfl⟩ := it_rev e1
    · cases h1
      obtain ⟨b, vs, rfl, hb, hr⟩ := r
      exact ⟨b, vs, rfl, .inl ⟨SqL.of (sr.bh _ _ hb), q w H1 _ sr (Ext.refl _) (yl_revL (SqL.of hb) hr)⟩⟩
    · cases h1
      obtain ⟨b, vs, rfl, hb, hr⟩ := r
      exact ⟨b, vs, rfl, .inr ⟨SqT.of (sr.bh _ _ hb), q w H1 _ sr (Ext.refl _) (yl_revT (SqT.of hb) hr)⟩⟩
end
end PB

set_option Elab.async false
set_option linter.all false
set_option autoImplicit false
set_option maxRecDepth 100000
/-! THE BRIDGE, 12: targets, comprehensions, isinstance, displays of dicts. -/
namespace PB
open PySem PySem.Spec PyProof.Rows L2
section
variable {X : Cx} {Z : Env} {c : Ct} {W : WX}
/-! ### targets -/
theorem wipe_set {σ : L2.St} {i : Nat} {v : Option V} : ∀ {vs : List Nat}, i ∈ vs → wipe (σ.set i v) vs = wipe σ vs
  | [], h => by cases h
  | j :: vs, h => by
    show (wipe (σ.set i v) vs).set j none = (wipe σ vs).set j none
    by_cases z : i ∈ vs
    · rw [wipe_set z]
    · have e : i = j := by
        rcases List.mem_cons.mp h with e | e
        · exact e
        · exact absurd e z
      subst e
      have : ∀ vs : List Nat, i ∉ vs → wipe (σ.set i v) vs = (wipe σ vs).set i v := by
        intro vs
        induction vs with
        | nil => intro _; rfl
        | cons k vs ih =>
          intro hn
          show (wipe (σ.set i v) vs).set k none = ((wipe σ vs).set k none).set i v
          rw [ih (fun q => hn (List.mem_cons_of_mem _ q)), List.set_comm]
          intro q
          exact hn (by rw [q]; exact List.mem_cons_self)
      rw [this vs z, List.set_set]
def tTg (c : Ct) (tg : Tg) : TG := fun v σ H Q => ∃ F w s d, SR c F w H σ s ∧ Rep c w.B w.m d v ∧ ∃ s', asgT tg d s = .ok () s' ∧ ∀ σ', SR c F w H σ' s' → (∀ vs, (∀ i ∈ tg.slots, i ∈ vs) → wipe σ' vs = wipe σ vs) → Q σ' H
def tTgs (c : Ct) (tg : Tg) : TGs := fun xs σ H Q => ∃ F w s ds, SR c F w H σ s ∧ Reps c w.B w.m ds xs ∧ ∃ s', asgT tg (.tup ds) s = .ok () s' ∧ ∀ σ', SR c F w H σ' s' → (∀ vs, (∀ i ∈ tg.slots, i ∈ vs) → wipe σ' vs = wipe σ vs) → Q σ' H
theorem _root_.L2.PG.imp {X : Cx} {e : Expr} {t t' : TG} (h : PG X e t) (k : ∀ v σ H Q, t' v σ H Q → t v σ H Q) : PG X e t' := ⟨fun pins s σ H v u Q I r q => h.run pins s σ H v u Q I r (k v σ H Q q)⟩
theorem _root_.L2.PGs.imp {X : Cx} {e : List Expr} {t t' : TGs} (h : PGs X e t) (k : ∀ v σ H Q, t' v σ H Q → t v σ H Q) : PGs X e t' := ⟨fun pins s σ H v u Q I r q => h.run pins s σ H v u Q I r (k v σ H Q q)⟩
theorem g_nm {i : Nat} {x : Str} {pos : Pos} (hN : X.N.Nodup) (hi : X.N[i]? = some x) (hx : Loc X.env.scope x) (hf : X.fn x = true ∨ X.env.scope.names.lookup x = some .local) : PG X (.Name x pos) (tTg c (.nm i)) := by
  refine (pg_name hN hi hx hf).imp fun v σ H Q h => ?_
  obtain ⟨F, w, s, d, sr, r, s', e, k⟩ := h
  have e : (if i < s.ρ.length then R.ok () { s with ρ := s.ρ.set i (.im d) } else .no) = .ok () s' := e
  split at e
  · cases e
    exact k _ (sr.put r) fun vs h => wipe_set (h i (List.mem_singleton.mpr rfl))
  · cases e
theorem gs_nil : PGs X [] (tTgs c .tn) := by
  refine pgs_nil.imp fun xs σ H Q h => ?_
  obtain ⟨F, w, s, ds, sr, r, s', e, k⟩ := h
  cases ds with
  | nil =>
    cases (show xs = [] from r)
    cases e
    exact ⟨rfl, k σ sr fun _ _ => rfl⟩
  | cons d ds => cases e
def noStar : Expr → Bool
  | .Starred .. => false
  | _ => true
theorem asgEach {e : Expr} {es : List Expr} {env : PySem.Env} (h : plainX e = true) : assignEach (e :: es) env = (false, assign e env) :: assignEach es env := by
  cases e <;> first | rfl | cases h
theorem gs_cons {h t : Tg} {e : Expr} {es : List Expr} (hp : plainX e = true) (h1 : PG X e (tTg c h)) (h2 : PGs X es (tTgs c t)) : PGs X (e :: es) (tTgs c (.tc h t)) := by
  refine (pgs_cons h1 h2 (by rw [asgEach hp]; rfl)).imp fun xs σ H Q q => ?_
  obtain ⟨F, w, s, ds, sr, r, s', e, k⟩ := q
  cases ds with
  | nil => cases e
  | cons d ds =>
    obtain ⟨x, us, rfl, r1, r2⟩ := r
    have e : ((asgT h d s).bind fun _ s => asgT t (.tup ds) s) = .ok () s' := e
    cases q1 : asgT h d s with
    | no =>
      rw [q1] at e
      cases e
    | er _ _ _ =>
      rw [q1] at e
      cases e
    | ok a s1 =>
      rw [q1] at e
      refine ⟨x, us, rfl, F, w, s, d, sr, r1, s1, q1, fun σ1 sr1 k1 => ⟨F, w, s1, ds, sr1, r2, s', e, fun σ2 sr2 k2 => k σ2 sr2 fun vs hv => ?_⟩⟩
      rw [k2 vs fun i hi => hv i (List.mem_append.mpr (.inr hi)), k1 vs fun i hi => hv i (List.mem_append.mpr (.inl hi))]
theorem asg_len : ∀ {es : List Expr} {env : PySem.Env}, es.all plainX = true → (assignEach es env).length = es.length ∧ (assignEach es env).findIdx? (·.1) = none
  | [], _, _ => ⟨rfl, rfl⟩
  | e :: es, env, h => by
    rw [List.all_cons, Bool.and_eq_true] at h
    obtain ⟨h1, h2⟩ := asg_len (env := env) h.2
    rw [asgEach h.1]
    refine ⟨by rw [List.length_cons, List.length_cons, h1], ?_⟩
    rw [List.findIdx?_cons]
    simp [h2]
/-- how many targets a tuple of targets has -/
def Tg.n : Tg → Nat
  | .tc _ t => t.n + 1
  | _ => 0
def Tg.ok : Tg → Bool
  | .nm _ => false
  | .tn => true
  | .tc _ t => t.ok
theorem asgT_n : ∀ {t : Tg} {ds : List D} {s s' : S}, t.ok = true → asgT t (.tup ds) s = .ok () s' → ds.length = t.n
  | .nm i, _, _, _, h, _ => by cases h
  | .tn, [], _, _, _, _ => rfl
  | .tn, _ :: _, _, _, _, e => by cases e
  | .tc _ _, [], _, _, _, e => by cases e
  | .tc h t, d :: ds, s, s', k, e => by
    have e : ((asgT h d s).bind fun _ s => asgT t (.tup ds) s) = .ok () s' := e
    cases q1 : asgT h d s with
    | no =>
      rw [q1] at e
      cases e
    | er _ _ _ =>
      rw [q1] at e
      cases e
    | ok a s1 =>
      rw [q1] at e
      rw [List.length_cons, asgT_n (t := t) (by cases h <;> exact k) e]
      rfl
theorem asgT_stp : ∀ {t : Tg} {ds : List D} {s : S}, t.ok = true → asgT t (.stp ds) s = asgT t (.tup ds) s
  | .nm i, _, _, h => by cases h
  | .tn, [], _, _ => rfl
  | .tn, _ :: _, _, _ => rfl
  | .tc _ _, [], _, _ => rfl
  | .tc h t, d :: ds, s, k => by
    show ((asgT h d s).bind fun _ s => asgT t (.stp ds) s) = ((asgT h d s).bind fun _ s => asgT t (.tup ds) s)
    congr 1
    funext a s
    exact asgT_stp (t := t) (by cases h <;> exact k)
theorem asgT_lst : ∀ {t : Tg} {ds : List D} {s : S}, t.ok = true → asgT t (.lst ds) s = asgT t (.tup ds) s
  | .nm i, _, _, h => by cases h
  | .tn, [], _, _ => rfl
  | .tn, _ :: _, _, _ => rfl
  | .tc _ _, [], _, _ => rfl
  | .tc h t, d :: ds, s, k => by
    show ((asgT h d s).bind fun _ s => asgT t (.lst ds) s) = ((asgT h d s).bind fun _ s => asgT t (.tup ds) s)
    congr 1
    funext a s
    exact asgT_lst (t := t) (by cases h <;> exact k)
/-- a tuple of targets takes a tuple or a list -/
theorem pg_either {es : List Expr} {k : Nat} {pos : Pos} {t : TGs} {n : Nat} (hc : X.calm = true) (h : PGs X es t) (hn : (assignEach es X.env).length = n) (hst : (assignEach es X.env).findIdx? (·.1) = none) :
    PG X (.Tuple es k pos) (fun v σ H Q => gTup X.K n t v σ H Q ∨ gUnl X.K n t v σ H Q) :=
  ⟨fun pins s σ H v u Q I r q => q.elim (fun q => (pg_tup hc h hn hst).run pins s σ H v u Q I r q) fun q => (pg_unl hc h hn hst).run pins s σ H v u Q I r q⟩
theorem g_tup (hK : X.K = c.K) {t : Tg} {es : List Expr} {k : Nat} {pos : Pos} (hc : X.calm = true) (ht : t.ok = true) (hn : es.length = t.n) (hp : es.all plainX = true) (h : PGs X es (tTgs c t)) : PG X (.Tuple es k pos) (tTg c t) := by
  obtain ⟨l1, l2⟩ := asg_len (env := X.env) hp
  refine (pg_either (n := es.length) hc h l1 l2).imp fun v σ H Q q => ?_
  obtain ⟨F, w, s, d, sr, r, s', e, k⟩ := q
  rw [hK]
  have main : ∀ ds, asgT t (.tup ds) s = .ok () s' → (∃ a vs, v = .ref a ∧ SqT c.K w.B a vs ∧ Reps c w.B w.m ds vs) → gTup c.K es.length (tTgs c t) v σ H Q := by
    rintro ds e ⟨a, vs, rfl, ha, hr⟩
    exact ⟨a, vs, rfl, sr.bh.t ha, by rw [hr.length, asgT_n ht e, hn], F, w, s, ds, sr, hr, s', e, k⟩
  cases d with
  | tup ds =>
    obtain ⟨a, vs, rfl, ha, hr⟩ := r
    exact .inl (main ds e ⟨a, vs, rfl, SqT.of ha, hr⟩)
  | stp ds =>
    obtain ⟨a, vs, rfl, ha, hr⟩ := r
    exact .inl (main ds (by rw [← asgT_stp ht]; exact e) ⟨a, vs, rfl, ha, hr⟩)
  | lst ds =>
    obtain ⟨a, vs, rfl, ha, hr⟩ := r
    have e : asgT t (.tup ds) s = .ok () s' := by rw [← asgT_lst ht]; exact e
    exact .inr ⟨a, vs, rfl, SqL.of (sr.bh _ _ ha), by rw [hr.length, asgT_n ht e, hn], F, w, s, ds, sr, hr, s', e, k⟩
  | _ =>
    exfalso
    cases t with
    | nm i => cases ht
    | tn => cases e
    | tc h t => cases e
/-! ### comprehensions -/
theorem R.noE_bind {α β : Type} (r : R α) (f : α → S → R β) : (r.bind f).noE = r.noE.bind fun a s => (f a s).noE := by cases r <;> rfl
theorem Post.inner {α β γ δ : Type} {F F' : Hp} {w : Wd} {σ σ' : L2.St} {W' : WX} {rel : Wd → Hp → α → β → Prop} {rel1 : Wd → Hp → γ → δ → Prop} {Q : β → Hp → Prop} {Q1 : δ → Hp → Prop} {r : R γ} {f : γ → S → R α}
    (h : Post c F σ W w rel Q (r.noE.bind f)) (k : ∀ a s1 w1 H1 x, SR c F' w1 H1 σ' s1 → Ext w w1 → rel1 w1 H1 a x → Post c F σ W w1 rel Q (f a s1) → Q1 x H1) : Post c F' σ' W' w rel1 Q1 r := by
  cases r with
  | ok a s' => exact fun w1 H1 y sr ex rl => k a s' w1 H1 y sr ex rl (Post.ext (r := f a s') ex h)
  | er k fs s' => exact h.elim
  | no => exact h
theorem wipe_get {σ : L2.St} {i : Nat} : ∀ {vs : List Nat}, i ∉ vs → (wipe σ vs)[i]? = σ[i]?
  | [], _ => rfl
  | v :: vs, h => by
    show ((wipe σ vs).set v none)[i]? = σ[i]?
    rw [List.getElem?_set_ne (fun e => h (by rw [e]; exact List.mem_cons_self)), wipe_get fun q => h (List.mem_cons_of_mem _ q)]
theorem wipeS_st {s : S} : ∀ {vs : List Nat}, (wipeS s vs).st = s.st
  | [] => rfl
  | v :: vs => wipeS_st (vs := vs)
theorem wipeS_len {s : S} : ∀ {vs : List Nat}, (wipeS s vs).ρ.length = s.ρ.length
  | [] => rfl
  | v :: vs => by
    show ((wipeS s vs).ρ.set v .no).length = _
    rw [List.length_set, wipeS_len]
theorem wipeS_in {s : S} {i : Nat} : ∀ {vs : List Nat}, i ∈ vs → (wipeS s vs).ρ[i]? = none ∨ (wipeS s vs).ρ[i]? = some .no
  | [], h => by cases h
  | v :: vs, h => by
    show ((wipeS s vs).ρ.set v .no)[i]? = none ∨ ((wipeS s vs).ρ.set v .no)[i]? = some .no
    by_cases e : v = i
    · subst e
      by_cases l : v < (wipeS s vs).ρ.length
      · exact .inr (List.getElem?_set_self l)
      · exact .inl (List.getElem?_eq_none (by simpa using l))
    · rw [List.getElem?_set_ne e]
      exact wipeS_in (by rcases List.mem_cons.mp h with q | q; · exact absurd q.symm e
                         · exact q)
theorem SR.wipe {F : Hp} {w : Wd} {H : Hp} {σ : L2.St} {s : S} (x : SR c F w H σ s) : ∀ vs : List Nat, SR c F w H (L2.wipe σ vs) (wipeS s vs)
  | [] => x
  | v :: vs => (SR.wipe x vs).drop (i := v) (v := none)
theorem SR.unwipe {F : Hp} {w : Wd} {H : Hp} {σ : L2.St} {s : S} {vs : List Nat} (x : SR c F w H (L2.wipe σ vs) (wipeS s vs)) : SR c F w H σ (wipeS s vs) := by
  have no : ∀ {i : Nat} {d : D}, ((wipeS s vs).ρ[i]? = some (Sl.im d) ∨ (wipeS s vs).ρ[i]? = some (Sl.own d)) → i ∉ vs := fun {i d} h q => by
    rcases wipeS_in (s := s) q with z | z
    · rw [z] at h
      rcases h with h | h <;> cases h
    · rw [z] at h
      rcases h with h | h <;> cases h
  refine ⟨x.bh, x.fh, x.fb, x.tb, fun i d e => ?_, fun i d e => ?_, x.ce, x.ln, by rw [x.sl, wipe_length], x.pn⟩
  · obtain ⟨v, h1, h2⟩ := x.im i d e
    rw [wipe_get (no (.inl e))] at h1
    exact ⟨v, h1, h2⟩
  · obtain ⟨a, o, h1, h2⟩ := x.ow i d e
    rw [wipe_get (no (.inr e))] at h1
    exact ⟨a, o, h1, h2⟩
/-- the list that grows stands apart -/
theorem SR.apart {F : Hp} {w : Wd} {H : Hp} {σ : L2.St} {s : S} (x : SR c F w H σ s) {p : Addr} {o : HO} (hp : H p = none) : SR c (upd F p o) w (upd H p o) σ s := by
  obtain ⟨h1, h2, h3⟩ := x.free hp
  have y := x.grow (sub_new (o := o) hp)
  refine ⟨y.bh, fun a u e => ?_, fun a u e => ?_, y.tb, y.im, y.ow, y.ce, y.ln, y.sl, y.pn⟩
  · by_cases z : a = p
    · subst z
      rw [upd_same] at e ⊢
      exact e
    · rw [upd_ne z] at e ⊢
      exact x.fh _ _ e
  · by_cases z : a = p
    · subst z
      exact ⟨h1, h3⟩
    · rw [upd_ne z] at e
      exact x.fb _ _ e
theorem SR.reset {F : Hp} {w : Wd} {H : Hp} {σ : L2.St} {s : S} {p : Addr} {o u : HO} (x : SR c (upd F p o) w H σ s) : SR c (upd F p u) w (upd H p u) σ s := by
  obtain ⟨b1, b2⟩ := x.fb p o upd_same
  refine ⟨fun a v e => ?_, fun a v e => ?_, fun a v e => ?_, fun a v e => ⟨(x.tb a v e).1, ?_⟩, x.im, fun i d e => ?_, fun i d e => ?_, x.ln, x.sl, x.pn⟩
  · rw [upd_ne (fun z => by rw [z, b1] at e; cases e)]
    exact x.bh _ _ e
  · by_cases z : a = p
    · subst z
      rw [upd_same] at e ⊢
      exact e
    · rw [upd_ne z] at e ⊢
      exact x.fh _ _ (by rw [upd_ne z]; exact e)
  · by_cases z : a = p
    · subst z
      exact ⟨b1, b2⟩
    · rw [upd_ne z] at e
      exact x.fb a v (by rw [upd_ne z]; exact e)
  · rw [upd_ne (fun z => by rw [z, b2] at e; cases e)]
    exact (x.tb a v e).2
  · obtain ⟨a, v, h1, h2, h3, h4⟩ := x.ow i d e
    exact ⟨a, v, h1, h2, by rw [upd_ne (fun z => by rw [z, b2] at h2; cases h2)]; exact h3, h4⟩
  · obtain ⟨a, v, h1, h2, h3, h4⟩ := x.ce i d e
    exact ⟨a, v, h1, h2, by rw [upd_ne (fun z => by rw [z, b2] at h2; cases h2)]; exact h3, h4⟩
theorem SR.unapart {F : Hp} {w : Wd} {H : Hp} {σ : L2.St} {s : S} {p : Addr} {o : HO} (hF : F p = none) (x : SR c (upd F p o) w H σ s) : SR c F w H σ s ∧ H p = some o ∧ w.B p = none ∧ w.τ p = none := by
  have sub : ∀ {a : Addr} {u : HO}, F a = some u → upd F p o a = some u := fun {a u} e => by
    rw [upd_ne (ne_of_none e hF)]
    exact e
  obtain ⟨b1, b2⟩ := x.fb p o upd_same
  exact ⟨⟨x.bh, fun a u e => x.fh _ _ (sub e), fun a u e => x.fb _ _ (sub e), x.tb, x.im, x.ow, x.ce, x.ln, x.sl, x.pn⟩, x.fh _ _ upd_same, b1, b2⟩
def never : WX := fun _ _ _ _ => False
/-- the elements of a comprehension's turn -/
def lcStep (Z : Env) (elt : E) (tg : Tg) (ifs : A) (own : List Nat) : D → S → R (Option D) := fun d s => (asgT tg d (wipeS s own)).bind fun _ s => (evAndT Z ifs s).bind fun b s => if b then (ev Z elt s).bind fun v s => (v.fz s).bind fun e s => .ok (some e) s else .ok none s
theorem lc_step {elt : E} {tg : Tg} {ifs : A} {own : List Nat} (hs : ∀ i ∈ tg.slots, i ∈ own) {F : Hp} {σ : L2.St} {Q : VK} {w : Wd} {s : S} {d : D} {rest : Option D → S → R (List D)} {fin : List D → S → R Vl}
    (h : Post c F σ W w (RV c F σ) Q (((lcStep Z elt tg ifs own d s).bind rest).noE.bind fin)) :
    ∃ s1, asgT tg d (wipeS s own) = .ok () s1 ∧ Post c F σ W w (RV c F σ) Q (((evAndT Z ifs s1).bind fun b s => if b then ((ev Z elt s).bind fun v s => (v.fz s).bind fun e s => rest (some e) s) else rest none s).noE.bind fin) := by
  unfold lcStep at h
  cases q : asgT tg d (wipeS s own) with
  | no =>
    rw [q] at h
    exact h.elim
  | er _ _ _ =>
    rw [q] at h
    exact h.elim
  | ok a s1 =>
    rw [q] at h
    refine ⟨s1, rfl, ?_⟩
    have e : ∀ r : R Bool, ((r.bind fun b s => if b then (ev Z elt s).bind fun v s => (v.fz s).bind fun e s => R.ok (some e) s else .ok none s).bind rest) = r.bind fun b s => if b then ((ev Z elt s).bind fun v s => (v.fz s).bind fun e s => rest (some e) s) else rest none s := by
      intro r
      rw [R.bind_assoc]
      congr 1
      funext b s
      cases b with
      | true =>
        rw [if_pos rfl, if_pos rfl, R.bind_assoc]
        congr 1
        funext v s
        rw [R.bind_assoc]
        rfl
      | false =>
        rw [if_neg Bool.false_ne_true, if_neg Bool.false_ne_true]
        rfl
    have h' : Post c F σ W w (RV c F σ) Q ((((evAndT Z ifs s1).bind fun b s => if b then (ev Z elt s).bind fun v s => (v.fz s).bind fun e s => R.ok (some e) s else .ok none s).bind rest).noE.bind fin) := h
    rw [e] at h'
    exact h'
theorem wipe_wipe {σ : L2.St} : ∀ {us vs : List Nat}, (∀ i ∈ us, i ∈ vs) → wipe (wipe σ us) vs = wipe σ vs
  | [], _, _ => rfl
  | u :: us, vs, h => by
    show wipe ((wipe σ us).set u none) vs = wipe σ vs
    rw [wipe_set (h u List.mem_cons_self), wipe_wipe fun i hi => h i (List.mem_cons_of_mem _ hi)]
theorem lc_read {elt : E} {tg : Tg} {k : IK} {src : A} {ifs : A} {ow : List Nat} (hs : ∀ i ∈ tg.slots, i ∈ ow) {σ : L2.St} {H : Hp} {Q : VK} (h : tEv Z c W (.lc elt tg k src ifs ow) σ H Q) :
    tLc (tIt Z c W k src) (tTg c tg) (tEx c never (evAndT Z ifs)) (tEv Z c never elt) ow σ H Q := by
  obtain ⟨F, w, s, sr, h⟩ := h
  rw [ev_lc] at h
  have h : Post c F σ W w (RV c F σ) Q (((evA Z src s).bind fun ds s => match itemsD k ds with
      | some xs => R.ok xs s
      | none => .no).bind fun xs s => (lcLoop (lcStep Z elt tg ifs ow) xs [] s).noE.bind fun acc s => R.ok (Vl.own (.lst acc)) (wipeS s ow)) := by
    rw [R.bind_assoc]
    have e : ((evA Z src s).bind fun ds s => match itemsD k ds with
      | some xs => (lcLoop (lcStep Z elt tg ifs ow) xs [] s).noE.bind fun acc s => R.ok (Vl.own (.lst acc)) (wipeS s ow)
      | none => .no) = (evA Z src s).bind fun ds s => ((match itemsD k ds with
      | some xs => R.ok xs s
      | none => .no).bind fun xs s => (lcLoop (lcStep Z elt tg ifs ow) xs [] s).noE.bind fun acc s => R.ok (Vl.own (.lst acc)) (wipeS s ow)) := by
      congr 1
      funext ds s
      cases itemsD k ds <;> rfl
    rw [← e]
    exact h
  refine ⟨F, w, s, sr, h.bind fun xs s1 w1 H1 J sr1 ex1 yl h1 => ?_⟩
  intro Da hD
  have hFD : F Da = none := (sr1.free hD).2.1
  have yl : Yl c w1 xs J := yl
  let Inv : Nat → Hp → Prop := fun i H => ∃ w s acc vs, Ext w1 w ∧ SR c (upd F Da (.lst vs)) w H (wipe σ ow) (wipeS s ow) ∧ Reps c w.B w.m acc vs ∧
    Post c F σ W w (RV c F σ) Q ((lcLoop (lcStep Z elt tg ifs ow) (xs.drop i) acc s).noE.bind fun acc s => R.ok (Vl.own (.lst acc)) (wipeS s ow))
  refine ⟨fun i m H => m + i = xs.length ∧ Inv i H, ⟨xs.length, rfl, w1, s1, [], [], Ext.refl _, (sr1.apart hD).wipe ow, rfl, h1⟩, ?_⟩
  rintro i m H2 ⟨hm, w2, s2, acc, vs, ex2, sr2, hr, h2⟩
  have sr2' := sr2.unwipe
  by_cases hi : i < xs.length
  · refine .inr ⟨?_, fun H' => Inv (i + 1) H', fun H' q => ⟨m - 1, by omega, by omega, q⟩, ?_⟩
    · exact ((yl _ _ _ _ _ sr2' ex2).2 i xs[i] (List.getElem?_eq_getElem hi)).1
    · intro x H3 hy
      obtain ⟨w3, sr3, ex3, rd⟩ := ((yl _ _ _ _ _ sr2 ex2).2 i xs[i] (List.getElem?_eq_getElem hi)).2 x H3 hy
      rw [List.drop_eq_getElem_cons hi] at h2
      obtain ⟨s3, ea, h3⟩ := lc_step (own := ow) (rest := fun o s => match o with
        | some e => if acc.length < sizeLine then lcLoop (lcStep Z elt tg ifs ow) (xs.drop (i + 1)) (acc ++ [e]) s else .no
        | none => lcLoop (lcStep Z elt tg ifs ow) (xs.drop (i + 1)) acc s) (hs) h2
      refine ⟨_, w3, _, _, sr3, rd, s3, ea, fun σ4 sr4 k4 => ?_⟩
      have wk : wipe σ4 ow = wipe σ ow := by
        rw [k4 ow (hs), wipe_wipe fun i h => h]
      refine ⟨wk, _, w3, s3, sr4, ?_⟩
      rw [R.noE_bind, R.bind_assoc] at h3
      refine (h3.ext ex3).inner fun b s5 w5 H5 b' sr5 ex5 eb h5 => ?_
      cases (show b = b' from eb)
      have done : ∀ {w6 : Wd} {s6 : S} {H6 : Hp} {acc' : List D} {vs' : List V}, SR c (upd F Da (.lst vs')) w6 H6 σ4 s6 → Ext w5 w6 → Reps c w6.B w6.m acc' vs' →
          Post c F σ W w6 (RV c F σ) Q ((lcLoop (lcStep Z elt tg ifs ow) (xs.drop (i + 1)) acc' s6).noE.bind fun acc s => R.ok (Vl.own (.lst acc)) (wipeS s ow)) → Inv (i + 1) H6 := fun sr6 ex6 r6 h6 =>
        ⟨_, _, _, _, ((ex2.trans ex3).trans ex5).trans ex6, by rw [← wk]; exact sr6.wipe ow, r6, h6⟩
      cases b with
      | false =>
        refine iteF ?_
        exact done sr5 (Ext.refl _) (Reps.mono (ex3.trans ex5).1 (ex3.trans ex5).2 _ _ hr) h5
      | true =>
        refine iteT ?_
        have h5 : Post c F σ W w5 (RV c F σ) Q (((ev Z elt s5).bind fun v s => (v.fz s).bind fun e s => if acc.length < sizeLine then lcLoop (lcStep Z elt tg ifs ow) (xs.drop (i + 1)) (acc ++ [e]) s else R.no).noE.bind fun acc s => R.ok (Vl.own (.lst acc)) (wipeS s ow)) := h5
        rw [R.noE_bind, R.bind_assoc] at h5
        refine ⟨_, w5, s5, sr5, h5.inner fun v s6 w6 H6 y sr6 ex6 rv6 h6 => ?_⟩
        cases e1 : v.fz s6 with
        | no =>
          rw [e1] at h6
          exact h6.elim
        | er k fs s' => exact (fz_noEr e1).elim
        | ok d s7 =>
          rw [e1] at h6
          obtain ⟨w7, sr7, ex7, r7⟩ := rv6.fz sr6 e1
          have h6 : Post c F σ W w6 (RV c F σ) Q ((if acc.length < sizeLine then lcLoop (lcStep Z elt tg ifs ow) (xs.drop (i + 1)) (acc ++ [d]) s7 else R.no).noE.bind fun acc s => R.ok (Vl.own (.lst acc)) (wipeS s ow)) := h6
          by_cases z : acc.length < sizeLine
          · rw [if_pos z] at h6
            have ex57 := ex6.trans ex7
            have ex27 := (ex3.trans ex5).trans ex57
            have hr7 : Reps c w7.B w7.m acc vs := Reps.mono ex27.1 ex27.2 _ _ hr
            exact ⟨vs, sr7.fh _ _ upd_same, by rw [hr.length]; exact z, done (sr7.reset) ex57 (hr7.append (.one r7)) (h6.ext ex7)⟩
          · rw [if_neg z] at h6
            exact h6.elim
  · have hi' : i = xs.length := by omega
    subst hi'
    left
    refine ⟨(yl _ _ _ _ _ sr2' ex2).1, ?_⟩
    rw [List.drop_length] at h2
    obtain ⟨sr3, g1, g2, g3⟩ := sr2'.unapart hFD
    exact h2 w2 H2 _ sr3 (Ext.refl _) ⟨Da, .lst vs, rfl, g1, hr, g2, hFD, g3⟩
theorem s_lc (hc : X.calm = true) (hN : X.N.Nodup) {elt : E} {tg : Tg} {k : IK} {src : A} {ifs : A} {eltE tgtE iterE : Expr} {ifsE : List Expr} {scope : Scope} {own : List (Str × Nat)} {pos : Pos}
    (hi : PI X tgtE iterE (tIt Z c W k src)) (ok : BlkOk X.N X.env.scope scope own)
    (hg : ∀ (s : Shared) (H : Hp) (C : Addr) (cl : List (Str × Addr)) (fp : List Addr), PG (X.blk s H scope (compEnvC scope cl C X.env) fp) tgtE (tTg c tg))
    (ht : ∀ (s : Shared) (H : Hp) (C : Addr) (cl : List (Str × Addr)) (fp : List Addr), PTs (X.blk s H scope (compEnvC scope cl C X.env) fp) ifsE (tEx c never (evAndT Z ifs)))
    (he : ∀ (s : Shared) (H : Hp) (C : Addr) (cl : List (Str × Addr)) (fp : List Addr), PE (X.blk s H scope (compEnvC scope cl C X.env) fp) eltE (tEv Z c never elt))
    (hs : ∀ i ∈ tg.slots, i ∈ own.map (·.2)) (hf : noSet iterE = true) : PE X (.ListComp eltE [⟨tgtE, iterE, ifsE, 0⟩] scope pos) (tEv Z c W (.lc elt tg k src ifs (own.map (·.2)))) :=
  (pe_lc hc hN hi ok hg ht he (folded_ok hf)).imp fun σ H Q h => lc_read hs h
/-- the tests of a comprehension: none or one -/
theorem s_ifs0 : PTs X [] (tEx c W (evAndT Z .nil)) := ⟨fun pins s σ H Q I h => by
  obtain ⟨F, w, s', sr, h⟩ := h
  rw [evAndT_nil] at h
  exact pts_nil.run pins s σ H Q I (h w H true sr (Ext.refl _) rfl)⟩
theorem s_ifs1 {e : E} {x : Expr} (h : PT X x (tEt Z c W e)) : PTs X [x] (tEx c W (evAndT Z (.cons e .nil))) := ⟨fun pins s σ H Q I q => by
  obtain ⟨F, w, s', sr, q⟩ := q
  rw [evAndT_cons] at q
  refine (pts_one h).run pins s σ H Q I ⟨F, w, s', sr, q.bind fun b s1 w1 H1 x sr1 ex1 rv1 h1 => ?_⟩
  cases (show b = x from rv1)
  cases b with
  | true =>
    rw [if_pos rfl, evAndT_nil] at h1
    exact h1 w1 H1 _ sr1 (Ext.refl _) rfl
  | false => exact h1 w1 H1 _ sr1 (Ext.refl _) rfl⟩
end
end PB

set_option Elab.async false
set_option linter.all false
set_option autoImplicit false
set_option maxRecDepth 100000
/-! THE BRIDGE, 13: isinstance, displays of dicts. -/
namespace PB
open PySem PySem.Spec PyProof.Rows L2
def Ty.name : Ty → String
  | .int => "int"
  | .bool => "bool"
  | .str => "str"
  | .list => "list"
  | .tuple => "tuple"
  | .dict => "dict"
section
variable {X : Cx} {Z : Env} {c : Ct} {W : WX}
theorem ty_ok {w : Wd} {F H : Hp} {σ : L2.St} {s : S} (sr : SR c F w H σ s) {d : D} {x : V} (h : View c w H d x) (e : okTy d = true) : ∃ n : String, TyX c.K H x (.type n) ∧ ∀ t, kitB n t.name = some (tyD d t) := by
  cases d <;> first | (cases e; done) | skip
  · cases (show x = _ from h)
    exact ⟨"NoneType", .base .non, fun t => by
      cases t <;> first
        | (show kitB _ _ = some true; decide +kernel)
        | (show kitB _ _ = some false; decide +kernel)⟩
  · cases (show x = _ from h)
    exact ⟨"bool", .base (.bl _), fun t => by
      cases t <;> first
        | (show kitB _ _ = some true; decide +kernel)
        | (show kitB _ _ = some false; decide +kernel)⟩
  · cases (show x = _ from h)
    exact ⟨"int", .base (.int _), fun t => by
      cases t <;> first
        | (show kitB _ _ = some true; decide +kernel)
        | (show kitB _ _ = some false; decide +kernel)⟩
  · cases (show x = _ from h)
    exact ⟨"str", .base (.str _), fun t => by
      cases t <;> first
        | (show kitB _ _ = some true; decide +kernel)
        | (show kitB _ _ = some false; decide +kernel)⟩
  · obtain ⟨a, vs, rfl, ha, hr⟩ := h
    exact ⟨"list", .base (.lst ha), fun t => by
      cases t <;> first
        | (show kitB _ _ = some true; decide +kernel)
        | (show kitB _ _ = some false; decide +kernel)⟩
  · obtain ⟨a, vs, rfl, ha, hr⟩ := h
    exact ⟨"tuple", .base (.tup (sr.bh _ _ ha)), fun t => by
      cases t <;> first
        | (show kitB _ _ = some true; decide +kernel)
        | (show kitB _ _ = some false; decide +kernel)⟩
  · obtain ⟨a, vs, rfl, ha | ⟨o, ha⟩, hr⟩ := h
    · exact ⟨"dict", .base (.dK ha), fun t => by
      cases t <;> first
        | (show kitB _ _ = some true; decide +kernel)
        | (show kitB _ _ = some false; decide +kernel)⟩
    · exact ⟨"dict", .fDict ha, fun t => by
      cases t <;> first
        | (show kitB _ _ = some true; decide +kernel)
        | (show kitB _ _ = some false; decide +kernel)⟩
theorem kit_any {n : String} {f : Ty → Bool} (h : ∀ t, kitB n t.name = some (f t)) : ∀ ts : List Ty, PySem.W.kitAny c.K (.type n) (ts.map fun t => .type t.name) = some (ts.any f)
  | [] => kitAny_nil
  | t :: ts => by
    rw [List.map_cons, List.any_cons]
    refine kitAny_cons (b := f t) (kit_ty (h t)) (fun e => ?_) (fun e => ?_)
    · rw [e, Bool.false_or]
      exact kit_any h ts
    · rw [e, Bool.true_or]
/-- the names of the types -/
structure TyN (X : Cx) (t : Ty) (y : Str) : Prop where
  g : Gl X y
  m : X.mg y = none
  b : bootBuiltins y = some (.type t.name)
  n : y ≠ "__name__"
  d : (y == ("__debug__" : Str)) = false
theorem s_isi1 (hK : X.K = c.K) {a : E} {t : Ty} {x : Expr} {y : Str} {p q pos : Pos} (hg : Gl X "isinstance") (hm : X.mg "isinstance" = none) (hx : plainX x = true) (ty : TyN X t y) (h : PE X x (tEv Z c W a)) :
    PE X (.Call (.Name "isinstance" p) [x, .Name y q] [] pos) (tEv Z c W (.isi a [t])) := by
  refine (pe_callB call_isi hg hm boot_isinstance (pa_cons h (pa_cons (pe_bltn (v := .ty t.name) ty.g ty.m ty.b rfl ty.n ty.d) pa_nil) (star_cons hx)) (by decide +kernel) (by decide +kernel) (star_cons hx) rfl).imp fun σ H Q h => ?_
  obtain ⟨F, w, s, sr, h⟩ := h
  rw [ev_isi] at h
  refine ⟨F, w, s, sr, h.bind fun v s1 w1 H1 x1 sr1 ex1 rv1 h1 => ?_⟩
  cases e1 : v.look s1 with
  | none =>
    rw [e1] at h1
    exact h1.elim
  | some d =>
    rw [e1] at h1
    have h1 : Post c F σ W w1 (RV c F σ) Q (if okTy d then .ok (.im (.bl ([t].any (tyD d)))) s1 else .no) := h1
    by_cases z : okTy d = true
    · rw [if_pos z] at h1
      obtain ⟨n, ty', k⟩ := ty_ok sr1 (rv1.look sr1 e1) z
      refine ⟨x1, .ty t.name, .type n, .type t.name, tyD d t, rfl, .ty _, by rw [hK]; exact ty', kit_ty (k t), ?_⟩
      have := h1 w1 H1 (.bl (tyD d t)) sr1 (Ext.refl _) (by show V.bl _ = V.bl _; simp)
      exact this
    · rw [if_neg z] at h1
      exact h1.elim
/-- a written tuple of types -/
def tTys (ts : List Ty) : TA := fun _ H Q => Q (ts.map fun t => V.ty t.name) H
inductive TysOk (X : Cx) : List Expr → List Ty → Prop where
  | nil : TysOk X [] []
  | cons {y : Str} {p : Pos} {t : Ty} {ys : List Expr} {ts : List Ty} (h : TyN X t y) (r : TysOk X ys ts) : TysOk X (.Name y p :: ys) (t :: ts)
theorem pa_tys : ∀ {ys : List Expr} {ts : List Ty}, TysOk X ys ts → PA X ys (tTys ts)
  | _, _, .nil => ⟨fun pos pins s σ H Q I h => pa_nil.run pos pins s σ H Q I h⟩
  | _, _, .cons (p := p) (t := t) ty r => by
    refine ⟨fun pos pins s σ H Q I h => ?_⟩
    exact (pa_cons (pe_bltn (v := .ty t.name) (u := .type t.name) (pos := p) ty.g ty.m ty.b rfl ty.n ty.d) (pa_tys r) rfl).run pos pins s σ H Q I h
theorem paired_tys : ∀ ts : List Ty, Paired ClsV (ts.map fun t => V.ty t.name) (ts.map fun t => Value.type t.name)
  | [] => .nil
  | t :: ts => .cons (.ty _) (paired_tys ts)
theorem s_isiT (hK : X.K = c.K) {a : E} {ts : List Ty} {x : Expr} {ys : List Expr} {k : Nat} {p q pos : Pos} (hg : Gl X "isinstance") (hm : X.mg "isinstance" = none) (hx : plainX x = true) (hl : ts.length ≤ 10) (ty : TysOk X ys ts) (h : PE X x (tEv Z c W a)) :
    PE X (.Call (.Name "isinstance" p) [x, .Tuple ys k q] [] pos) (tEv Z c W (.isi a ts)) := by
  refine (pe_callB call_isiT hg hm boot_isinstance (pa_cons h (pa_cons (pe_tup (pa_tys ty)) pa_nil rfl) (star_cons hx)) (by decide +kernel) (by decide +kernel) (star_cons hx) rfl).imp fun σ H Q h => ?_
  obtain ⟨F, w, s, sr, h⟩ := h
  rw [ev_isi] at h
  refine ⟨F, w, s, sr, h.bind fun v s1 w1 H1 x1 sr1 ex1 rv1 h1 => ?_⟩
  refine ⟨by rw [List.length_map]; exact Nat.le_trans hl (by decide), fun tp htp => ?_⟩
  cases e1 : v.look s1 with
  | none =>
    rw [e1] at h1
    exact h1.elim
  | some d =>
    rw [e1] at h1
    have h1 : Post c F σ W w1 (RV c F σ) Q (if okTy d then .ok (.im (.bl (ts.any (tyD d)))) s1 else .no) := h1
    by_cases z : okTy d = true
    · rw [if_pos z] at h1
      have sr2 := sr1.grow (sub_new (o := .tup (ts.map fun t => V.ty t.name)) htp)
      have vw : View c w1 (upd H1 tp (.tup (ts.map fun t => V.ty t.name))) d x1 := by
        have vw := rv1.look sr1 e1
        cases d <;> first | exact vw | skip
        · obtain ⟨a, vs, rfl, ha, hr⟩ := vw
          exact ⟨a, vs, rfl, sub_new htp _ _ ha, hr⟩
        · obtain ⟨a, vs, rfl, ha, hr⟩ := vw
          exact ⟨a, vs, rfl, (sub_new htp).rd ha, hr⟩
        · obtain ⟨a, vs, rfl, ha, hr⟩ := vw
          exact ⟨a, vs, rfl, (sub_new htp).rd ha, hr⟩
        · obtain ⟨a, dx, vs, rfl, ha, hr⟩ := vw
          exact ⟨a, dx, vs, rfl, sub_new htp _ _ ha, hr⟩
      obtain ⟨n, ty', kk⟩ := ty_ok sr2 vw z
      exact ⟨x1, tp, _, .type n, _, ts.any (tyD d), rfl, upd_same, paired_tys ts, by rw [hK]; exact ty', by rw [hK]; exact kit_any kk ts, h1 w1 _ _ sr2 (Ext.refl _) rfl⟩
    · rw [if_neg z] at h1
      exact h1.elim
/-! ### {k: v, ..} -/
def trsOf (Z : Env) (c : Ct) (W : WX) : A → List (TE × TE)
  | .cons k (.cons v r) => (tEv Z c W k, tEv Z c W v) :: trsOf Z c W r
  | _ => []
theorem Post.fbind {α β γ δ : Type} {F F' : Hp} {w : Wd} {σ : L2.St} {rel : Wd → Hp → α → β → Prop} {rel1 : Wd → Hp → γ → δ → Prop} {Q : β → Hp → Prop} {Q1 : δ → Hp → Prop} {r : R γ} {f : γ → S → R α} (hF : ∀ w H s, SR c F' w H σ s → SR c F w H σ s)
    (h : Post c F σ W w rel Q (r.bind f)) (k : ∀ a s1 w1 H1 x, SR c F' w1 H1 σ s1 → Ext w w1 → rel1 w1 H1 a x → Post c F σ W w1 rel Q (f a s1) → Q1 x H1) : Post c F' σ W w rel1 Q1 r := by
  cases r with
  | ok a s' => exact fun w1 H1 y sr ex rl => k a s' w1 H1 y sr ex rl (Post.ext (r := f a s') ex h)
  | er k fs s' => exact fun w1 H1 cls d sr ex rl => h w1 H1 cls d (hF _ _ _ sr) ex rl
  | no => exact h
/-- pairs, one by one: as the arguments by turns -/
theorem pairs_of {F F' : Hp} {σ : L2.St} {α : Type} {β : Type} {rel : Wd → Hp → α → β → Prop} {Q : β → Hp → Prop} (hF : ∀ w H s, SR c F' w H σ s → SR c F w H σ s) : ∀ (n : Nat) {a : A} (hn : a.len = 2 * n) {w : Wd} {H : Hp} {s : S} {fin : List D → S → R α} {Q1 : List (V × V) → Hp → Prop}, SR c F' w H σ s →
    Post c F σ W w rel Q ((evA Z a s).bind fin) →
    (∀ ds s1 w1 H1 ps, SR c F' w1 H1 σ s1 → Ext w w1 → Reps c w1.B w1.m ds (ps.flatMap fun p => [p.1, p.2]) → Post c F σ W w1 rel Q (fin ds s1) → Q1 ps H1) → tPairs (trsOf Z c W a) σ H Q1
  | 0, .nil, _, w, H, s, fin, Q1, sr, h, k => by
    rw [evA_nil] at h
    exact k [] s w H [] sr (Ext.refl _) rfl h
  | 0, .cons _ r, hn, _, _, _, _, _, _, _, _ => by
    have : r.len + 1 = 0 := hn
    omega
  | n + 1, .nil, hn, _, _, _, _, _, _, _, _ => by
    have : 0 = 2 * (n + 1) := hn
    omega
  | n + 1, .cons _ .nil, hn, _, _, _, _, _, _, _, _ => by
    have : 0 + 1 = 2 * (n + 1) := hn
    omega
  | n + 1, .cons e (.cons f r), hn, w, H, s, fin, Q1, sr, h, k => by
    have hn : r.len + 1 + 1 = 2 * (n + 1) := hn
    rw [evA_cons, R.bind_assoc] at h
    refine ⟨F', w, s, sr, h.fbind hF fun v s1 w1 H1 x sr1 ex1 rv1 h1 => ?_⟩
    cases e1 : v.fz s1 with
    | no =>
      rw [e1] at h1
      exact h1.elim
    | er k fs s' => exact (fz_noEr e1).elim
    | ok d s1' =>
      rw [e1] at h1
      obtain ⟨w1', sr1', ex1', r1⟩ := rv1.fz sr1 e1
      have h1 : Post c F σ W w1 rel Q (((evA Z (.cons f r) s1').bind fun ds s => R.ok (d :: ds) s).bind fin) := h1
      rw [evA_cons, R.bind_assoc, R.bind_assoc] at h1
      refine ⟨F', w1', s1', sr1', (h1.ext ex1').fbind hF fun u s2 w2 H2 y sr2 ex2 rv2 h2 => ?_⟩
      cases e2 : u.fz s2 with
      | no =>
        rw [e2] at h2
        exact h2.elim
      | er k fs s' => exact (fz_noEr e2).elim
      | ok d2 s2' =>
        rw [e2] at h2
        obtain ⟨w2', sr2', ex2', r2⟩ := rv2.fz sr2 e2
        have h2 : Post c F σ W w2 rel Q (((evA Z r s2').bind fun ds s => R.ok (d2 :: ds) s).bind fun a s => (R.ok (d :: a) s).bind fin) := h2
        rw [R.bind_assoc] at h2
        refine pairs_of hF n (by omega) sr2' (h2.ext ex2') fun ds s3 w3 H3 ps sr3 ex3 rs h3 => ?_
        have x02 := ex2.trans (ex2'.trans ex3)
        exact k (d :: d2 :: ds) s3 w3 H3 ((x, y) :: ps) sr3 (ex1.trans (ex1'.trans x02)) ⟨x, _, rfl, RV.im_mono x02 r1, ⟨y, _, rfl, RV.im_mono ex3 r2, rs⟩⟩ h3
theorem dicD_rep {B : Hp} {m : List Addr} : ∀ {ds : List D} {kvs : List (Key × D)} {ps : List (V × V)}, dicD ds = some kvs → Reps c B m ds (ps.flatMap fun p => [p.1, p.2]) → ∃ us : List (Key × V), ps = us.map (fun kv => (kV kv.1, kv.2)) ∧ RepK c B m kvs us
  | [], kvs, ps, e, h => by
    cases e
    cases ps with
    | nil => exact ⟨[], rfl, rfl⟩
    | cons p ps => cases (show _ = [] from h)
  | [d], kvs, ps, e, h => by cases e
  | k :: v :: r, kvs, ps, e, h => by
    cases ps with
    | nil =>
      obtain ⟨_, _, q, _⟩ := h
      cases q
    | cons p ps =>
      obtain ⟨x, us, q, h1, h2⟩ := h
      obtain ⟨y, us', q', h3, h4⟩ := h2
      subst q'
      have q : p.1 :: p.2 :: (ps.flatMap fun p => [p.1, p.2]) = x :: y :: us' := q
      cases q
      unfold dicD at e
      cases e1 : toKey k with
      | none =>
        rw [e1] at e
        cases e
      | some kk =>
        rw [e1] at e
        cases e2 : dicD r with
        | none =>
          rw [e2] at e
          cases e
        | some kvs' =>
          rw [e2] at e
          cases e
          obtain ⟨us, e3, r3⟩ := dicD_rep e2 h4
          refine ⟨(kk, p.2) :: us, ?_, p.2, us, rfl, h3, r3⟩
          rw [List.map_cons, ← e3, ← toKey_rep' e1 h1]
theorem merge_rep {B : Hp} {m : List Addr} : ∀ {kvs : List (Key × D)} {us : List (Key × V)} {acc : List (Key × D)} {acc' : List (Key × V)}, RepK c B m kvs us → RepK c B m acc acc' → RepK c B m (kvs.foldl (fun m kv => put kv.1 kv.2 m) acc) (mergeK acc' us)
  | [], us, acc, acc', h, k => by
    rw [show us = [] from h]
    exact k
  | (j, d) :: r, us, acc, acc', h, k => by
    obtain ⟨v, us', rfl, h1, h2⟩ := h
    exact merge_rep (acc := put j d acc) (acc' := putK acc' j v) h2 (k.put h1)
theorem s_dic {a : A} {keys : List (Option Expr)} {values : List Expr} {pos : Pos} {n : Nat} (hn : a.len = 2 * n) (hk : keys.length = n) (hv : values.length = n) (hall : keys.all (·.isSome) = true) (h0 : 0 < n) (h15 : n ≤ 15)
    (h : PPs X pos keys values (trsOf Z c W a)) : PE X (.Dict keys values pos) (tEv Z c W (.dic a)) := by
  refine (pe_disp h hall (by rw [hk, hv]) (fun z => by rw [z] at hk; simp at hk; omega) (by rw [hk]; exact h15)).imp fun σ H Q h p hp => ?_
  obtain ⟨F, w, s, sr, h⟩ := h
  rw [ev_dic] at h
  have hF := (sr.free hp).2.1
  refine pairs_of (F := F) (F' := upd F p (.dK [])) (rel := RV c F σ) (Q := Q) (fun w H s x => (x.unapart hF).1) n hn (sr.apart (o := .dK []) hp) h fun ds s1 w1 H1 ps sr1 ex1 rs h1 => ?_
  cases e1 : dicD ds with
  | none =>
    rw [e1] at h1
    exact h1.elim
  | some kvs =>
    rw [e1] at h1
    have h1 : Post c F σ W w1 (RV c F σ) Q (if 0 < kvs.length ∧ kvs.length ≤ 15 then .ok (.own (.dk (mergeD kvs))) s1 else .no) := h1
    by_cases z : 0 < kvs.length ∧ kvs.length ≤ 15
    · rw [if_pos z] at h1
      obtain ⟨us, rfl, rk⟩ := dicD_rep e1 rs
      obtain ⟨_, g1, g2, g3⟩ := sr1.unapart hF
      have sr2 := (sr1.reset (u := .dK (mergeK [] us))).unapart hF
      exact ⟨g1, us, rfl, by rw [rk.length]; exact z.2, h1 w1 _ _ sr2.1 (Ext.refl _) ⟨p, _, rfl, sr2.2.1, merge_rep rk rfl, sr2.2.2.1, hF, sr2.2.2.2⟩⟩
    · rw [if_neg z] at h1
      exact h1.elim
end
end PB

set_option Elab.async false
set_option linter.all false
set_option autoImplicit false
set_option maxRecDepth 100000
/-! THE BRIDGE, 14: statements. -/
namespace PB
open PySem PySem.Spec PyProof.Rows L2
def PostS (c : Ct) (F : Hp) (W : WX) (w : Wd) (D : Ends) : R Fl → Prop
  | .ok .nx s' => ∀ w' H' σ', SR c F w' H' σ' s' → Ext w w' → D.nx σ' H'
  | .ok .bk s' => ∀ w' H' σ', SR c F w' H' σ' s' → Ext w w' → D.bk σ' H'
  | .ok .ct s' => ∀ w' H' σ', SR c F w' H' σ' s' → Ext w w' → D.ct σ' H'
  | .ok (.rt v) s' => ∀ w' H' σ' x, SR c F w' H' σ' s' → Ext w w' → RV c F σ' w' H' v x → D.rt x H'
  | .er k fs s' => ∀ w' H' σ' cls d, SR c F w' H' σ' s' → Ext w w' → ExR c w' k fs cls d → W cls d σ' H'
  | .no => False
def tRun (Z : Env) (c : Ct) (W : WX) (a : C) : TS := fun D σ H => ∃ F w s, SR c F w H σ s ∧ PostS c F W w D (run Z a s)
theorem _root_.L2.PS.imp {X : Cx} {e : Stmt} {t t' : TS} (h : PS X e t) (k : ∀ D σ H, t' D σ H → t D σ H) : PS X e t' := ⟨fun pins s σ H D I q => h.run pins s σ H D I (k D σ H q)⟩
theorem _root_.L2.PSs.imp {X : Cx} {e : List Stmt} {t t' : TS} (h : PSs X e t) (k : ∀ D σ H, t' D σ H → t D σ H) : PSs X e t' := ⟨fun pins s σ H D I q => h.run pins s σ H D I (k D σ H q)⟩
section
variable {X : Cx} {Z : Env} {c : Ct} {W : WX} {F : Hp} {w w' : Wd} {σ : L2.St} {H : Hp} {s : S} {Dn : Ends}
theorem PostS.ext {r : R Fl} (x : Ext w w') (h : PostS c F W w Dn r) : PostS c F W w' Dn r := by
  cases r with
  | ok f s' =>
    cases f with
    | nx => exact fun w1 H1 σ1 sr ex => h w1 H1 σ1 sr (x.trans ex)
    | bk => exact fun w1 H1 σ1 sr ex => h w1 H1 σ1 sr (x.trans ex)
    | ct => exact fun w1 H1 σ1 sr ex => h w1 H1 σ1 sr (x.trans ex)
    | rt v => exact fun w1 H1 σ1 y sr ex => h w1 H1 σ1 y sr (x.trans ex)
  | er k fs s' => exact fun w1 H1 σ1 cls d sr ex => h w1 H1 σ1 cls d sr (x.trans ex)
  | no => exact h
theorem PostS.bind {γ δ : Type} {rel1 : Wd → Hp → γ → δ → Prop} {Q1 : δ → Hp → Prop} {r : R γ} {f : γ → S → R Fl}
    (h : PostS c F W w Dn (r.bind f)) (k : ∀ a s1 w1 H1 x, SR c F w1 H1 σ s1 → Ext w w1 → rel1 w1 H1 a x → PostS c F W w1 Dn (f a s1) → Q1 x H1) : Post c F σ W w rel1 Q1 r := by
  cases r with
  | ok a s' => exact fun w1 H1 y sr ex rl => k a s' w1 H1 y sr ex rl (PostS.ext (r := f a s') ex h)
  | er k fs s' => exact fun w1 H1 cls d sr ex rl => h w1 H1 σ cls d sr ex rl
  | no => exact h
/-! ### forgetting -/
theorem SR.forget {s : S} (x : SR c F w H σ s) (l : List Nat) : SR c F w H σ (wipeS s l) := (x.wipe l).unwipe
theorem wp_post {a : C} {l l' : List Nat} (h : PostS c F W w Dn (run Z (.wp l a l') s)) : PostS c F W w Dn (run Z a (wipeS s l)) := by
  rw [run_wp] at h
  cases q : run Z a (wipeS s l) with
  | no =>
    rw [q] at h
    exact h
  | er k fs s' =>
    rw [q] at h
    exact h
  | ok f s' =>
    rw [q] at h
    cases f with
    | nx => exact fun w1 H1 σ1 sr ex => h w1 H1 σ1 (sr.forget l') ex
    | bk => exact fun w1 H1 σ1 sr ex => h w1 H1 σ1 (sr.forget l') ex
    | ct => exact fun w1 H1 σ1 sr ex => h w1 H1 σ1 (sr.forget l') ex
    | rt v => exact h
theorem r_wp {st : Stmt} {a : C} {l l' : List Nat} (h : PS X st (tRun Z c W a)) : PS X st (tRun Z c W (.wp l a l')) := h.imp fun Dn σ H h => by
  obtain ⟨F, w, s, sr, h⟩ := h
  exact ⟨F, w, wipeS s l, sr.forget l, wp_post h⟩
theorem r_wps {st : List Stmt} {a : C} {l l' : List Nat} (h : PSs X st (tRun Z c W a)) : PSs X st (tRun Z c W (.wp l a l')) := h.imp fun Dn σ H h => by
  obtain ⟨F, w, s, sr, h⟩ := h
  exact ⟨F, w, wipeS s l, sr.forget l, wp_post h⟩
/-! ### plain ones -/
theorem r_skip : PSs X [] (tRun Z c W .skip) := pss_nil.imp fun Dn σ H h => by
  obtain ⟨F, w, s, sr, h⟩ := h
  exact h w H σ sr (Ext.refl _)
theorem r_one {st : Stmt} {a : C} (h : PS X st (tRun Z c W a)) : PSs X [st] (tRun Z c W a) := pss_one h
theorem seq_post {a b : C} (h : PostS c F W w Dn (run Z (.seq a b) s)) : PostS c F W w { Dn with nx := fun σ' H' => ∃ F w s, SR c F w H' σ' s ∧ PostS c F W w Dn (run Z b s) } (run Z a s) := by
  rw [run_seq] at h
  cases q : run Z a s with
  | no =>
    rw [q] at h
    exact h
  | er k fs s' =>
    rw [q] at h
    exact h
  | ok f s' =>
    rw [q] at h
    cases f with
    | nx => exact fun w1 H1 σ1 sr ex => ⟨F, w1, s', sr, PostS.ext ex (show PostS c F W w Dn (run Z b s') from h)⟩
    | bk => exact h
    | ct => exact h
    | rt v => exact h
theorem r_seq {st : Stmt} {rest : List Stmt} {a b : C} (h1 : PS X st (tRun Z c W a)) (h2 : PSs X rest (tRun Z c W b)) : PSs X (st :: rest) (tRun Z c W (.seq a b)) := (pss_cons h1 h2).imp fun Dn σ H h => by
  obtain ⟨F, w, s, sr, h⟩ := h
  exact ⟨F, w, s, sr, seq_post h⟩
theorem r_pass {pos : Pos} : PS X (.Pass pos) (tRun Z c W .skip) := ps_pass.imp fun Dn σ H h => by
  obtain ⟨F, w, s, sr, h⟩ := h
  exact h w H σ sr (Ext.refl _)
theorem r_doc {x : Str} {j : Nat} {pos pos' : Pos} : PS X (.Expr (.Constant (.str x) j pos) pos') (tRun Z c W .skip) := ps_doc.imp fun Dn σ H h => by
  obtain ⟨F, w, s, sr, h⟩ := h
  exact h w H σ sr (Ext.refl _)
theorem r_brk {pos : Pos} : PS X (.Break pos) (tRun Z c W .brk) := ps_break.imp fun Dn σ H h => by
  obtain ⟨F, w, s, sr, h⟩ := h
  exact h w H σ sr (Ext.refl _)
theorem r_cnt {pos : Pos} : PS X (.Continue pos) (tRun Z c W .cnt) := ps_continue.imp fun Dn σ H h => by
  obtain ⟨F, w, s, sr, h⟩ := h
  exact h w H σ sr (Ext.refl _)
theorem r_ex {e : E} {x : Expr} {pos : Pos} (hs : swapsWith x none pos.line X.env = pure false) (h : PE X x (tEv Z c W e)) : PS X (.Expr x pos) (tRun Z c W (.ex e)) := (ps_expr h hs).imp fun Dn σ H h => by
  obtain ⟨F, w, s, sr, h⟩ := h
  rw [run_ex] at h
  exact ⟨F, w, s, sr, h.bind fun v s1 w1 H1 x sr1 ex1 rv1 h1 => h1 w1 H1 σ sr1 (Ext.refl _)⟩
theorem r_retN {pos : Pos} : PS X (.Return none pos) (tRun Z c W .retN) := ps_retN.imp fun Dn σ H h => by
  obtain ⟨F, w, s, sr, h⟩ := h
  exact h w H σ .non sr (Ext.refl _) rfl
theorem r_ite {t : E} {a b : C} {x : Expr} {p q : List Stmt} {pos : Pos} (ht : PT X x (tEt Z c W t)) (ha : PSs X p (tRun Z c W a)) (hb : PSs X q (tRun Z c W b)) : PS X (.If x p q pos) (tRun Z c W (.ite t a b)) := (ps_if ht ha hb).imp fun Dn σ H h => by
  obtain ⟨F, w, s, sr, h⟩ := h
  rw [run_ite] at h
  refine ⟨F, w, s, sr, h.bind fun v s1 w1 H1 x sr1 ex1 rv1 h1 => ?_⟩
  cases (show v = x from rv1)
  cases v with
  | true => exact iteT ⟨F, w1, s1, sr1, h1⟩
  | false => exact iteF ⟨F, w1, s1, sr1, h1⟩
/-! ### return -/
theorem SR.disown {c : Ct} {F : Hp} {w : Wd} {H : Hp} {σ : L2.St} {s : S} (x : SR c F w H σ s) {i : Nat} {d : D} (h : s.ρ[i]? = some (Sl.own d)) {v : V} (hv : σ[i]? = some (some v)) :
    ∃ w', SR c F w' H σ { s with ρ := s.ρ.set i .no } ∧ Ext w w' ∧ RV c F σ w' H (.own d) v := by
  obtain ⟨a, o, h1, h2, h3, h4⟩ := x.ow i d h
  rw [hv] at h1
  cases h1
  have hl := (List.getElem?_eq_some_iff.mp h).1
  have tn : ∀ {b : Addr}, b ≠ a → (w.own a none).τ b = w.τ b := fun h => own_ne h
  have hF : F a = none := by
    cases e : F a with
    | none => rfl
    | some u =>
      have := (x.fb _ _ e).2
      rw [h2] at this
      cases this
  refine ⟨w.own a none, ⟨x.bh, x.fh, fun b u e => ⟨(x.fb b u e).1, ?_⟩, fun b u e => ?_, fun j e q => ?_, fun j e q => ?_, fun j e q => ?_, x.ln, by simpa using x.sl, x.pnN (a := a)⟩, Ext.own, ⟨a, o, rfl, h3, h4.own, (x.tb _ _ h2).1, hF, own_same⟩⟩
  · have z : b ≠ a := fun z => by
      rw [z, hF] at e
      cases e
    rw [tn z]
    exact (x.fb b u e).2
  · have z : b ≠ a := fun z => by
      rw [z, own_same] at e
      cases e
    rw [tn z] at e
    exact x.tb b u e
  · by_cases z : j = i
    · subst z
      rw [List.getElem?_set_self hl] at q
      cases q
    · rw [List.getElem?_set_ne (Ne.symm z)] at q
      exact x.im j e q
  · by_cases z : j = i
    · subst z
      rw [List.getElem?_set_self hl] at q
      cases q
    · rw [List.getElem?_set_ne (Ne.symm z)] at q
      obtain ⟨b, u, k1, k2, k3, k4⟩ := x.ow j e q
      have zb : b ≠ a := fun zb => by
        rw [zb, h2] at k2
        cases k2
        exact z rfl
      exact ⟨b, u, k1, by rw [tn zb]; exact k2, k3, k4.own⟩
  · obtain ⟨b, u, k1, k2, k3, k4⟩ := x.ce j e q
    have zb : b ≠ a := fun zb => by
      rw [zb, h2] at k2
      cases k2
    exact ⟨b, u, k1, by rw [tn zb]; exact k2, k3, k4.own⟩
theorem r_ret {e : E} {x : Expr} {pos : Pos} (h : PE X x (tEv Z c W e)) : PS X (.Return (some x) pos) (tRun Z c W (.ret e)) := (ps_ret h).imp fun Dn σ H h => by
  obtain ⟨F, w, s, sr, h⟩ := h
  rw [run_ret] at h
  refine ⟨F, w, s, sr, h.bind fun v s1 w1 H1 x sr1 ex1 rv1 h1 => ?_⟩
  cases v with
  | im d => exact h1 w1 H1 σ x sr1 (Ext.refl _) rv1
  | own d => exact h1 w1 H1 σ x sr1 (Ext.refl _) rv1
  | pk i =>
    have h1 : PostS c F W w1 Dn ((match s1.ρ[i]? with
      | some (.own d) => R.ok (Vl.own d) { s1 with ρ := s1.ρ.set i .no }
      | _ => .no).bind fun v s => R.ok (.rt v) s) := h1
    split at h1
    · rename_i d q
      obtain ⟨w2, sr2, ex2, r2⟩ := sr1.disown q rv1
      exact h1 w2 H1 σ x sr2 ex2 r2
    · exact h1.elim
/-! ### name = value -/
theorem bind_post {i : Nat} {v : Vl} {x : V} (sr : SR c F w H σ s) (rv : RV c F σ w H v x) (h : PostS c F W w Dn ((bindV i v s).bind fun _ s => .ok .nx s)) : Dn.nx (σ.set i (some x)) H := by
  unfold bindV at h
  by_cases z : i < s.ρ.length
  · rw [if_pos z] at h
    cases v with
    | im d => exact h w H _ (sr.put rv) (Ext.refl _)
    | own d =>
      cases i with
      | zero =>
        obtain ⟨w2, sr2, ex2, r2⟩ := rv.hold sr
        exact h w2 H _ (sr2.put r2) ex2
      | succ i =>
        obtain ⟨a, o, rfl, h1, h2, h3, h4, h5⟩ := rv
        exact h _ H _ (sr.bind h1 h2 h3 h4 h5 (Nat.succ_ne_zero i)) Ext.own
    | pk j =>
      have h : PostS c F W w Dn ((match s.ρ[j]? with
        | some (.own d) => R.ok () { s with ρ := (s.ρ.set j (.im d)).set i (.im d) }
        | _ => .no).bind fun _ s => .ok .nx s) := h
      split at h
      · rename_i d q
        obtain ⟨w2, sr2, ex2, r2⟩ := sr.freeze q rv
        exact h w2 H _ (sr2.put r2) ex2
      · exact h.elim
  · rw [if_neg z] at h
    exact h.elim
theorem r_set {i : Nat} {x : Str} {e : E} {y : Expr} {pos pos' : Pos} (hN : X.N.Nodup) (hi : X.N[i]? = some x) (hx : Loc X.env.scope x) (hf : X.fn x = true ∨ X.env.scope.names.lookup x = some .local) (hs : swapsWith y (some (.Name x pos')) pos.line X.env = pure false)
    (h : PE X y (tEv Z c W e)) : PS X (.Assign [.Name x pos'] y pos) (tRun Z c W (.asg (.nm i) e)) := (ps_set hN hi hx h hs hf).imp fun Dn σ H h => by
  obtain ⟨F, w, s, sr, h⟩ := h
  rw [run_asg] at h
  exact ⟨F, w, s, sr, h.bind fun v s1 w1 H1 x sr1 ex1 rv1 h1 => bind_post sr1 rv1 h1⟩
/-! ### a, b = value -/
theorem asgT_noEr : ∀ (tg : Tg) (d : D) (s : S) {k : Nat} {fs : List (Str × D)} {s' : S}, asgT tg d s ≠ .er k fs s' := by
  intro tg
  induction tg with
  | nm i =>
    intro d s k fs s' e
    have e : (if i < s.ρ.length then R.ok () { s with ρ := s.ρ.set i (.im d) } else .no) = .er k fs s' := e
    split at e <;> cases e
  | tn =>
    intro d s k fs s' e
    cases d <;> first | (cases e; done) | skip
    all_goals (rename_i ds; cases ds <;> cases e)
  | tc h t ih1 ih2 =>
    intro d s k fs s' e
    cases d <;> first | (cases e; done) | skip
    all_goals
      rename_i ds
      cases ds with
      | nil => cases e
      | cons d ds =>
        cases q1 : asgT h d s with
        | no =>
          simp only [asgT, q1] at e
          cases e
        | er k' fs' s'' => exact ih1 _ _ q1
        | ok a s1 =>
          simp only [asgT, q1] at e
          exact ih2 _ _ e
theorem asgT_post {tg : Tg} {d : D} {x : V} (sr : SR c F w H σ s) (r : Rep c w.B w.m d x) (h : PostS c F W w Dn ((asgT tg d s).bind fun _ s => .ok .nx s)) : tTg c tg x σ H Dn.nx := by
  cases q : asgT tg d s with
  | no =>
    rw [q] at h
    exact h.elim
  | er k fs s' => exact absurd q (asgT_noEr tg d s)
  | ok a s' =>
    rw [q] at h
    exact ⟨F, w, s, d, sr, r, s', q, fun σ' sr' _ => h w H σ' sr' (Ext.refl _)⟩
theorem r_asgT {tg : Tg} {e : E} {y t : Expr} {pos : Pos} (ht : ∀ i, tg ≠ .nm i) (hs : swapsWithSole [t] y pos.line X.env = pure false) (hw : swappedStores [t] y X.env = pure none) (hp : plainX t = true) (h : PE X y (tEv Z c W e)) (hg : PG X t (tTg c tg)) :
    PS X (.Assign [t] y pos) (tRun Z c W (.asg tg e)) := (ps_asg h hg hs hw (by rw [asgEach hp]; rfl)).imp fun Dn σ H h => by
  obtain ⟨F, w, s, sr, h⟩ := h
  rw [run_asg] at h
  refine ⟨F, w, s, sr, h.bind fun v s1 w1 H1 x sr1 ex1 rv1 h1 => ?_⟩
  cases tg with
  | nm i => exact absurd rfl (ht i)
  | tn =>
    cases v with
    | im d => exact asgT_post (tg := .tn) sr1 rv1 h1
    | own d => exact h1.elim
    | pk i => exact h1.elim
  | tc a b =>
    cases v with
    | im d => exact asgT_post (tg := .tc a b) sr1 rv1 h1
    | own d => exact h1.elim
    | pk i => exact h1.elim
end
end PB

set_option Elab.async false
set_option linter.all false
set_option autoImplicit false
set_option maxRecDepth 100000
/-! THE BRIDGE, 15: more statements. -/
namespace PB
open PySem PySem.Spec PyProof.Rows L2
section
variable {X : Cx} {Z : Env} {c : Ct} {W : WX} {F : Hp} {w w' : Wd} {σ : L2.St} {H : Hp} {s : S} {Dn : Ends}
theorem r_setLc (hc : X.calm = true) (hN : X.N.Nodup) {i : Nat} {y : Str} {py spos : Pos} (hy : X.N[i]? = some y) (hyl : X.env.scope.names.lookup y = some .local) {elt : E} {tg : Tg} {k : IK} {src : A} {ifs : A} {eltE tgtE iterE : Expr} {ifsE : List Expr} {scope : Scope} {own : List (Str × Nat)} {pos : Pos}
    (hsw : swapsWith (.ListComp eltE [⟨tgtE, iterE, ifsE, 0⟩] scope pos) (some (.Name y py)) spos.line X.env = pure true)
    (hi : PI X tgtE iterE (tIt Z c W k src)) (ok : BlkOk X.N X.env.scope scope own)
    (hg : ∀ (s : Shared) (H : Hp) (C : Addr) (cl : List (Str × Addr)) (fp : List Addr), PG (X.blk s H scope (compEnvC scope cl C X.env) fp) tgtE (tTg c tg))
    (ht : ∀ (s : Shared) (H : Hp) (C : Addr) (cl : List (Str × Addr)) (fp : List Addr), PTs (X.blk s H scope (compEnvC scope cl C X.env) fp) ifsE (tEx c never (evAndT Z ifs)))
    (he : ∀ (s : Shared) (H : Hp) (C : Addr) (cl : List (Str × Addr)) (fp : List Addr), PE (X.blk s H scope (compEnvC scope cl C X.env) fp) eltE (tEv Z c never elt))
    (hs : ∀ i ∈ tg.slots, i ∈ own.map (·.2)) (hf : noSet iterE = true) {e : E} (read : ∀ σ H Q, tEv Z c W e σ H Q → tEv Z c W (.lc elt tg k src ifs (own.map (·.2))) σ H Q) : PS X (.Assign [.Name y py] (.ListComp eltE [⟨tgtE, iterE, ifsE, 0⟩] scope pos) spos) (tRun Z c W (.asg (.nm i) e)) :=
  (ps_setLc hc hN hy hyl hsw hi ok hg ht he (folded_ok hf)).imp fun Dn σ H h => by
    obtain ⟨F, w, s, sr, h⟩ := h
    rw [run_asg] at h
    exact lc_read hs (read _ _ _ ⟨F, w, s, sr, h.bind fun v s1 w1 H1 x sr1 ex1 rv1 h1 => bind_post sr1 rv1 h1⟩)
/-! ### a, b = x, y -/
theorem r_par {i j : Nat} {x y : Str} {a b : E} {ea eb : Expr} {px py pt pos : Pos} {kt k2 : Nat} {pt2 : Pos} (hc : X.calm = true) (hN : X.N.Nodup) (hi : X.N[i]? = some x) (hj : X.N[j]? = some y) (hij : i ≠ j)
    (hx : X.env.scope.names.lookup x = some .local) (hy : X.env.scope.names.lookup y = some .local) (ha : PA X [ea, eb] (tEa Z c W (.cons a (.cons b .nil))))
    (hw : swappedStores [.Tuple [.Name x px, .Name y py] kt pt] (.Tuple [ea, eb] k2 pt2) X.env = pure (some [x, y])) :
    PS X (.Assign [.Tuple [.Name x px, .Name y py] kt pt] (.Tuple [ea, eb] k2 pt2) pos) (tRun Z c W (.par i j a b)) := (ps_par hc hN hi hj hij hx hy ha hw).imp fun Dn σ H h => by
  obtain ⟨F, w, s, sr, h⟩ := h
  have h : PostS c F W w Dn ((evA Z (.cons a (.cons b .nil)) s).bind fun ds s => match ds with
    | [d, e] => (asgT (.nm i) d s).bind fun _ s => (asgT (.nm j) e s).bind fun _ s => .ok .nx s
    | _ => .no) := h
  refine ⟨F, w, s, sr, h.bind fun ds s1 w1 H1 xs sr1 ex1 rs h1 => ?_⟩
  match ds, rs, h1 with
  | [], rs, h1 => exact h1.elim
  | [_], rs, h1 => exact h1.elim
  | _ :: _ :: _ :: _, rs, h1 => exact h1.elim
  | [d, e], rs, h1 =>
    obtain ⟨u, v, rfl, ru, rv⟩ := reps2 rs
    refine ⟨u, v, rfl, ?_⟩
    have h1 : PostS c F W w1 Dn ((if i < s1.ρ.length then R.ok () { s1 with ρ := s1.ρ.set i (.im d) } else .no).bind fun _ s => (asgT (.nm j) e s).bind fun _ s => .ok .nx s) := h1
    by_cases z : i < s1.ρ.length
    · rw [if_pos z] at h1
      have h1 : PostS c F W w1 Dn ((if j < (s1.ρ.set i (.im d)).length then R.ok () { s1 with ρ := (s1.ρ.set i (.im d)).set j (.im e) } else .no).bind fun _ s => .ok .nx s) := h1
      by_cases z2 : j < (s1.ρ.set i (.im d)).length
      · rw [if_pos z2] at h1
        exact h1 w1 H1 _ ((sr1.put ru).put rv) (Ext.refl _)
      · rw [if_neg z2] at h1
        exact h1.elim
    · rw [if_neg z] at h1
      exact h1.elim
theorem r_par3 {i j l : Nat} {x y z : Str} {a b g : E} {ea eb eg : Expr} {px py pz pt pos : Pos} {kt k2 : Nat} {pt2 : Pos} (hc : X.calm = true) (hN : X.N.Nodup) (hi : X.N[i]? = some x) (hj : X.N[j]? = some y) (hl : X.N[l]? = some z) (hij : i ≠ j) (hil : i ≠ l) (hjl : j ≠ l)
    (hx : X.env.scope.names.lookup x = some .local) (hy : X.env.scope.names.lookup y = some .local) (hz : X.env.scope.names.lookup z = some .local) (ha : PA X [ea, eb, eg] (tEa Z c W (.cons a (.cons b (.cons g .nil)))))
    (hw : swappedStores [.Tuple [.Name x px, .Name y py, .Name z pz] kt pt] (.Tuple [ea, eb, eg] k2 pt2) X.env = pure (some [x, y, z])) :
    PS X (.Assign [.Tuple [.Name x px, .Name y py, .Name z pz] kt pt] (.Tuple [ea, eb, eg] k2 pt2) pos) (tRun Z c W (.par3 i j l a b g)) := (ps_par3 hc hN hi hj hl hij hil hjl hx hy hz ha hw).imp fun Dn σ H h => by
  obtain ⟨F, w, s, sr, h⟩ := h
  have h : PostS c F W w Dn ((evA Z (.cons a (.cons b (.cons g .nil))) s).bind fun ds s => match ds with
    | [d, e, g] => (asgT (.nm i) d s).bind fun _ s => (asgT (.nm j) e s).bind fun _ s => (asgT (.nm l) g s).bind fun _ s => .ok .nx s
    | _ => .no) := h
  refine ⟨F, w, s, sr, h.bind fun ds s1 w1 H1 xs sr1 ex1 rs h1 => ?_⟩
  match ds, rs, h1 with
  | [], rs, h1 => exact h1.elim
  | [_], rs, h1 => exact h1.elim
  | [_, _], rs, h1 => exact h1.elim
  | _ :: _ :: _ :: _ :: _, rs, h1 => exact h1.elim
  | [d, e, g'], rs, h1 =>
    obtain ⟨u, us, rfl, ru, rs⟩ := rs
    obtain ⟨v, v', rfl, rv, rv'⟩ := reps2 rs
    refine ⟨u, v, v', rfl, ?_⟩
    have h1 : PostS c F W w1 Dn ((if i < s1.ρ.length then R.ok () { s1 with ρ := s1.ρ.set i (.im d) } else .no).bind fun _ s => (asgT (.nm j) e s).bind fun _ s => (asgT (.nm l) g' s).bind fun _ s => .ok .nx s) := h1
    by_cases z : i < s1.ρ.length
    · rw [if_pos z] at h1
      have h1 : PostS c F W w1 Dn ((if j < (s1.ρ.set i (.im d)).length then R.ok () { s1 with ρ := (s1.ρ.set i (.im d)).set j (.im e) } else .no).bind fun _ s => (asgT (.nm l) g' s).bind fun _ s => .ok .nx s) := h1
      by_cases z2 : j < (s1.ρ.set i (.im d)).length
      · rw [if_pos z2] at h1
        have h1 : PostS c F W w1 Dn ((if l < ((s1.ρ.set i (.im d)).set j (.im e)).length then R.ok () { s1 with ρ := ((s1.ρ.set i (.im d)).set j (.im e)).set l (.im g') } else .no).bind fun _ s => .ok .nx s) := h1
        by_cases z3 : l < ((s1.ρ.set i (.im d)).set j (.im e)).length
        · rw [if_pos z3] at h1
          exact h1 w1 H1 _ (((sr1.put ru).put rv).put rv') (Ext.refl _)
        · rw [if_neg z3] at h1
          exact h1.elim
      · rw [if_neg z2] at h1
        exact h1.elim
    · rw [if_neg z] at h1
      exact h1.elim
/-! ### x += y -/
def iAug : TIp := fun x y H Q => (∃ i j, x = .int i ∧ y = .int j ∧ Q (.int (i + j)) H) ∨ (∃ a b, x = .str a ∧ y = .str b ∧ a.length + b.length ≤ sizeLine ∧ Q (.str (a ++ b)) H)
theorem pip_aug : PIp X .Add iAug := fun pins s σ H x y v u Q I rx ry h => by
  rcases h with ⟨i, j, rfl, rfl, q⟩ | ⟨a, b, rfl, rfl, l, q⟩
  · exact iop_add pins s σ H _ _ v u Q I rx ry ⟨i, j, rfl, rfl, q⟩
  · exact iop_add_str pins s σ H _ _ v u Q I rx ry ⟨a, b, rfl, rfl, l, q⟩
theorem r_aug {i : Nat} {x : Str} {e : E} {y : Expr} {pos pos' : Pos} (hN : X.N.Nodup) (hi : X.N[i]? = some x) (hx : Loc X.env.scope x) (hf : X.fn x = true ∨ X.env.scope.names.lookup x = some .local) (h : PE X y (tEv Z c W e)) :
    PS X (.AugAssign (.Name x pos') .Add y pos) (tRun Z c W (.aug i e)) := (ps_aug hN hi hx h pip_aug hf).imp fun Dn σ H h => by
  obtain ⟨F, w, s, sr, h⟩ := h
  have h : PostS c F W w Dn (match s.ρ[i]? with
    | some (.im d) => (ev Z e s).bind fun v s => match v.look s with
      | some d' => (match augD d d' with
        | some d => if i < s.ρ.length then .ok .nx { s with ρ := s.ρ.set i (.im d) } else .no
        | none => .no)
      | none => .no
    | _ => .no) := h
  split at h
  · rename_i d q
    obtain ⟨v0, e0, r0⟩ := sr.im i d q
    refine ⟨v0, e0, F, w, s, sr, h.bind fun v s1 w1 H1 y sr1 ex1 rv1 h1 => ?_⟩
    cases e1 : v.look s1 with
    | none =>
      rw [e1] at h1
      exact h1.elim
    | some d' =>
      rw [e1] at h1
      have h1 : PostS c F W w1 Dn (match augD d d' with
        | some d => if i < s1.ρ.length then .ok .nx { s1 with ρ := s1.ρ.set i (.im d) } else .no
        | none => .no) := h1
      have vw := rv1.look sr1 e1
      cases e2 : augD d d' with
      | none =>
        rw [e2] at h1
        exact h1.elim
      | some d'' =>
        rw [e2] at h1
        have h1 : PostS c F W w1 Dn (if i < s1.ρ.length then .ok .nx { s1 with ρ := s1.ρ.set i (.im d'') } else .no) := h1
        by_cases z : i < s1.ρ.length
        · rw [if_pos z] at h1
          unfold augD at e2
          split at e2
          · cases e2
            cases (show v0 = _ from r0)
            cases (show y = _ from vw)
            exact .inl ⟨_, _, rfl, rfl, h1 w1 H1 _ (sr1.put rfl) (Ext.refl _)⟩
          · rename_i a b
            by_cases l : a.length + b.length ≤ sizeLine
            · rw [if_pos l] at e2
              cases e2
              cases (show v0 = _ from r0)
              cases (show y = _ from vw)
              exact .inr ⟨_, _, rfl, rfl, l, h1 w1 H1 _ (sr1.put rfl) (Ext.refl _)⟩
            · rw [if_neg l] at e2
              cases e2
          · cases e2
        · rw [if_neg z] at h1
          exact h1.elim
  · exact h.elim
/-! ### what is written -/
theorem recv {v : Vl} {x : V} {d : D} (sr : SR c F w H σ s) (hv : RV c F σ w H v x) (e : v.look s = some d) : (∀ r d', back v s (r, some d') = .no) ∨ ∃ a o, x = .ref a ∧ H a = some o ∧ RepO c w o d ∧
    ∀ r o' d', RepO c w o' d' → ∃ s', back v s (r, some d') = .ok r s' ∧ SR c F w (upd H a o') σ s' := by
  cases v with
  | own d => exact .inl fun _ _ => rfl
  | pk i =>
    have e' : (match s.ρ[i]? with | some (.own d) => some d | _ => none) = some d := e
    split at e'
    · rename_i d2 q
      cases e'
      obtain ⟨a, o, h1, h2, h3, h4⟩ := sr.ow i _ q
      have hv' : σ[i]? = some (some x) := hv
      rw [h1] at hv'
      cases hv'
      exact .inr ⟨a, o, rfl, h3, h4, fun r o' d' hr => ⟨_, rfl, sr.write q h1 hr⟩⟩
    · cases e'
  | im d1 =>
    cases d1 with
    | cell k =>
      have e' : (match s.st[k]? with | some (some d) => some d | _ => none) = some d := e
      split at e'
      · rename_i d2 q
        cases e'
        obtain ⟨a, o, h1, h2, h3, h4⟩ := sr.ce k _ q
        obtain ⟨a', rfl, hk⟩ := hv
        rw [h1] at hk
        cases hk
        exact .inr ⟨a, o, rfl, h3, h4, fun r o' d' hr => ⟨_, rfl, sr.store q h1 hr⟩⟩
      · cases e'
    | _ => exact .inl fun _ _ => rfl
theorem RepT.put {B : Hp} {m : List Addr} {k : List Key} {d : D} {v : V} (hd : Rep c B m d v) : ∀ {kvs : List (List Key × D)} {us : List (List Key × V)}, RepT c B m kvs us → RepT c B m (put k d kvs) (putK us k v) := by
  have any : ∀ {kvs : List (List Key × D)} {us : List (List Key × V)}, RepT c B m kvs us → (kvs.any fun kv => decide (kv.1 = k)) = us.any fun kv => decide (kv.1 = k) := by
    intro kvs
    induction kvs with
    | nil =>
      intro us h
      rw [show us = [] from h]
      rfl
    | cons p r ih =>
      intro us h
      obtain ⟨j, e⟩ := p
      obtain ⟨u, us, rfl, h1, h2⟩ := h
      rw [List.any_cons, List.any_cons, ih h2]
  have mp : ∀ {kvs : List (List Key × D)} {us : List (List Key × V)}, RepT c B m kvs us → RepT c B m (kvs.map fun kv => if kv.1 = k then (kv.1, d) else kv) (us.map fun kv => if kv.1 = k then (kv.1, v) else kv) := by
    intro kvs
    induction kvs with
    | nil =>
      intro us h
      rw [show us = [] from h]
      exact rfl
    | cons p r ih =>
      intro us h
      obtain ⟨j, e⟩ := p
      obtain ⟨u, us, rfl, h1, h2⟩ := h
      rw [List.map_cons, List.map_cons]
      by_cases z : j = k
      · rw [if_pos z, if_pos z]
        exact ⟨v, _, rfl, hd, ih h2⟩
      · rw [if_neg z, if_neg z]
        exact ⟨u, _, rfl, h1, ih h2⟩
  have ap : ∀ {kvs : List (List Key × D)} {us : List (List Key × V)}, RepT c B m kvs us → RepT c B m (kvs ++ [(k, d)]) (us ++ [(k, v)]) := by
    intro kvs
    induction kvs with
    | nil =>
      intro us h
      rw [show us = [] from h]
      exact ⟨v, [], rfl, hd, rfl⟩
    | cons p r ih =>
      intro us h
      obtain ⟨j, e⟩ := p
      obtain ⟨u, us, rfl, h1, h2⟩ := h
      exact ⟨u, _, rfl, h1, ih h2⟩
  intro kvs us h
  unfold PB.put putK
  rw [any h]
  split
  · exact mp h
  · exact ap h
theorem setD_cases {du dk d dz : D} (h : setD du dk d = some dz) : (∃ ds n j, du = .lst ds ∧ dk = .int n ∧ L2.ixN ds.length n = some j ∧ dz = .lst (ds.set j d)) ∨
    (∃ kvs k, du = .dk kvs ∧ toKey dk = some k ∧ kvs.length < sizeLine ∧ dz = .dk (put k d kvs)) ∨ ∃ kvs es ks, du = .dt kvs ∧ dk = .tup es ∧ toKeys es = some ks ∧ kvs.length < sizeLine ∧ dz = .dt (put ks d kvs) := by
  cases du with
  | lst ds =>
    cases dk <;> first | (cases h; done) | skip
    rename_i n
    have h : (match L2.ixN ds.length n with
      | some k => some (D.lst (ds.set k d))
      | none => none) = some dz := h
    split at h
    · rename_i j q
      cases h
      exact .inl ⟨ds, n, j, rfl, rfl, q, rfl⟩
    · cases h
  | dk kvs =>
    cases dk <;> first | (cases h; done) | skip
    · rename_i n
      have h : (if kvs.length < sizeLine then some (D.dk (put (.inl n) d kvs)) else none) = some dz := h
      split at h
      · cases h
        exact .inr (.inl ⟨kvs, _, rfl, rfl, by assumption, rfl⟩)
      · cases h
    · rename_i n
      have h : (if kvs.length < sizeLine then some (D.dk (put (.inr n) d kvs)) else none) = some dz := h
      split at h
      · cases h
        exact .inr (.inl ⟨kvs, _, rfl, rfl, by assumption, rfl⟩)
      · cases h
  | dt kvs =>
    cases dk <;> first | (cases h; done) | skip
    rename_i es
    have h : (match toKeys es with
      | some ks => if kvs.length < sizeLine then some (D.dt (put ks d kvs)) else none
      | none => none) = some dz := h
    split at h
    · rename_i ks q
      split at h
      · cases h
        exact .inr (.inr ⟨kvs, es, ks, rfl, rfl, q, by assumption, rfl⟩)
      · cases h
    · cases h
  | _ => cases h
theorem r_setI (hu : X.A.units + 1 < cLine) {o i e : E} {ox ix y : Expr} {pos pos' : Pos} (hs : swapsWith y (some (.Subscript ox ix pos')) pos.line X.env = pure false) (he : PE X y (tEv Z c W e)) (ho : PE X ox (tEv Z c W o)) (hi : PE X ix (tEv Z c W i)) :
    PS X (.Assign [.Subscript ox ix pos'] y pos) (tRun Z c W (.setI o i e)) := by
  refine ⟨fun pins s σ H Dn I h => ?_⟩
  obtain ⟨F, w, s0, sr, h⟩ := h
  have h : PostS c F W w Dn ((ev Z e s0).bind fun v s => (v.fz s).bind fun d s => (ev Z o s).bind fun u s => (ev Z i s).bind fun w s => match u.hold.look s, w.look s with
    | some x, some y => (match setD x y d with
      | some z => (back u.hold s (.im .non, some z)).bind fun _ s => .ok .nx s
      | none => .no)
    | _, _ => .no) := h
  have h1 := he.run pins s σ H (fun x1 H1 => ∃ F w s d, SR c F w H1 σ s ∧ Rep c w.B w.m d x1 ∧ PostS c F W w Dn ((ev Z o s).bind fun u s => (ev Z i s).bind fun w s => match u.hold.look s, w.look s with
    | some x, some y => (match setD x y d with
      | some z => (back u.hold s (.im .non, some z)).bind fun _ s => .ok .nx s
      | none => .no)
    | _, _ => .no)) I ⟨F, w, s0, sr, h.bind fun v s1 w1 H1 x1 sr1 ex1 rv1 h1 => ?_⟩
  · refine wpAny_Assign_Subscript (thn h1 fun v s1 ⟨x1, H1, I1, rx1, F1, w1, s1', d, sr1, rd, h1⟩ => ?_) hs
    have h2 := ho.run pins s1 σ H1 (fun x2 H2 => ∃ w s u, SR c F1 w H2 σ s ∧ Rep c w.B w.m d x1 ∧ RV c F1 σ w H2 u x2 ∧ u.hold = u ∧ PostS c F1 W w Dn ((ev Z i s).bind fun w s => match u.look s, w.look s with
      | some x, some y => (match setD x y d with
        | some z => (back u s (.im .non, some z)).bind fun _ s => .ok .nx s
        | none => .no)
      | _, _ => .no)) I1 ⟨F1, w1, s1', sr1, h1.bind fun u s2 w2 H2 x2 sr2 ex2 rv2 h2 => ?_⟩
    · refine thn h2 fun v2 s2 ⟨x2, H2, I2, rx2, w2, s2', u, sr2, rd2, ru, hh, h2⟩ => ?_
      have h3 := hi.run pins s2 σ H2 (fun x3 H3 => ∃ w s k, SR c F1 w H3 σ s ∧ Rep c w.B w.m d x1 ∧ RV c F1 σ w H3 u x2 ∧ RV c F1 σ w H3 k x3 ∧ PostS c F1 W w Dn (match u.look s, k.look s with
        | some x, some y => (match setD x y d with
          | some z => (back u s (.im .non, some z)).bind fun _ s => .ok .nx s
          | none => .no)
        | _, _ => .no)) I2 ⟨F1, w2, s2', sr2, h2.bind fun k s3 w3 H3 x3 sr3 ex3 rv3 h3 => ⟨w3, s3, k, sr3, RV.im_mono ex3 rd2, RV.mono ex3 hh ru, rv3, h3⟩⟩
      refine thn h3 fun v3 s3 ⟨x3, H3, I3, rx3, w3, s3', k, sr3, rd3, ru3, rk, h3⟩ => ?_
      cases e1 : u.look s3' with
      | none =>
        rw [e1] at h3
        exact h3.elim
      | some du =>
        rw [e1] at h3
        cases e2 : k.look s3' with
        | none =>
          rw [e2] at h3
          exact h3.elim
        | some dk =>
          rw [e2] at h3
          have h3 : PostS c F1 W w3 Dn (match setD du dk d with
            | some z => (back u s3' (.im .non, some z)).bind fun _ s => .ok .nx s
            | none => .no) := h3
          cases e3 : setD du dk d with
          | none =>
            rw [e3] at h3
            exact h3.elim
          | some dz =>
            rw [e3] at h3
            have h9 : PostS c F1 W w3 Dn ((back u s3' (.im .non, some dz)).bind fun _ s => .ok .nx s) := h3
            have vk := rk.look sr3 e2
            rcases recv sr3 ru3 e1 with z | ⟨a, ob, rfl, ha, hr, kk⟩
            · rw [z] at h9
              exact h9.elim
            · obtain rfl : v2 = Value.ref a := rx2
              have fin : ∀ {o' : HO}, RepO c w3 o' dz → Dn.nx σ (upd H3 a o') := fun {o'} hr' => by
                obtain ⟨s', e4, sr4⟩ := kk (.im .non) o' dz hr'
                rw [e4] at h9
                exact h9 w3 _ σ sr4 (Ext.refl _)
              rcases setD_cases e3 with ⟨ds, n, j, rfl, rfl, hj, rfl⟩ | ⟨kvs, k', rfl, hk, hl, rfl⟩ | ⟨kvs, es, ks, rfl, rfl, hk, hl, rfl⟩
              · cases (show x3 = _ from vk)
                cases ob <;> first | exact hr.elim | skip
                rename_i vs
                have hr : Reps c w3.B w3.m ds vs := hr
                exact thn (set_list pins s3 σ H3 (.ref a) (.int n) x1 _ v3 v (fun H4 => Dn.nx σ H4) I3 rfl rx3 rx1 ⟨a, vs, n, j, rfl, rfl, ha, by rw [hr.length]; exact hj, fin (show Reps c w3.B w3.m _ _ from hr.set j rd3)⟩) fun _ s4 ⟨H4, I4, q4⟩ => ⟨σ, H4, I4, q4⟩
              · cases (toKey_rep hk vk)
                cases ob <;> first | exact hr.elim | skip
                rename_i us
                have hr : RepK c w3.B w3.m kvs us := hr
                exact d_setItem hu I3 (DPut.k (k := k') ha (by rw [hr.length]; exact hl)) rx3 rx1 fun s4 I4 => ⟨σ, _, I4, fin (show RepK c w3.B w3.m _ _ from hr.put rd3)⟩
              · obtain ⟨b, vs, rfl, hb, hv⟩ := vk
                cases ob <;> first | exact hr.elim | skip
                rename_i us
                have hr : RepT c w3.B w3.m kvs us := hr
                have hb2 : H3 b = some (.tup (ks.map kV)) := by
                  rw [sr3.bh _ _ hb, toKeys_rep hk hv]
                exact d_setItem hu I3 (DPut.t (k := ks) ha hb2 (by rw [hr.length]; exact hl)) rx3 rx1 fun s4 I4 => ⟨σ, _, I4, fin (show RepT c w3.B w3.m _ _ from hr.put rd3)⟩
    · obtain ⟨w2', sr2', ex2', rv2'⟩ := rv2.hold sr2
      exact ⟨w2', s2, u.hold, sr2', RV.im_mono (ex2.trans ex2') rd, rv2', hold_hold u, h2.ext ex2'⟩
  · cases e1 : v.fz s1 with
    | no =>
      rw [e1] at h1
      exact h1.elim
    | er k fs s' => exact (fz_noEr e1).elim
    | ok d s1' =>
      rw [e1] at h1
      obtain ⟨w1', sr1', ex1', r1⟩ := rv1.fz sr1 e1
      exact ⟨F, w1', s1', d, sr1', r1, PostS.ext ex1' h1⟩
/-! ### o.f = value -/
theorem putF_rep {na : Nat → Str → Bool} {f : Str} {d x z : D} (h : putFD na f d x = some z) : ∃ k fs, x = .ins k fs ∧ na k f = true ∧ fs.length < 200 ∧ z = .ins k (fput f d fs) := by
  cases x <;> first | (cases h; done) | skip
  rename_i k fs
  have h : (if na k f = true ∧ fs.length < 200 then some (D.ins k (fput f d fs)) else none) = some z := h
  by_cases q : na k f = true ∧ fs.length < 200
  · rw [if_pos q] at h
    cases h
    exact ⟨k, fs, rfl, q.1, q.2, rfl⟩
  · rw [if_neg q] at h
    cases h
theorem r_setF (hK : X.K = c.K) (na : NaOk c Z) {o e : E} {f : Str} {ox y : Expr} {pos pos' : Pos} (hs : swapsWith y (some (.Attribute ox f pos')) pos.line X.env = pure false) (ho : PE X ox (tEv Z c W o)) (he : PE X y (tEv Z c W e)) :
    PS X (.Assign [.Attribute ox f pos'] y pos) (tRun Z c W (.setF o f e)) := (ps_fld ho he hs).imp fun Dn σ H h => by
  obtain ⟨F, w, s, sr, h⟩ := h
  have h : PostS c F W w Dn ((ev Z e s).bind fun v s => (v.fz s).bind fun d s => (ev Z o s).bind fun u s => match u.hold.look s with
    | some x => (match putFD Z.na f d x with
      | some z => (back u.hold s (.im .non, some z)).bind fun _ s => .ok .nx s
      | none => .no)
    | none => .no) := h
  refine ⟨F, w, s, sr, h.bind fun v s1 w1 H1 x1 sr1 ex1 rv1 h1 => ?_⟩
  cases e1 : v.fz s1 with
  | no =>
    rw [e1] at h1
    exact h1.elim
  | er k fs s' => exact (fz_noEr e1).elim
  | ok d s1' =>
    rw [e1] at h1
    obtain ⟨w1', sr1', ex1', r1⟩ := rv1.fz sr1 e1
    have h1 := PostS.ext ex1' (show PostS c F W w1 Dn ((ev Z o s1').bind fun u s => match u.hold.look s with
    | some x => (match putFD Z.na f d x with
      | some z => (back u.hold s (.im .non, some z)).bind fun _ s => .ok .nx s
      | none => .no)
    | none => .no) from h1)
    refine ⟨F, w1', s1', sr1', h1.bind fun u s2 w2 H2 x2 sr2 ex2 rv2 h2 => ?_⟩
    obtain ⟨w3, sr3, ex3, rv3⟩ := rv2.hold sr2
    have rd : Rep c w3.B w3.m d x1 := RV.im_mono (ex2.trans ex3) r1
    cases e2 : u.hold.look s2 with
    | none =>
      rw [e2] at h2
      exact h2.elim
    | some x =>
      rw [e2] at h2
      have h2 : PostS c F W w2 Dn (match putFD Z.na f d x with
        | some z => (back u.hold s2 (.im .non, some z)).bind fun _ s => .ok .nx s
        | none => .no) := h2
      cases e3 : putFD Z.na f d x with
      | none =>
        rw [e3] at h2
        exact h2.elim
      | some z =>
        rw [e3] at h2
        have h9 : PostS c F W w2 Dn ((back u.hold s2 (.im .non, some z)).bind fun _ s => .ok .nx s) := h2
        obtain ⟨k, fs, rfl, n1, n2, rfl⟩ := putF_rep e3
        rcases recv sr3 rv3 e2 with q | ⟨a, ob, rfl, ha, hr, kk⟩
        · rw [q] at h9
          exact h9.elim
        · cases ob <;> first | exact hr.elim | skip
          rename_i C dx us
          obtain ⟨rfl, hr⟩ := hr
          obtain ⟨c1, c2⟩ := na.cls k f n1
          refine ⟨a, _, dx, us, rfl, ha, by rw [hK]; exact c1, by rw [hK]; exact c2, by rw [hr.length]; omega, ?_⟩
          obtain ⟨s', e4, sr4⟩ := kk (.im .non) (.ins (c.cA k) dx (L2.putF f x1 us)) (.ins k (fput f d fs)) ⟨rfl, hr.put rd⟩
          rw [e4] at h9
          exact h9 w3 _ σ sr4 ex3
theorem fld_int {na : Nat → Str → Bool} {x : D} {f : Str} {i : Int} (q : fldD na x f = some (.im (.int i))) : ∃ k fs, x = .ins k fs ∧ na k f = true ∧ fget f fs = some (.int i) := by
  cases x <;> first | (cases q; done) | skip
  rename_i k fs
  have q : (if na k f then (fget f fs).map Vl.im else none) = some (.im (.int i)) := q
  by_cases z : na k f = true
  · rw [if_pos z] at q
    cases q2 : fget f fs with
    | none =>
      rw [q2] at q
      cases q
    | some d =>
      rw [q2] at q
      cases q
      exact ⟨k, fs, rfl, z, q2⟩
  · rw [if_neg z] at q
    cases q
theorem r_augF (hK : X.K = c.K) (na : NaOk c Z) {o e : E} {f : Str} {ox y : Expr} {pos tpos : Pos} (ho : PE X ox (tEv Z c W o)) (he : PE X y (tEv Z c W e)) :
    PS X (.AugAssign (.Attribute ox f tpos) .Add y pos) (tRun Z c W (.augF o f e)) := (ps_fldaug ho he in_add).imp fun Dn σ H h => by
  obtain ⟨F, w, s, sr, h⟩ := h
  have h : PostS c F W w Dn ((ev Z o s).bind fun u s => match u.hold.look s with
    | some x => (match fldD Z.na x f with
      | some (.im (.int i)) => (ev Z e s).bind fun v s => (match v.look s, u.hold.look s with
        | some (.int j), some y => if sameK x y then (match putFD Z.na f (.int (i + j)) y with
          | some z => (back u.hold s (.im .non, some z)).bind fun _ s => .ok .nx s
          | none => .no) else .no
        | _, _ => .no)
      | _ => .no)
    | none => .no) := h
  refine ⟨F, w, s, sr, h.bind fun u s1 w1 H1 x1 sr1 ex1 rv1 h1 => ?_⟩
  obtain ⟨w1', sr1', ex1', rv1'⟩ := rv1.hold sr1
  cases e1 : u.hold.look s1 with
  | none =>
    rw [e1] at h1
    exact h1.elim
  | some x =>
    rw [e1] at h1
    have h1 : PostS c F W w1 Dn (match fldD Z.na x f with
      | some (.im (.int i)) => (ev Z e s1).bind fun v s => (match v.look s, u.hold.look s with
        | some (.int j), some y => if sameK x y then (match putFD Z.na f (.int (i + j)) y with
          | some z => (back u.hold s (.im .non, some z)).bind fun _ s => .ok .nx s
          | none => .no) else .no
        | _, _ => .no)
      | _ => .no) := h1
    have vw := rv1'.look sr1' e1
    split at h1
    · rename_i i q
      have h5 := PostS.ext ex1' (show PostS c F W w1 Dn ((ev Z e s1).bind fun v s => (match v.look s, u.hold.look s with
        | some (.int j), some y => if sameK x y then (match putFD Z.na f (.int (i + j)) y with
          | some z => (back u.hold s (.im .non, some z)).bind fun _ s => .ok .nx s
          | none => .no) else .no
        | _, _ => .no)) from h1)
      obtain ⟨k, fs, ex, n1, n2⟩ := fld_int q
      rw [ex] at vw h5
      obtain ⟨a, dx, us, ea, ha, hr⟩ := vw
      rw [ea] at rv1'
      obtain ⟨v0, g1, g2⟩ := (RepF.get f hr).1 _ n2
      cases (show v0 = _ from g2)
      obtain ⟨c1, c2⟩ := na.cls k f n1
      refine ⟨a, _, dx, us, .int i, ea, ha, by rw [hK]; exact c1, by rw [hK]; exact c2, g1, F, w1', s1, sr1', h5.bind fun v s2 w2 H2 x2 sr2 ex2 rv2 h2 => ?_⟩
      have rv3 : RV c F σ w2 H2 u.hold (.ref a) := RV.mono ex2 (hold_hold u) rv1'
      split at h2
      · rename_i j x' q1 q2
        cases (show x2 = _ from rv2.look sr2 q1)
        have h2 : PostS c F W w2 Dn (if sameK (.ins k fs) x' then (match putFD Z.na f (.int (i + j)) x' with
          | some z => (back u.hold s2 (.im .non, some z)).bind fun _ s => .ok .nx s
          | none => .no) else .no) := h2
        by_cases sk : sameK (.ins k fs) x' = true
        · rw [if_pos sk] at h2
          cases e3 : putFD Z.na f (.int (i + j)) x' with
          | none =>
            rw [e3] at h2
            exact h2.elim
          | some z =>
            rw [e3] at h2
            have h9 : PostS c F W w2 Dn ((back u.hold s2 (.im .non, some z)).bind fun _ s => .ok .nx s) := h2
            obtain ⟨k', fs', ex', m1, m2, ez⟩ := putF_rep e3
            rw [ex'] at sk q2
            have kk' : k = k' := of_decide_eq_true sk
            rcases recv sr2 rv3 q2 with q | ⟨a', ob, ea', ha', hr', kk⟩
            · rw [q] at h9
              exact h9.elim
            · cases ea'
              cases ob <;> first | exact hr'.elim | skip
              rename_i C dx' us'
              obtain ⟨eC, hr'⟩ := hr'
              rw [eC, ← kk'] at ha'
              refine ⟨i, j, rfl, rfl, dx', us', ha', by rw [hr'.length]; omega, ?_⟩
              obtain ⟨s', e4, sr4⟩ := kk (.im .non) (.ins (c.cA k') dx' (L2.putF f (.int (i + j)) us')) (.ins k' (fput f (.int (i + j)) fs')) ⟨rfl, RepF.put (d := .int (i + j)) (v := .int (i + j)) rfl hr'⟩
              rw [ez, e4] at h9
              rw [kk']
              exact h9 w2 _ σ sr4 (Ext.refl _)
        · rw [if_neg sk] at h2
          exact h2.elim
      · exact h2.elim
    · exact h1.elim
/-! ### for -/
theorem r_for (hp : PassesOwn (model X.prog X.w) X.A X.env X.xe) (hc : X.calm = true) {tg : Tg} {k : IK} {src : A} {body : C} {tgtE iterE : Expr} {bodyS : List Stmt} {pos : Pos} (hi : PI X tgtE iterE (tIt Z c W k src)) (hg : PG X tgtE (tTg c tg)) (hb : PSs X bodyS (tRun Z c W body)) (hf : noSet iterE = true) :
    PS X (.For tgtE iterE bodyS [] pos) (tRun Z c W (.for_ tg k src body)) := (ps_for hp hc hi hg hb (folded_ok hf)).imp fun Dn σ H h => by
  obtain ⟨F, w, s, sr, h⟩ := h
  obtain ⟨step, hstep⟩ : ∃ step : D → S → R Fl, step = fun d s => (asgT tg d s).bind fun _ s => run Z body s := ⟨_, rfl⟩
  have h : PostS c F W w Dn (((evA Z src s).bind fun ds s => match itemsD k ds with
      | some xs => R.ok xs s
      | none => .no).bind fun xs s => loop step xs s) := by
    rw [R.bind_assoc]
    have e : ((evA Z src s).bind fun ds s => match itemsD k ds with
      | some xs => loop step xs s
      | none => .no) = (evA Z src s).bind fun ds s => ((match itemsD k ds with
      | some xs => R.ok xs s
      | none => .no).bind fun xs s => loop step xs s) := by
      congr 1
      funext ds s
      cases itemsD k ds <;> rfl
    rw [← e, hstep]
    exact h
  refine ⟨F, w, s, sr, h.bind fun xs s1 w1 H1 J sr1 ex1 yl h1 => ?_⟩
  have yl : Yl c w1 xs J := yl
  let Inv : Nat → L2.St → Hp → Prop := fun i σ H => ∃ w s, Ext w1 w ∧ SR c F w H σ s ∧ PostS c F W w Dn (loop step (xs.drop i) s)
  refine ⟨fun i m σ H => m + i = xs.length ∧ Inv i σ H, ⟨xs.length, rfl, w1, s1, Ext.refl _, sr1, h1⟩, ?_⟩
  rintro i m σ2 H2 ⟨hm, w2, s2, ex2, sr2, h2⟩
  by_cases hi : i < xs.length
  · refine .inr ⟨((yl _ _ _ _ _ sr2 ex2).2 i xs[i] (List.getElem?_eq_getElem hi)).1, fun σ' H' => Inv (i + 1) σ' H', fun σ' H' q => ⟨m - 1, by omega, by omega, q⟩, fun x H3 hy => ?_⟩
    obtain ⟨w3, sr3, ex3, rd⟩ := ((yl _ _ _ _ _ sr2 ex2).2 i xs[i] (List.getElem?_eq_getElem hi)).2 x H3 hy
    rw [List.drop_eq_getElem_cons hi] at h2
    have h2 : PostS c F W w2 Dn ((step xs[i] s2).bind fun f s => match f with
      | .nx => loop step (xs.drop (i + 1)) s
      | .ct => loop step (xs.drop (i + 1)) s
      | .bk => .ok .nx s
      | .rt v => .ok (.rt v) s) := h2
    have h3 := PostS.ext ex3 h2
    cases q : asgT tg xs[i] s2 with
    | no =>
      rw [hstep] at h3
      simp only [q] at h3
      exact h3.elim
    | er k fs s' => exact absurd q (asgT_noEr _ _ _)
    | ok a s4 =>
      rw [hstep] at h3
      simp only [q] at h3
      rw [← hstep] at h3
      have h3 : PostS c F W w3 Dn ((run Z body s4).bind fun f s => match f with
        | .nx => loop step (xs.drop (i + 1)) s
        | .ct => loop step (xs.drop (i + 1)) s
        | .bk => .ok .nx s
        | .rt v => .ok (.rt v) s) := h3
      refine ⟨F, w3, s2, xs[i], sr3, rd, s4, q, fun σ4 sr4 _ => ⟨F, w3, s4, sr4, ?_⟩⟩
      cases q2 : run Z body s4 with
      | no =>
        rw [q2] at h3
        exact h3
      | er k fs s5 =>
        rw [q2] at h3
        exact h3
      | ok f s5 =>
        rw [q2] at h3
        cases f with
        | nx => exact fun w5 H5 σ5 sr5 ex5 => ⟨w5, s5, (ex2.trans ex3).trans ex5, sr5, PostS.ext ex5 (show PostS c F W w3 Dn (loop step (xs.drop (i + 1)) s5) from h3)⟩
        | ct => exact fun w5 H5 σ5 sr5 ex5 => ⟨w5, s5, (ex2.trans ex3).trans ex5, sr5, PostS.ext ex5 (show PostS c F W w3 Dn (loop step (xs.drop (i + 1)) s5) from h3)⟩
        | bk => exact h3
        | rt v => exact h3
  · have hi' : i = xs.length := by omega
    subst hi'
    left
    refine ⟨(yl _ _ _ _ _ sr2 ex2).1, ?_⟩
    rw [List.drop_length] at h2
    exact h2 w2 H2 σ2 sr2 (Ext.refl _)
/-! ### for, over a list that lives on -/
theorem r_forL (hp : PassesOwn (model X.prog X.w) X.A X.env X.xe) (hc : X.calm = true) {tg : Tg} {src : E} {body : C} {tgtE iterE : Expr} {bodyS : List Stmt} {pos : Pos} (he : PE X iterE (tEv Z c W src)) (hg : PG X tgtE (tTg c tg)) (hb : PSs X bodyS (tRun Z c W body)) (hf : noSet iterE = true) :
    PS X (.For tgtE iterE bodyS [] pos) (tRun Z c W (.forL tg src body)) := (ps_for hp hc (pi_list he) hg hb (folded_ok hf)).imp fun Dn σ H h => by
  obtain ⟨F, w, s, sr, h⟩ := h
  obtain ⟨step, hstep⟩ : ∃ step : D → S → R Fl, step = fun d s => (asgT tg d s).bind fun _ s => run Z body s := ⟨_, rfl⟩
  have h : PostS c F W w Dn ((ev Z src s).bind fun v s => match v with
      | .im (.cell k) => loopL (fun s => Vl.look s (.im (.cell k))) step Z.wf 0 s
      | _ => .no) := by
    rw [hstep]
    exact h
  refine ⟨F, w, s, sr, h.bind fun v s1 w1 H1 x sr1 ex1 rv h1 => ?_⟩
  obtain ⟨k, rfl⟩ : ∃ k, v = .im (.cell k) := by
    cases v with
    | im d => cases d <;> first | exact ⟨_, rfl⟩ | exact h1.elim
    | own d => exact h1.elim
    | pk i => exact h1.elim
  have h1 : PostS c F W w1 Dn (loopL (fun s => Vl.look s (.im (.cell k))) step Z.wf 0 s1) := h1
  obtain ⟨a, rfl, ha⟩ : ∃ a, x = V.ref a ∧ w1.m[k]? = some a := rv
  have get : ∀ {w : Wd} {H : Hp} {σ : L2.St} {s : S} {d : D}, Ext w1 w → SR c F w H σ s → Vl.look s (.im (.cell k)) = some d → ∃ o, H a = some o ∧ RepO c w o d := fun {w H σ s d} ex sr e => by
    have e : (match s.st[k]? with
      | some (some d) => some d
      | _ => none) = some d := e
    split at e
    · cases e
      rename_i q
      obtain ⟨b, o, g1, g2, g3, g4⟩ := sr.ce k d q
      obtain ⟨e2, hm⟩ := ex.2
      have : w.m[k]? = some a := by
        rw [hm, List.getElem?_append_left (List.getElem?_eq_some_iff.mp ha).1]
        exact ha
      rw [this] at g1
      cases g1
      exact ⟨o, g3, g4⟩
    · cases e
  have lst : ∀ {w : Wd} {H : Hp} {σ : L2.St} {s : S} {n i : Nat}, Ext w1 w → SR c F w H σ s → PostS c F W w Dn (loopL (fun s => Vl.look s (.im (.cell k))) step n i s) → ∃ n' ds vs, n = n' + 1 ∧ Vl.look s (.im (.cell k)) = some (.lst ds) ∧ Rd H a (.lst vs) ∧ Reps c w.B w.m ds vs ∧ PostS c F W w Dn (match ds[i]? with
      | some d => (step d s).bind fun f s => match f with
        | .nx => loopL (fun s => Vl.look s (.im (.cell k))) step n' (i + 1) s
        | .ct => loopL (fun s => Vl.look s (.im (.cell k))) step n' (i + 1) s
        | .bk => .ok .nx s
        | .rt v => .ok (.rt v) s
      | none => .ok .nx s) := fun {w H σ s n i} ex sr h => by
    cases n with
    | zero => exact h.elim
    | succ n' =>
      unfold loopL at h
      cases q : Vl.look s (.im (.cell k)) with
      | none =>
        simp only [q] at h
        exact h.elim
      | some d =>
        simp only [q] at h
        obtain ⟨o, g1, g2⟩ := get ex sr q
        cases d <;> first | exact h.elim | skip
        rename_i ds
        cases o <;> first | exact g2.elim | skip
        rename_i vs
        exact ⟨n', ds, vs, rfl, rfl, Rd.of g1, g2, h⟩
  obtain ⟨_, _, vs0, _, _, gs0, _, _⟩ := lst (Ext.refl _) sr1 h1
  refine ⟨a, rfl, ⟨vs0, .inl gs0⟩, ?_⟩
  let Inv : Nat → Nat → L2.St → Hp → Prop := fun i m σ H => ∃ w s, Ext w1 w ∧ SR c F w H σ s ∧ PostS c F W w Dn (loopL (fun s => Vl.look s (.im (.cell k))) step m i s)
  refine ⟨Inv, ⟨Z.wf, w1, s1, Ext.refl _, sr1, h1⟩, ?_⟩
  rintro i m σ2 H2 ⟨w2, s2, ex2, sr2, h2⟩
  obtain ⟨m', ds, vs, rfl, look, gs, rp, h2⟩ := lst ex2 sr2 h2
  cases qi : ds[i]? with
  | none =>
    rw [qi] at h2
    left
    refine ⟨⟨vs, .inl gs, ?_⟩, h2 w2 H2 σ2 sr2 (Ext.refl _)⟩
    rw [rp.length]
    exact List.getElem?_eq_none_iff.mp qi
  | some d =>
    rw [qi] at h2
    obtain ⟨v, gv, rv⟩ := rp.get qi
    refine .inr ⟨⟨vs, v, .inl gs, gv⟩, fun σ' H' => Inv (i + 1) m' σ' H', fun σ' H' q => ⟨m', by omega, q⟩, fun x H3 hy => ?_⟩
    obtain ⟨rfl, hy⟩ := hy
    have hx := hy vs (.inl gs)
    rw [gv] at hx
    cases hx
    have h3 : PostS c F W w2 Dn ((step d s2).bind fun f s => match f with
        | .nx => loopL (fun s => Vl.look s (.im (.cell k))) step m' (i + 1) s
        | .ct => loopL (fun s => Vl.look s (.im (.cell k))) step m' (i + 1) s
        | .bk => .ok .nx s
        | .rt v => .ok (.rt v) s) := h2
    cases q : asgT tg d s2 with
    | no =>
      rw [hstep] at h3
      simp only [q] at h3
      exact h3.elim
    | er k fs s' => exact absurd q (asgT_noEr _ _ _)
    | ok u s4 =>
      rw [hstep] at h3
      simp only [q] at h3
      rw [← hstep] at h3
      have h3 : PostS c F W w2 Dn ((run Z body s4).bind fun f s => match f with
        | .nx => loopL (fun s => Vl.look s (.im (.cell k))) step m' (i + 1) s
        | .ct => loopL (fun s => Vl.look s (.im (.cell k))) step m' (i + 1) s
        | .bk => .ok .nx s
        | .rt v => .ok (.rt v) s) := h3
      refine ⟨F, w2, s2, d, sr2, rv, s4, q, fun σ4 sr4 _ => ⟨F, w2, s4, sr4, ?_⟩⟩
      cases q2 : run Z body s4 with
      | no =>
        rw [q2] at h3
        exact h3
      | er k fs s5 =>
        rw [q2] at h3
        exact h3
      | ok f s5 =>
        rw [q2] at h3
        cases f with
        | nx => exact fun w5 H5 σ5 sr5 ex5 => ⟨w5, s5, ex2.trans ex5, sr5, PostS.ext ex5 (show PostS c F W w2 Dn (loopL (fun s => Vl.look s (.im (.cell k))) step m' (i + 1) s5) from h3)⟩
        | ct => exact fun w5 H5 σ5 sr5 ex5 => ⟨w5, s5, ex2.trans ex5, sr5, PostS.ext ex5 (show PostS c F W w2 Dn (loopL (fun s => Vl.look s (.im (.cell k))) step m' (i + 1) s5) from h3)⟩
        | bk => exact h3
        | rt v => exact h3
/-! ### while -/
theorem r_whl (hp : PassesOwn (model X.prog X.w) X.A X.env X.xe) {t : E} {body : C} {x : Expr} {bodyS : List Stmt} {pos : Pos} (ht : PT X x (tEt Z c W t)) (hb : PSs X bodyS (tRun Z c W body)) : PS X (.While x bodyS [] pos) (tRun Z c W (.whl t body)) := (ps_while hp ht hb).imp fun Dn σ H h => by
  obtain ⟨F, w, s, sr, h⟩ := h
  have h : PostS c F W w Dn (wloop (evT Z t) (run Z body) Z.wf s) := h
  let Inv : Nat → L2.St → Hp → Prop := fun m σ H => ∃ w s, SR c F w H σ s ∧ PostS c F W w Dn (wloop (evT Z t) (run Z body) m s)
  refine ⟨Inv, ⟨Z.wf, w, s, sr, h⟩, ?_⟩
  rintro m σ2 H2 ⟨w2, s2, sr2, h2⟩
  cases m with
  | zero => exact h2.elim
  | succ m =>
    have h2 : PostS c F W w2 Dn ((evT Z t s2).bind fun b s => if b then (run Z body s).bind fun f s => match f with
      | .nx => wloop (evT Z t) (run Z body) m s
      | .ct => wloop (evT Z t) (run Z body) m s
      | .bk => .ok .nx s
      | .rt v => .ok (.rt v) s
      else .ok .nx s) := h2
    refine ⟨F, w2, s2, sr2, h2.bind fun b s3 w3 H3 b' sr3 ex3 rv3 h3 => ?_⟩
    cases (show b = b' from rv3)
    cases b with
    | false => exact iteF (h3 w3 H3 σ2 sr3 (Ext.refl _))
    | true =>
      refine iteT ⟨fun σ' H' => Inv m σ' H', fun σ' H' q => ⟨m, Nat.lt_succ_self _, q⟩, F, w3, s3, sr3, ?_⟩
      have h3 : PostS c F W w3 Dn ((run Z body s3).bind fun f s => match f with
        | .nx => wloop (evT Z t) (run Z body) m s
        | .ct => wloop (evT Z t) (run Z body) m s
        | .bk => .ok .nx s
        | .rt v => .ok (.rt v) s) := h3
      cases q2 : run Z body s3 with
      | no =>
        rw [q2] at h3
        exact h3
      | er k fs s5 =>
        rw [q2] at h3
        exact h3
      | ok f s5 =>
        rw [q2] at h3
        cases f with
        | nx => exact fun w5 H5 σ5 sr5 ex5 => ⟨w5, s5, sr5, PostS.ext ex5 (show PostS c F W w3 Dn (wloop (evT Z t) (run Z body) m s5) from h3)⟩
        | ct => exact fun w5 H5 σ5 sr5 ex5 => ⟨w5, s5, sr5, PostS.ext ex5 (show PostS c F W w3 Dn (wloop (evT Z t) (run Z body) m s5) from h3)⟩
        | bk => exact h3
        | rt v => exact h3
end
end PB

set_option Elab.async false
set_option linter.all false
set_option autoImplicit false
set_option maxRecDepth 100000
/-! THE BRIDGE, 16: the look: a text against its code. -/
namespace PB
open PySem PySem.Spec PyProof.Rows L2
structure Tab where
  fn : List (Nat × Str × Nat)
  mt : List (Nat × Str × Nat × Nat)
  mr : List (Nat × Nat × Str × Nat)
  mc : List (Nat × Nat × Str × Nat)
  gl : List (Nat × Str)
  bi : List Str
  xc : List (Nat × Str)
  rz : List (Nat × Str)
def visB (sc : Scope) (x : Str) : Bool := match sc.names.lookup x with
  | some .local => true
  | some .cell => true
  | some .free => true
  | _ => false
def locB (sc : Scope) (x : Str) : Bool := match sc.names.lookup x with
  | some .local => true
  | some .cell => true
  | _ => false
def lclB (sc : Scope) (x : Str) : Bool := match sc.names.lookup x with
  | some .local => true
  | _ => false
def glB (sc : Scope) (x : Str) : Bool := match sc.names.lookup x with
  | some .globalImplicit => true
  | _ => false
def nmB (x : Str) : Bool := !(x == ("__debug__" : Str)) && !(x == ("__classdict__" : Str)) && decide (x ≠ "__name__")
def BI.nm : BI → Str
  | .len => "len" | .list => "list" | .tuple => "tuple" | .int => "int" | .str => "str" | .min1 => "min" | .max1 => "max" | .min2 => "min" | .max2 => "max" | .sum => "sum" | .all => "all" | .any => "any" | .divmod => "divmod" | .abs => "abs" | .sorted => "sorted"
def mtB : MT → Bool
  | .append => true | .extend => true | .pop0 => true | .popAt => true | .insert => true | .index => true | .reverse => true | .clear => true | .get1 => true | .get2 => true
  | _ => false
def opA : BOp → Operator → Bool
  | .add, .Add => true | .sub, .Sub => true | .mul, .Mult => true | .fdiv, .FloorDiv => true | .mod, .Mod => true | .pow, .Pow => true | .shl, .LShift => true | .shr, .RShift => true | .band, .BitAnd => true | .bor, .BitOr => true | .bxor, .BitXor => true
  | _, _ => false
def opC : BOp → CmpOp → Bool
  | .eq, .Eq => true | .ne, .NotEq => true | .lt, .Lt => true | .le, .LtE => true | .gt, .Gt => true | .ge, .GtE => true | .in_, .In => true | .nin, .NotIn => true | .is_, .Is => true | .isn, .IsNot => true
  | _, _ => false
def cstB : D → Const → Bool
  | .non, .none => true
  | .bl b, .bool c => b == c
  | .int i, .int j => decide (i = j)
  | .str s, .str t => decide (s = t)
  | _, _ => false
def tyB (T : Tab) (sc : Scope) : List Ty → List Expr → Bool
  | [], [] => true
  | t :: ts, .Name y _ :: es => decide (y = Str.ofString t.name) && glB sc y && T.bi.contains y && tyB T sc ts es
  | _, _ => false
/-- own classes and ValueError, by their names -/
def clB (T : Tab) (sc : Scope) (d : Nat) (y : Str) : Bool := glB sc y && ((decide (d = veN) && (decide (y = "ValueError") && T.bi.contains y)) || (decide (d < nonN) && (T.xc.contains (d, y) && nmB y)))
def xcB (T : Tab) (sc : Scope) : List Nat → List Expr → Bool
  | [], [] => true
  | d :: ds, .Name y _ :: es => clB T sc d y && xcB T sc ds es
  | _, _ => false
structure CkG where
  one : Expr → Bool
  many : List Expr → Bool
def chkG (N : List Str) (sc : Scope) : Tg → CkG
  | .nm i => ⟨fun e => match e with
    | .Name x _ => decide (N[i]? = some x) && locB sc x
    | _ => false, fun _ => false⟩
  | .tn => ⟨fun e => match e with
    | .Tuple [] _ _ => true
    | _ => false, fun es => es.isEmpty⟩
  | .tc h t => ⟨fun e => match e with
    | .Tuple (e :: es) _ _ => t.ok && (decide ((e :: es).length = t.n + 1) && ((e :: es).all plainX && ((chkG N sc h).one e && (chkG N sc t).many es)))
    | _ => false, fun es => match es with
    | e :: es => plainX e && ((chkG N sc h).one e && (chkG N sc t).many es)
    | [] => false⟩
structure CkE where
  v : Expr → Bool
  t : Expr → Bool
structure CkA where
  a : List Expr → Bool
  vand : List Expr → Bool
  vor : List Expr → Bool
  tand : List Expr → Bool
  tor : List Expr → Bool
  ifs : List Expr → Bool
  p : List (Option Expr) → List Expr → Bool
  pv : List (Option Expr) → List Expr → Bool
  one : Expr → Bool
def tupB : Expr → Bool
  | .Tuple .. => true
  | _ => false
/-- what is walked -/
def itB (T : Tab) (sc : Scope) (k : IK) (ca : CkA) (tgt iter : Expr) : Bool := noSet iter && (match k with
  | .ex => ca.one iter
  | .r1 => (match iter with
    | .Call (.Name x _) [a] [] _ => decide (x = "range") && (glB sc x && (T.bi.contains x && (plainX a && ca.a [a])))
    | _ => false)
  | .r2 => (match iter with
    | .Call (.Name x _) [a, b] [] _ => decide (x = "range") && (glB sc x && (T.bi.contains x && (plainX a && (plainX b && ca.a [a, b]))))
    | _ => false)
  | .enum => (match iter with
    | .Call (.Name x _) [a] [] _ => decide (x = "enumerate") && (glB sc x && (T.bi.contains x && (plainX a && (tupB tgt && ca.a [a]))))
    | _ => false)
  | .zip => (match iter with
    | .Call (.Name x _) [a, b] [] _ => decide (x = "zip") && (glB sc x && (T.bi.contains x && (plainX a && (plainX b && (tupB tgt && ca.a [a, b])))))
    | _ => false)
  | .rev => (match iter with
    | .Call (.Name x _) [a] [] _ => decide (x = "reversed") && (glB sc x && (T.bi.contains x && (plainX a && ca.one a)))
    | _ => false)
  | _ => false)
def anyT (v : Expr → Bool) : Expr → Bool := fun x => testOk x && v x
mutual
def chkE (T : Tab) (N : List Str) : E → Scope → CkE
  | .var i => fun sc => let v := fun e => match e with
    | .Name x _ => decide (N[i]? = some x) && (visB sc x && nmB x)
    | _ => false
    ⟨v, anyT v⟩
  | .cst d => fun _ => let v := fun e => match e with
    | .Constant k _ _ => cstB d k
    | _ => false
    ⟨v, anyT v⟩
  | .glo g => fun sc => let v := fun e => match e with
    | .Name x _ => T.gl.contains (g, x) && (glB sc x && nmB x)
    | _ => false
    ⟨v, anyT v⟩
  | .bin op a b => fun sc => ⟨fun e => match e with
    | .BinOp x o y _ => opA op o && ((chkE T N a sc).v x && (chkE T N b sc).v y)
    | .Compare x [o] [y] _ => opC op o && (noSet y && ((chkE T N a sc).v x && (chkE T N b sc).v y))
    | _ => false, fun e => match e with
    | .BinOp x o y _ => opA op o && ((chkE T N a sc).v x && (chkE T N b sc).v y)
    | .Compare x [o] [y] _ => opC op o && (noSet y && ((chkE T N a sc).v x && (chkE T N b sc).v y))
    | _ => false⟩
  | .un op a => fun sc => let v := fun e => match e with
    | .UnaryOp .USub x _ => (chkE T N a sc).v x
    | _ => false
    ⟨v, fun _ => false⟩
  | .chn op op' a b d => fun sc => let v := fun e => match e with
    | .Compare x [o, o'] [y, z] _ => opC op o && (opC op' o' && (noSet z && ((chkE T N a sc).v x && ((chkE T N b sc).v y && (chkE T N d sc).v z))))
    | _ => false
    ⟨v, v⟩
  | .ban a => fun sc => ⟨fun e => match e with
    | .BoolOp .And es _ => (chkA T N a sc).vand es
    | _ => false, fun e => match e with
    | .BoolOp .And es _ => (chkA T N a sc).tand es
    | _ => false⟩
  | .bor a => fun sc => ⟨fun e => match e with
    | .BoolOp .Or es _ => (chkA T N a sc).vor es
    | _ => false, fun e => match e with
    | .BoolOp .Or es _ => (chkA T N a sc).tor es
    | _ => false⟩
  | .nt a => fun sc => ⟨fun e => match e with
    | .UnaryOp .Not x _ => (chkE T N a sc).v x
    | _ => false, fun e => match e with
    | .UnaryOp .Not x _ => (chkE T N a sc).t x
    | _ => false⟩
  | .ife t a b => fun sc => ⟨fun e => match e with
    | .IfExp x y z _ => (chkE T N t sc).t x && ((chkE T N a sc).v y && (chkE T N b sc).v z)
    | _ => false, fun _ => false⟩
  | .tup a => fun sc => let v := fun e => match e with
    | .Tuple es _ _ => (chkA T N a sc).a es
    | _ => false
    ⟨v, anyT v⟩
  | .lst a => fun sc => let v := fun e => match e with
    | .List es _ => (chkA T N a sc).a es
    | _ => false
    ⟨v, anyT v⟩
  | .dK => fun _ => ⟨fun e => match e with
    | .Dict [] [] _ => true
    | _ => false, fun _ => false⟩
  | .dT => fun _ => ⟨fun e => match e with
    | .Dict [] [] _ => true
    | _ => false, fun _ => false⟩
  | .dic a => fun sc => ⟨fun e => match e with
    | .Dict ks vs _ => decide (a.len = 2 * ks.length) && (decide (vs.length = ks.length) && (decide (0 < ks.length) && (decide (ks.length ≤ 15) && (ks.all (·.isSome) && (chkA T N a sc).p ks vs))))
    | _ => false, fun _ => false⟩
  | .sub a i => fun sc => let v := fun e => match e with
    | .Subscript x y _ => noSlice y && ((chkE T N a sc).v x && (chkE T N i sc).v y)
    | _ => false
    ⟨v, anyT v⟩
  | .sli a lo hi => fun sc => let v := fun e => match e with
    | .Subscript x (.Slice l h none _) _ => (chkE T N a sc).v x && ((match l, lo with
      | none, .nop => true
      | some l, _ => (chkE T N lo sc).v l
      | _, _ => false) && (match h, hi with
      | none, .nop => true
      | some h, _ => (chkE T N hi sc).v h
      | _, _ => false))
    | _ => false
    ⟨v, anyT v⟩
  | .nop => fun _ => ⟨fun _ => false, fun _ => false⟩
  | .fld a f => fun sc => let v := fun e => match e with
    | .Attribute x g _ => decide (f = g) && (baseOk x && (chkE T N a sc).v x)
    | _ => false
    ⟨v, anyT v⟩
  | .bi f a => fun sc => let v := fun e => match e with
    | .Call (.Name x _) (y :: ys) [] _ => decide (x = f.nm) && (glB sc x && (T.bi.contains x && ((y :: ys).all plainX && (chkA T N a sc).a (y :: ys))))
    | _ => false
    ⟨v, anyT v⟩
  | .mt m o a => fun sc => let v := fun e => match e with
    | .Call (.Attribute x g ap) es [] cp => decide (g = m.name) && (mtB m && (baseOk x && (es.all plainX && (decide (es.length < 30) && ((ap.endLine == cp.line) && ((chkE T N o sc).v x && (chkA T N a sc).a es))))))
    | _ => false
    ⟨v, anyT v⟩
  | .cal i a => fun sc => let v := fun e => match e with
    | .Call (.Name x _) es [] _ => T.fn.contains (i, x, a.len) && (glB sc x && (nmB x && (es.all plainX && (chkA T N a sc).a es)))
    | _ => false
    ⟨v, anyT v⟩
  | .calP i a => fun sc => let v := fun e => match e with
    | .Call (.Name x _) es [] _ => T.fn.contains (i, x, a.len) && (glB sc x && (nmB x && (es.all plainX && (chkA T N a sc).a es)))
    | _ => false
    ⟨v, anyT v⟩
  | .calD i a => fun sc => let v := fun e => match e with
    | .Call (.Name x _) es [] _ => T.fn.contains (i, x, a.len) && (glB sc x && (nmB x && (es.all plainX && (chkA T N a sc).a es)))
    | _ => false
    ⟨v, anyT v⟩
  | .mkP kc i a => fun sc => let v := fun e => match e with
    | .Call (.Name x _) es [] _ => T.mr.contains (kc, i, x, a.len) && (glB sc x && (nmB x && (es.all plainX && (chkA T N a sc).a es)))
    | _ => false
    ⟨v, fun _ => false⟩
  | .met i m kc o a => fun sc => let v := fun e => match e with
    | .Call (.Attribute x g ap) es [] cp => decide (g = m) && (T.mt.contains (i, m, kc, a.len) && (baseOk x && (es.all plainX && (decide (es.length < 30) && ((ap.endLine == cp.line) && ((chkE T N o sc).v x && (chkA T N a sc).a es))))))
    | _ => false
    ⟨v, anyT v⟩
  | .mkC kc i a => fun sc => let v := fun e => match e with
    | .Call (.Name x _) es [] _ => T.mc.contains (kc, i, x, a.len) && (glB sc x && (nmB x && (es.all plainX && (chkA T N a sc).a es)))
    | _ => false
    ⟨v, fun _ => false⟩
  | .mkR kc i a => fun sc => let v := fun e => match e with
    | .Call (.Name x _) es [] _ => T.mr.contains (kc, i, x, a.len) && (glB sc x && (nmB x && (es.all plainX && (chkA T N a sc).a es)))
    | _ => false
    ⟨v, fun _ => false⟩
  | .isx a ts => fun sc => let v := fun e => match e with
    | .Call (.Name x _) [y, .Name z p] [] _ => decide (x = "isinstance") && (glB sc x && (T.bi.contains x && (plainX y && (decide (ts.length = 1) && (xcB T sc ts [.Name z p] && (chkE T N a sc).v y)))))
    | .Call (.Name x _) [y, .Tuple es _ _] [] _ => decide (x = "isinstance") && (glB sc x && (T.bi.contains x && (plainX y && (decide (ts.length ≤ 20) && (decide (ts.length ≠ 0) && (xcB T sc ts es && (chkE T N a sc).v y))))))
    | _ => false
    ⟨v, anyT v⟩
  | .isi a ts => fun sc => let v := fun e => match e with
    | .Call (.Name x _) [y, .Name z p] [] _ => decide (x = "isinstance") && (glB sc x && (T.bi.contains x && (plainX y && (decide (ts.length = 1) && (tyB T sc ts [.Name z p] && (chkE T N a sc).v y)))))
    | .Call (.Name x _) [y, .Tuple es _ _] [] _ => decide (x = "isinstance") && (glB sc x && (T.bi.contains x && (plainX y && (decide (ts.length ≤ 10) && (tyB T sc ts es && (chkE T N a sc).v y)))))
    | _ => false
    ⟨v, anyT v⟩
  | .lc elt tg k src ifs ow => fun sc => let v := fun e => match e with
    | .ListComp el [⟨tgt, iter, fs, 0⟩] scope _ => itB T sc k (chkA T N src sc) tgt iter && (blkC N sc scope (ow.map fun i => ((N[i]?).getD "", i)) && ((chkG N scope tg).one tgt && ((chkA T N ifs scope).ifs fs && ((chkE T N elt scope).v el && (tg.slots.all (ow.contains ·))))))
    | _ => false
    ⟨v, anyT v⟩
  | .lrv a => fun sc => let v := fun e => match e with
    | .Call (.Name x _) [.Call (.Name y _) [z] [] _] [] _ => decide (x = "list") && (decide (y = "reversed") && (glB sc x && (glB sc y && (T.bi.contains x && (T.bi.contains y && (plainX z && (chkE T N a sc).v z))))))
    | _ => false
    ⟨v, anyT v⟩
  | .nwc a => fun sc => ⟨(chkE T N a sc).v, fun _ => false⟩
  | .fzc a => fun sc => ⟨(chkE T N a sc).v, fun _ => false⟩
def chkA (T : Tab) (N : List Str) : A → Scope → CkA
  | .nil => fun _ => ⟨fun es => es.isEmpty, fun _ => false, fun _ => false, fun _ => false, fun _ => false, fun es => es.isEmpty, fun ks vs => ks.isEmpty && vs.isEmpty, fun _ _ => false, fun _ => false⟩
  | .cons e r => fun sc => ⟨fun es => match es with
    | x :: xs => plainX x && ((chkE T N e sc).v x && (chkA T N r sc).a xs)
    | [] => false, fun es => match r, es with
    | .nil, [x] => (chkE T N e sc).v x
    | .cons _ _, x :: y :: ys => (chkE T N e sc).v x && (chkA T N r sc).vand (y :: ys)
    | _, _ => false, fun es => match r, es with
    | .nil, [x] => (chkE T N e sc).v x
    | .cons _ _, x :: y :: ys => (chkE T N e sc).v x && (chkA T N r sc).vor (y :: ys)
    | _, _ => false, fun es => match r, es with
    | .nil, [x] => (chkE T N e sc).t x
    | .cons _ _, x :: y :: ys => (chkE T N e sc).t x && (chkA T N r sc).tand (y :: ys)
    | _, _ => false, fun es => match r, es with
    | .nil, [x] => (chkE T N e sc).t x
    | .cons _ _, x :: y :: ys => (chkE T N e sc).t x && (chkA T N r sc).tor (y :: ys)
    | _, _ => false, fun es => match r, es with
    | .nil, [x] => (chkE T N e sc).t x
    | _, _ => false, fun ks vs => match ks with
    | some k :: ks => (chkE T N e sc).v k && (chkA T N r sc).pv ks vs
    | _ => false, fun ks vs => match vs with
    | v :: vs => (chkE T N e sc).v v && (chkA T N r sc).p ks vs
    | _ => false, fun x => match r with
    | .nil => (chkE T N e sc).v x
    | _ => false⟩
end
end PB

set_option Elab.async false
set_option linter.all false
set_option autoImplicit false
set_option maxRecDepth 1000000
set_option maxHeartbeats 2000000
/-! THE BRIDGE, 9b: list(reversed(..)). -/
namespace PB
open PySem PySem.Spec PyProof.Rows L2 RT
section
variable {prog : Program} {w : World} {A : Around} {E : Value → Shared → Prop} {s : Shared} {R : Result → Shared → Prop}
theorem ext_rev {it l S : Addr} {items : Array Value} (hh : A.in1.handled = none) (hit : s.heap.IsRevIter it l ((items.size : Int) - 1)) (hl : s.heap.IsList l items) (hne : l ≠ it) (hn : items.size ≤ sizeLine) (res : Value) (c₀ : Nat) (hSi : S ≠ it) (hSl : S ≠ l)
    (hS : s.heap.get? S = some { cls := .type "list", data := .seq #[] c₀ })
    (hR : ∀ s' acc' c', (∀ b o, b ≠ it → b ≠ S → s.heap.get? b = some o → s'.heap.get? b = some o) → s'.heap.get? S = some { cls := .type "list", dict := none, data := .seq acc' c', slots := #[] } → ItemsOf (fun i v => items[items.size - 1 - i]? = some v) acc' items.size → s' = { s with heap := s'.heap, toks := s'.toks } → R (.ok (.ret res)) s') :
    wpAny (model prog w) A.in1 (Builtin.List.listExtendWith (.ref S) (.ref it) res)
      (fun fin s' => match fin with | .done f => R (.ok f) s' | .again c' => c'.quiet = true ∧ codeAny (model prog w) A c' R s') (fun e s' => R (.error e) s') s := by
  have W := (Walks.listRev (prog := prog) (w := w) (A := A.in1) hh it l hne items).toS
  have hSf : S ∉ [it, l] := by
    simp only [List.mem_cons, List.not_mem_nil, or_false, not_or]
    exact ⟨hSi, hSl⟩
  have hT : s.TypeIs (.ref it) "list_reverseiterator" := hit.typeIs
  have h1 : Builtin.List.listSameRef (.ref S) (.ref it) = false := by simp [Builtin.List.listSameRef, hSi]
  unfold Builtin.List.listExtendWith
  refine wpAny_bind (wpAny_typeOf hT ?_)
  rw [if_neg (by rw [h1]; decide)]
  refine wpAny_bind (wpAny_pyIter_revIter hit ?_)
  refine wpAny_bind (wpAny_holding ?_)
  unfold Builtin.List.listLengthHint
  refine wpAny_bind (wpAny_specialOf hT nolen_lri ?_)
  show wpAny _ A.in1 (specialOf (Value.ref it) (Str.ofString "__length_hint__") >>= _) _ _ _
  refine wpAny_bind (wpAny_specialOf hT hint_lri ?_)
  generalize hid : ("list_reverseiterator.__length_hint__" : String) = id0
  wp_delta
  rw [show splitId id0 = some ("list_reverseiterator", "__length_hint__") from by subst hid; decide +kernel]
  subst hid
  refine wpAny_bind (wpAny_isInstance (b := true) hT (by rw [isSubtype_type]; kernel_rfl) ?_)
  refine wpAny_pure ?_
  rw [if_neg (by decide)]
  have e0 : ((items.size : Nat) : Int) - 1 - ((0 : Nat) : Int) = (items.size : Int) - 1 := by omega
  refine wpAny_pure ⟨plainId_quiet F.plain_extend_loop _, codeAny_extend_loopS W hn _ hSf _ items.size 0 _ _ _ rfl (Nat.zero_le _) ⟨Nat.zero_le _, by rw [e0]; exact hit, hl⟩ hS (ItemsOf.nil _) fun s' acc' c' hm hS' hacc => ?_⟩
  refine hR s' acc' c' (fun b o hb hbS e => hm.heap b o (fun hmem => ?_) e) hS' hacc (Moved.eq_with hm)
  rcases List.mem_cons.mp hmem with e' | hmem
  · exact hbS e'
  · exact hb (List.mem_singleton.mp hmem)
theorem init_rev {it l S : Addr} {items : Array Value} (hh : A.in1.handled = none) (hit : s.heap.IsRevIter it l ((items.size : Int) - 1)) (hl : s.heap.IsList l items) (hne : l ≠ it) (hn : items.size ≤ sizeLine) (hSi : S ≠ it) (hSl : S ≠ l)
    (hS : s.heap.get? S = some { cls := .type "list", data := .seq #[] })
    (hR : ∀ s' acc' c', (∀ b o, b ≠ it → b ≠ S → s.heap.get? b = some o → s'.heap.get? b = some o) → s'.heap.get? S = some { cls := .type "list", dict := none, data := .seq acc' c', slots := #[] } → ItemsOf (fun i v => items[items.size - 1 - i]? = some v) acc' items.size → s' = { s with heap := s'.heap, toks := s'.toks } → R (.ok (.ret .none)) s') :
    wpAny (model prog w) A.in1 (Builtin.«list.__init__» ⟨[.ref S, .ref it], []⟩)
      (fun fin s' => match fin with | .done f => R (.ok f) s' | .again c' => c'.quiet = true ∧ codeAny (model prog w) A c' R s') (fun e s' => R (.error e) s') s := by
  show wpAny _ A.in1 (Builtin.List.listItems (.ref S) >>= fun old => Builtin.List.listUpdate (.ref S) (fun _ => #[]) >>= fun _ => letGo old.toList.reverse >>= fun _ => Builtin.List.listExtendWith (.ref S) (.ref it) .none) _ _ s
  refine wpAny_bind ?_
  unfold Builtin.List.listItems
  refine wpAny_bind (wpAny_seqItems hS rfl (wpAny_pure ?_))
  show wpAny _ A.in1 (updateSeq S (fun _ => #[]) >>= fun _ => _) _ _ s
  refine wpAny_bind (wpAny_updateSeq hS rfl ?_)
  have hS2 := Heap.get?_update_self (Obj.mapSeq (fun _ => (#[] : Array Value))) hS rfl
  have oth : ∀ b o, b ≠ S → s.heap.get? b = some o → (s.heap.update S (Obj.mapSeq (fun _ => (#[] : Array Value)))).get? b = some o := fun b o hb e => (Heap.get?_update_other _ _ (Ne.symm hb)).trans e
  refine wpAny_bind (wpAny_letGo ?_)
  have hl2 : ({ s with heap := s.heap.update S (Obj.mapSeq (fun _ => (#[] : Array Value))) } : Shared).heap.IsList l items := by
    obtain ⟨o, ho, r⟩ := hl
    exact ⟨o, oth l o (Ne.symm hSl) ho, r⟩
  refine ext_rev (s := { s with heap := s.heap.update S (Obj.mapSeq (fun _ => (#[] : Array Value))) }) hh (hit.at fun o e => oth it o (Ne.symm hSi) e) hl2 hne hn .none _ hSi hSl hS2 fun s' acc' c' k hS' hacc e => ?_
  exact hR s' acc' c' (fun b o hb hbS q => k b o hb hbS (oth b o hbS q)) hS' hacc e
theorem call_list_rev {it l : Addr} {items : Array Value} {Q : Value → Shared → Prop} (hh : A.handled = none) (hit : s.heap.IsRevIter it l ((items.size : Int) - 1)) (hl : s.heap.IsList l items) (hne : l ≠ it) (hn : items.size ≤ sizeLine)
    (hQ : ∀ s' acc' c', (∀ b o, b ≠ it → s.heap.get? b = some o → s'.heap.get? b = some o) → s'.heap.get? s.heap.objs.size = some { cls := .type "list", dict := none, data := .seq acc' c', slots := #[] } → ItemsOf (fun i v => items[items.size - 1 - i]? = some v) acc' items.size → s' = { s with heap := s'.heap, toks := s'.toks } → Q (.ref s.heap.objs.size) s') :
    wpAny (model prog w) A (call (.type "list") [.ref it]) Q E s := by
  have h1 : it < s.heap.objs.size := by
    obtain ⟨o, ho, _⟩ := hit
    exact Heap.lt_size ho
  have h2 : l < s.heap.objs.size := by
    obtain ⟨o, ho, _⟩ := hl
    exact Heap.lt_size ho
  refine callType_codes (Q₁ := fun obj s₁ => obj = .ref s.heap.objs.size ∧ s₁ = { s with heap := s.heap.push { cls := .type "list", data := .seq #[] } }) F.called_list (F.typeCall_list_1 _) F.entry_list_init (code_list_new _ ⟨rfl, rfl⟩) fun obj s₁ h₁ => ?_
  obtain ⟨rfl, rfl⟩ := h₁
  have hS : (s.heap.push { cls := .type "list", data := .seq #[] }).get? s.heap.objs.size = some { cls := .type "list", data := .seq #[] } := Heap.get?_push_size _ rfl
  refine ⟨⟨_, hS, rfl⟩, F.args_list_init_2 _ _, init_rev (A := A.in1) (s := { s with heap := s.heap.push { cls := .type "list", data := .seq #[] } }) hh (hit.at fun o e => Heap.get?_push_of_some _ e) (hl.push _) hne hn (Nat.ne_of_gt h1) (Nat.ne_of_gt h2) hS fun s' acc' c' k hS' hacc e => ⟨rfl, ?_⟩⟩
  refine hQ s' acc' c' (fun b o hb q => k b o hb (Nat.ne_of_lt (Heap.lt_size q)) (Heap.get?_push_of_some _ q)) hS' hacc ?_
  rw [e]
end
theorem nolen_rt : typeLookup (.type "reversed") "__len__" = pure none := by rw [typeLookup_type, builtinLookup_eq_fast]; kernel_rfl
theorem slot_rt_hint : Slot "reversed" "__length_hint__" "reversed.__length_hint__" :=
  .of (owner := "reversed") (n := "__length_hint__") (by rw [typeLookup_type, builtinLookup_eq_fast]; kernel_rfl) (by decide +kernel) (by decide +kernel) (by decide +kernel)
    (by first | exact .inl (by decide +kernel) | exact .inr (by decide +kernel)) (by rw [isSubtype_type]; kernel_rfl)
theorem entry_rt_hint : entryFor table "reversed.__length_hint__" = some Builtin.«reversed.__length_hint__» := entryFor_of_tree (by kernel_rfl)
theorem args_rt_hint (a : Value) : argsOk "reversed.__length_hint__" ⟨[a], []⟩ := by
  unfold argsOk
  rw [signature?_of (id := "reversed.__length_hint__") (n := ['_', '_', 't', 'n', 'i', 'h', '_', 'h', 't', 'g', 'n', 'e', 'l', '_', '_']) (o := ['d', 'e', 's', 'r', 'e', 'v', 'e', 'r']) (by kernel_rfl) owner_rt]
  kernel_rfl
section
variable {prog : Program} {w : World} {A : Around} {E : Value → Shared → Prop} {s : Shared} {R : Result → Shared → Prop}
theorem hintCall_rt {it t : Addr} {items : Array Value} {Q : Value → Shared → Prop} (hit : IsRt s.heap it t ((items.size : Int) - 1)) (ht : IsTup s.heap t items) (hn : items.size ≤ sizeLine)
    (hQ : ∀ k tk, Q (.int items.size k) { s with toks := tk }) : wpAny (model prog w) A (call (.builtin "reversed.__length_hint__") [.ref it]) Q E s := by
  obtain ⟨o, ho, hc, hd⟩ := id hit
  refine wpAny_call_entry slot_rt_hint hit.typeIs entry_rt_hint ?_ (args_rt_hint _)
  unfold Builtin.«reversed.__length_hint__»
  refine wpAny_bind (wpAny_of_eq (a := Value.ref it) rfl ?_)
  refine wpAny_bind (wpAny_field ho hd (x := .ref t) rfl ?_)
  rw [if_neg (show ¬ ((Value.ref t == Value.none) = true) from Bool.false_ne_true)]
  have h63 := line63
  refine wpAny_bind (len_tuple ht (by omega) ?_)
  refine wpAny_bind (wpAny_of_eq (a := some ((items.size : Nat) : Int)) rfl ?_)
  try dsimp only
  refine wpAny_bind (wpAny_field (s := { s with toks := s.toks + 1 + 1 }) ho hd (x := rawInt ((items.size : Int) - 1)) rfl ?_)
  show wpAny _ _ (if ((items.size : Nat) : Int) < ((items.size : Nat) : Int) - 1 + 1 then _ else retInt (((items.size : Nat) : Int) - 1 + 1)) _ _ _
  rw [if_neg (by omega), show ((items.size : Nat) : Int) - 1 + 1 = (items.size : Nat) from by omega]
  exact wpAny_ret_mkInt (hQ _ _)
theorem hint_rt {it t : Addr} {items : Array Value} {Q : Bool → Shared → Prop} (hit : IsRt s.heap it t ((items.size : Int) - 1)) (ht : IsTup s.heap t items) (hn : items.size ≤ sizeLine)
    (hQ : ∀ b tk, Q b { s with toks := tk }) : wpAny (model prog w) A (Builtin.List.listLengthHint (.ref it)) Q E s := by
  have hT : s.TypeIs (.ref it) "reversed" := hit.typeIs
  unfold Builtin.List.listLengthHint
  refine wpAny_bind (wpAny_specialOf hT nolen_rt ?_)
  show wpAny _ _ (specialOf (Value.ref it) (Str.ofString "__length_hint__") >>= _) _ _ _
  refine wpAny_bind (wpAny_specialOf hT slot_rt_hint.lookup ?_)
  generalize hid : ("reversed.__length_hint__" : String) = id0
  wp_delta
  rw [show splitId id0 = some ("reversed", "__length_hint__") from by subst hid; decide +kernel]
  subst hid
  refine wpAny_bind (wpAny_isInstance (b := true) hT (by rw [isSubtype_type]; kernel_rfl) ?_)
  rw [if_neg (by decide)]
  try dsimp only
  rw [if_neg (by decide +kernel)]
  refine wpAny_bind (wpAny_rule ?_)
  refine wpAny_bind (wpAny_of_eq (slot_rt_hint.bind _) ?_)
  try dsimp only
  refine wpAny_bind (wpAny_attempt (hintCall_rt hit ht hn fun k tk => ?_))
  try dsimp only
  have h63 := line63
  have f1 : Builtin.List.listFitsIndex ((items.size : Nat) : Int) = true := by
    unfold Builtin.List.listFitsIndex
    rw [Bool.and_eq_true]
    exact ⟨decide_eq_true (by omega), decide_eq_true (by omega)⟩
  have f2 : Builtin.List.listTooLong ((items.size : Nat) : Int).toNat = false := by
    unfold Builtin.List.listTooLong
    rw [decide_eq_false_iff_not]
    omega
  have ea : asInt? (.int ((items.size : Nat) : Int) k) = pure (some ((items.size : Nat) : Int)) := rfl
  rw [ea, pure_bind]
  try dsimp only
  rw [f1]
  rw [if_neg (show ¬ ((!true) = true) from by decide)]
  rw [if_neg (show ¬ ((items.size : Int) < 0) from by omega)]
  rw [f2]
  rw [if_neg Bool.false_ne_true]
  exact wpAny_pure (hQ _ _)
theorem walk_rt (hh : A.handled = none) (I l : Addr) (hne : l ≠ I) (items : Array Value) (hz : items.size ≤ sizeLine) :
    Walks prog w A I [I, l] [I] items.size (fun i v => items[items.size - 1 - i]? = some v) (fun i h => i ≤ items.size ∧ IsRt h I l ((items.size : Int) - 1 - (i : Int)) ∧ IsTup h l items) where
  sub := fun b hb => by
    simp at hb
    simp [hb]
  frame := fun _ _ _ x hk => ⟨x.1, x.2.1.at fun o e => hk I (by simp) o e, by
    obtain ⟨o, ho, r⟩ := x.2.2
    exact ⟨o, hk l (by simp) o ho, r⟩⟩
  item := fun i s Q E hi x hQ => by
    have e : (items.size : Int) - 1 - (i : Int) = ((items.size - 1 - i : Nat) : Int) := by omega
    have hit := x.2.1
    rw [e] at hit
    have hx : items[items.size - 1 - i]? = some (items[items.size - 1 - i]'(by omega)) := Array.getElem?_eq_getElem (by omega)
    refine next_rt_item hit x.2.2 hx hz fun h' hit' hs' => ?_
    have e2 : ((items.size - 1 - i : Nat) : Int) - 1 = (items.size : Int) - 1 - ((i + 1 : Nat) : Int) := by omega
    rw [e2] at hit'
    have tp : IsTup h' l items := by
      obtain ⟨o, ho, r⟩ := x.2.2
      exact ⟨o, (hs'.2 l hne).trans ho, r⟩
    exact hQ _ h' (s.toks + 1) hx ⟨hi, hit', tp⟩ fun b o hb eo => hs'.extBut b o (fun h => hb (by simp [h])) eo
  done := fun s Q E x hQ => by
    have e : (items.size : Int) - 1 - (items.size : Int) = -1 := by omega
    have hit := x.2.1
    rw [e] at hit
    exact next_rt_end hh hit fun h' he' => hQ h' s.toks fun b o hb eo => he' b o (fun h => hb (by simp [h])) eo
  self := fun _ _ _ _ x hQ => iter_rt x.2.1 hQ
theorem ext_rt {it l S : Addr} {items : Array Value} (hh : A.in1.handled = none) (hit : IsRt s.heap it l ((items.size : Int) - 1)) (hl : IsTup s.heap l items) (hne : l ≠ it) (hn : items.size ≤ sizeLine) (res : Value) (c₀ : Nat) (hSi : S ≠ it) (hSl : S ≠ l)
    (hS : s.heap.get? S = some { cls := .type "list", data := .seq #[] c₀ })
    (hR : ∀ s' acc' c', (∀ b o, b ≠ it → b ≠ S → s.heap.get? b = some o → s'.heap.get? b = some o) → s'.heap.get? S = some { cls := .type "list", dict := none, data := .seq acc' c', slots := #[] } → ItemsOf (fun i v => items[items.size - 1 - i]? = some v) acc' items.size → s' = { s with heap := s'.heap, toks := s'.toks } → R (.ok (.ret res)) s') :
    wpAny (model prog w) A.in1 (Builtin.List.listExtendWith (.ref S) (.ref it) res)
      (fun fin s' => match fin with | .done f => R (.ok f) s' | .again c' => c'.quiet = true ∧ codeAny (model prog w) A c' R s') (fun e s' => R (.error e) s') s := by
  have W := (walk_rt (prog := prog) (w := w) (A := A.in1) hh it l hne items hn).toS
  have hSf : S ∉ [it, l] := by
    simp only [List.mem_cons, List.not_mem_nil, or_false, not_or]
    exact ⟨hSi, hSl⟩
  have hT : s.TypeIs (.ref it) "reversed" := hit.typeIs
  have h1 : Builtin.List.listSameRef (.ref S) (.ref it) = false := by simp [Builtin.List.listSameRef, hSi]
  have e0 : ((items.size : Nat) : Int) - 1 - ((0 : Nat) : Int) = (items.size : Int) - 1 := by omega
  unfold Builtin.List.listExtendWith
  refine wpAny_bind (wpAny_typeOf hT ?_)
  rw [if_neg (by rw [h1]; decide)]
  refine wpAny_bind (iter_rt hit ?_)
  refine wpAny_bind (wpAny_holding ?_)
  refine hint_rt hit hl hn fun b tk => ?_
  have fin : ∀ (h2 : Heap) (c1 : Nat) (tk : Nat), (∀ b o, b ≠ S → s.heap.get? b = some o → h2.get? b = some o) → h2.get? S = some { cls := .type "list", data := .seq #[] c1 } →
      codeAny (model prog w) A (.builtin "list.extend.loop" ⟨[.ref S, .ref it, res], []⟩) R { s with heap := h2, toks := tk } := fun h2 c1 tk k hS2 => by
    have hit2 : IsRt h2 it l ((items.size : Int) - 1) := hit.at fun o e => k it o (Ne.symm hSi) e
    have hl2 : IsTup h2 l items := by
      obtain ⟨o, ho, r⟩ := hl
      exact ⟨o, k l o (Ne.symm hSl) ho, r⟩
    refine codeAny_extend_loopS W hn _ hSf _ items.size 0 _ _ _ rfl (Nat.zero_le _) ⟨Nat.zero_le _, by rw [e0]; exact hit2, hl2⟩ hS2 (ItemsOf.nil _) fun s' acc' c' hm hS' hacc => ?_
    refine hR s' acc' c' (fun b o hb hbS e => hm.heap b o (fun hmem => ?_) (k b o hbS e)) hS' hacc (by
      have e5 := Moved.eq_with hm
      exact e5)
    rcases List.mem_cons.mp hmem with e' | hmem
    · exact hbS e'
    · exact hb (List.mem_singleton.mp hmem)
  cases b with
  | false =>
    rw [if_neg (by decide)]
    exact wpAny_pure ⟨plainId_quiet F.plain_extend_loop _, fin s.heap c₀ tk (fun b o _ e => e) hS⟩
  | true =>
    rw [Bool.true_or, if_pos rfl]
    refine wpAny_bind (wpAny_rule ?_)
    refine wpAny_bind ?_
    show wpAny _ A.in1 (updateSeq S (·.push .none) >>= fun _ => updateSeq S (·.pop)) _ _ _
    refine wpAny_bind (wpAny_updateSeq (s := { s with toks := tk }) hS rfl ?_)
    have hS₂ := Heap.get?_update_self (Obj.mapSeq (·.push Value.none)) hS rfl
    refine wpAny_updateSeq (hz := by seq_fits) hS₂ rfl ?_
    have hS₃ := Heap.get?_update_self (Obj.mapSeq (·.pop)) hS₂ rfl
    exact wpAny_pure ⟨plainId_quiet F.plain_extend_loop _, fin _ _ tk (fun b o hb e => (Heap.get?_update_other _ _ (Ne.symm hb)).trans ((Heap.get?_update_other _ _ (Ne.symm hb)).trans e)) hS₃⟩
theorem init_rt {it l S : Addr} {items : Array Value} (hh : A.in1.handled = none) (hit : IsRt s.heap it l ((items.size : Int) - 1)) (hl : IsTup s.heap l items) (hne : l ≠ it) (hn : items.size ≤ sizeLine) (hSi : S ≠ it) (hSl : S ≠ l)
    (hS : s.heap.get? S = some { cls := .type "list", data := .seq #[] })
    (hR : ∀ s' acc' c', (∀ b o, b ≠ it → b ≠ S → s.heap.get? b = some o → s'.heap.get? b = some o) → s'.heap.get? S = some { cls := .type "list", dict := none, data := .seq acc' c', slots := #[] } → ItemsOf (fun i v => items[items.size - 1 - i]? = some v) acc' items.size → s' = { s with heap := s'.heap, toks := s'.toks } → R (.ok (.ret .none)) s') :
    wpAny (model prog w) A.in1 (Builtin.«list.__init__» ⟨[.ref S, .ref it], []⟩)
      (fun fin s' => match fin with | .done f => R (.ok f) s' | .again c' => c'.quiet = true ∧ codeAny (model prog w) A c' R s') (fun e s' => R (.error e) s') s := by
  show wpAny _ A.in1 (Builtin.List.listItems (.ref S) >>= fun old => Builtin.List.listUpdate (.ref S) (fun _ => #[]) >>= fun _ => letGo old.toList.reverse >>= fun _ => Builtin.List.listExtendWith (.ref S) (.ref it) .none) _ _ s
  refine wpAny_bind ?_
  unfold Builtin.List.listItems
  refine wpAny_bind (wpAny_seqItems hS rfl (wpAny_pure ?_))
  show wpAny _ A.in1 (updateSeq S (fun _ => #[]) >>= fun _ => _) _ _ s
  refine wpAny_bind (wpAny_updateSeq hS rfl ?_)
  have hS2 := Heap.get?_update_self (Obj.mapSeq (fun _ => (#[] : Array Value))) hS rfl
  have oth : ∀ b o, b ≠ S → s.heap.get? b = some o → (s.heap.update S (Obj.mapSeq (fun _ => (#[] : Array Value)))).get? b = some o := fun b o hb e => (Heap.get?_update_other _ _ (Ne.symm hb)).trans e
  refine wpAny_bind (wpAny_letGo ?_)
  have hl2 : IsTup (s.heap.update S (Obj.mapSeq (fun _ => (#[] : Array Value)))) l items := by
    obtain ⟨o, ho, r⟩ := hl
    exact ⟨o, oth l o (Ne.symm hSl) ho, r⟩
  refine ext_rt (s := { s with heap := s.heap.update S (Obj.mapSeq (fun _ => (#[] : Array Value))) }) hh (hit.at fun o e => oth it o (Ne.symm hSi) e) hl2 hne hn .none _ hSi hSl hS2 fun s' acc' c' k hS' hacc e => ?_
  exact hR s' acc' c' (fun b o hb hbS q => k b o hb hbS (oth b o hbS q)) hS' hacc e
theorem call_list_rt {it l : Addr} {items : Array Value} {Q : Value → Shared → Prop} (hh : A.handled = none) (hit : IsRt s.heap it l ((items.size : Int) - 1)) (hl : IsTup s.heap l items) (hne : l ≠ it) (hn : items.size ≤ sizeLine)
    (hQ : ∀ s' acc' c', (∀ b o, b ≠ it → s.heap.get? b = some o → s'.heap.get? b = some o) → s'.heap.get? s.heap.objs.size = some { cls := .type "list", dict := none, data := .seq acc' c', slots := #[] } → ItemsOf (fun i v => items[items.size - 1 - i]? = some v) acc' items.size → s' = { s with heap := s'.heap, toks := s'.toks } → Q (.ref s.heap.objs.size) s') :
    wpAny (model prog w) A (call (.type "list") [.ref it]) Q E s := by
  have h1 : it < s.heap.objs.size := by
    obtain ⟨o, ho, _⟩ := hit
    exact Heap.lt_size ho
  have h2 : l < s.heap.objs.size := by
    obtain ⟨o, ho, _⟩ := hl
    exact Heap.lt_size ho
  refine callType_codes (Q₁ := fun obj s₁ => obj = .ref s.heap.objs.size ∧ s₁ = { s with heap := s.heap.push { cls := .type "list", data := .seq #[] } }) F.called_list (F.typeCall_list_1 _) F.entry_list_init (code_list_new _ ⟨rfl, rfl⟩) fun obj s₁ h₁ => ?_
  obtain ⟨rfl, rfl⟩ := h₁
  have hS : (s.heap.push { cls := .type "list", data := .seq #[] }).get? s.heap.objs.size = some { cls := .type "list", data := .seq #[] } := Heap.get?_push_size _ rfl
  refine ⟨⟨_, hS, rfl⟩, F.args_list_init_2 _ _, init_rt (A := A.in1) (s := { s with heap := s.heap.push { cls := .type "list", data := .seq #[] } }) hh (hit.at fun o e => Heap.get?_push_of_some _ e) (hl.keeps fun b o e => Heap.get?_push_of_some _ e) hne hn (Nat.ne_of_gt h1) (Nat.ne_of_gt h2) hS fun s' acc' c' k hS' hacc e => ⟨rfl, ?_⟩⟩
  refine hQ s' acc' c' (fun b o hb q => k b o hb (Nat.ne_of_lt (Heap.lt_size q)) (Heap.get?_push_of_some _ q)) hS' hacc ?_
  rw [e]
end
def tLstRev (K : PySem.W.Frag) (te : TE) : TE := fun σ H Q => te σ H fun v H1 => ∃ (a : Addr) (xs : List V), v = .ref a ∧ (SqL K H1 a xs ∨ SqT K H1 a xs) ∧ ∀ q, H1 q = none → Q (.ref q) (upd H1 q (.lst xs.reverse))
section
variable {X : Cx}
theorem pe_lstRev {e : Expr} {te : TE} {p p2 pos pos2 : Pos} (hc : X.calm = true) (hg : Gl X "list") (hm : X.mg "list" = none) (hg2 : Gl X "reversed") (hm2 : X.mg "reversed" = none) (he : PE X e te)
    (hs : starEach [e] X.env = (false, eval e X.env) :: starEach [] X.env)
    (hs2 : starEach [.Call (.Name "reversed" p2) [e] [] pos2] X.env = (false, eval (.Call (.Name "reversed" p2) [e] [] pos2) X.env) :: starEach [] X.env := by rfl) :
    PE X (.Call (.Name "list" p) [.Call (.Name "reversed" p2) [e] [] pos2] [] pos) (tLstRev X.K te) := by
  refine ⟨fun pins s σ H Q I h => ?_⟩
  refine Call_ (ld_blt I hg hm boot_list (PyProof.Rows.callWith_type1 (args_cons (Call_ (ld_blt I hg2 hm2 PyProof.Rows.boot_reversed (PyProof.Rows.callWith_type1 (args_cons (thn (he.run pins s σ H _ I h) fun u s1 ⟨v, H1, I1, r1, q1⟩ => args_nil ?_) hs) hs rfl))) hs2) hs2 rfl))
  obtain ⟨a, xs, ev, hq, q⟩ := q1
  subst ev
  obtain rfl : u = Value.ref a := r1
  have h63 := line63
  have fin : ∀ {its : List Value} (rv : Vals xs its) (hz : xs.length ≤ sizeLine) (s' : Shared) (acc : Array Value) (c' : Nat) (n' : Nat), (∀ b o, s1.heap.get? b = some o → s'.heap.get? b = some o) → s1.heap.objs.size ≤ n' →
      s'.heap.get? n' = some { cls := .type "list", dict := none, data := .seq acc c', slots := #[] } → ItemsOf (fun i v => its.toArray[its.toArray.size - 1 - i]? = some v) acc its.toArray.size → s' = { s1 with heap := s'.heap, toks := s'.toks } → EP X pins σ Q (.ref n') s' := fun {its} rv hz s' acc c' n' kp hn hS hi es => by
    rw [es]
    exact ⟨.ref n', upd H1 n' (.lst xs.reverse), I1.laid (t' := s'.toks) kp hn (show ObjOk X.prog X.w _ _ _ (.lst xs.reverse) from ⟨by rw [List.length_reverse]; exact hz, acc.toList, c', vals_rev rv hi, by rw [Array.toArray_toList]; exact hS⟩), rfl, q _ (I1.hok.fresh hn)⟩
  rcases hq with hq | hq
  · obtain ⟨its, rv, p', hz⟩ := I1.list hq
    have hl := p'.isList
    obtain ⟨ol, hol, _⟩ := id hl
    have hlt := Heap.lt_size hol
    have hn : its.toArray.size ≤ sizeLine := by rw [List.size_toArray, ← rv.length]; exact hz
    refine call_reversed_list hl (args_nil ?_)
    refine call_list_rev (s := { s1 with heap := s1.heap.push (revObj a ((its.toArray.size : Int) - 1)) }) (I1.ok.hd hc) ⟨_, Heap.get?_push_size _ rfl, rfl, rfl⟩ (hl.push _) (Nat.ne_of_lt hlt) hn fun s' acc' c' k hS hi es => ?_
    refine fin rv hz s' acc' c' _ (fun b o e => k b o (Nat.ne_of_lt (Heap.lt_size e)) (Heap.get?_push_of_some _ e)) ?_ hS hi ?_
    · show s1.heap.objs.size ≤ (s1.heap.objs.push _).size
      rw [Array.size_push]
      exact Nat.le_succ _
    · rw [es]
  · obtain ⟨its, rv, p', hz⟩ := I1.tuple hq
    obtain ⟨ol, hol, _⟩ := id p'
    have hlt := Heap.lt_size hol
    have hn : its.toArray.size ≤ sizeLine := by rw [List.size_toArray, ← rv.length]; exact hz
    refine call_reversed_tup p' (fun A E Q k => len_tuple p' (by simp only [List.size_toArray] at hn ⊢; omega) k) (args_nil ?_)
    refine call_list_rt (s := { s1 with heap := s1.heap.push (rtObj a ((its.toArray.size : Int) - 1)), toks := s1.toks + 1 + 1 }) (I1.ok.hd hc) ⟨_, Heap.get?_push_size _ rfl, rfl, rfl⟩ (p'.keeps fun b o e => Heap.get?_push_of_some _ e) (Nat.ne_of_lt hlt) hn fun s' acc' c' k hS hi es => ?_
    refine fin rv hz s' acc' c' _ (fun b o e => k b o (Nat.ne_of_lt (Heap.lt_size e)) (Heap.get?_push_of_some _ e)) ?_ hS hi ?_
    · show s1.heap.objs.size ≤ (s1.heap.objs.push _).size
      rw [Array.size_push]
      exact Nat.le_succ _
    · rw [es]
end
section
variable {X : Cx} {Z : Env} {c : Ct} {W : WX}
theorem s_lrv {a : E} {e : Expr} {p p2 pos pos2 : Pos} (hK : X.K = c.K) (hc : X.calm = true) (hg : Gl X "list") (hm : X.mg "list" = none) (hg2 : Gl X "reversed") (hm2 : X.mg "reversed" = none) (he : PE X e (tEv Z c W a)) (hs : starEach [e] X.env = (false, eval e X.env) :: starEach [] X.env) :
    PE X (.Call (.Name "list" p) [.Call (.Name "reversed" p2) [e] [] pos2] [] pos) (tEv Z c W (.lrv a)) := by
  refine (pe_lstRev hc hg hm hg2 hm2 he hs).imp fun σ H Q h => ?_
  obtain ⟨F, w, s, sr, h⟩ := h
  rw [ev_lrv] at h
  refine ⟨F, w, s, sr, h.bind fun v s1 w1 H1 x sr1 ex1 rv1 h1 => ?_⟩
  cases e1 : v.look s1 with
  | none =>
    rw [e1] at h1
    exact h1.elim
  | some d =>
    rw [e1] at h1
    have vd := rv1.look sr1 e1
    cases d <;> first | exact h1.elim | skip
    · rename_i ds
      obtain ⟨b, vs, rfl, ha, hr⟩ := vd
      exact ⟨b, vs, rfl, .inl (SqL.of ha), fun q hq => fin_own (o := .lst vs.reverse) (fin_post (o := some (.own (.lst ds.reverse))) h1) sr1 hq hr.reverse⟩
    · rename_i ds
      obtain ⟨b, vs, rfl, ha, hr⟩ := vd
      exact ⟨b, vs, rfl, .inr (SqT.of (sr1.bh _ _ ha)), fun q hq => fin_own (o := .lst vs.reverse) (fin_post (o := some (.own (.lst ds.reverse))) h1) sr1 hq hr.reverse⟩
end
end PB

set_option Elab.async false
set_option linter.all false
set_option autoImplicit false
set_option maxRecDepth 100000
set_option maxHeartbeats 2000000
/-! THE BRIDGE, 24: errors: raise, try .. except C as e: x = e, isinstance of an error. -/
namespace PB
open PySem PySem.Spec PyProof.Rows L2
section
variable {X : Cx} {pins : List (Addr × Obj)} {σ : L2.St} {H : Hp} {sI s : Shared} {a : Addr} {o : HO}
/-- what the exception left may be tracked from here on -/
theorem keepE (J : Inv X pins σ H sI) (I : Inv X pins σ H s) (hex : X.ex = []) (ha : sI.heap.get? a = none) (na : H a = none) (nL : a ≠ X.env.locals) (new : ObjOk X.prog X.w (upd H a o) s.heap a o) : Inv X pins σ (upd H a o) s := by
  have ne : ∀ b u, sI.heap.get? b = some u → b ≠ a := fun b u e z => by
    rw [z, ha] at e
    cases e
  have nb : ∀ b u, X.s_0.heap.get? b = some u → b ≠ a := fun b u e => by
    obtain ⟨o', q⟩ := J.base.there b u e (by rw [hex]; exact fun z => nomatch z)
    exact ne b o' q
  have nn : ∀ b u, H b = some u → b ≠ a := fun b u e z => by
    rw [z, na] at e
    cases e
  refine ⟨I.ok, I.os, I.bare, ⟨I.base.keep, I.base.slot, fun b u q n hx => ?_, I.base.there, fun b xs q => ?_, fun b u v q => ?_, fun b ps q => ?_⟩, I.loc, I.cell, ?_, fun x c e => ?_, fun p hp => ?_, fun b u e => ?_, I.len⟩
  · rw [upd_ne (nb b u q)]
    exact I.base.free b u q n hx
  · have z := I.base.tups b xs q
    rw [upd_ne (nn b _ z)]
    exact z
  · have z := I.base.frzs b u v q
    rw [upd_ne (nn b _ z)]
    exact z
  · obtain ⟨m, z⟩ := I.base.tbls b ps q
    exact ⟨m, by rw [upd_ne (nn b _ z)]; exact z⟩
  · rw [upd_ne (Ne.symm nL)]
    exact I.free
  · obtain ⟨v, z⟩ := J.cell x c e
    obtain ⟨oc, hc, _⟩ := z
    rw [upd_ne (ne c oc hc)]
    exact I.freeC x c e
  · obtain ⟨e, n, r⟩ := I.pin p hp
    obtain ⟨e', _⟩ := J.pin p hp
    exact ⟨e, by rw [upd_ne (ne _ _ e')]; exact n, r⟩
  · by_cases hb : b = a
    · subst hb
      rw [upd_same] at e
      cases e
      exact new
    · rw [upd_ne hb] at e
      exact (I.hok b u e).stay (fun c v _ q => q) (fun c q => by rw [upd_ne (nn c _ q)]; exact q) fun c xs q => by rw [upd_ne (nn c _ q)]; exact q
end
/-- what except C as e wishes of an exception of the body: it is kept -/
def wKeep (K : PySem.W.Frag) (c : Value) (i : Nat) (ts : TS) (Wout : WX) (D : Ends) : WX := fun cls d σ H =>
  ∃ b, PySem.W.exmOne K cls c = some b ∧ (b = true → ∀ a, H a = none → ts { nx := fun σ' H' => D.nx (σ'.set i none) H', rt := D.rt, bk := fun σ' H' => D.bk (σ'.set i none) H', ct := fun σ' H' => D.ct (σ'.set i none) H' } (σ.set i (some (.ref a))) (upd H a (ExO cls d a))) ∧
    (b = false → Wout cls d σ H)
section
variable {X : Cx} {x n : Str} {c : Value} {i : Nat} {body suite : List Stmt} {b₀ : Stmt} {np pos pos' : Pos} {tb : WX → TS} {ts : TS} {Wout : WX}
theorem ps_try_keep (hs : X.stack = X.env :: X.outer) (hf : X.env.frame = some X.env.locals) (hex : X.ex = []) (hN : X.N.Nodup) (hi : X.N[i]? = some n) (hln : X.env.kindOf n = some .local) (hc : Names X x c) (tk : Takes X Wout)
    (hb : ∀ (W : WX) (pn : List (Addr × Obj)) (xe : Value → Shared → Prop), Takes (X.tr pn xe) W → PassesOwn (model X.prog X.w) X.A X.env xe → PSs (X.tr pn xe) body (tb W))
    (hsu : ∀ (a : Addr) (pn : List (Addr × Obj)), PSs (X.suite a pn) (b₀ :: suite) ts) :
    PS X (.Try body [.ExceptHandler (some (.Name x np)) (some n) (b₀ :: suite) pos'] [] [] pos) (fun D σ H => tb (wKeep X.K c i ts Wout D) D σ H) := by
  refine ⟨fun pins s σ H D I h => ?_⟩
  have ok := I.ok
  have hfr : X.A.frames = some (X.env :: X.outer) := by rw [ok.frames, hs]
  have hloc : Loc X.env.scope n := .inl hln
  refine wpAny_Try_except ?_
  refine wpAny_mono ((hb (wKeep X.K c i ts Wout D) (X.pn ++ pins) (fun e s₁ => wpAny (model X.prog X.w) X.A (noteFrame e X.env) (fun _ s₂ => wpAny (model X.prog X.w) X.A (setFlight e none) (fun _ s₃ =>
    wpAny (model X.prog X.w) X.A (handleBy e X.env [.ExceptHandler (some (.Name x np)) (some n) (b₀ :: suite) pos']) (SP X pins D) X.xe s₃) X.xe s₂) X.xe s₁) (fun u s' xx => ?_) PassesOwn.looking).run [] s σ H D (I.toTry _) h) (fun f s1 hsp => ?_) (fun e s1 he => he)
  · obtain ⟨a, B, sI, pins', σ', H', cls, d, rfl, J', nb, up, sky, na, os, ag, b, hb1, hyes, hno⟩ := xx
    have J : Inv X pins σ' H' sI := J'.ofTry ok
    have sky' : Sky B (X.env :: X.outer) a (Zc cls d) X.env.locals s'.heap := by rw [← hs]; exact sky
    show wpAny (model X.prog X.w) X.A (noteFrame (.ref a) X.env) _ _ _
    refine Sky.land Zc.steady hfr hf sky' fun h3 fl3 up3 => ?_
    have J3 : Inv X pins σ' H' { s' with heap := h3 } := J.landed nb fl3.1 (up.trans up3) os ag
    obtain ⟨oe3, vs3, he3, hz3, hd3⟩ := fl3.there
    have notFr : ∀ {h : Heap} {o : Obj} {vs : Array Value}, h.FunFrames B (X.env :: X.outer) → h.get? a = some o → o.data = .fields vs → a ∉ frs (X.env :: X.outer) := fun {h o vs} ff e dd hm => by
      obtain ⟨_, o', e', hnf⟩ := ff.mem hm
      rw [e] at e'; cases e'
      exact hnf _ dd
    have nfr := notFr fl3.2.2.1 he3 hd3
    have nL : a ≠ X.env.locals := fun z => nfr (List.mem_filterMap.mpr ⟨X.env, List.mem_cons_self, by rw [hf, z]⟩)
    have nF : a ∉ X.fs := fun hm => by
      obtain ⟨e, he, q⟩ := List.mem_filterMap.mp hm
      exact nfr (List.mem_filterMap.mpr ⟨e, List.mem_cons_of_mem _ he, q⟩)
    have hI : sI.heap.get? a = none := by
      cases e : sI.heap.get? a with
      | none => rfl
      | some u =>
        have z := nb a u e (by rw [hs]; exact nfr)
        rw [fl3.2.1] at z
        cases z
    have S3 := J3.suite he3 hd3 na nL nF
    refine wpAny_handleBy_cons (codeAny_handlers_test ?_) (by intro q; cases q)
    have LT : PySem.W.Looks (model X.prog X.w) h3 (typeOf (.ref a)) cls := fun A Q E s k q => wpAny_typeOf_ref (k _ _ he3) (by rw [hz3.1]; exact q)
    have LM := PySem.W.exm_one (M := model X.prog X.w) (J3.kIn) LT hb1
    have test : ∀ {Q : Value → Shared → Prop} {E : Value → Shared → Prop}, Q c { s' with heap := h3 } → wpAny (model X.prog X.w) (X.A.mark (some (.ref a))) (eval (.Name x np) X.env) Q E { s' with heap := h3 } := fun {Q E} q => by
      obtain ⟨hg, hdbg, hm | ⟨hm, hv, hnn⟩⟩ := hc
      · exact ld_glob (X := X.suite a ((a, oe3) :: (X.pn ++ pins))) S3 hg hm q hdbg
      · exact ld_blt (X := X.suite a ((a, oe3) :: (X.pn ++ pins))) S3 hg hm hv q hnn hdbg
    refine test (LM.here ?_)
    cases b with
    | true =>
      refine codeAny_handlers_suite_as ?_
      refine HandSPX.lands_againZ fl3 fun h4 fl4 up4 => ?_
      have J4 : Inv X pins σ' H' { s' with heap := h4 } := J.landed nb fl4.1 ((up.trans up3).trans up4) os ag
      obtain ⟨oe4, vs4, he4, hz4, hd4⟩ := fl4.there
      have K4 : Inv X pins σ' (upd H' a (ExO cls d a)) { s' with heap := h4 } := keepE J J4 hex hI na nL ⟨⟨oe4, vs4, he4, hz4, hd4⟩, ⟨oe4, he4⟩, fun h1 h2 z k => by
        obtain ⟨oe, vs, q1, q2, q3⟩ := z
        exact ⟨oe, vs, k _ q1, q2, q3⟩⟩
      have S4 : Inv (X.suite a (X.pn ++ pins)) [] σ' (upd H' a (ExO cls d a)) { s' with heap := h4 } := ⟨ok.suite _ _, K4.os, K4.bare, K4.base, K4.loc, K4.cell, K4.free, K4.freeC, fun p hp => K4.pin p (by rw [List.append_nil] at hp; exact hp), K4.hok, K4.len⟩
      refine store_ok (X := X.suite a (X.pn ++ pins)) (v := .ref a) S4 hN hi hloc rfl (fun s5 S5 => ?_) (.inr hln)
      refine wpAny_mono ((hsu a (X.pn ++ pins)).run [] s5 _ _ _ S5 (hyes rfl a na)) (fun f s6 hsp => ?_) (fun _ _ z => False.elim z)
      have un : ∀ {σ6 : L2.St} {H6 : Hp}, Inv (X.suite a (X.pn ++ pins)) [] σ6 H6 s6 → Inv X pins σ6 H6 s6 := fun {σ6 H6} S6 => ⟨ok, S6.os, S6.bare, S6.base, S6.loc, S6.cell, S6.free, S6.freeC, fun p hp => S6.pin p (by rw [List.append_nil]; exact hp), S6.hok, S6.len⟩
      have end_ : ∀ {σ6 : L2.St} {H6 : Hp} {Q : Shared → Prop}, Inv (X.suite a (X.pn ++ pins)) [] σ6 H6 s6 → (∀ s7, Inv X pins (σ6.set i none) H6 s7 → Q s7) →
          wpAny (model X.prog X.w) X.A (do bindName X.env n .none; unbindBehindTheSuite X.env n pos') (fun _ s7 => Q s7) X.xe s6 := fun {σ6 H6 Q} S6 hq => gone_ok (un S6) hN hi hln hq
      cases f with
      | next =>
        obtain ⟨σ6, H6, S6, q6⟩ := hsp
        exact end_ S6 fun s7 J7 => ⟨_, _, J7, q6⟩
      | brk =>
        obtain ⟨σ6, H6, S6, q6⟩ := hsp
        exact end_ S6 fun s7 J7 => ⟨_, _, J7, q6⟩
      | cont =>
        obtain ⟨σ6, H6, S6, q6⟩ := hsp
        exact end_ S6 fun s7 J7 => ⟨_, _, J7, q6⟩
      | ret u =>
        obtain ⟨v6, σ6, H6, S6, r6, q6⟩ := hsp
        exact end_ S6 fun s7 J7 => ⟨_, _, _, J7, r6, q6⟩
    | false =>
      show wpAny _ X.A (handleBy (.ref a) X.env []) _ _ _
      refine wpAny_handleBy_nil ?_
      obtain ⟨k1, k2, k3, oe, vs, T, oT, ts', he, hz, hd, h1, hr⟩ := id fl3
      unfold PySem.passOn
      refine wpAny_bind (wpAny_field he hd h1 ?_)
      rw [if_neg (show ¬ ((Value.ref T == Value.none) = true) from by simp)]
      have fin : wpAny (model X.prog X.w) X.A (setFlight (.ref a) X.env.frame) (fun _ s4 => wpAny (model X.prog X.w) X.A (throw (.ref a) : Sem Flow) (SP X pins D) X.xe s4) X.xe { s' with heap := h3 } := by
        rw [hf]
        refine HandSPX.setFlight_upZ fl3 fun h4 hh4 up4 => wpAny_throw (tk _ _ ?_)
        exact ⟨a, B, sI, pins, σ', H', cls, d, rfl, J, nb, (up.trans up3).trans up4, .inr (.inr (by rw [hs]; exact hh4)), na, os, ag, hno rfl⟩
      first
        | exact wpAny_bind (wpAny_pure (wpAny_bind fin))
        | exact wpAny_bind fin
  · cases f with
    | next =>
      obtain ⟨σ', H', J', q⟩ := hsp
      exact wpAny_execs_nil ⟨σ', H', J'.ofTry ok, q⟩
    | brk =>
      obtain ⟨σ', H', J', q⟩ := hsp
      exact ⟨σ', H', J'.ofTry ok, q⟩
    | cont =>
      obtain ⟨σ', H', J', q⟩ := hsp
      exact ⟨σ', H', J'.ofTry ok, q⟩
    | ret u =>
      obtain ⟨v, σ', H', J', r, q⟩ := hsp
      exact ⟨v, σ', H', J'.ofTry ok, r, q⟩
end
end PB

set_option Elab.async false
set_option linter.all false
set_option autoImplicit false
set_option maxRecDepth 100000
set_option maxHeartbeats 2000000
/-! THE BRIDGE, 25: errors in the evaluator. -/
namespace PB
open PySem PySem.Spec PyProof.Rows L2
/-! ### isinstance of errors, None and own objects -/
/-- what is asked of an own class, that isinstance may be asked of its objects -/
structure InsC (K : PySem.W.Frag) (C : Addr) : Prop where
  cl : Cls K C
  ha : PySem.W.findIn K (.ref C) "__class__" = some (some (.builtin "object.__class__"))
  hn : PySem.W.specialIn K (.builtin "object.__class__") "__get__" = some (some (.builtin "getset_descriptor.__get__"))
  ht : PySem.W.takesIn K (.builtin "object.__class__") = some true
  hm : PySem.W.mroIn K C (.type "object") = some true
/-- a class by its number -/
def tv (c : Ct) (k : Nat) : Value := if k = nonN then .type "NoneType" else if k = veN then .type "ValueError" else if insN ≤ k then .ref (c.cA (k - insN)) else .ref (c.cA k)
def clsV (c : Ct) (k : Nat) : V := if k = veN then .ty "ValueError" else .ref (c.cA k)
theorem tv_cls {c : Ct} {d : Nat} (h : d = veN ∨ d < nonN) : ClsV (clsV c d) (tv c d) := by
  unfold clsV tv
  rcases h with h | h
  · subst h
    rw [if_pos rfl, if_neg (by decide), if_pos rfl]
    exact .ty _
  · have h1 : d ≠ nonN := Nat.ne_of_lt h
    have h2 : d ≠ veN := Nat.ne_of_lt (Nat.lt_trans h (by decide))
    have h3 : ¬ insN ≤ d := Nat.not_le_of_lt (Nat.lt_trans h (by decide))
    rw [if_neg h2, if_neg h1, if_neg h2, if_neg h3]
    exact .own _
/-- what a table says of two classes -/
structure SubF (c : Ct) (k d : Nat) (b : Bool) : Prop where
  kit : PySem.W.kitOne c.K (tv c k) (tv c d) = some b
  kd : k = nonN ∨ (k < nonN ∧ ExcC c.K (c.cA k)) ∨ (insN ≤ k ∧ InsC c.K (c.cA (k - insN)))
  exm : k < nonN → PySem.W.exmOne c.K (.ref (c.cA k)) (tv c d) = some b
inductive TyE (K : PySem.W.Frag) (H : Hp) : V → Value → Prop where
  | base {x : V} {t : Value} (h : TyX K H x t) : TyE K H x t
  | exc {a D : Addr} (e : H a = some (ExO (.ref D) none a)) (C : ExcC K D) : TyE K H (.ref a) (.ref D)
section
variable {X : Cx} {pins : List (Addr × Obj)} {σ : L2.St} {H : Hp} {s : Shared}
theorem kit_ofE {x : V} {u t : Value} (I : Inv X pins σ H s) (rx : RelV x u) (ty : TyE X.K H x t) : ∃ P : Heap → Prop, PySem.W.KitX X.K u t P ∧ P s.heap ∧ u ≠ .builtin "__main__.__loader__#opaque" := by
  cases ty with
  | base h => exact kit_of I rx h
  | exc e C =>
    rename_i a D
    cases (show u = Value.ref a from rx)
    obtain ⟨⟨oe, vs, he, hz, hv⟩, _, _⟩ := I.hok a _ e
    have J : PySem.W.InstAt s.heap a oe D none := by
      obtain ⟨oc, od, oda, osl⟩ := oe
      obtain ⟨h1, h2⟩ := hz
      dsimp only at h1 h2 hv
      subst h1 h2 hv
      exact ⟨he, rfl, rfl, trivial⟩
    exact ⟨_, PySem.W.handS_kitx_exc C.hg C.hk C.hs C.hd C.ha C.hn C.ht C.hm, J, fun z => nomatch z⟩
end
def rIsiE (K : PySem.W.Frag) : List V → Hp → VK → Prop := fun xs H Q => ∃ (x c : V) (t u : Value) (b : Bool), xs = [x, c] ∧ ClsV c u ∧ TyE K H x t ∧ PySem.W.kitOne K t u = some b ∧ Q (.bl b) H
def rIsiET (K : PySem.W.Frag) : List V → Hp → VK → Prop := fun xs H Q => ∃ (x : V) (tp : Addr) (cs : List V) (t : Value) (us : List Value) (b : Bool), xs = [x, .ref tp] ∧ H tp = some (.tup cs) ∧ Paired ClsV cs us ∧ TyE K H x t ∧ PySem.W.kitAny K t us = some b ∧ Q (.bl b) H
section
variable {X : Cx}
theorem call_isiE : CallR X (.builtin "isinstance") (rIsiE X.K) := by
  intro pins s σ H xs us Q I r h
  obtain ⟨x, c, t, u, b, rfl, k, ty, e, q⟩ := h
  obtain ⟨u1, u2, rfl, r1, r2⟩ := vals2 r
  have e2 := k.eq r2
  subst e2
  obtain ⟨P, Z, p, hx⟩ := kit_ofE I r1 ty
  exact PySem.W.kia_one Z I.kIn p e hx fun tk => ⟨.bl b, H, I.tok tk, rfl, q⟩
theorem call_isiET : CallR X (.builtin "isinstance") (rIsiET X.K) := by
  intro pins s σ H xs us Q I r h
  obtain ⟨x, tp, cs, t, ws, b, rfl, hT, k, ty, e, q⟩ := h
  obtain ⟨u1, u2, rfl, r1, r2⟩ := vals2 r
  cases (show u2 = Value.ref tp from r2)
  obtain ⟨P, Z, p, hx⟩ := kit_ofE I r1 ty
  obtain ⟨_, its, rv, o, h1, h2, n, h3⟩ := (show ObjOk X.prog X.w H s.heap tp (.tup cs) from I.hok tp _ hT)
  have e3 := ClsV.all k rv
  subst e3
  obtain ⟨oc, od, dt, sl⟩ := o
  simp only at h2 h3
  subst h2 h3
  exact PySem.W.kia_tup Z I.kIn p h1 e hx fun tk => ⟨.bl b, H, I.tok tk, rfl, q⟩
end
theorem boot_VE : bootBuiltins "ValueError" = some (.type "ValueError") := by kernel_rfl
section
variable {X : Cx} {Z : Env} {c : Ct} {W : WX} {F H : Hp} {w : Wd} {σ : L2.St} {s : S}
theorem isx_ty {d : D} {x : V} {k : Nat} (vw : View c w H d x) (bh : SR c F w H σ s) (e : isxK d = some k) (kd : k = nonN ∨ (k < nonN ∧ ExcC c.K (c.cA k)) ∨ (insN ≤ k ∧ InsC c.K (c.cA (k - insN)))) : TyE c.K H x (tv c k) := by
  cases d with
  | non =>
    cases e
    cases (show x = V.non from vw)
    unfold tv
    rw [if_pos rfl]
    exact .base (.base .non)
  | exc j fs =>
    cases fs with
    | cons _ _ => cases e
    | nil =>
      have e : (if j < nonN then some j else none) = some k := e
      have h1 : k < nonN := by
        by_cases q : j < nonN
        · rw [if_pos q] at e
          cases e
          exact q
        · rw [if_neg q] at e
          cases e
      have e0 : k = j := by
        by_cases q : j < nonN
        · rw [if_pos q] at e
          cases e
          rfl
        · rw [if_neg q] at e
          cases e
      subst e0
      obtain ⟨a, d', rfl, hB, h2⟩ := vw
      rcases h2 with ⟨rfl, _⟩ | ⟨_, _, _, _, _, h4⟩
      · have h5 : ExcC c.K (c.cA k) := by
          rcases kd with q | q | q
          · exact absurd q (Nat.ne_of_lt h1)
          · exact q.2
          · exact absurd q.1 (Nat.not_le_of_lt (Nat.lt_trans h1 (by decide)))
        unfold tv
        rw [if_neg (Nat.ne_of_lt h1), if_neg (Nat.ne_of_lt (Nat.lt_trans h1 (by decide))), if_neg (Nat.not_le_of_lt (Nat.lt_trans h1 (by decide)))]
        exact .exc (bh.bh _ _ hB) h5
      · exact absurd rfl h4
  | ins j fs =>
    have e' : insN + j = k := Option.some.inj e
    obtain ⟨a, dx, us, rfl, ha, _⟩ := vw
    have h0 : insN ≤ k := by omega
    have h1 : ¬ k < nonN := fun q => by
      have : nonN < insN := by decide
      omega
    have h2 : InsC c.K (c.cA (k - insN)) := by
      rcases kd with q | q | q
      · exact absurd q (fun z => by
          have : nonN < insN := by decide
          omega)
      · exact absurd q.1 h1
      · exact q.2
    have e3 : k - insN = j := by omega
    rw [e3] at h2
    unfold tv
    rw [if_neg (fun z => by
      have : nonN < insN := by decide
      omega), if_neg (fun z => by
      have : veN < insN := by decide
      omega), if_pos h0, e3]
    exact .base (.base (.ins ha h2.cl h2.ha h2.hn h2.ht h2.hm))
  | _ => cases e
/-- a class by its name -/
inductive ClsN (X : Cx) (c : Ct) : Nat → Str → Prop where
  | own {d : Nat} {y : Str} (h : d < nonN) (g : Gl X y) (m : X.mg y = some (.ref (c.cA d))) (n : (y == ("__debug__" : Str)) = false) : ClsN X c d y
  | ve (g : Gl X "ValueError") (m : X.mg "ValueError" = none) : ClsN X c veN "ValueError"
theorem ClsN.num {d : Nat} {y : Str} (h : ClsN X c d y) : d = veN ∨ d < nonN := by
  cases h with
  | own h => exact .inr h
  | ve => exact .inl rfl
theorem pe_cls {d : Nat} {y : Str} {q : Pos} (h : ClsN X c d y) : PE X (.Name y q) (tC (clsV c d)) := by
  cases h with
  | own h g m n =>
    unfold clsV
    rw [if_neg (Nat.ne_of_lt (Nat.lt_trans h (by decide)))]
    exact pe_glob g m rfl n
  | ve g m =>
    unfold clsV
    rw [if_pos rfl]
    exact pe_bltn (v := .ty "ValueError") (u := .type "ValueError") g m boot_VE rfl (by decide +kernel) (by decide +kernel)
theorem names_of {d : Nat} {y : Str} (h : ClsN X c d y) : Names X y (tv c d) := by
  cases h with
  | own h g m n =>
    unfold tv
    rw [if_neg (Nat.ne_of_lt h), if_neg (Nat.ne_of_lt (Nat.lt_trans h (by decide))), if_neg (Nat.not_le_of_lt (Nat.lt_trans h (by decide)))]
    exact ⟨g, n, .inl m⟩
  | ve g m =>
    unfold tv
    rw [if_neg (by decide), if_pos rfl]
    exact ⟨g, by decide +kernel, .inr ⟨m, boot_VE, by decide +kernel⟩⟩
/-- what an environment's table of classes says -/
structure SubsOk (Z : Env) (c : Ct) : Prop where
  sf : ∀ k d b, Z.sub k d = some b → SubF c k d b
theorem anyS_one {f : Nat → Option Bool} {d : Nat} {b : Bool} (h : anyS f [d] = some b) : f d = some b := by
  unfold anyS at h
  cases q : f d with
  | none =>
    rw [q] at h
    cases h
  | some r =>
    rw [q] at h
    simpa [anyS] using h
theorem anyS_kit {k : Nat} (S : SubsOk Z c) : ∀ {ds : List Nat} {b : Bool}, anyS (Z.sub k) ds = some b → PySem.W.kitAny c.K (tv c k) (ds.map (tv c)) = some b
  | [], b, h => by
    cases h
    exact kitAny_nil
  | d :: ds, b, h => by
    unfold anyS at h
    cases q : Z.sub k d with
    | none =>
      rw [q] at h
      cases h
    | some r =>
      rw [q] at h
      cases q2 : anyS (Z.sub k) ds with
      | none =>
        rw [q2] at h
        cases h
      | some r2 =>
        rw [q2] at h
        cases h
        rw [List.map_cons]
        refine kitAny_cons (b := r) (S.sf _ _ _ q).kit (fun e => ?_) (fun e => ?_)
        · rw [e, Bool.false_or]
          exact anyS_kit S q2
        · rw [e, Bool.true_or]
theorem ClsN.pair {q : Pos} : ∀ {ys : List Expr} {ds : List Nat}, Paired (fun y d => ∃ z p, y = Expr.Name z p ∧ ClsN X c d z) ys ds → PA X ys (fun _ H Q => Q (ds.map (clsV c)) H)
  | _, _, .nil => ⟨fun pos pins s σ H Q I h => pa_nil.run pos pins s σ H Q I h⟩
  | _, _, .cons h r => by
    obtain ⟨z, p, rfl, h⟩ := h
    refine ⟨fun pos pins s σ H Q I h' => ?_⟩
    exact (pa_cons (pe_cls h) (ClsN.pair (q := q) r) rfl).run pos pins s σ H Q I h'
theorem ClsN.all : ∀ {ys : List Expr} {ds : List Nat}, Paired (fun y d => ∃ z p, y = Expr.Name z p ∧ ClsN X c d z) ys ds → Paired ClsV (ds.map (clsV c)) (ds.map (tv c))
  | _, _, .nil => .nil
  | _, _, .cons h r => by
    obtain ⟨z, p, rfl, h⟩ := h
    exact .cons (tv_cls h.num) (ClsN.all r)
end
section
variable {X : Cx} {Z : Env} {c : Ct} {W : WX}
theorem s_isx1 (hK : X.K = c.K) (S : SubsOk Z c) {a : E} {d : Nat} {x : Expr} {y : Str} {p q pos : Pos} (hg : Gl X "isinstance") (hm : X.mg "isinstance" = none) (hx : plainX x = true) (hd : ClsN X c d y) (h : PE X x (tEv Z c W a)) :
    PE X (.Call (.Name "isinstance" p) [x, .Name y q] [] pos) (tEv Z c W (.isx a [d])) := by
  refine (pe_callB call_isiE hg hm boot_isinstance (pa_cons h (pa_cons (pe_cls hd) pa_nil) (star_cons hx)) (by decide +kernel) (by decide +kernel) (star_cons hx) rfl).imp fun σ H Q h => ?_
  obtain ⟨F, w, s, sr, h⟩ := h
  rw [ev_isx] at h
  refine ⟨F, w, s, sr, h.bind fun v s1 w1 H1 x1 sr1 ex1 rv1 h1 => ?_⟩
  cases e1 : v.look s1 with
  | none =>
    rw [e1] at h1
    exact h1.elim
  | some dd =>
    rw [e1] at h1
    have h1 : Post c F σ W w1 (RV c F σ) Q (match isxD Z.sub dd [d] with
      | some b => .ok (.im (.bl b)) s1
      | none => .no) := h1
    unfold isxD at h1
    cases e2 : isxK dd with
    | none =>
      rw [e2] at h1
      exact h1.elim
    | some k =>
      rw [e2] at h1
      have h1 : Post c F σ W w1 (RV c F σ) Q (match anyS (Z.sub k) [d] with
        | some b => .ok (.im (.bl b)) s1
        | none => .no) := h1
      cases e3 : anyS (Z.sub k) [d] with
      | none =>
        rw [e3] at h1
        exact h1.elim
      | some b =>
        rw [e3] at h1
        have f := S.sf _ _ _ (anyS_one e3)
        have vw := rv1.look sr1 e1
        have ty := isx_ty vw sr1 e2 f.kd
        refine ⟨x1, clsV c d, tv c k, tv c d, b, rfl, tv_cls hd.num, by rw [hK]; exact ty, by rw [hK]; exact f.kit, ?_⟩
        exact h1 w1 H1 (.bl b) sr1 (Ext.refl _) rfl
theorem s_isxT (hK : X.K = c.K) (S : SubsOk Z c) {a : E} {ds : List Nat} {x : Expr} {ys : List Expr} {k : Nat} {p q pos : Pos} (hg : Gl X "isinstance") (hm : X.mg "isinstance" = none) (hx : plainX x = true) (hl : ds.length ≤ 20) (hne : ds ≠ []) (hd : Paired (fun y d => ∃ z p, y = Expr.Name z p ∧ ClsN X c d z) ys ds) (h : PE X x (tEv Z c W a)) :
    PE X (.Call (.Name "isinstance" p) [x, .Tuple ys k q] [] pos) (tEv Z c W (.isx a ds)) := by
  refine (pe_callB call_isiET hg hm boot_isinstance (pa_cons h (pa_cons (pe_tup (ClsN.pair (q := q) hd)) pa_nil rfl) (star_cons hx)) (by decide +kernel) (by decide +kernel) (star_cons hx) rfl).imp fun σ H Q h => ?_
  obtain ⟨F, w, s, sr, h⟩ := h
  rw [ev_isx] at h
  refine ⟨F, w, s, sr, h.bind fun v s1 w1 H1 x1 sr1 ex1 rv1 h1 => ?_⟩
  refine ⟨by rw [List.length_map]; exact Nat.le_trans hl (by decide), fun tp htp => ?_⟩
  cases e1 : v.look s1 with
  | none =>
    rw [e1] at h1
    exact h1.elim
  | some dd =>
    rw [e1] at h1
    have h1 : Post c F σ W w1 (RV c F σ) Q (match isxD Z.sub dd ds with
      | some b => .ok (.im (.bl b)) s1
      | none => .no) := h1
    unfold isxD at h1
    cases e2 : isxK dd with
    | none =>
      rw [e2] at h1
      exact h1.elim
    | some k =>
      rw [e2] at h1
      have h1 : Post c F σ W w1 (RV c F σ) Q (match anyS (Z.sub k) ds with
        | some b => .ok (.im (.bl b)) s1
        | none => .no) := h1
      cases e3 : anyS (Z.sub k) ds with
      | none =>
        rw [e3] at h1
        exact h1.elim
      | some b =>
        rw [e3] at h1
        have kd : k = nonN ∨ (k < nonN ∧ ExcC c.K (c.cA k)) ∨ (insN ≤ k ∧ InsC c.K (c.cA (k - insN))) := by
          cases ds with
          | nil => exact absurd rfl hne
          | cons d ds =>
            unfold anyS at e3
            cases q : Z.sub k d with
            | none =>
              rw [q] at e3
              cases e3
            | some r => exact (S.sf _ _ _ q).kd
        have sr2 := sr1.grow (sub_new (o := .tup (ds.map (clsV c))) htp)
        have vw : View c w1 (upd H1 tp (.tup (ds.map (clsV c)))) dd x1 := by
          have vw := rv1.look sr1 e1
          cases dd <;> first | exact vw | skip
          · obtain ⟨a, vs, rfl, ha, hr⟩ := vw
            exact ⟨a, vs, rfl, sub_new htp _ _ ha, hr⟩
          · obtain ⟨a, vs, rfl, ha, hr⟩ := vw
            exact ⟨a, vs, rfl, (sub_new htp).rd ha, hr⟩
          · obtain ⟨a, vs, rfl, ha, hr⟩ := vw
            exact ⟨a, vs, rfl, (sub_new htp).rd ha, hr⟩
          · obtain ⟨a, dx, vs, rfl, ha, hr⟩ := vw
            exact ⟨a, dx, vs, rfl, sub_new htp _ _ ha, hr⟩
        have ty := isx_ty vw sr2 e2 kd
        exact ⟨x1, tp, _, tv c k, _, b, rfl, upd_same, ClsN.all hd, by rw [hK]; exact ty, by rw [hK]; exact anyS_kit S e3, h1 w1 _ _ sr2 (Ext.refl _) rfl⟩
/-! ### raise -/
theorem r_rai {k : Nat} {x m : Str} {j : Nat} {p p2 pos pos' : Pos} {e : E} {bmB : List Value} {B newId initId : String} (hc : X.calm = true) (tk : Takes X W) (Fb : ExcBaseFacts B newId initId bmB) (q : PySem.W.excIn X.K (c.cA k) bmB newId = true) (gC : X.mg x = some (.ref (c.cA k))) (kC : PySem.W.keepIn X.K (.ref (c.cA k)) = true) (r : Raises X (.ref (c.cA k))) (hg : Gl X x) (hdb : (x == ("__debug__" : Str)) = false) :
    PS X (.Raise (some (.Call (.Name x p) [.Constant (.str m) j p2] [] pos)) none pos') (tRun Z c W (.rai k none e)) := (ps_raise hc tk (pmk_own Fb q gC kC r hg hdb)).imp fun Dn σ H h => by
  obtain ⟨F, w, s, sr, h⟩ := h
  exact h w H σ (.ref (c.cA k)) none sr (Ext.refl _) ⟨rfl, .inl ⟨rfl, rfl⟩⟩
/-! ### try -/
theorem suite_run {i j : Nat} {s : S} {d : D} (hi : s.ρ[i]? = some (.im d)) : run Z (.seq (.asg (.nm j) (.var i)) .skip) s = if j < s.ρ.length then .ok .nx { s with ρ := s.ρ.set j (.im d) } else .no := by
  rw [run_seq, run_asg, ev_var, hi]
  show ((bindV j (.im d) s).bind fun _ s => R.ok Fl.nx s).bind _ = _
  unfold bindV
  by_cases h : j < s.ρ.length
  · rw [if_pos h, if_pos h]
    rfl
  · rw [if_neg h, if_neg h]
    rfl
theorem r_tr1 {kc i j : Nat} {x n y : Str} {bodyC : C} {body : List Stmt} {np py pn ap pos pos' : Pos} (hK : X.K = c.K) (S : SubsOk Z c) (hs : X.stack = X.env :: X.outer) (hf : X.env.frame = some X.env.locals) (hex : X.ex = []) (hN : X.N.Nodup) (hi : X.N[i]? = some n) (hln : X.env.kindOf n = some .local) (hvn : Vis X.env.scope n) (nn1 : (n == ("__debug__" : Str)) = false) (nn2 : (n == ("__classdict__" : Str)) = false)
    (hj : X.N[j]? = some y) (hy : Loc X.env.scope y) (hyf : X.fn y = true ∨ X.env.scope.names.lookup y = some .local) (hc : ClsN X c kc x) (tk : Takes X W)
    (hb : ∀ (W : WX) (pn : List (Addr × Obj)) (xe : Value → Shared → Prop), Takes (X.tr pn xe) W → PassesOwn (model X.prog X.w) X.A X.env xe → PSs (X.tr pn xe) body (tRun Z c W bodyC)) :
    PS X (.Try body [.ExceptHandler (some (.Name x np)) (some n) [.Assign [.Name y py] (.Name n pn) ap] pos'] [] [] pos) (tRun Z c W (.tr bodyC kc (some i) (.seq (.asg (.nm j) (.var i)) .skip))) := by
  refine (ps_try_keep (c := tv c kc) (ts := tRun Z c (fun _ _ _ _ => False) (.seq (.asg (.nm j) (.var i)) .skip)) (tb := fun W => tRun Z c W bodyC) hs hf hex hN hi hln (names_of hc) tk hb (fun a pn => ?_)).imp fun Dn σ H h => ?_
  · exact r_seq (r_set (X := X.suite a pn) hN hj hy hyf (by rfl) (s_var (pe_var hi hvn nn1 nn2))) r_skip
  · obtain ⟨F, w, s, sr, h⟩ := h
    refine ⟨F, w, s, sr, ?_⟩
    have h : PostS c F W w Dn (match run Z bodyC s with
      | .ok f s => .ok f s
      | .er k fs s => (match (if k < nonN then Z.sub k kc else none) with
        | some true => if i < s.ρ.length then (run Z (.seq (.asg (.nm j) (.var i)) .skip) { s with ρ := s.ρ.set i (.im (.exc k fs)) }).bind fun f s => .ok f { s with ρ := s.ρ.set i .no } else .no
        | some false => .er k fs s
        | none => .no)
      | .no => .no) := h
    cases q : run Z bodyC s with
    | no =>
      rw [q] at h
      exact h
    | ok f s' =>
      rw [q] at h
      cases f <;> exact h
    | er k fs s' =>
      rw [q] at h
      intro w' H' σ' cls d sr' ex er
      obtain ⟨rfl, er⟩ := er
      have h : PostS c F W w Dn (match (if k < nonN then Z.sub k kc else none) with
        | some true => if i < s'.ρ.length then (run Z (.seq (.asg (.nm j) (.var i)) .skip) { s' with ρ := s'.ρ.set i (.im (.exc k fs)) }).bind fun f s => .ok f { s with ρ := s.ρ.set i .no } else .no
        | some false => .er k fs s'
        | none => .no) := h
      cases sb : (if k < nonN then Z.sub k kc else none) with
      | none =>
        rw [sb] at h
        exact h.elim
      | some b =>
        rw [sb] at h
        have kl : k < nonN := by
          by_cases q : k < nonN
          · exact q
          · rw [if_neg q] at sb
            cases sb
        rw [if_pos kl] at sb
        have sf := S.sf _ _ _ sb
        refine ⟨b, by rw [hK]; exact sf.exm kl, fun e a na => ?_, fun e => ?_⟩
        · subst e
          have h : PostS c F W w Dn (if i < s'.ρ.length then (run Z (.seq (.asg (.nm j) (.var i)) .skip) { s' with ρ := s'.ρ.set i (.im (.exc k fs)) }).bind fun f s => .ok f { s with ρ := s.ρ.set i .no } else .no) := h
          by_cases hil : i < s'.ρ.length
          · rw [if_pos hil] at h
            have hr := suite_run (Z := Z) (i := i) (j := j) (s := { s' with ρ := s'.ρ.set i (.im (.exc k fs)) }) (d := .exc k fs) (List.getElem?_set_self hil)
            rw [hr] at h
            obtain ⟨f1, f2, f3⟩ := sr'.free na
            have sr2 := (sr'.grow (sub_new (o := ExO (.ref (c.cA k)) d a) na)).add upd_same f1 f2 f3
            have ex2 : Ext w' (w'.add a (ExO (.ref (c.cA k)) d a)) := Ext.add f1
            have rep : Rep c (w'.add a (ExO (.ref (c.cA k)) d a)).B (w'.add a (ExO (.ref (c.cA k)) d a)).m (.exc k fs) (.ref a) := ⟨a, d, rfl, upd_same, by
              rcases er with er | ⟨dd, us, e1, e2, e3, e4⟩
              · exact .inl er
              · exact .inr ⟨dd, us, e1, ex2.1 _ _ e2, RepF.mono ex2.1 ex2.2 _ _ e3, e4⟩⟩
            refine ⟨F, _, { s' with ρ := s'.ρ.set i (.im (.exc k fs)) }, sr2.put rep, ?_⟩
            rw [hr]
            by_cases hjl : j < (s'.ρ.set i (.im (.exc k fs))).length
            · rw [if_pos hjl] at h ⊢
              intro w3 H3 σ3 sr3 ex3
              exact h w3 H3 (σ3.set i none) sr3.drop ((ex.trans ex2).trans ex3)
            · rw [if_neg hjl] at h
              exact h.elim
          · rw [if_neg hil] at h
            exact h.elim
        · subst e
          exact h w' H' σ' _ d sr' ex ⟨rfl, er⟩
end
end PB

set_option Elab.async false
set_option linter.all false
set_option autoImplicit false
set_option maxRecDepth 100000
/-! THE BRIDGE, 17: the look is right: expressions. -/
namespace PB
open PySem PySem.Spec PyProof.Rows L2
structure CtxE (X : Cx) (W : WX) (N : List Str) (sc : Scope) : Prop where
  calm : X.calm = true
  n : X.N = N
  nd : N.Nodup
  vis : ∀ x, visB sc x = true → Vis X.env.scope x
  loc : ∀ x, locB sc x = true → Loc X.env.scope x ∧ (X.fn x = true ∨ X.env.scope.names.lookup x = some .local)
  gl : ∀ x, glB sc x = true → Gl X x
  fre : ∀ x, (sc.names.lookup x = some .cell ∨ sc.names.lookup x = some .free) → (X.env.scope.names.lookup x = some .cell ∨ X.env.scope.names.lookup x = some .free)
  tk : Takes X W
/-- a class whose errors are raised -/
structure RzF (K : PySem.W.Frag) (C : Addr) : Prop where
  ex : PySem.W.excIn K C [.type "ValueError", .type "Exception", .type "BaseException", .type "object"] "ValueError.__new__" = true
  kp : PySem.W.keepIn K (.ref C) = true
  sb : PySem.W.subIn K (.ref C) (.type "BaseException") = some true
  ty : PySem.W.typeIn K (.ref C) = some (.type "type")
structure Facts (X : Cx) (Z : Env) (c : Ct) (T : Tab) : Prop where
  hK : X.K = c.K
  hw : X.w = c.w
  hu : X.A.units + 65 < cLine
  fn : ∀ i x n, (i, x, n) ∈ T.fn → ∃ k f, Room k X.A ∧ FnI X c k f n (Z.fn i) ∧ X.mg x = some (.ref f)
  mt : ∀ i m kc n, (i, m, kc, n) ∈ T.mt → ∃ k f, Room k X.A ∧ FnI X c k f (n + 1) (Z.fn i) ∧ Cls X.K (c.cA kc) ∧ Meth X.K (c.cA kc) m f
  mr : ∀ kc i x n, (kc, i, x, n) ∈ T.mr → ∃ k f, Room (k + 1) X.A ∧ NwI X c k f kc n (Z.nw kc i) ∧ X.mg x = some (.ref (c.cA kc))
  mc : ∀ kc i x n, (kc, i, x, n) ∈ T.mc → ∃ k f, Room (k + 1) X.A ∧ McI X c k f kc n (Z.fm i) ∧ X.mg x = some (.ref (c.cA kc))
  gl : ∀ g x, (g, x) ∈ T.gl → ∃ d v u, Z.glo g = some d ∧ (∀ B m, Rep c B m d v) ∧ X.mg x = some u ∧ RelV v u
  bi : ∀ x, x ∈ T.bi → X.mg x = none
  na : NaOk c Z
  xc : ∀ d y, (d, y) ∈ T.xc → X.mg y = some (.ref (c.cA d))
  rz : ∀ k x, (k, x) ∈ T.rz → RzF X.K (c.cA k) ∧ X.mg x = some (.ref (c.cA k))
  sb : SubsOk Z c
section
variable {X : Cx} {Z : Env} {c : Ct} {W : WX} {T : Tab} {N : List Str} {sc : Scope}
theorem visB_ok {x : Str} (h : visB sc x = true) : Vis sc x := by
  unfold visB at h
  split at h
  · rename_i q
    exact .inl q
  · rename_i q
    exact .inr (.inl q)
  · rename_i q
    exact .inr (.inr q)
  · cases h
theorem locB_ok {x : Str} (h : locB sc x = true) : Loc sc x := by
  unfold locB at h
  split at h
  · rename_i q
    exact .inl q
  · rename_i q
    exact .inr q
  · cases h
theorem lclB_ok {x : Str} (h : lclB sc x = true) : sc.names.lookup x = some .local := by
  unfold lclB at h
  split at h
  · assumption
  · cases h
theorem glB_ok {x : Str} (h : glB sc x = true) : sc.names.lookup x = some .globalImplicit := by
  unfold glB at h
  split at h
  · assumption
  · cases h
theorem nmB_ok {x : Str} (h : nmB x = true) : (x == ("__debug__" : Str)) = false ∧ (x == ("__classdict__" : Str)) = false ∧ x ≠ "__name__" := by
  unfold nmB at h
  rw [Bool.and_eq_true, Bool.and_eq_true] at h
  exact ⟨by simpa using h.1.1, by simpa using h.1.2, by simpa using h.2⟩
/-- relabelled names -/
theorem relabel_look {env : PySem.Env} {scope : Scope} {x : Str} {k : NameKind} (h : scope.names.lookup x = some k) :
    (relabel scope env).names.lookup x = some k ∨ (k = .free ∧ (relabel scope env).names.lookup x = some .cell) := by
  show (scope.names.map fun (n, k) => if (k == NameKind.free && env.scope.kind == .function && env.kindOf n == some .cell) then (n, NameKind.cell) else (n, k)).lookup x = _ ∨ _
  show _ ∨ (k = .free ∧ (scope.names.map fun (n, k) => if (k == NameKind.free && env.scope.kind == .function && env.kindOf n == some .cell) then (n, NameKind.cell) else (n, k)).lookup x = _)
  revert h
  induction scope.names with
  | nil => intro h; cases h
  | cons p r ih =>
    obtain ⟨n, k0⟩ := p
    intro h
    rw [List.map_cons]
    by_cases hc : (k0 == NameKind.free && env.scope.kind == .function && env.kindOf n == some .cell) = true
    · have e : (if (k0 == NameKind.free && env.scope.kind == .function && env.kindOf n == some .cell) = true then (n, NameKind.cell) else (n, k0)) = (n, NameKind.cell) := if_pos hc
      simp only [e]
      rw [List.lookup_cons] at h
      cases hx : x == n with
      | true =>
        rw [hx] at h
        cases h
        right
        refine ⟨?_, by rw [List.lookup_cons, hx]⟩
        rw [Bool.and_eq_true, Bool.and_eq_true] at hc
        exact eq_of_beq hc.1.1
      | false =>
        rw [hx] at h
        rcases ih h with q | ⟨q1, q2⟩
        · exact .inl (by rw [List.lookup_cons, hx]; exact q)
        · exact .inr ⟨q1, by rw [List.lookup_cons, hx]; exact q2⟩
    · have e : (if (k0 == NameKind.free && env.scope.kind == .function && env.kindOf n == some .cell) = true then (n, NameKind.cell) else (n, k0)) = (n, k0) := if_neg hc
      simp only [e]
      rw [List.lookup_cons] at h
      cases hx : x == n with
      | true =>
        rw [hx] at h
        cases h
        exact .inl (by rw [List.lookup_cons, hx])
      | false =>
        rw [hx] at h
        rcases ih h with q | ⟨q1, q2⟩
        · exact .inl (by rw [List.lookup_cons, hx]; exact q)
        · exact .inr ⟨q1, by rw [List.lookup_cons, hx]; exact q2⟩
theorem CtxE.blk (h : CtxE X W N sc) (s : Shared) (H : Hp) (scope : Scope) (C : Addr) (cl : List (Str × Addr)) (fp : List Addr) : CtxE (X.blk s H scope (compEnvC scope cl C X.env) fp) never N scope where
  calm := h.calm
  n := h.n
  nd := h.nd
  vis := fun x q => by
    show Vis (relabel scope X.env) x
    rcases visB_ok q with q | q | q
    · rcases relabel_look (env := X.env) q with z | ⟨z, _⟩
      · exact .inl z
      · cases z
    · rcases relabel_look (env := X.env) q with z | ⟨z, _⟩
      · exact .inr (.inl z)
      · cases z
    · rcases relabel_look (env := X.env) q with z | ⟨_, z⟩
      · exact .inr (.inr z)
      · exact .inr (.inl z)
  loc := fun x q => by
    show Loc (relabel scope X.env) x ∧ ((scope.names.lookup x == some .cell) = true ∨ (relabel scope X.env).names.lookup x = some .local)
    rcases locB_ok q with q | q
    · rcases relabel_look (env := X.env) q with z | ⟨z, _⟩
      · exact ⟨.inl z, .inr z⟩
      · cases z
    · rcases relabel_look (env := X.env) q with z | ⟨z, _⟩
      · exact ⟨.inr z, .inl (by rw [q]; rfl)⟩
      · cases z
  gl := fun x q => by
    show (relabel scope X.env).names.lookup x = some .globalImplicit
    rcases relabel_look (env := X.env) (glB_ok q) with z | ⟨z, _⟩
    · exact z
    · cases z
  fre := fun x q => by
    show (relabel scope X.env).names.lookup x = some .cell ∨ (relabel scope X.env).names.lookup x = some .free
    rcases q with q | q
    · rcases relabel_look (env := X.env) q with z | ⟨z, _⟩
      · exact .inl z
      · cases z
    · rcases relabel_look (env := X.env) q with z | ⟨_, z⟩
      · exact .inr z
      · exact .inl z
  tk := takes0
theorem FnI.blk {k n : Nat} {f : Addr} {g : List D → List (Option D) → RC} (h : FnI X c k f n g) (s : Shared) (H : Hp) (scope : Scope) (cenv : PySem.Env) (fp : List Addr) : FnI (X.blk s H scope cenv fp) c k f n g := ⟨h.ok, h.kp⟩
theorem Facts.blk (h : Facts X Z c T) (s : Shared) (H : Hp) (scope : Scope) (cenv : PySem.Env) (fp : List Addr) : Facts (X.blk s H scope cenv fp) Z c T where
  hK := h.hK
  hw := h.hw
  hu := h.hu
  fn := fun i x n q => by
    obtain ⟨k, f, r, g, m⟩ := h.fn i x n q
    exact ⟨k, f, r, ⟨g.ok, g.kp⟩, m⟩
  mt := fun i m kc n q => by
    obtain ⟨k, f, r, g, m⟩ := h.mt i m kc n q
    exact ⟨k, f, r, ⟨g.ok, g.kp⟩, m⟩
  mr := fun kc i x n q => by
    obtain ⟨k, f, r, g, m⟩ := h.mr kc i x n q
    exact ⟨k, f, r, ⟨g.made, g.ok⟩, m⟩
  mc := fun kc i x n q => by
    obtain ⟨k, f, r, g, m⟩ := h.mc kc i x n q
    exact ⟨k, f, r, ⟨g.made, g.ok⟩, m⟩
  gl := h.gl
  bi := h.bi
  na := h.na
  xc := h.xc
  rz := h.rz
  sb := h.sb
theorem blk_ok (h : CtxE X W N sc) {scope : Scope} {own : List (Str × Nat)} (q : blkC N sc scope own = true) : BlkOk X.N X.env.scope scope own := by
  obtain ⟨b1, b2, b3, b4, b5⟩ := blkOk_by q
  rw [h.n]
  exact ⟨b1, b2, b3, fun y hy e => h.fre _ (b4 y hy e), b5⟩
theorem and2 {a b : Bool} (h : (a && b) = true) : a = true ∧ b = true := Bool.and_eq_true_iff.mp h
theorem con_mem {α : Type} [BEq α] [LawfulBEq α] {l : List α} {a : α} (h : l.contains a = true) : a ∈ l := by simpa using h
/-! ### targets -/
theorem chkG_ok (hK : X.K = c.K) (h : CtxE X W N sc) : ∀ tg : Tg, (∀ e, (chkG N sc tg).one e = true → PG X e (tTg c tg)) ∧ (∀ es, (chkG N sc tg).many es = true → PGs X es (tTgs c tg) ∧ es.all plainX = true)
  | .nm i => ⟨fun e q => by
      cases e <;> first | (cases q; done) | skip
      obtain ⟨q1, q2⟩ := and2 q
      obtain ⟨l1, l2⟩ := h.loc _ q2
      exact g_nm (by rw [h.n]; exact h.nd) (by rw [h.n]; exact of_decide_eq_true q1) l1 l2, fun es q => by cases q⟩
  | .tn => ⟨fun e q => by
      cases e <;> first | (cases q; done) | skip
      rename_i es k p
      cases es with
      | cons _ _ => cases q
      | nil => exact g_tup hK h.calm rfl rfl rfl gs_nil, fun es q => by
      cases es with
      | nil => exact ⟨gs_nil, rfl⟩
      | cons _ _ => cases q⟩
  | .tc g t => by
    have ih1 := chkG_ok hK h g
    have ih2 := chkG_ok hK h t
    refine ⟨fun e q => ?_, fun es q => ?_⟩
    · cases e <;> first | (cases q; done) | skip
      rename_i es k p
      cases es with
      | nil => cases q
      | cons e es =>
        obtain ⟨q1, q⟩ := and2 q
        obtain ⟨q2, q⟩ := and2 q
        obtain ⟨q3, q⟩ := and2 q
        obtain ⟨q4, q5⟩ := and2 q
        have q3' := q3
        rw [List.all_cons, Bool.and_eq_true] at q3'
        exact g_tup hK h.calm (t := .tc g t) q1 (of_decide_eq_true q2) q3 (gs_cons q3'.1 (ih1.1 e q4) (ih2.2 es q5).1)
    · cases es with
      | nil => cases q
      | cons e es =>
        obtain ⟨q1, q⟩ := and2 q
        obtain ⟨q4, q5⟩ := and2 q
        obtain ⟨r1, r2⟩ := ih2.2 es q5
        exact ⟨gs_cons q1 (ih1.1 e q4) r1, by rw [List.all_cons, q1, r2]; rfl⟩
/-! ### constants, operators, names of built-ins -/
theorem cst_ok {d : D} {k : Const} {j : Nat} {pos : Pos} (q : cstB d k = true) : PE X (.Constant k j pos) (tEv Z c W (.cst d)) := by
  cases d <;> cases k <;> first | (cases q; done) | skip
  · exact s_cst pe_non fun _ _ => rfl
  · have q := eq_of_beq (show ((_ : Bool) == _) = true from q)
    subst q
    exact s_cst pe_bl fun _ _ => rfl
  · have q := of_decide_eq_true (show decide ((_ : Int) = _) = true from q)
    subst q
    exact s_cst pe_int fun _ _ => rfl
  · have q := of_decide_eq_true (show decide ((_ : Str) = _) = true from q)
    subst q
    exact s_cst pe_str fun _ _ => rfl
theorem opA_ok {op : BOp} {o : Operator} (q : opA op o = true) : fB op = binaryOp o := by
  cases op <;> cases o <;> first | (cases q; done) | rfl
theorem opC_ok {op : BOp} {o : CmpOp} (q : opC op o = true) : fB op = compareOp o ∧ isCmp op = true := by
  cases op <;> cases o <;> first | (cases q; done) | exact ⟨rfl, rfl⟩
theorem bi_boot : ∀ f : BI, (∃ id, fF f = .builtin id ∧ bootBuiltins f.nm = some (.builtin id)) ∨ ∃ n, fF f = .type n ∧ bootBuiltins f.nm = some (.type n) := by
  intro f
  cases f
  · exact .inl ⟨"len", rfl, by decide +kernel⟩
  · exact .inr ⟨"list", rfl, by decide +kernel⟩
  · exact .inr ⟨"tuple", rfl, by decide +kernel⟩
  · exact .inr ⟨"int", rfl, by decide +kernel⟩
  · exact .inr ⟨"str", rfl, by decide +kernel⟩
  · exact .inl ⟨"min", rfl, by decide +kernel⟩
  · exact .inl ⟨"max", rfl, by decide +kernel⟩
  · exact .inl ⟨"min", rfl, by decide +kernel⟩
  · exact .inl ⟨"max", rfl, by decide +kernel⟩
  · exact .inl ⟨"sum", rfl, by decide +kernel⟩
  · exact .inl ⟨"all", rfl, by decide +kernel⟩
  · exact .inl ⟨"any", rfl, by decide +kernel⟩
  · exact .inl ⟨"divmod", rfl, by decide +kernel⟩
  · exact .inl ⟨"abs", rfl, by decide +kernel⟩
  · exact .inl ⟨"sorted", rfl, by decide +kernel⟩
theorem bi_nm : ∀ f : BI, nmB f.nm = true := by
  intro f
  cases f <;> decide +kernel
theorem tyB_ok (h : CtxE X W N sc) (F : Facts X Z c T) : ∀ {ts : List Ty} {es : List Expr}, tyB T sc ts es = true → TysOk X es ts
  | [], [], _ => .nil
  | [], _ :: _, q => by cases q
  | t :: ts, [], q => by cases q
  | t :: ts, e :: es, q => by
    cases e <;> first | (cases q; done) | skip
    rename_i y p
    have q : (decide (y = Str.ofString t.name) && glB sc y && T.bi.contains y && tyB T sc ts es) = true := q
    obtain ⟨q, q4⟩ := and2 q
    obtain ⟨q, q3⟩ := and2 q
    obtain ⟨q1, q2⟩ := and2 q
    have q1 := of_decide_eq_true q1
    refine .cons ⟨h.gl _ q2, F.bi _ (con_mem q3), ?_, ?_, ?_⟩ (tyB_ok h F q4)
    · rw [q1]
      cases t <;> decide +kernel
    · rw [q1]
      cases t <;> decide +kernel
    · rw [q1]
      cases t <;> decide +kernel
theorem clB_ok (h : CtxE X W N sc) (F : Facts X Z c T) {d : Nat} {y : Str} (q : clB T sc d y = true) : ClsN X c d y := by
  obtain ⟨q1, q2⟩ := and2 q
  rw [Bool.or_eq_true] at q2
  rcases q2 with q2 | q2
  · obtain ⟨q3, q4⟩ := and2 q2
    obtain ⟨q4, q5⟩ := and2 q4
    have q3 := of_decide_eq_true q3
    have q4 := of_decide_eq_true q4
    subst q3 q4
    exact .ve (h.gl _ q1) (F.bi _ (con_mem q5))
  · obtain ⟨q3, q4⟩ := and2 q2
    obtain ⟨q4, q5⟩ := and2 q4
    exact .own (of_decide_eq_true q3) (h.gl _ q1) (F.xc _ _ (con_mem q4)) (nmB_ok q5).1
theorem xcB_ok (h : CtxE X W N sc) (F : Facts X Z c T) : ∀ {ds : List Nat} {es : List Expr}, xcB T sc ds es = true → Paired (fun y d => ∃ z p, y = Expr.Name z p ∧ ClsN X c d z) es ds
  | [], [], _ => .nil
  | [], _ :: _, q => by cases q
  | d :: ds, [], q => by cases q
  | d :: ds, e :: es, q => by
    cases e <;> first | (cases q; done) | skip
    rename_i y p
    obtain ⟨q1, q2⟩ := and2 (show (clB T sc d y && xcB T sc ds es) = true from q)
    exact .cons ⟨y, p, rfl, clB_ok h F q1⟩ (xcB_ok h F q2)
theorem mtB_ok {m : MT} (hK : X.K = c.K) (h : mtB m = true) (hu : X.A.units + 65 < cLine) : MtOk X c m := by
  cases m <;> first | (cases h; done) | skip
  · exact mtk_append
  · exact mtk_extend
  · exact mtk_pop0
  · exact mtk_popAt
  · exact mtk_insert
  · exact mtk_reverse
  · exact mtk_clear
  · exact mtk_index hK hu
  · exact mtk_get1 (Nat.lt_of_le_of_lt (Nat.add_le_add_left (by decide) _) hu)
  · exact mtk_get2 (Nat.lt_of_le_of_lt (Nat.add_le_add_left (by decide) _) hu)
end
end PB

set_option Elab.async false
set_option linter.all false
set_option autoImplicit false
set_option maxRecDepth 100000
/-! THE BRIDGE, 18: the look is right: expressions, the proof. -/
namespace PB
open PySem PySem.Spec PyProof.Rows L2
section
variable {X : Cx} {Z : Env} {c : Ct} {W : WX} {T : Tab} {N : List Str} {sc : Scope}
structure OkA (X : Cx) (Z : Env) (c : Ct) (W : WX) (T : Tab) (N : List Str) (a : A) (sc : Scope) : Prop where
  arg : ∀ es, (chkA T N a sc).a es = true → PA X es (tEa Z c W a) ∧ PA X es (tEo Z c W a)
  vand : ∀ es pos, (chkA T N a sc).vand es = true → PE X (.BoolOp .And es pos) (tEw c W (evAndV Z a))
  vor : ∀ es pos, (chkA T N a sc).vor es = true → PE X (.BoolOp .Or es pos) (tEw c W (evOrV Z a))
  tand : ∀ es pos, (chkA T N a sc).tand es = true → PW X (.BoolOp .And es pos) (tEx c W (evAndT Z a))
  tor : ∀ es pos, (chkA T N a sc).tor es = true → PW X (.BoolOp .Or es pos) (tEx c W (evOrT Z a))
  ifs : ∀ es, (chkA T N a sc).ifs es = true → PTs X es (tEx c W (evAndT Z a))
  p : ∀ ks vs pos, (chkA T N a sc).p ks vs = true → PPs X pos ks vs (trsOf Z c W a)
  pv : ∀ ks vs pos, (chkA T N a sc).pv ks vs = true → ∃ f r v vs', a = .cons f r ∧ vs = v :: vs' ∧ PE X v (tEv Z c W f) ∧ PPs X pos ks vs' (trsOf Z c W r)
  one : ∀ x, (chkA T N a sc).one x = true → ∃ e, a = .cons e .nil ∧ PE X x (tEv Z c W e)
structure OkE (X : Cx) (Z : Env) (c : Ct) (W : WX) (T : Tab) (N : List Str) (e : E) (sc : Scope) : Prop where
  v : ∀ x, (chkE T N e sc).v x = true → PE X x (tEv Z c W e)
  t : ∀ x, (chkE T N e sc).t x = true → PT X x (tEt Z c W e)
theorem okE_any (F : Facts X Z c T) {e : E} (he : plainT e = true) {v : Expr → Bool} (hv : ∀ x, v x = true → PE X x (tEv Z c W e)) : ∀ x, anyT v x = true → PT X x (tEt Z c W e) := fun x q => by
  obtain ⟨q1, q2⟩ := and2 q
  exact s_tany F.hK q1 he (hv x q2)
theorem isRange {x : Str} (q : decide (x = "range") = true) : x = "range" := of_decide_eq_true q
theorem itB_ok (h : CtxE X W N sc) (F : Facts X Z c T) {k : IK} {src : A} (o : OkA X Z c W T N src sc) {tgt iter : Expr} (q0 : itB T sc k (chkA T N src sc) tgt iter = true) : noSet iter = true ∧ PI X tgt iter (tIt Z c W k src) := by
  obtain ⟨q1, q⟩ := and2 q0
  refine ⟨q1, ?_⟩
  have gm : ∀ {x : Str}, glB sc x = true → T.bi.contains x = true → Gl X x ∧ X.mg x = none := fun g b => ⟨h.gl _ g, F.bi _ (con_mem b)⟩
  cases k <;> first | (cases q; done) | skip
  · obtain ⟨e, rfl, pe⟩ := o.one iter q
    exact s_it_ex F.hK pe
  · dsimp only at q
    split at q
    · obtain ⟨p1, z2⟩ := and2 q
      obtain ⟨p2, z3⟩ := and2 z2
      obtain ⟨p3, z4⟩ := and2 z3
      obtain ⟨p4, z5⟩ := and2 z4
      obtain ⟨g, m⟩ := gm p2 p3
      have p1 := of_decide_eq_true p1
      subst p1
      exact s_it_r1 g m p4 (o.arg _ z5).1
    · cases q
  · dsimp only at q
    split at q
    · obtain ⟨p1, z6⟩ := and2 q
      obtain ⟨p2, z7⟩ := and2 z6
      obtain ⟨p3, z8⟩ := and2 z7
      obtain ⟨p4, z9⟩ := and2 z8
      obtain ⟨p5, z10⟩ := and2 z9
      obtain ⟨g, m⟩ := gm p2 p3
      have p1 := of_decide_eq_true p1
      subst p1
      exact s_it_r2 g m p4 p5 (o.arg _ z10).1
    · cases q
  · dsimp only at q
    split at q
    · obtain ⟨p1, z11⟩ := and2 q
      obtain ⟨p2, z12⟩ := and2 z11
      obtain ⟨p3, z13⟩ := and2 z12
      obtain ⟨p4, z14⟩ := and2 z13
      obtain ⟨p5, z15⟩ := and2 z14
      obtain ⟨g, m⟩ := gm p2 p3
      have p1 := of_decide_eq_true p1
      subst p1
      cases tgt <;> first | (cases p5; done) | skip
      exact s_it_enum F.hK g m p4 (o.arg _ z15).1
    · cases q
  · dsimp only at q
    split at q
    · obtain ⟨p1, z16⟩ := and2 q
      obtain ⟨p2, z17⟩ := and2 z16
      obtain ⟨p3, z18⟩ := and2 z17
      obtain ⟨p4, z19⟩ := and2 z18
      obtain ⟨p5, z20⟩ := and2 z19
      obtain ⟨p6, z21⟩ := and2 z20
      obtain ⟨g, m⟩ := gm p2 p3
      have p1 := of_decide_eq_true p1
      subst p1
      cases tgt <;> first | (cases p6; done) | skip
      exact s_it_zip F.hK g m p4 p5 (o.arg _ z21).1
    · cases q
  · dsimp only at q
    split at q
    · obtain ⟨p1, z22⟩ := and2 q
      obtain ⟨p2, z23⟩ := and2 z22
      obtain ⟨p3, z24⟩ := and2 z23
      obtain ⟨p4, z25⟩ := and2 z24
      obtain ⟨g, m⟩ := gm p2 p3
      have p1 := of_decide_eq_true p1
      subst p1
      obtain ⟨e, rfl, pe⟩ := o.one _ z25
      exact s_it_rev F.hK g m p4 pe
    · cases q
theorem mark_ok {op : BOp} {o : CmpOp} {y : Expr} (n : noSet y = true) : behindInMarks o y = false := no_set n
theorem last_ok {o o' : CmpOp} {y z : Expr} (n : noSet z = true) : lastMarks [o, o'] [y, z] = false := by
  show lastMarks [o'] [z] = false
  show behindInMarks o' z = false
  exact no_set n
end
mutual
theorem chkE_ok {T : Tab} {N : List Str} {Z : Env} {c : Ct} : ∀ (e : E) {X : Cx} {W : WX} {sc : Scope}, CtxE X W N sc → Facts X Z c T → OkE X Z c W T N e sc
  | .var i, X, W, sc, h, F => by
    have hv : ∀ x, (chkE T N (.var i) sc).v x = true → PE X x (tEv Z c W (.var i)) := fun x q => by
      cases x <;> first | (cases q; done) | skip
      obtain ⟨q1, z26⟩ := and2 q
      obtain ⟨q2, q3⟩ := and2 z26
      obtain ⟨n1, n2, _⟩ := nmB_ok q3
      exact s_var (pe_var (by rw [h.n]; exact of_decide_eq_true q1) (h.vis _ q2) n1 n2)
    exact ⟨hv, okE_any F rfl hv⟩
  | .cst d, X, W, sc, h, F => by
    have hv : ∀ x, (chkE T N (.cst d) sc).v x = true → PE X x (tEv Z c W (.cst d)) := fun x q => by
      cases x <;> first | (cases q; done) | skip
      exact cst_ok q
    exact ⟨hv, okE_any F rfl hv⟩
  | .glo g, X, W, sc, h, F => by
    have hv : ∀ x, (chkE T N (.glo g) sc).v x = true → PE X x (tEv Z c W (.glo g)) := fun x q => by
      cases x <;> first | (cases q; done) | skip
      obtain ⟨q1, z27⟩ := and2 q
      obtain ⟨q2, q3⟩ := and2 z27
      obtain ⟨n1, n2, _⟩ := nmB_ok q3
      obtain ⟨d, v, u, e1, e2, e3, e4⟩ := F.gl _ _ (con_mem q1)
      exact s_glo (pe_glob (h.gl _ q2) e3 e4 n1) e1 e2
    exact ⟨hv, okE_any F rfl hv⟩
  | .bin op a b, X, W, sc, h, F => by
    have iha := chkE_ok a h F
    have ihb := chkE_ok b h F
    refine ⟨fun x q => ?_, fun x q => ?_⟩
    · have q : (match (generalizing := false) x with
        | .BinOp x o y _ => opA op o && ((chkE T N a sc).v x && (chkE T N b sc).v y)
        | .Compare x [o] [y] _ => opC op o && (noSet y && ((chkE T N a sc).v x && (chkE T N b sc).v y))
        | _ => false) = true := q
      split at q
      · obtain ⟨q1, z28⟩ := and2 q
        obtain ⟨q2, q3⟩ := and2 z28
        exact s_bin2 (ta := fun _ _ _ => True) (tb := fun _ _ _ => True) (pe_op (by rw [← opA_ok q1]; exact ob_ok F.hK F.hw F.hu op) (iha.v _ q2) (ihb.v _ q3))
      · obtain ⟨q1, z29⟩ := and2 q
        obtain ⟨q2, z30⟩ := and2 z29
        obtain ⟨q3, q4⟩ := and2 z30
        exact s_bin2 (ta := fun _ _ _ => True) (tb := fun _ _ _ => True) (pe_cmpR (by rw [← (opC_ok q1).1]; exact ob_ok F.hK F.hw F.hu op) (iha.v _ q3) (ihb.v _ q4) (no_set q2))
      · cases q
    · have q : (match (generalizing := false) x with
        | .BinOp x o y _ => opA op o && ((chkE T N a sc).v x && (chkE T N b sc).v y)
        | .Compare x [o] [y] _ => opC op o && (noSet y && ((chkE T N a sc).v x && (chkE T N b sc).v y))
        | _ => false) = true := q
      split at q
      · obtain ⟨q1, z31⟩ := and2 q
        obtain ⟨q2, q3⟩ := and2 z31
        exact s_tany F.hK rfl rfl (s_bin2 (ta := fun _ _ _ => True) (tb := fun _ _ _ => True) (pe_op (by rw [← opA_ok q1]; exact ob_ok F.hK F.hw F.hu op) (iha.v _ q2) (ihb.v _ q3)))
      · obtain ⟨q1, z32⟩ := and2 q
        obtain ⟨q2, z33⟩ := and2 z32
        obtain ⟨q3, q4⟩ := and2 z33
        exact s_tcmp (ta := fun _ _ _ => True) (tb := fun _ _ _ => True) (opC_ok q1).2 (pt_cmpR (by rw [← (opC_ok q1).1]; exact ob_ok F.hK F.hw F.hu op) (iha.v _ q3) (ihb.v _ q4) (no_set q2))
      · cases q
  | .un op a, X, W, sc, h, F => by
    have iha := chkE_ok a h F
    refine ⟨fun x q => ?_, fun x q => by cases q⟩
    have q : (match (generalizing := false) x with
      | .UnaryOp .USub x _ => (chkE T N a sc).v x
      | _ => false) = true := q
    split at q
    · cases op
      exact s_un (pe_un ou_neg (iha.v _ q))
    · cases q
  | .chn op op' a b d, X, W, sc, h, F => by
    have iha := chkE_ok a h F
    have ihb := chkE_ok b h F
    have ihd := chkE_ok d h F
    refine ⟨fun x q => ?_, fun x q => ?_⟩
    · have q : (match (generalizing := false) x with
        | .Compare x [o, o'] [y, z] _ => opC op o && (opC op' o' && (noSet z && ((chkE T N a sc).v x && ((chkE T N b sc).v y && (chkE T N d sc).v z))))
        | _ => false) = true := q
      split at q
      · obtain ⟨q1, z34⟩ := and2 q
        obtain ⟨q2, z35⟩ := and2 z34
        obtain ⟨q3, z36⟩ := and2 z35
        obtain ⟨q4, z37⟩ := and2 z36
        obtain ⟨q5, q6⟩ := and2 z37
        exact (pe_chain (by rw [← (opC_ok q1).1]; exact ob_ok F.hK F.hw F.hu op) (by rw [← (opC_ok q2).1]; exact ob_ok F.hK F.hw F.hu op') (iha.v _ q4) (ihb.v _ q5) (ihd.v _ q6) (last_ok q3)).imp fun σ H Q w => chn_read (opC_ok q1).2 w
      · cases q
    · have q : (match (generalizing := false) x with
        | .Compare x [o, o'] [y, z] _ => opC op o && (opC op' o' && (noSet z && ((chkE T N a sc).v x && ((chkE T N b sc).v y && (chkE T N d sc).v z))))
        | _ => false) = true := q
      split at q
      · obtain ⟨q1, z38⟩ := and2 q
        obtain ⟨q2, z39⟩ := and2 z38
        obtain ⟨q3, z40⟩ := and2 z39
        obtain ⟨q4, z41⟩ := and2 z40
        obtain ⟨q5, q6⟩ := and2 z41
        exact (pt_chain (by rw [← (opC_ok q1).1]; exact ob_ok F.hK F.hw F.hu op) (by rw [← (opC_ok q2).1]; exact ob_ok F.hK F.hw F.hu op') (iha.v _ q4) (ihb.v _ q5) (ihd.v _ q6) (last_ok q3)).imp fun σ H Q w => chn_read (opC_ok q1).2 (tEt_of_bl rfl (fun s v s' z => chn_bl s v s' z) w)
      · cases q
  | .ban a, X, W, sc, h, F => by
    have iha := chkA_ok a h F
    refine ⟨fun x q => ?_, fun x q => ?_⟩
    · have q : (match (generalizing := false) x with
        | .BoolOp .And es _ => (chkA T N a sc).vand es
        | _ => false) = true := q
      split at q
      · exact iha.vand _ _ q
      · cases q
    · have q : (match (generalizing := false) x with
        | .BoolOp .And es _ => (chkA T N a sc).tand es
        | _ => false) = true := q
      split at q
      · exact (iha.tand _ _ q).pt
      · cases q
  | .bor a, X, W, sc, h, F => by
    have iha := chkA_ok a h F
    refine ⟨fun x q => ?_, fun x q => ?_⟩
    · have q : (match (generalizing := false) x with
        | .BoolOp .Or es _ => (chkA T N a sc).vor es
        | _ => false) = true := q
      split at q
      · exact iha.vor _ _ q
      · cases q
    · have q : (match (generalizing := false) x with
        | .BoolOp .Or es _ => (chkA T N a sc).tor es
        | _ => false) = true := q
      split at q
      · exact (iha.tor _ _ q).pt
      · cases q
  | .nt a, X, W, sc, h, F => by
    have iha := chkE_ok a h F
    refine ⟨fun x q => ?_, fun x q => ?_⟩
    · have q : (match (generalizing := false) x with
        | .UnaryOp .Not x _ => (chkE T N a sc).v x
        | _ => false) = true := q
      split at q
      · exact s_nt (iha.v _ q)
      · cases q
    · have q : (match (generalizing := false) x with
        | .UnaryOp .Not x _ => (chkE T N a sc).t x
        | _ => false) = true := q
      split at q
      · exact s_tnt (iha.t _ q)
      · cases q
  | .ife t a b, X, W, sc, h, F => by
    have iht := chkE_ok t h F
    have iha := chkE_ok a h F
    have ihb := chkE_ok b h F
    refine ⟨fun x q => ?_, fun x q => by cases q⟩
    have q : (match (generalizing := false) x with
      | .IfExp x y z _ => (chkE T N t sc).t x && ((chkE T N a sc).v y && (chkE T N b sc).v z)
      | _ => false) = true := q
    split at q
    · obtain ⟨q1, z42⟩ := and2 q
      obtain ⟨q2, q3⟩ := and2 z42
      exact s_ife (iht.t _ q1) (iha.v _ q2) (ihb.v _ q3)
    · cases q
  | .tup a, X, W, sc, h, F => by
    have iha := chkA_ok a h F
    have hv : ∀ x, (chkE T N (.tup a) sc).v x = true → PE X x (tEv Z c W (.tup a)) := fun x q => by
      cases x <;> first | (cases q; done) | skip
      exact s_tup (iha.arg _ q).1
    exact ⟨hv, okE_any F rfl hv⟩
  | .lst a, X, W, sc, h, F => by
    have iha := chkA_ok a h F
    have hv : ∀ x, (chkE T N (.lst a) sc).v x = true → PE X x (tEv Z c W (.lst a)) := fun x q => by
      cases x <;> first | (cases q; done) | skip
      exact s_lst (iha.arg _ q).1
    exact ⟨hv, okE_any F rfl hv⟩
  | .dK, X, W, sc, h, F => by
    refine ⟨fun x q => ?_, fun x q => by cases q⟩
    have q : (match (generalizing := false) x with
      | .Dict [] [] _ => true
      | _ => false) = true := q
    split at q
    · exact s_dK pe_dnewK
    · cases q
  | .dT, X, W, sc, h, F => by
    refine ⟨fun x q => ?_, fun x q => by cases q⟩
    have q : (match (generalizing := false) x with
      | .Dict [] [] _ => true
      | _ => false) = true := q
    split at q
    · exact s_dT pe_dnewT
    · cases q
  | .dic a, X, W, sc, h, F => by
    have iha := chkA_ok a h F
    refine ⟨fun x q => ?_, fun x q => by cases q⟩
    cases x <;> first | (cases q; done) | skip
    rename_i ks vs p
    obtain ⟨q1, z43⟩ := and2 q
    obtain ⟨q2, z44⟩ := and2 z43
    obtain ⟨q3, z45⟩ := and2 z44
    obtain ⟨q4, z46⟩ := and2 z45
    obtain ⟨q5, q6⟩ := and2 z46
    exact s_dic (n := ks.length) (of_decide_eq_true q1) rfl (of_decide_eq_true q2) q5 (of_decide_eq_true q3) (of_decide_eq_true q4) (iha.p _ _ _ q6)
  | .sub a i, X, W, sc, h, F => by
    have iha := chkE_ok a h F
    have ihi := chkE_ok i h F
    have hv : ∀ x, (chkE T N (.sub a i) sc).v x = true → PE X x (tEv Z c W (.sub a i)) := fun x q => by
      cases x <;> first | (cases q; done) | skip
      obtain ⟨q1, z47⟩ := and2 q
      obtain ⟨q2, q3⟩ := and2 z47
      exact s_sub2 (pe_ix (ox_ok F.hK F.hw F.hu) (iha.v _ q2) (ihi.v _ q3) (ix_plain q1))
    exact ⟨hv, okE_any F rfl hv⟩
  | .sli a lo hi, X, W, sc, h, F => by
    have iha := chkE_ok a h F
    have ihl := chkE_ok lo h F
    have ihh := chkE_ok hi h F
    have hv : ∀ x, (chkE T N (.sli a lo hi) sc).v x = true → PE X x (tEv Z c W (.sli a lo hi)) := fun x q => by
      have q : (match (generalizing := false) x with
        | .Subscript x (.Slice l h none _) _ => (chkE T N a sc).v x && ((match (generalizing := false) l, lo with
          | none, .nop => true
          | some l, _ => (chkE T N lo sc).v l
          | _, _ => false) && (match (generalizing := false) h, hi with
          | none, .nop => true
          | some h, _ => (chkE T N hi sc).v h
          | _, _ => false))
        | _ => false) = true := q
      split at q
      · rename_i x l hh p p'
        obtain ⟨q1, z48⟩ := and2 q
        obtain ⟨q2, q3⟩ := and2 z48
        have po : ∀ (l : Option Expr) (lo : E), OkE X Z c W T N lo sc → (match (generalizing := false) l, lo with
          | none, .nop => true
          | some l, _ => (chkE T N lo sc).v l
          | _, _ => false) = true → PO X l (tPo Z c W lo) := fun l lo ih q => by
          cases l with
          | some l => exact s_po (ih.v _ q)
          | none =>
            cases lo <;> first | (cases q; done) | skip
            exact s_nop
        exact s_sli (pe_slice (osl_ok F.hK) (iha.v _ q1) (po _ _ ihl q2) (po _ _ ihh q3))
      · cases q
    exact ⟨hv, okE_any F rfl hv⟩
  | .nop, X, W, sc, h, F => ⟨fun x q => (by cases q), fun x q => (by cases q)⟩
  | .fld a f, X, W, sc, h, F => by
    have iha := chkE_ok a h F
    have hv : ∀ x, (chkE T N (.fld a f) sc).v x = true → PE X x (tEv Z c W (.fld a f)) := fun x q => by
      cases x <;> first | (cases q; done) | skip
      obtain ⟨q1, z49⟩ := and2 q
      obtain ⟨q2, q3⟩ := and2 z49
      have q1 := of_decide_eq_true q1
      subst q1
      exact s_fld F.hK F.na q2 (iha.v _ q3)
    exact ⟨hv, okE_any F rfl hv⟩
  | .bi f a, X, W, sc, h, F => by
    have iha := chkA_ok a h F
    have hv : ∀ x, (chkE T N (.bi f a) sc).v x = true → PE X x (tEv Z c W (.bi f a)) := fun x q => by
      have q : (match (generalizing := false) x with
        | .Call (.Name x _) (y :: ys) [] _ => decide (x = f.nm) && (glB sc x && (T.bi.contains x && ((y :: ys).all plainX && (chkA T N a sc).a (y :: ys))))
        | _ => false) = true := q
      split at q
      · rename_i x p y ys p'
        obtain ⟨q1, z50⟩ := and2 q
        obtain ⟨q2, z51⟩ := and2 z50
        obtain ⟨q3, z52⟩ := and2 z51
        obtain ⟨q4, q5⟩ := and2 z52
        have q1 := of_decide_eq_true q1
        subst q1
        obtain ⟨n1, n2, n3⟩ := nmB_ok (bi_nm f)
        have q4' := q4
        rw [List.all_cons, Bool.and_eq_true] at q4'
        have hc := oF_ok F.hK h.calm f
        rcases bi_boot f with ⟨id, e1, e2⟩ | ⟨id, e1, e2⟩
        · rw [e1] at hc
          exact s_bi (pe_callB hc (h.gl _ q2) (F.bi _ (con_mem q3)) e2 (iha.arg _ q5).2 n3 n1 (star_cons q4'.1) (any_plain q4'.2))
        · rw [e1] at hc
          exact s_bi (pe_callTy hc (h.gl _ q2) (F.bi _ (con_mem q3)) e2 (iha.arg _ q5).2 n3 n1 (star_cons q4'.1) (any_plain q4'.2))
      · cases q
    exact ⟨hv, okE_any F rfl hv⟩
  | .mt m o a, X, W, sc, h, F => by
    have iho := chkE_ok o h F
    have iha := chkA_ok a h F
    have hv : ∀ x, (chkE T N (.mt m o a) sc).v x = true → PE X x (tEv Z c W (.mt m o a)) := fun x q => by
      have q : (match (generalizing := false) x with
        | .Call (.Attribute x g ap) es [] cp => decide (g = m.name) && (mtB m && (baseOk x && (es.all plainX && (decide (es.length < 30) && ((ap.endLine == cp.line) && ((chkE T N o sc).v x && (chkA T N a sc).a es))))))
        | _ => false) = true := q
      split at q
      · obtain ⟨q1, z53⟩ := and2 q
        obtain ⟨q2, z54⟩ := and2 z53
        obtain ⟨q3, z55⟩ := and2 z54
        obtain ⟨q4, z56⟩ := and2 z55
        obtain ⟨q5, z57⟩ := and2 z56
        obtain ⟨q6, z58⟩ := and2 z57
        obtain ⟨q7, q8⟩ := and2 z58
        have q1 := of_decide_eq_true q1
        subst q1
        exact s_mt (mtB_ok F.hK q2 F.hu) q3 q4 (of_decide_eq_true q5) q6 (iho.v _ q7) (iha.arg _ q8).1
      · cases q
    exact ⟨hv, okE_any F rfl hv⟩
  | .cal i a, X, W, sc, h, F => by
    have iha := chkA_ok a h F
    have hv : ∀ x, (chkE T N (.cal i a) sc).v x = true → PE X x (tEv Z c W (.cal i a)) := fun x q => by
      have q : (match (generalizing := false) x with
        | .Call (.Name x _) es [] _ => T.fn.contains (i, x, a.len) && (glB sc x && (nmB x && (es.all plainX && (chkA T N a sc).a es)))
        | _ => false) = true := q
      split at q
      · obtain ⟨q1, z59⟩ := and2 q
        obtain ⟨q2, z60⟩ := and2 z59
        obtain ⟨q3, z61⟩ := and2 z60
        obtain ⟨q4, q5⟩ := and2 z61
        obtain ⟨k, f, r, g, m⟩ := F.fn _ _ _ (con_mem q1)
        exact s_cal h.tk r g (h.gl _ q2) m (nmB_ok q3).1 q4 rfl (iha.arg _ q5).1
      · cases q
    exact ⟨hv, okE_any F rfl hv⟩
  | .calP i a, X, W, sc, h, F => by
    have iha := chkA_ok a h F
    have hv : ∀ x, (chkE T N (.calP i a) sc).v x = true → PE X x (tEv Z c W (.calP i a)) := fun x q => by
      have q : (match (generalizing := false) x with
        | .Call (.Name x _) es [] _ => T.fn.contains (i, x, a.len) && (glB sc x && (nmB x && (es.all plainX && (chkA T N a sc).a es)))
        | _ => false) = true := q
      split at q
      · obtain ⟨q1, z59⟩ := and2 q
        obtain ⟨q2, z60⟩ := and2 z59
        obtain ⟨q3, z61⟩ := and2 z60
        obtain ⟨q4, q5⟩ := and2 z61
        obtain ⟨k, f, r, g, m⟩ := F.fn _ _ _ (con_mem q1)
        exact s_calP h.tk r g (h.gl _ q2) m (nmB_ok q3).1 q4 rfl (iha.arg _ q5).2
      · cases q
    exact ⟨hv, okE_any F rfl hv⟩
  | .calD i a, X, W, sc, h, F => by
    have iha := chkA_ok a h F
    have hv : ∀ x, (chkE T N (.calD i a) sc).v x = true → PE X x (tEv Z c W (.calD i a)) := fun x q => by
      have q : (match (generalizing := false) x with
        | .Call (.Name x _) es [] _ => T.fn.contains (i, x, a.len) && (glB sc x && (nmB x && (es.all plainX && (chkA T N a sc).a es)))
        | _ => false) = true := q
      split at q
      · obtain ⟨q1, z59⟩ := and2 q
        obtain ⟨q2, z60⟩ := and2 z59
        obtain ⟨q3, z61⟩ := and2 z60
        obtain ⟨q4, q5⟩ := and2 z61
        obtain ⟨k, f, r, g, m⟩ := F.fn _ _ _ (con_mem q1)
        exact s_calD h.tk r g (h.gl _ q2) m (nmB_ok q3).1 q4 rfl (iha.arg _ q5).2
      · cases q
    exact ⟨hv, okE_any F rfl hv⟩
  | .mkP kc i a, X, W, sc, h, F => by
    have iha := chkA_ok a h F
    refine ⟨fun x q => ?_, fun x q => by cases q⟩
    have q : (match (generalizing := false) x with
      | .Call (.Name x _) es [] _ => T.mr.contains (kc, i, x, a.len) && (glB sc x && (nmB x && (es.all plainX && (chkA T N a sc).a es)))
      | _ => false) = true := q
    split at q
    · obtain ⟨q1, z71⟩ := and2 q
      obtain ⟨q2, z72⟩ := and2 z71
      obtain ⟨q3, z73⟩ := and2 z72
      obtain ⟨q4, q5⟩ := and2 z73
      obtain ⟨k, f, r, g, m⟩ := F.mr _ _ _ _ (con_mem q1)
      exact s_mkP h.tk r g (h.gl _ q2) m (nmB_ok q3).1 q4 rfl (iha.arg _ q5).2
    · cases q
  | .met i m kc o a, X, W, sc, h, F => by
    have iho := chkE_ok o h F
    have iha := chkA_ok a h F
    have hv : ∀ x, (chkE T N (.met i m kc o a) sc).v x = true → PE X x (tEv Z c W (.met i m kc o a)) := fun x q => by
      have q : (match (generalizing := false) x with
        | .Call (.Attribute x g ap) es [] cp => decide (g = m) && (T.mt.contains (i, m, kc, a.len) && (baseOk x && (es.all plainX && (decide (es.length < 30) && ((ap.endLine == cp.line) && ((chkE T N o sc).v x && (chkA T N a sc).a es))))))
        | _ => false) = true := q
      split at q
      · obtain ⟨q1, z62⟩ := and2 q
        obtain ⟨q2, z63⟩ := and2 z62
        obtain ⟨q3, z64⟩ := and2 z63
        obtain ⟨q4, z65⟩ := and2 z64
        obtain ⟨q5, z66⟩ := and2 z65
        obtain ⟨q6, z67⟩ := and2 z66
        obtain ⟨q7, q8⟩ := and2 z67
        have q1 := of_decide_eq_true q1
        subst q1
        obtain ⟨k, f, r, g, cl, mm⟩ := F.mt _ _ _ _ (con_mem q2)
        exact s_met h.tk F.hK r g cl mm q4 rfl q3 (iho.v _ q7) (iha.arg _ q8).1 (of_decide_eq_true q5) q6
      · cases q
    exact ⟨hv, okE_any F rfl hv⟩
  | .mkC kc i a, X, W, sc, h, F => by
    have iha := chkA_ok a h F
    refine ⟨fun x q => ?_, fun x q => by cases q⟩
    have q : (match (generalizing := false) x with
      | .Call (.Name x _) es [] _ => T.mc.contains (kc, i, x, a.len) && (glB sc x && (nmB x && (es.all plainX && (chkA T N a sc).a es)))
      | _ => false) = true := q
    split at q
    · obtain ⟨q1, z68⟩ := and2 q
      obtain ⟨q2, z69⟩ := and2 z68
      obtain ⟨q3, z70⟩ := and2 z69
      obtain ⟨q4, q5⟩ := and2 z70
      obtain ⟨k, f, r, g, m⟩ := F.mc _ _ _ _ (con_mem q1)
      exact s_mkC h.tk r g (h.gl _ q2) m (nmB_ok q3).1 q4 rfl (iha.arg _ q5).1
    · cases q
  | .mkR kc i a, X, W, sc, h, F => by
    have iha := chkA_ok a h F
    refine ⟨fun x q => ?_, fun x q => by cases q⟩
    have q : (match (generalizing := false) x with
      | .Call (.Name x _) es [] _ => T.mr.contains (kc, i, x, a.len) && (glB sc x && (nmB x && (es.all plainX && (chkA T N a sc).a es)))
      | _ => false) = true := q
    split at q
    · obtain ⟨q1, z71⟩ := and2 q
      obtain ⟨q2, z72⟩ := and2 z71
      obtain ⟨q3, z73⟩ := and2 z72
      obtain ⟨q4, q5⟩ := and2 z73
      obtain ⟨k, f, r, g, m⟩ := F.mr _ _ _ _ (con_mem q1)
      exact s_mkR h.tk r g (h.gl _ q2) m (nmB_ok q3).1 q4 rfl (iha.arg _ q5).1
    · cases q
  | .isx a ts, X, W, sc, h, F => by
    have iha := chkE_ok a h F
    have hv : ∀ x, (chkE T N (.isx a ts) sc).v x = true → PE X x (tEv Z c W (.isx a ts)) := fun x q => by
      have q : (match (generalizing := false) x with
        | .Call (.Name x _) [y, .Name z p] [] _ => decide (x = "isinstance") && (glB sc x && (T.bi.contains x && (plainX y && (decide (ts.length = 1) && (xcB T sc ts [.Name z p] && (chkE T N a sc).v y)))))
        | .Call (.Name x _) [y, .Tuple es _ _] [] _ => decide (x = "isinstance") && (glB sc x && (T.bi.contains x && (plainX y && (decide (ts.length ≤ 20) && (decide (ts.length ≠ 0) && (xcB T sc ts es && (chkE T N a sc).v y))))))
        | _ => false) = true := q
      split at q
      · obtain ⟨q1, q⟩ := and2 q
        obtain ⟨q2, q⟩ := and2 q
        obtain ⟨q3, q⟩ := and2 q
        obtain ⟨q4, q⟩ := and2 q
        obtain ⟨q5, q⟩ := and2 q
        obtain ⟨q6, q7⟩ := and2 q
        have q1 := of_decide_eq_true q1
        subst q1
        have ty := xcB_ok h F q6
        cases ty with
        | cons ty r =>
          cases r
          obtain ⟨z', p', e, ty⟩ := ty
          cases e
          exact s_isx1 F.hK F.sb (h.gl _ q2) (F.bi _ (con_mem q3)) q4 ty (iha.v _ q7)
      · obtain ⟨q1, q⟩ := and2 q
        obtain ⟨q2, q⟩ := and2 q
        obtain ⟨q3, q⟩ := and2 q
        obtain ⟨q4, q⟩ := and2 q
        obtain ⟨q5, q⟩ := and2 q
        obtain ⟨q5', q⟩ := and2 q
        obtain ⟨q6, q7⟩ := and2 q
        have q1 := of_decide_eq_true q1
        subst q1
        have hne : ts ≠ [] := fun z => by
          rw [z] at q5'
          exact absurd q5' (by decide)
        exact s_isxT F.hK F.sb (h.gl _ q2) (F.bi _ (con_mem q3)) q4 (of_decide_eq_true q5) hne (xcB_ok h F q6) (iha.v _ q7)
      · cases q
    exact ⟨hv, okE_any F rfl hv⟩
  | .isi a ts, X, W, sc, h, F => by
    have iha := chkE_ok a h F
    have hv : ∀ x, (chkE T N (.isi a ts) sc).v x = true → PE X x (tEv Z c W (.isi a ts)) := fun x q => by
      have q : (match (generalizing := false) x with
        | .Call (.Name x _) [y, .Name z p] [] _ => decide (x = "isinstance") && (glB sc x && (T.bi.contains x && (plainX y && (decide (ts.length = 1) && (tyB T sc ts [.Name z p] && (chkE T N a sc).v y)))))
        | .Call (.Name x _) [y, .Tuple es _ _] [] _ => decide (x = "isinstance") && (glB sc x && (T.bi.contains x && (plainX y && (decide (ts.length ≤ 10) && (tyB T sc ts es && (chkE T N a sc).v y)))))
        | _ => false) = true := q
      split at q
      · obtain ⟨q1, z74⟩ := and2 q
        obtain ⟨q2, z75⟩ := and2 z74
        obtain ⟨q3, z76⟩ := and2 z75
        obtain ⟨q4, z77⟩ := and2 z76
        obtain ⟨q5, z78⟩ := and2 z77
        obtain ⟨q6, q7⟩ := and2 z78
        have q1 := of_decide_eq_true q1
        subst q1
        have ty := tyB_ok h F q6
        cases ty with
        | cons ty r =>
          cases r
          exact s_isi1 F.hK (h.gl _ q2) (F.bi _ (con_mem q3)) q4 ty (iha.v _ q7)
      · obtain ⟨q1, z79⟩ := and2 q
        obtain ⟨q2, z80⟩ := and2 z79
        obtain ⟨q3, z81⟩ := and2 z80
        obtain ⟨q4, z82⟩ := and2 z81
        obtain ⟨q5, z83⟩ := and2 z82
        obtain ⟨q6, q7⟩ := and2 z83
        have q1 := of_decide_eq_true q1
        subst q1
        exact s_isiT F.hK (h.gl _ q2) (F.bi _ (con_mem q3)) q4 (of_decide_eq_true q5) (tyB_ok h F q6) (iha.v _ q7)
      · cases q
    exact ⟨hv, okE_any F rfl hv⟩
  | .lc elt tg k src ifs ow, X, W, sc, h, F => by
    have ihs := chkA_ok src h F
    have hv : ∀ x, (chkE T N (.lc elt tg k src ifs ow) sc).v x = true → PE X x (tEv Z c W (.lc elt tg k src ifs ow)) := fun x q => by
      have q : (match (generalizing := false) x with
        | .ListComp el [⟨tgt, iter, fs, 0⟩] scope _ => itB T sc k (chkA T N src sc) tgt iter && (blkC N sc scope (ow.map fun i => ((N[i]?).getD "", i)) && ((chkG N scope tg).one tgt && ((chkA T N ifs scope).ifs fs && ((chkE T N elt scope).v el && (tg.slots.all (ow.contains ·))))))
        | _ => false) = true := q
      split at q
      · rename_i el tgt iter fs scope p zq
        obtain ⟨q1, z84⟩ := and2 q
        obtain ⟨q2, z85⟩ := and2 z84
        obtain ⟨q3, z86⟩ := and2 z85
        obtain ⟨q4, z87⟩ := and2 z86
        obtain ⟨q5, q6⟩ := and2 z87
        obtain ⟨g1, g2⟩ := itB_ok h F ihs q1
        have eo : (ow.map fun i => ((N[i]?).getD ("" : Str), i)).map (·.2) = ow := by
          rw [List.map_map]
          exact List.map_id' ow
        have main := s_lc (elt := elt) (tg := tg) (k := k) (src := src) (ifs := ifs) (own := ow.map fun i => ((N[i]?).getD ("" : Str), i)) (pos := p) h.calm (by rw [h.n]; exact h.nd) g2 (blk_ok h q2)
          (fun s H C cl fp => (chkG_ok (X := X.blk s H scope (compEnvC scope cl C X.env) fp) F.hK (h.blk s H scope C cl fp) tg).1 _ q3)
          (fun s H C cl fp => (chkA_ok ifs (h.blk s H scope C cl fp) (F.blk s H scope _ fp)).ifs _ q4)
          (fun s H C cl fp => (chkE_ok elt (h.blk s H scope C cl fp) (F.blk s H scope _ fp)).v _ q5)
          (by
            rw [eo]
            intro i hi
            have := List.all_eq_true.mp q6 i hi
            exact con_mem this) g1
        rw [eo] at main
        exact main
      · cases q
    exact ⟨hv, okE_any F rfl hv⟩
  | .lrv a, X, W, sc, h, F => by
    have iha := chkE_ok a h F
    have hv : ∀ x, (chkE T N (.lrv a) sc).v x = true → PE X x (tEv Z c W (.lrv a)) := fun x q => by
      have q : (match (generalizing := false) x with
        | .Call (.Name x _) [.Call (.Name y _) [z] [] _] [] _ => decide (x = "list") && (decide (y = "reversed") && (glB sc x && (glB sc y && (T.bi.contains x && (T.bi.contains y && (plainX z && (chkE T N a sc).v z))))))
        | _ => false) = true := q
      split at q
      · obtain ⟨q1, u1⟩ := and2 q
        obtain ⟨q2, u2⟩ := and2 u1
        obtain ⟨q3, u3⟩ := and2 u2
        obtain ⟨q4, u4⟩ := and2 u3
        obtain ⟨q5, u5⟩ := and2 u4
        obtain ⟨q6, u6⟩ := and2 u5
        obtain ⟨q7, q8⟩ := and2 u6
        have q1 := of_decide_eq_true q1
        have q2 := of_decide_eq_true q2
        subst q1 q2
        exact s_lrv F.hK h.calm (h.gl _ q3) (F.bi _ (con_mem q5)) (h.gl _ q4) (F.bi _ (con_mem q6)) (iha.v _ q8) (star_cons q7)
      · cases q
    exact ⟨hv, okE_any F rfl hv⟩
  | .nwc a, X, W, sc, h, F => ⟨fun x q => s_nwc ((chkE_ok a h F).v x q), fun x q => by cases q⟩
  | .fzc a, X, W, sc, h, F => ⟨fun x q => s_fzc ((chkE_ok a h F).v x q), fun x q => by cases q⟩
theorem chkA_ok {T : Tab} {N : List Str} {Z : Env} {c : Ct} : ∀ (a : A) {X : Cx} {W : WX} {sc : Scope}, CtxE X W N sc → Facts X Z c T → OkA X Z c W T N a sc
  | .nil, X, W, sc, h, F => by
    refine ⟨fun es q => ?_, fun es p q => (by cases q), fun es p q => (by cases q), fun es p q => (by cases q), fun es p q => (by cases q), fun es q => ?_, fun ks vs p q => ?_, fun ks vs p q => (by cases q), fun x q => (by cases q)⟩
    · cases es with
      | nil => exact ⟨s_anil, s_onil⟩
      | cons _ _ => cases q
    · cases es with
      | nil => exact s_ifs0
      | cons _ _ => cases q
    · cases ks with
      | cons _ _ => cases q
      | nil =>
        cases vs with
        | cons _ _ => cases q
        | nil => exact pps_nil
  | .cons e r, X, W, sc, h, F => by
    have ihe := chkE_ok e h F
    have ihr := chkA_ok r h F
    refine ⟨fun es q => ?_, fun es p q => ?_, fun es p q => ?_, fun es p q => ?_, fun es p q => ?_, fun es q => ?_, fun ks vs p q => ?_, fun ks vs p q => ?_, fun x q => ?_⟩
    · cases es with
      | nil => cases q
      | cons x xs =>
        obtain ⟨q1, q2⟩ := and2 q
        obtain ⟨q3, q4⟩ := and2 q2
        exact ⟨s_acons q1 (ihe.v _ q3) (ihr.arg _ q4).1, s_ocons q1 (ihe.v _ q3) (ihr.arg _ q4).2⟩
    · cases r with
      | nil =>
        match es, q with
        | [x], q => exact s_and1 (ihe.v _ q)
      | cons e' r' =>
        match es, q with
        | x :: y :: ys, q =>
          obtain ⟨q1, q2⟩ := and2 q
          exact s_and (ihe.v _ q1) (ihr.vand _ _ q2)
    · cases r with
      | nil =>
        match es, q with
        | [x], q => exact s_or1 (ihe.v _ q)
      | cons e' r' =>
        match es, q with
        | x :: y :: ys, q =>
          obtain ⟨q1, q2⟩ := and2 q
          exact s_or (ihe.v _ q1) (ihr.vor _ _ q2)
    · cases r with
      | nil =>
        match es, q with
        | [x], q => exact s_tand1 (ihe.t _ q)
      | cons e' r' =>
        match es, q with
        | x :: y :: ys, q =>
          obtain ⟨q1, q2⟩ := and2 q
          exact s_tand (ihe.t _ q1) (ihr.tand _ _ q2)
    · cases r with
      | nil =>
        match es, q with
        | [x], q => exact s_tor1 (ihe.t _ q)
      | cons e' r' =>
        match es, q with
        | x :: y :: ys, q =>
          obtain ⟨q1, q2⟩ := and2 q
          exact s_tor (ihe.t _ q1) (ihr.tor _ _ q2)
    · cases r with
      | nil =>
        match es, q with
        | [x], q => exact s_ifs1 (ihe.t _ q)
      | cons e' r' =>
        match es, q with
        | [], q => cases q
        | [_], q => cases q
        | _ :: _ :: _, q => cases q
    · match ks, q with
      | some k :: ks, q =>
        obtain ⟨q1, q2⟩ := and2 q
        obtain ⟨f, r', v, vs', rfl, rfl, e1, e2⟩ := ihr.pv _ _ p q2
        exact pps_cons (ihe.v _ q1) e1 e2
    · match vs, q with
      | v :: vs, q =>
        obtain ⟨q1, q2⟩ := and2 q
        exact ⟨e, r, v, vs, rfl, rfl, ihe.v _ q1, ihr.p _ _ p q2⟩
    · cases r with
      | nil => exact ⟨e, rfl, ihe.v _ q⟩
      | cons _ _ => cases q
end
end PB

set_option Elab.async false
set_option linter.all false
set_option autoImplicit false
set_option maxRecDepth 100000
/-! THE BRIDGE, 19: the look at statements. -/
namespace PB
open PySem PySem.Spec PyProof.Rows L2
def noComp : Expr → Bool
  | .ListComp .. => false
  | .SetComp .. => false
  | .DictComp .. => false
  | _ => true
/-- whether name = [..] stores past the frame's own way -/
def swN (sc : Scope) (x : Str) (p : Pos) (y : Expr) : Bool := match y with
  | .ListComp _ _ scope pos => lclB sc x && (p.line == pos.line) && !(scope.names.any fun (n, k) => n == x && (k == .local || k == .cell))
  | _ => false
def plainV : Expr → Bool
  | .SetComp .. => false
  | .DictComp .. => false
  | _ => true
def swP (sc : Scope) (ts vs : List Expr) : Option (Option (List Str)) :=
  if !(ts.length == 2 || ts.length == 3) || vs.length != ts.length then some none else
  if vs.any (fun | .Starred .. => true | _ => false) then some none else
  let line := (ts.head?.map (·.pos.line)).getD 0
  let names := ts.filterMap fun
    | .Name id pos => if sc.names.lookup id == some .local && pos.line == line then some id else none
    | _ => none
  if names.length != ts.length || names.eraseDups.length != names.length then some none else
  if vs.all (foldedForSure 8) then some none else
  if vs.all (constantsAlone 8) then none else
  some (some names)
def swT (sc : Scope) (t y : Expr) : Option (Option (List Str)) := match t, y with
  | .Tuple ts _ _, .Tuple vs _ _ => swP sc ts vs
  | .Tuple _ _ _, _ => some none
  | _, _ => none
theorem swapsWith_plain {y : Expr} {t : Option Expr} {l : Nat} {env : PySem.Env} (h : noComp y = true) : swapsWith y t l env = pure false := by
  cases y <;> first | (cases h; done) | rfl
theorem swapsWith_other {y t : Expr} {l : Nat} {env : PySem.Env} (h : plainV y = true) (ht : ∀ x p, t ≠ .Name x p) : swapsWith y (some t) l env = pure false := by
  cases y <;> first | (cases h; done) | rfl | skip
  cases t <;> first | rfl | exact absurd rfl (ht _ _)
theorem block_fn {env : PySem.Env} (hk : env.scope.kind = .function) : env.blockKind = .function := by
  unfold Env.blockKind
  rw [hk]
  rfl
theorem swapsWith_name {sc : Scope} {y : Expr} {x : Str} {p : Pos} {l : Nat} {env : PySem.Env} (hk : env.scope.kind = .function) (hs : env.scope = sc) (h : plainV y = true) : swapsWith y (some (.Name x p)) l env = pure (swN sc x p y) := by
  cases y <;> first | (cases h; done) | rfl | skip
  rename_i el gs scope pos
  have hb := block_fn hk
  unfold swapsWith
  have ek : (env.kindOf x == some .local) = lclB sc x := by
    show (env.scope.names.lookup x == some .local) = _
    rw [hs]
    unfold lclB
    split
    · rename_i q
      rw [q]
      rfl
    · rename_i q
      cases q2 : sc.names.lookup x with
      | none => rfl
      | some k => cases k <;> first | rfl | exact absurd q2 q
  simp only [hb, ek]
  rfl
theorem swP_ok {sc : Scope} {ts vs : List Expr} {r : Option (List Str)} {k k2 : Nat} {p p2 : Pos} {env : PySem.Env} (hk : env.scope.kind = .function) (hs : env.scope = sc) (h : swP sc ts vs = some r) : swappedStores [.Tuple ts k p] (.Tuple vs k2 p2) env = pure r := by
  have hb := block_fn hk
  have ek : ∀ x, env.kindOf x = sc.names.lookup x := fun x => by
    show env.scope.names.lookup x = _
    rw [hs]
  unfold swP at h
  unfold swappedStores
  simp only [hb, ek]
  split at h
  · rename_i q
    cases h
    have : (!(ts.length == 2 || ts.length == 3) || vs.length != ts.length || (ScopeKind.function != ScopeKind.function)) = true := by
      rw [q, Bool.true_or]
    exact (if_pos this).trans rfl
  · rename_i q
    have : ¬ (!(ts.length == 2 || ts.length == 3) || vs.length != ts.length || (ScopeKind.function != ScopeKind.function)) = true := by
      intro z
      rw [Bool.or_eq_true] at z
      rcases z with z | z
      · exact q z
      · cases z
    refine (if_neg this).trans ?_
    split at h
    · rename_i q2
      cases h
      exact (if_pos q2).trans rfl
    · rename_i q2
      refine (if_neg q2).trans ?_
      dsimp only at h ⊢
      split at h
      · rename_i q3
        cases h
        exact (if_pos q3).trans rfl
      · rename_i q3
        refine (if_neg q3).trans ?_
        split at h
        · rename_i q4
          cases h
          exact (if_pos q4).trans rfl
        · rename_i q4
          refine (if_neg q4).trans ?_
          split at h
          · cases h
          · rename_i q5
            cases h
            exact (if_neg q5).trans rfl
theorem swT_ok {sc : Scope} {t y : Expr} {r : Option (List Str)} {env : PySem.Env} (hk : env.scope.kind = .function) (hs : env.scope = sc) (h : swT sc t y = some r) : swappedStores [t] y env = pure r := by
  cases t <;> first | (cases h; done) | skip
  cases y <;> first | (cases h; rfl) | skip
  exact swP_ok hk hs h
structure CkC where
  s : Stmt → Bool
  b : List Stmt → Bool
def one (s : Stmt → Bool) : CkC := ⟨s, fun _ => false⟩
def chkC (T : Tab) (N : List Str) (sc : Scope) : C → CkC
  | .skip => ⟨fun st => match st with
    | .Pass _ => true
    | .Expr (.Constant (.str _) _ _) _ => true
    | _ => false, fun l => l.isEmpty⟩
  | .seq a b => ⟨fun _ => false, fun l => match l with
    | st :: rest => (chkC T N sc a).s st && (chkC T N sc b).b rest
    | [] => false⟩
  | .ex e => one fun st => match st with
    | .Expr x _ => noComp x && (chkE T N e sc).v x
    | _ => false
  | .asg tg e => one fun st => match st with
    | .Assign [.Name x p] y _ => (match tg with
      | .nm i => decide (N[i]? = some x) && (locB sc x && (plainV y && (chkE T N e sc).v y))
      | _ => false)
    | .Assign [.Tuple es k p] y _ => decide (swT sc (.Tuple es k p) y = some none) && (plainV y && ((chkG N sc tg).one (.Tuple es k p) && (chkE T N e sc).v y))
    | _ => false
  | .par i j a b => one fun st => match st with
    | .Assign [.Tuple [.Name x p1, .Name y p2] k p] (.Tuple [ea, eb] k2 p3) _ => decide (N[i]? = some x) && (decide (N[j]? = some y) && (decide (i ≠ j) && (lclB sc x && (lclB sc y && (plainX ea && (plainX eb && ((chkE T N a sc).v ea && ((chkE T N b sc).v eb && decide (swP sc [.Name x p1, .Name y p2] [ea, eb] = some (some [x, y]))))))))))
    | _ => false
  | .par3 i j l a b g => one fun st => match st with
    | .Assign [.Tuple [.Name x p1, .Name y p2, .Name z p4] k p] (.Tuple [ea, eb, eg] k2 p3) _ => decide (N[i]? = some x) && (decide (N[j]? = some y) && (decide (N[l]? = some z) && (decide (i ≠ j) && (decide (i ≠ l) && (decide (j ≠ l) && (lclB sc x && (lclB sc y && (lclB sc z && (plainX ea && (plainX eb && (plainX eg &&
        ((chkE T N a sc).v ea && ((chkE T N b sc).v eb && ((chkE T N g sc).v eg && decide (swP sc [.Name x p1, .Name y p2, .Name z p4] [ea, eb, eg] = some (some [x, y, z]))))))))))))))))
    | _ => false
  | .aug i e => one fun st => match st with
    | .AugAssign (.Name x _) .Add y _ => decide (N[i]? = some x) && (locB sc x && (chkE T N e sc).v y)
    | _ => false
  | .setI o i e => one fun st => match st with
    | .Assign [.Subscript ox ix _] y _ => plainV y && ((chkE T N o sc).v ox && ((chkE T N i sc).v ix && (chkE T N e sc).v y))
    | _ => false
  | .setF o f e => one fun st => match st with
    | .Assign [.Attribute ox g _] y _ => decide (f = g) && (plainV y && ((chkE T N o sc).v ox && (chkE T N e sc).v y))
    | _ => false
  | .augF o f e => one fun st => match st with
    | .AugAssign (.Attribute ox g _) .Add y _ => decide (f = g) && ((chkE T N o sc).v ox && (chkE T N e sc).v y)
    | _ => false
  | .ret e => one fun st => match st with
    | .Return (some x) _ => (chkE T N e sc).v x
    | _ => false
  | .retN => one fun st => match st with
    | .Return none _ => true
    | _ => false
  | .ite t a b => one fun st => match st with
    | .If x p q _ => (chkE T N t sc).t x && ((chkC T N sc a).b p && (chkC T N sc b).b q)
    | _ => false
  | .for_ tg k src body => one fun st => match st with
    | .For tgt iter bd [] _ => itB T sc k (chkA T N src sc) tgt iter && ((chkG N sc tg).one tgt && (chkC T N sc body).b bd)
    | _ => false
  | .whl t body => one fun st => match st with
    | .While x bd [] _ => (chkE T N t sc).t x && (chkC T N sc body).b bd
    | _ => false
  | .brk => one fun st => match st with
    | .Break _ => true
    | _ => false
  | .cnt => one fun st => match st with
    | .Continue _ => true
    | _ => false
  | .dead => one fun _ => true
  | .wp _ a _ => ⟨(chkC T N sc a).s, (chkC T N sc a).b⟩
  | .forL tg src body => one fun st => match st with
    | .For tgt iter bd [] _ => noSet iter && ((chkE T N src sc).v iter && ((chkG N sc tg).one tgt && (chkC T N sc body).b bd))
    | _ => false
  | .sda _ _ _ => one fun _ => false
  | .rai k f _ => one fun st => match f, st with
    | none, .Raise (some (.Call (.Name x _) [.Constant (.str _) _ _] [] _)) none _ => T.rz.contains (k, x) && (glB sc x && nmB x)
    | _, _ => false
  | .tr body kc nm suite => one fun st => match nm, suite, st with
    | some i, .seq (.asg (.nm j) (.var i')) .skip, .Try bd [.ExceptHandler (some (.Name x _)) (some n) [.Assign [.Name y _] (.Name n' _) _] _] [] [] _ => decide (i = i') && (decide (n = n') && (decide (N[i]? = some n) && (lclB sc n && (nmB n && (decide (N[j]? = some y) && (locB sc y && (clB T sc kc x && (chkC T N sc body).b bd)))))))
    | _, _, _ => false
structure CtxS (X : Cx) (W : WX) (N : List Str) (sc : Scope) : Prop extends CtxE X W N sc where
  sco : X.env.scope = sc
  kind : X.env.scope.kind = .function
  ps : PassesOwn (model X.prog X.w) X.A X.env X.xe
  stk : X.stack = X.env :: X.outer
  frm : X.env.frame = some X.env.locals
  exn : X.ex = []
structure OkC (X : Cx) (Z : Env) (c : Ct) (W : WX) (T : Tab) (N : List Str) (a : C) (sc : Scope) : Prop where
  s : ∀ st, (chkC T N sc a).s st = true → PS X st (tRun Z c W a)
  b : ∀ l, (chkC T N sc a).b l = true → PSs X l (tRun Z c W a)
section
variable {X : Cx} {Z : Env} {c : Ct} {W : WX} {T : Tab} {N : List Str} {sc : Scope}
theorem r_dead {st : Stmt} : PS X st (tRun Z c W .dead) := ps_never.imp fun Dn σ H h => by
  obtain ⟨F, w, s, sr, h⟩ := h
  exact h
/-- a comprehension that a name gets -/
theorem lc_like (h : CtxE X W N sc) (F : Facts X Z c T) {i : Nat} {x : Str} {py spos : Pos} (hy : X.N[i]? = some x) (hyl : X.env.scope.names.lookup x = some .local) : ∀ (e : E) {el : Expr} {gs : List Comprehension} {scope : Scope} {ps : Pos}, (chkE T N e sc).v (.ListComp el gs scope ps) = true →
    swapsWith (.ListComp el gs scope ps) (some (.Name x py)) spos.line X.env = pure true → ∀ (e0 : E), (∀ σ H Q, tEv Z c W e0 σ H Q → tEv Z c W e σ H Q) → PS X (.Assign [.Name x py] (.ListComp el gs scope ps) spos) (tRun Z c W (.asg (.nm i) e0)) := by
  intro e
  induction e using E.rec (motive_2 := fun _ => True) with
  | lc elt tg k src ifs ow _ _ _ =>
    intro el gs scope ps q hsw e0 read
    have q : (match (generalizing := false) Expr.ListComp el gs scope ps with
      | .ListComp el [⟨tgt, iter, fs, 0⟩] scope _ => itB T sc k (chkA T N src sc) tgt iter && (blkC N sc scope (ow.map fun i => ((N[i]?).getD "", i)) && ((chkG N scope tg).one tgt && ((chkA T N ifs scope).ifs fs && ((chkE T N elt scope).v el && (tg.slots.all (ow.contains ·))))))
      | _ => false) = true := q
    split at q
    · rename_i el' tgt iter fs scope' ps' he
      cases he
      obtain ⟨q1, z1⟩ := and2 q
      obtain ⟨q2, z2⟩ := and2 z1
      obtain ⟨q3, z3⟩ := and2 z2
      obtain ⟨q4, z4⟩ := and2 z3
      obtain ⟨q5, q6⟩ := and2 z4
      obtain ⟨g1, g2⟩ := itB_ok h F (chkA_ok src h F) q1
      have eo : (ow.map fun i => ((N[i]?).getD ("" : Str), i)).map (·.2) = ow := by
        rw [List.map_map]
        exact List.map_id' ow
      exact r_setLc (e := e0) (elt := elt) (tg := tg) (k := k) (src := src) (ifs := ifs) (own := ow.map fun i => ((N[i]?).getD ("" : Str), i)) h.calm (by rw [h.n]; exact h.nd) hy hyl hsw g2 (blk_ok h q2)
        (fun s H C cl fp => (chkG_ok (X := X.blk s H scope (compEnvC scope cl C X.env) fp) F.hK (h.blk s H scope C cl fp) tg).1 _ q3)
        (fun s H C cl fp => (chkA_ok ifs (h.blk s H scope C cl fp) (F.blk s H scope _ fp)).ifs _ q4)
        (fun s H C cl fp => (chkE_ok elt (h.blk s H scope C cl fp) (F.blk s H scope _ fp)).v _ q5)
        (by
          rw [eo]
          intro i hi
          have := List.all_eq_true.mp q6 i hi
          exact con_mem this) g1 (by rw [eo]; exact read)
    · cases q
  | nwc a ih =>
    intro el gs scope ps q hsw e0 read
    exact ih q hsw e0 fun σ H Q z => nwc_read (read σ H Q z)
  | fzc a ih =>
    intro el gs scope ps q hsw e0 read
    exact ih q hsw e0 fun σ H Q z => fzc_read (read σ H Q z)
  | nil => trivial
  | cons => trivial
  | _ =>
    intro el gs scope ps q
    cases q
theorem Facts.tr (h : Facts X Z c T) (pn : List (Addr × Obj)) (xe : Value → Shared → Prop) : Facts (X.tr pn xe) Z c T where
  hK := h.hK
  hw := h.hw
  hu := h.hu
  fn := fun i x n q => by
    obtain ⟨k, f, r, g, m⟩ := h.fn i x n q
    exact ⟨k, f, r, ⟨g.ok, g.kp⟩, m⟩
  mt := fun i m kc n q => by
    obtain ⟨k, f, r, g, m⟩ := h.mt i m kc n q
    exact ⟨k, f, r, ⟨g.ok, g.kp⟩, m⟩
  mr := fun kc i x n q => by
    obtain ⟨k, f, r, g, m⟩ := h.mr kc i x n q
    exact ⟨k, f, r, ⟨g.made, g.ok⟩, m⟩
  mc := fun kc i x n q => by
    obtain ⟨k, f, r, g, m⟩ := h.mc kc i x n q
    exact ⟨k, f, r, ⟨g.made, g.ok⟩, m⟩
  gl := h.gl
  bi := h.bi
  na := h.na
  xc := h.xc
  rz := h.rz
  sb := h.sb
theorem CtxS.tr (h : CtxS X W N sc) {W' : WX} (pn : List (Addr × Obj)) (xe : Value → Shared → Prop) (tk : Takes (X.tr pn xe) W') (ps : PassesOwn (model X.prog X.w) X.A X.env xe) : CtxS (X.tr pn xe) W' N sc :=
  ⟨⟨h.calm, h.n, h.nd, h.vis, h.loc, h.gl, h.fre, tk⟩, h.sco, h.kind, ps, h.stk, h.frm, h.exn⟩
theorem chkC_ok {X : Cx} {W : WX} (h : CtxS X W N sc) (F : Facts X Z c T) : ∀ a : C, OkC X Z c W T N a sc
  | .skip => by
    refine ⟨fun st q => ?_, fun l q => ?_⟩
    · have q : (match (generalizing := false) st with
        | .Pass _ => true
        | .Expr (.Constant (.str _) _ _) _ => true
        | _ => false) = true := q
      split at q
      · exact r_pass
      · exact r_doc
      · cases q
    · cases l with
      | nil => exact r_skip
      | cons _ _ => cases q
  | .seq a b => by
    have iha := chkC_ok h F a
    have ihb := chkC_ok h F b
    refine ⟨fun st q => (by cases q), fun l q => ?_⟩
    match l, q with
    | st :: rest, q =>
      obtain ⟨q1, q2⟩ := and2 q
      exact r_seq (iha.s _ q1) (ihb.b _ q2)
  | .ex e => by
    refine ⟨fun st q => ?_, fun l q => (by cases q)⟩
    cases st <;> first | (cases q; done) | skip
    obtain ⟨q1, q2⟩ := and2 q
    exact r_ex (swapsWith_plain q1) ((chkE_ok e h.toCtxE F).v _ q2)
  | .asg tg e => by
    refine ⟨fun st q => ?_, fun l q => (by cases q)⟩
    have q : (match (generalizing := false) st with
      | .Assign [.Name x p] y _ => (match (generalizing := false) tg with
        | .nm i => decide (N[i]? = some x) && (locB sc x && (plainV y && (chkE T N e sc).v y))
        | _ => false)
      | .Assign [.Tuple es k p] y _ => decide (swT sc (.Tuple es k p) y = some none) && (plainV y && ((chkG N sc tg).one (.Tuple es k p) && (chkE T N e sc).v y))
      | _ => false) = true := q
    split at q
    · rename_i x p y pos zz
      cases tg <;> first | (cases q; done) | skip
      rename_i i
      obtain ⟨q1, z1⟩ := and2 q
      obtain ⟨q2, z2⟩ := and2 z1
      obtain ⟨q3, q4⟩ := and2 z2
      have hi : X.N[i]? = some x := by
        rw [h.n]
        exact of_decide_eq_true q1
      obtain ⟨l1, l2⟩ := h.loc _ q2
      have hsw := swapsWith_name (x := x) (p := p) (l := pos.line) h.kind h.sco q3
      cases sw : swN sc x p y with
      | false =>
        rw [sw] at hsw
        exact r_set (by rw [h.n]; exact h.nd) hi l1 l2 hsw ((chkE_ok e h.toCtxE F).v _ q4)
      | true =>
        rw [sw] at hsw
        cases y <;> first | (cases sw; done) | skip
        rename_i el gs scope ps
        have hl : X.env.scope.names.lookup x = some .local := by
          have sw : (lclB sc x && (p.line == ps.line) && !(scope.names.any fun (n, k) => n == x && (k == .local || k == .cell))) = true := sw
          rw [h.sco]
          exact lclB_ok (and2 (and2 sw).1).1
        exact lc_like h.toCtxE F hi hl e q4 hsw e fun _ _ _ z => z
    · rename_i es k p y pos zz
      obtain ⟨q1, z1⟩ := and2 q
      obtain ⟨q2, z2⟩ := and2 z1
      obtain ⟨q3, q4⟩ := and2 z2
      refine r_asgT (fun i z => ?_) (swapsWith_other (t := .Tuple es k p) (l := pos.line) (env := X.env) q2 fun _ _ z => by cases z) (swT_ok h.kind h.sco (of_decide_eq_true q1)) rfl ((chkE_ok e h.toCtxE F).v _ q4) ((chkG_ok F.hK h.toCtxE tg).1 _ q3)
      subst z
      cases q3
    · cases q
  | .par i j a b => by
    refine ⟨fun st q => ?_, fun l q => (by cases q)⟩
    have q : (match (generalizing := false) st with
      | .Assign [.Tuple [.Name x p1, .Name y p2] k p] (.Tuple [ea, eb] k2 p3) _ => decide (N[i]? = some x) && (decide (N[j]? = some y) && (decide (i ≠ j) && (lclB sc x && (lclB sc y && (plainX ea && (plainX eb && ((chkE T N a sc).v ea && ((chkE T N b sc).v eb && decide (swP sc [.Name x p1, .Name y p2] [ea, eb] = some (some [x, y]))))))))))
      | _ => false) = true := q
    split at q
    · obtain ⟨q1, z1⟩ := and2 q
      obtain ⟨q2, z2⟩ := and2 z1
      obtain ⟨q3, z3⟩ := and2 z2
      obtain ⟨q4, z4⟩ := and2 z3
      obtain ⟨q5, z5⟩ := and2 z4
      obtain ⟨q6, z6⟩ := and2 z5
      obtain ⟨q7, z7⟩ := and2 z6
      obtain ⟨q8, z8⟩ := and2 z7
      obtain ⟨q9, q10⟩ := and2 z8
      exact r_par h.calm (by rw [h.n]; exact h.nd) (by rw [h.n]; exact of_decide_eq_true q1) (by rw [h.n]; exact of_decide_eq_true q2) (of_decide_eq_true q3) (by rw [h.sco]; exact lclB_ok q4) (by rw [h.sco]; exact lclB_ok q5)
        (s_acons q6 ((chkE_ok a h.toCtxE F).v _ q8) (s_acons q7 ((chkE_ok b h.toCtxE F).v _ q9) s_anil)) (swP_ok h.kind h.sco (of_decide_eq_true q10))
    · cases q
  | .par3 i j l a b g => by
    refine ⟨fun st q => ?_, fun l q => (by cases q)⟩
    have q : (match (generalizing := false) st with
      | .Assign [.Tuple [.Name x p1, .Name y p2, .Name z p4] k p] (.Tuple [ea, eb, eg] k2 p3) _ => decide (N[i]? = some x) && (decide (N[j]? = some y) && (decide (N[l]? = some z) && (decide (i ≠ j) && (decide (i ≠ l) && (decide (j ≠ l) && (lclB sc x && (lclB sc y && (lclB sc z && (plainX ea && (plainX eb && (plainX eg &&
        ((chkE T N a sc).v ea && ((chkE T N b sc).v eb && ((chkE T N g sc).v eg && decide (swP sc [.Name x p1, .Name y p2, .Name z p4] [ea, eb, eg] = some (some [x, y, z]))))))))))))))))
      | _ => false) = true := q
    split at q
    · obtain ⟨q1, z1⟩ := and2 q
      obtain ⟨q2, z2⟩ := and2 z1
      obtain ⟨q3, z3⟩ := and2 z2
      obtain ⟨q4, z4⟩ := and2 z3
      obtain ⟨q5, z5⟩ := and2 z4
      obtain ⟨q6, z6⟩ := and2 z5
      obtain ⟨q7, z7⟩ := and2 z6
      obtain ⟨q8, z8⟩ := and2 z7
      obtain ⟨q9, z9⟩ := and2 z8
      obtain ⟨q10, z10⟩ := and2 z9
      obtain ⟨q11, z11⟩ := and2 z10
      obtain ⟨q12, z12⟩ := and2 z11
      obtain ⟨q13, z13⟩ := and2 z12
      obtain ⟨q14, z14⟩ := and2 z13
      obtain ⟨q15, q16⟩ := and2 z14
      exact r_par3 h.calm (by rw [h.n]; exact h.nd) (by rw [h.n]; exact of_decide_eq_true q1) (by rw [h.n]; exact of_decide_eq_true q2) (by rw [h.n]; exact of_decide_eq_true q3) (of_decide_eq_true q4) (of_decide_eq_true q5) (of_decide_eq_true q6) (by rw [h.sco]; exact lclB_ok q7) (by rw [h.sco]; exact lclB_ok q8) (by rw [h.sco]; exact lclB_ok q9)
        (s_acons q10 ((chkE_ok a h.toCtxE F).v _ q13) (s_acons q11 ((chkE_ok b h.toCtxE F).v _ q14) (s_acons q12 ((chkE_ok g h.toCtxE F).v _ q15) s_anil))) (swP_ok h.kind h.sco (of_decide_eq_true q16))
    · cases q
  | .aug i e => by
    refine ⟨fun st q => ?_, fun l q => (by cases q)⟩
    have q : (match (generalizing := false) st with
      | .AugAssign (.Name x _) .Add y _ => decide (N[i]? = some x) && (locB sc x && (chkE T N e sc).v y)
      | _ => false) = true := q
    split at q
    · obtain ⟨q1, z1⟩ := and2 q
      obtain ⟨q2, q3⟩ := and2 z1
      obtain ⟨l1, l2⟩ := h.loc _ q2
      exact r_aug (by rw [h.n]; exact h.nd) (by rw [h.n]; exact of_decide_eq_true q1) l1 l2 ((chkE_ok e h.toCtxE F).v _ q3)
    · cases q
  | .setI o i e => by
    refine ⟨fun st q => ?_, fun l q => (by cases q)⟩
    have q : (match (generalizing := false) st with
      | .Assign [.Subscript ox ix _] y _ => plainV y && ((chkE T N o sc).v ox && ((chkE T N i sc).v ix && (chkE T N e sc).v y))
      | _ => false) = true := q
    split at q
    · obtain ⟨q1, z1⟩ := and2 q
      obtain ⟨q2, z2⟩ := and2 z1
      obtain ⟨q3, q4⟩ := and2 z2
      exact r_setI (Nat.lt_of_le_of_lt (Nat.add_le_add_left (by decide) _) F.hu) (swapsWith_other q1 fun _ _ z => by cases z) ((chkE_ok e h.toCtxE F).v _ q4) ((chkE_ok o h.toCtxE F).v _ q2) ((chkE_ok i h.toCtxE F).v _ q3)
    · cases q
  | .setF o f e => by
    refine ⟨fun st q => ?_, fun l q => (by cases q)⟩
    have q : (match (generalizing := false) st with
      | .Assign [.Attribute ox g _] y _ => decide (f = g) && (plainV y && ((chkE T N o sc).v ox && (chkE T N e sc).v y))
      | _ => false) = true := q
    split at q
    · obtain ⟨q1, z1⟩ := and2 q
      obtain ⟨q2, z2⟩ := and2 z1
      obtain ⟨q3, q4⟩ := and2 z2
      have q1 := of_decide_eq_true q1
      subst q1
      exact r_setF F.hK F.na (swapsWith_other q2 fun _ _ z => by cases z) ((chkE_ok o h.toCtxE F).v _ q3) ((chkE_ok e h.toCtxE F).v _ q4)
    · cases q
  | .augF o f e => by
    refine ⟨fun st q => ?_, fun l q => (by cases q)⟩
    have q : (match (generalizing := false) st with
      | .AugAssign (.Attribute ox g _) .Add y _ => decide (f = g) && ((chkE T N o sc).v ox && (chkE T N e sc).v y)
      | _ => false) = true := q
    split at q
    · obtain ⟨q1, z1⟩ := and2 q
      obtain ⟨q2, q3⟩ := and2 z1
      have q1 := of_decide_eq_true q1
      subst q1
      exact r_augF F.hK F.na ((chkE_ok o h.toCtxE F).v _ q2) ((chkE_ok e h.toCtxE F).v _ q3)
    · cases q
  | .ret e => by
    refine ⟨fun st q => ?_, fun l q => (by cases q)⟩
    have q : (match (generalizing := false) st with
      | .Return (some x) _ => (chkE T N e sc).v x
      | _ => false) = true := q
    split at q
    · exact r_ret ((chkE_ok e h.toCtxE F).v _ q)
    · cases q
  | .retN => by
    refine ⟨fun st q => ?_, fun l q => (by cases q)⟩
    have q : (match (generalizing := false) st with
      | .Return none _ => true
      | _ => false) = true := q
    split at q
    · exact r_retN
    · cases q
  | .ite t a b => by
    have iha := chkC_ok h F a
    have ihb := chkC_ok h F b
    refine ⟨fun st q => ?_, fun l q => (by cases q)⟩
    cases st <;> first | (cases q; done) | skip
    obtain ⟨q1, z1⟩ := and2 q
    obtain ⟨q2, q3⟩ := and2 z1
    exact r_ite ((chkE_ok t h.toCtxE F).t _ q1) (iha.b _ q2) (ihb.b _ q3)
  | .for_ tg k src body => by
    have ihb := chkC_ok h F body
    refine ⟨fun st q => ?_, fun l q => (by cases q)⟩
    have q : (match (generalizing := false) st with
      | .For tgt iter bd [] _ => itB T sc k (chkA T N src sc) tgt iter && ((chkG N sc tg).one tgt && (chkC T N sc body).b bd)
      | _ => false) = true := q
    split at q
    · obtain ⟨q1, z1⟩ := and2 q
      obtain ⟨q2, q3⟩ := and2 z1
      obtain ⟨g1, g2⟩ := itB_ok h.toCtxE F (chkA_ok src h.toCtxE F) q1
      exact r_for h.ps h.calm g2 ((chkG_ok F.hK h.toCtxE tg).1 _ q2) (ihb.b _ q3) g1
    · cases q
  | .whl t body => by
    have ihb := chkC_ok h F body
    refine ⟨fun st q => ?_, fun l q => (by cases q)⟩
    have q : (match (generalizing := false) st with
      | .While x bd [] _ => (chkE T N t sc).t x && (chkC T N sc body).b bd
      | _ => false) = true := q
    split at q
    · obtain ⟨q1, q2⟩ := and2 q
      exact r_whl h.ps ((chkE_ok t h.toCtxE F).t _ q1) (ihb.b _ q2)
    · cases q
  | .brk => by
    refine ⟨fun st q => ?_, fun l q => (by cases q)⟩
    cases st <;> first | (cases q; done) | exact r_brk
  | .cnt => by
    refine ⟨fun st q => ?_, fun l q => (by cases q)⟩
    cases st <;> first | (cases q; done) | exact r_cnt
  | .dead => ⟨fun st q => r_dead, fun l q => (by cases q)⟩
  | .wp l a l' => by
    have ih := chkC_ok h F a
    exact ⟨fun st q => r_wp (ih.s _ q), fun l q => r_wps (ih.b _ q)⟩
  | .forL tg src body => by
    have ihb := chkC_ok h F body
    refine ⟨fun st q => ?_, fun l q => (by cases q)⟩
    have q : (match (generalizing := false) st with
      | .For tgt iter bd [] _ => noSet iter && ((chkE T N src sc).v iter && ((chkG N sc tg).one tgt && (chkC T N sc body).b bd))
      | _ => false) = true := q
    split at q
    · obtain ⟨q1, z1⟩ := and2 q
      obtain ⟨q2, z2⟩ := and2 z1
      obtain ⟨q3, q4⟩ := and2 z2
      exact r_forL h.ps h.calm ((chkE_ok src h.toCtxE F).v _ q2) ((chkG_ok F.hK h.toCtxE tg).1 _ q3) (ihb.b _ q4) q1
    · cases q
  | .sda _ _ _ => ⟨fun st q => (by cases q), fun l q => (by cases q)⟩
  | .rai k f e => by
    refine ⟨fun st q => ?_, fun l q => (by cases q)⟩
    have q : (match (generalizing := false) f, st with
      | none, .Raise (some (.Call (.Name x _) [.Constant (.str _) _ _] [] _)) none _ => T.rz.contains (k, x) && (glB sc x && nmB x)
      | _, _ => false) = true := q
    split at q
    · obtain ⟨q1, q⟩ := and2 q
      obtain ⟨q2, q3⟩ := and2 q
      obtain ⟨r, m⟩ := F.rz _ _ (con_mem q1)
      exact r_rai h.calm h.tk PySem.F.excBase_ValueError r.ex m r.kp (raises_own r.sb r.ty) (h.gl _ q2) (nmB_ok q3).1
    · cases q
  | .tr body kc nm suite => by
    refine ⟨fun st q => ?_, fun l q => (by cases q)⟩
    have q : (match (generalizing := false) nm, suite, st with
      | some i, .seq (.asg (.nm j) (.var i')) .skip, .Try bd [.ExceptHandler (some (.Name x _)) (some n) [.Assign [.Name y _] (.Name n' _) _] _] [] [] _ => decide (i = i') && (decide (n = n') && (decide (N[i]? = some n) && (lclB sc n && (nmB n && (decide (N[j]? = some y) && (locB sc y && (clB T sc kc x && (chkC T N sc body).b bd)))))))
      | _, _, _ => false) = true := q
    split at q
    · obtain ⟨q1, q⟩ := and2 q
      obtain ⟨q2, q⟩ := and2 q
      obtain ⟨q3, q⟩ := and2 q
      obtain ⟨q4, q⟩ := and2 q
      obtain ⟨q5, q⟩ := and2 q
      obtain ⟨q6, q⟩ := and2 q
      obtain ⟨q7, q⟩ := and2 q
      obtain ⟨q8, q9⟩ := and2 q
      have q1 := of_decide_eq_true q1
      have q2 := of_decide_eq_true q2
      subst q1 q2
      have ln := lclB_ok q4
      obtain ⟨n1, n2, _⟩ := nmB_ok q5
      have ll := h.loc _ q7
      exact r_tr1 F.hK F.sb h.stk h.frm h.exn (by rw [h.n]; exact h.nd) (by rw [h.n]; exact of_decide_eq_true q3) (by show X.env.scope.names.lookup _ = _; rw [h.sco]; exact ln) (.inl (by rw [h.sco]; exact ln)) n1 n2 (by rw [h.n]; exact of_decide_eq_true q6) ll.1 ll.2 (clB_ok h.toCtxE F q8) h.tk
        (fun W' pn xe tk ps => (chkC_ok (h.tr pn xe tk ps) (F.tr pn xe) body).b _ q9)
    · cases q
end
end PB

set_option Elab.async false
set_option linter.all false
set_option autoImplicit false
set_option maxRecDepth 100000
/-! THE BRIDGE, 20: defs. -/
namespace PB
open PySem PySem.Spec PyProof.Rows L2
/-- a def of the text and its code -/
structure Dn where
  i : Nat
  d : He.DefD
  f : Fn
  N : List Str
  ps : List Str
def scB (N ps : List Str) (sc : Scope) : Bool := decide (sc.kind = .function) && (!sc.isCoroutine && (!sc.isGenerator && (decide N.Nodup && (decide (N.take ps.length = ps) && ((ps.all fun x => locB sc x) && (sc.names.all fun y => decide (y.2 ≠ .free)))))))
theorem scB_ok {N ps : List Str} {sc : Scope} (h : scB N ps sc = true) : FnScope N ps sc := by
  obtain ⟨h1, h⟩ := and2 h
  obtain ⟨h2, h⟩ := and2 h
  obtain ⟨h3, h⟩ := and2 h
  obtain ⟨h4, h⟩ := and2 h
  obtain ⟨h5, h⟩ := and2 h
  obtain ⟨h6, h7⟩ := and2 h
  refine ⟨of_decide_eq_true h1, by simpa using h2, by simpa using h3, of_decide_eq_true h4, of_decide_eq_true h5, fun x hx => ?_, fun y hy => ?_⟩
  · exact locB_ok (List.all_eq_true.mp h6 x hx)
  · exact of_decide_eq_true (List.all_eq_true.mp h7 y hy)
def Dn.chk (T : Tab) (z : Dn) : Bool := scB z.N z.ps z.d.scope && (decide (z.ps.length = z.f.np) && (decide (z.N.length = z.f.n) && (chkC T z.N z.d.scope z.f.body).b z.d.body))
def Dn.Bd (z : Dn) : Prop := z.d.dfl = [] ∧ z.d.kwd = [] ∧ ∀ (kV doc pm : Value) (an : Option Addr) (cdv ct : Value) (us : List Value), us.length = z.ps.length →
  bindArgs (PySem.W.fnOf z.d.name z.d.qual z.d.params z.d.body z.d.scope .none kV doc pm an cdv ct) ⟨us, []⟩ = pure (z.ps.zip us)
section
variable {c : Ct} {F : Hp} {w : Wd} {H : Hp} {σ : L2.St} {s : S}
theorem SR.out (x : SR c F w H σ s) : SR c F w H [] ⟨[], s.st⟩ where
  bh := x.bh
  fh := x.fh
  fb := x.fb
  tb := x.tb
  im := fun i d e => by cases e
  ow := fun i d e => by cases e
  ce := x.ce
  ln := x.ln
  sl := rfl
  pn := x.pn
/-- the slots at the entry -/
theorem SR.into {st : List (Option D)} (x : SR c F w H [] ⟨[], st⟩) {ds : List D} {vs : List V} (r : Reps c w.B w.m ds vs) {N : List Str} {n : Nat} (hn : N.length = n) : SR c F w H (L2.start N vs) ⟨ds.map .im ++ List.replicate (n - ds.length) .no, st⟩ where
  bh := x.bh
  fh := x.fh
  fb := x.fb
  tb := x.tb
  im := fun i d e => by
    by_cases h : i < ds.length
    · rw [List.getElem?_append_left (by simpa using h), List.getElem?_map] at e
      cases q : ds[i]? with
      | none =>
        rw [q] at e
        cases e
      | some d' =>
        rw [q] at e
        cases e
        obtain ⟨v, h1, h2⟩ := r.get q
        refine ⟨v, ?_, h2⟩
        show ((vs.map some) ++ List.replicate (N.length - vs.length) none)[i]? = some (some v)
        rw [List.getElem?_append_left (by simpa [r.length] using h), List.getElem?_map, h1]
        rfl
    · rw [List.getElem?_append_right (by simpa using h), List.getElem?_replicate] at e
      split at e <;> cases e
  ow := fun i d e => by
    by_cases h : i < ds.length
    · rw [List.getElem?_append_left (by simpa using h), List.getElem?_map] at e
      cases q : ds[i]? with
      | none =>
        rw [q] at e
        cases e
      | some d' =>
        rw [q] at e
        cases e
    · rw [List.getElem?_append_right (by simpa using h), List.getElem?_replicate] at e
      split at e <;> cases e
  ce := x.ce
  ln := x.ln
  sl := by
    show (ds.map Sl.im ++ List.replicate (n - ds.length) Sl.no).length = ((vs.map some) ++ List.replicate (N.length - vs.length) none).length
    simp [r.length, hn]
  pn := x.pn
def Ct.at (c : Ct) (q : Option Addr) : Ct := { c with pin := q }
mutual
theorem Rep.re {c : Ct} {q : Option Addr} {B : Hp} {m : List Addr} : ∀ (d : D) (v : V), Rep c B m d v → Rep (c.at q) B m d v
  | .non, v, h => h
  | .bl b, v, h => h
  | .int i, v, h => h
  | .str s, v, h => h
  | .lst ds, v, h => by
    obtain ⟨a, vs, e, hs, hr⟩ := h
    exact ⟨a, vs, e, hs, Reps.re ds vs hr⟩
  | .scr ds, v, h => by
    obtain ⟨a, vs, e, hs, hr⟩ := h
    exact ⟨a, vs, e, hs, Reps.re ds vs hr⟩
  | .tup ds, v, h => by
    obtain ⟨a, vs, e, hs, hr⟩ := h
    exact ⟨a, vs, e, hs, Reps.re ds vs hr⟩
  | .stp ds, v, h => by
    obtain ⟨a, vs, e, hs, hr⟩ := h
    exact ⟨a, vs, e, hs, Reps.re ds vs hr⟩
  | .dk kvs, v, h => by
    obtain ⟨a, vs, e, hs, hr⟩ := h
    exact ⟨a, vs, e, hs, RepK.re kvs vs hr⟩
  | .dt kvs, v, h => by
    obtain ⟨a, vs, e, hs, hr⟩ := h
    exact ⟨a, vs, e, hs, RepT.re kvs vs hr⟩
  | .sd kvs, v, h => h
  | .ins k fs, v, h => by
    obtain ⟨a, dx, us, e, hs, hr⟩ := h
    exact ⟨a, dx, us, e, hs, RepF.re fs us hr⟩
  | .cell k, v, h => h
  | .exc k fs, v, h => by
    obtain ⟨a, d, e, h1, h2⟩ := h
    refine ⟨a, d, e, h1, ?_⟩
    rcases h2 with h2 | ⟨dd, us, e1, e2, h3, h4⟩
    · exact .inl h2
    · exact .inr ⟨dd, us, e1, e2, RepF.re fs us h3, h4⟩
theorem Reps.re {c : Ct} {q : Option Addr} {B : Hp} {m : List Addr} : ∀ (ds : List D) (vs : List V), Reps c B m ds vs → Reps (c.at q) B m ds vs
  | [], vs, h => h
  | d :: ds, vs, h => by
    obtain ⟨v, us, e, h1, h2⟩ := h
    exact ⟨v, us, e, Rep.re d v h1, Reps.re ds us h2⟩
theorem RepK.re {c : Ct} {q : Option Addr} {B : Hp} {m : List Addr} : ∀ (ds : List (Key × D)) (vs : List (Key × V)), RepK c B m ds vs → RepK (c.at q) B m ds vs
  | [], vs, h => h
  | (k, d) :: ds, vs, h => by
    obtain ⟨v, us, e, h1, h2⟩ := h
    exact ⟨v, us, e, Rep.re d v h1, RepK.re ds us h2⟩
theorem RepT.re {c : Ct} {q : Option Addr} {B : Hp} {m : List Addr} : ∀ (ds : List (List Key × D)) (vs : List (List Key × V)), RepT c B m ds vs → RepT (c.at q) B m ds vs
  | [], vs, h => h
  | (k, d) :: ds, vs, h => by
    obtain ⟨v, us, e, h1, h2⟩ := h
    exact ⟨v, us, e, Rep.re d v h1, RepT.re ds us h2⟩
theorem RepF.re {c : Ct} {q : Option Addr} {B : Hp} {m : List Addr} : ∀ (ds : List (Str × D)) (vs : List (Str × V)), RepF c B m ds vs → RepF (c.at q) B m ds vs
  | [], vs, h => h
  | (k, d) :: ds, vs, h => by
    obtain ⟨v, us, e, h1, h2⟩ := h
    exact ⟨v, us, e, Rep.re d v h1, RepF.re ds us h2⟩
end
theorem RepO.re {c : Ct} {q : Option Addr} {w : Wd} {o : HO} {d : D} (h : RepO c w o d) : RepO (c.at q) w o d := by
  unfold RepO at h ⊢
  split at h
  · exact Reps.re _ _ h
  · exact RepK.re _ _ h
  · exact RepT.re _ _ h
  · exact ⟨h.1, RepF.re _ _ h.2⟩
  · cases h
theorem fenceW_noI {w : Wd} {a : Addr} {i : Nat} : (fenceW w).τ a ≠ some (.inl i) := fun e => by
  rcases own_dec w a with ⟨j, q⟩ | q
  · rw [fenceW_own q] at e
    cases e
  · rw [fenceW_no q] at e
    exact q i e
theorem SR.re (x : SR c F w H [] s) (q : Option Addr) (hs : s.ρ = []) : SR (c.at q) F (fenceW w) H [] s where
  bh := x.bh
  fh := x.fh
  fb := fun a o e => by
    obtain ⟨h1, h2⟩ := x.fb a o e
    refine ⟨h1, ?_⟩
    rw [fenceW_no (fun i z => by rw [h2] at z; cases z)]
    exact h2
  tb := fun a o e => by
    rcases own_dec w a with ⟨i, q⟩ | q
    · rw [fenceW_own q] at e
      cases e
    · rw [fenceW_no q] at e
      exact x.tb _ _ e
  im := fun i d e => by
    rw [hs] at e
    cases e
  ow := fun i d e => by
    rw [hs] at e
    cases e
  ce := fun k d e => by
    obtain ⟨a, o, h1, h2, h3, h4⟩ := x.ce k d e
    exact ⟨a, o, h1, by rw [fenceW_no (fun i z => by rw [h2] at z; cases z)]; exact h2, h3, (h4.mono (w' := fenceW w) ⟨Sub.refl _, [], (List.append_nil _).symm⟩).re⟩
  ln := x.ln
  sl := x.sl
  pn := fun p a _ e => absurd e fenceW_noI
/-- .. of __init__: the new object stands in slot 0 -/
theorem SR.intoN {st : List (Option D)} {a dx : Addr} (x : SR (c.at (some a)) F w H [] ⟨[], st⟩) {ds : List D} {vs : List V} (r : Reps (c.at (some a)) w.B w.m ds vs) {k : Nat} (hH : H a = some (.ins (c.cA k) dx [])) (hB : w.B a = none) (hF : F a = none) (hτ : w.τ a = none) {N : List Str} {n : Nat} (hn : N.length = n) :
    SR (c.at (some a)) F (w.own a (some (.inl 0))) H (L2.start N (.ref a :: vs)) ⟨.own (.ins k []) :: (ds.map .im ++ List.replicate (n - (ds.length + 1)) .no), st⟩ := by
  have ex : Ext w (w.own a (some (.inl 0))) := Ext.own
  refine ⟨x.bh, x.fh, fun b u e => ⟨(x.fb b u e).1, ?_⟩, fun b u e => ?_, fun i d e => ?_, fun i d e => ?_, fun i d e => ?_, x.ln, ?_, fun p b hp e => ?_⟩
  · rw [own_ne fun z => by rw [z, hF] at e; cases e]
    exact (x.fb b u e).2
  · by_cases z : b = a
    · subst z
      exact ⟨hB, by rw [hH]; simp⟩
    · rw [own_ne z] at e
      exact x.tb b u e
  · cases i with
    | zero => cases e
    | succ i =>
      have e : (ds.map Sl.im ++ List.replicate (n - (ds.length + 1)) .no)[i]? = some (.im d) := e
      by_cases h : i < ds.length
      · rw [List.getElem?_append_left (by simpa using h), List.getElem?_map] at e
        cases q : ds[i]? with
        | none =>
          rw [q] at e
          cases e
        | some d' =>
          rw [q] at e
          cases e
          obtain ⟨v, h1, h2⟩ := r.get q
          refine ⟨v, ?_, h2⟩
          show ((vs.map some) ++ List.replicate (N.length - (vs.length + 1)) none)[i]? = some (some v)
          rw [List.getElem?_append_left (by simpa [r.length] using h), List.getElem?_map, h1]
          rfl
      · rw [List.getElem?_append_right (by simpa using h), List.getElem?_replicate] at e
        split at e <;> cases e
  · cases i with
    | zero =>
      cases e
      exact ⟨a, .ins (c.cA k) dx [], rfl, own_same, hH, rfl, rfl⟩
    | succ i =>
      have e : (ds.map Sl.im ++ List.replicate (n - (ds.length + 1)) .no)[i]? = some (.own d) := e
      by_cases h : i < ds.length
      · rw [List.getElem?_append_left (by simpa using h), List.getElem?_map] at e
        cases q : ds[i]? with
        | none =>
          rw [q] at e
          cases e
        | some d' =>
          rw [q] at e
          cases e
      · rw [List.getElem?_append_right (by simpa using h), List.getElem?_replicate] at e
        split at e <;> cases e
  · obtain ⟨b, u, h1, h2, h3, h4⟩ := x.ce i d e
    exact ⟨b, u, h1, by rw [own_ne fun z => by rw [z, hτ] at h2; cases h2]; exact h2, h3, h4.own⟩
  · show (Sl.own (.ins k []) :: (ds.map Sl.im ++ List.replicate (n - (ds.length + 1)) .no)).length = (((V.ref a :: vs).map some) ++ List.replicate (N.length - (V.ref a :: vs).length) none).length
    simp [r.length, hn]
  · by_cases z : b = a
    · cases hp
      exact z
    · rw [own_ne z] at e
      exact x.pn p b hp e
end
section
variable {P : Program} {w : World} {K : PySem.W.Frag} {mg : Str → Option Value} {base : Heap} {c : Ct} {T : Tab} {Z : Env}
/-- what is known of the callees, to a body with room k -/
def Lv (P : Program) (w : World) (K : PySem.W.Frag) (mg : Str → Option Value) (base : Heap) (c : Ct) (T : Tab) (Z : Env) (k : Nat) : Prop :=
  ∀ X : Cx, X.prog = P → X.w = w → X.K = K → X.mg = mg → X.base = base → Room k X.A → Facts X Z c T
theorem post_out {F : Hp} {w0 : Wd} {Q : VK} {E : XK} {r : R Fl} (h : PostC c F w0 Q E (endF r)) : PostS c F (fun cls d _ H => E cls d H) w0 { nx := fun _ H' => Q .non H', rt := Q } r := by
  cases r with
  | no => exact h
  | er k fs s => exact fun w' H' σ' cls d sr ex er => h w' H' cls d sr.out ex er
  | ok f s =>
    cases f with
    | nx => exact fun w' H' σ' sr ex => h w' H' .non sr.out ex rfl
    | bk => exact h.elim
    | ct => exact h.elim
    | rt v =>
      cases v with
      | im d => exact fun w' H' σ' x sr ex rv => h w' H' x sr.out ex rv
      | own d => exact fun w' H' σ' x sr ex rv => h w' H' x sr.out ex rv
      | pk i => exact h.elim
theorem post_outN {F : Hp} {w0 : Wd} {a : Addr} {q : Option Addr} {Q : VK} {E : XK} {r : R Fl} (hF : F a = none) (h : PostN (c.at q) F w0 a Q E (endN r)) :
    PostS (c.at (some a)) F (fun cls d _ H => E cls d H) ((fenceW w0).own a (some (.inl 0))) { nx := fun _ H' => Q .non H', rt := Q } r := by
  cases r with
  | no => exact h
  | er k fs s => exact fun w' H' σ' cls d sr ex er => h (fenceW w') H' cls d (SR.re sr.out q rfl) ex (by
      obtain ⟨e1, e2⟩ := er
      refine ⟨e1, e2.imp id fun ⟨dd, us, z1, z2, z3, z4⟩ => ⟨dd, us, z1, z2, RepF.re (c := c.at (some a)) (q := q) _ _ z3, z4⟩⟩)
  | ok f s =>
    cases f with
    | bk => exact h.elim
    | ct => exact h.elim
    | rt v => exact h.elim
    | nx =>
      have h : PostN (c.at q) F w0 a Q E (match (s.ρ[0]? : Option Sl) with
        | some (Sl.own d) => .ok (.own d) s.st
        | _ => .no) := h
      split at h
      · rename_i d z
        refine fun w' H' σ' sr ex => h (fenceW w') H' (SR.re sr.out q rfl) ex ?_
        obtain ⟨b, o, h1, h2, h3, h4⟩ := sr.ow 0 d z
        have := sr.pn a b rfl h2
        subst this
        refine ⟨o, h3, RepO.re (c := c.at (some b)) (q := q) (h4.mono (w' := fenceW w') ⟨Sub.refl _, [], (List.append_nil _).symm⟩), (sr.tb _ _ h2).1, hF, fenceW_own h2⟩
      · exact h.elim
theorem def_ctx {z : Dn} (h : z.chk T = true) {f : Addr} {cdv : Value} {A : Around} {outer : List PySem.Env} {s : Shared} {H : Hp} {E : XK} :
    CtxS (cxOf (L2.CX P w) P w K mg base z.N z.d.qual z.d.scope f cdv A outer s H E) (fun cls d _ H => E cls d H) z.N z.d.scope := by
  obtain ⟨h1, _⟩ := and2 h
  have S := scB_ok h1
  refine ⟨⟨rfl, rfl, S.nd, fun x q => visB_ok q, fun x q => ⟨locB_ok q, .inl rfl⟩, fun x q => glB_ok q, fun x q => q, takes_of rfl rfl rfl rfl⟩, rfl, S.kind, passes_of rfl, rfl, rfl, rfl⟩
theorem def_ok {Pg : Prog} {k : Nat} {z : Dn} (lv : Lv P w K mg base c T Z k) (h : z.chk T = true) (hz : Pg.fns z.i = some z.f) {f : Addr} {fd : FuncData} (Fd : FunD K z.d.name z.d.qual z.d.params z.d.body z.d.scope (z.d.dvs K) (z.d.kws K) f fd) :
    FnOk P w K mg base (L2.CX P w) (k + 1) f fd z.ps (spF c z.ps.length (fnB Pg Z z.i)) := by
  obtain ⟨h1, h'⟩ := and2 h
  obtain ⟨h2, h'⟩ := and2 h'
  obtain ⟨h3, h4⟩ := and2 h'
  have h2 := of_decide_eq_true h2
  have h3 := of_decide_eq_true h3
  refine Fd.ok (scB_ok h1) (fun vs H Q E q => q.1) fun cdv A outer s H vs Q E hr sp => ?_
  have ctx := def_ctx (P := P) (w := w) (K := K) (mg := mg) (base := base) h (f := f) (cdv := cdv) (A := A) (outer := outer) (s := s) (H := H) (E := E)
  have fa := lv (cxOf (L2.CX P w) P w K mg base z.N z.d.qual z.d.scope f cdv A outer s H E) rfl rfl rfl rfl rfl hr
  refine ⟨_, (chkC_ok ctx fa z.f.body).b _ h4, ?_⟩
  obtain ⟨hl, F, w0, ds, st, sr, rs, pc⟩ := sp
  have hd : ds.length = z.f.np := by rw [← rs.length, hl, h2]
  refine ⟨F, w0, ⟨ds.map .im ++ List.replicate (z.f.n - ds.length) .no, st⟩, sr.into rs h3, ?_⟩
  have pc : PostC c F w0 Q E (fnB Pg Z z.i ds st) := pc
  unfold fnB at pc
  rw [hz] at pc
  have pc : PostC c F w0 Q E (callF Z z.f ds st) := pc
  unfold callF at pc
  by_cases q : ds.length = z.f.np ∧ z.f.np ≤ z.f.n
  · rw [if_pos q] at pc
    rw [hd]
    exact post_out pc
  · rw [if_neg q] at pc
    exact pc.elim
theorem def_okN {Pg : Prog} {k : Nat} {z : Dn} {K0 : Nat} (lv : ∀ a, Lv P w K mg base (c.at (some a)) T Z k) (h : z.chk T = true) (hz : Pg.fns z.i = some z.f) {f : Addr} {fd : FuncData} (Fd : FunD K z.d.name z.d.qual z.d.params z.d.body z.d.scope (z.d.dvs K) (z.d.kws K) f fd) {q : Option Addr} :
    FnOk P w K mg base (L2.CX P w) (k + 1) f fd z.ps (spN (c.at q) K0 z.ps.length (nwB Pg Z K0 z.i)) := by
  obtain ⟨h1, h'⟩ := and2 h
  obtain ⟨h2, h'⟩ := and2 h'
  obtain ⟨h3, h4⟩ := and2 h'
  have h2 := of_decide_eq_true h2
  have h3 := of_decide_eq_true h3
  refine Fd.ok (scB_ok h1) (fun vs H Q E q => q.1) fun cdv A outer s H vs Q E hr sp => ?_
  have ctx := def_ctx (P := P) (w := w) (K := K) (mg := mg) (base := base) h (f := f) (cdv := cdv) (A := A) (outer := outer) (s := s) (H := H) (E := E)
  obtain ⟨hl, F, w0, ds, st, a, dx, us, hv, hH, hB, hF, hτ, sr, rs, pc⟩ := sp
  have fa := lv a (cxOf (L2.CX P w) P w K mg base z.N z.d.qual z.d.scope f cdv A outer s H E) rfl rfl rfl rfl rfl hr
  refine ⟨_, (chkC_ok ctx fa z.f.body).b _ h4, ?_⟩
  have hd : ds.length + 1 = z.f.np := by
    rw [← h2, ← hl, hv, List.length_cons, rs.length]
  have rs : Reps (c.at (some a)) (fenceW w0).B (fenceW w0).m ds us := Reps.re (c := c.at q) (q := some a) _ _ rs
  have hτ' : (fenceW w0).τ a = none := by
    rw [fenceW_no (fun i z => by rw [hτ] at z; cases z)]
    exact hτ
  rw [hv]
  have sr : SR (c.at (some a)) F (fenceW w0) H [] ⟨[], st⟩ := SR.re sr (some a) rfl
  have hH : H a = some (.ins (c.cA K0) dx []) := hH
  refine ⟨F, _, ⟨.own (.ins K0 []) :: (ds.map .im ++ List.replicate (z.f.n - (ds.length + 1)) .no), st⟩, SR.intoN sr rs hH hB hF hτ' h3, ?_⟩
  have pc : PostN (c.at q) F w0 a Q E (nwB Pg Z K0 z.i ds st) := pc
  unfold nwB at pc
  rw [hz] at pc
  have pc : PostN (c.at q) F w0 a Q E (callN Z K0 z.f ds st) := pc
  unfold callN at pc
  by_cases q : ds.length + 1 = z.f.np ∧ z.f.np ≤ z.f.n
  · rw [if_pos q] at pc
    rw [hd]
    exact post_outN hF pc
  · rw [if_neg q] at pc
    exact pc.elim
end
end PB

set_option Elab.async false
set_option linter.all false
set_option autoImplicit false
set_option maxRecDepth 100000
/-! THE BRIDGE, 21: a program's defs together. -/
namespace PB
open PySem PySem.Spec PyProof.Rows L2
/-- what is asked of the head, by names -/
structure Hd where
  ds : List Dn
  glos : List Str
  frees : List Str
  cInt : List (Str × Int)
  cStr : List (Str × Str)
  clss : List Str
  noats : List (Str × Str)
  meths : List (Str × Str)
  mkrs : List Str
  tDic : List (Str × List (Str × D))
  tTup : List (Str × List D)
  rzs : List Str := []
  subs : List (Nat × Str × Nat × Str × Bool) := []
/-! ### tables of the module -/
def dvD : D → Option He.Dv
  | .int i => some (.int i)
  | .str z => some (.str z)
  | _ => none
def dicB (K : PySem.W.Frag) (t : Str × List (Str × D)) : Bool := (t.2.all fun q => match dvD q.2 with
    | some v => (match PySem.W.nsIn K (He.ga K t.1) q.1 with
      | some (some u) => He.relB (v.v K) u
      | _ => false)
    | none => false) && (match K.lookup (He.ga K t.1) with
    | some ⟨_, _, .dict es _, _⟩ => es.toList.all fun e => !e.refKey && t.2.any fun q => e.key.isStr q.1
    | _ => false)
def vsD : List D → Option (List He.Dv)
  | [] => some []
  | d :: ds => match dvD d, vsD ds with
    | some v, some vs => some (v :: vs)
    | _, _ => none
def tupT (K : PySem.W.Frag) (t : Str × List D) : Bool := match vsD t.2 with
  | some vs => He.tupB K t.1 vs
  | none => false
def rzB (K : PySem.W.Frag) (x : Str) : Bool := PySem.W.excIn K (He.ga K x) [.type "ValueError", .type "Exception", .type "BaseException", .type "object"] "ValueError.__new__" && (PySem.W.keepIn K (.ref (He.ga K x)) && (decide (PySem.W.subIn K (.ref (He.ga K x)) (.type "BaseException") = some true) && decide (PySem.W.typeIn K (.ref (He.ga K x)) = some (.type "type"))))
theorem rzB_ok {K : PySem.W.Frag} {x : Str} (h : rzB K x = true) : RzF K (He.ga K x) := by
  obtain ⟨h1, h⟩ := and2 h
  obtain ⟨h2, h⟩ := and2 h
  obtain ⟨h3, h4⟩ := and2 h
  exact ⟨h1, h2, of_decide_eq_true h3, of_decide_eq_true h4⟩
def tvN (K : PySem.W.Frag) (k : Nat) (x : Str) : Value := if k = nonN then .type "NoneType" else if k = veN then .type "ValueError" else .ref (He.ga K x)
def excCB (K : PySem.W.Frag) (D : Addr) : Bool := decide (PySem.W.findIn K (.ref D) "__getattribute__" = some (some (.builtin "BaseException.__getattribute__"))) && (decide (PySem.W.findIn K (.ref D) "__getattr__" = some none) && (decide (PySem.W.subIn K (.ref D) (.type "BaseException") = some true) && (PySem.W.hasDictIn K D && (decide (PySem.W.findIn K (.ref D) "__class__" = some (some (.builtin "object.__class__"))) &&
  (decide (PySem.W.specialIn K (.builtin "object.__class__") "__get__" = some (some (.builtin "getset_descriptor.__get__"))) && (decide (PySem.W.takesIn K (.builtin "object.__class__") = some true) && decide (PySem.W.mroIn K D (.type "object") = some true)))))))
theorem excCB_ok {K : PySem.W.Frag} {D : Addr} (h : excCB K D = true) : ExcC K D := by
  obtain ⟨h1, h⟩ := and2 h
  obtain ⟨h2, h⟩ := and2 h
  obtain ⟨h3, h⟩ := and2 h
  obtain ⟨h4, h⟩ := and2 h
  obtain ⟨h5, h⟩ := and2 h
  obtain ⟨h6, h⟩ := and2 h
  obtain ⟨h7, h8⟩ := and2 h
  exact ⟨of_decide_eq_true h1, of_decide_eq_true h2, of_decide_eq_true h3, h4, of_decide_eq_true h5, of_decide_eq_true h6, of_decide_eq_true h7, of_decide_eq_true h8⟩
def insCB (K : PySem.W.Frag) (D : Addr) : Bool := decide (PySem.W.findIn K (.ref D) "__class__" = some (some (.builtin "object.__class__"))) && (decide (PySem.W.specialIn K (.builtin "object.__class__") "__get__" = some (some (.builtin "getset_descriptor.__get__"))) && (decide (PySem.W.takesIn K (.builtin "object.__class__") = some true) && decide (PySem.W.mroIn K D (.type "object") = some true)))
def subB (K : PySem.W.Frag) (q : Nat × Str × Nat × Str × Bool) : Bool := decide (PySem.W.kitOne K (tvN K q.1 q.2.1) (tvN K q.2.2.1 q.2.2.2.1) = some q.2.2.2.2) && (if q.1 = nonN then true else if q.1 < nonN then excCB K (He.ga K q.2.1) && decide (PySem.W.exmOne K (.ref (He.ga K q.2.1)) (tvN K q.2.2.1 q.2.2.2.1) = some q.2.2.2.2) else decide (insN ≤ q.1) && insCB K (He.ga K q.2.1))
def subOf : List (Nat × Str × Nat × Str × Bool) → Nat → Nat → Option Bool
  | [], _, _ => none
  | q :: r, k, d => if q.1 = k ∧ q.2.2.1 = d then some q.2.2.2.2 else subOf r k d
theorem subOf_mem : ∀ {l : List (Nat × Str × Nat × Str × Bool)} {k d : Nat} {b : Bool}, subOf l k d = some b → ∃ x y, (k, x, d, y, b) ∈ l
  | [], _, _, _, e => by cases e
  | q :: r, k, d, b, e => by
    unfold subOf at e
    split at e
    · rename_i z
      obtain ⟨z1, z2⟩ := z
      obtain ⟨q1, q2, q3, q4, q5⟩ := q
      cases e
      dsimp only at z1 z2
      subst z1 z2
      exact ⟨q2, q4, List.mem_cons_self⟩
    · obtain ⟨x, y, m⟩ := subOf_mem e
      exact ⟨x, y, List.mem_cons_of_mem _ m⟩
def Hd.ex (h : Hd) (K : PySem.W.Frag) : Bool := ((h.tDic.all (dicB K)) && h.tTup.all (tupT K)) && (h.rzs.all (rzB K) && h.subs.all (subB K))
def Hd.ts (h : Hd) : List He.Tab := h.tDic.map fun t => (fun K => He.ga K t.1, t.2.map (·.1))
def Hd.fa (h : Hd) : List He.Fa := h.glos.map .glo ++ (h.frees.map .free ++ (h.cInt.map (fun q => .int q.1 q.2) ++ (h.cStr.map (fun q => .str q.1 q.2) ++ (h.clss.map .cls ++ (h.noats.map (fun q => .noat q.1 q.2) ++ (h.meths.map (fun q => .meth q.1 q.2) ++ h.mkrs.map .mkr))))))
def Hd.fn (h : Hd) : List He.DefD := h.ds.map (·.d)
structure HdOk (h : Hd) (w : World) (K : PySem.W.Frag) : Prop where
  fn : ∀ z ∈ h.ds, ∃ fd, FunD K z.d.name z.d.qual z.d.params z.d.body z.d.scope (z.d.dvs K) (z.d.kws K) (He.fAd K z.d.at_) fd
  fa : ∀ f ∈ h.fa, f.ok K = true
  dic : ∀ t ∈ h.tDic, SdAt K w (He.ga K t.1) t.2
  tup : ∀ t ∈ h.tTup, ∀ B, ∃ vs, SqT K B (He.ga K t.1) vs ∧ ∀ c m, Reps c B m t.2 vs
  rz : ∀ x ∈ h.rzs, RzF K (He.ga K x)
  sb : ∀ q ∈ h.subs, subB K q = true
theorem isStr_inj {k : Value} {a b : Str} (h : k.isStr a = true) (g : k.isStr b = true) : a = b := by
  cases k <;> first | (cases h; done) | skip
  rename_i s t
  have h1 : (s == a) = true := h
  have h2 : (s == b) = true := g
  rw [← beq_iff_eq.mp h1, ← beq_iff_eq.mp h2]
theorem look_mem {z : Str} {d : D} : ∀ {kvs : List (Str × D)}, look z kvs = some d → (z, d) ∈ kvs
  | [], e => by cases e
  | (k, u) :: r, e => by
    unfold look at e
    split at e
    · rename_i q
      cases e
      rw [q]
      exact List.mem_cons_self
    · exact List.mem_cons_of_mem _ (look_mem e)
theorem look_none {z : Str} : ∀ {kvs : List (Str × D)}, look z kvs = none → ∀ q ∈ kvs, q.1 ≠ z
  | [], _, q, m => by cases m
  | (k, u) :: r, e, q, m => by
    unfold look at e
    split at e
    · cases e
    · rename_i ne
      rcases List.mem_cons.mp m with rfl | m
      · exact ne
      · exact look_none e q m
theorem dic_at {K : PySem.W.Frag} {w : World} {t : Str × List (Str × D)} (h : dicB K t = true) (kd : ∃ es n, KDict K w (He.ga K t.1) es n) : SdAt K w (He.ga K t.1) t.2 := by
  obtain ⟨h1, h2⟩ := and2 h
  refine ⟨kd, fun z d e => ?_, fun z e => ?_⟩
  · have := List.all_eq_true.mp h1 _ (look_mem e)
    split at this
    · rename_i v q
      split at this
      · rename_i u q2
        refine ⟨u, q2, _, He.relB_ok this, ?_⟩
        cases d <;> first | (cases q; done) | skip
        · cases q
          exact .inl ⟨_, rfl, rfl⟩
        · cases q
          exact .inr ⟨_, rfl, rfl⟩
      · cases this
    · cases this
  · unfold PySem.W.nsIn
    split at h2
    · rename_i es n sl q
      rw [q]
      have no := look_none e
      have e1 : es.toList.find? (·.key.isStr z) = none := by
        rw [List.find?_eq_none]
        intro x hx hz
        obtain ⟨y, hy, g⟩ := List.any_eq_true.mp (and2 (List.all_eq_true.mp h2 x hx)).2
        exact no y hy (isStr_inj g hz)
      have e2 : es.toList.any (·.refKey) = false := by
        rw [List.any_eq_false]
        intro x hx
        have := (and2 (List.all_eq_true.mp h2 x hx)).1
        simpa using this
      show (match es.toList.find? (·.key.isStr z) with
        | some e => some (some e.val)
        | none => if es.toList.any (·.refKey) then none else some none) = some none
      rw [e1, e2]
      rfl
    · cases h2
theorem vsD_reps {K : PySem.W.Frag} {c : Ct} {B : Hp} {m : List Addr} : ∀ {ds : List D} {vs : List He.Dv}, vsD ds = some vs → Reps c B m ds (vs.map (He.Dv.v K))
  | [], vs, e => by
    cases e
    exact rfl
  | d :: ds, vs, e => by
    unfold vsD at e
    split at e
    · rename_i v us q1 q2
      cases e
      refine ⟨_, _, rfl, ?_, vsD_reps q2⟩
      cases d <;> first | (cases q1; done) | skip
      · cases q1
        exact rfl
      · cases q1
        exact rfl
    · cases e
theorem tup_at {K : PySem.W.Frag} {t : Str × List D} (h : tupT K t = true) (B : Hp) : ∃ vs, SqT K B (He.ga K t.1) vs ∧ ∀ c m, Reps c B m t.2 vs := by
  unfold tupT at h
  split at h
  · rename_i vs q
    exact ⟨_, He.tupB_ok h B, fun c m => vsD_reps q⟩
  · cases h
theorem HdOk.of {h : Hd} {w : World} {hp : Heap} {K : PySem.W.Frag} (cx : He.SaysX h.fa h.fn h.ts [] h.ex w hp K) : HdOk h w K := by
  have c := cx.t.d
  obtain ⟨x0, x3⟩ := and2 cx.more
  obtain ⟨x1, x2⟩ := and2 x0
  obtain ⟨x3, x4⟩ := and2 x3
  refine ⟨fun z hz => ?_, fun f hf => ?_, fun t m => ?_, fun t m B => tup_at (List.all_eq_true.mp x2 _ m) B, fun x m => rzB_ok (List.all_eq_true.mp x3 _ m), fun q m => List.all_eq_true.mp x4 _ m⟩
  · obtain ⟨i, hi, e⟩ := List.mem_iff_getElem.mp hz
    exact c.def_ i (d := z.d) (by
      show (h.ds.map (·.d))[i]? = some z.d
      rw [List.getElem?_map, List.getElem?_eq_getElem hi, e]
      rfl)
  · obtain ⟨i, hi, e⟩ := List.mem_iff_getElem.mp hf
    exact c.fact i (f := f) (by rw [List.getElem?_eq_getElem hi, e])
  · obtain ⟨i, hi, e⟩ := List.mem_iff_getElem.mp m
    exact dic_at (List.all_eq_true.mp x1 _ m) (cx.t.tab i (t := (fun K => He.ga K t.1, t.2.map (·.1))) (by
      show (h.tDic.map _)[i]? = _
      rw [List.getElem?_map, List.getElem?_eq_getElem hi, e]
      rfl))
section
variable {h : Hd} {w : World} {K : PySem.W.Frag}
theorem HdOk.glo (o : HdOk h w K) {x : Str} (m : x ∈ h.glos) : (He.Fa.glo x).ok K = true := o.fa _ (by
  unfold Hd.fa
  exact List.mem_append_left _ (List.mem_map.mpr ⟨x, m, rfl⟩))
theorem HdOk.free (o : HdOk h w K) {x : Str} (m : x ∈ h.frees) : (He.Fa.free x).ok K = true := o.fa _ (by
  unfold Hd.fa
  exact List.mem_append_right _ (List.mem_append_left _ (List.mem_map.mpr ⟨x, m, rfl⟩)))
theorem HdOk.int (o : HdOk h w K) {x : Str} {i : Int} (m : (x, i) ∈ h.cInt) : (He.Fa.int x i).ok K = true := o.fa _ (by
  unfold Hd.fa
  exact List.mem_append_right _ (List.mem_append_right _ (List.mem_append_left _ (List.mem_map.mpr ⟨_, m, rfl⟩))))
theorem HdOk.str (o : HdOk h w K) {x i : Str} (m : (x, i) ∈ h.cStr) : (He.Fa.str x i).ok K = true := o.fa _ (by
  unfold Hd.fa
  exact List.mem_append_right _ (List.mem_append_right _ (List.mem_append_right _ (List.mem_append_left _ (List.mem_map.mpr ⟨_, m, rfl⟩)))))
theorem HdOk.cls (o : HdOk h w K) {x : Str} (m : x ∈ h.clss) : (He.Fa.cls x).ok K = true := o.fa _ (by
  unfold Hd.fa
  exact List.mem_append_right _ (List.mem_append_right _ (List.mem_append_right _ (List.mem_append_right _ (List.mem_append_left _ (List.mem_map.mpr ⟨_, m, rfl⟩))))))
theorem HdOk.noat (o : HdOk h w K) {x f : Str} (m : (x, f) ∈ h.noats) : (He.Fa.noat x f).ok K = true := o.fa _ (by
  unfold Hd.fa
  exact List.mem_append_right _ (List.mem_append_right _ (List.mem_append_right _ (List.mem_append_right _ (List.mem_append_right _ (List.mem_append_left _ (List.mem_map.mpr ⟨_, m, rfl⟩)))))))
theorem HdOk.meth (o : HdOk h w K) {x f : Str} (m : (x, f) ∈ h.meths) : (He.Fa.meth x f).ok K = true := o.fa _ (by
  unfold Hd.fa
  exact List.mem_append_right _ (List.mem_append_right _ (List.mem_append_right _ (List.mem_append_right _ (List.mem_append_right _ (List.mem_append_right _ (List.mem_append_left _ (List.mem_map.mpr ⟨_, m, rfl⟩))))))))
theorem HdOk.mkr (o : HdOk h w K) {x : Str} (m : x ∈ h.mkrs) : (He.Fa.mkr x).ok K = true := o.fa _ (by
  unfold Hd.fa
  exact List.mem_append_right _ (List.mem_append_right _ (List.mem_append_right _ (List.mem_append_right _ (List.mem_append_right _ (List.mem_append_right _ (List.mem_append_right _ (List.mem_map.mpr ⟨_, m, rfl⟩))))))))
end
/-- a def by its number -/
def fnsOf : List Dn → Nat → Option Fn
  | [], _ => none
  | z :: r, i => if z.i = i then some z.f else fnsOf r i
theorem fnsOf_at : ∀ {l : List Dn} {z : Dn}, (l.map (·.i)).Nodup → z ∈ l → fnsOf l z.i = some z.f
  | [], _, _, m => by cases m
  | y :: r, z, n, m => by
    unfold fnsOf
    rw [List.map_cons, List.nodup_cons] at n
    rcases List.mem_cons.mp m with e | e
    · rw [e, if_pos rfl]
    · rw [if_neg fun q => n.1 (by rw [q]; exact List.mem_map.mpr ⟨z, e, rfl⟩)]
      exact fnsOf_at n.2 e
/-- the program of a law: cn, a class's name -/
def Hd.pg (h : Hd) (cn : Nat → Str) (glo : Nat → Option D) (wf : Nat) : Prog := ⟨fnsOf h.ds, glo, subOf h.subs, fun k f => h.clss.contains (cn k) && h.noats.contains (cn k, f), wf⟩
def Hd.hasD (h : Hd) (i : Nat) (p : Str × Option Str) (n : Nat) : Bool := h.ds.any fun z => decide (z.i = i) && (decide (z.d.at_ = p) && decide (z.ps.length = n))
theorem hasD_ok {h : Hd} {i n : Nat} {p : Str × Option Str} (q : h.hasD i p n = true) : ∃ z ∈ h.ds, z.i = i ∧ z.d.at_ = p ∧ z.ps.length = n := by
  obtain ⟨z, hz, e⟩ := List.any_eq_true.mp q
  obtain ⟨e1, e⟩ := and2 e
  obtain ⟨e2, e3⟩ := and2 e
  exact ⟨z, hz, of_decide_eq_true e1, of_decide_eq_true e2, of_decide_eq_true e3⟩
def flEq : D → D → Bool
  | .int i, .int j => decide (i = j)
  | .str a, .str b => decide (a = b)
  | _, _ => false
theorem flEq_ok {d e : D} (h : flEq d e = true) : d = e := by
  unfold flEq at h
  split at h
  · rw [of_decide_eq_true h]
  · rw [of_decide_eq_true h]
  · cases h
def sdEq : List (Str × D) → List (Str × D) → Bool
  | [], [] => true
  | (a, d) :: r, (b, e) :: q => decide (a = b) && (flEq d e && sdEq r q)
  | _, _ => false
theorem sdEq_ok : ∀ {r q : List (Str × D)}, sdEq r q = true → r = q
  | [], [], _ => rfl
  | [], _ :: _, h => by cases h
  | _ :: _, [], h => by cases h
  | (a, d) :: r, (b, e) :: q, h => by
    obtain ⟨h1, h2⟩ := and2 (show (decide (a = b) && (flEq d e && sdEq r q)) = true from h)
    obtain ⟨h2, h3⟩ := and2 h2
    rw [of_decide_eq_true h1, flEq_ok h2, sdEq_ok h3]
def fdEq : List D → List D → Bool
  | [], [] => true
  | d :: r, e :: q => flEq d e && fdEq r q
  | _, _ => false
theorem fdEq_ok : ∀ {r q : List D}, fdEq r q = true → r = q
  | [], [], _ => rfl
  | [], _ :: _, h => by cases h
  | _ :: _, [], h => by cases h
  | d :: r, e :: q, h => by
    obtain ⟨h2, h3⟩ := and2 (show (flEq d e && fdEq r q) = true from h)
    rw [flEq_ok h2, fdEq_ok h3]
/-- a constant of the module -/
def Hd.gloB (h : Hd) (x : Str) : Option D → Bool
  | some (.int i) => h.cInt.contains (x, i)
  | some (.str z) => h.cStr.contains (x, z)
  | some (.sd kvs) => h.glos.contains x && h.tDic.any fun t => decide (t.1 = x) && sdEq t.2 kvs
  | some (.stp ds) => h.glos.contains x && h.tTup.any fun t => decide (t.1 = x) && fdEq t.2 ds
  | _ => false
def Hd.okS (h : Hd) (cn : Nat → Str) (q : Nat × Str × Nat × Str × Bool) : Bool := (if q.1 = nonN then true else if q.1 < nonN then decide (cn q.1 = q.2.1) else (decide (cn (q.1 - insN) = q.2.1) && h.clss.contains q.2.1)) && (decide (q.2.2.1 = veN) || (decide (q.2.2.1 < nonN) && decide (cn q.2.2.1 = q.2.2.2.1)))
def Hd.okT (h : Hd) (cn : Nat → Str) (glo : Nat → Option D) (T : Tab) : Bool :=
  decide (h.ds.map (·.i)).Nodup && ((h.ds.all fun z => z.chk T) &&
  ((T.fn.all fun q => h.glos.contains q.2.1 && h.hasD q.1 (q.2.1, none) q.2.2) &&
  ((T.mt.all fun q => h.clss.contains (cn q.2.2.1) && (h.meths.contains (cn q.2.2.1, q.2.1) && h.hasD q.1 (cn q.2.2.1, some q.2.1) (q.2.2.2 + 1))) &&
  ((T.mr.all fun q => decide (cn q.1 = q.2.2.1) && (h.glos.contains q.2.2.1 && (h.mkrs.contains q.2.2.1 && h.hasD q.2.1 (q.2.2.1, some "__init__") (q.2.2.2 + 1)))) &&
  ((T.mc.all fun q => decide (cn q.1 = q.2.2.1) && (h.glos.contains q.2.2.1 && (h.mkrs.contains q.2.2.1 && h.hasD q.2.1 (q.2.2.1, some "__init__") (q.2.2.2 + 1)))) &&
  ((T.gl.all fun q => h.gloB q.2 (glo q.1)) &&
  ((T.bi.all fun x => h.frees.contains x) &&
  ((T.xc.all fun q => decide (cn q.1 = q.2) && h.glos.contains q.2) &&
  ((T.rz.all fun q => decide (cn q.1 = q.2) && (h.glos.contains q.2 && h.rzs.contains q.2)) &&
  (h.subs.all (h.okS cn)))))))))))
theorem fnok_no {P : Program} {w : World} {K : PySem.W.Frag} {mg : Str → Option Value} {base : Heap} {CX : CXT} {k : Nat} {f : Addr} {fd : FuncData} {ps : List Str} {sp : Sp} (h : ∀ vs H Q E, ¬ sp vs H Q E) : FnOk P w K mg base CX k f fd ps sp :=
  ⟨fun vs H Q E q => (h vs H Q E q).elim, fun A outer s H args us vs Q E _ _ _ _ q => (h vs H Q E q).elim⟩
theorem spF_no {c : Ct} {n : Nat} : ∀ vs H Q E, ¬ spF c n (fun _ _ => .no) vs H Q E := fun vs H Q E h => by
  obtain ⟨_, F, w, ds, st, _, _, pc⟩ := h
  exact pc
theorem spN_no {c : Ct} {k n : Nat} : ∀ vs H Q E, ¬ spN c k n (fun _ _ => .no) vs H Q E := fun vs H Q E h => by
  obtain ⟨_, F, w, ds, st, a, dx, us, _, _, _, _, _, _, _, pc⟩ := h
  exact pc
section
variable {P : Program} {w : World} {K : PySem.W.Frag} {mg : Str → Option Value} {base : Heap} {h : Hd} {cn : Nat → Str} {glo : Nat → Option D} {wf : Nat} {T : Tab} {hp : Heap}
def ctOf (K : PySem.W.Frag) (w : World) (cn : Nat → Str) (q : Option Addr) : Ct := ⟨K, w, fun k => He.ga K (cn k), [], q⟩
theorem okT_ds (o : h.okT cn glo T = true) : (h.ds.map (·.i)).Nodup ∧ ∀ z ∈ h.ds, z.chk T = true := by
  obtain ⟨h1, o⟩ := and2 o
  obtain ⟨h2, o⟩ := and2 o
  exact ⟨of_decide_eq_true h1, fun z hz => List.all_eq_true.mp h2 z hz⟩
theorem Dn.binds {z : Dn} (b : z.Bd) {f : Addr} {fd : FuncData} (Fd : FunD K z.d.name z.d.qual z.d.params z.d.body z.d.scope (z.d.dvs K) (z.d.kws K) f fd) : Binds K fd z.ps [] := by
  obtain ⟨b1, b2, b3⟩ := b
  unfold He.DefD.dvs He.DefD.kws at Fd
  rw [b1, b2] at Fd
  exact FunD.bindsN Fd fun kV doc pm an cdv ct us hl => b3 kV doc pm an cdv ct us hl
theorem lv_all (o : h.okT cn glo T = true) (ho : HdOk h w K) (KX : K.In hp) (G : hp.Ns mainGlobals mg) (bd : ∀ z ∈ h.ds, z.Bd) : ∀ (k : Nat) (q : Option Addr), Lv P w K mg base (ctOf K w cn q) T (envL (h.pg cn glo wf) k) (k + 1) := by
  obtain ⟨nd, ck⟩ := okT_ds o
  obtain ⟨_, o⟩ := and2 o
  obtain ⟨_, o⟩ := and2 o
  obtain ⟨oF, o⟩ := and2 o
  obtain ⟨oM, o⟩ := and2 o
  obtain ⟨oR, o⟩ := and2 o
  obtain ⟨oC, o⟩ := and2 o
  obtain ⟨oG, o⟩ := and2 o
  obtain ⟨oB, o⟩ := and2 o
  obtain ⟨oX, o⟩ := and2 o
  obtain ⟨oZ, oS⟩ := and2 o
  have main : ∀ (k : Nat) (q : Option Addr) (Z : Env), Z.glo = glo → (Z.na = fun k f => h.clss.contains (cn k) && h.noats.contains (cn k, f)) →
      (Z.sub = subOf h.subs) → (∀ z ∈ h.ds, ∀ fd, FunD K z.d.name z.d.qual z.d.params z.d.body z.d.scope (z.d.dvs K) (z.d.kws K) (He.fAd K z.d.at_) fd → FnOk P w K mg base (L2.CX P w) (k + 1) (He.fAd K z.d.at_) fd z.ps (spF (ctOf K w cn q) z.ps.length (Z.fn z.i))) →
      (∀ z ∈ h.ds, ∀ fd, FunD K z.d.name z.d.qual z.d.params z.d.body z.d.scope (z.d.dvs K) (z.d.kws K) (He.fAd K z.d.at_) fd → FnOk P w K mg base (L2.CX P w) k (He.fAd K z.d.at_) fd z.ps (spF (ctOf K w cn q) z.ps.length (Z.fm z.i))) →
      (∀ z ∈ h.ds, ∀ fd kc, FunD K z.d.name z.d.qual z.d.params z.d.body z.d.scope (z.d.dvs K) (z.d.kws K) (He.fAd K z.d.at_) fd → FnOk P w K mg base (L2.CX P w) k (He.fAd K z.d.at_) fd z.ps (spN (ctOf K w cn q) kc z.ps.length (Z.nw kc z.i))) →
      Lv P w K mg base (ctOf K w cn q) T Z (k + 1) := by
    intro k q Z hg hna hsb hf hm hn X e1 e2 e3 e4 e5 hr
    subst e1 e2 e3 e4 e5
    have na : NaOk (ctOf X.K X.w cn q) Z := ⟨fun k f e => by
      rw [hna] at e
      obtain ⟨e1, e2⟩ := and2 e
      exact ⟨He.cls_ok (ho.cls (List.contains_iff_mem.mp e1)), He.noat_ok (ho.noat (List.contains_iff_mem.mp e2))⟩⟩
    refine ⟨rfl, rfl, by have := hr.un; omega, fun i x n m => ?_, fun i m' kc n m => ?_, fun kc i x n m => ?_, fun kc i x n m => ?_, fun g x m => ?_, fun x m => ?_, na, fun d y m => ?_, fun d y m => ?_, ⟨fun d e b h => ?_⟩⟩
    · obtain ⟨m1, m2⟩ := and2 (List.all_eq_true.mp oF _ m)
      obtain ⟨z, hz, rfl, ha, rfl⟩ := hasD_ok m2
      obtain ⟨fd, Fd⟩ := ho.fn z hz
      refine ⟨k + 1, _, hr, ⟨⟨fd, z.ps, hf z hz fd Fd, Dn.binds (bd z hz) Fd⟩, Fd.kp⟩, ?_⟩
      rw [ha]
      exact He.glo_ok KX G (ho.glo (List.contains_iff_mem.mp m1))
    · obtain ⟨m1, m2⟩ := and2 (List.all_eq_true.mp oM _ m)
      obtain ⟨m2, m3⟩ := and2 m2
      obtain ⟨z, hz, rfl, ha, hl⟩ := hasD_ok m3
      have hl : z.ps.length = n + 1 := hl
      obtain ⟨fd, Fd⟩ := ho.fn z hz
      refine ⟨k + 1, _, hr, ⟨⟨fd, z.ps, ?_, Dn.binds (bd z hz) Fd⟩, Fd.kp⟩, He.cls_ok (ho.cls (List.contains_iff_mem.mp m1)), ?_⟩
      · rw [← hl]
        exact hf z hz fd Fd
      · rw [ha]
        exact He.meth_ok (ho.meth (List.contains_iff_mem.mp m2))
    · obtain ⟨m1, m2⟩ := and2 (List.all_eq_true.mp oR _ m)
      obtain ⟨m2, m3⟩ := and2 m2
      obtain ⟨m3, m4⟩ := and2 m3
      obtain ⟨z, hz, rfl, ha, hl⟩ := hasD_ok m4
      have hl : z.ps.length = n + 1 := hl
      have m1 : cn kc = x := of_decide_eq_true m1
      obtain ⟨fd, Fd⟩ := ho.fn z hz
      refine ⟨k, He.fAd X.K z.d.at_, hr, ⟨?_, ⟨fd, z.ps, ?_, Dn.binds (bd z hz) Fd⟩⟩, ?_⟩
      · rw [ha]
        show Mk X.K (He.ga X.K (cn kc)) _
        rw [m1]
        exact He.mkr_ok (ho.mkr (List.contains_iff_mem.mp m3))
      · rw [← hl]
        exact hn z hz fd kc Fd
      · show X.mg x = some (.ref (He.ga X.K (cn kc)))
        rw [m1]
        exact He.glo_ok KX G (ho.glo (List.contains_iff_mem.mp m2))
    · obtain ⟨m1, m2⟩ := and2 (List.all_eq_true.mp oC _ m)
      obtain ⟨m2, m3⟩ := and2 m2
      obtain ⟨m3, m4⟩ := and2 m3
      obtain ⟨z, hz, rfl, ha, hl⟩ := hasD_ok m4
      have hl : z.ps.length = n + 1 := hl
      have m1 : cn kc = x := of_decide_eq_true m1
      obtain ⟨fd, Fd⟩ := ho.fn z hz
      refine ⟨k, He.fAd X.K z.d.at_, hr, ⟨?_, ⟨fd, z.ps, ?_, Dn.binds (bd z hz) Fd⟩⟩, ?_⟩
      · rw [ha]
        show Mk X.K (He.ga X.K (cn kc)) _
        rw [m1]
        exact He.mkr_ok (ho.mkr (List.contains_iff_mem.mp m3))
      · rw [← hl]
        exact hm z hz fd Fd
      · show X.mg x = some (.ref (He.ga X.K (cn kc)))
        rw [m1]
        exact He.glo_ok KX G (ho.glo (List.contains_iff_mem.mp m2))
    · have m1 : h.gloB x (glo g) = true := List.all_eq_true.mp oG _ m
      rw [hg]
      unfold Hd.gloB at m1
      split at m1
      · rename_i i e
        obtain ⟨t, e2⟩ := He.int_ok KX G (ho.int (List.contains_iff_mem.mp m1))
        exact ⟨_, .int i, _, e, fun _ _ => rfl, e2, ⟨t, rfl⟩⟩
      · rename_i i e
        obtain ⟨t, e2⟩ := He.str_ok KX G (ho.str (List.contains_iff_mem.mp m1))
        exact ⟨_, .str i, _, e, fun _ _ => rfl, e2, ⟨t, rfl⟩⟩
      · rename_i kvs e
        obtain ⟨m2, m3⟩ := and2 m1
        obtain ⟨t, ht, m4⟩ := List.any_eq_true.mp m3
        obtain ⟨m5, m6⟩ := and2 m4
        have sa := ho.dic t ht
        rw [of_decide_eq_true m5, sdEq_ok m6] at sa
        exact ⟨_, .ref (He.ga X.K x), _, e, fun _ _ => ⟨_, rfl, sa⟩, He.glo_ok KX G (ho.glo (List.contains_iff_mem.mp m2)), rfl⟩
      · rename_i ds e
        obtain ⟨m2, m3⟩ := and2 m1
        obtain ⟨t, ht, m4⟩ := List.any_eq_true.mp m3
        obtain ⟨m5, m6⟩ := and2 m4
        have sa := ho.tup t ht
        rw [of_decide_eq_true m5, fdEq_ok m6] at sa
        refine ⟨_, .ref (He.ga X.K x), _, e, fun B m => ?_, He.glo_ok KX G (ho.glo (List.contains_iff_mem.mp m2)), rfl⟩
        obtain ⟨vs, s1, s2⟩ := sa B
        exact ⟨_, vs, rfl, s1, s2 _ _⟩
      · cases m1
    · exact He.free_ok KX G (ho.free (List.contains_iff_mem.mp (List.all_eq_true.mp oB _ m)))
    · obtain ⟨m1, m2⟩ := and2 (List.all_eq_true.mp oX _ m)
      have m1 : cn d = y := of_decide_eq_true m1
      show X.mg y = some (.ref (He.ga X.K (cn d)))
      rw [m1]
      exact He.glo_ok KX G (ho.glo (List.contains_iff_mem.mp m2))
    · obtain ⟨m1, m2⟩ := and2 (List.all_eq_true.mp oZ _ m)
      obtain ⟨m2, m3⟩ := and2 m2
      have m1 : cn d = y := of_decide_eq_true m1
      show RzF X.K (He.ga X.K (cn d)) ∧ X.mg y = some (.ref (He.ga X.K (cn d)))
      rw [m1]
      exact ⟨ho.rz _ (List.contains_iff_mem.mp m3), He.glo_ok KX G (ho.glo (List.contains_iff_mem.mp m2))⟩
    · rw [hsb] at h
      obtain ⟨x, y, m⟩ := subOf_mem h
      obtain ⟨s1, s2⟩ := and2 (ho.sb _ m)
      obtain ⟨p1, p2⟩ := and2 (List.all_eq_true.mp oS _ m)
      have s1 := of_decide_eq_true s1
      dsimp only at s1 s2 p1 p2
      have ee : tvN X.K e y = tv (ctOf X.K X.w cn q) e := by
        rw [Bool.or_eq_true] at p2
        rcases p2 with p2 | p2
        · have p2 := of_decide_eq_true p2
          subst p2
          rfl
        · obtain ⟨p2, p3⟩ := and2 p2
          have p2 := of_decide_eq_true p2
          have p3 := of_decide_eq_true p3
          unfold tvN tv
          rw [if_neg (Nat.ne_of_lt p2), if_neg (Nat.ne_of_lt p2), if_neg (Nat.ne_of_lt (Nat.lt_trans p2 (by decide))), if_neg (Nat.ne_of_lt (Nat.lt_trans p2 (by decide))), if_neg (Nat.not_le_of_lt (Nat.lt_trans p2 (by decide))), ← p3]
          rfl
      rw [ee] at s1 s2
      by_cases c1 : d = nonN
      · subst c1
        exact ⟨s1, .inl rfl, fun z => absurd z (Nat.lt_irrefl _)⟩
      · rw [if_neg c1] at s2 p1
        by_cases c2 : d < nonN
        · rw [if_pos c2] at s2 p1
          have p1 := of_decide_eq_true p1
          obtain ⟨s2, s3⟩ := and2 s2
          have s3 := of_decide_eq_true s3
          have s2 := excCB_ok s2
          have ed : tvN X.K d x = tv (ctOf X.K X.w cn q) d := by
            unfold tvN tv
            rw [if_neg c1, if_neg c1, if_neg (Nat.ne_of_lt (Nat.lt_trans c2 (by decide))), if_neg (Nat.ne_of_lt (Nat.lt_trans c2 (by decide))), if_neg (Nat.not_le_of_lt (Nat.lt_trans c2 (by decide))), ← p1]
            rfl
          rw [ed] at s1
          rw [← p1] at s2 s3
          exact ⟨s1, .inr (.inl ⟨c2, s2⟩), fun _ => s3⟩
        · rw [if_neg c2] at s2 p1
          obtain ⟨s2, s3⟩ := and2 s2
          have s2 := of_decide_eq_true s2
          obtain ⟨p1, p3⟩ := and2 p1
          have p1 := of_decide_eq_true p1
          obtain ⟨s4, s3⟩ := and2 s3
          obtain ⟨s5, s3⟩ := and2 s3
          obtain ⟨s6, s7⟩ := and2 s3
          have cv : d ≠ veN := fun z => by
            have : veN < insN := by decide
            omega
          have ed : tvN X.K d x = tv (ctOf X.K X.w cn q) d := by
            unfold tvN tv
            rw [if_neg c1, if_neg c1, if_neg cv, if_neg cv, if_pos s2, ← p1]
            rfl
          rw [ed] at s1
          refine ⟨s1, .inr (.inr ⟨s2, ?_⟩), fun z => absurd z c2⟩
          show InsC X.K (He.ga X.K (cn (d - insN)))
          rw [p1]
          exact ⟨He.cls_ok (ho.cls (List.contains_iff_mem.mp p3)), of_decide_eq_true s4, of_decide_eq_true s5, of_decide_eq_true s6, of_decide_eq_true s7⟩
  have step : ∀ {k : Nat} {q : Option Addr}, Lv P w K mg base (ctOf K w cn q) T (envL (h.pg cn glo wf) k) (k + 1) → ∀ z ∈ h.ds, ∀ fd, FunD K z.d.name z.d.qual z.d.params z.d.body z.d.scope (z.d.dvs K) (z.d.kws K) (He.fAd K z.d.at_) fd →
      FnOk P w K mg base (L2.CX P w) (k + 2) (He.fAd K z.d.at_) fd z.ps (spF (ctOf K w cn q) z.ps.length (fnB (h.pg cn glo wf) (envL (h.pg cn glo wf) k) z.i)) := fun lv z hz fd Fd => def_ok lv (ck z hz) (fnsOf_at nd hz) Fd
  have stepN : ∀ {k : Nat} {q : Option Addr}, (∀ q, Lv P w K mg base (ctOf K w cn q) T (envL (h.pg cn glo wf) k) (k + 1)) → ∀ z ∈ h.ds, ∀ fd kc, FunD K z.d.name z.d.qual z.d.params z.d.body z.d.scope (z.d.dvs K) (z.d.kws K) (He.fAd K z.d.at_) fd →
      FnOk P w K mg base (L2.CX P w) (k + 2) (He.fAd K z.d.at_) fd z.ps (spN (ctOf K w cn q) kc z.ps.length (nwB (h.pg cn glo wf) (envL (h.pg cn glo wf) k) kc z.i)) := fun {k q} lv z hz fd kc Fd => def_okN (c := ctOf K w cn none) (q := q) (fun a => lv (some a)) (ck z hz) (fnsOf_at nd hz) Fd
  have all : ∀ k : Nat, (∀ q, Lv P w K mg base (ctOf K w cn q) T (envL (h.pg cn glo wf) k) (k + 1)) ∧ (∀ q, Lv P w K mg base (ctOf K w cn q) T (envL (h.pg cn glo wf) (k + 1)) (k + 2)) := by
    intro k
    induction k with
    | zero =>
      have h0 : ∀ q, Lv P w K mg base (ctOf K w cn q) T (envL (h.pg cn glo wf) 0) 1 := fun q => main 0 q _ rfl rfl rfl (fun z _ fd _ => fnok_no spF_no) (fun z _ fd _ => fnok_no spF_no) (fun z _ fd kc _ => fnok_no spN_no)
      exact ⟨h0, fun q => main 1 q _ rfl rfl rfl (fun z hz fd Fd => step (h0 q) z hz fd Fd) (fun z _ fd _ => fnok_no spF_no) (fun z _ fd kc _ => fnok_no spN_no)⟩
    | succ k ih => exact ⟨ih.2, fun q => main (k + 2) q _ rfl rfl rfl (fun z hz fd Fd => step (ih.2 q) z hz fd Fd) (fun z hz fd Fd => step (ih.1 q) z hz fd Fd) (fun z hz fd kc Fd => stepN ih.1 z hz fd kc Fd)⟩
  exact fun k => (all k).1
/-- the law's def: the promise over every base -/
theorem law_ok {z : Dn} {kk : Nat} (o : h.okT cn glo T = true) (ho : HdOk h w K) (KX : K.In hp) (G : hp.Ns mainGlobals mg) (bd : ∀ z ∈ h.ds, z.Bd) (hz : z ∈ h.ds) {fd : FuncData} (Fd : FunD K z.d.name z.d.qual z.d.params z.d.body z.d.scope (z.d.dvs K) (z.d.kws K) (He.fAd K z.d.at_) fd) :
    FnOk P w K mg base (L2.CX P w) (kk + 2) (He.fAd K z.d.at_) fd z.ps (spF (ctOf K w cn none) z.ps.length (fnB (h.pg cn glo wf) (envL (h.pg cn glo wf) kk) z.i)) := by
  obtain ⟨nd, ck⟩ := okT_ds o
  exact def_ok (lv_all o ho KX G bd kk none) (ck z hz) (fnsOf_at nd hz) Fd
end
/-- what the law's value is, at a script -/
def LawV (pg : Prog) (kk i : Nat) : Prop := ∀ ns : List Int, ns.length ≤ 63 → ∃ st, fnB pg (envL pg kk) i [.scr (ns.map .int)] [] = .ok (.im (.bl true)) st
theorem law_sp {K : PySem.W.Frag} {w : World} {cn : Nat → Str} {pg : Prog} {kk i : Nat} (lw : LawV pg kk i) {H : Hp} {a : Addr} {ns : List Int} (hl : ns.length ≤ 63) (hO : Only H) (hS : SqL K H a (ns.map V.int)) :
    spF (ctOf K w cn none) 1 (fnB pg (envL pg kk) i) [.ref a] H (fun v _ => v = .bl true) fun _ _ _ => False := by
  obtain ⟨st, e⟩ := lw ns hl
  have rs : ∀ {B : Hp} {m : List Addr} (ns : List Int), Reps (ctOf K w cn none) B m (ns.map .int) (ns.map V.int) := fun {B m} ns => by
    induction ns with
    | nil => exact rfl
    | cons n ns ih => exact ⟨_, _, rfl, rfl, ih⟩
  have sr : SR (ctOf K w cn none) (fun _ => none) ⟨H, [], fun _ => none⟩ H [] ⟨[], []⟩ := {
    bh := fun _ _ z => z
    fh := fun _ _ z => by cases z
    fb := fun _ _ z => by cases z
    tb := fun _ _ z => by cases z
    im := fun _ _ z => by cases z
    ow := fun _ _ z => by cases z
    ce := fun _ _ z => by cases z
    ln := rfl
    sl := rfl
    pn := fun _ _ z => by cases z }
  refine ⟨rfl, fun _ => none, ⟨H, [], fun _ => none⟩, [.scr (ns.map .int)], [], sr, ⟨_, _, rfl, ⟨a, _, rfl, hS, rs ns⟩, rfl⟩, ?_⟩
  rw [e]
  exact fun w' H' x sr ex rv => rv
end PB

set_option Elab.async false
set_option linter.all false
set_option autoImplicit false
set_option maxRecDepth 100000
/-! THE BRIDGE, 22: a law's end. -/
namespace PB
open PySem PySem.Spec PyProof.Rows L2
def bitsOk (ns : List Int) : Prop := ∀ z ∈ ns, Builtin.Int.intBits z ≤ 1048576
/-- the law's value, at a script -/
def LawB (pg : Prog) (kk i : Nat) : Prop := ∀ ns : List Int, ns.length ≤ 63 → bitsOk ns → ∃ st, fnB pg (envL pg kk) i [.scr (ns.map .int)] [] = .ok (.im (.bl true)) st
abbrev hkOf (h : Hd) : PySem.W.Hook := He.hookX 6 h.fa h.fn h.ts [] h.ex
def obOf (h : Hd) (s : PySem.W.SharedT) : He.AlX := He.obsX 6 h.fa h.fn h.ts [] h.ex (HandSHeadRun.getT s)
theorem obOf_eq (h : Hd) (s : PySem.W.SharedT) : obOf h s = (hkOf h).obs s.abs := He.obsX_eq (HandSHeadRun.getT_eq s)
theorem sp_of {K : PySem.W.Frag} {w : World} {cn : Nat → Str} {pg : Prog} {kk i : Nat} {ns : List Int} (lw : ∃ st, fnB pg (envL pg kk) i [.scr (ns.map .int)] [] = .ok (.im (.bl true)) st) {H : Hp} {a : Addr} (hl : ns.length ≤ 63) (hO : Only H) (hS : SqL K H a (ns.map V.int)) :
    spF (ctOf K w cn none) 1 (fnB pg (envL pg kk) i) [.ref a] H (fun v _ => v = .bl true) fun _ _ _ => False := by
  obtain ⟨st, e⟩ := lw
  have rs : ∀ {B : Hp} {m : List Addr} (ns : List Int), Reps (ctOf K w cn none) B m (ns.map .int) (ns.map V.int) := fun {B m} ns => by
    induction ns with
    | nil => exact rfl
    | cons n ns ih => exact ⟨_, _, rfl, rfl, ih⟩
  have sr : SR (ctOf K w cn none) (fun _ => none) ⟨H, [], fun _ => none⟩ H [] ⟨[], []⟩ := {
    bh := fun _ _ z => z
    fh := fun _ _ z => by cases z
    fb := fun _ _ z => by cases z
    tb := fun _ _ z => by cases z
    im := fun _ _ z => by cases z
    ow := fun _ _ z => by cases z
    ce := fun _ _ z => by cases z
    ln := rfl
    sl := rfl
    pn := fun _ _ z => by cases z }
  refine ⟨rfl, fun _ => none, ⟨H, [], fun _ => none⟩, [.scr (ns.map .int)], [], sr, ⟨_, _, rfl, ⟨a, _, rfl, hS, rs ns⟩, rfl⟩, ?_⟩
  rw [e]
  exact fun w' H' x sr ex rv => rv
theorem law_walk {l : PySem.W.OpenLaw} {q : Program} {loose : List Str} {XP : (Str → Option Value) → Heap → Prop} {d : DefRec} {h : Hd} {cn : Nat → Str} {glo : Nat → Option D} {wf : Nat} {T : Tab} {z : Dn} {kk : Nat} {x : Str}
    (o : h.okT cn glo T = true) (bd : ∀ z ∈ h.ds, z.Bd) (hz : z ∈ h.ds) (hn : l.most = some 63) (hdf : d.params.defaults = []) (hr : Room (kk + 2) callerA) (ha : z.d.at_ = (d.name, none)) (hp : z.ps = [x]) (hg : d.name ∈ h.glos) (lw : LawB (h.pg cn glo wf) kk z.i) :
    PySem.W.WalkO q loose XP (hkOf h).says l.row.toRowW d [] fun f vs => PySem.call f vs := by
  refine Att.attach_callB hn hdf ?_
  intro w s0 s1 mg mb fa ob pm cd doc a vs ns G Y hob hd hcd hmg hobj hints hlen hbits hgn
  obtain ⟨K, KX, c⟩ := Y
  have ho : HdOk h w K := HdOk.of c
  have e := hmg.symm.trans (He.glo_ok KX G.T.g (ho.glo hg))
  cases e
  obtain ⟨fd, Fd⟩ := ho.fn z hz
  have bb : ∀ (s : Shared) (u : Value), BindsTo s fd ⟨[u], []⟩ [(x, u)] := fun s u => by
    obtain ⟨b1, b2, b3⟩ := bd z hz
    have Fd' := Fd
    unfold He.DefD.dvs He.DefD.kws at Fd'
    rw [b1, b2] at Fd'
    have := FunD.bindsA (ps := z.ps) Fd' (fun kV doc pm an cdv ct us hl => b3 kV doc pm an cdv ct us hl) s [u] (by rw [hp]; rfl)
    rw [hp] at this
    exact this
  have hF : ∀ base : Heap, K.In base → base.Ns mainGlobals mg → FnOk l.prog w K mg base (L2.CX l.prog w) (kk + 2) (He.ga K d.name) fd [x] (spF (ctOf K w cn none) 1 (fnB (h.pg cn glo wf) (envL (h.pg cn glo wf) kk) z.i)) := fun base _ _ => by
    have := law_ok (P := l.prog) (w := w) (base := base) (wf := wf) (kk := kk) o ho KX G.T.g bd hz Fd
    rw [ha, hp] at this
    exact this
  exact law_call KX G.T.g G.T.b G.T.builtins G.T.nolimit hgn hobj hints (Nat.le_trans hlen (by decide)) hr hF bb (fun H hO hS => sp_of (lw ns hlen hbits) hlen hO hS) fun H e s' hc => by
    obtain ⟨_, _, _, _, _, _, _, _, _, _, _, _, hf⟩ := hc
    exact hf
end PB

set_option Elab.async false
set_option linter.all false
set_option autoImplicit false
set_option maxRecDepth 1000000
namespace PB
open PySem (Str sizeLine)
@[simp] theorem bind_ok {α β : Type} (a : α) (s : S) (f : α → S → R β) : (R.ok a s).bind f = f a s := id rfl
@[simp] theorem bind_no {α β : Type} (f : α → S → R β) : (R.no : R α).bind f = .no := id rfl
@[simp] theorem noE_ok {α : Type} (a : α) (s : S) : (R.ok a s).noE = .ok a s := id rfl
@[simp] theorem dr_non {st : List (Option D)}  : deref st (.non) = some (.non) := id rfl
@[simp] theorem dr_bl {st : List (Option D)} {b : Bool} : deref st (.bl b) = some (.bl b) := id rfl
@[simp] theorem dr_int {st : List (Option D)} {i : Int} : deref st (.int i) = some (.int i) := id rfl
@[simp] theorem dr_str {st : List (Option D)} {x : Str} : deref st (.str x) = some (.str x) := id rfl
@[simp] theorem dr_lst {st : List (Option D)} {ds : List D} : deref st (.lst ds) = some (.lst ds) := id rfl
@[simp] theorem dr_tup {st : List (Option D)} {ds : List D} : deref st (.tup ds) = some (.tup ds) := id rfl
@[simp] theorem dr_dk {st : List (Option D)} {m : List (Key × D)} : deref st (.dk m) = some (.dk m) := id rfl
@[simp] theorem dr_dt {st : List (Option D)} {m : List (List Key × D)} : deref st (.dt m) = some (.dt m) := id rfl
@[simp] theorem dr_ins {st : List (Option D)} {c : Nat} {fs : List (Str × D)} : deref st (.ins c fs) = some (.ins c fs) := id rfl
@[simp] theorem dr_sd {st : List (Option D)} {m : List (Str × D)} : deref st (.sd m) = some (.sd m) := id rfl
@[simp] theorem dr_scr {st : List (Option D)} {ds : List D} : deref st (.scr ds) = some (.scr ds) := id rfl
@[simp] theorem dr_stp {st : List (Option D)} {ds : List D} : deref st (.stp ds) = some (.stp ds) := id rfl
@[simp] theorem dr_exc {st : List (Option D)} {c : Nat} {fs : List (Str × D)} : deref st (.exc c fs) = some (.exc c fs) := id rfl
@[simp] theorem dr_cell {st : List (Option D)} {k : Nat} : deref st (.cell k) = (match st[k]? with | some (some d) => some d | _ => none) := id rfl
@[simp] theorem tr_non  : truth (.non) = some (false) := id rfl
@[simp] theorem tr_bl {b : Bool} : truth (.bl b) = some (b) := id rfl
@[simp] theorem tr_int {i : Int} : truth (.int i) = some (i != 0) := id rfl
@[simp] theorem tr_lst {ds : List D} : truth (.lst ds) = some (!ds.isEmpty) := id rfl
@[simp] theorem tr_tup {ds : List D} : truth (.tup ds) = some (!ds.isEmpty) := id rfl
@[simp] theorem tr_scr {ds : List D} : truth (.scr ds) = some (!ds.isEmpty) := id rfl
@[simp] theorem fl_non  : flat (.non) = true := id rfl
@[simp] theorem fl_bl {b : Bool} : flat (.bl b) = true := id rfl
@[simp] theorem fl_int {i : Int} : flat (.int i) = true := id rfl
@[simp] theorem fl_str {x : Str} : flat (.str x) = true := id rfl
@[simp] theorem okt_non  : okTy (.non) = true := id rfl
@[simp] theorem ty_non_int  : tyD (.non) .int = false := id rfl
@[simp] theorem ty_non_bool  : tyD (.non) .bool = false := id rfl
@[simp] theorem ty_non_str  : tyD (.non) .str = false := id rfl
@[simp] theorem ty_non_list  : tyD (.non) .list = false := id rfl
@[simp] theorem ty_non_tuple  : tyD (.non) .tuple = false := id rfl
@[simp] theorem ty_non_dict  : tyD (.non) .dict = false := id rfl
@[simp] theorem okt_bl {b : Bool} : okTy (.bl b) = true := id rfl
@[simp] theorem ty_bl_int {b : Bool} : tyD (.bl b) .int = true := id rfl
@[simp] theorem ty_bl_bool {b : Bool} : tyD (.bl b) .bool = true := id rfl
@[simp] theorem ty_bl_str {b : Bool} : tyD (.bl b) .str = false := id rfl
@[simp] theorem ty_bl_list {b : Bool} : tyD (.bl b) .list = false := id rfl
@[simp] theorem ty_bl_tuple {b : Bool} : tyD (.bl b) .tuple = false := id rfl
@[simp] theorem ty_bl_dict {b : Bool} : tyD (.bl b) .dict = false := id rfl
@[simp] theorem okt_int {i : Int} : okTy (.int i) = true := id rfl
@[simp] theorem ty_int_int {i : Int} : tyD (.int i) .int = true := id rfl
@[simp] theorem ty_int_bool {i : Int} : tyD (.int i) .bool = false := id rfl
@[simp] theorem ty_int_str {i : Int} : tyD (.int i) .str = false := id rfl
@[simp] theorem ty_int_list {i : Int} : tyD (.int i) .list = false := id rfl
@[simp] theorem ty_int_tuple {i : Int} : tyD (.int i) .tuple = false := id rfl
@[simp] theorem ty_int_dict {i : Int} : tyD (.int i) .dict = false := id rfl
@[simp] theorem okt_str {x : Str} : okTy (.str x) = true := id rfl
@[simp] theorem ty_str_int {x : Str} : tyD (.str x) .int = false := id rfl
@[simp] theorem ty_str_bool {x : Str} : tyD (.str x) .bool = false := id rfl
@[simp] theorem ty_str_str {x : Str} : tyD (.str x) .str = true := id rfl
@[simp] theorem ty_str_list {x : Str} : tyD (.str x) .list = false := id rfl
@[simp] theorem ty_str_tuple {x : Str} : tyD (.str x) .tuple = false := id rfl
@[simp] theorem ty_str_dict {x : Str} : tyD (.str x) .dict = false := id rfl
@[simp] theorem okt_lst {ds : List D} : okTy (.lst ds) = true := id rfl
@[simp] theorem ty_lst_int {ds : List D} : tyD (.lst ds) .int = false := id rfl
@[simp] theorem ty_lst_bool {ds : List D} : tyD (.lst ds) .bool = false := id rfl
@[simp] theorem ty_lst_str {ds : List D} : tyD (.lst ds) .str = false := id rfl
@[simp] theorem ty_lst_list {ds : List D} : tyD (.lst ds) .list = true := id rfl
@[simp] theorem ty_lst_tuple {ds : List D} : tyD (.lst ds) .tuple = false := id rfl
@[simp] theorem ty_lst_dict {ds : List D} : tyD (.lst ds) .dict = false := id rfl
@[simp] theorem okt_tup {ds : List D} : okTy (.tup ds) = true := id rfl
@[simp] theorem ty_tup_int {ds : List D} : tyD (.tup ds) .int = false := id rfl
@[simp] theorem ty_tup_bool {ds : List D} : tyD (.tup ds) .bool = false := id rfl
@[simp] theorem ty_tup_str {ds : List D} : tyD (.tup ds) .str = false := id rfl
@[simp] theorem ty_tup_list {ds : List D} : tyD (.tup ds) .list = false := id rfl
@[simp] theorem ty_tup_tuple {ds : List D} : tyD (.tup ds) .tuple = true := id rfl
@[simp] theorem ty_tup_dict {ds : List D} : tyD (.tup ds) .dict = false := id rfl
@[simp] theorem okt_dk {m : List (Key × D)} : okTy (.dk m) = true := id rfl
@[simp] theorem ty_dk_int {m : List (Key × D)} : tyD (.dk m) .int = false := id rfl
@[simp] theorem ty_dk_bool {m : List (Key × D)} : tyD (.dk m) .bool = false := id rfl
@[simp] theorem ty_dk_str {m : List (Key × D)} : tyD (.dk m) .str = false := id rfl
@[simp] theorem ty_dk_list {m : List (Key × D)} : tyD (.dk m) .list = false := id rfl
@[simp] theorem ty_dk_tuple {m : List (Key × D)} : tyD (.dk m) .tuple = false := id rfl
@[simp] theorem ty_dk_dict {m : List (Key × D)} : tyD (.dk m) .dict = true := id rfl
section
variable {s : S} {d : D} {i : Nat} {v : Vl}
@[simp] theorem lk_im : Vl.look s (.im d) = deref s.st d := id rfl
@[simp] theorem lk_own : Vl.look s (.own d) = some d := id rfl
@[simp] theorem lk_pk : Vl.look s (.pk i) = (match s.ρ[i]? with | some (.own d) => some d | _ => none) := id rfl
@[simp] theorem ho_im : Vl.hold (.im d) = .im d := id rfl
@[simp] theorem ho_own : Vl.hold (.own d) = .im d := id rfl
@[simp] theorem ho_pk : Vl.hold (.pk i) = .pk i := id rfl
@[simp] theorem fz_im : Vl.fz s (.im d) = .ok d s := id rfl
@[simp] theorem fz_own : Vl.fz s (.own d) = .ok d s := id rfl
@[simp] theorem fz_pk : Vl.fz s (.pk i) = (match s.ρ[i]? with | some (.own d) => .ok d { s with ρ := s.ρ.set i (.im d) } | _ => .no) := id rfl
@[simp] theorem la_nil : lookAll s [] = some [] := id rfl
@[simp] theorem la_cons {vs : List Vl} : lookAll s (v :: vs) = (match v.look s with | some d => (match lookAll s vs with | some ds => some (d :: ds) | none => none) | none => none) := id rfl
@[simp] theorem if_B {c : Bool} {o : Option Vl} : ifB c o = if c then o else none := id rfl
@[simp] theorem bd_int {j : Int} : bndD (.int j) = some (some j) := id rfl
@[simp] theorem bd_non : bndD .non = some none := id rfl
@[simp] theorem ag_nm {s : S} : asgT (.nm i) d s = if i < s.ρ.length then .ok () { s with ρ := s.ρ.set i (.im d) } else .no := id rfl
@[simp] theorem ag_tn : asgT .tn (.tup []) s = .ok () s := id rfl
@[simp] theorem ag_tc {h t : Tg} {ds : List D} : asgT (.tc h t) (.tup (d :: ds)) s = (asgT h d s).bind fun _ s => asgT t (.tup ds) s := id rfl
@[simp] theorem av_nm : asgV (.nm i) v s = bindV i v s := id rfl
@[simp] theorem av_tc {h t : Tg} : asgV (.tc h t) (.im d) s = asgT (.tc h t) d s := id rfl
@[simp] theorem bv_im : bindV i (.im d) s = if i < s.ρ.length then .ok () { s with ρ := s.ρ.set i (.im d) } else .no := id rfl
@[simp] theorem bv_own : bindV i (.own d) s = if i < s.ρ.length then .ok () { s with ρ := s.ρ.set i (if i = 0 then .im d else .own d) } else .no := id rfl
@[simp] theorem bv_pk {j : Nat} : bindV i (.pk j) s = if i < s.ρ.length then (match s.ρ[j]? with | some (.own d) => .ok () { s with ρ := (s.ρ.set j (.im d)).set i (.im d) } | _ => .no) else .no := id rfl
@[simp] theorem ou_im : outV (.im d) s = .ok (.im d) s := id rfl
@[simp] theorem ou_own : outV (.own d) s = .ok (.own d) s := id rfl
@[simp] theorem ou_pk : outV (.pk i) s = (match s.ρ[i]? with | some (.own d) => .ok (.own d) { s with ρ := s.ρ.set i .no } | _ => .no) := id rfl
@[simp] theorem en_nx : endF (.ok .nx s) = .ok (.im .non) s.st := id rfl
@[simp] theorem en_im : endF (.ok (.rt (.im d)) s) = .ok (.im d) s.st := id rfl
@[simp] theorem en_own : endF (.ok (.rt (.own d)) s) = .ok (.own d) s.st := id rfl
@[simp] theorem ro_ok {st : List (Option D)} : RC.toR s (.ok v st) = .ok v { s with st := st } := id rfl
@[simp] theorem fr_ok {st : List (Option D)} : flatR s (.ok (.im d) st) = if flat d then .ok (.im d) s else .no := id rfl
@[simp] theorem bk_none : back v s (v, none) = .ok v s := id rfl
@[simp] theorem bk_none2 {u : Vl} : back v s (u, none) = .ok u s := id rfl
@[simp] theorem bk_pk {u : Vl} : back (.pk i) s (u, some d) = .ok u { s with ρ := s.ρ.set i (.own d) } := id rfl
@[simp] theorem bk_cell {u : Vl} : back (.im (.cell i)) s (u, some d) = .ok u { s with st := s.st.set i (some d) } := id rfl
@[simp] theorem wi_nil : wipeS s [] = s := id rfl
@[simp] theorem wi_cons {is : List Nat} : wipeS s (i :: is) = { wipeS s is with ρ := (wipeS s is).ρ.set i .no } := id rfl
@[simp] theorem neg_int {j : Int} : opU .neg (.int j) = some (.im (.int (-j))) := id rfl
end
@[simp] theorem ts_eq (v : S → R Vl) (s : S) : tst v s = (v s).bind fun v s => match v.look s with
  | some d => (match truth d with
    | some b => .ok b s
    | none => .no)
  | none => .no := rfl
@[simp] theorem to_some {s : S} {v : Vl} : toR s (some v) = .ok v s := id rfl
@[simp] theorem to_none {s : S} : toR s none = .no := id rfl
@[simp] theorem sb_lst {ds : List D} {i : Int} : subD (.lst ds) (.int i) = (match atD ds i with | some d => some (.im d) | none => none) := id rfl
@[simp] theorem sb_tup {ds : List D} {i : Int} : subD (.tup ds) (.int i) = (match atD ds i with | some d => some (.im d) | none => none) := id rfl
@[simp] theorem sb_scr {ds : List D} {i : Int} : subD (.scr ds) (.int i) = (match atD ds i with | some d => some (.im d) | none => none) := id rfl
@[simp] theorem sb_stp {ds : List D} {i : Int} : subD (.stp ds) (.int i) = (match atD ds i with | some d => some (.im d) | none => none) := id rfl
theorem at_nat {ds : List D} {i : Nat} : atD ds (i : Int) = ds[i]? := by
  by_cases h : i < ds.length
  · simp [atD, L2.atI, L2.ixN, h]
  · have h2 : ds.length ≤ i := Nat.le_of_not_lt h
    have h3 : ¬ ((i : Int) < (ds.length : Int)) := by omega
    simp [atD, L2.atI, L2.ixN, h3, List.getElem?_eq_none h2]
@[simp] theorem at_0 {a : D} {ds : List D} : atD (a :: ds) 0 = some a := at_nat (ds := a :: ds) (i := 0)
@[simp] theorem at_1 {a b : D} {ds : List D} : atD (a :: b :: ds) 1 = some b := at_nat (ds := a :: b :: ds) (i := 1)
@[simp] theorem at_2 {a b c : D} {ds : List D} : atD (a :: b :: c :: ds) 2 = some c := at_nat (ds := a :: b :: c :: ds) (i := 2)
@[simp] theorem at_3 {a b c d : D} {ds : List D} : atD (a :: b :: c :: d :: ds) 3 = some d := at_nat (ds := a :: b :: c :: d :: ds) (i := 3)
@[simp] theorem sd_lst {ds : List D} {i : Int} {d : D} : setD (.lst ds) (.int i) d = (match ixN ds.length i with | some k => some (.lst (ds.set k d)) | none => none) := id rfl
@[simp] theorem ix_0 {n : Nat} : ixN (n + 1) 0 = some 0 := by
  simp [ixN, L2.ixN]
@[simp] theorem ge_0 {a0 : Sl} {l : List Sl} : (a0 :: l)[0]? = some a0 := id rfl
@[simp] theorem ge_1 {a0 a1 : Sl} {l : List Sl} : (a0 :: a1 :: l)[1]? = some a1 := id rfl
@[simp] theorem ge_2 {a0 a1 a2 : Sl} {l : List Sl} : (a0 :: a1 :: a2 :: l)[2]? = some a2 := id rfl
@[simp] theorem ge_3 {a0 a1 a2 a3 : Sl} {l : List Sl} : (a0 :: a1 :: a2 :: a3 :: l)[3]? = some a3 := id rfl
@[simp] theorem ge_4 {a0 a1 a2 a3 a4 : Sl} {l : List Sl} : (a0 :: a1 :: a2 :: a3 :: a4 :: l)[4]? = some a4 := id rfl
@[simp] theorem ge_5 {a0 a1 a2 a3 a4 a5 : Sl} {l : List Sl} : (a0 :: a1 :: a2 :: a3 :: a4 :: a5 :: l)[5]? = some a5 := id rfl
@[simp] theorem ge_6 {a0 a1 a2 a3 a4 a5 a6 : Sl} {l : List Sl} : (a0 :: a1 :: a2 :: a3 :: a4 :: a5 :: a6 :: l)[6]? = some a6 := id rfl
@[simp] theorem ge_7 {a0 a1 a2 a3 a4 a5 a6 a7 : Sl} {l : List Sl} : (a0 :: a1 :: a2 :: a3 :: a4 :: a5 :: a6 :: a7 :: l)[7]? = some a7 := id rfl
@[simp] theorem ge_8 {a0 a1 a2 a3 a4 a5 a6 a7 a8 : Sl} {l : List Sl} : (a0 :: a1 :: a2 :: a3 :: a4 :: a5 :: a6 :: a7 :: a8 :: l)[8]? = some a8 := id rfl
@[simp] theorem ge_9 {a0 a1 a2 a3 a4 a5 a6 a7 a8 a9 : Sl} {l : List Sl} : (a0 :: a1 :: a2 :: a3 :: a4 :: a5 :: a6 :: a7 :: a8 :: a9 :: l)[9]? = some a9 := id rfl
@[simp] theorem ge_10 {a0 a1 a2 a3 a4 a5 a6 a7 a8 a9 a10 : Sl} {l : List Sl} : (a0 :: a1 :: a2 :: a3 :: a4 :: a5 :: a6 :: a7 :: a8 :: a9 :: a10 :: l)[10]? = some a10 := id rfl
@[simp] theorem ge_11 {a0 a1 a2 a3 a4 a5 a6 a7 a8 a9 a10 a11 : Sl} {l : List Sl} : (a0 :: a1 :: a2 :: a3 :: a4 :: a5 :: a6 :: a7 :: a8 :: a9 :: a10 :: a11 :: l)[11]? = some a11 := id rfl
@[simp] theorem ge_12 {a0 a1 a2 a3 a4 a5 a6 a7 a8 a9 a10 a11 a12 : Sl} {l : List Sl} : (a0 :: a1 :: a2 :: a3 :: a4 :: a5 :: a6 :: a7 :: a8 :: a9 :: a10 :: a11 :: a12 :: l)[12]? = some a12 := id rfl
@[simp] theorem ge_13 {a0 a1 a2 a3 a4 a5 a6 a7 a8 a9 a10 a11 a12 a13 : Sl} {l : List Sl} : (a0 :: a1 :: a2 :: a3 :: a4 :: a5 :: a6 :: a7 :: a8 :: a9 :: a10 :: a11 :: a12 :: a13 :: l)[13]? = some a13 := id rfl
@[simp] theorem ge_14 {a0 a1 a2 a3 a4 a5 a6 a7 a8 a9 a10 a11 a12 a13 a14 : Sl} {l : List Sl} : (a0 :: a1 :: a2 :: a3 :: a4 :: a5 :: a6 :: a7 :: a8 :: a9 :: a10 :: a11 :: a12 :: a13 :: a14 :: l)[14]? = some a14 := id rfl
@[simp] theorem ge_15 {a0 a1 a2 a3 a4 a5 a6 a7 a8 a9 a10 a11 a12 a13 a14 a15 : Sl} {l : List Sl} : (a0 :: a1 :: a2 :: a3 :: a4 :: a5 :: a6 :: a7 :: a8 :: a9 :: a10 :: a11 :: a12 :: a13 :: a14 :: a15 :: l)[15]? = some a15 := id rfl
@[simp] theorem ge_16 {a0 a1 a2 a3 a4 a5 a6 a7 a8 a9 a10 a11 a12 a13 a14 a15 a16 : Sl} {l : List Sl} : (a0 :: a1 :: a2 :: a3 :: a4 :: a5 :: a6 :: a7 :: a8 :: a9 :: a10 :: a11 :: a12 :: a13 :: a14 :: a15 :: a16 :: l)[16]? = some a16 := id rfl
@[simp] theorem ge_17 {a0 a1 a2 a3 a4 a5 a6 a7 a8 a9 a10 a11 a12 a13 a14 a15 a16 a17 : Sl} {l : List Sl} : (a0 :: a1 :: a2 :: a3 :: a4 :: a5 :: a6 :: a7 :: a8 :: a9 :: a10 :: a11 :: a12 :: a13 :: a14 :: a15 :: a16 :: a17 :: l)[17]? = some a17 := id rfl
@[simp] theorem ge_18 {a0 a1 a2 a3 a4 a5 a6 a7 a8 a9 a10 a11 a12 a13 a14 a15 a16 a17 a18 : Sl} {l : List Sl} : (a0 :: a1 :: a2 :: a3 :: a4 :: a5 :: a6 :: a7 :: a8 :: a9 :: a10 :: a11 :: a12 :: a13 :: a14 :: a15 :: a16 :: a17 :: a18 :: l)[18]? = some a18 := id rfl
@[simp] theorem ge_19 {a0 a1 a2 a3 a4 a5 a6 a7 a8 a9 a10 a11 a12 a13 a14 a15 a16 a17 a18 a19 : Sl} {l : List Sl} : (a0 :: a1 :: a2 :: a3 :: a4 :: a5 :: a6 :: a7 :: a8 :: a9 :: a10 :: a11 :: a12 :: a13 :: a14 :: a15 :: a16 :: a17 :: a18 :: a19 :: l)[19]? = some a19 := id rfl
@[simp] theorem ge_20 {a0 a1 a2 a3 a4 a5 a6 a7 a8 a9 a10 a11 a12 a13 a14 a15 a16 a17 a18 a19 a20 : Sl} {l : List Sl} : (a0 :: a1 :: a2 :: a3 :: a4 :: a5 :: a6 :: a7 :: a8 :: a9 :: a10 :: a11 :: a12 :: a13 :: a14 :: a15 :: a16 :: a17 :: a18 :: a19 :: a20 :: l)[20]? = some a20 := id rfl
@[simp] theorem ge_21 {a0 a1 a2 a3 a4 a5 a6 a7 a8 a9 a10 a11 a12 a13 a14 a15 a16 a17 a18 a19 a20 a21 : Sl} {l : List Sl} : (a0 :: a1 :: a2 :: a3 :: a4 :: a5 :: a6 :: a7 :: a8 :: a9 :: a10 :: a11 :: a12 :: a13 :: a14 :: a15 :: a16 :: a17 :: a18 :: a19 :: a20 :: a21 :: l)[21]? = some a21 := id rfl
@[simp] theorem ge_22 {a0 a1 a2 a3 a4 a5 a6 a7 a8 a9 a10 a11 a12 a13 a14 a15 a16 a17 a18 a19 a20 a21 a22 : Sl} {l : List Sl} : (a0 :: a1 :: a2 :: a3 :: a4 :: a5 :: a6 :: a7 :: a8 :: a9 :: a10 :: a11 :: a12 :: a13 :: a14 :: a15 :: a16 :: a17 :: a18 :: a19 :: a20 :: a21 :: a22 :: l)[22]? = some a22 := id rfl
@[simp] theorem ge_23 {a0 a1 a2 a3 a4 a5 a6 a7 a8 a9 a10 a11 a12 a13 a14 a15 a16 a17 a18 a19 a20 a21 a22 a23 : Sl} {l : List Sl} : (a0 :: a1 :: a2 :: a3 :: a4 :: a5 :: a6 :: a7 :: a8 :: a9 :: a10 :: a11 :: a12 :: a13 :: a14 :: a15 :: a16 :: a17 :: a18 :: a19 :: a20 :: a21 :: a22 :: a23 :: l)[23]? = some a23 := id rfl
@[simp] theorem le_line {n : Nat} (h : n ≤ 16777216) : (n ≤ sizeLine) = True := eq_true (by rw [PySem.sizeLine_eq]; exact h)
@[simp] theorem lt_line {n : Nat} (h : n < 16777216) : (n < sizeLine) = True := eq_true (by rw [PySem.sizeLine_eq]; exact h)
@[simp] theorem nin_tup {d : D} {ds : List D} : opB .nin d (.tup ds) = if (flat d && ds.all flat) = true then some (.im (.bl (!inF d ds))) else none := by
  show (match inD d (.tup ds) with | some b => bl (!b) | none => none) = _
  have : inD d (.tup ds) = if flat d && ds.all flat then some (inF d ds) else none := by cases d <;> rfl
  rw [this]
  cases flat d && ds.all flat <;> rfl
@[simp] theorem in_tup {d : D} {ds : List D} : opB .in_ d (.tup ds) = if (flat d && ds.all flat) = true then some (.im (.bl (inF d ds))) else none := by
  show (match inD d (.tup ds) with | some b => bl b | none => none) = _
  have : inD d (.tup ds) = if flat d && ds.all flat then some (inF d ds) else none := by cases d <;> rfl
  rw [this]
  cases flat d && ds.all flat <;> rfl
@[simp] theorem inF_nil {d : D} : inF d [] = false := id rfl
@[simp] theorem inF_cons {d e : D} {es : List D} : inF d (e :: es) = (eqF e d || inF d es) := id rfl
@[simp] theorem eqF_int {i j : Int} : eqF (.int i) (.int j) = decide (i = j) := by
  show (i == j) = _
  by_cases h : i = j <;> simp [h]
@[simp] theorem eqF_str {i j : Str} : eqF (.str i) (.str j) = decide (i = j) := by
  show (i == j) = _
  by_cases h : i = j <;> simp [h]
/-- a turn of a for -/
def forStep (X : Env) (tg : Tg) (body : C) : D → S → R Fl := fun d s => (asgT tg d s).bind fun _ s => run X body s
@[simp] theorem zr_for {X : Env} {s : S} (tg : Tg) (k : IK) (src : A) (body : C) : run X (.for_ tg k src body) s = (evA X src s).bind fun ds s => match itemsD k ds with
    | some xs => loop (forStep X tg body) xs s
    | none => .no := rfl
@[simp] theorem zv_lc {X : Env} {s : S} (elt : E) (tg : Tg) (k : IK) (src : A) (ifs : A) (own : List Nat) : ev X (.lc elt tg k src ifs own) s = (evA X src s).bind fun ds s => match itemsD k ds with
    | some xs => (lcLoop (lcStep X elt tg ifs own) xs [] s).noE.bind fun acc s => .ok (.own (.lst acc)) (wipeS s own)
    | none => .no := rfl
@[simp] theorem in_R {j : Int} (h1 : -4611686018427387904 ≤ j) (h2 : j < 4611686018427387904) : inR j = true := decide_eq_true ⟨h1, h2⟩
section
variable {X : Env} {s : S}
@[simp] theorem evT_bin (o : BOp) (a b : E) : evT X (.bin o a b) s = tst (ev X (.bin o a b)) s := evT_any rfl
@[simp] theorem evT_var (i : Nat) : evT X (.var i) s = tst (ev X (.var i)) s := evT_any rfl
@[simp] theorem evT_fld (e : E) (f : Str) : evT X (.fld e f) s = tst (ev X (.fld e f)) s := evT_any rfl
@[simp] theorem evT_isi (e : E) (t : List Ty) : evT X (.isi e t) s = tst (ev X (.isi e t)) s := evT_any rfl
@[simp] theorem evT_isx (e : E) (t : List Nat) : evT X (.isx e t) s = tst (ev X (.isx e t)) s := evT_any rfl
@[simp] theorem evT_cal (f : Nat) (a : A) : evT X (.cal f a) s = tst (ev X (.cal f a)) s := evT_any rfl
@[simp] theorem evT_calP (f : Nat) (a : A) : evT X (.calP f a) s = tst (ev X (.calP f a)) s := evT_any rfl
@[simp] theorem evT_sub (a b : E) : evT X (.sub a b) s = tst (ev X (.sub a b)) s := evT_any rfl
@[simp] theorem evT_chn (o p : BOp) (a b c : E) : evT X (.chn o p a b c) s = tst (ev X (.chn o p a b c)) s := evT_any rfl
@[simp] theorem evT_cst (d : D) : evT X (.cst d) s = tst (ev X (.cst d)) s := evT_any rfl
@[simp] theorem run_retN : run X .retN s = .ok (.rt (.im .non)) s := id rfl
@[simp] theorem run_par (i j : Nat) (a b : E) : run X (.par i j a b) s = (evA X (.cons a (.cons b .nil)) s).bind fun ds s => match ds with
    | [d, e] => (asgT (.nm i) d s).bind fun _ s => (asgT (.nm j) e s).bind fun _ s => .ok .nx s
    | _ => .no := rfl
@[simp] theorem run_setI (o i e : E) : run X (.setI o i e) s = ((ev X e s).bind fun v s => (v.fz s).bind fun d s => (ev X o s).bind fun u s => (ev X i s).bind fun w s => match u.hold.look s, w.look s with
    | some x, some y => (match setD x y d with
      | some z => (back u.hold s (.im .non, some z)).bind fun _ s => .ok .nx s
      | none => .no)
    | _, _ => .no) := rfl
@[simp] theorem run_setF (o e : E) (f : Str) : run X (.setF o f e) s = ((ev X e s).bind fun v s => (v.fz s).bind fun d s => (ev X o s).bind fun u s => match u.hold.look s with
    | some x => (match putFD X.na f d x with
      | some z => (back u.hold s (.im .non, some z)).bind fun _ s => .ok .nx s
      | none => .no)
    | none => .no) := rfl
end
theorem log2_of {i : Int} {n : Nat} (h : i.natAbs < 2 ^ (n + 1)) : i.natAbs.log2 ≤ n := by
  by_cases z : i.natAbs = 0
  · rw [z]
    simp
  · exact Nat.le_of_lt_succ ((Nat.log2_lt z).mpr h)
section
variable {i j : Int} {ds es : List D} {a b : Str}
@[simp] theorem oB_add : opB .add (.int i) (.int j) = some (.im (.int (i + j))) := id rfl
@[simp] theorem oB_addL : opB .add (.lst ds) (.lst es) = ifB (decide (ds.length + es.length ≤ sizeLine)) (some (.own (.lst (ds ++ es)))) := id rfl
@[simp] theorem oB_sub : opB .sub (.int i) (.int j) = some (.im (.int (i - j))) := id rfl
theorem log_small {i : Int} (h1 : -1000000000000000000000000000000000000000000000000000000000000 ≤ i) (h2 : i ≤ 1000000000000000000000000000000000000000000000000000000000000) : i.natAbs.log2 < 4000 := by
  have := log2_of (i := i) (n := 3000) (Nat.lt_of_le_of_lt (m := 1000000000000000000000000000000000000000000000000000000000000) (by omega) (by decide +kernel))
  omega
@[simp] theorem oB_mul (h1 : -1000000000000000000000000000000000000000000000000000000000000 ≤ i) (h2 : i ≤ 1000000000000000000000000000000000000000000000000000000000000) (h3 : -1000000000000000000000000000000000000000000000000000000000000 ≤ j) (h4 : j ≤ 1000000000000000000000000000000000000000000000000000000000000) : opB .mul (.int i) (.int j) = some (.im (.int (i * j))) := by
  show ifB (decide (i.natAbs.log2 + j.natAbs.log2 < 1000000)) (intD (i * j)) = _
  have := log_small h1 h2
  have := log_small h3 h4
  rw [decide_eq_true (by omega)]
  rfl
@[simp] theorem oB_fdiv (h3 : 0 < j) (h4 : j ≤ 1000000000000000000000000000000000000000000000000000000000000) : opB .fdiv (.int i) (.int j) = some (.im (.int (i / j))) := by
  show ifB (decide (0 < j ∧ j.natAbs.log2 < 9000)) (intD (i / j)) = _
  have := log_small (i := j) (by omega) h4
  rw [decide_eq_true ⟨h3, by omega⟩]
  rfl
@[simp] theorem oB_mod (h3 : 0 < j) : opB .mod (.int i) (.int j) = some (.im (.int (i % j))) := by
  show ifB (decide (0 < j)) (intD (i % j)) = _
  rw [decide_eq_true h3]
  rfl
@[simp] theorem oB_lt : opB .lt (.int i) (.int j) = some (.im (.bl (decide (i < j)))) := id rfl
@[simp] theorem oB_le : opB .le (.int i) (.int j) = some (.im (.bl (decide (i ≤ j)))) := id rfl
@[simp] theorem oB_gt : opB .gt (.int i) (.int j) = some (.im (.bl (decide (j < i)))) := id rfl
@[simp] theorem oB_ge : opB .ge (.int i) (.int j) = some (.im (.bl (decide (j ≤ i)))) := id rfl
@[simp] theorem oB_is {d : D} : opB .is_ d .non = some (.im (.bl (match d with | .non => true | _ => false))) := id rfl
@[simp] theorem oB_isB {a b : Bool} : opB .is_ (.bl a) (.bl b) = some (.im (.bl (decide (a = b)))) := id rfl
@[simp] theorem oB_isnB {a b : Bool} : opB .isn (.bl a) (.bl b) = some (.im (.bl (!decide (a = b)))) := id rfl
@[simp] theorem oB_isn {d : D} : opB .isn d .non = some (.im (.bl (match d with | .non => false | _ => true))) := id rfl
@[simp] theorem oB_band : opB .band (.int i) (.int j) = some (.im (.int (PySem.Builtin.bitAnd i j))) := id rfl
@[simp] theorem oB_bor : opB .bor (.int i) (.int j) = some (.im (.int (PySem.Builtin.bitOr i j))) := id rfl
@[simp] theorem oB_bxor : opB .bxor (.int i) (.int j) = some (.im (.int (PySem.Builtin.bitXor i j))) := id rfl
theorem eqD_shape {d e : D} {p q : PySem.PyData} (h1 : toPy d = some p) (h2 : toPy e = some q) (h3 : PySem.SeqAt.shaped p = true) (h4 : PySem.SeqAt.shaped q = true) : eqD d e = some (PySem.PyData.eqv p q) := by
  unfold eqD
  rw [h1, h2]
  simp [h3, h4]
@[simp] theorem shI {i : Int} : PySem.SeqAt.shaped (.int i) = true := by rfl
theorem shS {a : Str} (h : PySem.PyData.strOk a = true) : PySem.SeqAt.shaped (.str a) = true := by
  unfold PySem.SeqAt.shaped
  rw [Bool.and_eq_true]
  exact ⟨h, rfl⟩
@[simp] theorem shB {a : Bool} : PySem.SeqAt.shaped (.bool a) = true := by rfl
@[simp] theorem shN : PySem.SeqAt.shaped .none = true := by rfl
@[simp] theorem oB_eqI : opB .eq (.int i) (.int j) = some (.im (.bl (decide (i = j)))) := by
  show (match eqD (.int i) (.int j) with | some b => bl b | none => none) = _
  rw [eqD_shape (p := .int i) (q := .int j) rfl rfl rfl rfl]
  rfl
theorem eqD_str : eqD (.str a) (.str b) = if (PySem.PyData.strOk a && PySem.PyData.strOk b) = true then some (a == b) else none := by
  show (if PySem.SeqAt.shaped (.str a) && PySem.SeqAt.shaped (.str b) then some (PySem.PyData.eqv (.str a) (.str b)) else none) = _
  have e : ∀ x : Str, PySem.SeqAt.shaped (.str x) = PySem.PyData.strOk x := fun x => by
    unfold PySem.SeqAt.shaped
    show (PySem.PyData.strOk x && true) = _
    rw [Bool.and_true]
  rw [e, e]
  rfl
@[simp] theorem oB_eqS : opB .eq (.str a) (.str b) = if (PySem.PyData.strOk a && PySem.PyData.strOk b) = true then some (.im (.bl (decide (a = b)))) else none := by
  show (match eqD (.str a) (.str b) with | some b => bl b | none => none) = _
  rw [eqD_str]
  have : (a == b) = decide (a = b) := by by_cases h : a = b <;> simp [h]
  rw [this]
  cases PySem.PyData.strOk a && PySem.PyData.strOk b <;> rfl
@[simp] theorem oB_neI : opB .ne (.int i) (.int j) = some (.im (.bl (!decide (i = j)))) := by
  show (match eqD (.int i) (.int j) with | some b => bl (!b) | none => none) = _
  rw [eqD_shape (p := .int i) (q := .int j) rfl rfl rfl rfl]
  rfl
@[simp] theorem oB_neS : opB .ne (.str a) (.str b) = if (PySem.PyData.strOk a && PySem.PyData.strOk b) = true then some (.im (.bl (!decide (a = b)))) else none := by
  show (match eqD (.str a) (.str b) with | some b => bl (!b) | none => none) = _
  rw [eqD_str]
  have : (a == b) = decide (a = b) := by by_cases h : a = b <;> simp [h]
  rw [this]
  cases PySem.PyData.strOk a && PySem.PyData.strOk b <;> rfl
@[simp] theorem oB_eqB {x y : Bool} : opB .eq (.bl x) (.bl y) = some (.im (.bl (decide (x = y)))) := by
  cases x <;> cases y <;> rfl
@[simp] theorem oB_neB {x y : Bool} : opB .ne (.bl x) (.bl y) = some (.im (.bl (!decide (x = y)))) := by
  cases x <;> cases y <;> rfl
@[simp] theorem z_oF_lenL : opF .len [.lst ds] = some (.im (.int ds.length)) := id rfl
@[simp] theorem z_oF_lenT : opF .len [.tup ds] = some (.im (.int ds.length)) := id rfl
@[simp] theorem z_oF_lenC : opF .len [.scr ds] = some (.im (.int ds.length)) := id rfl
@[simp] theorem z_oF_listL : opF .list [.lst ds] = some (.own (.lst ds)) := id rfl
@[simp] theorem z_oF_listT : opF .list [.tup ds] = some (.own (.lst ds)) := id rfl
@[simp] theorem z_oF_tupL : opF .tuple [.lst ds] = some (.im (.tup ds)) := id rfl
@[simp] theorem z_oF_tupT : opF .tuple [.tup ds] = some (.im (.tup ds)) := id rfl
@[simp] theorem z_oF_intI : opF .int [.int i] = some (.im (.int i)) := id rfl
@[simp] theorem z_oF_intB {x : Bool} : opF .int [.bl x] = some (.im (.int (if x then 1 else 0))) := id rfl
@[simp] theorem z_oF_max2 : opF .max2 [.int i, .int j] = some (.im (.int (if j > i then j else i))) := id rfl
@[simp] theorem z_oF_min2 : opF .min2 [.int i, .int j] = some (.im (.int (if j < i then j else i))) := id rfl
@[simp] theorem z_oF_all : opF .all [.lst ds] = (boolsD ds).bind fun bs => some (.im (.bl (bs.all id))) := id rfl
@[simp] theorem z_oM_app {d : D} : opM .append (.lst ds) [d] = if ds.length < sizeLine then some (.im .non, some (.lst (ds ++ [d]))) else none := id rfl
theorem z_oM_pop : opM .pop0 (.lst ds) [] = (match ds[ds.length - 1]? with
    | some d => some (.im d, some (.lst ds.dropLast))
    | none => none) := rfl
@[simp] theorem pop_snoc {d : D} : opM .pop0 (.lst (ds ++ [d])) [] = some (.im d, some (.lst ds)) := by
  rw [z_oM_pop]
  simp
@[simp] theorem k_l : isKd .list (.lst ds) = true := id rfl
@[simp] theorem k_app : MT.append.kd = .list := id rfl
@[simp] theorem k_ext : MT.extend.kd = .list := id rfl
@[simp] theorem k_pop : MT.pop0.kd = .list := id rfl
@[simp] theorem k_popA : MT.popAt.kd = .list := id rfl
@[simp] theorem k_rev : MT.reverse.kd = .list := id rfl
@[simp] theorem k_clr : MT.clear.kd = .list := id rfl
@[simp] theorem k_g1 : MT.get1.kd = .dict := id rfl
@[simp] theorem k_g2 : MT.get2.kd = .dict := id rfl
@[simp] theorem z_it_L : itemsD .ex [.lst ds] = some ds := id rfl
@[simp] theorem z_it_T : itemsD .ex [.tup ds] = some ds := id rfl
@[simp] theorem z_it_C : itemsD .ex [.scr ds] = some ds := id rfl
@[simp] theorem z_it_r1 : itemsD .r1 [.int j] = if inR j then some (rngD 0 j.toNat) else none := id rfl
@[simp] theorem z_it_r2 : itemsD .r2 [.int i, .int j] = if inR i && inR j then some (rngD i (j - i).toNat) else none := id rfl
@[simp] theorem z_it_eL : itemsD .enum [.lst ds] = some (enumD 0 ds) := id rfl
@[simp] theorem z_it_eT : itemsD .enum [.tup ds] = some (enumD 0 ds) := id rfl
@[simp] theorem z_it_zL : itemsD .zip [.lst ds, .lst es] = some (zipD ds es) := id rfl
@[simp] theorem z_it_zT : itemsD .zip [.tup ds, .tup es] = some (zipD ds es) := id rfl
end
@[simp] theorem ok_in : PySem.PyData.strOk ("in" : Str) = true := by decide +kernel
@[simp] theorem ok_keep : PySem.PyData.strOk ("keep" : Str) = true := by decide +kernel
@[simp] theorem ok_zero : PySem.PyData.strOk ("zero" : Str) = true := by decide +kernel
@[simp] theorem ok_one : PySem.PyData.strOk ("one" : Str) = true := by decide +kernel
@[simp] theorem ok_not : PySem.PyData.strOk ("not" : Str) = true := by decide +kernel
@[simp] theorem ok_and : PySem.PyData.strOk ("and" : Str) = true := by decide +kernel
@[simp] theorem ok_or : PySem.PyData.strOk ("or" : Str) = true := by decide +kernel
@[simp] theorem ok_xor : PySem.PyData.strOk ("xor" : Str) = true := by decide +kernel
@[simp] theorem ok_pick : PySem.PyData.strOk ("pick" : Str) = true := by decide +kernel
@[simp] theorem ok_out : PySem.PyData.strOk ("out" : Str) = true := by decide +kernel
@[simp] theorem ok_block : PySem.PyData.strOk ("block" : Str) = true := by decide +kernel
@[simp] theorem ok_no : PySem.PyData.strOk ("no" : Str) = true := by decide +kernel
@[simp] theorem ok_plus : PySem.PyData.strOk ("plus" : Str) = true := by decide +kernel
@[simp] theorem ok_less : PySem.PyData.strOk ("less" : Str) = true := by decide +kernel
@[simp] theorem ok_same : PySem.PyData.strOk ("same" : Str) = true := by decide +kernel
@[simp] theorem ok_part : PySem.PyData.strOk ("part" : Str) = true := by decide +kernel
@[simp] theorem ok_join : PySem.PyData.strOk ("join" : Str) = true := by decide +kernel
@[simp] theorem ok_name : PySem.PyData.strOk ("name" : Str) = true := by decide +kernel
@[simp] theorem ok_of : PySem.PyData.strOk ("of" : Str) = true := by decide +kernel
@[simp] theorem ok_value : PySem.PyData.strOk ("value" : Str) = true := by decide +kernel
@[simp] theorem ok_use : PySem.PyData.strOk ("use" : Str) = true := by decide +kernel
@[simp] theorem ok_let : PySem.PyData.strOk ("let" : Str) = true := by decide +kernel
@[simp] theorem ok_next : PySem.PyData.strOk ("next" : Str) = true := by decide +kernel
@[simp] theorem ok_end : PySem.PyData.strOk ("end" : Str) = true := by decide +kernel
@[simp] theorem ok_module : PySem.PyData.strOk ("module" : Str) = true := by decide +kernel
@[simp] theorem ne_in_keep : (("in" : Str) = ("keep" : Str)) = False := eq_false (by decide +kernel)
@[simp] theorem ne_in_zero : (("in" : Str) = ("zero" : Str)) = False := eq_false (by decide +kernel)
@[simp] theorem ne_in_one : (("in" : Str) = ("one" : Str)) = False := eq_false (by decide +kernel)
@[simp] theorem ne_in_not : (("in" : Str) = ("not" : Str)) = False := eq_false (by decide +kernel)
@[simp] theorem ne_in_and : (("in" : Str) = ("and" : Str)) = False := eq_false (by decide +kernel)
@[simp] theorem ne_in_or : (("in" : Str) = ("or" : Str)) = False := eq_false (by decide +kernel)
@[simp] theorem ne_in_xor : (("in" : Str) = ("xor" : Str)) = False := eq_false (by decide +kernel)
@[simp] theorem ne_in_pick : (("in" : Str) = ("pick" : Str)) = False := eq_false (by decide +kernel)
@[simp] theorem ne_keep_in : (("keep" : Str) = ("in" : Str)) = False := eq_false (by decide +kernel)
@[simp] theorem ne_keep_zero : (("keep" : Str) = ("zero" : Str)) = False := eq_false (by decide +kernel)
@[simp] theorem ne_keep_one : (("keep" : Str) = ("one" : Str)) = False := eq_false (by decide +kernel)
@[simp] theorem ne_keep_not : (("keep" : Str) = ("not" : Str)) = False := eq_false (by decide +kernel)
@[simp] theorem ne_keep_and : (("keep" : Str) = ("and" : Str)) = False := eq_false (by decide +kernel)
@[simp] theorem ne_keep_or : (("keep" : Str) = ("or" : Str)) = False := eq_false (by decide +kernel)
@[simp] theorem ne_keep_xor : (("keep" : Str) = ("xor" : Str)) = False := eq_false (by decide +kernel)
@[simp] theorem ne_keep_pick : (("keep" : Str) = ("pick" : Str)) = False := eq_false (by decide +kernel)
@[simp] theorem ne_zero_in : (("zero" : Str) = ("in" : Str)) = False := eq_false (by decide +kernel)
@[simp] theorem ne_zero_keep : (("zero" : Str) = ("keep" : Str)) = False := eq_false (by decide +kernel)
@[simp] theorem ne_zero_one : (("zero" : Str) = ("one" : Str)) = False := eq_false (by decide +kernel)
@[simp] theorem ne_zero_not : (("zero" : Str) = ("not" : Str)) = False := eq_false (by decide +kernel)
@[simp] theorem ne_zero_and : (("zero" : Str) = ("and" : Str)) = False := eq_false (by decide +kernel)
@[simp] theorem ne_zero_or : (("zero" : Str) = ("or" : Str)) = False := eq_false (by decide +kernel)
@[simp] theorem ne_zero_xor : (("zero" : Str) = ("xor" : Str)) = False := eq_false (by decide +kernel)
@[simp] theorem ne_zero_pick : (("zero" : Str) = ("pick" : Str)) = False := eq_false (by decide +kernel)
@[simp] theorem ne_one_in : (("one" : Str) = ("in" : Str)) = False := eq_false (by decide +kernel)
@[simp] theorem ne_one_keep : (("one" : Str) = ("keep" : Str)) = False := eq_false (by decide +kernel)
@[simp] theorem ne_one_zero : (("one" : Str) = ("zero" : Str)) = False := eq_false (by decide +kernel)
@[simp] theorem ne_one_not : (("one" : Str) = ("not" : Str)) = False := eq_false (by decide +kernel)
@[simp] theorem ne_one_and : (("one" : Str) = ("and" : Str)) = False := eq_false (by decide +kernel)
@[simp] theorem ne_one_or : (("one" : Str) = ("or" : Str)) = False := eq_false (by decide +kernel)
@[simp] theorem ne_one_xor : (("one" : Str) = ("xor" : Str)) = False := eq_false (by decide +kernel)
@[simp] theorem ne_one_pick : (("one" : Str) = ("pick" : Str)) = False := eq_false (by decide +kernel)
@[simp] theorem ne_not_in : (("not" : Str) = ("in" : Str)) = False := eq_false (by decide +kernel)
@[simp] theorem ne_not_keep : (("not" : Str) = ("keep" : Str)) = False := eq_false (by decide +kernel)
@[simp] theorem ne_not_zero : (("not" : Str) = ("zero" : Str)) = False := eq_false (by decide +kernel)
@[simp] theorem ne_not_one : (("not" : Str) = ("one" : Str)) = False := eq_false (by decide +kernel)
@[simp] theorem ne_not_and : (("not" : Str) = ("and" : Str)) = False := eq_false (by decide +kernel)
@[simp] theorem ne_not_or : (("not" : Str) = ("or" : Str)) = False := eq_false (by decide +kernel)
@[simp] theorem ne_not_xor : (("not" : Str) = ("xor" : Str)) = False := eq_false (by decide +kernel)
@[simp] theorem ne_not_pick : (("not" : Str) = ("pick" : Str)) = False := eq_false (by decide +kernel)
@[simp] theorem ne_and_in : (("and" : Str) = ("in" : Str)) = False := eq_false (by decide +kernel)
@[simp] theorem ne_and_keep : (("and" : Str) = ("keep" : Str)) = False := eq_false (by decide +kernel)
@[simp] theorem ne_and_zero : (("and" : Str) = ("zero" : Str)) = False := eq_false (by decide +kernel)
@[simp] theorem ne_and_one : (("and" : Str) = ("one" : Str)) = False := eq_false (by decide +kernel)
@[simp] theorem ne_and_not : (("and" : Str) = ("not" : Str)) = False := eq_false (by decide +kernel)
@[simp] theorem ne_and_or : (("and" : Str) = ("or" : Str)) = False := eq_false (by decide +kernel)
@[simp] theorem ne_and_xor : (("and" : Str) = ("xor" : Str)) = False := eq_false (by decide +kernel)
@[simp] theorem ne_and_pick : (("and" : Str) = ("pick" : Str)) = False := eq_false (by decide +kernel)
@[simp] theorem ne_or_in : (("or" : Str) = ("in" : Str)) = False := eq_false (by decide +kernel)
@[simp] theorem ne_or_keep : (("or" : Str) = ("keep" : Str)) = False := eq_false (by decide +kernel)
@[simp] theorem ne_or_zero : (("or" : Str) = ("zero" : Str)) = False := eq_false (by decide +kernel)
@[simp] theorem ne_or_one : (("or" : Str) = ("one" : Str)) = False := eq_false (by decide +kernel)
@[simp] theorem ne_or_not : (("or" : Str) = ("not" : Str)) = False := eq_false (by decide +kernel)
@[simp] theorem ne_or_and : (("or" : Str) = ("and" : Str)) = False := eq_false (by decide +kernel)
@[simp] theorem ne_or_xor : (("or" : Str) = ("xor" : Str)) = False := eq_false (by decide +kernel)
@[simp] theorem ne_or_pick : (("or" : Str) = ("pick" : Str)) = False := eq_false (by decide +kernel)
@[simp] theorem ne_xor_in : (("xor" : Str) = ("in" : Str)) = False := eq_false (by decide +kernel)
@[simp] theorem ne_xor_keep : (("xor" : Str) = ("keep" : Str)) = False := eq_false (by decide +kernel)
@[simp] theorem ne_xor_zero : (("xor" : Str) = ("zero" : Str)) = False := eq_false (by decide +kernel)
@[simp] theorem ne_xor_one : (("xor" : Str) = ("one" : Str)) = False := eq_false (by decide +kernel)
@[simp] theorem ne_xor_not : (("xor" : Str) = ("not" : Str)) = False := eq_false (by decide +kernel)
@[simp] theorem ne_xor_and : (("xor" : Str) = ("and" : Str)) = False := eq_false (by decide +kernel)
@[simp] theorem ne_xor_or : (("xor" : Str) = ("or" : Str)) = False := eq_false (by decide +kernel)
@[simp] theorem ne_xor_pick : (("xor" : Str) = ("pick" : Str)) = False := eq_false (by decide +kernel)
@[simp] theorem ne_pick_in : (("pick" : Str) = ("in" : Str)) = False := eq_false (by decide +kernel)
@[simp] theorem ne_pick_keep : (("pick" : Str) = ("keep" : Str)) = False := eq_false (by decide +kernel)
@[simp] theorem ne_pick_zero : (("pick" : Str) = ("zero" : Str)) = False := eq_false (by decide +kernel)
@[simp] theorem ne_pick_one : (("pick" : Str) = ("one" : Str)) = False := eq_false (by decide +kernel)
@[simp] theorem ne_pick_not : (("pick" : Str) = ("not" : Str)) = False := eq_false (by decide +kernel)
@[simp] theorem ne_pick_and : (("pick" : Str) = ("and" : Str)) = False := eq_false (by decide +kernel)
@[simp] theorem ne_pick_or : (("pick" : Str) = ("or" : Str)) = False := eq_false (by decide +kernel)
@[simp] theorem ne_pick_xor : (("pick" : Str) = ("xor" : Str)) = False := eq_false (by decide +kernel)
/-- a for whose turns come to their end -/
theorem loop_inv {step : D → S → R Fl} {I : List D → S → Prop} : ∀ {xs : List D} {s : S}, I xs s → (∀ d r s, I (d :: r) s → ∃ s', step d s = .ok .nx s' ∧ I r s') → ∃ s', loop step xs s = .ok .nx s' ∧ I [] s'
  | [], s, h, _ => ⟨s, rfl, h⟩
  | d :: r, s, h, k => by
    obtain ⟨s1, e1, h1⟩ := k d r s h
    obtain ⟨s2, e2, h2⟩ := loop_inv h1 k
    refine ⟨s2, ?_, h2⟩
    unfold loop
    rw [e1]
    exact e2
end PB

set_option Elab.async false
set_option linter.all false
set_option autoImplicit false
set_option maxRecDepth 1000000
/-! FRAMES: the evaluator's equations with nothing under a binder: a run is a tower of frames over its head. -/
namespace PB
open PySem (Str sizeLine)
section
variable {X : Env} {s : S}
/-! ### expressions -/
def fVar (i : Nat) (s : S) : Option Sl → R Vl
  | some (.im d) => .ok (.im d) s
  | some (.own _) => .ok (.pk i) s
  | _ => .no
@[simp high] theorem fr_var (i : Nat) : ev X (.var i) s = fVar i s s.ρ[i]? := by
  show (match s.ρ[i]? with | some (.im d) => .ok (.im d) s | some (.own _) => .ok (.pk i) s | _ => .no : R Vl) = _
  cases s.ρ[i]? with
  | none => rfl
  | some x => cases x <;> rfl
@[simp] theorem fVar_im {i : Nat} {d : D} : fVar i s (some (.im d)) = .ok (.im d) s := id rfl
@[simp] theorem fVar_own {i : Nat} {d : D} : fVar i s (some (.own d)) = .ok (.pk i) s := id rfl
def fGlo (s : S) : Option D → R Vl
  | some d => .ok (.im d) s
  | none => .no
@[simp high] theorem fr_glo (g : Nat) : ev X (.glo g) s = fGlo s (X.glo g) := id rfl
@[simp] theorem fGlo_ok {d : D} : fGlo s (some d) = .ok (.im d) s := id rfl
def lk2 (f : D → D → S → R Vl) (s : S) : Option D → Option D → R Vl
  | some d, some e => f d e s
  | _, _ => .no
def fBin3 (op : BOp) (s : S) : Option D → Option D → R Vl
  | some d, some e => toR s (opB op d e)
  | _, _ => .no
def fBin2 (op : BOp) (v : Vl) (r : R Vl) : R Vl := r.bind fun u s => fBin3 op s (v.hold.look s) (u.look s)
def fBin (X : Env) (op : BOp) (b : E) (r : R Vl) : R Vl := r.bind fun v s => fBin2 op v (ev X b s)
@[simp high] theorem fr_bin (op : BOp) (a b : E) : ev X (.bin op a b) s = fBin X op b (ev X a s) := by
  rw [ev_bin]
  unfold fBin fBin2 fBin3
  rfl
@[simp] theorem fBin_ok {op : BOp} {b : E} {v : Vl} : fBin X op b (.ok v s) = fBin2 op v (ev X b s) := id rfl
@[simp] theorem fBin2_ok {op : BOp} {u v : Vl} : fBin2 op v (.ok u s) = fBin3 op s (v.hold.look s) (u.look s) := id rfl
@[simp] theorem fBin3_ok {op : BOp} {d e : D} : fBin3 op s (some d) (some e) = toR s (opB op d e) := id rfl
@[simp] theorem fBin_er {op : BOp} {b : E} {c : Nat} {fs : List (Str × D)} : fBin X op b (.er c fs s) = .er c fs s := id rfl
@[simp] theorem fBin2_er {op : BOp} {v : Vl} {c : Nat} {fs : List (Str × D)} : fBin2 op v (.er c fs s) = .er c fs s := id rfl
def fUn2 (op : UOp) (s : S) : Option D → R Vl
  | some d => toR s (opU op d)
  | none => .no
def fUn (op : UOp) (r : R Vl) : R Vl := r.bind fun v s => fUn2 op s (v.look s)
@[simp high] theorem fr_un (op : UOp) (a : E) : ev X (.un op a) s = fUn op (ev X a s) := id rfl
@[simp] theorem fUn_ok {op : UOp} {v : Vl} : fUn op (.ok v s) = fUn2 op s (v.look s) := id rfl
@[simp] theorem fUn2_ok {op : UOp} {d : D} : fUn2 op s (some d) = toR s (opU op d) := id rfl
/-- a chain: the second comparison -/
def fCh6 (s : S) : Option Vl → R Vl
  | some (.im (.bl r)) => .ok (.im (.bl r)) s
  | _ => .no
def fCh5 (op : BOp) (s : S) : Option D → Option D → R Vl
  | some e, some z => fCh6 s (opB op e z)
  | _, _ => .no
def fCh4 (op : BOp) (u : Vl) (r : R Vl) : R Vl := r.bind fun t s => fCh5 op s (u.hold.look s) (t.look s)
def fCh3 (X : Env) (op : BOp) (u : Vl) (c : E) (s : S) : Option Vl → R Vl
  | some (.im (.bl true)) => fCh4 op u (ev X c s)
  | some (.im (.bl false)) => .ok (.im (.bl false)) s
  | _ => .no
def fCh2b (X : Env) (op op' : BOp) (u : Vl) (c : E) (s : S) : Option D → Option D → R Vl
  | some d, some e => fCh3 X op' u c s (opB op d e)
  | _, _ => .no
def fCh2 (X : Env) (op op' : BOp) (v : Vl) (c : E) (r : R Vl) : R Vl := r.bind fun u s => fCh2b X op op' u c s (v.hold.look s) (u.hold.look s)
def fCh (X : Env) (op op' : BOp) (b c : E) (r : R Vl) : R Vl := r.bind fun v s => fCh2 X op op' v c (ev X b s)
@[simp high] theorem fr_chn (op op' : BOp) (a b c : E) : ev X (.chn op op' a b c) s = fCh X op op' b c (ev X a s) := by
  rw [ev_chn]
  unfold fCh fCh2 fCh2b fCh3 fCh4 fCh5 fCh6
  rfl
@[simp] theorem fCh_ok {op op' : BOp} {b c : E} {v : Vl} : fCh X op op' b c (.ok v s) = fCh2 X op op' v c (ev X b s) := id rfl
@[simp] theorem fCh2_ok {op op' : BOp} {c : E} {u v : Vl} : fCh2 X op op' v c (.ok u s) = fCh2b X op op' u c s (v.hold.look s) (u.hold.look s) := id rfl
@[simp] theorem fCh2b_ok {op op' : BOp} {c : E} {u : Vl} {d e : D} : fCh2b X op op' u c s (some d) (some e) = fCh3 X op' u c s (opB op d e) := id rfl
@[simp] theorem fCh3_t {op : BOp} {c : E} {u : Vl} : fCh3 X op u c s (some (.im (.bl true))) = fCh4 op u (ev X c s) := id rfl
@[simp] theorem fCh3_f {op : BOp} {c : E} {u : Vl} : fCh3 X op u c s (some (.im (.bl false))) = .ok (.im (.bl false)) s := id rfl
@[simp] theorem fCh4_ok {op : BOp} {u t : Vl} : fCh4 op u (.ok t s) = fCh5 op s (u.hold.look s) (t.look s) := id rfl
@[simp] theorem fCh5_ok {op : BOp} {d e : D} : fCh5 op s (some d) (some e) = fCh6 s (opB op d e) := id rfl
@[simp] theorem fCh6_ok {b : Bool} : fCh6 s (some (.im (.bl b))) = .ok (.im (.bl b)) s := id rfl
def fNtV (r : R Vl) : R Vl := r.bind fun v s => match v with
  | .im (.bl b) => .ok (.im (.bl (!b))) s
  | _ => .no
@[simp high] theorem fr_nt (a : E) : ev X (.nt a) s = fNtV (ev X a s) := id rfl
@[simp] theorem fNtV_ok {b : Bool} : fNtV (.ok (.im (.bl b)) s) = .ok (.im (.bl (!b))) s := id rfl
def fIfe (X : Env) (a b : E) (r : R Bool) : R Vl := r.bind fun c s => if c then ev X a s else ev X b s
@[simp high] theorem fr_ife (t a b : E) : ev X (.ife t a b) s = fIfe X a b (evT X t s) := id rfl
@[simp] theorem fIfe_t {a b : E} : fIfe X a b (.ok true s) = ev X a s := id rfl
@[simp] theorem fIfe_f {a b : E} : fIfe X a b (.ok false s) = ev X b s := id rfl
def fTup (r : R (List D)) : R Vl := r.bind fun ds s => if ds.length ≤ sizeLine then .ok (.im (.tup ds)) s else .no
@[simp high] theorem fr_tup (a : A) : ev X (.tup a) s = fTup (evA X a s) := id rfl
@[simp] theorem fTup_ok {ds : List D} : fTup (.ok ds s) = if ds.length ≤ sizeLine then .ok (.im (.tup ds)) s else .no := id rfl
@[simp] theorem fTup_er {c : Nat} {fs : List (Str × D)} : fTup (.er c fs s) = .er c fs s := id rfl
def fLst (r : R (List D)) : R Vl := r.bind fun ds s => if ds.length ≤ sizeLine then .ok (.own (.lst ds)) s else .no
@[simp high] theorem fr_lst (a : A) : ev X (.lst a) s = fLst (evA X a s) := id rfl
@[simp] theorem fLst_ok {ds : List D} : fLst (.ok ds s) = if ds.length ≤ sizeLine then .ok (.own (.lst ds)) s else .no := id rfl
@[simp] theorem fLst_er {c : Nat} {fs : List (Str × D)} : fLst (.er c fs s) = .er c fs s := id rfl
def fSub3 (s : S) : Option D → Option D → R Vl
  | some d, some e => toR s (subD d e)
  | _, _ => .no
def fSub2 (v : Vl) (r : R Vl) : R Vl := r.bind fun u s => fSub3 s (v.hold.look s) (u.look s)
def fSub (X : Env) (b : E) (r : R Vl) : R Vl := r.bind fun v s => fSub2 v (ev X b s)
@[simp high] theorem fr_sub (a b : E) : ev X (.sub a b) s = fSub X b (ev X a s) := by
  rw [ev_sub]
  unfold fSub fSub2 fSub3
  rfl
@[simp] theorem fSub_ok {b : E} {v : Vl} : fSub X b (.ok v s) = fSub2 v (ev X b s) := id rfl
@[simp] theorem fSub2_ok {u v : Vl} : fSub2 v (.ok u s) = fSub3 s (v.hold.look s) (u.look s) := id rfl
@[simp] theorem fSub3_ok {d e : D} : fSub3 s (some d) (some e) = toR s (subD d e) := id rfl
@[simp] theorem fSub_er {b : E} {c : Nat} {fs : List (Str × D)} : fSub X b (.er c fs s) = .er c fs s := id rfl
@[simp] theorem fSub2_er {v : Vl} {c : Nat} {fs : List (Str × D)} : fSub2 v (.er c fs s) = .er c fs s := id rfl
def fSli4 (s : S) (l : Option Int) : Option D → Option (Option Int) → R Vl
  | some d, some h => toR s (sliD d l h)
  | _, _ => .no
def fSli3 (v : Vl) (l : Option Int) (r : R Vl) : R Vl := r.bind fun h s => match h with
  | .im h => fSli4 s l (v.hold.look s) (bndD h)
  | _ => .no
def fSli2b (X : Env) (v : Vl) (hi : E) (s : S) : Option (Option Int) → R Vl
  | some l => fSli3 v l (ev X hi s)
  | none => .no
def fSli2 (X : Env) (v : Vl) (hi : E) (r : R Vl) : R Vl := r.bind fun l s => match l with
  | .im l => fSli2b X v hi s (bndD l)
  | _ => .no
def fSli (X : Env) (lo hi : E) (r : R Vl) : R Vl := r.bind fun v s => fSli2 X v hi (ev X lo s)
@[simp high] theorem fr_sli (a lo hi : E) : ev X (.sli a lo hi) s = fSli X lo hi (ev X a s) := by
  rw [ev_sli]
  unfold fSli fSli2 fSli2b fSli3 fSli4
  rfl
@[simp] theorem fSli_ok {lo hi : E} {v : Vl} : fSli X lo hi (.ok v s) = fSli2 X v hi (ev X lo s) := id rfl
@[simp] theorem fSli2_ok {hi : E} {v : Vl} {l : D} : fSli2 X v hi (.ok (.im l) s) = fSli2b X v hi s (bndD l) := id rfl
@[simp] theorem fSli2b_ok {hi : E} {v : Vl} {l : Option Int} : fSli2b X v hi s (some l) = fSli3 v l (ev X hi s) := id rfl
@[simp] theorem fSli3_ok {v : Vl} {l : Option Int} {h : D} : fSli3 v l (.ok (.im h) s) = fSli4 s l (v.hold.look s) (bndD h) := id rfl
@[simp] theorem fSli4_ok {d : D} {l h : Option Int} : fSli4 s l (some d) (some h) = toR s (sliD d l h) := id rfl
def fDic2 (s : S) : Option (List (Key × D)) → R Vl
  | some kvs => if 0 < kvs.length ∧ kvs.length ≤ 15 then .ok (.own (.dk (mergeD kvs))) s else .no
  | none => .no
def fDic (r : R (List D)) : R Vl := r.bind fun ds s => fDic2 s (dicD ds)
@[simp high] theorem fr_dic (a : A) : ev X (.dic a) s = fDic (evA X a s) := id rfl
@[simp] theorem fDic_ok {ds : List D} : fDic (.ok ds s) = fDic2 s (dicD ds) := id rfl
@[simp] theorem fDic2_ok {kvs : List (Key × D)} : fDic2 s (some kvs) = if 0 < kvs.length ∧ kvs.length ≤ 15 then .ok (.own (.dk (mergeD kvs))) s else .no := id rfl
def fFld2 (X : Env) (f : Str) (s : S) : Option D → R Vl
  | some d => toR s (fldD X.na d f)
  | none => .no
def fFld (X : Env) (f : Str) (r : R Vl) : R Vl := r.bind fun v s => fFld2 X f s (v.look s)
@[simp high] theorem fr_fld (a : E) (f : Str) : ev X (.fld a f) s = fFld X f (ev X a s) := id rfl
@[simp] theorem fFld_ok {f : Str} {v : Vl} : fFld X f (.ok v s) = fFld2 X f s (v.look s) := id rfl
@[simp] theorem fFld2_ok {f : Str} {d : D} : fFld2 X f s (some d) = toR s (fldD X.na d f) := id rfl
@[simp] theorem fFld_er {f : Str} {c : Nat} {fs : List (Str × D)} : fFld X f (.er c fs s) = .er c fs s := id rfl
def fBi2 (f : BI) (s : S) : Option (List D) → R Vl
  | some ds => toR s (opF f ds)
  | none => .no
def fBi (f : BI) (r : R (List Vl)) : R Vl := r.bind fun vs s => fBi2 f s (lookAll s vs)
@[simp high] theorem fr_bi (f : BI) (a : A) : ev X (.bi f a) s = fBi f (evO X a s) := id rfl
@[simp] theorem fBi_ok {f : BI} {vs : List Vl} : fBi f (.ok vs s) = fBi2 f s (lookAll s vs) := id rfl
@[simp] theorem fBi2_ok {f : BI} {ds : List D} : fBi2 f s (some ds) = toR s (opF f ds) := id rfl
@[simp] theorem fBi_er {f : BI} {c : Nat} {fs : List (Str × D)} : fBi f (.er c fs s) = .er c fs s := id rfl
/-- lookAll by steps -/
def la2 (s : S) (d : Option D) (r : Option (List D)) : Option (List D) := match d with
  | some d => (match r with
    | some ds => some (d :: ds)
    | none => none)
  | none => none
@[simp high] theorem fr_la_cons {v : Vl} {vs : List Vl} : lookAll s (v :: vs) = la2 s (v.look s) (lookAll s vs) := id rfl
@[simp] theorem la2_ok {d : D} {ds : List D} : la2 s (some d) (some ds) = some (d :: ds) := id rfl
def fMt4 (v : Vl) (s : S) : Option (Vl × Option D) → R Vl
  | some r => back v s r
  | none => .no
def fMt3 (m : MT) (v : Vl) (ds : List D) (s : S) : Option D → R Vl
  | some d => fMt4 v s (opM m d ds)
  | none => .no
def fMt2 (m : MT) (v : Vl) (r : R (List D)) : R Vl := r.bind fun ds s => fMt3 m v ds s (v.look s)
def fMtb (X : Env) (m : MT) (a : A) (v : Vl) (s : S) : Option D → R Vl
  | some d => if isKd m.kd d then fMt2 m v (evA X a s) else .no
  | none => .no
def fMt (X : Env) (m : MT) (a : A) (r : R Vl) : R Vl := r.bind fun v s => fMtb X m a v.hold s (v.hold.look s)
@[simp high] theorem fr_mt (m : MT) (o : E) (a : A) : ev X (.mt m o a) s = fMt X m a (ev X o s) := by
  rw [ev_mt]
  unfold fMt fMtb fMt2 fMt3 fMt4
  rfl
@[simp] theorem fMt_ok {m : MT} {a : A} {v : Vl} : fMt X m a (.ok v s) = fMtb X m a v.hold s (v.hold.look s) := id rfl
@[simp] theorem fMtb_ok {m : MT} {a : A} {v : Vl} {d : D} : fMtb X m a v s (some d) = if isKd m.kd d then fMt2 m v (evA X a s) else .no := id rfl
@[simp] theorem fMt2_ok {m : MT} {v : Vl} {ds : List D} : fMt2 m v (.ok ds s) = fMt3 m v ds s (v.look s) := id rfl
@[simp] theorem fMt3_ok {m : MT} {v : Vl} {ds : List D} {d : D} : fMt3 m v ds s (some d) = fMt4 v s (opM m d ds) := id rfl
@[simp] theorem fMt4_ok {v : Vl} {r : Vl × Option D} : fMt4 v s (some r) = back v s r := id rfl
@[simp] theorem fMt_er {m : MT} {a : A} {c : Nat} {fs : List (Str × D)} : fMt X m a (.er c fs s) = .er c fs s := id rfl
@[simp] theorem fMt2_er {m : MT} {v : Vl} {c : Nat} {fs : List (Str × D)} : fMt2 m v (.er c fs s) = .er c fs s := id rfl
def fCal (X : Env) (f : Nat) (r : R (List D)) : R Vl := r.bind fun ds s => (X.fn f ds s.st).toR s
@[simp high] theorem fr_cal (f : Nat) (a : A) : ev X (.cal f a) s = fCal X f (evA X a s) := id rfl
@[simp] theorem fCal_ok {f : Nat} {ds : List D} : fCal X f (.ok ds s) = (X.fn f ds s.st).toR s := id rfl
@[simp] theorem fCal_er {f : Nat} {c : Nat} {fs : List (Str × D)} : fCal X f (.er c fs s) = .er c fs s := id rfl
@[simp] theorem toR_er {c : Nat} {fs : List (Str × D)} {st : List (Option D)} : RC.toR s (.er c fs st) = .er c fs { s with st := st } := id rfl
def fCalP2 (X : Env) (f : Nat) (s : S) : Option (List D) → R Vl
  | some ds => flatR s (X.fn f ds (s.st.map fun _ => none))
  | none => .no
def fCalP (X : Env) (f : Nat) (r : R (List Vl)) : R Vl := r.bind fun vs s => fCalP2 X f s (lookAll s vs)
@[simp high] theorem fr_calP (f : Nat) (a : A) : ev X (.calP f a) s = fCalP X f (evO X a s) := id rfl
@[simp] theorem fCalP_ok {f : Nat} {vs : List Vl} : fCalP X f (.ok vs s) = fCalP2 X f s (lookAll s vs) := id rfl
@[simp] theorem fCalP2_ok {f : Nat} {ds : List D} : fCalP2 X f s (some ds) = flatR s (X.fn f ds (s.st.map fun _ => none)) := id rfl
@[simp] theorem flR_er {c : Nat} {st : List (Option D)} : flatR s (.er c [] st) = .er c [] s := id rfl
def fCalD3 (X : Env) (f : Nat) (s : S) : Option (List D) → R Vl
  | some es => flatR s (X.fn f es (s.st.map fun _ => none))
  | none => .no
def fCalD2 (X : Env) (f : Nat) (s : S) : Option (List D) → R Vl
  | some ds => fCalD3 X f s (mapO (deepD 8 s.st) ds)
  | none => .no
def fCalD (X : Env) (f : Nat) (r : R (List Vl)) : R Vl := r.bind fun vs s => fCalD2 X f s (lookAll s vs)
@[simp high] theorem fr_calD (f : Nat) (a : A) : ev X (.calD f a) s = fCalD X f (evO X a s) := by
  rw [ev_calD]
  unfold fCalD fCalD2 fCalD3
  rfl
@[simp] theorem fCalD_ok {f : Nat} {vs : List Vl} : fCalD X f (.ok vs s) = fCalD2 X f s (lookAll s vs) := id rfl
@[simp] theorem fCalD2_ok {f : Nat} {ds : List D} : fCalD2 X f s (some ds) = fCalD3 X f s (mapO (deepD 8 s.st) ds) := id rfl
@[simp] theorem fCalD3_ok {f : Nat} {es : List D} : fCalD3 X f s (some es) = flatR s (X.fn f es (s.st.map fun _ => none)) := id rfl
def fMkP3 (X : Env) (c f : Nat) (s : S) : Option (List D) → R Vl
  | some es => mkPR s (X.nw c f es (s.st.map fun _ => none))
  | none => .no
def fMkP2 (X : Env) (c f : Nat) (s : S) : Option (List D) → R Vl
  | some ds => fMkP3 X c f s (mapO (deepD 8 s.st) ds)
  | none => .no
def fMkP (X : Env) (c f : Nat) (r : R (List Vl)) : R Vl := r.bind fun vs s => fMkP2 X c f s (lookAll s vs)
@[simp high] theorem fr_mkP (c f : Nat) (a : A) : ev X (.mkP c f a) s = fMkP X c f (evO X a s) := by
  rw [ev_mkP]
  unfold fMkP fMkP2 fMkP3
  rfl
@[simp] theorem fMkP_ok {c f : Nat} {vs : List Vl} : fMkP X c f (.ok vs s) = fMkP2 X c f s (lookAll s vs) := id rfl
@[simp] theorem fMkP2_ok {c f : Nat} {ds : List D} : fMkP2 X c f s (some ds) = fMkP3 X c f s (mapO (deepD 8 s.st) ds) := id rfl
@[simp] theorem fMkP3_ok {c f : Nat} {es : List D} : fMkP3 X c f s (some es) = mkPR s (X.nw c f es (s.st.map fun _ => none)) := id rfl
@[simp] theorem mkPR_ok {c : Nat} {fs : List (Str × D)} {st : List (Option D)} : mkPR s (.ok (.own (.ins c fs)) st) = if fs.all (fun p => lfD 8 p.2) then .ok (.own (.ins c fs)) s else .no := id rfl
@[simp] theorem mkPR_er {c : Nat} {st : List (Option D)} : mkPR s (.er c [] st) = .er c [] s := id rfl
@[simp] theorem mapO_nil {f : D → Option D} : mapO f [] = some [] := id rfl
def mapO3 (e : D) : Option (List D) → Option (List D)
  | some es => some (e :: es)
  | none => none
def mapO2 (r : Option (List D)) : Option D → Option (List D)
  | some e => mapO3 e r
  | none => none
@[simp] theorem mapO_cons {f : D → Option D} {d : D} {ds : List D} : mapO f (d :: ds) = mapO2 (mapO f ds) (f d) := by
  show (match f d with
    | some e => match mapO f ds with
      | some es => some (e :: es)
      | none => none
    | none => none) = _
  cases f d <;> cases mapO f ds <;> rfl
@[simp] theorem mapO2_s {r : Option (List D)} {e : D} : mapO2 r (some e) = mapO3 e r := id rfl
@[simp] theorem mapO3_s {e : D} {es : List D} : mapO3 e (some es) = some (e :: es) := id rfl
theorem mapO_map {α : Type} {f : D → Option D} {g h : α → D} : ∀ {xs : List α}, (∀ x ∈ xs, f (g x) = some (h x)) → mapO f (xs.map g) = some (xs.map h)
  | [], _ => rfl
  | x :: xs, k => by
    rw [List.map_cons, List.map_cons, mapO_cons, k x List.mem_cons_self, mapO2_s, mapO_map (fun y m => k y (List.mem_cons_of_mem _ m))]
    rfl
def dpL : Option (List D) → Option D
  | some es => some (.lst es)
  | none => none
def dpT : Option (List D) → Option D
  | some es => some (.tup es)
  | none => none
def dpC (n : Nat) (st : List (Option D)) : Option (Option D) → Option D
  | some (some d) => deepD n st d
  | _ => none
@[simp] theorem dpL_s {es : List D} : dpL (some es) = some (.lst es) := id rfl
@[simp] theorem dpT_s {es : List D} : dpT (some es) = some (.tup es) := id rfl
@[simp] theorem dpC_s {n : Nat} {st : List (Option D)} {d : D} : dpC n st (some (some d)) = deepD n st d := id rfl
@[simp] theorem deep_int {n : Nat} {st : List (Option D)} {i : Int} : deepD (n + 1) st (.int i) = some (.int i) := id rfl
@[simp] theorem deep_str {n : Nat} {st : List (Option D)} {z : Str} : deepD (n + 1) st (.str z) = some (.str z) := id rfl
@[simp] theorem deep_bl {n : Nat} {st : List (Option D)} {b : Bool} : deepD (n + 1) st (.bl b) = some (.bl b) := id rfl
@[simp] theorem deep_non {n : Nat} {st : List (Option D)} : deepD (n + 1) st .non = some .non := id rfl
@[simp] theorem deep_ins {n k : Nat} {st : List (Option D)} {fs : List (Str × D)} : deepD (n + 1) st (.ins k fs) = some (.ins k fs) := id rfl
@[simp] theorem deep_lst {n : Nat} {st : List (Option D)} {ds : List D} : deepD (n + 1) st (.lst ds) = dpL (mapO (deepD n st) ds) := by
  show (match mapO (deepD n st) ds with
    | some es => some (D.lst es)
    | none => none) = _
  cases mapO (deepD n st) ds <;> rfl
@[simp] theorem deep_tup {n : Nat} {st : List (Option D)} {ds : List D} : deepD (n + 1) st (.tup ds) = dpT (mapO (deepD n st) ds) := by
  show (match mapO (deepD n st) ds with
    | some es => some (D.tup es)
    | none => none) = _
  cases mapO (deepD n st) ds <;> rfl
@[simp] theorem deep_cell {n k : Nat} {st : List (Option D)} : deepD (n + 1) st (.cell k) = dpC n st st[k]? := by
  show (match st[k]? with
    | some (some d) => deepD n st d
    | _ => none) = _
  rcases st[k]? with _ | _ | d <;> rfl
@[simp] theorem mapO_ints {n : Nat} {st : List (Option D)} {is : List Int} : mapO (deepD (n + 1) st) (is.map .int) = some (is.map .int) := mapO_map fun _ _ => rfl
@[simp] theorem lf_int {n : Nat} {i : Int} : lfD (n + 1) (.int i) = true := id rfl
@[simp] theorem lf_str {n : Nat} {z : Str} : lfD (n + 1) (.str z) = true := id rfl
@[simp] theorem lf_bl {n : Nat} {b : Bool} : lfD (n + 1) (.bl b) = true := id rfl
@[simp] theorem lf_non {n : Nat} : lfD (n + 1) .non = true := id rfl
@[simp] theorem lf_tup {n : Nat} {ds : List D} : lfD (n + 1) (.tup ds) = ds.all (lfD n) := id rfl
def fMet4 (X : Env) (f : Nat) (d : D) (r : R (List D)) : R Vl := r.bind fun ds s => (X.fn f (d :: ds) s.st).toR s
def fMet3 (X : Env) (f : Nat) (m : Str) (c : Nat) (a : A) (d : D) (s : S) : Option D → R Vl
  | some (.ins c' fs) => if c' = c ∧ fget m fs = none then fMet4 X f d (evA X a s) else .no
  | _ => .no
def fMet2 (X : Env) (f : Nat) (m : Str) (c : Nat) (a : A) (r : R D) : R Vl := r.bind fun d s => fMet3 X f m c a d s (deref s.st d)
def fMet (X : Env) (f : Nat) (m : Str) (c : Nat) (a : A) (r : R Vl) : R Vl := r.bind fun v s => fMet2 X f m c a (v.fz s)
@[simp high] theorem fr_met (f : Nat) (m : Str) (c : Nat) (o : E) (a : A) : ev X (.met f m c o a) s = fMet X f m c a (ev X o s) := by
  rw [ev_met]
  unfold fMet fMet2 fMet3 fMet4
  rfl
@[simp] theorem fMet_ok {f : Nat} {m : Str} {c : Nat} {a : A} {v : Vl} : fMet X f m c a (.ok v s) = fMet2 X f m c a (v.fz s) := id rfl
@[simp] theorem fMet2_ok {f : Nat} {m : Str} {c : Nat} {a : A} {d : D} : fMet2 X f m c a (.ok d s) = fMet3 X f m c a d s (deref s.st d) := id rfl
@[simp] theorem fMet3_ok {f : Nat} {m : Str} {c c' : Nat} {a : A} {d : D} {fs : List (Str × D)} : fMet3 X f m c a d s (some (.ins c' fs)) = if c' = c ∧ fget m fs = none then fMet4 X f d (evA X a s) else .no := id rfl
@[simp] theorem fMet4_ok {f : Nat} {d : D} {ds : List D} : fMet4 X f d (.ok ds s) = (X.fn f (d :: ds) s.st).toR s := id rfl
def fMkC2 (s : S) : RC → R Vl
  | .ok (.im .non) st => .ok (.im (.cell s.st.length)) { s with st := st }
  | .er c fs st => .er c fs { s with st := st }
  | _ => .no
def fMkC (X : Env) (c f : Nat) (r : R (List D)) : R Vl := r.bind fun ds s => fMkC2 s (X.fm f (.cell s.st.length :: ds) (s.st ++ [some (.ins c [])]))
@[simp high] theorem fr_mkC (c f : Nat) (a : A) : ev X (.mkC c f a) s = fMkC X c f (evA X a s) := by
  rw [ev_mkC]
  unfold fMkC fMkC2
  rfl
@[simp] theorem fMkC_ok {c f : Nat} {ds : List D} : fMkC X c f (.ok ds s) = fMkC2 s (X.fm f (.cell s.st.length :: ds) (s.st ++ [some (.ins c [])])) := id rfl
@[simp] theorem fMkC2_ok {st : List (Option D)} : fMkC2 s (.ok (.im .non) st) = .ok (.im (.cell s.st.length)) { s with st := st } := id rfl
@[simp] theorem fMkC2_er {c : Nat} {fs : List (Str × D)} {st : List (Option D)} : fMkC2 s (.er c fs st) = .er c fs { s with st := st } := id rfl
def fMkR2 (s : S) : RC → R Vl
  | .ok (.own d) st => .ok (.own d) { s with st := st }
  | .er c fs st => .er c fs { s with st := st }
  | _ => .no
def fMkR (X : Env) (c f : Nat) (r : R (List D)) : R Vl := r.bind fun ds s => fMkR2 s (X.nw c f ds s.st)
@[simp high] theorem fr_mkR (c f : Nat) (a : A) : ev X (.mkR c f a) s = fMkR X c f (evA X a s) := by
  rw [ev_mkR]
  unfold fMkR fMkR2
  rfl
@[simp] theorem fMkR_ok {c f : Nat} {ds : List D} : fMkR X c f (.ok ds s) = fMkR2 s (X.nw c f ds s.st) := id rfl
@[simp] theorem fMkR2_ok {d : D} {st : List (Option D)} : fMkR2 s (.ok (.own d) st) = .ok (.own d) { s with st := st } := id rfl
@[simp] theorem fMkR2_er {c : Nat} {fs : List (Str × D)} {st : List (Option D)} : fMkR2 s (.er c fs st) = .er c fs { s with st := st } := id rfl
def fIsi2 (t : List Ty) (s : S) : Option D → R Vl
  | some d => if okTy d then .ok (.im (.bl (t.any (tyD d)))) s else .no
  | none => .no
def fIsi (t : List Ty) (r : R Vl) : R Vl := r.bind fun v s => fIsi2 t s (v.look s)
@[simp high] theorem fr_isi (a : E) (t : List Ty) : ev X (.isi a t) s = fIsi t (ev X a s) := id rfl
@[simp] theorem fIsi_ok {t : List Ty} {v : Vl} : fIsi t (.ok v s) = fIsi2 t s (v.look s) := id rfl
@[simp] theorem fIsi2_ok {t : List Ty} {d : D} : fIsi2 t s (some d) = if okTy d then .ok (.im (.bl (t.any (tyD d)))) s else .no := id rfl
def fIsx3 (s : S) : Option Bool → R Vl
  | some b => .ok (.im (.bl b)) s
  | none => .no
def fIsx2 (X : Env) (t : List Nat) (s : S) : Option D → R Vl
  | some d => fIsx3 s (isxD X.sub d t)
  | none => .no
def fIsx (X : Env) (t : List Nat) (r : R Vl) : R Vl := r.bind fun v s => fIsx2 X t s (v.look s)
@[simp high] theorem fr_isx (a : E) (t : List Nat) : ev X (.isx a t) s = fIsx X t (ev X a s) := by
  rw [ev_isx]
  unfold fIsx fIsx2 fIsx3
  rfl
@[simp] theorem fIsx_ok {t : List Nat} {v : Vl} : fIsx X t (.ok v s) = fIsx2 X t s (v.look s) := id rfl
@[simp] theorem fIsx2_ok {t : List Nat} {d : D} : fIsx2 X t s (some d) = fIsx3 s (isxD X.sub d t) := id rfl
@[simp] theorem fIsx3_ok {b : Bool} : fIsx3 s (some b) = .ok (.im (.bl b)) s := id rfl
@[simp] theorem isx_non {sub : Nat → Nat → Option Bool} {t : List Nat} : isxD sub .non t = anyS (sub nonN) t := id rfl
@[simp] theorem isx_exc {sub : Nat → Nat → Option Bool} {t : List Nat} {k : Nat} (h : k < nonN) : isxD sub (.exc k []) t = anyS (sub k) t := by
  show (match (if k < nonN then some k else none) with
    | some k => anyS (sub k) t
    | none => none) = _
  rw [if_pos h]
@[simp] theorem isx_ins {sub : Nat → Nat → Option Bool} {t : List Nat} {k : Nat} {fs : List (Str × D)} : isxD sub (.ins k fs) t = anyS (sub (insN + k)) t := id rfl
@[simp] theorem anyS_nil {f : Nat → Option Bool} : anyS f [] = some false := id rfl
@[simp] theorem anyS_cons {f : Nat → Option Bool} {c : Nat} {cs : List Nat} : anyS f (c :: cs) = (match f c with
    | some b => (match anyS f cs with
      | some r => some (b || r)
      | none => none)
    | none => none) := id rfl
def fLc3 (own : List Nat) (r : R (List D)) : R Vl := r.noE.bind fun acc s => .ok (.own (.lst acc)) (wipeS s own)
def fLc2 (X : Env) (elt : E) (tg : Tg) (ifs : A) (own : List Nat) (s : S) : Option (List D) → R Vl
  | some xs => fLc3 own (lcLoop (lcStep X elt tg ifs own) xs [] s)
  | none => .no
def fLc (X : Env) (elt : E) (tg : Tg) (k : IK) (ifs : A) (own : List Nat) (r : R (List D)) : R Vl := r.bind fun ds s => fLc2 X elt tg ifs own s (itemsD k ds)
@[simp high] theorem fr_lc (elt : E) (tg : Tg) (k : IK) (src : A) (ifs : A) (own : List Nat) : ev X (.lc elt tg k src ifs own) s = fLc X elt tg k ifs own (evA X src s) := by
  rw [zv_lc]
  unfold fLc fLc2 fLc3
  rfl
@[simp] theorem fLc_ok {elt : E} {tg : Tg} {k : IK} {ifs : A} {own : List Nat} {ds : List D} : fLc X elt tg k ifs own (.ok ds s) = fLc2 X elt tg ifs own s (itemsD k ds) := id rfl
@[simp] theorem fLc2_ok {elt : E} {tg : Tg} {ifs : A} {own : List Nat} {xs : List D} : fLc2 X elt tg ifs own s (some xs) = fLc3 own (lcLoop (lcStep X elt tg ifs own) xs [] s) := id rfl
@[simp] theorem fLc3_ok {own : List Nat} {acc : List D} : fLc3 own (.ok acc s) = .ok (.own (.lst acc)) (wipeS s own) := id rfl
def fLcs4 (r : R D) : R (Option D) := r.bind fun e s => .ok (some e) s
def fLcs3 (r : R Vl) : R (Option D) := r.bind fun v s => fLcs4 (v.fz s)
def fLcs2 (X : Env) (elt : E) (r : R Bool) : R (Option D) := r.bind fun b s => if b then fLcs3 (ev X elt s) else .ok none s
def fLcs (X : Env) (elt : E) (ifs : A) (r : R Unit) : R (Option D) := r.bind fun _ s => fLcs2 X elt (evAndT X ifs s)
theorem fr_lcs {elt : E} {tg : Tg} {ifs : A} {own : List Nat} {d : D} : lcStep X elt tg ifs own d s = fLcs X elt ifs (asgT tg d (wipeS s own)) := rfl
@[simp] theorem fLcs_ok {elt : E} {ifs : A} : fLcs X elt ifs (.ok () s) = fLcs2 X elt (evAndT X ifs s) := id rfl
@[simp] theorem fLcs2_t {elt : E} : fLcs2 X elt (.ok true s) = fLcs3 (ev X elt s) := id rfl
@[simp] theorem fLcs2_f {elt : E} : fLcs2 X elt (.ok false s) = .ok none s := id rfl
@[simp] theorem fLcs3_ok {v : Vl} : fLcs3 (.ok v s) = fLcs4 (v.fz s) := id rfl
@[simp] theorem fLcs4_ok {d : D} : fLcs4 (.ok d s) = .ok (some d) s := id rfl
def fLrv2 (s : S) : Option D → R Vl
  | some (.lst ds) => .ok (.own (.lst ds.reverse)) s
  | some (.tup ds) => .ok (.own (.lst ds.reverse)) s
  | _ => .no
def fLrv (r : R Vl) : R Vl := r.bind fun v s => fLrv2 s (v.look s)
@[simp high] theorem fr_lrv (a : E) : ev X (.lrv a) s = fLrv (ev X a s) := by
  rw [ev_lrv]
  unfold fLrv fLrv2
  rfl
@[simp] theorem fLrv_ok {v : Vl} : fLrv (.ok v s) = fLrv2 s (v.look s) := id rfl
@[simp] theorem fLrv2_l {ds : List D} : fLrv2 s (some (.lst ds)) = .ok (.own (.lst ds.reverse)) s := id rfl
@[simp] theorem fLrv2_t {ds : List D} : fLrv2 s (some (.tup ds)) = .ok (.own (.lst ds.reverse)) s := id rfl
def fNwc (r : R Vl) : R Vl := r.bind fun v s => match v with
  | .own d => .ok (.im (.cell s.st.length)) { s with st := s.st ++ [some d] }
  | _ => .no
@[simp high] theorem fr_nwc (a : E) : ev X (.nwc a) s = fNwc (ev X a s) := id rfl
@[simp] theorem fNwc_ok {d : D} : fNwc (.ok (.own d) s) = .ok (.im (.cell s.st.length)) { s with st := s.st ++ [some d] } := id rfl
/-! ### arguments -/
def fA3 (d : D) (r : R (List D)) : R (List D) := r.bind fun ds s => .ok (d :: ds) s
def fA2 (X : Env) (a : A) (r : R D) : R (List D) := r.bind fun d s => fA3 d (evA X a s)
def fA (X : Env) (a : A) (r : R Vl) : R (List D) := r.bind fun v s => fA2 X a (v.fz s)
@[simp high] theorem fr_A (e : E) (r : A) : evA X (.cons e r) s = fA X r (ev X e s) := id rfl
@[simp] theorem fA_ok {a : A} {v : Vl} : fA X a (.ok v s) = fA2 X a (v.fz s) := id rfl
@[simp] theorem fA2_ok {a : A} {d : D} : fA2 X a (.ok d s) = fA3 d (evA X a s) := id rfl
@[simp] theorem fA3_ok {d : D} {ds : List D} : fA3 d (.ok ds s) = .ok (d :: ds) s := id rfl
@[simp] theorem fA_er {a : A} {c : Nat} {fs : List (Str × D)} : fA X a (.er c fs s) = .er c fs s := id rfl
@[simp] theorem fA3_er {d : D} {c : Nat} {fs : List (Str × D)} : fA3 d (.er c fs s) = .er c fs s := id rfl
def fO2 (v : Vl) (r : R (List Vl)) : R (List Vl) := r.bind fun vs s => .ok (v.hold :: vs) s
def fO (X : Env) (a : A) (r : R Vl) : R (List Vl) := r.bind fun v s => fO2 v (evO X a s)
@[simp high] theorem fr_O (e : E) (r : A) : evO X (.cons e r) s = fO X r (ev X e s) := id rfl
@[simp] theorem fO_ok {a : A} {v : Vl} : fO X a (.ok v s) = fO2 v (evO X a s) := id rfl
@[simp] theorem fO2_ok {v : Vl} {vs : List Vl} : fO2 v (.ok vs s) = .ok (v.hold :: vs) s := id rfl
@[simp] theorem fO_er {a : A} {c : Nat} {fs : List (Str × D)} : fO X a (.er c fs s) = .er c fs s := id rfl
@[simp] theorem fO2_er {v : Vl} {c : Nat} {fs : List (Str × D)} : fO2 v (.er c fs s) = .er c fs s := id rfl
/-- a slot's frozen value -/
def fFz (i : Nat) (s : S) : Option Sl → R D
  | some (.own d) => .ok d { s with ρ := s.ρ.set i (.im d) }
  | _ => .no
@[simp high] theorem fr_fz {i : Nat} : Vl.fz s (.pk i) = fFz i s s.ρ[i]? := by
  show (match s.ρ[i]? with | some (.own d) => .ok d { s with ρ := s.ρ.set i (.im d) } | _ => .no : R D) = _
  cases s.ρ[i]? with
  | none => rfl
  | some x => cases x <;> rfl
@[simp] theorem fFz_ok {i : Nat} {d : D} : fFz i s (some (.own d)) = .ok d { s with ρ := s.ρ.set i (.im d) } := id rfl
def fLk : Option Sl → Option D
  | some (.own d) => some d
  | _ => none
@[simp high] theorem fr_lk {i : Nat} : Vl.look s (.pk i) = fLk s.ρ[i]? := by
  show (match s.ρ[i]? with | some (.own d) => some d | _ => none) = _
  cases s.ρ[i]? with
  | none => rfl
  | some x => cases x <;> rfl
@[simp] theorem fLk_ok {d : D} : fLk (some (.own d)) = some d := id rfl
def fDr : Option (Option D) → Option D
  | some (some d) => some d
  | _ => none
@[simp high] theorem fr_dr {st : List (Option D)} {k : Nat} : deref st (.cell k) = fDr st[k]? := by
  show (match st[k]? with | some (some d) => some d | _ => none) = _
  cases st[k]? with
  | none => rfl
  | some x => cases x <;> rfl
@[simp] theorem fDr_ok {d : D} : fDr (some (some d)) = some d := id rfl
/-! ### tests -/
def fTs3 (s : S) : Option Bool → R Bool
  | some b => .ok b s
  | none => .no
def fTs2 (s : S) : Option D → R Bool
  | some d => fTs3 s (truth d)
  | none => .no
def fTs (r : R Vl) : R Bool := r.bind fun v s => fTs2 s (v.look s)
@[simp high] theorem fr_ts {e : E} : tst (ev X e) s = fTs (ev X e s) := id rfl
@[simp] theorem fTs_ok {v : Vl} : fTs (.ok v s) = fTs2 s (v.look s) := id rfl
@[simp] theorem fTs2_ok {d : D} : fTs2 s (some d) = fTs3 s (truth d) := id rfl
@[simp] theorem fTs3_ok {b : Bool} : fTs3 s (some b) = .ok b s := id rfl
@[simp] theorem fTs_er {c : Nat} {fs : List (Str × D)} : fTs (.er c fs s) = .er c fs s := id rfl
@[simp] theorem evT_bi (f : BI) (a : A) : evT X (.bi f a) s = tst (ev X (.bi f a)) s := evT_any rfl
@[simp] theorem evT_met (f : Nat) (m : Str) (c : Nat) (o : E) (a : A) : evT X (.met f m c o a) s = tst (ev X (.met f m c o a)) s := evT_any rfl
@[simp] theorem evT_mt (m : MT) (o : E) (a : A) : evT X (.mt m o a) s = tst (ev X (.mt m o a)) s := evT_any rfl
@[simp] theorem evT_ife (t a b : E) : evT X (.ife t a b) s = tst (ev X (.ife t a b)) s := evT_any rfl
@[simp] theorem evT_glo (g : Nat) : evT X (.glo g) s = tst (ev X (.glo g)) s := evT_any rfl
@[simp] theorem evT_lst (a : A) : evT X (.lst a) s = tst (ev X (.lst a)) s := evT_any rfl
@[simp] theorem evT_sli (a b c : E) : evT X (.sli a b c) s = tst (ev X (.sli a b c)) s := evT_any rfl
def fNt (r : R Bool) : R Bool := r.bind fun b s => .ok (!b) s
@[simp high] theorem fr_ntT (a : E) : evT X (.nt a) s = fNt (evT X a s) := id rfl
@[simp] theorem fNt_ok {b : Bool} : fNt (.ok b s) = .ok (!b) s := id rfl
@[simp] theorem fNt_er {c : Nat} {fs : List (Str × D)} : fNt (.er c fs s) = .er c fs s := id rfl
def fAnT (X : Env) (a : A) (r : R Bool) : R Bool := r.bind fun b s => if b then evAndT X a s else .ok false s
@[simp high] theorem fr_anT (e : E) (r : A) : evAndT X (.cons e r) s = fAnT X r (evT X e s) := evAndT_cons e r
@[simp] theorem fAnT_t {a : A} : fAnT X a (.ok true s) = evAndT X a s := id rfl
@[simp] theorem fAnT_f {a : A} : fAnT X a (.ok false s) = .ok false s := id rfl
@[simp high] theorem fAnT_nil {b : Bool} : fAnT X .nil (.ok b s) = .ok b s := by cases b <;> rfl
def fOrT (X : Env) (a : A) (r : R Bool) : R Bool := r.bind fun b s => if b then .ok true s else evOrT X a s
@[simp high] theorem fr_orT (e : E) (r : A) : evOrT X (.cons e r) s = fOrT X r (evT X e s) := evOrT_cons e r
@[simp] theorem fOrT_t {a : A} : fOrT X a (.ok true s) = .ok true s := id rfl
@[simp] theorem fOrT_f {a : A} : fOrT X a (.ok false s) = evOrT X a s := id rfl
@[simp high] theorem fOrT_nil {b : Bool} : fOrT X .nil (.ok b s) = .ok b s := by cases b <;> rfl
def fAnV (X : Env) (a : A) (r : R Vl) : R Vl := r.bind fun v s => match v with
  | .im (.bl true) => evAndV X a s
  | .im (.bl false) => .ok (.im (.bl false)) s
  | _ => .no
@[simp high] theorem fr_anV (e e' : E) (r : A) : evAndV X (.cons e (.cons e' r)) s = fAnV X (.cons e' r) (ev X e s) := id rfl
@[simp] theorem fAnV_t {a : A} : fAnV X a (.ok (.im (.bl true)) s) = evAndV X a s := id rfl
@[simp] theorem fAnV_f {a : A} : fAnV X a (.ok (.im (.bl false)) s) = .ok (.im (.bl false)) s := id rfl
def fOrV (X : Env) (a : A) (r : R Vl) : R Vl := r.bind fun v s => match v with
  | .im (.bl false) => evOrV X a s
  | .im (.bl true) => .ok (.im (.bl true)) s
  | _ => .no
@[simp high] theorem fr_orV (e e' : E) (r : A) : evOrV X (.cons e (.cons e' r)) s = fOrV X (.cons e' r) (ev X e s) := id rfl
@[simp] theorem fOrV_t {a : A} : fOrV X a (.ok (.im (.bl true)) s) = .ok (.im (.bl true)) s := id rfl
@[simp] theorem fOrV_f {a : A} : fOrV X a (.ok (.im (.bl false)) s) = evOrV X a s := id rfl
/-! ### statements -/
def fSeq (X : Env) (b : C) (r : R Fl) : R Fl := r.bind fun f s => match f with
  | .nx => run X b s
  | .bk => .ok .bk s
  | .ct => .ok .ct s
  | .rt v => .ok (.rt v) s
@[simp high] theorem fr_seq (a b : C) : run X (.seq a b) s = fSeq X b (run X a s) := id rfl
@[simp] theorem fSeq_nx {b : C} : fSeq X b (.ok .nx s) = run X b s := id rfl
@[simp] theorem fSeq_bk {b : C} : fSeq X b (.ok .bk s) = .ok .bk s := id rfl
@[simp] theorem fSeq_ct {b : C} : fSeq X b (.ok .ct s) = .ok .ct s := id rfl
@[simp] theorem fSeq_rt {b : C} {v : Vl} : fSeq X b (.ok (.rt v) s) = .ok (.rt v) s := id rfl
@[simp] theorem fSeq_er {b : C} {c : Nat} {fs : List (Str × D)} : fSeq X b (.er c fs s) = .er c fs s := id rfl
def fEx (r : R Vl) : R Fl := r.bind fun _ s => .ok .nx s
@[simp high] theorem fr_ex (e : E) : run X (.ex e) s = fEx (ev X e s) := id rfl
@[simp] theorem fEx_ok {v : Vl} : fEx (.ok v s) = .ok .nx s := id rfl
@[simp] theorem fEx_er {c : Nat} {fs : List (Str × D)} : fEx (.er c fs s) = .er c fs s := id rfl
def fNx (r : R Unit) : R Fl := r.bind fun _ s => .ok .nx s
@[simp] theorem fNx_ok : fNx (.ok () s) = .ok .nx s := id rfl
def fAsg (tg : Tg) (r : R Vl) : R Fl := r.bind fun v s => fNx (asgV tg v s)
@[simp high] theorem fr_asg (tg : Tg) (e : E) : run X (.asg tg e) s = fAsg tg (ev X e s) := id rfl
@[simp] theorem fAsg_ok {tg : Tg} {v : Vl} : fAsg tg (.ok v s) = fNx (asgV tg v s) := id rfl
@[simp] theorem fAsg_er {tg : Tg} {c : Nat} {fs : List (Str × D)} : fAsg tg (.er c fs s) = .er c fs s := id rfl
def fTc (t : Tg) (ds : List D) (r : R Unit) : R Unit := r.bind fun _ s => asgT t (.tup ds) s
@[simp high] theorem fr_tc {h t : Tg} {d : D} {ds : List D} : asgT (.tc h t) (.tup (d :: ds)) s = fTc t ds (asgT h d s) := id rfl
@[simp] theorem fTc_ok {t : Tg} {ds : List D} : fTc t ds (.ok () s) = asgT t (.tup ds) s := id rfl
def fBv (i j : Nat) (s : S) : Option Sl → R Unit
  | some (.own d) => .ok () { s with ρ := (s.ρ.set j (.im d)).set i (.im d) }
  | _ => .no
@[simp high] theorem fr_bv {i j : Nat} : bindV i (.pk j) s = if i < s.ρ.length then fBv i j s s.ρ[j]? else .no := by
  show (if i < s.ρ.length then (match s.ρ[j]? with | some (.own d) => .ok () { s with ρ := (s.ρ.set j (.im d)).set i (.im d) } | _ => .no) else .no : R Unit) = _
  unfold fBv
  rfl
@[simp] theorem fBv_ok {i j : Nat} {d : D} : fBv i j s (some (.own d)) = .ok () { s with ρ := (s.ρ.set j (.im d)).set i (.im d) } := id rfl
def fRt2 (r : R Vl) : R Fl := r.bind fun v s => .ok (.rt v) s
def fRt (r : R Vl) : R Fl := r.bind fun v s => fRt2 (outV v s)
@[simp high] theorem fr_ret (e : E) : run X (.ret e) s = fRt (ev X e s) := id rfl
@[simp] theorem fRt_ok {v : Vl} : fRt (.ok v s) = fRt2 (outV v s) := id rfl
@[simp] theorem fRt2_ok {v : Vl} : fRt2 (.ok v s) = .ok (.rt v) s := id rfl
@[simp] theorem fRt_er {c : Nat} {fs : List (Str × D)} : fRt (.er c fs s) = .er c fs s := id rfl
def fOu (i : Nat) (s : S) : Option Sl → R Vl
  | some (.own d) => .ok (.own d) { s with ρ := s.ρ.set i .no }
  | _ => .no
@[simp high] theorem fr_ou {i : Nat} : outV (.pk i) s = fOu i s s.ρ[i]? := by
  show (match s.ρ[i]? with | some (.own d) => .ok (.own d) { s with ρ := s.ρ.set i .no } | _ => .no : R Vl) = _
  unfold fOu
  rfl
@[simp] theorem fOu_ok {i : Nat} {d : D} : fOu i s (some (.own d)) = .ok (.own d) { s with ρ := s.ρ.set i .no } := id rfl
def fIt (X : Env) (a b : C) (r : R Bool) : R Fl := r.bind fun c s => if c then run X a s else run X b s
@[simp high] theorem fr_ite (t : E) (a b : C) : run X (.ite t a b) s = fIt X a b (evT X t s) := id rfl
@[simp] theorem fIt_t {a b : C} : fIt X a b (.ok true s) = run X a s := id rfl
@[simp] theorem fIt_f {a b : C} : fIt X a b (.ok false s) = run X b s := id rfl
@[simp] theorem fIt_er {a b : C} {c : Nat} {fs : List (Str × D)} : fIt X a b (.er c fs s) = .er c fs s := id rfl
def fFo2 (X : Env) (tg : Tg) (body : C) (s : S) : Option (List D) → R Fl
  | some xs => loop (forStep X tg body) xs s
  | none => .no
def fFo (X : Env) (tg : Tg) (k : IK) (body : C) (r : R (List D)) : R Fl := r.bind fun ds s => fFo2 X tg body s (itemsD k ds)
@[simp high] theorem fr_for (tg : Tg) (k : IK) (src : A) (body : C) : run X (.for_ tg k src body) s = fFo X tg k body (evA X src s) := by
  rw [zr_for]
  unfold fFo fFo2
  rfl
@[simp] theorem fFo_ok {tg : Tg} {k : IK} {body : C} {ds : List D} : fFo X tg k body (.ok ds s) = fFo2 X tg body s (itemsD k ds) := id rfl
@[simp] theorem fFo2_ok {tg : Tg} {body : C} {xs : List D} : fFo2 X tg body s (some xs) = loop (forStep X tg body) xs s := id rfl
def fStp (X : Env) (body : C) (r : R Unit) : R Fl := r.bind fun _ s => run X body s
theorem fr_step {tg : Tg} {body : C} {d : D} : forStep X tg body d s = fStp X body (asgT tg d s) := rfl
@[simp] theorem fStp_ok {body : C} : fStp X body (.ok () s) = run X body s := id rfl
def fP2 (j : Nat) (e : D) (r : R Unit) : R Fl := r.bind fun _ s => fNx (asgT (.nm j) e s)
def fP (i j : Nat) (r : R (List D)) : R Fl := r.bind fun ds s => match ds with
  | [d, e] => fP2 j e (asgT (.nm i) d s)
  | _ => .no
@[simp high] theorem fr_par (i j : Nat) (a b : E) : run X (.par i j a b) s = fP i j (evA X (.cons a (.cons b .nil)) s) := id rfl
@[simp] theorem fP_ok {i j : Nat} {d e : D} : fP i j (.ok [d, e] s) = fP2 j e (asgT (.nm i) d s) := id rfl
@[simp] theorem fP2_ok {j : Nat} {e : D} : fP2 j e (.ok () s) = fNx (asgT (.nm j) e s) := id rfl
def fP3 (j l : Nat) (e g : D) (r : R Unit) : R Fl := r.bind fun _ s => fP2 l g (asgT (.nm j) e s)
def fP4 (i j l : Nat) (r : R (List D)) : R Fl := r.bind fun ds s => match ds with
  | [d, e, g] => fP3 j l e g (asgT (.nm i) d s)
  | _ => .no
@[simp high] theorem fr_par3 (i j l : Nat) (a b c : E) : run X (.par3 i j l a b c) s = fP4 i j l (evA X (.cons a (.cons b (.cons c .nil))) s) := id rfl
@[simp] theorem fP4_ok {i j l : Nat} {d e g : D} : fP4 i j l (.ok [d, e, g] s) = fP3 j l e g (asgT (.nm i) d s) := id rfl
@[simp] theorem fP3_ok {j l : Nat} {e g : D} : fP3 j l e g (.ok () s) = fP2 l g (asgT (.nm j) e s) := id rfl
def fBk (u : Vl) (s : S) : Option D → R Fl
  | some z => (back u s (.im .non, some z)).bind fun _ s => .ok .nx s
  | none => .no
@[simp] theorem fBk_pk {i : Nat} {d : D} : fBk (.pk i) s (some d) = .ok .nx { s with ρ := s.ρ.set i (.own d) } := id rfl
@[simp] theorem fBk_cell {i : Nat} {d : D} : fBk (.im (.cell i)) s (some d) = .ok .nx { s with st := s.st.set i (some d) } := id rfl
def fSI4 (u : Vl) (d : D) (s : S) : Option D → Option D → R Fl
  | some x, some y => fBk u s (setD x y d)
  | _, _ => .no
def fSI3 (u : Vl) (d : D) (r : R Vl) : R Fl := r.bind fun w s => fSI4 u d s (u.look s) (w.look s)
def fSI2 (X : Env) (i : E) (d : D) (r : R Vl) : R Fl := r.bind fun u s => fSI3 u.hold d (ev X i s)
def fSI1 (X : Env) (o i : E) (r : R D) : R Fl := r.bind fun d s => fSI2 X i d (ev X o s)
def fSI (X : Env) (o i : E) (r : R Vl) : R Fl := r.bind fun v s => fSI1 X o i (v.fz s)
@[simp high] theorem fr_setI (o i e : E) : run X (.setI o i e) s = fSI X o i (ev X e s) := by
  rw [run_setI]
  unfold fSI fSI1 fSI2 fSI3 fSI4 fBk
  rfl
@[simp] theorem fSI_ok {o i : E} {v : Vl} : fSI X o i (.ok v s) = fSI1 X o i (v.fz s) := id rfl
@[simp] theorem fSI1_ok {o i : E} {d : D} : fSI1 X o i (.ok d s) = fSI2 X i d (ev X o s) := id rfl
@[simp] theorem fSI2_ok {i : E} {d : D} {u : Vl} : fSI2 X i d (.ok u s) = fSI3 u.hold d (ev X i s) := id rfl
@[simp] theorem fSI3_ok {d : D} {u w : Vl} : fSI3 u d (.ok w s) = fSI4 u d s (u.look s) (w.look s) := id rfl
@[simp] theorem fSI4_ok {d x y : D} {u : Vl} : fSI4 u d s (some x) (some y) = fBk u s (setD x y d) := id rfl
def fSF3 (X : Env) (f : Str) (d : D) (u : Vl) (s : S) : Option D → R Fl
  | some x => fBk u s (putFD X.na f d x)
  | none => .no
def fSF2 (X : Env) (f : Str) (d : D) (r : R Vl) : R Fl := r.bind fun u s => fSF3 X f d u.hold s (u.hold.look s)
def fSF1 (X : Env) (o : E) (f : Str) (r : R D) : R Fl := r.bind fun d s => fSF2 X f d (ev X o s)
def fSF (X : Env) (o : E) (f : Str) (r : R Vl) : R Fl := r.bind fun v s => fSF1 X o f (v.fz s)
@[simp high] theorem fr_setF (o e : E) (f : Str) : run X (.setF o f e) s = fSF X o f (ev X e s) := by
  rw [run_setF]
  unfold fSF fSF1 fSF2 fSF3 fBk
  rfl
@[simp] theorem fSF_ok {o : E} {f : Str} {v : Vl} : fSF X o f (.ok v s) = fSF1 X o f (v.fz s) := id rfl
@[simp] theorem fSF1_ok {o : E} {f : Str} {d : D} : fSF1 X o f (.ok d s) = fSF2 X f d (ev X o s) := id rfl
@[simp] theorem fSF2_ok {f : Str} {d : D} {u : Vl} : fSF2 X f d (.ok u s) = fSF3 X f d u.hold s (u.hold.look s) := id rfl
@[simp] theorem fSF3_ok {f : Str} {d x : D} {u : Vl} : fSF3 X f d u s (some x) = fBk u s (putFD X.na f d x) := id rfl
@[simp high] theorem fr_brk : run X .brk s = .ok .bk s := id rfl
@[simp high] theorem fr_cnt : run X .cnt s = .ok .ct s := id rfl
def fAu3 (i : Nat) (s : S) : Option D → R Fl
  | some d => if i < s.ρ.length then .ok .nx { s with ρ := s.ρ.set i (.im d) } else .no
  | none => .no
def fAu2 (i : Nat) (d : D) (s : S) : Option D → R Fl
  | some d' => fAu3 i s (augD d d')
  | none => .no
def fAu1 (i : Nat) (d : D) (r : R Vl) : R Fl := r.bind fun v s => fAu2 i d s (v.look s)
def fAu (X : Env) (i : Nat) (e : E) (s : S) : Option Sl → R Fl
  | some (.im d) => fAu1 i d (ev X e s)
  | _ => .no
@[simp high] theorem fr_aug (i : Nat) (e : E) : run X (.aug i e) s = fAu X i e s s.ρ[i]? := by
  show (match s.ρ[i]? with
    | some (.im d) => (ev X e s).bind fun v s => match v.look s with
      | some d' => (match augD d d' with
        | some d => if i < s.ρ.length then R.ok Fl.nx { s with ρ := s.ρ.set i (.im d) } else .no
        | none => .no)
      | none => .no
    | _ => .no) = _
  unfold fAu fAu1 fAu2 fAu3
  rfl
@[simp] theorem fAu_ok {i : Nat} {e : E} {d : D} : fAu X i e s (some (.im d)) = fAu1 i d (ev X e s) := id rfl
@[simp] theorem fAu1_ok {i : Nat} {d : D} {v : Vl} : fAu1 i d (.ok v s) = fAu2 i d s (v.look s) := id rfl
@[simp] theorem fAu2_ok {i : Nat} {d d' : D} : fAu2 i d s (some d') = fAu3 i s (augD d d') := id rfl
@[simp] theorem fAu3_ok {i : Nat} {d : D} : fAu3 i s (some d) = if i < s.ρ.length then .ok .nx { s with ρ := s.ρ.set i (.im d) } else .no := id rfl
@[simp] theorem ag_int {i j : Int} : augD (.int i) (.int j) = some (.int (i + j)) := id rfl
@[simp high] theorem fr_wp (l l' : List Nat) (a : C) : run X (.wp l a l') s = fWp l' (run X a (wipeS s l)) := id rfl
@[simp] theorem fWp_nx {l : List Nat} : fWp l (.ok .nx s) = .ok .nx (wipeS s l) := id rfl
@[simp] theorem fWp_bk {l : List Nat} : fWp l (.ok .bk s) = .ok .bk (wipeS s l) := id rfl
@[simp] theorem fWp_ct {l : List Nat} : fWp l (.ok .ct s) = .ok .ct (wipeS s l) := id rfl
@[simp] theorem fWp_rt {l : List Nat} {v : Vl} : fWp l (.ok (.rt v) s) = .ok (.rt v) s := id rfl
@[simp] theorem fWp_er {l : List Nat} {c : Nat} {fs : List (Str × D)} : fWp l (.er c fs s) = .er c fs s := id rfl
@[simp high] theorem fr_whl (t : E) (body : C) : run X (.whl t body) s = wloop (evT X t) (run X body) X.wf s := id rfl
/-! ### errors -/
def fRa2 (c : Nat) (f : Str) (r : R D) : R Fl := r.bind fun d s => .er c [(f, d)] s
def fRa (c : Nat) (f : Str) (r : R Vl) : R Fl := r.bind fun v s => fRa2 c f (v.fz s)
@[simp high] theorem fr_rai0 (c : Nat) (e : E) : run X (.rai c none e) s = .er c [] s := id rfl
@[simp high] theorem fr_rai1 (c : Nat) (f : Str) (e : E) : run X (.rai c (some f) e) s = fRa c f (ev X e s) := id rfl
@[simp] theorem fRa_ok {c : Nat} {f : Str} {v : Vl} : fRa c f (.ok v s) = fRa2 c f (v.fz s) := id rfl
@[simp] theorem fRa2_ok {c : Nat} {f : Str} {d : D} : fRa2 c f (.ok d s) = .er c [(f, d)] s := id rfl
def fT2 (i : Nat) (r : R Fl) : R Fl := r.bind fun f s => .ok f { s with ρ := s.ρ.set i .no }
@[simp] theorem fT2_ok {i : Nat} {f : Fl} : fT2 i (.ok f s) = .ok f { s with ρ := s.ρ.set i .no } := id rfl
def fTr2 (X : Env) (k : Nat) (fs : List (Str × D)) (nm : Option Nat) (suite : C) (s : S) : Option Bool → R Fl
  | some true => (match nm with
      | some i => if i < s.ρ.length then fT2 i (run X suite { s with ρ := s.ρ.set i (.im (.exc k fs)) }) else .no
      | none => run X suite s)
  | some false => .er k fs s
  | none => .no
def fTr (X : Env) (c : Nat) (nm : Option Nat) (suite : C) : R Fl → R Fl
  | .ok f s => .ok f s
  | .er k fs s => fTr2 X k fs nm suite s (if k < nonN then X.sub k c else none)
  | .no => .no
@[simp high] theorem fr_tr (body suite : C) (c : Nat) (nm : Option Nat) : run X (.tr body c nm suite) s = fTr X c nm suite (run X body s) := by
  show (match run X body s with
    | .ok f s => R.ok f s
    | .er k fs s => (match (if k < nonN then X.sub k c else none) with
      | some true => (match nm with
        | some i => if i < s.ρ.length then (run X suite { s with ρ := s.ρ.set i (.im (.exc k fs)) }).bind fun f s => .ok f { s with ρ := s.ρ.set i .no } else .no
        | none => run X suite s)
      | some false => .er k fs s
      | none => .no)
    | .no => R.no) = _
  unfold fTr fTr2 fT2
  rfl
@[simp] theorem fTr_ok {c : Nat} {nm : Option Nat} {suite : C} {f : Fl} : fTr X c nm suite (.ok f s) = .ok f s := id rfl
@[simp] theorem fTr_er {c k : Nat} {nm : Option Nat} {suite : C} {fs : List (Str × D)} (h : k < nonN) : fTr X c nm suite (.er k fs s) = fTr2 X k fs nm suite s (X.sub k c) := by
  show fTr2 X k fs nm suite s (if k < nonN then X.sub k c else none) = _
  rw [if_pos h]
@[simp] theorem fTr2_t {k i : Nat} {suite : C} {fs : List (Str × D)} : fTr2 X k fs (some i) suite s (some true) = if i < s.ρ.length then fT2 i (run X suite { s with ρ := s.ρ.set i (.im (.exc k fs)) }) else .no := id rfl
@[simp] theorem fTr2_f {k : Nat} {nm : Option Nat} {suite : C} {fs : List (Str × D)} : fTr2 X k fs nm suite s (some false) = .er k fs s := id rfl
@[simp] theorem nn_lt {k : Nat} (h : k < 999998) : (k < nonN) = True := eq_true h
@[simp] theorem en_er {c : Nat} {fs : List (Str × D)} : endF (.er c fs s) = .er c fs s.st := id rfl
@[simp] theorem enN_nx {d : D} {ρ : List Sl} {st : List (Option D)} : endN (.ok .nx ⟨.own d :: ρ, st⟩) = .ok (.own d) st := id rfl
@[simp] theorem enN_er {c : Nat} {fs : List (Str × D)} : endN (.er c fs s) = .er c fs s.st := id rfl
end
/-! ### loops -/
theorem loop_at {step : D → S → R Fl} (I : Nat → S → Prop) : ∀ {xs : List D} {i : Nat} {s : S}, I i s → (∀ j d s, xs[j]? = some d → I (i + j) s → ∃ s', (step d s = .ok .nx s' ∨ step d s = .ok .ct s') ∧ I (i + j + 1) s') → ∃ s', loop step xs s = .ok .nx s' ∧ I (i + xs.length) s'
  | [], i, s, h, _ => ⟨s, rfl, h⟩
  | d :: r, i, s, h, k => by
    obtain ⟨s1, e1, h1⟩ := k 0 d s rfl h
    obtain ⟨s2, e2, h2⟩ := loop_at I (xs := r) (i := i + 1) (s := s1) h1 (fun j d s e h => by
      have := k (j + 1) d s e (by rw [show i + (j + 1) = i + 1 + j from by omega]; exact h)
      rw [show i + (j + 1) = i + 1 + j from by omega] at this
      exact this)
    refine ⟨s2, ?_, by rw [List.length_cons, show i + (r.length + 1) = i + 1 + r.length from by omega]; exact h2⟩
    unfold loop
    rcases e1 with e1 | e1 <;> rw [e1] <;> exact e2
/-- a for: I at the place -/
theorem for_at {step : D → S → R Fl} {xs : List D} {s : S} (I : Nat → S → Prop) (h : I 0 s) (k : ∀ j d s, xs[j]? = some d → I j s → ∃ s', (step d s = .ok .nx s' ∨ step d s = .ok .ct s') ∧ I (j + 1) s') : ∃ s', loop step xs s = .ok .nx s' ∧ I xs.length s' := by
  have := loop_at I (xs := xs) (i := 0) h (fun j d s e h => by
    rw [Nat.zero_add] at h ⊢
    exact k j d s e h)
  rw [Nat.zero_add] at this
  exact this
/-- a for whose turns keep a thing -/
theorem for_keep {step : D → S → R Fl} {xs : List D} {s : S} (I : S → Prop) (h : I s) (k : ∀ d s, d ∈ xs → I s → ∃ s', (step d s = .ok .nx s' ∨ step d s = .ok .ct s') ∧ I s') : ∃ s', loop step xs s = .ok .nx s' ∧ I s' :=
  for_at (fun _ => I) h fun j d s e => k d s (List.mem_of_getElem? e)
/-- a for over a list's images -/
theorem for_map {α : Type} {f : α → D} {step : D → S → R Fl} {xs : List α} {s : S} (I : Nat → S → Prop) (h : I 0 s) (k : ∀ (j : Nat) (a : α) s, xs[j]? = some a → I j s → ∃ s', (step (f a) s = .ok .nx s' ∨ step (f a) s = .ok .ct s') ∧ I (j + 1) s') : ∃ s', loop step (xs.map f) s = .ok .nx s' ∧ I xs.length s' := by
  have := for_at (xs := xs.map f) I h (fun j d s e => by
    rw [List.getElem?_map] at e
    cases q : xs[j]? with
    | none =>
      rw [q] at e
      cases e
    | some a =>
      rw [q] at e
      cases e
      exact k j a s q)
  rw [List.length_map] at this
  exact this
/-- a comprehension: what each turn gives -/
theorem lc_fm {α : Type} {f : α → D} {g : α → Option D} {step : D → S → R (Option D)} (P : S → Prop) : ∀ {xs : List α} {acc : List D} {s : S}, P s → (∀ a s, a ∈ xs → P s → ∃ s', step (f a) s = .ok (g a) s' ∧ P s') → acc.length + xs.length ≤ 1000000 → ∃ s', lcLoop step (xs.map f) acc s = .ok (acc ++ xs.filterMap g) s' ∧ P s'
  | [], acc, s, h, _, _ => ⟨s, by simp [lcLoop], h⟩
  | x :: r, acc, s, h, k, hl => by
    obtain ⟨s1, e1, h1⟩ := k x s List.mem_cons_self h
    rw [List.length_cons] at hl
    have hz : acc.length < sizeLine := by
      rw [PySem.sizeLine_eq]
      omega
    cases q : g x with
    | none =>
      rw [q] at e1
      obtain ⟨s2, e2, h2⟩ := lc_fm P (xs := r) (acc := acc) h1 (fun a s m => k a s (List.mem_cons_of_mem _ m)) (by omega)
      refine ⟨s2, ?_, h2⟩
      rw [List.map_cons]
      unfold lcLoop
      rw [e1, List.filterMap_cons_none q]
      exact e2
    | some y =>
      rw [q] at e1
      obtain ⟨s2, e2, h2⟩ := lc_fm P (xs := r) (acc := acc ++ [y]) h1 (fun a s m => k a s (List.mem_cons_of_mem _ m)) (by rw [List.length_append, List.length_singleton]; omega)
      refine ⟨s2, ?_, h2⟩
      rw [List.map_cons]
      unfold lcLoop
      rw [e1, List.filterMap_cons_some q]
      show (if acc.length < sizeLine then lcLoop step (r.map f) (acc ++ [y]) s1 else .no) = _
      rw [if_pos hz, e2]
      simp
theorem lc_m {α : Type} {f g : α → D} {step : D → S → R (Option D)} (P : S → Prop) {xs : List α} {s : S} (h : P s) (k : ∀ a s, a ∈ xs → P s → ∃ s', step (f a) s = .ok (some (g a)) s' ∧ P s') (hl : xs.length ≤ 1000000) : ∃ s', lcLoop step (xs.map f) [] s = .ok (xs.map g) s' ∧ P s' := by
  obtain ⟨s', e, h'⟩ := lc_fm (g := fun a => some (g a)) P (acc := []) h k (by simpa using hl)
  refine ⟨s', ?_, h'⟩
  rw [e]
  simp
/-- an element by its number -/
def gI {α : Type} [Inhabited α] (xs : List α) (i : Int) : α := xs.getD i.toNat default
theorem at_gI {α : Type} [Inhabited α] {f : α → D} {xs : List α} {i : Int} (h0 : 0 ≤ i) (h1 : i < xs.length) : atD (xs.map f) i = some (f (gI xs i)) := by
  obtain ⟨j, rfl⟩ := Int.eq_ofNat_of_zero_le h0
  have hj : j < xs.length := by omega
  rw [at_nat, List.getElem?_map, List.getElem?_eq_getElem hj]
  simp [gI, List.getD, hj]
theorem gI_mem {α : Type} [Inhabited α] {xs : List α} {i : Int} (h0 : 0 ≤ i) (h1 : i < xs.length) : gI xs i ∈ xs := by
  obtain ⟨j, rfl⟩ := Int.eq_ofNat_of_zero_le h0
  have hj : j < xs.length := by omega
  simp only [gI, List.getD, Int.toNat_natCast, List.getElem?_eq_getElem hj]
  exact List.getElem_mem hj
/-- the state behind a target -/
def tgS : Tg → D → S → S
  | .nm i, d, s => { s with ρ := s.ρ.set i (.im d) }
  | .tc h t, .tup (d :: ds), s => tgS t (.tup ds) (tgS h d s)
  | _, _, s => s
@[simp] theorem tgS_nm {i : Nat} {d : D} {s : S} : tgS (.nm i) d s = { s with ρ := s.ρ.set i (.im d) } := id rfl
@[simp] theorem tgS_tn {d : D} {s : S} : tgS .tn d s = s := by cases d <;> rfl
@[simp] theorem tgS_tc {h t : Tg} {d : D} {ds : List D} {s : S} : tgS (.tc h t) (.tup (d :: ds)) s = tgS t (.tup ds) (tgS h d s) := id rfl
/-- a comprehension that only looks: its list, the state wiped -/
theorem lc_eq {α : Type} {f : α → D} {g : α → Option D} {X : Env} {elt : E} {tg : Tg} {ifs : A} {own : List Nat} {xs : List α} {s : S} (hl : xs.length ≤ 1000000) (hw : ∀ a ∈ xs, wipeS (tgS tg (f a) (wipeS s own)) own = wipeS s own) (h : ∀ a ∈ xs, fLcs X elt ifs (asgT tg (f a) (wipeS s own)) = .ok (g a) (tgS tg (f a) (wipeS s own))) :
    fLc3 own (lcLoop (lcStep X elt tg ifs own) (xs.map f) [] s) = .ok (.own (.lst (xs.filterMap g))) (wipeS s own) := by
  obtain ⟨s', e, h'⟩ := lc_fm (f := f) (g := g) (step := lcStep X elt tg ifs own) (fun s' => wipeS s' own = wipeS s own) (xs := xs) (acc := []) (s := s) rfl (fun a s' m hs => ⟨_, by
    rw [fr_lcs, hs]
    exact h a m, hw a m⟩) (by simpa using hl)
  rw [e, fLc3_ok, h', List.nil_append]
theorem lc_eqm {α : Type} {f g : α → D} {X : Env} {elt : E} {tg : Tg} {ifs : A} {own : List Nat} {xs : List α} {s : S} (hl : xs.length ≤ 1000000) (hw : ∀ a ∈ xs, wipeS (tgS tg (f a) (wipeS s own)) own = wipeS s own) (h : ∀ a ∈ xs, fLcs X elt ifs (asgT tg (f a) (wipeS s own)) = .ok (some (g a)) (tgS tg (f a) (wipeS s own))) :
    fLc3 own (lcLoop (lcStep X elt tg ifs own) (xs.map f) [] s) = .ok (.own (.lst (xs.map g))) (wipeS s own) := by
  rw [lc_eq (g := fun a => some (g a)) hl hw h]
  simp
@[simp] theorem str_ne {a b : String} (h : (Str.ofString a == Str.ofString b) = false) : (Str.ofString a = Str.ofString b) = False := eq_false fun e => by
  rw [e] at h
  simp at h
@[simp] theorem str_ok {a : String} (h : PySem.PyData.strOk (Str.ofString a) = true) : PySem.PyData.strOk (Str.ofString a) = true := h
theorem out_intro {Q : S → Prop} {r : R Fl} {s : S} (h : r = .ok .nx s) (hq : Q s) : ∃ s, r = .ok .nx s ∧ Q s := ⟨s, h, hq⟩
end PB

set_option Elab.async false
set_option linter.all false
set_option autoImplicit false
set_option maxRecDepth 1000000
/-! levels -/
namespace PB
section
variable {P : Prog}
theorem env_fn (k i : Nat) (ds : List D) (st : List (Option D)) : (envL P (k + 1)).fn i ds st = fnB P (envL P k) i ds st := by cases k <;> rfl
theorem env_fm (k i : Nat) (ds : List D) (st : List (Option D)) : (envL P (k + 2)).fm i ds st = fnB P (envL P k) i ds st := rfl
theorem env_nw (k c i : Nat) (ds : List D) (st : List (Option D)) : (envL P (k + 2)).nw c i ds st = nwB P (envL P k) c i ds st := rfl
theorem env_glo (k : Nat) : (envL P k).glo = P.glo := match k with
  | 0 => rfl
  | 1 => rfl
  | _ + 2 => rfl
theorem env_na (k : Nat) : (envL P k).na = P.na := match k with
  | 0 => rfl
  | 1 => rfl
  | _ + 2 => rfl
theorem env_sub (k : Nat) : (envL P k).sub = P.sub := match k with
  | 0 => rfl
  | 1 => rfl
  | _ + 2 => rfl
theorem env_wf (k : Nat) : (envL P k).wf = P.wf := match k with
  | 0 => rfl
  | 1 => rfl
  | _ + 2 => rfl
theorem fn_call {X : Env} {i : Nat} {f : Fn} (h : P.fns i = some f) (ds : List D) (st : List (Option D)) : fnB P X i ds st = callF X f ds st := by
  unfold fnB
  rw [h]
theorem nw_call {X : Env} {c i : Nat} {f : Fn} (h : P.fns i = some f) (ds : List D) (st : List (Option D)) : nwB P X c i ds st = callN X c f ds st := by
  unfold nwB
  rw [h]
theorem fn_at {i : Nat} {f : Fn} (h : P.fns i = some f) (k : Nat) (ds : List D) (st : List (Option D)) : (envL P (k + 1)).fn i ds st = callF (envL P k) f ds st := by
  rw [env_fn, fn_call h]
theorem fm_at {i : Nat} {f : Fn} (h : P.fns i = some f) (k : Nat) (ds : List D) (st : List (Option D)) : (envL P (k + 2)).fm i ds st = callF (envL P k) f ds st := by
  rw [env_fm, fn_call h]
theorem nw_at {i : Nat} {f : Fn} (h : P.fns i = some f) (k c : Nat) (ds : List D) (st : List (Option D)) : (envL P (k + 2)).nw c i ds st = callN (envL P k) c f ds st := by
  rw [env_nw, nw_call h]
end
end PB

set_option Elab.async false
set_option linter.all false
set_option autoImplicit false
set_option maxRecDepth 1000000
set_option maxHeartbeats 4000000
/-! what many laws share, no code in sight -/
namespace PB
open PySem (Str sizeLine)
@[simp] theorem lcl_nil {step : D → S → R (Option D)} {acc : List D} {s : S} : lcLoop step [] acc s = .ok acc s := id rfl
theorem cut_1 {d : D} {ds : List D} : cutD (d :: ds) (some 1) none = ds := by
  simp [cutD, HT.sIx]
@[simp] theorem b_nil : boolsD [] = some [] := id rfl
@[simp] theorem b_cons {b : Bool} {ds : List D} : boolsD (.bl b :: ds) = (match boolsD ds with | some bs => some (b :: bs) | none => none) := id rfl
@[simp] theorem nin_sd {z : Str} {m : List (Str × D)} : opB .nin (.str z) (.sd m) = some (.im (.bl (!(look z m).isSome))) := id rfl
@[simp] theorem sb_sd {z : Str} {m : List (Str × D)} : subD (.sd m) (.str z) = (match look z m with | some d => some (.im d) | none => none) := id rfl
@[simp] theorem sb_dks {z : Str} {m : List (Key × D)} : subD (.dk m) (.str z) = (match look (.inr z) m with | some d => some (.im d) | none => none) := id rfl
@[simp] theorem sb_dki {z : Int} {m : List (Key × D)} : subD (.dk m) (.int z) = (match look (.inl z) m with | some d => some (.im d) | none => none) := id rfl
@[simp] theorem in_dks {z : Str} {m : List (Key × D)} : opB .in_ (.str z) (.dk m) = some (.im (.bl (look (.inr z) m).isSome)) := id rfl
@[simp] theorem in_dki {z : Int} {m : List (Key × D)} : opB .in_ (.int z) (.dk m) = some (.im (.bl (look (.inl z) m).isSome)) := id rfl
@[simp] theorem lo_nil {κ : Type} [DecidableEq κ] {z : κ} : look z ([] : List (κ × D)) = none := id rfl
@[simp] theorem lo_cons {κ : Type} [DecidableEq κ] {z y : κ} {d : D} {m : List (κ × D)} : look z ((y, d) :: m) = if y = z then some d else look z m := id rfl
@[simp] theorem k_dk {m : List (Key × D)} : isKd .dict (.dk m) = true := id rfl
@[simp] theorem kd_g2 : MT.kd .get2 = .dict := id rfl
@[simp] theorem kd_g1 : MT.kd .get1 = .dict := id rfl
@[simp] theorem fd_ins {na : Nat → Str → Bool} {k : Nat} {fs : List (Str × D)} {f : Str} : fldD na (.ins k fs) f = if na k f = true then (fget f fs).map .im else none := id rfl
@[simp] theorem fg_nil {f : Str} : fget f [] = none := id rfl
@[simp] theorem fg_cons {f g : Str} {d : D} {r : List (Str × D)} : fget f ((g, d) :: r) = if f = g then some d else fget f r := id rfl
@[simp] theorem pf_ins {na : Nat → Str → Bool} {f : Str} {d : D} {c : Nat} {fs : List (Str × D)} : putFD na f d (.ins c fs) = if na c f = true ∧ fs.length < 200 then some (.ins c (fput f d fs)) else none := id rfl
@[simp] theorem fp_nil {f : Str} {d : D} : fput f d [] = [(f, d)] := id rfl
@[simp] theorem fp_cons {f g : Str} {d e : D} {fs : List (Str × D)} : fput f d ((g, e) :: fs) = if g = f then (g, d) :: fs else (g, e) :: fput f d fs := id rfl
@[simp] theorem oF_dm {i j : Int} (h0 : 0 < j) (h1 : j < 1073741824) : opF .divmod [.int i, .int j] = some (.im (.tup [.int (i / j), .int (i % j)])) := by
  show ifB (decide (0 < j ∧ j < 1073741824)) _ = _
  rw [decide_eq_true ⟨h0, h1⟩]
  rfl
@[simp] theorem oF_lenK {m : List (Key × D)} : opF .len [.dk m] = some (.im (.int m.length)) := id rfl
@[simp] theorem it_rL {ds : List D} : itemsD .rev [.lst ds] = some ds.reverse := id rfl
@[simp] theorem it_rT {ds : List D} : itemsD .rev [.tup ds] = some ds.reverse := id rfl
theorem cut_take {α : Type} {xs : List α} {n : Nat} (h : n ≤ xs.length) : cutD xs none (some (n : Int)) = xs.take n := by
  have h1 : HT.sIx xs.length xs.length (some (n : Int)) = n := by
    have : ¬ ((n : Int) < 0) := by omega
    unfold HT.sIx
    simp [this]
    omega
  have h0 : HT.sIx xs.length 0 none = 0 := rfl
  unfold cutD
  rw [h1, h0]
  simp
theorem cut_drop {α : Type} {xs : List α} {n : Nat} (h : n ≤ xs.length) : cutD xs (some (n : Int)) none = xs.drop n := by
  have h1 : HT.sIx xs.length 0 (some (n : Int)) = n := by
    have : ¬ ((n : Int) < 0) := by omega
    unfold HT.sIx
    simp [this]
    omega
  have h0 : HT.sIx xs.length xs.length none = xs.length := rfl
  unfold cutD
  rw [h1, h0]
  exact List.take_of_length_le (by simp)
theorem cut_map {α β : Type} {f : α → β} {xs : List α} {lo hi : Option Int} : cutD (xs.map f) lo hi = (cutD xs lo hi).map f := by
  simp [cutD, List.map_take, List.map_drop]
theorem cut_mem {α : Type} {xs : List α} {lo hi : Option Int} {x : α} (h : x ∈ cutD xs lo hi) : x ∈ xs := List.mem_of_mem_drop (List.mem_of_mem_take h)
theorem cut_len {α : Type} {xs : List α} {lo hi : Option Int} : (cutD xs lo hi).length ≤ xs.length := by
  simp [cutD]
  omega
theorem cut_all {α : Type} {xs : List α} {n : Int} (h : (xs.length : Int) ≤ n) : cutD xs none (some n) = xs := by
  have h1 : HT.sIx xs.length xs.length (some n) = xs.length := by
    have : ¬ (n < 0) := by omega
    unfold HT.sIx
    simp [this]
    omega
  have h0 : HT.sIx xs.length 0 none = 0 := rfl
  unfold cutD
  rw [h1, h0]
  simp
@[simp] theorem sl_lst {ds : List D} {lo hi : Option Int} : sliD (.lst ds) lo hi = some (.own (.lst (cutD ds lo hi))) := id rfl
@[simp] theorem sl_tup {ds : List D} {lo hi : Option Int} : sliD (.tup ds) lo hi = some (.im (.tup (cutD ds lo hi))) := id rfl
@[simp] theorem sl_scr {ds : List D} {lo hi : Option Int} : sliD (.scr ds) lo hi = some (.own (.lst (cutD ds lo hi))) := id rfl
theorem at_ints {ns : List Int} {i : Int} (h0 : 0 ≤ i) (h1 : i < ns.length) : ∃ c, atD (ns.map .int) i = some (.int c) := by
  obtain ⟨j, rfl⟩ := Int.eq_ofNat_of_zero_le h0
  have hj : j < ns.length := by omega
  exact ⟨ns[j], by rw [at_nat, List.getElem?_map, List.getElem?_eq_getElem hj]; rfl⟩
/-! ### stores -/
section
variable {α : Type} {j r : List α} {a b c d e z : α}
@[simp] theorem gx0 : (j ++ a :: r)[j.length]? = some a := by simp
@[simp] theorem gx1 : (j ++ a :: b :: r)[j.length + 1]? = some b := by simp
@[simp] theorem gx2 : (j ++ a :: b :: c :: r)[j.length + 2]? = some c := by simp
@[simp] theorem gx3 : (j ++ a :: b :: c :: d :: r)[j.length + 3]? = some d := by simp
@[simp] theorem sx0 : (j ++ a :: r).set j.length z = j ++ z :: r := by simp
@[simp] theorem sx1 : (j ++ a :: b :: r).set (j.length + 1) z = j ++ a :: z :: r := by simp
@[simp] theorem sx2 : (j ++ a :: b :: c :: r).set (j.length + 2) z = j ++ a :: b :: z :: r := by simp
@[simp] theorem sx3 : (j ++ a :: b :: c :: d :: r).set (j.length + 3) z = j ++ a :: b :: c :: z :: r := by simp
end
section
variable {a b c z : Option D} {l : List (Option D)} {n : Nat}
@[simp] theorem go_0 : (a :: l)[0]? = some a := rfl
@[simp] theorem go_1 : (a :: b :: l)[1]? = some b := rfl
@[simp] theorem go_2 : (a :: b :: c :: l)[2]? = some c := rfl
@[simp] theorem go_n : (a :: b :: c :: l)[n + 3]? = l[n]? := rfl
@[simp] theorem go_n4 : (a :: b :: c :: l)[n + 4]? = l[n + 1]? := rfl
@[simp] theorem go_n5 : (a :: b :: c :: l)[n + 5]? = l[n + 2]? := rfl
@[simp] theorem go_n6 : (a :: b :: c :: l)[n + 6]? = l[n + 3]? := rfl
@[simp] theorem so_n : (a :: b :: c :: l).set (n + 3) z = a :: b :: c :: l.set n z := rfl
@[simp] theorem so_n4 : (a :: b :: c :: l).set (n + 4) z = a :: b :: c :: l.set (n + 1) z := rfl
@[simp] theorem so_n5 : (a :: b :: c :: l).set (n + 5) z = a :: b :: c :: l.set (n + 2) z := rfl
@[simp] theorem so_n6 : (a :: b :: c :: l).set (n + 6) z = a :: b :: c :: l.set (n + 3) z := rfl
end
/-- a store whose cell k counts the draws -/
def ctr (k : Nat) (st : List (Option D)) (n : Int) : List (Option D) := st.set k (some (.lst [.int n]))
@[simp] theorem ctr_ctr {k : Nat} {st : List (Option D)} {n m : Int} : ctr k (ctr k st n) m = ctr k st m := by simp [ctr]
@[simp] theorem ctr_set {k : Nat} {st : List (Option D)} {n m : Int} : (ctr k st n).set k (some (.lst [.int m])) = ctr k st m := by simp [ctr]
@[simp] theorem ctr_len {k : Nat} {st : List (Option D)} {n : Int} : (ctr k st n).length = st.length := by simp [ctr]
theorem ctr_get {k : Nat} {st : List (Option D)} {n : Int} (h : k < st.length) : (ctr k st n)[k]? = some (some (.lst [.int n])) := by simp [ctr, h]
@[simp] theorem oB_mulL {ds : List D} {k : Int} (h1 : -9000000000000000000 ≤ k) (h2 : k < 9000000000000000000) (h3 : ds.length * k.toNat ≤ 16777216) : opB .mul (.lst ds) (.int k) = some (.own (.lst (List.replicate k.toNat ds).flatten)) := by
  show ifB (decide (-(2 ^ 63) ≤ k ∧ k < 2 ^ 63 ∧ ds.length * k.toNat ≤ sizeLine)) (some (.own (.lst (List.replicate k.toNat ds).flatten))) = _
  rw [decide_eq_true ⟨by omega, by omega, by rw [PySem.sizeLine_eq]; exact h3⟩]
  rfl
theorem ix_ok {n : Nat} {i : Int} (h0 : 0 ≤ i) (h1 : i < n) : ixN n i = some i.toNat := by
  obtain ⟨j, rfl⟩ := Int.eq_ofNat_of_zero_le h0
  simp [ixN, L2.ixN]
  omega
theorem rng_map {lo : Int} {n : Nat} : rngD lo n = (List.range n).map fun i => .int (lo + (i : Nat)) := rfl
/-- a for over a range -/
theorem for_rng {lo : Int} {n : Nat} {step : D → S → R Fl} {s : S} (I : Nat → S → Prop) (h : I 0 s) (k : ∀ (j : Nat) s, j < n → I j s → ∃ s', (step (.int (lo + (j : Nat))) s = .ok .nx s' ∨ step (.int (lo + (j : Nat))) s = .ok .ct s') ∧ I (j + 1) s') : ∃ s', loop step (rngD lo n) s = .ok .nx s' ∧ I n s' := by
  have := for_map (f := fun i : Nat => D.int (lo + (i : Nat))) (xs := List.range n) (step := step) I h (fun j a s e hI => by
    have hj := (List.getElem?_eq_some_iff.mp e)
    obtain ⟨h1, h2⟩ := hj
    rw [List.length_range] at h1
    rw [List.getElem_range] at h2
    subst h2
    exact k j s h1 hI)
  rw [List.length_range] at this
  exact this
/-- a for that an error leaves -/
theorem loop_er {step : D → S → R Fl} {c : Nat} {fs : List (Str × D)} {e : D} {ys : List D} (I J : S → Prop) : ∀ {xs : List D} {s : S}, I s → (∀ d s, d ∈ xs → I s → ∃ s', step d s = .ok .nx s' ∧ I s') → (∀ s, I s → ∃ s', step e s = .er c fs s' ∧ J s') → ∃ s', loop step (xs ++ e :: ys) s = .er c fs s' ∧ J s'
  | [], s, h, _, k => by
    obtain ⟨s', e1, h1⟩ := k s h
    refine ⟨s', ?_, h1⟩
    show (step e s).bind _ = _
    rw [e1]
    rfl
  | d :: r, s, h, q, k => by
    obtain ⟨s1, e1, h1⟩ := q d s List.mem_cons_self h
    obtain ⟨s2, e2, h2⟩ := loop_er I J (xs := r) h1 (fun d s m => q d s (List.mem_cons_of_mem _ m)) k
    refine ⟨s2, ?_, h2⟩
    show (step d s).bind _ = _
    rw [e1]
    exact e2
theorem enum_get {α : Type} {f : α → D} : ∀ {xs : List α} {i j : Nat} {d : D}, (enumD i (xs.map f))[j]? = some d → ∃ a, xs[j]? = some a ∧ d = .tup [.int ((i + j : Nat) : Int), f a]
  | [], i, j, d, h => by cases h
  | x :: xs, i, 0, d, h => ⟨x, rfl, (Option.some.inj h).symm⟩
  | x :: xs, i, j + 1, d, h => by
    obtain ⟨a, h1, h2⟩ := enum_get (xs := xs) (i := i + 1) (j := j) (d := d) h
    exact ⟨a, h1, by rw [h2, show i + 1 + j = i + (j + 1) from by omega]⟩
theorem enum_len : ∀ {ds : List D} {i : Nat}, (enumD i ds).length = ds.length
  | [], _ => rfl
  | d :: ds, i => congrArg (· + 1) enum_len
/-- a for over enumerate -/
theorem for_enum {α : Type} {f : α → D} {step : D → S → R Fl} {xs : List α} {s : S} (I : Nat → S → Prop) (h : I 0 s) (k : ∀ (j : Nat) (a : α) s, xs[j]? = some a → I j s → ∃ s', (step (.tup [.int (j : Nat), f a]) s = .ok .nx s' ∨ step (.tup [.int (j : Nat), f a]) s = .ok .ct s') ∧ I (j + 1) s') : ∃ s', loop step (enumD 0 (xs.map f)) s = .ok .nx s' ∧ I xs.length s' := by
  have := for_at (xs := enumD 0 (xs.map f)) I h (fun j d s e hI => by
    obtain ⟨a, h1, rfl⟩ := enum_get e
    rw [Nat.zero_add]
    exact k j a s h1 hI)
  rw [enum_len, List.length_map] at this
  exact this
/-- a comprehension whose turns draw: I at the place, with what is gathered -/
theorem lc_at {α β : Type} {f : α → D} {g : β → D} {step : D → S → R (Option D)} (I : List β → S → Prop) : ∀ {xs : List α} {bs : List β} {s : S}, I bs s → (∀ a bs s, a ∈ xs → I bs s → ∃ b s', step (f a) s = .ok (some (g b)) s' ∧ I (bs ++ [b]) s') → bs.length + xs.length ≤ 1000000 → ∃ bs' s', lcLoop step (xs.map f) (bs.map g) s = .ok (bs'.map g) s' ∧ I bs' s' ∧ bs'.length = bs.length + xs.length
  | [], bs, s, h, _, _ => ⟨bs, s, rfl, h, by simp⟩
  | x :: r, bs, s, h, k, hl => by
    rw [List.length_cons] at hl
    obtain ⟨b, s1, e1, h1⟩ := k x bs s List.mem_cons_self h
    obtain ⟨bs', s2, e2, h2, h3⟩ := lc_at I (xs := r) (bs := bs ++ [b]) h1 (fun a bs s m => k a bs s (List.mem_cons_of_mem _ m)) (by simp; omega)
    refine ⟨bs', s2, ?_, h2, by rw [h3]; simp; omega⟩
    have hz : (bs.map g).length < sizeLine := by
      rw [PySem.sizeLine_eq, List.length_map]
      omega
    rw [List.map_cons]
    unfold lcLoop
    rw [e1]
    show (if (bs.map g).length < sizeLine then lcLoop step (r.map f) (bs.map g ++ [g b]) s1 else .no) = _
    rw [if_pos hz, ← e2]
    simp
/-! ### bits and numbers -/
/-- the bits of a number, the least first -/
def rowOf : Nat → Int → List Int
  | 0, _ => []
  | n + 1, c => c % 2 :: rowOf n (c / 2)
theorem rowOf_len : ∀ (n : Nat) (c : Int), (rowOf n c).length = n
  | 0, _ => rfl
  | n + 1, c => congrArg (· + 1) (rowOf_len n (c / 2))
theorem rowOf_bits : ∀ (n : Nat) (c : Int), ∀ b ∈ rowOf n c, 0 ≤ b ∧ b < 2
  | 0, _, _, h => by cases h
  | n + 1, c, b, h => by
    rcases List.mem_cons.mp h with rfl | h
    · omega
    · exact rowOf_bits n (c / 2) b h
/-- bit j of a number -/
def bitN : Int → Nat → Int
  | v, 0 => v % 2
  | v, j + 1 => bitN (v / 2) j
theorem rowOf_get : ∀ (n : Nat) (c : Int) (j : Nat), j < n → (rowOf n c)[j]? = some (bitN c j)
  | n + 1, c, 0, _ => rfl
  | n + 1, c, j + 1, h => rowOf_get n (c / 2) j (by omega)
theorem bitN_bit : ∀ (j : Nat) (c : Int), 0 ≤ bitN c j ∧ bitN c j < 2
  | 0, c => by unfold bitN; omega
  | j + 1, c => bitN_bit j (c / 2)
/-- a number halved some times -/
def halved : Int → Nat → Int
  | v, 0 => v
  | v, j + 1 => halved v j / 2
theorem halved_succ : ∀ (j : Nat) (v : Int), halved (v / 2) j = halved v j / 2
  | 0, _ => rfl
  | j + 1, v => by
    show halved (v / 2) j / 2 = halved v j / 2 / 2
    rw [halved_succ j v]
theorem halved_bit : ∀ (j : Nat) (v : Int), halved v j % 2 = bitN v j
  | 0, _ => rfl
  | j + 1, v => by
    show halved v j / 2 % 2 = bitN (v / 2) j
    rw [← halved_succ, halved_bit j (v / 2)]
/-- the value of bits, the least first -/
def valL : List Int → Int
  | [] => 0
  | b :: bs => valL bs * 2 + b
def pow2 : Nat → Int
  | 0 => 1
  | n + 1 => pow2 n * 2
theorem pow2_pos : ∀ n, 0 < pow2 n
  | 0 => by decide
  | n + 1 => by
    have := pow2_pos n
    unfold pow2
    omega
theorem pow2_mono {n m : Nat} (h : n ≤ m) : pow2 n ≤ pow2 m := by
  induction h with
  | refl => exact Int.le_refl _
  | @step m h ih =>
    have := pow2_pos n
    have e : pow2 (m + 1) = pow2 m * 2 := rfl
    rw [e]
    omega
theorem valL_lt : ∀ (bs : List Int), (∀ b ∈ bs, 0 ≤ b ∧ b < 2) → 0 ≤ valL bs ∧ valL bs < pow2 bs.length
  | [], _ => by decide
  | b :: bs, h => by
    have h0 := h b List.mem_cons_self
    have ih := valL_lt bs fun x m => h x (List.mem_cons_of_mem _ m)
    show 0 ≤ valL bs * 2 + b ∧ valL bs * 2 + b < pow2 bs.length * 2
    omega
/-- a bit by its number -/
def bitAt (bs : List Int) (i : Int) : Int := bs.getD i.toNat 0
theorem at_bits {bs : List Int} {a : Int} (h0 : 0 ≤ a) (h1 : a < bs.length) : atD (bs.map .int) a = some (.int (bitAt bs a)) := by
  obtain ⟨j, rfl⟩ := Int.eq_ofNat_of_zero_le h0
  have hj : j < bs.length := by omega
  rw [at_nat, List.getElem?_map, List.getElem?_eq_getElem hj]
  simp [bitAt, List.getD, hj]
theorem bitAt_mem {bs : List Int} {a : Int} (h0 : 0 ≤ a) (h1 : a < bs.length) : bitAt bs a ∈ bs := by
  obtain ⟨j, rfl⟩ := Int.eq_ofNat_of_zero_le h0
  have hj : j < bs.length := by omega
  have : bitAt bs (j : Int) = bs[j] := by simp [bitAt, List.getD, hj]
  rw [this]
  exact List.getElem_mem hj
theorem bools_true : ∀ n : Nat, boolsD (List.replicate n (.bl true)) = some (List.replicate n true)
  | 0 => rfl
  | n + 1 => by
    rw [List.replicate_succ, b_cons, bools_true n]
    rfl
@[simp] theorem bools_map {α : Type} {f : α → Bool} : ∀ (xs : List α), boolsD (xs.map fun a => .bl (f a)) = some (xs.map f)
  | [] => rfl
  | x :: xs => by
    rw [List.map_cons, b_cons, bools_map xs]
    rfl
@[simp] theorem all_tt {α : Type} (xs : List α) : (xs.all fun _ => true) = true := by simp [List.all_eq_true]
theorem get_snoc {α : Type} {xs : List α} {x y : α} {j : Nat} (h : (xs ++ [x])[j]? = some y) : xs[j]? = some y ∨ (j = xs.length ∧ y = x) := by
  by_cases hj : j < xs.length
  · rw [List.getElem?_append_left hj] at h
    exact .inl h
  · rw [List.getElem?_append_right (by omega)] at h
    have := (List.getElem?_eq_some_iff.mp h).1
    simp at this
    have hj2 : j = xs.length := by omega
    subst hj2
    simp at h
    exact .inr ⟨rfl, h.symm⟩
end PB

set_option Elab.async false
set_option linter.all false
set_option autoImplicit false
set_option maxRecDepth 1000000
set_option maxHeartbeats 4000000
/-! what many laws share, 2 -/
namespace PB
open PySem (Str sizeLine)
@[simp] theorem ints_map : ∀ is : List Int, intsD (is.map .int) = some is
  | [] => rfl
  | i :: is => by
    show (match intsD (is.map .int) with
      | some is => some (i :: is)
      | none => none) = _
    rw [ints_map is]
@[simp] theorem mx_map {i : Int} {is : List Int} : opF .max1 [.lst (.int i :: is.map .int)] = some (.im (.int (maxI (i :: is)))) := by
  show (intsD (.int i :: is.map .int)).bind _ = _
  rw [show intsD (.int i :: is.map .int) = some (i :: is) from ints_map (i :: is)]
  rfl
@[simp] theorem sum_map {is : List Int} : opF .sum [.lst (is.map .int)] = some (.im (.int is.sum)) := by
  show (intsD (is.map .int)).bind _ = _
  rw [ints_map is]
  rfl
section
variable {X : Env} {s : S}
/-- the list of a cell -/
def getC (k : Nat) (s : S) : Option D := deref s.st (.cell k)
def fFL (X : Env) (tg : Tg) (body : C) (r : R Vl) : R Fl := r.bind fun v s => match v with
  | .im (.cell k) => loopL (getC k) (forStep X tg body) X.wf 0 s
  | _ => .no
@[simp high] theorem fr_forL (tg : Tg) (src : E) (body : C) : run X (.forL tg src body) s = fFL X tg body (ev X src s) := rfl
@[simp] theorem fFL_ok {tg : Tg} {body : C} {k : Nat} : fFL X tg body (.ok (.im (.cell k)) s) = loopL (getC k) (forStep X tg body) X.wf 0 s := id rfl
end
theorem loopL_at {get : S → Option D} {step : D → S → R Fl} {xs : List D} (I : Nat → S → Prop) (hg : ∀ j s, I j s → get s = some (.lst xs)) (k : ∀ j d s, xs[j]? = some d → I j s → ∃ s', (step d s = .ok .nx s' ∨ step d s = .ok .ct s') ∧ I (j + 1) s') : ∀ (r j n : Nat) (s : S), j + r = xs.length → r < n → I j s → ∃ s', loopL get step n j s = .ok .nx s' ∧ I xs.length s'
  | 0, j, n + 1, s, h1, h2, h => by
    refine ⟨s, ?_, by rw [← h1]; exact h⟩
    unfold loopL
    rw [hg j s h]
    dsimp only
    rw [List.getElem?_eq_none (by omega)]
  | r + 1, j, n + 1, s, h1, h2, h => by
    have e := List.getElem?_eq_getElem (l := xs) (i := j) (by omega)
    obtain ⟨s1, e1, h3⟩ := k j _ s e h
    obtain ⟨s2, e2, h4⟩ := loopL_at I hg k r (j + 1) n s1 (by omega) (by omega) h3
    refine ⟨s2, ?_, h4⟩
    unfold loopL
    rw [hg j s h]
    dsimp only
    rw [e]
    dsimp only
    rcases e1 with e1 | e1 <;> rw [e1] <;> exact e2
/-- a walk over a cell's list that stays -/
theorem for_live {step : D → S → R Fl} {get : S → Option D} {xs : List D} {n : Nat} {s : S} (I : Nat → S → Prop) (h : I 0 s) (hn : xs.length < n) (hg : ∀ j s, I j s → get s = some (.lst xs)) (k : ∀ j d s, xs[j]? = some d → I j s → ∃ s', (step d s = .ok .nx s' ∨ step d s = .ok .ct s') ∧ I (j + 1) s') : ∃ s', loopL get step n 0 s = .ok .nx s' ∧ I xs.length s' :=
  loopL_at I hg k xs.length 0 n s (by omega) hn h
theorem lc_eqd {g : D → D} {X : Env} {elt : E} {tg : Tg} {ifs : A} {own : List Nat} {xs : List D} {s : S} (hl : xs.length ≤ 1000000) (hw : ∀ a ∈ xs, wipeS (tgS tg a (wipeS s own)) own = wipeS s own) (h : ∀ a ∈ xs, fLcs X elt ifs (asgT tg a (wipeS s own)) = .ok (some (g a)) (tgS tg a (wipeS s own))) :
    fLc3 own (lcLoop (lcStep X elt tg ifs own) xs [] s) = .ok (.own (.lst (xs.map g))) (wipeS s own) := by
  have := lc_eqm (f := fun d : D => d) (g := g) (X := X) (elt := elt) (tg := tg) (ifs := ifs) (own := own) (xs := xs) (s := s) hl hw h
  rwa [List.map_id'] at this
theorem enum_app : ∀ {xs ys : List D} {n : Nat}, enumD n (xs ++ ys) = enumD n xs ++ enumD (n + xs.length) ys
  | [], ys, n => rfl
  | x :: xs, ys, n => by
    show _ :: enumD (n + 1) (xs ++ ys) = _
    rw [enum_app, List.length_cons, show n + 1 + xs.length = n + (xs.length + 1) from by omega]
    rfl
theorem enum_mem {α : Type} {f : α → D} {xs : List α} {d : D} (h : d ∈ enumD 0 (xs.map f)) : ∃ (j : Nat) (a : α), xs[j]? = some a ∧ d = .tup [.int (j : Nat), f a] := by
  obtain ⟨j, hj⟩ := List.getElem?_of_mem h
  obtain ⟨a, h1, h2⟩ := enum_get hj
  rw [Nat.zero_add] at h2
  exact ⟨j, a, h1, h2⟩
theorem take_snoc {α : Type} {xs : List α} {j : Nat} {a : α} (h : xs[j]? = some a) : xs.take (j + 1) = xs.take j ++ [a] := by
  rw [List.take_succ, h]
  rfl
@[simp] theorem at_4 {a0 a1 a2 a3 a4 : D} {ds : List D} : atD (a0 :: a1 :: a2 :: a3 :: a4 :: ds) 4 = some a4 := at_nat (ds := a0 :: a1 :: a2 :: a3 :: a4 :: ds) (i := 4)
@[simp] theorem at_5 {a0 a1 a2 a3 a4 a5 : D} {ds : List D} : atD (a0 :: a1 :: a2 :: a3 :: a4 :: a5 :: ds) 5 = some a5 := at_nat (ds := a0 :: a1 :: a2 :: a3 :: a4 :: a5 :: ds) (i := 5)
@[simp] theorem at_6 {a0 a1 a2 a3 a4 a5 a6 : D} {ds : List D} : atD (a0 :: a1 :: a2 :: a3 :: a4 :: a5 :: a6 :: ds) 6 = some a6 := at_nat (ds := a0 :: a1 :: a2 :: a3 :: a4 :: a5 :: a6 :: ds) (i := 6)
@[simp] theorem at_7 {a0 a1 a2 a3 a4 a5 a6 a7 : D} {ds : List D} : atD (a0 :: a1 :: a2 :: a3 :: a4 :: a5 :: a6 :: a7 :: ds) 7 = some a7 := at_nat (ds := a0 :: a1 :: a2 :: a3 :: a4 :: a5 :: a6 :: a7 :: ds) (i := 7)
@[simp] theorem at_8 {a0 a1 a2 a3 a4 a5 a6 a7 a8 : D} {ds : List D} : atD (a0 :: a1 :: a2 :: a3 :: a4 :: a5 :: a6 :: a7 :: a8 :: ds) 8 = some a8 := at_nat (ds := a0 :: a1 :: a2 :: a3 :: a4 :: a5 :: a6 :: a7 :: a8 :: ds) (i := 8)
@[simp] theorem at_9 {a0 a1 a2 a3 a4 a5 a6 a7 a8 a9 : D} {ds : List D} : atD (a0 :: a1 :: a2 :: a3 :: a4 :: a5 :: a6 :: a7 :: a8 :: a9 :: ds) 9 = some a9 := at_nat (ds := a0 :: a1 :: a2 :: a3 :: a4 :: a5 :: a6 :: a7 :: a8 :: a9 :: ds) (i := 9)
@[simp] theorem at_10 {a0 a1 a2 a3 a4 a5 a6 a7 a8 a9 a10 : D} {ds : List D} : atD (a0 :: a1 :: a2 :: a3 :: a4 :: a5 :: a6 :: a7 :: a8 :: a9 :: a10 :: ds) 10 = some a10 := at_nat (ds := a0 :: a1 :: a2 :: a3 :: a4 :: a5 :: a6 :: a7 :: a8 :: a9 :: a10 :: ds) (i := 10)
@[simp] theorem at_11 {a0 a1 a2 a3 a4 a5 a6 a7 a8 a9 a10 a11 : D} {ds : List D} : atD (a0 :: a1 :: a2 :: a3 :: a4 :: a5 :: a6 :: a7 :: a8 :: a9 :: a10 :: a11 :: ds) 11 = some a11 := at_nat (ds := a0 :: a1 :: a2 :: a3 :: a4 :: a5 :: a6 :: a7 :: a8 :: a9 :: a10 :: a11 :: ds) (i := 11)
@[simp] theorem at_12 {a0 a1 a2 a3 a4 a5 a6 a7 a8 a9 a10 a11 a12 : D} {ds : List D} : atD (a0 :: a1 :: a2 :: a3 :: a4 :: a5 :: a6 :: a7 :: a8 :: a9 :: a10 :: a11 :: a12 :: ds) 12 = some a12 := at_nat (ds := a0 :: a1 :: a2 :: a3 :: a4 :: a5 :: a6 :: a7 :: a8 :: a9 :: a10 :: a11 :: a12 :: ds) (i := 12)
@[simp] theorem at_13 {a0 a1 a2 a3 a4 a5 a6 a7 a8 a9 a10 a11 a12 a13 : D} {ds : List D} : atD (a0 :: a1 :: a2 :: a3 :: a4 :: a5 :: a6 :: a7 :: a8 :: a9 :: a10 :: a11 :: a12 :: a13 :: ds) 13 = some a13 := at_nat (ds := a0 :: a1 :: a2 :: a3 :: a4 :: a5 :: a6 :: a7 :: a8 :: a9 :: a10 :: a11 :: a12 :: a13 :: ds) (i := 13)
@[simp] theorem at_14 {a0 a1 a2 a3 a4 a5 a6 a7 a8 a9 a10 a11 a12 a13 a14 : D} {ds : List D} : atD (a0 :: a1 :: a2 :: a3 :: a4 :: a5 :: a6 :: a7 :: a8 :: a9 :: a10 :: a11 :: a12 :: a13 :: a14 :: ds) 14 = some a14 := at_nat (ds := a0 :: a1 :: a2 :: a3 :: a4 :: a5 :: a6 :: a7 :: a8 :: a9 :: a10 :: a11 :: a12 :: a13 :: a14 :: ds) (i := 14)
@[simp] theorem at_15 {a0 a1 a2 a3 a4 a5 a6 a7 a8 a9 a10 a11 a12 a13 a14 a15 : D} {ds : List D} : atD (a0 :: a1 :: a2 :: a3 :: a4 :: a5 :: a6 :: a7 :: a8 :: a9 :: a10 :: a11 :: a12 :: a13 :: a14 :: a15 :: ds) 15 = some a15 := at_nat (ds := a0 :: a1 :: a2 :: a3 :: a4 :: a5 :: a6 :: a7 :: a8 :: a9 :: a10 :: a11 :: a12 :: a13 :: a14 :: a15 :: ds) (i := 15)
@[simp] theorem at_16 {a0 a1 a2 a3 a4 a5 a6 a7 a8 a9 a10 a11 a12 a13 a14 a15 a16 : D} {ds : List D} : atD (a0 :: a1 :: a2 :: a3 :: a4 :: a5 :: a6 :: a7 :: a8 :: a9 :: a10 :: a11 :: a12 :: a13 :: a14 :: a15 :: a16 :: ds) 16 = some a16 := at_nat (ds := a0 :: a1 :: a2 :: a3 :: a4 :: a5 :: a6 :: a7 :: a8 :: a9 :: a10 :: a11 :: a12 :: a13 :: a14 :: a15 :: a16 :: ds) (i := 16)
@[simp] theorem at_17 {a0 a1 a2 a3 a4 a5 a6 a7 a8 a9 a10 a11 a12 a13 a14 a15 a16 a17 : D} {ds : List D} : atD (a0 :: a1 :: a2 :: a3 :: a4 :: a5 :: a6 :: a7 :: a8 :: a9 :: a10 :: a11 :: a12 :: a13 :: a14 :: a15 :: a16 :: a17 :: ds) 17 = some a17 := at_nat (ds := a0 :: a1 :: a2 :: a3 :: a4 :: a5 :: a6 :: a7 :: a8 :: a9 :: a10 :: a11 :: a12 :: a13 :: a14 :: a15 :: a16 :: a17 :: ds) (i := 17)
@[simp] theorem at_18 {a0 a1 a2 a3 a4 a5 a6 a7 a8 a9 a10 a11 a12 a13 a14 a15 a16 a17 a18 : D} {ds : List D} : atD (a0 :: a1 :: a2 :: a3 :: a4 :: a5 :: a6 :: a7 :: a8 :: a9 :: a10 :: a11 :: a12 :: a13 :: a14 :: a15 :: a16 :: a17 :: a18 :: ds) 18 = some a18 := at_nat (ds := a0 :: a1 :: a2 :: a3 :: a4 :: a5 :: a6 :: a7 :: a8 :: a9 :: a10 :: a11 :: a12 :: a13 :: a14 :: a15 :: a16 :: a17 :: a18 :: ds) (i := 18)
@[simp] theorem at_19 {a0 a1 a2 a3 a4 a5 a6 a7 a8 a9 a10 a11 a12 a13 a14 a15 a16 a17 a18 a19 : D} {ds : List D} : atD (a0 :: a1 :: a2 :: a3 :: a4 :: a5 :: a6 :: a7 :: a8 :: a9 :: a10 :: a11 :: a12 :: a13 :: a14 :: a15 :: a16 :: a17 :: a18 :: a19 :: ds) 19 = some a19 := at_nat (ds := a0 :: a1 :: a2 :: a3 :: a4 :: a5 :: a6 :: a7 :: a8 :: a9 :: a10 :: a11 :: a12 :: a13 :: a14 :: a15 :: a16 :: a17 :: a18 :: a19 :: ds) (i := 19)
@[simp] theorem lcl_cons {step : D → S → R (Option D)} {d : D} {ds acc : List D} {s : S} : lcLoop step (d :: ds) acc s = (step d s).bind fun o s => match o with
    | some e => if acc.length < sizeLine then lcLoop step ds (acc ++ [e]) s else .no
    | none => lcLoop step ds acc s := id rfl
@[simp] theorem sl_tup1 {d : D} {ds : List D} : sliD (.tup (d :: ds)) (some 1) none = some (.im (.tup ds)) := by
  show some (Vl.im (.tup (cutD (d :: ds) (some 1) none))) = _
  rw [cut_1]
@[simp] theorem cut_one {d : D} {ds : List D} : cutD (d :: ds) (some 1) none = ds := cut_1
@[simp] theorem ag_tnL {s : S} : asgT .tn (.lst []) s = .ok () s := id rfl
def fTcL (t : Tg) (ds : List D) (r : R Unit) : R Unit := r.bind fun _ s => asgT t (.lst ds) s
@[simp high] theorem fr_tcL {s : S} {h t : Tg} {d : D} {ds : List D} : asgT (.tc h t) (.lst (d :: ds)) s = fTcL t ds (asgT h d s) := id rfl
@[simp] theorem fTcL_ok {s : S} {t : Tg} {ds : List D} : fTcL t ds (.ok () s) = asgT t (.lst ds) s := id rfl
@[simp] theorem z_it_zTL {ds es : List D} : itemsD .zip [.tup ds, .lst es] = some (zipD ds es) := id rfl
@[simp] theorem z_it_zLT {ds es : List D} : itemsD .zip [.lst ds, .tup es] = some (zipD ds es) := id rfl
@[simp] theorem oF_listK {m : List (Key × D)} : opF .list [.dk m] = some (.own (.lst (m.map fun kv => keyD kv.1))) := id rfl
@[simp] theorem srt_map {is : List Int} : opF .sorted [.lst (is.map .int)] = some (.own (.lst ((srtI is).map .int))) := by
  show (intsD (is.map .int)).bind _ = _
  rw [ints_map is]
  rfl
@[simp] theorem k_ins : MT.insert.kd = .list := id rfl
@[simp] theorem k_idx : MT.index.kd = .list := id rfl
@[simp] theorem z_oM_ins {ds : List D} {i : Int} {d : D} (h0 : 0 ≤ i) (h1 : i < 9000000000000000000) (h2 : ds.length < 16777216) : opM .insert (.lst ds) [.int i, d] = some (.im .non, some (.lst (ds.take i.toNat ++ [d] ++ ds.drop i.toNat))) := by
  show (if 0 ≤ i ∧ i < 2 ^ 63 ∧ ds.length < sizeLine then _ else _) = _
  rw [if_pos ⟨h0, by omega, by rw [PySem.sizeLine_eq]; exact h2⟩]
/-! ### bools that are not known -/
section
variable {X : Env} {s : S}
theorem fAnV_if {a : A} {b : Bool} : fAnV X a (.ok (.im (.bl b)) s) = if b = true then evAndV X a s else .ok (.im (.bl false)) s := by cases b <;> rfl
theorem fOrV_if {a : A} {b : Bool} : fOrV X a (.ok (.im (.bl b)) s) = if b = true then .ok (.im (.bl true)) s else evOrV X a s := by cases b <;> rfl
theorem fAnT_if {a : A} {b : Bool} : fAnT X a (.ok b s) = if b = true then evAndT X a s else .ok false s := by cases b <;> rfl
theorem fOrT_if {a : A} {b : Bool} : fOrT X a (.ok b s) = if b = true then .ok true s else evOrT X a s := by cases b <;> rfl
theorem ite_bl {P : Prop} [Decidable P] {b c : Bool} : (if P then R.ok (Vl.im (.bl b)) s else R.ok (Vl.im (.bl c)) s) = R.ok (Vl.im (.bl (if P then b else c))) s := by split <;> rfl
theorem ite_b {P : Prop} [Decidable P] {b c : Bool} : (if P then R.ok b s else R.ok c s) = R.ok (if P then b else c) s := by split <;> rfl
end
@[simp] theorem oB_addT {ds es : List D} : opB .add (.tup ds) (.tup es) = ifB (decide (ds.length + es.length ≤ sizeLine)) (some (.im (.tup (ds ++ es)))) := id rfl
/-! ### loops over a few -/
def fLp (step : D → S → R Fl) (ds : List D) (r : R Fl) : R Fl := r.bind fun f s => match f with
  | .nx => loop step ds s
  | .ct => loop step ds s
  | .bk => .ok .nx s
  | .rt v => .ok (.rt v) s
section
variable {step : D → S → R Fl} {ds : List D} {s : S}
theorem lp_cons {d : D} : loop step (d :: ds) s = fLp step ds (step d s) := rfl
theorem lp_nil : loop step [] s = .ok .nx s := rfl
@[simp] theorem fLp_nx : fLp step ds (.ok .nx s) = loop step ds s := id rfl
@[simp] theorem fLp_ct : fLp step ds (.ok .ct s) = loop step ds s := id rfl
@[simp] theorem fLp_bk : fLp step ds (.ok .bk s) = .ok .nx s := id rfl
@[simp] theorem fLp_rt {v : Vl} : fLp step ds (.ok (.rt v) s) = .ok (.rt v) s := id rfl
@[simp] theorem fLp_er {c : Nat} {fs : List (Str × D)} : fLp step ds (.er c fs s) = .er c fs s := id rfl
end
/-- a for over a list told by its places: a relation -/
theorem for_rel {α : Type} {P : α → D → Prop} {step : D → S → R Fl} {xs : List α} {ds : List D} {s : S} (I : Nat → S → Prop) (hl : ds.length = xs.length) (hp : ∀ (j : Nat) (a : α) (d : D), xs[j]? = some a → ds[j]? = some d → P a d) (h : I 0 s) (k : ∀ (j : Nat) (a : α) (d : D) s, xs[j]? = some a → P a d → I j s → ∃ s', (step d s = .ok .nx s' ∨ step d s = .ok .ct s') ∧ I (j + 1) s') : ∃ s', loop step ds s = .ok .nx s' ∧ I xs.length s' := by
  have := for_at (xs := ds) I h (fun j d s e hI => by
    have hj := (List.getElem?_eq_some_iff.mp e).1
    have e2 := List.getElem?_eq_getElem (l := xs) (i := j) (by omega)
    exact k j _ d s e2 (hp j _ d e2 e) hI)
  rw [hl] at this
  exact this
/-- a list or a tuple of these -/
inductive As (ds : List D) : D → Prop
  | l : As ds (.lst ds)
  | t : As ds (.tup ds)
theorem As.dr {ds : List D} {d : D} (h : As ds d) (st : List (Option D)) : deref st d = some d := by cases h <;> rfl
/-- a for that a false one leaves -/
theorem loop_all {α : Type} {f : α → D} {step : D → S → R Fl} {P : α → Bool} (I : S → Prop) : ∀ {xs : List α} {s : S}, I s → (∀ a s, a ∈ xs → I s → (P a = true ∧ ∃ s', step (f a) s = .ok .nx s' ∧ I s') ∨ (P a = false ∧ ∃ s', step (f a) s = .ok (.rt (.im (.bl false))) s' ∧ I s')) →
    (xs.all P = true ∧ ∃ s', loop step (xs.map f) s = .ok .nx s' ∧ I s') ∨ (xs.all P = false ∧ ∃ s', loop step (xs.map f) s = .ok (.rt (.im (.bl false))) s' ∧ I s')
  | [], s, h, _ => .inl ⟨rfl, s, rfl, h⟩
  | x :: xs, s, h, k => by
    rw [List.map_cons, lp_cons, List.all_cons]
    rcases k x s List.mem_cons_self h with ⟨p, s1, e, h1⟩ | ⟨p, s1, e, h1⟩
    · rw [e, fLp_nx, p, Bool.true_and]
      exact loop_all I h1 fun a s m => k a s (List.mem_cons_of_mem _ m)
    · rw [e, fLp_rt, p, Bool.false_and]
      exact .inr ⟨rfl, s1, rfl, h1⟩
theorem zip_map {α β : Type} {f : α → D} {g : β → D} : ∀ {xs : List α} {ys : List β}, zipD (xs.map f) (ys.map g) = (xs.zip ys).map fun p => .tup [f p.1, g p.2]
  | [], _ => rfl
  | _ :: _, [] => rfl
  | x :: xs, y :: ys => congrArg (_ :: ·) zip_map
@[simp] theorem sd_dks {m : List (Key × D)} {z : Str} {d : D} : setD (.dk m) (.str z) d = if m.length < 16777216 then some (.dk (put (.inr z) d m)) else none := by
  show (if m.length < sizeLine then _ else _) = _
  rw [PySem.sizeLine_eq]
@[simp] theorem sd_dki {m : List (Key × D)} {z : Int} {d : D} : setD (.dk m) (.int z) d = if m.length < 16777216 then some (.dk (put (.inl z) d m)) else none := by
  show (if m.length < sizeLine then _ else _) = _
  rw [PySem.sizeLine_eq]
@[simp] theorem dicD_nil : dicD [] = some [] := id rfl
def dicC (k : Option Key) (v : D) : Option (List (Key × D)) → Option (List (Key × D))
  | some kvs => (match k with
    | some k => some ((k, v) :: kvs)
    | none => none)
  | none => none
@[simp] theorem dicD_cons {k v : D} {r : List D} : dicD (k :: v :: r) = dicC (toKey k) v (dicD r) := by
  show (match toKey k with
    | some k => match dicD r with
      | some kvs => some ((k, v) :: kvs)
      | none => none
    | none => none) = _
  cases toKey k <;> cases dicD r <;> rfl
@[simp] theorem dicC_s {k : Key} {v : D} {kvs : List (Key × D)} : dicC (some k) v (some kvs) = some ((k, v) :: kvs) := id rfl
@[simp] theorem tk_str {z : Str} : toKey (.str z) = some (.inr z) := id rfl
@[simp] theorem tk_int {z : Int} : toKey (.int z) = some (.inl z) := id rfl
theorem mergeD_def {kvs : List (Key × D)} : mergeD kvs = kvs.foldl (fun m kv => put kv.1 kv.2 m) [] := rfl
theorem toPys_map {α : Type} {f : α → D} {g : α → PySem.PyData} : ∀ xs : List α, (∀ x ∈ xs, toPy (f x) = some (g x)) → toPys (xs.map f) = some (xs.map g)
  | [], _ => rfl
  | x :: xs, h => by
    show (match toPy (f x) with
      | some p => match toPys (xs.map f) with
        | some ps => some (p :: ps)
        | none => none
      | none => none) = _
    rw [h x List.mem_cons_self, toPys_map xs fun y m => h y (List.mem_cons_of_mem _ m)]
    rfl
theorem toPy_tup {ds : List D} {ps : List PySem.PyData} (h : toPys ds = some ps) : toPy (.tup ds) = some (.tuple ps) := by
  show (match toPys ds with
    | some ps => some (PySem.PyData.tuple ps)
    | none => none) = _
  rw [h]
theorem toPy_lst {ds : List D} {ps : List PySem.PyData} (h : toPys ds = some ps) : toPy (.lst ds) = some (.list ps) := by
  show (match toPys ds with
    | some ps => some (PySem.PyData.list ps)
    | none => none) = _
  rw [h]
@[simp] theorem z_oM_g2s {m : List (Key × D)} {z : Str} {e : D} : opM .get2 (.dk m) [.str z, e] = some (.im ((look (.inr z) m).getD e), none) := id rfl
@[simp] theorem z_oM_g1s {m : List (Key × D)} {z : Str} : opM .get1 (.dk m) [.str z] = some (.im ((look (.inr z) m).getD .non), none) := id rfl
@[simp] theorem z_oM_g2i {m : List (Key × D)} {z : Int} {e : D} : opM .get2 (.dk m) [.int z, e] = some (.im ((look (.inl z) m).getD e), none) := id rfl
/-- a comprehension that only looks, its elements told by a relation -/
theorem lc_ex {α : Type} {f : α → D} {P : α → D → Prop} {X : Env} {elt : E} {tg : Tg} {ifs : A} {own : List Nat} {xs : List α} {s : S} (hl : xs.length ≤ 1000000) (hw : ∀ a ∈ xs, wipeS (tgS tg (f a) (wipeS s own)) own = wipeS s own) (h : ∀ a ∈ xs, ∃ d, P a d ∧ fLcs X elt ifs (asgT tg (f a) (wipeS s own)) = .ok (some d) (tgS tg (f a) (wipeS s own))) :
    ∃ ds : List D, ds.length = xs.length ∧ (∀ (j : Nat) (a : α) (d : D), xs[j]? = some a → ds[j]? = some d → P a d) ∧ fLc3 own (lcLoop (lcStep X elt tg ifs own) (xs.map f) [] s) = .ok (.own (.lst ds)) (wipeS s own) := by
  classical
  have ⟨g, hg⟩ : ∃ g : α → D, ∀ a ∈ xs, P a (g a) ∧ fLcs X elt ifs (asgT tg (f a) (wipeS s own)) = .ok (some (g a)) (tgS tg (f a) (wipeS s own)) :=
    ⟨fun a => if q : a ∈ xs then (h a q).choose else .non, fun a m => by
      simp only [dif_pos m]
      exact (h a m).choose_spec⟩
  refine ⟨xs.map g, by simp, fun j a d e1 e2 => ?_, lc_eqm hl hw fun a m => (hg a m).2⟩
  rw [List.getElem?_map, e1] at e2
  cases e2
  exact (hg a (List.mem_of_getElem? e1)).1
theorem ne_nil {is : List Int} : opB .ne (.lst (is.map .int)) (.lst []) = some (.im (.bl (!decide (is = [])))) := by
  show (match eqD (.lst (is.map .int)) (.lst []) with | some b => bl (!b) | none => none) = _
  have e1 : toPy (.lst (is.map .int)) = some (.list (is.map .int)) := toPy_lst (toPys_map _ fun _ _ => rfl)
  rw [eqD_shape e1 (toPy_lst (ds := []) (ps := []) rfl) (PySem.W.shaped_ints is) rfl]
  cases is <;> rfl
end PB

set_option Elab.async false
set_option linter.all false
set_option autoImplicit false
set_option maxRecDepth 1000000
set_option maxHeartbeats 4000000
/-! plain data compared -/
namespace PB
open PySem (Str sizeLine)
mutual
def dq : D → D → Bool
  | .non, .non => true
  | .int i, .int j => decide (i = j)
  | .str a, .str b => decide (a = b)
  | .lst ds, .lst es => dqs ds es
  | .tup ds, .tup es => dqs ds es
  | _, _ => false
def dqs : List D → List D → Bool
  | [], [] => true
  | d :: ds, e :: es => dq d e && dqs ds es
  | _, _ => false
end
/-- plain data of some depth -/
def pl : Nat → D → Bool
  | 0, _ => false
  | _ + 1, .non => true
  | _ + 1, .int _ => true
  | _ + 1, .str z => PySem.PyData.strOk z
  | n + 1, .lst ds => ds.all (pl n)
  | n + 1, .tup ds => ds.all (pl n)
  | _ + 1, _ => false
@[simp] theorem pl_non {n : Nat} : pl (n + 1) .non = true := id rfl
@[simp] theorem pl_int {n : Nat} {i : Int} : pl (n + 1) (.int i) = true := id rfl
@[simp] theorem pl_str {n : Nat} {z : Str} : pl (n + 1) (.str z) = PySem.PyData.strOk z := id rfl
@[simp] theorem pl_lst {n : Nat} {ds : List D} : pl (n + 1) (.lst ds) = ds.all (pl n) := id rfl
@[simp] theorem pl_tup {n : Nat} {ds : List D} : pl (n + 1) (.tup ds) = ds.all (pl n) := id rfl
mutual
def pyd : D → PySem.PyData
  | .int i => .int i
  | .str z => .str z
  | .lst ds => .list (pyds ds)
  | .tup ds => .tuple (pyds ds)
  | _ => .none
def pyds : List D → List PySem.PyData
  | [] => []
  | d :: ds => pyd d :: pyds ds
end
theorem pl_all {n : Nat} (ih : ∀ d : D, pl n d = true → toPy d = some (pyd d) ∧ (pyd d).canLay0 = true ∧ (pyd d).depth ≤ n) : ∀ ds : List D, ds.all (pl n) = true → toPys ds = some (pyds ds) ∧ PySem.PyData.canLayAll0 (pyds ds) = true ∧ PySem.PyData.depthAll (pyds ds) ≤ n
  | [], _ => ⟨rfl, rfl, Nat.zero_le _⟩
  | d :: ds, h => by
    rw [List.all_cons, Bool.and_eq_true] at h
    obtain ⟨h1, h2, h3⟩ := ih d h.1
    obtain ⟨k1, k2, k3⟩ := pl_all ih ds h.2
    refine ⟨?_, ?_, ?_⟩
    · show (match toPy d with
        | some p => match toPys ds with
          | some ps => some (p :: ps)
          | none => none
        | none => none) = _
      rw [h1, k1]
      rfl
    · simp only [pyds, PySem.PyData.canLayAll0, h2, k2, Bool.and_self]
    · simp only [pyds, PySem.PyData.depthAll]
      omega
theorem pl_py : ∀ (n : Nat) (d : D), pl n d = true → toPy d = some (pyd d) ∧ (pyd d).canLay0 = true ∧ (pyd d).depth ≤ n
  | 0, _, h => by cases h
  | n + 1, d, h => by
    cases d with
    | non => exact ⟨rfl, rfl, Nat.zero_le _⟩
    | int i => exact ⟨rfl, rfl, Nat.zero_le _⟩
    | str z =>
      have := shS (a := z) h
      exact ⟨rfl, (Bool.and_eq_true_iff.mp this).1, Nat.zero_le _⟩
    | lst ds =>
      obtain ⟨k1, k2, k3⟩ := pl_all (pl_py n) ds h
      refine ⟨toPy_lst k1, by simp only [pyd, PySem.PyData.canLay0]; exact k2, ?_⟩
      simp only [pyd, PySem.PyData.depth]
      omega
    | tup ds =>
      obtain ⟨k1, k2, k3⟩ := pl_all (pl_py n) ds h
      refine ⟨toPy_tup k1, by simp only [pyd, PySem.PyData.canLay0]; exact k2, ?_⟩
      simp only [pyd, PySem.PyData.depth]
      omega
    | _ => cases h
theorem pl_sh {n : Nat} {d : D} (hn : n ≤ 64) (h : pl n d = true) : PySem.SeqAt.shaped (pyd d) = true := by
  obtain ⟨_, h2, h3⟩ := pl_py n d h
  show ((pyd d).canLay0 && decide ((pyd d).depth ≤ 64)) = true
  rw [h2, decide_eq_true (by omega)]
  rfl
mutual
theorem dq_eqv : ∀ (n m : Nat) (d e : D), pl n d = true → pl m e = true → PySem.PyData.eqv (pyd d) (pyd e) = dq d e
  | 0, _, _, _, h, _ => by cases h
  | _ + 1, 0, _, _, _, h => by cases h
  | n + 1, m + 1, d, e, h, k => by
    cases d <;> first | (cases h; done) | skip
    all_goals cases e <;> first | (cases k; done) | skip
    all_goals simp only [pyd, PySem.PyData.eqv, dq]
    all_goals first | rfl | skip
    · exact dqs_eqv n m _ _ h k
    · exact dqs_eqv n m _ _ h k
theorem dqs_eqv : ∀ (n m : Nat) (ds es : List D), ds.all (pl n) = true → es.all (pl m) = true → PySem.PyData.eqvAll (pyds ds) (pyds es) = dqs ds es
  | _, _, [], [], _, _ => by simp only [pyds, PySem.PyData.eqvAll, dqs]
  | _, _, [], _ :: _, _, _ => by simp only [pyds, PySem.PyData.eqvAll, dqs]
  | _, _, _ :: _, [], _, _ => by simp only [pyds, PySem.PyData.eqvAll, dqs]
  | n, m, d :: ds, e :: es, h, k => by
    rw [List.all_cons, Bool.and_eq_true] at h k
    simp only [pyds, PySem.PyData.eqvAll, dqs]
    rw [dq_eqv n m d e h.1 k.1, dqs_eqv n m ds es h.2 k.2]
end
theorem eqD_pl {n m : Nat} {d e : D} (hn : n ≤ 64) (hm : m ≤ 64) (h : pl n d = true) (k : pl m e = true) : eqD d e = some (dq d e) := by
  rw [eqD_shape (pl_py n d h).1 (pl_py m e k).1 (pl_sh hn h) (pl_sh hm k), dq_eqv n m d e h k]
theorem oB_eqP {d e : D} (h : pl 20 d = true) (k : pl 20 e = true) : opB .eq d e = some (.im (.bl (dq d e))) := by
  show (match eqD d e with | some b => bl b | none => none) = _
  rw [eqD_pl (by decide) (by decide) h k]
  rfl
theorem oB_neP {d e : D} (h : pl 20 d = true) (k : pl 20 e = true) : opB .ne d e = some (.im (.bl (!dq d e))) := by
  show (match eqD d e with | some b => bl (!b) | none => none) = _
  rw [eqD_pl (by decide) (by decide) h k]
  rfl
@[simp] theorem dq_int {i j : Int} : dq (.int i) (.int j) = decide (i = j) := by simp only [dq]
@[simp] theorem dq_str {i j : Str} : dq (.str i) (.str j) = decide (i = j) := by simp only [dq]
@[simp] theorem dq_non : dq .non .non = true := by simp only [dq]
@[simp] theorem dq_tup {ds es : List D} : dq (.tup ds) (.tup es) = dqs ds es := by simp only [dq]
@[simp] theorem dq_lst {ds es : List D} : dq (.lst ds) (.lst es) = dqs ds es := by simp only [dq]
@[simp] theorem dqs_nil : dqs [] [] = true := by simp only [dqs]
@[simp] theorem dqs_cons {d e : D} {ds es : List D} : dqs (d :: ds) (e :: es) = (dq d e && dqs ds es) := by simp only [dqs]
@[simp] theorem dqs_nc {e : D} {es : List D} : dqs [] (e :: es) = false := by simp only [dqs]
@[simp] theorem dqs_cn {e : D} {es : List D} : dqs (e :: es) [] = false := by simp only [dqs]
@[simp] theorem dqs_ints : ∀ is js : List Int, dqs (is.map .int) (js.map .int) = decide (is = js)
  | [], [] => by simp
  | [], _ :: _ => by simp
  | _ :: _, [] => by simp
  | i :: is, j :: js => by
    rw [List.map_cons, List.map_cons, dqs_cons, dq_int, dqs_ints is js]
    by_cases h : i = j <;> simp [h]
theorem dqs_map {α : Type} [DecidableEq α] {f : α → D} (hf : ∀ a b, dq (f a) (f b) = decide (a = b)) : ∀ xs ys : List α, dqs (xs.map f) (ys.map f) = decide (xs = ys)
  | [], [] => by simp
  | [], _ :: _ => by simp
  | _ :: _, [] => by simp
  | i :: is, j :: js => by
    rw [List.map_cons, List.map_cons, dqs_cons, hf, dqs_map hf is js]
    by_cases h : i = j <;> simp [h]
theorem eqF_dq {n m : Nat} {e d : D} (h : pl n e = true) (k : pl m d = true) (f : flat e = true) (g : flat d = true) : eqF e d = dq e d := by
  cases n with
  | zero => cases h
  | succ n =>
  cases m with
  | zero => cases k
  | succ m =>
  cases e <;> first | (cases f; done) | (cases h; done) | skip
  all_goals cases d <;> first | (cases g; done) | (cases k; done) | skip
  all_goals simp only [eqF, dq]
  all_goals first | rfl | (rename_i a b; by_cases q : a = b <;> simp [q])
theorem any_pyds {n m : Nat} {d : D} (k : pl m d = true) : ∀ ds : List D, ds.all (pl n) = true → ((pyds ds).any fun z => PySem.PyData.eqv z (pyd d)) = ds.any fun e => dq e d
  | [], _ => by simp [pyds]
  | e :: ds, h => by
    rw [List.all_cons, Bool.and_eq_true] at h
    simp only [pyds, List.any_cons, any_pyds k ds h.2, dq_eqv n m e d h.1 k]
theorem any_eqF {n m : Nat} {d : D} (k : pl m d = true) (g : flat d = true) : ∀ ds : List D, ds.all (pl n) = true → ds.all flat = true → inF d ds = ds.any fun e => dq e d
  | [], _, _ => rfl
  | e :: ds, h, f => by
    rw [List.all_cons, Bool.and_eq_true] at h f
    show (eqF e d || inF d ds) = _
    rw [any_eqF k g ds h.2 f.2, eqF_dq h.1 k f.1 g, List.any_cons]
theorem inD_pl {n m : Nat} {d : D} {ds : List D} (hn : n + 1 ≤ 64) (hm : m ≤ 64) (k : pl m d = true) (h : ds.all (pl n) = true) : inD d (.lst ds) = some (ds.any fun e => dq e d) := by
  have e0 : inD d (.lst ds) = (if flat d && ds.all flat then some (inF d ds) else (match toPy d, toPys ds with
    | some p, some ps => if PySem.SeqAt.shaped p && PySem.SeqAt.shaped (.list ps) then some (ps.any fun z => PySem.PyData.eqv z p) else none
    | _, _ => none)) := by cases d <;> rfl
  rw [e0]
  by_cases f : (flat d && ds.all flat) = true
  · rw [if_pos f]
    rw [Bool.and_eq_true] at f
    rw [any_eqF k f.1 ds h f.2]
  · rw [if_neg f]
    have e1 := (pl_py m d k).1
    have e2 := (pl_all (pl_py n) ds h).1
    have e3 : PySem.SeqAt.shaped (.list (pyds ds)) = true := pl_sh (d := .lst ds) hn (by rw [pl_lst]; exact h)
    rw [e1, e2]
    simp only [pl_sh hm k, e3, Bool.and_self, if_true]
    rw [any_pyds k ds h]
theorem oB_inP {d : D} {ds : List D} (k : pl 20 d = true) (h : ds.all (pl 20) = true) : opB .in_ d (.lst ds) = some (.im (.bl (ds.any fun e => dq e d))) := by
  show (match inD d (.lst ds) with | some b => bl b | none => none) = _
  rw [inD_pl (by decide) (by decide) k h]
  rfl
theorem oB_ninP {d : D} {ds : List D} (k : pl 20 d = true) (h : ds.all (pl 20) = true) : opB .nin d (.lst ds) = some (.im (.bl (!ds.any fun e => dq e d))) := by
  show (match inD d (.lst ds) with | some b => bl (!b) | none => none) = _
  rw [inD_pl (by decide) (by decide) k h]
  rfl
@[simp] theorem dq_nt {ds : List D} : dq (.tup ds) .non = false := by simp only [dq]
@[simp] theorem dq_tn {ds : List D} : dq .non (.tup ds) = false := by simp only [dq]
end PB

set_option Elab.async false
set_option linter.all false
set_option autoImplicit false
set_option maxRecDepth 1000000
set_option maxHeartbeats 4000000
namespace PB
open PySem (Str sizeLine)
/-- a while with a measure -/
theorem while_inv {test : S → R Bool} {body : S → R Fl} (I : S → Prop) (μ : S → Nat) (Q : S → Prop)
    (h : ∀ s, I s → (∃ s', test s = .ok false s' ∧ Q s') ∨ (∃ s1 s2, test s = .ok true s1 ∧ (body s1 = .ok .nx s2 ∨ body s1 = .ok .ct s2) ∧ I s2 ∧ μ s2 < μ s)) : ∀ (n : Nat) (s : S), I s → μ s < n → ∃ s', wloop test body n s = .ok .nx s' ∧ Q s'
  | 0, s, _, hm => absurd hm (Nat.not_lt_zero _)
  | n + 1, s, i, hm => by
    rcases h s i with ⟨s', e, q⟩ | ⟨s1, s2, e, e2, i2, m2⟩
    · exact ⟨s', by simp [wloop, e, R.bind], q⟩
    · obtain ⟨s', e3, q⟩ := while_inv I μ Q h n s2 i2 (by omega)
      refine ⟨s', ?_, q⟩
      rcases e2 with e2 | e2 <;> simp [wloop, e, e2, R.bind, e3]
/-- a set of numbers: a dict whose values are True -/
def setK (ks : List Int) : List (Key × D) := ks.map fun i => (.inl i, .bl true)
theorem look_set {i : Int} : ∀ {ks : List Int}, (look (.inl i) (setK ks)).isSome = decide (i ∈ ks)
  | [] => by simp [setK, look]
  | k :: ks => by
    have ih := look_set (i := i) (ks := ks)
    show (if (Sum.inl k : Key) = .inl i then some (D.bl true) else look (.inl i) (setK ks)).isSome = _
    by_cases h : k = i
    · subst h
      simp
    · have h2 : ¬ (Sum.inl k : Key) = .inl i := fun e => h (by cases e; rfl)
      rw [if_neg h2, ih]
      have h3 : ¬ i = k := fun e => h e.symm
      simp [h3]
theorem oB_inK {i : Int} {ks : List Int} : opB .in_ (.int i) (.dk (setK ks)) = some (.im (.bl (decide (i ∈ ks)))) := by
  show some (Vl.im (.bl ((look (.inl i) (setK ks)).isSome))) = _
  rw [look_set]
theorem oB_ninK {i : Int} {ks : List Int} : opB .nin (.int i) (.dk (setK ks)) = some (.im (.bl (!decide (i ∈ ks)))) := by
  show some (Vl.im (.bl (!(look (.inl i) (setK ks)).isSome))) = _
  rw [look_set]
theorem any_set {i : Int} : ∀ {ks : List Int}, ((setK ks).any fun kv => decide (kv.1 = (.inl i : Key))) = decide (i ∈ ks)
  | [] => by simp [setK]
  | k :: ks => by
    have ih := any_set (i := i) (ks := ks)
    show (decide ((.inl k : Key) = .inl i) || (setK ks).any _) = _
    rw [ih]
    by_cases h : k = i
    · subst h
      simp
    · have h2 : ¬ (Sum.inl k : Key) = .inl i := fun e => h (by cases e; rfl)
      have h3 : ¬ i = k := fun e => h e.symm
      simp [h2, h3]
theorem put_new {i : Int} {ks : List Int} (h : i ∉ ks) : put (.inl i) (.bl true) (setK ks) = setK (ks ++ [i]) := by
  unfold put
  rw [any_set, if_neg (by simpa using h)]
  simp [setK]
theorem put_old {i : Int} {ks : List Int} (h : i ∈ ks) : put (.inl i) (.bl true) (setK ks) = setK ks := by
  unfold put
  rw [any_set, if_pos (by simpa using h)]
  refine (List.map_congr_left fun kv m => ?_).trans (List.map_id _)
  obtain ⟨k, _, rfl⟩ := List.mem_map.mp m
  show (if (Sum.inl k : Key) = .inl i then ((Sum.inl k : Key), D.bl true) else _) = _
  split <;> rfl
def insK (ks : List Int) (i : Int) : List Int := if i ∈ ks then ks else ks ++ [i]
theorem put_set {i : Int} {ks : List Int} : put (.inl i) (.bl true) (setK ks) = setK (insK ks i) := by
  unfold insK
  split
  · rename_i h
    exact put_old h
  · rename_i h
    exact put_new h
@[simp] theorem setK_len {ks : List Int} : (setK ks).length = ks.length := by simp [setK]
theorem mem_insK {i j : Int} {ks : List Int} : j ∈ insK ks i ↔ j ∈ ks ∨ j = i := by
  unfold insK
  split
  · rename_i h
    exact ⟨.inl, fun q => q.elim id fun e => e ▸ h⟩
  · simp
theorem nodup_insK {i : Int} {ks : List Int} (h : ks.Nodup) : (insK ks i).Nodup := by
  unfold insK
  split
  · exact h
  · rename_i q
    rw [List.nodup_append]
    exact ⟨h, by simp, fun a ha b hb e => q (by rw [List.mem_singleton.mp hb] at e; rwa [e] at ha)⟩
/-- numbers told once and below n are n at most -/
theorem nodup_le : ∀ (n : Nat) (ks : List Int), ks.Nodup → (∀ k ∈ ks, 0 ≤ k ∧ k < (n : Int)) → ks.length ≤ n
  | 0, ks, _, h => by
    match ks, h with
    | [], _ => simp
    | k :: ks, h =>
      have := h k (by simp)
      omega
  | n + 1, ks, hd, h => by
    have h2 := nodup_le n (ks.erase (n : Int)) (hd.erase _) (fun k mk => by
      have := (hd.mem_erase_iff).mp mk
      have := h k this.2
      omega)
    by_cases q : (n : Int) ∈ ks
    · rw [List.length_erase_of_mem q] at h2
      omega
    · rw [List.erase_of_not_mem q] at h2
      omega
theorem inF_ints {i : Int} : ∀ {is : List Int}, inF (.int i) (is.map .int) = decide (i ∈ is)
  | [] => by simp [inF]
  | j :: is => by
    have ih := inF_ints (i := i) (is := is)
    show (eqF (.int j) (.int i) || inF (.int i) (is.map .int)) = _
    rw [ih]
    have : eqF (.int j) (.int i) = decide (i = j) := by
      show (j == i) = _
      by_cases h : j = i
      · subst h
        simp
      · have h2 : ¬ i = j := fun e => h e.symm
        simp [h, h2]
    rw [this]
    by_cases h : i = j <;> by_cases h2 : i ∈ is <;> simp [h, h2]
theorem flat_ints {is : List Int} : (is.map D.int).all flat = true := by simp [flat]
theorem oB_inI {i : Int} {is : List Int} : opB .in_ (.int i) (.lst (is.map .int)) = some (.im (.bl (decide (i ∈ is)))) := by
  show (match (if flat (.int i) && (is.map D.int).all flat then some (inF (.int i) (is.map .int)) else _ : Option Bool) with | some b => bl b | none => none) = _
  rw [flat_ints]
  show bl (inF (.int i) (is.map .int)) = _
  rw [inF_ints]
  rfl
theorem oB_inIT {i : Int} {is : List Int} : opB .in_ (.int i) (.tup (is.map .int)) = some (.im (.bl (decide (i ∈ is)))) := by
  show (match (if flat (.int i) && (is.map D.int).all flat then some (inF (.int i) (is.map .int)) else _ : Option Bool) with | some b => bl b | none => none) = _
  rw [flat_ints]
  show bl (inF (.int i) (is.map .int)) = _
  rw [inF_ints]
  rfl
/-- sorted numbers -/
theorem mem_insI {i j : Int} : ∀ {is : List Int}, j ∈ insI i is ↔ j = i ∨ j ∈ is
  | [] => by simp [insI]
  | k :: is => by
    unfold insI
    split
    · simp
    · simp only [List.mem_cons, mem_insI (is := is)]
      constructor
      · rintro (h | h | h) <;> simp [h]
      · rintro (h | h | h) <;> simp [h]
theorem mem_srtI {j : Int} : ∀ {is : List Int}, j ∈ srtI is ↔ j ∈ is
  | [] => by simp [srtI]
  | i :: is => by
    show j ∈ insI i (srtI is) ↔ _
    rw [mem_insI, mem_srtI, List.mem_cons]
theorem len_insI {i : Int} : ∀ {is : List Int}, (insI i is).length = is.length + 1
  | [] => rfl
  | k :: is => by
    unfold insI
    split
    · rfl
    · simp [len_insI (is := is)]
theorem len_srtI : ∀ {is : List Int}, (srtI is).length = is.length
  | [] => rfl
  | i :: is => by
    show (insI i (srtI is)).length = _
    rw [len_insI, len_srtI]
    rfl
/-- told once, rising -/
def Ris : List Int → Prop
  | [] => True
  | i :: is => (∀ j ∈ is, i < j) ∧ Ris is
theorem ris_insI {i : Int} : ∀ {is : List Int}, Ris is → i ∉ is → Ris (insI i is)
  | [], _, _ => ⟨fun j h => by simp at h, trivial⟩
  | k :: is, h, hn => by
    have hk : i ≠ k := fun e => hn (by simp [e])
    have hi : i ∉ is := fun e => hn (by simp [e])
    unfold insI
    split
    · rename_i q
      have q' : i < k := by omega
      refine ⟨fun j mj => ?_, h⟩
      rcases List.mem_cons.mp mj with e | e
      · omega
      · have := h.1 j e
        omega
    · rename_i q
      have q' : k < i := by omega
      refine ⟨fun j mj => ?_, ris_insI h.2 hi⟩
      rcases mem_insI.mp mj with e | e
      · omega
      · exact h.1 j e
theorem ris_srtI : ∀ {is : List Int}, is.Nodup → Ris (srtI is)
  | [], _ => trivial
  | i :: is, h => by
    have h2 := List.nodup_cons.mp h
    exact ris_insI (ris_srtI h2.2) (fun e => h2.1 (mem_srtI.mp e))
/-- the last of rising numbers is none of the others, and the greatest -/
theorem ris_last : ∀ {is : List Int}, Ris is → ∀ j ∈ is.dropLast, ∃ l, is.getLast? = some l ∧ j < l
  | [], _, j, h => by simp at h
  | [i], _, j, h => by simp at h
  | i :: k :: is, h, j, hj => by
    have hj' : j ∈ i :: (k :: is).dropLast := by simpa using hj
    rcases List.mem_cons.mp hj' with e | e
    · obtain ⟨l, hl⟩ : ∃ l, (k :: is).getLast? = some l := ⟨_, List.getLast?_eq_some_getLast (by simp)⟩
      refine ⟨l, by simpa using hl, ?_⟩
      rw [e]
      exact h.1 l (List.mem_of_getLast? hl)
    · obtain ⟨l, hl, h3⟩ := ris_last h.2 j e
      exact ⟨l, by simpa using hl, h3⟩
theorem not_dropLast {is : List Int} (h : is.Nodup) {g : Int} (hg : g ∈ is) (hm : ∀ j ∈ is, j ≤ g) : g ∉ (srtI is).dropLast := fun q => by
  obtain ⟨l, hl, h2⟩ := ris_last (ris_srtI h) g q
  have := hm l (mem_srtI.mp (List.mem_of_getLast? hl))
  omega
@[simp] theorem oF_anyM {α : Type} {f : α → Bool} {xs : List α} : opF .any [.lst (xs.map fun a => .bl (f a))] = some (.im (.bl (xs.any f))) := by
  show (boolsD (xs.map fun a => .bl (f a))).bind (fun bs => some (Vl.im (.bl (bs.any id)))) = _
  rw [bools_map]
  simp [List.any_map, Function.comp_def]
end PB

set_option Elab.async false
set_option linter.all false
set_option autoImplicit false
set_option maxRecDepth 1000000
set_option maxHeartbeats 4000000
/-! what many laws share, 3: loops told by the values that they carry -/
namespace PB
open PySem (Str sizeLine)
/-- the draws' counter -/
abbrev cN (n : Int) : Option D := some (.lst [.int n])
section
variable {α σ : Type}
/-- a for: what it carries is a σ; I at the place -/
theorem fr_at {step : D → S → R Fl} {ds : List D} (enc : σ → S) (I : Nat → σ → Prop) (x0 : σ) (h : I 0 x0)
    (k : ∀ j d x, ds[j]? = some d → I j x → ∃ x', (step d (enc x) = .ok .nx (enc x') ∨ step d (enc x) = .ok .ct (enc x')) ∧ I (j + 1) x') : ∃ x', loop step ds (enc x0) = .ok .nx (enc x') ∧ I ds.length x' := by
  obtain ⟨s', e, x, rfl, q⟩ := for_at (xs := ds) (step := step) (s := enc x0) (fun j s => ∃ x, s = enc x ∧ I j x) ⟨x0, rfl, h⟩ (fun j d s e hs => by
    obtain ⟨x, rfl, q⟩ := hs
    obtain ⟨x', e1, q1⟩ := k j d x e q
    exact ⟨enc x', e1, x', rfl, q1⟩)
  exact ⟨x, e, q⟩
theorem fr_map {f : α → D} {step : D → S → R Fl} {xs : List α} (enc : σ → S) (I : Nat → σ → Prop) (x0 : σ) (h : I 0 x0)
    (k : ∀ (j : Nat) a x, xs[j]? = some a → I j x → ∃ x', (step (f a) (enc x) = .ok .nx (enc x') ∨ step (f a) (enc x) = .ok .ct (enc x')) ∧ I (j + 1) x') : ∃ x', loop step (xs.map f) (enc x0) = .ok .nx (enc x') ∧ I xs.length x' := by
  obtain ⟨s', e, x, rfl, q⟩ := for_map (f := f) (xs := xs) (step := step) (s := enc x0) (fun j s => ∃ x, s = enc x ∧ I j x) ⟨x0, rfl, h⟩ (fun j d s e hs => by
    obtain ⟨x, rfl, q⟩ := hs
    obtain ⟨x', e1, q1⟩ := k j d x e q
    exact ⟨enc x', e1, x', rfl, q1⟩)
  exact ⟨x, e, q⟩
theorem fr_rng {lo : Int} {n : Nat} {step : D → S → R Fl} (enc : σ → S) (I : Nat → σ → Prop) (x0 : σ) (h : I 0 x0)
    (k : ∀ (j : Nat) x, j < n → I j x → ∃ x', (step (.int (lo + (j : Nat))) (enc x) = .ok .nx (enc x') ∨ step (.int (lo + (j : Nat))) (enc x) = .ok .ct (enc x')) ∧ I (j + 1) x') : ∃ x', loop step (rngD lo n) (enc x0) = .ok .nx (enc x') ∧ I n x' := by
  obtain ⟨s', e, x, rfl, q⟩ := for_rng (lo := lo) (n := n) (step := step) (s := enc x0) (fun j s => ∃ x, s = enc x ∧ I j x) ⟨x0, rfl, h⟩ (fun j s e hs => by
    obtain ⟨x, rfl, q⟩ := hs
    obtain ⟨x', e1, q1⟩ := k j x e q
    exact ⟨enc x', e1, x', rfl, q1⟩)
  exact ⟨x, e, q⟩
theorem fr_enum {f : α → D} {step : D → S → R Fl} {xs : List α} (enc : σ → S) (I : Nat → σ → Prop) (x0 : σ) (h : I 0 x0)
    (k : ∀ (j : Nat) a x, xs[j]? = some a → I j x → ∃ x', (step (.tup [.int (j : Nat), f a]) (enc x) = .ok .nx (enc x') ∨ step (.tup [.int (j : Nat), f a]) (enc x) = .ok .ct (enc x')) ∧ I (j + 1) x') : ∃ x', loop step (enumD 0 (xs.map f)) (enc x0) = .ok .nx (enc x') ∧ I xs.length x' := by
  obtain ⟨s', e, x, rfl, q⟩ := for_enum (f := f) (xs := xs) (step := step) (s := enc x0) (fun j s => ∃ x, s = enc x ∧ I j x) ⟨x0, rfl, h⟩ (fun j d s e hs => by
    obtain ⟨x, rfl, q⟩ := hs
    obtain ⟨x', e1, q1⟩ := k j d x e q
    exact ⟨enc x', e1, x', rfl, q1⟩)
  exact ⟨x, e, q⟩
/-- a while: what it carries is a σ -/
theorem wh_inv {test : S → R Bool} {body : S → R Fl} (enc : σ → S) (I : σ → Prop) (μ : σ → Nat)
    (k : ∀ x, I x → (∃ b, test (enc x) = .ok b (enc x) ∧ (b = true → ∃ x', (body (enc x) = .ok .nx (enc x') ∨ body (enc x) = .ok .ct (enc x')) ∧ I x' ∧ μ x' < μ x))) : ∀ (n : Nat) (x : σ), I x → μ x < n → ∃ x', wloop test body n (enc x) = .ok .nx (enc x') ∧ I x' ∧ test (enc x') = .ok false (enc x')
  | 0, x, _, hm => absurd hm (Nat.not_lt_zero _)
  | n + 1, x, i, hm => by
    obtain ⟨b, e, h⟩ := k x i
    cases b with
    | false => exact ⟨x, by simp [wloop, e, R.bind], i, e⟩
    | true =>
      obtain ⟨x', e2, i2, m2⟩ := h rfl
      obtain ⟨y, e3, q⟩ := wh_inv enc I μ k n x' i2 (by omega)
      refine ⟨y, ?_, q⟩
      rcases e2 with e2 | e2 <;> simp [wloop, e, e2, R.bind, e3]
/-- a comprehension whose turns change the store (draws): I at the place, with what is gathered -/
theorem lc_st {β : Type} {f : α → D} {g : β → D} {step : D → S → R (Option D)} {xs : List α} (enc : σ → S) (I : Nat → List β → σ → Prop) (x0 : σ) (h : I 0 [] x0) (hl : xs.length ≤ 1000000)
    (k : ∀ (j : Nat) a bs x, xs[j]? = some a → I j bs x → ∃ b x', step (f a) (enc x) = .ok (some (g b)) (enc x') ∧ I (j + 1) (bs ++ [b]) x') :
    ∃ bs x', lcLoop step (xs.map f) [] (enc x0) = .ok (bs.map g) (enc x') ∧ I xs.length bs x' := by
  suffices q : ∀ (m j : Nat) (bs : List β) (x : σ), m + j = xs.length → I j bs x → bs.length ≤ j → ∃ bs' x', lcLoop step ((xs.drop j).map f) (bs.map g) (enc x) = .ok (bs'.map g) (enc x') ∧ I xs.length bs' x' by
    have := q xs.length 0 [] x0 (by omega) h (by simp)
    simpa using this
  intro m
  induction m with
  | zero =>
    intro j bs x hj hI _
    have : xs.drop j = [] := List.drop_eq_nil_of_le (by omega)
    rw [this]
    have hj' : j = xs.length := by omega
    exact ⟨bs, x, rfl, hj' ▸ hI⟩
  | succ m ih =>
    intro j bs x hj hI hb
    have hjl : j < xs.length := by omega
    have ej := List.getElem?_eq_getElem (l := xs) (i := j) hjl
    obtain ⟨b, x', e1, h1⟩ := k j _ bs x ej hI
    obtain ⟨bs', y, e2, h2⟩ := ih (j + 1) (bs ++ [b]) x' (by omega) h1 (by simp; omega)
    refine ⟨bs', y, ?_, h2⟩
    rw [List.drop_eq_getElem_cons hjl, List.map_cons]
    have hz : (bs.map g).length < sizeLine := by
      rw [PySem.sizeLine_eq, List.length_map]
      omega
    unfold lcLoop
    rw [e1]
    show (if (bs.map g).length < sizeLine then lcLoop step ((xs.drop (j + 1)).map f) (bs.map g ++ [g b]) (enc x') else .no) = _
    rw [if_pos hz, ← e2]
    simp
end
@[simp] theorem la_er {s : S} {c : Nat} {fs : List (Str × D)} {st : List (Option D)} : RC.toR s (.er c fs st) = .er c fs { s with st := st } := id rfl
/-- a call's equation by its def -/
theorem fn_eq {P : Prog} {i : Nat} {f : Fn} (h : P.fns i = some f) (k : Nat) : (envL P (k + 1)).fn i = callF (envL P k) f := funext fun ds => funext fun st => fn_at h k ds st
theorem fm_eq {P : Prog} {i : Nat} {f : Fn} (h : P.fns i = some f) (k : Nat) : (envL P (k + 2)).fm i = callF (envL P k) f := funext fun ds => funext fun st => fm_at h k ds st
theorem nw_eq {P : Prog} {i : Nat} {f : Fn} (h : P.fns i = some f) (k c : Nat) : (envL P (k + 2)).nw c i = callN (envL P k) c f := funext fun ds => funext fun st => nw_at h k c ds st
end PB

set_option Elab.async false
set_option linter.all false
set_option autoImplicit false
set_option maxRecDepth 1000000
namespace PB
open PySem (Str)
namespace KS
def c__law_next_b0 : C := (.seq (.asg (.nm 4) (.bin .fdiv (.var 4) (.cst (.int 2000000011)))) .skip)
def c__law_next : C := (.seq (.setI (.var 1) (.cst (.int 0)) (.bin .add (.sub (.var 1) (.cst (.int 0))) (.cst (.int 1)))) (.seq (.asg (.nm 2) (.cst (.int 0))) (.seq (.ite (.bin .gt (.bi .len (.cons (.var 0) .nil)) (.cst (.int 0))) (.seq (.asg (.nm 2) (.sub (.var 0) (.bin .mod (.sub (.var 1) (.cst (.int 0))) (.bi .len (.cons (.var 0) .nil))))) .skip) .skip) (.seq (.ite (.ban (.cons (.bin .gt (.bi .len (.cons (.var 0) .nil)) (.cst (.int 0))) (.cons (.bin .eq (.bin .mod (.sub (.var 0) (.cst (.int 0))) (.cst (.int 2))) (.cst (.int 1))) .nil))) (.seq (.asg (.nm 4) (.var 2)) (.seq (.for_ (.nm 5) .r1 (.cons (.bin .mod (.bin .fdiv (.sub (.var 1) (.cst (.int 0))) (.bi .len (.cons (.var 0) .nil))) (.cst (.int 60))) .nil) c__law_next_b0) (.seq (.ite (.bor (.cons (.bin .nin (.var 4) (.tup (.cons (.cst (.int 0)) (.cons (.un .neg (.cst (.int 1))) .nil)))) (.cons (.bin .lt (.sub (.var 1) (.cst (.int 0))) (.bi .len (.cons (.var 0) .nil))) .nil))) (.seq (.ret (.bin .mod (.var 4) (.cst (.int 2000000011)))) .skip) .skip) .skip))) .skip) (.seq (.asg (.nm 3) (.bin .mod (.bin .mul (.bin .add (.bin .add (.bin .mod (.var 2) (.cst (.int 2147483647))) (.bin .mul (.bin .mul (.sub (.var 1) (.cst (.int 0))) (.sub (.var 1) (.cst (.int 0)))) (.cst (.int 7919)))) (.cst (.int 11))) (.cst (.int 48271))) (.cst (.int 2147483647)))) (.seq (.asg (.nm 3) (.bin .mod (.bin .mul (.var 3) (.var 3)) (.cst (.int 1999999973)))) (.seq (.ret (.bin .mod (.bin .mul (.bin .add (.var 3) (.bin .mul (.sub (.var 1) (.cst (.int 0))) (.cst (.int 104729)))) (.cst (.int 69621))) (.cst (.int 2147483629)))) .skip)))))))
def f__law_next : Fn := ⟨6, 2, c__law_next⟩
-- _law_next: number 1, slots 0 _law_script, 1 _law_at, 2 _law_cell, 3 _law_m, 4 _law_figures, 5 _law_k,
--   loop 0 (for_): _law_script, _law_at, _law_cell, _law_figures, _law_k
def c__law_same_92 : C := (.seq (.ite (.bin .is_ (.var 1) (.cst .non)) (.seq (.ret (.bin .is_ (.var 0) (.cst .non))) .skip) .skip) (.seq (.ite (.isi (.var 1) [.dict]) (.seq (.ite (.bor (.cons (.nt (.isi (.var 0) [.dict])) (.cons (.bin .ne (.bi .len (.cons (.var 0) .nil)) (.bi .len (.cons (.var 1) .nil))) .nil))) (.seq (.ret (.cst (.bl false))) .skip) .skip) (.seq (.ret (.bi .all (.cons (.lc (.ban (.cons (.bin .in_ (.var 2) (.var 0)) (.cons (.calP 92 (.cons (.sub (.var 0) (.var 2)) (.cons (.sub (.var 1) (.var 2)) .nil))) .nil))) (.nm 2) .ex (.cons (.var 1) .nil) .nil [2]) .nil))) .skip)) .skip) (.seq (.ite (.bor (.cons (.isi (.var 1) [.list]) (.cons (.isi (.var 1) [.tuple]) .nil))) (.seq (.ite (.bin .ne (.isi (.var 0) [.list]) (.isi (.var 1) [.list])) (.seq (.ret (.cst (.bl false))) .skip) .skip) (.seq (.ite (.bor (.cons (.bin .ne (.isi (.var 0) [.tuple]) (.isi (.var 1) [.tuple])) (.cons (.bin .ne (.bi .len (.cons (.var 0) .nil)) (.bi .len (.cons (.var 1) .nil))) .nil))) (.seq (.ret (.cst (.bl false))) .skip) .skip) (.seq (.ret (.bi .all (.cons (.lc (.calP 92 (.cons (.var 3) (.cons (.var 4) .nil))) (.tc (.nm 3) (.tc (.nm 4) .tn)) .zip (.cons (.var 0) (.cons (.var 1) .nil)) .nil [3, 4]) .nil))) .skip))) .skip) (.seq (.ite (.isi (.var 1) [.str]) (.seq (.ret (.ban (.cons (.isi (.var 0) [.str]) (.cons (.bin .eq (.var 0) (.var 1)) .nil)))) .skip) .skip) (.seq (.ret (.ban (.cons (.isi (.var 0) [.int]) (.cons (.nt (.isi (.var 0) [.bool])) (.cons (.bin .eq (.var 0) (.var 1)) .nil))))) .skip)))))
def f__law_same_92 : Fn := ⟨5, 2, c__law_same_92⟩
-- _law_same: number 92, slots 0 _law_found, 1 _law_due, 2 _law_name, 3 _law_one, 4 _law_other,
def c_is_number : C := (.seq (.ret (.ban (.cons (.isi (.var 0) [.int]) (.cons (.nt (.isi (.var 0) [.bool])) (.cons (.chn .le .lt (.cst (.int 0)) (.var 0) (.var 1)) .nil))))) .skip)
def f_is_number : Fn := ⟨2, 2, c_is_number⟩
-- is_number: number 158, slots 0 thing, 1 many,
def c_gate_fits : C := (.seq (.ite (.bor (.cons (.nt (.isi (.var 0) [.tuple])) (.cons (.bin .eq (.bi .len (.cons (.var 0) .nil)) (.cst (.int 0))) (.cons (.nt (.isi (.sub (.var 0) (.cst (.int 0))) [.str])) .nil)))) (.seq (.ret (.cst (.bl false))) .skip) .skip) (.seq (.ite (.bin .eq (.sub (.var 0) (.cst (.int 0))) (.cst (.str "keep"))) (.seq (.ret (.ban (.cons (.bin .eq (.bi .len (.cons (.var 0) .nil)) (.cst (.int 3))) (.cons (.cal 158 (.cons (.sub (.var 0) (.cst (.int 1))) (.cons (.cst (.int 2)) .nil))) (.cons (.cal 158 (.cons (.sub (.var 0) (.cst (.int 2))) (.cons (.var 2) .nil))) .nil))))) .skip) .skip) (.seq (.ite (.bor (.cons (.bin .nin (.sub (.var 0) (.cst (.int 0))) (.glo 8)) (.cons (.bin .ne (.bi .len (.cons (.var 0) .nil)) (.bin .add (.cst (.int 1)) (.sub (.glo 8) (.sub (.var 0) (.cst (.int 0)))))) .nil))) (.seq (.ret (.cst (.bl false))) .skip) .skip) (.seq (.ret (.bi .all (.cons (.lc (.cal 158 (.cons (.var 3) (.cons (.var 1) .nil))) (.nm 3) .ex (.cons (.sli (.var 0) (.cst (.int 1)) .nop) .nil) .nil [3]) .nil))) .skip))))
def f_gate_fits : Fn := ⟨4, 3, c_gate_fits⟩
-- gate_fits: number 159, slots 0 gate, 1 number, 2 many, 3 feed,
def c_Net_X_mk_init_b0 : C := (.seq (.ite (.nt (.cal 159 (.cons (.var 5) (.cons (.var 4) (.cons (.bi .len (.cons (.var 1) .nil)) .nil))))) (.seq .dead .skip) .skip) .skip)
def c_Net_X_mk_init_b1 : C := (.seq (.ite (.nt (.cal 158 (.cons (.var 3) (.cons (.bi .len (.cons (.var 1) .nil)) .nil)))) (.seq .dead .skip) .skip) .skip)
def c_Net_X_mk_init : C := (.seq (.for_ (.tc (.nm 4) (.tc (.nm 5) .tn)) .enum (.cons (.var 1) .nil) c_Net_X_mk_init_b0) (.seq (.for_ (.nm 3) .ex (.cons (.var 2) .nil) c_Net_X_mk_init_b1) (.seq (.setF (.var 0) "gates" (.bi .tuple (.cons (.var 1) .nil))) (.seq (.setF (.var 0) "outs" (.bi .tuple (.cons (.var 2) .nil))) .skip))))
def f_Net_X_mk_init : Fn := ⟨6, 3, c_Net_X_mk_init⟩
-- Net.__init__: number 160, slots 0 self, 1 gates, 2 outs, 3 out, 4 number, 5 gate,
--   loop 0 (for_): self, gates, outs, number, gate
--   loop 1 (for_): self, gates, outs, out, number, gate
def c_feeds_of : C := (.seq (.ite (.bin .eq (.sub (.var 0) (.cst (.int 0))) (.cst (.str "keep"))) (.seq (.ret (.lst (.cons (.sub (.var 0) (.cst (.int 2))) .nil))) .skip) .skip) (.seq (.ret (.bi .list (.cons (.sli (.var 0) (.cst (.int 1)) .nop) .nil))) .skip))
def f_feeds_of : Fn := ⟨1, 1, c_feeds_of⟩
-- feeds_of: number 164, slots 0 gate,
def c__law_net_b0 : C := (.wp [] (.seq (.ex (.mt .append (.var 5) (.cons (.tup (.cons (.cst (.str "keep")) (.cons (.bin .mod (.cal 1 (.cons (.var 0) (.cons (.var 1) .nil))) (.cst (.int 2))) (.cons (.cst (.int 0)) .nil)))) .nil))) .skip) [6])
def c__law_net_b1 : C := (.wp [] (.seq (.asg (.nm 8) (.cal 1 (.cons (.var 0) (.cons (.var 1) .nil)))) (.seq (.ex (.mt .append (.var 10) (.cons (.ife (.bin .eq (.bin .mod (.var 8) (.cst (.int 2))) (.cst (.int 0))) (.bin .mod (.bin .fdiv (.var 8) (.cst (.int 2))) (.bi .len (.cons (.var 5) .nil))) (.bi .max2 (.cons (.cst (.int 0)) (.cons (.bin .sub (.bin .sub (.bi .len (.cons (.var 5) .nil)) (.cst (.int 1))) (.bin .mod (.bin .fdiv (.var 8) (.cst (.int 2))) (.cst (.int 4)))) .nil)))) .nil))) .skip)) [8, 11])
def c__law_net_b2 : C := (.wp [] (.seq (.asg (.nm 8) (.cal 1 (.cons (.var 0) (.cons (.var 1) .nil)))) (.seq (.asg (.nm 9) (.sub (.lst (.cons (.cst (.str "and")) (.cons (.cst (.str "or")) (.cons (.cst (.str "xor")) (.cons (.cst (.str "pick")) (.cons (.cst (.str "not")) (.cons (.cst (.str "and")) (.cons (.cst (.str "xor")) (.cons (.cst (.str "or")) (.cons (.cst (.str "zero")) (.cons (.cst (.str "one")) .nil))))))))))) (.bin .mod (.var 8) (.cst (.int 10))))) (.seq (.ite (.ban (.cons (.bin .eq (.bi .len (.cons (.var 5) .nil)) (.cst (.int 0))) (.cons (.bin .nin (.var 9) (.tup (.cons (.cst (.str "zero")) (.cons (.cst (.str "one")) .nil)))) .nil))) (.seq (.asg (.nm 9) (.sub (.lst (.cons (.cst (.str "zero")) (.cons (.cst (.str "one")) .nil))) (.bin .mod (.bin .fdiv (.var 8) (.cst (.int 10))) (.cst (.int 2))))) .skip) .skip) (.seq (.asg (.nm 10) (.lst .nil)) (.seq (.wp [6, 8, 11] (.for_ (.nm 11) .r1 (.cons (.mt .get2 (.dic (.cons (.cst (.str "zero")) (.cons (.cst (.int 0)) (.cons (.cst (.str "one")) (.cons (.cst (.int 0)) (.cons (.cst (.str "not")) (.cons (.cst (.int 1)) (.cons (.cst (.str "pick")) (.cons (.cst (.int 3)) .nil))))))))) (.cons (.var 9) (.cons (.cst (.int 2)) .nil))) .nil) c__law_net_b1) [8, 11]) (.seq (.ex (.mt .append (.var 5) (.cons (.bi .tuple (.cons (.bin .add (.lst (.cons (.var 9) .nil)) (.var 10)) .nil)) .nil))) .skip)))))) [6, 8, 9, 10, 11])
def c__law_net_b3 : C := (.wp [] (.seq (.setI (.var 5) (.var 6) (.tup (.cons (.cst (.str "keep")) (.cons (.sub (.sub (.var 5) (.var 6)) (.cst (.int 1))) (.cons (.bin .mod (.cal 1 (.cons (.var 0) (.cons (.var 1) .nil))) (.bi .len (.cons (.var 5) .nil))) .nil))))) .skip) [6])
def c__law_net_b4 : C := (.wp [] (.seq (.ite (.bin .gt (.bi .len (.cons (.var 5) .nil)) (.cst (.int 0))) (.seq (.asg (.nm 8) (.cal 1 (.cons (.var 0) (.cons (.var 1) .nil)))) (.seq (.ex (.mt .append (.var 7) (.cons (.ife (.bin .eq (.bin .mod (.var 8) (.cst (.int 2))) (.cst (.int 0))) (.bin .mod (.bin .fdiv (.var 8) (.cst (.int 2))) (.bi .len (.cons (.var 5) .nil))) (.bin .sub (.bin .sub (.bi .len (.cons (.var 5) .nil)) (.cst (.int 1))) (.bin .mod (.bin .fdiv (.var 8) (.cst (.int 2))) (.bi .min2 (.cons (.cst (.int 3)) (.cons (.bi .len (.cons (.var 5) .nil)) .nil)))))) .nil))) .skip)) .skip) .skip) [6, 8])
def c__law_net : C := (.seq (.asg (.nm 5) (.bin .mul (.lst (.cons (.tup (.cons (.cst (.str "in")) .nil)) .nil)) (.var 2))) (.seq (.wp [] (.for_ (.nm 6) .r1 (.cons (.var 3) .nil) c__law_net_b0) [6]) (.seq (.wp [6] (.for_ (.nm 6) .r1 (.cons (.var 4) .nil) c__law_net_b2) [4, 6, 8, 9, 10, 11]) (.seq (.wp [4, 6, 8, 9, 10, 11] (.for_ (.nm 6) .r2 (.cons (.var 2) (.cons (.bin .add (.var 2) (.var 3)) .nil)) c__law_net_b3) [2, 3, 6]) (.seq (.asg (.nm 7) (.lst .nil)) (.seq (.wp [2, 3, 4, 6, 8, 9, 10, 11] (.for_ (.nm 6) .r1 (.cons (.bin .add (.cst (.int 1)) (.bin .mod (.cal 1 (.cons (.var 0) (.cons (.var 1) .nil))) (.cst (.int 4)))) .nil) c__law_net_b4) [0, 1, 6, 8]) (.seq (.ret (.tup (.cons (.var 5) (.cons (.var 7) .nil)))) .skip)))))))
def f__law_net : Fn := ⟨12, 5, c__law_net⟩
-- _law_net: number 165, slots 0 _law_script, 1 _law_at, 2 _law_ins, 3 _law_keeps, 4 _law_many, 5 _law_gates, 6 _law_k, 7 _law_outs, 8 _law_m, 9 _law_word, 10 _law_feeds, 11 _law_j,
--   loop 0 (for_): _law_script, _law_at, _law_ins, _law_keeps, _law_many, _law_gates
--   loop 1 (for_): _law_script, _law_at, _law_ins, _law_keeps, _law_many, _law_gates, _law_word, _law_feeds
--   loop 2 (for_): _law_script, _law_at, _law_ins, _law_keeps, _law_many, _law_gates
--   loop 3 (for_): _law_script, _law_at, _law_ins, _law_keeps, _law_gates
--   loop 4 (for_): _law_script, _law_at, _law_gates, _law_outs
def c_is_source : C := (.seq (.ret (.bin .in_ (.sub (.sub (.fld (.var 0) "gates") (.var 1)) (.cst (.int 0))) (.tup (.cons (.cst (.str "in")) (.cons (.cst (.str "keep")) .nil))))) .skip)
def f_is_source : Fn := ⟨2, 2, c_is_source⟩
-- is_source: number 291, slots 0 net, 1 gate,
def c_cone_of_b0 : C := (.wp [] (.seq (.ite (.bin .nin (.var 6) (.var 4)) (.seq (.setI (.var 4) (.var 6) (.cst (.bl true))) (.seq (.ex (.mt .append (.var 3) (.cons (.var 6) .nil))) .skip)) .skip) .skip) [6])
def c_cone_of_b1 : C := (.wp [] (.seq (.ite (.ban (.cons (.nt (.cal 291 (.cons (.var 0) (.cons (.sub (.var 3) (.var 5)) .nil)))) (.cons (.bin .nin (.sub (.var 3) (.var 5)) (.var 2)) .nil))) (.seq (.wp [1, 6] (.for_ (.nm 6) .ex (.cons (.cal 164 (.cons (.sub (.fld (.var 0) "gates") (.sub (.var 3) (.var 5))) .nil)) .nil) c_cone_of_b0) [6]) .skip) .skip) (.seq (.aug 5 (.cst (.int 1))) .skip)) [6])
def c_cone_of : C := (.seq (.asg (.nm 3) (.lst (.cons (.var 1) .nil))) (.seq (.asg (.nm 4) (.dic (.cons (.var 1) (.cons (.cst (.bl true)) .nil)))) (.seq (.asg (.nm 5) (.cst (.int 0))) (.seq (.wp [1] (.whl (.bin .lt (.var 5) (.bi .len (.cons (.var 3) .nil))) c_cone_of_b1) [0, 2, 4, 5, 6]) (.seq (.ret (.var 3)) .skip)))))
def f_cone_of : Fn := ⟨7, 3, c_cone_of⟩
-- cone_of: number 292, slots 0 net, 1 gate, 2 stops, 3 cone, 4 met, 5 at, 6 feed,
--   loop 0 (for_): net, stops, cone, met, at
--   loop 1 (whl): net, stops, cone, met, at
def c_shuts_off_b0 : C := (.wp [] (.seq (.setI (.var 3) (.var 4) (.cst (.bl true))) .skip) [4])
def c_shuts_off : C := (.seq (.asg (.nm 3) .dK) (.seq (.wp [] (.for_ (.nm 4) .ex (.cons (.var 1) .nil) c_shuts_off_b0) [1, 4]) (.seq (.ret (.nt (.bi .any (.cons (.lc (.ban (.cons (.cal 291 (.cons (.var 0) (.cons (.var 4) .nil))) (.cons (.bin .nin (.var 4) (.var 3)) .nil))) (.nm 4) .ex (.cons (.cal 292 (.cons (.var 0) (.cons (.var 2) (.cons (.var 3) .nil)))) .nil) .nil [4]) .nil)))) .skip)))
def f_shuts_off : Fn := ⟨5, 3, c_shuts_off⟩
-- shuts_off: number 293, slots 0 net, 1 gates, 2 gate, 3 stops, 4 one,
--   loop 0 (for_): net, gates, gate, stops
def c__law_opened_b0 : C := (.wp [] (.seq (.ite (.bin .in_ (.var 3) (.var 1)) (.seq (.ex (.mt .append (.var 2) (.cons (.cst (.bl false)) .nil))) .skip) (.seq (.ite (.bor (.cons (.bin .eq (.sub (.var 4) (.cst (.int 0))) (.cst (.str "in"))) (.cons (.bin .eq (.sub (.var 4) (.cst (.int 0))) (.cst (.str "keep"))) .nil))) (.seq (.ex (.mt .append (.var 2) (.cons (.cst (.bl true)) .nil))) .skip) (.seq (.ex (.mt .append (.var 2) (.cons (.bi .any (.cons (.lc (.sub (.var 2) (.var 5)) (.nm 5) .ex (.cons (.sli (.var 4) (.cst (.int 1)) .nop) .nil) .nil [5]) .nil)) .nil))) .skip)) .skip)) .skip) [3, 4])
def c__law_opened : C := (.seq (.asg (.nm 2) (.lst .nil)) (.seq (.wp [] (.for_ (.tc (.nm 3) (.tc (.nm 4) .tn)) .enum (.cons (.var 0) .nil) c__law_opened_b0) [0, 1, 3, 4]) (.seq (.ret (.var 2)) .skip)))
def f__law_opened : Fn := ⟨6, 2, c__law_opened⟩
-- _law_opened: number 294, slots 0 _law_gates, 1 _law_stops, 2 _law_found, 3 _law_number, 4 _law_gate, 5 _law_feed,
--   loop 0 (for_): _law_gates, _law_stops, _law_found
def c__law_shut : C := (.seq (.asg (.nm 3) (.cal 294 (.cons (.var 0) (.cons (.var 1) .nil)))) (.seq (.ret (.nt (.bi .any (.cons (.lc (.sub (.var 3) (.var 4)) (.nm 4) .ex (.cons (.sli (.sub (.var 0) (.var 2)) (.cst (.int 1)) .nop) .nil) .nil [4]) .nil)))) .skip))
def f__law_shut : Fn := ⟨5, 3, c__law_shut⟩
-- _law_shut: number 295, slots 0 _law_gates, 1 _law_stops, 2 _law_gate, 3 _law_opened_here, 4 _law_feed,
def c__law_is_source : C := (.seq (.ret (.bin .in_ (.sub (.sub (.var 0) (.var 1)) (.cst (.int 0))) (.tup (.cons (.cst (.str "in")) (.cons (.cst (.str "keep")) .nil))))) .skip)
def f__law_is_source : Fn := ⟨2, 2, c__law_is_source⟩
-- _law_is_source: number 296, slots 0 _law_gates, 1 _law_number,
def c__law_cone_b0 : C := (.wp [] (.seq (.ite (.bin .nin (.var 5) (.var 3)) (.seq (.setI (.var 3) (.var 5) (.cst (.bl true))) (.seq (.ex (.mt .append (.var 2) (.cons (.var 5) .nil))) .skip)) .skip) .skip) [5])
def c__law_cone_b1 : C := (.wp [] (.seq (.asg (.nm 4) (.mt .pop0 (.var 2) .nil)) (.seq (.ite (.nt (.cal 296 (.cons (.var 0) (.cons (.var 4) .nil)))) (.seq (.wp [1, 5] (.for_ (.nm 5) .ex (.cons (.sli (.sub (.var 0) (.var 4)) (.cst (.int 1)) .nop) .nil) c__law_cone_b0) [4, 5]) .skip) .skip) .skip)) [4, 5])
def c__law_cone : C := (.seq (.asg (.nm 2) (.lst (.cons (.var 1) .nil))) (.seq (.asg (.nm 3) (.dic (.cons (.var 1) (.cons (.cst (.bl true)) .nil)))) (.seq (.wp [1] (.whl (.bin .gt (.bi .len (.cons (.var 2) .nil)) (.cst (.int 0))) c__law_cone_b1) [0, 2, 4, 5]) (.seq (.ret (.bi .sorted (.cons (.bi .list (.cons (.var 3) .nil)) .nil))) .skip))))
def f__law_cone : Fn := ⟨6, 2, c__law_cone⟩
-- _law_cone: number 297, slots 0 _law_gates, 1 _law_gate, 2 _law_found, 3 _law_met, 4 _law_one, 5 _law_feed,
--   loop 0 (for_): _law_gates, _law_found, _law_met, _law_one
--   loop 1 (whl): _law_gates, _law_found, _law_met
def c__law_ladder_b0 : C := (.wp [] (.seq (.asg (.nm 6) (.cal 1 (.cons (.var 0) (.cons (.var 1) .nil)))) (.seq (.asg (.nm 7) (.bin .mod (.bin .fdiv (.var 6) (.cst (.int 8))) (.bi .len (.cons (.var 4) .nil)))) (.seq (.asg (.nm 8) (.bin .mod (.bin .fdiv (.var 6) (.cst (.int 800))) (.bi .len (.cons (.var 4) .nil)))) (.seq (.asg (.nm 9) (.bin .sub (.bi .len (.cons (.var 4) .nil)) (.cst (.int 1)))) (.seq (.ite (.bin .eq (.bin .mod (.var 6) (.cst (.int 8))) (.cst (.int 0))) (.seq (.ex (.mt .append (.var 4) (.cons (.tup (.cons (.cst (.str "pick")) (.cons (.var 7) (.cons (.var 9) (.cons (.var 8) .nil))))) .nil))) .skip) (.seq (.ite (.bin .eq (.bin .mod (.var 6) (.cst (.int 8))) (.cst (.int 1))) (.seq (.ex (.mt .append (.var 4) (.cons (.tup (.cons (.cst (.str "not")) (.cons (.var 9) .nil))) .nil))) .skip) (.seq (.ex (.mt .append (.var 4) (.cons (.tup (.cons (.sub (.lst (.cons (.cst (.str "and")) (.cons (.cst (.str "or")) (.cons (.cst (.str "xor")) .nil)))) (.bin .mod (.var 6) (.cst (.int 3)))) (.cons (.var 9) (.cons (.var 7) .nil)))) .nil))) .skip)) .skip)) .skip))))) [5, 6, 7, 8, 9])
def c__law_ladder : C := (.seq (.asg (.nm 4) (.bin .add (.bin .mul (.lst (.cons (.tup (.cons (.cst (.str "in")) .nil)) .nil)) (.var 2)) (.lst (.cons (.tup (.cons (.cst (.str "keep")) (.cons (.cst (.int 1)) (.cons (.var 2) .nil)))) .nil)))) (.seq (.wp [2] (.for_ (.nm 5) .r1 (.cons (.var 3) .nil) c__law_ladder_b0) [3, 5, 6, 7, 8, 9]) (.seq (.ret (.tup (.cons (.var 4) (.cons (.lst (.cons (.bin .sub (.bi .len (.cons (.var 4) .nil)) (.cst (.int 1))) (.cons (.bin .mod (.cal 1 (.cons (.var 0) (.cons (.var 1) .nil))) (.bi .len (.cons (.var 4) .nil))) .nil))) .nil)))) .skip)))
def f__law_ladder : Fn := ⟨10, 4, c__law_ladder⟩
-- _law_ladder: number 298, slots 0 _law_script, 1 _law_at, 2 _law_ins, 3 _law_many, 4 _law_gates, 5 _law_k, 6 _law_m, 7 _law_other, 8 _law_third, 9 _law_last,
--   loop 0 (for_): _law_script, _law_at, _law_many, _law_gates
def c__law_broad_299_b0 : C := (.wp [] (.seq (.asg (.nm 6) (.cal 1 (.cons (.var 0) (.cons (.var 1) .nil)))) (.seq (.asg (.nm 7) (.ife (.bin .eq (.var 5) (.cst (.int 0))) (.cst (.int 0)) (.bin .sub (.bi .len (.cons (.var 3) .nil)) (.cst (.int 1))))) (.seq (.asg (.nm 8) (.ife (.bin .gt (.var 5) (.cst (.int 0))) (.bin .mod (.var 4) (.var 2)) (.cst (.int 1)))) (.seq (.ite (.bin .eq (.bin .mod (.var 6) (.cst (.int 6))) (.cst (.int 0))) (.seq (.ex (.mt .append (.var 3) (.cons (.tup (.cons (.cst (.str "pick")) (.cons (.bin .mod (.bin .fdiv (.var 6) (.cst (.int 6))) (.bi .len (.cons (.var 3) .nil))) (.cons (.var 7) (.cons (.var 8) .nil))))) .nil))) .skip) (.seq (.ex (.mt .append (.var 3) (.cons (.tup (.cons (.sub (.lst (.cons (.cst (.str "and")) (.cons (.cst (.str "or")) (.cons (.cst (.str "xor")) .nil)))) (.bin .mod (.var 6) (.cst (.int 3)))) (.cons (.var 7) (.cons (.ife (.bin .eq (.bin .mod (.var 6) (.cst (.int 6))) (.cst (.int 1))) (.bin .mod (.bin .fdiv (.var 6) (.cst (.int 6))) (.bi .len (.cons (.var 3) .nil))) (.var 8)) .nil)))) .nil))) .skip)) (.seq (.asg (.nm 4) (.bin .add (.var 4) (.bi .int (.cons (.bin .gt (.var 5) (.cst (.int 0))) .nil)))) .skip))))) [5, 6, 7, 8])
def c__law_broad_299 : C := (.seq (.asg (.nm 2) (.bin .add (.cst (.int 5)) (.bin .mod (.cal 1 (.cons (.var 0) (.cons (.var 1) .nil))) (.cst (.int 2))))) (.seq (.asg (.nm 3) (.bin .add (.bin .mul (.lst (.cons (.tup (.cons (.cst (.str "in")) .nil)) .nil)) (.bin .sub (.var 2) (.cst (.int 1)))) (.lst (.cons (.tup (.cons (.cst (.str "keep")) (.cons (.cst (.int 0)) (.cons (.cst (.int 0)) .nil)))) .nil)))) (.seq (.asg (.nm 4) (.cst (.int 2))) (.seq (.wp [] (.for_ (.nm 5) .r1 (.cons (.bin .add (.cst (.int 4)) (.bin .mod (.cal 1 (.cons (.var 0) (.cons (.var 1) .nil))) (.cst (.int 3)))) .nil) c__law_broad_299_b0) [4, 5, 6, 7, 8]) (.seq (.setI (.var 3) (.bin .sub (.var 2) (.cst (.int 1))) (.tup (.cons (.cst (.str "keep")) (.cons (.cst (.int 1)) (.cons (.bin .mod (.cal 1 (.cons (.var 0) (.cons (.var 1) .nil))) (.bi .len (.cons (.var 3) .nil))) .nil))))) (.seq (.ret (.tup (.cons (.var 3) (.cons (.lst (.cons (.bin .sub (.bi .len (.cons (.var 3) .nil)) (.cst (.int 1))) .nil)) .nil)))) .skip))))))
def f__law_broad_299 : Fn := ⟨9, 2, c__law_broad_299⟩
-- _law_broad: number 299, slots 0 _law_script, 1 _law_at, 2 _law_many, 3 _law_gates, 4 _law_fresh, 5 _law_k, 6 _law_m, 7 _law_last, 8 _law_other,
--   loop 0 (for_): _law_script, _law_at, _law_many, _law_gates, _law_fresh
def c__law_first_net : C := (.seq (.asg (.nm 3) (.cal 1 (.cons (.var 0) (.cons (.var 1) .nil)))) (.seq (.ite (.ban (.cons (.var 2) (.cons (.bin .eq (.bin .mod (.var 3) (.cst (.int 2))) (.cst (.int 0))) .nil))) (.seq (.ret (.cal 299 (.cons (.var 0) (.cons (.var 1) .nil)))) .skip) .skip) (.seq (.ite (.var 2) (.seq (.ret (.cal 165 (.cons (.var 0) (.cons (.var 1) (.cons (.bin .mod (.bin .fdiv (.var 3) (.cst (.int 2))) (.cst (.int 6))) (.cons (.bin .mod (.bin .fdiv (.var 3) (.cst (.int 12))) (.cst (.int 3))) (.cons (.bin .add (.cst (.int 2)) (.bin .mod (.bin .fdiv (.var 3) (.cst (.int 36))) (.cst (.int 5)))) .nil))))))) .skip) .skip) (.seq (.ite (.bin .eq (.bin .mod (.var 3) (.cst (.int 3))) (.cst (.int 0))) (.seq (.ret (.cal 298 (.cons (.var 0) (.cons (.var 1) (.cons (.bin .add (.cst (.int 3)) (.bin .mod (.bin .fdiv (.var 3) (.cst (.int 3))) (.cst (.int 4)))) (.cons (.bin .add (.cst (.int 4)) (.bin .mod (.bin .fdiv (.var 3) (.cst (.int 12))) (.cst (.int 9)))) .nil)))))) .skip) .skip) (.seq (.ret (.cal 165 (.cons (.var 0) (.cons (.var 1) (.cons (.bin .mod (.bin .fdiv (.var 3) (.cst (.int 3))) (.cst (.int 6))) (.cons (.bin .mod (.bin .fdiv (.var 3) (.cst (.int 18))) (.cst (.int 3))) (.cons (.bin .add (.cst (.int 3)) (.bin .mod (.bin .fdiv (.var 3) (.cst (.int 54))) (.cst (.int 10)))) .nil))))))) .skip)))))
def f__law_first_net : Fn := ⟨4, 3, c__law_first_net⟩
-- _law_first_net: number 300, slots 0 _law_script, 1 _law_at, 2 _law_small, 3 _law_m,
def c__law_some_net_b0 : C := (.wp [] (.seq (.asg (.nm 3) (.cal 1 (.cons (.var 0) (.cons (.var 1) .nil)))) (.seq (.ex (.mt .append (.var 5) (.cons (.tup (.cons (.sub (.lst (.cons (.cst (.str "and")) (.cons (.cst (.str "or")) (.cons (.cst (.str "xor")) .nil)))) (.bin .mod (.var 3) (.cst (.int 3)))) (.cons (.bin .add (.var 4) (.bin .mod (.bin .fdiv (.var 3) (.cst (.int 3))) (.cst (.int 2)))) (.cons (.bin .mod (.bin .fdiv (.var 3) (.cst (.int 6))) (.bi .len (.cons (.var 5) .nil))) .nil)))) .nil))) .skip)) [6])
def c__law_some_net : C := (.seq (.asg (.tc (.nm 5) (.tc (.nm 7) .tn)) (.cal 300 (.cons (.var 0) (.cons (.var 1) (.cons (.var 2) .nil))))) (.seq (.asg (.nm 3) (.cal 1 (.cons (.var 0) (.cons (.var 1) .nil)))) (.seq (.ite (.bin .gt (.bin .mod (.var 3) (.cst (.int 3))) (.cst (.int 0))) (.seq (.ret (.tup (.cons (.var 5) (.cons (.var 7) .nil)))) .skip) .skip) (.seq (.asg (.nm 4) (.bi .len (.cons (.var 5) .nil))) (.seq (.asg (.nm 5) (.bin .add (.var 5) (.lst (.cons (.tup (.cons (.cst (.str "in")) .nil)) (.cons (.tup (.cons (.cst (.str "keep")) (.cons (.bin .mod (.bin .fdiv (.var 3) (.cst (.int 3))) (.cst (.int 2))) (.cons (.bin .mod (.bin .fdiv (.var 3) (.cst (.int 6))) (.bin .add (.var 4) (.cst (.int 2)))) .nil)))) .nil))))) (.seq (.wp [2] (.for_ (.nm 6) .r1 (.cons (.bin .add (.cst (.int 2)) (.bin .mod (.bin .fdiv (.var 3) (.cst (.int 6000))) (.cst (.int 2)))) .nil) c__law_some_net_b0) [0, 1, 6]) (.seq (.ret (.tup (.cons (.var 5) (.cons (.bin .add (.sli (.var 7) (.cst (.int 1)) .nop) (.lst (.cons (.bin .sub (.bi .len (.cons (.var 5) .nil)) (.cst (.int 1))) (.cons (.bin .add (.var 4) (.bin .mod (.bin .fdiv (.var 3) (.cst (.int 60000))) (.cst (.int 2)))) .nil)))) .nil)))) .skip)))))))
def f__law_some_net : Fn := ⟨8, 3, c__law_some_net⟩
-- _law_some_net: number 301, slots 0 _law_script, 1 _law_at, 2 _law_small, 3 _law_m, 4 _law_place, 5 _law_gates, 6 _law_k, 7 _law_outs,
--   loop 0 (for_): _law_script, _law_at, _law_m, _law_place, _law_gates, _law_outs
def c__law_some_gates : C := (.seq (.asg (.nm 4) (.cal 1 (.cons (.var 0) (.cons (.var 1) .nil)))) (.seq (.asg (.nm 5) (.lc (.var 8) (.nm 8) .r1 (.cons (.bi .len (.cons (.var 2) .nil)) .nil) (.cons (.bin .ne (.var 8) (.var 3)) .nil) [8])) (.seq (.asg (.nm 6) (.sli (.cal 297 (.cons (.var 2) (.cons (.var 3) .nil))) .nop (.un .neg (.cst (.int 1))))) (.seq (.asg (.nm 7) (.sub (.lst (.cons (.var 5) (.cons (.var 6) (.cons (.bi .list (.cons (.sli (.sub (.var 2) (.var 3)) (.cst (.int 1)) .nop) .nil)) (.cons (.var 6) (.cons (.bin .add (.var 5) (.var 6)) .nil)))))) (.bin .mod (.var 4) (.cst (.int 5))))) (.seq (.ite (.bin .eq (.bi .len (.cons (.var 7) .nil)) (.cst (.int 0))) (.seq (.ret (.lst .nil)) .skip) .skip) (.seq (.ite (.ban (.cons (.bin .eq (.bin .mod (.var 4) (.cst (.int 5))) (.cst (.int 2))) (.cons (.bin .gt (.bin .mod (.bin .fdiv (.var 4) (.cst (.int 5))) (.cst (.int 3))) (.cst (.int 0))) .nil))) (.seq (.ret (.var 7)) .skip) .skip) (.seq (.ret (.lc (.sub (.var 7) (.bin .mod (.cal 1 (.cons (.var 0) (.cons (.var 1) .nil))) (.bi .len (.cons (.var 7) .nil)))) (.nm 9) .r1 (.cons (.bin .mod (.bin .fdiv (.var 4) (.cst (.int 5))) (.cst (.int 7))) .nil) .nil [9])) .skip)))))))
def f__law_some_gates : Fn := ⟨10, 4, c__law_some_gates⟩
-- _law_some_gates: number 302, slots 0 _law_script, 1 _law_at, 2 _law_gates, 3 _law_gate, 4 _law_m, 5 _law_others, 6 _law_cone_here, 7 _law_pool, 8 _law_one, 9 _law_k,
def c__law_long_303_b0 : C := (.wp [] (.seq (.asg (.nm 5) (.cal 1 (.cons (.var 0) (.cons (.var 1) .nil)))) (.seq (.asg (.nm 6) (.bin .sub (.bi .len (.cons (.var 3) .nil)) (.cst (.int 1)))) (.seq (.asg (.nm 7) (.bin .sub (.var 6) (.bi .int (.cons (.ban (.cons (.bin .eq (.bin .mod (.var 5) (.cst (.int 5))) (.cst (.int 0))) (.cons (.bin .gt (.var 4) (.cst (.int 0))) .nil))) .nil)))) (.seq (.ex (.mt .append (.var 3) (.cons (.tup (.cons (.sub (.lst (.cons (.cst (.str "and")) (.cons (.cst (.str "or")) (.cons (.cst (.str "xor")) .nil)))) (.bin .mod (.bin .fdiv (.var 5) (.cst (.int 5))) (.cst (.int 3)))) (.cons (.var 6) (.cons (.var 7) .nil)))) .nil))) .skip)))) [4, 5, 6, 7])
def c__law_long_303 : C := (.seq (.asg (.nm 3) (.lst (.cons (.tup (.cons (.cst (.str "in")) .nil)) (.cons (.tup (.cons (.cst (.str "in")) .nil)) (.cons (.tup (.cons (.cst (.str "not")) (.cons (.cst (.int 0)) .nil))) .nil))))) (.seq (.wp [] (.for_ (.nm 4) .r1 (.cons (.var 2) .nil) c__law_long_303_b0) [0, 1, 2, 4, 5, 6, 7]) (.seq (.ret (.var 3)) .skip)))
def f__law_long_303 : Fn := ⟨8, 3, c__law_long_303⟩
-- _law_long: number 303, slots 0 _law_script, 1 _law_at, 2 _law_many, 3 _law_gates, 4 _law_k, 5 _law_m, 6 _law_last, 7 _law_other,
--   loop 0 (for_): _law_script, _law_at, _law_many, _law_gates
def c__law_long_right : C := (.seq (.asg (.nm 2) (.cal 303 (.cons (.var 0) (.cons (.var 1) (.cons (.bin .add (.cst (.int 110)) (.bin .mod (.cal 1 (.cons (.var 0) (.cons (.var 1) .nil))) (.cst (.int 30)))) .nil))))) (.seq (.asg (.nm 3) (.mkR 19 160 (.cons (.var 2) (.cons (.lst .nil) .nil)))) (.seq (.asg (.nm 4) (.bin .sub (.bi .len (.cons (.var 2) .nil)) (.cst (.int 1)))) (.seq (.asg (.nm 5) (.bin .add (.cst (.int 2)) (.bin .mod (.cal 1 (.cons (.var 0) (.cons (.var 1) .nil))) (.cst (.int 100))))) (.seq (.ite (.bor (.cons (.bin .isn (.cal 293 (.cons (.var 3) (.cons (.lst (.cons (.cst (.int 0)) .nil)) (.cons (.var 4) .nil)))) (.cst (.bl true))) (.cons (.bin .isn (.cal 293 (.cons (.var 3) (.cons (.lst (.cons (.cst (.int 1)) .nil)) (.cons (.var 4) .nil)))) (.cst (.bl false))) .nil))) (.seq (.ret (.cst (.bl false))) .skip) .skip) (.seq (.asg (.nm 6) (.cal 295 (.cons (.var 2) (.cons (.lst (.cons (.var 5) (.cons (.cst (.int 1)) .nil))) (.cons (.var 4) .nil))))) (.seq (.ret (.ban (.cons (.bin .is_ (.cal 293 (.cons (.var 3) (.cons (.lst .nil) (.cons (.var 4) .nil)))) (.cst (.bl false))) (.cons (.calP 92 (.cons (.bi .int (.cons (.cal 293 (.cons (.var 3) (.cons (.lst (.cons (.var 5) (.cons (.cst (.int 1)) .nil))) (.cons (.var 4) .nil)))) .nil)) (.cons (.bi .int (.cons (.var 6) .nil)) .nil))) .nil)))) .skip)))))))
def f__law_long_right : Fn := ⟨7, 2, c__law_long_right⟩
-- _law_long_right: number 304, slots 0 _law_script, 1 _law_at, 2 _law_gates, 3 _law_net_here, 4 _law_last, 5 _law_middle, 6 _law_due,
def c_law_305_b0 : C := (.wp [] (.seq (.asg (.nm 13) (.cal 293 (.cons (.var 2) (.cons (.var 12) (.cons (.var 8) .nil))))) (.seq (.ite (.bor (.cons (.nt (.isi (.var 13) [.bool])) (.cons (.bin .ne (.var 13) (.var 11)) .nil))) (.seq (.ret (.cst (.bl false))) .skip) .skip) .skip)) [12, 13])
def c_law_305_b1 : C := (.wp [] (.seq (.ite (.bin .gt (.bi .len (.cons (.var 3) .nil)) (.cst (.int 0))) (.seq (.asg (.nm 8) (.sub (.var 3) (.bin .mod (.cal 1 (.cons (.var 0) (.cons (.var 1) .nil))) (.bi .len (.cons (.var 3) .nil))))) (.seq (.asg (.nm 9) (.cal 302 (.cons (.var 0) (.cons (.var 1) (.cons (.var 5) (.cons (.var 8) .nil)))))) (.seq (.asg (.nm 10) (.bi .list (.cons (.var 9) .nil))) (.seq (.asg (.nm 11) (.cal 295 (.cons (.var 5) (.cons (.var 9) (.cons (.var 8) .nil))))) (.seq (.wp [4, 6, 12, 13] (.for_ (.nm 12) .ex (.cons (.lst (.cons (.var 10) (.cons (.bi .tuple (.cons (.var 9) .nil)) (.cons (.bin .add (.var 9) (.var 9)) .nil)))) .nil) c_law_305_b0) [8, 11, 12, 13]) (.seq (.ite (.bin .ne (.var 10) (.var 9)) (.seq (.ret (.cst (.bl false))) .skip) .skip) .skip)))))) .skip) .skip) [4, 8, 9, 10, 11, 12, 13])
def c_law_305 : C := (.seq (.asg (.nm 1) (.nwc (.lst (.cons (.cst (.int 0)) .nil)))) (.seq (.ite (.nt (.cal 304 (.cons (.var 0) (.cons (.var 1) .nil)))) (.seq (.ret (.cst (.bl false))) .skip) .skip) (.seq (.asg (.tc (.nm 5) (.tc (.nm 6) .tn)) (.cal 301 (.cons (.var 0) (.cons (.var 1) (.cons (.cst (.bl false)) .nil))))) (.seq (.asg (.nm 2) (.mkR 19 160 (.cons (.var 5) (.cons (.var 6) .nil)))) (.seq (.asg (.nm 3) (.lc (.var 7) (.nm 7) .r1 (.cons (.bi .len (.cons (.var 5) .nil)) .nil) (.cons (.nt (.cal 296 (.cons (.var 5) (.cons (.var 7) .nil)))) .nil) [7])) (.seq (.wp [6] (.for_ (.nm 4) .r1 (.cons (.bin .add (.cst (.int 1)) (.bin .mod (.cal 1 (.cons (.var 0) (.cons (.var 1) .nil))) (.cst (.int 8)))) .nil) c_law_305_b1) [0, 1, 2, 3, 4, 5, 8, 9, 10, 11, 12, 13]) (.seq (.ret (.cst (.bl true))) .skip)))))))
def f_law_305 : Fn := ⟨14, 1, c_law_305⟩
-- law: number 305, slots 0 _law_script, 1 _law_at, 2 _law_net_here, 3 _law_loose, 4 _law_k, 5 _law_gates, 6 _law_outs, 7 _law_number, 8 _law_gate, 9 _law_some, 10 _law_handed, 11 _law_due, 12 _law_given, 13 _law_told,
--   loop 0 (for_): _law_script, _law_at, _law_net_here, _law_loose, _law_gates, _law_gate, _law_some, _law_handed, _law_due
--   loop 1 (for_): _law_script, _law_at, _law_net_here, _law_loose, _law_gates
def c_gates_of : C := (.seq (.ret (.lc (.var 2) (.tc (.nm 2) (.tc (.nm 3) .tn)) .enum (.cons (.fld (.var 0) "gates") .nil) (.cons (.bin .eq (.sub (.var 3) (.cst (.int 0))) (.var 1)) .nil) [2, 3])) .skip)
def f_gates_of : Fn := ⟨4, 2, c_gates_of⟩
-- gates_of: number 161, slots 0 net, 1 word, 2 number, 3 gate,
def c_keeps_of : C := (.seq (.ret (.cal 161 (.cons (.var 0) (.cons (.cst (.str "keep")) .nil)))) .skip)
def f_keeps_of : Fn := ⟨1, 1, c_keeps_of⟩
-- keeps_of: number 163, slots 0 net,
def c_bit_told : C := (.seq (.ite (.bor (.cons (.bin .eq (.var 0) (.cst (.str "zero"))) (.cons (.bin .eq (.var 0) (.cst (.str "one"))) .nil))) (.seq (.ret (.bi .int (.cons (.bin .eq (.var 0) (.cst (.str "one"))) .nil))) .skip) .skip) (.seq (.ite (.bin .eq (.var 0) (.cst (.str "not"))) (.seq (.ret (.bin .sub (.cst (.int 1)) (.sub (.var 1) (.cst (.int 0))))) .skip) .skip) (.seq (.ite (.bin .eq (.var 0) (.cst (.str "and"))) (.seq (.ret (.bin .band (.sub (.var 1) (.cst (.int 0))) (.sub (.var 1) (.cst (.int 1))))) .skip) .skip) (.seq (.ite (.bin .eq (.var 0) (.cst (.str "or"))) (.seq (.ret (.bin .bor (.sub (.var 1) (.cst (.int 0))) (.sub (.var 1) (.cst (.int 1))))) .skip) .skip) (.seq (.ite (.bin .eq (.var 0) (.cst (.str "xor"))) (.seq (.ret (.bin .bxor (.sub (.var 1) (.cst (.int 0))) (.sub (.var 1) (.cst (.int 1))))) .skip) .skip) (.seq (.ite (.bin .eq (.sub (.var 1) (.cst (.int 0))) (.cst (.int 1))) (.seq (.ret (.sub (.var 1) (.cst (.int 1)))) .skip) .skip) (.seq (.ret (.sub (.var 1) (.cst (.int 2)))) .skip)))))))
def f_bit_told : Fn := ⟨2, 2, c_bit_told⟩
-- bit_told: number 186, slots 0 word, 1 feeds,
def c_ask_bits_b0 : C := (.wp [] (.seq (.ite (.nt (.cal 158 (.cons (.var 2) (.cons (.cst (.int 2)) .nil)))) (.seq (.rai 5 none (.cst .non)) .skip) .skip) .skip) [2])
def c_ask_bits : C := (.seq (.ite (.bin .ne (.bi .len (.cons (.var 0) .nil)) (.var 1)) (.seq (.rai 5 none (.cst .non)) .skip) .skip) (.seq (.wp [1] (.for_ (.nm 2) .ex (.cons (.var 0) .nil) c_ask_bits_b0) [0, 2]) .skip))
def f_ask_bits : Fn := ⟨3, 2, c_ask_bits⟩
-- ask_bits: number 187, slots 0 row, 1 many, 2 bit,
--   loop 0 (for_): row
def c_NetPlayer_X_mk_init : C := (.seq (.setF (.var 0) "gates" (.fld (.var 1) "gates")) (.seq (.setF (.var 0) "outs" (.fld (.var 1) "outs")) (.seq (.setF (.var 0) "keepers" (.cal 163 (.cons (.var 1) .nil))) (.seq (.setF (.var 0) "kept" (.lc (.sub (.sub (.fld (.var 1) "gates") (.var 2)) (.cst (.int 1))) (.nm 2) .ex (.cons (.fld (.var 0) "keepers") .nil) .nil [2])) (.seq (.setF (.var 0) "last" (.lst .nil)) (.seq (.setF (.var 0) "played" (.cst (.bl false))) .skip))))))
def f_NetPlayer_X_mk_init : Fn := ⟨3, 2, c_NetPlayer_X_mk_init⟩
-- NetPlayer.__init__: number 188, slots 0 self, 1 net, 2 number,
def c_NetPlayer_X_beat_b0 : C := (.wp [] (.seq (.ite (.bin .eq (.sub (.var 5) (.cst (.int 0))) (.cst (.str "in"))) (.seq (.ex (.mt .append (.var 4) (.cons (.mt .pop0 (.var 2) .nil) .nil))) .skip) (.seq (.ite (.bin .eq (.sub (.var 5) (.cst (.int 0))) (.cst (.str "keep"))) (.seq (.ex (.mt .append (.var 4) (.cons (.mt .pop0 (.var 3) .nil) .nil))) .skip) (.seq (.ex (.mt .append (.var 4) (.cons (.cal 186 (.cons (.sub (.var 5) (.cst (.int 0))) (.cons (.lc (.sub (.var 4) (.var 8)) (.nm 8) .ex (.cons (.sli (.var 5) (.cst (.int 1)) .nop) .nil) .nil [8]) .nil))) .nil))) .skip)) .skip)) .skip) [5])
def c_NetPlayer_X_beat : C := (.seq (.ex (.calP 187 (.cons (.var 1) (.cons (.bi .len (.cons (.lc (.var 5) (.nm 5) .ex (.cons (.fld (.var 0) "gates") .nil) (.cons (.bin .eq (.sub (.var 5) (.cst (.int 0))) (.cst (.str "in"))) .nil) [5]) .nil)) .nil)))) (.seq (.asg (.nm 2) (.lrv (.var 1))) (.seq (.asg (.nm 3) (.lrv (.fld (.var 0) "kept"))) (.seq (.asg (.nm 4) (.lst .nil)) (.seq (.wp [1] (.for_ (.nm 5) .ex (.cons (.fld (.var 0) "gates") .nil) c_NetPlayer_X_beat_b0) [2, 3, 5]) (.seq (.setF (.var 0) "kept" (.lc (.sub (.var 4) (.sub (.sub (.fld (.var 0) "gates") (.var 6)) (.cst (.int 2)))) (.nm 6) .ex (.cons (.fld (.var 0) "keepers") .nil) .nil [6])) (.seq (.setF (.var 0) "last" (.var 4)) (.seq (.setF (.var 0) "played" (.cst (.bl true))) (.seq (.ret (.lc (.sub (.var 4) (.var 7)) (.nm 7) .ex (.cons (.fld (.var 0) "outs") .nil) .nil [7])) .skip)))))))))
def f_NetPlayer_X_beat : Fn := ⟨9, 2, c_NetPlayer_X_beat⟩
-- NetPlayer.beat: number 189, slots 0 self, 1 row, 2 fed, 3 held_bits, 4 bits, 5 gate, 6 number, 7 out, 8 feed,
--   loop 0 (for_): self, fed, held_bits, bits
def c_NetPlayer_X_held : C := (.seq (.ret (.bi .list (.cons (.fld (.var 0) "kept") .nil))) .skip)
def f_NetPlayer_X_held : Fn := ⟨1, 1, c_NetPlayer_X_held⟩
-- NetPlayer.held: number 191, slots 0 self,
def c_NetPlayer_X_bits_now_198 : C := (.seq (.ite (.nt (.fld (.var 0) "played")) (.seq (.rai 5 none (.cst .non)) .skip) .skip) (.seq (.ret (.bi .list (.cons (.fld (.var 0) "last") .nil))) .skip))
def f_NetPlayer_X_bits_now_198 : Fn := ⟨1, 1, c_NetPlayer_X_bits_now_198⟩
-- NetPlayer.bits_now: number 198, slots 0 self,
def c__law_played_200_b0 : C := (.wp [] (.seq (.asg (.nm 7) (.sub (.var 5) (.cst (.int 0)))) (.seq (.ite (.bin .eq (.var 7) (.cst (.str "in"))) (.seq (.ex (.mt .append (.var 4) (.cons (.sub (.var 3) (.bi .len (.cons (.lc (.var 9) (.nm 9) .ex (.cons (.sli (.var 0) .nop (.bi .len (.cons (.var 4) .nil))) .nil) (.cons (.bin .eq (.sub (.var 9) (.cst (.int 0))) (.cst (.str "in"))) .nil) [9]) .nil))) .nil))) .skip) (.seq (.ite (.bin .eq (.var 7) (.cst (.str "keep"))) (.seq (.ex (.mt .append (.var 4) (.cons (.sub (.var 2) (.bi .len (.cons (.lc (.var 9) (.nm 9) .ex (.cons (.sli (.var 0) .nop (.bi .len (.cons (.var 4) .nil))) .nil) (.cons (.bin .eq (.sub (.var 9) (.cst (.int 0))) (.cst (.str "keep"))) .nil) [9]) .nil))) .nil))) .skip) (.seq (.ite (.bor (.cons (.bin .eq (.var 7) (.cst (.str "zero"))) (.cons (.bin .eq (.var 7) (.cst (.str "one"))) .nil))) (.seq (.ex (.mt .append (.var 4) (.cons (.bi .int (.cons (.bin .eq (.var 7) (.cst (.str "one"))) .nil)) .nil))) .skip) (.seq (.ite (.bin .eq (.var 7) (.cst (.str "not"))) (.seq (.ex (.mt .append (.var 4) (.cons (.bin .sub (.cst (.int 1)) (.sub (.var 4) (.sub (.var 5) (.cst (.int 1))))) .nil))) .skip) (.seq (.ite (.bin .eq (.var 7) (.cst (.str "and"))) (.seq (.ex (.mt .append (.var 4) (.cons (.bin .mul (.sub (.var 4) (.sub (.var 5) (.cst (.int 1)))) (.sub (.var 4) (.sub (.var 5) (.cst (.int 2))))) .nil))) .skip) (.seq (.ite (.bin .eq (.var 7) (.cst (.str "or"))) (.seq (.ex (.mt .append (.var 4) (.cons (.bi .max2 (.cons (.sub (.var 4) (.sub (.var 5) (.cst (.int 1)))) (.cons (.sub (.var 4) (.sub (.var 5) (.cst (.int 2)))) .nil))) .nil))) .skip) (.seq (.ite (.bin .eq (.var 7) (.cst (.str "xor"))) (.seq (.ex (.mt .append (.var 4) (.cons (.bin .mod (.bin .add (.sub (.var 4) (.sub (.var 5) (.cst (.int 1)))) (.sub (.var 4) (.sub (.var 5) (.cst (.int 2))))) (.cst (.int 2))) .nil))) .skip) (.seq (.ex (.mt .append (.var 4) (.cons (.ife (.bin .eq (.sub (.var 4) (.sub (.var 5) (.cst (.int 1)))) (.cst (.int 1))) (.sub (.var 4) (.sub (.var 5) (.cst (.int 2)))) (.sub (.var 4) (.sub (.var 5) (.cst (.int 3))))) .nil))) .skip)) .skip)) .skip)) .skip)) .skip)) .skip)) .skip)) .skip)) [5, 7])
def c__law_played_200 : C := (.seq (.asg (.nm 4) (.lst .nil)) (.seq (.wp [] (.for_ (.nm 5) .ex (.cons (.var 0) .nil) c__law_played_200_b0) [2, 3, 5, 7]) (.seq (.asg (.nm 6) (.lc (.sub (.var 4) (.sub (.var 5) (.cst (.int 2)))) (.nm 5) .ex (.cons (.var 0) .nil) (.cons (.bin .eq (.sub (.var 5) (.cst (.int 0))) (.cst (.str "keep"))) .nil) [5])) (.seq (.ret (.tup (.cons (.var 4) (.cons (.lc (.sub (.var 4) (.var 8)) (.nm 8) .ex (.cons (.var 1) .nil) .nil [8]) (.cons (.var 6) .nil))))) .skip))))
def f__law_played_200 : Fn := ⟨10, 4, c__law_played_200⟩
-- _law_played: number 200, slots 0 _law_gates, 1 _law_outs, 2 _law_held_bits, 3 _law_row_here, 4 _law_bits, 5 _law_gate, 6 _law_later, 7 _law_word, 8 _law_out, 9 _law_one,
--   loop 0 (for_): _law_gates, _law_outs, _law_held_bits, _law_row_here, _law_bits
def c__law_case_201 : C := (.seq (.asg (.nm 2) (.cal 1 (.cons (.var 0) (.cons (.var 1) .nil)))) (.seq (.par 3 4 (.bin .mod (.var 2) (.cst (.int 5))) (.bin .mod (.bin .fdiv (.var 2) (.cst (.int 5))) (.cst (.int 5)))) (.seq (.ite (.bin .eq (.bin .mod (.bin .fdiv (.var 2) (.cst (.int 700))) (.cst (.int 4))) (.cst (.int 0))) (.seq (.par 3 4 (.bin .add (.cst (.int 7)) (.bin .mod (.bin .fdiv (.var 2) (.cst (.int 3000))) (.cst (.int 6)))) (.bin .add (.cst (.int 7)) (.bin .mod (.bin .fdiv (.var 2) (.cst (.int 20000))) (.cst (.int 6))))) .skip) .skip) (.seq (.asg (.tc (.nm 5) (.tc (.nm 6) .tn)) (.cal 165 (.cons (.var 0) (.cons (.var 1) (.cons (.var 3) (.cons (.var 4) (.cons (.bin .mod (.bin .fdiv (.var 2) (.cst (.int 25))) (.cst (.int 25))) .nil))))))) (.seq (.ite (.bin .eq (.bin .mod (.bin .fdiv (.var 2) (.cst (.int 2800))) (.cst (.int 3))) (.cst (.int 0))) (.seq (.asg (.nm 5) (.bin .add (.var 5) (.lst (.cons (.tup (.cons (.cst (.str "in")) .nil)) (.cons (.tup (.cons (.cst (.str "keep")) (.cons (.bin .mod (.bin .fdiv (.var 2) (.cst (.int 9000))) (.cst (.int 2))) (.cons (.bin .mod (.bin .fdiv (.var 2) (.cst (.int 18000))) (.bin .add (.bi .len (.cons (.var 5) .nil)) (.cst (.int 1)))) .nil)))) .nil))))) (.seq (.asg (.nm 6) (.bin .add (.var 6) (.lst (.cons (.bin .sub (.bi .len (.cons (.var 5) .nil)) (.cst (.int 1))) (.cons (.bin .sub (.bi .len (.cons (.var 5) .nil)) (.cst (.int 2))) .nil))))) (.seq (.asg (.nm 3) (.bin .add (.var 3) (.cst (.int 1)))) .skip))) .skip) (.seq (.ite (.bin .eq (.bin .mod (.bin .fdiv (.var 2) (.cst (.int 700))) (.cst (.int 4))) (.cst (.int 0))) (.seq (.asg (.nm 6) (.sli (.bin .mul (.var 6) (.cst (.int 12))) .nop (.bin .add (.cst (.int 7)) (.bin .mod (.bin .fdiv (.var 2) (.cst (.int 90000))) (.cst (.int 6)))))) .skip) .skip) (.seq (.ret (.tup (.cons (.var 5) (.cons (.var 6) (.cons (.var 3) .nil))))) .skip)))))))
def f__law_case_201 : Fn := ⟨7, 2, c__law_case_201⟩
-- _law_case: number 201, slots 0 _law_script, 1 _law_at, 2 _law_m, 3 _law_ins, 4 _law_keeps, 5 _law_gates, 6 _law_outs,
def c__law_row_202_b0 : C := (.wp [] (.seq (.ex (.mt .append (.var 2) (.cons (.bin .mod (.var 0) (.cst (.int 2))) .nil))) (.seq (.asg (.nm 0) (.bin .fdiv (.var 0) (.cst (.int 2)))) .skip)) [3])
def c__law_row_202 : C := (.seq (.asg (.nm 2) (.lst .nil)) (.seq (.wp [] (.for_ (.nm 3) .r1 (.cons (.var 1) .nil) c__law_row_202_b0) [0, 1, 3]) (.seq (.ret (.var 2)) .skip)))
def f__law_row_202 : Fn := ⟨4, 2, c__law_row_202⟩
-- _law_row: number 202, slots 0 _law_cell, 1 _law_many, 2 _law_row_here, 3 _law_k,
--   loop 0 (for_): _law_cell, _law_many, _law_row_here
def c_law_203_b0 : C := (.wp [] (.seq (.asg (.nm 11) (.cal 202 (.cons (.var 7) (.cons (.var 10) .nil)))) (.seq (.asg (.tc (.nm 15) (.tc (.nm 16) (.tc (.nm 17) .tn))) (.cal 200 (.cons (.var 8) (.cons (.var 9) (.cons (.var 5) (.cons (.var 11) .nil)))))) (.seq (.asg (.nm 12) (.nwc (.bi .list (.cons (.var 11) .nil)))) (.seq (.asg (.nm 13) (.nwc (.ife (.bin .gt (.bin .mod (.var 7) (.cst (.int 3))) (.cst (.int 0))) (.met 189 "beat" 21 (.var 3) (.cons (.var 12) .nil)) (.met 189 "beat" 21 (.var 3) (.cons (.bi .tuple (.cons (.var 12) .nil)) .nil))))) (.seq (.ex (.mt .append (.var 12) (.cons (.cst (.int 2)) .nil))) (.seq (.ite (.bor (.cons (.nt (.calP 92 (.cons (.var 13) (.cons (.var 16) .nil)))) (.cons (.nt (.calP 92 (.cons (.met 198 "bits_now" 21 (.var 3) .nil) (.cons (.var 15) .nil)))) .nil))) (.seq (.ret (.cst (.bl false))) .skip) .skip) (.seq (.ex (.mt .append (.nwc (.met 198 "bits_now" 21 (.var 3) .nil)) (.cons (.cst (.int 9)) .nil))) (.seq (.ex (.mt .append (.nwc (.met 191 "held" 21 (.var 3) .nil)) (.cons (.cst (.int 9)) .nil))) (.seq (.ex (.mt .append (.var 13) (.cons (.cst (.int 9)) .nil))) (.seq (.ite (.bor (.cons (.nt (.calP 92 (.cons (.met 191 "held" 21 (.var 3) .nil) (.cons (.var 17) .nil)))) (.cons (.nt (.calP 92 (.cons (.met 198 "bits_now" 21 (.var 3) .nil) (.cons (.var 15) .nil)))) .nil))) (.seq (.ret (.cst (.bl false))) .skip) .skip) (.seq (.ite (.ban (.cons (.bin .isn (.var 6) (.cst .non)) (.cons (.nt (.calP 92 (.cons (.met 189 "beat" 21 (.var 4) (.cons (.sub (.var 6) (.cst (.int 0))) .nil)) (.cons (.sub (.var 6) (.cst (.int 1))) .nil)))) .nil))) (.seq (.ret (.cst (.bl false))) .skip) .skip) (.seq (.asg (.nm 6) (.tup (.cons (.var 11) (.cons (.var 16) .nil)))) (.seq (.asg (.nm 5) (.var 17)) .skip))))))))))))) [7, 11, 12, 13, 15, 16, 17])
def c_law_203 : C := (.seq (.asg (.nm 1) (.nwc (.lst (.cons (.cst (.int 0)) .nil)))) (.seq (.asg (.tc (.nm 8) (.tc (.nm 9) (.tc (.nm 10) .tn))) (.cal 201 (.cons (.var 0) (.cons (.var 1) .nil)))) (.seq (.asg (.nm 2) (.mkR 19 160 (.cons (.var 8) (.cons (.var 9) .nil)))) (.seq (.asg (.nm 3) (.mkC 21 188 (.cons (.var 2) .nil))) (.seq (.asg (.nm 4) (.mkC 21 188 (.cons (.var 2) .nil))) (.seq (.asg (.nm 5) (.lc (.sub (.var 14) (.cst (.int 1))) (.nm 14) .ex (.cons (.var 8) .nil) (.cons (.bin .eq (.sub (.var 14) (.cst (.int 0))) (.cst (.str "keep"))) .nil) [14])) (.seq (.ite (.nt (.calP 92 (.cons (.met 191 "held" 21 (.var 3) .nil) (.cons (.var 5) .nil)))) (.seq (.ret (.cst (.bl false))) .skip) .skip) (.seq (.asg (.nm 6) (.cst .non)) (.seq (.wp [1, 2] (.for_ (.nm 7) .ex (.cons (.bin .add (.sli (.var 0) .nop (.cst (.int 63))) (.lst (.cons (.cst (.int 5)) .nil))) .nil) c_law_203_b0) [0, 3, 4, 5, 6, 7, 8, 9, 10, 11, 12, 13, 15, 16, 17]) (.seq (.ret (.cst (.bl true))) .skip))))))))))
def f_law_203 : Fn := ⟨18, 1, c_law_203⟩
-- law: number 203, slots 0 _law_script, 1 _law_at, 2 _law_net_here, 3 _law_player, 4 _law_other, 5 _law_kept, 6 _law_last, 7 _law_cell, 8 _law_gates, 9 _law_outs, 10 _law_ins, 11 _law_row_here, 12 _law_given, 13 _law_found, 14 _law_gate, 15 _law_bits, 16 _law_due, 17 _law_later,
--   loop 0 (for_): _law_script, _law_player, _law_other, _law_kept, _law_last, _law_gates, _law_outs, _law_ins
def c_ins_of : C := (.seq (.ret (.cal 161 (.cons (.var 0) (.cons (.cst (.str "in")) .nil)))) .skip)
def f_ins_of : Fn := ⟨1, 1, c_ins_of⟩
-- ins_of: number 162, slots 0 net,
def c_things_in : C := (.seq (.ite (.isi (.var 0) [.list, .tuple]) (.seq (.ret (.bi .list (.cons (.var 0) .nil))) .skip) .skip) (.seq (.ret (.cst .non)) .skip))
def f_things_in : Fn := ⟨1, 1, c_things_in⟩
-- things_in: number 227, slots 0 thing,
def c_gates_with_b0 : C := (.wp [] (.seq (.asg (.nm 5) (.cal 227 (.cons (.var 3) .nil))) (.seq (.ite (.bin .is_ (.var 5) (.cst .non)) (.seq (.ret (.cst .non)) .skip) .skip) (.seq (.ex (.mt .append (.var 2) (.cons (.bi .tuple (.cons (.var 5) .nil)) .nil))) .skip))) [3, 5])
def c_gates_with_b1 : C := (.wp [] (.seq (.ite (.bor (.cons (.nt (.cal 159 (.cons (.sub (.var 2) (.var 4)) (.cons (.var 4) (.cons (.bi .len (.cons (.var 2) .nil)) .nil))))) (.cons (.bin .eq (.sub (.sub (.var 2) (.var 4)) (.cst (.int 0))) (.cst (.str "in"))) .nil))) (.seq (.ret (.cst .non)) .skip) .skip) .skip) [4])
def c_gates_with : C := (.seq (.asg (.nm 2) (.bi .list (.cons (.fld (.var 0) "gates") .nil))) (.seq (.wp [] (.for_ (.nm 3) .ex (.cons (.var 1) .nil) c_gates_with_b0) [1, 3, 5]) (.seq (.wp [1, 3, 5] (.for_ (.nm 4) .r2 (.cons (.bi .len (.cons (.fld (.var 0) "gates") .nil)) (.cons (.bi .len (.cons (.var 2) .nil)) .nil)) c_gates_with_b1) [0, 4]) (.seq (.ret (.var 2)) .skip))))
def f_gates_with : Fn := ⟨6, 2, c_gates_with⟩
-- gates_with: number 228, slots 0 small, 1 lost, 2 gates, 3 thing, 4 number, 5 parts,
--   loop 0 (for_): small, lost, gates
--   loop 1 (for_): small, gates
def c_pairs_in_b0 : C := (.wp [] (.seq (.asg (.nm 4) (.cal 227 (.cons (.var 3) .nil))) (.seq (.ite (.bin .is_ (.var 3) (.cst .non)) (.seq (.ex (.mt .append (.var 2) (.cons (.cst .non) .nil))) .skip) (.seq (.ite (.bor (.cons (.bin .is_ (.var 4) (.cst .non)) (.cons (.bin .ne (.bi .len (.cons (.var 4) .nil)) (.cst (.int 2))) (.cons (.nt (.cal 158 (.cons (.sub (.var 4) (.cst (.int 0))) (.cons (.var 1) .nil)))) (.cons (.nt (.isi (.sub (.var 4) (.cst (.int 1))) [.str])) .nil))))) (.seq (.ret (.cst .non)) .skip) (.seq (.ex (.mt .append (.var 2) (.cons (.tup (.cons (.sub (.var 4) (.cst (.int 0))) (.cons (.sub (.var 4) (.cst (.int 1))) .nil))) .nil))) .skip)) .skip)) .skip)) [3, 4])
def c_pairs_in : C := (.seq (.asg (.nm 2) (.lst .nil)) (.seq (.wp [] (.for_ (.nm 3) .ex (.cons (.var 0) .nil) c_pairs_in_b0) [0, 1, 3, 4]) (.seq (.ret (.var 2)) .skip)))
def f_pairs_in : Fn := ⟨5, 2, c_pairs_in⟩
-- pairs_in: number 229, slots 0 things, 1 many, 2 pairs, 3 thing, 4 parts,
--   loop 0 (for_): things, many, pairs
def c_is_word_at : C := (.seq (.ret (.bin .eq (.sub (.sub (.var 0) (.var 1)) (.cst (.int 0))) (.var 2))) .skip)
def f_is_word_at : Fn := ⟨3, 3, c_is_word_at⟩
-- is_word_at: number 230, slots 0 gates, 1 number, 2 word,
def c_are_nots : C := (.seq (.ret (.bor (.cons (.bin .eq (.sub (.var 0) (.var 1)) (.tup (.cons (.cst (.str "not")) (.cons (.var 2) .nil)))) (.cons (.bin .eq (.sub (.var 0) (.var 2)) (.tup (.cons (.cst (.str "not")) (.cons (.var 1) .nil)))) .nil)))) .skip)
def f_are_nots : Fn := ⟨3, 3, c_are_nots⟩
-- are_nots: number 231, slots 0 gates, 1 one, 2 other,
def c_not_shown : C := (.seq (.ite (.bin .eq (.var 2) (.cst (.str "inner"))) (.seq (.ret (.bin .eq (.sub (.var 0) (.var 3)) (.tup (.cons (.cst (.str "not")) (.cons (.var 1) .nil))))) .skip) .skip) (.seq (.ite (.bin .eq (.var 2) (.cst (.str "one"))) (.seq (.ret (.ban (.cons (.cal 230 (.cons (.var 0) (.cons (.var 3) (.cons (.cst (.str "zero")) .nil)))) (.cons (.cal 230 (.cons (.var 0) (.cons (.var 1) (.cons (.cst (.str "one")) .nil)))) .nil)))) .skip) .skip) (.seq (.ret (.ban (.cons (.bin .eq (.var 2) (.cst (.str "zero"))) (.cons (.cal 230 (.cons (.var 0) (.cons (.var 3) (.cons (.cst (.str "one")) .nil)))) (.cons (.cal 230 (.cons (.var 0) (.cons (.var 1) (.cons (.cst (.str "zero")) .nil)))) .nil))))) .skip)))
def f_not_shown : Fn := ⟨4, 4, c_not_shown⟩
-- not_shown: number 232, slots 0 gates, 1 number, 2 why, 3 x,
def c_both_shown : C := (.seq (.ite (.bin .eq (.var 2) (.cst (.str "first"))) (.seq (.ret (.ban (.cons (.bin .eq (.var 1) (.var 3)) (.cons (.bor (.cons (.bin .eq (.var 3) (.var 4)) (.cons (.cal 230 (.cons (.var 0) (.cons (.var 4) (.cons (.var 5) .nil)))) .nil))) .nil)))) .skip) .skip) (.seq (.ite (.bin .eq (.var 2) (.cst (.str "second"))) (.seq (.ret (.ban (.cons (.bin .eq (.var 1) (.var 4)) (.cons (.cal 230 (.cons (.var 0) (.cons (.var 3) (.cons (.var 5) .nil)))) .nil)))) .skip) .skip) (.seq (.ite (.bor (.cons (.bin .ne (.var 2) (.var 6)) (.cons (.nt (.cal 230 (.cons (.var 0) (.cons (.var 1) (.cons (.var 6) .nil))))) .nil))) (.seq (.ret (.cst (.bl false))) .skip) .skip) (.seq (.ret (.bor (.cons (.cal 230 (.cons (.var 0) (.cons (.var 3) (.cons (.var 6) .nil)))) (.cons (.cal 230 (.cons (.var 0) (.cons (.var 4) (.cons (.var 6) .nil)))) (.cons (.cal 231 (.cons (.var 0) (.cons (.var 3) (.cons (.var 4) .nil)))) .nil))))) .skip))))
def f_both_shown : Fn := ⟨7, 7, c_both_shown⟩
-- both_shown: number 233, slots 0 gates, 1 number, 2 why, 3 x, 4 y, 5 weak, 6 strong,
def c_xor_shown : C := (.seq (.ite (.bin .eq (.var 2) (.cst (.str "first"))) (.seq (.ret (.ban (.cons (.bin .eq (.var 1) (.var 3)) (.cons (.cal 230 (.cons (.var 0) (.cons (.var 4) (.cons (.cst (.str "zero")) .nil)))) .nil)))) .skip) .skip) (.seq (.ite (.bin .eq (.var 2) (.cst (.str "second"))) (.seq (.ret (.ban (.cons (.bin .eq (.var 1) (.var 4)) (.cons (.cal 230 (.cons (.var 0) (.cons (.var 3) (.cons (.cst (.str "zero")) .nil)))) .nil)))) .skip) .skip) (.seq (.ite (.bin .eq (.var 2) (.cst (.str "zero"))) (.seq (.ret (.ban (.cons (.bin .eq (.var 3) (.var 4)) (.cons (.cal 230 (.cons (.var 0) (.cons (.var 1) (.cons (.cst (.str "zero")) .nil)))) .nil)))) .skip) .skip) (.seq (.ite (.bin .eq (.var 2) (.cst (.str "one"))) (.seq (.ret (.ban (.cons (.cal 231 (.cons (.var 0) (.cons (.var 3) (.cons (.var 4) .nil)))) (.cons (.cal 230 (.cons (.var 0) (.cons (.var 1) (.cons (.cst (.str "one")) .nil)))) .nil)))) .skip) .skip) (.seq (.ite (.bin .ne (.var 2) (.cst (.str "not"))) (.seq (.ret (.cst (.bl false))) .skip) .skip) (.seq (.ite (.ban (.cons (.cal 230 (.cons (.var 0) (.cons (.var 4) (.cons (.cst (.str "one")) .nil)))) (.cons (.cal 231 (.cons (.var 0) (.cons (.var 1) (.cons (.var 3) .nil)))) .nil))) (.seq (.ret (.cst (.bl true))) .skip) .skip) (.seq (.ret (.ban (.cons (.cal 230 (.cons (.var 0) (.cons (.var 3) (.cons (.cst (.str "one")) .nil)))) (.cons (.cal 231 (.cons (.var 0) (.cons (.var 1) (.cons (.var 4) .nil)))) .nil)))) .skip)))))))
def f_xor_shown : Fn := ⟨5, 5, c_xor_shown⟩
-- xor_shown: number 234, slots 0 gates, 1 number, 2 why, 3 x, 4 y,
def c_pick_shown : C := (.seq (.ite (.bin .eq (.var 2) (.cst (.str "second"))) (.seq (.ret (.ban (.cons (.bin .eq (.var 1) (.var 4)) (.cons (.bor (.cons (.bin .eq (.var 4) (.var 5)) (.cons (.cal 230 (.cons (.var 0) (.cons (.var 3) (.cons (.cst (.str "one")) .nil)))) .nil))) .nil)))) .skip) .skip) (.seq (.ite (.bin .eq (.var 2) (.cst (.str "third"))) (.seq (.ret (.ban (.cons (.bin .eq (.var 1) (.var 5)) (.cons (.cal 230 (.cons (.var 0) (.cons (.var 3) (.cons (.cst (.str "zero")) .nil)))) .nil)))) .skip) .skip) (.seq (.ite (.bin .eq (.var 2) (.cst (.str "first"))) (.seq (.ret (.ban (.cons (.bin .eq (.var 1) (.var 3)) (.cons (.cal 230 (.cons (.var 0) (.cons (.var 4) (.cons (.cst (.str "one")) .nil)))) (.cons (.cal 230 (.cons (.var 0) (.cons (.var 5) (.cons (.cst (.str "zero")) .nil)))) .nil))))) .skip) .skip) (.seq (.ite (.bor (.cons (.bin .ne (.var 2) (.cst (.str "not"))) (.cons (.nt (.cal 231 (.cons (.var 0) (.cons (.var 1) (.cons (.var 3) .nil))))) .nil))) (.seq (.ret (.cst (.bl false))) .skip) .skip) (.seq (.ret (.ban (.cons (.cal 230 (.cons (.var 0) (.cons (.var 4) (.cons (.cst (.str "zero")) .nil)))) (.cons (.cal 230 (.cons (.var 0) (.cons (.var 5) (.cons (.cst (.str "one")) .nil)))) .nil)))) .skip)))))
def f_pick_shown : Fn := ⟨6, 6, c_pick_shown⟩
-- pick_shown: number 235, slots 0 gates, 1 number, 2 why, 3 x, 4 y, 5 z,
def c_word_shown : C := (.seq (.ite (.bin .eq (.var 4) (.cst (.str "same"))) (.seq (.ret (.bin .eq (.sub (.var 0) (.var 3)) (.bin .add (.tup (.cons (.var 1) .nil)) (.bi .tuple (.cons (.var 2) .nil))))) .skip) .skip) (.seq (.ite (.ban (.cons (.bin .eq (.var 4) (.cst (.str "turned"))) (.cons (.bin .in_ (.var 1) (.tup (.cons (.cst (.str "and")) (.cons (.cst (.str "or")) (.cons (.cst (.str "xor")) .nil))))) .nil))) (.seq (.ret (.bin .eq (.sub (.var 0) (.var 3)) (.tup (.cons (.var 1) (.cons (.sub (.var 2) (.cst (.int 1))) (.cons (.sub (.var 2) (.cst (.int 0))) .nil)))))) .skip) .skip) (.seq (.ite (.bin .eq (.var 1) (.cst (.str "not"))) (.seq (.ret (.cal 232 (.cons (.var 0) (.cons (.var 3) (.cons (.var 4) (.cons (.sub (.var 2) (.cst (.int 0))) .nil)))))) .skip) .skip) (.seq (.ite (.bin .eq (.var 1) (.cst (.str "and"))) (.seq (.ret (.cal 233 (.cons (.var 0) (.cons (.var 3) (.cons (.var 4) (.cons (.sub (.var 2) (.cst (.int 0))) (.cons (.sub (.var 2) (.cst (.int 1))) (.cons (.cst (.str "one")) (.cons (.cst (.str "zero")) .nil))))))))) .skip) .skip) (.seq (.ite (.bin .eq (.var 1) (.cst (.str "or"))) (.seq (.ret (.cal 233 (.cons (.var 0) (.cons (.var 3) (.cons (.var 4) (.cons (.sub (.var 2) (.cst (.int 0))) (.cons (.sub (.var 2) (.cst (.int 1))) (.cons (.cst (.str "zero")) (.cons (.cst (.str "one")) .nil))))))))) .skip) .skip) (.seq (.ite (.bin .eq (.var 1) (.cst (.str "xor"))) (.seq (.ret (.cal 234 (.cons (.var 0) (.cons (.var 3) (.cons (.var 4) (.cons (.sub (.var 2) (.cst (.int 0))) (.cons (.sub (.var 2) (.cst (.int 1))) .nil))))))) .skip) .skip) (.seq (.ret (.ban (.cons (.bin .eq (.var 1) (.cst (.str "pick"))) (.cons (.cal 235 (.cons (.var 0) (.cons (.var 3) (.cons (.var 4) (.cons (.sub (.var 2) (.cst (.int 0))) (.cons (.sub (.var 2) (.cst (.int 1))) (.cons (.sub (.var 2) (.cst (.int 2))) .nil))))))) .nil)))) .skip)))))))
def f_word_shown : Fn := ⟨5, 5, c_word_shown⟩
-- word_shown: number 236, slots 0 gates, 1 word, 2 some, 3 number, 4 why,
def c_gate_shown : C := (.seq (.asg (.nm 4) (.lc (.sub (.var 1) (.var 6)) (.nm 6) .ex (.cons (.cal 164 (.cons (.var 2) .nil)) .nil) .nil [6])) (.seq (.ite (.bin .in_ (.cst .non) (.var 4)) (.seq (.ret (.cst (.bl false))) .skip) .skip) (.seq (.asg (.nm 5) (.lc (.sub (.var 7) (.cst (.int 0))) (.nm 7) .ex (.cons (.var 4) .nil) .nil [7])) (.seq (.ite (.bin .eq (.sub (.var 2) (.cst (.int 0))) (.cst (.str "keep"))) (.seq (.ret (.ban (.cons (.bin .eq (.sub (.var 3) (.cst (.int 1))) (.cst (.str "keep"))) (.cons (.bin .eq (.sub (.var 0) (.sub (.var 3) (.cst (.int 0)))) (.tup (.cons (.cst (.str "keep")) (.cons (.sub (.var 2) (.cst (.int 1))) (.cons (.sub (.var 5) (.cst (.int 0))) .nil))))) .nil)))) .skip) .skip) (.seq (.ret (.cal 236 (.cons (.var 0) (.cons (.sub (.var 2) (.cst (.int 0))) (.cons (.var 5) (.cons (.sub (.var 3) (.cst (.int 0))) (.cons (.sub (.var 3) (.cst (.int 1))) .nil))))))) .skip)))))
def f_gate_shown : Fn := ⟨8, 4, c_gate_shown⟩
-- gate_shown: number 237, slots 0 gates, 1 pairs, 2 gate, 3 pair, 4 feeding, 5 some, 6 feed, 7 one,
def c_ends_agree_b0 : C := (.wp [] (.seq (.ite (.bin .ne (.sub (.var 2) (.var 5)) (.tup (.cons (.var 6) (.cons (.cst (.str "in")) .nil)))) (.seq (.ret (.cst (.bl false))) .skip) .skip) .skip) [5, 6])
def c_ends_agree_b1 : C := (.wp [] (.seq (.ite (.bor (.cons (.bin .is_ (.sub (.var 2) (.var 7)) (.cst .non)) (.cons (.bin .ne (.sub (.sub (.var 2) (.var 7)) (.cst (.int 0))) (.var 8)) .nil))) (.seq (.ret (.cst (.bl false))) .skip) .skip) .skip) [7, 8])
def c_ends_agree : C := (.seq (.asg (.nm 3) (.cal 162 (.cons (.var 0) .nil))) (.seq (.asg (.nm 4) (.cal 162 (.cons (.var 1) .nil))) (.seq (.ite (.bor (.cons (.bin .ne (.bi .len (.cons (.var 3) .nil)) (.bi .len (.cons (.var 4) .nil))) (.cons (.bin .ne (.bi .len (.cons (.fld (.var 0) "outs") .nil)) (.bi .len (.cons (.fld (.var 1) "outs") .nil))) .nil))) (.seq (.ret (.cst (.bl false))) .skip) .skip) (.seq (.wp [] (.for_ (.tc (.nm 5) (.tc (.nm 6) .tn)) .zip (.cons (.var 3) (.cons (.var 4) .nil)) c_ends_agree_b0) [3, 4, 5, 6]) (.seq (.wp [3, 4, 5, 6] (.for_ (.tc (.nm 7) (.tc (.nm 8) .tn)) .zip (.cons (.fld (.var 0) "outs") (.cons (.fld (.var 1) "outs") .nil)) c_ends_agree_b1) [0, 1, 2, 7, 8]) (.seq (.ret (.cst (.bl true))) .skip))))))
def f_ends_agree : Fn := ⟨9, 3, c_ends_agree⟩
-- ends_agree: number 238, slots 0 net, 1 small, 2 pairs, 3 fed, 4 small_fed, 5 number, 6 small_number, 7 out, 8 small_out,
--   loop 0 (for_): net, small, pairs, fed, small_fed
--   loop 1 (for_): net, small, pairs
def c_small_holds_b0 : C := (.wp [] (.seq (.ite (.ban (.cons (.bin .ne (.sub (.var 8) (.cst (.int 0))) (.cst (.str "in"))) (.cons (.bin .isn (.var 9) (.cst .non)) (.cons (.nt (.cal 237 (.cons (.var 6) (.cons (.var 7) (.cons (.var 8) (.cons (.var 9) .nil)))))) .nil)))) (.seq (.ret (.cst (.bl false))) .skip) .skip) .skip) [8, 9])
def c_small_holds : C := (.seq (.asg (.nm 3) (.cal 227 (.cons (.var 2) .nil))) (.seq (.ite (.bor (.cons (.bin .is_ (.var 3) (.cst .non)) (.cons (.bin .ne (.bi .len (.cons (.var 3) .nil)) (.cst (.int 2))) .nil))) (.seq (.ret (.cst (.bl false))) .skip) .skip) (.seq (.asg (.nm 4) (.cal 227 (.cons (.sub (.var 3) (.cst (.int 0))) .nil))) (.seq (.asg (.nm 5) (.cal 227 (.cons (.sub (.var 3) (.cst (.int 1))) .nil))) (.seq (.ite (.bor (.cons (.bin .is_ (.var 4) (.cst .non)) (.cons (.bin .is_ (.var 5) (.cst .non)) (.cons (.bin .ne (.bi .len (.cons (.var 5) .nil)) (.bi .len (.cons (.fld (.var 0) "gates") .nil))) .nil)))) (.seq (.ret (.cst (.bl false))) .skip) .skip) (.seq (.asg (.nm 6) (.cal 228 (.cons (.var 1) (.cons (.var 4) .nil)))) (.seq (.ite (.bin .is_ (.var 6) (.cst .non)) (.seq (.ret (.cst (.bl false))) .skip) .skip) (.seq (.asg (.nm 7) (.cal 229 (.cons (.var 5) (.cons (.bi .len (.cons (.var 6) .nil)) .nil)))) (.seq (.ite (.bor (.cons (.bin .is_ (.var 7) (.cst .non)) (.cons (.nt (.cal 238 (.cons (.var 0) (.cons (.var 1) (.cons (.var 7) .nil))))) .nil))) (.seq (.ret (.cst (.bl false))) .skip) .skip) (.seq (.wp [1, 2, 3, 4, 5] (.for_ (.tc (.nm 8) (.tc (.nm 9) .tn)) .zip (.cons (.fld (.var 0) "gates") (.cons (.var 7) .nil)) c_small_holds_b0) [0, 6, 7, 8, 9]) (.seq (.ret (.cst (.bl true))) .skip)))))))))))
def f_small_holds : Fn := ⟨10, 3, c_small_holds⟩
-- small_holds: number 239, slots 0 net, 1 small, 2 paper, 3 parts, 4 lost, 5 told_pairs, 6 gates, 7 pairs, 8 gate, 9 pair,
--   loop 0 (for_): net, gates, pairs
def c__law_nots : C := (.seq (.ret (.bor (.cons (.bin .eq (.sub (.var 0) (.var 1)) (.tup (.cons (.cst (.str "not")) (.cons (.var 2) .nil)))) (.cons (.bin .eq (.sub (.var 0) (.var 2)) (.tup (.cons (.cst (.str "not")) (.cons (.var 1) .nil)))) .nil)))) .skip)
def f__law_nots : Fn := ⟨3, 3, c__law_nots⟩
-- _law_nots: number 240, slots 0 _law_gates, 1 _law_one_here, 2 _law_other,
def c__law_rule : C := (.seq (.ite (.bin .eq (.var 4) (.cst (.str "same"))) (.seq (.ret (.bin .eq (.sub (.var 0) (.var 3)) (.bi .tuple (.cons (.bin .add (.lst (.cons (.var 1) .nil)) (.var 2)) .nil)))) .skip) .skip) (.seq (.asg (.nm 5) (.lc (.sub (.sub (.var 0) (.var 12)) (.cst (.int 0))) (.nm 12) .ex (.cons (.var 2) .nil) .nil [12])) (.seq (.asg (.nm 6) (.sub (.sub (.var 0) (.var 3)) (.cst (.int 0)))) (.seq (.ite (.bin .eq (.var 1) (.cst (.str "not"))) (.seq (.asg (.nm 7) (.dic (.cons (.cst (.str "inner")) (.cons (.bin .eq (.sub (.var 0) (.sub (.var 2) (.cst (.int 0)))) (.tup (.cons (.cst (.str "not")) (.cons (.var 3) .nil)))) (.cons (.cst (.str "one")) (.cons (.ban (.cons (.bin .eq (.var 5) (.lst (.cons (.cst (.str "zero")) .nil))) (.cons (.bin .eq (.var 6) (.cst (.str "one"))) .nil))) .nil)))))) (.seq (.setI (.var 7) (.cst (.str "zero")) (.ban (.cons (.bin .eq (.var 5) (.lst (.cons (.cst (.str "one")) .nil))) (.cons (.bin .eq (.var 6) (.cst (.str "zero"))) .nil)))) (.seq (.ret (.ban (.cons (.bin .in_ (.var 4) (.var 7)) (.cons (.sub (.var 7) (.var 4)) .nil)))) .skip))) .skip) (.seq (.ite (.bin .eq (.var 1) (.cst (.str "pick"))) (.seq (.asg (.tc (.nm 8) (.tc (.nm 9) (.tc (.nm 13) .tn))) (.var 2)) (.seq (.asg (.nm 7) (.dic (.cons (.cst (.str "second")) (.cons (.ban (.cons (.bin .eq (.var 3) (.var 9)) (.cons (.bor (.cons (.bin .eq (.sub (.var 5) (.cst (.int 0))) (.cst (.str "one"))) (.cons (.bin .eq (.var 9) (.var 13)) .nil))) .nil))) (.cons (.cst (.str "third")) (.cons (.ban (.cons (.bin .eq (.var 3) (.var 13)) (.cons (.bin .eq (.sub (.var 5) (.cst (.int 0))) (.cst (.str "zero"))) .nil))) .nil)))))) (.seq (.setI (.var 7) (.cst (.str "first")) (.ban (.cons (.bin .eq (.var 3) (.var 8)) (.cons (.bin .eq (.sli (.var 5) (.cst (.int 1)) .nop) (.lst (.cons (.cst (.str "one")) (.cons (.cst (.str "zero")) .nil)))) .nil)))) (.seq (.setI (.var 7) (.cst (.str "not")) (.ban (.cons (.bin .eq (.sli (.var 5) (.cst (.int 1)) .nop) (.lst (.cons (.cst (.str "zero")) (.cons (.cst (.str "one")) .nil)))) (.cons (.cal 240 (.cons (.var 0) (.cons (.var 3) (.cons (.var 8) .nil)))) .nil)))) (.seq (.ret (.ban (.cons (.bin .in_ (.var 4) (.var 7)) (.cons (.sub (.var 7) (.var 4)) .nil)))) .skip))))) .skip) (.seq (.ite (.bin .nin (.var 1) (.lst (.cons (.cst (.str "and")) (.cons (.cst (.str "or")) (.cons (.cst (.str "xor")) .nil))))) (.seq (.ret (.cst (.bl false))) .skip) .skip) (.seq (.asg (.tc (.nm 8) (.tc (.nm 9) .tn)) (.var 2)) (.seq (.asg (.nm 7) (.dic (.cons (.cst (.str "turned")) (.cons (.bin .eq (.sub (.var 0) (.var 3)) (.tup (.cons (.var 1) (.cons (.var 9) (.cons (.var 8) .nil))))) .nil)))) (.seq (.ite (.bin .eq (.var 1) (.cst (.str "xor"))) (.seq (.setI (.var 7) (.cst (.str "first")) (.ban (.cons (.bin .eq (.var 3) (.var 8)) (.cons (.bin .eq (.sub (.var 5) (.cst (.int 1))) (.cst (.str "zero"))) .nil)))) (.seq (.setI (.var 7) (.cst (.str "second")) (.ban (.cons (.bin .eq (.var 3) (.var 9)) (.cons (.bin .eq (.sub (.var 5) (.cst (.int 0))) (.cst (.str "zero"))) .nil)))) (.seq (.setI (.var 7) (.cst (.str "zero")) (.ban (.cons (.bin .eq (.var 6) (.cst (.str "zero"))) (.cons (.bin .eq (.var 8) (.var 9)) .nil)))) (.seq (.setI (.var 7) (.cst (.str "one")) (.ban (.cons (.bin .eq (.var 6) (.cst (.str "one"))) (.cons (.cal 240 (.cons (.var 0) (.cons (.var 8) (.cons (.var 9) .nil)))) .nil)))) (.seq (.setI (.var 7) (.cst (.str "not")) (.ban (.cons (.bin .eq (.sub (.var 5) (.cst (.int 1))) (.cst (.str "one"))) (.cons (.cal 240 (.cons (.var 0) (.cons (.var 3) (.cons (.var 8) .nil)))) .nil)))) (.seq (.setI (.var 7) (.cst (.str "not")) (.bor (.cons (.sub (.var 7) (.cst (.str "not"))) (.cons (.ban (.cons (.bin .eq (.sub (.var 5) (.cst (.int 0))) (.cst (.str "one"))) (.cons (.cal 240 (.cons (.var 0) (.cons (.var 3) (.cons (.var 9) .nil)))) .nil))) .nil)))) (.seq (.ret (.ban (.cons (.bin .in_ (.var 4) (.var 7)) (.cons (.sub (.var 7) (.var 4)) .nil)))) .skip))))))) .skip) (.seq (.asg (.tc (.nm 10) (.tc (.nm 11) .tn)) (.tup (.cons (.cst (.str "one")) (.cons (.cst (.str "zero")) .nil)))) (.seq (.ite (.bin .eq (.var 1) (.cst (.str "or"))) (.seq (.asg (.tc (.nm 10) (.tc (.nm 11) .tn)) (.tup (.cons (.cst (.str "zero")) (.cons (.cst (.str "one")) .nil)))) .skip) .skip) (.seq (.setI (.var 7) (.cst (.str "first")) (.ban (.cons (.bin .eq (.var 3) (.var 8)) (.cons (.bor (.cons (.bin .eq (.sub (.var 5) (.cst (.int 1))) (.var 10)) (.cons (.bin .eq (.var 8) (.var 9)) .nil))) .nil)))) (.seq (.setI (.var 7) (.cst (.str "second")) (.ban (.cons (.bin .eq (.var 3) (.var 9)) (.cons (.bin .eq (.sub (.var 5) (.cst (.int 0))) (.var 10)) .nil)))) (.seq (.setI (.var 7) (.var 11) (.ban (.cons (.bin .eq (.var 6) (.var 11)) (.cons (.bor (.cons (.bin .in_ (.var 11) (.var 5)) (.cons (.cal 240 (.cons (.var 0) (.cons (.var 8) (.cons (.var 9) .nil)))) .nil))) .nil)))) (.seq (.ret (.ban (.cons (.bin .in_ (.var 4) (.var 7)) (.cons (.sub (.var 7) (.var 4)) .nil)))) .skip)))))))))))))))
def f__law_rule : Fn := ⟨14, 5, c__law_rule⟩
-- _law_rule: number 241, slots 0 _law_gates, 1 _law_word, 2 _law_some, 3 _law_number, 4 _law_why, 5 _law_words, 6 _law_own, 7 _law_rows, 8 _law_x, 9 _law_y, 10 _law_weak, 11 _law_strong, 12 _law_one_here, 13 _law_z,
def c__law_walk_b0 : C := (.wp [] (.seq (.ite (.bor (.cons (.bin .is_ (.sub (.var 3) (.var 7)) (.cst .non)) (.cons (.bin .ne (.sub (.sub (.var 3) (.var 7)) (.cst (.int 0))) (.var 8)) .nil))) (.seq (.ret (.cst (.bl false))) .skip) .skip) .skip) [7, 8])
def c__law_walk_b1 : C := (.wp [] (.seq (.ite (.bor (.cons (.bin .eq (.sub (.var 9) (.cst (.int 0))) (.cst (.str "in"))) (.cons (.bin .is_ (.var 10) (.cst .non)) .nil))) (.seq .cnt .skip) .skip) (.seq (.asg (.nm 11) (.bi .list (.cons (.sli (.var 9) (.cst (.int 1)) .nop) .nil))) (.seq (.ite (.bin .eq (.sub (.var 9) (.cst (.int 0))) (.cst (.str "keep"))) (.seq (.asg (.nm 11) (.lst (.cons (.sub (.var 9) (.cst (.int 2))) .nil))) .skip) .skip) (.seq (.ite (.bin .in_ (.cst .non) (.lc (.sub (.var 3) (.var 15)) (.nm 15) .ex (.cons (.var 11) .nil) .nil [15])) (.seq (.ret (.cst (.bl false))) .skip) .skip) (.seq (.asg (.nm 12) (.lc (.sub (.sub (.var 3) (.var 15)) (.cst (.int 0))) (.nm 15) .ex (.cons (.var 11) .nil) .nil [15])) (.seq (.asg (.nm 13) (.ban (.cons (.bin .eq (.sub (.var 10) (.cst (.int 1))) (.cst (.str "keep"))) (.cons (.bin .eq (.sub (.var 4) (.sub (.var 10) (.cst (.int 0)))) (.bi .tuple (.cons (.bin .add (.bi .list (.cons (.sli (.var 9) .nop (.cst (.int 2))) .nil)) (.var 12)) .nil))) .nil)))) (.seq (.ite (.bin .ne (.sub (.var 9) (.cst (.int 0))) (.cst (.str "keep"))) (.seq (.asg (.nm 13) (.cal 241 (.cons (.var 4) (.cons (.sub (.var 9) (.cst (.int 0))) (.cons (.var 12) (.cons (.sub (.var 10) (.cst (.int 0))) (.cons (.sub (.var 10) (.cst (.int 1))) .nil))))))) .skip) .skip) (.seq (.ite (.nt (.var 13)) (.seq (.ret (.cst (.bl false))) .skip) .skip) .skip)))))))) [9, 10, 11, 12, 13])
def c__law_walk : C := (.seq (.asg (.nm 4) (.bin .add (.bi .list (.cons (.fld (.var 1) "gates") .nil)) (.var 2))) (.seq (.asg (.nm 5) (.lc (.var 14) (.nm 14) .r1 (.cons (.bi .len (.cons (.fld (.var 0) "gates") .nil)) .nil) (.cons (.bin .eq (.sub (.fld (.var 0) "gates") (.var 14)) (.tup (.cons (.cst (.str "in")) .nil))) .nil) [14])) (.seq (.asg (.nm 6) (.lc (.var 14) (.nm 14) .r1 (.cons (.bi .len (.cons (.fld (.var 1) "gates") .nil)) .nil) (.cons (.bin .eq (.sub (.fld (.var 1) "gates") (.var 14)) (.tup (.cons (.cst (.str "in")) .nil))) .nil) [14])) (.seq (.ite (.bor (.cons (.bin .ne (.bi .len (.cons (.var 5) .nil)) (.bi .len (.cons (.var 6) .nil))) (.cons (.bin .ne (.bi .len (.cons (.fld (.var 0) "outs") .nil)) (.bi .len (.cons (.fld (.var 1) "outs") .nil))) (.cons (.bin .ne (.bi .len (.cons (.var 3) .nil)) (.bi .len (.cons (.fld (.var 0) "gates") .nil))) .nil)))) (.seq (.ret (.cst (.bl false))) .skip) .skip) (.seq (.ite (.bin .ne (.lc (.sub (.var 3) (.var 14)) (.nm 14) .ex (.cons (.var 5) .nil) .nil [14]) (.lc (.tup (.cons (.var 14) (.cons (.cst (.str "in")) .nil))) (.nm 14) .ex (.cons (.var 6) .nil) .nil [14])) (.seq (.ret (.cst (.bl false))) .skip) .skip) (.seq (.wp [2, 5, 6] (.for_ (.tc (.nm 7) (.tc (.nm 8) .tn)) .zip (.cons (.fld (.var 0) "outs") (.cons (.fld (.var 1) "outs") .nil)) c__law_walk_b0) [1, 7, 8]) (.seq (.wp [1, 2, 5, 6, 7, 8] (.for_ (.tc (.nm 9) (.tc (.nm 10) .tn)) .zip (.cons (.fld (.var 0) "gates") (.cons (.var 3) .nil)) c__law_walk_b1) [0, 3, 4, 9, 10, 11, 12, 13]) (.seq (.ret (.cst (.bl true))) .skip))))))))
def f__law_walk : Fn := ⟨16, 4, c__law_walk⟩
-- _law_walk: number 252, slots 0 _law_net_here, 1 _law_small, 2 _law_lost, 3 _law_pairs_here, 4 _law_gates, 5 _law_fed, 6 _law_small_fed, 7 _law_out, 8 _law_small_out, 9 _law_gate, 10 _law_pair, 11 _law_feeds, 12 _law_some, 13 _law_good, 14 _law_k, 15 _law_feed,
--   loop 0 (for_): _law_net_here, _law_small, _law_pairs_here, _law_gates
--   loop 1 (for_): _law_net_here, _law_pairs_here, _law_gates
def c__law_said : C := (.seq (.asg (.nm 4) (.cal 239 (.cons (.var 0) (.cons (.var 1) (.cons (.var 2) .nil))))) (.seq (.ret (.ban (.cons (.isi (.var 4) [.bool]) (.cons (.bin .eq (.var 4) (.var 3)) .nil)))) .skip))
def f__law_said : Fn := ⟨5, 4, c__law_said⟩
-- _law_said: number 253, slots 0 _law_net_here, 1 _law_small, 2 _law_paper, 3 _law_due, 4 _law_found,
def c__law_pairs : C := (.seq (.asg (.nm 1) (.dic (.cons (.cst (.str "in")) (.cons (.cst (.str "in")) (.cons (.cst (.str "keep")) (.cons (.cst (.str "keep")) .nil)))))) (.seq (.ret (.lc (.tup (.cons (.var 2) (.cons (.mt .get2 (.var 1) (.cons (.sub (.var 3) (.cst (.int 0))) (.cons (.cst (.str "same")) .nil))) .nil))) (.tc (.nm 2) (.tc (.nm 3) .tn)) .enum (.cons (.var 0) .nil) .nil [2, 3])) .skip))
def f__law_pairs : Fn := ⟨4, 1, c__law_pairs⟩
-- _law_pairs: number 254, slots 0 _law_gates, 1 _law_whys, 2 _law_k, 3 _law_gate,
def c__law_bent_pairs : C := (.seq (.asg (.nm 2) (.bi .list (.cons (.var 0) .nil))) (.seq (.asg (.nm 3) (.bin .mod (.bin .fdiv (.var 1) (.cst (.int 8))) (.bi .len (.cons (.var 2) .nil)))) (.seq (.ite (.bin .lt (.bin .mod (.var 1) (.cst (.int 8))) (.cst (.int 2))) (.seq (.setI (.var 2) (.var 3) (.cst .non)) .skip) (.seq (.ite (.bin .lt (.bin .mod (.var 1) (.cst (.int 8))) (.cst (.int 5))) (.seq (.setI (.var 2) (.var 3) (.tup (.cons (.bin .mod (.bin .fdiv (.var 1) (.cst (.int 97))) (.bi .len (.cons (.var 2) .nil))) (.cons (.sub (.sub (.var 2) (.var 3)) (.cst (.int 1))) .nil)))) .skip) (.seq (.ite (.bin .eq (.bin .mod (.var 1) (.cst (.int 8))) (.cst (.int 5))) (.seq (.setI (.var 2) (.var 3) (.tup (.cons (.sub (.sub (.var 2) (.var 3)) (.cst (.int 0))) (.cons (.sub (.lst (.cons (.cst (.str "same")) (.cons (.cst (.str "keep")) (.cons (.cst (.str "in")) (.cons (.cst (.str "first")) (.cons (.cst (.str "turned")) (.cons (.cst (.str "zero")) .nil))))))) (.bin .mod (.bin .fdiv (.var 1) (.cst (.int 97))) (.cst (.int 6)))) .nil)))) .skip) (.seq (.ite (.bin .eq (.bin .mod (.var 1) (.cst (.int 8))) (.cst (.int 6))) (.seq (.ex (.mt .popAt (.var 2) (.cons (.var 3) .nil))) .skip) (.seq (.ex (.mt .append (.var 2) (.cons (.sub (.var 2) (.var 3)) .nil))) .skip)) .skip)) .skip)) .skip)) (.seq (.ret (.var 2)) .skip))))
def f__law_bent_pairs : Fn := ⟨4, 2, c__law_bent_pairs⟩
-- _law_bent_pairs: number 255, slots 0 _law_pairs_here, 1 _law_m, 2 _law_made, 3 _law_k,
def c__law_bent_net : C := (.seq (.asg (.nm 3) (.bi .list (.cons (.var 0) .nil))) (.seq (.asg (.nm 4) (.bin .mod (.bin .fdiv (.var 2) (.cst (.int 4))) (.bi .len (.cons (.var 3) .nil)))) (.seq (.ite (.bin .eq (.bin .mod (.var 2) (.cst (.int 4))) (.cst (.int 0))) (.seq (.ret (.mkR 19 160 (.cons (.var 3) (.cons (.bin .add (.var 1) (.lst (.cons (.cst (.int 0)) .nil))) .nil)))) .skip) .skip) (.seq (.ite (.bin .eq (.bin .mod (.var 2) (.cst (.int 4))) (.cst (.int 1))) (.seq (.ret (.mkR 19 160 (.cons (.bin .add (.var 3) (.lst (.cons (.tup (.cons (.cst (.str "in")) .nil)) .nil))) (.cons (.var 1) .nil)))) .skip) .skip) (.seq (.ite (.bin .eq (.bin .mod (.var 2) (.cst (.int 4))) (.cst (.int 2))) (.seq (.ret (.mkR 19 160 (.cons (.var 3) (.cons (.bin .add (.lst (.cons (.bin .mod (.bin .fdiv (.var 2) (.cst (.int 97))) (.bi .len (.cons (.var 3) .nil))) .nil)) (.sli (.var 1) (.cst (.int 1)) .nop)) .nil)))) .skip) .skip) (.seq (.ite (.bin .eq (.sub (.sub (.var 3) (.var 4)) (.cst (.int 0))) (.cst (.str "keep"))) (.seq (.setI (.var 3) (.var 4) (.tup (.cons (.cst (.str "keep")) (.cons (.bin .sub (.cst (.int 1)) (.sub (.sub (.var 3) (.var 4)) (.cst (.int 1)))) (.cons (.sub (.sub (.var 3) (.var 4)) (.cst (.int 2))) .nil))))) .skip) (.seq (.ite (.bin .in_ (.sub (.sub (.var 3) (.var 4)) (.cst (.int 0))) (.lst (.cons (.cst (.str "zero")) (.cons (.cst (.str "one")) (.cons (.cst (.str "not")) (.cons (.cst (.str "in")) .nil)))))) (.seq (.setI (.var 3) (.var 4) (.sub (.lst (.cons (.tup (.cons (.cst (.str "zero")) .nil)) (.cons (.tup (.cons (.cst (.str "one")) .nil)) .nil))) (.bin .mod (.bin .fdiv (.var 2) (.cst (.int 97))) (.cst (.int 2))))) .skip) (.seq (.setI (.var 3) (.var 4) (.bi .tuple (.cons (.bin .add (.lst (.cons (.sub (.lst (.cons (.cst (.str "and")) (.cons (.cst (.str "or")) (.cons (.cst (.str "xor")) .nil)))) (.bin .mod (.bin .fdiv (.var 2) (.cst (.int 97))) (.cst (.int 3)))) .nil)) (.bi .list (.cons (.sli (.sub (.var 3) (.var 4)) (.cst (.int 1)) (.cst (.int 3))) .nil))) .nil))) .skip)) .skip)) (.seq (.ret (.mkR 19 160 (.cons (.var 3) (.cons (.var 1) .nil)))) .skip)))))))
def f__law_bent_net : Fn := ⟨5, 3, c__law_bent_net⟩
-- _law_bent_net: number 256, slots 0 _law_gates, 1 _law_outs, 2 _law_m, 3 _law_made, 4 _law_k,
def c__law_forms_false_b0 : C := (.wp [] (.seq (.asg (.nm 5) (.bin .add (.var 5) (.lst (.cons (.tup (.cons (.lst (.cons (.var 9) .nil)) (.cons (.var 1) .nil))) .nil)))) .skip) [9])
def c__law_forms_false_b1 : C := (.wp [] (.seq (.ite (.nt (.cal 253 (.cons (.var 0) (.cons (.var 0) (.cons (.var 10) (.cons (.cst (.bl false)) .nil)))))) (.seq (.ret (.cst (.bl false))) .skip) .skip) .skip) [10])
def c__law_forms_false : C := (.seq (.asg (.nm 3) (.bin .mod (.var 2) (.bi .len (.cons (.var 1) .nil)))) (.seq (.asg (.nm 4) (.sub (.lst (.cons (.cst (.bl true)) (.cons (.cst (.bl false)) (.cons (.un .neg (.cst (.int 1))) (.cons (.bi .len (.cons (.var 1) .nil)) (.cons (.cst .non) (.cons (.cst (.str "0")) (.cons (.lst (.cons (.cst (.int 0)) .nil)) (.cons (.bin .pow (.cst (.int 10)) (.cst (.int 30))) .nil))))))))) (.bin .mod (.bin .fdiv (.var 2) (.cst (.int 61))) (.cst (.int 8))))) (.seq (.asg (.nm 5) (.lst (.cons (.tup (.cons (.lst .nil) (.cons (.bin .add (.bin .add (.sli (.var 1) .nop (.var 3)) (.lst (.cons (.tup (.cons (.var 4) (.cons (.sub (.sub (.var 1) (.var 3)) (.cst (.int 1))) .nil))) .nil))) (.sli (.var 1) (.bin .add (.var 3) (.cst (.int 1))) .nop)) .nil))) .nil))) (.seq (.ite (.bor (.cons (.ban (.cons (.bin .is_ (.var 4) (.cst (.bl false))) (.cons (.bin .ne (.sub (.sub (.var 1) (.var 3)) (.cst (.int 0))) (.cst (.int 0))) .nil))) (.cons (.ban (.cons (.bin .is_ (.var 4) (.cst (.bl true))) (.cons (.bin .ne (.sub (.sub (.var 1) (.var 3)) (.cst (.int 0))) (.cst (.int 1))) .nil))) .nil))) (.seq (.asg (.nm 5) (.bin .add (.var 5) (.lst (.cons (.tup (.cons (.lst .nil) (.cons (.bin .add (.bin .add (.sli (.var 1) .nop (.var 3)) (.lst (.cons (.tup (.cons (.sub (.sub (.var 1) (.var 3)) (.cst (.int 0))) .nil)) .nil))) (.sli (.var 1) (.bin .add (.var 3) (.cst (.int 1))) .nop)) .nil))) .nil)))) .skip) .skip) (.seq (.asg (.nm 6) (.sub (.lst (.cons (.cst .non) (.cons (.cst (.int 5)) (.cons (.lst (.cons (.cst (.str "in")) .nil)) (.cons (.cst (.bl true)) (.cons (.tup (.cons (.cst (.str "same")) .nil)) .nil)))))) (.bin .mod (.bin .fdiv (.var 2) (.cst (.int 7))) (.cst (.int 5))))) (.seq (.asg (.nm 5) (.bin .add (.var 5) (.lst (.cons (.tup (.cons (.lst .nil) (.cons (.bin .add (.bin .add (.sli (.var 1) .nop (.var 3)) (.lst (.cons (.tup (.cons (.sub (.sub (.var 1) (.var 3)) (.cst (.int 0))) (.cons (.var 6) .nil))) .nil))) (.sli (.var 1) (.bin .add (.var 3) (.cst (.int 1))) .nop)) .nil))) .nil)))) (.seq (.asg (.nm 5) (.bin .add (.var 5) (.lst (.cons (.tup (.cons (.lst .nil) (.cons (.bin .add (.bin .add (.sli (.var 1) .nop (.var 3)) (.lst (.cons (.sub (.lst (.cons (.cst (.str "x")) (.cons (.cst (.int 7)) (.cons (.cst (.bl true)) (.cons (.tup .nil) (.cons (.tup (.cons (.cst (.int 0)) .nil)) (.cons (.tup (.cons (.cst (.int 0)) (.cons (.cst (.str "in")) (.cons (.cst (.int 1)) .nil)))) (.cons (.cst (.str "in")) .nil)))))))) (.bin .mod (.bin .fdiv (.var 2) (.cst (.int 11))) (.cst (.int 7)))) .nil))) (.sli (.var 1) (.bin .add (.var 3) (.cst (.int 1))) .nop)) .nil))) .nil)))) (.seq (.asg (.nm 5) (.bin .add (.var 5) (.lst (.cons (.cst .non) (.cons (.cst (.int 7)) (.cons (.cst (.str "")) (.cons (.cst (.bl true)) (.cons (.lst .nil) (.cons (.tup (.cons (.lst .nil) .nil)) (.cons (.tup (.cons (.var 1) .nil)) (.cons (.tup (.cons (.lst .nil) (.cons (.var 1) (.cons (.lst .nil) .nil)))) (.cons (.tup (.cons (.var 1) (.cons (.lst .nil) .nil))) (.cons (.tup (.cons (.cst .non) (.cons (.var 1) .nil))) (.cons (.tup (.cons (.lst .nil) (.cons (.cst .non) .nil))) .nil)))))))))))))) (.seq (.asg (.nm 7) (.bi .len (.cons (.fld (.var 0) "gates") .nil))) (.seq (.asg (.nm 8) (.lst (.cons (.tup (.cons (.cst (.str "in")) .nil)) (.cons (.tup (.cons (.cst (.str "not")) (.cons (.var 7) .nil))) (.cons (.tup (.cons (.cst (.str "not")) (.cons (.cst (.bl true)) .nil))) (.cons (.tup (.cons (.cst (.str "keep")) (.cons (.cst (.int 2)) (.cons (.cst (.int 0)) .nil)))) (.cons (.tup (.cons (.cst (.str "keep")) (.cons (.cst (.bl true)) (.cons (.cst (.int 0)) .nil)))) .nil))))))) (.seq (.asg (.nm 8) (.bin .add (.var 8) (.lst (.cons (.tup (.cons (.cst (.str "keep")) (.cons (.cst (.int 0)) (.cons (.cst (.bl true)) .nil)))) (.cons (.tup (.cons (.cst (.str "zero")) (.cons (.cst (.int 0)) .nil))) (.cons (.tup (.cons (.cst (.str "odd")) (.cons (.cst (.int 0)) .nil))) .nil)))))) (.seq (.wp [2, 3, 4, 6] (.for_ (.nm 9) .ex (.cons (.bin .add (.var 8) (.lst (.cons (.tup .nil) (.cons (.cst (.str "zero")) (.cons (.cst .non) (.cons (.cst (.int 3)) .nil)))))) .nil) c__law_forms_false_b0) [8, 9]) (.seq (.asg (.nm 5) (.bin .add (.var 5) (.lst (.cons (.tup (.cons (.cst (.str "")) (.cons (.var 1) .nil))) (.cons (.tup (.cons (.lst .nil) (.cons (.cst (.str "same")) .nil))) (.cons (.tup (.cons (.cst (.int 0)) (.cons (.var 1) .nil))) (.cons (.tup (.cons (.lst (.cons (.tup (.cons (.cst (.str "keep")) (.cons (.cst (.int 0)) (.cons (.bin .add (.var 7) (.cst (.int 1))) .nil)))) .nil)) (.cons (.var 1) .nil))) .nil))))))) (.seq (.wp [1, 2, 3, 4, 6, 7, 8, 9] (.for_ (.nm 10) .ex (.cons (.var 5) .nil) c__law_forms_false_b1) [0, 5, 10]) (.seq (.ret (.cst (.bl true))) .skip)))))))))))))))
def f__law_forms_false : Fn := ⟨11, 3, c__law_forms_false⟩
-- _law_forms_false: number 257, slots 0 _law_net_here, 1 _law_pairs_here, 2 _law_m, 3 _law_k, 4 _law_beyond, 5 _law_bad, 6 _law_why, 7 _law_many, 8 _law_strange, 9 _law_gate, 10 _law_paper,
--   loop 0 (for_): _law_net_here, _law_pairs_here, _law_bad, _law_many, _law_strange
--   loop 1 (for_): _law_net_here, _law_bad
def c__law_one_258 : C := (.seq (.asg (.nm 2) (.bin .add (.cst (.int 1)) (.bin .mod (.cal 1 (.cons (.var 0) (.cons (.var 1) .nil))) (.cst (.int 3))))) (.seq (.asg (.nm 3) (.bin .add (.cst (.int 1)) (.bin .mod (.cal 1 (.cons (.var 0) (.cons (.var 1) .nil))) (.cst (.int 3))))) (.seq (.asg (.tc (.nm 13) (.tc (.nm 14) .tn)) (.cal 165 (.cons (.var 0) (.cons (.var 1) (.cons (.var 2) (.cons (.var 3) (.cons (.bin .add (.cst (.int 1)) (.bin .mod (.cal 1 (.cons (.var 0) (.cons (.var 1) .nil))) (.cst (.int 8)))) .nil))))))) (.seq (.asg (.nm 4) (.mkR 19 160 (.cons (.var 13) (.cons (.var 14) .nil)))) (.seq (.asg (.nm 5) (.cal 254 (.cons (.var 13) .nil))) (.seq (.ite (.bor (.cons (.nt (.cal 253 (.cons (.var 4) (.cons (.var 4) (.cons (.tup (.cons (.lst .nil) (.cons (.var 5) .nil))) (.cons (.cst (.bl true)) .nil)))))) (.cons (.nt (.cal 253 (.cons (.var 4) (.cons (.var 4) (.cons (.lst (.cons (.tup .nil) (.cons (.bi .tuple (.cons (.var 5) .nil)) .nil))) (.cons (.cst (.bl true)) .nil)))))) .nil))) (.seq (.ret (.cst (.bl false))) .skip) .skip) (.seq (.asg (.nm 6) (.bi .len (.cons (.var 13) .nil))) (.seq (.asg (.nm 7) (.cal 1 (.cons (.var 0) (.cons (.var 1) .nil)))) (.seq (.asg (.nm 8) (.lst (.cons (.lst (.cons (.tup (.cons (.cst (.str "not")) (.cons (.bin .mod (.var 7) (.var 6)) .nil))) .nil)) (.cons (.lst (.cons (.tup (.cons (.cst (.str "keep")) (.cons (.cst (.int 1)) (.cons (.var 6) .nil)))) (.cons (.tup (.cons (.cst (.str "xor")) (.cons (.var 6) (.cons (.bin .mod (.var 7) (.var 6)) .nil)))) .nil))) (.cons (.lst (.cons (.lst (.cons (.cst (.str "zero")) .nil)) (.cons (.lst (.cons (.cst (.str "and")) (.cons (.var 6) (.cons (.cst (.int 0)) .nil)))) .nil))) .nil))))) (.seq (.asg (.nm 9) (.sub (.var 8) (.bin .mod (.bin .fdiv (.var 7) (.cst (.int 97))) (.cst (.int 3))))) (.seq (.asg (.nm 10) (.tup (.cons (.var 9) (.cons (.var 5) .nil)))) (.seq (.ite (.bor (.cons (.nt (.cal 253 (.cons (.var 4) (.cons (.var 4) (.cons (.var 10) (.cons (.cst (.bl true)) .nil)))))) (.cons (.bin .ne (.var 10) (.tup (.cons (.var 9) (.cons (.var 5) .nil)))) .nil))) (.seq (.ret (.cst (.bl false))) .skip) .skip) (.seq (.asg (.nm 11) (.cal 255 (.cons (.var 5) (.cons (.cal 1 (.cons (.var 0) (.cons (.var 1) .nil))) .nil)))) (.seq (.ite (.nt (.cal 253 (.cons (.var 4) (.cons (.var 4) (.cons (.tup (.cons (.lst .nil) (.cons (.var 11) .nil))) (.cons (.cal 252 (.cons (.var 4) (.cons (.var 4) (.cons (.lst .nil) (.cons (.var 11) .nil))))) .nil)))))) (.seq (.ret (.cst (.bl false))) .skip) .skip) (.seq (.asg (.nm 12) (.cal 256 (.cons (.var 13) (.cons (.var 14) (.cons (.cal 1 (.cons (.var 0) (.cons (.var 1) .nil))) .nil))))) (.seq (.ite (.nt (.cal 253 (.cons (.var 4) (.cons (.var 12) (.cons (.tup (.cons (.lst .nil) (.cons (.var 5) .nil))) (.cons (.cal 252 (.cons (.var 4) (.cons (.var 12) (.cons (.lst .nil) (.cons (.var 5) .nil))))) .nil)))))) (.seq (.ret (.cst (.bl false))) .skip) .skip) (.seq (.ret (.ban (.cons (.cal 257 (.cons (.var 4) (.cons (.var 5) (.cons (.cal 1 (.cons (.var 0) (.cons (.var 1) .nil))) .nil)))) (.cons (.cal 253 (.cons (.var 4) (.cons (.var 4) (.cons (.tup (.cons (.lst .nil) (.cons (.var 5) .nil))) (.cons (.cst (.bl true)) .nil))))) .nil)))) .skip)))))))))))))))))
def f__law_one_258 : Fn := ⟨15, 2, c__law_one_258⟩
-- _law_one: number 258, slots 0 _law_script, 1 _law_at, 2 _law_ins, 3 _law_keeps, 4 _law_net_here, 5 _law_pairs_here, 6 _law_many, 7 _law_m, 8 _law_some, 9 _law_lost, 10 _law_paper, 11 _law_bent, 12 _law_small, 13 _law_gates, 14 _law_outs,
def c_law_259_b0 : C := (.wp [] (.seq (.ite (.nt (.cal 258 (.cons (.var 0) (.cons (.var 1) .nil)))) (.seq (.ret (.cst (.bl false))) .skip) .skip) .skip) [2])
def c_law_259 : C := (.seq (.asg (.nm 1) (.nwc (.lst (.cons (.cst (.int 0)) .nil)))) (.seq (.wp [] (.for_ (.nm 2) .r1 (.cons (.bin .add (.cst (.int 1)) (.bi .min2 (.cons (.cst (.int 1)) (.cons (.bin .fdiv (.bi .len (.cons (.var 0) .nil)) (.cst (.int 16))) .nil)))) .nil) c_law_259_b0) [0, 1, 2]) (.seq (.ret (.cst (.bl true))) .skip)))
def f_law_259 : Fn := ⟨3, 1, c_law_259⟩
-- law: number 259, slots 0 _law_script, 1 _law_at, 2 _law_turn,
--   loop 0 (for_): _law_script, _law_at
end KS
end PB

set_option Elab.async false
set_option linter.all false
set_option autoImplicit false
set_option maxRecDepth 1000000
set_option maxHeartbeats 4000000
namespace PB
open PySem (Str sizeLine)
namespace KS
/-- divided so many times -/
def fig (c : Int) : Nat → Int
  | 0 => c
  | n + 1 => fig (c / 2000000011) n
/-- the draw behind a count -/
def nx (ns : List Int) (n : Int) : Int :=
  let c := if ns = [] then 0 else gI ns ((n + 1) % ns.length)
  let mix := ((c % 2147483647 + (n + 1) * (n + 1) * 7919 + 11) * 48271 % 2147483647 * ((c % 2147483647 + (n + 1) * (n + 1) * 7919 + 11) * 48271 % 2147483647) % 1999999973 + (n + 1) * 104729) * 69621 % 2147483629
  if ns = [] then mix else if gI ns 0 % 2 = 1 then
    (let f := fig c ((n + 1) / ns.length % 60).toNat
     if (f ≠ 0 ∧ f ≠ -1) ∨ n + 1 < ns.length then f % 2000000011 else mix) else mix
theorem nx_rng (ns : List Int) (n : Int) : 0 ≤ nx ns n ∧ nx ns n < 2147483629 := by
  have h0 : ∀ x : Int, 0 ≤ x % 2147483629 := fun x => Int.emod_nonneg _ (by decide)
  have h1 : ∀ x : Int, x % 2147483629 < 2147483629 := fun x => Int.emod_lt_of_pos _ (by decide)
  have h2 : ∀ x : Int, 0 ≤ x % 2000000011 := fun x => Int.emod_nonneg _ (by decide)
  have h3 : ∀ x : Int, x % 2000000011 < 2147483629 := fun x => Int.lt_trans (Int.emod_lt_of_pos _ (by decide)) (by decide)
  unfold nx
  dsimp only
  split
  · exact ⟨h0 _, h1 _⟩
  · split
    · split
      · exact ⟨h2 _, h3 _⟩
      · exact ⟨h0 _, h1 _⟩
    · exact ⟨h0 _, h1 _⟩
abbrev S_next (ns : List Int) (F : List D → List (Option D) → RC) : Prop := ∀ (n : Int) (r : List (Option D)), 0 ≤ n → n < 1000000000 → F [.scr (ns.map .int), .cell 0] (cN n :: r) = .ok (.im (.int (nx ns n))) (cN (n + 1) :: r)
theorem next_loop {X : Env} {a b c d x : Sl} {st : List (Option D)} : ∀ (xs : List D) (f : Int) (x : Sl), ∃ x', loop (forStep X (.nm 5) c__law_next_b0) xs ⟨[a, b, c, d, .im (.int f), x], st⟩ = .ok .nx ⟨[a, b, c, d, .im (.int (fig f xs.length)), x'], st⟩
  | [], f, x => ⟨x, rfl⟩
  | y :: ys, f, x => by
    obtain ⟨x', e⟩ := next_loop (X := X) (a := a) (b := b) (c := c) (d := d) (x := x) (st := st) ys (f / 2000000011) (.im y)
    refine ⟨x', ?_⟩
    unfold loop
    have : (forStep X (.nm 5) c__law_next_b0) y ⟨[a, b, c, d, .im (.int f), x], st⟩ = .ok .nx ⟨[a, b, c, d, .im (.int (f / 2000000011)), .im y], st⟩ := by
      simp (disch := omega) [fr_step, c__law_next_b0]
    rw [this]
    exact e
theorem next_ok {X : Env} {ns : List Int} (hl : ns.length ≤ 63) : S_next ns (callF X f__law_next) := by
  intro n r h0 h1
  have q0 : 0 ≤ (n + 1) * (n + 1) := Int.mul_nonneg (by omega) (by omega)
  have q1 : (n + 1) * (n + 1) ≤ 1000000000000000 * 1000000000000000 := Int.mul_le_mul (by omega) (by omega) (by omega) (by omega)
  have w0 : ∀ x : Int, 0 ≤ x % 2147483647 := fun x => Int.emod_nonneg _ (by decide)
  have w1 : ∀ x : Int, x % 2147483647 < 2147483647 := fun x => Int.emod_lt_of_pos _ (by decide)
  simp only [callF, f__law_next, c__law_next]
  cases ns with
  | nil =>
    simp (disch := omega) [nx]
  | cons a as =>
    have hne : ¬ (a :: as = []) := by simp
    have hlp : 0 < ((a :: as).length : Int) := by
      rw [List.length_cons]
      omega
    have e0 := at_gI (f := D.int) (xs := a :: as) (i := 0) (by omega) (by omega)
    have e1 := at_gI (f := D.int) (xs := a :: as) (i := (n + 1) % ((a :: as).length : Int)) (Int.emod_nonneg _ (by omega)) (Int.emod_lt_of_pos _ hlp)
    generalize hL : ((a :: as).length : Int) = L at hlp e0 e1
    have hL2 : L ≤ 63 := by omega
    unfold nx
    rw [hL]
    simp only [if_neg hne]
    generalize gI (a :: as) 0 = c0 at *
    generalize gI (a :: as) ((n + 1) % L) = c1 at *
    generalize hds : (a :: as).map D.int = ds at *
    have hdl : (ds.length : Int) = L := by rw [← hds, List.length_map]; exact hL
    have hgt : 0 < ds.length := by omega
    by_cases hc : c0 % 2 = 1
    · have v0 : 0 ≤ (n + 1) / L % 60 := Int.emod_nonneg _ (by decide)
      have v1 : (n + 1) / L % 60 < 60 := Int.emod_lt_of_pos _ (by decide)
      obtain ⟨x, e⟩ := next_loop (X := X) (a := .im (.scr ds)) (b := .im (.cell 0)) (c := .im (.int c1)) (d := .no) (x := .no) (st := some (.lst [.int (n + 1)]) :: r) (rngD 0 ((n + 1) / L % 60).toNat) c1 .no
      rw [show (rngD 0 ((n + 1) / L % 60).toNat).length = ((n + 1) / L % 60).toNat from by simp [rngD]] at e
      generalize fig c1 ((n + 1) / L % 60).toNat = f at *
      by_cases h1 : f = 0 ∨ f = -1
      · have hb : (decide (0 = f) || decide (-1 = f)) = true := by
          rcases h1 with h1 | h1 <;> simp [h1]
        have hb2 : ¬ (f ≠ 0 ∧ f ≠ -1) := by omega
        by_cases h3 : n + 1 < L
        · simp (disch := omega) [hdl, e0, e1, hgt, hlp, hc, e, hb, h3]
        · simp (disch := omega) [hdl, e0, e1, hgt, hlp, hc, e, hb, h3, hb2]
      · have hb : (decide (0 = f) || decide (-1 = f)) = false := by
          simp
          omega
        have hb2 : f ≠ 0 ∧ f ≠ -1 := by omega
        simp (disch := omega) [hdl, e0, e1, hgt, hlp, hc, e, hb, hb2]
    · simp (disch := omega) [hdl, e0, e1, hgt, hlp, hc]
end KS
end PB

set_option Elab.async false
set_option linter.all false
set_option autoImplicit false
set_option maxRecDepth 1000000
set_option maxHeartbeats 4000000
namespace PB
open PySem (Str sizeLine)
namespace KS
/-- the places of w -/
def ixs (w : Str) : Nat → List (Str × List Int) → List Int
  | _, [] => []
  | j, g :: gs => if g.1 = w then (j : Int) :: ixs w (j + 1) gs else ixs w (j + 1) gs
theorem ixs_len {w : Str} : ∀ {gs : List (Str × List Int)} {j : Nat}, (ixs w j gs).length ≤ gs.length
  | [], _ => Nat.le_refl _
  | g :: gs, j => by
    unfold ixs
    split
    · exact Nat.succ_le_succ ixs_len
    · exact Nat.le_succ_of_le ixs_len
abbrev S_is_number (F : List D → List (Option D) → RC) : Prop := ∀ (a n : Int) (st : List (Option D)), F [.int a, .int n] st = .ok (.im (.bl (decide (0 ≤ a) && decide (a < n)))) st
abbrev IsNum (X : Env) : Prop := S_is_number (X.fn 158)
theorem is_number_ok {X : Env} {a n : Int} {st : List (Option D)} : callF X f_is_number [.int a, .int n] st = .ok (.im (.bl (decide (0 ≤ a) && decide (a < n)))) st := by
  simp only [callF, f_is_number, c_is_number]
  by_cases h : 0 ≤ a <;> simp [h]
/-- gates that the law draws -/
inductive OkG (i m : Int) : Str → List Int → Prop
  | gin : OkG i m "in" []
  | zero : OkG i m "zero" []
  | one : OkG i m "one" []
  | not {a : Int} (h : 0 ≤ a ∧ a < i) : OkG i m "not" [a]
  | and {a b : Int} (h : 0 ≤ a ∧ a < i) (h2 : 0 ≤ b ∧ b < i) : OkG i m "and" [a, b]
  | or {a b : Int} (h : 0 ≤ a ∧ a < i) (h2 : 0 ≤ b ∧ b < i) : OkG i m "or" [a, b]
  | xor {a b : Int} (h : 0 ≤ a ∧ a < i) (h2 : 0 ≤ b ∧ b < i) : OkG i m "xor" [a, b]
  | pick {a b c : Int} (h : 0 ≤ a ∧ a < i) (h2 : 0 ≤ b ∧ b < i) (h3 : 0 ≤ c ∧ c < i) : OkG i m "pick" [a, b, c]
  | keep {a b : Int} (h : 0 ≤ a ∧ a < 2) (h2 : 0 ≤ b ∧ b < m) : OkG i m "keep" [a, b]
def gD (g : Str × List Int) : D := .tup (.str g.1 :: g.2.map .int)
def feedsT : List (Str × D) := [("in", .int 0), ("zero", .int 0), ("one", .int 0), ("not", .int 1), ("and", .int 2), ("or", .int 2), ("xor", .int 2), ("pick", .int 3)]
theorem gate_fits_ok {X : Env} {i m : Int} {w : Str} {fs : List Int} {st : List (Option D)} (hn : IsNum X) (hg : X.glo 8 = some (.sd feedsT)) (h : OkG i m w fs) : callF X f_gate_fits [gD (w, fs), .int i, .int m] st = .ok (.im (.bl true)) st := by
  have hn : ∀ (a n : Int) (st : List (Option D)), X.fn 158 [.int a, .int n] st = .ok (.im (.bl (decide (0 ≤ a) && decide (a < n)))) st := hn
  simp only [callF, f_gate_fits, c_gate_fits]
  cases h <;> simp (disch := omega) [gD, hn, hg, feedsT, fr_lcs, *]
abbrev S_gate_fits (F : List D → List (Option D) → RC) : Prop := ∀ (i m : Int) (w : Str) (fs : List Int) (st : List (Option D)), OkG i m w fs → F [gD (w, fs), .int i, .int m] st = .ok (.im (.bl true)) st
abbrev Fits (X : Env) : Prop := S_gate_fits (X.fn 159)
abbrev Gt := Str × List Int
def OkNet (gs : List Gt) : Prop := ∀ (i : Nat) (g : Gt), gs[i]? = some g → OkG i gs.length g.1 g.2
theorem net_loop0 {X : Env} (hf : Fits X) {a c d : Sl} {al : List D} {st : List (Option D)} {n : Nat} (hal : al.length = n) : ∀ (gs : List Gt) (j : Nat) (x y : Sl), (∀ (i : Nat) (g : Gt), gs[i]? = some g → OkG ((j + i : Nat) : Int) n g.1 g.2) →
    ∃ x' y', loop (forStep X (.tc (.nm 4) (.tc (.nm 5) .tn)) c_Net_X_mk_init_b0) (enumD j (gs.map gD)) ⟨[a, .im (.lst al), c, d, x, y], st⟩ = .ok .nx ⟨[a, .im (.lst al), c, d, x', y'], st⟩
  | [], j, x, y, _ => ⟨x, y, rfl⟩
  | g :: gs, j, x, y, h => by
    have h0 := h 0 g rfl
    obtain ⟨x', y', e⟩ := net_loop0 hf (a := a) (c := c) (d := d) (al := al) (st := st) hal gs (j + 1) (.im (.int j)) (.im (gD g)) (fun i q hq => by
      have := h (i + 1) q hq
      rw [show j + 1 + i = j + (i + 1) from by omega]
      exact this)
    refine ⟨x', y', ?_⟩
    have f0 := hf _ _ _ _ st h0
    have : forStep X (.tc (.nm 4) (.tc (.nm 5) .tn)) c_Net_X_mk_init_b0 (.tup [.int j, gD g]) ⟨[a, .im (.lst al), c, d, x, y], st⟩ = .ok .nx ⟨[a, .im (.lst al), c, d, .im (.int j), .im (gD g)], st⟩ := by
      have f0 : X.fn 159 [gD g, .int (j : Int), .int (n : Int)] st = .ok (.im (.bl true)) st := f0
      have e0 : ∀ st : List (Option D), deref st (gD g) = some (gD g) := fun _ => rfl
      simp [fr_step, c_Net_X_mk_init_b0, f0, hal]
    show ((forStep X _ _ (.tup [.int j, gD g]) _).bind _) = _
    rw [this]
    exact e
theorem net_loop1 {X : Env} (hn : IsNum X) {a b x y : Sl} {al : List D} {st : List (Option D)} {n : Nat} (hal : al.length = n) : ∀ (os : List Int) (z : Sl), (∀ o ∈ os, 0 ≤ o ∧ o < n) →
    ∃ z', loop (forStep X (.nm 3) c_Net_X_mk_init_b1) (os.map .int) ⟨[a, .im (.lst al), b, z, x, y], st⟩ = .ok .nx ⟨[a, .im (.lst al), b, z', x, y], st⟩
  | [], z, _ => ⟨z, rfl⟩
  | o :: os, z, h => by
    obtain ⟨z', e⟩ := net_loop1 hn (a := a) (b := b) (x := x) (y := y) (al := al) (st := st) hal os (.im (.int o)) (fun q hq => h q (List.mem_cons_of_mem _ hq))
    refine ⟨z', ?_⟩
    obtain ⟨h1, h2⟩ := h o List.mem_cons_self
    have hn : ∀ (a n : Int) (st : List (Option D)), X.fn 158 [.int a, .int n] st = .ok (.im (.bl (decide (0 ≤ a) && decide (a < n)))) st := hn
    have : forStep X (.nm 3) c_Net_X_mk_init_b1 (.int o) ⟨[a, .im (.lst al), b, z, x, y], st⟩ = .ok .nx ⟨[a, .im (.lst al), b, .im (.int o), x, y], st⟩ := by
      simp [fr_step, c_Net_X_mk_init_b1, hn, hal, h1, h2]
    show ((forStep X _ _ (.int o) _).bind _) = _
    rw [this]
    exact e
theorem net_ok {X : Env} (hf : Fits X) (hn : IsNum X) (n1 : X.na 19 "gates" = true) (n2 : X.na 19 "outs" = true) {gs : List Gt} {os : List Int} {st : List (Option D)} (hg : OkNet gs) (ho : ∀ o ∈ os, 0 ≤ o ∧ o < gs.length) :
    callN X 19 f_Net_X_mk_init [.lst (gs.map gD), .lst (os.map .int)] st = .ok (.own (.ins 19 [("gates", .tup (gs.map gD)), ("outs", .tup (os.map .int))])) st := by
  obtain ⟨x, y, e0⟩ := net_loop0 hf (a := .own (.ins 19 [])) (c := .im (.lst (os.map .int))) (d := .no) (al := gs.map gD) (st := st) (n := gs.length) (by simp) gs 0 .no .no (fun i g q => by
    rw [Nat.zero_add]
    exact hg i g q)
  obtain ⟨z, e1⟩ := net_loop1 hn (a := .own (.ins 19 [])) (b := .im (.lst (os.map .int))) (x := x) (y := y) (al := gs.map gD) (st := st) (n := gs.length) (by simp) os .no ho
  simp only [callN, f_Net_X_mk_init, c_Net_X_mk_init]
  simp [e0, e1, putFD, n1, n2, fput, endN]
  decide +kernel
theorem OkG.ok {i m : Int} {w : Str} {fs : List Int} (h : OkG i m w fs) : PySem.PyData.strOk w = true := by
  cases h <;> simp
theorem gates_loop {X : Env} {w : Str} (hw : PySem.PyData.strOk w = true) {a : Sl} {st : List (Option D)} : ∀ (gs : List Gt) (j : Nat) (acc : List D) (x y : Sl), (∀ g ∈ gs, PySem.PyData.strOk g.1 = true) → acc.length + gs.length ≤ 1000 →
    ∃ x' y', lcLoop (lcStep X (.var 2) (.tc (.nm 2) (.tc (.nm 3) .tn)) (.cons (.bin .eq (.sub (.var 3) (.cst (.int 0))) (.var 1)) .nil) [2, 3]) (enumD j (gs.map gD)) acc ⟨[a, .im (.str w), x, y], st⟩ = .ok (acc ++ (ixs w j gs).map .int) ⟨[a, .im (.str w), x', y'], st⟩
  | [], j, acc, x, y, _, _ => ⟨x, y, by simp [ixs, enumD]⟩
  | g :: gs, j, acc, x, y, h, hl => by
    have h0 := h g List.mem_cons_self
    have hr : ∀ q ∈ gs, PySem.PyData.strOk q.1 = true := fun q hq => h q (List.mem_cons_of_mem _ hq)
    rw [List.length_cons] at hl
    show ∃ x' y', lcLoop _ (.tup [.int j, gD g] :: enumD (j + 1) (gs.map gD)) acc _ = _
    by_cases e : g.1 = w
    · obtain ⟨x', y', ih⟩ := gates_loop (X := X) hw (a := a) (st := st) gs (j + 1) (acc ++ [.int j]) (.im (.int j)) (.im (gD g)) hr (by simp; omega)
      refine ⟨x', y', ?_⟩
      have e3 : lcStep X (.var 2) (.tc (.nm 2) (.tc (.nm 3) .tn)) (.cons (.bin .eq (.sub (.var 3) (.cst (.int 0))) (.var 1)) .nil) [2, 3] (.tup [.int j, gD g]) ⟨[a, .im (.str w), x, y], st⟩ = .ok (some (.int j)) ⟨[a, .im (.str w), .im (.int j), .im (gD g)], st⟩ := by
        simp [fr_lcs, gD, e, hw]
      rw [lcl_cons, e3]
      simp (disch := omega) [ih, ixs, e]
    · obtain ⟨x', y', ih⟩ := gates_loop (X := X) hw (a := a) (st := st) gs (j + 1) acc (.im (.int j)) (.im (gD g)) hr (by omega)
      refine ⟨x', y', ?_⟩
      have e3 : lcStep X (.var 2) (.tc (.nm 2) (.tc (.nm 3) .tn)) (.cons (.bin .eq (.sub (.var 3) (.cst (.int 0))) (.var 1)) .nil) [2, 3] (.tup [.int j, gD g]) ⟨[a, .im (.str w), x, y], st⟩ = .ok none ⟨[a, .im (.str w), .im (.int j), .im (gD g)], st⟩ := by
        simp [fr_lcs, gD, e, hw, h0]
      rw [lcl_cons, e3]
      simp (disch := omega) [ih, ixs, e]
def netD (gs : List Gt) (os : List Int) : D := .ins 19 [("gates", .tup (gs.map gD)), ("outs", .tup (os.map .int))]
abbrev gt (w : Str) (fs : List Int) : Gt := (w, fs)
@[simp] theorem gD_dr {st : List (Option D)} {g : Gt} : deref st (gD g) = some (gD g) := id rfl
@[simp] theorem gD_0 {g : Gt} : subD (gD g) (.int 0) = some (.im (.str g.1)) := by simp [gD]
theorem gates_of_ok {X : Env} (n1 : X.na 19 "gates" = true) {w : Str} (hw : PySem.PyData.strOk w = true) {gs : List Gt} {os : List Int} {st : List (Option D)} (hg : ∀ g ∈ gs, PySem.PyData.strOk g.1 = true) (hl : gs.length ≤ 1000) :
    callF X f_gates_of [netD gs os, .str w] st = .ok (.own (.lst ((ixs w 0 gs).map .int))) st := by
  obtain ⟨x, y, e⟩ := gates_loop (X := X) hw (a := .im (netD gs os)) (st := st) gs 0 [] .no .no hg (by simpa using hl)
  simp only [callF, f_gates_of, c_gates_of]
  simp [netD] at e ⊢
  simp [e, n1]
abbrev GatesOf (X : Env) : Prop := ∀ (w : Str) (gs : List Gt) (os : List Int) (st : List (Option D)), PySem.PyData.strOk w = true → (∀ g ∈ gs, PySem.PyData.strOk g.1 = true) → gs.length ≤ 1000 → X.fn 161 [netD gs os, .str w] st = .ok (.own (.lst ((ixs w 0 gs).map .int))) st
theorem ins_of_ok {X : Env} (h : GatesOf X) {gs : List Gt} {os : List Int} {st : List (Option D)} (hg : ∀ g ∈ gs, PySem.PyData.strOk g.1 = true) (hl : gs.length ≤ 1000) :
    callF X f_ins_of [netD gs os] st = .ok (.own (.lst ((ixs "in" 0 gs).map .int))) st := by
  have e := h "in" gs os st (by simp) hg hl
  simp only [callF, f_ins_of, c_ins_of]
  have e2 : ∀ st, deref st (netD gs os) = some (netD gs os) := fun _ => rfl
  simp [e]
def feedsG (g : Gt) : List Int := if g.1 = "keep" then g.2.drop 1 else g.2
abbrev FeedsOf (X : Env) : Prop := ∀ (i m : Int) (g : Gt) (st : List (Option D)), OkG i m g.1 g.2 → X.fn 164 [gD g] st = .ok (.own (.lst ((feedsG g).map .int))) st
theorem feeds_of_ok {X : Env} {i m : Int} {g : Gt} {st : List (Option D)} (h : OkG i m g.1 g.2) : callF X f_feeds_of [gD g] st = .ok (.own (.lst ((feedsG g).map .int))) st := by
  obtain ⟨w, fs⟩ := g
  simp only at h
  simp only [callF, f_feeds_of, c_feeds_of, feedsG]
  cases h <;> simp (disch := first | omega | decide +kernel) [gD]
theorem OkG.fed {i m : Int} {g : Gt} (h : OkG i m g.1 g.2) (him : i ≤ m) : ∀ f ∈ feedsG g, 0 ≤ f ∧ f < m := by
  obtain ⟨w, fs⟩ := g
  simp only at h
  unfold feedsG
  intro f mf
  cases h <;> simp (disch := first | omega | decide +kernel) at mf <;> omega
abbrev S_gates_of (F : List D → List (Option D) → RC) : Prop := ∀ (w : Str) (gs : List Gt) (os : List Int) (st : List (Option D)), PySem.PyData.strOk w = true → (∀ g ∈ gs, PySem.PyData.strOk g.1 = true) → gs.length ≤ 1000 → F [netD gs os, .str w] st = .ok (.own (.lst ((ixs w 0 gs).map .int))) st
abbrev S_ins_of (F : List D → List (Option D) → RC) : Prop := ∀ (gs : List Gt) (os : List Int) (st : List (Option D)), (∀ g ∈ gs, PySem.PyData.strOk g.1 = true) → gs.length ≤ 1000 → F [netD gs os] st = .ok (.own (.lst ((ixs "in" 0 gs).map .int))) st
abbrev S_feeds_of (F : List D → List (Option D) → RC) : Prop := ∀ (i m : Int) (g : Gt) (st : List (Option D)), OkG i m g.1 g.2 → F [gD g] st = .ok (.own (.lst ((feedsG g).map .int))) st
abbrev S_Net (F : List D → List (Option D) → RC) : Prop := ∀ (gs : List Gt) (os : List Int) (st : List (Option D)), OkNet gs → (∀ o ∈ os, 0 ≤ o ∧ o < gs.length) → F [.lst (gs.map gD), .lst (os.map .int)] st = .ok (.own (netD gs os)) st
theorem k_is_number {X : Env} : S_is_number (callF X f_is_number) := fun _ _ _ => is_number_ok
theorem k_gate_fits {X : Env} (h1 : S_is_number (X.fn 158)) (h2 : X.glo 8 = some (.sd feedsT)) : S_gate_fits (callF X f_gate_fits) := fun _ _ _ _ _ h => gate_fits_ok h1 h2 h
theorem k_gates_of {X : Env} (n1 : X.na 19 "gates" = true) : S_gates_of (callF X f_gates_of) := fun _ _ _ _ a b c => gates_of_ok n1 a b c
theorem k_ins_of {X : Env} (h1 : S_gates_of (X.fn 161)) : S_ins_of (callF X f_ins_of) := fun _ _ _ a b => ins_of_ok h1 a b
theorem k_feeds_of {X : Env} : S_feeds_of (callF X f_feeds_of) := fun _ _ _ _ h => feeds_of_ok h
theorem k_Net_X_mk_init {X : Env} (h1 : S_is_number (X.fn 158)) (h2 : S_gate_fits (X.fn 159)) (n1 : X.na 19 "gates" = true) (n2 : X.na 19 "outs" = true) : S_Net (callN X 19 f_Net_X_mk_init) := fun _ _ _ a b => net_ok h2 h1 n1 n2 a b
theorem k__law_next {X : Env} {ns : List Int} (hl : ns.length ≤ 63) : S_next ns (callF X f__law_next) := next_ok hl
end KS
end PB

set_option Elab.async false
set_option linter.all false
set_option autoImplicit false
set_option maxRecDepth 1000000
namespace PB
open PySem (Str)
namespace KS
def c_power_of_b0 : C := (.wp [] (.seq (.asg (.nm 1) (.bin .mul (.var 1) (.cst (.int 2)))) .skip) [2])
def c_power_of : C := (.seq (.asg (.nm 1) (.cst (.int 1))) (.seq (.wp [] (.for_ (.nm 2) .r1 (.cons (.var 0) .nil) c_power_of_b0) [0, 2]) (.seq (.ret (.var 1)) .skip)))
def f_power_of : Fn := ⟨3, 1, c_power_of⟩
-- power_of: number 61, slots 0 wide, 1 power, 2 place,
--   loop 0 (for_): wide, power
def c_source_fits : C := (.seq (.ite (.bor (.cons (.nt (.isi (.var 0) [.tuple])) (.cons (.bin .ne (.bi .len (.cons (.var 0) .nil)) (.cst (.int 2))) .nil))) (.seq (.ret (.cst (.bl false))) .skip) .skip) (.seq (.ite (.bin .eq (.sub (.var 0) (.cst (.int 0))) (.cst (.str "in"))) (.seq (.ret (.cal 158 (.cons (.sub (.var 0) (.cst (.int 1))) (.cons (.var 1) .nil)))) .skip) .skip) (.seq (.ret (.ban (.cons (.bin .eq (.sub (.var 0) (.cst (.int 0))) (.cst (.str "block"))) (.cons (.cal 158 (.cons (.sub (.var 0) (.cst (.int 1))) (.cons (.var 2) .nil))) .nil)))) .skip)))
def f_source_fits : Fn := ⟨3, 3, c_source_fits⟩
-- source_fits: number 399, slots 0 source, 1 ins, 2 many,
def c_sources_fit : C := (.seq (.ite (.nt (.isi (.var 0) [.list, .tuple])) (.seq (.ret (.cst (.bl false))) .skip) .skip) (.seq (.ret (.bi .all (.cons (.lc (.cal 399 (.cons (.var 3) (.cons (.var 1) (.cons (.var 2) .nil)))) (.nm 3) .ex (.cons (.var 0) .nil) .nil [3]) .nil))) .skip))
def f_sources_fit : Fn := ⟨4, 3, c_sources_fit⟩
-- sources_fit: number 400, slots 0 sources, 1 ins, 2 many, 3 source,
def c_block_fits : C := (.seq (.ite (.bor (.cons (.nt (.isi (.var 0) [.tuple])) (.cons (.bin .ne (.bi .len (.cons (.var 0) .nil)) (.cst (.int 4))) .nil))) (.seq (.ret (.cst (.bl false))) .skip) .skip) (.seq (.asg (.tc (.nm 3) (.tc (.nm 4) (.tc (.nm 5) (.tc (.nm 6) .tn)))) (.var 0)) (.seq (.ite (.bor (.cons (.nt (.cal 400 (.cons (.var 3) (.cons (.var 1) (.cons (.var 2) .nil))))) (.cons (.bin .gt (.bi .len (.cons (.var 3) .nil)) (.glo 14)) .nil))) (.seq (.ret (.cst (.bl false))) .skip) .skip) (.seq (.ite (.nt (.cal 158 (.cons (.var 4) (.cons (.cal 61 (.cons (.cal 61 (.cons (.bi .len (.cons (.var 3) .nil)) .nil)) .nil)) .nil)))) (.seq (.ret (.cst (.bl false))) .skip) .skip) (.seq (.ret (.ban (.cons (.cal 158 (.cons (.var 5) (.cons (.cst (.int 2)) .nil))) (.cons (.cal 158 (.cons (.var 6) (.cons (.bin .add (.cst (.int 1)) (.var 5)) .nil))) .nil)))) .skip)))))
def f_block_fits : Fn := ⟨7, 3, c_block_fits⟩
-- block_fits: number 401, slots 0 block, 1 ins, 2 many, 3 sources, 4 bits, 5 kept, 6 first,
def c_at_once_order_b0 : C := (.wp [] (.seq (.ite (.bi .all (.cons (.lc (.bor (.cons (.bin .in_ (.var 7) (.var 3)) (.cons (.bin .nin (.var 7) (.var 1)) .nil))) (.nm 7) .ex (.cons (.sub (.var 0) (.var 6)) .nil) .nil [7]) .nil)) (.seq (.setI (.var 3) (.var 6) (.cst (.bl true))) (.seq (.ex (.mt .append (.var 2) (.cons (.var 6) .nil))) .skip)) (.seq (.ex (.mt .append (.var 5) (.cons (.var 6) .nil))) .skip)) .skip) [6])
def c_at_once_order_b1 : C := (.wp [] (.seq (.asg (.nm 5) (.lst .nil)) (.seq (.wp [6] (.for_ (.nm 6) .ex (.cons (.var 4) .nil) c_at_once_order_b0) [6]) (.seq (.ite (.bin .eq (.bi .len (.cons (.var 5) .nil)) (.bi .len (.cons (.var 4) .nil))) (.seq (.ret (.cst .non)) .skip) .skip) (.seq (.asg (.nm 4) (.var 5)) .skip)))) [5, 6])
def c_at_once_order : C := (.seq (.asg (.nm 2) (.lst .nil)) (.seq (.asg (.nm 3) .dK) (.seq (.asg (.nm 4) (.bi .list (.cons (.var 1) .nil))) (.seq (.wp [] (.whl (.bin .gt (.bi .len (.cons (.var 4) .nil)) (.cst (.int 0))) c_at_once_order_b1) [0, 1, 3, 4, 5, 6]) (.seq (.ret (.var 2)) .skip)))))
def f_at_once_order : Fn := ⟨8, 2, c_at_once_order⟩
-- at_once_order: number 402, slots 0 feeds, 1 at_once, 2 order, 3 ready, 4 waiting, 5 left, 6 thing, 7 feed,
--   loop 0 (for_): feeds, at_once, order, ready, waiting, left
--   loop 1 (whl): feeds, at_once, order, ready, waiting
def c_blocks_order_b0 : C := (.wp [] (.seq (.ite (.bin .eq (.sub (.var 4) (.cst (.int 2))) (.cst (.int 0))) (.seq (.setI (.var 2) (.var 3) (.cst (.bl true))) .skip) .skip) .skip) [3, 4])
def c_blocks_order : C := (.seq (.asg (.nm 1) (.lc (.lc (.sub (.var 5) (.cst (.int 1))) (.nm 5) .ex (.cons (.sub (.var 4) (.cst (.int 0))) .nil) (.cons (.bin .eq (.sub (.var 5) (.cst (.int 0))) (.cst (.str "block"))) .nil) [5]) (.nm 4) .ex (.cons (.var 0) .nil) .nil [4])) (.seq (.asg (.nm 2) .dK) (.seq (.wp [] (.for_ (.tc (.nm 3) (.tc (.nm 4) .tn)) .enum (.cons (.var 0) .nil) c_blocks_order_b0) [0, 3, 4]) (.seq (.ret (.cal 402 (.cons (.var 1) (.cons (.var 2) .nil)))) .skip))))
def f_blocks_order : Fn := ⟨6, 1, c_blocks_order⟩
-- blocks_order: number 403, slots 0 blocks, 1 feeds, 2 at_once, 3 number, 4 block, 5 source,
--   loop 0 (for_): blocks, feeds, at_once
def c_Pack_X_mk_init_b0 : C := (.wp [] (.seq (.ite (.nt (.cal 401 (.cons (.var 4) (.cons (.var 1) (.cons (.bi .len (.cons (.var 2) .nil)) .nil))))) (.seq (.rai 8 none (.cst .non)) .skip) .skip) .skip) [4])
def c_Pack_X_mk_init : C := (.seq (.ite (.bor (.cons (.nt (.isi (.var 1) [.int])) (.cons (.isi (.var 1) [.bool]) (.cons (.bin .lt (.var 1) (.cst (.int 0))) .nil)))) (.seq (.rai 8 none (.cst .non)) .skip) .skip) (.seq (.wp [] (.for_ (.nm 4) .ex (.cons (.var 2) .nil) c_Pack_X_mk_init_b0) [4]) (.seq (.ite (.nt (.cal 400 (.cons (.var 3) (.cons (.var 1) (.cons (.bi .len (.cons (.var 2) .nil)) .nil))))) (.seq (.rai 8 none (.cst .non)) .skip) .skip) (.seq (.ite (.bin .is_ (.cal 403 (.cons (.var 2) .nil)) (.cst .non)) (.seq (.rai 8 none (.cst .non)) .skip) .skip) (.seq (.setF (.var 0) "ins" (.var 1)) (.seq (.setF (.var 0) "blocks" (.bi .tuple (.cons (.lc (.tup (.cons (.bi .tuple (.cons (.sub (.var 4) (.cst (.int 0))) .nil)) (.cons (.sub (.var 4) (.cst (.int 1))) (.cons (.sub (.var 4) (.cst (.int 2))) (.cons (.sub (.var 4) (.cst (.int 3))) .nil))))) (.nm 4) .ex (.cons (.var 2) .nil) .nil [4]) .nil))) (.seq (.setF (.var 0) "outs" (.bi .tuple (.cons (.var 3) .nil))) .skip)))))))
def f_Pack_X_mk_init : Fn := ⟨5, 4, c_Pack_X_mk_init⟩
-- Pack.__init__: number 404, slots 0 self, 1 ins, 2 blocks, 3 outs, 4 block,
--   loop 0 (for_): self, ins, blocks, outs
def c__law_some_bits_b0 : C := (.wp [] (.seq (.ite (.bin .eq (.bin .mod (.var 5) (.cst (.int 30))) (.cst (.int 29))) (.seq (.asg (.nm 3) (.cal 1 (.cons (.var 0) (.cons (.var 1) .nil)))) .skip) .skip) (.seq (.ex (.mt .append (.var 4) (.cons (.bin .mod (.var 3) (.cst (.int 2))) .nil))) (.seq (.asg (.nm 3) (.bin .fdiv (.var 3) (.cst (.int 2)))) .skip))) [5])
def c__law_some_bits : C := (.seq (.asg (.nm 3) (.cal 1 (.cons (.var 0) (.cons (.var 1) .nil)))) (.seq (.asg (.nm 4) (.lst .nil)) (.seq (.wp [] (.for_ (.nm 5) .r1 (.cons (.var 2) .nil) c__law_some_bits_b0) [0, 1, 2, 3, 5]) (.seq (.ret (.var 4)) .skip))))
def f__law_some_bits : Fn := ⟨6, 3, c__law_some_bits⟩
-- _law_some_bits: number 405, slots 0 _law_script, 1 _law_at, 2 _law_many, 3 _law_m, 4 _law_bits, 5 _law_k,
--   loop 0 (for_): _law_script, _law_at, _law_many, _law_m, _law_bits
def c__law_drawn_source : C := (.seq (.asg (.nm 4) (.cal 1 (.cons (.var 0) (.cons (.var 1) .nil)))) (.seq (.ite (.bin .eq (.bin .add (.var 2) (.var 3)) (.cst (.int 0))) (.seq (.ret (.cst .non)) .skip) .skip) (.seq (.asg (.nm 5) (.bin .mod (.var 4) (.bin .add (.var 2) (.var 3)))) (.seq (.ite (.bin .lt (.var 5) (.var 2)) (.seq (.ret (.tup (.cons (.cst (.str "in")) (.cons (.var 5) .nil)))) .skip) .skip) (.seq (.ret (.tup (.cons (.cst (.str "block")) (.cons (.bin .sub (.var 5) (.var 2)) .nil)))) .skip)))))
def f__law_drawn_source : Fn := ⟨6, 4, c__law_drawn_source⟩
-- _law_drawn_source: number 406, slots 0 _law_script, 1 _law_at, 2 _law_ins, 3 _law_blocks, 4 _law_m, 5 _law_k,
def c__law_pack_lists_b0 : C := (.wp [] (.seq (.ex (.mt .insert (.var 5) (.cons (.bin .mod (.cal 1 (.cons (.var 0) (.cons (.var 1) .nil))) (.bin .add (.bi .len (.cons (.var 5) .nil)) (.cst (.int 1)))) (.cons (.var 6) .nil)))) .skip) [6])
def c__law_pack_lists_b1 : C := (.wp [] (.seq (.asg (.nm 14) (.cal 406 (.cons (.var 0) (.cons (.var 1) (.cons (.var 2) (.cons (.var 3) .nil)))))) (.seq (.ite (.bin .is_ (.var 14) (.cst .non)) (.seq .cnt .skip) .skip) (.seq (.asg (.nm 15) (.bor (.cons (.bin .eq (.sub (.var 14) (.cst (.int 0))) (.cst (.str "in"))) (.cons (.bin .eq (.sub (.var 7) (.var 6)) (.cst (.int 1))) .nil)))) (.seq (.ite (.nt (.var 15)) (.seq (.asg (.nm 15) (.bor (.cons (.bin .eq (.sub (.var 7) (.sub (.var 14) (.cst (.int 1)))) (.cst (.int 1))) (.cons (.bin .lt (.mt .index (.var 5) (.cons (.sub (.var 14) (.cst (.int 1))) .nil)) (.mt .index (.var 5) (.cons (.var 6) .nil))) .nil)))) .skip) .skip) (.seq (.ite (.var 15) (.seq (.ex (.mt .append (.var 11) (.cons (.var 14) .nil))) .skip) .skip) .skip))))) [12, 14, 15])
def c__law_pack_lists_b2 : C := (.wp [] (.seq (.asg (.nm 10) (.cal 1 (.cons (.var 0) (.cons (.var 1) .nil)))) (.seq (.asg (.nm 11) (.lst .nil)) (.seq (.wp [12, 13, 14, 15] (.for_ (.nm 12) .r1 (.cons (.bin .mod (.var 10) (.cst (.int 5))) .nil) c__law_pack_lists_b1) [12, 14, 15]) (.seq (.asg (.nm 13) (.bin .mod (.cal 1 (.cons (.var 0) (.cons (.var 1) .nil))) (.sub (.lst (.cons (.cst (.int 2)) (.cons (.cst (.int 4)) (.cons (.cst (.int 16)) (.cons (.cst (.int 256)) (.cons (.cst (.int 65536)) .nil)))))) (.bi .len (.cons (.var 11) .nil))))) (.seq (.ex (.mt .append (.var 8) (.cons (.tup (.cons (.var 11) (.cons (.var 13) (.cons (.sub (.var 7) (.var 6)) (.cons (.bin .mul (.bin .mod (.bin .fdiv (.var 10) (.cst (.int 5))) (.cst (.int 2))) (.sub (.var 7) (.var 6))) .nil))))) .nil))) .skip))))) [6, 10, 11, 12, 13, 14, 15])
def c__law_pack_lists : C := (.seq (.asg (.nm 5) (.lst .nil)) (.seq (.wp [] (.for_ (.nm 6) .r1 (.cons (.var 3) .nil) c__law_pack_lists_b0) [6]) (.seq (.asg (.nm 7) (.cal 405 (.cons (.var 0) (.cons (.var 1) (.cons (.var 3) .nil))))) (.seq (.asg (.nm 8) (.lst .nil)) (.seq (.wp [6] (.for_ (.nm 6) .r1 (.cons (.var 3) .nil) c__law_pack_lists_b2) [5, 6, 7, 10, 11, 12, 13, 14, 15]) (.seq (.asg (.nm 9) (.lc (.cal 406 (.cons (.var 0) (.cons (.var 1) (.cons (.var 2) (.cons (.var 3) .nil))))) (.nm 6) .r1 (.cons (.var 4) .nil) .nil [6])) (.seq (.ret (.tup (.cons (.var 8) (.cons (.lc (.var 14) (.nm 14) .ex (.cons (.var 9) .nil) (.cons (.bin .isn (.var 14) (.cst .non)) .nil) [14]) .nil)))) .skip)))))))
def f__law_pack_lists : Fn := ⟨16, 5, c__law_pack_lists⟩
-- _law_pack_lists: number 407, slots 0 _law_script, 1 _law_at, 2 _law_ins, 3 _law_many, 4 _law_outs, 5 _law_row, 6 _law_k, 7 _law_kinds, 8 _law_blocks, 9 _law_ends, 10 _law_m, 11 _law_sources, 12 _law_j, 13 _law_bits, 14 _law_source, 15 _law_free,
--   loop 0 (for_): _law_script, _law_at, _law_ins, _law_many, _law_outs, _law_row
--   loop 1 (for_): _law_script, _law_at, _law_ins, _law_many, _law_outs, _law_row, _law_k, _law_kinds, _law_blocks, _law_m, _law_sources
--   loop 2 (for_): _law_script, _law_at, _law_ins, _law_many, _law_outs, _law_row, _law_kinds, _law_blocks
def c__law_only : C := (.seq (.asg (.nm 2) (.lst (.cons (.isx (.var 0) [1]) (.cons (.isx (.var 0) [4]) (.cons (.isx (.var 0) [6]) .nil))))) (.seq (.asg (.nm 2) (.bin .add (.var 2) (.lst (.cons (.isx (.var 0) [5]) (.cons (.isx (.var 0) [7]) (.cons (.isx (.var 0) [8]) .nil)))))) (.seq (.asg (.nm 2) (.bin .add (.var 2) (.lst (.cons (.isx (.var 0) [9]) (.cons (.isx (.var 0) [10]) (.cons (.isx (.var 0) [11]) .nil)))))) (.seq (.asg (.nm 2) (.bin .add (.var 2) (.lst (.cons (.isx (.var 0) [12]) (.cons (.isx (.var 0) [13]) .nil))))) (.seq (.ite (.bor (.cons (.nt (.isx (.var 0) [999999])) (.cons (.bin .ne (.bi .len (.cons (.lc (.var 3) (.nm 3) .ex (.cons (.var 2) .nil) (.cons (.var 3) .nil) [3]) .nil)) (.cst (.int 1))) .nil))) (.seq (.ret (.cst (.bl false))) .skip) .skip) (.seq (.ret (.sub (.var 2) (.var 1))) .skip))))))
def f__law_only : Fn := ⟨4, 2, c__law_only⟩
-- _law_only: number 408, slots 0 _law_caught, 1 _law_kind, 2 _law_found, 3 _law_one,
def c__law_right : C := (.seq (.asg (.nm 4) (.bi .tuple (.cons (.lc (.tup (.cons (.bi .tuple (.cons (.var 5) .nil)) (.cons (.var 6) (.cons (.var 7) (.cons (.var 8) .nil))))) (.tc (.nm 5) (.tc (.nm 6) (.tc (.nm 7) (.tc (.nm 8) .tn)))) .ex (.cons (.var 2) .nil) .nil [5, 6, 7, 8]) .nil))) (.seq (.ite (.bor (.cons (.nt (.isx (.var 0) [26])) (.cons (.nt (.calP 92 (.cons (.fld (.var 0) "ins") (.cons (.var 1) .nil)))) .nil))) (.seq (.ret (.cst (.bl false))) .skip) .skip) (.seq (.ret (.ban (.cons (.calP 92 (.cons (.fld (.var 0) "blocks") (.cons (.var 4) .nil))) (.cons (.calP 92 (.cons (.fld (.var 0) "outs") (.cons (.bi .tuple (.cons (.var 3) .nil)) .nil))) .nil)))) .skip)))
def f__law_right : Fn := ⟨9, 4, c__law_right⟩
-- _law_right: number 409, slots 0 _law_pack, 1 _law_ins, 2 _law_blocks, 3 _law_outs, 4 _law_due, 5 _law_sources, 6 _law_bits, 7 _law_kept, 8 _law_first,
def c__law_refused_410 : C := (.seq (.asg (.nm 3) (.cst .non)) (.seq (.tr (.seq (.ex (.mkR 26 404 (.cons (.var 0) (.cons (.var 1) (.cons (.var 2) .nil))))) .skip) 0 (some 4) (.seq (.asg (.nm 3) (.var 4)) .skip)) (.seq (.ret (.cal 408 (.cons (.var 3) (.cons (.cst (.int 5)) .nil)))) .skip)))
def f__law_refused_410 : Fn := ⟨5, 3, c__law_refused_410⟩
-- _law_refused: number 410, slots 0 _law_ins, 1 _law_blocks, 2 _law_outs, 3 _law_caught, 4 e,
def c__law_strange : C := (.seq (.asg (.nm 3) (.bin .add (.bi .len (.cons (.var 2) .nil)) (.cst (.int 1)))) (.seq (.asg (.nm 4) (.sub (.lst (.cons (.cst (.int 1)) (.cons (.cst (.int 2)) (.cons (.bin .pow (.cst (.int 10)) (.cst (.int 20))) .nil)))) (.bin .mod (.bin .fdiv (.var 0) (.cst (.int 50))) (.cst (.int 3))))) (.seq (.asg (.nm 5) (.lst (.cons (.tup (.cons (.lst (.cons (.tup (.cons (.cst (.str "in")) (.cons (.bin .add (.bin .sub (.var 1) (.cst (.int 1))) (.var 4)) .nil))) .nil)) (.cons (.cst (.int 0)) (.cons (.cst (.int 0)) (.cons (.cst (.int 0)) .nil))))) (.cons (.tup (.cons (.lst (.cons (.tup (.cons (.cst (.str "block")) (.cons (.bin .add (.bin .sub (.var 3) (.cst (.int 1))) (.var 4)) .nil))) .nil)) (.cons (.cst (.int 0)) (.cons (.cst (.int 1)) (.cons (.cst (.int 0)) .nil))))) (.cons (.tup (.cons (.lst (.cons (.tup (.cons (.cst (.str "in")) (.cons (.un .neg (.cst (.int 1))) .nil))) .nil)) (.cons (.cst (.int 0)) (.cons (.cst (.int 0)) (.cons (.cst (.int 0)) .nil))))) .nil))))) (.seq (.asg (.nm 5) (.bin .add (.var 5) (.lst (.cons (.tup (.cons (.lst (.cons (.tup (.cons (.cst (.str "out")) (.cons (.cst (.int 0)) .nil))) .nil)) (.cons (.cst (.int 0)) (.cons (.cst (.int 0)) (.cons (.cst (.int 0)) .nil))))) (.cons (.tup (.cons (.lst (.cons (.tup (.cons (.cst (.str "in")) .nil)) .nil)) (.cons (.cst (.int 0)) (.cons (.cst (.int 0)) (.cons (.cst (.int 0)) .nil))))) (.cons (.tup (.cons (.lst (.cons (.tup (.cons (.cst (.str "block")) (.cons (.un .neg (.var 4)) .nil))) .nil)) (.cons (.cst (.int 0)) (.cons (.cst (.int 1)) (.cons (.cst (.int 0)) .nil))))) (.cons (.tup (.cons (.lst .nil) (.cons (.cst (.int 2)) (.cons (.cst (.int 0)) (.cons (.cst (.int 0)) .nil))))) .nil))))))) (.seq (.asg (.nm 5) (.bin .add (.var 5) (.lst (.cons (.tup (.cons (.lst .nil) (.cons (.un .neg (.cst (.int 1))) (.cons (.cst (.int 0)) (.cons (.cst (.int 0)) .nil))))) (.cons (.tup (.cons (.lst .nil) (.cons (.cst (.int 1)) (.cons (.cst (.int 2)) (.cons (.cst (.int 0)) .nil))))) (.cons (.tup (.cons (.lst .nil) (.cons (.cst (.int 1)) (.cons (.un .neg (.cst (.int 1))) (.cons (.cst (.int 0)) .nil))))) (.cons (.tup (.cons (.lst .nil) (.cons (.cst (.int 1)) (.cons (.cst (.int 1)) (.cons (.cst (.int 2)) .nil))))) (.cons (.tup (.cons (.lst .nil) (.cons (.cst (.int 1)) (.cons (.cst (.int 0)) (.cons (.cst (.int 1)) .nil))))) (.cons (.tup (.cons (.lst .nil) (.cons (.cst (.int 1)) (.cons (.cst (.int 1)) .nil)))) .nil))))))))) (.seq (.asg (.nm 5) (.bin .add (.var 5) (.lst (.cons (.tup (.cons (.lst .nil) (.cons (.cst (.int 1)) (.cons (.cst (.int 1)) (.cons (.cst (.int 0)) (.cons (.cst (.int 0)) .nil)))))) (.cons (.tup (.cons (.bin .mul (.lst (.cons (.tup (.cons (.cst (.str "block")) (.cons (.bin .sub (.var 3) (.cst (.int 1))) .nil))) .nil)) (.cst (.int 5))) (.cons (.cst (.int 0)) (.cons (.cst (.int 1)) (.cons (.cst (.int 0)) .nil))))) (.cons (.tup (.cons (.lst (.cons (.tup (.cons (.cst (.str "block")) (.cons (.bin .sub (.var 3) (.cst (.int 1))) .nil))) .nil)) (.cons (.cst (.int 4)) (.cons (.cst (.int 1)) (.cons (.cst (.int 0)) .nil))))) .nil)))))) (.seq (.asg (.nm 5) (.bin .add (.var 5) (.lst (.cons (.tup (.cons (.lst (.cons (.tup (.cons (.cst (.str "block")) (.cons (.bin .sub (.var 3) (.cst (.int 1))) .nil))) .nil)) (.cons (.cst (.int 0)) (.cons (.cst (.int 0)) (.cons (.cst (.int 0)) .nil))))) (.cons (.tup (.cons (.bin .mul (.lst (.cons (.tup (.cons (.cst (.str "block")) (.cons (.bin .sub (.var 3) (.cst (.int 1))) .nil))) .nil)) (.cst (.int 4))) (.cons (.cst (.int 65536)) (.cons (.cst (.int 1)) (.cons (.cst (.int 1)) .nil))))) .nil))))) (.seq (.ret (.sub (.var 5) (.bin .mod (.var 0) (.cst (.int 18))))) .skip))))))))
def f__law_strange : Fn := ⟨6, 3, c__law_strange⟩
-- _law_strange: number 411, slots 0 _law_m, 1 _law_ins, 2 _law_blocks, 3 _law_many, 4 _law_far, 5 _law_some,
def c__law_ring : C := (.seq (.asg (.nm 1) (.bi .len (.cons (.var 0) .nil))) (.seq (.ret (.bin .add (.var 0) (.lst (.cons (.tup (.cons (.lst (.cons (.tup (.cons (.cst (.str "block")) (.cons (.bin .add (.var 1) (.cst (.int 1))) .nil))) .nil)) (.cons (.cst (.int 2)) (.cons (.cst (.int 0)) (.cons (.cst (.int 0)) .nil))))) (.cons (.tup (.cons (.lst (.cons (.tup (.cons (.cst (.str "block")) (.cons (.var 1) .nil))) .nil)) (.cons (.cst (.int 2)) (.cons (.cst (.int 0)) (.cons (.cst (.int 0)) .nil))))) .nil))))) .skip))
def f__law_ring : Fn := ⟨2, 1, c__law_ring⟩
-- _law_ring: number 412, slots 0 _law_blocks, 1 _law_many,
def c__law_round_b0 : C := (.wp [] (.seq (.ex (.mt .append (.sub (.var 7) (.cst (.int 0))) (.cons (.tup (.cons (.cst (.str "in")) (.cons (.cst (.int 99)) .nil))) .nil))) .skip) [7])
def c__law_round_b1 : C := (.wp [] (.seq (.asg (.nm 15) (.cal 411 (.cons (.cal 1 (.cons (.var 0) (.cons (.var 1) .nil))) (.cons (.var 3) (.cons (.var 13) .nil))))) (.seq (.ite (.nt (.cal 410 (.cons (.var 3) (.cons (.bin .add (.var 13) (.lst (.cons (.var 15) .nil))) (.cons (.var 14) .nil))))) (.seq (.ret (.cst (.bl false))) .skip) .skip) .skip)) [9, 15])
def c__law_round : C := (.seq (.asg (.nm 2) (.cal 1 (.cons (.var 0) (.cons (.var 1) .nil)))) (.seq (.asg (.nm 3) (.bin .mod (.var 2) (.cst (.int 5)))) (.seq (.asg (.tc (.nm 13) (.tc (.nm 14) .tn)) (.cal 407 (.cons (.var 0) (.cons (.var 1) (.cons (.var 3) (.cons (.bin .mod (.bin .fdiv (.var 2) (.cst (.int 5))) (.cst (.int 9))) (.cons (.bin .mod (.bin .fdiv (.var 2) (.cst (.int 45))) (.cst (.int 5))) .nil))))))) (.seq (.asg (.nm 4) (.lc (.bin .add (.tup (.cons (.nwc (.bi .list (.cons (.sub (.var 7) (.cst (.int 0))) .nil))) .nil)) (.sli (.var 7) (.cst (.int 1)) .nop)) (.nm 7) .ex (.cons (.var 13) .nil) .nil [7])) (.seq (.asg (.nm 5) (.nwc (.bi .list (.cons (.var 14) .nil)))) (.seq (.asg (.nm 6) (.mkP 26 404 (.cons (.var 3) (.cons (.sub (.lst (.cons (.var 4) (.cons (.bi .tuple (.cons (.var 4) .nil)) .nil))) (.bin .mod (.bin .fdiv (.var 2) (.cst (.int 225))) (.cst (.int 2)))) (.cons (.var 5) .nil))))) (.seq (.wp [2] (.for_ (.nm 7) .ex (.cons (.var 4) .nil) c__law_round_b0) [4, 7]) (.seq (.ex (.mt .append (.var 5) (.cons (.cst .non) .nil))) (.seq (.asg (.nm 8) (.mkP 26 404 (.cons (.fld (.var 6) "ins") (.cons (.fld (.var 6) "blocks") (.cons (.fld (.var 6) "outs") .nil))))) (.seq (.ite (.bor (.cons (.nt (.cal 409 (.cons (.var 6) (.cons (.var 3) (.cons (.var 13) (.cons (.var 14) .nil)))))) (.cons (.nt (.cal 409 (.cons (.var 8) (.cons (.var 3) (.cons (.var 13) (.cons (.var 14) .nil)))))) .nil))) (.seq (.ret (.cst (.bl false))) .skip) .skip) (.seq (.wp [2, 4, 5, 7, 8] (.for_ (.nm 9) .r1 (.cons (.cst (.int 4)) .nil) c__law_round_b1) [9, 15]) (.seq (.asg (.nm 10) (.cal 1 (.cons (.var 0) (.cons (.var 1) .nil)))) (.seq (.asg (.nm 11) (.sub (.lst (.cons (.tup (.cons (.cst (.str "in")) (.cons (.var 3) .nil))) (.cons (.tup (.cons (.cst (.str "block")) (.cons (.bi .len (.cons (.var 13) .nil)) .nil))) (.cons (.tup (.cons (.cst (.str "in")) (.cons (.un .neg (.cst (.int 1))) .nil))) (.cons (.tup (.cons (.cst (.str "table")) (.cons (.cst (.int 0)) .nil))) (.cons (.tup (.cons (.cst (.str "in")) .nil)) .nil)))))) (.bin .mod (.var 10) (.cst (.int 5))))) (.seq (.ite (.bor (.cons (.nt (.cal 410 (.cons (.var 3) (.cons (.var 13) (.cons (.bin .add (.var 14) (.lst (.cons (.var 11) .nil))) .nil))))) (.cons (.nt (.cal 410 (.cons (.bin .sub (.un .neg (.cst (.int 1))) (.bin .mod (.var 10) (.cst (.int 7)))) (.cons (.lst .nil) (.cons (.lst .nil) .nil))))) .nil))) (.seq (.ret (.cst (.bl false))) .skip) .skip) (.seq (.ite (.nt (.cal 410 (.cons (.var 3) (.cons (.cal 412 (.cons (.var 13) .nil)) (.cons (.var 14) .nil))))) (.seq (.ret (.cst (.bl false))) .skip) .skip) (.seq (.asg (.nm 12) (.lc (.tup (.cons (.var 16) (.cons (.var 17) (.cons (.cst (.int 1)) (.cons (.cst (.int 0)) .nil))))) (.tc (.nm 16) (.tc (.nm 17) (.tc (.nm 18) (.tc (.nm 19) .tn)))) .ex (.cons (.cal 412 (.cons (.var 13) .nil)) .nil) .nil [16, 17, 18, 19])) (.seq (.ret (.ban (.cons (.cal 409 (.cons (.mkP 26 404 (.cons (.var 3) (.cons (.var 12) (.cons (.var 14) .nil)))) (.cons (.var 3) (.cons (.var 12) (.cons (.var 14) .nil))))) (.cons (.cal 409 (.cons (.var 6) (.cons (.var 3) (.cons (.var 13) (.cons (.var 14) .nil))))) .nil)))) .skip)))))))))))))))))
def f__law_round : Fn := ⟨20, 2, c__law_round⟩
-- _law_round: number 413, slots 0 _law_script, 1 _law_at, 2 _law_m, 3 _law_ins, 4 _law_given, 5 _law_ends, 6 _law_pack, 7 _law_block, 8 _law_again, 9 _law_k, 10 _law_n, 11 _law_wrong, 12 _law_rings, 13 _law_blocks, 14 _law_outs, 15 _law_strange_here, 16 _law_sources, 17 _law_bits, 18 _law_kept, 19 _law_first,
--   loop 0 (for_): _law_script, _law_at, _law_ins, _law_given, _law_ends, _law_pack, _law_blocks, _law_outs
--   loop 1 (for_): _law_script, _law_at, _law_ins, _law_pack, _law_blocks, _law_outs
def c_law_414_b0 : C := (.wp [] (.seq (.ite (.nt (.cal 413 (.cons (.var 0) (.cons (.var 1) .nil)))) (.seq (.ret (.cst (.bl false))) .skip) .skip) .skip) [2])
def c_law_414 : C := (.seq (.asg (.nm 1) (.nwc (.lst (.cons (.cst (.int 0)) .nil)))) (.seq (.wp [] (.for_ (.nm 2) .r1 (.cons (.bin .add (.cst (.int 1)) (.bin .fdiv (.bi .len (.cons (.sli (.var 0) .nop (.cst (.int 60))) .nil)) (.cst (.int 40)))) .nil) c_law_414_b0) [0, 1, 2]) (.seq (.ret (.cst (.bl true))) .skip)))
def f_law_414 : Fn := ⟨3, 1, c_law_414⟩
-- law: number 414, slots 0 _law_script, 1 _law_at, 2 _law_k,
--   loop 0 (for_): _law_script, _law_at
end KS
end PB

set_option Elab.async false
set_option linter.all false
set_option autoImplicit false
set_option maxRecDepth 1000000
set_option maxHeartbeats 4000000
namespace PB
open PySem (Str sizeLine)
/-- a while that may return -/
theorem wh_ret {σ : Type} {test : S → R Bool} {body : S → R Fl} (enc : σ → S) (I : σ → Prop) (μ : σ → Nat) (P : Vl → S → Prop)
    (k : ∀ x, I x → (∃ b, test (enc x) = .ok b (enc x) ∧ (b = true → (∃ x', (body (enc x) = .ok .nx (enc x') ∨ body (enc x) = .ok .ct (enc x')) ∧ I x' ∧ μ x' < μ x) ∨ ∃ v s, body (enc x) = .ok (.rt v) s ∧ P v s))) : ∀ (n : Nat) (x : σ), I x → μ x < n → (∃ x', wloop test body n (enc x) = .ok .nx (enc x') ∧ I x' ∧ test (enc x') = .ok false (enc x')) ∨ ∃ v s, wloop test body n (enc x) = .ok (.rt v) s ∧ P v s
  | 0, x, _, hm => absurd hm (Nat.not_lt_zero _)
  | n + 1, x, i, hm => by
    obtain ⟨b, e, h⟩ := k x i
    cases b with
    | false => exact .inl ⟨x, by simp [wloop, e, R.bind], i, e⟩
    | true =>
      rcases h rfl with ⟨x', e2, i2, m2⟩ | ⟨v, s, e2, p⟩
      · rcases wh_ret enc I μ P k n x' i2 (by omega) with ⟨y, e3, q⟩ | ⟨v, s, e3, p⟩
        · refine .inl ⟨y, ?_, q⟩
          rcases e2 with e2 | e2 <;> simp [wloop, e, e2, R.bind, e3]
        · refine .inr ⟨v, s, ?_, p⟩
          rcases e2 with e2 | e2 <;> simp [wloop, e, e2, R.bind, e3]
      · exact .inr ⟨v, s, by simp [wloop, e, e2, R.bind], p⟩
namespace KS
abbrev Fn' := List D → List (Option D) → RC
abbrev S_power_of (F : Fn') : Prop := ∀ (n : Nat) (st : List (Option D)), n ≤ 100000 → F [.int n] st = .ok (.im (.int (pow2 n))) st
theorem pow2_eq (n : Nat) : pow2 n = (2 : Int) ^ n := by
  induction n with
  | zero => rfl
  | succ n ih => rw [Int.pow_succ, ← ih]; rfl
theorem pow2_log (n : Nat) : (pow2 n).natAbs.log2 = n := by
  rw [pow2_eq, Int.natAbs_pow]
  exact Nat.log2_two_pow
theorem k_power_of {X : Env} : S_power_of (callF X f_power_of) := by
  intro n st hn
  have en : inR (n : Int) = true := in_R (by omega) (by omega)
  obtain ⟨x, e, rfl⟩ := fr_rng (lo := 0) (n := n) (step := (forStep X (.nm 2) c_power_of_b0)) (fun j : Nat => ⟨[.im (.int n), .im (.int (pow2 j)), .no], st⟩) (fun j x => x = j) 0 rfl (fun j x hj hx => by
    subst hx
    refine ⟨x + 1, .inl ?_, rfl⟩
    have hl := pow2_log x
    have h2 : (pow2 x).natAbs.log2 + (2 : Int).natAbs.log2 < 1000000 := by
      rw [hl, show (2 : Int).natAbs.log2 = 1 from by decide]
      omega
    have em : opB .mul (.int (pow2 x)) (.int 2) = some (.im (.int (pow2 x * 2))) := by
      show ifB (decide ((pow2 x).natAbs.log2 + (2 : Int).natAbs.log2 < 1000000)) _ = _
      rw [decide_eq_true h2]
      rfl
    have ep : pow2 (x + 1) = pow2 x * 2 := rfl
    simp (disch := omega) [fr_step, c_power_of_b0, em, ep])
  have e0 : pow2 0 = 1 := rfl
  simp only [callF, f_power_of, c_power_of]
  rw [e0] at e
  simp [en, e]
/-! ### sources, blocks -/
abbrev Sc := Str × Int
def scD (s : Sc) : D := .tup [.str s.1, .int s.2]
abbrev sc (w : Str) (k : Int) : Sc := (w, k)
/-- whether a thing is a source -/
def sfB (i m : Int) : D → Bool
  | .tup [.str w, .int k] => if w = "in" then decide (0 ≤ k) && decide (k < i) else decide (w = "block") && (decide (0 ≤ k) && decide (k < m))
  | _ => false
/-- things that are asked to be sources -/
inductive SW : D → Prop
  | two {w : Str} {k : Int} (h : PySem.PyData.strOk w = true) : SW (.tup [.str w, .int k])
  | one {w : Str} : SW (.tup [.str w])
theorem SW.dr {d : D} (h : SW d) (st : List (Option D)) : deref st d = some d := by cases h <;> rfl
abbrev S_source_fits (F : Fn') : Prop := ∀ (i m : Int) (d : D) (st : List (Option D)), SW d → F [d, .int i, .int m] st = .ok (.im (.bl (sfB i m d))) st
theorem k_source_fits {X : Env} (hn : S_is_number (X.fn 158)) : S_source_fits (callF X f_source_fits) := by
  intro i m d st h
  simp only [callF, f_source_fits, c_source_fits]
  cases h with
  | one => simp [sfB]
  | @two w k h =>
    by_cases c : w = "in"
    · subst c
      simp [sfB, hn]
    · by_cases c2 : w = "block"
      · subst c2
        simp (disch := first | omega | decide +kernel) [sfB, hn]
      · simp [sfB, h, c, c2]
abbrev S_sources_fit (F : Fn') : Prop := ∀ (i m : Int) (ds : List D) (d : D) (st : List (Option D)), ds.length ≤ 100000 → (∀ x ∈ ds, SW x) → As ds d → F [d, .int i, .int m] st = .ok (.im (.bl (ds.all (sfB i m)))) st
theorem k_sources_fit {X : Env} (hs : S_source_fits (X.fn 399)) : S_sources_fit (callF X f_sources_fit) := by
  intro i m ds d st hl hw hd
  have eL : fLc3 [3] (lcLoop (lcStep X (.cal 399 (.cons (.var 3) (.cons (.var 1) (.cons (.var 2) .nil)))) (.nm 3) .nil [3]) (ds.map fun d => d) [] ⟨[.im (d), .im (.int i), .im (.int m), .no], st⟩) = .ok (.own (.lst (ds.map fun x => .bl (sfB i m x)))) ⟨[.im (d), .im (.int i), .im (.int m), .no], st⟩ := by
    refine lc_eqm (by omega) (fun a ma => rfl) (fun a ma => ?_)
    have e := fun st => hs i m a st (hw a ma)
    have e2 := (hw a ma).dr
    simp (disch := omega) [e, e2]
  rw [List.map_id'] at eL
  simp only [callF, f_sources_fit, c_sources_fit]
  cases hd <;> simp [eL]
structure Bk where
  src : List Sc
  bits : Int
  kept : Int
  first : Int
instance : Inhabited Bk := ⟨⟨[], 0, 0, 0⟩⟩
def bkD (l : Bool) (b : Bk) : D := .tup [if l then .lst (b.src.map scD) else .tup (b.src.map scD), .int b.bits, .int b.kept, .int b.first]
/-- whether four things are a block -/
def bf4 (i m : Int) (ss : List D) (b k f : Int) : Bool := (ss.all (sfB i m) && decide (ss.length ≤ 4)) && ((decide (0 ≤ b) && decide (b < pow2 (pow2 ss.length).toNat)) && ((decide (0 ≤ k) && decide (k < 2)) && (decide (0 ≤ f) && decide (f < 1 + k))))
/-- things that are asked to be blocks, with the answer -/
inductive BW (i m : Int) : D → Bool → Prop
  | four {ss : List D} {d : D} {b k f : Int} (hl : ss.length ≤ 1000) (h : As ss d) (hw : ∀ x ∈ ss, SW x) : BW i m (.tup [d, .int b, .int k, .int f]) (bf4 i m ss b k f)
  | other {ds : List D} (h : ds.length ≠ 4) : BW i m (.tup ds) false
theorem BW.dr {i m : Int} {d : D} {b : Bool} (h : BW i m d b) (st : List (Option D)) : deref st d = some d := by cases h <;> rfl
abbrev S_block_fits (F : Fn') : Prop := ∀ (i m : Int) (d : D) (b : Bool) (st : List (Option D)), BW i m d b → F [d, .int i, .int m] st = .ok (.im (.bl b)) st
theorem pp_bound {n : Nat} (h : n ≤ 4) : (pow2 n).toNat ≤ 100000 := by
  have : n = 0 ∨ n = 1 ∨ n = 2 ∨ n = 3 ∨ n = 4 := by omega
  rcases this with rfl | rfl | rfl | rfl | rfl <;> decide
theorem k_block_fits {X : Env} (hs : S_sources_fit (X.fn 400)) (hn : S_is_number (X.fn 158)) (hp : S_power_of (X.fn 61)) (hg : X.glo 14 = some (.int 4)) : S_block_fits (callF X f_block_fits) := by
  intro i m d b st h
  simp only [callF, f_block_fits, c_block_fits]
  cases h with
  | @other ds h =>
    have h2 : ¬ (ds.length : Int) = 4 := fun e => h (by omega)
    simp [h2, h]
  | @four ss d b k f hl h hw =>
    have e1 := fun st => hs i m ss d st (by omega) hw h
    by_cases c1 : ss.all (sfB i m) = true
    · have h1 : ∀ x ∈ ss, sfB i m x = true := List.all_eq_true.mp c1
      by_cases c2 : ss.length ≤ 4
      · have c2' : ¬ (4 : Int) < ss.length := by omega
        have c2'' : ¬ 4 < ss.length := by omega
        have e2 := fun st => hp ss.length st (by omega)
        obtain ⟨q, hq⟩ := Int.eq_ofNat_of_zero_le (Int.le_of_lt (pow2_pos ss.length))
        have hq2 := pp_bound c2
        rw [hq, Int.toNat_natCast] at hq2
        have e3 := fun st => hp q st hq2
        rw [hq] at e2
        by_cases c3 : 0 ≤ b ∧ b < pow2 q
        · have c3' : (decide (0 ≤ b) && decide (b < pow2 q)) = true := by simp [c3]
          by_cases c4 : 0 ≤ k ∧ k < 2
          · cases h <;> simp (disch := omega) [e1, c1, hg, c2', c2'', e2, e3, hn, c3, c4, bf4, hq, c2, h1]
          · have c4' : (decide (0 ≤ k) && decide (k < 2)) = false := by simpa using c4
            cases h <;> simp (disch := omega) [e1, c1, hg, c2', c2'', e2, e3, hn, c3, c4', bf4, hq, c2, h1] <;> simpa using c4
        · have c3' : (decide (0 ≤ b) && decide (b < pow2 q)) = false := by simpa using c3
          cases h <;> simp (disch := omega) [e1, c1, hg, c2', c2'', e2, e3, hn, c3', bf4, hq, c2, h1] <;> intros <;> exact absurd ⟨by assumption, by assumption⟩ c3
      · have c2' : (4 : Int) < ss.length := by omega
        have c2'' : 4 < ss.length := by omega
        cases h <;> simp (disch := omega) [e1, c1, hg, c2', c2'', bf4, c2]
    · have c1' : ss.all (sfB i m) = false := by simpa using c1
      cases h <;> simp (disch := omega) [e1, c1', bf4]
end KS
end PB

set_option Elab.async false
set_option linter.all false
set_option autoImplicit false
set_option maxRecDepth 1000000
set_option maxHeartbeats 4000000
namespace PB
open PySem (Str sizeLine)
namespace KS
/-! ### the order of things that tell at once -/
structure Topo (fds : List (List Int)) (A ord : List Int) : Prop where
  nd : ord.Nodup
  mem : ∀ i, i ∈ ord ↔ i ∈ A
  top : ∀ (j : Nat) t, ord[j]? = some t → ∀ f ∈ gI fds t, f ∈ A → f ∈ ord.take j
def Stuck (fds : List (List Int)) (A : List Int) : Prop := ∃ S : List Int, S ≠ [] ∧ (∀ t ∈ S, t ∈ A) ∧ ∀ t ∈ S, ∃ f ∈ gI fds t, f ∈ S
def fdsD (fds : List (List Int)) : D := .lst (fds.map fun l => .lst (l.map .int))
abbrev S_at_once_order (F : Fn') : Prop := ∀ (fds : List (List Int)) (A : List Int) (st : List (Option D)), fds.length ≤ 100000 → (∀ l ∈ fds, l.length ≤ 100000) → A.Nodup → (∀ t ∈ A, 0 ≤ t ∧ t < fds.length) →
  (∃ ord, Topo fds A ord ∧ F [fdsD fds, .dk (setK A)] st = .ok (.own (.lst (ord.map .int))) st) ∨ (Stuck fds A ∧ F [fdsD fds, .dk (setK A)] st = .ok (.im .non) st)
theorem setK_snoc {ks : List Int} {i : Int} (h : i ∉ ks) : insK ks i = ks ++ [i] := by simp [insK, h]
/-- one round over those that wait -/
structure Rnd (fds : List (List Int)) (A ord wait : List Int) (j : Nat) (ord' left : List Int) : Prop where
  pre : ord <+: ord'
  nd : ord'.Nodup
  mem : ∀ i, (i ∈ ord' ∨ i ∈ left) ↔ (i ∈ ord ∨ i ∈ wait.take j)
  dis : ∀ i ∈ left, i ∉ ord'
  ndl : left.Nodup
  sub : ∀ i ∈ left, i ∈ wait.take j
  len : ord'.length + left.length = ord.length + j
  top : ∀ (k : Nat) t, ord'[k]? = some t → ∀ f ∈ gI fds t, f ∈ A → f ∈ ord'.take k
  stk : ord' = ord → left = wait.take j ∧ ∀ t ∈ left, ∃ f ∈ gI fds t, f ∈ A ∧ f ∉ ord
structure Wts (fds : List (List Int)) (A ord wait : List Int) : Prop where
  nd : ord.Nodup
  ndw : wait.Nodup
  mem : ∀ i, (i ∈ ord ∨ i ∈ wait) ↔ i ∈ A
  dis : ∀ i ∈ wait, i ∉ ord
  top : ∀ (k : Nat) t, ord[k]? = some t → ∀ f ∈ gI fds t, f ∈ A → f ∈ ord.take k
theorem Wts.rnd {fds : List (List Int)} {A ord wait : List Int} (h : Wts fds A ord wait) : Rnd fds A ord wait 0 ord [] where
  pre := List.prefix_refl _
  nd := h.nd
  mem := fun i => by simp
  dis := fun i m => by cases m
  ndl := by simp
  sub := fun i m => by cases m
  len := by simp
  top := h.top
  stk := fun _ => ⟨rfl, fun t m => by cases m⟩
theorem take_get {α : Type} {xs : List α} {j k : Nat} {a : α} (h : xs[k]? = some a) (hk : k < j) : a ∈ xs.take j := List.mem_of_getElem? (i := k) (by rw [List.getElem?_take_of_lt hk]; exact h)
theorem mem_take_snoc {α : Type} {xs : List α} {j : Nat} {a i : α} (h : xs[j]? = some a) : i ∈ xs.take (j + 1) ↔ i ∈ xs.take j ∨ i = a := by
  rw [take_snoc h, List.mem_append, List.mem_singleton]
theorem nodup_take_not {xs : List Int} (h : xs.Nodup) {j : Nat} {a : Int} (e : xs[j]? = some a) : a ∉ xs.take j := fun m => by
  have := take_snoc e
  have h2 : (xs.take (j + 1)).Nodup := List.Sublist.nodup (List.take_sublist _ _) h
  rw [this, List.nodup_append] at h2
  exact h2.2.2 a m a (by simp) rfl
theorem Rnd.ready {fds : List (List Int)} {A ord wait ord' left : List Int} {j : Nat} {t : Int} (h : Rnd fds A ord wait j ord' left) (hw : Wts fds A ord wait) (e : wait[j]? = some t) (hr : ∀ f ∈ gI fds t, f ∈ A → f ∈ ord') : Rnd fds A ord wait (j + 1) (ord' ++ [t]) left := by
  have hj := (List.getElem?_eq_some_iff.mp e).1
  have tn : t ∉ ord ∧ t ∉ wait.take j := ⟨hw.dis t (List.mem_of_getElem? e), nodup_take_not hw.ndw e⟩
  have tn' : t ∉ ord' ∧ t ∉ left := ⟨fun m => (((h.mem t).mp (.inl m)).elim tn.1 tn.2), fun m => (((h.mem t).mp (.inr m)).elim tn.1 tn.2)⟩
  exact {
    pre := h.pre.trans (List.prefix_append _ _)
    nd := by
      rw [List.nodup_append]
      exact ⟨h.nd, by simp, fun a ha b hb e => tn'.1 (by rw [List.mem_singleton.mp hb] at e; rwa [e] at ha)⟩
    mem := fun i => by
      rw [mem_take_snoc e, List.mem_append, List.mem_singleton]
      have := h.mem i
      constructor
      · rintro ((m | m) | m)
        · rcases this.mp (.inl m) with q | q
          · exact .inl q
          · exact .inr (.inl q)
        · exact .inr (.inr m)
        · rcases this.mp (.inr m) with q | q
          · exact .inl q
          · exact .inr (.inl q)
      · rintro (m | m | m)
        · rcases this.mpr (.inl m) with q | q
          · exact .inl (.inl q)
          · exact .inr q
        · rcases this.mpr (.inr m) with q | q
          · exact .inl (.inl q)
          · exact .inr q
        · exact .inl (.inr m)
    dis := fun i m q => by
      rcases List.mem_append.mp q with q | q
      · exact h.dis i m q
      · rw [List.mem_singleton.mp q] at m
        exact tn'.2 m
    ndl := h.ndl
    sub := fun i m => (mem_take_snoc e).mpr (.inl (h.sub i m))
    len := by have := h.len; simp; omega
    top := fun k u eu f mf ma => by
      rcases PB.get_snoc eu with eu | ⟨rfl, rfl⟩
      · have hk := (List.getElem?_eq_some_iff.mp eu).1
        rw [List.take_append_of_le_length (by omega)]
        exact h.top k u eu f mf ma
      · rw [List.take_append_of_le_length (Nat.le_refl _), List.take_length]
        exact hr f mf ma
    stk := fun q => by
      have := h.pre.length_le
      have q2 := congrArg List.length q
      simp at q2
      omega }
theorem Rnd.waits {fds : List (List Int)} {A ord wait ord' left : List Int} {j : Nat} {t : Int} (h : Rnd fds A ord wait j ord' left) (hw : Wts fds A ord wait) (e : wait[j]? = some t) (hr : ∃ f ∈ gI fds t, f ∈ A ∧ f ∉ ord') : Rnd fds A ord wait (j + 1) ord' (left ++ [t]) := by
  have hj := (List.getElem?_eq_some_iff.mp e).1
  have tn : t ∉ ord ∧ t ∉ wait.take j := ⟨hw.dis t (List.mem_of_getElem? e), nodup_take_not hw.ndw e⟩
  have tn' : t ∉ ord' ∧ t ∉ left := ⟨fun m => (((h.mem t).mp (.inl m)).elim tn.1 tn.2), fun m => (((h.mem t).mp (.inr m)).elim tn.1 tn.2)⟩
  exact {
    pre := h.pre
    nd := h.nd
    mem := fun i => by
      rw [mem_take_snoc e, List.mem_append, List.mem_singleton]
      have := h.mem i
      constructor
      · rintro (m | m | m)
        · rcases this.mp (.inl m) with q | q
          · exact .inl q
          · exact .inr (.inl q)
        · rcases this.mp (.inr m) with q | q
          · exact .inl q
          · exact .inr (.inl q)
        · exact .inr (.inr m)
      · rintro (m | m | m)
        · rcases this.mpr (.inl m) with q | q
          · exact .inl q
          · exact .inr (.inl q)
        · rcases this.mpr (.inr m) with q | q
          · exact .inl q
          · exact .inr (.inl q)
        · exact .inr (.inr m)
    dis := fun i m q => by
      rcases List.mem_append.mp m with m | m
      · exact h.dis i m q
      · rw [List.mem_singleton.mp m] at q
        exact tn'.1 q
    ndl := by
      rw [List.nodup_append]
      exact ⟨h.ndl, by simp, fun a ha b hb e => tn'.2 (by rw [List.mem_singleton.mp hb] at e; rwa [e] at ha)⟩
    sub := fun i m => by
      rw [mem_take_snoc e]
      rcases List.mem_append.mp m with m | m
      · exact .inl (h.sub i m)
      · exact .inr (List.mem_singleton.mp m)
    len := by have := h.len; simp; omega
    top := h.top
    stk := fun q => by
      obtain ⟨q1, q2⟩ := h.stk q
      refine ⟨by rw [take_snoc e, q1], fun u m => ?_⟩
      rcases List.mem_append.mp m with m | m
      · exact q2 u m
      · rw [List.mem_singleton.mp m]
        obtain ⟨f, f1, f2, f3⟩ := hr
        exact ⟨f, f1, f2, q ▸ f3⟩ }
theorem Rnd.wts {fds : List (List Int)} {A ord wait ord' left : List Int} (h : Rnd fds A ord wait wait.length ord' left) (hw : Wts fds A ord wait) : Wts fds A ord' left where
  nd := h.nd
  ndw := h.ndl
  mem := fun i => by rw [h.mem i, List.take_length]; exact hw.mem i
  dis := h.dis
  top := h.top
theorem Rnd.stuck {fds : List (List Int)} {A ord wait ord' left : List Int} (h : Rnd fds A ord wait wait.length ord' left) (hw : Wts fds A ord wait) (h0 : wait ≠ []) (hl : left.length = wait.length) : Stuck fds A := by
  have hlen := h.len
  have e : ord' = ord := (h.pre.eq_of_length (by omega)).symm
  obtain ⟨q1, q2⟩ := h.stk e
  rw [List.take_length] at q1
  subst q1
  refine ⟨left, h0, fun t m => (hw.mem t).mp (.inr m), fun t m => ?_⟩
  obtain ⟨f, f1, f2, f3⟩ := q2 t m
  exact ⟨f, f1, ((hw.mem f).mpr f2).resolve_left f3⟩
theorem k_at_once_order {X : Env} (hwf : X.wf = 1000000) : S_at_once_order (callF X f_at_once_order) := by
  intro fds A st hl hl2 hA hr
  have hlA : A.length ≤ fds.length := nodup_le _ _ hA hr
  have inner : ∀ (ord wait : List Int) (w : Sl), Wts fds A ord wait → ∃ x : List Int × List Int, Rnd fds A ord wait wait.length x.1 x.2 ∧ loop (forStep X (.nm 6) c_at_once_order_b0) (wait.map .int) ⟨[.im (fdsD fds), .im (.dk (setK A)), .own (.lst (ord.map .int)), .own (.dk (setK ord)), w, .own (.lst []), .no, .no], st⟩ = .ok .nx ⟨[.im (fdsD fds), .im (.dk (setK A)), .own (.lst (x.1.map .int)), .own (.dk (setK x.1)), w, .own (.lst (x.2.map .int)), .no, .no], st⟩ := fun ord wait w hw => by
    obtain ⟨x, e, p⟩ := fr_map (f := D.int) (xs := wait) (step := (forStep X (.nm 6) c_at_once_order_b0)) (fun x : List Int × List Int => ⟨[.im (fdsD fds), .im (.dk (setK A)), .own (.lst (x.1.map .int)), .own (.dk (setK x.1)), w, .own (.lst (x.2.map .int)), .no, .no], st⟩)
      (fun j x => Rnd fds A ord wait j x.1 x.2) (ord, []) hw.rnd (fun j t x ej hx => by
        obtain ⟨ord', left⟩ := x
        dsimp only at hx ⊢
        have mt : t ∈ A := (hw.mem t).mp (.inr (List.mem_of_getElem? ej))
        have rt := hr t mt
        have eg := at_gI (f := fun l : List Int => D.lst (l.map .int)) rt.1 rt.2
        have hln := hl2 _ (gI_mem rt.1 rt.2)
        have hfin : ∀ i, i ∈ ord' → i ∈ A := fun i m => (hw.mem i).mp (((hx.mem i).mp (.inl m)).elim .inl fun q => .inr (List.mem_of_mem_take q))
        have lo : ord'.length ≤ fds.length := nodup_le fds.length ord' hx.nd (fun k m => hr k (hfin k m))
        have ll : left.length ≤ fds.length := nodup_le fds.length left hx.ndl (fun i m => hr i ((hw.mem i).mp (.inr (List.mem_of_mem_take (hx.sub i m)))))
        have eL : fLc3 [7] (lcLoop (lcStep X (.bor (.cons (.bin .in_ (.var 7) (.var 3)) (.cons (.bin .nin (.var 7) (.var 1)) .nil))) (.nm 7) .nil [7]) ((gI fds t).map .int) [] ⟨[.im (fdsD fds), .im (.dk (setK A)), .own (.lst (ord'.map .int)), .own (.dk (setK ord')), w, .own (.lst (left.map .int)), .im (.int t), .no], st⟩) = .ok (.own (.lst ((gI fds t).map fun f => .bl (decide (f ∈ ord') || !decide (f ∈ A))))) ⟨[.im (fdsD fds), .im (.dk (setK A)), .own (.lst (ord'.map .int)), .own (.dk (setK ord')), w, .own (.lst (left.map .int)), .im (.int t), .no], st⟩ := by
          refine lc_eqm (by omega) (fun a ma => rfl) (fun a ma => ?_)
          by_cases q : a ∈ ord'
          · simp (disch := omega) [look_set, oB_ninK, q]
          · simp (disch := omega) [look_set, oB_ninK, q]
        have hz : ord'.length < sizeLine := by rw [PySem.sizeLine_eq]; omega
        have hz2 : ord'.length < 16777216 := by omega
        have hz3 : left.length < sizeLine := by rw [PySem.sizeLine_eq]; omega
        cases q : (gI fds t).all fun f => decide (f ∈ ord') || !decide (f ∈ A) with
        | true =>
          have q' : ∀ f ∈ gI fds t, f ∈ A → f ∈ ord' := fun f mf ma => by
            have := List.all_eq_true.mp q f mf
            simpa [ma] using this
          have hn := (hx.ready hw ej q').nd
          have hn : t ∉ ord' := by
            rw [List.nodup_append] at hn
            exact fun m => hn.2.2 t m t (by simp) rfl
          refine ⟨(ord' ++ [t], left), .inl ?_, hx.ready hw ej q'⟩
          have ep := put_new hn
          simp only [fdsD] at eL ⊢
          simp (disch := omega) [fr_step, c_at_once_order_b0, eg, eL, q, ep, hz, hz2]
        | false =>
          have q' : ∃ f ∈ gI fds t, f ∈ A ∧ f ∉ ord' := by
            obtain ⟨f, mf, hf⟩ := List.all_eq_false.mp q
            simp at hf
            exact ⟨f, mf, hf.2, hf.1⟩
          refine ⟨(ord', left ++ [t]), .inl ?_, hx.waits hw ej q'⟩
          simp only [fdsD] at eL ⊢
          simp (disch := omega) [fr_step, c_at_once_order_b0, eg, eL, q, hz3])
    exact ⟨x, p, e⟩
  have fin := wh_ret (test := (evT X (.bin .gt (.bi .len (.cons (.var 4) .nil)) (.cst (.int 0))))) (body := (run X c_at_once_order_b1))
    (fun x : List Int × List Int × Bool => ⟨[.im (fdsD fds), .im (.dk (setK A)), .own (.lst (x.1.map .int)), .own (.dk (setK x.1)), if x.2.2 then .own (.lst (x.2.1.map .int)) else .im (.lst (x.2.1.map .int)), .no, .no, .no], st⟩)
    (fun x => Wts fds A x.1 x.2.1) (fun x => x.2.1.length) (fun v s => v = .im .non ∧ s.st = st ∧ Stuck fds A)
    (fun x hx => by
      obtain ⟨ord, wait, b⟩ := x
      dsimp only at hx ⊢
      refine ⟨decide ((wait.length : Int) > 0), by cases b <;> simp, fun q => ?_⟩
      have q := of_decide_eq_true q
      obtain ⟨⟨ord', left⟩, p, e⟩ := inner ord wait (.im (.lst (wait.map .int))) hx
      dsimp only at p e
      have hlen := p.len
      by_cases c : left.length = wait.length
      · refine .inr ⟨.im .non, ⟨[.im (fdsD fds), .im (.dk (setK A)), .own (.lst (ord'.map .int)), .own (.dk (setK ord')), .im (.lst (wait.map .int)), .own (.lst (left.map .int)), .no, .no], st⟩, ?_, rfl, rfl, p.stuck hx (fun h => by subst h; simp at q) c⟩
        cases b <;> simp (disch := omega) [c_at_once_order_b1, e, c]
      · have hle : left.length ≤ wait.length := by
          have := p.pre.length_le
          omega
        have c' : ¬ ((left.length : Int) = wait.length) := by omega
        refine .inl ⟨(ord', left, false), .inl ?_, p.wts hx, by dsimp only; omega⟩
        cases b <;> simp (disch := omega) [c_at_once_order_b1, e, c']) 1000000 ([], A, true) ⟨by simp, hA, fun i => by simp, fun i _ m => (by cases m), fun k t e => (by cases e)⟩ (by dsimp only; omega)
  have e3 : (setK A).map (fun kv => keyD kv.1) = A.map .int := by simp [setK, keyD]
  have e4 : setK [] = [] := rfl
  rcases fin with ⟨⟨ord, wait, b⟩, e, p, et⟩ | ⟨v, s, e, rfl, hs, p⟩
  · dsimp only at e p et
    have hw : wait = [] := by
      have := et
      cases b <;> simp at this <;> exact this
    subst hw
    refine .inl ⟨ord, ⟨p.nd, fun i => by have := p.mem i; simpa using this, p.top⟩, ?_⟩
    simp only [callF, f_at_once_order, c_at_once_order]
    simp [e4] at e
    simp [hwf, e3, e]
  · refine .inr ⟨p, ?_⟩
    simp only [callF, f_at_once_order, c_at_once_order]
    simp [e4] at e
    simp [hwf, e3, e, hs]
end KS
end PB

set_option Elab.async false
set_option linter.all false
set_option autoImplicit false
set_option maxRecDepth 1000000
set_option maxHeartbeats 4000000
namespace PB
open PySem (Str sizeLine)
namespace KS
/-- a source in a pack of so many ins and blocks -/
def ScV (i m : Int) (s : Sc) : Prop := (s.1 = "in" ∧ 0 ≤ s.2 ∧ s.2 < i) ∨ (s.1 = "block" ∧ 0 ≤ s.2 ∧ s.2 < m)
structure BkV (i m : Int) (b : Bk) : Prop where
  src : ∀ s ∈ b.src, ScV i m s
  len : b.src.length ≤ 4
  bits : 0 ≤ b.bits ∧ b.bits < pow2 (pow2 b.src.length).toNat
  kept : b.kept = 0 ∨ b.kept = 1
  first : 0 ≤ b.first ∧ b.first ≤ b.kept
theorem ScV.ok {i m : Int} {s : Sc} (h : ScV i m s) : PySem.PyData.strOk s.1 = true := by
  rcases h with h | h <;> rw [h.1] <;> simp
theorem ScV.sw {i m : Int} {s : Sc} (h : ScV i m s) : SW (scD s) := .two h.ok
theorem ScV.sf {i m : Int} {s : Sc} (h : ScV i m s) : sfB i m (scD s) = true := by
  obtain ⟨w, k⟩ := s
  have nb : ¬ (("block" : Str) = "in") := by decide +kernel
  rcases h with ⟨h, h1, h2⟩ | ⟨h, h1, h2⟩ <;> simp only at h h1 h2 <;> subst h
  · simp [scD, sfB, h1, h2]
  · simp [scD, sfB, h1, h2, nb]
theorem ScV.up {i m m' : Int} {s : Sc} (h : ScV i m s) (l : m ≤ m') : ScV i m' s := h.elim .inl fun h => .inr ⟨h.1, h.2.1, by omega⟩
theorem BkV.up {i m m' : Int} {b : Bk} (h : BkV i m b) (l : m ≤ m') : BkV i m' b := ⟨fun s ms => (h.src s ms).up l, h.len, h.bits, h.kept, h.first⟩
theorem BkV.bw {i m : Int} {b : Bk} (h : BkV i m b) (l : Bool) : BW i m (bkD l b) true := by
  have e : bf4 i m (b.src.map scD) b.bits b.kept b.first = true := by
    have h1 : (b.src.map scD).all (sfB i m) = true := by
      rw [List.all_eq_true]
      intro x mx
      obtain ⟨s, ms, rfl⟩ := List.mem_map.mp mx
      exact (h.src s ms).sf
    have h2 := h.kept
    have h3 := h.first
    have h4 := h.bits
    have h5 := h.len
    unfold bf4
    rw [h1]
    simp
    omega
  rw [← e]
  refine .four (d := if l then .lst (b.src.map scD) else .tup (b.src.map scD)) (by have := h.len; simp; omega) (by cases l <;> constructor) fun x mx => ?_
  obtain ⟨s, ms, rfl⟩ := List.mem_map.mp mx
  exact (h.src s ms).sw
def fdB (b : Bk) : List Int := b.src.filterMap fun s => if s.1 = ("block" : Str) then some s.2 else none
/-- the blocks that are not kept, of the first n -/
def atN (bs : List Bk) (n : Nat) : List Int := ((List.range n).filter fun j => decide ((bs.getD j default).kept = 0)).map fun j : Nat => (j : Int)
def atB (bs : List Bk) : List Int := atN bs bs.length
theorem atN_mem {bs : List Bk} {n : Nat} {i : Int} : i ∈ atN bs n ↔ (0 ≤ i ∧ i < n) ∧ (gI bs i).kept = 0 := by
  unfold atN gI
  simp only [List.mem_map, List.mem_filter, List.mem_range, decide_eq_true_eq]
  constructor
  · rintro ⟨j, ⟨h1, h2⟩, rfl⟩
    exact ⟨by omega, by simpa using h2⟩
  · rintro ⟨⟨h1, h2⟩, h3⟩
    exact ⟨i.toNat, ⟨by omega, h3⟩, by omega⟩
theorem atN_nd {bs : List Bk} {n : Nat} : (atN bs n).Nodup := by
  unfold atN
  refine List.pairwise_map.mpr ((List.Pairwise.filter _ List.nodup_range).imp ?_)
  intro a b h e
  exact h (by omega)
theorem atN_len {bs : List Bk} {n : Nat} : (atN bs n).length ≤ n := by
  unfold atN
  rw [List.length_map]
  exact Nat.le_trans (List.length_filter_le _ _) (by simp)
theorem atN_succ {bs : List Bk} {j : Nat} {b : Bk} (e : bs[j]? = some b) : atN bs (j + 1) = if b.kept = 0 then atN bs j ++ [(j : Int)] else atN bs j := by
  unfold atN
  rw [List.range_succ, List.filter_append, List.map_append]
  by_cases h : b.kept = 0 <;> simp [e, h]
theorem bkD_dr {l : Bool} {b : Bk} (st : List (Option D)) : deref st (bkD l b) = some (bkD l b) := rfl
theorem bkD_0 {l : Bool} {b : Bk} : subD (bkD l b) (.int 0) = some (.im (if l then .lst (b.src.map scD) else .tup (b.src.map scD))) := by simp [bkD]
theorem bkD_1 {l : Bool} {b : Bk} : subD (bkD l b) (.int 1) = some (.im (.int b.bits)) := by simp [bkD]
theorem bkD_2 {l : Bool} {b : Bk} : subD (bkD l b) (.int 2) = some (.im (.int b.kept)) := by simp [bkD]
theorem bkD_3 {l : Bool} {b : Bk} : subD (bkD l b) (.int 3) = some (.im (.int b.first)) := by simp [bkD]
abbrev S_blocks_order (F : Fn') : Prop := ∀ (l : Bool) (bs : List Bk) (d : D) (st : List (Option D)), bs.length ≤ 1000 → (∀ b ∈ bs, b.src.length ≤ 1000 ∧ ∀ s ∈ b.src, PySem.PyData.strOk s.1 = true) → As (bs.map (bkD l)) d →
  (∃ ord, Topo (bs.map fdB) (atB bs) ord ∧ F [d] st = .ok (.own (.lst (ord.map .int))) st) ∨ (Stuck (bs.map fdB) (atB bs) ∧ F [d] st = .ok (.im .non) st)
theorem k_blocks_order {X : Env} (ho : S_at_once_order (X.fn 402)) : S_blocks_order (callF X f_blocks_order) := by
  intro l bs d st hl hw hd
  have eL : fLc3 [4] (lcLoop (lcStep X (.lc (.sub (.var 5) (.cst (.int 1))) (.nm 5) .ex (.cons (.sub (.var 4) (.cst (.int 0))) .nil) (.cons (.bin .eq (.sub (.var 5) (.cst (.int 0))) (.cst (.str "block"))) .nil) [5]) (.nm 4) .nil [4]) (bs.map (bkD l)) [] ⟨[.im (d), .no, .no, .no, .no, .no], st⟩) = .ok (.own (.lst (bs.map fun b => .lst ((fdB b).map .int)))) ⟨[.im (d), .no, .no, .no, .no, .no], st⟩ := by
    refine lc_eqm (by omega) (fun a ma => rfl) (fun b mb => ?_)
    obtain ⟨h1, h2⟩ := hw b mb
    have eI : fLc3 [5] (lcLoop (lcStep X (.sub (.var 5) (.cst (.int 1))) (.nm 5) (.cons (.bin .eq (.sub (.var 5) (.cst (.int 0))) (.cst (.str "block"))) .nil) [5]) (b.src.map scD) [] ⟨[.im (d), .no, .no, .no, .im (bkD l b), .no], st⟩) = .ok (.own (.lst (b.src.filterMap fun s => if s.1 = ("block" : Str) then some (.int s.2) else none))) ⟨[.im (d), .no, .no, .no, .im (bkD l b), .no], st⟩ := by
      refine lc_eq (by omega) (fun a ma => rfl) (fun s ms => ?_)
      have := h2 s ms
      by_cases q : s.1 = "block" <;> simp (disch := omega) [scD, this, q]
    have e2 : (b.src.filterMap fun s => if s.1 = ("block" : Str) then some (D.int s.2) else none) = (fdB b).map .int := by
      unfold fdB
      rw [List.map_filterMap]
      congr 1
      funext s
      split <;> rfl
    rw [e2] at eI
    have e3 := bkD_dr (l := l) (b := b)
    cases l <;> simp (disch := omega) [e3, bkD_0, eI]
  obtain ⟨x, e, rfl⟩ := fr_enum (f := bkD l) (xs := bs) (step := (forStep X (.tc (.nm 3) (.tc (.nm 4) .tn)) c_blocks_order_b0)) (fun j : Nat => ⟨[.im (d), .own (.lst (bs.map fun b => .lst ((fdB b).map .int))), .own (.dk (setK (atN bs j))), .no, .no, .no], st⟩) (fun j x => x = j) 0 rfl (fun j b x ej hx => by
    subst hx
    refine ⟨x + 1, .inl ?_, rfl⟩
    have e3 := bkD_dr (l := l) (b := b)
    have hz : (atN bs x).length < 16777216 := by
      have := atN_len (bs := bs) (n := x)
      have := (List.getElem?_eq_some_iff.mp ej).1
      omega
    rw [atN_succ ej]
    by_cases q : b.kept = 0
    · have ep := put_new (ks := atN bs x) (i := (x : Int)) (fun m => by have := (atN_mem.mp m).1.2; omega)
      simp (disch := omega) [fr_step, c_blocks_order_b0, e3, bkD_2, q, ep, hz]
    · simp (disch := omega) [fr_step, c_blocks_order_b0, e3, bkD_2, q])
  have e4 : setK (atN bs 0) = [] := rfl
  rw [e4] at e
  have res := ho (bs.map fdB) (atB bs) st (by simp; omega) (fun q mq => by
    obtain ⟨b, mb, rfl⟩ := List.mem_map.mp mq
    exact Nat.le_trans (List.length_filterMap_le _ _) (by have := (hw b mb).1; omega)) atN_nd (fun t mt => by
    have := (atN_mem.mp mt).1
    simpa using this)
  have ef : fdsD (bs.map fdB) = .lst (bs.map fun b => .lst ((fdB b).map .int)) := by simp [fdsD]
  rw [ef] at res
  simp only [callF, f_blocks_order, c_blocks_order]
  rcases res with ⟨ord, p, q⟩ | ⟨p, q⟩
  · refine .inl ⟨ord, p, ?_⟩
    cases hd <;> simp [eL, e, atB, q] <;> simp [atB] at q <;> simp [q]
  · refine .inr ⟨p, ?_⟩
    cases hd <;> simp [eL, e] <;> simp [atB] at q <;> simp [q]
def packD (i : Int) (bs : List Bk) (os : List Sc) : D := .ins 26 [("ins", .int i), ("blocks", .tup (bs.map (bkD false))), ("outs", .tup (os.map scD))]
structure PackV (i : Int) (bs : List Bk) (os : List Sc) : Prop where
  ins : 0 ≤ i
  bl : bs.length ≤ 1000
  ol : os.length ≤ 1000
  bv : ∀ b ∈ bs, BkV i bs.length b
  ov : ∀ s ∈ os, ScV i bs.length s
inductive PackE (i : Int) : D → D → Prop
  | neg {bd od : D} (h : i < 0) : PackE i bd od
  | block {bs : List Bk} {l : Bool} {d od : D} (h : 0 ≤ i) (hl : bs.length ≤ 1000) (hb : ∀ b ∈ bs, BkV i ((bs.length : Int) + 1) b) (hd : BW i ((bs.length : Int) + 1) d false) : PackE i (.lst (bs.map (bkD l) ++ [d])) od
  | outs {bs : List Bk} {l : Bool} {bd od : D} {ods : List D} (h : 0 ≤ i) (hl : bs.length ≤ 1000) (hb : ∀ b ∈ bs, BkV i bs.length b) (ha : As (bs.map (bkD l)) bd) (ho : As ods od) (hw : ∀ x ∈ ods, SW x) (hz : ods.length ≤ 1000) (hn : ods.all (sfB i bs.length) = false) : PackE i bd od
  | ring {bs : List Bk} {os : List Sc} {l : Bool} {bd od : D} (h : PackV i bs os) (ha : As (bs.map (bkD l)) bd) (ho : As (os.map scD) od) (hs : Stuck (bs.map fdB) (atB bs)) : PackE i bd od
abbrev S_Pack_er (F : Fn') : Prop := ∀ (i : Int) (bd od : D) (st : List (Option D)), PackE i bd od → F [.int i, bd, od] st = .er 8 [] st
abbrev S_Pack (F : Fn') : Prop := ∀ (i : Int) (bs : List Bk) (os : List Sc) (l : Bool) (bd od : D) (st : List (Option D)), PackV i bs os → ¬ Stuck (bs.map fdB) (atB bs) → As (bs.map (bkD l)) bd → As (os.map scD) od → F [.int i, bd, od] st = .ok (.own (packD i bs os)) st
theorem pack_loop {X : Env} (hb : S_block_fits (X.fn 401)) {i : Int} {bs : List Bk} {l : Bool} {bd od : D} {ds : List D} (hd : As ds bd) (hv : ∀ b ∈ bs, BkV i ds.length b) {st : List (Option D)} : loop (forStep X (.nm 4) c_Pack_X_mk_init_b0) (bs.map (bkD l)) ⟨[.own (.ins 26 []), .im (.int i), .im (bd), .im (od), .no], st⟩ = .ok .nx ⟨[.own (.ins 26 []), .im (.int i), .im (bd), .im (od), .no], st⟩ := by
  obtain ⟨x, e, _⟩ := fr_map (f := bkD l) (xs := bs) (step := (forStep X (.nm 4) c_Pack_X_mk_init_b0)) (fun _ : Unit => ⟨[.own (.ins 26 []), .im (.int i), .im (bd), .im (od), .no], st⟩) (fun _ _ => True) () trivial (fun j b _ ej _ => by
    refine ⟨(), .inl ?_, trivial⟩
    have e1 := fun st => hb i ds.length _ _ st ((hv b (List.mem_of_getElem? ej)).bw l)
    have e3 := bkD_dr (l := l) (b := b)
    cases hd <;> simp (disch := omega) [fr_step, c_Pack_X_mk_init_b0, e1, e3])
  exact e
theorem scs_sf {i m : Int} {os : List Sc} (h : ∀ s ∈ os, ScV i m s) : (os.map scD).all (sfB i m) = true := by
  rw [List.all_eq_true]
  intro x mx
  obtain ⟨s, ms, rfl⟩ := List.mem_map.mp mx
  exact (h s ms).sf
theorem scs_sw {i m : Int} {os : List Sc} (h : ∀ s ∈ os, ScV i m s) : ∀ x ∈ os.map scD, SW x := fun x mx => by
  obtain ⟨s, ms, rfl⟩ := List.mem_map.mp mx
  exact (h s ms).sw
theorem k_Pack_er {X : Env} (hb : S_block_fits (X.fn 401)) (hs : S_sources_fit (X.fn 400)) (ho : S_blocks_order (X.fn 403)) : S_Pack_er (callN X 26 f_Pack_X_mk_init) := by
  intro i bd od st h
  simp only [callN, f_Pack_X_mk_init, c_Pack_X_mk_init]
  cases h with
  | neg h => simp [h]
  | @block bs l d od h hl hv hd =>
    have hi : ¬ i < 0 := by omega
    obtain ⟨s', e, hst⟩ := loop_er (step := (forStep X (.nm 4) c_Pack_X_mk_init_b0)) (c := 8) (fs := []) (e := d) (ys := []) (xs := bs.map (bkD l)) (s := ⟨[.own (.ins 26 []), .im (.int i), .im (.lst (bs.map (bkD l) ++ [d])), .im (od), .no], st⟩) (fun s => s = ⟨[.own (.ins 26 []), .im (.int i), .im (.lst (bs.map (bkD l) ++ [d])), .im (od), .no], st⟩) (fun s => s.st = st) rfl (fun q s mq es => by
      subst es
      obtain ⟨b, mb, rfl⟩ := List.mem_map.mp mq
      refine ⟨_, ?_, rfl⟩
      have e1 := fun st => hb i ((bs.length : Int) + 1) _ _ st ((hv b mb).bw l)
      have e3 := bkD_dr (l := l) (b := b)
      simp (disch := omega) [fr_step, c_Pack_X_mk_init_b0, e1, e3]) (fun s es => by
      subst es
      have e1 := fun st => hb i ((bs.length : Int) + 1) _ _ st hd
      have e3 := hd.dr
      refine ⟨_, by
        simp (disch := omega) [fr_step, c_Pack_X_mk_init_b0, e1, e3]
        rfl, rfl⟩)
    simp [hi, e, hst]
  | @outs bs l bd od ods h hl hv ha hd hw hz hn =>
    have hi : ¬ i < 0 := by omega
    have e := pack_loop hb (l := l) (od := od) (st := st) ha (by simpa using hv)
    have e2 := fun st => hs i bs.length ods od st (by omega) hw hd
    cases ha <;> simp [hi, e, e2, hn]
  | @ring bs os l bd od h ha hd hk =>
    have hi : ¬ i < 0 := by have := h.ins; omega
    have e := pack_loop hb (l := l) (od := od) (st := st) ha (by simpa using h.bv)
    have e2 := fun st => hs i bs.length (os.map scD) od st (by have := h.ol; simp; omega) (scs_sw h.ov) hd
    simp only [scs_sf h.ov] at e2
    rcases ho l bs bd st h.bl (fun b mb => ⟨by have := (h.bv b mb).len; omega, fun s ms => ((h.bv b mb).src s ms).ok⟩) ha with ⟨ord, p, q⟩ | ⟨_, q⟩
    · exfalso
      obtain ⟨S, s1, s2, s3⟩ := hk
      have key : ∀ n : Nat, ∀ t ∈ S, t ∉ ord.take n := fun n => by
        induction n with
        | zero => intro t mt m; simp at m
        | succ n ih =>
          intro t mt m
          have hm : t ∈ ord := List.mem_of_mem_take m
          obtain ⟨j, ej⟩ := List.getElem?_of_mem m
          have hj := (List.getElem?_eq_some_iff.mp ej).1
          simp at hj
          rw [List.getElem?_take_of_lt (by omega)] at ej
          obtain ⟨f, f1, f2⟩ := s3 t mt
          have := p.top j t ej f f1 (s2 f f2)
          exact ih f f2 ((List.take_prefix_take_left (by omega)).subset this)
      obtain ⟨t, mt⟩ := List.exists_mem_of_ne_nil S s1
      have := key ord.length t mt
      rw [List.take_length] at this
      exact this ((p.mem t).mpr (s2 t mt))
    · cases ha <;> simp [hi, e, e2, q]
theorem bkD_tup {l : Bool} {b : Bk} : opF .tuple [if l then D.lst (b.src.map scD) else .tup (b.src.map scD)] = some (.im (.tup (b.src.map scD))) := by cases l <;> simp
theorem k_Pack {X : Env} (hb : S_block_fits (X.fn 401)) (hs : S_sources_fit (X.fn 400)) (ho : S_blocks_order (X.fn 403)) (n1 : X.na 26 "ins" = true) (n2 : X.na 26 "blocks" = true) (n3 : X.na 26 "outs" = true) : S_Pack (callN X 26 f_Pack_X_mk_init) := by
  intro i bs os l bd od st h hk ha hd
  have hi : ¬ i < 0 := by have := h.ins; omega
  have e := pack_loop hb (l := l) (od := od) (st := st) ha (by simpa using h.bv)
  have e2 := fun st => hs i bs.length (os.map scD) od st (by have := h.ol; simp; omega) (scs_sw h.ov) hd
  simp only [scs_sf h.ov] at e2
  rcases ho l bs bd st h.bl (fun b mb => ⟨by have := (h.bv b mb).len; omega, fun s ms => ((h.bv b mb).src s ms).ok⟩) ha with ⟨ord, p, q⟩ | ⟨q, _⟩
  · have eL : fLc3 [4] (lcLoop (lcStep X (.tup (.cons (.bi .tuple (.cons (.sub (.var 4) (.cst (.int 0))) .nil)) (.cons (.sub (.var 4) (.cst (.int 1))) (.cons (.sub (.var 4) (.cst (.int 2))) (.cons (.sub (.var 4) (.cst (.int 3))) .nil))))) (.nm 4) .nil [4]) (bs.map (bkD l)) [] ⟨[.own (.ins 26 [("ins", .int i)]), .im (.int i), .im (bd), .im (od), .no], st⟩) = .ok (.own (.lst (bs.map (bkD false)))) ⟨[.own (.ins 26 [("ins", .int i)]), .im (.int i), .im (bd), .im (od), .no], st⟩ := by
      refine lc_eqm (by have := h.bl; omega) (fun a ma => rfl) (fun b mb => ?_)
      have e3 := bkD_dr (l := l) (b := b)
      cases l <;> simp (disch := omega) [e3, bkD_0, bkD_1, bkD_2, bkD_3] <;> simp [bkD]
    simp only [callN, f_Pack_X_mk_init, c_Pack_X_mk_init]
    cases ha <;> cases hd <;> simp (disch := first | omega | decide +kernel) [hi, e, e2, q, n1, n2, n3, eL, packD]
  · exact absurd q hk
end KS
end PB

set_option Elab.async false
set_option linter.all false
set_option autoImplicit false
set_option maxRecDepth 1000000
set_option maxHeartbeats 4000000
namespace PB
open PySem (Str sizeLine)
namespace KS
theorem emod_rng' {a b : Int} (h : 0 < b) : 0 ≤ a % b ∧ a % b < b := ⟨Int.emod_nonneg _ (by omega), Int.emod_lt_of_pos _ h⟩
abbrev S__law_some_bits (ns : List Int) (F : Fn') : Prop := ∀ (n : Int) (r : List (Option D)) (m : Int), 0 ≤ n → n ≤ 100000000 → 0 ≤ m → m ≤ 10000 →
  ∃ (bs : List Int) (n' : Int), (bs.length : Int) = m ∧ (∀ b ∈ bs, 0 ≤ b ∧ b < 2) ∧ n ≤ n' ∧ n' ≤ n + 1 + m ∧ F [.scr (ns.map .int), .cell 0, .int m] (cN n :: r) = .ok (.own (.lst (bs.map .int))) (cN n' :: r)
theorem k__law_some_bits {X : Env} {ns : List Int} (hn : S_next ns (X.fn 1)) : S__law_some_bits ns (callF X f__law_some_bits) := by
  intro n r m h0 h1 m0 m1
  obtain ⟨m, rfl⟩ := Int.eq_ofNat_of_zero_le m0
  have em : inR (m : Int) = true := in_R (by omega) (by omega)
  have en := hn n r (by omega) (by omega)
  obtain ⟨q0, q1⟩ := nx_rng ns n
  generalize nx ns n = q at *
  obtain ⟨⟨bs, q', n'⟩, e, p1, p2, p3, p4⟩ := fr_rng (lo := 0) (n := m) (step := (forStep X (.nm 5) c__law_some_bits_b0)) (fun x : List Int × Int × Int => ⟨[.im (.scr (ns.map .int)), .im (.cell 0), .im (.int m), .im (.int x.2.1), .own (.lst (x.1.map .int)), .no], cN x.2.2 :: r⟩)
    (fun j x => x.1.length = j ∧ (∀ b ∈ x.1, 0 ≤ b ∧ b < 2) ∧ 0 ≤ x.2.1 ∧ n + 1 ≤ x.2.2 ∧ x.2.2 ≤ n + 1 + j) ([], q, n + 1) ⟨rfl, (fun b m => by cases m), q0, by simp, by simp⟩ (fun j x hj hx => by
      obtain ⟨bs, t, n'⟩ := x
      obtain ⟨p1, p2, p3, p4⟩ := hx
      dsimp only at p1 p2 p3 p4 ⊢
      have en := hn n' r (by omega) (by omega)
      obtain ⟨u0, u1⟩ := nx_rng ns n'
      generalize nx ns n' = u at *
      have mem : ∀ v : Int, 0 ≤ v → ∀ b ∈ bs ++ [v % 2], 0 ≤ b ∧ b < 2 := fun v hv b mb => by
        rcases List.mem_append.mp mb with mb | mb
        · exact p2 b mb
        · rw [List.mem_singleton.mp mb]
          omega
      by_cases c : (j : Int) % 30 = 29
      · refine ⟨(bs ++ [u % 2], u / 2, n' + 1), .inl ?_, by simp [p1], mem u u0, by dsimp only; omega, by dsimp only; omega, by dsimp only; omega⟩
        simp (disch := omega) [fr_step, c__law_some_bits_b0, en, c]
      · refine ⟨(bs ++ [t % 2], t / 2, n'), .inl ?_, by simp [p1], mem t p3, by dsimp only; omega, by dsimp only; omega, by dsimp only; omega⟩
        simp (disch := omega) [fr_step, c__law_some_bits_b0, c])
  dsimp only at e p1 p2 p3 p4
  refine ⟨bs, n', by omega, p2, by omega, by omega, ?_⟩
  simp only [callF, f__law_some_bits, c__law_some_bits]
  simp at e
  simp (disch := omega) [en, em, e]
def oS : Option Sc → D
  | none => .non
  | some s => scD s
abbrev S__law_drawn_source (ns : List Int) (F : Fn') : Prop := ∀ (n : Int) (r : List (Option D)) (i b : Int), 0 ≤ n → n ≤ 100000000 → 0 ≤ i → 0 ≤ b →
  ∃ o : Option Sc, (∀ s, o = some s → ScV i b s) ∧ F [.scr (ns.map .int), .cell 0, .int i, .int b] (cN n :: r) = .ok (.im (oS o)) (cN (n + 1) :: r)
theorem k__law_drawn_source {X : Env} {ns : List Int} (hn : S_next ns (X.fn 1)) : S__law_drawn_source ns (callF X f__law_drawn_source) := by
  intro n r i b h0 h1 i0 b0
  have en := hn n r (by omega) (by omega)
  generalize nx ns n = m at *
  simp only [callF, f__law_drawn_source, c__law_drawn_source]
  by_cases c : i + b = 0
  · refine ⟨none, (fun s e => by cases e), ?_⟩
    simp (disch := omega) [en, c, oS]
  · have hp : 0 < i + b := by omega
    obtain ⟨t0, t1⟩ := emod_rng' (a := m) hp
    by_cases c2 : m % (i + b) < i
    · refine ⟨some (sc "in" (m % (i + b))), (fun s e => by cases e; exact .inl ⟨rfl, t0, c2⟩), ?_⟩
      simp (disch := omega) [en, c, c2, oS, scD]
    · refine ⟨some (sc "block" (m % (i + b) - i)), (fun s e => by cases e; exact .inr ⟨rfl, by dsimp only; omega, by dsimp only; omega⟩), ?_⟩
      simp (disch := omega) [en, c, c2, oS, scD]
theorem posP_ints {x : Int} : ∀ is : List Int, posP (.int x) (is.map .int) = if x ∈ is then some (is.idxOf x) else none
  | [] => rfl
  | i :: is => by
    show (if PySem.PyData.eqv (.int i) (.int x) then some 0 else (posP (.int x) (is.map .int)).map (· + 1)) = _
    rw [posP_ints is, show PySem.PyData.eqv (.int i) (.int x) = (i == x) from rfl]
    by_cases h : i = x
    · subst h
      simp
    · have h2 : ¬ x = i := fun e => h e.symm
      have h3 : (i == x) = false := by simpa using h
      simp only [h3, List.mem_cons, h2, false_or]
      by_cases h4 : x ∈ is
      · simp [h4, List.idxOf_cons, h3]
      · simp [h4]
theorem index_ints {x : Int} {is : List Int} (h : x ∈ is) : opM .index (.lst (is.map .int)) [.int x] = some (.im (.int (is.idxOf x : Nat)), none) := by
  have e1 : toPys (is.map D.int) = some (is.map .int) := toPys_map _ fun _ _ => rfl
  show (match toPys (is.map D.int), toPy (.int x) with
    | some ps, some p => if PySem.SeqAt.shaped (.list ps) && PySem.SeqAt.shaped p then (match posP p ps with
      | some j => some (Vl.im (.int (j : Nat)), none)
      | none => none) else none
    | _, _ => none) = _
  rw [e1, show toPy (.int x) = some (.int x) from rfl]
  dsimp only
  rw [PySem.W.shaped_ints is, posP_ints, if_pos h]
  rfl
/-- blocks that are in no ring, by a row -/
structure Drn (i m : Int) (row kinds : List Int) (bs : List Bk) : Prop where
  v : ∀ b ∈ bs, BkV i m b
  k : ∀ (j : Nat) b, bs[j]? = some b → kinds[j]? = some b.kept
  r : ∀ (j : Nat) b, bs[j]? = some b → b.kept = 0 → ∀ s ∈ b.src, s.1 = "block" → gI kinds s.2 = 0 → row.idxOf s.2 < row.idxOf (j : Int)
theorem Drn.free {i m : Int} {row kinds : List Int} {bs : List Bk} (h : Drn i m row kinds bs) (hl : kinds.length = bs.length) : ¬ Stuck (bs.map fdB) (atB bs) := fun ⟨S, s1, s2, s3⟩ => by
  have key : ∀ n : Nat, ∀ t ∈ S, row.idxOf t < n → False := fun n => by
    induction n with
    | zero => intro t _ h; omega
    | succ n ih =>
      intro t mt ht
      obtain ⟨f, f1, f2⟩ := s3 t mt
      obtain ⟨⟨t0, t1⟩, t2⟩ := atN_mem.mp (s2 t mt)
      obtain ⟨⟨g0, g1⟩, g2⟩ := atN_mem.mp (s2 f f2)
      have et := at_gI (f := fun b : Bk => D.int b.kept) t0 t1
      obtain ⟨j, rfl⟩ := Int.eq_ofNat_of_zero_le t0
      obtain ⟨k, rfl⟩ := Int.eq_ofNat_of_zero_le g0
      have ej := List.getElem?_eq_getElem (l := bs) (i := j) (by omega)
      have ek := List.getElem?_eq_getElem (l := bs) (i := k) (by omega)
      rw [gI_nat' ej] at t2
      rw [gI_nat' ek] at g2
      have ef : gI (bs.map fdB) (j : Int) = fdB bs[j] := gI_nat' (by rw [List.getElem?_map, ej]; rfl)
      rw [ef] at f1
      obtain ⟨s, ms, hs⟩ := List.mem_filterMap.mp f1
      split at hs
      · rename_i hw
        have hs := Option.some.inj hs
        have hk := h.k k _ ek
        have := h.r j _ ej t2 s ms hw (by
          rw [hs, gI_nat' hk]
          exact g2)
        rw [hs] at this
        exact ih _ f2 (by omega)
      · cases hs
  obtain ⟨t, mt⟩ := List.exists_mem_of_ne_nil S s1
  exact key _ t mt (Nat.lt_succ_self _)
where gI_nat' {α : Type} [Inhabited α] {xs : List α} {j : Nat} {a : α} (h : xs[j]? = some a) : gI xs (j : Int) = a := by simp [gI, List.getD, h]
end KS
end PB

set_option Elab.async false
set_option linter.all false
set_option autoImplicit false
set_option maxRecDepth 1000000
set_option maxHeartbeats 4000000
namespace PB
open PySem (Str sizeLine)
namespace KS
theorem gI_natP {α : Type} [Inhabited α] {xs : List α} {j : Nat} {a : α} (h : xs[j]? = some a) : gI xs (j : Int) = a := by simp [gI, List.getD, h]
theorem srcs_loop {X : Env} {ns : List Int} (hd : S__law_drawn_source ns (X.fn 406)) {r : List (Option D)} {i m o : Int} {row kinds : List Int} {bl : List D} {k : Nat} {mm : Int} (hi : 0 ≤ i) (hm : 0 ≤ m) (hk : (k : Int) < m) (hkl : (kinds.length : Int) = m) (hkb : ∀ b ∈ kinds, 0 ≤ b ∧ b < 2) (hrow : ∀ q : Int, 0 ≤ q → q < m → q ∈ row) {n : Int} (h0 : 0 ≤ n) (h1 : n ≤ 10000000) (c : Nat) (hc : c ≤ 4) :
    ∃ ss : List Sc, ss.length ≤ c ∧ (∀ s ∈ ss, ScV i m s ∧ (gI kinds (k : Int) = 0 → s.1 = "block" → gI kinds s.2 = 0 → row.idxOf s.2 < row.idxOf (k : Int))) ∧
      loop (forStep X (.nm 12) c__law_pack_lists_b1) (rngD 0 c) ⟨[.im (.scr (ns.map .int)), .im (.cell 0), .im (.int i), .im (.int m), .im (.int o), .own (.lst (row.map .int)), .im (.int k), .own (.lst (kinds.map .int)), .own (.lst bl), .no, .im (.int mm), .own (.lst []), .no, .no, .no, .no], cN n :: r⟩ = .ok .nx ⟨[.im (.scr (ns.map .int)), .im (.cell 0), .im (.int i), .im (.int m), .im (.int o), .own (.lst (row.map .int)), .im (.int k), .own (.lst (kinds.map .int)), .own (.lst bl), .no, .im (.int mm), .own (.lst (ss.map scD)), .no, .no, .no, .no], cN (n + c) :: r⟩ := by
  obtain ⟨⟨ss, n'⟩, e, p1, p2, p3⟩ := fr_rng (lo := 0) (n := c) (step := (forStep X (.nm 12) c__law_pack_lists_b1)) (fun x : List Sc × Int => ⟨[.im (.scr (ns.map .int)), .im (.cell 0), .im (.int i), .im (.int m), .im (.int o), .own (.lst (row.map .int)), .im (.int k), .own (.lst (kinds.map .int)), .own (.lst bl), .no, .im (.int mm), .own (.lst (x.1.map scD)), .no, .no, .no, .no], cN x.2 :: r⟩)
    (fun j x => x.1.length ≤ j ∧ (∀ s ∈ x.1, ScV i m s ∧ (gI kinds (k : Int) = 0 → s.1 = "block" → gI kinds s.2 = 0 → row.idxOf s.2 < row.idxOf (k : Int))) ∧ x.2 = n + j) ([], n) ⟨by simp, (fun s m => by cases m), by simp⟩ (fun j x hj hx => by
      obtain ⟨ss, n'⟩ := x
      obtain ⟨p1, p2, p3⟩ := hx
      dsimp only at p1 p2 p3 ⊢
      obtain ⟨os, q1, q2⟩ := hd n' r i m (by omega) (by omega) hi hm
      have hz : ss.length < sizeLine := by rw [PySem.sizeLine_eq]; omega
      have ek := at_gI (f := D.int) (xs := kinds) (i := (k : Int)) (by omega) (by omega)
      have bk := hkb _ (gI_mem (xs := kinds) (i := (k : Int)) (by omega) (by omega))
      have ik := index_ints (hrow k (by omega) hk)
      cases os with
      | none =>
        refine ⟨(ss, n' + 1), .inr ?_, by dsimp only; omega, p2, by dsimp only; omega⟩
        simp (disch := omega) [fr_step, c__law_pack_lists_b1, q2, oS]
      | some s =>
        have sv := q1 s rfl
        obtain ⟨w, q⟩ := s
        have nb : ¬ (("block" : Str) = "in") := by decide +kernel
        have add : (gI kinds (k : Int) = 0 → w = "block" → gI kinds q = 0 → row.idxOf q < row.idxOf (k : Int)) → ∀ s ∈ ss ++ [(w, q)], ScV i m s ∧ (gI kinds (k : Int) = 0 → s.1 = "block" → gI kinds s.2 = 0 → row.idxOf s.2 < row.idxOf (k : Int)) := fun h s ms => by
          rcases List.mem_append.mp ms with ms | ms
          · exact p2 s ms
          · rw [List.mem_singleton.mp ms]
            exact ⟨sv, h⟩
        rcases sv with ⟨h, g0, g1⟩ | ⟨h, g0, g1⟩ <;> simp only at h g0 g1 <;> subst h
        · refine ⟨(ss ++ [sc "in" q], n' + 1), .inl ?_, by simp; omega, add (fun _ h => absurd h.symm nb), by dsimp only; omega⟩
          simp (disch := omega) [fr_step, c__law_pack_lists_b1, q2, oS, scD, hz]
        · have eq := at_gI (f := D.int) (xs := kinds) (i := q) (by omega) (by omega)
          have bq := hkb _ (gI_mem (xs := kinds) (i := q) (by omega) (by omega))
          have iq := index_ints (hrow q g0 g1)
          generalize gI kinds (k : Int) = kk at *
          generalize gI kinds q = kq at *
          have ck : kk = 0 ∨ kk = 1 := by omega
          have cq : kq = 0 ∨ kq = 1 := by omega
          rcases ck with rfl | rfl
          · rcases cq with rfl | rfl
            · by_cases c : row.idxOf q < row.idxOf (k : Int)
              · refine ⟨(ss ++ [sc "block" q], n' + 1), .inl ?_, by simp; omega, add (fun _ _ _ => c), by dsimp only; omega⟩
                simp (disch := first | omega | decide +kernel) [fr_step, c__law_pack_lists_b1, q2, oS, scD, hz, ek, eq, ik, iq, c]
              · refine ⟨(ss, n' + 1), .inl ?_, by dsimp only; omega, p2, by dsimp only; omega⟩
                simp (disch := first | omega | decide +kernel) [fr_step, c__law_pack_lists_b1, q2, oS, scD, hz, ek, eq, ik, iq, c]
            · refine ⟨(ss ++ [sc "block" q], n' + 1), .inl ?_, by simp; omega, add (fun _ _ h => by omega), by dsimp only; omega⟩
              simp (disch := first | omega | decide +kernel) [fr_step, c__law_pack_lists_b1, q2, oS, scD, hz, ek, eq]
          · refine ⟨(ss ++ [sc "block" q], n' + 1), .inl ?_, by simp; omega, add (fun h => by omega), by dsimp only; omega⟩
            simp (disch := first | omega | decide +kernel) [fr_step, c__law_pack_lists_b1, q2, oS, scD, hz, ek])
  dsimp only at e p1 p2 p3
  subst p3
  exact ⟨ss, p1, p2, e⟩
theorem bits5 {i : Int} (h0 : 0 ≤ i) (h1 : i ≤ 4) : ∃ q : Int, 0 < q ∧ q = pow2 (pow2 i.toNat).toNat ∧ atD [.int 2, .int 4, .int 16, .int 256, .int 65536] i = some (.int q) := by
  have : i = 0 ∨ i = 1 ∨ i = 2 ∨ i = 3 ∨ i = 4 := by omega
  rcases this with rfl | rfl | rfl | rfl | rfl
  · exact ⟨2, by decide, by decide, rfl⟩
  · exact ⟨4, by decide, by decide, rfl⟩
  · exact ⟨16, by decide, by decide, rfl⟩
  · exact ⟨256, by decide, by decide, rfl⟩
  · exact ⟨65536, by decide, by decide, rfl⟩
abbrev S__law_pack_lists (ns : List Int) (F : Fn') : Prop := ∀ (n : Int) (r : List (Option D)) (i m o : Int), 0 ≤ n → n ≤ 1000000 → 0 ≤ i → i ≤ 100 → 0 ≤ m → m ≤ 100 → 0 ≤ o → o ≤ 100 →
  ∃ (bs : List Bk) (os : List Sc) (n' : Int), PackV i bs os ∧ ¬ Stuck (bs.map fdB) (atB bs) ∧ (bs.length : Int) = m ∧ (os.length : Int) ≤ o ∧ n ≤ n' ∧ n' ≤ n + 2000 ∧ F [.scr (ns.map .int), .cell 0, .int i, .int m, .int o] (cN n :: r) = .ok (.im (.tup [.lst (bs.map (bkD true)), .lst (os.map scD)])) (cN n' :: r)
theorem k__law_pack_lists {X : Env} {ns : List Int} (hn : S_next ns (X.fn 1)) (hb : S__law_some_bits ns (X.fn 405)) (hd : S__law_drawn_source ns (X.fn 406)) : S__law_pack_lists ns (callF X f__law_pack_lists) := by
  intro n r i m o h0 h1 i0 i1 m0 m1 o0 o1
  obtain ⟨m, rfl⟩ := Int.eq_ofNat_of_zero_le m0
  obtain ⟨o, rfl⟩ := Int.eq_ofNat_of_zero_le o0
  have em : inR (m : Int) = true := in_R (by omega) (by omega)
  have eo : inR (o : Int) = true := in_R (by omega) (by omega)
  obtain ⟨⟨row, n1⟩, e1, a1, a2, a3⟩ := fr_rng (lo := 0) (n := m) (step := (forStep X (.nm 6) c__law_pack_lists_b0)) (fun x : List Int × Int => ⟨[.im (.scr (ns.map .int)), .im (.cell 0), .im (.int i), .im (.int m), .im (.int o), .own (.lst (x.1.map .int)), .no, .no, .no, .no, .no, .no, .no, .no, .no, .no], cN x.2 :: r⟩)
    (fun j x => x.1.length = j ∧ (∀ q : Int, 0 ≤ q → q < j → q ∈ x.1) ∧ x.2 = n + j) ([], n) ⟨rfl, fun q _ _ => by omega, by simp⟩ (fun j x hj hx => by
      obtain ⟨row, n'⟩ := x
      obtain ⟨p1, p2, p3⟩ := hx
      dsimp only at p1 p2 p3 ⊢
      have en := hn n' r (by omega) (by omega)
      generalize nx ns n' = q at *
      have hp : (0 : Int) < row.length + 1 := by omega
      obtain ⟨t0, t1⟩ := emod_rng' (a := q) hp
      refine ⟨(row.take (q % ((row.length : Int) + 1)).toNat ++ [(j : Int)] ++ row.drop (q % ((row.length : Int) + 1)).toNat, n' + 1), .inl ?_, by simp; omega, fun t g0 g1 => ?_, by dsimp only; omega⟩
      · have ei := z_oM_ins (ds := row.map D.int) (i := q % ((row.length : Int) + 1)) (d := .int (j : Nat)) t0 (by omega) (by simp; omega)
        simp (disch := omega) [fr_step, c__law_pack_lists_b0, en, ei]
      · dsimp only
        by_cases c : t = j
        · subst c
          simp
        · have := p2 t g0 (by omega)
          rw [← List.take_append_drop (q % ((row.length : Int) + 1)).toNat row] at this
          rcases List.mem_append.mp this with h | h <;> simp [h])
  dsimp only at e1 a1 a2 a3
  obtain ⟨kinds, n2, b1, b2, b3, b4, e2⟩ := hb n1 r m (by omega) (by omega) (by omega) (by omega)
  obtain ⟨⟨bs, n3⟩, e3, c1, c2, c3, c4⟩ := fr_rng (lo := 0) (n := m) (step := (forStep X (.nm 6) c__law_pack_lists_b2)) (fun x : List Bk × Int => ⟨[.im (.scr (ns.map .int)), .im (.cell 0), .im (.int i), .im (.int m), .im (.int o), .own (.lst (row.map .int)), .no, .own (.lst (kinds.map .int)), .own (.lst (x.1.map (bkD true))), .no, .no, .no, .no, .no, .no, .no], cN x.2 :: r⟩)
    (fun j x => x.1.length = j ∧ Drn i m row kinds x.1 ∧ n2 ≤ x.2 ∧ x.2 ≤ n2 + 6 * j) ([], n2) ⟨rfl, ⟨(fun b m => by cases m), (fun j b e => by cases e), (fun j b e => by cases e)⟩, by simp, by simp⟩ (fun j x hj hx => by
      obtain ⟨bs, n'⟩ := x
      obtain ⟨p1, p2, p3, p4⟩ := hx
      dsimp only at p1 p2 p3 p4 ⊢
      have en := hn n' r (by omega) (by omega)
      obtain ⟨u0, u1⟩ := nx_rng ns n'
      generalize nx ns n' = u at *
      obtain ⟨c, hc⟩ := Int.eq_ofNat_of_zero_le (show 0 ≤ u % 5 by omega)
      have ec : inR (c : Int) = true := in_R (by omega) (by omega)
      obtain ⟨ss, s1, s2, s3⟩ := srcs_loop hd (r := r) (i := i) (m := m) (o := o) (row := row) (kinds := kinds) (bl := bs.map (bkD true)) (k := j) (mm := u) i0 (by omega) (by omega) b1 b2 a2 (n := n' + 1) (by omega) (by omega) c (by omega)
      have en2 := hn (n' + 1 + c) r (by omega) (by omega)
      obtain ⟨v0, v1⟩ := nx_rng ns (n' + 1 + c)
      generalize nx ns (n' + 1 + c) = v at *
      obtain ⟨q, q0, q1, eq⟩ := bits5 (i := (ss.length : Int)) (by omega) (by omega)
      obtain ⟨t0, t1⟩ := emod_rng' (a := v) q0
      have ek := at_gI (f := D.int) (xs := kinds) (i := (j : Int)) (by omega) (by omega)
      have bk := b2 _ (gI_mem (xs := kinds) (i := (j : Int)) (by omega) (by omega))
      have ekj : kinds[j]? = some (gI kinds (j : Int)) := by
        have := List.getElem?_eq_getElem (l := kinds) (i := j) (by omega)
        rw [this, gI_natP this]
      have mulB : ∀ x y : Int, 0 ≤ x → x < 2 → 0 ≤ y → y < 2 → opB .mul (.int x) (.int y) = some (.im (.int (x * y))) := fun x y a b c d => by
        have hx : x = 0 ∨ x = 1 := by omega
        have hy : y = 0 ∨ y = 1 := by omega
        rcases hx with rfl | rfl <;> rcases hy with rfl | rfl <;> rfl
      refine ⟨(bs ++ [⟨ss, v % q, gI kinds (j : Int), u / 5 % 2 * gI kinds (j : Int)⟩], n' + 1 + c + 1), .inl ?_, by simp [p1], ?_, by dsimp only; omega, by dsimp only; omega⟩
      · have em2 := mulB (u / 5 % 2) (gI kinds (j : Int)) (by omega) (by omega) bk.1 bk.2
        generalize gI kinds (j : Int) = kj at *
        have hz : bs.length < sizeLine := by rw [PySem.sizeLine_eq]; omega
        simp (disch := omega) [fr_step, c__law_pack_lists_b2, en, hc, ec, s3, en2, eq, ek, em2, hz, bkD]
      · refine ⟨fun b mb => ?_, fun k b eb => ?_, fun k b eb => ?_⟩
        · rcases List.mem_append.mp mb with mb | mb
          · exact p2.v b mb
          · rw [List.mem_singleton.mp mb]
            refine ⟨fun s ms => (s2 s ms).1, by dsimp only; omega, ?_, by dsimp only; omega, ?_⟩
            · dsimp only
              rw [Int.toNat_natCast] at q1
              rw [← q1]
              exact ⟨t0, t1⟩
            · dsimp only
              have hk : gI kinds (j : Int) = 0 ∨ gI kinds (j : Int) = 1 := by omega
              have hu : u / 5 % 2 = 0 ∨ u / 5 % 2 = 1 := by omega
              rcases hk with hk | hk <;> rcases hu with hu | hu <;> rw [hk, hu] <;> decide
        · rcases PB.get_snoc eb with eb | ⟨rfl, rfl⟩
          · exact p2.k k b eb
          · rw [p1]
            exact ekj
        · rcases PB.get_snoc eb with eb | ⟨rfl, rfl⟩
          · exact p2.r k b eb
          · intro hk s ms hw hq
            rw [p1]
            exact (s2 s ms).2 hk hw hq)
  dsimp only at e3 c1 c2 c3 c4
  obtain ⟨os, n4, e4, d1, d2, d3⟩ := lc_st (f := fun j : Nat => D.int (0 + (j : Nat))) (g := oS) (step := (lcStep X (.cal 406 (.cons (.var 0) (.cons (.var 1) (.cons (.var 2) (.cons (.var 3) .nil))))) (.nm 6) .nil [6])) (xs := List.range o) (fun y : Int × Sl => ⟨[.im (.scr (ns.map .int)), .im (.cell 0), .im (.int i), .im (.int m), .im (.int o), .no, y.2, .no, .own (.lst (bs.map (bkD true))), .no, .no, .no, .no, .no, .no, .no], cN y.1 :: r⟩)
    (fun j os y => os.length = j ∧ (∀ x ∈ os, ∀ s, x = some s → ScV i m s) ∧ y.1 = n3 + j) (n3, .no) ⟨rfl, (fun x m => by cases m), by simp⟩ (by simp; omega) (fun j a os y ej hy => by
      obtain ⟨n', y⟩ := y
      obtain ⟨p1, p2, p3⟩ := hy
      dsimp only at p1 p2 p3 ⊢
      have hj := (List.getElem?_eq_some_iff.mp ej).1
      simp at hj
      obtain ⟨x, q1, q2⟩ := hd n' r i m (by omega) (by omega) i0 (by omega)
      refine ⟨x, (n' + 1, .im (.int (0 + (a : Nat)))), ?_, by simp [p1], fun y my => ?_, by dsimp only; omega⟩
      · simp (disch := omega) [fr_lcs, q2]
      · rcases List.mem_append.mp my with my | my
        · exact p2 y my
        · rw [List.mem_singleton.mp my]
          exact q1)
  obtain ⟨n4, y⟩ := n4
  rw [List.length_range] at d1 d3
  dsimp only at e4 d1 d2 d3
  subst d3
  have hov : ∀ s ∈ os.filterMap id, ScV i m s := fun s ms => by
    obtain ⟨x, mx, hx⟩ := List.mem_filterMap.mp ms
    exact d2 x mx s hx
  have hol : (os.filterMap id).length ≤ o := by
    have := List.length_filterMap_le id os
    omega
  refine ⟨bs, os.filterMap id, n3 + o, ⟨i0, by omega, by omega, fun b mb => by rw [c1]; exact c2.v b mb, fun s ms => by rw [c1]; exact hov s ms⟩, c2.free (by omega), by omega, by omega, by omega, by omega, ?_⟩
  have eL : fLc3 [14] (lcLoop (lcStep X (.var 14) (.nm 14) (.cons (.bin .isn (.var 14) (.cst .non)) .nil) [14]) (os.map oS) [] ⟨[.im (.scr (ns.map .int)), .im (.cell 0), .im (.int i), .im (.int m), .im (.int o), .no, .no, .no, .im (.lst (bs.map (bkD true))), .im (.lst (os.map oS)), .no, .no, .no, .no, .no, .no], cN (n3 + o) :: r⟩) = .ok (.own (.lst ((os.filterMap id).map scD))) ⟨[.im (.scr (ns.map .int)), .im (.cell 0), .im (.int i), .im (.int m), .im (.int o), .no, .no, .no, .im (.lst (bs.map (bkD true))), .im (.lst (os.map oS)), .no, .no, .no, .no, .no, .no], cN (n3 + o) :: r⟩ := by
    have e9 : (os.filterMap id).map scD = os.filterMap fun x => x.map scD := by
      rw [List.map_filterMap]
      rfl
    rw [e9]
    refine lc_eq (by omega) (fun a ma => rfl) (fun x mx => ?_)
    cases x with
    | none => simp (disch := omega) [oS]
    | some s => simp (disch := omega) [oS, scD]
  rw [← rng_map] at e4
  simp only [callF, f__law_pack_lists, c__law_pack_lists]
  simp at e1 e2 e3 e4
  simp (disch := omega) [em, eo, e1, e2, e3, e4, eL]
end KS
end PB

set_option Elab.async false
set_option linter.all false
set_option autoImplicit false
set_option maxRecDepth 1000000
set_option maxHeartbeats 4000000
namespace PB
open PySem (Str sizeLine)
namespace KS
/-- plain data of some depth: numbers, texts, None, lists and tuples of such -/
def gd : Nat → D → Bool
  | 0, _ => false
  | _ + 1, .non => true
  | _ + 1, .int _ => true
  | _ + 1, .str z => PySem.PyData.strOk z
  | n + 1, .lst ds => decide (ds.length ≤ 100000) && ds.all (gd n)
  | n + 1, .tup ds => decide (ds.length ≤ 100000) && ds.all (gd n)
  | _ + 1, _ => false
@[simp] theorem gd_non {n : Nat} : gd (n + 1) .non = true := id rfl
@[simp] theorem gd_int {n : Nat} {i : Int} : gd (n + 1) (.int i) = true := id rfl
@[simp] theorem gd_str {n : Nat} {z : Str} : gd (n + 1) (.str z) = PySem.PyData.strOk z := id rfl
@[simp] theorem gd_lst {n : Nat} {ds : List D} : gd (n + 1) (.lst ds) = (decide (ds.length ≤ 100000) && ds.all (gd n)) := id rfl
@[simp] theorem gd_tup {n : Nat} {ds : List D} : gd (n + 1) (.tup ds) = (decide (ds.length ≤ 100000) && ds.all (gd n)) := id rfl
theorem gd_dr {n : Nat} {d : D} (h : gd n d = true) (st : List (Option D)) : deref st d = some d := by
  cases n with
  | zero => cases h
  | succ n => cases d <;> first | rfl | cases h
theorem gd_up : ∀ {n : Nat} {d : D}, gd n d = true → gd (n + 1) d = true
  | 0, _, h => by cases h
  | n + 1, .non, _ => rfl
  | n + 1, .int _, _ => rfl
  | n + 1, .str _, h => h
  | n + 1, .lst ds, h => by
    rw [gd_lst, Bool.and_eq_true, List.all_eq_true] at h
    rw [gd_lst, Bool.and_eq_true, List.all_eq_true]
    exact ⟨h.1, fun x m => gd_up (h.2 x m)⟩
  | n + 1, .tup ds, h => by
    rw [gd_tup, Bool.and_eq_true, List.all_eq_true] at h
    rw [gd_tup, Bool.and_eq_true, List.all_eq_true]
    exact ⟨h.1, fun x m => gd_up (h.2 x m)⟩
theorem gd_same_loop {X : Env} {n : Nat} (hs : ∀ (d : D) (st : List (Option D)), gd n d = true → X.fn 92 [d, d] st = .ok (.im (.bl true)) st) {a b c : Sl} {st : List (Option D)} : ∀ (ds : List D) (m : Nat) (x y : Sl), (∀ d ∈ ds, gd n d = true) → m + ds.length ≤ 1000000 →
    ∃ x' y', lcLoop (lcStep X (.calP 92 (.cons (.var 3) (.cons (.var 4) .nil))) (.tc (.nm 3) (.tc (.nm 4) .tn)) .nil [3, 4]) (zipD ds ds) (List.replicate m (.bl true)) ⟨[a, b, c, x, y], st⟩ = .ok (List.replicate (m + ds.length) (.bl true)) ⟨[a, b, c, x', y'], st⟩
  | [], n, x, y, _, _ => ⟨x, y, rfl⟩
  | i :: is, m, x, y, hd, hl => by
    rw [List.length_cons] at hl
    obtain ⟨x', y', ih⟩ := gd_same_loop hs (a := a) (b := b) (c := c) (st := st) is (m + 1) (.im i) (.im i) (fun d q => hd d (List.mem_cons_of_mem _ q)) (by omega)
    refine ⟨x', y', ?_⟩
    have h1 := hd i List.mem_cons_self
    have h2 := fun st => gd_dr h1 st
    have h3 := fun st => hs i st h1
    have e3 : lcStep X (.calP 92 (.cons (.var 3) (.cons (.var 4) .nil))) (.tc (.nm 3) (.tc (.nm 4) .tn)) .nil [3, 4] (.tup [i, i]) ⟨[a, b, c, x, y], st⟩ = .ok (some (.bl true)) ⟨[a, b, c, .im i, .im i], st⟩ := by
      simp [fr_lcs, h2, h3]
    have hz : (List.replicate m (D.bl true)).length < sizeLine := by
      rw [PySem.sizeLine_eq, List.length_replicate]
      omega
    show lcLoop _ (.tup [i, i] :: zipD is is) _ _ = _
    unfold lcLoop
    rw [e3]
    show (if (List.replicate m (D.bl true)).length < sizeLine then _ else _) = _
    rw [if_pos hz, show List.replicate m (D.bl true) ++ [D.bl true] = List.replicate (m + 1) (D.bl true) from by rw [← List.replicate_succ'], ih, List.length_cons, show m + 1 + is.length = m + (is.length + 1) from by omega]
theorem gd_same {X : Env} {n : Nat} (hs : ∀ (d : D) (st : List (Option D)), gd n d = true → X.fn 92 [d, d] st = .ok (.im (.bl true)) st) {d : D} {st : List (Option D)} (h : gd (n + 1) d = true) : callF X f__law_same_92 [d, d] st = .ok (.im (.bl true)) st := by
  cases d with
  | non =>
    simp only [callF, f__law_same_92, c__law_same_92]
    simp
  | int i =>
    simp only [callF, f__law_same_92, c__law_same_92]
    simp
  | str z =>
    rw [gd_str] at h
    simp only [callF, f__law_same_92, c__law_same_92]
    simp [h]
  | lst ds =>
    rw [gd_lst, Bool.and_eq_true, List.all_eq_true] at h
    have hl := of_decide_eq_true h.1
    obtain ⟨x, y, e⟩ := gd_same_loop (X := X) hs (a := .im (.lst ds)) (b := .im (.lst ds)) (c := .no) (st := st) ds 0 .no .no h.2 (by omega)
    simp only [callF, f__law_same_92, c__law_same_92]
    simp only [List.replicate_zero, Nat.zero_add] at e
    simp [e, bools_true]
  | tup ds =>
    rw [gd_tup, Bool.and_eq_true, List.all_eq_true] at h
    have hl := of_decide_eq_true h.1
    obtain ⟨x, y, e⟩ := gd_same_loop (X := X) hs (a := .im (.tup ds)) (b := .im (.tup ds)) (c := .no) (st := st) ds 0 .no .no h.2 (by omega)
    simp only [callF, f__law_same_92, c__law_same_92]
    simp only [List.replicate_zero, Nat.zero_add] at e
    simp [e, bools_true]
  | _ => cases h
theorem gd_fn {P : Prog} (f92 : P.fns 92 = some f__law_same_92) : ∀ (n k : Nat) (d : D) (st : List (Option D)), gd n d = true → (envL P (k + n)).fn 92 [d, d] st = .ok (.im (.bl true)) st
  | 0, _, _, _, h => by cases h
  | n + 1, k, d, st, h => by
    rw [show k + (n + 1) = (k + n) + 1 from rfl, fn_at f92]
    exact gd_same (fun d st h => gd_fn f92 n k d st h) h
abbrev S_same (n : Nat) (F : List D → List (Option D) → RC) : Prop := ∀ (d : D) (st : List (Option D)), gd n d = true → F [d, d] st = .ok (.im (.bl true)) st
theorem deep_gd : ∀ {n m : Nat} {d : D} (st : List (Option D)), gd n d = true → n ≤ m → deepD m st d = some d
  | 0, _, _, _, h, _ => by cases h
  | n + 1, 0, _, _, _, h => by omega
  | n + 1, m + 1, d, st, h, hm => by
    have rec_ : ∀ ds : List D, ds.all (gd n) = true → mapO (deepD m st) ds = some ds := fun ds => by
      induction ds with
      | nil => intro _; rfl
      | cons x xs ih =>
        intro h
        rw [List.all_cons, Bool.and_eq_true] at h
        rw [mapO_cons, deep_gd st h.1 (by omega), mapO2_s, ih h.2]
        rfl
    cases d with
    | lst ds =>
      rw [gd_lst, Bool.and_eq_true] at h
      rw [deep_lst, rec_ ds h.2]
      rfl
    | tup ds =>
      rw [gd_tup, Bool.and_eq_true] at h
      rw [deep_tup, rec_ ds h.2]
      rfl
    | non => rfl
    | int i => rfl
    | str z => rfl
    | _ => cases h
theorem gd_list {n : Nat} {α : Type} {f : α → D} {xs : List α} (hl : xs.length ≤ 100000) (h : ∀ x ∈ xs, gd n (f x) = true) : gd (n + 1) (.lst (xs.map f)) = true := by
  rw [gd_lst]
  simp [hl]
  exact h
theorem gd_tupl {n : Nat} {α : Type} {f : α → D} {xs : List α} (hl : xs.length ≤ 100000) (h : ∀ x ∈ xs, gd n (f x) = true) : gd (n + 1) (.tup (xs.map f)) = true := by
  rw [gd_tup]
  simp [hl]
  exact h
theorem gd_le {n m : Nat} {d : D} (h : gd n d = true) (l : n ≤ m) : gd m d = true := by
  induction l with
  | refl => exact h
  | step _ ih => exact gd_up ih
end KS
end PB

set_option Elab.async false
set_option linter.all false
set_option autoImplicit false
set_option maxRecDepth 1000000
set_option maxHeartbeats 4000000
namespace PB
open PySem (Str sizeLine)
namespace KS
abbrev S__law_only (F : Fn') (k : Nat) (i : Int) : Prop := ∀ (st : List (Option D)), F [.exc k [], .int i] st = .ok (.im (.bl true)) st
abbrev S__law_only8 (F : Fn') : Prop := S__law_only F 8 5
theorem k__law_only8 {X : Env} (h1 : X.sub 8 1 = some false) (h4 : X.sub 8 4 = some false) (h6 : X.sub 8 6 = some false) (h5 : X.sub 8 5 = some false) (h7 : X.sub 8 7 = some false) (h8 : X.sub 8 8 = some true) (h9 : X.sub 8 9 = some false) (h10 : X.sub 8 10 = some false) (h11 : X.sub 8 11 = some false) (h12 : X.sub 8 12 = some false) (h13 : X.sub 8 13 = some false) (hv : X.sub 8 999999 = some true) : S__law_only8 (callF X f__law_only) := by
  intro st
  simp only [callF, f__law_only, c__law_only]
  simp (maxSteps := 2000000) [h1, h4, h6, h5, h7, h8, h9, h10, h11, h12, h13, hv, fr_lcs]
abbrev S__law_refused_410 (F : Fn') : Prop := ∀ (i : Int) (bd od : D) (st : List (Option D)), PackE i bd od → F [.int i, bd, od] st = .ok (.im (.bl true)) st
theorem k__law_refused_410 {X : Env} (hp : S_Pack_er (X.nw 26 404)) (ho : S__law_only8 (X.fn 408)) (h0 : X.sub 8 0 = some true) : S__law_refused_410 (callF X f__law_refused_410) := by
  intro i bd od st h
  have e := fun st => hp i bd od st h
  simp only [callF, f__law_refused_410, c__law_refused_410]
  simp [e, h0, ho]
theorem gd_sc {s : Sc} (h : PySem.PyData.strOk s.1 = true) : gd 2 (scD s) = true := by simp [scD, h]
theorem gd_scs {i m : Int} {ss : List Sc} (hl : ss.length ≤ 1000) (h : ∀ s ∈ ss, ScV i m s) : gd 3 (.tup (ss.map scD)) = true := gd_tupl (by omega) fun s ms => gd_sc (h s ms).ok
theorem gd_bk {i m : Int} {b : Bk} (h : BkV i m b) : gd 4 (bkD false b) = true := by
  have := gd_scs (by have := h.len; omega) h.src
  simp [bkD, this]
theorem gd_bks {i m : Int} {bs : List Bk} (hl : bs.length ≤ 1000) (h : ∀ b ∈ bs, BkV i m b) : gd 5 (.tup (bs.map (bkD false))) = true := gd_tupl (by omega) fun s ms => gd_bk (h s ms)
abbrev S__law_right (F : Fn') : Prop := ∀ (i : Int) (bs : List Bk) (os : List Sc) (st : List (Option D)), PackV i bs os → F [packD i bs os, .int i, .lst (bs.map (bkD true)), .lst (os.map scD)] st = .ok (.im (.bl true)) st
theorem k__law_right {X : Env} (hs : S_same 8 (X.fn 92)) (n1 : X.na 26 "ins" = true) (n2 : X.na 26 "blocks" = true) (n3 : X.na 26 "outs" = true) (hx : X.sub 2000026 26 = some true) : S__law_right (callF X f__law_right) := by
  intro i bs os st h
  have hx : X.sub (insN + 26) 26 = some true := hx
  have eL : fLc3 [5, 6, 7, 8] (lcLoop (lcStep X (.tup (.cons (.bi .tuple (.cons (.var 5) .nil)) (.cons (.var 6) (.cons (.var 7) (.cons (.var 8) .nil))))) (.tc (.nm 5) (.tc (.nm 6) (.tc (.nm 7) (.tc (.nm 8) .tn)))) .nil [5, 6, 7, 8]) (bs.map (bkD true)) [] ⟨[.im (packD i bs os), .im (.int i), .im (.lst (bs.map (bkD true))), .im (.lst (os.map scD)), .no, .no, .no, .no, .no], st⟩) = .ok (.own (.lst (bs.map (bkD false)))) ⟨[.im (packD i bs os), .im (.int i), .im (.lst (bs.map (bkD true))), .im (.lst (os.map scD)), .no, .no, .no, .no, .no], st⟩ := by
    refine lc_eqm (by have := h.bl; omega) (fun a ma => rfl) (fun b mb => ?_)
    simp (disch := omega) [bkD]
  have s1 := fun st => hs (.int i) st (gd_le (n := 1) (by simp) (by omega))
  have s2 := fun st => hs _ st (gd_le (gd_bks h.bl h.bv) (by omega))
  have s3 := fun st => hs _ st (gd_le (gd_scs h.ol h.ov) (by omega))
  simp only [packD] at eL ⊢
  simp only [callF, f__law_right, c__law_right]
  simp (disch := first | omega | decide +kernel) [eL, n1, n2, n3, hx, s1, s2, s3]
theorem bw_no {i m : Int} {ss : List D} {b k f : Int} (hl : ss.length ≤ 1000) (hw : ∀ x ∈ ss, SW x) (h : bf4 i m ss b k f = false) : BW i m (.tup [.lst ss, .int b, .int k, .int f]) false := by
  have := BW.four (i := i) (m := m) (b := b) (k := k) (f := f) hl .l hw
  rwa [h] at this
theorem sw1 {w : Str} {k : Int} (h : PySem.PyData.strOk w = true) : ∀ x ∈ [D.tup [.str w, .int k]], SW x := fun x m => by
  rw [List.mem_singleton.mp m]
  exact .two h
theorem bf_src {i m b k f : Int} {ss : List D} (h : ss.all (sfB i m) = false) : bf4 i m ss b k f = false := by simp [bf4, h]
theorem far3 {i : Int} (h0 : 0 ≤ i) (h1 : i < 3) : ∃ q : Int, 1 ≤ q ∧ atD [.int 1, .int 2, .int 100000000000000000000] i = some (.int q) := by
  have : i = 0 ∨ i = 1 ∨ i = 2 := by omega
  rcases this with rfl | rfl | rfl
  · exact ⟨1, by omega, rfl⟩
  · exact ⟨2, by omega, rfl⟩
  · exact ⟨100000000000000000000, by decide, rfl⟩
theorem ob_not : PySem.PyData.strOk ("out" : Str) = true := by decide +kernel
abbrev strangeL (i m far : Int) : List D :=
  [.tup [.lst [.tup [.str "in", .int (i - 1 + far)]], .int 0, .int 0, .int 0], .tup [.lst [.tup [.str "block", .int (m - 1 + far)]], .int 0, .int 1, .int 0], .tup [.lst [.tup [.str "in", .int (-1)]], .int 0, .int 0, .int 0],
   .tup [.lst [.tup [.str "out", .int 0]], .int 0, .int 0, .int 0], .tup [.lst [.tup [.str "in"]], .int 0, .int 0, .int 0], .tup [.lst [.tup [.str "block", .int (-far)]], .int 0, .int 1, .int 0], .tup [.lst [], .int 2, .int 0, .int 0],
   .tup [.lst [], .int (-1), .int 0, .int 0], .tup [.lst [], .int 1, .int 2, .int 0], .tup [.lst [], .int 1, .int (-1), .int 0], .tup [.lst [], .int 1, .int 1, .int 2], .tup [.lst [], .int 1, .int 0, .int 1], .tup [.lst [], .int 1, .int 1],
   .tup [.lst [], .int 1, .int 1, .int 0, .int 0], .tup [.lst (List.replicate 5 [D.tup [.str "block", .int (m - 1)]]).flatten, .int 0, .int 1, .int 0], .tup [.lst [.tup [.str "block", .int (m - 1)]], .int 4, .int 1, .int 0],
   .tup [.lst [.tup [.str "block", .int (m - 1)]], .int 0, .int 0, .int 0], .tup [.lst (List.replicate 4 [D.tup [.str "block", .int (m - 1)]]).flatten, .int 65536, .int 1, .int 1]]
end KS
end PB

set_option Elab.async false
set_option linter.all false
set_option autoImplicit false
set_option maxRecDepth 1000000
set_option maxHeartbeats 4000000
namespace PB
open PySem (Str sizeLine)
namespace KS
theorem rep_flat {α : Type} {x : α} (n : Nat) : (List.replicate n [x]).flatten = List.replicate n x := by
  induction n with
  | zero => rfl
  | succ n ih => rw [List.replicate_succ, List.replicate_succ, List.flatten_cons, ih]; rfl
theorem strange_bw {i m far : Int} (hi : 0 ≤ i) (hm : 1 ≤ m) (hf : 1 ≤ far) {k : Int} (h0 : 0 ≤ k) (h1 : k < 18) : ∃ d, atD (strangeL i m far) k = some d ∧ (BW i m d false ∨ d = bkD true ⟨[sc "block" (m - 1)], 0, 0, 0⟩) := by
  have p0 : pow2 (pow2 0).toNat = 2 := by decide
  have nb : ¬ (("block" : Str) = "in") := by decide +kernel
  have no : ¬ (("out" : Str) = "in") := by decide +kernel
  have no2 : ¬ (("out" : Str) = "block") := by decide +kernel
  have ob := ob_not
  have : k = 0 ∨ k = 1 ∨ k = 2 ∨ k = 3 ∨ k = 4 ∨ k = 5 ∨ k = 6 ∨ k = 7 ∨ k = 8 ∨ k = 9 ∨ k = 10 ∨ k = 11 ∨ k = 12 ∨ k = 13 ∨ k = 14 ∨ k = 15 ∨ k = 16 ∨ k = 17 := by omega
  have z : ∀ x ∈ ([] : List D), SW x := fun x m => by cases m
  have rp : ∀ (n : Nat) (v : Int), ∀ x ∈ (List.replicate n [D.tup [.str "block", .int v]]).flatten, SW x := fun n v x mx => by
    rw [rep_flat] at mx
    rw [(List.mem_replicate.mp mx).2]
    exact .two (by simp)
  rcases this with rfl | rfl | rfl | rfl | rfl | rfl | rfl | rfl | rfl | rfl | rfl | rfl | rfl | rfl | rfl | rfl | rfl | rfl
  · exact ⟨_, rfl, .inl <| bw_no (by simp) (sw1 (by simp)) (bf_src (by simp [sfB]; omega))⟩
  · exact ⟨_, rfl, .inl <| bw_no (by simp) (sw1 (by simp)) (bf_src (by simp [sfB, nb]; omega))⟩
  · exact ⟨_, rfl, .inl <| bw_no (by simp) (sw1 (by simp)) (bf_src (by simp [sfB]))⟩
  · exact ⟨_, rfl, .inl <| bw_no (by simp) (sw1 ob) (bf_src (by simp [sfB, no, no2]))⟩
  · exact ⟨_, rfl, .inl <| bw_no (by simp) (fun x m => by rw [List.mem_singleton.mp m]; exact .one) (bf_src (by simp [sfB]))⟩
  · exact ⟨_, rfl, .inl <| bw_no (by simp) (sw1 (by simp)) (bf_src (by simp [sfB, nb]; omega))⟩
  · exact ⟨_, rfl, .inl <| bw_no (by simp) z (by simp [bf4, p0])⟩
  · exact ⟨_, rfl, .inl <| bw_no (by simp) z (by simp [bf4, p0])⟩
  · exact ⟨_, rfl, .inl <| bw_no (by simp) z (by simp [bf4, p0])⟩
  · exact ⟨_, rfl, .inl <| bw_no (by simp) z (by simp [bf4, p0])⟩
  · exact ⟨_, rfl, .inl <| bw_no (by simp) z (by simp [bf4, p0])⟩
  · exact ⟨_, rfl, .inl <| bw_no (by simp) z (by simp [bf4, p0])⟩
  · exact ⟨_, rfl, .inl (.other (by simp))⟩
  · exact ⟨_, rfl, .inl (.other (by simp))⟩
  · exact ⟨_, rfl, .inl <| bw_no (by rw [rep_flat]; simp) (rp 5 _) (by rw [rep_flat]; simp [bf4])⟩
  · exact ⟨_, rfl, .inl <| bw_no (by simp) (sw1 (by simp)) (by
      have : pow2 (pow2 1).toNat = 4 := by decide
      simp [bf4, this])⟩
  · exact ⟨_, rfl, .inr rfl⟩
  · exact ⟨_, rfl, .inl <| bw_no (by rw [rep_flat]; simp) (rp 4 _) (by
      have : pow2 (pow2 4).toNat = 65536 := by decide
      rw [rep_flat]
      simp [bf4, this])⟩
abbrev S__law_strange (F : Fn') : Prop := ∀ (i : Int) (bs : List Bk) (q : Int) (st : List (Option D)), 0 ≤ i → 0 ≤ q → bs.length ≤ 1000 → ∃ d, (BW i ((bs.length : Int) + 1) d false ∨ d = bkD true ⟨[sc "block" bs.length], 0, 0, 0⟩) ∧ F [.int q, .int i, .lst (bs.map (bkD true))] st = .ok (.im d) st
theorem k__law_strange {X : Env} : S__law_strange (callF X f__law_strange) := by
  intro i bs q st hi hq hl
  obtain ⟨far, f0, f1⟩ := far3 (i := q / 50 % 3) (by omega) (by omega)
  obtain ⟨d, d0, d1⟩ := strange_bw (i := i) (m := (bs.length : Int) + 1) (far := far) hi (by omega) f0 (k := q % 18) (by omega) (by omega)
  refine ⟨d, d1.elim .inl fun h => .inr (by rw [h]; simp), ?_⟩
  simp only [callF, f__law_strange, c__law_strange]
  have hp : opB .pow (.int 10) (.int 20) = some (.im (.int (10 ^ 20))) := rfl
  have h5 : ∀ d : D, opB .mul (.lst [d]) (.int 5) = some (.own (.lst (List.replicate 5 [d]).flatten)) := fun d => by
    rw [oB_mulL (by omega) (by omega) (by simp)]
    rfl
  have h4 : ∀ d : D, opB .mul (.lst [d]) (.int 4) = some (.own (.lst (List.replicate 4 [d]).flatten)) := fun d => by
    rw [oB_mulL (by omega) (by omega) (by simp)]
    rfl
  simp [strangeL] at d0
  simp (maxSteps := 2000000) (disch := first | omega | decide +kernel) [hp, f1, h5, h4, d0]
def ring2 (m : Int) : List Bk := [⟨[sc "block" (m + 1)], 2, 0, 0⟩, ⟨[sc "block" m], 2, 0, 0⟩]
abbrev S__law_ring (F : Fn') : Prop := ∀ (bs : List Bk) (st : List (Option D)), bs.length ≤ 1000 → F [.lst (bs.map (bkD true))] st = .ok (.own (.lst ((bs ++ ring2 bs.length).map (bkD true)))) st
theorem k__law_ring {X : Env} : S__law_ring (callF X f__law_ring) := by
  intro bs st hl
  have hz : bs.length + 2 ≤ sizeLine := by rw [PySem.sizeLine_eq]; omega
  simp only [callF, f__law_ring, c__law_ring]
  simp (disch := omega) [hz, ring2, bkD, scD]
theorem ring2_v {i : Int} {bs : List Bk} {os : List Sc} (h : PackV i bs os) (hl : bs.length ≤ 900) : PackV i (bs ++ ring2 bs.length) os where
  ins := h.ins
  bl := by simp [ring2]; omega
  ol := h.ol
  bv := fun b mb => by
    have e : ((bs ++ ring2 bs.length).length : Int) = bs.length + 2 := by simp [ring2]
    rw [e]
    have p : pow2 (pow2 1).toNat = 4 := by decide
    rcases List.mem_append.mp mb with mb | mb
    · exact (h.bv b mb).up (by omega)
    · simp [ring2] at mb
      rcases mb with rfl | rfl
      · exact ⟨fun s ms => by rw [List.mem_singleton.mp ms]; exact .inr ⟨rfl, by dsimp only; omega, by dsimp only; omega⟩, by simp, by simp [p], .inl rfl, by simp⟩
      · exact ⟨fun s ms => by rw [List.mem_singleton.mp ms]; exact .inr ⟨rfl, by dsimp only; omega, by dsimp only; omega⟩, by simp, by simp [p], .inl rfl, by simp⟩
  ov := fun s ms => (h.ov s ms).up (by simp [ring2]; omega)
theorem fdB_at {bs : List Bk} {j : Nat} {b : Bk} (e : bs[j]? = some b) : gI (bs.map fdB) (j : Int) = fdB b := gI_natP (by rw [List.getElem?_map, e]; rfl)
theorem ring2_stuck {bs : List Bk} : Stuck ((bs ++ ring2 bs.length).map fdB) (atB (bs ++ ring2 bs.length)) := by
  have e0 : (bs ++ ring2 bs.length)[bs.length]? = some ⟨[sc "block" ((bs.length : Int) + 1)], 2, 0, 0⟩ := by simp [ring2]
  have e1 : (bs ++ ring2 bs.length)[bs.length + 1]? = some ⟨[sc "block" bs.length], 2, 0, 0⟩ := by simp [ring2]
  have l : (bs ++ ring2 bs.length).length = bs.length + 2 := by simp [ring2]
  refine ⟨[(bs.length : Int), (bs.length : Int) + 1], by simp, fun t mt => ?_, fun t mt => ?_⟩
  · simp at mt
    rcases mt with rfl | rfl
    · exact atN_mem.mpr ⟨by omega, by rw [gI_natP e0]⟩
    · exact atN_mem.mpr ⟨by omega, by rw [show (bs.length : Int) + 1 = ((bs.length + 1 : Nat) : Int) from by omega, gI_natP e1]⟩
  · simp at mt
    rcases mt with rfl | rfl
    · refine ⟨(bs.length : Int) + 1, ?_, by simp⟩
      rw [fdB_at e0]
      simp [fdB]
    · refine ⟨(bs.length : Int), ?_, by simp⟩
      rw [show (bs.length : Int) + 1 = ((bs.length + 1 : Nat) : Int) from by omega, fdB_at e1]
      simp [fdB]
theorem kept_free {bs : List Bk} (h : ∀ b ∈ bs, b.kept = 1) : ¬ Stuck (bs.map fdB) (atB bs) := fun ⟨S, s1, s2, _⟩ => by
  obtain ⟨t, mt⟩ := List.exists_mem_of_ne_nil S s1
  obtain ⟨⟨t0, t1⟩, t2⟩ := atN_mem.mp (s2 t mt)
  have := h _ (gI_mem t0 t1)
  omega
theorem self_stuck {bs : List Bk} : Stuck ((bs ++ [(⟨[sc "block" bs.length], 0, 0, 0⟩ : Bk)]).map fdB) (atB (bs ++ [(⟨[sc "block" bs.length], 0, 0, 0⟩ : Bk)])) := by
  have e0 : (bs ++ [(⟨[sc "block" bs.length], 0, 0, 0⟩ : Bk)])[bs.length]? = some ⟨[sc "block" bs.length], 0, 0, 0⟩ := by simp
  refine ⟨[(bs.length : Int)], by simp, fun t mt => ?_, fun t mt => ?_⟩
  · rw [List.mem_singleton.mp mt]
    exact atN_mem.mpr ⟨by simp; omega, by rw [gI_natP e0]⟩
  · rw [List.mem_singleton.mp mt]
    refine ⟨(bs.length : Int), ?_, by simp⟩
    rw [fdB_at e0]
    simp [fdB]
theorem self_v {i : Int} {bs : List Bk} {os : List Sc} (h : PackV i bs os) (hl : bs.length ≤ 900) : PackV i (bs ++ [(⟨[sc "block" bs.length], 0, 0, 0⟩ : Bk)]) os where
  ins := h.ins
  bl := by simp; omega
  ol := h.ol
  bv := fun b mb => by
    have e : ((bs ++ [(⟨[sc "block" bs.length], 0, 0, 0⟩ : Bk)]).length : Int) = bs.length + 1 := by simp
    rw [e]
    have p : pow2 (pow2 1).toNat = 4 := by decide
    rcases List.mem_append.mp mb with mb | mb
    · exact (h.bv b mb).up (by omega)
    · rw [List.mem_singleton.mp mb]
      exact ⟨fun s ms => by rw [List.mem_singleton.mp ms]; exact .inr ⟨rfl, by dsimp only; omega, by dsimp only; omega⟩, by simp, by simp [p], .inl rfl, by simp⟩
  ov := fun s ms => (h.ov s ms).up (by simp; omega)
theorem strange_er {i : Int} {bs : List Bk} {os : List Sc} {d : D} (h : PackV i bs os) (hl : bs.length ≤ 900) (hd : BW i ((bs.length : Int) + 1) d false ∨ d = bkD true ⟨[sc "block" bs.length], 0, 0, 0⟩) : PackE i (.lst (bs.map (bkD true) ++ [d])) (.lst (os.map scD)) := by
  rcases hd with hd | rfl
  · exact .block h.ins h.bl (fun b mb => (h.bv b mb).up (by omega)) hd
  · have := PackE.ring (l := true) (bd := .lst ((bs ++ [(⟨[sc "block" bs.length], 0, 0, 0⟩ : Bk)]).map (bkD true))) (od := .lst (os.map scD)) (self_v h hl) .l .l self_stuck
    simpa using this
theorem wrong5 {i m k : Int} (hi : 0 ≤ i) (hm : 0 ≤ m) (h0 : 0 ≤ k) (h1 : k < 5) : ∃ d, atD [.tup [.str "in", .int i], .tup [.str "block", .int m], .tup [.str "in", .int (-1)], .tup [.str "table", .int 0], .tup [.str "in"]] k = some d ∧ SW d ∧ sfB i m d = false := by
  have nb : ¬ (("block" : Str) = "in") := by decide +kernel
  have no : ¬ (("table" : Str) = "in") := by decide +kernel
  have no2 : ¬ (("table" : Str) = "block") := by decide +kernel
  have ot : PySem.PyData.strOk ("table" : Str) = true := by decide +kernel
  have : k = 0 ∨ k = 1 ∨ k = 2 ∨ k = 3 ∨ k = 4 := by omega
  rcases this with rfl | rfl | rfl | rfl | rfl
  · exact ⟨_, rfl, .two (by simp), by simp [sfB]⟩
  · exact ⟨_, rfl, .two (by simp), by simp [sfB, nb]⟩
  · exact ⟨_, rfl, .two (by simp), by simp [sfB]⟩
  · exact ⟨_, rfl, .two ot, by simp [sfB, no, no2]⟩
  · exact ⟨_, rfl, .one, rfl⟩
theorem wrong_er {i : Int} {bs : List Bk} {os : List Sc} {d : D} (h : PackV i bs os) (hl : os.length ≤ 900) (h1 : SW d) (h2 : sfB i bs.length d = false) : PackE i (.lst (bs.map (bkD true))) (.lst (os.map scD ++ [d])) := by
  refine .outs h.ins h.bl h.bv .l .l (fun x mx => ?_) (by simp; omega) (by simp [h2])
  rcases List.mem_append.mp mx with mx | mx
  · exact scs_sw h.ov x mx
  · rw [List.mem_singleton.mp mx]
    exact h1
end KS
end PB

namespace PB
namespace KS
abbrev LawOk (ns : List Int) (F : List D → List (Option D) → RC) : Prop := ∃ st, F [.scr (ns.map .int)] [] = .ok (.im (.bl true)) st
end KS
end PB

set_option Elab.async false
set_option linter.all false
set_option autoImplicit false
set_option maxRecDepth 1000000
set_option maxHeartbeats 4000000
namespace PB
open PySem (Str sizeLine)
namespace KS
def clB (b : Bk) : Option D := some (.lst (b.src.map scD))
/-- blocks whose lists stand in cells -/
def giv : Nat → List Bk → List D
  | _, [] => []
  | L, b :: bs => .tup [.cell L, .int b.bits, .int b.kept, .int b.first] :: giv (L + 1) bs
theorem giv_loop {X : Env} {n : Int} {sc0 i bl ou m : D} : ∀ (bs : List Bk) (r : List (Option D)) (acc : List D) (y : Sl), acc.length + bs.length ≤ 1000 → (∀ b ∈ bs, b.src.length ≤ 4) →
    ∃ y', lcLoop (lcStep X (.bin .add (.tup (.cons (.nwc (.bi .list (.cons (.sub (.var 7) (.cst (.int 0))) .nil))) .nil)) (.sli (.var 7) (.cst (.int 1)) .nop)) (.nm 7) .nil [7]) (bs.map (bkD true)) acc ⟨[.im (sc0), .im (.cell 0), .im (m), .im (i), .no, .no, .no, y, .no, .no, .no, .no, .no, .im (bl), .im (ou), .no, .no, .no, .no, .no], cN n :: r⟩ = .ok (acc ++ giv (r.length + 1) bs) ⟨[.im (sc0), .im (.cell 0), .im (m), .im (i), .no, .no, .no, y', .no, .no, .no, .no, .no, .im (bl), .im (ou), .no, .no, .no, .no, .no], cN n :: (r ++ bs.map clB)⟩
  | [], r, acc, y, _, _ => ⟨y, by simp [giv]⟩
  | b :: bs, r, acc, y, hl, hb => by
    rw [List.length_cons] at hl
    have h4 := hb b (by simp)
    obtain ⟨y', e⟩ := giv_loop (X := X) (n := n) (sc0 := sc0) (i := i) (bl := bl) (ou := ou) (m := m) bs (r ++ [clB b]) (acc ++ [.tup [.cell (r.length + 1), .int b.bits, .int b.kept, .int b.first]]) (.im (bkD true b)) (by simp; omega) (fun q m => hb q (List.mem_cons_of_mem _ m))
    refine ⟨y', ?_⟩
    have es : (lcStep X (.bin .add (.tup (.cons (.nwc (.bi .list (.cons (.sub (.var 7) (.cst (.int 0))) .nil))) .nil)) (.sli (.var 7) (.cst (.int 1)) .nop)) (.nm 7) .nil [7]) (bkD true b) ⟨[.im (sc0), .im (.cell 0), .im (m), .im (i), .no, .no, .no, y, .no, .no, .no, .no, .no, .im (bl), .im (ou), .no, .no, .no, .no, .no], cN n :: r⟩ = .ok (some (.tup [.cell (r.length + 1), .int b.bits, .int b.kept, .int b.first])) ⟨[.im (sc0), .im (.cell 0), .im (m), .im (i), .no, .no, .no, .im (bkD true b), .no, .no, .no, .no, .no, .im (bl), .im (ou), .no, .no, .no, .no, .no], cN n :: (r ++ [clB b])⟩ := by
      have e3 := bkD_dr (l := true) (b := b)
      have e4 : sliD (bkD true b) (some 1) none = some (.im (.tup [.int b.bits, .int b.kept, .int b.first])) := by simp [bkD]
      have e5 := bkD_0 (l := true) (b := b)
      simp only [if_true] at e5
      simp (disch := first | omega | decide +kernel) [fr_lcs, e3, e4, e5, clB]
    have hz : acc.length < sizeLine := by rw [PySem.sizeLine_eq]; omega
    rw [List.map_cons, lcl_cons, es]
    simp only [bind_ok, if_pos hz]
    rw [e]
    simp [giv]
theorem deep_giv {m : Nat} {st : List (Option D)} : ∀ {bs : List Bk} {L : Nat}, (∀ b ∈ bs, b.src.length ≤ 1000 ∧ ∀ s ∈ b.src, PySem.PyData.strOk s.1 = true) → (∀ (k : Nat) b, bs[k]? = some b → st[L + k]? = some (clB b)) → mapO (deepD (m + 6) st) (giv L bs) = some (bs.map (bkD true))
  | [], _, _, _ => rfl
  | b :: bs, L, hb, h => by
    have h0 := h 0 b rfl
    obtain ⟨h1, h2⟩ := hb b (by simp)
    have ih := deep_giv (m := m) (st := st) (bs := bs) (L := L + 1) (fun q mq => hb q (List.mem_cons_of_mem _ mq)) (fun k q e => by
      rw [show L + 1 + k = L + (k + 1) from by omega]
      exact h (k + 1) q e)
    have hd : deepD (m + 4) st (.lst (b.src.map scD)) = some (.lst (b.src.map scD)) := deep_gd (n := 3) st (gd_list (by omega) fun s ms => gd_sc (h2 s ms)) (by omega)
    rw [Nat.add_zero] at h0
    show mapO (deepD (m + 6) st) (.tup [.cell L, .int b.bits, .int b.kept, .int b.first] :: giv (L + 1) bs) = _
    rw [mapO_cons, ih]
    simp only [deep_tup, mapO_cons, deep_cell, h0, clB, dpC_s, hd, deep_int, mapO_nil, mapO2_s, mapO3_s, dpT_s]
    simp [bkD]
theorem app_loop {X : Env} {sl : Sl → S} : ∀ (bs : List Bk) (L : Nat) (st : List (Option D)) (a0 a1 a2 a3 a4 a5 a6 a8 a9 a10 a11 a12 a13 a14 a15 a16 a17 a18 a19 : Sl), (∀ b ∈ bs, b.src.length ≤ 4) → (∀ (k : Nat) b, bs[k]? = some b → st[L + k]? = some (clB b)) →
    ∃ st', loop (forStep X (.nm 7) c__law_round_b0) (giv L bs) ⟨[a0, a1, a2, a3, a4, a5, a6, .no, a8, a9, a10, a11, a12, a13, a14, a15, a16, a17, a18, a19], st⟩ = .ok .nx ⟨[a0, a1, a2, a3, a4, a5, a6, .no, a8, a9, a10, a11, a12, a13, a14, a15, a16, a17, a18, a19], st'⟩ ∧ st'.length = st.length ∧ ∀ k, (k < L ∨ L + bs.length ≤ k) → st'[k]? = st[k]?
  | [], L, st, _, _, _, _, _, _, _, _, _, _, _, _, _, _, _, _, _, _, _, _, _ => ⟨st, rfl, rfl, fun _ _ => rfl⟩
  | b :: bs, L, st, a0, a1, a2, a3, a4, a5, a6, a8, a9, a10, a11, a12, a13, a14, a15, a16, a17, a18, a19, hb, h => by
    have h0 := h 0 b rfl
    rw [Nat.add_zero] at h0
    have h4 := hb b (by simp)
    have hz : b.src.length < sizeLine := by rw [PySem.sizeLine_eq]; omega
    obtain ⟨st', e, p1, p2⟩ := app_loop (X := X) (sl := sl) bs (L + 1) (st.set L (some (.lst (b.src.map scD ++ [.tup [.str "in", .int 99]])))) a0 a1 a2 a3 a4 a5 a6 a8 a9 a10 a11 a12 a13 a14 a15 a16 a17 a18 a19 (fun q m => hb q (List.mem_cons_of_mem _ m)) (fun k q eq => by
      rw [List.getElem?_set_ne (by omega)]
      have := h (k + 1) q eq
      rwa [show L + (k + 1) = L + 1 + k from by omega] at this)
    refine ⟨st', ?_, by simpa using p1, fun k hk => ?_⟩
    · have es : (forStep X (.nm 7) c__law_round_b0) (.tup [.cell L, .int b.bits, .int b.kept, .int b.first]) ⟨[a0, a1, a2, a3, a4, a5, a6, .no, a8, a9, a10, a11, a12, a13, a14, a15, a16, a17, a18, a19], st⟩ = .ok .nx ⟨[a0, a1, a2, a3, a4, a5, a6, .no, a8, a9, a10, a11, a12, a13, a14, a15, a16, a17, a18, a19], st.set L (some (.lst (b.src.map scD ++ [.tup [.str "in", .int 99]])))⟩ := by
        simp (disch := first | omega | decide +kernel) [fr_step, c__law_round_b0, h0, hz, clB]
      show loop _ (.tup [.cell L, .int b.bits, .int b.kept, .int b.first] :: giv (L + 1) bs) _ = _
      rw [lp_cons, es, fLp_nx]
      exact e
    · rw [p2 k (by simp at hk; omega), List.getElem?_set_ne (by simp at hk; omega)]
theorem lf_scs {n : Nat} {ss : List Sc} : lfD (n + 3) (.tup (ss.map scD)) = true := by simp [scD]
theorem lf_pack {i : Int} {bs : List Bk} {os : List Sc} : ([(("ins" : Str), D.int i), ("blocks", .tup (bs.map (bkD false))), ("outs", .tup (os.map scD))].all fun p => lfD 8 p.2) = true := by
  have h1 : lfD 8 (.tup (os.map scD)) = true := lf_scs
  have h2 : lfD 8 (.tup (bs.map (bkD false))) = true := by
    have : ∀ b : Bk, lfD 7 (bkD false b) = true := fun b => by
      have := lf_scs (n := 3) (ss := b.src)
      simp [bkD, this]
    simp [this]
  simp [h1, h2]
theorem gd_bkT {i m : Int} {b : Bk} (h : BkV i m b) : gd 4 (bkD true b) = true := by
  have : gd 3 (.lst (b.src.map scD)) = true := gd_list (by have := h.len; omega) fun s ms => gd_sc (h.src s ms).ok
  simp [bkD, this]
theorem gd_bksT {i m : Int} {bs : List Bk} (hl : bs.length ≤ 1000) (h : ∀ b ∈ bs, BkV i m b) : gd 5 (.lst (bs.map (bkD true))) = true := gd_list (by omega) fun s ms => gd_bkT (h s ms)
theorem gd_scsL {i m : Int} {ss : List Sc} (hl : ss.length ≤ 1000) (h : ∀ s ∈ ss, ScV i m s) : gd 3 (.lst (ss.map scD)) = true := gd_list (by omega) fun s ms => gd_sc (h s ms).ok
abbrev S__law_round (ns : List Int) (F : Fn') : Prop := ∀ (n : Int) (r : List (Option D)), 0 ≤ n → n ≤ 100000 → ∃ (n' : Int) (r' : List (Option D)), n ≤ n' ∧ n' ≤ n + 3000 ∧ F [.scr (ns.map .int), .cell 0] (cN n :: r) = .ok (.im (.bl true)) (cN n' :: r')
theorem k__law_round {X : Env} {ns : List Int} (hn : S_next ns (X.fn 1)) (hl : S__law_pack_lists ns (X.fn 407)) (hp : S_Pack (X.nw 26 404)) (hr : S__law_right (X.fn 409)) (hs : S__law_strange (X.fn 411)) (hu : S__law_refused_410 (X.fn 410)) (hg : S__law_ring (X.fn 412)) (n1 : X.na 26 "ins" = true) (n2 : X.na 26 "blocks" = true) (n3 : X.na 26 "outs" = true) : S__law_round ns (callF X f__law_round) := by
  intro n r h0 h1
  have e1 := hn n r (by omega) (by omega)
  obtain ⟨m0, m1⟩ := nx_rng ns n
  generalize nx ns n = m at *
  obtain ⟨bs, os, n1', p1, p2, p3, p4, p5, p6, e2⟩ := hl (n + 1) r (m % 5) (m / 5 % 9) (m / 45 % 5) (by omega) (by omega) (by omega) (by omega) (by omega) (by omega) (by omega) (by omega)
  have b4 : ∀ b ∈ bs, b.src.length ≤ 4 := fun b mb => (p1.bv b mb).len
  have bl : bs.length ≤ 8 := by omega
  have ol : os.length ≤ 4 := by omega
  obtain ⟨y, e3⟩ := giv_loop (X := X) (n := n1') (sc0 := .scr (ns.map .int)) (i := .int (m % 5)) (bl := .lst (bs.map (bkD true))) (ou := .lst (os.map scD)) (m := .int m) bs r [] .no (by simp; omega) b4
  obtain ⟨L2, hL2⟩ : ∃ L2, L2 = r.length + 1 + bs.length := ⟨_, rfl⟩
  obtain ⟨st1, hst1⟩ : ∃ st1, st1 = cN n1' :: (r ++ bs.map clB ++ [some (.lst (os.map scD))]) := ⟨_, rfl⟩
  have cel : ∀ (k : Nat) b, bs[k]? = some b → st1[r.length + 1 + k]? = some (clB b) := fun k b eb => by
    have hk := (List.getElem?_eq_some_iff.mp eb).1
    rw [hst1, show r.length + 1 + k = (r.length + k) + 1 from by omega, List.getElem?_cons_succ, List.append_assoc, List.getElem?_append_right (by omega), List.getElem?_append_left (by simp; omega), List.getElem?_map, show r.length + k - r.length = k from by omega, eb]
    rfl
  have ce2 : st1[L2]? = some (some (.lst (os.map scD))) := by
    rw [hst1, hL2, show r.length + 1 + bs.length = (r.length + bs.length) + 1 from by omega, List.getElem?_cons_succ, List.getElem?_append_right (by simp)]
    simp
  have len1 : (cN n1' :: (r ++ bs.map clB)).length = L2 := by simp [hL2]; omega
  have dg := deep_giv (m := 1) (st := st1) (bs := bs) (L := r.length + 1) (fun b mb => ⟨by have := b4 b mb; omega, fun s ms => ((p1.bv b mb).src s ms).ok⟩) cel
  have do_ : ∀ st, deepD 8 st (.lst (os.map scD)) = some (.lst (os.map scD)) := fun st => deep_gd st (gd_scsL p1.ol p1.ov) (by omega)
  have pk := fun st => hp (m % 5) bs os true (.lst (bs.map (bkD true))) (.lst (os.map scD)) st p1 p2 .l .l
  have pkT := fun st => hp (m % 5) bs os true (.tup (bs.map (bkD true))) (.lst (os.map scD)) st p1 p2 .t .l
  have lfb : ∀ b : Bk, lfD 7 (bkD false b) = true := fun b => by
    have := lf_scs (n := 3) (ss := b.src)
    simp [bkD, this]
  have lfs : ∀ s : Sc, lfD 7 (scD s) = true := fun s => by simp [scD]
  obtain ⟨st2, e4, q1, q2⟩ := app_loop (X := X) (sl := fun _ => ⟨[], []⟩) bs (r.length + 1) st1 (.im (.scr (ns.map .int))) (.im (.cell 0)) .no (.im (.int (m % 5))) (.im (.lst (giv (r.length + 1) bs))) (.im (.cell L2)) (.own (packD (m % 5) bs os)) .no .no .no .no .no (.im (.lst (bs.map (bkD true)))) (.im (.lst (os.map scD))) .no .no .no .no .no b4 cel
  have c2 : st2[L2]? = some (some (.lst (os.map scD))) := by rw [q2 L2 (by omega)]; exact ce2
  obtain ⟨r2, hr2⟩ : ∃ r2, st2.set L2 (some (.lst (os.map scD ++ [.non]))) = cN n1' :: r2 := by
    have z := q2 0 (by omega)
    rw [hst1] at z
    cases st2 with
    | nil => simp at z
    | cons x xs =>
      simp at z
      subst z
      obtain ⟨k, hk⟩ : ∃ k, L2 = k + 1 := ⟨r.length + bs.length, by omega⟩
      subst hk
      exact ⟨_, rfl⟩
  have dgB : ∀ st, deepD 8 st (.tup (bs.map (bkD false))) = some (.tup (bs.map (bkD false))) := fun st => deep_gd st (gd_bks p1.bl p1.bv) (by omega)
  have dgO : ∀ st, deepD 8 st (.tup (os.map scD)) = some (.tup (os.map scD)) := fun st => deep_gd st (gd_scs p1.ol p1.ov) (by omega)
  have pkA := fun st => hp (m % 5) bs os false (.tup (bs.map (bkD false))) (.tup (os.map scD)) st p1 p2 .t .t
  have rt := fun st => hr (m % 5) bs os st p1
  have hi0 : 0 ≤ m % 5 := by omega
  obtain ⟨n2', e5, g1, g2⟩ := fr_rng (lo := 0) (n := 4) (step := (forStep X (.nm 9) c__law_round_b1)) (fun n' : Int => ⟨[.im (.scr (ns.map .int)), .im (.cell 0), .no, .im (.int (m % 5)), .no, .no, .im (packD (m % 5) bs os), .no, .no, .no, .no, .no, .no, .im (.lst (bs.map (bkD true))), .im (.lst (os.map scD)), .no, .no, .no, .no, .no], cN n' :: r2⟩)
    (fun j n' => n1' ≤ n' ∧ n' ≤ n1' + j) n1' ⟨by omega, by omega⟩ (fun j n' hj hx => by
      have en := hn n' r2 (by omega) (by omega)
      obtain ⟨u0, u1⟩ := nx_rng ns n'
      generalize nx ns n' = u at *
      obtain ⟨d, d1, d2⟩ := hs (m % 5) bs u (cN (n' + 1) :: r2) hi0 u0 (by omega)
      have er := hu _ _ _ (cN (n' + 1) :: r2) (strange_er p1 (by omega) d1)
      have hz : bs.length + 1 ≤ sizeLine := by rw [PySem.sizeLine_eq]; omega
      have ddr : ∀ st, deref st d = some d := by
        rcases d1 with d1 | rfl
        · exact d1.dr
        · exact fun _ => rfl
      refine ⟨n' + 1, .inl ?_, by omega, by omega⟩
      simp (disch := omega) [fr_step, c__law_round_b1, en, d2, hz, er, ddr])
  have e6 := hn n2' r2 (by omega) (by omega)
  obtain ⟨w0, w1⟩ := nx_rng ns n2'
  generalize nx ns n2' = w at *
  obtain ⟨d, d0, d1, d2⟩ := wrong5 (i := m % 5) (m := bs.length) (k := w % 5) hi0 (by omega) (by omega) (by omega)
  have ddr := d1.dr
  have er1 := hu _ _ _ (cN (n2' + 1) :: r2) (wrong_er p1 (by omega) d1 d2)
  have er2 := hu (-1 - w % 7) (.lst []) (.lst []) (cN (n2' + 1) :: r2) (.neg (by omega))
  have er3 := hu _ _ _ (cN (n2' + 1) :: r2) (.ring (l := true) (ring2_v p1 (by omega)) .l .l ring2_stuck)
  have eg := hg bs (cN (n2' + 1) :: r2) (by omega)
  obtain ⟨bs', hbs'⟩ : ∃ bs', bs' = (bs ++ ring2 bs.length).map fun b => (⟨b.src, b.bits, 1, 0⟩ : Bk) := ⟨_, rfl⟩
  have pv' : PackV (m % 5) bs' os := by
    have z := ring2_v p1 (by omega)
    have hlen : bs'.length = (bs ++ ring2 bs.length).length := by rw [hbs']; simp
    exact ⟨z.ins, by rw [hlen]; exact z.bl, z.ol, fun b mb => by
      rw [hbs'] at mb
      obtain ⟨q, mq, rfl⟩ := List.mem_map.mp mb
      rw [hlen]
      have := z.bv q mq
      exact ⟨this.src, this.len, this.bits, .inr rfl, by simp⟩, fun s ms => by rw [hlen]; exact z.ov s ms⟩
  have fr' : ¬ Stuck (bs'.map fdB) (atB bs') := kept_free fun b mb => by
    rw [hbs'] at mb
    obtain ⟨q, mq, rfl⟩ := List.mem_map.mp mb
    rfl
  have eR : fLc3 [16, 17, 18, 19] (lcLoop (lcStep X (.tup (.cons (.var 16) (.cons (.var 17) (.cons (.cst (.int 1)) (.cons (.cst (.int 0)) .nil))))) (.tc (.nm 16) (.tc (.nm 17) (.tc (.nm 18) (.tc (.nm 19) .tn)))) .nil [16, 17, 18, 19]) ((bs ++ ring2 bs.length).map (bkD true)) [] ⟨[.im (.scr (ns.map .int)), .im (.cell 0), .no, .im (.int (m % 5)), .no, .no, .im (packD (m % 5) bs os), .no, .no, .no, .im (.int w), .im (d), .no, .im (.lst (bs.map (bkD true))), .im (.lst (os.map scD)), .no, .no, .no, .no, .no], cN (n2' + 1) :: r2⟩) = .ok (.own (.lst (bs'.map (bkD true)))) ⟨[.im (.scr (ns.map .int)), .im (.cell 0), .no, .im (.int (m % 5)), .no, .no, .im (packD (m % 5) bs os), .no, .no, .no, .im (.int w), .im (d), .no, .im (.lst (bs.map (bkD true))), .im (.lst (os.map scD)), .no, .no, .no, .no, .no], cN (n2' + 1) :: r2⟩ := by
    rw [hbs', List.map_map]
    refine lc_eqm (by simp [ring2]; omega) (fun a ma => rfl) (fun b mb => ?_)
    simp (disch := first | omega | decide +kernel) [bkD]
  have dgR : ∀ st, deepD 8 st (.lst (bs'.map (bkD true))) = some (.lst (bs'.map (bkD true))) := fun st => deep_gd st (gd_bksT pv'.bl pv'.bv) (by omega)
  have pkR := fun st => hp (m % 5) bs' os true (.lst (bs'.map (bkD true))) (.lst (os.map scD)) st pv' fr' .l .l
  have rtR := fun st => hr (m % 5) bs' os st pv'
  refine ⟨n2' + 1, r2, by omega, by omega, ?_⟩
  have hstk : cN n1' :: (r ++ (bs.map clB ++ [some (.lst (os.map scD))])) = st1 := by rw [hst1, List.append_assoc]
  have hLk : r.length + bs.length + 1 = L2 := by omega
  have hz1 : os.length < sizeLine := by rw [PySem.sizeLine_eq]; omega
  have hz2 : os.length + 1 ≤ sizeLine := by rw [PySem.sizeLine_eq]; omega
  simp only [packD] at pk pkT pkA pkR rt rtR e4 e5 eR
  simp only [List.nil_append] at e3
  simp only [List.map_append, List.map_cons, List.map_nil] at eR er3
  simp only [callF, f__law_round, c__law_round]
  have c225 : m / 225 % 2 = 0 ∨ m / 225 % 2 = 1 := by omega
  rcases c225 with c225 | c225
  · simp (maxSteps := 2000000) (disch := first | omega | decide +kernel) [e1, e2, e3, hstk, hLk, c225, ce2, dg, do_, pk, pkT, lfb, lfs, e4, c2, hz1, hr2, n1, n2, n3, dgB, dgO, pkA, rt, e5, e6, d0, er1, er2, er3, eg, hz2, eR, dgR, pkR, rtR]
  · simp (maxSteps := 2000000) (disch := first | omega | decide +kernel) [e1, e2, e3, hstk, hLk, c225, ce2, dg, do_, pk, pkT, lfb, lfs, e4, c2, hz1, hr2, n1, n2, n3, dgB, dgO, pkA, rt, e5, e6, d0, er1, er2, er3, eg, hz2, eR, dgR, pkR, rtR]
theorem k_law_414 {X : Env} {ns : List Int} (hl : ns.length ≤ 63) (hr : S__law_round ns (X.fn 413)) : LawOk ns (callF X f_law_414) := by
  have e0 : cutD (ns.map D.int) none (some 60) = (ns.take 60).map .int := by
    rw [cut_map]
    by_cases h : ns.length ≤ 60
    · rw [cut_all (by omega), List.take_of_length_le h]
    · exact congrArg _ (cut_take (n := 60) (by omega))
  obtain ⟨k, hk⟩ := Int.eq_ofNat_of_zero_le (show 0 ≤ 1 + ((ns.take 60).length : Int) / 40 by omega)
  have hk2 : k ≤ 3 := by
    simp at hk
    omega
  have ek : inR (k : Int) = true := in_R (by omega) (by omega)
  obtain ⟨⟨n', r'⟩, e, p1, p2⟩ := fr_rng (lo := 0) (n := k) (step := (forStep X (.nm 2) c_law_414_b0)) (fun x : Int × List (Option D) => ⟨[.im (.scr (ns.map .int)), .im (.cell 0), .no], cN x.1 :: x.2⟩)
    (fun j x => 0 ≤ x.1 ∧ x.1 ≤ 3000 * j) (0, []) ⟨by simp, by simp⟩ (fun j x hj hx => by
      obtain ⟨n', r'⟩ := x
      obtain ⟨p1, p2⟩ := hx
      dsimp only at p1 p2 ⊢
      obtain ⟨n2, r2, q1, q2, q3⟩ := hr n' r' (by omega) (by omega)
      refine ⟨(n2, r2), .inl ?_, by dsimp only; omega, by dsimp only; omega⟩
      simp (disch := omega) [fr_step, c_law_414_b0, q3])
  unfold LawOk
  refine ⟨cN n' :: r', ?_⟩
  simp only [callF, f_law_414, c_law_414]
  dsimp only at e
  rw [List.length_take] at hk
  simp (disch := omega) [e0, hk, ek, e]
end KS
end PB

set_option Elab.async false
set_option linter.all false
set_option autoImplicit false
set_option maxRecDepth 1000000
set_option maxHeartbeats 4000000
namespace PB
open PySem PySem.Spec PyProof.Rows L2
namespace K41
open KS
abbrev theRow : PySem.W.OpenLaw := PySem.Challenge.rw_bitfloor_k41_packs
def top (i : Nat) : Stmt := PySem.Challenge.pw_bitfloor_k41_packs.main.body.getD i (.Pass ⟨0, 0, 0, 0⟩)
def inCls (s : Stmt) (j : Nat) : Stmt := match s with
  | .ClassDef _ _ _ body _ _ _ _ _ _ _ => body.getD j (.Pass ⟨0, 0, 0, 0⟩)
  | _ => .Pass ⟨0, 0, 0, 0⟩
def z__law_next : Dn := ⟨1, ⟨("_law_next", none), "_law_next", "_law_next", defArgs (top 26), defBody (top 26), defScope (top 26), [], []⟩, f__law_next, ["_law_script", "_law_at", "_law_cell", "_law_m", "_law_figures", "_law_k"], ["_law_script", "_law_at"]⟩
theorem b__law_next : z__law_next.Bd := ⟨rfl, rfl, fun _ _ _ _ _ _ us hl => match us, hl with
  | [_, _], _ => rfl⟩
def z_power_of : Dn := ⟨61, ⟨("power_of", none), "power_of", "power_of", defArgs (top 16), defBody (top 16), defScope (top 16), [], []⟩, f_power_of, ["wide", "power", "place"], ["wide"]⟩
theorem b_power_of : z_power_of.Bd := ⟨rfl, rfl, fun _ _ _ _ _ _ us hl => match us, hl with
  | [_], _ => rfl⟩
def z__law_same_92 : Dn := ⟨92, ⟨("_law_same", none), "_law_same", "_law_same", defArgs (top 28), defBody (top 28), defScope (top 28), [], []⟩, f__law_same_92, ["_law_found", "_law_due", "_law_name", "_law_one", "_law_other"], ["_law_found", "_law_due"]⟩
theorem b__law_same_92 : z__law_same_92.Bd := ⟨rfl, rfl, fun _ _ _ _ _ _ us hl => match us, hl with
  | [_, _], _ => rfl⟩
def z_is_number : Dn := ⟨158, ⟨("is_number", none), "is_number", "is_number", defArgs (top 14), defBody (top 14), defScope (top 14), [], []⟩, f_is_number, ["thing", "many"], ["thing", "many"]⟩
theorem b_is_number : z_is_number.Bd := ⟨rfl, rfl, fun _ _ _ _ _ _ us hl => match us, hl with
  | [_, _], _ => rfl⟩
def z_source_fits : Dn := ⟨399, ⟨("source_fits", none), "source_fits", "source_fits", defArgs (top 19), defBody (top 19), defScope (top 19), [], []⟩, f_source_fits, ["source", "ins", "many"], ["source", "ins", "many"]⟩
theorem b_source_fits : z_source_fits.Bd := ⟨rfl, rfl, fun _ _ _ _ _ _ us hl => match us, hl with
  | [_, _, _], _ => rfl⟩
def z_sources_fit : Dn := ⟨400, ⟨("sources_fit", none), "sources_fit", "sources_fit", defArgs (top 20), defBody (top 20), defScope (top 20), [], []⟩, f_sources_fit, ["sources", "ins", "many", "source"], ["sources", "ins", "many"]⟩
theorem b_sources_fit : z_sources_fit.Bd := ⟨rfl, rfl, fun _ _ _ _ _ _ us hl => match us, hl with
  | [_, _, _], _ => rfl⟩
def z_block_fits : Dn := ⟨401, ⟨("block_fits", none), "block_fits", "block_fits", defArgs (top 21), defBody (top 21), defScope (top 21), [], []⟩, f_block_fits, ["block", "ins", "many", "sources", "bits", "kept", "first"], ["block", "ins", "many"]⟩
theorem b_block_fits : z_block_fits.Bd := ⟨rfl, rfl, fun _ _ _ _ _ _ us hl => match us, hl with
  | [_, _, _], _ => rfl⟩
def z_at_once_order : Dn := ⟨402, ⟨("at_once_order", none), "at_once_order", "at_once_order", defArgs (top 22), defBody (top 22), defScope (top 22), [], []⟩, f_at_once_order, ["feeds", "at_once", "order", "ready", "waiting", "left", "thing", "feed"], ["feeds", "at_once"]⟩
theorem b_at_once_order : z_at_once_order.Bd := ⟨rfl, rfl, fun _ _ _ _ _ _ us hl => match us, hl with
  | [_, _], _ => rfl⟩
def z_blocks_order : Dn := ⟨403, ⟨("blocks_order", none), "blocks_order", "blocks_order", defArgs (top 23), defBody (top 23), defScope (top 23), [], []⟩, f_blocks_order, ["blocks", "feeds", "at_once", "number", "block", "source"], ["blocks"]⟩
theorem b_blocks_order : z_blocks_order.Bd := ⟨rfl, rfl, fun _ _ _ _ _ _ us hl => match us, hl with
  | [_], _ => rfl⟩
def z_Pack_X_mk_init : Dn := ⟨404, ⟨("Pack", some "__init__"), "__init__", "Pack.__init__", defArgs (inCls (top 24) 0), defBody (inCls (top 24) 0), defScope (inCls (top 24) 0), [], []⟩, f_Pack_X_mk_init, ["self", "ins", "blocks", "outs", "block"], ["self", "ins", "blocks", "outs"]⟩
theorem b_Pack_X_mk_init : z_Pack_X_mk_init.Bd := ⟨rfl, rfl, fun _ _ _ _ _ _ us hl => match us, hl with
  | [_, _, _, _], _ => rfl⟩
def z__law_some_bits : Dn := ⟨405, ⟨("_law_some_bits", none), "_law_some_bits", "_law_some_bits", defArgs (top 27), defBody (top 27), defScope (top 27), [], []⟩, f__law_some_bits, ["_law_script", "_law_at", "_law_many", "_law_m", "_law_bits", "_law_k"], ["_law_script", "_law_at", "_law_many"]⟩
theorem b__law_some_bits : z__law_some_bits.Bd := ⟨rfl, rfl, fun _ _ _ _ _ _ us hl => match us, hl with
  | [_, _, _], _ => rfl⟩
def z__law_drawn_source : Dn := ⟨406, ⟨("_law_drawn_source", none), "_law_drawn_source", "_law_drawn_source", defArgs (top 29), defBody (top 29), defScope (top 29), [], []⟩, f__law_drawn_source, ["_law_script", "_law_at", "_law_ins", "_law_blocks", "_law_m", "_law_k"], ["_law_script", "_law_at", "_law_ins", "_law_blocks"]⟩
theorem b__law_drawn_source : z__law_drawn_source.Bd := ⟨rfl, rfl, fun _ _ _ _ _ _ us hl => match us, hl with
  | [_, _, _, _], _ => rfl⟩
def z__law_pack_lists : Dn := ⟨407, ⟨("_law_pack_lists", none), "_law_pack_lists", "_law_pack_lists", defArgs (top 30), defBody (top 30), defScope (top 30), [], []⟩, f__law_pack_lists, ["_law_script", "_law_at", "_law_ins", "_law_many", "_law_outs", "_law_row", "_law_k", "_law_kinds", "_law_blocks", "_law_ends", "_law_m", "_law_sources", "_law_j", "_law_bits", "_law_source", "_law_free"], ["_law_script", "_law_at", "_law_ins", "_law_many", "_law_outs"]⟩
theorem b__law_pack_lists : z__law_pack_lists.Bd := ⟨rfl, rfl, fun _ _ _ _ _ _ us hl => match us, hl with
  | [_, _, _, _, _], _ => rfl⟩
def z__law_only : Dn := ⟨408, ⟨("_law_only", none), "_law_only", "_law_only", defArgs (top 31), defBody (top 31), defScope (top 31), [], []⟩, f__law_only, ["_law_caught", "_law_kind", "_law_found", "_law_one"], ["_law_caught", "_law_kind"]⟩
theorem b__law_only : z__law_only.Bd := ⟨rfl, rfl, fun _ _ _ _ _ _ us hl => match us, hl with
  | [_, _], _ => rfl⟩
def z__law_right : Dn := ⟨409, ⟨("_law_right", none), "_law_right", "_law_right", defArgs (top 32), defBody (top 32), defScope (top 32), [], []⟩, f__law_right, ["_law_pack", "_law_ins", "_law_blocks", "_law_outs", "_law_due", "_law_sources", "_law_bits", "_law_kept", "_law_first"], ["_law_pack", "_law_ins", "_law_blocks", "_law_outs"]⟩
theorem b__law_right : z__law_right.Bd := ⟨rfl, rfl, fun _ _ _ _ _ _ us hl => match us, hl with
  | [_, _, _, _], _ => rfl⟩
def z__law_refused_410 : Dn := ⟨410, ⟨("_law_refused", none), "_law_refused", "_law_refused", defArgs (top 33), defBody (top 33), defScope (top 33), [], []⟩, f__law_refused_410, ["_law_ins", "_law_blocks", "_law_outs", "_law_caught", "e"], ["_law_ins", "_law_blocks", "_law_outs"]⟩
theorem b__law_refused_410 : z__law_refused_410.Bd := ⟨rfl, rfl, fun _ _ _ _ _ _ us hl => match us, hl with
  | [_, _, _], _ => rfl⟩
def z__law_strange : Dn := ⟨411, ⟨("_law_strange", none), "_law_strange", "_law_strange", defArgs (top 34), defBody (top 34), defScope (top 34), [], []⟩, f__law_strange, ["_law_m", "_law_ins", "_law_blocks", "_law_many", "_law_far", "_law_some"], ["_law_m", "_law_ins", "_law_blocks"]⟩
theorem b__law_strange : z__law_strange.Bd := ⟨rfl, rfl, fun _ _ _ _ _ _ us hl => match us, hl with
  | [_, _, _], _ => rfl⟩
def z__law_ring : Dn := ⟨412, ⟨("_law_ring", none), "_law_ring", "_law_ring", defArgs (top 35), defBody (top 35), defScope (top 35), [], []⟩, f__law_ring, ["_law_blocks", "_law_many"], ["_law_blocks"]⟩
theorem b__law_ring : z__law_ring.Bd := ⟨rfl, rfl, fun _ _ _ _ _ _ us hl => match us, hl with
  | [_], _ => rfl⟩
def z__law_round : Dn := ⟨413, ⟨("_law_round", none), "_law_round", "_law_round", defArgs (top 36), defBody (top 36), defScope (top 36), [], []⟩, f__law_round, ["_law_script", "_law_at", "_law_m", "_law_ins", "_law_given", "_law_ends", "_law_pack", "_law_block", "_law_again", "_law_k", "_law_n", "_law_wrong", "_law_rings", "_law_blocks", "_law_outs", "_law_strange_here", "_law_sources", "_law_bits", "_law_kept", "_law_first"], ["_law_script", "_law_at"]⟩
theorem b__law_round : z__law_round.Bd := ⟨rfl, rfl, fun _ _ _ _ _ _ us hl => match us, hl with
  | [_, _], _ => rfl⟩
def z_law_414 : Dn := ⟨414, ⟨("law", none), "law", "law", defArgs (top 37), defBody (top 37), defScope (top 37), [], []⟩, f_law_414, ["_law_script", "_law_at", "_law_k"], ["_law_script"]⟩
theorem b_law_414 : z_law_414.Bd := ⟨rfl, rfl, fun _ _ _ _ _ _ us hl => match us, hl with
  | [_], _ => rfl⟩
def tab : Tab := ⟨[(1, "_law_next", 2), (61, "power_of", 1), (92, "_law_same", 2), (158, "is_number", 2), (399, "source_fits", 3), (400, "sources_fit", 3), (401, "block_fits", 3), (402, "at_once_order", 2), (403, "blocks_order", 1), (405, "_law_some_bits", 3), (406, "_law_drawn_source", 4), (407, "_law_pack_lists", 5), (408, "_law_only", 2), (409, "_law_right", 4), (410, "_law_refused", 3), (411, "_law_strange", 3), (412, "_law_ring", 1), (413, "_law_round", 2)], [], [(26, 404, "Pack", 3)], [], [(14, "MOST_SOURCES")], ["ValueError", "all", "bool", "dict", "enumerate", "int", "isinstance", "len", "list", "range", "str", "tuple", "zip"], [(0, "FloorError"), (1, "NoText"), (4, "NoSense"), (5, "NoRow"), (6, "NoNet"), (7, "NoTables"), (8, "NoPack"), (9, "NoFloor"), (10, "OutOfFloor"), (11, "NoRoom"), (12, "NoWays"), (13, "NoBits"), (26, "Pack")], [(8, "NoPack")]⟩
def cn : Nat → Str
  | 0 => "FloorError"
  | 1 => "NoText"
  | 4 => "NoSense"
  | 5 => "NoRow"
  | 6 => "NoNet"
  | 7 => "NoTables"
  | 8 => "NoPack"
  | 9 => "NoFloor"
  | 10 => "OutOfFloor"
  | 11 => "NoRoom"
  | 12 => "NoWays"
  | 13 => "NoBits"
  | 26 => "Pack"
  | _ => ""
def glo : Nat → Option D
  | 14 => some (.int 4)
  | _ => none
def hd : Hd where
  ds := [z__law_next, z_power_of, z__law_same_92, z_is_number, z_source_fits, z_sources_fit, z_block_fits, z_at_once_order, z_blocks_order, z_Pack_X_mk_init, z__law_some_bits, z__law_drawn_source, z__law_pack_lists, z__law_only, z__law_right, z__law_refused_410, z__law_strange, z__law_ring, z__law_round, z_law_414]
  glos := ["FloorError", "NoBits", "NoFloor", "NoNet", "NoPack", "NoRoom", "NoRow", "NoSense", "NoTables", "NoText", "NoWays", "OutOfFloor", "Pack", "_law_drawn_source", "_law_next", "_law_only", "_law_pack_lists", "_law_refused", "_law_right", "_law_ring", "_law_round", "_law_same", "_law_some_bits", "_law_strange", "at_once_order", "block_fits", "blocks_order", "is_number", "law", "power_of", "source_fits", "sources_fit"]
  frees := ["ValueError", "all", "bool", "dict", "enumerate", "int", "isinstance", "len", "list", "range", "str", "tuple", "zip"]
  cInt := [("MOST_SOURCES", 4)]
  cStr := []
  clss := ["Pack"]
  noats := [("Pack", "blocks"), ("Pack", "ins"), ("Pack", "outs")]
  meths := []
  mkrs := ["Pack"]
  tDic := []
  tTup := []
  rzs := ["NoPack"]
  subs := ([(999998, "", 0, "FloorError", false), (999998, "", 1, "NoText", false), (999998, "", 4, "NoSense", false), (999998, "", 5, "NoRow", false), (999998, "", 6, "NoNet", false), (999998, "", 7, "NoTables", false), (999998, "", 8, "NoPack", false), (999998, "", 9, "NoFloor", false), (999998, "", 10, "OutOfFloor", false), (999998, "", 11, "NoRoom", false)] : List (Nat × Str × Nat × Str × Bool)) ++ ([(999998, "", 12, "NoWays", false), (999998, "", 13, "NoBits", false), (999998, "", 999999, "ValueError", false), (8, "NoPack", 0, "FloorError", true), (8, "NoPack", 1, "NoText", false), (8, "NoPack", 4, "NoSense", false), (8, "NoPack", 5, "NoRow", false), (8, "NoPack", 6, "NoNet", false), (8, "NoPack", 7, "NoTables", false), (8, "NoPack", 8, "NoPack", true)] : List (Nat × Str × Nat × Str × Bool)) ++ ([(8, "NoPack", 9, "NoFloor", false), (8, "NoPack", 10, "OutOfFloor", false), (8, "NoPack", 11, "NoRoom", false), (8, "NoPack", 12, "NoWays", false), (8, "NoPack", 13, "NoBits", false), (8, "NoPack", 999999, "ValueError", true), (2000026, "Pack", 26, "Pack", true)] : List (Nat × Str × Nat × Str × Bool))
theorem okT : hd.okT cn glo tab = true := by decide +kernel
theorem bds : ∀ z ∈ hd.ds, z.Bd := fun z m => by
  unfold hd at m
  simp only [List.mem_cons, List.not_mem_nil, or_false] at m
  rcases m with rfl | rfl | rfl | rfl | rfl | rfl | rfl | rfl | rfl | rfl | rfl | rfl | rfl | rfl | rfl | rfl | rfl | rfl | rfl | rfl
  · exact b__law_next
  · exact b_power_of
  · exact b__law_same_92
  · exact b_is_number
  · exact b_source_fits
  · exact b_sources_fit
  · exact b_block_fits
  · exact b_at_once_order
  · exact b_blocks_order
  · exact b_Pack_X_mk_init
  · exact b__law_some_bits
  · exact b__law_drawn_source
  · exact b__law_pack_lists
  · exact b__law_only
  · exact b__law_right
  · exact b__law_refused_410
  · exact b__law_strange
  · exact b__law_ring
  · exact b__law_round
  · exact b_law_414
theorem lawIn : z_law_414 ∈ hd.ds := by
  unfold hd
  simp only [List.mem_cons, true_or, or_true]
def loose0 : List Str := ["FloorError", "NoText", "NoSense", "NoRow", "NoNet", "NoTables", "NoPack", "NoFloor", "OutOfFloor", "NoRoom", "NoWays", "NoBits", "is_number", "power_of", "MOST_SOURCES", "source_fits", "sources_fit", "block_fits", "at_once_order", "blocks_order", "Pack", "_law_next", "_law_some_bits", "_law_same", "_law_drawn_source", "_law_pack_lists", "_law_only", "_law_right", "_law_refused", "_law_strange"]
def loose1 : List Str := ["_law_ring", "_law_round"]
abbrev loose : List Str := loose0 ++ loose1
abbrev theR : PySem.W.OpenRow := PySem.W.OpenLaw.row theRow
abbrev RunsAt (w : World) : Prop := HandSHeadRun.RunEq theR (PySem.W.view theR.prog [37]) (hkOf hd) (obOf hd) 4000 loose w
theorem runsF (w : World) : RunsAt (w.withFollow "special-get-raises" false) := by
  intro os
  kernel_rfl
theorem runsT (w : World) : RunsAt (w.withFollow "special-get-raises" true) := by
  intro os
  kernel_rfl
theorem runs (w : World) : RunsAt w := PySem.W.byRow2 "special-get-raises" (P := RunsAt) runsF runsT w
end K41
end PB

set_option Elab.async false
set_option linter.all false
set_option autoImplicit false
set_option maxRecDepth 1000000
set_option maxHeartbeats 4000000
namespace PB
open PySem (Str)
namespace K41
open KS
abbrev pg : Prog := hd.pg cn glo 1000000
theorem fn1 : pg.fns 1 = some f__law_next := by kernel_rfl
theorem fn61 : pg.fns 61 = some f_power_of := by kernel_rfl
theorem fn92 : pg.fns 92 = some f__law_same_92 := by kernel_rfl
theorem fn158 : pg.fns 158 = some f_is_number := by kernel_rfl
theorem fn399 : pg.fns 399 = some f_source_fits := by kernel_rfl
theorem fn400 : pg.fns 400 = some f_sources_fit := by kernel_rfl
theorem fn401 : pg.fns 401 = some f_block_fits := by kernel_rfl
theorem fn402 : pg.fns 402 = some f_at_once_order := by kernel_rfl
theorem fn403 : pg.fns 403 = some f_blocks_order := by kernel_rfl
theorem fn404 : pg.fns 404 = some f_Pack_X_mk_init := by kernel_rfl
theorem fn405 : pg.fns 405 = some f__law_some_bits := by kernel_rfl
theorem fn406 : pg.fns 406 = some f__law_drawn_source := by kernel_rfl
theorem fn407 : pg.fns 407 = some f__law_pack_lists := by kernel_rfl
theorem fn408 : pg.fns 408 = some f__law_only := by kernel_rfl
theorem fn409 : pg.fns 409 = some f__law_right := by kernel_rfl
theorem fn410 : pg.fns 410 = some f__law_refused_410 := by kernel_rfl
theorem fn411 : pg.fns 411 = some f__law_strange := by kernel_rfl
theorem fn412 : pg.fns 412 = some f__law_ring := by kernel_rfl
theorem fn413 : pg.fns 413 = some f__law_round := by kernel_rfl
theorem fn414 : pg.fns 414 = some f_law_414 := by kernel_rfl
theorem w_1__law_next {ns : List Int} (hl : ns.length ≤ 63) (k : Nat) : S_next ns ((envL pg (k + 1)).fn 1) := by
  have e := fn_eq fn1 (k + 0)
  rw [show k + 0 + 1 = k + 1 from rfl] at e
  rw [e]
  exact k__law_next hl
theorem w_2__law_some_bits {ns : List Int} (hl : ns.length ≤ 63) (k : Nat) : S__law_some_bits ns ((envL pg (k + 2)).fn 405) := by
  have e := fn_eq fn405 (k + 1)
  rw [show k + 1 + 1 = k + 2 from rfl] at e
  rw [e]
  exact k__law_some_bits (w_1__law_next hl (k + 0))
theorem w_3__law_drawn_source {ns : List Int} (hl : ns.length ≤ 63) (k : Nat) : S__law_drawn_source ns ((envL pg (k + 2)).fn 406) := by
  have e := fn_eq fn406 (k + 1)
  rw [show k + 1 + 1 = k + 2 from rfl] at e
  rw [e]
  exact k__law_drawn_source (w_1__law_next hl (k + 0))
theorem w_4__law_pack_lists {ns : List Int} (hl : ns.length ≤ 63) (k : Nat) : S__law_pack_lists ns ((envL pg (k + 3)).fn 407) := by
  have e := fn_eq fn407 (k + 2)
  rw [show k + 2 + 1 = k + 3 from rfl] at e
  rw [e]
  exact k__law_pack_lists (w_1__law_next hl (k + 1)) (w_2__law_some_bits hl (k + 0)) (w_3__law_drawn_source hl (k + 0))
theorem w_5_is_number {ns : List Int} (hl : ns.length ≤ 63) (k : Nat) : S_is_number ((envL pg (k + 1)).fn 158) := by
  have e := fn_eq fn158 (k + 0)
  rw [show k + 0 + 1 = k + 1 from rfl] at e
  rw [e]
  exact k_is_number 
theorem w_6_source_fits {ns : List Int} (hl : ns.length ≤ 63) (k : Nat) : S_source_fits ((envL pg (k + 2)).fn 399) := by
  have e := fn_eq fn399 (k + 1)
  rw [show k + 1 + 1 = k + 2 from rfl] at e
  rw [e]
  exact k_source_fits (w_5_is_number hl (k + 0))
theorem w_7_sources_fit {ns : List Int} (hl : ns.length ≤ 63) (k : Nat) : S_sources_fit ((envL pg (k + 3)).fn 400) := by
  have e := fn_eq fn400 (k + 2)
  rw [show k + 2 + 1 = k + 3 from rfl] at e
  rw [e]
  exact k_sources_fit (w_6_source_fits hl (k + 0))
theorem w_8_power_of {ns : List Int} (hl : ns.length ≤ 63) (k : Nat) : S_power_of ((envL pg (k + 1)).fn 61) := by
  have e := fn_eq fn61 (k + 0)
  rw [show k + 0 + 1 = k + 1 from rfl] at e
  rw [e]
  exact k_power_of 
theorem w_9_block_fits {ns : List Int} (hl : ns.length ≤ 63) (k : Nat) : S_block_fits ((envL pg (k + 4)).fn 401) := by
  have e := fn_eq fn401 (k + 3)
  rw [show k + 3 + 1 = k + 4 from rfl] at e
  rw [e]
  exact k_block_fits (w_7_sources_fit hl (k + 0)) (w_5_is_number hl (k + 2)) (w_8_power_of hl (k + 2)) (by rw [env_glo]; kernel_rfl)
theorem w_10_at_once_order {ns : List Int} (hl : ns.length ≤ 63) (k : Nat) : S_at_once_order ((envL pg (k + 1)).fn 402) := by
  have e := fn_eq fn402 (k + 0)
  rw [show k + 0 + 1 = k + 1 from rfl] at e
  rw [e]
  exact k_at_once_order (by rw [env_wf]; rfl)
theorem w_11_blocks_order {ns : List Int} (hl : ns.length ≤ 63) (k : Nat) : S_blocks_order ((envL pg (k + 2)).fn 403) := by
  have e := fn_eq fn403 (k + 1)
  rw [show k + 1 + 1 = k + 2 from rfl] at e
  rw [e]
  exact k_blocks_order (w_10_at_once_order hl (k + 0))
theorem w_12_Pack_X_mk_init {ns : List Int} (hl : ns.length ≤ 63) (k : Nat) : S_Pack ((envL pg (k + 6)).nw 26 404) := by
  have e := nw_eq fn404 (k + 4) 26
  rw [show k + 4 + 2 = k + 6 from rfl] at e
  rw [e]
  exact k_Pack (w_9_block_fits hl (k + 0)) (w_7_sources_fit hl (k + 1)) (w_11_blocks_order hl (k + 2)) (by rw [env_na]; kernel_rfl) (by rw [env_na]; kernel_rfl) (by rw [env_na]; kernel_rfl)
theorem w_13_same8 {ns : List Int} (hl : ns.length ≤ 63) (k : Nat) : S_same 8 ((envL pg (k + 8)).fn 92) := fun d st h => gd_fn fn92 8 k d st h
theorem w_14__law_right {ns : List Int} (hl : ns.length ≤ 63) (k : Nat) : S__law_right ((envL pg (k + 9)).fn 409) := by
  have e := fn_eq fn409 (k + 8)
  rw [show k + 8 + 1 = k + 9 from rfl] at e
  rw [e]
  exact k__law_right (w_13_same8 hl (k + 0)) (by rw [env_na]; kernel_rfl) (by rw [env_na]; kernel_rfl) (by rw [env_na]; kernel_rfl) (by rw [env_sub]; kernel_rfl)
theorem w_15__law_strange {ns : List Int} (hl : ns.length ≤ 63) (k : Nat) : S__law_strange ((envL pg (k + 1)).fn 411) := by
  have e := fn_eq fn411 (k + 0)
  rw [show k + 0 + 1 = k + 1 from rfl] at e
  rw [e]
  exact k__law_strange 
theorem w_16_Pack_X_mk_init {ns : List Int} (hl : ns.length ≤ 63) (k : Nat) : S_Pack_er ((envL pg (k + 6)).nw 26 404) := by
  have e := nw_eq fn404 (k + 4) 26
  rw [show k + 4 + 2 = k + 6 from rfl] at e
  rw [e]
  exact k_Pack_er (w_9_block_fits hl (k + 0)) (w_7_sources_fit hl (k + 1)) (w_11_blocks_order hl (k + 2))
theorem w_17__law_only {ns : List Int} (hl : ns.length ≤ 63) (k : Nat) : S__law_only8 ((envL pg (k + 1)).fn 408) := by
  have e := fn_eq fn408 (k + 0)
  rw [show k + 0 + 1 = k + 1 from rfl] at e
  rw [e]
  exact k__law_only8 (by rw [env_sub]; kernel_rfl) (by rw [env_sub]; kernel_rfl) (by rw [env_sub]; kernel_rfl) (by rw [env_sub]; kernel_rfl) (by rw [env_sub]; kernel_rfl) (by rw [env_sub]; kernel_rfl) (by rw [env_sub]; kernel_rfl) (by rw [env_sub]; kernel_rfl) (by rw [env_sub]; kernel_rfl) (by rw [env_sub]; kernel_rfl) (by rw [env_sub]; kernel_rfl) (by rw [env_sub]; kernel_rfl)
theorem w_18__law_refused_410 {ns : List Int} (hl : ns.length ≤ 63) (k : Nat) : S__law_refused_410 ((envL pg (k + 7)).fn 410) := by
  have e := fn_eq fn410 (k + 6)
  rw [show k + 6 + 1 = k + 7 from rfl] at e
  rw [e]
  exact k__law_refused_410 (w_16_Pack_X_mk_init hl (k + 0)) (w_17__law_only hl (k + 5)) (by rw [env_sub]; kernel_rfl)
theorem w_19__law_ring {ns : List Int} (hl : ns.length ≤ 63) (k : Nat) : S__law_ring ((envL pg (k + 1)).fn 412) := by
  have e := fn_eq fn412 (k + 0)
  rw [show k + 0 + 1 = k + 1 from rfl] at e
  rw [e]
  exact k__law_ring 
theorem w_20__law_round {ns : List Int} (hl : ns.length ≤ 63) (k : Nat) : S__law_round ns ((envL pg (k + 10)).fn 413) := by
  have e := fn_eq fn413 (k + 9)
  rw [show k + 9 + 1 = k + 10 from rfl] at e
  rw [e]
  exact k__law_round (w_1__law_next hl (k + 8)) (w_4__law_pack_lists hl (k + 6)) (w_12_Pack_X_mk_init hl (k + 3)) (w_14__law_right hl (k + 0)) (w_15__law_strange hl (k + 8)) (w_18__law_refused_410 hl (k + 2)) (w_19__law_ring hl (k + 8)) (by rw [env_na]; kernel_rfl) (by rw [env_na]; kernel_rfl) (by rw [env_na]; kernel_rfl)
theorem lawB : LawB (hd.pg cn glo 1000000) 60 z_law_414.i := fun ns hl hb => by
  show ∃ st, fnB pg (envL pg 60) 414 _ [] = _
  rw [fn_call fn414]
  exact k_law_414 (X := envL pg 60) hl (w_20__law_round hl 50)
end K41
end PB

open PySem PySem.W PySem.Calls PyProof.Rows
theorem PySem.Challenge.cw_bitfloor_k41_packs_holds : PySem.Challenge.rw_bitfloor_k41_packs.Holds := by
  w_on; o_law
  refine HandSHeadRun.head_any (r := OpenLaw.row PySem.Challenge.rw_bitfloor_k41_packs) (q := view (OpenLaw.row PySem.Challenge.rw_bitfloor_k41_packs).prog [37]) (H := PB.hkOf PB.K41.hd) (ob := PB.obOf PB.K41.hd) (M := 4000) (loose := PB.K41.loose) (d := HandSHeadRun.topDef (OpenLaw.row PySem.Challenge.rw_bitfloor_k41_packs).prog 37) (kwd := []) (PB.obOf_eq PB.K41.hd)
    (by kernel_rfl) (fun s => by kernel_rfl) PB.K41.runs (by kernel_rfl) (by kernel_rfl) (by kernel_rfl) (by rfl) (by first | assumption | decide +kernel) (by decide +kernel) ⟨rfl, rfl, rfl, rfl, rfl, by decide +kernel⟩ ?hw ?hc
  case hw => w_witness2
  case hc =>
    exact PB.law_walk (x := "_law_script") (z := PB.K41.z_law_414) PB.K41.okT PB.K41.bds PB.K41.lawIn rfl (by kernel_rfl) ⟨rfl, by decide, by decide⟩ (by decide +kernel) rfl (by decide +kernel) PB.K41.lawB
